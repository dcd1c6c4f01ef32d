import PyProof.Rows.All
import Wide.All
import OpenK.AllK
import Wide.FinOn
import HandS.ForMost
import HandS.IsInst
import HandS.TupAny
import HandS.TupMul
import HandS.Deep
import HandS.Wide
import HandS.CallSlots
import HandS.Gcd
import KE.KTupSum
import KE.KIntText
import PyProof.StrOps2
import PyProof.FitsStr
import HandS.Text
import HandS.FStr
import KE.GoesMore
import HandS.More
import HandS.TryOnly
import HandS.Zip
import HandS.Conv
import HandS.WordsExc
import HandS.SortRule
import HandS.SortInts
import HandS.NamedTupSort
import HandS.ExcInit
import HandS.ExcField
import HandS.ExcIs
import HandS.Nested
import KE.KSuper
import KE.KExcSuper
import HandS.TryMany
import KE.KExcIs
import HandS.SetFor
import HandS.Defaults
import HandS.Head0
import HandS.Head1
import HandS.Head2
import HandS.HeadEnd
import HandS.HeadHook1
import HandS.HeadHook2
import HandS.HeadHook3
import PyProof.FitsReplace
import PyProof.Rows.StrFit
import HandS.Head3
import PySem.Challenge.RW_offerbook_k33_solve
set_option Elab.async false
set_option linter.all false
set_option maxRecDepth 100000
set_option maxHeartbeats 0
/-! PyI, part 1: a small interpreter over plain data, for the defs of a program whose lists are local. -/
namespace PyI
open PySem L2
/-- data: tuples and lists hold data; a list here is one that nobody changes any more -/
inductive D where
  | non | bl (b : Bool) | int (i : Int) | str (x : Str) | tup (xs : List D) | lst (xs : List D) | scr (ns : List Int)
  deriving Inhabited

inductive Res (α : Type) where
  | ok (a : α)
  | exc (c : Str) (vs : List D)
  | bad
namespace Res
@[simp, reducible] def bind {α β : Type} (r : Res α) (f : α → Res β) : Res β := match r with
  | .ok a => f a
  | .exc c vs => .exc c vs
  | .bad => .bad
end Res
instance : Monad Res where
  pure := Res.ok
  bind := Res.bind
@[simp] theorem ok_bind {α β : Type} (a : α) (f : α → Res β) : (Res.ok a >>= f) = f a := rfl
@[simp] theorem exc_bind {α β : Type} (c : Str) (vs : List D) (f : α → Res β) : ((Res.exc c vs : Res α) >>= f) = .exc c vs := rfl
@[simp] theorem bad_bind {α β : Type} (f : α → Res β) : ((Res.bad : Res α) >>= f) = .bad := rfl
@[simp] theorem pure_ok {α : Type} (a : α) : (pure a : Res α) = .ok a := rfl

/-- what a slot holds: a value; a list of its own -/
inductive C where
  | v (d : D) | o (xs : List D)
abbrev Env := List (Option C)

inductive Op where
  | add | sub | mul | fdiv | mod | pow
  deriving DecidableEq
inductive Cm where
  | eq | ne | lt | le | gt | ge | isN | notN | in_ | notIn
  deriving DecidableEq
inductive Bi where
  | len | abs | int | min | max | sum | all | any | tuple | list | sorted | str | gcd | lcm
  deriving DecidableEq
inductive Me where
  | upper | index | join | split | count
  deriving DecidableEq
inductive Tg where
  | nm (i : Nat) | tup (ts : List Tg)
mutual
inductive E where
  | var (i : Nat) | int (i : Int) | str (x : Str) | bl (b : Bool) | non | glob (x : Str)
  | op (o : Op) (a b : E) | neg (a : E)
  | not (a : E) | and (a b : E) | or (a b : E)
  | cmp (c : Cm) (a b : E) | chain (c c' : Cm) (a b d : E)
  | ife (c a b : E)
  | ix (a b : E) | sl (a : E) (lo hi : Op1)
  | tup (es : Es) | lst (es : Es)
  | comp (elt : E) (tg : Tg) (src : Src) (own : List Nat)
  | compIf (elt : E) (tg : Tg) (src : Src) (c : E) (own : List Nat)
  | comp2 (elt : E) (tg : Tg) (src : Src) (tg1 : Tg) (src1 : Src) (own vs1 : List Nat)
  | call (f : Str) (es : Es)
  | bi (b : Bi) (es : Es)
  | isi (a : E) (t : String)
  | find (a b : E)
  | me (m : Me) (a : E) (es : Es)
  | fs (es : Es)
  | par (i : Nat)
  | callF (f : Str) (es : Es)
  | dget (x : Str) (kvs : List (Str × Int)) (a b : E)
inductive Es where
  | nil | cons (e : E) (r : Es)
inductive Op1 where
  | no | so (e : E)
inductive Src where
  | seq (e : E) | rng1 (a : E) | rng2 (a b : E) | enum (e : E) | zip (a b : E)
end
mutual
/-- what an except clause may say: of the exception alone -/
inductive HE where
  | non | bl (b : Bool) | int (i : Int) | str (x : Str) | fld (f : Str) | isi (c : Str)
  | not (a : HE) | and (a b : HE) | or (a b : HE) | tup (es : HEs) | cne (i : Nat) (k : Int)
inductive HEs where
  | nil | cons (e : HE) (r : HEs)
end
inductive Hn where
  | ret (e : HE) | ife (c : HE) (a b : Hn) | mk (i : Nat) (es : HEs) (r : Hn) | mkA (i : Nat) (es : HEs) (r : Hn)
mutual
inductive S where
  | set (i : Nat) (e : E) | setT (ts : List Tg) (e : E) | setIx (i : Nat) (k e : E) | aug (i : Nat) (o : Op) (e : E)
  | setL (ts : List Tg) (e : E)
  | app (i : Nat) (e : E) | ext (i : Nat) (e : E) | ins (i : Nat) (k e : E)
  | exp (e : E) | ret (e : E) | retN | retO (i : Nat)
  | ife (c : E) (a b : Ss)
  | fr (tg : Tg) (src : Src) (b : Ss) | wh (c : E) (b : Ss)
  | brk | cont | pass | never
  | raise (c : Str) (es : Es)
  | tr (b : Ss) (c : Str) (i : Option Nat) (xs : List (Str × List Str)) (h : Hn)
inductive Ss where
  | nil | cons (s : S) (r : Ss)
end

/-! ### operations on data -/
mutual
def D.py : D → PyData
  | .non => .none
  | .bl b => .bool b
  | .int i => .int i
  | .str x => .str x
  | .tup xs => .tuple (D.pys xs)
  | .lst xs => .list (D.pys xs)
  | .scr ns => .list (ns.map PyData.int)
def D.pys : List D → List PyData
  | [] => []
  | d :: ds => d.py :: D.pys ds
end
theorem D.pys_eq (ds : List D) : D.pys ds = ds.map D.py := by
  induction ds with
  | nil => rfl
  | cons d r ih => simp only [D.pys, List.map_cons, ih]
def D.flat : D → Bool
  | .non => true | .bl _ => true | .int _ => true | .str _ => true
  | _ => false
mutual
/-- no list within -/
def D.still : D → Bool
  | .lst _ => false
  | .scr _ => false
  | .tup xs => D.stills xs
  | _ => true
def D.stills : List D → Bool
  | [] => true
  | d :: ds => d.still && D.stills ds
end
def D.shaped (d : D) : Bool := SeqAt.shaped d.py
def D.eqv (a b : D) : Bool := PyData.eqv a.py b.py
def D.ints : List D → Option (List Int)
  | [] => some []
  | .int i :: r => (D.ints r).map (i :: ·)
  | _ => none
def D.bls : List D → Option (List Bool)
  | [] => some []
  | .bl i :: r => (D.bls r).map (i :: ·)
  | _ => none
def D.strs : List D → Option (List Str)
  | [] => some []
  | .str i :: r => (D.strs r).map (i :: ·)
  | _ => none
def mulOk (i j : Int) : Prop := CMul i j ∨ i.natAbs.log2 + j.natAbs.log2 < 1000000
instance (i j : Int) : Decidable (mulOk i j) := by unfold mulOk CMul; infer_instance
def powOk (i j : Int) : Prop := CPow i j
instance (i j : Int) : Decidable (powOk i j) := by unfold powOk CPow; infer_instance
def opD : Op → D → D → Res D
  | .add, .int i, .int j => .ok (.int (i + j))
  | .add, .str x, .str y => if x.length + y.length ≤ sizeLine then .ok (.str (x ++ y)) else .bad
  | .add, .tup xs, .tup ys => if xs.length + ys.length ≤ sizeLine then .ok (.tup (xs ++ ys)) else .bad
  | .add, .lst xs, .lst ys => if xs.length + ys.length ≤ sizeLine then .ok (.lst (xs ++ ys)) else .bad
  | .sub, .int i, .int j => .ok (.int (i - j))
  | .mul, .int i, .int j => if mulOk i j then .ok (.int (i * j)) else .bad
  | .mul, .lst xs, .int k => if -(2 ^ 63) ≤ k ∧ k < 2 ^ 63 ∧ xs.length * k.toNat ≤ sizeLine then .ok (.lst (List.replicate k.toNat xs).flatten) else .bad
  | .mul, .tup xs, .int k => if (xs = [] ∧ -1000 ≤ k ∧ k ≤ 1000) ∨ (xs ≠ [] ∧ 1 ≤ k ∧ k ≤ 1000 ∧ xs.length ≤ 1000) then .ok (.tup (List.replicate k.toNat xs).flatten) else .bad
  | .mul, .str x, .int k => if -1000 ≤ k ∧ k ≤ 1000 ∧ x.length ≤ 1000 then .ok (.str ⟨(List.replicate k.toNat x.cps).foldl (· ++ ·) #[]⟩) else .bad
  | .fdiv, .int i, .int j => if 0 < j ∧ j.natAbs.log2 < 9000 then .ok (.int (i / j)) else if j < 0 ∧ j.natAbs.log2 < 9000 then .ok (.int (Int.fdiv i j)) else .bad
  | .mod, .int i, .int j => if 0 < j then .ok (.int (i % j)) else .bad
  | .pow, .int i, .int j => if powOk i j then .ok (.int (i ^ j.toNat)) else .bad
  | _, _, _ => .bad
def eqD (a b : D) : Res Bool := match a, b with
  | .int i, .int j => .ok (i == j)
  | .str i, .str j => .ok (decide (i = j))
  | .bl i, .bl j => .ok (i == j)
  | .non, .non => .ok true
  | a, b => if a.shaped && b.shaped then .ok (a.eqv b) else .bad
def isN : D → Bool
  | .non => true
  | _ => false
def inD (a b : D) : Res Bool := match b with
  | .lst ds => if (a.flat && ds.all D.flat) || (a.shaped && b.shaped) then .ok (ds.any fun z => z.eqv a) else .bad
  | .tup ds => if a.flat && ds.all D.flat then .ok (ds.any fun z => z.eqv a) else .bad
  | .str z => (match a with
    | .str x => if h : x.cps.size = 1 then .ok (decide (x.cps[0]'(by omega) ∈ z.cps.toList)) else .bad
    | _ => .bad)
  | _ => .bad
def cmD : Cm → D → D → Res D
  | .eq, a, b => (eqD a b) >>= fun r => .ok (.bl r)
  | .ne, a, b => (eqD a b) >>= fun r => .ok (.bl (!r))
  | .lt, .int i, .int j => .ok (.bl (decide (i < j)))
  | .le, .int i, .int j => .ok (.bl (decide (i ≤ j)))
  | .gt, .int i, .int j => .ok (.bl (decide (j < i)))
  | .ge, .int i, .int j => .ok (.bl (decide (j ≤ i)))
  | .lt, .tup xs, .tup ys => (match D.ints xs, D.ints ys with
    | some a, some b => .ok (.bl (HT.lexLt a b))
    | _, _ => .bad)
  | .isN, a, .non => .ok (.bl (isN a))
  | .notN, a, .non => .ok (.bl (!isN a))
  | .in_, a, b => (inD a b) >>= fun r => .ok (.bl r)
  | .notIn, a, b => (inD a b) >>= fun r => .ok (.bl (!r))
  | _, _, _ => .bad
def blD : D → Res Bool
  | .bl b => .ok b
  | _ => .bad
def ixD : D → D → Res D
  | .lst xs, .int i => (match atI xs i with
    | some d => .ok d
    | none => .bad)
  | .scr xs, .int i => (match atI xs i with
    | some d => .ok (.int d)
    | none => .bad)
  | .tup xs, .int i => (match atI xs i with
    | some d => .ok d
    | none => .bad)
  | .str z, .int i => if z.length ≤ sizeLine then (match atI z.cps.toList i with
    | some c => .ok (.str ⟨#[c]⟩)
    | none => .bad) else .bad
  | _, _ => .bad
/-- the items of xs[lo:hi] -/
def cutD (xs : List D) (lo hi : Option Int) : List D := (xs.drop (HT.sIx xs.length 0 lo)).take (HT.sIx xs.length xs.length hi - HT.sIx xs.length 0 lo)
def slD : D → Option Int → Option Int → Res D
  | .lst xs, lo, hi => .ok (.lst (cutD xs lo hi))
  | .tup xs, lo, hi => .ok (.tup (cutD xs lo hi))
  | .str z, lo, hi => if z.length ≤ sizeLine then .ok (.str (cutS z lo hi)) else .bad
  | _, _, _ => .bad
def strD : D → Res Str
  | .str x => .ok x
  | _ => .bad
def intD : D → Res Int
  | .int i => .ok i
  | _ => .bad
def lenD : D → Res Nat
  | .lst xs => .ok xs.length
  | .scr xs => .ok xs.length
  | .tup xs => .ok xs.length
  | .str x => if x.length ≤ sizeLine then .ok x.length else .bad
  | _ => .bad
def minL : Int → List Int → Int
  | m, [] => m
  | m, x :: r => minL (if x < m then x else m) r
def maxL : Int → List Int → Int
  | m, [] => m
  | m, x :: r => maxL (if m < x then x else m) r
/-- the items of tuples of ints, none empty -/
def D.rows : List D → Option (List (List Int))
  | [] => some []
  | .tup xs :: r => (match D.ints xs, D.rows r with
    | some (n :: ns), some rs => some ((n :: ns) :: rs)
    | _, _ => none)
  | _ => none
def insI (x : Int) : List Int → List Int
  | [] => [x]
  | y :: r => if y < x then y :: insI x r else x :: y :: r
def sortI (l : List Int) : List Int := l.foldr insI []
def insT (x : List Int) : List (List Int) → List (List Int)
  | [] => [x]
  | y :: r => if HT.lexLt y x = true then y :: insT x r else x :: y :: r
def sortT (l : List (List Int)) : List (List Int) := l.foldr insT []
def tupI (ns : List Int) : D := .tup (ns.map D.int)
def sortedD (xs : List D) : Res D := match D.ints xs with
  | some ns => .ok (.lst ((sortI ns).map D.int))
  | none => match D.rows xs with
    | some rs => .ok (.lst ((sortT rs).map tupI))
    | none => .bad
def biD : Bi → List D → Res D
  | .len, [d] => lenD d >>= fun n => .ok (.int n)
  | .abs, [.int i] => .ok (.int (if i < 0 then -i else i))
  | .int, [.int i] => .ok (.int i)
  | .int, [.bl b] => .ok (.int (if b then 1 else 0))
  | .int, [.str x] => if x.cps.toList ≠ [] ∧ x.length ≤ 640 ∧ (x.cps.toList.all fun c => decide (48 ≤ c) && decide (c ≤ 57)) = true then .ok (.int (NumText.digitsVal x.cps.toList : Nat)) else .bad
  | .str, [.int i] => if i.natAbs.log2 < 1920 then .ok (.str (Str.ofString (toString i))) else .bad
  | .min, [.int i, .int j] => .ok (.int (if j < i then j else i))
  | .max, [.int i, .int j] => .ok (.int (if i < j then j else i))
  | .min, [.lst xs] => (match D.ints xs with
    | some (x :: r) => .ok (.int (minL x r))
    | _ => .bad)
  | .max, [.lst xs] => (match D.ints xs with
    | some (x :: r) => .ok (.int (maxL x r))
    | _ => .bad)
  | .sum, [.lst xs] => (match D.ints xs with
    | some ns => .ok (.int ns.sum)
    | _ => .bad)
  | .sum, [.tup xs] => (match D.ints xs with
    | some ns => .ok (.int ns.sum)
    | _ => .bad)
  | .all, [.lst xs] => (match D.bls xs with
    | some bs => .ok (.bl (bs.all id))
    | _ => .bad)
  | .any, [.lst xs] => (match D.bls xs with
    | some bs => .ok (.bl (bs.any id))
    | _ => .bad)
  | .tuple, [.lst xs] => .ok (.tup xs)
  | .tuple, [.tup xs] => .ok (.tup xs)
  | .list, [.lst xs] => .ok (.lst xs)
  | .list, [.tup xs] => .ok (.lst xs)
  | .sorted, [.lst xs] => sortedD xs
  | .gcd, [.int i, .int j] => .ok (.int (Nat.gcd i.natAbs j.natAbs : Nat))
  | .lcm, [.int i, .int j] => if i.natAbs.log2 < 13000 ∧ j.natAbs.log2 < 13000 then .ok (.int (Nat.lcm i.natAbs j.natAbs : Nat)) else .bad
  | _, _ => .bad
def meT : Me → D → Res Unit
  | .upper, .str _ => .ok ()
  | .join, .str _ => .ok ()
  | .split, .str _ => .ok ()
  | .index, .lst _ => .ok ()
  | .count, .lst _ => .ok ()
  | _, _ => .bad
def idxS (x : Str) : List Str → Option Nat
  | [] => none
  | y :: r => if y = x then some 0 else (idxS x r).map (· + 1)
def meD : Me → D → List D → Res D
  | .upper, .str x, [] => if x.length ≤ 5592405 then .ok (.str (Txt.upper x)) else .bad
  | .index, .lst xs, [.str x] => (match D.strs xs with
    | some ys => (match idxS x ys with
      | some j => .ok (.int (j : Nat))
      | none => .bad)
    | none => .bad)
  | .join, .str x, [.lst xs] => (match D.strs xs with
    | some ys => if (ys.map (·.length)).sum + ys.length * x.length ≤ 16777216 then .ok (.str (Txt.join x ys)) else .bad
    | none => .bad)
  | .count, .lst xs, [d] => if xs.all D.flat && d.flat then .ok (.int (xs.countP fun z => z.eqv d : Nat)) else .bad
  | .split, .str x, [.str y] => if (y.length == 0) = false ∧ x.length + 2 ≤ sizeLine then .ok (.lst ((Txt.split x y).map D.str)) else .bad
  | _, _, _ => .bad
/-- a part of an f-string -/
def fmtD : D → Res Str
  | .str y => if y.length ≤ sizeLine then .ok y else .bad
  | .int i => if i.natAbs.log2 < 1920 then .ok (Str.ofString (toString i)) else .bad
  | _ => .bad
/-- isinstance(d, T) for a built-in T -/
def D.ty : D → String
  | .non => "NoneType" | .bl _ => "bool" | .int _ => "int" | .str _ => "str" | .tup _ => "tuple" | .lst _ => "list" | .scr _ => "list"
def isiD (d : D) (t : String) : Res D := match kitB d.ty t with
  | some b => .ok (.bl b)
  | none => .bad
/-! ### slots -/
def getV (σ : Env) (i : Nat) : Res D := match σ[i]? with
  | some (some (.v d)) => .ok d
  | some (some (.o xs)) => .ok (.lst xs)
  | _ => .bad
/-- of a slot that holds no list of its own -/
def getP (σ : Env) (i : Nat) : Res D := match σ[i]? with
  | some (some (.v d)) => .ok d
  | _ => .bad
def setV (σ : Env) (i : Nat) (d : D) : Res Env := if i < σ.length then .ok (σ.set i (some (.v d))) else .bad
def wipeD (σ : Env) : List Nat → Env
  | [] => σ
  | i :: r => (wipeD σ r).set i none
mutual
def asg : Tg → D → Env → Res Env
  | .nm i, d, σ => setV σ i d
  | .tup ts, .tup ds, σ => asgs ts ds σ
  | .tup _, _, _ => .bad
def asgs : List Tg → List D → Env → Res Env
  | [], [], σ => .ok σ
  | t :: ts, d :: ds, σ => asg t d σ >>= fun σ1 => asgs ts ds σ1
  | _, _, _ => .bad
end
/-- a list of its own becomes one that nobody changes -/
def freeze (σ : Env) : List Nat → Env
  | [] => σ
  | i :: r => let σ1 := freeze σ r; match σ1[i]? with
    | some (some (.o xs)) => σ1.set i (some (.v (.lst xs)))
    | _ => σ1
/-! ### which lists of its own a value may hold: at its top, within -/
mutual
def lt : E → List Nat
  | .var i => [i]
  | .ife _ a b => lt a ++ lt b
  | .and a b => lt a ++ lt b
  | .or a b => lt a ++ lt b
  | .ix a _ => li a
  | .call _ es => las es
  | _ => []
def li : E → List Nat
  | .op _ a b => li a ++ li b
  | .and a b => li a ++ li b
  | .or a b => li a ++ li b
  | .ife _ a b => li a ++ li b
  | .ix a _ => li a
  | .sl a _ _ => li a
  | .tup es => las es
  | .lst es => las es
  | .comp elt _ _ _ => lt elt ++ li elt
  | .compIf elt _ _ _ _ => lt elt ++ li elt
  | .comp2 elt _ _ _ _ _ _ => lt elt ++ li elt
  | .call _ es => las es
  | .callF _ es => las es
  | .bi _ es => lis es
  | _ => []
def las : Es → List Nat
  | .nil => []
  | .cons e r => lt e ++ li e ++ las r
def lis : Es → List Nat
  | .nil => []
  | .cons e r => li e ++ lis r
end
def liS : Src → List Nat
  | .seq e => li e
  | .enum e => li e
  | .zip a b => li a ++ li b
  | _ => []
def ltS : Src → List Nat
  | .seq e => lt e
  | .enum e => lt e
  | .zip a b => lt a ++ lt b
  | _ => []
/-! ### the walk over a source -/
def itemsD : D → Res (List D)
  | .lst ds => .ok ds
  | .scr ns => .ok (ns.map D.int)
  | .tup ds => .ok ds
  | .str x => .ok (x.cps.toList.map fun c => .str ⟨#[c]⟩)
  | _ => .bad
def enumI : D → Res (List D)
  | .lst ds => .ok ds
  | .tup ds => .ok ds
  | _ => .bad
def zipI : D → D → Res (List D × List D)
  | .lst xs, .lst ys => .ok (xs, ys)
  | .tup xs, .tup ys => .ok (xs, ys)
  | _, _ => .bad
def enumD : Nat → List D → List D
  | _, [] => []
  | i, d :: r => .tup [.int (i : Nat), d] :: enumD (i + 1) r
def zipD : List D → List D → List D
  | a :: r, b :: s => .tup [a, b] :: zipD r s
  | _, _ => []
def rngD (a b : Int) : Res (List D) := if -(2 ^ 62) ≤ a ∧ a < 2 ^ 62 ∧ -(2 ^ 62) ≤ b ∧ b < 2 ^ 62 then .ok ((List.range (b - a).toNat).map fun i => .int (a + (i : Nat))) else .bad
/-- within a comprehension nothing is raised -/
def nox {α : Type} (r : Res α) : Res α := match r with
  | .ok a => .ok a
  | _ => .bad
@[simp] theorem nox_ok {α : Type} (a : α) : nox (Res.ok a) = .ok a := rfl
@[simp] theorem nox_bad {α : Type} : nox (Res.bad : Res α) = .bad := rfl
/-- get of a written dict -/
def getK (kvs : List (Str × Int)) : D → D → Res D
  | .str z, .int j => .ok (.int ((kvs.lookup z).getD j))
  | _, _ => .bad
def mapR (f : D → Res (Option D)) : List D → Res (List D)
  | [] => .ok []
  | d :: r => f d >>= fun o => mapR f r >>= fun ds => match o with
    | some x => .ok (x :: ds)
    | none => .ok ds
def flatR (f : D → Res (List D)) : List D → Res (List D)
  | [] => .ok []
  | d :: r => f d >>= fun xs => flatR f r >>= fun ds => .ok (xs ++ ds)
section
variable (G : Str → Option D) (Φ : Str → List D → Res D)
mutual
def ev : E → Env → Res D
  | .var i, σ => getV σ i
  | .par i, σ => getP σ i
  | .int i, _ => .ok (.int i)
  | .str x, _ => .ok (.str x)
  | .bl b, _ => .ok (.bl b)
  | .non, _ => .ok .non
  | .glob x, _ => (match G x with
    | some d => .ok d
    | none => .bad)
  | .op o a b, σ => ev a σ >>= fun x => ev b σ >>= fun y => opD o x y
  | .neg a, σ => ev a σ >>= fun x => intD x >>= fun i => .ok (.int (-i))
  | .not a, σ => ev a σ >>= fun x => blD x >>= fun b => .ok (.bl (!b))
  | .and a b, σ => ev a σ >>= fun x => blD x >>= fun c => if c then ev b σ else .ok (.bl false)
  | .or a b, σ => ev a σ >>= fun x => blD x >>= fun c => if c then .ok (.bl true) else ev b σ
  | .cmp c a b, σ => ev a σ >>= fun x => ev b σ >>= fun y => cmD c x y
  | .chain c c' a b d, σ => ev a σ >>= fun x => ev b σ >>= fun y => cmD c x y >>= fun z => blD z >>= fun k => if k then ev d σ >>= fun w => cmD c' y w else .ok (.bl false)
  | .ife c a b, σ => ev c σ >>= fun x => blD x >>= fun k => if k then ev a σ else ev b σ
  | .ix a b, σ => ev a σ >>= fun x => ev b σ >>= fun y => ixD x y
  | .sl a lo hi, σ => ev a σ >>= fun x => evo lo σ >>= fun l => evo hi σ >>= fun h => slD x l h
  | .tup es, σ => evs es σ >>= fun ds => .ok (.tup ds)
  | .lst es, σ => evs es σ >>= fun ds => .ok (.lst ds)
  | .comp elt tg src own, σ => evS src σ >>= fun items => mapR (fun x => nox (asg tg x (wipeD σ own) >>= fun σ2 => ev elt σ2 >>= fun y => .ok (some y))) items >>= fun ds => if ds.length ≤ sizeLine then .ok (.lst ds) else .bad
  | .compIf elt tg src c own, σ => evS src σ >>= fun items => mapR (fun x => nox (asg tg x (wipeD σ own) >>= fun σ2 => ev c σ2 >>= fun t => blD t >>= fun k => if k then ev elt σ2 >>= fun y => .ok (some y) else .ok none)) items >>= fun ds => if ds.length ≤ sizeLine then .ok (.lst ds) else .bad
  | .comp2 elt tg src tg1 src1 own vs1, σ => evS src σ >>= fun items => flatR (fun x => nox (asg tg x (wipeD σ own) >>= fun σ2 => evS src1 σ2 >>= fun items1 => mapR (fun x1 => nox (asg tg1 x1 (wipeD σ2 vs1) >>= fun σ3 => ev elt σ3 >>= fun y => .ok (some y))) items1)) items >>= fun ds => if ds.length ≤ sizeLine then .ok (.lst ds) else .bad
  | .call f es, σ => evs es σ >>= fun ds => Φ f ds
  | .callF f es, σ => evs es σ >>= fun ds => Φ f ds
  | .bi b es, σ => evs es σ >>= fun ds => biD b ds
  | .isi a t, σ => ev a σ >>= fun x => isiD x t
  | .dget _ kvs a b, σ => ev a σ >>= fun x => ev b σ >>= fun y => getK kvs x y
  | .find a b, σ => ev a σ >>= fun x => strD x >>= fun s => ev b σ >>= fun y => strD y >>= fun t => .ok (.int (Txt.find s t))
  | .me m a es, σ => ev a σ >>= fun x => meT m x >>= fun _ => evs es σ >>= fun ds => meD m x ds
  | .fs es, σ => evf es Str.empty σ >>= fun out => .ok (.str out)
def evf : Es → Str → Env → Res Str
  | .nil, acc, _ => .ok acc
  | .cons e r, acc, σ => ev e σ >>= fun d => fmtD d >>= fun y => if (acc ++ y).length ≤ sizeLine then evf r (acc ++ y) σ else .bad
def evs : Es → Env → Res (List D)
  | .nil, _ => .ok []
  | .cons e r, σ => ev e σ >>= fun d => evs r σ >>= fun ds => .ok (d :: ds)
def evo : Op1 → Env → Res (Option Int)
  | .no, _ => .ok none
  | .so e, σ => ev e σ >>= fun x => intD x >>= fun i => .ok (some i)
def evS : Src → Env → Res (List D)
  | .seq e, σ => ev e σ >>= fun x => itemsD x
  | .rng1 a, σ => ev a σ >>= fun x => intD x >>= fun i => rngD 0 i
  | .rng2 a b, σ => ev a σ >>= fun x => ev b σ >>= fun y => intD x >>= fun i => intD y >>= fun j => rngD i j
  | .enum e, σ => ev e σ >>= fun x => enumI x >>= fun ds => .ok (enumD 0 ds)
  | .zip a b, σ => ev a σ >>= fun x => ev b σ >>= fun y => zipI x y >>= fun p => .ok (zipD p.1 p.2)
end
end
/-! ### statements -/
inductive Out where
  | nx (σ : Env) | rt (d : D) | bk (σ : Env) | ct (σ : Env) | exc (c : Str) (vs : List D) | bad
def Res.out {α : Type} (r : Res α) (f : α → Out) : Out := match r with
  | .ok a => f a
  | .exc c vs => .exc c vs
  | .bad => .bad
@[simp] theorem ok_out {α : Type} (a : α) (f : α → Out) : (Res.ok a).out f = f a := rfl
@[simp] theorem exc_out {α : Type} (c : Str) (vs : List D) (f : α → Out) : (Res.exc c vs : Res α).out f = .exc c vs := rfl
@[simp] theorem bad_out {α : Type} (f : α → Out) : (Res.bad : Res α).out f = .bad := rfl
def forL (g : D → Env → Res Env) (f : Env → Out) : List D → Env → Out
  | [], σ => .nx σ
  | d :: r, σ => (g d σ).out fun σ1 => match f σ1 with
    | .nx σ2 => forL g f r σ2
    | .ct σ2 => forL g f r σ2
    | .bk σ2 => .nx σ2
    | o => o
def whL (c : Env → Res D) (f : Env → Out) : Nat → Env → Out
  | 0, _ => .bad
  | n + 1, σ => (c σ >>= blD).out fun k => if k then (match f σ with
    | .nx σ2 => whL c f n σ2
    | .ct σ2 => whL c f n σ2
    | .bk σ2 => .nx σ2
    | o => o) else .nx σ
/-- a list that the expression has just made -/
def fresh : E → Bool
  | .lst _ => true
  | .comp .. => true
  | .compIf .. => true
  | .comp2 .. => true
  | .op _ _ _ => true
  | .sl _ _ _ => true
  | .bi .list _ => true
  | .bi .sorted _ => true
  | .callF _ _ => true
  | _ => false
/-- a value that is kept: the lists that it may hold are frozen -/
def keepL (σ : Env) (d : D) (l : List Nat) : Env := if d.still then σ else freeze σ l
def setE (σ : Env) (i : Nat) (e : E) (d : D) : Res Env := if i < σ.length then (match fresh e, d with
  | true, .lst ds => .ok ((freeze σ (li e)).set i (some (.o ds)))
  | _, d => .ok ((keepL σ d (lt e ++ li e)).set i (some (.v d)))) else .bad
/-! ### except clauses -/
/-- one level of own classes below OfferError, itself below ValueError -/
def subX (x c : Str) : Bool := decide (x = c) || (decide (c = ("OfferError" : Str)) || decide (c = ("ValueError" : Str)))
def fldD : List Str → List D → Str → Res D
  | f :: fl, d :: ds, g => if f = g then .ok d else fldD fl ds g
  | _, _, _ => .bad
section
variable (xs : List (Str × List Str)) (x : Str) (ds : List D)
section
variable (mk : List (Nat × List Bool))
mutual
def heD : HE → Res D
  | .non => .ok .non
  | .bl b => .ok (.bl b)
  | .int i => .ok (.int i)
  | .str z => .ok (.str z)
  | .fld f => (match xs.lookup x with
    | some fl => fldD fl ds f
    | none => .bad)
  | .isi c => .ok (.bl (subX x c))
  | .cne i k => (match mk.lookup i with
    | some bs => .ok (.bl (!decide (((bs.count true : Nat) : Int) = k)))
    | none => .bad)
  | .not a => (match heD a with
    | .ok (.bl b) => .ok (.bl (!b))
    | _ => .bad)
  | .and a b => (match heD a with
    | .ok (.bl k) => if k then heD b else .ok (.bl false)
    | _ => .bad)
  | .or a b => (match heD a with
    | .ok (.bl k) => if k then .ok (.bl true) else heD b
    | _ => .bad)
  | .tup es => (match hesD es with
    | .ok es => .ok (.tup es)
    | _ => .bad)
def hesD : HEs → Res (List D)
  | .nil => .ok []
  | .cons e r => (match heD e with
    | .ok d => (match hesD r with
      | .ok es => .ok (d :: es)
      | _ => .bad)
    | _ => .bad)
end
end
def hnD : Hn → List (Nat × List Bool) → Res D
  | .ret e, mk => heD xs x ds mk e
  | .ife c a b, mk => (match heD xs x ds mk c with
    | .ok (.bl k) => if k then hnD a mk else hnD b mk
    | _ => .bad)
  | .mk i es r, mk => (match hesD xs x ds mk es with
    | .ok vs => (match D.bls vs with
      | some bs => hnD r ((i, bs) :: mk)
      | none => .bad)
    | _ => .bad)
  | .mkA i es r, mk => (match mk.lookup i with
    | some b0 => (match hesD xs x ds mk es with
      | .ok vs => (match D.bls vs with
        | some bs => if b0.length + bs.length ≤ sizeLine then hnD r ((i, b0 ++ bs) :: mk) else .bad
        | none => .bad)
      | _ => .bad)
    | none => .bad)
end
/-- a try's body that ends so, and the clause -/
def trO (xs : List (Str × List Str)) (c : Str) (h : Hn) : Out → Out
  | .exc x ds => if (xs.lookup x).isSome then (if subX x c then (match hnD xs x ds h [] with
    | .ok d => .rt d
    | _ => .bad) else .exc x ds) else .bad
  | o => o
def lstD : D → Res (List D)
  | .lst ds => .ok ds
  | _ => .bad
def ownL (σ : Env) (i : Nat) : Res (List D) := match σ[i]? with
  | some (some (.o xs)) => .ok xs
  | _ => .bad
section
variable (G : Str → Option D) (Φ : Str → List D → Res D) (fu : Nat)
mutual
def exS : S → Env → Out
  | .set i e, σ => (ev G Φ e σ).out fun d => (setE σ i e d).out fun σ1 => .nx σ1
  | .setT ts e, σ => (ev G Φ e σ).out fun d => (asg (.tup ts) d (keepL σ d (lt e ++ li e))).out fun σ1 => .nx σ1
  | .setL ts e, σ => (ev G Φ e σ).out fun d => (lstD d).out fun ds => (asgs ts ds (keepL σ d (lt e ++ li e))).out fun σ1 => .nx σ1
  | .setIx i k e, σ => (ev G Φ e σ).out fun d => (ownL σ i).out fun _ => (ev G Φ k σ >>= intD).out fun n => (ownL (keepL σ d (lt e ++ li e)) i).out fun xs => (match ixN xs.length n with
    | some j => .nx ((keepL σ d (lt e ++ li e)).set i (some (.o (xs.set j d))))
    | none => .bad)
  | .aug i o e, σ => (getV σ i).out fun x => (ev G Φ e σ).out fun y => (match o, x, y with
    | .add, .int a, .int b => .nx (σ.set i (some (.v (.int (a + b)))))
    | .sub, .int a, .int b => .nx (σ.set i (some (.v (.int (a - b)))))
    | _, _, _ => .bad)
  | .app i e, σ => (ownL σ i).out fun _ => (ev G Φ e σ).out fun d => (ownL (keepL σ d (lt e ++ li e)) i).out fun xs => if xs.length < sizeLine then .nx ((keepL σ d (lt e ++ li e)).set i (some (.o (xs ++ [d])))) else .bad
  | .ext i e, σ => (ownL σ i).out fun _ => (ev G Φ e σ).out fun d => (lstD d).out fun ds => (ownL (freeze σ (li e)) i).out fun xs => if xs.length + ds.length ≤ sizeLine then .nx ((freeze σ (li e)).set i (some (.o (xs ++ ds)))) else .bad
  | .ins i k e, σ => (ownL σ i).out fun _ => (ev G Φ k σ >>= intD).out fun n => (ev G Φ e σ).out fun d => (ownL (keepL σ d (lt e ++ li e)) i).out fun xs => if xs.length < sizeLine ∧ 0 ≤ n ∧ n < 2 ^ 63 then .nx ((keepL σ d (lt e ++ li e)).set i (some (.o (xs.take n.toNat ++ [d] ++ xs.drop n.toNat)))) else .bad
  | .exp e, σ => (ev G Φ e σ).out fun _ => .nx σ
  | .ret e, σ => (ev G Φ e σ).out fun d => .rt d
  | .retN, _ => .rt .non
  | .retO i, σ => (ownL σ i).out fun xs => .rt (.lst xs)
  | .ife c a b, σ => (ev G Φ c σ >>= blD).out fun k => if k then exL a σ else exL b σ
  | .fr tg src b, σ => (evS G Φ src σ).out fun items => forL (asg tg) (exL b) items (freeze σ (ltS src ++ liS src))
  | .wh c b, σ => whL (ev G Φ c) (exL b) fu σ
  | .brk, σ => .bk σ
  | .cont, σ => .ct σ
  | .pass, σ => .nx σ
  | .never, _ => .bad
  | .raise c es, σ => (evs G Φ es σ).out fun ds => .exc c ds
  | .tr b c _ xs h, σ => trO xs c h (exL b σ)
def exL : Ss → Env → Out
  | .nil, σ => .nx σ
  | .cons s r, σ => match exS s σ with
    | .nx σ1 => exL r σ1
    | o => o
end
end
/-- a def: how many parameters, how many names, its body -/
structure Fn where
  ar : Nat
  n : Nat
  body : Ss
def enter (n : Nat) (ds : List D) : Env := ds.map (fun d => some (.v d)) ++ List.replicate (n - ds.length) none
def callB (G : Str → Option D) (Φ : Str → List D → Res D) (fu : Nat) (f : Fn) (ds : List D) : Res D :=
  if ds.length = f.ar then (match exL G Φ fu f.body (enter f.n ds) with
    | .rt d => .ok d
    | .nx _ => .ok .non
    | .exc c vs => .exc c vs
    | _ => .bad) else .bad
structure Prg where
  G : Str → Option D
  fs : Str → Option Fn
  fu : Nat
def Prg.call (p : Prg) : Nat → Str → List D → Res D
  | 0, _, _ => .bad
  | n + 1, f, ds => match p.fs f with
    | some fn => callB p.G (p.call n) p.fu fn ds
    | none => .bad
end PyI
/-! PyI, part 2: data in a heap; a state of the interpreter over a state of the machine. -/
namespace PyI
open PySem L2
/-- the script: tracked, locked, or of the written part -/
def ScrAt (K : PySem.W.Frag) (F : Addr → Prop) (H : Hp) (a : Addr) (xs : List V) : Prop := (H a = some (.lst xs) ∧ ¬ F a) ∨ (∃ o, H a = some (.frz o (.lst xs))) ∨
  ∃ (o : Obj) (its : Array Value) (n : Nat), K.lookup a = some o ∧ o.cls = .type "list" ∧ o.dict = none ∧ o.data = .seq its n ∧ its.size ≤ sizeLine ∧ Vals xs its.toList
theorem ScrAt.seq {K : PySem.W.Frag} {F : Addr → Prop} {H : Hp} {a : Addr} {xs : List V} (h : ScrAt K F H a xs) : SqL K H a xs := by
  rcases h with ⟨h, _⟩ | ⟨o, h⟩ | h
  · exact .inl (.inl h)
  · exact .inl (.inr ⟨o, h⟩)
  · exact .inr h
section
variable (K : PySem.W.Frag) (H : Hp)
mutual
/-- the value stands for the data; no list of it is one of F, none holds itself -/
def RepF : (Addr → Prop) → D → V → Prop
  | _, .non, v => v = .non
  | _, .bl b, v => v = .bl b
  | _, .int i, v => v = .int i
  | _, .str x, v => v = .str x
  | F, .tup ds, v => ∃ a vs, v = .ref a ∧ SqT K H a vs ∧ RepFL F ds vs
  | F, .lst ds, v => ∃ a vs, v = .ref a ∧ H a = some (.lst vs) ∧ ¬ F a ∧ RepFL (fun b => F b ∨ b = a) ds vs
  | F, .scr ns, v => ∃ a, v = .ref a ∧ ScrAt K F H a (ns.map V.int)
def RepFL : (Addr → Prop) → List D → List V → Prop
  | _, [], vs => vs = []
  | F, d :: ds, vs => ∃ v r, vs = v :: r ∧ RepF F d v ∧ RepFL F ds r
end
end
abbrev Rep (K : PySem.W.Frag) (F : Addr → Prop) (H : Hp) (d : D) (v : V) : Prop := RepF K H F d v
abbrev RepL (K : PySem.W.Frag) (F : Addr → Prop) (H : Hp) (ds : List D) (vs : List V) : Prop := RepFL K H F ds vs
/-- .. at its top none of F1, within none of F2 -/
def RepT (K : PySem.W.Frag) (F1 F2 : Addr → Prop) (H : Hp) : D → V → Prop
  | .lst ds, v => ∃ a vs, v = .ref a ∧ H a = some (.lst vs) ∧ ¬ F1 a ∧ RepL K (fun b => F2 b ∨ b = a) H ds vs
  | d, v => Rep K F2 H d v
abbrev NoF : Addr → Prop := fun _ => False
section
variable {K : PySem.W.Frag} {F F' F1 F1' F2 F2' : Addr → Prop} {H H' : Hp} {d : D} {ds es : List D} {v : V} {vs ws : List V}
theorem RepF.t (h : Rep K F H d v) : RepT K F F H d v := by
  cases d <;> simpa [RepT, RepF] using h
theorem RepT.rep (h : RepT K F F H d v) : Rep K F H d v := by
  cases d <;> simpa [RepT, RepF] using h
theorem same_sqT (s : Same H H') {a : Addr} (h : SqT K H a vs) : SqT K H' a vs := by
  rcases h with (h | ⟨o, h⟩) | h
  · exact .inl (.inl (s _ _ h))
  · exact .inl (.inr ⟨o, s _ _ h⟩)
  · exact .inr h
/-- what stands away from F is kept; tuples and locked things too -/
def Kept (F : Addr → Prop) (H H' : Hp) : Prop := ∀ a o, H a = some o → (¬ F a ∨ ¬ ∃ xs, o = .lst xs) → H' a = some o
theorem same_kept (s : Same H H') : Kept F H H' := fun a o h _ => s a o h
theorem Kept.sqT (k : Kept F H H') {a : Addr} (h : SqT K H a vs) : SqT K H' a vs := by
  rcases h with (h | ⟨o, h⟩) | h
  · exact .inl (.inl (k _ _ h (.inr fun ⟨_, z⟩ => nomatch z)))
  · exact .inl (.inr ⟨o, k _ _ h (.inr fun ⟨_, z⟩ => nomatch z)⟩)
  · exact .inr h
theorem Kept.sqL (k : Kept F H H') {a : Addr} (n : ¬ F a) (h : SqL K H a vs) : SqL K H' a vs := by
  rcases h with (h | ⟨o, h⟩) | h
  · exact .inl (.inl (k _ _ h (.inl n)))
  · exact .inl (.inr ⟨o, k _ _ h (.inl n)⟩)
  · exact .inr h
mutual
theorem RepF.kept : ∀ (d : D) {F F' : Addr → Prop} (v : V), Kept F H H' → (∀ a, F' a → F a) → Rep K F H d v → Rep K F' H' d v
  | .non, _, _, v, k, w, h => h
  | .bl _, _, _, v, k, w, h => h
  | .int _, _, _, v, k, w, h => h
  | .str _, _, _, v, k, w, h => h
  | .tup ds, _, _, v, k, w, h => by
    obtain ⟨a, vs, e, hs, hl⟩ := h
    exact ⟨a, vs, e, k.sqT hs, RepFL.kept ds vs k w hl⟩
  | .lst ds, _, _, v, k, w, h => by
    obtain ⟨a, vs, e, hs, n, hl⟩ := h
    exact ⟨a, vs, e, k _ _ hs (.inl n), fun z => n (w a z), RepFL.kept ds vs (fun b o e z => k b o e (z.imp (fun y x => y (.inl x)) id)) (fun b z => z.imp (w b) id) hl⟩
  | .scr ns, _, _, v, k, w, h => by
    obtain ⟨a, e, hs⟩ := h
    refine ⟨a, e, ?_⟩
    rcases hs with ⟨h, n⟩ | ⟨o, h⟩ | h
    · exact .inl ⟨k _ _ h (.inl n), fun z => n (w a z)⟩
    · exact .inr (.inl ⟨o, k _ _ h (.inr fun ⟨_, z⟩ => nomatch z)⟩)
    · exact .inr (.inr h)
theorem RepFL.kept : ∀ (ds : List D) {F F' : Addr → Prop} (vs : List V), Kept F H H' → (∀ a, F' a → F a) → RepL K F H ds vs → RepL K F' H' ds vs
  | [], _, _, vs, k, w, h => h
  | d :: ds, _, _, vs, k, w, h => by
    obtain ⟨v, r, e, h1, h2⟩ := h
    exact ⟨v, r, e, RepF.kept d v k w h1, RepFL.kept ds r k w h2⟩
end
theorem RepF.same (s : Same H H') (h : Rep K F H d v) : Rep K F H' d v := RepF.kept d v (same_kept s) (fun _ z => z) h
theorem RepFL.same (s : Same H H') (h : RepL K F H ds vs) : RepL K F H' ds vs := RepFL.kept ds vs (same_kept s) (fun _ z => z) h
theorem RepF.weak (w : ∀ a, F' a → F a) (h : Rep K F H d v) : Rep K F' H d v := RepF.kept d v (same_kept (Same.refl H)) w h
theorem RepFL.weak (w : ∀ a, F' a → F a) (h : RepL K F H ds vs) : RepL K F' H ds vs := RepFL.kept ds vs (same_kept (Same.refl H)) w h
theorem RepT.same (s : Same H H') (h : RepT K F1 F2 H d v) : RepT K F1 F2 H' d v := by
  cases d with
  | lst ds =>
    obtain ⟨a, vs, e, hs, n, hl⟩ := h
    exact ⟨a, vs, e, s _ _ hs, n, RepFL.same s hl⟩
  | _ => exact RepF.same s (show Rep K F2 H _ v from h)
theorem RepT.weak (w1 : ∀ a, F1' a → F1 a) (w2 : ∀ a, F2' a → F2 a) (h : RepT K F1 F2 H d v) : RepT K F1' F2' H d v := by
  cases d with
  | lst ds =>
    obtain ⟨a, vs, e, hs, n, hl⟩ := h
    exact ⟨a, vs, e, hs, fun z => n (w1 a z), RepFL.weak (fun b z => z.imp (w2 b) id) hl⟩
  | _ => exact RepF.weak w2 (show Rep K F2 H _ v from h)
mutual
theorem RepF.still_any : ∀ (d : D) (v : V), d.still = true → Rep K F H d v → Rep K F' H d v
  | .non, v, _, h => h
  | .bl _, v, _, h => h
  | .int _, v, _, h => h
  | .str _, v, _, h => h
  | .tup ds, v, s, h => by
    obtain ⟨a, vs, e, hs, hl⟩ := h
    exact ⟨a, vs, e, hs, RepFL.still_any ds vs s hl⟩
  | .lst ds, v, s, h => by cases s
  | .scr ds, v, s, h => by cases s
theorem RepFL.still_any : ∀ (ds : List D) (vs : List V), D.stills ds = true → RepL K F H ds vs → RepL K F' H ds vs
  | [], vs, _, h => h
  | d :: ds, vs, s, h => by
    obtain ⟨v, r, e, h1, h2⟩ := h
    have s2 : (d.still && D.stills ds) = true := s
    rw [Bool.and_eq_true] at s2
    exact ⟨v, r, e, RepF.still_any d v s2.1 h1, RepFL.still_any ds r s2.2 h2⟩
end
theorem RepT.still_any (s : d.still = true) (h : RepT K F1 F2 H d v) : Rep K F' H d v := by
  cases d with
  | lst ds => cases s
  | _ => exact RepF.still_any (F := F2) _ v s h
theorem dp_ints : ∀ ns : List Int, DpAll K H (ns.map V.int) (ns.map PyData.int)
  | [] => .nil
  | n :: r => .cons (.int n) (dp_ints r)
mutual
theorem RepF.dp : ∀ (d : D) {F : Addr → Prop} (v : V), Rep K F H d v → Dp K H v d.py
  | .non, _, v, h => by cases (show v = .non from h); exact .non
  | .bl b, _, v, h => by cases (show v = .bl b from h); exact .bl b
  | .int i, _, v, h => by cases (show v = .int i from h); exact .int i
  | .str x, _, v, h => by cases (show v = .str x from h); exact .str x
  | .tup ds, _, v, h => by
    obtain ⟨a, vs, rfl, hs, hl⟩ := h
    exact .tup hs (RepFL.dp ds vs hl)
  | .lst ds, _, v, h => by
    obtain ⟨a, vs, rfl, hs, n, hl⟩ := h
    exact .lst (SqL.of hs) (RepFL.dp ds vs hl)
  | .scr ns, _, v, h => by
    obtain ⟨a, rfl, hs⟩ := h
    exact .lst hs.seq (dp_ints ns)
theorem RepFL.dp : ∀ (ds : List D) {F : Addr → Prop} (vs : List V), RepL K F H ds vs → DpAll K H vs (D.pys ds)
  | [], _, vs, h => by cases (show vs = [] from h); exact .nil
  | d :: ds, _, vs, h => by
    obtain ⟨v, r, rfl, h1, h2⟩ := h
    exact .cons (RepF.dp d v h1) (RepFL.dp ds r h2)
end
theorem RepT.dp (h : RepT K F1 F2 H d v) : Dp K H v d.py := by
  cases d with
  | lst ds =>
    obtain ⟨a, vs, rfl, hs, n, hl⟩ := h
    exact .lst (SqL.of hs) (RepFL.dp ds vs hl)
  | _ => exact RepF.dp _ v (show Rep K F2 H _ v from h)
/-- a list opened -/
theorem RepT.un {ds : List D} (h : RepT K F1 F2 H (.lst ds) v) : ∃ a vs, v = .ref a ∧ H a = some (.lst vs) ∧ ¬ F1 a ∧ RepL K F2 H ds vs := by
  obtain ⟨a, vs, e, hs, n, hl⟩ := h
  exact ⟨a, vs, e, hs, n, RepFL.weak (fun b z => .inl z) hl⟩
theorem RepFL.length : ∀ {ds : List D} {vs : List V}, RepL K F H ds vs → ds.length = vs.length
  | [], _, h => by cases (show _ = [] from h); rfl
  | d :: ds, _, h => by
    obtain ⟨v, r, rfl, _, h2⟩ := h
    rw [List.length_cons, List.length_cons, RepFL.length h2]
theorem RepFL.get : ∀ {ds : List D} {vs : List V} {i : Nat} {d : D}, RepL K F H ds vs → ds[i]? = some d → ∃ v, vs[i]? = some v ∧ Rep K F H d v
  | [], _, _, _, _, e => by simp at e
  | d :: ds, _, 0, _, h, e => by
    obtain ⟨v, r, rfl, h1, _⟩ := h
    simp at e
    subst e
    exact ⟨v, rfl, h1⟩
  | d :: ds, _, i + 1, _, h, e => by
    obtain ⟨v, r, rfl, _, h2⟩ := h
    obtain ⟨w, h3, h4⟩ := RepFL.get h2 (by simpa using e)
    exact ⟨w, by simpa using h3, h4⟩
theorem RepFL.append : ∀ {ds : List D} {vs : List V}, RepL K F H ds vs → RepL K F H es ws → RepL K F H (ds ++ es) (vs ++ ws)
  | [], _, h, h' => by cases (show _ = [] from h); exact h'
  | d :: ds, _, h, h' => by
    obtain ⟨v, r, rfl, h1, h2⟩ := h
    exact ⟨v, r ++ ws, rfl, h1, h2.append h'⟩
theorem RepFL.take (n : Nat) : ∀ {ds : List D} {vs : List V}, RepL K F H ds vs → RepL K F H (ds.take n) (vs.take n) := by
  induction n with
  | zero => intro ds vs _; rfl
  | succ n ih =>
    intro ds vs h
    cases ds with
    | nil => cases (show vs = [] from h); rfl
    | cons d ds =>
      obtain ⟨v, r, rfl, h1, h2⟩ := h
      exact ⟨v, r.take n, rfl, h1, ih h2⟩
theorem RepFL.drop (n : Nat) : ∀ {ds : List D} {vs : List V}, RepL K F H ds vs → RepL K F H (ds.drop n) (vs.drop n) := by
  induction n with
  | zero => intro ds vs h; exact h
  | succ n ih =>
    intro ds vs h
    cases ds with
    | nil => cases (show vs = [] from h); rfl
    | cons d ds =>
      obtain ⟨v, r, rfl, h1, h2⟩ := h
      exact ih h2
theorem RepFL.set (n : Nat) (hd : Rep K F H d v) : ∀ {ds : List D} {vs : List V}, RepL K F H ds vs → RepL K F H (ds.set n d) (vs.set n v) := by
  induction n with
  | zero =>
    intro ds vs h
    cases ds with
    | nil => cases (show vs = [] from h); rfl
    | cons e ds =>
      obtain ⟨w, r, rfl, h1, h2⟩ := h
      exact ⟨v, r, rfl, hd, h2⟩
  | succ n ih =>
    intro ds vs h
    cases ds with
    | nil => cases (show vs = [] from h); rfl
    | cons e ds =>
      obtain ⟨w, r, rfl, h1, h2⟩ := h
      exact ⟨w, r.set n v, rfl, h1, ih h2⟩
theorem RepFL.rep (n : Nat) (h : RepL K F H ds vs) : RepL K F H (List.replicate n ds).flatten (List.replicate n vs).flatten := by
  induction n with
  | zero => rfl
  | succ n ih =>
    rw [List.replicate_succ, List.replicate_succ, List.flatten_cons, List.flatten_cons]
    exact h.append ih
theorem RepFL.one (h : Rep K F H d v) : RepL K F H [d] [v] := ⟨v, [], rfl, h, rfl⟩
theorem RepFL.of_get : ∀ {ds : List D} {vs : List V}, ds.length = vs.length → (∀ (i : Nat) (d : D) (v : V), ds[i]? = some d → vs[i]? = some v → Rep K F H d v) → RepL K F H ds vs
  | [], vs, h, _ => by
    cases vs with
    | nil => rfl
    | cons v r => simp at h
  | d :: ds, vs, h, hg => by
    cases vs with
    | nil => simp at h
    | cons v r => exact ⟨v, r, rfl, hg 0 d v rfl rfl, RepFL.of_get (by simpa using h) fun i e w h1 h2 => hg (i + 1) e w (by simpa using h1) (by simpa using h2)⟩
theorem RepFL.ints : ∀ {ds : List D} {vs : List V} {ns : List Int}, RepL K F H ds vs → D.ints ds = some ns → vs = ns.map V.int
  | [], vs, ns, h, e => by
    cases (show vs = [] from h)
    cases (Option.some.inj e)
    rfl
  | .int i :: ds, vs, ns, h, e => by
    obtain ⟨v, r, rfl, h1, h2⟩ := h
    have e' : (D.ints ds).map (i :: ·) = some ns := e
    cases q : D.ints ds with
    | none => rw [q] at e'; cases e'
    | some ms =>
      rw [q] at e'
      cases Option.some.inj e'
      cases (show v = .int i from h1)
      rw [RepFL.ints h2 q]
      rfl
  | .non :: _, _, _, _, e => by cases e
  | .bl _ :: _, _, _, _, e => by cases e
  | .str _ :: _, _, _, _, e => by cases e
  | .tup _ :: _, _, _, _, e => by cases e
  | .lst _ :: _, _, _, _, e => by cases e
  | .scr _ :: _, _, _, _, e => by cases e
theorem RepFL.bls : ∀ {ds : List D} {vs : List V} {ns : List Bool}, RepL K F H ds vs → D.bls ds = some ns → vs = ns.map V.bl
  | [], vs, ns, h, e => by
    cases (show vs = [] from h)
    cases (Option.some.inj e)
    rfl
  | .bl i :: ds, vs, ns, h, e => by
    obtain ⟨v, r, rfl, h1, h2⟩ := h
    have e' : (D.bls ds).map (i :: ·) = some ns := e
    cases q : D.bls ds with
    | none => rw [q] at e'; cases e'
    | some ms =>
      rw [q] at e'
      cases Option.some.inj e'
      cases (show v = .bl i from h1)
      rw [RepFL.bls h2 q]
      rfl
  | .non :: _, _, _, _, e => by cases e
  | .int _ :: _, _, _, _, e => by cases e
  | .str _ :: _, _, _, _, e => by cases e
  | .tup _ :: _, _, _, _, e => by cases e
  | .lst _ :: _, _, _, _, e => by cases e
  | .scr _ :: _, _, _, _, e => by cases e
theorem RepFL.strs : ∀ {ds : List D} {vs : List V} {ns : List Str}, RepL K F H ds vs → D.strs ds = some ns → vs = ns.map V.str
  | [], vs, ns, h, e => by
    cases (show vs = [] from h)
    cases (Option.some.inj e)
    rfl
  | .str i :: ds, vs, ns, h, e => by
    obtain ⟨v, r, rfl, h1, h2⟩ := h
    have e' : (D.strs ds).map (i :: ·) = some ns := e
    cases q : D.strs ds with
    | none => rw [q] at e'; cases e'
    | some ms =>
      rw [q] at e'
      cases Option.some.inj e'
      cases (show v = .str i from h1)
      rw [RepFL.strs h2 q]
      rfl
  | .non :: _, _, _, _, e => by cases e
  | .int _ :: _, _, _, _, e => by cases e
  | .bl _ :: _, _, _, _, e => by cases e
  | .tup _ :: _, _, _, _, e => by cases e
  | .lst _ :: _, _, _, _, e => by cases e
  | .scr _ :: _, _, _, _, e => by cases e
theorem RepFL.of_strs : ∀ ns : List Str, RepL K F H (ns.map D.str) (ns.map V.str)
  | [] => rfl
  | i :: r => ⟨.str i, r.map V.str, rfl, rfl, RepFL.of_strs r⟩
theorem RepF.flatV : ∀ {d : D} {v : V}, Rep K F H d v → d.flat = true → L2.flatV v = true
  | .non, _, h, _ => by cases (show _ = V.non from h); rfl
  | .bl _, _, h, _ => by cases (show _ = V.bl _ from h); rfl
  | .int _, _, h, _ => by cases (show _ = V.int _ from h); rfl
  | .str _, _, h, _ => by cases (show _ = V.str _ from h); rfl
  | .tup _, _, _, h => by cases h
  | .lst _, _, _, h => by cases h
  | .scr _, _, _, h => by cases h
theorem RepT.flat (h : RepT K F1 F2 H d v) (f : d.flat = true) : Rep K F H d v := by
  cases d with
  | lst _ => cases f
  | tup _ => cases f
  | scr _ => cases f
  | _ => exact h
theorem RepF.eqV {e : D} {w : V} (h : Rep K F H d v) (h' : Rep K F' H e w) (f : d.flat = true) (f' : e.flat = true) : L2.eqV v w = D.eqv d e := by
  cases d with
  | tup _ => cases f
  | lst _ => cases f
  | scr _ => cases f
  | non => cases (show v = _ from h); cases e <;> first | (cases f'; done) | (cases (show w = _ from h'); rfl)
  | bl b => cases (show v = _ from h); cases e <;> first | (cases f'; done) | (cases (show w = _ from h'); rfl)
  | int i => cases (show v = _ from h); cases e <;> first | (cases f'; done) | (cases (show w = _ from h'); rfl)
  | str x =>
    cases (show v = _ from h)
    cases e with
    | tup _ => cases f'
    | lst _ => cases f'
    | scr _ => cases f'
    | str y => cases (show w = _ from h'); rfl
    | _ => cases (show w = _ from h'); rfl
theorem RepFL.inV {x : D} {w : V} (hx : Rep K F' H x w) (fx : x.flat = true) : ∀ {ds : List D} {vs : List V}, RepL K F H ds vs → ds.all D.flat = true → vs.all L2.flatV = true ∧ L2.inV w vs = ds.any fun z => z.eqv x
  | [], vs, h, _ => by cases (show vs = [] from h); exact ⟨rfl, rfl⟩
  | d :: ds, vs, h, f => by
    obtain ⟨v, r, rfl, h1, h2⟩ := h
    rw [List.all_cons, Bool.and_eq_true] at f
    obtain ⟨a, b⟩ := RepFL.inV hx fx h2 f.2
    refine ⟨by rw [List.all_cons, h1.flatV f.1, a]; rfl, ?_⟩
    show (List.any (v :: r) fun y => L2.eqV y w) = _
    rw [List.any_cons, List.any_cons, h1.eqV hx f.1 fx]
    have b' : (List.any r fun y => L2.eqV y w) = _ := b
    rw [b']
theorem RepFL.cntV {x : D} {w : V} (hx : Rep K F' H x w) (fx : x.flat = true) : ∀ {ds : List D} {vs : List V}, RepL K F H ds vs → ds.all D.flat = true → vs.all L2.flatV = true ∧ (vs.countP fun y => L2.eqV y w) = ds.countP fun z => z.eqv x
  | [], vs, h, _ => by cases (show vs = [] from h); exact ⟨rfl, rfl⟩
  | d :: ds, vs, h, f => by
    obtain ⟨v, r, rfl, h1, h2⟩ := h
    rw [List.all_cons, Bool.and_eq_true] at f
    obtain ⟨a, b⟩ := RepFL.cntV hx fx h2 f.2
    refine ⟨by rw [List.all_cons, h1.flatV f.1, a]; rfl, ?_⟩
    rw [List.countP_cons, List.countP_cons, h1.eqV hx f.1 fx, b]
theorem RepF.non_iff (h : Rep K F H d v) : decide (v = .non) = isN d := by
  cases d with
  | non => cases (show v = _ from h); rfl
  | bl _ => cases (show v = _ from h); rfl
  | int _ => cases (show v = _ from h); rfl
  | str _ => cases (show v = _ from h); rfl
  | tup _ => obtain ⟨a, vs, rfl, _⟩ := h; rfl
  | lst _ => obtain ⟨a, vs, rfl, _⟩ := h; rfl
  | scr _ => obtain ⟨a, rfl, _⟩ := h; rfl
theorem RepT.non_iff (h : RepT K F1 F2 H d v) : decide (v = .non) = isN d := by
  cases d with
  | lst _ => obtain ⟨a, vs, rfl, _⟩ := h; rfl
  | _ => exact RepF.non_iff (K := K) (H := H) (F := F2) (show Rep K F2 H _ v from h)
theorem RepT.len (h : RepT K F1 F2 H d v) {n : Nat} (e : lenD d = .ok n) : LenV K v H n := by
  cases d with
  | lst ds =>
    obtain ⟨a, vs, rfl, hs, _, hl⟩ := h
    cases e
    exact .inl ⟨vs, SqL.of hs, hl.length⟩
  | scr ns =>
    obtain ⟨a, rfl, hs⟩ := h
    cases e
    exact .inl ⟨_, hs.seq, (List.length_map _).symm⟩
  | tup ds =>
    obtain ⟨a, vs, rfl, hs, hl⟩ := h
    cases e
    exact .inr ⟨vs, hs, hl.length⟩
  | str x =>
    cases (show v = .str x from h)
    have e' : (if x.length ≤ sizeLine then Res.ok x.length else Res.bad) = Res.ok n := e
    by_cases z : x.length ≤ sizeLine
    · rw [if_pos z] at e'
      cases e'
      exact ⟨z, rfl⟩
    · rw [if_neg z] at e'
      cases e'
  | _ => cases e
theorem RepT.tyOf (h : RepT K F1 F2 H d v) : TyX K H v (.type d.ty) := by
  cases d with
  | non => cases (show v = _ from h); exact .base .non
  | bl b => cases (show v = _ from h); exact .base (.bl b)
  | int i => cases (show v = _ from h); exact .base (.int i)
  | str x => cases (show v = _ from h); exact .base (.str x)
  | tup ds =>
    obtain ⟨a, vs, rfl, (h | ⟨o, h⟩) | ⟨o, its, n, h, hc, _⟩, _⟩ := h
    · exact .base (.tup h)
    · exact .fTuple h
    · exact .kTuple h hc
  | lst ds =>
    obtain ⟨a, vs, rfl, h, _⟩ := h
    exact .base (.lst h)
  | scr ns =>
    obtain ⟨a, rfl, ⟨h, _⟩ | ⟨o, h⟩ | ⟨o, its, n, h, hc, _⟩⟩ := h
    · exact .base (.lst h)
    · exact .base (.frz h)
    · exact .kList h hc
end
section
variable {K : PySem.W.Frag} {F Y : Addr → Prop} {H : Hp}
mutual
/-- what stands in H holds no list that is younger than H -/
theorem RepF.older (y : ∀ a, Y a → H a = none) : ∀ (d : D) {F : Addr → Prop} (v : V), Rep K F H d v → Rep K (fun a => F a ∨ Y a) H d v
  | .non, _, v, h => h
  | .bl _, _, v, h => h
  | .int _, _, v, h => h
  | .str _, _, v, h => h
  | .tup ds, _, v, h => by
    obtain ⟨a, vs, e, hs, hl⟩ := h
    exact ⟨a, vs, e, hs, RepFL.older y ds vs hl⟩
  | .lst ds, F, v, h => by
    obtain ⟨a, vs, e, hs, n, hl⟩ := h
    refine ⟨a, vs, e, hs, ?_, RepFL.weak (F := fun b => (F b ∨ b = a) ∨ Y b) (fun b z => ?_) (RepFL.older y ds vs hl)⟩
    · rintro (z | z)
      · exact n z
      · rw [y a z] at hs; cases hs
    · rcases z with (z | z) | z
      · exact .inl (.inl z)
      · exact .inr z
      · exact .inl (.inr z)
  | .scr ns, _, v, h => by
    obtain ⟨a, e, hs⟩ := h
    refine ⟨a, e, ?_⟩
    rcases hs with ⟨h, n⟩ | h | h
    · refine .inl ⟨h, ?_⟩
      rintro (z | z)
      · exact n z
      · rw [y a z] at h; cases h
    · exact .inr (.inl h)
    · exact .inr (.inr h)
theorem RepFL.older (y : ∀ a, Y a → H a = none) : ∀ (ds : List D) {F : Addr → Prop} (vs : List V), RepL K F H ds vs → RepL K (fun a => F a ∨ Y a) H ds vs
  | [], _, vs, h => h
  | d :: ds, _, vs, h => by
    obtain ⟨v, r, e, h1, h2⟩ := h
    exact ⟨v, r, e, RepF.older y d v h1, RepFL.older y ds r h2⟩
end
end
theorem kept_upd {F : Addr → Prop} {H : Hp} {p : Addr} {o : HO} (f : F p) (h : ∃ xs, H p = some (.lst xs)) : Kept F H (upd H p o) := fun a u e n => by
  by_cases q : a = p
  · subst q
    obtain ⟨xs, hx⟩ := h
    rw [hx] at e
    cases e
    exact (n.elim (fun z => z f) fun z => z ⟨xs, rfl⟩).elim
  · rw [upd_ne q]
    exact e
theorem same_upd {H : Hp} {p : Addr} {o : HO} (h : H p = none) : Same H (upd H p o) := fun b x e => by
  rw [upd_ne (ne_of_none e h)]
  exact e
end PyI
/-! PyI, sorting: lists of tuples of ints, of any length. -/
namespace SrtL
open PySem PySem.Spec PyProof.Rows L2 SrtO Srt
section
variable {prog : Program} {w : World} {A : Around} {E : Value → Shared → Prop} {s : Shared}
def IsL (h : Heap) (v : Value) (ns : List Int) : Prop := ∃ (a : Addr) (o : Obj) (its : Array Value) (n : Nat), v = .ref a ∧ h.get? a = some o ∧ o.cls = .type "tuple" ∧ o.data = .seq its n ∧ IntsAre its.toList ns
theorem lex_kat {fin : Bool} : ∀ {xs ys : List Int} {vs us : List Value} (i : Nat), IntsAre vs xs → IntsAre us ys → fin = decide (xs.length < ys.length) →
    PySem.W.KatLex prog w A true fin (fun r s' => s' = s ∧ r = HT.lexLt xs ys) (vs.zip us) i s
  | _, _, _, _, i, .nil, .nil, e => PySem.W.kat_nil ⟨rfl, by rw [e]; rfl⟩
  | _, _, _, _, i, .nil, .cons _ _ _, e => PySem.W.kat_nil ⟨rfl, by rw [e, HT.lexLt_nil_cons]; exact decide_eq_true (Nat.succ_pos _)⟩
  | _, _, _, _, i, .cons _ _ _, .nil, e => PySem.W.kat_nil ⟨rfl, by rw [e, HT.lexLt_cons_nil]; exact decide_eq_false (Nat.not_lt_zero _)⟩
  | _, _, _, _, i, .cons x t hx, .cons y u hy, e => by
    refine PySem.W.kat_cons (SeqAt.EqAt.int_int x t y u prog w _ _ ?_)
    refine PySem.W.kat_go (fun e1 => ?_) (fun e1 => ?_)
    · have ex : x = y := by simpa using e1
      refine PySem.W.kat_yes ?_
      have ih := lex_kat (fin := fin) (i + 1) hx hy (by rw [e, List.length_cons, List.length_cons]; exact decide_eq_decide.mpr (by omega))
      rw [HT.lexLt_cons, if_pos ex]
      exact ih
    · have ex : ¬ x = y := by simpa using e1
      rw [HT.lexLt_cons, if_neg ex]
      exact PySem.W.kat_no (TS.oneLt_ints _ ⟨rfl, rfl⟩)
theorem IsL.keeps {h h' : Heap} {v : Value} {ns : List Int} (x : IsL h v ns) (k : ∀ b o, h.get? b = some o → o.cls = .type "tuple" → h'.get? b = some o) : IsL h' v ns := by
  obtain ⟨a, o, its, n, e, ho, hc, hd, hi⟩ := x
  exact ⟨a, o, its, n, e, k a o ho hc, hc, hd, hi⟩
theorem ints_len {vs : List Value} {ns : List Int} (h : IntsAre vs ns) : vs.length = ns.length := by
  induction h with
  | nil => rfl
  | cons _ _ _ ih => rw [List.length_cons, List.length_cons, ih]
theorem l_cmp {vs : List Value} {k : Value → List Int} (hp : ∀ v ∈ vs, IsL s.heap v (k v)) : Cmp prog w A s (tuples' true) (fun p => p.1 ∈ vs) (lt2 fun v u => HT.lexLt (k v) (k u)) := by
  intro p q hm hm'
  have h1 := hp _ hm
  have h2 := hp _ hm'
  show wpAny (model prog w) A (keyLt' (tuples' true) p.1 q.1) (fun r s' => s' = s ∧ r = HT.lexLt (k p.1) (k q.1)) (fun _ _ => False) s
  generalize k p.1 = xs at h1 ⊢
  generalize k q.1 = ys at h2 ⊢
  obtain ⟨a, o, its, n, e, ho, hc, hd, hi⟩ := h1
  obtain ⟨a', o', its', n', e', ho', hc', hd', hi'⟩ := h2
  rw [e, e']
  refine PySem.W.kat_lt ho hd ho' hd' ?_
  refine lex_kat 0 hi hi' ?_
  have l1 := ints_len hi
  have l2 := ints_len hi'
  rw [Array.length_toList] at l1 l2
  rw [l1, l2]
theorem firsts_l {h : Heap} {k : Value → List Int} : ∀ {vs : List Value}, (∀ v ∈ vs, IsL h v (k v) ∧ k v ≠ []) → ∃ fs : List Value, PySem.W.KatTups h vs fs ∧ fs.length = vs.length ∧ ∀ f ∈ fs, ∃ x t, f = Value.int x t
  | [], _ => ⟨[], PySem.W.KatTups.nil, rfl, fun _ hm => by simp at hm⟩
  | v :: vs, hp => by
    obtain ⟨fs, h1, h2, h3⟩ := firsts_l (vs := vs) fun v' hm => hp v' (List.mem_cons_of_mem _ hm)
    obtain ⟨⟨a, o, its, n, e, ho, hc, hd, hi⟩, ne⟩ := hp v List.mem_cons_self
    obtain ⟨x, t, hx⟩ : ∃ x t, its[0]? = some (Value.int x t) := by
      generalize k v = ns at hi ne
      cases q : its.toList with
      | nil =>
        rw [q] at hi
        cases hi
        exact absurd rfl ne
      | cons f r =>
        rw [q] at hi
        cases hi with
        | cons x t _ => exact ⟨x, t, by rw [← Array.getElem?_toList, q]; rfl⟩
    refine ⟨.int x t :: fs, ?_, by rw [List.length_cons, List.length_cons, h2], fun f hm => ?_⟩
    · rw [e]
      exact PySem.W.KatTups.cons ho hc hd hx h1
    · rcases List.mem_cons.mp hm with rfl | hm
      · exact ⟨x, t, rfl⟩
      · exact h3 f hm
theorem l_sortable {a : Addr} {vs : List Value} {k : Value → List Int} (h0 : 0 < vs.length) (hp : ∀ v ∈ vs, IsL s.heap v (k v)) (ne : ∀ v ∈ vs, k v ≠ []) (ha : ∀ o, s.heap.get? a = some o → o.cls ≠ .type "tuple") : SortableO prog w A s a vs fun v u => HT.lexLt (k v) (k u) := by
  intro h' keep
  have hp' : ∀ v ∈ vs, IsL h' v (k v) := fun v hm => (hp v hm).keeps fun b o e c => keep b o (fun z => by subst z; exact ha o e c) e
  obtain ⟨fs, h1, h2, h3⟩ := firsts_l fun v hm => ⟨hp' v hm, ne v hm⟩
  refine ⟨tuples' true, fun Q E hq => ?_, l_cmp hp'⟩
  refine PySem.W.kat_kind (T := .type "int") h1 (by omega) (fun f hm => ?_) (by rfl) ?_
  · obtain ⟨x, t, rfl⟩ := h3 f hm
    exact PySem.W.Looks.now
  · have e : (Value.type "int" != Value.type "tuple") = true := by first | decide +kernel | rfl | decide
    rw [e]
    exact hq
theorem sorted_l {l : Addr} {vs : List Value} {k : Value → List Int} {Q : Value → Shared → Prop} (hl : s.heap.IsList l vs.toArray) (hz : vs.length ≤ sizeLine) (hp : ∀ v ∈ vs, IsL s.heap v (k v)) (ne : ∀ v ∈ vs, k v ≠ [])
    (h : ∀ (h' : Heap) (d : Addr) (out : List Value), Srtd (fun v u => HT.lexLt (k v) (k u)) out → Stb (fun v u => HT.lexLt (k v) (k u)) out vs → (∀ b o, s.heap.get? b = some o → h'.get? b = some o) → s.heap.objs.size ≤ d → (∃ n, h'.get? d = some (seqObj "list" out.toArray n)) → Q (.ref d) { s with heap := h' }) :
    wpAny (model prog w) A (call (.builtin "sorted") [.ref l]) Q E s := by
  refine sorted_ord (NtL.swo_lexL k) hl hz (fun h2 h₁ a ha kk => ?_) fun out hs hb => ?_
  · refine l_sortable (s := { s with heap := h₁ }) (by omega) (fun v hm => (hp v hm).keeps fun b o e _ => (kk b o e).2) ne fun o e => ?_
    have e' : some o = some (seqObj "list" vs.toArray 0) := e.symm.trans ha
    cases e'
    intro c
    exact absurd (Value.type.inj c) (by decide)
  · exact h _ _ out hs hb (fun b o e => sortedAll_old e) (Nat.le_succ _) (sortedAll_at s.heap vs out.toArray)
end
end SrtL
namespace L2
open PySem PySem.Spec PyProof.Rows
abbrev ltL (k : V → List Int) (x y : V) : Bool := HT.lexLt (k x) (k y)
def rSortedL (K : PySem.W.Frag) : List V → Hp → VK → Prop := fun vs H Q => ∃ (a : Addr) (xs : List V) (k : V → List Int), vs = [V.ref a] ∧ SqL K H a xs ∧ (∀ x ∈ xs, k x ≠ [] ∧ ∃ t, x = V.ref t ∧ SqT K H t ((k x).map V.int)) ∧
  ∀ ys p, SrtO.Srtd (ltL k) ys → SrtO.Stb (ltL k) ys xs → H p = none → Q (.ref p) (upd H p (.lst ys))
section
variable {X : Cx}
theorem cr_sortedL : CallR X (.builtin "sorted") (rSortedL X.K) := by
  intro pins s σ H vs us Q I r h
  obtain ⟨a, xs, k, rfl, hs, hx, q⟩ := h
  obtain ⟨its, rv, hl, hz⟩ := I.list hs
  obtain ⟨u, rfl, ru⟩ := vals1 r
  obtain rfl : u = Value.ref a := ru
  obtain ⟨e1, e2⟩ := refs_back rv fun x m => by
    obtain ⟨_, t, e, _⟩ := hx x m
    exact ⟨t, e⟩
  have mem : ∀ v ∈ its, backV v ∈ xs := fun v hv => by rw [e1]; exact List.mem_map.mpr ⟨_, hv, rfl⟩
  refine SrtL.sorted_l (k := fun u => k (backV u)) hl.isList (by rw [← rv.length]; exact hz) (fun v hv => ?_) (fun v hv => (hx _ (mem v hv)).1) fun h' d out h1 h2 kp hd hn => ?_
  · obtain ⟨t, rfl⟩ := e2 v hv
    obtain ⟨_, t', e, ht⟩ := hx _ (mem _ hv)
    have e : V.ref t = V.ref t' := e
    cases e
    obtain ⟨its2, r2, ⟨o, ho, hc, n, hd⟩, _⟩ := I.tuple ht
    exact ⟨t, o, its2.toArray, n, rfl, ho, hc, hd, by rw [List.toList_toArray]; exact r2.ints⟩
  · have h3 : ∀ u ∈ out, ∃ a, u = Value.ref a := fun u hu => e2 u (h2.perm.mem_iff.mp hu)
    obtain ⟨n, hn⟩ := hn
    have hb : SrtO.Stb (ltL k) (out.map backV) xs := by
      rw [e1]
      exact SrtO.Stb.map (NtL.swo_lexL k) backV h2
    refine ⟨.ref d, upd H d (.lst (out.map backV)), I.laid (t' := s.toks) kp hd ⟨?_, out, n, vals_back h3, hn⟩, rfl, q _ d (SrtO.srtd_map h1) hb (I.hok.fresh hd)⟩
    rw [hb.len]
    exact hz
end
end L2
/-! ### math.lcm -/
namespace PyI
open PySem
section
variable {X : L2.Cx}
def rLcm : List L2.V → L2.Hp → L2.VK → Prop := fun vs H Q => ∃ a b : Int, vs = [.int a, .int b] ∧ a.natAbs.log2 < 13000 ∧ b.natAbs.log2 < 13000 ∧ Q (.int ((Nat.lcm a.natAbs b.natAbs : Nat) : Int)) H
theorem log_le {a : Nat} {k : Nat} (h : a.log2 < k) : a < 2 ^ k := by
  by_cases z : a = 0
  · subst z; exact Nat.pow_pos (by decide)
  · exact (Nat.log2_lt z).mp h
theorem lt_log {a : Nat} {k : Nat} (hk : 0 < k) (h : a < 2 ^ k) : a.log2 < k := by
  by_cases z : a = 0
  · subst z; rw [Nat.log2_zero]; exact hk
  · exact (Nat.log2_lt z).mpr h
theorem one_lt_pow {k : Nat} (h : 0 < k) : 1 < 2 ^ k := Nat.one_lt_two_pow (by omega)
theorem cr_lcm : L2.CallR X (.builtin "math.lcm") rLcm := by
  intro pins s σ H vs us Q I r h
  obtain ⟨a, b, rfl, ha, hb, q⟩ := h
  obtain ⟨t, u, rfl⟩ := L2.Vals.int2 r
  have ml : ∀ m n k : Nat, 0 < k → m < 2 ^ k → n < 2 ^ k → (max m n).log2 < k := fun m n k hk h1 h2 => lt_log hk (by rw [Nat.max_def]; split <;> assumption)
  have m1 : (max 1 a.natAbs).log2 < 13000 := ml 1 a.natAbs 13000 (by omega) (one_lt_pow (by omega)) (log_le ha)
  have m2 : (max a.natAbs b.natAbs).log2 < 13000 := ml _ _ 13000 (by omega) (log_le ha) (log_le hb)
  have l1 : Nat.lcm 1 a.natAbs = a.natAbs := Nat.lcm_one_left _
  have hl : a.natAbs.lcm b.natAbs ≤ a.natAbs * b.natAbs := by
    have := Nat.gcd_mul_lcm a.natAbs b.natAbs
    by_cases z : a.natAbs.gcd b.natAbs = 0
    · have z1 := (Nat.gcd_eq_zero_iff.mp z).1
      rw [z1, Nat.lcm_zero_left, Nat.zero_mul]
      exact Nat.le_refl _
    · rw [← this]
      exact Nat.le_mul_of_pos_left _ (Nat.pos_of_ne_zero z)
  have gen : ∀ x y k : Nat, 0 < k → x < 2 ^ k → y < 2 ^ k → (x.lcm y ≤ x * y) → (x.lcm y).log2 < 2 * k := fun x y k hk h1 h2 h3 => lt_log (by omega) (Nat.lt_of_le_of_lt h3 (by
    have := Nat.mul_lt_mul'' h1 h2
    rw [← Nat.pow_add] at this
    rw [Nat.two_mul]
    exact this))
  have hs : ((((Nat.lcm 1 a.natAbs).lcm b.natAbs : Nat) : Int)).natAbs.log2 < bitsLine := by
    rw [l1, Int.natAbs_natCast]
    have h1 := gen a.natAbs b.natAbs 13000 (by omega) (log_le ha) (log_le hb) hl
    have h2 : 2 * 13000 < bitsLine := by decide
    omega
  have g := PySem.W.mg_run_lcm a t b u (by omega) (by omega) hs
  rw [l1] at g
  exact call_function_meets PySem.W.MGF.kind_lcm PySem.W.MGF.plain_lcm PySem.W.MGF.entry_lcm (PySem.W.MGF.args_lcm _ _) g.meets ⟨.int _, H, I.tok _, ⟨_, rfl⟩, q⟩
/-! ### // of a negative divisor -/
theorem op_fdivN : L2.OpR X (binaryOp .FloorDiv) (L2.rI (fun _ j => j < 0 ∧ j.natAbs.log2 < 9000) fun i j => .int (Int.fdiv i j)) := L2.opI fun i j _ _ _ _ _ hc q => by
  have h1 : j < 0 := hc.1
  exact PyProof.Rows.floordiv_int (by omega) q (.inl (PyProof.noPylong_of_log2 hc.2))
end
end PyI
/-! PyId: get of a dict written at the module's top, with text keys and ints. -/
namespace PyI
open PySem PySem.Spec PyProof.Rows L2
/-- a name stands for a written dict -/
def GdOk (K : PySem.W.Frag) (w : World) (mg : Str → Option Value) (x : Str) (kvs : List (Str × Int)) : Prop := ∃ a es n, mg x = some (.ref a) ∧ KDict K w a es n ∧
  ∀ z, ∃ uo, PySem.W.nsIn K a z = some uo ∧ match kvs.lookup z with
    | none => uo = none
    | some i => ∃ t, uo = some (.int i t)
def rKg (kvs : List (Str × Int)) : List V → Hp → VK → Prop := fun xs H Q => ∃ z j, xs = [.str z, .int j] ∧ Q (.int ((kvs.lookup z).getD j)) H
section
variable {X : Cx} {o e f : Expr} {apos cpos : Pos} {t : TA} {a : Addr} {es : Array DictEntry} {n : Nat} {kvs : List (Str × Int)}
theorem pe_kget (D : KDict X.K X.w a es n) (hz : ∀ z, ∃ uo, PySem.W.nsIn X.K a z = some uo ∧ match kvs.lookup z with
    | none => uo = none
    | some i => ∃ t, uo = some (.int i t)) (ho : PE X o (tC (.ref a))) (ha : PA X [e, f] t)
    (hbase : attributeBase o "get" X.env (eval o X.env) = eval o X.env)
    (hfew : ((backTo cpos (starEach [e, f] X.env)).all (fun x => !x.1) && (backToKw cpos (keywordEach [] X.env)).all (fun x => x.1.isSome)
      && decide ([e, f].length + ([] : List Keyword).length + (if ([] : List Keyword).isEmpty then 0 else 1) < 30)) = true)
    (hline : (apos.endLine == cpos.line) = true) (hs : starEach [e, f] X.env = (false, eval e X.env) :: starEach [f] X.env) (hplain : (backTo cpos (starEach [f] X.env)).any (·.1) = false) :
    PE X (.Call (.Attribute o "get" apos) [e, f] [] cpos) (fun σ H Q => t σ H fun xs H2 => rKg kvs xs H2 Q) := by
  refine ⟨fun pins s σ H Q I h => ?_⟩
  refine wpAny_Call_method_late hbase hfew hline rfl (thn (ho.run pins s σ H (fun x H1 => x = .ref a ∧ t σ H1 fun xs H2 => rKg kvs xs H2 Q) I ⟨rfl, h⟩) fun v s1 ⟨x, H1, I1, r1, ex, q1⟩ => ?_)
  subst ex
  obtain rfl : v = Value.ref a := r1
  have hm := PySem.W.mapOf_K (prog := X.prog) (w := X.w) I1.kIn D.at_ D.lit
  refine ⟨"dict", "dict.get", PySem.F.plainAttrs_dict, PySem.F.slot_dict_get, PySem.F.type_dict_get, hm.typeIs, fun b eb => ?_, ?_⟩
  · cases eb
    exact ⟨_, I1.kIn _ _ D.at_, rfl⟩
  have hA := ha.run cpos pins s1 σ H1 _ I1 q1
  rw [hs] at hA ⊢
  refine Calls.callWith_builtin (by show (false || (backTo cpos (starEach [f] X.env)).any (·.1)) = false; rw [hplain] <;> rfl) (Calls.evalArgs_plain ?_)
  refine thn hA fun us s2 ⟨vs, H2, I2, r2, z, j, ev, q2⟩ => ?_
  subst ev
  cases r2 with
  | cons ra rs =>
    cases rs with
    | cons rb rs =>
      cases rs
      obtain ⟨ta, rfl⟩ := ra
      obtain ⟨tb, rfl⟩ := rb
      have hm2 := PySem.W.mapOf_K (prog := X.prog) (w := X.w) I2.kIn D.at_ D.lit
      obtain ⟨uo, e1, e2⟩ := hz z
      have fz := PySem.W.find_K D.at_ e1
      refine call_meetsIn PySem.F.slot_dict_get hm2.typeIs PySem.F.entry_dict_get (PySem.F.args_dict_get_3 _ _ _) (meets_dict_get_default (strKind X.prog X.w) a (strKind_is X.prog X.w z ta) D.low (.int j tb)) ⟨_, hm2, ?_⟩
      rw [fz]
      cases q : kvs.lookup z with
      | none =>
        rw [q] at e2
        subst e2
        rw [q] at q2
        exact ⟨.int j, H2, I2.tok _, ⟨tb, rfl⟩, q2⟩
      | some i =>
        rw [q] at e2
        obtain ⟨t', rfl⟩ := e2
        rw [q] at q2
        exact ⟨.int i, H2, I2.tok _, ⟨t', rfl⟩, q2⟩
end
end PyI
/-! PyI, part 3: the interpreter's operations against the layer's rules, value by value. -/
namespace PyI
open PySem PySem.Spec PyProof.Rows L2
theorem ok_if {α : Type} {c : Prop} [Decidable c] {a d : α} (h : (if c then Res.ok a else Res.bad) = Res.ok d) : c ∧ a = d := by
  by_cases z : c
  · rw [if_pos z] at h
    cases h
    exact ⟨z, rfl⟩
  · rw [if_neg z] at h
    cases h
/-- a result and what is wanted of it -/
def Gv (K : PySem.W.Frag) (F1 F : Addr → Prop) (H : Hp) (r : Res D) (Q : VK) : Prop := ∃ d, r = .ok d ∧ ∀ v H', Same H H' → RepT K F1 F H' d v → Q v H'
abbrev FOk (F : Addr → Prop) (H : Hp) : Prop := ∀ a, F a → H a ≠ none
theorem FOk.new {F : Addr → Prop} {H : Hp} (h : FOk F H) {p : Addr} (n : H p = none) : ¬ F p := fun z => h p z n
theorem FOk.same {F : Addr → Prop} {H H' : Hp} (h : FOk F H) (s : Same H H') : FOk F H' := fun a z n => h a z (s.free n)
def pyOp : Op → Operator
  | .add => .Add | .sub => .Sub | .mul => .Mult | .fdiv => .FloorDiv | .mod => .Mod | .pow => .Pow
def rOpD (K : PySem.W.Frag) (o : Op) : R2 := fun x y H Q => ∃ F1 F dx dy, FOk F1 H ∧ RepT K NoF F H dx x ∧ RepT K NoF F H dy y ∧ Gv K F1 F H (opD o dx dy) Q
section
variable {X : Cx}
theorem tup_new {K : PySem.W.Frag} {F1 F : Addr → Prop} {H : Hp} {p : Addr} {ds : List D} {vs : List V} (hp : H p = none) (r : RepL K F H ds vs) : RepT K F1 F (upd H p (.tup vs)) (.tup ds) (.ref p) :=
  ⟨p, vs, rfl, SqT.of upd_same, r.same (same_upd hp)⟩
theorem lst_new {K : PySem.W.Frag} {F1 F : Addr → Prop} {H : Hp} {p : Addr} {ds : List D} {vs : List V} (hF : FOk F1 H) (hp : H p = none) (r : RepL K F H ds vs) : RepT K F1 F (upd H p (.lst vs)) (.lst ds) (.ref p) :=
  ⟨p, vs, rfl, upd_same, hF.new hp, (RepFL.older (Y := fun b => b = p) (fun a z => by rw [z]; exact hp) ds vs r).same (same_upd hp)⟩
theorem tup_mul1 (l : Addr) (items : Array Value) (n : Nat) (dd : Option Addr) (sl : Array (Option Value)) (x : Int) (u : Tok) (hx : -1000 ≤ x ∧ x ≤ 1000) (one : (items.isEmpty || x == 1) = true) :
    Meets (Builtin.«tuple.__mul__» ⟨[.ref l, .int x u], []⟩) (fun _ R s => s.heap.get? l = some { cls := .type "tuple", dict := dd, data := .seq items n, slots := sl } ∧ R (.ok (.ret (Value.ref l))) s) :=
  .of_wp fun prog w A R s h => by
    obtain ⟨hp, g, d, tk, os⟩ := s
    obtain ⟨hl, h⟩ := h
    have idx := AutoSeq1.idx_int
    have small : (decide (x < -(2 ^ 63)) || decide (x ≥ 2 ^ 63)) = false := by rw [decide_eq_false (by omega), decide_eq_false (by omega)]; rfl
    wp_walk using wpAny_loadPart' hl
    repeat (first
      | (refine wpAny_ite_false (decide_eq_false (by rw [small]; decide)) ?_; wp_walk using wpAny_loadPart' hl)
      | (refine wpAny_ite_true (decide_eq_true (by rw [one])) ?_; wp_walk using wpAny_loadPart' hl))
    exact ⟨_, rfl, h⟩
theorem op_rep1 {pins : List (Addr × Obj)} {s : Shared} {σ : L2.St} {H : Hp} {a : Addr} {k : Int} {t : Tok} {xs : List V} {Q : VK} (hk : -1000 ≤ k ∧ k ≤ 1000) (one : xs = [] ∨ k = 1) (I : Inv X pins σ H s) (hT : SqT X.K H a xs) (q : Q (.ref a) H) : wpAny (model X.prog X.w) X.A (binaryOp .Mult (.ref a) (.int k t)) (EP X pins σ Q) X.xe s := by
  obtain ⟨its, r, ⟨⟨cls, dd, data, sl⟩, ho, hc, n, hd⟩, hs⟩ := I.tuple hT
  simp only at hc hd
  subst hc hd
  have c1 : (its.toArray.isEmpty || k == 1) = true := by
    rcases one with z | z
    · subst z
      have : its = [] := List.eq_nil_of_length_eq_zero r.length.symm
      subst this
      rfl
    · subst z
      rw [Bool.or_eq_true]
      exact .inr rfl
  exact wpAny_binaryOp_repeat_ref (T := "tuple") (U := "int") (by decide) ⟨_, ho, rfl⟩ (fun s' => typeIs_int s' k t) noFill_tuple_mul F.fills_int_mul F.slot_int_rmul repeat_tuple F.slot_int_index.lookup
    (call_meets F.slot_int_rmul (typeIs_int s k t) F.entry_int_rmul (F.args_int_rmul_2 _ _) (int_rmul_tuple k t a its.toArray n dd sl)
      ⟨ho, rfl, ⟨_, ho, rfl⟩, call_meets F.slot_tuple_mul ⟨_, ho, rfl⟩ F.entry_tuple_mul (F.args_tuple_mul_2 _ _) (tup_mul1 a its.toArray n dd sl k t hk c1) ⟨ho, .ref a, H, I, rfl, q⟩⟩)
theorem op_mulS : OpR X (binaryOp .Mult) (fun x y H Q => ∃ i k, x = .str i ∧ y = .int k ∧ -1000 ≤ k ∧ k ≤ 1000 ∧ i.length ≤ 1000 ∧ Q (.str ⟨(List.replicate k.toNat i.cps).foldl (· ++ ·) #[]⟩) H) := by
  intro pins s σ H x y v u Q I rx ry h
  obtain ⟨i, k, rfl, rfl, h1, h2, h4, q⟩ := h
  obtain ⟨t, rfl⟩ := rx
  obtain ⟨t', rfl⟩ := ry
  have small : i.length * k.toNat ≤ 1000 * 1000 := Nat.mul_le_mul h4 (by omega)
  refine P.mul_str ?_ (fun c1 c2 => ?_) (fun _ _ => ?_) ?_
  · rw [decide_eq_false (by omega), decide_eq_false (by omega)]; rfl
  · have : (9223372036854774807 : Int) / 1000 ≤ (2 ^ 63 - 1) / k := by
      refine Int.le_ediv_of_mul_le (by omega) ?_
      have : (9223372036854774807 : Int) / 1000 * k ≤ 9223372036854774807 / 1000 * 1000 := Int.mul_le_mul_of_nonneg_left h2 (by decide)
      omega
    omega
  · show decide (i.length * k.toNat > sizeLine) = false
    exact decide_eq_false (Nat.not_lt.mpr (Nat.le_trans small (by decide)))
  · by_cases n1 : k < 1
    · rw [if_pos n1]
      have e : k.toNat = 0 := by omega
      rw [e] at q
      exact ⟨by decide, .str _, H, I.tok _, ⟨_, rfl⟩, q⟩
    · rw [if_neg n1]
      by_cases n2 : (k == 1 || i.length == 0) = true
      · rw [if_pos n2]
        have e : (⟨(List.replicate k.toNat i.cps).foldl (· ++ ·) #[]⟩ : Str) = i := by
          rcases Bool.or_eq_true_iff.mp n2 with z | z
          · have : k = 1 := by simpa using z
            subst this
            show (⟨#[] ++ i.cps⟩ : Str) = i
            rw [Array.empty_append]
          · obtain ⟨c⟩ := i
            have z : c.size = 0 := by simpa [Str.length] using z
            have : c = #[] := Array.eq_empty_of_size_eq_zero z
            subst this
            have : ∀ n : Nat, (List.replicate n (#[] : Array Nat)).foldl (· ++ ·) #[] = #[] := fun n => by
              induction n with
              | zero => rfl
              | succ n ih => rw [List.replicate_succ, List.foldl_cons, Array.empty_append]; exact ih
            show (⟨_⟩ : Str) = ⟨_⟩
            rw [this]
        rw [e] at q
        exact ⟨.str _, H, I, ⟨_, rfl⟩, q⟩
      · rw [if_neg n2]
        exact ⟨fits_reps (decide_eq_false (Nat.not_lt.mpr (Nat.le_trans small (by decide)))), .str _, H, I.tok _, ⟨_, rfl⟩, q⟩
theorem op_ok (o : Op) : OpR X (binaryOp (pyOp o)) (rOpD X.K o) := by
  intro pins s σ H x y v u Q I rx ry h
  obtain ⟨F1, F, dx, dy, hF, r1, r2, d, e, q⟩ := h
  cases o with
  | add =>
    cases dx with
    | int i =>
      cases dy with
      | int j => cases e; exact op_add pins s σ H _ _ v u Q I rx ry ⟨i, j, r1, r2, q _ _ (Same.refl _) rfl⟩
      | _ => cases e
    | str i =>
      cases dy with
      | str j =>
        obtain ⟨hz, rfl⟩ := ok_if e
        exact op_add_str pins s σ H _ _ v u Q I rx ry ⟨i, j, r1, r2, hz, q _ _ (Same.refl _) rfl⟩
      | _ => cases e
    | tup xs =>
      cases dy with
      | tup ys =>
        obtain ⟨hz, rfl⟩ := ok_if e
        obtain ⟨a, vs, rfl, s1, l1⟩ := r1
        obtain ⟨b, ws, rfl, s2, l2⟩ := r2
        have z1 := l1.length
        have z2 := l2.length
        refine op_catA pins s σ H _ _ v u Q I rx ry ⟨a, b, vs, ws, rfl, rfl, s1, s2, by omega, fun e1 => ?_, fun _ e2 => ?_, fun _ _ p hp => ?_⟩
        · subst e1
          cases xs with
          | nil => exact q _ _ (Same.refl _) ⟨b, ws, rfl, s2, l2⟩
          | cons _ _ => simp at z1
        · subst e2
          cases ys with
          | nil => rw [List.append_nil] at q; exact q _ _ (Same.refl _) ⟨a, vs, rfl, s1, l1⟩
          | cons _ _ => simp at z2
        · exact q _ _ (same_upd hp) (tup_new hp (l1.append l2))
      | _ => cases e
    | lst xs =>
      cases dy with
      | lst ys =>
        obtain ⟨hz, rfl⟩ := ok_if e
        obtain ⟨a, vs, rfl, s1, _, l1⟩ := r1.un
        obtain ⟨b, ws, rfl, s2, _, l2⟩ := r2.un
        have z1 := l1.length
        have z2 := l2.length
        exact op_cat pins s σ H _ _ v u Q I rx ry ⟨a, b, vs, ws, rfl, rfl, s1, s2, by omega, fun p hp => q _ _ (same_upd hp) (lst_new hF hp (l1.append l2))⟩
      | _ => cases e
    | _ => cases e
  | sub =>
    cases dx with
    | int i =>
      cases dy with
      | int j => cases e; exact op_sub pins s σ H _ _ v u Q I rx ry ⟨i, j, r1, r2, q _ _ (Same.refl _) rfl⟩
      | _ => cases e
    | _ => cases e
  | mul =>
    cases dx with
    | int i =>
      cases dy with
      | int j =>
        obtain ⟨hz, rfl⟩ := ok_if e
        rcases hz with hz | hz
        · exact op_mul pins s σ H _ _ v u Q I rx ry ⟨i, j, r1, r2, hz, q _ _ (Same.refl _) rfl⟩
        · exact op_mulW pins s σ H _ _ v u Q I rx ry ⟨i, j, r1, r2, hz, q _ _ (Same.refl _) rfl⟩
      | _ => cases e
    | lst xs =>
      cases dy with
      | int k =>
        obtain ⟨⟨h1, h2, h3⟩, rfl⟩ := ok_if e
        obtain ⟨a, vs, rfl, s1, _, l1⟩ := r1.un
        have z1 := l1.length
        exact op_rep pins s σ H _ _ v u Q I rx ry ⟨a, k, vs, rfl, r2, s1, h1, h2, by rw [← z1]; exact h3, fun p hp => q _ _ (same_upd hp) (lst_new hF hp (l1.rep _))⟩
      | _ => cases e
    | str x =>
      cases dy with
      | int k =>
        obtain ⟨⟨h1, h2, h4⟩, rfl⟩ := ok_if e
        exact op_mulS pins s σ H _ _ v u Q I rx ry ⟨x, k, r1, r2, h1, h2, h4, q _ _ (Same.refl _) rfl⟩
      | _ => cases e
    | tup xs =>
      cases dy with
      | int k =>
        obtain ⟨hz, rfl⟩ := ok_if e
        obtain ⟨a, vs, rfl, s1, l1⟩ := r1
        have z1 := l1.length
        by_cases hk : xs = [] ∨ k = 1
        · cases rx
          cases (show y = .int k from r2)
          obtain ⟨t, rfl⟩ := ry
          refine op_rep1 (by omega) (hk.imp (fun z => List.eq_nil_of_length_eq_zero (by rw [← z1, z]; rfl)) id) I s1 (q _ _ (Same.refl _) ⟨a, vs, rfl, s1, ?_⟩)
          show RepL X.K F H (List.replicate k.toNat xs).flatten vs
          rcases hk with z | z
          · subst z
            have e0 : (List.replicate k.toNat ([] : List D)).flatten = [] := by simp
            rw [e0]
            exact List.eq_nil_of_length_eq_zero z1.symm
          · subst z
            show RepL X.K F H (List.replicate 1 xs).flatten vs
            rw [List.replicate_one, List.flatten_singleton]
            exact l1
        · have h0 : xs ≠ [] := fun z => hk (.inl z)
          obtain ⟨_, h1, h2, h3⟩ : xs ≠ [] ∧ 1 ≤ k ∧ k ≤ 1000 ∧ xs.length ≤ 1000 := hz.elim (fun z => absurd z.1 h0) id
          have k1 : k ≠ 1 := fun z => hk (.inr z)
          exact op_repT pins s σ H _ _ v u Q I rx ry ⟨a, k, vs, rfl, r2, s1, fun z => h0 (List.eq_nil_of_length_eq_zero (by rw [z1, z]; rfl)), by omega, h2, by omega, fun p hp => q _ _ (same_upd hp) (tup_new hp (l1.rep _))⟩
      | _ => cases e
    | _ => cases e
  | fdiv =>
    cases dx with
    | int i =>
      cases dy with
      | int j =>
        by_cases h0 : 0 < j ∧ j.natAbs.log2 < 9000
        · have e' : Res.ok (D.int (i / j)) = .ok d := by
            have e2 : (if 0 < j ∧ j.natAbs.log2 < 9000 then Res.ok (D.int (i / j)) else if j < 0 ∧ j.natAbs.log2 < 9000 then .ok (.int (Int.fdiv i j)) else .bad) = .ok d := e
            rw [if_pos h0] at e2
            exact e2
          cases e'
          exact op_fdivW pins s σ H _ _ v u Q I rx ry ⟨i, j, r1, r2, h0, q _ _ (Same.refl _) rfl⟩
        · have e2 : (if 0 < j ∧ j.natAbs.log2 < 9000 then Res.ok (D.int (i / j)) else if j < 0 ∧ j.natAbs.log2 < 9000 then .ok (.int (Int.fdiv i j)) else .bad) = .ok d := e
          rw [if_neg h0] at e2
          obtain ⟨hz, rfl⟩ := ok_if e2
          exact op_fdivN pins s σ H _ _ v u Q I rx ry ⟨i, j, r1, r2, hz, q _ _ (Same.refl _) rfl⟩
      | _ => cases e
    | _ => cases e
  | mod =>
    cases dx with
    | int i =>
      cases dy with
      | int j =>
        obtain ⟨hz, rfl⟩ := ok_if e
        exact op_mod pins s σ H _ _ v u Q I rx ry ⟨i, j, r1, r2, hz, q _ _ (Same.refl _) rfl⟩
      | _ => cases e
    | _ => cases e
  | pow =>
    cases dx with
    | int i =>
      cases dy with
      | int j =>
        obtain ⟨hz, rfl⟩ := ok_if e
        exact op_pow pins s σ H _ _ v u Q I rx ry ⟨i, j, r1, r2, hz, q _ _ (Same.refl _) rfl⟩
      | _ => cases e
    | _ => cases e
/-! ### comparisons -/
def pyCm : Cm → CmpOp
  | .eq => .Eq | .ne => .NotEq | .lt => .Lt | .le => .LtE | .gt => .Gt | .ge => .GtE | .isN => .Is | .notN => .IsNot | .in_ => .In | .notIn => .NotIn
def rCmD (K : PySem.W.Frag) (o : Cm) : R2 := fun x y H Q => ∃ F F1 F1' F' dx dy d, RepT K F1 F H dx x ∧ RepT K F1' F' H dy y ∧ cmD o dx dy = .ok d ∧ ∀ b, d = .bl b → Q (.bl b) H
theorem bind_ok {α β : Type} {r : Res α} {f : α → Res β} {b : β} (h : (r >>= f) = .ok b) : ∃ a, r = .ok a ∧ f a = .ok b := by
  cases r with
  | ok a => exact ⟨a, rfl, h⟩
  | exc c vs => cases h
  | bad => cases h
theorem eqD_run {K : PySem.W.Frag} {F F1 F' F1' : Addr → Prop} {H : Hp} {dx dy : D} {x y : V} {b : Bool} (r1 : RepT K F1 F H dx x) (r2 : RepT K F1' F' H dy y) (e : eqD dx dy = .ok b) :
    (scal x y = true ∧ b = decide (x = y)) ∨ (Dp K H x dx.py ∧ Dp K H y dy.py ∧ SeqAt.shaped dx.py = true ∧ SeqAt.shaped dy.py = true ∧ b = PyData.eqv dx.py dy.py) := by
  have deep : (if (dx.shaped && dy.shaped) = true then Res.ok (dx.eqv dy) else Res.bad) = Res.ok b → Dp K H x dx.py ∧ Dp K H y dy.py ∧ SeqAt.shaped dx.py = true ∧ SeqAt.shaped dy.py = true ∧ b = PyData.eqv dx.py dy.py := fun h => by
    obtain ⟨c, rfl⟩ := ok_if h
    rw [Bool.and_eq_true] at c
    exact ⟨r1.dp, r2.dp, c.1, c.2, rfl⟩
  cases dx with
  | int i =>
    cases dy with
    | int j =>
      cases e
      cases (show x = .int i from r1)
      cases (show y = .int j from r2)
      exact .inl ⟨rfl, dec_int.symm⟩
    | _ => exact .inr (deep e)
  | str i =>
    cases dy with
    | str j =>
      cases e
      cases (show x = .str i from r1)
      cases (show y = .str j from r2)
      refine .inl ⟨rfl, ?_⟩
      by_cases z : i = j
      · subst z; simp
      · rw [decide_eq_false z, decide_eq_false (fun q => z (V.str.inj q))]
    | _ => exact .inr (deep e)
  | bl i =>
    cases dy with
    | bl j =>
      cases e
      cases (show x = .bl i from r1)
      cases (show y = .bl j from r2)
      exact .inl ⟨rfl, dec_bl.symm⟩
    | _ => exact .inr (deep e)
  | non =>
    cases dy with
    | non =>
      cases e
      cases (show x = .non from r1)
      cases (show y = .non from r2)
      exact .inl ⟨rfl, rfl⟩
    | _ => exact .inr (deep e)
  | tup _ => exact .inr (deep e)
  | lst _ => exact .inr (deep e)
  | scr _ => exact .inr (deep e)
theorem inD_run {K : PySem.W.Frag} {F F1 F' F1' : Addr → Prop} {H : Hp} {dx dy : D} {x y : V} {b : Bool} (r1 : RepT K F1 F H dx x) (r2 : RepT K F1' F' H dy y) (e : inD dx dy = .ok b) :
    (∃ p xs, y = .ref p ∧ (SqL K H p xs ∨ SqT K H p xs) ∧ L2.flatV x = true ∧ xs.all L2.flatV = true ∧ b = L2.inV x xs) ∨
    (∃ ds, Dp K H x dx.py ∧ Dp K H y (.list ds) ∧ SeqAt.shaped dx.py = true ∧ SeqAt.shaped (.list ds) = true ∧ b = ds.any fun z => PyData.eqv z dx.py) ∨
    (∃ (c : Nat) (z : Str), x = .str ⟨#[c]⟩ ∧ y = .str z ∧ b = decide (c ∈ z.cps.toList)) := by
  cases dy with
  | lst ds =>
    obtain ⟨c, rfl⟩ := ok_if (show (if ((dx.flat && ds.all D.flat) || (dx.shaped && (D.lst ds).shaped)) = true then Res.ok (ds.any fun z => z.eqv dx) else Res.bad) = .ok b from e)
    by_cases f : (dx.flat && ds.all D.flat) = true
    · rw [Bool.and_eq_true] at f
      obtain ⟨a, vs, rfl, hs, _, hl⟩ := r2.un
      have rx : Rep K NoF H dx x := r1.flat f.1
      obtain ⟨z1, z2⟩ := hl.inV rx f.1 f.2
      exact .inl ⟨a, vs, rfl, .inl (SqL.of hs), rx.flatV f.1, z1, z2.symm⟩
    · rw [Bool.or_eq_true] at c
      have c' := c.resolve_left f
      rw [Bool.and_eq_true] at c'
      refine .inr (.inl ⟨D.pys ds, r1.dp, r2.dp, c'.1, c'.2, ?_⟩)
      rw [D.pys_eq, List.any_map]
      rfl
  | tup ds =>
    obtain ⟨f, rfl⟩ := ok_if (show (if (dx.flat && ds.all D.flat) = true then Res.ok (ds.any fun z => z.eqv dx) else Res.bad) = .ok b from e)
    rw [Bool.and_eq_true] at f
    obtain ⟨a, vs, rfl, hs, hl⟩ := r2
    have rx : Rep K NoF H dx x := r1.flat f.1
    obtain ⟨z1, z2⟩ := hl.inV rx f.1 f.2
    exact .inl ⟨a, vs, rfl, .inr hs, rx.flatV f.1, z1, z2.symm⟩
  | str z =>
    cases dx with
    | str w =>
      have e' : (if h : w.cps.size = 1 then Res.ok (decide (w.cps[0]'(by omega) ∈ z.cps.toList)) else Res.bad) = .ok b := e
      by_cases h : w.cps.size = 1
      · rw [dif_pos h] at e'
        cases e'
        cases (show x = .str w from r1)
        cases (show y = .str z from r2)
        refine .inr (.inr ⟨w.cps[0]'(by omega), z, ?_, rfl, rfl⟩)
        have : w = ⟨#[w.cps[0]'(by omega)]⟩ := by
          cases w with
          | mk c =>
            congr 1
            apply Array.ext
            · simpa using h
            · intro i h1 h2
              have : i = 0 := by simp at h2; omega
              subst this
              rfl
        exact congrArg V.str this
      · rw [dif_neg h] at e'
        cases e'
    | _ => cases e
  | _ => cases e
theorem cm_ok (hu : X.A.units + 65 < cLine) (o : Cm) : OpR X (compareOp (pyCm o)) (rCmD X.K o) := by
  intro pins s σ H x y v u Q I rx ry h
  obtain ⟨F, F1, F1', F', dx, dy, d, r1, r2, e, q⟩ := h
  cases o with
  | eq =>
    obtain ⟨b, e1, e2⟩ := bind_ok (show (eqD dx dy >>= fun r => Res.ok (.bl r)) = .ok d from e)
    cases e2
    rcases eqD_run r1 r2 e1 with ⟨z, w⟩ | ⟨z1, z2, z3, z4, w⟩
    · exact op_eq pins s σ H _ _ v u Q I rx ry ⟨z, by rw [← w]; exact q _ rfl⟩
    · exact op_eqD (by omega) pins s σ H _ _ v u Q I rx ry ⟨_, _, z1, z2, z3, z4, by rw [← w]; exact q _ rfl⟩
  | ne =>
    obtain ⟨b, e1, e2⟩ := bind_ok (show (eqD dx dy >>= fun r => Res.ok (.bl (!r))) = .ok d from e)
    cases e2
    rcases eqD_run r1 r2 e1 with ⟨z, w⟩ | ⟨z1, z2, z3, z4, w⟩
    · exact op_ne pins s σ H _ _ v u Q I rx ry ⟨z, by rw [← w]; exact q _ rfl⟩
    · exact op_neD (by omega) pins s σ H _ _ v u Q I rx ry ⟨_, _, z1, z2, z3, z4, by rw [← w]; exact q _ rfl⟩
  | lt =>
    cases dx with
    | int i =>
      cases dy with
      | int j => cases e; exact op_lt pins s σ H _ _ v u Q I rx ry ⟨i, j, r1, r2, q _ rfl⟩
      | _ => cases e
    | tup xs =>
      cases dy with
      | tup ys =>
        have e' : (match D.ints xs, D.ints ys with
          | some a, some b => Res.ok (D.bl (HT.lexLt a b))
          | _, _ => .bad) = .ok d := e
        cases z1 : D.ints xs with
        | none => rw [z1] at e'; cases e'
        | some a =>
          cases z2 : D.ints ys with
          | none => rw [z1, z2] at e'; cases e'
          | some b =>
            rw [z1, z2] at e'
            cases e'
            obtain ⟨p, vs, rfl, s1, l1⟩ := r1
            obtain ⟨p2, ws, rfl, s2, l2⟩ := r2
            have w1 := l1.ints z1
            have w2 := l2.ints z2
            subst w1
            subst w2
            exact op_ltT (by omega) pins s σ H _ _ v u Q I rx ry ⟨p, p2, a, b, rfl, rfl, s1, s2, q _ rfl⟩
      | _ => cases e
    | _ => cases e
  | le =>
    cases dx with
    | int i =>
      cases dy with
      | int j => cases e; exact op_le pins s σ H _ _ v u Q I rx ry ⟨i, j, r1, r2, q _ rfl⟩
      | _ => cases e
    | _ => cases e
  | gt =>
    cases dx with
    | int i =>
      cases dy with
      | int j => cases e; exact op_gt pins s σ H _ _ v u Q I rx ry ⟨i, j, r1, r2, q _ rfl⟩
      | _ => cases e
    | _ => cases e
  | ge =>
    cases dx with
    | int i =>
      cases dy with
      | int j => cases e; exact op_ge pins s σ H _ _ v u Q I rx ry ⟨i, j, r1, r2, q _ rfl⟩
      | _ => cases e
    | _ => cases e
  | isN =>
    cases dy with
    | non => cases e; exact op_isN pins s σ H _ _ v u Q I rx ry ⟨r2, by rw [r1.non_iff]; exact q _ rfl⟩
    | _ => cases dx <;> cases e
  | notN =>
    cases dy with
    | non => cases e; exact op_notN pins s σ H _ _ v u Q I rx ry ⟨r2, by rw [r1.non_iff]; exact q _ rfl⟩
    | _ => cases dx <;> cases e
  | in_ =>
    obtain ⟨b, e1, e2⟩ := bind_ok (show (inD dx dy >>= fun r => Res.ok (.bl r)) = .ok d from e)
    cases e2
    rcases inD_run r1 r2 e1 with ⟨p, xs, z1, z2, z3, z4, w⟩ | ⟨ds, z1, z2, z3, z4, w⟩ | ⟨c, z, z1, z2, w⟩
    · exact op_in_seq pins s σ H _ _ v u Q I rx ry ⟨p, xs, z1, z2, z3, z4, by rw [← w]; exact q _ rfl⟩
    · exact op_inD hu pins s σ H _ _ v u Q I rx ry ⟨_, ds, z1, z2, z3, z4, by rw [← w]; exact q _ rfl⟩
    · exact op_in_sign pins s σ H _ _ v u Q I rx ry ⟨c, z, z1, z2, by rw [← w]; exact q _ rfl⟩
  | notIn =>
    obtain ⟨b, e1, e2⟩ := bind_ok (show (inD dx dy >>= fun r => Res.ok (.bl (!r))) = .ok d from e)
    cases e2
    rcases inD_run r1 r2 e1 with ⟨p, xs, z1, z2, z3, z4, w⟩ | ⟨ds, z1, z2, z3, z4, w⟩ | ⟨c, z, z1, z2, w⟩
    · exact op_notIn_seq pins s σ H _ _ v u Q I rx ry ⟨p, xs, z1, z2, z3, z4, by rw [← w]; exact q _ rfl⟩
    · exact op_notInD hu pins s σ H _ _ v u Q I rx ry ⟨_, ds, z1, z2, z3, z4, by rw [← w]; exact q _ rfl⟩
    · exact op_notIn_sign pins s σ H _ _ v u Q I rx ry ⟨c, z, z1, z2, by rw [← w]; exact q _ rfl⟩
/-! ### subscripts, slices -/
theorem atI_rep {K : PySem.W.Frag} {F : Addr → Prop} {H : Hp} {ds : List D} {vs : List V} {i : Int} {d : D} (r : RepL K F H ds vs) (e : atI ds i = some d) : ∃ v, atI vs i = some v ∧ Rep K F H d v := by
  unfold atI at e ⊢
  rw [r.length] at e
  cases z : ixN vs.length i with
  | none => rw [z] at e; cases e
  | some j =>
    rw [z] at e
    exact r.get e
theorem atI_map {α β : Type} (f : α → β) (xs : List α) (i : Int) : atI (xs.map f) i = (atI xs i).map f := by
  unfold atI
  rw [List.length_map]
  cases ixN xs.length i with
  | none => rfl
  | some j => simp
def rIxD (K : PySem.W.Frag) : R2 := fun x y H Q => ∃ F F1 F1' F' dx dy d, RepT K F1 F H dx x ∧ RepT K F1' F' H dy y ∧ ixD dx dy = .ok d ∧ ∀ v, Rep K F H d v → Q v H
theorem ix_ok : IxR X (rIxD X.K) := by
  intro value slice pins s σ H x y v u Q I rx ry h hs
  obtain ⟨F, F1, F1', F', dx, dy, d, r1, r2, e, q⟩ := h
  cases dx with
  | lst xs =>
    cases dy with
    | int i =>
      have e' : (match atI xs i with
        | some d => Res.ok d
        | none => .bad) = .ok d := e
      cases z : atI xs i with
      | none => rw [z] at e'; cases e'
      | some d' =>
        rw [z] at e'
        cases e'
        obtain ⟨a, vs, rfl, s1, _, l1⟩ := r1.un
        obtain ⟨w, hw, rw'⟩ := atI_rep l1 z
        exact ix_seq value slice pins s σ H _ _ v u Q I rx ry (.inl ⟨a, vs, i, w, rfl, r2, SqL.of s1, hw, q w rw'⟩) hs
    | _ => cases e
  | tup xs =>
    cases dy with
    | int i =>
      have e' : (match atI xs i with
        | some d => Res.ok d
        | none => .bad) = .ok d := e
      cases z : atI xs i with
      | none => rw [z] at e'; cases e'
      | some d' =>
        rw [z] at e'
        cases e'
        obtain ⟨a, vs, rfl, s1, l1⟩ := r1
        obtain ⟨w, hw, rw'⟩ := atI_rep l1 z
        exact ix_seq value slice pins s σ H _ _ v u Q I rx ry (.inr (.inl ⟨a, vs, i, w, rfl, r2, s1, hw, q w rw'⟩)) hs
    | _ => cases e
  | scr xs =>
    cases dy with
    | int i =>
      have e' : (match atI xs i with
        | some d => Res.ok (D.int d)
        | none => .bad) = .ok d := e
      cases z : atI xs i with
      | none => rw [z] at e'; cases e'
      | some n =>
        rw [z] at e'
        cases e'
        obtain ⟨a, rfl, s1⟩ := r1
        exact ix_seq value slice pins s σ H _ _ v u Q I rx ry (.inl ⟨a, _, i, .int n, rfl, r2, s1.seq, by rw [atI_map, z]; rfl, q _ rfl⟩) hs
    | _ => cases e
  | str z =>
    cases dy with
    | int i =>
      have e' : (if z.length ≤ sizeLine then (match atI z.cps.toList i with
        | some c => Res.ok (D.str ⟨#[c]⟩)
        | none => .bad) else .bad) = .ok d := e
      by_cases hz : z.length ≤ sizeLine
      · rw [if_pos hz] at e'
        cases w : atI z.cps.toList i with
        | none => rw [w] at e'; cases e'
        | some c =>
          rw [w] at e'
          cases e'
          exact ix_seq value slice pins s σ H _ _ v u Q I rx ry (.inr (.inr ⟨z, i, c, r1, r2, hz, w, q _ rfl⟩)) hs
      · rw [if_neg hz] at e'
        cases e'
    | _ => cases e
  | _ => cases e
def rSlD (K : PySem.W.Frag) : V → Option Int → Option Int → Hp → VK → Prop := fun x lo hi H Q => ∃ F1 F dx, FOk F1 H ∧ RepT K NoF F H dx x ∧ Gv K F1 F H (slD dx lo hi) Q
theorem cut_rep {K : PySem.W.Frag} {F : Addr → Prop} {H : Hp} {ds : List D} {vs : List V} (lo hi : Option Int) (r : RepL K F H ds vs) : RepL K F H (cutD ds lo hi) (cutV vs lo hi) := by
  unfold cutD cutV
  rw [r.length]
  exact (r.drop _).take _
theorem sl_ok : SlR X (rSlD X.K) := by
  intro pins s σ H x v vl vu lo hi sl Q I rx hs pl pu h
  obtain ⟨F1, F, dx, hF, r1, d, e, q⟩ := h
  cases dx with
  | lst xs =>
    cases e
    obtain ⟨a, vs, rfl, s1, _, l1⟩ := r1.un
    exact sl_list pins s σ H _ v vl vu lo hi sl Q I rx hs pl pu ⟨a, vs, rfl, SqL.of s1, fun p hp => q _ _ (same_upd hp) (lst_new hF hp (cut_rep lo hi l1))⟩
  | tup xs =>
    cases e
    obtain ⟨a, vs, rfl, s1, l1⟩ := r1
    refine sl_tupA pins s σ H _ v vl vu lo hi sl Q I rx hs pl pu ⟨a, vs, rfl, s1, fun w => ?_, fun _ p hp => q _ _ (same_upd hp) (tup_new hp (cut_rep lo hi l1))⟩
    refine q _ _ (Same.refl _) ⟨a, vs, rfl, s1, ?_⟩
    have z : cutD xs lo hi = xs := by
      unfold cutD
      rw [l1.length, w.1, w.2, List.drop_zero, Nat.sub_zero, ← l1.length, List.take_length]
    rw [z]
    exact l1
  | str z =>
    have e' : (if z.length ≤ sizeLine then Res.ok (D.str (cutS z lo hi)) else .bad) = .ok d := e
    obtain ⟨hz, rfl⟩ := ok_if e'
    cases (show x = .str z from r1)
    exact sl_str pins s σ H _ v vl vu lo hi sl Q I rx hs pl pu ⟨z, rfl, hz, q _ _ (Same.refl _) rfl⟩
  | _ => cases e
/-! ### built-ins -/
def RepA (K : PySem.W.Frag) (F : Addr → Prop) (H : Hp) : List D → List V → Prop
  | [], vs => vs = []
  | d :: ds, vs => ∃ v r, vs = v :: r ∧ RepT K NoF F H d v ∧ RepA K F H ds r
theorem call_intS : CallR X (.type "int") (fun xs H Q => ∃ z : Str, xs = [.str z] ∧ (z.cps.toList ≠ [] ∧ z.length ≤ 640 ∧ (z.cps.toList.all fun c => decide (48 ≤ c) && decide (c ≤ 57)) = true) ∧ Q (.int (NumText.digitsVal z.cps.toList : Nat)) H) := by
  intro pins s σ H vs us Q I r h
  obtain ⟨z, rfl, ⟨h1, h2, h3⟩, q⟩ := h
  cases r with
  | cons rx rr =>
    cases rr
    obtain ⟨t, rfl⟩ := rx
    have hn : intText? z = some ((NumText.digitsVal z.cps.toList : Nat) : Int) := intText_digits (fun c hc => by
      have w : (decide (48 ≤ c) && decide (c ≤ 57)) = true := List.all_eq_true.mp h3 c hc
      rw [Bool.and_eq_true, decide_eq_true_eq, decide_eq_true_eq] at w
      exact w) h1 (by omega)
    exact PySem.W.KIN.call_text hn h2 ⟨.int _, H, I.tok _, ⟨_, rfl⟩, q⟩
theorem cr_sumT (hc : X.calm = true) : CallR X (.builtin "sum") (fun vs H Q => ∃ (a : Addr) (ns : List Int), vs = [V.ref a] ∧ SqT X.K H a (ns.map V.int) ∧ Q (.int ns.sum) H) := by
  intro pins s σ H vs us Q I r h
  obtain ⟨a, ns, rfl, hs, q⟩ := h
  obtain ⟨its, rv, pl, _⟩ := I.tuple hs
  rw [Vals.ref1 r]
  have hi := rv.ints
  have hl : s.heap.IsTuple a its.toArray := pl
  obtain ⟨xs, hx⟩ := hi.allInts.items
  have hn : PySem.numsOf its.toArray.toList = ns := by rw [show its.toArray.toList = its from rfl, hi.numsOf]
  rw [hx] at hl hn
  rw [PySem.nums_intItems] at hn
  refine PySem.W.ktm_sumG (I.ok.hd hc) hl fun h' tk t' hk => ?_
  have fin : ∀ i : Int, i = ns.sum → ∃ (x : V) (H1 : Hp), Inv X pins σ H1 { s with heap := h', toks := tk } ∧ RelV x (.int i t') ∧ Q x H1 := fun i e => ⟨.int i, H, I.kept hk, ⟨_, rfl⟩, by rw [e]; exact q⟩
  refine fin _ ?_
  rw [PySem.preSum_eq, List.take_of_length_le (by simp), hn]
def rBiD (K : PySem.W.Frag) (b : Bi) : List V → Hp → VK → Prop := fun xs H Q => ∃ F1 F ds, FOk F1 H ∧ RepA K F H ds xs ∧ Gv K F1 F H (biD b ds) Q
def biV : Bi → Value
  | .len => .builtin "len" | .abs => .builtin "abs" | .int => .type "int" | .min => .builtin "min" | .max => .builtin "max" | .sum => .builtin "sum" | .all => .builtin "all" | .any => .builtin "any"
  | .tuple => .type "tuple" | .list => .type "list" | .sorted => .builtin "sorted" | .str => .type "str" | .gcd => .builtin "math.gcd" | .lcm => .builtin "math.lcm"
theorem minL_le : ∀ (r : List Int) (m : Int), minL m r ≤ m ∧ (∀ y ∈ r, minL m r ≤ y) ∧ (minL m r = m ∨ minL m r ∈ r)
  | [], m => ⟨Int.le_refl m, (fun _ h => nomatch h), Or.inl rfl⟩
  | x :: r, m => by
    obtain ⟨h1, h2, h3⟩ := minL_le r (if x < m then x else m)
    have e : minL m (x :: r) = minL (if x < m then x else m) r := rfl
    rw [e]
    by_cases z : x < m
    · rw [if_pos z] at h1 h2 h3 ⊢
      refine ⟨by omega, fun y hy => ?_, .inr ?_⟩
      · rcases List.mem_cons.mp hy with rfl | hy
        · exact h1
        · exact h2 y hy
      · rcases h3 with h3 | h3
        · rw [h3]; exact List.mem_cons_self
        · exact List.mem_cons_of_mem _ h3
    · rw [if_neg z] at h1 h2 h3 ⊢
      refine ⟨h1, fun y hy => ?_, ?_⟩
      · rcases List.mem_cons.mp hy with rfl | hy
        · omega
        · exact h2 y hy
      · rcases h3 with h3 | h3
        · exact .inl h3
        · exact .inr (List.mem_cons_of_mem _ h3)
theorem maxL_ge : ∀ (r : List Int) (m : Int), m ≤ maxL m r ∧ (∀ y ∈ r, y ≤ maxL m r) ∧ (maxL m r = m ∨ maxL m r ∈ r)
  | [], m => ⟨Int.le_refl m, (fun _ h => nomatch h), Or.inl rfl⟩
  | x :: r, m => by
    obtain ⟨h1, h2, h3⟩ := maxL_ge r (if m < x then x else m)
    have e : maxL m (x :: r) = maxL (if m < x then x else m) r := rfl
    rw [e]
    by_cases z : m < x
    · rw [if_pos z] at h1 h2 h3 ⊢
      refine ⟨by omega, fun y hy => ?_, .inr ?_⟩
      · rcases List.mem_cons.mp hy with rfl | hy
        · exact h1
        · exact h2 y hy
      · rcases h3 with h3 | h3
        · rw [h3]; exact List.mem_cons_self
        · exact List.mem_cons_of_mem _ h3
    · rw [if_neg z] at h1 h2 h3 ⊢
      refine ⟨h1, fun y hy => ?_, ?_⟩
      · rcases List.mem_cons.mp hy with rfl | hy
        · omega
        · exact h2 y hy
      · rcases h3 with h3 | h3
        · exact .inl h3
        · exact .inr (List.mem_cons_of_mem _ h3)
theorem min_is {x m : Int} {r : List Int} (h1 : m ∈ x :: r) (h2 : ∀ y ∈ x :: r, m ≤ y) : m = minL x r := by
  obtain ⟨a, b, c⟩ := minL_le r x
  have d : minL x r ≤ m := by
    rcases List.mem_cons.mp h1 with rfl | h1
    · exact a
    · exact b m h1
  have e : m ≤ minL x r := by
    rcases c with c | c
    · rw [c]; exact h2 x List.mem_cons_self
    · exact h2 _ (List.mem_cons_of_mem _ c)
  omega
theorem max_is {x m : Int} {r : List Int} (h1 : m ∈ x :: r) (h2 : ∀ y ∈ x :: r, y ≤ m) : m = maxL x r := by
  obtain ⟨a, b, c⟩ := maxL_ge r x
  have d : m ≤ maxL x r := by
    rcases List.mem_cons.mp h1 with rfl | h1
    · exact a
    · exact b m h1
  have e : maxL x r ≤ m := by
    rcases c with c | c
    · rw [c]; exact h2 x List.mem_cons_self
    · exact h2 _ (List.mem_cons_of_mem _ c)
  omega
/-! ### sorted -/
theorem insI_perm (x : Int) : ∀ l : List Int, (insI x l).Perm (x :: l)
  | [] => List.Perm.refl _
  | y :: r => by
    show (if y < x then y :: insI x r else x :: y :: r).Perm _
    split
    · exact ((insI_perm x r).cons y).trans (List.Perm.swap x y r)
    · exact List.Perm.refl _
theorem sortI_perm : ∀ l : List Int, (sortI l).Perm l
  | [] => List.Perm.refl _
  | x :: r => (insI_perm x (sortI r)).trans ((sortI_perm r).cons x)
theorem insI_srt (x : Int) : ∀ l : List Int, l.Pairwise (· ≤ ·) → (insI x l).Pairwise (· ≤ ·)
  | [], _ => List.pairwise_singleton _ _
  | y :: r, h => by
    obtain ⟨h1, h2⟩ := List.pairwise_cons.mp h
    show (if y < x then y :: insI x r else x :: y :: r).Pairwise _
    split
    · rename_i z
      refine List.pairwise_cons.mpr ⟨fun w hw => ?_, insI_srt x r h2⟩
      rcases List.mem_cons.mp ((insI_perm x r).mem_iff.mp hw) with e | e
      · omega
      · exact h1 w e
    · refine List.pairwise_cons.mpr ⟨fun w hw => ?_, h⟩
      rcases List.mem_cons.mp hw with e | e
      · omega
      · have := h1 w e; omega
theorem sortI_srt : ∀ l : List Int, (sortI l).Pairwise (· ≤ ·)
  | [] => List.Pairwise.nil
  | x :: r => insI_srt x _ (sortI_srt r)
theorem srt_uniq {α : Type} {R : α → α → Prop} (anti : ∀ x y, R x y → R y x → x = y) : ∀ {l m : List α}, l.Pairwise R → m.Pairwise R → l.Perm m → l = m
  | [], m, _, _, h => (List.Perm.eq_nil h.symm).symm
  | x :: l, [], _, _, h => absurd h.length_eq (by simp)
  | x :: l, y :: m, hl, hm, h => by
    obtain ⟨l1, l2⟩ := List.pairwise_cons.mp hl
    obtain ⟨m1, m2⟩ := List.pairwise_cons.mp hm
    have e : x = y := by
      rcases List.mem_cons.mp (h.mem_iff.mp (List.mem_cons_self (a := x) (l := l))) with z | z
      · exact z
      · rcases List.mem_cons.mp (h.mem_iff.mpr (List.mem_cons_self (a := y) (l := m))) with w | w
        · exact w.symm
        · exact anti x y (l1 y w) (m1 x z)
    subst e
    rw [srt_uniq anti l2 m2 h.cons_inv]
/-- not above -/
abbrev LeT (x y : List Int) : Prop := HT.lexLt y x = false
theorem lex_anti : ∀ x y : List Int, LeT x y → LeT y x → x = y
  | [], [], _, _ => rfl
  | [], _ :: _, _, h => by cases h
  | _ :: _, [], h, _ => by cases h
  | a :: x, b :: y, h1, h2 => by
    have h1 : HT.lexLt (b :: y) (a :: x) = false := h1
    have h2 : HT.lexLt (a :: x) (b :: y) = false := h2
    rw [HT.lexLt_cons] at h1 h2
    by_cases e : a = b
    · rw [if_pos e.symm] at h1
      rw [if_pos e] at h2
      rw [e, lex_anti x y h1 h2]
    · rw [if_neg (fun z => e z.symm)] at h1
      rw [if_neg e] at h2
      have := of_decide_eq_false h1
      have := of_decide_eq_false h2
      omega
theorem insT_perm (x : List Int) : ∀ l : List (List Int), (insT x l).Perm (x :: l)
  | [] => List.Perm.refl _
  | y :: r => by
    show (if HT.lexLt y x = true then y :: insT x r else x :: y :: r).Perm _
    split
    · exact ((insT_perm x r).cons y).trans (List.Perm.swap x y r)
    · exact List.Perm.refl _
theorem sortT_perm : ∀ l : List (List Int), (sortT l).Perm l
  | [] => List.Perm.refl _
  | x :: r => (insT_perm x (sortT r)).trans ((sortT_perm r).cons x)
theorem insT_srt (x : List Int) : ∀ l : List (List Int), l.Pairwise LeT → (insT x l).Pairwise LeT
  | [], _ => List.pairwise_singleton _ _
  | y :: r, h => by
    obtain ⟨h1, h2⟩ := List.pairwise_cons.mp h
    show (if HT.lexLt y x = true then y :: insT x r else x :: y :: r).Pairwise _
    split
    · rename_i z
      refine List.pairwise_cons.mpr ⟨fun w hw => ?_, insT_srt x r h2⟩
      rcases List.mem_cons.mp ((insT_perm x r).mem_iff.mp hw) with e | e
      · rw [e]; exact NtL.lex_asym _ _ z
      · exact h1 w e
    · rename_i z
      have z : HT.lexLt y x = false := by simpa using z
      refine List.pairwise_cons.mpr ⟨fun w hw => ?_, h⟩
      rcases List.mem_cons.mp hw with e | e
      · rw [e]; exact z
      · exact NtL.lex_tr _ _ _ z (h1 w e)
theorem sortT_srt : ∀ l : List (List Int), (sortT l).Pairwise LeT
  | [] => List.Pairwise.nil
  | x :: r => insT_srt x _ (sortT_srt r)
theorem RepFL.of_ints {K : PySem.W.Frag} {F : Addr → Prop} {H : Hp} : ∀ ns : List Int, RepL K F H (ns.map D.int) (ns.map V.int)
  | [] => rfl
  | n :: r => ⟨.int n, r.map V.int, rfl, rfl, RepFL.of_ints r⟩
theorem rows_rep {K : PySem.W.Frag} {F : Addr → Prop} {H : Hp} : ∀ {ds : List D} {vs : List V} {rs : List (List Int)}, RepL K F H ds vs → D.rows ds = some rs → (vs.length = rs.length ∧ ∀ (i : Nat) (v : V) (ns : List Int), vs[i]? = some v → rs[i]? = some ns → ns ≠ [] ∧ ∃ t, v = .ref t ∧ SqT K H t (ns.map V.int))
  | [], vs, rs, r, e => by
    cases e
    cases (show vs = [] from r)
    exact ⟨rfl, fun i v ns h => by cases h⟩
  | d :: ds, vs, rs, r, e => by
    obtain ⟨v, ws, rfl, h1, h2⟩ := r
    cases d with
    | tup xs =>
      have e : (match D.ints xs, D.rows ds with
        | some (n :: ns), some rs => some ((n :: ns) :: rs)
        | _, _ => none) = some rs := e
      split at e
      · rename_i n ns rs' e1 e2
        cases e
        obtain ⟨k1, k2⟩ := rows_rep h2 e2
        refine ⟨by rw [List.length_cons, List.length_cons, k1], fun i v' ns' hv hn => ?_⟩
        cases i with
        | zero =>
          cases hv
          cases hn
          obtain ⟨a, us, rfl, s, l⟩ := h1
          rw [l.ints e1] at s
          exact ⟨by simp, a, rfl, s⟩
        | succ i => exact k2 i v' ns' hv hn
      · cases e
    | _ => cases e
theorem sorted_run {X : Cx} {F1 F : Addr → Prop} {pins : List (Addr × Obj)} {s : Shared} {σ : L2.St} {H : Hp} {us : List Value} {Q : VK} {a : Addr} {xs : List D} {vs : List V} {d : D} (hF : FOk F1 H) (s1 : H a = some (.lst vs)) (l1 : RepL X.K F H xs vs) (e : sortedD xs = .ok d)
    (I : Inv X pins σ H s) (r : Vals [.ref a] us) (q : ∀ v H', Same H H' → RepT X.K F1 F H' d v → Q v H') :
    wpAny (model X.prog X.w) X.A (call (.builtin "sorted") us) (EP X pins σ Q) X.xe s := by
  unfold sortedD at e
  split at e
  · rename_i ns z
    cases e
    have w := l1.ints z
    subst w
    refine cr_sortedI pins s σ H _ us Q I r ⟨a, ns, rfl, SqL.of s1, fun ns' p h1 h2 hp => ?_⟩
    have en : ns' = sortI ns := srt_uniq (R := (· ≤ ·)) (fun x y h h' => Int.le_antisymm h h') h2 (sortI_srt ns) (h1.trans (sortI_perm ns).symm)
    subst en
    exact q _ _ (same_upd hp) (lst_new hF hp (RepFL.of_ints _))
  · split at e
    · rename_i rs z
      cases e
      obtain ⟨lv, hv⟩ := rows_rep l1 z
      let k : V → List Int := fun v => by classical exact if h : ∃ (ns : List Int) (t : Addr), v = V.ref t ∧ SqT X.K H t (ns.map V.int) then h.choose else []
      have inj : ∀ (x y : List Int), x.map V.int = y.map V.int → x = y := fun x => by
        induction x with
        | nil => intro y h; cases y with
          | nil => rfl
          | cons _ _ => cases h
        | cons a x ih => intro y h; cases y with
          | nil => cases h
          | cons b y =>
            rw [List.map_cons, List.map_cons] at h
            obtain ⟨h1, h2⟩ := List.cons.inj h
            injection h1 with h1
            rw [h1, ih y h2]
      have hk : ∀ (v : V) (ns : List Int) (t : Addr), v = .ref t → SqT X.K H t (ns.map V.int) → k v = ns := fun v ns t ev ht => by
        have ex : ∃ (ns : List Int) (t : Addr), v = V.ref t ∧ SqT X.K H t (ns.map V.int) := ⟨ns, t, ev, ht⟩
        have e1 : k v = ex.choose := dif_pos ex
        rw [e1]
        obtain ⟨t', e2, ht'⟩ := ex.choose_spec
        rw [ev] at e2
        cases e2
        exact inj _ _ (I.tuple_inj ht' ht)
      have km : vs.map k = rs := by
        apply List.ext_getElem?
        intro i
        rw [List.getElem?_map]
        cases ei : vs[i]? with
        | none => rw [List.getElem?_eq_none (by rw [← lv]; exact List.getElem?_eq_none_iff.mp ei)]; rfl
        | some v =>
          have hi : i < rs.length := by rw [← lv]; exact (List.getElem?_eq_some_iff.mp ei).1
          obtain ⟨_, t, ev, ht⟩ := hv i v rs[i] ei (List.getElem?_eq_getElem hi)
          rw [List.getElem?_eq_getElem hi]
          exact congrArg some (hk v _ t ev ht)
      have hx : ∀ x ∈ vs, k x ≠ [] ∧ ∃ t, x = V.ref t ∧ SqT X.K H t ((k x).map V.int) := fun x hm => by
        obtain ⟨i, ei⟩ := List.getElem?_of_mem hm
        have hi : i < rs.length := by rw [← lv]; exact (List.getElem?_eq_some_iff.mp ei).1
        obtain ⟨ne, t, ev, ht⟩ := hv i x rs[i] ei (List.getElem?_eq_getElem hi)
        have := hk x _ t ev ht
        rw [this]
        exact ⟨ne, t, ev, ht⟩
      refine cr_sortedL pins s σ H _ us Q I r ⟨a, vs, k, rfl, SqL.of s1, hx, fun ys p h1 h2 hp => ?_⟩
      have ek : ys.map k = sortT rs := by
        refine srt_uniq (R := LeT) lex_anti ?_ (sortT_srt rs) ?_
        · exact List.pairwise_map.mpr h1
        · rw [← km]
          exact (h2.perm.map k).trans (sortT_perm _).symm
      refine q _ _ (same_upd hp) (lst_new hF hp ?_)
      rw [← ek, List.map_map]
      have mem : ∀ y ∈ ys, y ∈ vs := fun y hy => h2.perm.mem_iff.mp hy
      clear ek h1 h2
      induction ys with
      | nil => exact rfl
      | cons y ys ih =>
        obtain ⟨_, t, ey, ht⟩ := hx y (mem y List.mem_cons_self)
        exact ⟨y, ys, rfl, ⟨t, _, ey, ht, RepFL.of_ints _⟩, ih fun z hz => mem z (List.mem_cons_of_mem _ hz)⟩
    · cases e
theorem bi_ok (hc : X.calm = true) (b : Bi) : CallR X (biV b) (rBiD X.K b) := by
  intro pins s σ H xs us Q I r h
  obtain ⟨F1, F, ds, hF, ra, d, e, q⟩ := h
  cases ds with
  | nil => cases b <;> cases e
  | cons d1 ds =>
    obtain ⟨v1, rs, rfl, a1, ra⟩ := ra
    cases ds with
    | nil =>
      cases (show rs = [] from ra)
      cases b with
      | len =>
        obtain ⟨n, e1, e2⟩ := bind_ok (show (lenD d1 >>= fun n => Res.ok (D.int n)) = .ok d from e)
        cases e2
        exact call_len pins s σ H _ us Q I r ⟨v1, n, rfl, a1.len e1, q _ _ (Same.refl _) rfl⟩
      | abs =>
        cases d1 with
        | int i =>
          cases e
          exact call_abs pins s σ H _ us Q I r ⟨i, congrArg (fun z => [z]) a1, q _ _ (Same.refl _) rfl⟩
        | _ => cases e
      | int =>
        cases d1 with
        | int i =>
          cases e
          exact call_int1 pins s σ H _ us Q I r (.inl ⟨i, congrArg (fun z => [z]) a1, q _ _ (Same.refl _) rfl⟩)
        | bl b =>
          cases e
          exact call_int1 pins s σ H _ us Q I r (.inr ⟨b, congrArg (fun z => [z]) a1, q _ _ (Same.refl _) rfl⟩)
        | str z =>
          have e' : (if z.cps.toList ≠ [] ∧ z.length ≤ 640 ∧ (z.cps.toList.all fun c => decide (48 ≤ c) && decide (c ≤ 57)) = true then Res.ok (D.int (NumText.digitsVal z.cps.toList : Nat)) else .bad) = .ok d := e
          obtain ⟨hz, rfl⟩ := ok_if e'
          exact call_intS pins s σ H _ us Q I r ⟨z, congrArg (fun z => [z]) a1, hz, q _ _ (Same.refl _) rfl⟩
        | _ => cases e
      | min =>
        cases d1 with
        | lst xs =>
          have e' : (match D.ints xs with
            | some (x :: r) => Res.ok (D.int (minL x r))
            | _ => .bad) = .ok d := e
          cases z : D.ints xs with
          | none => rw [z] at e'; cases e'
          | some ns =>
            rw [z] at e'
            cases ns with
            | nil => cases e'
            | cons x ns =>
              cases e'
              obtain ⟨a, vs, rfl, s1, _, l1⟩ := a1.un
              have w := l1.ints z
              subst w
              exact cr_min hc pins s σ H _ us Q I r ⟨a, x :: ns, rfl, SqL.of s1, Nat.succ_pos _, fun m h1 h2 => by rw [min_is h1 h2]; exact q _ _ (Same.refl _) rfl⟩
        | _ => cases e
      | max =>
        cases d1 with
        | lst xs =>
          have e' : (match D.ints xs with
            | some (x :: r) => Res.ok (D.int (maxL x r))
            | _ => .bad) = .ok d := e
          cases z : D.ints xs with
          | none => rw [z] at e'; cases e'
          | some ns =>
            rw [z] at e'
            cases ns with
            | nil => cases e'
            | cons x ns =>
              cases e'
              obtain ⟨a, vs, rfl, s1, _, l1⟩ := a1.un
              have w := l1.ints z
              subst w
              exact cr_max hc pins s σ H _ us Q I r ⟨a, x :: ns, rfl, SqL.of s1, Nat.succ_pos _, fun m h1 h2 => by rw [max_is h1 h2]; exact q _ _ (Same.refl _) rfl⟩
        | _ => cases e
      | sum =>
        cases d1 with
        | lst xs =>
          have e' : (match D.ints xs with
            | some ns => Res.ok (D.int ns.sum)
            | _ => .bad) = .ok d := e
          cases z : D.ints xs with
          | none => rw [z] at e'; cases e'
          | some ns =>
            rw [z] at e'
            cases e'
            obtain ⟨a, vs, rfl, s1, _, l1⟩ := a1.un
            have w := l1.ints z
            subst w
            exact cr_sum hc pins s σ H _ us Q I r ⟨a, ns, rfl, SqL.of s1, q _ _ (Same.refl _) rfl⟩
        | tup xs =>
          have e' : (match D.ints xs with
            | some ns => Res.ok (D.int ns.sum)
            | _ => .bad) = .ok d := e
          cases z : D.ints xs with
          | none => rw [z] at e'; cases e'
          | some ns =>
            rw [z] at e'
            cases e'
            obtain ⟨a, vs, rfl, s1, l1⟩ := a1
            have w := l1.ints z
            subst w
            exact cr_sumT hc pins s σ H _ us Q I r ⟨a, ns, rfl, s1, q _ _ (Same.refl _) rfl⟩
        | _ => cases e
      | all =>
        cases d1 with
        | lst xs =>
          have e' : (match D.bls xs with
            | some ns => Res.ok (D.bl (ns.all id))
            | _ => .bad) = .ok d := e
          cases z : D.bls xs with
          | none => rw [z] at e'; cases e'
          | some ns =>
            rw [z] at e'
            cases e'
            obtain ⟨a, vs, rfl, s1, _, l1⟩ := a1.un
            have w := l1.bls z
            subst w
            exact cr_all hc pins s σ H _ us Q I r ⟨a, ns, rfl, SqL.of s1, q _ _ (Same.refl _) rfl⟩
        | _ => cases e
      | any =>
        cases d1 with
        | lst xs =>
          have e' : (match D.bls xs with
            | some ns => Res.ok (D.bl (ns.any id))
            | _ => .bad) = .ok d := e
          cases z : D.bls xs with
          | none => rw [z] at e'; cases e'
          | some ns =>
            rw [z] at e'
            cases e'
            obtain ⟨a, vs, rfl, s1, _, l1⟩ := a1.un
            have w := l1.bls z
            subst w
            exact cr_any hc pins s σ H _ us Q I r ⟨a, ns, rfl, SqL.of s1, q _ _ (Same.refl _) rfl⟩
        | _ => cases e
      | tuple =>
        cases d1 with
        | lst xs =>
          cases e
          obtain ⟨a, vs, rfl, s1, _, l1⟩ := a1.un
          exact call_tuple_of pins s σ H _ us Q I r ⟨a, vs, rfl, .inl ⟨SqL.of s1, fun p hp => q _ _ (same_upd hp) (tup_new hp l1)⟩⟩
        | tup xs =>
          cases e
          obtain ⟨a, vs, rfl, s1, l1⟩ := a1
          exact call_tuple_of pins s σ H _ us Q I r ⟨a, vs, rfl, .inr ⟨s1, q _ _ (Same.refl _) ⟨a, vs, rfl, s1, l1⟩⟩⟩
        | _ => cases e
      | list =>
        cases d1 with
        | lst xs =>
          cases e
          obtain ⟨a, vs, rfl, s1, _, l1⟩ := a1.un
          exact call_list_of pins s σ H _ us Q I r ⟨a, vs, rfl, .inl (SqL.of s1), fun p hp => q _ _ (same_upd hp) (lst_new hF hp l1)⟩
        | tup xs =>
          cases e
          obtain ⟨a, vs, rfl, s1, l1⟩ := a1
          exact call_list_of pins s σ H _ us Q I r ⟨a, vs, rfl, .inr s1, fun p hp => q _ _ (same_upd hp) (lst_new hF hp l1)⟩
        | _ => cases e
      | sorted =>
        cases d1 with
        | lst xs =>
          obtain ⟨a, vs, rfl, s1, _, l1⟩ := a1.un
          exact sorted_run (F1 := F1) (F := F) hF s1 l1 (show sortedD xs = .ok d from e) I r q
        | _ => cases e
      | str =>
        cases d1 with
        | int i =>
          have e' : (if i.natAbs.log2 < 1920 then Res.ok (D.str (Str.ofString (toString i))) else .bad) = .ok d := e
          obtain ⟨hz, rfl⟩ := ok_if e'
          exact call_str_int pins s σ H _ us Q I r ⟨i, congrArg (fun z => [z]) a1, hz, q _ _ (Same.refl _) rfl⟩
        | _ => cases e
      | gcd => cases d1 <;> cases e
      | lcm => cases d1 <;> cases e
    | cons d2 ds =>
      obtain ⟨v2, rs, rfl, a2, ra⟩ := ra
      cases ds with
      | nil =>
        cases (show rs = [] from ra)
        cases b with
        | min =>
          cases d1 with
          | int i =>
            cases d2 with
            | int j =>
              cases e
              cases (show v1 = .int i from a1)
              cases (show v2 = .int j from a2)
              exact call_min2 hc pins s σ H _ us Q I r ⟨i, j, rfl, q _ _ (Same.refl _) rfl⟩
            | _ => cases e
          | _ => cases e
        | max =>
          cases d1 with
          | int i =>
            cases d2 with
            | int j =>
              cases e
              cases (show v1 = .int i from a1)
              cases (show v2 = .int j from a2)
              exact call_max2 hc pins s σ H _ us Q I r ⟨i, j, rfl, q _ _ (Same.refl _) rfl⟩
            | _ => cases e
          | _ => cases e
        | gcd =>
          cases d1 with
          | int i =>
            cases d2 with
            | int j =>
              cases e
              cases (show v1 = .int i from a1)
              cases (show v2 = .int j from a2)
              exact cr_gcd pins s σ H _ us Q I r ⟨i, j, rfl, q _ _ (Same.refl _) rfl⟩
            | _ => cases e
          | _ => cases e
        | lcm =>
          cases d1 with
          | int i =>
            cases d2 with
            | int j =>
              obtain ⟨⟨z1, z2⟩, rfl⟩ := ok_if (show (if i.natAbs.log2 < 13000 ∧ j.natAbs.log2 < 13000 then Res.ok (D.int (Nat.lcm i.natAbs j.natAbs : Nat)) else .bad) = .ok d from e)
              cases (show v1 = .int i from a1)
              cases (show v2 = .int j from a2)
              exact cr_lcm pins s σ H _ us Q I r ⟨i, j, rfl, z1, z2, q _ _ (Same.refl _) rfl⟩
            | _ => cases e
          | _ => cases e
        | abs => cases d1 <;> cases e
        | int => cases d1 <;> cases e
        | sum => cases d1 <;> cases e
        | all => cases d1 <;> cases e
        | any => cases d1 <;> cases e
        | tuple => cases d1 <;> cases e
        | list => cases d1 <;> cases e
        | sorted => cases d1 <;> cases e
        | str => cases d1 <;> cases e
        | _ => cases e
      | cons d3 ds => cases b <;> cases d1 <;> (try cases e) <;> cases d2 <;> cases e
/-- isinstance(x, T) -/
def rIsD (K : PySem.W.Frag) (t : String) : List V → Hp → VK → Prop := fun xs H Q => ∃ F F1 dx v d, xs = [v, .ty t] ∧ RepT K F1 F H dx v ∧ isiD dx t = .ok d ∧ ∀ b, d = .bl b → Q (.bl b) H
theorem isi_ok (t : String) : CallR X (.builtin "isinstance") (rIsD X.K t) := by
  intro pins s σ H xs us Q I r h
  obtain ⟨F, F1, dx, v, d, rfl, r1, e, q⟩ := h
  have e' : (match kitB dx.ty t with
    | some b => Res.ok (D.bl b)
    | none => .bad) = .ok d := e
  cases z : kitB dx.ty t with
  | none => rw [z] at e'; cases e'
  | some b =>
    rw [z] at e'
    cases e'
    exact call_isi pins s σ H _ us Q I r ⟨v, .ty t, .type dx.ty, .type t, b, rfl, .ty t, r1.tyOf, kit_ty z, q b rfl⟩
theorem idx_ok {x : Str} : ∀ {ys : List Str} {j : Nat}, idxS x ys = some j → ys[j]? = some x ∧ ∀ m z, m < j → ys[m]? = some z → z ≠ x
  | [], j, e => by cases e
  | y :: r, j, e => by
    have e : (if y = x then some 0 else (idxS x r).map (· + 1)) = some j := e
    by_cases h : y = x
    · rw [if_pos h] at e
      cases e
      exact ⟨by rw [h]; rfl, fun m z hm => by omega⟩
    · rw [if_neg h] at e
      cases q : idxS x r with
      | none => rw [q] at e; cases e
      | some k =>
        rw [q] at e
        cases e
        obtain ⟨h1, h2⟩ := idx_ok q
        refine ⟨h1, fun m z hm hz => ?_⟩
        cases m with
        | zero => cases (show some y = some z from hz); exact h
        | succ m => exact h2 m z (Nat.lt_of_succ_lt_succ hm) hz
def meS : Me → Str
  | .upper => "upper" | .index => "index" | .join => "join" | .split => "split" | .count => "count"
def meTy : Me → String
  | .index => "list"
  | .count => "list"
  | _ => "str"
def meV : Me → String
  | .upper => "str.upper" | .index => "list.index" | .join => "str.join" | .split => "str.split" | .count => "list.count"
def rMeD (K : PySem.W.Frag) (m : Me) : V → List V → Hp → VK → Prop := fun x xs H Q => ∃ F1 F F2 F1' F' dx ds, FOk F1 H ∧ RepT K F1' F' H dx x ∧ RepA K F2 H ds xs ∧ Gv K F1 F H (meD m dx ds) Q
def rCnt (K : PySem.W.Frag) : V → List V → Hp → VK → Prop := fun x xs H Q => ∃ (a : Addr) (ys : List V) (y : V), x = V.ref a ∧ xs = [y] ∧ SqL K H a ys ∧ L2.flatV y = true ∧ ys.all L2.flatV = true ∧ Q (.int ((ys.countP fun z => L2.eqV z y : Nat) : Int)) H
theorem cnt_eqU {y : V} : ∀ {ys : List V} {us : List Value}, L2.Vals ys us → ys.all L2.flatV = true → us.countP (L2.eqU y) = ys.countP fun z => L2.eqV z y
  | _, _, .nil, _ => rfl
  | z :: ys, u :: us, .cons r t, f => by
    rw [List.all_cons, Bool.and_eq_true] at f
    rw [List.countP_cons, List.countP_cons, cnt_eqU t f.2, L2.eqU_of r f.1]
theorem mt_cnt : MtR X "list.count" (rCnt X.K) := by
  intro pins s σ H x xs v us Q I rx rxs h
  obtain ⟨a, ys, y, rfl, rfl, hs, fy, fys, q⟩ := h
  cases rx
  cases rxs with
  | cons ry rt =>
    rename_i uy ut
    cases rt
    obtain ⟨its, rv, ⟨⟨cls, dd, data, sl⟩, n, ho, hc, hdn, hd⟩, hlen⟩ := I.list hs
    simp only at hc hd
    subst hc hd
    refine call_meets PySem.F.slot_list_count ⟨_, ho, rfl⟩ PySem.F.entry_list_count (PySem.F.args_list_count_2 _ _)
      (SeqAt.list_countAt a its.toArray n dd sl uy (L2.eqU y)) ⟨ho, fun u' hu' => L2.mem_eqAt ry fy rv fys u' (by simpa using hu'), ?_⟩
    have ec : its.toArray.toList.countP (L2.eqU y) = ys.countP fun z => L2.eqV z y := cnt_eqU rv fys
    refine ⟨.int ((ys.countP fun z => L2.eqV z y : Nat) : Int), H, I.tok _, ⟨s.toks, ?_⟩, q⟩
    show Value.int ((its.toArray.toList.countP (L2.eqU y) : Nat) : Int) s.toks = Value.int ((ys.countP fun z => L2.eqV z y : Nat) : Int) s.toks
    rw [ec]
theorem me_ok (m : Me) : MtR X (meV m) (rMeD X.K m) := by
  intro pins s σ H x xs v us Q I rx rxs h
  obtain ⟨F1, F, F2, F1', F', dx, ds, hF, r1, ra, d, e, q⟩ := h
  cases m with
  | upper =>
    cases dx with
    | str z =>
      cases ds with
      | nil =>
        obtain ⟨hz, rfl⟩ := ok_if (show (if z.length ≤ 5592405 then Res.ok (D.str (Txt.upper z)) else .bad) = .ok d from e)
        cases (show xs = [] from ra)
        exact mt_upper pins s σ H x _ v us Q I rx rxs ⟨z, r1, rfl, hz, q _ _ (Same.refl _) rfl⟩
      | cons _ _ => cases e
    | _ => cases ds <;> cases e
  | index =>
    cases dx with
    | lst zs =>
      cases ds with
      | nil => cases e
      | cons d1 ds =>
        cases ds with
        | cons _ _ => cases d1 <;> cases e
        | nil =>
          cases d1 with
          | str z =>
            have e' : (match D.strs zs with
              | some ys => (match idxS z ys with
                | some j => Res.ok (D.int (j : Nat))
                | none => .bad)
              | none => .bad) = .ok d := e
            cases z1 : D.strs zs with
            | none => rw [z1] at e'; cases e'
            | some ys =>
              rw [z1] at e'
              have e' : (match idxS z ys with
                | some j => Res.ok (D.int (j : Nat))
                | none => .bad) = .ok d := e'
              cases z2 : idxS z ys with
              | none => rw [z2] at e'; cases e'
              | some j =>
                rw [z2] at e'
                cases e'
                obtain ⟨a, vs, rfl, s1, _, l1⟩ := r1
                have w := l1.strs z1
                subst w
                obtain ⟨v1, rs, rfl, a1, ra⟩ := ra
                cases (show rs = [] from ra)
                cases (show v1 = .str z from a1)
                obtain ⟨h1, h2⟩ := idx_ok z2
                refine mt_index pins s σ H _ _ v us Q I rx rxs ⟨a, ys.map V.str, .str z, j, .str z, rfl, rfl, SqL.of s1, rfl, ?_, ?_, ?_, ?_, q _ _ (Same.refl _) rfl⟩
                · rw [List.all_map]; exact List.all_eq_true.mpr fun _ _ => rfl
                · rw [List.getElem?_map, h1]; rfl
                · show decide (z = z) = true
                  exact decide_eq_true rfl
                · intro m z' hm hz
                  rw [List.getElem?_map] at hz
                  cases z3 : ys[m]? with
                  | none => rw [z3] at hz; cases hz
                  | some y =>
                    rw [z3] at hz
                    cases hz
                    exact decide_eq_false (h2 m y hm z3)
          | _ => cases e
    | _ => cases ds <;> cases e
  | join =>
    cases dx with
    | str z =>
      cases ds with
      | nil => cases e
      | cons d1 ds =>
        cases ds with
        | cons _ _ => cases d1 <;> cases e
        | nil =>
          cases d1 with
          | lst zs =>
            have e' : (match D.strs zs with
              | some ys => if (ys.map (fun w : Str => w.length)).sum + ys.length * z.length ≤ 16777216 then Res.ok (D.str (Txt.join z ys)) else .bad
              | none => .bad) = .ok d := e
            cases z1 : D.strs zs with
            | none => rw [z1] at e'; cases e'
            | some ys =>
              rw [z1] at e'
              obtain ⟨hz, rfl⟩ := ok_if (show (if (ys.map (fun w : Str => w.length)).sum + ys.length * z.length ≤ 16777216 then Res.ok (D.str (Txt.join z ys)) else .bad) = .ok d from e')
              obtain ⟨v1, rs, rfl, a1, ra⟩ := ra
              cases (show rs = [] from ra)
              obtain ⟨a, vs, rfl, s1, _, l1⟩ := a1.un
              have w := l1.strs z1
              subst w
              exact mt_join pins s σ H x _ v us Q I rx rxs ⟨z, a, ys, r1, rfl, .inl (SqL.of s1), hz, q _ _ (Same.refl _) rfl⟩
          | _ => cases e
    | _ => cases ds <;> cases e
  | count =>
    cases dx with
    | lst zs =>
      cases ds with
      | nil => cases e
      | cons d1 ds =>
        cases ds with
        | cons _ _ => cases e
        | nil =>
          obtain ⟨hf, rfl⟩ := ok_if (show (if (zs.all D.flat && d1.flat) = true then Res.ok (D.int (zs.countP fun z => z.eqv d1 : Nat)) else .bad) = .ok d from e)
          rw [Bool.and_eq_true] at hf
          obtain ⟨a, vs, rfl, s1, _, l1⟩ := r1
          obtain ⟨v1, rs, rfl, a1, ra⟩ := ra
          cases (show rs = [] from ra)
          obtain ⟨c1, c2⟩ := RepFL.cntV (F' := F) (a1.flat (F := F) hf.2) hf.2 l1 hf.1
          refine mt_cnt pins s σ H _ _ v us Q I rx rxs ⟨a, vs, v1, rfl, rfl, SqL.of s1, (a1.flat (F := F) hf.2).flatV hf.2, c1, ?_⟩
          rw [c2]
          exact q _ _ (Same.refl _) rfl
    | _ => cases ds <;> cases e
  | split =>
    cases dx with
    | str z =>
      cases ds with
      | nil => cases e
      | cons d1 ds =>
        cases ds with
        | cons _ _ => cases d1 <;> cases e
        | nil =>
          cases d1 with
          | str y =>
            obtain ⟨⟨hz, hl⟩, rfl⟩ := ok_if (show (if (y.length == 0) = false ∧ z.length + 2 ≤ sizeLine then Res.ok (D.lst ((Txt.split z y).map D.str)) else .bad) = .ok d from e)
            obtain ⟨v1, rs, rfl, a1, ra⟩ := ra
            cases (show rs = [] from ra)
            cases (show v1 = .str y from a1)
            exact mt_split pins s σ H x _ v us Q I rx rxs ⟨z, y, r1, rfl, hz, hl, fun p hp => q _ _ (same_upd hp) (lst_new hF hp (RepFL.of_strs _))⟩
          | _ => cases e
    | _ => cases ds <;> cases e
theorem me_ty {K : PySem.W.Frag} {m : Me} {dx : D} {F1 F : Addr → Prop} {H : Hp} {x : V} (h : meT m dx = .ok ()) (r : RepT K F1 F H dx x) : tyV K (meTy m) x H := by
  cases m with
  | index =>
    cases dx with
    | lst zs =>
      obtain ⟨a, vs, rfl, s1, _, _⟩ := r
      exact .inl ⟨rfl, vs, .inl (.inl s1)⟩
    | _ => cases h
  | count =>
    cases dx with
    | lst zs =>
      obtain ⟨a, vs, rfl, s1, _, _⟩ := r
      exact .inl ⟨rfl, vs, .inl (.inl s1)⟩
    | _ => cases h
  | _ =>
    cases dx with
    | str z => cases (show x = .str z from r); rfl
    | _ => cases h
end
end PyI
/-! PyI, part 4: expressions. -/
namespace PyI
open PySem PySem.Spec PyProof.Rows L2
/-! ### results -/
def Post {α : Type} (r : Res α) (q : α → Prop) (x : Str → List D → Prop) : Prop := match r with
  | .ok a => q a
  | .exc c ds => x c ds
  | .bad => False
theorem Post.bind {α β : Type} {r : Res α} {f : α → Res β} {q : β → Prop} {x : Str → List D → Prop} (h : Post (r >>= f) q x) : Post r (fun a => Post (f a) q x) x := by
  cases r with
  | ok a => exact h
  | exc c ds => exact h
  | bad => exact h
theorem Post.imp {α : Type} {r : Res α} {q q' : α → Prop} {x x' : Str → List D → Prop} (h : Post r q x) (i : ∀ a, r = .ok a → q a → q' a) (j : ∀ c ds, x c ds → x' c ds) : Post r q' x' := by
  cases r with
  | ok a => exact i a rfl h
  | exc c ds => exact j c ds h
  | bad => exact h
theorem Post.nox {α : Type} {r : Res α} {q : α → Prop} {x : Str → List D → Prop} (h : Post (nox r) q x) : Post r q (fun _ _ => False) := by
  cases r with
  | ok a => exact h
  | exc c ds => exact h
  | bad => exact h
/-! ### the context -/
structure Cc where
  K : PySem.W.Frag
  mg : Str → Option Value
  F0 : Addr → Prop
  H0 : Hp
  W : WX
  G : Str → Option D
  Φ : Str → List D → Res D
  xf : Str → List Str
  B : Addr → Prop
  HB : Hp
  /-- this def returns lists of its own -/
  rf : Bool
  frs : Str → Bool
abbrev Cc.quiet (c : Cc) : Cc := { c with W := fun _ _ _ _ => False }
/-- the lists that are somebody's own: the callers', the def's own but those of L -/
def Fb (c : Cc) (own : Nat → Option Addr) (L : List Nat) : Addr → Prop := fun a => c.F0 a ∨ ∃ j, own j = some a ∧ j ∉ L
/-- since HB stood, only lists of B have been changed -/
structure Bs (c : Cc) (own : Nat → Option Addr) (H : Hp) : Prop where
  k : Kept c.B c.HB H
  n : ∀ (i : Nat) (a : Addr), own i = some a → c.B a ∨ c.HB a = none
  f : ∀ a, c.F0 a → c.B a
structure Sim (c : Cc) (own : Nat → Option Addr) (τ : Env) (σ : L2.St) (H : Hp) : Prop where
  len : τ.length = σ.length
  val : ∀ (i : Nat) (d : D), τ[i]? = some (some (C.v d)) → ∃ v, σ[i]? = some (some v) ∧ Rep c.K (Fb c own []) H d v
  ows : ∀ (i : Nat) (ds : List D), τ[i]? = some (some (C.o ds)) → ∃ a vs, own i = some a ∧ σ[i]? = some (some (.ref a)) ∧ H a = some (.lst vs) ∧ RepL c.K (Fb c own []) H ds vs
  inj : ∀ i j a, own i = some a → own j = some a → i = j
  al : ∀ i a, own i = some a → c.H0 a = none ∧ H a ≠ none
  fin : ∃ n, ∀ i, n ≤ i → own i = none
  f0 : FOk c.F0 c.H0
  same : Same c.H0 H
  bs : Bs c own H
theorem Bs.mono {c : Cc} {own : Nat → Option Addr} {H H' : Hp} (S : Bs c own H) (s : Same H H') : Bs c own H' := ⟨fun a o e n => s a o (S.k a o e n), S.n, S.f⟩
theorem Bs.new {c : Cc} {own : Nat → Option Addr} {H : Hp} (S : Bs c own H) {a : Addr} (h : H a = none) : c.B a ∨ c.HB a = none := by
  by_cases b : c.B a
  · exact .inl b
  · cases z : c.HB a with
    | none => exact .inr rfl
    | some o => have := S.k a o z (.inl b); rw [h] at this; cases this
section
variable {c : Cc} {own : Nat → Option Addr} {τ : Env} {σ : L2.St} {H H' : Hp} {L L' : List Nat}
theorem Fb.mono (h : ∀ j ∈ L, j ∈ L') (a : Addr) (x : Fb c own L' a) : Fb c own L a := x.imp id fun ⟨j, e, n⟩ => ⟨j, e, fun z => n (h j z)⟩
theorem Fb.nil (a : Addr) (x : Fb c own L a) : Fb c own [] a := Fb.mono (L := []) (L' := L) (fun _ z => absurd z List.not_mem_nil) a x
theorem Sim.fok (S : Sim c own τ σ H) : FOk (Fb c own L) H := fun a x n => by
  rcases x with x | ⟨j, e, _⟩
  · exact S.f0 a x (S.same.free n)
  · exact (S.al j a e).2 n
theorem Sim.mono (S : Sim c own τ σ H) (s : Same H H') : Sim c own τ σ H' where
  len := S.len
  val := fun i d e => let ⟨v, h1, h2⟩ := S.val i d e; ⟨v, h1, h2.same s⟩
  ows := fun i ds e => let ⟨a, vs, h1, h2, h3, h4⟩ := S.ows i ds e; ⟨a, vs, h1, h2, s _ _ h3, h4.same s⟩
  inj := S.inj
  al := fun i a e => ⟨(S.al i a e).1, fun n => (S.al i a e).2 (s.free n)⟩
  fin := S.fin
  f0 := S.f0
  same := S.same.trans s
  bs := S.bs.mono s
theorem Sim.quiet (S : Sim c own τ σ H) : Sim c.quiet own τ σ H := ⟨S.len, S.val, S.ows, S.inj, S.al, S.fin, S.f0, S.same, S.bs.k, S.bs.n, S.bs.f⟩
theorem Sim.get (S : Sim c own τ σ H) {i : Nat} {d : D} (e : getV τ i = .ok d) : ∃ v, σ[i]? = some (some v) ∧ RepT c.K (Fb c own [i]) (Fb c own []) H d v := by
  unfold getV at e
  cases z : τ[i]? with
  | none => rw [z] at e; cases e
  | some o =>
    rw [z] at e
    cases o with
    | none => cases e
    | some k =>
      cases k with
      | v d' =>
        cases e
        obtain ⟨v, h1, h2⟩ := S.val i d z
        exact ⟨v, h1, h2.t.weak (fun a x => Fb.nil a x) (fun _ x => x)⟩
      | o xs =>
        cases e
        obtain ⟨a, vs, h1, h2, h3, h4⟩ := S.ows i xs z
        refine ⟨_, h2, a, vs, rfl, h3, ?_, h4.weak fun b z => z.elim id fun z => by rw [z]; exact .inr ⟨i, h1, List.not_mem_nil⟩⟩
        rintro (x | ⟨j, e, n⟩)
        · exact S.f0 a x (S.al i a h1).1
        · exact n (by rw [S.inj j i a e h1]; exact List.mem_cons_self)
end
/-- an exception as the heap bears it -/
def ExAt (K : PySem.W.Frag) (mg : Str → Option Value) (xf : Str → List Str) (F : Addr → Prop) (H : Hp) (x : Str) (ds : List D) (cls : Value) (dd : Option Addr) : Prop :=
  ∃ C, mg x = some (.ref C) ∧ cls = .ref C ∧ ∃ (d : Addr) (fs : List (Str × V)), dd = some d ∧ H d = some (.xd fs.reverse) ∧ fs.map (·.1) = xf x ∧ RepL K F H ds (fs.map (·.2))
def ExW (c : Cc) (σ : L2.St) (H : Hp) (x : Str) (ds : List D) : Prop := ∀ cls dd H', Same H H' → ExAt c.K c.mg c.xf c.F0 H' x ds cls dd → c.W cls dd σ H'
theorem ExW.same {c : Cc} {σ : L2.St} {H H' : Hp} {x : Str} {ds : List D} (s : Same H H') (h : ExW c σ H x ds) : ExW c σ H' x ds := fun cls dd H2 s2 e => h cls dd H2 (s.trans s2) e
def valsOf (vs : List V) (fs : List (Str × Nat)) : List (Str × V) := fs.map fun p => (p.1, vs.getD p.2 .non)
def idx : Nat → List Str → List (Str × Nat)
  | _, [] => []
  | n, f :: r => (f, n) :: idx (n + 1) r
/-- the promise of an exception's __init__ -/
def spInit (C : Addr) (np : Nat) (fs : List (Str × Nat)) : Sp := fun vs H Q _ => ∃ a us, vs = .ref a :: us ∧ us.length = np ∧ H a = some (exo a C none) ∧ ∀ dx, H dx = none → dx ≠ a → Q .non (upd (upd H dx (exd dx (valsOf vs fs).reverse)) a (exo a C (some dx)))
/-! ### readings -/
/-- what the top of a value is not: somebody's own list; a list that stood already, where the expression makes one -/
def Ft (c : Cc) (own : Nat → Option Addr) (e : E) (H : Hp) : Addr → Prop := fun a => Fb c own (lt e) a ∨ (fresh e = true ∧ H a ≠ none)
def rdE (c : Cc) (e : E) : TE := fun σ H Q => ∃ own τ, Sim c own τ σ H ∧ Post (ev c.G c.Φ e τ) (fun d => ∀ v H', Same H H' → RepT c.K (Ft c own e H) (Fb c own (li e)) H' d v → Q v H') (ExW c σ H)
def rdT (c : Cc) (e : E) : TT := fun σ H Q => ∃ own τ, Sim c own τ σ H ∧ Post (ev c.G c.Φ e τ >>= blD) (fun b => ∀ H', Same H H' → Q b H') (ExW c σ H)
def rdA (c : Cc) (es : Es) : TA := fun σ H Q => ∃ own τ, Sim c own τ σ H ∧ Post (evs c.G c.Φ es τ) (fun ds => ∀ vs H', Same H H' → RepL c.K (Fb c own (las es)) H' ds vs → RepA c.K (Fb c own (lis es)) H' ds vs → Q vs H') (ExW c σ H)
def rdO (c : Cc) (o : Op1) : TO := fun σ H Q => ∃ own τ, Sim c own τ σ H ∧ Post (evo c.G c.Φ o τ) (fun i => ∀ H', Same H H' → Q i H') (ExW c σ H)
/-- what is walked yields the items, whatever happens to the lists of F; they hold no list that is younger than H -/
def ItOk (K : PySem.W.Frag) (F F2 : Addr → Prop) (J : It) (H : Hp) (items : List D) : Prop := ∀ (Y : Addr → Prop), (∀ a, Y a → H a = none) → ∀ H1, Kept F H H1 →
  (∀ (i : Nat) (d : D), items[i]? = some d → J.go i H1 ∧ ∀ x H2, J.yld i H1 x H2 → Same H1 H2 ∧ Rep K (fun a => F2 a ∨ Y a) H2 d x) ∧ ∀ i, items.length ≤ i → J.stop i H1
def rdS (c : Cc) (s : Src) : TI := fun σ H R => ∃ own τ, Sim c own τ σ H ∧ Post (evS c.G c.Φ s τ) (fun items => ∀ J H', Same H H' → ItOk c.K (Fb c own (ltS s ++ liS s)) (Fb c own (liS s)) J H' items → R J H') (ExW c σ H)
theorem rdT_of {c : Cc} {e : E} {σ : L2.St} {H : Hp} {Q : Bool → Hp → Prop} (h : rdT c e σ H Q) : tB (rdE c e) σ H Q := by
  obtain ⟨own, τ, S, p⟩ := h
  refine ⟨own, τ, S, p.bind.imp (fun d _ h v H' s r => ?_) fun _ _ x => x⟩
  cases d with
  | bl b => exact ⟨b, r, h H' s⟩
  | _ => exact h.elim
section
variable {X : Cx}
theorem peImp {e : Expr} {t t' : TE} (h : PE X e t) (i : ∀ σ H Q, t' σ H Q → t σ H Q) : PE X e t' := ⟨fun pins s σ H Q I q => h.run pins s σ H Q I (i _ _ _ q)⟩
theorem ptImp {e : Expr} {t t' : TT} (h : PT X e t) (i : ∀ σ H Q, t' σ H Q → t σ H Q) : PT X e t' := ⟨fun pins s σ H Q I q => h.run pins s σ H Q I (i _ _ _ q)⟩
theorem paImp {e : List Expr} {t t' : TA} (h : PA X e t) (i : ∀ σ H Q, t' σ H Q → t σ H Q) : PA X e t' := ⟨fun pos pins s σ H Q I q => h.run pos pins s σ H Q I (i _ _ _ q)⟩
theorem poImp {e : Option Expr} {t t' : TO} (h : PO X e t) (i : ∀ σ H Q, t' σ H Q → t σ H Q) : PO X e t' := ⟨fun pins s σ H Q I q => h.run pins s σ H Q I (i _ _ _ q)⟩
theorem piImp {tg e : Expr} {t t' : TI} (h : PI X tg e t) (i : ∀ σ H Q, t' σ H Q → t σ H Q) : PI X tg e t' := ⟨fun pins s σ H Q I q => h.run pins s σ H Q I (i _ _ _ q)⟩
end
/-! ### the check of a piece of syntax against an expression of ours -/
def vis (sc : Scope) (x : Str) : Bool := match sc.names.lookup x with
  | some .local => true | some .cell => true | some .free => true
  | _ => false
def gl (sc : Scope) (x : Str) : Bool := match sc.names.lookup x with
  | some .globalImplicit => true
  | _ => false
def isLocal (sc : Scope) (x : Str) : Bool := match sc.names.lookup x with
  | some .local => true
  | _ => false
def isCell (sc : Scope) (x : Str) : Bool := sc.names.lookup x == some .cell
def esLen : Es → Nat
  | .nil => 0
  | .cons _ r => esLen r + 1
def nmOk (x : Str) : Bool := !(x == ("__debug__" : Str)) && !(x == ("__classdict__" : Str)) && !(decide (x = ("__name__" : Str)))
def notStar : Expr → Bool
  | .Starred .. => false
  | _ => true
def notSet : Expr → Bool
  | .Set .. => false
  | _ => true
def notSlice : Expr → Bool
  | .Slice .. => false
  | _ => true
def plainT : Expr → Bool
  | .UnaryOp .Not _ _ => false
  | .BoolOp .. => false
  | .IfExp .. => false
  | .Compare .. => false
  | _ => true
def opk : Op → Operator → Bool
  | .add, .Add => true | .sub, .Sub => true | .mul, .Mult => true | .fdiv, .FloorDiv => true | .mod, .Mod => true | .pow, .Pow => true
  | _, _ => false
theorem opk_ok {o : Op} {p : Operator} (h : opk o p = true) : p = pyOp o := by cases o <;> cases p <;> first | rfl | cases h
def cmk : Cm → CmpOp → Bool
  | .eq, .Eq => true | .ne, .NotEq => true | .lt, .Lt => true | .le, .LtE => true | .gt, .Gt => true | .ge, .GtE => true | .isN, .Is => true | .notN, .IsNot => true | .in_, .In => true | .notIn, .NotIn => true
  | _, _ => false
theorem cmk_ok {o : Cm} {p : CmpOp} (h : cmk o p = true) : p = pyCm o := by cases o <;> cases p <;> first | rfl | cases h
def biName : Bi → Str
  | .len => "len" | .abs => "abs" | .int => "int" | .min => "min" | .max => "max" | .sum => "sum" | .all => "all" | .any => "any" | .tuple => "tuple" | .list => "list" | .sorted => "sorted" | .str => "str" | .gcd => "gcd" | .lcm => "lcm"
/-- what may stand as a test -/
def tOk : E → Bool
  | .not a => tOk a
  | .and a b => tOk a && tOk b
  | .or a b => tOk a && tOk b
  | .cmp .. => true | .chain .. => true | .var _ => true | .bl _ => true | .ix .. => true | .call .. => true | .bi .. => true | .isi .. => true
  | _ => false
structure Ck where
  N : List Str
  /-- built-in names that the module does not bind -/
  fr : List Str
  /-- names that stand for math.gcd -/
  gm : List Str
  /-- the module's defs -/
  fns : List Str
  /-- the module's constants -/
  gs : List Str
  /-- the module's exceptions: the class, the fields in order of storing -/
  exs : List (Str × List Str)
  /-- names of classes that except and isinstance ask for -/
  cls : List Str
  /-- this def returns lists of its own; the defs that do -/
  rf : Bool
  frs : List Str
  /-- dicts written at the module's top -/
  gd : List (Str × List (Str × Int)) := []
  /-- names that stand for math.lcm -/
  lm : List Str := []
/-- what a method may be asked of -/
def objOk : Expr → Bool
  | .Name .. => true
  | .Constant .. => true
  | _ => false
def tgE : Expr → Bool
  | .Tuple .. => true
  | _ => false
mutual
def chkTg (k : Ck) (sc : Scope) (fb : Str → Bool) : Tg → Expr → Bool
  | .nm i, .Name x _ => decide (k.N[i]? = some x) && (isLocal sc x || (isCell sc x && fb x))
  | .tup ts, .Tuple es _ _ => chkTgs k sc fb ts es
  | _, _ => false
def chkTgs (k : Ck) (sc : Scope) (fb : Str → Bool) : List Tg → List Expr → Bool
  | [], [] => true
  | t :: ts, e :: es => notStar e && (chkTg k sc fb t e && chkTgs k sc fb ts es)
  | _, _ => false
end
mutual
/-- the slots that a target stores -/
def tgIx : Tg → List Nat
  | .nm i => [i]
  | .tup ts => tgIxs ts
def tgIxs : List Tg → List Nat
  | [] => []
  | t :: ts => tgIx t ++ tgIxs ts
end
def ownN (N : List Str) (own : List Nat) : List (Str × Nat) := own.map fun i => (N.getD i Str.empty, i)
def biChk (k : Ck) : Bi → Str → Bool
  | .gcd, y => k.gm.contains y
  | .lcm, y => k.lm.contains y
  | b, y => decide (y = biName b) && k.fr.contains y
def objOk2 : Expr → Bool
  | .Name .. => true
  | .Constant .. => true
  | .Subscript .. => true
  | _ => false
def esNil : Es → Bool
  | .nil => true
  | _ => false
mutual
def chkE (k : Ck) (sc : Scope) (fb : Str → Bool) : E → Expr → Bool
  | .var i, .Name x _ => decide (k.N[i]? = some x) && (vis sc x && nmOk x)
  | .par i, .Name x _ => decide (k.N[i]? = some x) && (vis sc x && nmOk x)
  | .int i, .Constant (.int j) _ _ => decide (i = j)
  | .str i, .Constant (.str j) _ _ => decide (i = j)
  | .bl i, .Constant (.bool j) _ _ => i == j
  | .non, .Constant .none _ _ => true
  | .glob x, .Name y _ => decide (x = y) && (gl sc x && (nmOk x && k.gs.contains x))
  | .op o a b, .BinOp x p y _ => opk o p && (chkE k sc fb a x && chkE k sc fb b y)
  | .neg a, .UnaryOp .USub x _ => chkE k sc fb a x
  | .not a, .UnaryOp .Not x _ => chkE k sc fb a x
  | .and a b, .BoolOp .And (x :: y :: r) p => chkE k sc fb a x && (match r with
    | [] => chkE k sc fb b y
    | z :: r => chkE k sc fb b (.BoolOp .And (y :: z :: r) p))
  | .or a b, .BoolOp .Or (x :: y :: r) p => chkE k sc fb a x && (match r with
    | [] => chkE k sc fb b y
    | z :: r => chkE k sc fb b (.BoolOp .Or (y :: z :: r) p))
  | .cmp o a b, .Compare x [p] [y] _ => cmk o p && (!behindInMarks p y && (chkE k sc fb a x && chkE k sc fb b y))
  | .chain o o' a b d, .Compare x [p, p'] [y, z] _ => cmk o p && (cmk o' p' && (!lastMarks [p, p'] [y, z] && (chkE k sc fb a x && (chkE k sc fb b y && chkE k sc fb d z))))
  | .ife t a b, .IfExp c x y _ => tOk t && (chkE k sc fb t c && (chkE k sc fb a x && chkE k sc fb b y))
  | .ix a b, .Subscript x y _ => notSlice y && (chkE k sc fb a x && chkE k sc fb b y)
  | .sl a lo hi, .Subscript x (.Slice l h none _) _ => chkE k sc fb a x && (chkO k sc fb lo l && chkO k sc fb hi h)
  | .tup es, .Tuple xs _ _ => decide (esLen es ≤ 1000) && chkEs k sc fb es xs
  | .lst es, .List xs _ => decide (esLen es ≤ 1000) && chkEs k sc fb es xs
  | .comp elt tg src own, .ListComp x [⟨t, it, fs, n⟩] scope _ => (fs.isEmpty && decide (n = 0)) && (blkC k.N sc scope (ownN k.N own) && (chkS k sc fb src t it && ((liS src).isEmpty && ((tgIx tg).all (own.contains ·) && (chkTg k (relS scope sc) (isCell scope) tg t && chkE k (relS scope sc) (isCell scope) elt x)))))
  | .comp2 elt tg src tg1 src1 own vs1, .ListComp x [⟨t, it, fs, n⟩, ⟨t1, it1, fs1, n1⟩] scope _ => (fs.isEmpty && (decide (n = 0) && (fs1.isEmpty && decide (n1 = 0)))) && (blkC k.N sc scope (ownN k.N own) && (chkS k sc fb src t it && ((liS src).isEmpty && ((tgIx tg).all (own.contains ·) && (chkTg k (relS scope sc) (isCell scope) tg t && (chkS k (relS scope sc) (isCell scope) src1 t1 it1 && ((liS src1).isEmpty && ((tgIx tg1).all (vs1.contains ·) && (vs1.all (own.contains ·) && (chkTg k (relS scope sc) (isCell scope) tg1 t1 && chkE k (relS scope sc) (isCell scope) elt x))))))))))
  | .compIf elt tg src c own, .ListComp x [⟨t, it, fs, n⟩] scope _ => decide (n = 0) && (match fs with
    | [i] => blkC k.N sc scope (ownN k.N own) && (chkS k sc fb src t it && ((liS src).isEmpty && ((tgIx tg).all (own.contains ·) && (tOk c && (chkTg k (relS scope sc) (isCell scope) tg t && (chkE k (relS scope sc) (isCell scope) c i && chkE k (relS scope sc) (isCell scope) elt x))))))
    | _ => false)
  | .call f .nil, .Call (.Name y _) [] [] _ => decide (f = y) && (k.fns.contains f && (gl sc y && nmOk y))
  | .call f es, .Call (.Name y _) (x :: xs) [] _ => decide (f = y) && (k.fns.contains f && (gl sc y && (nmOk y && chkEs k sc fb es (x :: xs))))
  | .callF f es, .Call (.Name y _) (x :: xs) [] _ => k.frs.contains f && (decide (f = y) && (k.fns.contains f && (gl sc y && (nmOk y && chkEs k sc fb es (x :: xs)))))
  | .bi b es, .Call (.Name y _) (x :: xs) [] _ => biChk k b y && (gl sc y && (nmOk y && chkEs k sc fb es (x :: xs)))
  | .dget x kvs a b, .Call (.Attribute (.Name y _) m ap) [u, v] [] cp => decide (x = y) && (decide ((x, kvs) ∈ k.gd) && (decide (m = ("get" : Str)) && ((ap.endLine == cp.line) && (gl sc x && (nmOk x && (notStar u && (notStar v && (chkE k sc fb a u && chkE k sc fb b v))))))))
  | .find a b, .Call (.Attribute o m ap) [v] [] cp => decide (m = ("find" : Str)) && ((ap.endLine == cp.line) && (objOk o && (notStar v && (chkE k sc fb a o && chkE k sc fb b v))))
  | .me m a es, .Call (.Attribute o n ap) [] [] cp => decide (n = meS m) && ((ap.endLine == cp.line) && (objOk2 o && (chkE k sc fb a o && esNil es)))
  | .me m a es, .Call (.Attribute o n ap) [x] [] cp => decide (n = meS m) && ((ap.endLine == cp.line) && (objOk2 o && (chkE k sc fb a o && chkEs k sc fb es [x])))
  | .fs es, .JoinedStr (x :: y :: xs) _ => chkFs k sc fb es (x :: y :: xs)
  | .isi a t, .Call (.Name y _) [x, .Name z _] [] _ => decide (y = ("isinstance" : Str)) && (k.fr.contains y && (gl sc y && (decide (z = Str.ofString t) && (k.fr.contains z && (gl sc z && (nmOk z && (["int", "bool", "str", "tuple", "list"].contains t && (notStar x && chkE k sc fb a x))))))))
  | _, _ => false
def chkEs (k : Ck) (sc : Scope) (fb : Str → Bool) : Es → List Expr → Bool
  | .nil, [] => true
  | .cons e r, x :: xs => notStar x && (chkE k sc fb e x && chkEs k sc fb r xs)
  | _, _ => false
def chkFs (k : Ck) (sc : Scope) (fb : Str → Bool) : Es → List Expr → Bool
  | .nil, [] => true
  | .cons (.str s) r, .Constant (.str j) _ _ :: xs => decide (s = j) && chkFs k sc fb r xs
  | .cons e r, .FormattedValue x c none _ :: xs => decide (c = -1) && (chkE k sc fb e x && chkFs k sc fb r xs)
  | _, _ => false
def chkO (k : Ck) (sc : Scope) (fb : Str → Bool) : Op1 → Option Expr → Bool
  | .no, none => true
  | .so e, some x => chkE k sc fb e x
  | _, _ => false
def chkS (k : Ck) (sc : Scope) (fb : Str → Bool) : Src → Expr → Expr → Bool
  | .seq e, _, it => notSet it && chkE k sc fb e it
  | .rng1 a, _, .Call (.Name y _) [x] [] _ => decide (y = ("range" : Str)) && (k.fr.contains y && (gl sc y && (notStar x && chkE k sc fb a x)))
  | .rng2 a b, _, .Call (.Name y _) [x, z] [] _ => decide (y = ("range" : Str)) && (k.fr.contains y && (gl sc y && (notStar x && (notStar z && (chkE k sc fb a x && chkE k sc fb b z)))))
  | .enum e, t, .Call (.Name y _) [x] [] _ => tgE t && (decide (y = ("enumerate" : Str)) && (k.fr.contains y && (gl sc y && (notStar x && chkE k sc fb e x))))
  | .zip a b, t, .Call (.Name y _) [x, z] [] _ => tgE t && (decide (y = ("zip" : Str)) && (k.fr.contains y && (gl sc y && (notStar x && (notStar z && (chkE k sc fb a x && chkE k sc fb b z))))))
  | _, _, _ => false
end
end PyI
/-! PyI, part 5: what is checked runs as the interpreter says: expressions. -/
namespace PyI
open PySem PySem.Spec PyProof.Rows L2
theorem ba {a b : Bool} (h : (a && b) = true) : a = true ∧ b = true := Bool.and_eq_true_iff.mp h
theorem bn {a : Bool} (h : (!a) = true) : a = false := by cases a <;> first | rfl | cases h
theorem vis_ok {sc : Scope} {x : Str} (h : vis sc x = true) : Vis sc x := by
  unfold vis at h
  unfold Vis
  cases z : sc.names.lookup x with
  | none => rw [z] at h; cases h
  | some q => rw [z] at h; cases q <;> first | exact .inl rfl | exact .inr (.inl rfl) | exact .inr (.inr rfl) | cases h
theorem gl_ok {sc : Scope} {x : Str} (h : gl sc x = true) : sc.names.lookup x = some .globalImplicit := by
  unfold gl at h
  cases z : sc.names.lookup x with
  | none => rw [z] at h; cases h
  | some q => rw [z] at h; cases q <;> first | rfl | cases h
theorem local_ok {sc : Scope} {x : Str} (h : isLocal sc x = true) : sc.names.lookup x = some .local := by
  unfold isLocal at h
  cases z : sc.names.lookup x with
  | none => rw [z] at h; cases h
  | some q => rw [z] at h; cases q <;> first | rfl | cases h
theorem cell_ok {sc : Scope} {x : Str} (h : isCell sc x = true) : sc.names.lookup x = some .cell := by
  unfold isCell at h
  cases z : sc.names.lookup x with
  | none => rw [z] at h; cases h
  | some q => rw [z] at h; cases q <;> first | rfl | cases h
theorem nm_ok {x : Str} (h : nmOk x = true) : (x == ("__debug__" : Str)) = false ∧ (x == ("__classdict__" : Str)) = false ∧ x ≠ "__name__" := by
  unfold nmOk at h
  obtain ⟨h, h3⟩ := ba h
  obtain ⟨h1, h2⟩ := ba h
  exact ⟨bn h1, bn h2, of_decide_eq_false (bn h3)⟩
theorem star_ok {x : Expr} (h : notStar x = true) (xs : List Expr) (env : PySem.Env) : starEach (x :: xs) env = (false, eval x env) :: starEach xs env := by
  cases x <;> first | rfl | cases h
theorem slice_ok {y : Expr} (h : notSlice y = true) : PlainIx y := fun o i => by cases y <;> first | rfl | cases h
theorem set_ok {y : Expr} (h : notSet y = true) (env : PySem.Env) (x : Value) : foldedSetIterable y env x = pure x := by cases y <;> first | rfl | cases h
theorem plainT_ok {x : Expr} (h : plainT x = true) (env : PySem.Env) (whole : Sem Value) : isTrue x env whole = (do let v ← whole; standAt x.pos; holding [v] (truthy v)) := by
  cases x with
  | UnaryOp o a p => cases o <;> first | rfl | cases h
  | _ => first | rfl | cases h
theorem stars_plain {k : Ck} {sc : Scope} {fb : Str → Bool} {env : PySem.Env} {pos : Pos} : ∀ {es : Es} {xs : List Expr}, chkEs k sc fb es xs = true → (backTo pos (starEach xs env)).any (·.1) = false
  | .nil, [], _ => rfl
  | .nil, _ :: _, h => by cases h
  | .cons e r, [], h => by cases h
  | .cons e r, x :: xs, h => by
    obtain ⟨h1, h2⟩ := ba (show (notStar x && (chkE k sc fb e x && chkEs k sc fb r xs)) = true from h)
    obtain ⟨_, h3⟩ := ba h2
    rw [star_ok h1]
    show (false || (backTo pos (starEach xs env)).any (·.1)) = false
    rw [stars_plain h3]
    rfl
theorem boot_bi : ∀ b : Bi, b ≠ .gcd → b ≠ .lcm → bootBuiltins (biName b) = some (biV b)
  | .len, _, _ => by decide +kernel
  | .abs, _, _ => by decide +kernel
  | .int, _, _ => by decide +kernel
  | .min, _, _ => by decide +kernel
  | .max, _, _ => by decide +kernel
  | .sum, _, _ => by decide +kernel
  | .all, _, _ => by decide +kernel
  | .any, _, _ => by decide +kernel
  | .tuple, _, _ => by decide +kernel
  | .list, _, _ => by decide +kernel
  | .sorted, _, _ => by decide +kernel
  | .str, _, _ => by decide +kernel
  | .gcd, h, _ => absurd rfl h
  | .lcm, _, h => absurd rfl h
theorem boot_isi : bootBuiltins "isinstance" = some (.builtin "isinstance") := by decide +kernel
theorem boot_ty {t : String} (h : ["int", "bool", "str", "tuple", "list"].contains t = true) : bootBuiltins (Str.ofString t) = some (.type t) := by
  have h' : t = "int" ∨ t = "bool" ∨ t = "str" ∨ t = "tuple" ∨ t = "list" := by simpa using h
  rcases h' with rfl | rfl | rfl | rfl | rfl <;> decide +kernel
/-! ### calls of the module's defs -/
/-- a def's promise: what the interpreter says of it -/
def spD (c : Cc) (f : Str) : Sp := fun vs H Q Ex => ∃ ds F, RepL c.K F H ds vs ∧ FOk F H ∧ Post (c.Φ f ds) (fun d => ∀ v H', Same H H' → RepT c.K (fun a => F a ∨ (c.frs f = true ∧ H a ≠ none)) F H' d v → Q v H') (fun x as => ∀ cls dd H', Same H H' → ExAt c.K c.mg c.xf F H' x as cls dd → Ex cls dd H')
def CallOk (X : Cx) (c : Cc) (f : Str) : Prop := ∃ n fa fd ps, FnOk X.prog X.w X.K X.mg X.base (L2.CX X.prog X.w) n fa fd ps (spD c f) ∧ Room n X.A ∧ X.mg f = some (.ref fa) ∧ PySem.W.keepIn X.K (.ref fa) = true ∧ Binds X.K fd ps []
/-- an exception of the module -/
def ExcOk (X : Cx) (c : Cc) (x : Str) (fl : List Str) : Prop := ∃ C fI fd ps, OexC X.K C ∧ PySem.W.findIn X.K (.ref C) "__init__" = some (some (.ref fI)) ∧ PySem.W.typeIn X.K (.ref fI) = some (.type "function") ∧ FnOk X.prog X.w X.K X.mg X.base (L2.CX X.prog X.w) 1 fI fd ps (spInit C fl.length (idx 1 fl)) ∧
  Binds X.K fd ps [] ∧ X.mg x = some (.ref C) ∧ c.xf x = fl ∧ fl.length ≤ 900
/-- what is asked of an exception -/
def ExQ (K : PySem.W.Frag) (mg : Str → Option Value) (cls : List Str) (x : Str) (fl : List Str) : Prop := ∃ C, mg x = some (.ref C) ∧ XfC K C ∧ ExcC K C ∧ (∀ f ∈ fl, PySem.W.findIn K (.ref C) f = some none) ∧ fl.Nodup ∧
  ∀ c ∈ cls, ∃ cv, ((∃ a, cv = .ref a ∧ mg c = some (.ref a)) ∨ (cv = .type "ValueError" ∧ c = "ValueError" ∧ mg c = none)) ∧ PySem.W.kitOne K (.ref C) cv = some (subX x c) ∧ PySem.W.exmOne K (.ref C) cv = some (subX x c)
structure Good (k : Ck) (X : Cx) (c : Cc) (sc : Scope) (fb : Str → Bool) : Prop where
  sc : X.env.scope = sc
  fb : X.fn = fb
  N : X.N = k.N
  nd : X.N.Nodup
  calm : X.calm = true
  K : c.K = X.K
  mg : c.mg = X.mg
  un : X.A.units + 65 < cLine
  takes : Takes X c.W
  fr : ∀ x ∈ k.fr, X.mg x = none
  gm : ∀ x ∈ k.gm, X.mg x = some (.builtin "math.gcd")
  gs : ∀ x ∈ k.gs, ∃ u v d, X.mg x = some u ∧ RelV v u ∧ c.G x = some d ∧ ∀ F H, Rep c.K F H d v
  fns : ∀ f ∈ k.fns, CallOk X c f
  room : Room 2 X.A
  exs : ∀ p ∈ k.exs, ExcOk X c p.1 p.2
  exq : ∀ p ∈ k.exs, ExQ X.K X.mg k.cls p.1 p.2
  rf : k.rf = c.rf
  frs : ∀ f, k.frs.contains f = true → c.frs f = true
  gd : ∀ p ∈ k.gd, GdOk X.K X.w X.mg p.1 p.2
  lm : ∀ x ∈ k.lm, X.mg x = some (.builtin "math.lcm")
theorem Good.blk {k : Ck} {X : Cx} {c : Cc} {sc : Scope} {fb : Str → Bool} (g : Good k X c sc fb) (s : Shared) (H : Hp) (scope : Scope) (cl : List (Str × Addr)) (C : Addr) (fp : List Addr) :
    Good k (X.blk s H scope (compEnvC scope cl C X.env) fp) c.quiet (relS scope sc) (isCell scope) where
  sc := by rw [← g.sc]; rfl
  fb := rfl
  N := g.N
  nd := g.nd
  calm := g.calm
  K := g.K
  mg := g.mg
  un := g.un
  takes := takes0
  fr := g.fr
  gm := g.gm
  lm := g.lm
  gs := g.gs
  fns := g.fns
  room := g.room
  exs := g.exs
  exq := g.exq
  rf := g.rf
  frs := g.frs
  gd := g.gd
section
variable {k : Ck} {X : Cx} {c : Cc} {sc : Scope} {fb : Str → Bool}
theorem Good.gl (g : Good k X c sc fb) {x : Str} (h : PyI.gl sc x = true) : Gl X x := by
  have := gl_ok h
  rw [← g.sc] at this
  exact this
theorem Good.frn (g : Good k X c sc fb) {x : Str} (h : k.fr.contains x = true) : X.mg x = none := g.fr x (by simpa using h)
/-! ### a state of the machine without some slots -/
theorem wipeD_get {τ : Env} {i : Nat} {x : C} : ∀ {vs : List Nat}, (wipeD τ vs)[i]? = some (some x) → τ[i]? = some (some x) ∧ i ∉ vs
  | [], h => ⟨h, List.not_mem_nil⟩
  | v :: vs, h => by
    have h' : ((wipeD τ vs).set v none)[i]? = some (some x) := h
    by_cases e : i = v
    · subst e
      rw [List.getElem?_set] at h'
      simp at h'
    · rw [List.getElem?_set_ne (Ne.symm e)] at h'
      obtain ⟨a, b⟩ := wipeD_get h'
      exact ⟨a, fun z => (List.mem_cons.mp z).elim e b⟩
theorem wipeD_len (τ : Env) : ∀ vs : List Nat, (wipeD τ vs).length = τ.length
  | [] => rfl
  | v :: vs => by show ((wipeD τ vs).set v none).length = _; rw [List.length_set, wipeD_len τ vs]
variable {own : Nat → Option Addr} {τ : Env} {σ : L2.St} {H H' : Hp}
theorem Sim.wipe (S : Sim c own τ σ H) (vs : List Nat) : Sim c own (wipeD τ vs) (wipe σ vs) H where
  len := by rw [wipeD_len, wipe_length]; exact S.len
  val := fun i d e => by
    obtain ⟨e1, e2⟩ := wipeD_get e
    obtain ⟨v, h1, h2⟩ := S.val i d e1
    exact ⟨v, by rw [wipe_out e2]; exact h1, h2⟩
  ows := fun i ds e => by
    obtain ⟨e1, e2⟩ := wipeD_get e
    obtain ⟨a, vs', h1, h2, h3, h4⟩ := S.ows i ds e1
    exact ⟨a, vs', h1, by rw [wipe_out e2]; exact h2, h3, h4⟩
  inj := S.inj
  al := S.al
  fin := S.fin
  f0 := S.f0
  same := S.same
  bs := S.bs
theorem Sim.setV (S : Sim c own τ σ H) {i : Nat} {d : D} {v : V} (r : Rep c.K (Fb c own []) H d v) (hi : i < τ.length) : Sim c own (τ.set i (some (.v d))) (σ.set i (some v)) H where
  len := by rw [List.length_set, List.length_set]; exact S.len
  val := fun j e h => by
    by_cases q : j = i
    · subst q
      rw [List.getElem?_set_self hi] at h
      cases h
      exact ⟨v, List.getElem?_set_self (by rw [← S.len]; exact hi), r⟩
    · rw [List.getElem?_set_ne (Ne.symm q)] at h
      obtain ⟨w, h1, h2⟩ := S.val j e h
      exact ⟨w, by rw [List.getElem?_set_ne (Ne.symm q)]; exact h1, h2⟩
  ows := fun j ds h => by
    by_cases q : j = i
    · subst q
      rw [List.getElem?_set_self hi] at h
      cases h
    · rw [List.getElem?_set_ne (Ne.symm q)] at h
      obtain ⟨a, vs, h1, h2, h3⟩ := S.ows j ds h
      exact ⟨a, vs, h1, by rw [List.getElem?_set_ne (Ne.symm q)]; exact h2, h3⟩
  inj := S.inj
  al := S.al
  fin := S.fin
  f0 := S.f0
  same := S.same
  bs := S.bs
/-! ### targets -/
mutual
def tgG (K : PySem.W.Frag) : Tg → TG
  | .nm i => gName i
  | .tup ts => gTup K ts.length (tgGs K ts)
def tgGs (K : PySem.W.Frag) : List Tg → TGs
  | [] => gNil
  | t :: ts => gCons (tgG K t) (tgGs K ts)
end
theorem chkTgs_len (env : PySem.Env) : ∀ {ts : List Tg} {es : List Expr}, chkTgs k sc fb ts es = true → (assignEach es env).length = ts.length ∧ (assignEach es env).findIdx? (·.1) = none
  | [], [], _ => ⟨rfl, rfl⟩
  | [], _ :: _, h => by cases h
  | _ :: _, [], h => by cases h
  | t :: ts, e :: es, h => by
    obtain ⟨h1, h2⟩ := ba (show (notStar e && (chkTg k sc fb t e && chkTgs k sc fb ts es)) = true from h)
    obtain ⟨_, h3⟩ := ba h2
    obtain ⟨a, b⟩ := chkTgs_len env h3
    have z : assignEach (e :: es) env = (false, assign e env) :: assignEach es env := by cases e <;> first | rfl | cases h1
    rw [z]
    refine ⟨by rw [List.length_cons, a]; rfl, ?_⟩
    rw [List.findIdx?_cons]
    simp [b]
mutual
theorem pgTg (g : Good k X c sc fb) : ∀ (t : Tg) (e : Expr), chkTg k sc fb t e = true → PG X e (tgG X.K t)
  | .nm i, .Name x _, h => by
    obtain ⟨h1, h2⟩ := ba (show (decide (k.N[i]? = some x) && (isLocal sc x || (isCell sc x && fb x))) = true from h)
    have hN : X.N[i]? = some x := by rw [g.N]; exact of_decide_eq_true h1
    rw [Bool.or_eq_true] at h2
    rcases h2 with h2 | h2
    · have l : X.env.scope.names.lookup x = some .local := by rw [g.sc]; exact local_ok h2
      exact pg_name g.nd hN (.inl l) (.inr l)
    · obtain ⟨h3, h4⟩ := ba h2
      have l : X.env.scope.names.lookup x = some .cell := by rw [g.sc]; exact cell_ok h3
      exact pg_name g.nd hN (.inr l) (.inl (by rw [g.fb]; exact h4))
  | .tup ts, .Tuple es _ _, h => by
    have h' : chkTgs k sc fb ts es = true := h
    obtain ⟨a, b⟩ := chkTgs_len X.env h'
    exact pg_tup g.calm (pgTgs g ts es h') a b
theorem pgTgs (g : Good k X c sc fb) : ∀ (ts : List Tg) (es : List Expr), chkTgs k sc fb ts es = true → PGs X es (tgGs X.K ts)
  | [], [], _ => pgs_nil
  | [], _ :: _, h => by cases h
  | _ :: _, [], h => by cases h
  | t :: ts, e :: es, h => by
    obtain ⟨h1, h2⟩ := ba (show (notStar e && (chkTg k sc fb t e && chkTgs k sc fb ts es)) = true from h)
    obtain ⟨h3, h4⟩ := ba h2
    exact pgs_cons (pgTg g t e h3) (pgTgs g ts es h4) (by cases e <;> first | rfl | cases h1)
end
theorem wipe_set {σ : L2.St} {i : Nat} {x : Option V} : ∀ {vs : List Nat}, i ∈ vs → wipe (σ.set i x) vs = wipe σ vs := fun {vs} h => by
  apply List.ext_getElem?
  intro j
  by_cases hj : j ∈ vs
  · have key : ∀ (ρ : L2.St) (l : List Nat), j ∈ l → (wipe ρ l)[j]? = if j < ρ.length then some none else none := by
      intro ρ l
      induction l with
      | nil => intro z; cases z
      | cons v r ih =>
        intro z
        show ((wipe ρ r).set v none)[j]? = _
        by_cases e : j = v
        · subst e
          rw [List.getElem?_set]
          simp [wipe_length]
        · rw [List.getElem?_set_ne (Ne.symm e)]
          exact ih ((List.mem_cons.mp z).resolve_left e)
    rw [key _ _ hj, key _ _ hj, List.length_set]
  · rw [wipe_out hj, wipe_out hj]
    have e : i ≠ j := fun z => hj (z ▸ h)
    rw [List.getElem?_set_ne e]
mutual
theorem asg_run : ∀ (t : Tg) (d : D) (v : V) (τ τ' : Env) (σ : L2.St) (Q : L2.St → Hp → Prop), Sim c own τ σ H → Rep c.K (Fb c own []) H d v → asg t d τ = .ok τ' →
    (∀ σ', Sim c own τ' σ' H → (∀ vs, (∀ i ∈ tgIx t, i ∈ vs) → wipe σ' vs = wipe σ vs) → Q σ' H) → tgG c.K t v σ H Q
  | .nm i, d, v, τ, τ', σ, Q, S, r, e, q => by
    obtain ⟨hi, rfl⟩ := ok_if (show (if i < τ.length then Res.ok (τ.set i (some (.v d))) else Res.bad) = .ok τ' from e)
    exact q _ (S.setV r hi) fun vs h => wipe_set (h i (by simp [tgIx]))
  | .tup ts, .tup ds, v, τ, τ', σ, Q, S, r, e, q => by
    obtain ⟨a, vs, rfl, hs, hl⟩ := r
    have e' : asgs ts ds τ = .ok τ' := e
    have hlen : ∀ (ts : List Tg) (ds : List D) (τ τ' : Env), asgs ts ds τ = .ok τ' → ds.length = ts.length := by
      intro ts
      induction ts with
      | nil =>
        intro ds τ τ' e
        cases ds with
        | nil => rfl
        | cons _ _ => cases e
      | cons t ts ih =>
        intro ds τ τ' e
        cases ds with
        | nil => cases e
        | cons d ds =>
          obtain ⟨τ1, _, e2⟩ := bind_ok (show (asg t d τ >>= fun σ1 => asgs ts ds σ1) = .ok τ' from e)
          rw [List.length_cons, List.length_cons, ih ds τ1 τ' e2]
    exact ⟨a, vs, rfl, hs, by rw [← hl.length]; exact hlen ts ds τ τ' e', asgs_run ts ds vs τ τ' σ Q S hl e' q⟩
  | .tup _, .non, _, _, _, _, _, _, _, e, _ => by cases e
  | .tup _, .bl _, _, _, _, _, _, _, _, e, _ => by cases e
  | .tup _, .int _, _, _, _, _, _, _, _, e, _ => by cases e
  | .tup _, .str _, _, _, _, _, _, _, _, e, _ => by cases e
  | .tup _, .lst _, _, _, _, _, _, _, _, e, _ => by cases e
  | .tup _, .scr _, _, _, _, _, _, _, _, e, _ => by cases e
theorem asgs_run : ∀ (ts : List Tg) (ds : List D) (vs : List V) (τ τ' : Env) (σ : L2.St) (Q : L2.St → Hp → Prop), Sim c own τ σ H → RepL c.K (Fb c own []) H ds vs → asgs ts ds τ = .ok τ' →
    (∀ σ', Sim c own τ' σ' H → (∀ vs, (∀ i ∈ tgIxs ts, i ∈ vs) → wipe σ' vs = wipe σ vs) → Q σ' H) → tgGs c.K ts vs σ H Q
  | [], [], vs, τ, τ', σ, Q, S, r, e, q => by
    cases (show vs = [] from r)
    cases (show Res.ok τ = .ok τ' from e)
    exact ⟨rfl, q σ S fun _ _ => rfl⟩
  | [], _ :: _, _, _, _, _, _, _, _, e, _ => by cases e
  | _ :: _, [], _, _, _, _, _, _, _, e, _ => by cases e
  | t :: ts, d :: ds, vs, τ, τ', σ, Q, S, r, e, q => by
    obtain ⟨τ1, e1, e2⟩ := bind_ok (show (asg t d τ >>= fun σ1 => asgs ts ds σ1) = .ok τ' from e)
    obtain ⟨v, vr, rfl, r1, r2⟩ := r
    refine ⟨v, vr, rfl, asg_run t d v τ τ1 σ _ S r1 e1 fun σ1 S1 w1 => asgs_run ts ds vr τ1 τ' σ1 Q S1 r2 e2 fun σ2 S2 w2 => q σ2 S2 fun us h => ?_⟩
    rw [w2 us (fun i z => h i (List.mem_append_right _ z)), w1 us (fun i z => h i (List.mem_append_left _ z))]
end
end
end PyI
/-! PyI, part 6: what raises nothing. -/
namespace PyI
open PySem PySem.Spec PyProof.Rows L2
def NoX {α : Type} (r : Res α) : Prop := match r with
  | .exc _ _ => False
  | _ => True
theorem NoX.ok {α : Type} (a : α) : NoX (Res.ok a) := trivial
theorem NoX.bad {α : Type} : NoX (Res.bad : Res α) := trivial
theorem NoX.ite {α : Type} {c : Prop} [Decidable c] {a : α} : NoX (if c then Res.ok a else Res.bad) := by
  by_cases h : c
  · rw [if_pos h]; trivial
  · rw [if_neg h]; trivial
theorem NoX.ite2 {α : Type} {c c' : Prop} [Decidable c] [Decidable c'] {a b : α} : NoX (if c then Res.ok a else if c' then Res.ok b else Res.bad) := by
  by_cases h : c
  · rw [if_pos h]; trivial
  · rw [if_neg h]; exact NoX.ite
theorem NoX.bind {α β : Type} {r : Res α} {f : α → Res β} (h : NoX r) (hf : ∀ a, NoX (f a)) : NoX (r >>= f) := by
  cases r with
  | ok a => exact hf a
  | exc c vs => exact h.elim
  | bad => trivial
theorem Post.nx {α : Type} {r : Res α} {q : α → Prop} {x : Str → List D → Prop} (h : Post r q x) (n : NoX r) : ∃ a, r = .ok a ∧ q a := by
  cases r with
  | ok a => exact ⟨a, rfl, h⟩
  | exc c vs => exact n.elim
  | bad => exact h.elim
theorem nx_getV (τ : Env) (i : Nat) : NoX (getV τ i) := by unfold getV; split <;> trivial
theorem nx_getP (τ : Env) (i : Nat) : NoX (getP τ i) := by unfold getP; split <;> trivial
theorem nx_blD (d : D) : NoX (blD d) := by cases d <;> trivial
theorem nx_intD (d : D) : NoX (intD d) := by cases d <;> trivial
theorem nx_lenD (d : D) : NoX (lenD d) := by
  cases d with
  | str x => exact NoX.ite
  | _ => trivial
theorem nx_itemsD (d : D) : NoX (itemsD d) := by cases d <;> trivial
theorem nx_rngD (a b : Int) : NoX (rngD a b) := NoX.ite
theorem nx_opD (o : Op) (x y : D) : NoX (opD o x y) := by
  cases o <;> cases x <;> cases y <;> first | trivial | exact NoX.ite | exact NoX.ite2
theorem nx_eqD (x y : D) : NoX (eqD x y) := by
  cases x <;> cases y <;> first | trivial | exact NoX.ite
theorem nx_inD (x y : D) : NoX (inD x y) := by
  cases y with
  | lst ds => exact NoX.ite
  | tup ds => exact NoX.ite
  | str z =>
    cases x with
    | str w =>
      show NoX (if h : w.cps.size = 1 then Res.ok (decide (w.cps[0]'(by omega) ∈ z.cps.toList)) else Res.bad)
      split <;> trivial
    | _ => trivial
  | _ => trivial
theorem nx_cmD (o : Cm) (x y : D) : NoX (cmD o x y) := by
  cases o with
  | eq => exact (nx_eqD x y).bind fun _ => trivial
  | ne => exact (nx_eqD x y).bind fun _ => trivial
  | in_ => exact (nx_inD x y).bind fun _ => trivial
  | notIn => exact (nx_inD x y).bind fun _ => trivial
  | lt =>
    cases x with
    | tup xs =>
      cases y with
      | tup ys =>
        show NoX (match D.ints xs, D.ints ys with
          | some a, some b => Res.ok (D.bl (HT.lexLt a b))
          | _, _ => .bad)
        split <;> trivial
      | _ => trivial
    | _ => cases y <;> trivial
  | _ => cases x <;> cases y <;> trivial
theorem nx_ixD (x y : D) : NoX (ixD x y) := by
  cases x with
  | lst xs =>
    cases y with
    | int i =>
      show NoX (match atI xs i with
        | some d => Res.ok d
        | none => .bad)
      split <;> trivial
    | _ => trivial
  | tup xs =>
    cases y with
    | int i =>
      show NoX (match atI xs i with
        | some d => Res.ok d
        | none => .bad)
      split <;> trivial
    | _ => trivial
  | scr xs =>
    cases y with
    | int i =>
      show NoX (match atI xs i with
        | some d => Res.ok (D.int d)
        | none => .bad)
      split <;> trivial
    | _ => trivial
  | str z =>
    cases y with
    | int i =>
      show NoX (if z.length ≤ sizeLine then (match atI z.cps.toList i with
        | some c => Res.ok (D.str ⟨#[c]⟩)
        | none => .bad) else .bad)
      split
      · split <;> trivial
      · trivial
    | _ => trivial
  | _ => cases y <;> trivial
theorem nx_strD (x : D) : NoX (strD x) := by cases x <;> trivial
theorem nx_slD (x : D) (lo hi : Option Int) : NoX (slD x lo hi) := by
  cases x with
  | str z => exact NoX.ite
  | _ => trivial
theorem nx_biD (b : Bi) : ∀ ds : List D, NoX (biD b ds)
  | [] => by cases b <;> trivial
  | [d] => by
    cases b with
    | len => exact (nx_lenD d).bind fun _ => trivial
    | min =>
      cases d with
      | lst xs =>
        show NoX (match D.ints xs with
          | some (x :: r) => Res.ok (D.int (minL x r))
          | _ => .bad)
        split <;> trivial
      | _ => trivial
    | max =>
      cases d with
      | lst xs =>
        show NoX (match D.ints xs with
          | some (x :: r) => Res.ok (D.int (maxL x r))
          | _ => .bad)
        split <;> trivial
      | _ => trivial
    | sum =>
      cases d with
      | lst xs =>
        show NoX (match D.ints xs with
          | some ns => Res.ok (D.int ns.sum)
          | _ => .bad)
        split <;> trivial
      | tup xs =>
        show NoX (match D.ints xs with
          | some ns => Res.ok (D.int ns.sum)
          | _ => .bad)
        split <;> trivial
      | _ => trivial
    | all =>
      cases d with
      | lst xs =>
        show NoX (match D.bls xs with
          | some ns => Res.ok (D.bl (ns.all id))
          | _ => .bad)
        split <;> trivial
      | _ => trivial
    | any =>
      cases d with
      | lst xs =>
        show NoX (match D.bls xs with
          | some ns => Res.ok (D.bl (ns.any id))
          | _ => .bad)
        split <;> trivial
      | _ => trivial
    | int =>
      cases d with
      | str z => exact NoX.ite
      | _ => trivial
    | str =>
      cases d with
      | int z => exact NoX.ite
      | _ => trivial
    | sorted =>
      cases d with
      | lst xs =>
        show NoX (sortedD xs)
        unfold sortedD
        split
        · trivial
        · split <;> trivial
      | _ => trivial
    | _ => cases d <;> trivial
  | [d, e] => by cases b <;> cases d <;> first | trivial | (cases e <;> first | trivial | exact NoX.ite)
  | d :: e :: f :: r => by cases b <;> cases d <;> first | trivial | (cases e <;> trivial)
theorem nx_meT (m : Me) (d : D) : NoX (meT m d) := by cases m <;> cases d <;> trivial
theorem nx_meD (m : Me) (d : D) (ds : List D) : NoX (meD m d ds) := by
  cases m with
  | upper =>
    cases d with
    | str z =>
      cases ds with
      | nil => exact NoX.ite
      | cons _ _ => trivial
    | _ => cases ds <;> trivial
  | index =>
    cases d with
    | lst zs =>
      cases ds with
      | nil => trivial
      | cons d1 ds =>
        cases ds with
        | cons _ _ => cases d1 <;> trivial
        | nil =>
          cases d1 with
          | str z =>
            show NoX (match D.strs zs with
              | some ys => (match idxS z ys with
                | some j => Res.ok (D.int (j : Nat))
                | none => .bad)
              | none => .bad)
            split
            · split <;> trivial
            · trivial
          | _ => trivial
    | _ => cases ds <;> trivial
  | join =>
    cases d with
    | str z =>
      cases ds with
      | nil => trivial
      | cons d1 ds =>
        cases ds with
        | cons _ _ => cases d1 <;> trivial
        | nil =>
          cases d1 with
          | lst zs =>
            show NoX (match D.strs zs with
              | some ys => if (ys.map (fun w : Str => w.length)).sum + ys.length * z.length ≤ 16777216 then Res.ok (D.str (Txt.join z ys)) else .bad
              | none => .bad)
            split
            · exact NoX.ite
            · trivial
          | _ => trivial
    | _ => cases ds <;> trivial
  | count =>
    cases d with
    | lst zs =>
      cases ds with
      | nil => trivial
      | cons d1 ds =>
        cases ds with
        | cons _ _ => trivial
        | nil => exact NoX.ite
    | _ => cases ds <;> trivial
  | split =>
    cases d with
    | str z =>
      cases ds with
      | nil => trivial
      | cons d1 ds =>
        cases ds with
        | cons _ _ => cases d1 <;> trivial
        | nil =>
          cases d1 with
          | str y => exact NoX.ite
          | _ => trivial
    | _ => cases ds <;> trivial
theorem nx_fmtD (d : D) : NoX (fmtD d) := by
  cases d with
  | str z => exact NoX.ite
  | int i => exact NoX.ite
  | _ => trivial
theorem nx_isiD (d : D) (t : String) : NoX (isiD d t) := by
  unfold isiD
  split <;> trivial
mutual
theorem nx_asg : ∀ (t : Tg) (d : D) (τ : Env), NoX (asg t d τ)
  | .nm i, d, τ => NoX.ite
  | .tup ts, .tup ds, τ => nx_asgs ts ds τ
  | .tup _, .non, _ => trivial
  | .tup _, .bl _, _ => trivial
  | .tup _, .int _, _ => trivial
  | .tup _, .str _, _ => trivial
  | .tup _, .lst _, _ => trivial
  | .tup _, .scr _, _ => trivial
theorem nx_asgs : ∀ (ts : List Tg) (ds : List D) (τ : Env), NoX (asgs ts ds τ)
  | [], [], _ => trivial
  | [], _ :: _, _ => trivial
  | _ :: _, [], _ => trivial
  | t :: ts, d :: ds, τ => (nx_asg t d τ).bind fun τ1 => nx_asgs ts ds τ1
end
theorem nx_nox {α : Type} (r : Res α) : NoX (nox r) := by cases r <;> trivial
theorem nx_mapR (f : D → Res (Option D)) (h : ∀ d, NoX (f d)) : ∀ ds, NoX (mapR f ds)
  | [] => trivial
  | d :: r => (h d).bind fun o => (nx_mapR f h r).bind fun ds => by cases o <;> trivial
theorem nx_flatR (f : D → Res (List D)) (h : ∀ d, NoX (f d)) : ∀ ds, NoX (flatR f ds)
  | [] => trivial
  | d :: r => (h d).bind fun xs => (nx_flatR f h r).bind fun ds => trivial
end PyI
/-! PyI, part 7: one construct each, no syntax in sight. -/
namespace PyI
open PySem PySem.Spec PyProof.Rows L2
section
variable {k : Ck} {X : Cx} {c : Cc} {sc : Scope} {fb : Str → Bool} {own : Nat → Option Addr} {τ : Env} {σ : L2.St} {H H' : Hp}
theorem evs_len : ∀ {es : Es} {τ : Env} {ds : List D}, evs c.G c.Φ es τ = .ok ds → ds.length = esLen es
  | .nil, τ, ds, e => by cases e; rfl
  | .cons e r, τ, ds, h => by
    obtain ⟨d, h1, h2⟩ := bind_ok (show (ev c.G c.Φ e τ >>= fun d => evs c.G c.Φ r τ >>= fun ds => Res.ok (d :: ds)) = .ok ds from h)
    obtain ⟨ds', h3, h4⟩ := bind_ok h2
    cases h4
    rw [List.length_cons, evs_len h3]
    rfl
theorem line1000 {n : Nat} (h : n ≤ 1000) : n ≤ sizeLine := Nat.le_of_lt (small1000 h)
theorem RepT.any {K : PySem.W.Frag} {F1 F : Addr → Prop} {H : Hp} {d : D} {v : V} (h : RepT K F1 F H d v) : RepT K NoF F H d v := h.weak (fun _ z => z.elim) fun _ z => z
theorem appL {L L' : List Nat} (a : Addr) (z : Fb c own (L ++ L') a) : Fb c own L a := Fb.mono (fun j h => List.mem_append_left _ h) a z
theorem appR {L L' : List Nat} (a : Addr) (z : Fb c own (L ++ L') a) : Fb c own L' a := Fb.mono (fun j h => List.mem_append_right _ h) a z
theorem ft_l {c : Cc} {own : Nat → Option Addr} {e : E} {H : Hp} (a : Addr) (z : Fb c own (lt e) a) : Ft c own e H a := .inl z
theorem ft_n {c : Cc} {own : Nat → Option Addr} {e : E} {H : Hp} {L : List Nat} (h : fresh e = false) (w : ∀ j ∈ L, j ∈ lt e) (a : Addr) (z : Ft c own e H a) : Fb c own L a := z.elim (Fb.mono w a) fun z => by rw [h] at z; cases z.1
theorem ft_ok (S : Sim c own τ σ H) (s : Same H H') {e : E} : FOk (Ft c own e H) H' := fun a z n => z.elim (fun z => (S.mono s).fok a z n) fun z => z.2 (s.free n)
theorem lp_var {i : Nat} {Q : VK} (q : rdE c (.var i) σ H Q) : tVar i σ H Q := by
  obtain ⟨own, τ, S, p⟩ := q
  obtain ⟨d, e, p⟩ := (show Post (getV τ i) _ _ from p).nx (nx_getV τ i)
  obtain ⟨v, h1, h2⟩ := S.get e
  exact ⟨v, h1, p v H (Same.refl H) (h2.weak (ft_n rfl fun _ z => z) fun _ z => z)⟩
theorem lp_par {i : Nat} {Q : VK} (q : rdE c (.par i) σ H Q) : tVar i σ H Q := by
  obtain ⟨own, τ, S, p⟩ := q
  obtain ⟨d, e, p⟩ := (show Post (getP τ i) _ _ from p).nx (nx_getP τ i)
  have e' : τ[i]? = some (some (.v d)) := by
    unfold getP at e
    split at e
    · rename_i z
      cases e
      exact z
    · cases e
  obtain ⟨v, h1, h2⟩ := S.val i d e'
  exact ⟨v, h1, p v H (Same.refl H) (h2.t.weak (ft_n rfl fun _ z => z) fun _ z => z)⟩
/-- two in a row -/
theorem lp_two {a b : E} {f : D → D → Res D} {T : Addr → Prop} {L2 : List Nat} {Q : VK} {R : V → V → Hp → Prop} (S : Sim c own τ σ H)
    (p : Post (ev c.G c.Φ a τ >>= fun x => ev c.G c.Φ b τ >>= fun y => f x y) (fun d => ∀ v H', Same H H' → RepT c.K T (Fb c own L2) H' d v → Q v H') (ExW c σ H))
    (q : ∀ x y v w H2, Same H H2 → Sim c own τ σ H2 → RepT c.K (Fb c own (lt a)) (Fb c own (li a)) H2 x v → RepT c.K (Fb c own (lt b)) (Fb c own (li b)) H2 y w → Post (f x y) (fun d => ∀ v H', Same H2 H' → RepT c.K T (Fb c own L2) H' d v → Q v H') (ExW c σ H2) → R v w H2) :
    rdE c a σ H fun x H1 => rdE c b σ H1 fun y H2 => R x y H2 :=
  ⟨own, τ, S, (Post.bind p).imp (fun x _ p v H1 s1 r1 => ⟨own, τ, S.mono s1, (Post.bind p).imp (fun y _ p w H2 s2 r2 => q x y v w H2 (s1.trans s2) (S.mono (s1.trans s2)) ((r1.same s2).weak ft_l fun _ z => z) (r2.weak ft_l fun _ z => z)
    (p.imp (fun d _ q v H3 s3 r => q v H3 ((s1.trans s2).trans s3) r) fun _ _ e => e.same (s1.trans s2))) fun _ _ e => e.same s1⟩) fun _ _ e => e⟩
theorem lp_op {o : Op} {a b : E} {Q : VK} (q : rdE c (.op o a b) σ H Q) : tOp (rOpD c.K o) (rdE c a) (rdE c b) σ H Q := by
  obtain ⟨own, τ, S, p⟩ := q
  refine lp_two (f := opD o) (T := Ft c own (.op o a b) H) (L2 := li a ++ li b) S p fun x y v w H2 s S2 r1 r2 p => ?_
  obtain ⟨d, e, q⟩ := p.nx (nx_opD o x y)
  exact ⟨Ft c own (.op o a b) H, Fb c own (li a ++ li b), x, y, ft_ok S s, r1.any.weak (fun _ z => z) appL, r2.any.weak (fun _ z => z) appR, d, e, q⟩
theorem lp_neg {a : E} {Q : VK} (q : rdE c (.neg a) σ H Q) : tUn (rU fun i => .int (-i)) (rdE c a) σ H Q := by
  obtain ⟨own, τ, S, p⟩ := q
  refine ⟨own, τ, S, (Post.bind p).imp (fun x _ p v H1 s1 r1 => ?_) fun _ _ e => e⟩
  obtain ⟨i, e, p⟩ := (Post.bind p).nx (nx_intD x)
  cases x with
  | int j => cases e; exact ⟨i, r1, p _ H1 s1 rfl⟩
  | _ => cases e
theorem lp_not {a : E} {Q : VK} (q : rdE c (.not a) σ H Q) : tNotV (rdE c a) σ H Q := by
  obtain ⟨own, τ, S, p⟩ := q
  refine ⟨own, τ, S, (Post.bind p).imp (fun x _ p v H1 s1 r1 => ?_) fun _ _ e => e⟩
  obtain ⟨b, e, p⟩ := (Post.bind p).nx (nx_blD x)
  cases x with
  | bl j => cases e; exact ⟨b, r1, p _ H1 s1 rfl⟩
  | _ => cases e
theorem lp_and {a b : E} {Q : VK} (q : rdE c (.and a b) σ H Q) : tAndV (rdE c a) (rdE c b) σ H Q := by
  obtain ⟨own, τ, S, p⟩ := q
  refine ⟨own, τ, S, (Post.bind p).imp (fun x _ p v H1 s1 r1 => ?_) fun _ _ e => e⟩
  obtain ⟨t, e, p⟩ := (Post.bind p).nx (nx_blD x)
  cases x with
  | bl j =>
    cases e
    refine ⟨t, r1, ?_⟩
    cases t with
    | true => exact iteT ⟨own, τ, S.mono s1, (show Post (ev c.G c.Φ b τ) _ _ from p).imp (fun d _ q w H2 s2 r => q w H2 (s1.trans s2) (r.weak (fun a z => ft_l a (appR a (ft_n rfl (fun _ z => z) a z))) appR)) fun _ _ e => e.same s1⟩
    | false => exact iteF ((show ∀ v H', Same H H' → RepT c.K _ _ H' (D.bl false) v → Q v H' from p) _ H1 s1 rfl)
  | _ => cases e
theorem lp_or {a b : E} {Q : VK} (q : rdE c (.or a b) σ H Q) : tOrV (rdE c a) (rdE c b) σ H Q := by
  obtain ⟨own, τ, S, p⟩ := q
  refine ⟨own, τ, S, (Post.bind p).imp (fun x _ p v H1 s1 r1 => ?_) fun _ _ e => e⟩
  obtain ⟨t, e, p⟩ := (Post.bind p).nx (nx_blD x)
  cases x with
  | bl j =>
    cases e
    refine ⟨t, r1, ?_⟩
    cases t with
    | false => exact iteF ⟨own, τ, S.mono s1, (show Post (ev c.G c.Φ b τ) _ _ from p).imp (fun d _ q w H2 s2 r => q w H2 (s1.trans s2) (r.weak (fun a z => ft_l a (appR a (ft_n rfl (fun _ z => z) a z))) appR)) fun _ _ e => e.same s1⟩
    | true => exact iteT ((show ∀ v H', Same H H' → RepT c.K _ _ H' (D.bl true) v → Q v H' from p) _ H1 s1 rfl)
  | _ => cases e
theorem nxbl {o : Cm} {x y d : D} (h : cmD o x y = .ok d) : ∃ b, d = .bl b := by
  cases o with
  | eq => obtain ⟨b, _, e⟩ := bind_ok (show (eqD x y >>= fun r => Res.ok (D.bl r)) = .ok d from h); exact ⟨b, (Res.ok.inj e).symm⟩
  | ne => obtain ⟨b, _, e⟩ := bind_ok (show (eqD x y >>= fun r => Res.ok (D.bl (!r))) = .ok d from h); exact ⟨!b, (Res.ok.inj e).symm⟩
  | in_ => obtain ⟨b, _, e⟩ := bind_ok (show (inD x y >>= fun r => Res.ok (D.bl r)) = .ok d from h); exact ⟨b, (Res.ok.inj e).symm⟩
  | notIn => obtain ⟨b, _, e⟩ := bind_ok (show (inD x y >>= fun r => Res.ok (D.bl (!r))) = .ok d from h); exact ⟨!b, (Res.ok.inj e).symm⟩
  | lt =>
    cases x with
    | tup xs =>
      cases y with
      | tup ys =>
        have h' : (match D.ints xs, D.ints ys with
          | some a, some b => Res.ok (D.bl (HT.lexLt a b))
          | _, _ => .bad) = .ok d := h
        split at h'
        · exact ⟨_, (Res.ok.inj h').symm⟩
        · cases h'
      | _ => cases h
    | int i =>
      cases y with
      | int j => exact ⟨_, (Res.ok.inj h).symm⟩
      | _ => cases h
    | _ => cases y <;> cases h
  | _ =>
    cases x <;> cases y <;> first | exact ⟨_, (Res.ok.inj h).symm⟩ | cases h
theorem lp_cmp {o : Cm} {a b : E} {Q : VK} (q : rdE c (.cmp o a b) σ H Q) : tOp (rCmD c.K o) (rdE c a) (rdE c b) σ H Q := by
  obtain ⟨own, τ, S, p⟩ := q
  refine lp_two (f := cmD o) (T := Ft c own (.cmp o a b) H) (L2 := []) S p fun x y v w H2 s S2 r1 r2 p => ?_
  obtain ⟨d, e, q⟩ := p.nx (nx_cmD o x y)
  exact ⟨_, _, _, _, x, y, d, r1, r2, e, fun b eb => by subst eb; exact q _ H2 (Same.refl _) rfl⟩
theorem lp_chain {o o' : Cm} {a b d : E} {Q : VK} (q : rdE c (.chain o o' a b d) σ H Q) : tChain (rCmD c.K o) (rCmD c.K o') (rdE c a) (rdE c b) (rdE c d) σ H Q := by
  obtain ⟨own, τ, S, p⟩ := q
  refine ⟨own, τ, S, (Post.bind p).imp (fun x _ p v H1 s1 r1 => ⟨own, τ, S.mono s1, (Post.bind p).imp (fun y _ p w H2 s2 r2 => ?_) fun _ _ e => e.same s1⟩) fun _ _ e => e⟩
  obtain ⟨z, e, p⟩ := (Post.bind p).nx (nx_cmD o x y)
  obtain ⟨t, et⟩ := nxbl e
  subst et
  refine ⟨_, _, _, _, x, y, .bl t, r1.same s2, r2, e, fun b eb => ?_⟩
  cases eb
  refine ⟨t, rfl, ?_⟩
  have p' : Post (if t then ev c.G c.Φ d τ >>= fun w => cmD o' y w else Res.ok (D.bl false)) (fun d' => ∀ v H', Same H H' → RepT c.K (Ft c own (E.chain o o' a b d) H) (Fb c own (li (E.chain o o' a b d))) H' d' v → Q v H') (ExW c σ H) := p
  cases t with
  | false => exact iteF ((show ∀ v H', Same H H' → RepT c.K _ _ H' (D.bl false) v → Q v H' from p') _ H2 (s1.trans s2) rfl)
  | true =>
    refine iteT ⟨own, τ, S.mono (s1.trans s2), (Post.bind (show Post (ev c.G c.Φ d τ >>= fun w => cmD o' y w) _ _ from p')).imp (fun z _ p u H3 s3 r3 => ?_) fun _ _ e => e.same (s1.trans s2)⟩
    obtain ⟨d', e, q⟩ := p.nx (nx_cmD o' y z)
    exact ⟨_, _, _, _, y, z, d', r2.same s3, r3, e, fun b eb => by subst eb; exact q _ H3 ((s1.trans s2).trans s3) rfl⟩
theorem lp_ife {t a b : E} {Q : VK} (q : rdE c (.ife t a b) σ H Q) : tIf (rdT c t) (rdE c a) (rdE c b) σ H Q := by
  obtain ⟨own, τ, S, p⟩ := q
  have p' : Post ((ev c.G c.Φ t τ >>= blD) >>= fun k => if k then ev c.G c.Φ a τ else ev c.G c.Φ b τ) (fun d => ∀ v H', Same H H' → RepT c.K (Ft c own (E.ife t a b) H) (Fb c own (li (E.ife t a b))) H' d v → Q v H') (ExW c σ H) := by
    have e : ((ev c.G c.Φ t τ >>= blD) >>= fun k => if k then ev c.G c.Φ a τ else ev c.G c.Φ b τ) = ev c.G c.Φ (.ife t a b) τ := by
      show _ = (ev c.G c.Φ t τ >>= fun x => blD x >>= fun k => if k then ev c.G c.Φ a τ else ev c.G c.Φ b τ)
      cases ev c.G c.Φ t τ <;> rfl
    rw [e]
    exact p
  refine ⟨own, τ, S, (Post.bind p').imp (fun t _ p H1 s1 => ?_) fun _ _ e => e⟩
  cases t with
  | true => exact iteT ⟨own, τ, S.mono s1, (show Post (ev c.G c.Φ a τ) _ _ from p).imp (fun d _ q w H2 s2 r => q w H2 (s1.trans s2) (r.weak (fun a z => ft_l a (appL a (ft_n rfl (fun _ z => z) a z))) appL)) fun _ _ e => e.same s1⟩
  | false => exact iteF ⟨own, τ, S.mono s1, (show Post (ev c.G c.Φ b τ) _ _ from p).imp (fun d _ q w H2 s2 r => q w H2 (s1.trans s2) (r.weak (fun a z => ft_l a (appR a (ft_n rfl (fun _ z => z) a z))) appR)) fun _ _ e => e.same s1⟩
theorem lp_ix {a b : E} {Q : VK} (q : rdE c (.ix a b) σ H Q) : tOp (rIxD c.K) (rdE c a) (rdE c b) σ H Q := by
  obtain ⟨own, τ, S, p⟩ := q
  refine lp_two (f := ixD) (T := Ft c own (.ix a b) H) (L2 := li a) S p fun x y v w H2 s S2 r1 r2 p => ?_
  obtain ⟨d, e, q⟩ := p.nx (nx_ixD x y)
  exact ⟨_, _, _, _, x, y, d, r1, r2, e, fun u r => q u H2 (Same.refl _) (r.t.weak (ft_n rfl fun _ z => z) fun _ z => z)⟩
theorem lp_part {o : Op1} {Q : Option Int → Hp → Prop} (q : rdO c o σ H Q) : (o = .no → tNoPart σ H Q) ∧ ∀ e, o = .so e → tPart (rdE c e) σ H Q := by
  obtain ⟨own, τ, S, p⟩ := q
  refine ⟨fun e => ?_, fun e he => ?_⟩
  · subst e
    exact (show ∀ H', Same H H' → Q none H' from p) H (Same.refl _)
  · subst he
    refine ⟨own, τ, S, (Post.bind (show Post (ev c.G c.Φ e τ >>= fun x => intD x >>= fun i => Res.ok (some i)) _ _ from p)).imp (fun x _ p v H1 s1 r1 => ?_) fun _ _ e => e⟩
    obtain ⟨i, e, p⟩ := (Post.bind p).nx (nx_intD x)
    cases x with
    | int j => cases e; exact ⟨i, r1, (show ∀ H', Same H H' → Q (some i) H' from p) H1 s1⟩
    | _ => cases e
theorem lp_sl {a : E} {lo hi : Op1} {Q : VK} (q : rdE c (.sl a lo hi) σ H Q) : tSl (rSlD c.K) (rdE c a) (rdO c lo) (rdO c hi) σ H Q := by
  obtain ⟨own, τ, S, p⟩ := q
  refine ⟨own, τ, S, (Post.bind p).imp (fun x _ p v H1 s1 r1 => ⟨own, τ, S.mono s1, (Post.bind p).imp (fun l _ p H2 s2 => ⟨own, τ, S.mono (s1.trans s2), (Post.bind p).imp (fun h _ p H3 s3 => ?_) fun _ _ e => e.same (s1.trans s2)⟩) fun _ _ e => e.same s1⟩) fun _ _ e => e⟩
  obtain ⟨d, e, q⟩ := p.nx (nx_slD x l h)
  exact ⟨Ft c own (.sl a lo hi) H, Fb c own (li a), x, ft_ok S ((s1.trans s2).trans s3), (r1.same (s2.trans s3)).any, d, e, fun u H4 s4 r => q u H4 (((s1.trans s2).trans s3).trans s4) r⟩
theorem lp_nil {Q : List V → Hp → Prop} (q : rdA c .nil σ H Q) : tNil σ H Q := by
  obtain ⟨own, τ, S, p⟩ := q
  exact (show ∀ vs H', Same H H' → RepL c.K (Fb c own (las .nil)) H' [] vs → RepA c.K (Fb c own (lis .nil)) H' [] vs → Q vs H' from p) [] H (Same.refl _) rfl rfl
theorem lp_cons {e : E} {r : Es} {Q : List V → Hp → Prop} (q : rdA c (.cons e r) σ H Q) : tCons (rdE c e) (rdA c r) σ H Q := by
  obtain ⟨own, τ, S, p⟩ := q
  refine ⟨own, τ, S, (Post.bind (show Post (ev c.G c.Φ e τ >>= fun d => evs c.G c.Φ r τ >>= fun ds => Res.ok (d :: ds)) _ _ from p)).imp (fun x _ p v H1 s1 r1 => ⟨own, τ, S.mono s1, (Post.bind p).imp (fun ds _ p vs H2 s2 r2 r3 => ?_) fun _ _ e => e.same s1⟩) fun _ _ e => e⟩
  refine (show ∀ vs H', Same H H' → RepL c.K (Fb c own (las (.cons e r))) H' (x :: ds) vs → RepA c.K (Fb c own (lis (.cons e r))) H' (x :: ds) vs → Q vs H' from p) (v :: vs) H2 (s1.trans s2) ⟨v, vs, rfl, ?_, r2.weak appR⟩ ⟨v, vs, rfl, (r1.same s2).any.weak (fun _ z => z) appL, ?_⟩
  · exact ((r1.same s2).weak (F1' := Fb c own (las (.cons e r))) (fun a z => ft_l a (appL (L' := li e) a (appL (L' := las r) a z))) (fun a z => appR (L := lt e) a (appL (L' := las r) a z))).rep
  · have key : ∀ {ds : List D} {vs : List V}, RepA c.K (Fb c own (lis r)) H2 ds vs → RepA c.K (Fb c own (lis (.cons e r))) H2 ds vs := by
      intro ds
      induction ds with
      | nil => intro vs h; exact h
      | cons d ds ih =>
        intro vs h
        obtain ⟨v, w, e1, h1, h2⟩ := h
        exact ⟨v, w, e1, h1.weak (fun _ z => z) appR, ih h2⟩
    exact key r3
theorem lp_tup {es : Es} {Q : VK} (hl : esLen es ≤ 1000) (q : rdE c (.tup es) σ H Q) : tTup (rdA c es) σ H Q := by
  obtain ⟨own, τ, S, p⟩ := q
  refine ⟨own, τ, S, (Post.bind p).imp (fun ds e p vs H1 s1 r1 _ => ?_) fun _ _ e => e⟩
  have n := evs_len e
  exact ⟨by rw [← r1.length, n]; exact line1000 hl, fun a ha => (show ∀ v H', Same H H' → RepT c.K _ _ H' (D.tup ds) v → Q v H' from p) _ _ (s1.trans (same_upd ha)) (tup_new ha r1)⟩
theorem lp_lst {es : Es} {Q : VK} (hl : esLen es ≤ 1000) (q : rdE c (.lst es) σ H Q) : tLst (rdA c es) σ H Q := by
  obtain ⟨own, τ, S, p⟩ := q
  refine ⟨own, τ, S, (Post.bind p).imp (fun ds e p vs H1 s1 r1 _ => ?_) fun _ _ e => e⟩
  have n := evs_len e
  exact ⟨by rw [← r1.length, n]; exact line1000 hl, fun a ha => (show ∀ v H', Same H H' → RepT c.K (Ft c own (.lst es) H) (Fb c own (las es)) H' (D.lst ds) v → Q v H' from p) _ _ (s1.trans (same_upd ha)) (lst_new (ft_ok S s1) ha r1)⟩
theorem lp_bi {b : Bi} {es : Es} {Q : VK} (q : rdE c (.bi b es) σ H Q) : tCB (rBiD c.K b) (rdA c es) σ H Q := by
  obtain ⟨own, τ, S, p⟩ := q
  refine ⟨own, τ, S, (Post.bind p).imp (fun ds e p vs H1 s1 _ r1 => ?_) fun _ _ e => e⟩
  obtain ⟨d, e, q⟩ := p.nx (nx_biD b ds)
  exact ⟨Ft c own (.bi b es) H, Fb c own (lis es), ds, ft_ok S s1, r1, d, e, fun v H2 s2 r => q v H2 (s1.trans s2) r⟩
theorem lp_call {f : Str} {es : Es} {Q : VK} (q : rdE c (.call f es) σ H Q) : tCallS (spD c f) (WE c.W) (rdA c es) σ H Q := by
  obtain ⟨own, τ, S, p⟩ := q
  refine ⟨own, τ, S, (Post.bind p).imp (fun ds e p vs H1 s1 r1 _ => ?_) fun _ _ e => e⟩
  refine ⟨ds, Fb c own (las es), r1, (S.mono s1).fok, p.imp (fun d _ q v H2 s2 r => q v H2 (s1.trans s2) (r.weak (fun a z => .inl (ft_n rfl (fun _ z => z) a z)) fun _ z => z)) fun x as e cls dd H2 s2 ex => ?_⟩
  obtain ⟨C, h1, h2, d, fs, h3, h4, h5, h6⟩ := ex
  exact e cls dd H2 (s1.trans s2) ⟨C, h1, h2, d, fs, h3, h4, h5, h6.weak fun a z => .inl z⟩
theorem lp_callF {f : Str} {es : Es} {Q : VK} (hf : c.frs f = true) (q : rdE c (.callF f es) σ H Q) : tCallS (spD c f) (WE c.W) (rdA c es) σ H Q := by
  obtain ⟨own, τ, S, p⟩ := q
  refine ⟨own, τ, S, (Post.bind p).imp (fun ds e p vs H1 s1 r1 _ => ?_) fun _ _ e => e⟩
  refine ⟨ds, Fb c own (las es), r1, (S.mono s1).fok, p.imp (fun d _ q v H2 s2 r => q v H2 (s1.trans s2) (r.weak (fun a z => .inr ⟨hf, z.elim (fun z => (S.mono s1).fok a z) fun z n => (s1.free n) |> z.2⟩) fun _ z => z)) fun x as e cls dd H2 s2 ex => ?_⟩
  obtain ⟨C, h1, h2, d, fs, h3, h4, h5, h6⟩ := ex
  exact e cls dd H2 (s1.trans s2) ⟨C, h1, h2, d, fs, h3, h4, h5, h6.weak fun a z => .inl z⟩
theorem lp_isi {a : E} {t : String} {Q : VK} (q : rdE c (.isi a t) σ H Q) : tCB (rIsD c.K t) (tCons (rdE c a) (tCons (tC (.ty t)) tNil)) σ H Q := by
  obtain ⟨own, τ, S, p⟩ := q
  refine ⟨own, τ, S, (Post.bind p).imp (fun x _ p v H1 s1 r1 => ?_) fun _ _ e => e⟩
  obtain ⟨d, e, q⟩ := p.nx (nx_isiD x t)
  exact ⟨_, _, x, v, d, rfl, r1, e, fun b eb => by subst eb; exact q _ H1 s1 rfl⟩
theorem lp_find {K : PySem.W.Frag} {a b : E} {Q : VK} (q : rdE c (.find a b) σ H Q) : tBM K "str" (fun x xs H Q => ∃ a b, x = .str a ∧ xs = [.str b] ∧ Q (.int (Txt.find a b)) H) (rdE c a) (tCons (rdE c b) tNil) σ H Q := by
  obtain ⟨own, τ, S, p⟩ := q
  refine ⟨own, τ, S, (Post.bind p).imp (fun x _ p v H1 s1 r1 => ?_) fun _ _ e => e⟩
  cases x with
  | str z =>
    cases (show v = .str z from r1)
    refine ⟨rfl, own, τ, S.mono s1, (Post.bind (show Post (ev c.G c.Φ b τ >>= fun y => strD y >>= fun t => Res.ok (D.int (Txt.find z t))) _ _ from p)).imp (fun y _ p w H2 s2 r2 => ?_) fun _ _ e => e.same s1⟩
    cases y with
    | str t =>
      cases (show w = .str t from r2)
      exact ⟨z, t, rfl, rfl, (show ∀ v H', Same H H' → RepT c.K _ _ H' (D.int (Txt.find z t)) v → Q v H' from p) _ _ (s1.trans s2) rfl⟩
    | _ => exact p.elim
  | _ => exact p.elim
theorem lp_dget {x : Str} {kvs : List (Str × Int)} {a b : E} {Q : VK} (q : rdE c (.dget x kvs a b) σ H Q) : (tCons (rdE c a) (tCons (rdE c b) tNil)) σ H fun xs H2 => rKg kvs xs H2 Q := by
  obtain ⟨own, τ, S, p⟩ := q
  refine ⟨own, τ, S, (Post.bind p).imp (fun x _ p v H1 s1 r1 => ?_) fun _ _ e => e⟩
  cases x with
  | str z =>
    cases (show v = .str z from r1)
    refine ⟨own, τ, S.mono s1, (Post.bind (show Post (ev c.G c.Φ b τ >>= fun y => getK kvs (.str z) y) _ _ from p)).imp (fun y _ p w H2 s2 r2 => ?_) fun _ _ e => e.same s1⟩
    cases y with
    | int t =>
      cases (show w = .int t from r2)
      exact ⟨z, t, rfl, (show ∀ v H', Same H H' → RepT c.K _ _ H' (D.int ((kvs.lookup z).getD t)) v → Q v H' from p) _ _ (s1.trans s2) rfl⟩
    | _ => exact p.elim
  | _ =>
    refine ⟨own, τ, S.mono s1, (Post.bind (show Post (ev c.G c.Φ b τ >>= fun y => Res.bad) _ _ from p)).imp (fun y _ p w H2 s2 r2 => p.elim) fun _ _ e => e.same s1⟩
theorem lp_me {m : Me} {a : E} {es : Es} {Q : VK} (q : rdE c (.me m a es) σ H Q) : tBM c.K (meTy m) (rMeD c.K m) (rdE c a) (rdA c es) σ H Q := by
  obtain ⟨own, τ, S, p⟩ := q
  refine ⟨own, τ, S, (Post.bind p).imp (fun x _ p v H1 s1 r1 => ?_) fun _ _ e => e⟩
  obtain ⟨u, e, p⟩ := (Post.bind (show Post (meT m x >>= fun _ => evs c.G c.Φ es τ >>= fun ds => meD m x ds) _ _ from p)).nx (nx_meT m x)
  refine ⟨me_ty e r1, own, τ, S.mono s1, (Post.bind p).imp (fun ds e p vs H2 s2 _ ra => ?_) fun _ _ e => e.same s1⟩
  obtain ⟨d, e, q⟩ := p.nx (nx_meD m x ds)
  exact ⟨Ft c own (.me m a es) H, Fb c own [], Fb c own (lis es), _, _, x, ds, ft_ok S (s1.trans s2), r1.same s2, ra, d, e, fun v H3 s3 r => q v H3 ((s1.trans s2).trans s3) r⟩
theorem lp_me0 {m : Me} {a : E} {es : Es} {Q : VK} (h : esNil es = true) (q : rdE c (.me m a es) σ H Q) : tBM0 c.K (meTy m) (rMeD c.K m) (rdE c a) σ H Q := by
  cases es with
  | cons _ _ => cases h
  | nil =>
    obtain ⟨own, τ, S, p⟩ := q
    refine ⟨own, τ, S, (Post.bind p).imp (fun x _ p v H1 s1 r1 => ?_) fun _ _ e => e⟩
    obtain ⟨u, e, p⟩ := (Post.bind (show Post (meT m x >>= fun _ => evs c.G c.Φ .nil τ >>= fun ds => meD m x ds) _ _ from p)).nx (nx_meT m x)
    obtain ⟨d, e2, q⟩ := (show Post (meD m x []) _ _ from p).nx (nx_meD m x [])
    exact ⟨me_ty e r1, Ft c own (.me m a .nil) H, Fb c own [], NoF, _, _, x, [], ft_ok S s1, r1, rfl, d, e2, fun v H3 s3 r => q v H3 (s1.trans s3) r⟩
/-- the parts of an f-string, one behind the other -/
def rdF (c : Cc) (es : Es) (acc : Str) : L2.St → Hp → (Str → Hp → Prop) → Prop := fun σ H Q => ∃ own τ, Sim c own τ σ H ∧ Post (evf c.G c.Φ es acc τ) (fun out => ∀ H', Same H H' → Q out H') (ExW c σ H)
theorem lp_fs {es : Es} {Q : VK} (q : rdE c (.fs es) σ H Q) : rdF c es Str.empty σ H fun out H' => Q (.str out) H' := by
  obtain ⟨own, τ, S, p⟩ := q
  exact ⟨own, τ, S, (Post.bind p).imp (fun out _ p H1 s1 => (show ∀ v H', Same H H' → RepT c.K _ _ H' (D.str out) v → Q v H' from p) _ _ s1 rfl) fun _ _ e => e⟩
theorem lf_nil {acc : Str} {Q : Str → Hp → Prop} (q : rdF c .nil acc σ H Q) : tJs [] acc σ H Q := by
  obtain ⟨own, τ, S, p⟩ := q
  exact (show ∀ H', Same H H' → Q acc H' from p) H (Same.refl H)
theorem lf_cons {e : E} {r : Es} {acc : Str} {ts : List TE} {Q : Str → Hp → Prop} (ih : ∀ (acc : Str) (H : Hp), rdF c r acc σ H Q → tJs ts acc σ H Q) (q : rdF c (.cons e r) acc σ H Q) : tJs (tFmt (rdE c e) :: ts) acc σ H Q := by
  obtain ⟨own, τ, S, p⟩ := q
  refine ⟨own, τ, S, (Post.bind p).imp (fun d _ p v H1 s1 r1 => ?_) fun _ _ e => e⟩
  obtain ⟨y, e, p⟩ := (Post.bind (show Post (fmtD d >>= fun y => if (acc ++ y).length ≤ sizeLine then evf c.G c.Φ r (acc ++ y) τ else .bad) _ _ from p)).nx (nx_fmtD d)
  by_cases hl : (acc ++ y).length ≤ sizeLine
  · rw [if_pos hl] at p
    have w : tJs ts (acc ++ y) σ H1 Q := ih (acc ++ y) H1 ⟨own, τ, S.mono s1, p.imp (fun out _ q H2 s2 => q H2 (s1.trans s2)) fun _ _ e => e.same s1⟩
    cases d with
    | str z =>
      obtain ⟨hz, rfl⟩ := ok_if (show (if z.length ≤ sizeLine then Res.ok z else .bad) = .ok y from e)
      exact .inl ⟨z, r1, hz, z, rfl, hl, w⟩
    | int i =>
      obtain ⟨hz, rfl⟩ := ok_if (show (if i.natAbs.log2 < 1920 then Res.ok (Str.ofString (toString i)) else .bad) = .ok y from e)
      exact .inr ⟨i, r1, hz, _, rfl, hl, w⟩
    | _ => cases e
  · rw [if_neg hl] at p
    exact p.elim
theorem lf_str {s : Str} {r : Es} {acc : Str} {ts : List TE} {Q : Str → Hp → Prop} (ih : ∀ (acc : Str) (H : Hp), rdF c r acc σ H Q → tJs ts acc σ H Q) (q : rdF c (.cons (.str s) r) acc σ H Q) : tJs (tC (.str s) :: ts) acc σ H Q := by
  obtain ⟨own, τ, S, p⟩ := q
  obtain ⟨y, e, p⟩ := (Post.bind (show Post (fmtD (.str s) >>= fun y => if (acc ++ y).length ≤ sizeLine then evf c.G c.Φ r (acc ++ y) τ else .bad) _ _ from p)).nx (nx_fmtD _)
  obtain ⟨hz, rfl⟩ := ok_if (show (if s.length ≤ sizeLine then Res.ok s else .bad) = .ok y from e)
  by_cases hl : (acc ++ s).length ≤ sizeLine
  · rw [if_pos hl] at p
    exact ⟨s, rfl, hl, ih _ H ⟨own, τ, S, p⟩⟩
  · rw [if_neg hl] at p
    exact p.elim
end
end PyI
/-! PyI, part 8: what is walked; comprehensions. -/
namespace PyI
open PySem PySem.Spec PyProof.Rows L2
section
variable {K : PySem.W.Frag} {F F1 F2 : Addr → Prop} {H : Hp}
theorem Kept.more {F F2 : Addr → Prop} {H H' : Hp} (k : Kept F H H') (w : ∀ a, F a → F2 a) : Kept F2 H H' := fun a o e n => k a o e (n.imp (fun z x => z (w a x)) id)
theorem it_list {a : Addr} {vs : List V} {ds : List D} (h : H a = some (.lst vs)) (n : ¬ F a) (w : ∀ a, F a → F2 a) (r : RepL K F2 H ds vs) : ItOk K F F2 (Itl K a) H ds := fun Y hY H1 kp => by
  have h1 : H1 a = some (.lst vs) := kp a _ h (.inl n)
  have r1 := RepFL.kept ds vs (kp.more (fun a z => Or.inl (w a z))) (fun _ z => z) (RepFL.older hY ds vs r)
  refine ⟨fun i d e => ?_, fun i hi => ⟨vs, SqL.of h1, by rw [← r.length]; exact hi⟩⟩
  obtain ⟨v, hv, rv⟩ := r1.get e
  refine ⟨⟨vs, v, SqL.of h1, hv⟩, fun x H2 ⟨e1, e2⟩ => ?_⟩
  subst e1
  have := e2 vs (SqL.of h1)
  rw [hv] at this
  cases this
  exact ⟨Same.refl _, rv⟩
theorem it_tup {a : Addr} {vs : List V} {ds : List D} (h : SqT K H a vs) (w : ∀ a, F a → F2 a) (r : RepL K F2 H ds vs) : ItOk K F F2 (Itt K a) H ds := fun Y hY H1 kp => by
  have h1 : SqT K H1 a vs := kp.sqT h
  have r1 := RepFL.kept ds vs (kp.more (fun a z => Or.inl (w a z))) (fun _ z => z) (RepFL.older hY ds vs r)
  refine ⟨fun i d e => ?_, fun i hi => ⟨vs, h1, by rw [← r.length]; exact hi⟩⟩
  obtain ⟨v, hv, rv⟩ := r1.get e
  refine ⟨⟨vs, v, h1, hv⟩, fun x H2 ⟨e1, e2⟩ => ?_⟩
  subst e1
  have := e2 vs h1
  rw [hv] at this
  cases this
  exact ⟨Same.refl _, rv⟩
theorem it_scr {a : Addr} {ns : List Int} (h : ScrAt K F H a (ns.map V.int)) : ItOk K F F2 (Itl K a) H (ns.map D.int) := fun Y hY H1 kp => by
  have h1 : SqL K H1 a (ns.map V.int) := by
    rcases h with ⟨h, n⟩ | ⟨o, h⟩ | h
    · exact .inl (.inl (kp _ _ h (.inl n)))
    · exact .inl (.inr ⟨o, kp _ _ h (.inr fun ⟨_, z⟩ => nomatch z)⟩)
    · exact .inr h
  refine ⟨fun i d e => ?_, fun i hi => ⟨_, h1, by simpa using hi⟩⟩
  rw [List.getElem?_map] at e
  cases z : ns[i]? with
  | none => rw [z] at e; cases e
  | some m =>
    rw [z] at e
    cases e
    have hv : (ns.map V.int)[i]? = some (.int m) := by rw [List.getElem?_map, z]; rfl
    refine ⟨⟨_, _, h1, hv⟩, fun x H2 ⟨e1, e2⟩ => ?_⟩
    subst e1
    have := e2 _ h1
    rw [hv] at this
    cases this
    exact ⟨Same.refl _, rfl⟩
theorem it_str {x : Str} : ItOk K F F2 (Its x) H (x.cps.toList.map fun c => .str ⟨#[c]⟩) := fun Y hY H1 kp => by
  refine ⟨fun i d e => ?_, fun i hi => by simpa [Its] using hi⟩
  rw [List.getElem?_map] at e
  cases z : x.cps.toList[i]? with
  | none => rw [z] at e; cases e
  | some m =>
    rw [z] at e
    cases e
    have z' : x.cps[i]? = some m := by rw [← Array.getElem?_toList]; exact z
    refine ⟨by have := (Array.getElem?_eq_some_iff.mp z').1; exact this, fun v H2 ⟨e1, ch, e2, e3⟩ => ?_⟩
    subst e1
    rw [z'] at e2
    cases e2
    exact ⟨Same.refl _, e3⟩
theorem it_rng {a : Int} {n : Nat} : ItOk K F F2 (Itr a n) H ((List.range n).map fun (i : Nat) => .int (a + i)) := fun Y hY H1 kp => by
  refine ⟨fun i d e => ?_, fun i hi => by simpa [Itr] using hi⟩
  rw [List.getElem?_map] at e
  by_cases h : i < n
  · rw [List.getElem?_range h] at e
    cases e
    refine ⟨h, fun v H2 ⟨e1, e2⟩ => ?_⟩
    subst e1
    exact ⟨Same.refl _, e2⟩
  · rw [List.getElem?_eq_none (by simpa using h)] at e
    cases e
theorem enumD_get : ∀ (ds : List D) (m i : Nat) (d : D), (enumD m ds)[i]? = some d → ∃ e, ds[i]? = some e ∧ d = .tup [.int ((m + i : Nat) : Int), e]
  | [], _, _, _, h => by simp [enumD] at h
  | x :: r, m, 0, d, h => by
    have h' : some (D.tup [.int (m : Nat), x]) = some d := h
    cases h'
    exact ⟨x, rfl, rfl⟩
  | x :: r, m, i + 1, d, h => by
    obtain ⟨e, h1, h2⟩ := enumD_get r (m + 1) i d h
    exact ⟨e, h1, by rw [h2]; congr 4; omega⟩
theorem enumD_len : ∀ (ds : List D) (m : Nat), (enumD m ds).length = ds.length
  | [], _ => rfl
  | x :: r, m => by show (enumD (m + 1) r).length + 1 = _; rw [enumD_len r (m + 1)]; rfl
theorem it_enum {a : Addr} {vs : List V} {ds : List D} (h : H a = some (.lst vs)) (n : ¬ F a) (w : ∀ a, F a → F2 a) (r : RepL K F2 H ds vs) : ItOk K F F2 (Ite K a) H (enumD 0 ds) := fun Y hY H1 kp => by
  have h1 : H1 a = some (.lst vs) := kp a _ h (.inl n)
  have r1 := RepFL.kept ds vs (kp.more (fun a z => Or.inl (w a z))) (fun _ z => z) (RepFL.older hY ds vs r)
  refine ⟨fun i d e => ?_, fun i hi => ⟨vs, SqL.of h1, by rw [← r.length, ← enumD_len ds 0]; exact hi⟩⟩
  obtain ⟨d', e1, rfl⟩ := enumD_get ds 0 i d e
  obtain ⟨v, hv, rv⟩ := r1.get e1
  refine ⟨⟨vs, v, SqL.of h1, hv⟩, fun x H2 ⟨T, y, ex, hT, e2, e3⟩ => ?_⟩
  subst ex
  subst e2
  have := e3 vs (SqL.of h1)
  rw [hv] at this
  cases this
  refine ⟨same_upd hT, T, [.int (i : Nat), v], rfl, SqT.of upd_same, ?_⟩
  refine ⟨_, _, rfl, ?_, v, [], rfl, rv.same (same_upd hT), rfl⟩
  show V.int (i : Nat) = V.int ((0 + i : Nat) : Int)
  rw [Nat.zero_add]
theorem zipD_get : ∀ (xs ys : List D) (i : Nat) (d : D), (zipD xs ys)[i]? = some d → ∃ a b, xs[i]? = some a ∧ ys[i]? = some b ∧ d = .tup [a, b]
  | [], _, _, _, h => by simp [zipD] at h
  | _ :: _, [], _, _, h => by simp [zipD] at h
  | x :: r, y :: s, 0, d, h => by
    have h' : some (D.tup [x, y]) = some d := h
    cases h'
    exact ⟨x, y, rfl, rfl, rfl⟩
  | x :: r, y :: s, i + 1, d, h => zipD_get r s i d h
theorem zipD_len : ∀ (xs ys : List D), (zipD xs ys).length = min xs.length ys.length
  | [], _ => by simp [zipD]
  | _ :: _, [] => by simp [zipD]
  | x :: r, y :: s => by
    show (zipD r s).length + 1 = min (r.length + 1) (s.length + 1)
    rw [zipD_len r s]
    omega
theorem it_zipL {a b : Addr} {vs ws : List V} {ds es : List D} (h : H a = some (.lst vs)) (h' : H b = some (.lst ws)) (n : ¬ F a) (n' : ¬ F b) (w : ∀ a, F a → F2 a) (r : RepL K F2 H ds vs) (r' : RepL K F2 H es ws) : ItOk K F F2 (Itz K a b) H (zipD ds es) := fun Y hY H1 kp => by
  have h1 : H1 a = some (.lst vs) := kp a _ h (.inl n)
  have h2 : H1 b = some (.lst ws) := kp b _ h' (.inl n')
  have r1 := RepFL.kept ds vs (kp.more (fun a z => Or.inl (w a z))) (fun _ z => z) (RepFL.older hY ds vs r)
  have r2 := RepFL.kept es ws (kp.more (fun a z => Or.inl (w a z))) (fun _ z => z) (RepFL.older hY es ws r')
  refine ⟨fun i d e => ?_, fun i hi => ⟨vs, ws, SqL.of h1, SqL.of h2, ?_⟩⟩
  · obtain ⟨d1, d2, e1, e2, rfl⟩ := zipD_get ds es i d e
    obtain ⟨v, hv, rv⟩ := r1.get e1
    obtain ⟨u, hu, ru⟩ := r2.get e2
    refine ⟨⟨vs, ws, v, u, SqL.of h1, SqL.of h2, hv, hu⟩, fun x H2 ⟨T, x1, y1, ex, hT, eH, e3, e4⟩ => ?_⟩
    subst ex
    subst eH
    have q1 := e3 vs (SqL.of h1)
    rw [hv] at q1
    cases q1
    have q2 := e4 ws (SqL.of h2)
    rw [hu] at q2
    cases q2
    exact ⟨same_upd hT, T, [v, u], rfl, SqT.of upd_same, _, _, rfl, rv.same (same_upd hT), _, _, rfl, ru.same (same_upd hT), rfl⟩
  · rw [zipD_len, r.length, r'.length] at hi
    omega
theorem it_zipT {a b : Addr} {vs ws : List V} {ds es : List D} (h : SqT K H a vs) (h' : SqT K H b ws) (w : ∀ a, F a → F2 a) (r : RepL K F2 H ds vs) (r' : RepL K F2 H es ws) : ItOk K F F2 (RZ.ItzT K a b) H (zipD ds es) := fun Y hY H1 kp => by
  have h1 : SqT K H1 a vs := kp.sqT h
  have h2 : SqT K H1 b ws := kp.sqT h'
  have r1 := RepFL.kept ds vs (kp.more (fun a z => Or.inl (w a z))) (fun _ z => z) (RepFL.older hY ds vs r)
  have r2 := RepFL.kept es ws (kp.more (fun a z => Or.inl (w a z))) (fun _ z => z) (RepFL.older hY es ws r')
  refine ⟨fun i d e => ?_, fun i hi => ⟨vs, ws, h1, h2, ?_⟩⟩
  · obtain ⟨d1, d2, e1, e2, rfl⟩ := zipD_get ds es i d e
    obtain ⟨v, hv, rv⟩ := r1.get e1
    obtain ⟨u, hu, ru⟩ := r2.get e2
    refine ⟨⟨vs, ws, v, u, h1, h2, hv, hu⟩, fun x H2 ⟨T, x1, y1, ex, hT, eH, e3, e4⟩ => ?_⟩
    subst ex
    subst eH
    have q1 := e3 vs h1
    rw [hv] at q1
    cases q1
    have q2 := e4 ws h2
    rw [hu] at q2
    cases q2
    exact ⟨same_upd hT, T, [v, u], rfl, SqT.of upd_same, _, _, rfl, rv.same (same_upd hT), _, _, rfl, ru.same (same_upd hT), rfl⟩
  · rw [zipD_len, r.length, r'.length] at hi
    omega
end
theorem piOr {X : Cx} {tg e : Expr} {t t' : TI} (h : PI X tg e t) (h' : PI X tg e t') : PI X tg e (fun σ H R => t σ H R ∨ t' σ H R) := ⟨fun pins s σ H Q I q => q.elim (h.run pins s σ H Q I) (h'.run pins s σ H Q I)⟩
section
variable {c : Cc} {own : Nat → Option Addr} {τ : Env} {σ : L2.St} {H : Hp}
theorem lp_seq {e : E} {R : It → Hp → Prop} (q : rdS c (.seq e) σ H R) : (iList c.K (rdE c e) σ H R ∨ iTup c.K (rdE c e) σ H R) ∨ iStr (rdE c e) σ H R := by
  obtain ⟨own, τ, S, p⟩ := q
  have p' := Post.bind (show Post (ev c.G c.Φ e τ >>= fun x => itemsD x) _ _ from p)
  cases z : ev c.G c.Φ e τ with
  | bad => rw [z] at p'; exact p'.elim
  | exc x ds => rw [z] at p'; exact .inl (.inl ⟨own, τ, S, by rw [z]; exact p'⟩)
  | ok d =>
    rw [z] at p'
    have p2 : Post (itemsD d) (fun items => ∀ J H', Same H H' → ItOk c.K (Fb c own (lt e ++ li e)) (Fb c own (li e)) J H' items → R J H') (ExW c σ H) := p'
    cases d with
    | lst ds =>
      refine .inl (.inl ⟨own, τ, S, ?_⟩)
      rw [z]
      refine fun v H1 s1 r1 => ?_
      obtain ⟨a, vs, rfl, h1, n, l1⟩ := r1.un
      exact ⟨a, rfl, ⟨vs, SqL.of h1⟩, (show ∀ J H', Same H H' → ItOk c.K _ _ J H' ds → R J H' from p2) _ H1 s1 (it_list h1 (fun y => n (ft_l a (appL a y))) appR l1)⟩
    | scr ns =>
      refine .inl (.inl ⟨own, τ, S, ?_⟩)
      rw [z]
      refine fun v H1 s1 r1 => ?_
      obtain ⟨a, rfl, h1⟩ := r1
      refine ⟨a, rfl, ⟨_, h1.seq⟩, (show ∀ J H', Same H H' → ItOk c.K _ _ J H' (ns.map D.int) → R J H' from p2) _ H1 s1 (it_scr ?_)⟩
      exact h1.imp (fun z => ⟨z.1, fun y => z.2 (appR a y)⟩) id
    | tup ds =>
      refine .inl (.inr ⟨own, τ, S, ?_⟩)
      rw [z]
      refine fun v H1 s1 r1 => ?_
      obtain ⟨a, vs, rfl, h1, l1⟩ := r1
      exact ⟨a, rfl, ⟨vs, h1⟩, (show ∀ J H', Same H H' → ItOk c.K _ _ J H' ds → R J H' from p2) _ H1 s1 (it_tup h1 appR l1)⟩
    | str x =>
      refine .inr ⟨own, τ, S, ?_⟩
      rw [z]
      refine fun v H1 s1 r1 => ?_
      exact ⟨x, r1, (show ∀ J H', Same H H' → ItOk c.K _ _ J H' (x.cps.toList.map fun c => .str ⟨#[c]⟩) → R J H' from p2) _ H1 s1 it_str⟩
    | _ => exact p2.elim
theorem lp_rng1 {a : E} {R : It → Hp → Prop} (q : rdS c (.rng1 a) σ H R) : iRng1 (tCons (rdE c a) tNil) σ H R := by
  obtain ⟨own, τ, S, p⟩ := q
  refine ⟨own, τ, S, (Post.bind (show Post (ev c.G c.Φ a τ >>= fun x => intD x >>= fun i => rngD 0 i) _ _ from p)).imp (fun x _ p v H1 s1 r1 => ?_) fun _ _ e => e⟩
  obtain ⟨i, e, p⟩ := (Post.bind p).nx (nx_intD x)
  cases x with
  | int j =>
    cases e
    obtain ⟨ds, e, p⟩ := p.nx (nx_rngD 0 i)
    obtain ⟨h, rfl⟩ := ok_if e
    refine ⟨i, congrArg (fun z => [z]) r1, h.2.2.1, h.2.2.2, p _ H1 s1 ?_⟩
    rw [Int.sub_zero]
    exact it_rng
  | _ => cases e
theorem lp_rng2 {a b : E} {R : It → Hp → Prop} (q : rdS c (.rng2 a b) σ H R) : iRng2 (tCons (rdE c a) (tCons (rdE c b) tNil)) σ H R := by
  obtain ⟨own, τ, S, p⟩ := q
  refine ⟨own, τ, S, (Post.bind (show Post (ev c.G c.Φ a τ >>= fun x => ev c.G c.Φ b τ >>= fun y => intD x >>= fun i => intD y >>= fun j => rngD i j) _ _ from p)).imp (fun x _ p v H1 s1 r1 => ⟨own, τ, S.mono s1, (Post.bind p).imp (fun y _ p w H2 s2 r2 => ?_) fun _ _ e => e.same s1⟩) fun _ _ e => e⟩
  obtain ⟨i, e, p⟩ := (Post.bind p).nx (nx_intD x)
  obtain ⟨j, e', p⟩ := (Post.bind p).nx (nx_intD y)
  cases x with
  | int _ =>
    cases e
    cases y with
    | int _ =>
      cases e'
      obtain ⟨ds, e, p⟩ := p.nx (nx_rngD i j)
      obtain ⟨h, rfl⟩ := ok_if e
      refine ⟨i, j, ?_, ⟨h.1, h.2.1, h.2.2.1, h.2.2.2⟩, p _ H2 (s1.trans s2) it_rng⟩
      rw [show v = V.int i from r1, show w = V.int j from r2]
    | _ => cases e'
  | _ => cases e
/-! ### enumerate(a tuple) -/
section
open AutoSeq1 (wpAny_loadPart')
set_option maxHeartbeats 8000000 in
theorem enum_newT (l : Addr) (items : Array Value) :
    Meets (Builtin.«enumerate.__new__» ⟨[.type "enumerate", .ref l], []⟩) (fun _ R s => s.heap.IsTuple l items ∧
      R (.ok (.ret (.ref (s.heap.push { cls := .type "tuple_iterator", data := .fields #[.ref l, .int 0 0] }).objs.size)))
        { s with heap := (s.heap.push { cls := .type "tuple_iterator", data := .fields #[.ref l, .int 0 0] }).push { cls := .type "enumerate", data := .fields #[.none, .bool false, .ref s.heap.objs.size, rawInt 0, .none, .none] } }) :=
  .of_wp fun prog w A R s h => by
    obtain ⟨hp, g, d, tk, os⟩ := s; obtain ⟨hL, h⟩ := h
    have hsub := sub_enumerate
    have q1 : ∀ {A' : Around} {E : Value → Shared → Prop} {Q : Value → Shared → Prop}, Q (.ref hp.objs.size) ⟨hp.push { cls := .type "tuple_iterator", data := .fields #[.ref l, .int 0 0] }, g, d, tk, os⟩ → wpAny (model prog w) A' (pyIter (.ref l)) Q E ⟨hp, g, d, tk, os⟩ :=
      fun q => wpAny_pyIter_tuple hL q
    wp_walk using q1
    refine wpAny_stack_any fun st => wpAny_pure ?_
    split
    · rename_i c _ _ _ _ _
      cases (c == Value.type "enumerate")
      · wp_walk using q1
        exact ⟨_, rfl, h⟩
      · wp_walk using q1
        exact ⟨_, rfl, h⟩
    · wp_walk using q1
      exact ⟨_, rfl, h⟩
theorem call_enumT {prog : Program} {w : World} {A : Around} {E : Value → Shared → Prop} {s : Shared} {l : Addr} {items : Array Value} {Q : Value → Shared → Prop} (hL : s.heap.IsTuple l items)
    (h : ∀ h', IsEnum h' (s.heap.objs.size + 1) s.heap.objs.size 0 .none → h'.IsTupleIter s.heap.objs.size l 0 → h'.objs.size = s.heap.objs.size + 2 →
      (∀ b o, s.heap.get? b = some o → h'.get? b = some o) → Q (.ref (s.heap.objs.size + 1)) { s with heap := h' }) :
    wpAny (model prog w) A (call (.type "enumerate") [.ref l]) Q E s := by
  refine callType_new F.called_enumerate (by decide) (F.typeCall_enumerate_1 _) (F.newCall_enumerate_1 _) (fun obj => F.args_object_init_2 obj _) F.entry_enumerate_new
    (enum_newT l items) ⟨hL, ?_⟩
  have hz : (s.heap.push { cls := .type "tuple_iterator", data := .fields #[.ref l, .int 0 0] }).objs.size = s.heap.objs.size + 1 := Heap.size_push ..
  show _ ∧ _
  rw [hz]
  have he : IsEnum ((s.heap.push { cls := .type "tuple_iterator", data := .fields #[.ref l, .int 0 0] }).push
      { cls := .type "enumerate", data := .fields #[.none, .bool false, .ref s.heap.objs.size, rawInt 0, .none, .none] }) (s.heap.objs.size + 1) s.heap.objs.size 0 .none := by
    have := Heap.get?_push_size (s.heap.push { cls := .type "tuple_iterator", data := .fields #[.ref l, .int 0 0] })
      (o := { cls := .type "enumerate", data := .fields #[.none, .bool false, .ref s.heap.objs.size, rawInt 0, .none, .none] }) rfl
    rw [hz] at this; exact this
  refine ⟨⟨_, he, rfl⟩, h _ he ⟨_, Heap.get?_push_of_some _ (Heap.get?_push_size _ rfl), rfl, rfl⟩ (by rw [Heap.size_push, hz]) fun b o x => Heap.get?_push_of_some _ (Heap.get?_push_of_some _ x)⟩
end
/-- the tuple at a, each item in a new pair -/
def IteT (K : PySem.W.Frag) (a : Addr) : It :=
  ⟨fun i H => ∃ (xs : List V) (x : V), SqT K H a xs ∧ xs[i]? = some x, fun i H v H' => ∃ T x, v = .ref T ∧ H T = none ∧ H' = upd H T (.tup [.int (i : Nat), x]) ∧ ∀ xs, SqT K H a xs → xs[i]? = some x, fun i H => ∃ xs : List V, SqT K H a xs ∧ xs.length ≤ i⟩
theorem draws_end {prog : Program} {w : World} {A : Around} (hh : A.handled = none) (it t : Addr) (items : Array Value) (i : Nat) (hi : items.size ≤ i) :
    Draws prog w A it [it, t] i (fun _ _ => False) (fun j h => j = i ∧ h.IsTupleIter it t i ∧ h.IsTuple t items) where
  live := fun _ _ st => let ⟨o, ho, _⟩ := st.2.1; ⟨o, ho⟩
  frame := fun _ _ _ st hk => ⟨st.1, st.2.1.at fun o e => hk it (by simp) o e, st.2.2.at fun o e => hk t (by simp) o e⟩
  item := fun j s Q E hj st hQ => absurd st.1 (Nat.ne_of_lt hj)
  done := fun s Q E st hE => wpAny_nextOf_tuple_end hh st.2.1 st.2.2 (by simp; omega) hE
theorem turn_enumT {P : Program} {w : World} {K : PySem.W.Frag} {elts : List Expr} {kk : Nat} {tpos : Pos} (a e it : Addr) (items : Array Value) :
    Turn P w K (.Tuple elts kk tpos) (IteT K a) [e, it] e (fun i h => (∃ old, IsEnum h e it ((i : Nat) : Int) old) ∧ (h.IsTupleIter it a i ∧ e ≠ it ∧ a ≠ it ∧ a ≠ e)) where
  mem := by simp
  obj := fun i h st b hb => by
    obtain ⟨⟨old, he⟩, ⟨o, ho, hc, hd⟩, _⟩ := st
    have e' : b = e ∨ b = it := by simpa using hb
    rcases e' with z | z
    · rw [z]; exact ⟨_, he, fun v q => nomatch q⟩
    · rw [z]; exact ⟨o, ho, fun v q => by rw [hd] at q; cases q⟩
  keep := fun i h h' st k => let ⟨⟨old, he⟩, hi, hne⟩ := st; ⟨⟨old, k e (by simp) _ he⟩, hi.at fun o q => k it (by simp) o q, hne⟩
  item := by
    intro X hP hw hK hc i pins s σ H E I hf st hg
    subst hP hw hK
    obtain ⟨⟨old, he⟩, hit, hne, ha1, ha2⟩ := st
    obtain ⟨xs, x, hq, hx⟩ := hg
    obtain ⟨its, rv, p, hz⟩ := I.tuple hq
    obtain ⟨u, hu, ru⟩ := rv.get hx
    have p' : s.heap.IsTuple a its.toArray := p
    have hel : e < s.heap.objs.size := Heap.lt_size he
    have hil : it < s.heap.objs.size := by obtain ⟨_, q, _⟩ := hit; exact Heap.lt_size q
    have hlt : i < its.toArray.size := by rw [List.size_toArray]; exact (List.getElem?_eq_some_iff.mp hu).1
    refine wpAny_pyNext_enum_itemD (Draws.tuple (A := X.A.in1) (show X.A.in1.handled = none from I.ok.hd hc) it a ha1 its.toArray) he ⟨hit, p'⟩ hlt hne (fun z => by rcases List.mem_cons.mp z with z | z; exact hne z; exact ha2 (List.mem_singleton.mp z).symm) fun u' h' tk hP' ho hit' hT hsz hk => ?_
    have eu : u' = u := by
      have hP2 : its.toArray[i]? = some u' := hP'
      have : its[i]? = some u' := by simpa using hP2
      rw [hu] at this
      exact (Option.some.inj this).symm
    subst eu
    refine ⟨_, rfl, wpAny_letOwnedTupleGo_enum (s := { s with heap := h', toks := tk + 1 }) ho fun h'' he' sb => ?_⟩
    have hT2 : h''.get? s.heap.objs.size = some { cls := .type "tuple", data := .seq #[.int i tk, u'] } := (sb.2 _ (Nat.ne_of_gt hel)).trans hT
    have new : ObjOk X.prog X.w (upd H s.heap.objs.size (.tup [.int (i : Nat), x])) h'' s.heap.objs.size (.tup [.int (i : Nat), x]) :=
      ⟨by show 2 ≤ sizeLine; decide, [.int i tk, u'], .cons ⟨_, rfl⟩ (.cons ru .nil), ⟨_, hT2, rfl, _, rfl⟩⟩
    have I1 : Inv X pins σ (upd H s.heap.objs.size (.tup [.int (i : Nat), x])) { s with heap := h'', toks := tk + 1 } :=
      I.turnedNew (ch := [e, it]) (fun b ob hb q => (sb.2 b (fun z => hb (by simp [z]))).trans (hk b ob (fun z => hb (by simp [z])) (fun z => hb (by simp [z])) q)) hf (Nat.le_refl _) new
    refine ⟨.ref s.heap.objs.size, _, I1, rfl, ⟨_, x, rfl, I.hok.fresh (Nat.le_refl _), rfl, fun ys hy => by rw [I.tuple_inj hy hq]; exact hx⟩, ⟨⟨u', ?_⟩, hit'.1.at fun o q => (sb.2 it (Ne.symm hne)).trans q, hne, ha1, ha2⟩, fun b hb => ?_⟩
    · have e1 : ((i + 1 : Nat) : Int) = (i : Int) + 1 := by omega
      rw [e1]; exact he'
    · have hb' : b < s.heap.objs.size := by
        have e' : b = e ∨ b = it := by simpa using hb
        rcases e' with z | z
        · rw [z]; exact hel
        · rw [z]; exact hil
      rw [upd_ne (Nat.ne_of_lt hb')]
      exact (hf b hb).1
  done := by
    intro X hP hw hK hc i pins s σ H E I hf st hg
    subst hP hw hK
    obtain ⟨⟨old, he⟩, hit, hne, ha1, ha2⟩ := st
    obtain ⟨xs, hq, hx⟩ := hg
    obtain ⟨its, rv, p, hz⟩ := I.tuple hq
    have p' : s.heap.IsTuple a its.toArray := p
    obtain ⟨f0, f1, f2, f3, f4, f5⟩ := hf it (by simp)
    have hl := rv.length
    refine wpAny_pyNext_enum_endD (draws_end (A := X.A.in1) (show X.A.in1.handled = none from I.ok.hd hc) it a its.toArray i (by rw [List.size_toArray]; omega)) he ⟨rfl, hit, p'⟩ fun h' eb => ⟨rfl, I.turned (t' := s.toks) (fun b o hb q => eb b o hb q) f0 f1 f3 f4 f5⟩
  self := fun A i s Q E st h => let ⟨⟨_, he⟩, _⟩ := st; wpAny_pyIter_enum he h
def iEnumT (K : PySem.W.Frag) (ta : TA) : TI := fun σ H R => ta σ H fun vs H1 => ∃ a xs, vs = [.ref a] ∧ SqT K H1 a xs ∧ R (IteT K a) H1
theorem pi_enumT {X : Cx} {e : Expr} {ta : TA} {p pos tpos : Pos} {elts : List Expr} {kk : Nat} (hg : Gl X "enumerate") (hm : X.mg "enumerate" = none) (ha : PA X [e] ta) (hs : starEach [e] X.env = [(false, eval e X.env)] := by rfl) :
    PI X (.Tuple elts kk tpos) (.Call (.Name "enumerate" p) [e] [] pos) (iEnumT X.K ta) := by
  refine ⟨fun pins s σ H R I h => ?_⟩
  refine Call_ (ld_blt I hg hm boot_enumerate (PyProof.Rows.callWith_type1 (thn (ha.run pos pins s σ H _ I h) fun us s1 ⟨vs, H1, I1, r1, q1⟩ => ?_) hs rfl))
  obtain ⟨a, xs, ex, hq, q⟩ := q1
  subst ex
  cases r1 with
  | cons r rr =>
    cases rr
    cases r
    obtain ⟨its, rv, p', hz⟩ := I1.tuple hq
    have p2 : s1.heap.IsTuple a its.toArray := p'
    have hal : a < s1.heap.objs.size := by obtain ⟨_, q, _⟩ := p2; exact Heap.lt_size q
    refine call_enumT p2 fun h' he hit hsz hk => wpAny_pyIter_enum he ?_
    have I2 : Inv X pins σ H1 { s1 with heap := h' } := I1.kept (t' := s1.toks) hk
    refine ⟨s1.heap.objs.size + 1, [s1.heap.objs.size + 1, s1.heap.objs.size], _, _, H1, rfl, I2, turn_enumT a (s1.heap.objs.size + 1) s1.heap.objs.size its.toArray, ⟨⟨.none, he⟩, hit, Nat.succ_ne_self _, Nat.ne_of_lt hal, Nat.ne_of_lt (Nat.lt_succ_of_lt hal)⟩, fun b hb => ?_, q⟩
    have e' : b = s1.heap.objs.size + 1 ∨ b = s1.heap.objs.size := by simpa using hb
    have hle : s1.heap.objs.size ≤ b := by
      rcases e' with z | z
      · rw [z]; exact Nat.le_add_right _ _
      · rw [z]; exact Nat.le_refl _
    exact I1.fpOk hle (I1.hok.fresh hle)
theorem it_enumT {K : PySem.W.Frag} {F F2 : Addr → Prop} {H : Hp} {a : Addr} {vs : List V} {ds : List D} (h : SqT K H a vs) (w : ∀ a, F a → F2 a) (r : RepL K F2 H ds vs) : ItOk K F F2 (IteT K a) H (enumD 0 ds) := fun Y hY H1 kp => by
  have h1 : SqT K H1 a vs := kp.sqT h
  have r1 := RepFL.kept ds vs (kp.more (fun a z => Or.inl (w a z))) (fun _ z => z) (RepFL.older hY ds vs r)
  refine ⟨fun i d e => ?_, fun i hi => ⟨vs, h1, by rw [← r.length, ← enumD_len ds 0]; exact hi⟩⟩
  obtain ⟨d', e1, rfl⟩ := enumD_get ds 0 i d e
  obtain ⟨v, hv, rv⟩ := r1.get e1
  refine ⟨⟨vs, v, h1, hv⟩, fun x H2 ⟨T, y, ex, hT, e2, e3⟩ => ?_⟩
  subst ex
  subst e2
  have := e3 vs h1
  rw [hv] at this
  cases this
  refine ⟨same_upd hT, T, [.int (i : Nat), v], rfl, SqT.of upd_same, ?_⟩
  refine ⟨_, _, rfl, ?_, v, [], rfl, rv.same (same_upd hT), rfl⟩
  show V.int (i : Nat) = V.int ((0 + i : Nat) : Int)
  rw [Nat.zero_add]
theorem lp_enum {e : E} {R : It → Hp → Prop} (q : rdS c (.enum e) σ H R) : iEnum c.K (tCons (rdE c e) tNil) σ H R ∨ iEnumT c.K (tCons (rdE c e) tNil) σ H R := by
  obtain ⟨own, τ, S, p⟩ := q
  have p : Post (ev c.G c.Φ e τ >>= fun x => enumI x >>= fun ds => Res.ok (enumD 0 ds)) _ _ := p
  cases z : ev c.G c.Φ e τ with
  | bad => rw [z] at p; exact p.elim
  | exc x as => rw [z] at p; exact .inl ⟨own, τ, S, by rw [z]; exact p⟩
  | ok x =>
    rw [z] at p
    cases x with
    | lst ds =>
      refine .inl ⟨own, τ, S, ?_⟩
      rw [z]
      intro v H1 s1 r1
      obtain ⟨a, vs, rfl, h1, n, l1⟩ := r1.un
      exact ⟨a, vs, rfl, SqL.of h1, (show ∀ J H', Same H H' → ItOk c.K (Fb c own (lt e ++ li e)) (Fb c own (li e)) J H' (enumD 0 ds) → R J H' from p) _ H1 s1 (it_enum h1 (fun y => n (ft_l a (appL a y))) appR l1)⟩
    | tup ds =>
      refine .inr ⟨own, τ, S, ?_⟩
      rw [z]
      intro v H1 s1 r1
      obtain ⟨a, vs, rfl, h1, l1⟩ := r1
      exact ⟨a, vs, rfl, h1, (show ∀ J H', Same H H' → ItOk c.K (Fb c own (lt e ++ li e)) (Fb c own (li e)) J H' (enumD 0 ds) → R J H' from p) _ H1 s1 (it_enumT h1 appR l1)⟩
    | _ => exact p.elim
theorem lp_zip {a b : E} {R : It → Hp → Prop} (q : rdS c (.zip a b) σ H R) : RZ.iZipA c.K (tCons (rdE c a) (tCons (rdE c b) tNil)) σ H R := by
  obtain ⟨own, τ, S, p⟩ := q
  refine ⟨own, τ, S, (Post.bind (show Post (ev c.G c.Φ a τ >>= fun x => ev c.G c.Φ b τ >>= fun y => zipI x y >>= fun p => Res.ok (zipD p.1 p.2)) _ _ from p)).imp (fun x _ p v H1 s1 r1 => ⟨own, τ, S.mono s1, (Post.bind p).imp (fun y _ p w H2 s2 r2 => ?_) fun _ _ e => e.same s1⟩) fun _ _ e => e⟩
  have r1 := r1.same s2
  cases x with
  | lst ds =>
    cases y with
    | lst es =>
      obtain ⟨p1, vs, rfl, h1, n1, l1⟩ := r1.un
      obtain ⟨p2, ws, rfl, h2, n2, l2⟩ := r2.un
      refine ⟨p1, p2, vs, ws, rfl, .inl ⟨SqL.of h1, SqL.of h2, (show ∀ J H', Same H H' → ItOk c.K (Fb c own ((lt a ++ lt b) ++ (li a ++ li b))) (Fb c own (li a ++ li b)) J H' (zipD ds es) → R J H' from p) _ H2 (s1.trans s2) ?_⟩⟩
      exact it_zipL h1 h2 (fun y => n1 (ft_l _ (appL _ (appL _ y)))) (fun y => n2 (ft_l _ (appR _ (appL _ y)))) appR (l1.weak appL) (l2.weak appR)
    | _ => exact p.elim
  | tup ds =>
    cases y with
    | tup es =>
      obtain ⟨p1, vs, rfl, h1, l1⟩ := r1
      obtain ⟨p2, ws, rfl, h2, l2⟩ := r2
      refine ⟨p1, p2, vs, ws, rfl, .inr ⟨h1, h2, (show ∀ J H', Same H H' → ItOk c.K (Fb c own ((lt a ++ lt b) ++ (li a ++ li b))) (Fb c own (li a ++ li b)) J H' (zipD ds es) → R J H' from p) _ H2 (s1.trans s2) ?_⟩⟩
      exact it_zipT h1 h2 appR (l1.weak appL) (l2.weak appR)
    | _ => exact p.elim
  | _ => exact p.elim
/-! ### tests -/
theorem lt_not {a : E} {Q : Bool → Hp → Prop} (q : rdT c (.not a) σ H Q) : tNot (rdT c a) σ H Q := by
  obtain ⟨own, τ, S, p⟩ := q
  refine ⟨own, τ, S, ?_⟩
  have p' : Post ((ev c.G c.Φ a τ >>= fun x => blD x >>= fun b => Res.ok (D.bl (!b))) >>= blD) _ _ := p
  revert p'
  cases ev c.G c.Φ a τ with
  | ok d => cases d <;> exact fun p => p
  | exc _ _ => exact fun p => p
  | bad => exact fun p => p
theorem lt_and {a b : E} {Q : Bool → Hp → Prop} (q : rdT c (.and a b) σ H Q) : tAnd (rdT c a) (rdT c b) σ H Q := by
  obtain ⟨own, τ, S, p⟩ := q
  refine ⟨own, τ, S, ?_⟩
  have p' : Post ((ev c.G c.Φ a τ >>= fun x => blD x >>= fun k => if k then ev c.G c.Φ b τ else Res.ok (D.bl false)) >>= blD) (fun b => ∀ H', Same H H' → Q b H') (ExW c σ H) := p
  revert p'
  cases ev c.G c.Φ a τ with
  | ok d =>
    cases d with
    | bl k =>
      cases k with
      | true => exact fun p => fun H1 s1 => iteT ⟨own, τ, S.mono s1, (show Post (ev c.G c.Φ b τ >>= blD) (fun b => ∀ H', Same H H' → Q b H') (ExW c σ H) from p).imp (fun b _ q H2 s2 => q H2 (s1.trans s2)) fun _ _ e => e.same s1⟩
      | false => exact fun p => fun H1 s1 => iteF ((show ∀ H', Same H H' → Q false H' from p) H1 s1)
    | _ => exact fun p => p
  | exc _ _ => exact fun p => p
  | bad => exact fun p => p
theorem lt_or {a b : E} {Q : Bool → Hp → Prop} (q : rdT c (.or a b) σ H Q) : tOr (rdT c a) (rdT c b) σ H Q := by
  obtain ⟨own, τ, S, p⟩ := q
  refine ⟨own, τ, S, ?_⟩
  have p' : Post ((ev c.G c.Φ a τ >>= fun x => blD x >>= fun k => if k then Res.ok (D.bl true) else ev c.G c.Φ b τ) >>= blD) (fun b => ∀ H', Same H H' → Q b H') (ExW c σ H) := p
  revert p'
  cases ev c.G c.Φ a τ with
  | ok d =>
    cases d with
    | bl k =>
      cases k with
      | false => exact fun p => fun H1 s1 => iteF ⟨own, τ, S.mono s1, (show Post (ev c.G c.Φ b τ >>= blD) (fun b => ∀ H', Same H H' → Q b H') (ExW c σ H) from p).imp (fun b _ q H2 s2 => q H2 (s1.trans s2)) fun _ _ e => e.same s1⟩
      | true => exact fun p => fun H1 s1 => iteT ((show ∀ H', Same H H' → Q true H' from p) H1 s1)
    | _ => exact fun p => p
  | exc _ _ => exact fun p => p
  | bad => exact fun p => p
theorem chkS_set {k : Ck} {sc : Scope} {fb : Str → Bool} : ∀ {s : Src} {t it : Expr}, chkS k sc fb s t it = true → notSet it = true
  | .seq e, t, it, h => (ba (show (notSet it && chkE k sc fb e it) = true from h)).1
  | .rng1 _, _, .Call .., _ => rfl
  | .rng2 _ _, _, .Call .., _ => rfl
  | .enum _, _, .Call .., _ => rfl
  | .zip _ _, _, .Call .., _ => rfl
theorem chkEs_head {k : Ck} {sc : Scope} {fb : Str → Bool} : ∀ {es : Es} {x : Expr} {xs : List Expr}, chkEs k sc fb es (x :: xs) = true → notStar x = true ∧ ∃ r, chkEs k sc fb r xs = true
  | .cons e r, x, xs, h => by
    obtain ⟨h1, h2⟩ := ba (show (notStar x && (chkE k sc fb e x && chkEs k sc fb r xs)) = true from h)
    exact ⟨h1, r, (ba h2).2⟩
def plainE : E → Bool
  | .var _ => true | .bl _ => true | .ix .. => true | .call .. => true | .bi .. => true | .isi .. => true
  | _ => false
theorem plain_of {k : Ck} {sc : Scope} {fb : Str → Bool} : ∀ {e : E} {x : Expr}, plainE e = true → chkE k sc fb e x = true → plainT x = true
  | .var _, .Name .., _, _ => rfl
  | .bl _, .Constant .., _, _ => rfl
  | .ix .., .Subscript .., _, _ => rfl
  | .call _ .nil, .Call .., _, _ => rfl
  | .call _ (.cons ..), .Call .., _, _ => rfl
  | .bi .., .Call .., _, _ => rfl
  | .isi .., .Call .., _, _ => rfl
theorem pwAnd {X : Cx} {op : BoolOp} {es : List Expr} {p : Pos} {t : TT} (h : PT X (.BoolOp op es p) t) : PW X (.BoolOp op es p) t := ⟨fun whole pins s σ H Q I q => h.run pins s σ H Q I q⟩
/-! ### comprehensions -/
/-- a list that is being made is nobody's yet -/
def hold (own : Nat → Option Addr) (j0 : Nat) (P : Addr) : Nat → Option Addr := fun j => if j = j0 then some P else own j
theorem room_for (S : Sim c own τ σ H) (L : List Nat) : ∃ j0, own j0 = none ∧ j0 ∉ L := by
  obtain ⟨n, hn⟩ := S.fin
  have key : ∀ L : List Nat, ∃ m, ∀ j ∈ L, j < m := by
    intro L
    induction L with
    | nil => exact ⟨0, fun j h => by cases h⟩
    | cons x r ih =>
      obtain ⟨m, h⟩ := ih
      refine ⟨max m (x + 1), fun j hj => ?_⟩
      rcases List.mem_cons.mp hj with rfl | hj
      · omega
      · have := h j hj
        omega
  obtain ⟨m, hm⟩ := key L
  exact ⟨max n m, hn _ (by omega), fun z => by have := hm _ z; omega⟩
theorem hold_fb {j0 : Nat} {P : Addr} {L : List Nat} (a : Addr) (z : Fb c (hold own j0 P) L a) : Fb c own L a ∨ a = P := by
  rcases z with z | ⟨j, e, n⟩
  · exact .inl (.inl z)
  · unfold hold at e
    by_cases q : j = j0
    · rw [if_pos q] at e
      exact .inr (Option.some.inj e).symm
    · rw [if_neg q] at e
      exact .inl (.inr ⟨j, e, n⟩)
theorem fb_hold {j0 : Nat} {P : Addr} {L : List Nat} (h0 : own j0 = none) (a : Addr) (z : Fb c own L a) : Fb c (hold own j0 P) L a := by
  rcases z with z | ⟨j, e, n⟩
  · exact .inl z
  · refine .inr ⟨j, ?_, n⟩
    unfold hold
    rw [if_neg (fun q => by rw [q, h0] at e; cases e)]
    exact e
theorem Sim.hold {H' : Hp} (S : Sim c own τ σ H) {j0 : Nat} {P : Addr} (h0 : own j0 = none) (hP : H P = none) (s : Same H H') (hP' : H' P ≠ none) : Sim c (PyI.hold own j0 P) τ σ H' := by
  have up : ∀ {d : D} {v : V}, Rep c.K (Fb c own []) H d v → Rep c.K (Fb c (PyI.hold own j0 P) []) H' d v := fun {d v} r =>
    ((RepF.older (Y := fun a => a = P) (fun a z => by rw [z]; exact hP) d v r).weak hold_fb).same s
  have ups : ∀ {d : List D} {v : List V}, RepL c.K (Fb c own []) H d v → RepL c.K (Fb c (PyI.hold own j0 P) []) H' d v := fun {d v} r =>
    ((RepFL.older (Y := fun a => a = P) (fun a z => by rw [z]; exact hP) d v r).weak hold_fb).same s
  have eq : ∀ {i a}, own i = some a → PyI.hold own j0 P i = some a := fun {i a} e => by
    unfold PyI.hold
    rw [if_neg (fun q => by rw [q, h0] at e; cases e)]
    exact e
  refine ⟨S.len, fun i d e => ?_, fun i ds e => ?_, fun i j a e1 e2 => ?_, fun i a e => ?_, ?_, S.f0, S.same.trans s, (S.bs.mono s).k, fun i a e => ?_, S.bs.f⟩
  · obtain ⟨v, h1, h2⟩ := S.val i d e
    exact ⟨v, h1, up h2⟩
  · obtain ⟨a, vs, h1, h2, h3, h4⟩ := S.ows i ds e
    exact ⟨a, vs, eq h1, h2, s _ _ h3, ups h4⟩
  · unfold PyI.hold at e1 e2
    by_cases q1 : i = j0
    · by_cases q2 : j = j0
      · rw [q1, q2]
      · rw [if_pos q1] at e1
        rw [if_neg q2] at e2
        cases e1
        exact absurd hP (S.al j _ e2).2
    · by_cases q2 : j = j0
      · rw [if_neg q1] at e1
        rw [if_pos q2] at e2
        cases e2
        exact absurd hP (S.al i _ e1).2
      · rw [if_neg q1] at e1
        rw [if_neg q2] at e2
        exact S.inj i j a e1 e2
  · unfold PyI.hold at e
    by_cases q : i = j0
    · rw [if_pos q] at e
      cases e
      refine ⟨?_, hP'⟩
      cases z : c.H0 P with
      | none => rfl
      | some o => have := S.same _ _ z; rw [hP] at this; cases this
    · rw [if_neg q] at e
      exact ⟨(S.al i a e).1, fun n => (S.al i a e).2 (s.free n)⟩
  · obtain ⟨n, hn⟩ := S.fin
    refine ⟨max n (j0 + 1), fun i hi => ?_⟩
    unfold PyI.hold
    rw [if_neg (by omega)]
    exact hn i (by omega)
  · unfold PyI.hold at e
    by_cases q : i = j0
    · rw [if_pos q] at e
      cases e
      exact S.bs.new hP
    · rw [if_neg q] at e
      exact S.bs.n i a e
theorem wipe_wipe (σ : L2.St) (l : List Nat) : L2.wipe (L2.wipe σ l) l = L2.wipe σ l := by
  have key : ∀ (ρ : L2.St) (l : List Nat) (j : Nat), j ∈ l → (L2.wipe ρ l)[j]? = if j < ρ.length then some none else none := by
    intro ρ l j
    induction l with
    | nil => intro z; cases z
    | cons v r ih =>
      intro z
      show ((L2.wipe ρ r).set v none)[j]? = _
      by_cases e : j = v
      · subst e
        rw [List.getElem?_set]
        simp [wipe_length]
      · rw [List.getElem?_set_ne (Ne.symm e)]
        exact ih ((List.mem_cons.mp z).resolve_left e)
  apply List.ext_getElem?
  intro j
  by_cases hj : j ∈ l
  · rw [key _ _ _ hj, key _ _ _ hj, wipe_length]
  · rw [wipe_out hj, wipe_out hj]
/-- the turn of a comprehension -/
abbrev turnR (c : Cc) (elt : E) (tg : Tg) (vs : List Nat) (cd : Env → Res Bool) (τ : Env) (x : D) : Res (Option D) := nox (asg tg x (wipeD τ vs) >>= fun τ2 => cd τ2 >>= fun b => if b then ev c.G c.Φ elt τ2 >>= fun y => .ok (some y) else .ok none)
theorem nox_inv {α : Type} {r : Res α} {a : α} (h : nox r = .ok a) : r = .ok a := by cases r <;> first | exact h | cases h
theorem lp_lc {elt : E} {tg : Tg} {src : Src} {vs : List Nat} {tt : TT} {cd : Env → Res Bool} {Q : VK}
    (h0 : liS src = []) (ht : ∀ i ∈ tgIx tg, i ∈ vs)
    (hc : ∀ own τ σ H Q, Sim c.quiet own τ σ H → Post (cd τ) (fun b => ∀ H', Same H H' → Q b H') (fun _ _ => False) → tt σ H Q)
    (q : ∃ own τ, Sim c own τ σ H ∧ Post (evS c.G c.Φ src τ >>= fun items => mapR (turnR c elt tg vs cd τ) items >>= fun ds => if ds.length ≤ sizeLine then Res.ok (D.lst ds) else .bad)
      (fun d => ∀ v H', Same H H' → RepT c.K (fun a => Fb c own [] a ∨ (true = true ∧ H a ≠ none)) (Fb c own (lt elt ++ li elt)) H' d v → Q v H') (ExW c σ H)) :
    tLc (rdS c src) (tgG c.K tg) tt (rdE c.quiet elt) vs σ H Q := by
  obtain ⟨own, τ, S, p⟩ := q
  refine ⟨own, τ, S, (Post.bind p).imp (fun items _ p J H1 s1 it => ?_) fun _ _ e => e⟩
  rw [h0] at it
  intro P hP
  obtain ⟨ds, em, p⟩ := (Post.bind p).nx (nx_mapR _ (fun _ => nx_nox _) items)
  obtain ⟨dd, e, p⟩ := p.nx NoX.ite
  obtain ⟨hz, rfl⟩ := ok_if e
  have S1 := S.mono s1
  obtain ⟨j0, hj0, hjL⟩ := room_for S1 (lt elt ++ li elt)
  have FP : Fb c (hold own j0 P) (lt elt ++ li elt) P := .inr ⟨j0, by unfold hold; rw [if_pos rfl], hjL⟩
  refine ⟨fun i m Hc => i + m = items.length ∧ ∃ acc rest vs', Same H1 Hc ∧ Hc P = some (.lst vs') ∧ RepL c.K (Fb c (hold own j0 P) (lt elt ++ li elt)) Hc acc vs' ∧ mapR (turnR c elt tg vs cd τ) (items.drop i) = .ok rest ∧ acc ++ rest = ds,
    ⟨items.length, by omega, [], ds, [], same_upd hP, upd_same, rfl, em, rfl⟩, fun i m Hc ⟨hm, acc, rest, vs', sc, hDc, ra, er, ea⟩ => ?_⟩
  have itc := it (fun a => a = P) (fun a z => by rw [z]; exact hP) Hc (same_kept sc)
  by_cases hi : i < items.length
  · refine .inr ⟨(itc.1 i items[i] (List.getElem?_eq_getElem hi)).1, fun H' => i + 1 + (m - 1) = items.length ∧ ∃ acc rest vs', Same H1 H' ∧ H' P = some (.lst vs') ∧ RepL c.K (Fb c (hold own j0 P) (lt elt ++ li elt)) H' acc vs' ∧ mapR (turnR c elt tg vs cd τ) (items.drop (i + 1)) = .ok rest ∧ acc ++ rest = ds,
      fun H' h => ⟨m - 1, by omega, h⟩, fun x H' hy => ?_⟩
    obtain ⟨sy, ry⟩ := (itc.1 i items[i] (List.getElem?_eq_getElem hi)).2 x H' hy
    rw [List.drop_eq_getElem_cons hi] at er
    obtain ⟨o, e1, er⟩ := bind_ok (show (turnR c elt tg vs cd τ items[i] >>= fun o => mapR (turnR c elt tg vs cd τ) (items.drop (i + 1)) >>= fun ds => match o with
      | some x => Res.ok (x :: ds)
      | none => .ok ds) = .ok rest from er)
    obtain ⟨rest', e2, er⟩ := bind_ok er
    obtain ⟨τ2, e3, e4⟩ := bind_ok (nox_inv e1)
    obtain ⟨b, e5, e6⟩ := bind_ok e4
    have hPy : H' P = some (.lst vs') := sy _ _ hDc
    have Sh : Sim c (hold own j0 P) τ σ H' := S1.hold hj0 hP (sc.trans sy) (by rw [hPy]; exact fun z => nomatch z)
    refine asg_run tg items[i] x (wipeD τ vs) τ2 (wipe σ vs) _ (Sh.wipe vs) (ry.weak hold_fb) e3 fun σ2 S2 w2 => ⟨by rw [w2 vs ht]; exact wipe_wipe σ vs, ?_⟩
    refine hc (hold own j0 P) τ2 σ2 H' _ S2.quiet ?_
    rw [e5]
    refine fun H3 s3 => ?_
    have sH3 : Same H1 H3 := (sc.trans sy).trans s3
    cases b with
    | false =>
      refine iteF ⟨by omega, acc, rest, vs', sH3, s3 _ _ hPy, ra.same (sy.trans s3), ?_, ea⟩
      cases e6
      rw [show rest = rest' from (Res.ok.inj er).symm]
      exact e2
    | true =>
      refine iteT ⟨hold own j0 P, τ2, (S2.mono s3).quiet, ?_⟩
      obtain ⟨y, e7, e8⟩ := bind_ok (show (ev c.G c.Φ elt τ2 >>= fun y => Res.ok (some y)) = .ok o from e6)
      have e7' : ev c.quiet.G c.quiet.Φ elt τ2 = .ok y := e7
      rw [e7']
      refine fun v H4 s4 r4 => ?_
      cases e8
      have hP4 : H4 P = some (.lst vs') := s4 _ _ (s3 _ _ hPy)
      have hr : rest = y :: rest' := (Res.ok.inj er).symm
      have kp : Kept (Fb c (hold own j0 P) (lt elt ++ li elt)) H4 (upd H4 P (.lst (vs' ++ [v]))) := kept_upd FP ⟨_, hP4⟩
      have r4' : Rep c.K (Fb c (hold own j0 P) (lt elt ++ li elt)) H4 y v := ((show RepT c.K (Ft c.quiet (hold own j0 P) elt H3) (Fb c (hold own j0 P) (li elt)) H4 y v from r4).weak (fun a z => .inl (appL a z)) appR).rep
      refine ⟨vs', hP4, ?_, by omega, acc ++ [y], rest', vs' ++ [v], ?_, upd_same, RepFL.kept _ _ kp (fun _ z => z) ((ra.same ((sy.trans s3).trans s4)).append (RepFL.one r4')), e2, by rw [← ea, hr, List.append_assoc]; rfl⟩
      · have : acc.length + (rest'.length + 1) ≤ sizeLine := by
          rw [← ea, hr] at hz
          simpa using hz
        rw [← ra.length]
        omega
      · intro b o ho
        by_cases e : b = P
        · subst e; rw [hP] at ho; cases ho
        · rw [upd_ne e]
          exact s4 _ _ (sH3 _ _ ho)
  · refine .inl ⟨itc.2 i (by omega), ?_⟩
    have ei : items.drop i = [] := List.drop_eq_nil_of_le (by omega)
    rw [ei] at er
    cases er
    rw [List.append_nil] at ea
    subst ea
    exact (show ∀ v H', Same H H' → RepT c.K (fun a => Fb c own [] a ∨ (true = true ∧ H a ≠ none)) (Fb c own (lt elt ++ li elt)) H' (D.lst acc) v → Q v H' from p) _ Hc (s1.trans sc) ⟨P, vs', rfl, hDc, fun z => z.elim (fun z => S1.fok P z hP) fun z => z.2 (s1.free hP), ra.weak fun b z => z.elim (fb_hold hj0 b) fun z => by rw [z]; exact FP⟩
theorem lp_comp {K : PySem.W.Frag} {elt : E} {tg : Tg} {src : Src} {vs : List Nat} {Q : VK} (hK : c.K = K) (h0 : liS src = []) (ht : ∀ i ∈ tgIx tg, i ∈ vs) (q : rdE c (.comp elt tg src vs) σ H Q) : tLc (rdS c src) (tgG K tg) tYes (rdE c.quiet elt) vs σ H Q := by
  subst hK
  exact lp_lc (cd := fun _ => .ok true) h0 ht (fun own τ σ H Q S p => p H (Same.refl H)) q
theorem lp_compIf {K : PySem.W.Frag} {elt cd : E} {tg : Tg} {src : Src} {vs : List Nat} {Q : VK} (hK : c.K = K) (h0 : liS src = []) (ht : ∀ i ∈ tgIx tg, i ∈ vs) (q : rdE c (.compIf elt tg src cd vs) σ H Q) : tLc (rdS c src) (tgG K tg) (rdT c.quiet cd) (rdE c.quiet elt) vs σ H Q := by
  subst hK
  refine lp_lc (cd := fun τ => ev c.G c.Φ cd τ >>= blD) h0 ht (fun own τ σ H Q S p => ⟨own, τ, S, p.imp (fun _ _ q => q) fun _ _ e => e.elim⟩) ?_
  obtain ⟨own', τ, S, p⟩ := q
  refine ⟨own', τ, S, ?_⟩
  have e : (fun x => nox (asg tg x (wipeD τ vs) >>= fun σ2 => ev c.G c.Φ cd σ2 >>= fun t => blD t >>= fun k => if k then ev c.G c.Φ elt σ2 >>= fun y => Res.ok (some y) else .ok none)) = turnR c elt tg vs (fun τ => ev c.G c.Φ cd τ >>= blD) τ := by
    funext x
    unfold turnR
    congr 1
    cases asg tg x (wipeD τ vs) with
    | ok σ2 => show (ev c.G c.Φ cd σ2 >>= _) = ((ev c.G c.Φ cd σ2 >>= blD) >>= _); cases ev c.G c.Φ cd σ2 <;> rfl
    | exc _ _ => rfl
    | bad => rfl
  rw [← e]
  exact p
/-! ### two loops in one comprehension -/
theorem room_for2 (S : Sim c own τ σ H) (L : List Nat) : ∃ j0, own j0 = none ∧ j0 ∉ L ∧ τ.length ≤ j0 := by
  obtain ⟨n, hn⟩ := S.fin
  have key : ∀ L : List Nat, ∃ m, ∀ j ∈ L, j < m := by
    intro L
    induction L with
    | nil => exact ⟨0, fun j h => by cases h⟩
    | cons x r ih =>
      obtain ⟨m, h⟩ := ih
      refine ⟨max m (x + 1), fun j hj => ?_⟩
      rcases List.mem_cons.mp hj with rfl | hj
      · omega
      · have := h j hj
        omega
  obtain ⟨m, hm⟩ := key L
  exact ⟨max (max n m) τ.length, hn _ (by omega), fun z => (by have := hm _ z; omega), by omega⟩
theorem Sim.keptP {own' : Nat → Option Addr} {H' : Hp} {j0 : Nat} {P : Addr} {vs : List V} (S : Sim c own' τ σ H) (hj : own' j0 = some P) (no : τ.length ≤ j0) (hP : H P = some (.lst vs)) (k : ∀ a o, a ≠ P → H a = some o → H' a = some o) (hP' : H' P ≠ none) : Sim c own' τ σ H' := by
  have FP : Fb c own' [] P := .inr ⟨j0, hj, List.not_mem_nil⟩
  have kp : Kept (Fb c own' []) H H' := fun a o e n => by
    by_cases z : a = P
    · subst z
      rw [hP] at e
      cases e
      rcases n with n | n
      · exact absurd FP n
      · exact absurd ⟨vs, rfl⟩ n
    · exact k a o z e
  have ni : ∀ {i : Nat} {ds : List D}, τ[i]? = some (some (C.o ds)) → i ≠ j0 := fun {i ds} e z => by
    rw [z, List.getElem?_eq_none no] at e
    cases e
  refine ⟨S.len, fun i d e => ?_, fun i ds e => ?_, S.inj, fun i a e => ?_, S.fin, S.f0, ?_, ?_⟩
  · obtain ⟨v, h1, h2⟩ := S.val i d e
    exact ⟨v, h1, RepF.kept d v kp (fun _ z => z) h2⟩
  · obtain ⟨a, vs', h1, h2, h3, h4⟩ := S.ows i ds e
    have ne : a ≠ P := fun z => ni e (S.inj i j0 a h1 (by rw [z]; exact hj))
    exact ⟨a, vs', h1, h2, k a _ ne h3, RepFL.kept ds vs' kp (fun _ z => z) h4⟩
  · refine ⟨(S.al i a e).1, ?_⟩
    by_cases z : a = P
    · rw [z]; exact hP'
    · cases q : H a with
      | none => exact absurd q (S.al i a e).2
      | some o => rw [k a o z q]; exact fun z => nomatch z
  · intro b o e
    have ne : b ≠ P := fun z => by rw [z, (S.al j0 P hj).1] at e; cases e
    exact k b o ne (S.same b o e)
  · refine ⟨fun a o e n => ?_, S.bs.n, S.bs.f⟩
    have e1 := S.bs.k a o e n
    by_cases z : a = P
    · subst z
      rw [hP] at e1
      cases e1
      rcases S.bs.n j0 a hj with b | b
      · rcases n with n | n
        · exact absurd b n
        · exact absurd ⟨vs, rfl⟩ n
      · rw [b] at e; cases e
    · exact k a o z e1
end
end PyI
/-! PyI, part 8b: comprehensions with two loops. -/
namespace PyI
open PySem PySem.Spec PyProof.Rows L2
section
variable {c : Cc} {own : Nat → Option Addr} {τ : Env} {σ : L2.St} {H : Hp}
abbrev turn1 (c : Cc) (elt : E) (tg1 : Tg) (vs1 : List Nat) (τ2 : Env) (x : D) : Res (Option D) := nox (asg tg1 x (wipeD τ2 vs1) >>= fun τ3 => ev c.G c.Φ elt τ3 >>= fun y => .ok (some y))
abbrev turn2 (c : Cc) (elt : E) (tg : Tg) (tg1 : Tg) (src1 : Src) (vs vs1 : List Nat) (τ : Env) (x : D) : Res (List D) := nox (asg tg x (wipeD τ vs) >>= fun τ2 => evS c.G c.Φ src1 τ2 >>= fun items1 => mapR (turn1 c elt tg1 vs1 τ2) items1)
theorem lp_comp2 {K : PySem.W.Frag} {elt : E} {tg tg1 : Tg} {src src1 : Src} {vs vs1 : List Nat} {Q : VK} (hK : c.K = K) (h0 : liS src = []) (h01 : liS src1 = []) (ht : ∀ i ∈ tgIx tg, i ∈ vs) (ht1 : ∀ i ∈ tgIx tg1, i ∈ vs1) (q : rdE c (.comp2 elt tg src tg1 src1 vs vs1) σ H Q) :
    tLc2 (rdS c src) (tgG K tg) tYes (rdS c.quiet src1) (tgG K tg1) tYes (rdE c.quiet elt) vs vs1 σ H Q := by
  subst hK
  obtain ⟨own, τ, S, p⟩ := q
  have p : Post (evS c.G c.Φ src τ >>= fun items => flatR (turn2 c elt tg tg1 src1 vs vs1 τ) items >>= fun ds => if ds.length ≤ sizeLine then Res.ok (D.lst ds) else .bad)
      (fun d => ∀ v H', Same H H' → RepT c.K (fun a => Fb c own [] a ∨ (true = true ∧ H a ≠ none)) (Fb c own (lt elt ++ li elt)) H' d v → Q v H') (ExW c σ H) := p
  refine ⟨own, τ, S, (Post.bind p).imp (fun items _ p J H1 s1 it => ?_) fun _ _ e => e⟩
  rw [h0] at it
  intro P hP
  obtain ⟨ds, em, p⟩ := (Post.bind p).nx (nx_flatR _ (fun _ => nx_nox _) items)
  obtain ⟨dd, e, p⟩ := p.nx NoX.ite
  obtain ⟨hz, rfl⟩ := ok_if e
  have S1 := S.mono s1
  obtain ⟨j0, hj0, hjL0, hjt⟩ := room_for2 S1 (lt elt ++ li elt ++ (ltS src1 ++ liS src1))
  have hjL : j0 ∉ lt elt ++ li elt := fun z => hjL0 (List.mem_append_left _ z)
  have hjS : j0 ∉ ltS src1 ++ liS src1 := fun z => hjL0 (List.mem_append_right _ z)
  have e0 : hold own j0 P j0 = some P := by unfold hold; rw [if_pos rfl]
  have FP : Fb c (hold own j0 P) (lt elt ++ li elt) P := .inr ⟨j0, e0, hjL⟩
  have FS : Fb c (hold own j0 P) (ltS src1 ++ liS src1) P := .inr ⟨j0, e0, hjS⟩
  refine ⟨fun i m Hc => i + m = items.length ∧ ∃ acc rest vs', Same H1 Hc ∧ Hc P = some (.lst vs') ∧ RepL c.K (Fb c (hold own j0 P) (lt elt ++ li elt)) Hc acc vs' ∧ flatR (turn2 c elt tg tg1 src1 vs vs1 τ) (items.drop i) = .ok rest ∧ acc ++ rest = ds,
    ⟨items.length, by omega, [], ds, [], same_upd hP, upd_same, rfl, em, rfl⟩, fun i m Hc ⟨hm, acc, rest, vs', sc, hDc, ra, er, ea⟩ => ?_⟩
  have itc := it (fun a => a = P) (fun a z => by rw [z]; exact hP) Hc (same_kept sc)
  by_cases hi : i < items.length
  · refine .inr ⟨(itc.1 i items[i] (List.getElem?_eq_getElem hi)).1, fun H' => i + 1 + (m - 1) = items.length ∧ ∃ acc rest vs', Same H1 H' ∧ H' P = some (.lst vs') ∧ RepL c.K (Fb c (hold own j0 P) (lt elt ++ li elt)) H' acc vs' ∧ flatR (turn2 c elt tg tg1 src1 vs vs1 τ) (items.drop (i + 1)) = .ok rest ∧ acc ++ rest = ds,
      fun H' h => ⟨m - 1, by omega, h⟩, fun x H' hy => ?_⟩
    obtain ⟨sy, ry⟩ := (itc.1 i items[i] (List.getElem?_eq_getElem hi)).2 x H' hy
    rw [List.drop_eq_getElem_cons hi] at er
    obtain ⟨ys, e1, er⟩ := bind_ok (show (turn2 c elt tg tg1 src1 vs vs1 τ items[i] >>= fun xs => flatR (turn2 c elt tg tg1 src1 vs vs1 τ) (items.drop (i + 1)) >>= fun ds => Res.ok (xs ++ ds)) = .ok rest from er)
    obtain ⟨rest', e2, er⟩ := bind_ok er
    have hrest : rest = ys ++ rest' := (Res.ok.inj er).symm
    obtain ⟨τ2, e3, e4⟩ := bind_ok (nox_inv e1)
    obtain ⟨items1, e5, e6⟩ := bind_ok e4
    have hPy : H' P = some (.lst vs') := sy _ _ hDc
    have Sh : Sim c (hold own j0 P) τ σ H' := S1.hold hj0 hP (sc.trans sy) (by rw [hPy]; exact fun z => nomatch z)
    refine asg_run tg items[i] x (wipeD τ vs) τ2 (wipe σ vs) _ (Sh.wipe vs) (ry.weak hold_fb) e3 fun σ2 S2 w2 => ⟨by rw [w2 vs ht]; exact wipe_wipe σ vs, ?_⟩
    have hlen2 : τ2.length ≤ j0 := by
      have l1 := S2.len
      have l2 : (wipe σ2 vs).length = (wipe (wipe σ vs) vs).length := by rw [w2 vs ht]
      rw [wipe_length, wipe_length, wipe_length] at l2
      have := S.len
      omega
    dsimp only [tYes]
    rw [if_pos rfl]
    refine ⟨hold own j0 P, τ2, S2.quiet, ?_⟩
    have e5' : evS c.quiet.G c.quiet.Φ src1 τ2 = .ok items1 := e5
    rw [e5']
    intro J1 H4 s4 it1
    have hP4 : H4 P = some (.lst vs') := s4 _ _ hPy
    have S4 : Sim c (hold own j0 P) τ2 σ2 H4 := S2.mono s4
    have sH4 : Same H1 H4 := (sc.trans sy).trans s4
    refine ⟨fun j k Hc1 => j + k = items1.length ∧ ∃ acc1 rest1 vs2, (∀ a o, a ≠ P → H4 a = some o → Hc1 a = some o) ∧ Hc1 P = some (.lst vs2) ∧ RepL c.K (Fb c (hold own j0 P) (lt elt ++ li elt)) Hc1 acc1 vs2 ∧ mapR (turn1 c elt tg1 vs1 τ2) (items1.drop j) = .ok rest1 ∧ acc1 ++ rest1 = acc ++ ys,
      ⟨items1.length, by omega, acc, ys, vs', fun a o _ h => h, hP4, ra.same (sy.trans s4), e6, rfl⟩, fun j k Hc1 ⟨hk, acc1, rest1, vs2, k1, hP1, ra1, er1, ea1⟩ => ?_⟩
    have kp1 : Kept (Fb c (hold own j0 P) (ltS src1 ++ liS src1)) H4 Hc1 := fun a o e n => by
      by_cases z : a = P
      · subst z
        rw [hP4] at e
        cases e
        rcases n with n | n
        · exact absurd FS n
        · exact absurd ⟨vs', rfl⟩ n
      · exact k1 a o z e
    have sH1 : Same H1 Hc1 := fun b o ho => by
      by_cases e : b = P
      · subst e; rw [hP] at ho; cases ho
      · exact k1 b o e (sH4 _ _ ho)
    have itc1 := it1 (fun a => False) (fun a z => z.elim) Hc1 kp1
    by_cases hj : j < items1.length
    · refine .inr ⟨(itc1.1 j items1[j] (List.getElem?_eq_getElem hj)).1, fun H' => j + 1 + (k - 1) = items1.length ∧ ∃ acc1 rest1 vs2, (∀ a o, a ≠ P → H4 a = some o → H' a = some o) ∧ H' P = some (.lst vs2) ∧ RepL c.K (Fb c (hold own j0 P) (lt elt ++ li elt)) H' acc1 vs2 ∧ mapR (turn1 c elt tg1 vs1 τ2) (items1.drop (j + 1)) = .ok rest1 ∧ acc1 ++ rest1 = acc ++ ys,
        fun H' h => ⟨k - 1, by omega, h⟩, fun x1 H5 hy1 => ?_⟩
      obtain ⟨sy1, ry1⟩ := (itc1.1 j items1[j] (List.getElem?_eq_getElem hj)).2 x1 H5 hy1
      rw [List.drop_eq_getElem_cons hj] at er1
      obtain ⟨o, f1, er1⟩ := bind_ok (show (turn1 c elt tg1 vs1 τ2 items1[j] >>= fun o => mapR (turn1 c elt tg1 vs1 τ2) (items1.drop (j + 1)) >>= fun ds => match o with
        | some x => Res.ok (x :: ds)
        | none => .ok ds) = .ok rest1 from er1)
      obtain ⟨rest2, f2, er1⟩ := bind_ok er1
      obtain ⟨τ3, f3, f4⟩ := bind_ok (nox_inv f1)
      obtain ⟨y, f5, f6⟩ := bind_ok f4
      cases f6
      have hr1 : rest1 = y :: rest2 := (Res.ok.inj er1).symm
      have hP5 : H5 P = some (.lst vs2) := sy1 _ _ hP1
      have S5 : Sim c (hold own j0 P) τ2 σ2 H5 := (S4.keptP e0 hlen2 hP4 k1 (by rw [hP1]; exact fun z => nomatch z)).mono sy1
      have ry1' : Rep c.K (Fb c (hold own j0 P) []) H5 items1[j] x1 := ry1.weak fun a z => .inl (by
        have := (show Fb c (hold own j0 P) [] a from z)
        have hl : liS src1 = [] := h01
        show Fb c.quiet (hold own j0 P) (liS src1) a
        rw [hl]
        exact z)
      refine asg_run tg1 items1[j] x1 (wipeD τ2 vs1) τ3 (wipe σ2 vs1) _ (S5.wipe vs1) ry1' f3 fun σ3 S3 w3 => ⟨by rw [w3 vs1 ht1]; exact wipe_wipe σ2 vs1, ?_⟩
      rw [if_pos rfl]
      refine ⟨hold own j0 P, τ3, S3.quiet, ?_⟩
      have f5' : ev c.quiet.G c.quiet.Φ elt τ3 = .ok y := f5
      rw [f5']
      refine fun v H6 s6 r6 => ?_
      have hP6 : H6 P = some (.lst vs2) := s6 _ _ hP5
      have kp : Kept (Fb c (hold own j0 P) (lt elt ++ li elt)) H6 (upd H6 P (.lst (vs2 ++ [v]))) := kept_upd FP ⟨_, hP6⟩
      have r6' : Rep c.K (Fb c (hold own j0 P) (lt elt ++ li elt)) H6 y v := ((show RepT c.K (Ft c.quiet (hold own j0 P) elt H5) (Fb c (hold own j0 P) (li elt)) H6 y v from r6).weak (fun a z => .inl (appL a z)) appR).rep
      refine ⟨vs2, hP6, ?_, by omega, acc1 ++ [y], rest2, vs2 ++ [v], ?_, upd_same, RepFL.kept _ _ kp (fun _ z => z) ((ra1.same (sy1.trans s6)).append (RepFL.one r6')), f2, by rw [← ea1, hr1, List.append_assoc]; rfl⟩
      · have l1 : acc1.length + (rest2.length + 1) = acc.length + ys.length := by
          have := congrArg List.length ea1
          rw [hr1] at this
          simpa using this
        have l2 : acc.length + (ys.length + rest'.length) ≤ sizeLine := by
          rw [← ea, hrest] at hz
          simpa using hz
        rw [← ra1.length]
        omega
      · intro b o ne ho
        rw [upd_ne ne]
        exact s6 _ _ (sy1 _ _ (k1 b o ne ho))
    · refine .inl ⟨itc1.2 j (by omega), by omega, acc1, rest', vs2, sH1, hP1, ra1, e2, ?_⟩
      have ei : items1.drop j = [] := List.drop_eq_nil_of_le (by omega)
      rw [ei] at er1
      cases er1
      rw [List.append_nil] at ea1
      rw [ea1, ← ea, hrest, List.append_assoc]
  · refine .inl ⟨itc.2 i (by omega), ?_⟩
    have ei : items.drop i = [] := List.drop_eq_nil_of_le (by omega)
    rw [ei] at er
    cases er
    rw [List.append_nil] at ea
    subst ea
    exact (show ∀ v H', Same H H' → RepT c.K (fun a => Fb c own [] a ∨ (true = true ∧ H a ≠ none)) (Fb c own (lt elt ++ li elt)) H' (D.lst acc) v → Q v H' from p) _ Hc (s1.trans sc) ⟨P, vs', rfl, hDc, fun z => z.elim (fun z => S1.fok P z hP) fun z => z.2 (s1.free hP), ra.weak fun b z => z.elim (fb_hold hj0 b) fun z => by rw [z]; exact FP⟩
end
end PyI
/-! PyI, part 9: checked syntax runs as the interpreter says: expressions. -/
namespace PyI
open PySem PySem.Spec PyProof.Rows L2
theorem own_snd (N : List Str) (own : List Nat) : (ownN N own).map (·.2) = own := by
  unfold ownN
  rw [List.map_map]
  exact (List.map_congr_left fun _ _ => rfl).trans (List.map_id own)
section
variable {k : Ck} {sc : Scope} {fb : Str → Bool}
theorem inv_var {i : Nat} {X0 : Expr} (h : chkE k sc fb (.var i) X0 = true) : ∃ x p, X0 = .Name x p ∧ (decide (k.N[i]? = some x) && (vis sc x && nmOk x)) = true := by
  cases X0 with
  | Name x p =>
    exact ⟨_, _, rfl, h⟩
  | _ => cases h
theorem inv_par {i : Nat} {X0 : Expr} (h : chkE k sc fb (.par i) X0 = true) : ∃ x p, X0 = .Name x p ∧ (decide (k.N[i]? = some x) && (vis sc x && nmOk x)) = true := by
  cases X0 with
  | Name x p =>
    exact ⟨_, _, rfl, h⟩
  | _ => cases h
theorem inv_int {i : Int} {X0 : Expr} (h : chkE k sc fb (.int i) X0 = true) : ∃ j n p, X0 = .Constant (.int j) n p ∧ (decide (i = j)) = true := by
  cases X0 with
  | Constant v1 n p =>
    cases v1 with
    | int j =>
      exact ⟨_, _, _, rfl, h⟩
    | _ => cases h
  | _ => cases h
theorem inv_str {i : Str} {X0 : Expr} (h : chkE k sc fb (.str i) X0 = true) : ∃ j n p, X0 = .Constant (.str j) n p ∧ (decide (i = j)) = true := by
  cases X0 with
  | Constant v2 n p =>
    cases v2 with
    | str j =>
      exact ⟨_, _, _, rfl, h⟩
    | _ => cases h
  | _ => cases h
theorem inv_bl {i : Bool} {X0 : Expr} (h : chkE k sc fb (.bl i) X0 = true) : ∃ j n p, X0 = .Constant (.bool j) n p ∧ (i == j) = true := by
  cases X0 with
  | Constant v3 n p =>
    cases v3 with
    | bool j =>
      exact ⟨_, _, _, rfl, h⟩
    | _ => cases h
  | _ => cases h
theorem inv_non {X0 : Expr} (h : chkE k sc fb (.non) X0 = true) : ∃ n p, X0 = .Constant .none n p ∧ (true) = true := by
  cases X0 with
  | Constant v4 n p =>
    cases v4 with
    | none =>
      exact ⟨_, _, rfl, h⟩
    | _ => cases h
  | _ => cases h
theorem inv_glob {x0 : Str} {X0 : Expr} (h : chkE k sc fb (.glob x0) X0 = true) : ∃ y p, X0 = .Name y p ∧ (decide (x0 = y) && (gl sc x0 && (nmOk x0 && k.gs.contains x0))) = true := by
  cases X0 with
  | Name y p =>
    exact ⟨_, _, rfl, h⟩
  | _ => cases h
theorem inv_op {o : Op} {a b : E} {X0 : Expr} (h : chkE k sc fb (.op o a b) X0 = true) : ∃ x p y q, X0 = .BinOp x p y q ∧ (opk o p && (chkE k sc fb a x && chkE k sc fb b y)) = true := by
  cases X0 with
  | BinOp x p y q =>
    exact ⟨_, _, _, _, rfl, h⟩
  | _ => cases h
theorem inv_neg {a : E} {X0 : Expr} (h : chkE k sc fb (.neg a) X0 = true) : ∃ x q, X0 = .UnaryOp .USub x q ∧ (chkE k sc fb a x) = true := by
  cases X0 with
  | UnaryOp v5 x q =>
    cases v5 with
    | USub =>
      exact ⟨_, _, rfl, h⟩
    | _ => cases h
  | _ => cases h
theorem inv_not {a : E} {X0 : Expr} (h : chkE k sc fb (.not a) X0 = true) : ∃ x q, X0 = .UnaryOp .Not x q ∧ (chkE k sc fb a x) = true := by
  cases X0 with
  | UnaryOp v6 x q =>
    cases v6 with
    | Not =>
      exact ⟨_, _, rfl, h⟩
    | _ => cases h
  | _ => cases h
theorem inv_cmp {o : Cm} {a b : E} {X0 : Expr} (h : chkE k sc fb (.cmp o a b) X0 = true) : ∃ x p y q, X0 = .Compare x (p :: []) (y :: []) q ∧ (cmk o p && (!behindInMarks p y && (chkE k sc fb a x && chkE k sc fb b y))) = true := by
  cases X0 with
  | Compare x v7 v8 q =>
    cases v7 with
    | cons p v9 =>
      cases v9 with
      | nil =>
        cases v8 with
        | cons y v10 =>
          cases v10 with
          | nil =>
            exact ⟨_, _, _, _, rfl, h⟩
          | _ => cases h
        | _ => cases h
      | _ => cases h
    | _ => cases h
  | _ => cases h
theorem inv_chain {o o' : Cm} {a b d : E} {X0 : Expr} (h : chkE k sc fb (.chain o o' a b d) X0 = true) : ∃ x p p' y z q, X0 = .Compare x (p :: (p' :: [])) (y :: (z :: [])) q ∧ (cmk o p && (cmk o' p' && (!lastMarks [p, p'] [y, z] && (chkE k sc fb a x && (chkE k sc fb b y && chkE k sc fb d z))))) = true := by
  cases X0 with
  | Compare x v11 v12 q =>
    cases v11 with
    | cons p v13 =>
      cases v13 with
      | cons p' v14 =>
        cases v14 with
        | nil =>
          cases v12 with
          | cons y v15 =>
            cases v15 with
            | cons z v16 =>
              cases v16 with
              | nil =>
                exact ⟨_, _, _, _, _, _, rfl, h⟩
              | _ => cases h
            | _ => cases h
          | _ => cases h
        | _ => cases h
      | _ => cases h
    | _ => cases h
  | _ => cases h
theorem inv_ife {t a b : E} {X0 : Expr} (h : chkE k sc fb (.ife t a b) X0 = true) : ∃ w x y q, X0 = .IfExp w x y q ∧ (tOk t && (chkE k sc fb t w && (chkE k sc fb a x && chkE k sc fb b y))) = true := by
  cases X0 with
  | IfExp w x y q =>
    exact ⟨_, _, _, _, rfl, h⟩
  | _ => cases h
theorem inv_ix {a b : E} {X0 : Expr} (h : chkE k sc fb (.ix a b) X0 = true) : ∃ x y q, X0 = .Subscript x y q ∧ (notSlice y && (chkE k sc fb a x && chkE k sc fb b y)) = true := by
  cases X0 with
  | Subscript x y q =>
    exact ⟨_, _, _, rfl, h⟩
  | _ => cases h
theorem inv_sl {a : E} {lo hi : Op1} {X0 : Expr} (h : chkE k sc fb (.sl a lo hi) X0 = true) : ∃ x l u p q, X0 = .Subscript x (.Slice l u .none p) q ∧ (chkE k sc fb a x && (chkO k sc fb lo l && chkO k sc fb hi u)) = true := by
  cases X0 with
  | Subscript x v17 q =>
    cases v17 with
    | Slice l u v18 p =>
      cases v18 with
      | none =>
        exact ⟨_, _, _, _, _, rfl, h⟩
      | _ => cases h
    | _ => cases h
  | _ => cases h
theorem inv_tup {es : Es} {X0 : Expr} (h : chkE k sc fb (.tup es) X0 = true) : ∃ xs n q, X0 = .Tuple xs n q ∧ (decide (esLen es ≤ 1000) && chkEs k sc fb es xs) = true := by
  cases X0 with
  | Tuple xs n q =>
    exact ⟨_, _, _, rfl, h⟩
  | _ => cases h
theorem inv_lst {es : Es} {X0 : Expr} (h : chkE k sc fb (.lst es) X0 = true) : ∃ xs q, X0 = .List xs q ∧ (decide (esLen es ≤ 1000) && chkEs k sc fb es xs) = true := by
  cases X0 with
  | List xs q =>
    exact ⟨_, _, rfl, h⟩
  | _ => cases h
theorem inv_call {f : Str} {es : Es} {X0 : Expr} (h : chkE k sc fb (.call f es) X0 = true) : (∃ y p x xs q, X0 = .Call (.Name y p) (x :: xs) [] q ∧ (decide (f = y) && (k.fns.contains f && (gl sc y && (nmOk y && chkEs k sc fb es (x :: xs))))) = true) ∨ ∃ y p q, X0 = .Call (.Name y p) [] [] q ∧ es = .nil ∧ (decide (f = y) && (k.fns.contains f && (gl sc y && nmOk y))) = true := by
  cases X0 with
  | Call v19 v20 v21 q =>
    cases v19 with
    | Name y p =>
      cases v20 with
      | cons x xs =>
        cases v21 with
        | nil => cases es <;> exact .inl ⟨_, _, _, _, _, rfl, h⟩
        | _ => cases es <;> cases h
      | nil =>
        cases v21 with
        | nil =>
          cases es with
          | nil => exact .inr ⟨_, _, _, rfl, rfl, h⟩
          | _ => cases h
        | _ => cases es <;> cases h
    | _ => cases es <;> cases h
  | _ => cases es <;> cases h
theorem inv_callF {f : Str} {es : Es} {X0 : Expr} (h : chkE k sc fb (.callF f es) X0 = true) : ∃ y p x xs q, X0 = .Call (.Name y p) (x :: xs) [] q ∧ (k.frs.contains f && (decide (f = y) && (k.fns.contains f && (gl sc y && (nmOk y && chkEs k sc fb es (x :: xs)))))) = true := by
  cases X0 with
  | Call v22 v23 v24 q =>
    cases v22 with
    | Name y p =>
      cases v23 with
      | cons x xs =>
        cases v24 with
        | nil => exact ⟨_, _, _, _, _, rfl, h⟩
        | _ => cases h
      | _ => cases h
    | _ => cases h
  | _ => cases h
theorem inv_bi {b : Bi} {es : Es} {X0 : Expr} (h : chkE k sc fb (.bi b es) X0 = true) : ∃ y p x xs q, X0 = .Call (.Name y p) (x :: xs) [] q ∧ (biChk k b y && (gl sc y && (nmOk y && chkEs k sc fb es (x :: xs)))) = true := by
  cases X0 with
  | Call v22 v23 v24 q =>
    cases v22 with
    | Name y p =>
      cases v23 with
      | cons x xs =>
        cases v24 with
        | nil =>
          exact ⟨_, _, _, _, _, rfl, h⟩
        | _ => cases h
      | _ => cases h
    | _ => cases h
  | _ => cases h
theorem inv_isi {a : E} {t : String} {X0 : Expr} (h : chkE k sc fb (.isi a t) X0 = true) : ∃ y p x z p' q, X0 = .Call (.Name y p) (x :: ((.Name z p') :: [])) [] q ∧ (decide (y = ("isinstance" : Str)) && (k.fr.contains y && (gl sc y && (decide (z = Str.ofString t) && (k.fr.contains z && (gl sc z && (nmOk z && (["int", "bool", "str", "tuple", "list"].contains t && (notStar x && chkE k sc fb a x))))))))) = true := by
  cases X0 with
  | Call v25 v26 v27 q =>
    cases v25 with
    | Name y p =>
      cases v26 with
      | cons x v28 =>
        cases v28 with
        | cons v29 v30 =>
          cases v29 with
          | Name z p' =>
            cases v30 with
            | nil =>
              cases v27 with
              | nil =>
                exact ⟨_, _, _, _, _, _, rfl, h⟩
              | _ => cases h
            | _ => cases h
          | _ => cases h
        | _ => cases h
      | _ => cases h
    | _ => cases h
  | _ => cases h
theorem inv_dget {x : Str} {kvs : List (Str × Int)} {a b : E} {X0 : Expr} (h : chkE k sc fb (.dget x kvs a b) X0 = true) : ∃ y yp m ap u v cp, X0 = .Call (.Attribute (.Name y yp) m ap) [u, v] [] cp ∧ (decide (x = y) && (decide ((x, kvs) ∈ k.gd) && (decide (m = ("get" : Str)) && ((ap.endLine == cp.line) && (gl sc x && (nmOk x && (notStar u && (notStar v && (chkE k sc fb a u && chkE k sc fb b v))))))))) = true := by
  cases X0 with
  | Call f as kw cp =>
    cases f with
    | Attribute o m ap =>
      cases o with
      | Name y yp =>
        cases as with
        | nil => cases h
        | cons u r =>
          cases r with
          | nil => cases h
          | cons v r =>
            cases r with
            | cons _ _ => cases h
            | nil =>
              cases kw with
              | cons _ _ => cases h
              | nil => exact ⟨_, _, _, _, _, _, _, rfl, h⟩
      | _ => cases h
    | _ => cases h
  | _ => cases h
theorem inv_find {a b : E} {X0 : Expr} (h : chkE k sc fb (.find a b) X0 = true) : ∃ o m ap v cp, X0 = .Call (.Attribute o m ap) [v] [] cp ∧ (decide (m = ("find" : Str)) && ((ap.endLine == cp.line) && (objOk o && (notStar v && (chkE k sc fb a o && chkE k sc fb b v))))) = true := by
  cases X0 with
  | Call f as kw cp =>
    cases f with
    | Attribute o m ap =>
      cases as with
      | nil => cases h
      | cons v r =>
        cases r with
        | cons _ _ => cases h
        | nil =>
          cases kw with
          | cons _ _ => cases h
          | nil => exact ⟨_, _, _, _, _, rfl, h⟩
    | _ => cases h
  | _ => cases h
theorem inv_me {m : Me} {a : E} {es : Es} {X0 : Expr} (h : chkE k sc fb (.me m a es) X0 = true) : ∃ o n ap xs cp, X0 = .Call (.Attribute o n ap) xs [] cp ∧ ((xs = [] ∧ (decide (n = meS m) && ((ap.endLine == cp.line) && (objOk2 o && (chkE k sc fb a o && esNil es)))) = true) ∨ ∃ y, xs = [y] ∧ (decide (n = meS m) && ((ap.endLine == cp.line) && (objOk2 o && (chkE k sc fb a o && chkEs k sc fb es [y])))) = true) := by
  cases X0 with
  | Call f as kw cp =>
    cases f with
    | Attribute o n ap =>
      cases as with
      | nil =>
        cases kw with
        | cons _ _ => cases h
        | nil => exact ⟨_, _, _, _, _, rfl, .inl ⟨rfl, h⟩⟩
      | cons v r =>
        cases r with
        | cons _ _ => cases kw <;> cases h
        | nil =>
          cases kw with
          | cons _ _ => cases h
          | nil => exact ⟨_, _, _, _, _, rfl, .inr ⟨_, rfl, h⟩⟩
    | _ => cases h
  | _ => cases h
theorem inv_fs {es : Es} {X0 : Expr} (h : chkE k sc fb (.fs es) X0 = true) : ∃ x y xs q, X0 = .JoinedStr (x :: y :: xs) q ∧ chkFs k sc fb es (x :: y :: xs) = true := by
  cases X0 with
  | JoinedStr vs q =>
    cases vs with
    | nil => cases h
    | cons x r =>
      cases r with
      | nil => cases h
      | cons y r => exact ⟨_, _, _, _, rfl, h⟩
  | _ => cases h
theorem inv_fc {e : E} {r : Es} {xs : List Expr} (h : chkFs k sc fb (.cons e r) xs = true) : (∃ s p q ys, e = .str s ∧ xs = .Constant (.str s) p q :: ys ∧ chkFs k sc fb r ys = true) ∨ ∃ x p ys, xs = .FormattedValue x (-1) none p :: ys ∧ chkE k sc fb e x = true ∧ chkFs k sc fb r ys = true := by
  cases xs with
  | nil => cases e <;> cases h
  | cons x ys =>
    have fv : ∀ {y : Expr} {c : Int} {p : Pos}, (decide (c = -1) && (chkE k sc fb e y && chkFs k sc fb r ys)) = true → (∃ s p' q ys', e = .str s ∧ Expr.FormattedValue y c none p :: ys = .Constant (.str s) p' q :: ys' ∧ chkFs k sc fb r ys' = true) ∨ ∃ x p' ys', Expr.FormattedValue y c none p :: ys = .FormattedValue x (-1) none p' :: ys' ∧ chkE k sc fb e x = true ∧ chkFs k sc fb r ys' = true := fun {y c p} h => by
      obtain ⟨h1, h2⟩ := ba h
      obtain ⟨h3, h4⟩ := ba h2
      have e1 := of_decide_eq_true h1
      subst e1
      exact .inr ⟨_, _, _, rfl, h3, h4⟩
    cases x with
    | FormattedValue y c f p =>
      cases f with
      | none => exact fv (by cases e <;> exact h)
      | some _ => cases e <;> cases h
    | Constant v p q =>
      cases e with
      | str s =>
        cases v with
        | str j =>
          obtain ⟨h1, h2⟩ := ba (show (decide (s = j) && chkFs k sc fb r ys) = true from h)
          have e1 := of_decide_eq_true h1
          subst e1
          exact .inl ⟨_, _, _, _, rfl, rfl, h2⟩
        | _ => cases h
      | _ => cases h
    | _ => cases e <;> cases h
theorem inv_and {a b : E} {X0 : Expr} (h : chkE k sc fb (.and a b) X0 = true) : (∃ x y q, X0 = .BoolOp .And [x, y] q ∧ (chkE k sc fb a x && chkE k sc fb b y) = true) ∨ ∃ x y z r q, X0 = .BoolOp .And (x :: y :: z :: r) q ∧ (chkE k sc fb a x && chkE k sc fb b (.BoolOp .And (y :: z :: r) q)) = true := by
  cases X0 with
  | BoolOp o vs q =>
    cases o with
    | And =>
      cases vs with
      | nil => cases h
      | cons x vs =>
        cases vs with
        | nil => cases h
        | cons y vs =>
          cases vs with
          | nil => exact .inl ⟨_, _, _, rfl, h⟩
          | cons z r => exact .inr ⟨_, _, _, _, _, rfl, h⟩
    | _ => cases h
  | _ => cases h
theorem inv_or {a b : E} {X0 : Expr} (h : chkE k sc fb (.or a b) X0 = true) : (∃ x y q, X0 = .BoolOp .Or [x, y] q ∧ (chkE k sc fb a x && chkE k sc fb b y) = true) ∨ ∃ x y z r q, X0 = .BoolOp .Or (x :: y :: z :: r) q ∧ (chkE k sc fb a x && chkE k sc fb b (.BoolOp .Or (y :: z :: r) q)) = true := by
  cases X0 with
  | BoolOp o vs q =>
    cases o with
    | Or =>
      cases vs with
      | nil => cases h
      | cons x vs =>
        cases vs with
        | nil => cases h
        | cons y vs =>
          cases vs with
          | nil => exact .inl ⟨_, _, _, rfl, h⟩
          | cons z r => exact .inr ⟨_, _, _, _, _, rfl, h⟩
    | _ => cases h
  | _ => cases h
theorem inv_comp {elt : E} {tg : Tg} {src : Src} {own : List Nat} {X0 : Expr} (h : chkE k sc fb (.comp elt tg src own) X0 = true) : ∃ x t it scope q, X0 = .ListComp x [⟨t, it, [], 0⟩] scope q ∧ (blkC k.N sc scope (ownN k.N own) && (chkS k sc fb src t it && ((liS src).isEmpty && ((tgIx tg).all (own.contains ·) && (chkTg k (relS scope sc) (isCell scope) tg t && chkE k (relS scope sc) (isCell scope) elt x))))) = true := by
  cases X0 with
  | ListComp x gs scope q =>
    cases gs with
    | nil => cases h
    | cons g1 gs =>
      obtain ⟨t, it, fs, n⟩ := g1
      cases gs with
      | cons _ _ => cases h
      | nil =>
        obtain ⟨h1, h2⟩ := ba (show ((fs.isEmpty && decide (n = 0)) && _) = true from h)
        obtain ⟨h3, h4⟩ := ba h1
        have e1 : n = 0 := of_decide_eq_true h4
        subst e1
        cases fs with
        | nil => exact ⟨_, _, _, _, _, rfl, h2⟩
        | cons _ _ => cases h3
  | _ => cases h
theorem inv_comp2 {elt : E} {tg tg1 : Tg} {src src1 : Src} {own vs1 : List Nat} {X0 : Expr} (h : chkE k sc fb (.comp2 elt tg src tg1 src1 own vs1) X0 = true) : ∃ x t it t1 it1 scope q, X0 = .ListComp x [⟨t, it, [], 0⟩, ⟨t1, it1, [], 0⟩] scope q ∧ (blkC k.N sc scope (ownN k.N own) && (chkS k sc fb src t it && ((liS src).isEmpty && ((tgIx tg).all (own.contains ·) && (chkTg k (relS scope sc) (isCell scope) tg t && (chkS k (relS scope sc) (isCell scope) src1 t1 it1 && ((liS src1).isEmpty && ((tgIx tg1).all (vs1.contains ·) && (vs1.all (own.contains ·) && (chkTg k (relS scope sc) (isCell scope) tg1 t1 && chkE k (relS scope sc) (isCell scope) elt x)))))))))) = true := by
  cases X0 with
  | ListComp x gs scope q =>
    cases gs with
    | nil => cases h
    | cons g gs =>
      cases gs with
      | nil => obtain ⟨t, it, fs, n⟩ := g; cases h
      | cons g1 gs =>
        cases gs with
        | cons _ _ => obtain ⟨t, it, fs, n⟩ := g; obtain ⟨t1, it1, fs1, n1⟩ := g1; cases h
        | nil =>
          obtain ⟨t, it, fs, n⟩ := g
          obtain ⟨t1, it1, fs1, n1⟩ := g1
          obtain ⟨h1, h2⟩ := ba (show ((fs.isEmpty && (decide (n = 0) && (fs1.isEmpty && decide (n1 = 0)))) && (blkC k.N sc scope (ownN k.N own) && (chkS k sc fb src t it && ((liS src).isEmpty && ((tgIx tg).all (own.contains ·) && (chkTg k (relS scope sc) (isCell scope) tg t && (chkS k (relS scope sc) (isCell scope) src1 t1 it1 && ((liS src1).isEmpty && ((tgIx tg1).all (vs1.contains ·) && (vs1.all (own.contains ·) && (chkTg k (relS scope sc) (isCell scope) tg1 t1 && chkE k (relS scope sc) (isCell scope) elt x))))))))))) = true from h)
          obtain ⟨h3, h1⟩ := ba h1
          obtain ⟨h4, h1⟩ := ba h1
          obtain ⟨h5, h6⟩ := ba h1
          cases fs with
          | cons _ _ => cases h3
          | nil =>
            cases fs1 with
            | cons _ _ => cases h5
            | nil =>
              cases of_decide_eq_true h4
              cases of_decide_eq_true h6
              exact ⟨_, _, _, _, _, _, _, rfl, h2⟩
  | _ => cases h
theorem inv_compIf {elt : E} {tg : Tg} {src : Src} {cd : E} {own : List Nat} {X0 : Expr} (h : chkE k sc fb (.compIf elt tg src cd own) X0 = true) : ∃ x t it i scope q, X0 = .ListComp x [⟨t, it, [i], 0⟩] scope q ∧ (blkC k.N sc scope (ownN k.N own) && (chkS k sc fb src t it && ((liS src).isEmpty && ((tgIx tg).all (own.contains ·) && (tOk cd && (chkTg k (relS scope sc) (isCell scope) tg t && (chkE k (relS scope sc) (isCell scope) cd i && chkE k (relS scope sc) (isCell scope) elt x))))))) = true := by
  cases X0 with
  | ListComp x gs scope q =>
    cases gs with
    | nil => cases h
    | cons g1 gs =>
      obtain ⟨t, it, fs, n⟩ := g1
      cases gs with
      | cons _ _ => cases h
      | nil =>
        cases fs with
        | nil => obtain ⟨h1, h2⟩ := ba (show (decide (n = 0) && false) = true from h); cases h2
        | cons i fs =>
          cases fs with
          | cons _ _ => obtain ⟨h1, h2⟩ := ba (show (decide (n = 0) && false) = true from h); cases h2
          | nil =>
            obtain ⟨h1, h2⟩ := ba (show (decide (n = 0) && _) = true from h)
            have e1 : n = 0 := of_decide_eq_true h1
            subst e1
            exact ⟨_, _, _, _, _, _, rfl, h2⟩
  | _ => cases h
theorem inv_nil {xs : List Expr} (h : chkEs k sc fb .nil xs = true) : xs = [] := by
  cases xs with
  | nil => rfl
  | cons _ _ => cases h
theorem inv_cons {e : E} {r : Es} {xs : List Expr} (h : chkEs k sc fb (.cons e r) xs = true) : ∃ x ys, xs = x :: ys ∧ (notStar x && (chkE k sc fb e x && chkEs k sc fb r ys)) = true := by
  cases xs with
  | nil => cases h
  | cons x ys => exact ⟨_, _, rfl, h⟩
theorem inv_no {x : Option Expr} (h : chkO k sc fb .no x = true) : x = none := by
  cases x with
  | none => rfl
  | some _ => cases h
theorem inv_so {e : E} {x : Option Expr} (h : chkO k sc fb (.so e) x = true) : ∃ y, x = some y ∧ chkE k sc fb e y = true := by
  cases x with
  | none => cases h
  | some y => exact ⟨_, rfl, h⟩
theorem inv_rng1 {a : E} {t X0 : Expr} (h : chkS k sc fb (.rng1 a) t X0 = true) : ∃ y p x q, X0 = .Call (.Name y p) [x] [] q ∧ (decide (y = ("range" : Str)) && (k.fr.contains y && (gl sc y && (notStar x && chkE k sc fb a x)))) = true := by
  cases X0 with
  | Call f as ks q =>
    cases f with
    | Name y p =>
      cases as with
      | nil => cases h
      | cons x as =>
        cases as with
        | nil =>
          cases ks with
          | nil => exact ⟨_, _, _, _, rfl, h⟩
          | cons _ _ => cases h
        | cons _ _ => cases h
    | _ => cases h
  | _ => cases h
theorem inv_rng2 {a b : E} {t X0 : Expr} (h : chkS k sc fb (.rng2 a b) t X0 = true) : ∃ y p x w q, X0 = .Call (.Name y p) [x, w] [] q ∧ (decide (y = ("range" : Str)) && (k.fr.contains y && (gl sc y && (notStar x && (notStar w && (chkE k sc fb a x && chkE k sc fb b w)))))) = true := by
  cases X0 with
  | Call f as ks q =>
    cases f with
    | Name y p =>
      cases as with
      | nil => cases h
      | cons x as =>
        cases as with
        | nil => cases h
        | cons w as =>
          cases as with
          | nil =>
            cases ks with
            | nil => exact ⟨_, _, _, _, _, rfl, h⟩
            | cons _ _ => cases h
          | cons _ _ => cases h
    | _ => cases h
  | _ => cases h
theorem inv_enum {e : E} {t X0 : Expr} (h : chkS k sc fb (.enum e) t X0 = true) : ∃ y p x q, X0 = .Call (.Name y p) [x] [] q ∧ (tgE t && (decide (y = ("enumerate" : Str)) && (k.fr.contains y && (gl sc y && (notStar x && chkE k sc fb e x))))) = true := by
  cases X0 with
  | Call f as ks q =>
    cases f with
    | Name y p =>
      cases as with
      | nil => cases h
      | cons x as =>
        cases as with
        | nil =>
          cases ks with
          | nil => exact ⟨_, _, _, _, rfl, h⟩
          | cons _ _ => cases h
        | cons _ _ => cases h
    | _ => cases h
  | _ => cases h
theorem inv_zip {a b : E} {t X0 : Expr} (h : chkS k sc fb (.zip a b) t X0 = true) : ∃ y p x w q, X0 = .Call (.Name y p) [x, w] [] q ∧ (tgE t && (decide (y = ("zip" : Str)) && (k.fr.contains y && (gl sc y && (notStar x && (notStar w && (chkE k sc fb a x && chkE k sc fb b w))))))) = true := by
  cases X0 with
  | Call f as ks q =>
    cases f with
    | Name y p =>
      cases as with
      | nil => cases h
      | cons x as =>
        cases as with
        | nil => cases h
        | cons w as =>
          cases as with
          | nil =>
            cases ks with
            | nil => exact ⟨_, _, _, _, _, rfl, h⟩
            | cons _ _ => cases h
          | cons _ _ => cases h
    | _ => cases h
  | _ => cases h
theorem inv_tgE {t : Expr} (h : tgE t = true) : ∃ es n p, t = .Tuple es n p := by
  cases t with
  | Tuple es n p => exact ⟨_, _, _, rfl⟩
  | _ => cases h
end
end PyI
/-! PyI, part 9: checked syntax runs as the interpreter says: expressions. -/
namespace PyI
open PySem PySem.Spec PyProof.Rows L2

def SndE (k : Ck) (e : E) : Prop := ∀ (x : Expr) {X : Cx} {c : Cc} {sc : Scope} {fb : Str → Bool}, Good k X c sc fb → chkE k sc fb e x = true → PE X x (rdE c e)
def SndT (k : Ck) (e : E) : Prop := ∀ (x : Expr) {X : Cx} {c : Cc} {sc : Scope} {fb : Str → Bool}, Good k X c sc fb → tOk e = true → chkE k sc fb e x = true → PT X x (rdT c e)
def SndA (k : Ck) (e : Es) : Prop := ∀ (x : List Expr) {X : Cx} {c : Cc} {sc : Scope} {fb : Str → Bool}, Good k X c sc fb → chkEs k sc fb e x = true → PA X x (rdA c e)
def SndO (k : Ck) (e : Op1) : Prop := ∀ (x : Option Expr) {X : Cx} {c : Cc} {sc : Scope} {fb : Str → Bool}, Good k X c sc fb → chkO k sc fb e x = true → PO X x (rdO c e)
def SndS (k : Ck) (e : Src) : Prop := ∀ (t x : Expr) {X : Cx} {c : Cc} {sc : Scope} {fb : Str → Bool}, Good k X c sc fb → chkS k sc fb e t x = true → PI X t x (rdS c e)
section
variable {k : Ck}
theorem s_peE_var (i : Nat) : SndE k (.var i) := by
  intro X0 X c sc fb g h
  obtain ⟨x, _, rfl, hh⟩ := inv_var h
  have h := hh
  obtain ⟨h1, h2⟩ := ba (show (decide (k.N[i]? = some x) && (vis sc x && nmOk x)) = true from h)
  obtain ⟨h3, h4⟩ := ba h2
  exact peImp (pe_var (i := i) (by rw [g.N]; exact of_decide_eq_true h1) (by rw [g.sc]; exact vis_ok h3) (nm_ok h4).1 (nm_ok h4).2.1) fun σ H Q q => lp_var q
theorem s_peE_par (i : Nat) : SndE k (.par i) := by
  intro X0 X c sc fb g h
  obtain ⟨x, _, rfl, hh⟩ := inv_par h
  have h := hh
  obtain ⟨h1, h2⟩ := ba (show (decide (k.N[i]? = some x) && (vis sc x && nmOk x)) = true from h)
  obtain ⟨h3, h4⟩ := ba h2
  exact peImp (pe_var (i := i) (by rw [g.N]; exact of_decide_eq_true h1) (by rw [g.sc]; exact vis_ok h3) (nm_ok h4).1 (nm_ok h4).2.1) fun σ H Q q => lp_par q
theorem s_peE_int (i : Int) : SndE k (.int i) := by
  intro X0 X c sc fb g h
  obtain ⟨j, _, _, rfl, hh⟩ := inv_int h
  have h := hh
  have e : i = j := of_decide_eq_true h
  subst e
  exact peImp pe_int fun σ H Q q => let ⟨own, τ, S, p⟩ := q; p _ H (Same.refl H) rfl
theorem s_peE_str (i : Str) : SndE k (.str i) := by
  intro X0 X c sc fb g h
  obtain ⟨j, _, _, rfl, hh⟩ := inv_str h
  have h := hh
  have e : i = j := of_decide_eq_true h
  subst e
  exact peImp pe_str fun σ H Q q => let ⟨own, τ, S, p⟩ := q; p _ H (Same.refl H) rfl
theorem s_peE_bl (i : Bool) : SndE k (.bl i) := by
  intro X0 X c sc fb g h
  obtain ⟨j, _, _, rfl, hh⟩ := inv_bl h
  have h := hh
  have e : i = j := by simpa using (show (i == j) = true from h)
  subst e
  exact peImp pe_bl fun σ H Q q => let ⟨own, τ, S, p⟩ := q; p _ H (Same.refl H) rfl
theorem s_peE_non  : SndE k (.non) := by
  intro X0 X c sc fb g h
  obtain ⟨_, _, rfl, hh⟩ := inv_non h
  have h := hh
  exact peImp pe_non fun σ H Q q => let ⟨own, τ, S, p⟩ := q; p _ H (Same.refl H) rfl
theorem s_peE_glob (x : Str) : SndE k (.glob x) := by
  intro X0 X c sc fb g h
  obtain ⟨y, _, rfl, hh⟩ := inv_glob h
  have h := hh
  obtain ⟨h1, h2⟩ := ba (show (decide (x = y) && (gl sc x && (nmOk x && k.gs.contains x))) = true from h)
  obtain ⟨h3, h4⟩ := ba h2
  obtain ⟨h5, h6⟩ := ba h4
  have e : x = y := of_decide_eq_true h1
  subst e
  obtain ⟨u, v, d, m1, m2, m3, m4⟩ := g.gs x (by simpa using h6)
  refine peImp (pe_glob (g.gl h3) m1 m2 (nm_ok h5).1) fun σ H Q q => ?_
  obtain ⟨own, τ, S, p⟩ := q
  have p' : Post (match c.G x with
    | some d => Res.ok d
    | none => .bad) _ _ := p
  rw [m3] at p'
  exact p' _ H (Same.refl H) ((m4 (Fb c own []) H).t.weak (ft_n rfl fun _ z => z) fun a z => z)
theorem s_peE_op (o : Op) (a b : E) (H_peE_a : SndE k a) (H_peE_b : SndE k b) : SndE k (.op o a b) := by
  intro X0 X c sc fb g h
  obtain ⟨x, p, y, _, rfl, hh⟩ := inv_op h
  have h := hh
  obtain ⟨h1, h2⟩ := ba (show (opk o p && (chkE k sc fb a x && chkE k sc fb b y)) = true from h)
  obtain ⟨h3, h4⟩ := ba h2
  have e := opk_ok h1
  subst e
  have r : OpR X (binaryOp (pyOp o)) (rOpD c.K o) := by rw [g.K]; exact op_ok o
  exact peImp (pe_op r (H_peE_a x g h3) (H_peE_b y g h4)) fun σ H Q q => lp_op q
theorem s_peE_neg (a : E) (H_peE_a : SndE k a) : SndE k (.neg a) := by
  intro X0 X c sc fb g h
  obtain ⟨x, _, rfl, hh⟩ := inv_neg h
  have h := hh
  exact peImp (pe_un un_neg (H_peE_a x g h)) fun σ H Q q => lp_neg q
theorem s_peE_not (a : E) (H_peE_a : SndE k a) : SndE k (.not a) := by
  intro X0 X c sc fb g h
  obtain ⟨x, _, rfl, hh⟩ := inv_not h
  have h := hh
  exact peImp (pe_not (H_peE_a x g h)) fun σ H Q q => lp_not q
theorem s_peE_and (a b : E) (H_peE_a : SndE k a) (H_peE_b : SndE k b) : SndE k (.and a b) := by
  intro X0 X c sc fb g h
  rcases inv_and h with ⟨x, y, _, rfl, hh⟩ | ⟨x, y, z, r, p, rfl, hh⟩
  · obtain ⟨h1, h2⟩ := ba (show (chkE k sc fb a x && chkE k sc fb b y) = true from hh)
    exact peImp (pe_and (H_peE_a x g h1) (pe_one (H_peE_b y g h2))) fun σ H Q q => lp_and q
  · obtain ⟨h1, h2⟩ := ba (show (chkE k sc fb a x && chkE k sc fb b (.BoolOp .And (y :: z :: r) p)) = true from hh)
    exact peImp (pe_and (H_peE_a x g h1) (H_peE_b (.BoolOp .And (y :: z :: r) p) g h2)) fun σ H Q q => lp_and q
theorem s_peE_or (a b : E) (H_peE_a : SndE k a) (H_peE_b : SndE k b) : SndE k (.or a b) := by
  intro X0 X c sc fb g h
  rcases inv_or h with ⟨x, y, _, rfl, hh⟩ | ⟨x, y, z, r, p, rfl, hh⟩
  · obtain ⟨h1, h2⟩ := ba (show (chkE k sc fb a x && chkE k sc fb b y) = true from hh)
    exact peImp (pe_or (H_peE_a x g h1) (pe_one (H_peE_b y g h2))) fun σ H Q q => lp_or q
  · obtain ⟨h1, h2⟩ := ba (show (chkE k sc fb a x && chkE k sc fb b (.BoolOp .Or (y :: z :: r) p)) = true from hh)
    exact peImp (pe_or (H_peE_a x g h1) (H_peE_b (.BoolOp .Or (y :: z :: r) p) g h2)) fun σ H Q q => lp_or q
theorem s_peE_cmp (o : Cm) (a b : E) (H_peE_a : SndE k a) (H_peE_b : SndE k b) : SndE k (.cmp o a b) := by
  intro X0 X c sc fb g h
  obtain ⟨x, p, y, _, rfl, hh⟩ := inv_cmp h
  have h := hh
  obtain ⟨h1, h2⟩ := ba (show (cmk o p && (!behindInMarks p y && (chkE k sc fb a x && chkE k sc fb b y))) = true from h)
  obtain ⟨h3, h4⟩ := ba h2
  obtain ⟨h5, h6⟩ := ba h4
  have e := cmk_ok h1
  subst e
  have r : OpR X (compareOp (pyCm o)) (rCmD c.K o) := by rw [g.K]; exact cm_ok g.un o
  exact peImp (pe_cmpR r (H_peE_a x g h5) (H_peE_b y g h6) (bn h3)) fun σ H Q q => lp_cmp q
theorem s_peE_chain (o o' : Cm) (a b d : E) (H_peE_a : SndE k a) (H_peE_b : SndE k b) (H_peE_d : SndE k d) : SndE k (.chain o o' a b d) := by
  intro X0 X c sc fb g h
  obtain ⟨x, p, p', y, z, _, rfl, hh⟩ := inv_chain h
  have h := hh
  obtain ⟨h1, h2⟩ := ba (show (cmk o p && (cmk o' p' && (!lastMarks [p, p'] [y, z] && (chkE k sc fb a x && (chkE k sc fb b y && chkE k sc fb d z))))) = true from h)
  obtain ⟨h3, h4⟩ := ba h2
  obtain ⟨h5, h6⟩ := ba h4
  obtain ⟨h7, h8⟩ := ba h6
  obtain ⟨h9, h10⟩ := ba h8
  have e := cmk_ok h1
  have e' := cmk_ok h3
  subst e
  subst e'
  have r : OpR X (compareOp (pyCm o)) (rCmD c.K o) := by rw [g.K]; exact cm_ok g.un o
  have r' : OpR X (compareOp (pyCm o')) (rCmD c.K o') := by rw [g.K]; exact cm_ok g.un o'
  exact peImp (pe_chain r r' (H_peE_a x g h7) (H_peE_b y g h9) (H_peE_d z g h10) (bn h5)) fun σ H Q q => lp_chain q
theorem s_peE_ife (t a b : E) (H_ptE_t : SndT k t) (H_peE_a : SndE k a) (H_peE_b : SndE k b) : SndE k (.ife t a b) := by
  intro X0 X c sc fb g h
  obtain ⟨w, x, y, _, rfl, hh⟩ := inv_ife h
  have h := hh
  obtain ⟨h1, h2⟩ := ba (show (tOk t && (chkE k sc fb t w && (chkE k sc fb a x && chkE k sc fb b y))) = true from h)
  obtain ⟨h3, h4⟩ := ba h2
  obtain ⟨h5, h6⟩ := ba h4
  exact peImp (pe_ifExp (H_ptE_t w g h1 h3) (H_peE_a x g h5) (H_peE_b y g h6)) fun σ H Q q => lp_ife q
theorem s_peE_ix (a b : E) (H_peE_a : SndE k a) (H_peE_b : SndE k b) : SndE k (.ix a b) := by
  intro X0 X c sc fb g h
  obtain ⟨x, y, _, rfl, hh⟩ := inv_ix h
  have h := hh
  obtain ⟨h1, h2⟩ := ba (show (notSlice y && (chkE k sc fb a x && chkE k sc fb b y)) = true from h)
  obtain ⟨h3, h4⟩ := ba h2
  have r : IxR X (rIxD c.K) := by rw [g.K]; exact ix_ok
  exact peImp (pe_ix r (H_peE_a x g h3) (H_peE_b y g h4) (slice_ok h1)) fun σ H Q q => lp_ix q
theorem s_peE_sl (a : E) (lo hi : Op1) (H_peE_a : SndE k a) (H_poO_lo : SndO k lo) (H_poO_hi : SndO k hi) : SndE k (.sl a lo hi) := by
  intro X0 X c sc fb g h
  obtain ⟨x, l, u, _, _, rfl, hh⟩ := inv_sl h
  have h := hh
  obtain ⟨h1, h2⟩ := ba (show (chkE k sc fb a x && (chkO k sc fb lo l && chkO k sc fb hi u)) = true from h)
  obtain ⟨h3, h4⟩ := ba h2
  have r : SlR X (rSlD c.K) := by rw [g.K]; exact sl_ok
  exact peImp (pe_slice r (H_peE_a x g h1) (H_poO_lo l g h3) (H_poO_hi u g h4)) fun σ H Q q => lp_sl q
theorem s_peE_tup (es : Es) (H_paEs_es : SndA k es) : SndE k (.tup es) := by
  intro X0 X c sc fb g h
  obtain ⟨xs, _, _, rfl, hh⟩ := inv_tup h
  have h := hh
  obtain ⟨h1, h2⟩ := ba (show (decide (esLen es ≤ 1000) && chkEs k sc fb es xs) = true from h)
  exact peImp (pe_tup (H_paEs_es xs g h2)) fun σ H Q q => lp_tup (of_decide_eq_true h1) q
theorem s_peE_lst (es : Es) (H_paEs_es : SndA k es) : SndE k (.lst es) := by
  intro X0 X c sc fb g h
  obtain ⟨xs, _, rfl, hh⟩ := inv_lst h
  have h := hh
  obtain ⟨h1, h2⟩ := ba (show (decide (esLen es ≤ 1000) && chkEs k sc fb es xs) = true from h)
  exact peImp (pe_lst (H_paEs_es xs g h2)) fun σ H Q q => lp_lst (of_decide_eq_true h1) q
theorem s_peE_comp (elt : E) (tg : Tg) (src : Src) (own : List Nat) (H_piS_src : SndS k src) (H_peE_elt : SndE k elt) : SndE k (.comp elt tg src own) := by
  intro X0 X c sc fb g h
  obtain ⟨x, t, it, scope, q0, rfl, hh⟩ := inv_comp h
  have h := hh
  obtain ⟨h1, h2⟩ := ba (show (blkC k.N sc scope (ownN k.N own) && (chkS k sc fb src t it && ((liS src).isEmpty && ((tgIx tg).all (own.contains ·) && (chkTg k (relS scope sc) (isCell scope) tg t && chkE k (relS scope sc) (isCell scope) elt x))))) = true from h)
  obtain ⟨h3, h4⟩ := ba h2
  obtain ⟨h5, h6⟩ := ba h4
  obtain ⟨h7, h8⟩ := ba h6
  obtain ⟨h9, h10⟩ := ba h8
  have r := pe_lc (pos := q0) (own := ownN k.N own) (g := tgG X.K tg) g.calm g.nd (H_piS_src t it g h3) (by rw [g.N, g.sc]; exact blkOk_by h1) (fun s H C cl fp => pgTg (g.blk s H scope cl C fp) tg t h9) (fun s H C cl fp => pts_nil) (fun s H C cl fp => H_peE_elt x (g.blk s H scope cl C fp) h10) (fun v => set_ok (chkS_set h3) X.env v)
  rw [own_snd] at r
  exact peImp r fun σ H Q q => lp_comp g.K (by simpa using h5) (fun i hi => by have := List.all_eq_true.mp h7 i hi; simpa using this) q
theorem s_peE_compIf (elt : E) (tg : Tg) (src : Src) (cd : E) (own : List Nat) (H_piS_src : SndS k src) (H_ptE_cd : SndT k cd) (H_peE_elt : SndE k elt) : SndE k (.compIf elt tg src cd own) := by
  intro X0 X c sc fb g h
  obtain ⟨x, t, it, i, scope, q0, rfl, hh⟩ := inv_compIf h
  have h := hh
  obtain ⟨h1, h2⟩ := ba (show (blkC k.N sc scope (ownN k.N own) && (chkS k sc fb src t it && ((liS src).isEmpty && ((tgIx tg).all (own.contains ·) && (tOk cd && (chkTg k (relS scope sc) (isCell scope) tg t && (chkE k (relS scope sc) (isCell scope) cd i && chkE k (relS scope sc) (isCell scope) elt x))))))) = true from h)
  obtain ⟨h3, h4⟩ := ba h2
  obtain ⟨h5, h6⟩ := ba h4
  obtain ⟨h7, h8⟩ := ba h6
  obtain ⟨h11, h8⟩ := ba h8
  obtain ⟨h9, h10⟩ := ba h8
  obtain ⟨h12, h10⟩ := ba h10
  have r := pe_lc (pos := q0) (own := ownN k.N own) (g := tgG X.K tg) g.calm g.nd (H_piS_src t it g h3) (by rw [g.N, g.sc]; exact blkOk_by h1) (fun s H C cl fp => pgTg (g.blk s H scope cl C fp) tg t h9) (fun s H C cl fp => pts_one (H_ptE_cd i (g.blk s H scope cl C fp) h11 h12)) (fun s H C cl fp => H_peE_elt x (g.blk s H scope cl C fp) h10) (fun v => set_ok (chkS_set h3) X.env v)
  rw [own_snd] at r
  exact peImp r fun σ H Q q => lp_compIf g.K (by simpa using h5) (fun i hi => by have := List.all_eq_true.mp h7 i hi; simpa using this) q
theorem pe_callS0 {X : Cx} {CX : CXT} {n : Nat} {f : Addr} {fd : FuncData} {ps : List Str} {sp : Sp} {E : L2.St → XK} {x : Str} {p pos : Pos} (F : FnOk X.prog X.w X.K X.mg X.base CX n f fd ps sp) (hr : Room n X.A) (hg : Gl X x) (hm : X.mg x = some (.ref f)) (hk : PySem.W.keepIn X.K (.ref f) = true) (hb : Binds X.K fd ps []) (hx : ∀ σ, PassesAt CX X σ (E σ))
    (hdb : (x == ("__debug__" : Str)) = false) : PE X (.Call (.Name x p) [] [] pos) (tCallS sp E tNil) := by
  refine ⟨fun pins s σ H Q I h => ?_⟩
  refine wpAny_Call_Name_kw (ld_glob I hg hm ?_ hdb)
  exact PySem.W.callWith_K0 I.kIn hk (run_fnSD (us := []) (vs := []) (dvs := []) F hr hb .nil (hx σ) I .nil h)
theorem s_peE_call (f : Str) (es : Es) (H_paEs_es : SndA k es) : SndE k (.call f es) := by
  intro X0 X c sc fb g h
  rcases inv_call h with ⟨y, _, x, xs, _, rfl, hh⟩ | ⟨y, p, q, rfl, rfl, hh⟩
  · have h := hh
    obtain ⟨h1, h2⟩ := ba (show (decide (f = y) && (k.fns.contains f && (gl sc y && (nmOk y && chkEs k sc fb es (x :: xs))))) = true from h)
    obtain ⟨h3, h4⟩ := ba h2
    obtain ⟨h5, h6⟩ := ba h4
    obtain ⟨h7, h8⟩ := ba h6
    have e : f = y := of_decide_eq_true h1
    subst e
    obtain ⟨n, fa, fd, ps, F, hr, m1, m2, m3⟩ := g.fns f (by simpa using h3)
    obtain ⟨st1, r0, st2⟩ := chkEs_head h8
    exact peImp (pe_callS (x := f) F hr (g.gl h5) m1 m2 m3 (fun σ => passAt g.takes σ) (H_paEs_es (x :: xs) g h8) (nm_ok h7).1 (star_ok st1 xs X.env) (stars_plain st2)) fun σ H Q q => lp_call q
  · obtain ⟨h1, h2⟩ := ba hh
    obtain ⟨h3, h4⟩ := ba h2
    obtain ⟨h5, h7⟩ := ba h4
    have e : f = y := of_decide_eq_true h1
    subst e
    obtain ⟨n, fa, fd, ps, F, hr, m1, m2, m3⟩ := g.fns f (by simpa using h3)
    exact peImp (pe_callS0 (x := f) F hr (g.gl h5) m1 m2 m3 (fun σ => passAt g.takes σ) (nm_ok h7).1) fun σ H Q q => by
      obtain ⟨own, τ, S, p⟩ := lp_call q
      exact (show ∀ vs H', Same H H' → RepL _ _ H' [] vs → RepA _ _ H' [] vs → _ from p) [] H (Same.refl H) rfl rfl
theorem s_peE_callF (f : Str) (es : Es) (H_paEs_es : SndA k es) : SndE k (.callF f es) := by
  intro X0 X c sc fb g h
  obtain ⟨y, _, x, xs, _, rfl, hh⟩ := inv_callF h
  obtain ⟨h0, hh⟩ := ba hh
  obtain ⟨h1, h2⟩ := ba hh
  obtain ⟨h3, h4⟩ := ba h2
  obtain ⟨h5, h6⟩ := ba h4
  obtain ⟨h7, h8⟩ := ba h6
  have e : f = y := of_decide_eq_true h1
  subst e
  obtain ⟨n, fa, fd, ps, F, hr, m1, m2, m3⟩ := g.fns f (by simpa using h3)
  obtain ⟨st1, r0, st2⟩ := chkEs_head h8
  exact peImp (pe_callS (x := f) F hr (g.gl h5) m1 m2 m3 (fun σ => passAt g.takes σ) (H_paEs_es (x :: xs) g h8) (nm_ok h7).1 (star_ok st1 xs X.env) (stars_plain st2)) fun σ H Q q => lp_callF (g.frs f h0) q
theorem s_peE_bi (b : Bi) (es : Es) (H_paEs_es : SndA k es) : SndE k (.bi b es) := by
  intro X0 X c sc fb g h
  obtain ⟨y, _, x, xs, _, rfl, hh⟩ := inv_bi h
  have h := hh
  obtain ⟨h1, h2⟩ := ba (show (biChk k b y && (gl sc y && (nmOk y && chkEs k sc fb es (x :: xs)))) = true from h)
  obtain ⟨h3, h4⟩ := ba h2
  obtain ⟨h5, h6⟩ := ba h4
  obtain ⟨st1, r0, st2⟩ := chkEs_head h6
  have r : CallR X (biV b) (rBiD c.K b) := by rw [g.K]; exact bi_ok g.calm b
  have pa := H_paEs_es (x :: xs) g h6
  have nm := nm_ok h5
  have s1 := star_ok st1 xs X.env
  have s2 : ∀ pos, (backTo pos (starEach xs X.env)).any (·.1) = false := fun pos => stars_plain st2
  cases b with
  | gcd => exact peImp (pe_callBfun r (g.gl h3) (g.gm y (by simpa using (show k.gm.contains y = true from h1))) pa nm.1 s1 (s2 _)) fun σ H Q q => lp_bi q
  | lcm => exact peImp (pe_callBfun r (g.gl h3) (g.lm y (by simpa using (show k.lm.contains y = true from h1))) pa nm.1 s1 (s2 _)) fun σ H Q q => lp_bi q
  | len =>
    obtain ⟨e, h1⟩ := ba h1
    exact peImp (pe_callB r (g.gl h3) (g.frn h1) (by rw [of_decide_eq_true e]; exact boot_bi _ (by decide) (by decide)) pa nm.2.2 nm.1 s1 (s2 _)) fun σ H Q q => lp_bi q
  | abs =>
    obtain ⟨e, h1⟩ := ba h1
    exact peImp (pe_callB r (g.gl h3) (g.frn h1) (by rw [of_decide_eq_true e]; exact boot_bi _ (by decide) (by decide)) pa nm.2.2 nm.1 s1 (s2 _)) fun σ H Q q => lp_bi q
  | min =>
    obtain ⟨e, h1⟩ := ba h1
    exact peImp (pe_callB r (g.gl h3) (g.frn h1) (by rw [of_decide_eq_true e]; exact boot_bi _ (by decide) (by decide)) pa nm.2.2 nm.1 s1 (s2 _)) fun σ H Q q => lp_bi q
  | max =>
    obtain ⟨e, h1⟩ := ba h1
    exact peImp (pe_callB r (g.gl h3) (g.frn h1) (by rw [of_decide_eq_true e]; exact boot_bi _ (by decide) (by decide)) pa nm.2.2 nm.1 s1 (s2 _)) fun σ H Q q => lp_bi q
  | sum =>
    obtain ⟨e, h1⟩ := ba h1
    exact peImp (pe_callB r (g.gl h3) (g.frn h1) (by rw [of_decide_eq_true e]; exact boot_bi _ (by decide) (by decide)) pa nm.2.2 nm.1 s1 (s2 _)) fun σ H Q q => lp_bi q
  | all =>
    obtain ⟨e, h1⟩ := ba h1
    exact peImp (pe_callB r (g.gl h3) (g.frn h1) (by rw [of_decide_eq_true e]; exact boot_bi _ (by decide) (by decide)) pa nm.2.2 nm.1 s1 (s2 _)) fun σ H Q q => lp_bi q
  | any =>
    obtain ⟨e, h1⟩ := ba h1
    exact peImp (pe_callB r (g.gl h3) (g.frn h1) (by rw [of_decide_eq_true e]; exact boot_bi _ (by decide) (by decide)) pa nm.2.2 nm.1 s1 (s2 _)) fun σ H Q q => lp_bi q
  | sorted =>
    obtain ⟨e, h1⟩ := ba h1
    exact peImp (pe_callB r (g.gl h3) (g.frn h1) (by rw [of_decide_eq_true e]; exact boot_bi _ (by decide) (by decide)) pa nm.2.2 nm.1 s1 (s2 _)) fun σ H Q q => lp_bi q
  | int =>
    obtain ⟨e, h1⟩ := ba h1
    exact peImp (pe_callTy r (g.gl h3) (g.frn h1) (by rw [of_decide_eq_true e]; exact boot_bi _ (by decide) (by decide)) pa nm.2.2 nm.1 s1 (s2 _)) fun σ H Q q => lp_bi q
  | tuple =>
    obtain ⟨e, h1⟩ := ba h1
    exact peImp (pe_callTy r (g.gl h3) (g.frn h1) (by rw [of_decide_eq_true e]; exact boot_bi _ (by decide) (by decide)) pa nm.2.2 nm.1 s1 (s2 _)) fun σ H Q q => lp_bi q
  | list =>
    obtain ⟨e, h1⟩ := ba h1
    exact peImp (pe_callTy r (g.gl h3) (g.frn h1) (by rw [of_decide_eq_true e]; exact boot_bi _ (by decide) (by decide)) pa nm.2.2 nm.1 s1 (s2 _)) fun σ H Q q => lp_bi q
  | str =>
    obtain ⟨e, h1⟩ := ba h1
    exact peImp (pe_callTy r (g.gl h3) (g.frn h1) (by rw [of_decide_eq_true e]; exact boot_bi _ (by decide) (by decide)) pa nm.2.2 nm.1 s1 (s2 _)) fun σ H Q q => lp_bi q
theorem s_peE_isi (a : E) (t : String) (H_peE_a : SndE k a) : SndE k (.isi a t) := by
  intro X0 X c sc fb g h
  obtain ⟨y, _, x, z, _, _, rfl, hh⟩ := inv_isi h
  have h := hh
  obtain ⟨h1, h⟩ := ba (show (decide (y = ("isinstance" : Str)) && (k.fr.contains y && (gl sc y && (decide (z = Str.ofString t) && (k.fr.contains z && (gl sc z && (nmOk z && (["int", "bool", "str", "tuple", "list"].contains t && (notStar x && chkE k sc fb a x))))))))) = true from h)
  obtain ⟨h2, h⟩ := ba h
  obtain ⟨h3, h⟩ := ba h
  obtain ⟨h4, h⟩ := ba h
  obtain ⟨h5, h⟩ := ba h
  obtain ⟨h6, h⟩ := ba h
  obtain ⟨h7, h⟩ := ba h
  obtain ⟨h8, h⟩ := ba h
  obtain ⟨h9, h10⟩ := ba h
  have e1 : y = ("isinstance" : Str) := of_decide_eq_true h1
  have e2 : z = Str.ofString t := of_decide_eq_true h4
  have r : CallR X (.builtin "isinstance") (rIsD c.K t) := by rw [g.K]; exact isi_ok t
  have pt : ∀ pos, PE X (.Name z pos) (tC (.ty t)) := fun pos => pe_bltn (g.gl h6) (g.frn h5) (u := .type t) (by rw [e2]; exact boot_ty h8) rfl (nm_ok h7).2.2 (nm_ok h7).1
  exact peImp (pe_callB (x := y) r (g.gl h3) (g.frn h2) (by rw [e1]; exact boot_isi) (pa_cons (H_peE_a x g h10) (pa_cons (pt _) pa_nil rfl) (star_ok h9 _ _)) (by rw [e1]; decide) (by rw [e1]; decide) (star_ok h9 _ _) rfl) fun σ H Q q => lp_isi q
theorem s_ptE_not (a : E) (H_ptE_a : SndT k a) : SndT k (.not a) := by
  intro X0 X c sc fb g t h
  obtain ⟨x, _, rfl, hh⟩ := inv_not h
  have h := hh
  exact ptImp (pt_not (H_ptE_a x g t h)) fun σ H Q q => lt_not q
theorem s_ptE_and (a b : E) (H_ptE_a : SndT k a) (H_ptE_b : SndT k b) : SndT k (.and a b) := by
  intro X0 X c sc fb g t h
  rcases inv_and h with ⟨x, y, _, rfl, hh⟩ | ⟨x, y, z, r, p, rfl, hh⟩
  · obtain ⟨h1, h2⟩ := ba (show (chkE k sc fb a x && chkE k sc fb b y) = true from hh)
    obtain ⟨t1, t2⟩ := ba (show (tOk a && tOk b) = true from t)
    exact ptImp (pw_and (H_ptE_a x g t1 h1) (pw_and1 (H_ptE_b y g t2 h2))).pt fun σ H Q q => lt_and q
  · obtain ⟨h1, h2⟩ := ba (show (chkE k sc fb a x && chkE k sc fb b (.BoolOp .And (y :: z :: r) p)) = true from hh)
    obtain ⟨t1, t2⟩ := ba (show (tOk a && tOk b) = true from t)
    exact ptImp (pw_and (H_ptE_a x g t1 h1) (pwAnd (H_ptE_b (.BoolOp .And (y :: z :: r) p) g t2 h2))).pt fun σ H Q q => lt_and q
theorem s_ptE_or (a b : E) (H_ptE_a : SndT k a) (H_ptE_b : SndT k b) : SndT k (.or a b) := by
  intro X0 X c sc fb g t h
  rcases inv_or h with ⟨x, y, _, rfl, hh⟩ | ⟨x, y, z, r, p, rfl, hh⟩
  · obtain ⟨h1, h2⟩ := ba (show (chkE k sc fb a x && chkE k sc fb b y) = true from hh)
    obtain ⟨t1, t2⟩ := ba (show (tOk a && tOk b) = true from t)
    exact ptImp (pw_or (H_ptE_a x g t1 h1) (pw_or1 (H_ptE_b y g t2 h2))).pt fun σ H Q q => lt_or q
  · obtain ⟨h1, h2⟩ := ba (show (chkE k sc fb a x && chkE k sc fb b (.BoolOp .Or (y :: z :: r) p)) = true from hh)
    obtain ⟨t1, t2⟩ := ba (show (tOk a && tOk b) = true from t)
    exact ptImp (pw_or (H_ptE_a x g t1 h1) (pwAnd (H_ptE_b (.BoolOp .Or (y :: z :: r) p) g t2 h2))).pt fun σ H Q q => lt_or q
theorem s_ptE_cmp (o : Cm) (a b : E) (H_peE_a : SndE k a) (H_peE_b : SndE k b) : SndT k (.cmp o a b) := by
  intro X0 X c sc fb g t h
  obtain ⟨x, p, y, _, rfl, hh⟩ := inv_cmp h
  have h := hh
  obtain ⟨h1, h2⟩ := ba (show (cmk o p && (!behindInMarks p y && (chkE k sc fb a x && chkE k sc fb b y))) = true from h)
  obtain ⟨h3, h4⟩ := ba h2
  obtain ⟨h5, h6⟩ := ba h4
  have e := cmk_ok h1
  subst e
  have r : OpR X (compareOp (pyCm o)) (rCmD c.K o) := by rw [g.K]; exact cm_ok g.un o
  exact ptImp (pt_cmpR r (H_peE_a x g h5) (H_peE_b y g h6) (bn h3)) fun σ H Q q => lp_cmp (rdT_of q)
theorem s_ptE_chain (o o' : Cm) (a b d : E) (H_peE_a : SndE k a) (H_peE_b : SndE k b) (H_peE_d : SndE k d) : SndT k (.chain o o' a b d) := by
  intro X0 X c sc fb g t h
  obtain ⟨x, p, p', y, z, _, rfl, hh⟩ := inv_chain h
  have h := hh
  obtain ⟨h1, h2⟩ := ba (show (cmk o p && (cmk o' p' && (!lastMarks [p, p'] [y, z] && (chkE k sc fb a x && (chkE k sc fb b y && chkE k sc fb d z))))) = true from h)
  obtain ⟨h3, h4⟩ := ba h2
  obtain ⟨h5, h6⟩ := ba h4
  obtain ⟨h7, h8⟩ := ba h6
  obtain ⟨h9, h10⟩ := ba h8
  have e := cmk_ok h1
  have e' := cmk_ok h3
  subst e
  subst e'
  have r : OpR X (compareOp (pyCm o)) (rCmD c.K o) := by rw [g.K]; exact cm_ok g.un o
  have r' : OpR X (compareOp (pyCm o')) (rCmD c.K o') := by rw [g.K]; exact cm_ok g.un o'
  exact ptImp (pt_chain r r' (H_peE_a x g h7) (H_peE_b y g h9) (H_peE_d z g h10) (bn h5)) fun σ H Q q => lp_chain (rdT_of q)
theorem s_ptE_var (i : Nat) (H_self : SndE k (.var i)) : SndT k (.var i) := by
  intro x X c sc fb g t h
  exact ptImp (pt_val (H_self x g h) (plainT_ok (plain_of rfl h) X.env)) fun σ H Q q => rdT_of q
theorem s_ptE_bl (i : Bool) (H_self : SndE k (.bl i)) : SndT k (.bl i) := by
  intro x X c sc fb g t h
  exact ptImp (pt_val (H_self x g h) (plainT_ok (plain_of rfl h) X.env)) fun σ H Q q => rdT_of q
theorem s_ptE_ix (a b : E) (H_self : SndE k (.ix a b)) : SndT k (.ix a b) := by
  intro x X c sc fb g t h
  exact ptImp (pt_val (H_self x g h) (plainT_ok (plain_of rfl h) X.env)) fun σ H Q q => rdT_of q
theorem s_ptE_call (f : Str) (es : Es) (H_self : SndE k (.call f es)) : SndT k (.call f es) := by
  intro x X c sc fb g t h
  exact ptImp (pt_val (H_self x g h) (plainT_ok (plain_of rfl h) X.env)) fun σ H Q q => rdT_of q
theorem s_ptE_bi (b : Bi) (es : Es) (H_self : SndE k (.bi b es)) : SndT k (.bi b es) := by
  intro x X c sc fb g t h
  exact ptImp (pt_val (H_self x g h) (plainT_ok (plain_of rfl h) X.env)) fun σ H Q q => rdT_of q
theorem s_ptE_isi (a : E) (t' : String) (H_self : SndE k (.isi a t')) : SndT k (.isi a t') := by
  intro x X c sc fb g t h
  exact ptImp (pt_val (H_self x g h) (plainT_ok (plain_of rfl h) X.env)) fun σ H Q q => rdT_of q
theorem s_paEs_nil  : SndA k (.nil) := by
  intro X0 X c sc fb g h
  cases inv_nil h
  exact paImp pa_nil fun σ H Q q => lp_nil q
theorem s_paEs_cons (e : E) (r : Es) (H_peE_e : SndE k e) (H_paEs_r : SndA k r) : SndA k (.cons e r) := by
  intro X0 X c sc fb g h
  obtain ⟨x, xs, rfl, hh⟩ := inv_cons h
  have h := hh
  obtain ⟨h1, h2⟩ := ba (show (notStar x && (chkE k sc fb e x && chkEs k sc fb r xs)) = true from h)
  obtain ⟨h3, h4⟩ := ba h2
  exact paImp (pa_cons (H_peE_e x g h3) (H_paEs_r xs g h4) (star_ok h1 xs X.env)) fun σ H Q q => lp_cons q
theorem s_poO_no  : SndO k (.no) := by
  intro X0 X c sc fb g h
  cases inv_no h
  exact poImp po_none fun σ H Q q => (lp_part q).1 rfl
theorem s_poO_so (e : E) (H_peE_e : SndE k e) : SndO k (.so e) := by
  intro X0 X c sc fb g h
  obtain ⟨x, rfl, hh⟩ := inv_so h
  have h := hh
  exact poImp (po_some (H_peE_e x g h)) fun σ H Q q => (lp_part q).2 e rfl
theorem s_piS_seq (e : E) (H_peE_e : SndE k e) : SndS k (.seq e) := by
  intro t it X c sc fb g h
  obtain ⟨h1, h2⟩ := ba (show (notSet it && chkE k sc fb e it) = true from h)
  have r := H_peE_e it g h2
  have z := piOr (piOr (pi_list (tg := t) r) (pi_tup r)) (pi_str r)
  rw [← g.K] at z
  exact piImp z fun σ H R q => lp_seq q
theorem s_piS_rng1 (a : E) (H_peE_a : SndE k a) : SndS k (.rng1 a) := by
  intro t X0 X c sc fb g h
  obtain ⟨y, _, x, _, rfl, hh⟩ := inv_rng1 h
  have h := hh
  obtain ⟨h1, h⟩ := ba (show (decide (y = ("range" : Str)) && (k.fr.contains y && (gl sc y && (notStar x && chkE k sc fb a x)))) = true from h)
  obtain ⟨h2, h⟩ := ba h
  obtain ⟨h3, h⟩ := ba h
  obtain ⟨h4, h5⟩ := ba h
  have e1 : y = ("range" : Str) := of_decide_eq_true h1
  subst e1
  have s1 := star_ok h4 [] X.env
  exact piImp (pi_range1 (g.gl h3) (g.frn h2) (pa_cons (H_peE_a x g h5) pa_nil s1) s1) fun σ H R q => lp_rng1 q
theorem s_piS_rng2 (a b : E) (H_peE_a : SndE k a) (H_peE_b : SndE k b) : SndS k (.rng2 a b) := by
  intro t X0 X c sc fb g h
  obtain ⟨y, _, x, w, _, rfl, hh⟩ := inv_rng2 h
  have h := hh
  obtain ⟨h1, h⟩ := ba (show (decide (y = ("range" : Str)) && (k.fr.contains y && (gl sc y && (notStar x && (notStar w && (chkE k sc fb a x && chkE k sc fb b w)))))) = true from h)
  obtain ⟨h2, h⟩ := ba h
  obtain ⟨h3, h⟩ := ba h
  obtain ⟨h4, h⟩ := ba h
  obtain ⟨h5, h⟩ := ba h
  obtain ⟨h6, h7⟩ := ba h
  have e1 : y = ("range" : Str) := of_decide_eq_true h1
  subst e1
  have s1 := star_ok h5 [] X.env
  have s2 := star_ok h4 [w] X.env
  exact piImp (pi_range2 (g.gl h3) (g.frn h2) (pa_cons (H_peE_a x g h6) (pa_cons (H_peE_b w g h7) pa_nil s1) s2) (by rw [s2, s1]; rfl) s1) fun σ H R q => lp_rng2 q
theorem s_piS_enum (e : E) (H_peE_e : SndE k e) : SndS k (.enum e) := by
  intro t X0 X c sc fb g h
  obtain ⟨y, _, x, _, rfl, hh⟩ := inv_enum h
  have h := hh
  obtain ⟨h0, h⟩ := ba h
  obtain ⟨elts, kk, tpos, rfl⟩ := inv_tgE h0
  obtain ⟨h1, h⟩ := ba (show (decide (y = ("enumerate" : Str)) && (k.fr.contains y && (gl sc y && (notStar x && chkE k sc fb e x)))) = true from h)
  obtain ⟨h2, h⟩ := ba h
  obtain ⟨h3, h⟩ := ba h
  obtain ⟨h4, h5⟩ := ba h
  have e1 : y = ("enumerate" : Str) := of_decide_eq_true h1
  subst e1
  have s1 := star_ok h4 [] X.env
  refine piImp (t := fun σ H R => iEnum c.K (tCons (rdE c e) tNil) σ H R ∨ iEnumT c.K (tCons (rdE c e) tNil) σ H R) ?_ fun σ H R q => lp_enum q
  rw [g.K]
  exact piOr (pi_enum (g.gl h3) (g.frn h2) (pa_cons (H_peE_e x g h5) pa_nil s1) s1) (pi_enumT (g.gl h3) (g.frn h2) (pa_cons (H_peE_e x g h5) pa_nil s1) s1)
theorem s_piS_zip (a b : E) (H_peE_a : SndE k a) (H_peE_b : SndE k b) : SndS k (.zip a b) := by
  intro t X0 X c sc fb g h
  obtain ⟨y, _, x, w, _, rfl, hh⟩ := inv_zip h
  have h := hh
  obtain ⟨h0, h⟩ := ba h
  obtain ⟨elts, kk, tpos, rfl⟩ := inv_tgE h0
  obtain ⟨h1, h⟩ := ba (show (decide (y = ("zip" : Str)) && (k.fr.contains y && (gl sc y && (notStar x && (notStar w && (chkE k sc fb a x && chkE k sc fb b w)))))) = true from h)
  obtain ⟨h2, h⟩ := ba h
  obtain ⟨h3, h⟩ := ba h
  obtain ⟨h4, h⟩ := ba h
  obtain ⟨h5, h⟩ := ba h
  obtain ⟨h6, h7⟩ := ba h
  have e1 : y = ("zip" : Str) := of_decide_eq_true h1
  subst e1
  have s1 := star_ok h5 [] X.env
  have s2 := star_ok h4 [w] X.env
  refine piImp (t := RZ.iZipA c.K (tCons (rdE c a) (tCons (rdE c b) tNil))) ?_ fun σ H R q => lp_zip q
  rw [g.K]
  exact RZ.pi_zipA (g.gl h3) (g.frn h2) (pa_cons (H_peE_a x g h6) (pa_cons (H_peE_b w g h7) pa_nil s1) s2) s2 (by rw [s1]; rfl)
end
theorem s_peE_comp2 {k : Ck} (elt : E) (tg : Tg) (src : Src) (tg1 : Tg) (src1 : Src) (own vs1 : List Nat) (H_src : SndS k src) (H_src1 : SndS k src1) (H_elt : SndE k elt) : SndE k (.comp2 elt tg src tg1 src1 own vs1) := by
  intro X0 X c sc fb g h
  obtain ⟨x, t, it, t1, it1, scope, q0, rfl, w⟩ := inv_comp2 h
  obtain ⟨h1, w⟩ := ba w
  obtain ⟨h2, w⟩ := ba w
  obtain ⟨h3, w⟩ := ba w
  obtain ⟨h4, w⟩ := ba w
  obtain ⟨h5, w⟩ := ba w
  obtain ⟨h6, w⟩ := ba w
  obtain ⟨h7, w⟩ := ba w
  obtain ⟨h8, w⟩ := ba w
  obtain ⟨h9, w⟩ := ba w
  obtain ⟨h10, h11⟩ := ba w
  have r := pe_lc2 (pos := q0) (own := ownN k.N own) (vs1 := vs1) (g := tgG X.K tg) (g1 := tgG X.K tg1) g.calm g.nd (H_src t it g h2) (by rw [g.N, g.sc]; exact blkOk_by h1) (by rw [own_snd]; exact fun i hi => (by have := List.all_eq_true.mp h9 i hi; simpa using this)) (fun s H C cl fp => pgTg (g.blk s H scope cl C fp) tg t h5) (fun s H C cl fp => pts_nil) (fun s H C cl fp => H_src1 t1 it1 (g.blk s H scope cl C fp) h6) (fun s H C cl fp => pgTg (g.blk s H scope cl C fp) tg1 t1 h10) (fun s H C cl fp => pts_nil) (fun s H C cl fp => H_elt x (g.blk s H scope cl C fp) h11) (fun v => set_ok (chkS_set h2) X.env v) (fun env v => set_ok (chkS_set h6) env v)
  rw [own_snd] at r
  exact peImp r fun σ H Q q => lp_comp2 g.K (by simpa using h3) (by simpa using h7) (fun i hi => by have := List.all_eq_true.mp h4 i hi; simpa using this) (fun i hi => by have := List.all_eq_true.mp h8 i hi; simpa using this) q
theorem s_peE_dget {k : Ck} (x : Str) (kvs : List (Str × Int)) (a b : E) (Ha : SndE k a) (Hb : SndE k b) : SndE k (.dget x kvs a b) := by
  intro X0 X c sc fb g h
  obtain ⟨y, yp, m, ap, u, v, cp, rfl, w⟩ := inv_dget h
  obtain ⟨h1, w⟩ := ba w
  obtain ⟨h2, w⟩ := ba w
  obtain ⟨h3, w⟩ := ba w
  obtain ⟨h4, w⟩ := ba w
  obtain ⟨h5, w⟩ := ba w
  obtain ⟨h6, w⟩ := ba w
  obtain ⟨h7, w⟩ := ba w
  obtain ⟨h8, w⟩ := ba w
  obtain ⟨h9, h10⟩ := ba w
  have e : x = y := of_decide_eq_true h1
  subst e
  cases of_decide_eq_true h3
  obtain ⟨ad, es, n, m1, D, hz⟩ := g.gd _ (of_decide_eq_true h2)
  have po : PE X (.Name x yp) (tC (.ref ad)) := pe_glob (g.gl h5) m1 rfl (nm_ok h6).1
  have pb : PA X [v] (tCons (rdE c b) tNil) := pa_cons (Hb v g h10) pa_nil (star_ok h8 [] X.env)
  have pa : PA X [u, v] (tCons (rdE c a) (tCons (rdE c b) tNil)) := pa_cons (Ha u g h9) pb (star_ok h7 [v] X.env)
  have r := pe_kget (cpos := cp) (apos := ap) D hz po pa rfl (by rw [star_ok h7, star_ok h8]; rfl) h4 (star_ok h7 [v] X.env) (by rw [star_ok h8]; rfl)
  exact peImp r fun σ H Q q => lp_dget q
theorem s_peE_find {k : Ck} (a b : E) (Ha : SndE k a) (Hb : SndE k b) : SndE k (.find a b) := by
  intro X0 X c sc fb g h
  obtain ⟨o, m, ap, v, cp, rfl, w⟩ := inv_find h
  obtain ⟨h1, w⟩ := ba w
  obtain ⟨h2, w⟩ := ba w
  obtain ⟨h3, w⟩ := ba w
  obtain ⟨h4, w⟩ := ba w
  obtain ⟨h5, h6⟩ := ba w
  cases of_decide_eq_true h1
  have pa : PA X [v] (tCons (rdE c b) tNil) := pa_cons (Hb v g h6) pa_nil (star_ok h4 [] X.env)
  have hb : attributeBase o "find" X.env (eval o X.env) = eval o X.env := by cases o <;> first | rfl | cases h3
  have r := pe_bm (cpos := cp) (apos := ap) PySem.F.plainAttrs_str PySem.F.slot_str_find PySem.F.type_str_find mt_find (Ha o g h5) pa hb (by rw [star_ok h4]; rfl) h2 (star_ok h4 [] X.env) rfl
  exact peImp r fun σ H Q q => lp_find q
theorem at_me {o : Expr} (h : objOk2 o = true) (m : Me) (env : PySem.Env) : attributeBase o (meS m) env (eval o env) = eval o env := by
  cases m <;> cases o <;> first | rfl | cases h
theorem s_peE_me {k : Ck} (m : Me) (a : E) (es : Es) (Ha : SndE k a) (Hb : SndA k es) : SndE k (.me m a es) := by
  intro X0 X c sc fb g h
  obtain ⟨o, n, ap, xs, cp, rfl, w⟩ := inv_me h
  have hm : MtR X (meV m) (rMeD c.K m) := by rw [g.K]; exact me_ok m
  rcases w with ⟨rfl, w⟩ | ⟨y, rfl, w⟩
  · obtain ⟨h1, w⟩ := ba w
    obtain ⟨h2, w⟩ := ba w
    obtain ⟨h3, w⟩ := ba w
    obtain ⟨h4, h5⟩ := ba w
    have e1 := of_decide_eq_true h1
    subst e1
    have hb := at_me h3 m X.env
    cases m with
    | upper => exact peImp (pe_bm0 (cpos := cp) (apos := ap) PySem.F.plainAttrs_str PySem.F.slot_str_upper PySem.F.type_str_upper hm (Ha o g h4) hb h2) fun σ H Q q => by have r := lp_me0 h5 q; rw [g.K] at r ⊢; exact r
    | index => exact peImp (pe_bm0 (cpos := cp) (apos := ap) PySem.F.plainAttrs_list PySem.F.slot_list_index PySem.F.type_list_index hm (Ha o g h4) hb h2) fun σ H Q q => by have r := lp_me0 h5 q; rw [g.K] at r ⊢; exact r
    | count => exact peImp (pe_bm0 (cpos := cp) (apos := ap) PySem.F.plainAttrs_list PySem.F.slot_list_count PySem.F.type_list_count hm (Ha o g h4) hb h2) fun σ H Q q => by have r := lp_me0 h5 q; rw [g.K] at r ⊢; exact r
    | join => exact peImp (pe_bm0 (cpos := cp) (apos := ap) PySem.F.plainAttrs_str PySem.F.slot_str_join PySem.F.type_str_join hm (Ha o g h4) hb h2) fun σ H Q q => by have r := lp_me0 h5 q; rw [g.K] at r ⊢; exact r
    | split => exact peImp (pe_bm0 (cpos := cp) (apos := ap) PySem.F.plainAttrs_str PySem.F.slot_str_split PySem.F.type_str_split hm (Ha o g h4) hb h2) fun σ H Q q => by have r := lp_me0 h5 q; rw [g.K] at r ⊢; exact r
  · obtain ⟨h1, w⟩ := ba w
    obtain ⟨h2, w⟩ := ba w
    obtain ⟨h3, w⟩ := ba w
    obtain ⟨h4, h5⟩ := ba w
    have e1 := of_decide_eq_true h1
    subst e1
    have hb := at_me h3 m X.env
    obtain ⟨st1, r0, st2⟩ := chkEs_head h5
    have s1 := star_ok st1 [] X.env
    cases m with
    | upper => exact peImp (pe_bm (cpos := cp) (apos := ap) PySem.F.plainAttrs_str PySem.F.slot_str_upper PySem.F.type_str_upper hm (Ha o g h4) (Hb [y] g h5) hb (by rw [s1]; rfl) h2 s1 rfl) fun σ H Q q => by have r := lp_me q; rw [g.K] at r ⊢; exact r
    | index => exact peImp (pe_bm (cpos := cp) (apos := ap) PySem.F.plainAttrs_list PySem.F.slot_list_index PySem.F.type_list_index hm (Ha o g h4) (Hb [y] g h5) hb (by rw [s1]; rfl) h2 s1 rfl) fun σ H Q q => by have r := lp_me q; rw [g.K] at r ⊢; exact r
    | count => exact peImp (pe_bm (cpos := cp) (apos := ap) PySem.F.plainAttrs_list PySem.F.slot_list_count PySem.F.type_list_count hm (Ha o g h4) (Hb [y] g h5) hb (by rw [s1]; rfl) h2 s1 rfl) fun σ H Q q => by have r := lp_me q; rw [g.K] at r ⊢; exact r
    | join => exact peImp (pe_bm (cpos := cp) (apos := ap) PySem.F.plainAttrs_str PySem.F.slot_str_join PySem.F.type_str_join hm (Ha o g h4) (Hb [y] g h5) hb (by rw [s1]; rfl) h2 s1 rfl) fun σ H Q q => by have r := lp_me q; rw [g.K] at r ⊢; exact r
    | split => exact peImp (pe_bm (cpos := cp) (apos := ap) PySem.F.plainAttrs_str PySem.F.slot_str_split PySem.F.type_str_split hm (Ha o g h4) (Hb [y] g h5) hb (by rw [s1]; rfl) h2 s1 rfl) fun σ H Q q => by have r := lp_me q; rw [g.K] at r ⊢; exact r
/-- the parts of an f-string -/
def SndF (k : Ck) (es : Es) : Prop := ∀ (xs : List Expr) {X : Cx} {c : Cc} {sc : Scope} {fb : Str → Bool}, Good k X c sc fb → chkFs k sc fb es xs = true → ∃ ts, PJ X xs ts ∧ ∀ acc σ H Q, rdF c es acc σ H Q → tJs ts acc σ H Q
theorem s_f_nil {k : Ck} : SndF k .nil := by
  intro xs X c sc fb g h
  cases xs with
  | nil => exact ⟨[], .nil, fun acc σ H Q q => lf_nil q⟩
  | cons _ _ => cases h
theorem s_f_cons {k : Ck} (e : E) (r : Es) (He : SndE k e) (Hr : SndF k r) : SndF k (.cons e r) := by
  intro xs X c sc fb g h
  rcases inv_fc h with ⟨s, p, q, ys, rfl, rfl, h2⟩ | ⟨x, p, ys, rfl, h1, h2⟩
  · obtain ⟨ts, pj, im⟩ := Hr ys g h2
    exact ⟨_, .cons pe_str pj, fun acc σ H Q q => lf_str (fun acc H q => im acc σ H Q q) q⟩
  · obtain ⟨ts, pj, im⟩ := Hr ys g h2
    exact ⟨_, .cons (pe_fmt (He x g h1)) pj, fun acc σ H Q q => lf_cons (fun acc H q => im acc σ H Q q) q⟩
theorem s_peE_fs {k : Ck} (es : Es) (H0 : SndF k es) : SndE k (.fs es) := by
  intro X0 X c sc fb g h
  obtain ⟨x, y, xs, q, rfl, w⟩ := inv_fs h
  obtain ⟨ts, pj, im⟩ := H0 (x :: y :: xs) g w
  exact peImp (pe_joined pj) fun σ H Q q => im _ _ _ _ (lp_fs q)
mutual
theorem peE (k : Ck) : ∀ e : E, SndE k e
  | .var i => s_peE_var i
  | .par i => s_peE_par i
  | .int i => s_peE_int i
  | .str i => s_peE_str i
  | .bl i => s_peE_bl i
  | .non => s_peE_non
  | .glob x => s_peE_glob x
  | .op o a b => s_peE_op o a b (peE k a) (peE k b)
  | .neg a => s_peE_neg a (peE k a)
  | .not a => s_peE_not a (peE k a)
  | .and a b => s_peE_and a b (peE k a) (peE k b)
  | .or a b => s_peE_or a b (peE k a) (peE k b)
  | .cmp o a b => s_peE_cmp o a b (peE k a) (peE k b)
  | .chain o o' a b d => s_peE_chain o o' a b d (peE k a) (peE k b) (peE k d)
  | .ife t a b => s_peE_ife t a b (ptE k t) (peE k a) (peE k b)
  | .ix a b => s_peE_ix a b (peE k a) (peE k b)
  | .sl a lo hi => s_peE_sl a lo hi (peE k a) (poO k lo) (poO k hi)
  | .tup es => s_peE_tup es (paEs k es)
  | .lst es => s_peE_lst es (paEs k es)
  | .comp elt tg src own => s_peE_comp elt tg src own (piS k src) (peE k elt)
  | .compIf elt tg src cd own => s_peE_compIf elt tg src cd own (piS k src) (ptE k cd) (peE k elt)
  | .call f es => s_peE_call f es (paEs k es)
  | .callF f es => s_peE_callF f es (paEs k es)
  | .bi b es => s_peE_bi b es (paEs k es)
  | .isi a t => s_peE_isi a t (peE k a)
  | .find a b => s_peE_find a b (peE k a) (peE k b)
  | .dget x kvs a b => s_peE_dget x kvs a b (peE k a) (peE k b)
  | .me m a es => s_peE_me m a es (peE k a) (paEs k es)
  | .fs es => s_peE_fs es (pfEs k es)
  | .comp2 elt tg src tg1 src1 own vs1 => s_peE_comp2 elt tg src tg1 src1 own vs1 (piS k src) (piS k src1) (peE k elt)
theorem ptE (k : Ck) : ∀ e : E, SndT k e
  | .not a => s_ptE_not a (ptE k a)
  | .and a b => s_ptE_and a b (ptE k a) (ptE k b)
  | .or a b => s_ptE_or a b (ptE k a) (ptE k b)
  | .cmp o a b => s_ptE_cmp o a b (peE k a) (peE k b)
  | .chain o o' a b d => s_ptE_chain o o' a b d (peE k a) (peE k b) (peE k d)
  | .var i => s_ptE_var i (peE k (.var i))
  | .bl i => s_ptE_bl i (peE k (.bl i))
  | .ix a b => s_ptE_ix a b (peE k (.ix a b))
  | .call f es => s_ptE_call f es (peE k (.call f es))
  | .bi b es => s_ptE_bi b es (peE k (.bi b es))
  | .isi a t' => s_ptE_isi a t' (peE k (.isi a t'))
  | .int _ => fun _ _ _ _ _ _ t _ => Bool.noConfusion t
  | .find _ _ => fun _ _ _ _ _ _ t _ => Bool.noConfusion t
  | .dget _ _ _ _ => fun _ _ _ _ _ _ t _ => Bool.noConfusion t
  | .par _ => fun _ _ _ _ _ _ t _ => Bool.noConfusion t
  | .callF _ _ => fun _ _ _ _ _ _ t _ => Bool.noConfusion t
  | .me _ _ _ => fun _ _ _ _ _ _ t _ => Bool.noConfusion t
  | .fs _ => fun _ _ _ _ _ _ t _ => Bool.noConfusion t
  | .str _ => fun _ _ _ _ _ _ t _ => Bool.noConfusion t
  | .non => fun _ _ _ _ _ _ t _ => Bool.noConfusion t
  | .glob _ => fun _ _ _ _ _ _ t _ => Bool.noConfusion t
  | .op _ _ _ => fun _ _ _ _ _ _ t _ => Bool.noConfusion t
  | .neg _ => fun _ _ _ _ _ _ t _ => Bool.noConfusion t
  | .ife _ _ _ => fun _ _ _ _ _ _ t _ => Bool.noConfusion t
  | .sl _ _ _ => fun _ _ _ _ _ _ t _ => Bool.noConfusion t
  | .tup _ => fun _ _ _ _ _ _ t _ => Bool.noConfusion t
  | .lst _ => fun _ _ _ _ _ _ t _ => Bool.noConfusion t
  | .comp _ _ _ _ => fun _ _ _ _ _ _ t _ => Bool.noConfusion t
  | .compIf _ _ _ _ _ => fun _ _ _ _ _ _ t _ => Bool.noConfusion t
  | .comp2 _ _ _ _ _ _ _ => fun _ _ _ _ _ _ t _ => Bool.noConfusion t
theorem paEs (k : Ck) : ∀ e : Es, SndA k e
  | .nil => s_paEs_nil
  | .cons e r => s_paEs_cons e r (peE k e) (paEs k r)
theorem pfEs (k : Ck) : ∀ e : Es, SndF k e
  | .nil => s_f_nil
  | .cons e r => s_f_cons e r (peE k e) (pfEs k r)
theorem poO (k : Ck) : ∀ e : Op1, SndO k e
  | .no => s_poO_no
  | .so e => s_poO_so e (peE k e)
theorem piS (k : Ck) : ∀ e : Src, SndS k e
  | .seq e => s_piS_seq e (peE k e)
  | .rng1 a => s_piS_rng1 a (peE k a)
  | .rng2 a b => s_piS_rng2 a b (peE k a) (peE k b)
  | .enum e => s_piS_enum e (peE k e)
  | .zip a b => s_piS_zip a b (peE k a) (peE k b)
end
end PyI
/-! PyI, part 10: statements, no syntax in sight. -/
namespace PyI
open PySem PySem.Spec PyProof.Rows L2
/-- what is wanted behind a statement that ends so -/
def EndS (c : Cc) (En : Ends) (o : Out) : Prop := match o with
  | .nx τ => ∀ own σ H, Sim c own τ σ H → En.nx σ H
  | .rt d => ∀ v H, Same c.H0 H → RepT c.K (fun a => c.F0 a ∨ (c.rf = true ∧ c.H0 a ≠ none)) c.F0 H d v → En.rt v H
  | .bk τ => ∀ own σ H, Sim c own τ σ H → En.bk σ H
  | .ct τ => ∀ own σ H, Sim c own τ σ H → En.ct σ H
  | .exc x ds => ∀ own τ σ H, Sim c own τ σ H → ExW c σ H x ds
  | .bad => False
def rdSt (c : Cc) (fu : Nat) (s : S) : TS := fun En σ H => ∃ own τ, Sim c own τ σ H ∧ EndS c En (exS c.G c.Φ fu s τ)
def rdSs (c : Cc) (fu : Nat) (s : Ss) : TS := fun En σ H => ∃ own τ, Sim c own τ σ H ∧ EndS c En (exL c.G c.Φ fu s τ)
theorem psImp {X : Cx} {st : Stmt} {t t' : TS} (h : PS X st t) (i : ∀ D σ H, t' D σ H → t D σ H) : PS X st t' := ⟨fun pins s σ H D I q => h.run pins s σ H D I (i _ _ _ q)⟩
theorem pssImp {X : Cx} {st : List Stmt} {t t' : TS} (h : PSs X st t) (i : ∀ D σ H, t' D σ H → t D σ H) : PSs X st t' := ⟨fun pins s σ H D I q => h.run pins s σ H D I (i _ _ _ q)⟩
section
variable {c : Cc} {own : Nat → Option Addr} {τ : Env} {σ : L2.St} {H : Hp} {En : Ends} {fu : Nat}
/-- a result, then a way out -/
theorem out_post {α : Type} {r : Res α} {f : α → Out} (S : Sim c own τ σ H) (h : EndS c En (r.out f)) : Post r (fun a => EndS c En (f a)) (ExW c σ H) := by
  cases r with
  | ok a => exact h
  | exc x ds => exact h own τ σ H S
  | bad => exact h
theorem out_nx {α : Type} {r : Res α} {f : α → Out} (n : NoX r) (h : EndS c En (r.out f)) : ∃ a, r = .ok a ∧ EndS c En (f a) := by
  cases r with
  | ok a => exact ⟨a, rfl, h⟩
  | exc x ds => exact n.elim
  | bad => exact h.elim
/-! ### freezing -/
theorem freeze_len : ∀ (L : List Nat) (τ : Env), (freeze τ L).length = τ.length
  | [], _ => rfl
  | i :: r, τ => by
    have h : freeze τ (i :: r) = (match (freeze τ r)[i]? with
      | some (some (.o xs)) => (freeze τ r).set i (some (.v (.lst xs)))
      | _ => freeze τ r) := rfl
    rw [h]
    split
    · rw [List.length_set, freeze_len r τ]
    · exact freeze_len r τ
theorem freeze1 (S : Sim c own τ σ H) (i : Nat) : ∃ own', Sim c own' (match τ[i]? with
      | some (some (.o xs)) => τ.set i (some (.v (.lst xs)))
      | _ => τ) σ H ∧ (∀ L a, Fb c own' L a → Fb c own (i :: L) a) := by
  refine ⟨fun j => if j = i then none else own j, ?_, ?_⟩
  · have w : ∀ L a, Fb c (fun j => if j = i then none else own j) L a → Fb c own L a := fun L a z => z.imp id fun ⟨j, e, n⟩ => ⟨j, by
      have e' : (if j = i then none else own j) = some a := e
      by_cases q : j = i
      · rw [if_pos q] at e'; cases e'
      · rw [if_neg q] at e'; exact e', n⟩
    have base : (h : ¬ ∃ xs, τ[i]? = some (some (C.o xs))) → Sim c (fun j => if j = i then none else own j) τ σ H := fun h => {
      len := S.len
      val := fun j d e => let ⟨v, h1, h2⟩ := S.val j d e; ⟨v, h1, h2.weak (w [])⟩
      ows := fun j ds e => by
        obtain ⟨a, vs, h1, h2, h3, h4⟩ := S.ows j ds e
        refine ⟨a, vs, ?_, h2, h3, h4.weak (w [])⟩
        show (if j = i then none else own j) = some a
        rw [if_neg (fun q => h ⟨ds, by rw [← q]; exact e⟩)]
        exact h1
      inj := fun j j' a e1 e2 => by
        have e1' : (if j = i then none else own j) = some a := e1
        have e2' : (if j' = i then none else own j') = some a := e2
        by_cases q : j = i
        · rw [if_pos q] at e1'; cases e1'
        · by_cases q' : j' = i
          · rw [if_pos q'] at e2'; cases e2'
          · rw [if_neg q] at e1'; rw [if_neg q'] at e2'; exact S.inj j j' a e1' e2'
      al := fun j a e => by
        have e' : (if j = i then none else own j) = some a := e
        by_cases q : j = i
        · rw [if_pos q] at e'; cases e'
        · rw [if_neg q] at e'; exact S.al j a e'
      fin := by
        obtain ⟨n, hn⟩ := S.fin
        refine ⟨n, fun j hj => ?_⟩
        show (if j = i then none else own j) = none
        by_cases q : j = i
        · rw [if_pos q]
        · rw [if_neg q]; exact hn j hj
      f0 := S.f0
      same := S.same
      bs := ⟨S.bs.k, fun j a e => by
        have e' : (if j = i then none else own j) = some a := e
        by_cases q : j = i
        · rw [if_pos q] at e'; cases e'
        · rw [if_neg q] at e'; exact S.bs.n j a e', S.bs.f⟩ }
    split
    · rename_i xs e
      have hi : i < τ.length := (List.getElem?_eq_some_iff.mp e).1
      obtain ⟨a, vs, h1, h2, h3, h4⟩ := S.ows i xs e
      have na : ¬ Fb c (fun j => if j = i then none else own j) [] a := by
        rintro (z | ⟨j, e, _⟩)
        · exact S.f0 a z (S.al i a h1).1
        · have e' : (if j = i then none else own j) = some a := e
          by_cases q : j = i
          · rw [if_pos q] at e'; cases e'
          · rw [if_neg q] at e'; exact q (S.inj j i a e' h1)
      refine ⟨by rw [List.length_set]; exact S.len, fun j d e2 => ?_, fun j ds e2 => ?_, ?_, ?_, ?_, S.f0, S.same, S.bs.k, fun j a e => by
        have e' : (if j = i then none else own j) = some a := e
        by_cases q : j = i
        · rw [if_pos q] at e'; cases e'
        · rw [if_neg q] at e'; exact S.bs.n j a e', S.bs.f⟩
      · by_cases q : j = i
        · subst q
          rw [List.getElem?_set_self hi] at e2
          cases e2
          refine ⟨_, h2, a, vs, rfl, h3, na, h4.weak fun b z => ?_⟩
          rcases z with z | z
          · exact w [] b z
          · rw [z]; exact .inr ⟨j, h1, List.not_mem_nil⟩
        · rw [List.getElem?_set_ne (Ne.symm q)] at e2
          obtain ⟨v, q1, q2⟩ := S.val j d e2
          exact ⟨v, q1, q2.weak (w [])⟩
      · by_cases q : j = i
        · subst q
          rw [List.getElem?_set_self hi] at e2
          cases e2
        · rw [List.getElem?_set_ne (Ne.symm q)] at e2
          obtain ⟨b, us, q1, q2, q3, q4⟩ := S.ows j ds e2
          refine ⟨b, us, ?_, q2, q3, q4.weak (w [])⟩
          show (if j = i then none else own j) = some b
          rw [if_neg q]
          exact q1
      · intro j j' b e1 e2
        have e1' : (if j = i then none else own j) = some b := e1
        have e2' : (if j' = i then none else own j') = some b := e2
        by_cases q : j = i
        · rw [if_pos q] at e1'; cases e1'
        · by_cases q' : j' = i
          · rw [if_pos q'] at e2'; cases e2'
          · rw [if_neg q] at e1'; rw [if_neg q'] at e2'; exact S.inj j j' b e1' e2'
      · intro j b e
        have e' : (if j = i then none else own j) = some b := e
        by_cases q : j = i
        · rw [if_pos q] at e'; cases e'
        · rw [if_neg q] at e'; exact S.al j b e'
      · obtain ⟨n, hn⟩ := S.fin
        refine ⟨n, fun j hj => ?_⟩
        show (if j = i then none else own j) = none
        by_cases q : j = i
        · rw [if_pos q]
        · rw [if_neg q]; exact hn j hj
    · rename_i hno
      exact base fun ⟨xs, z⟩ => hno xs z
  · intro L a z
    rcases z with z | ⟨j, e, n⟩
    · exact .inl z
    · have e' : (if j = i then none else own j) = some a := e
      by_cases q : j = i
      · rw [if_pos q] at e'; cases e'
      · rw [if_neg q] at e'
        exact .inr ⟨j, e', fun m => (List.mem_cons.mp m).elim q n⟩
theorem Sim.freeze (S : Sim c own τ σ H) : ∀ L : List Nat, ∃ own', Sim c own' (PyI.freeze τ L) σ H ∧ ∀ a, Fb c own' [] a → Fb c own L a := by
  have key : ∀ L : List Nat, ∃ own', Sim c own' (PyI.freeze τ L) σ H ∧ ∀ L' a, Fb c own' L' a → Fb c own (L ++ L') a := by
    intro L
    induction L with
    | nil => exact ⟨own, S, fun _ _ z => z⟩
    | cons i r ih =>
      obtain ⟨own1, S1, w1⟩ := ih
      obtain ⟨own2, S2, w2⟩ := freeze1 S1 i
      refine ⟨own2, S2, fun L' a z => ?_⟩
      exact Fb.mono (fun j m => by simp at m ⊢; rcases m with m | m | m <;> simp [m]) a (w1 (i :: L') a (w2 L' a z))
  intro L
  obtain ⟨own', S', w⟩ := key L
  exact ⟨own', S', fun a z => by have := w [] a z; rwa [List.append_nil] at this⟩
/-- a value is kept: it is stored, and the lists that it may hold are frozen -/
theorem Sim.keepL {d : D} {v : V} {L1 L2 : List Nat} (S : Sim c own τ σ H) (r : RepT c.K (Fb c own L1) (Fb c own L2) H d v) : ∃ own', Sim c own' (PyI.keepL τ d (L1 ++ L2)) σ H ∧ Rep c.K (Fb c own' []) H d v := by
  unfold PyI.keepL
  by_cases h : d.still = true
  · rw [if_pos h]
    exact ⟨own, S, r.still_any h⟩
  · rw [if_neg h]
    obtain ⟨own', S', w⟩ := S.freeze (L1 ++ L2)
    exact ⟨own', S', (r.weak (fun a z => appL a (w a z)) (fun a z => appR a (w a z))).rep⟩
/-- a new list becomes the def's own -/
theorem Sim.owns {H' : Hp} {i : Nat} {a : Addr} {ds : List D} {vs : List V} (S : Sim c own τ σ H) (s : Same H H') (ha : H a = none) (ha' : H' a = some (.lst vs)) (hi : i < τ.length)
    (r : RepL c.K (fun b => Fb c own [] b ∨ b = a) H' ds vs) : ∃ own', Sim c own' (τ.set i (some (.o ds))) (σ.set i (some (.ref a))) H' := by
  have na : ∀ j, own j ≠ some a := fun j e => (S.al j a e).2 ha
  have w : ∀ b, Fb c (fun j => if j = i then some a else own j) [] b → Fb c own [] b ∨ b = a := fun b z => by
    rcases z with z | ⟨j, e, n⟩
    · exact .inl (.inl z)
    · have e' : (if j = i then some a else own j) = some b := e
      by_cases q : j = i
      · rw [if_pos q] at e'; exact .inr (Option.some.inj e').symm
      · rw [if_neg q] at e'; exact .inl (.inr ⟨j, e', n⟩)
  refine ⟨fun j => if j = i then some a else own j, by rw [List.length_set, List.length_set]; exact S.len, fun j d e => ?_, fun j es e => ?_, fun j j' b e1 e2 => ?_, fun j b e => ?_, ?_, S.f0, S.same.trans s, (S.bs.mono s).k, fun j b e => by
    have e' : (if j = i then some a else own j) = some b := e
    by_cases q : j = i
    · rw [if_pos q] at e'
      cases e'
      exact S.bs.new ha
    · rw [if_neg q] at e'
      exact S.bs.n j b e', S.bs.f⟩
  · by_cases q : j = i
    · subst q
      rw [List.getElem?_set_self hi] at e
      cases e
    · rw [List.getElem?_set_ne (Ne.symm q)] at e
      obtain ⟨v, h1, h2⟩ := S.val j d e
      refine ⟨v, by rw [List.getElem?_set_ne (Ne.symm q)]; exact h1, ?_⟩
      exact ((RepF.older (Y := fun b => b = a) (fun b z => by rw [z]; exact ha) d v h2).weak w).same s
  · by_cases q : j = i
    · subst q
      rw [List.getElem?_set_self hi] at e
      cases e
      exact ⟨a, vs, if_pos rfl, List.getElem?_set_self (by rw [← S.len]; exact hi), ha', r.weak w⟩
    · rw [List.getElem?_set_ne (Ne.symm q)] at e
      obtain ⟨b, us, h1, h2, h3, h4⟩ := S.ows j es e
      refine ⟨b, us, ?_, by rw [List.getElem?_set_ne (Ne.symm q)]; exact h2, s _ _ h3, ((RepFL.older (Y := fun b => b = a) (fun b z => by rw [z]; exact ha) es us h4).weak w).same s⟩
      show (if j = i then some a else own j) = some b
      rw [if_neg q]
      exact h1
  · have e1' : (if j = i then some a else own j) = some b := e1
    have e2' : (if j' = i then some a else own j') = some b := e2
    by_cases q : j = i
    · by_cases q' : j' = i
      · rw [q, q']
      · rw [if_pos q] at e1'; rw [if_neg q'] at e2'; cases e1'; exact absurd e2' (na j')
    · by_cases q' : j' = i
      · rw [if_neg q] at e1'; rw [if_pos q'] at e2'; cases e2'; exact absurd e1' (na j)
      · rw [if_neg q] at e1'; rw [if_neg q'] at e2'; exact S.inj j j' b e1' e2'
  · have e' : (if j = i then some a else own j) = some b := e
    by_cases q : j = i
    · rw [if_pos q] at e'
      cases e'
      refine ⟨?_, by rw [ha']; exact fun z => nomatch z⟩
      cases z : c.H0 a with
      | none => rfl
      | some o => have := S.same _ _ z; rw [ha] at this; cases this
    · rw [if_neg q] at e'
      exact ⟨(S.al j b e').1, fun n => (S.al j b e').2 (s.free n)⟩
  · obtain ⟨n, hn⟩ := S.fin
    refine ⟨max n (i + 1), fun j hj => ?_⟩
    show (if j = i then some a else own j) = none
    rw [if_neg (by omega)]
    exact hn j (by omega)
/-- a list of the def's own is changed -/
theorem Sim.change {i : Nat} {a : Addr} {ds es : List D} {vs us : List V} (S : Sim c own τ σ H) (e : τ[i]? = some (some (.o ds))) (ho : own i = some a) (hH : H a = some (.lst vs)) (r : RepL c.K (Fb c own []) H es us) :
    Sim c own (τ.set i (some (.o es))) σ (upd H a (.lst us)) := by
  have hi : i < τ.length := (List.getElem?_eq_some_iff.mp e).1
  have Fa : Fb c own [] a := .inr ⟨i, ho, List.not_mem_nil⟩
  have k : Kept (Fb c own []) H (upd H a (.lst us)) := kept_upd Fa ⟨vs, hH⟩
  obtain ⟨a', vs', h1, h2, h3, h4⟩ := S.ows i ds e
  rw [ho] at h1
  cases h1
  refine ⟨by rw [List.length_set]; exact S.len, fun j d e2 => ?_, fun j es' e2 => ?_, S.inj, fun j b e2 => ?_, S.fin, S.f0, fun b o eb => ?_, fun b o eb nb => ?_, S.bs.n, S.bs.f⟩
  · by_cases q : j = i
    · subst q
      rw [List.getElem?_set_self hi] at e2
      cases e2
    · rw [List.getElem?_set_ne (Ne.symm q)] at e2
      obtain ⟨v, q1, q2⟩ := S.val j d e2
      exact ⟨v, q1, RepF.kept d v k (fun _ z => z) q2⟩
  · by_cases q : j = i
    · subst q
      rw [List.getElem?_set_self hi] at e2
      cases e2
      exact ⟨a, us, ho, h2, upd_same, RepFL.kept es us k (fun _ z => z) r⟩
    · rw [List.getElem?_set_ne (Ne.symm q)] at e2
      obtain ⟨b, ws, q1, q2, q3, q4⟩ := S.ows j es' e2
      have nb : b ≠ a := fun z => q (S.inj j i a (by rw [← z]; exact q1) ho)
      exact ⟨b, ws, q1, q2, by rw [upd_ne nb]; exact q3, RepFL.kept es' ws k (fun _ z => z) q4⟩
  · refine ⟨(S.al j b e2).1, fun z => ?_⟩
    by_cases q : b = a
    · rw [q, upd_same] at z; cases z
    · rw [upd_ne q] at z; exact (S.al j b e2).2 z
  · have nb : b ≠ a := fun z => by
      have := (S.al i a ho).1
      rw [← z, eb] at this
      cases this
    rw [upd_ne nb]
    exact S.same b o eb
  · by_cases q : b = a
    · subst q
      have hb := S.bs.k b o eb nb
      rw [hH] at hb
      cases hb
      refine (nb.elim (fun z => z ?_) fun z => z ⟨vs, rfl⟩).elim
      rcases S.bs.n i b ho with z | z
      · exact z
      · rw [eb] at z; cases z
    · rw [upd_ne q]
      exact S.bs.k b o eb nb
end
end PyI
/-! PyI, part 11: statements, the readings. -/
namespace PyI
open PySem PySem.Spec PyProof.Rows L2
section
variable {c : Cc} {own : Nat → Option Addr} {τ : Env} {σ : L2.St} {H H' : Hp} {En : Ends} {fu : Nat}
theorem Sim.setE {i : Nat} {e : E} {d : D} {v : V} {τ' : Env} (S : Sim c own τ σ H) (s : Same H H') (r : RepT c.K (Ft c own e H) (Fb c own (li e)) H' d v) (h : PyI.setE τ i e d = .ok τ') : ∃ own', Sim c own' τ' (σ.set i (some v)) H' := by
  unfold PyI.setE at h
  by_cases hi : i < τ.length
  · rw [if_pos hi] at h
    have gen : Res.ok ((PyI.keepL τ d (lt e ++ li e)).set i (some (.v d))) = Res.ok τ' → ∃ own', Sim c own' τ' (σ.set i (some v)) H' := fun h => by
      cases h
      obtain ⟨own', S', r'⟩ := (S.mono s).keepL (r.weak (fun a z => ft_l a z) fun _ z => z)
      exact ⟨own', S'.setV r' (by unfold PyI.keepL; split; exact hi; rw [freeze_len]; exact hi)⟩
    cases hf : fresh e with
    | false =>
      rw [hf] at h
      exact gen h
    | true =>
      rw [hf] at h
      cases d with
      | lst ds =>
        have h : Res.ok ((PyI.freeze τ (li e)).set i (some (.o ds))) = Res.ok τ' := h
        cases h
        obtain ⟨a, vs, rfl, ha, na, rl⟩ := r
        have hn : H a = none := by
          cases z : H a with
          | none => rfl
          | some o => exact (na (.inr ⟨hf, by rw [z]; exact fun q => nomatch q⟩)).elim
        obtain ⟨own1, S1, w⟩ := S.freeze (li e)
        exact S1.owns s hn ha (by rw [freeze_len]; exact hi) (rl.weak fun b z => z.imp (w b) id)
      | _ => exact gen h
  · rw [if_neg hi] at h
    cases h
theorem nx_setE {τ : Env} {i : Nat} {e : E} {d : D} : NoX (PyI.setE τ i e d) := by
  unfold PyI.setE
  split
  · split <;> trivial
  · trivial
theorem nx_ownL {τ : Env} {i : Nat} : NoX (PyI.ownL τ i) := by
  unfold PyI.ownL
  split <;> trivial
theorem ownL_ok {i : Nat} {xs : List D} (h : PyI.ownL τ i = .ok xs) : τ[i]? = some (some (.o xs)) := by
  unfold PyI.ownL at h
  split at h
  · rename_i ys e
    cases h
    exact e
  · cases h
theorem ls_set {i : Nat} {e : E} (h : rdSt c fu (.set i e) En σ H) : tAsg (rdE c e) (gName i) En σ H := by
  obtain ⟨own, τ, S, h⟩ := h
  refine ⟨own, τ, S, (out_post S h).imp (fun d _ h v H1 s r => ?_) fun _ _ x => x⟩
  obtain ⟨τ', e', h⟩ := out_nx nx_setE h
  obtain ⟨own', S'⟩ := S.setE s r e'
  exact h own' _ H1 S'
theorem ls_setT {ts : List Tg} {e : E} (h : rdSt c fu (.setT ts e) En σ H) : tAsg (rdE c e) (tgG c.K (.tup ts)) En σ H := by
  obtain ⟨own, τ, S, h⟩ := h
  refine ⟨own, τ, S, (out_post S h).imp (fun d _ h v H1 s r => ?_) fun _ _ x => x⟩
  obtain ⟨τ', e', h⟩ := out_nx (nx_asg _ _ _) h
  obtain ⟨own', S', r'⟩ := (S.mono s).keepL (r.weak (fun a z => ft_l a z) fun _ z => z)
  exact asg_run (.tup ts) d v _ τ' σ En.nx S' r' e' fun σ' S2 _ => h own' _ H1 S2
theorem ls_ret {e : E} (hf : c.rf = true → fresh e = true) (h : rdSt c fu (.ret e) En σ H) : tRet (rdE c e) En σ H := by
  obtain ⟨own, τ, S, h⟩ := h
  refine ⟨own, τ, S, (out_post S h).imp (fun d _ h v H1 s r => ?_) fun _ _ x => x⟩
  exact h v H1 (S.same.trans s) (r.weak (fun a z => z.elim (fun z => .inl (.inl z)) fun z => .inr ⟨hf z.1, fun n => z.2 (S.same.free n)⟩) fun a z => .inl z)
theorem ls_retN (h : rdSt c fu .retN En σ H) : tRetN En σ H := by
  obtain ⟨own, τ, S, h⟩ := h
  exact h .non H S.same rfl
theorem ls_retO {i : Nat} (h : rdSt c fu (.retO i) En σ H) : tRet (tVar i) En σ H := by
  obtain ⟨own, τ, S, h⟩ := h
  obtain ⟨xs, hx, h⟩ := out_nx nx_ownL (show EndS c En ((ownL τ i).out fun xs => .rt (.lst xs)) from h)
  obtain ⟨a, vs, h1, h2, h3, h4⟩ := S.ows i xs (ownL_ok hx)
  refine ⟨.ref a, h2, h (.ref a) H S.same ⟨a, vs, rfl, h3, fun z => ?_, h4.weak fun b z => ?_⟩⟩
  · have hn := (S.al i a h1).1
    rcases z with z | z
    · exact S.f0 a z hn
    · exact z.2 hn
  · rcases z with z | z
    · exact .inl z
    · exact .inr ⟨i, by rw [h1, z], List.not_mem_nil⟩
theorem ls_exp {e : E} (h : rdSt c fu (.exp e) En σ H) : tDrop (rdE c e) En σ H := by
  obtain ⟨own, τ, S, h⟩ := h
  exact ⟨own, τ, S, (out_post S h).imp (fun d _ h v H1 s r => h own σ H1 (S.mono s)) fun _ _ x => x⟩
theorem ls_nx {s : S} (hs : ∀ τ, exS c.G c.Φ fu s τ = .nx τ) (h : rdSt c fu s En σ H) : En.nx σ H := by
  obtain ⟨own, τ, S, h⟩ := h
  rw [hs] at h
  exact h own σ H S
theorem ls_aug {i : Nat} {o : Op} {e : E} (h : rdSt c fu (.aug i o e) En σ H) : (o = .add → tAug i (rdE c e) (ipI fun i j => i + j) En σ H) ∧ (o = .sub → tAug i (rdE c e) (ipI fun i j => i - j) En σ H) := by
  obtain ⟨own, τ, S, h⟩ := h
  have h : EndS c En ((getV τ i).out fun x => (ev c.G c.Φ e τ).out fun y => (match (generalizing := false) o, x, y with
    | .add, .int a, .int b => .nx (τ.set i (some (.v (.int (a + b)))))
    | .sub, .int a, .int b => .nx (τ.set i (some (.v (.int (a - b)))))
    | _, _, _ => .bad)) := h
  obtain ⟨x, ex, h⟩ := out_nx (nx_getV τ i) h
  obtain ⟨v, hv, r⟩ := S.get ex
  have hi : i < τ.length := by
    have := (List.getElem?_eq_some_iff.mp hv).1
    rw [S.len]; exact this
  constructor
  · intro e'
    subst e'
    refine ⟨v, hv, own, τ, S, (out_post S h).imp (fun y _ h w H1 s r1 => ?_) fun _ _ x => x⟩
    cases x with
    | int a =>
      cases y with
      | int b => exact ⟨a, b, r, r1, h own _ H1 ((S.mono s).setV rfl hi)⟩
      | _ => exact h.elim
    | _ => exact h.elim
  · intro e'
    subst e'
    refine ⟨v, hv, own, τ, S, (out_post S h).imp (fun y _ h w H1 s r1 => ?_) fun _ _ x => x⟩
    cases x with
    | int a =>
      cases y with
      | int b => exact ⟨a, b, r, r1, h own _ H1 ((S.mono s).setV rfl hi)⟩
      | _ => exact h.elim
    | _ => exact h.elim
/-- a list of the def's own, read by its name -/
theorem Sim.at {i : Nat} {xs : List D} (S : Sim c own τ σ H) (e : τ[i]? = some (some (.o xs))) : ∃ a vs, own i = some a ∧ σ[i]? = some (some (.ref a)) ∧ H a = some (.lst vs) ∧ RepL c.K (Fb c own []) H xs vs := S.ows i xs e
theorem ls_app {i : Nat} {e : E} (h : rdSt c fu (.app i e) En σ H) : tDrop (tBM c.K "list" rAppend (tVar i) (tCons (rdE c e) tNil)) En σ H := by
  obtain ⟨own, τ, S, h⟩ := h
  obtain ⟨xs0, hx0, h⟩ := out_nx nx_ownL (show EndS c En ((ownL τ i).out fun _ => (ev c.G c.Φ e τ).out fun d => (ownL (PyI.keepL τ d (lt e ++ li e)) i).out fun xs => if xs.length < sizeLine then .nx ((PyI.keepL τ d (lt e ++ li e)).set i (some (.o (xs ++ [d])))) else .bad) from h)
  obtain ⟨a, vs, h1, h2, h3, _⟩ := S.ows i xs0 (ownL_ok hx0)
  refine ⟨.ref a, h2, .inl ⟨rfl, vs, .inl (.inl h3)⟩, own, τ, S, (out_post S h).imp (fun d _ p v H1 s r => ?_) fun _ _ x => x⟩
  obtain ⟨xs, hx, p⟩ := out_nx nx_ownL p
  obtain ⟨own', S', r'⟩ := (S.mono s).keepL (r.weak (fun a z => ft_l a z) fun _ z => z)
  have q := ownL_ok hx
  obtain ⟨a', vs', g1, g2, g3, g4⟩ := S'.ows i xs q
  rw [h2] at g2
  cases g2
  by_cases hl : xs.length < sizeLine
  · rw [if_pos hl] at p
    refine ⟨a, vs', v, rfl, rfl, g3, by rw [← g4.length]; exact hl, ?_⟩
    exact p own' _ _ (S'.change q g1 g3 (g4.append (RepFL.one r')))
  · rw [if_neg hl] at p
    exact p.elim
theorem nx_lstD {d : D} : NoX (lstD d) := by cases d <;> trivial
theorem ls_ext {i : Nat} {e : E} (h : rdSt c fu (.ext i e) En σ H) : tDrop (tBM c.K "list" rExtend (tVar i) (tCons (rdE c e) tNil)) En σ H := by
  obtain ⟨own, τ, S, h⟩ := h
  obtain ⟨xs0, hx0, h⟩ := out_nx nx_ownL (show EndS c En ((ownL τ i).out fun _ => (ev c.G c.Φ e τ).out fun d => (lstD d).out fun ds => (ownL (PyI.freeze τ (li e)) i).out fun xs => if xs.length + ds.length ≤ sizeLine then .nx ((PyI.freeze τ (li e)).set i (some (.o (xs ++ ds)))) else .bad) from h)
  obtain ⟨a, vs, h1, h2, h3, _⟩ := S.ows i xs0 (ownL_ok hx0)
  refine ⟨.ref a, h2, .inl ⟨rfl, vs, .inl (.inl h3)⟩, own, τ, S, (out_post S h).imp (fun d _ p v H1 s r => ?_) fun _ _ x => x⟩
  obtain ⟨ds, hd, p1⟩ := out_nx nx_lstD p
  obtain ⟨xs, hx, p2⟩ := out_nx nx_ownL p1
  clear p p1
  have hd' : d = .lst ds := by cases d <;> first | cases hd; rfl | cases hd
  subst hd'
  obtain ⟨b, ws, rfl, hb, nb, rl⟩ := r
  obtain ⟨own', S', w⟩ := (S.mono s).freeze (li e)
  have q := ownL_ok hx
  obtain ⟨a', vs', g1, g2, g3, g4⟩ := S'.ows i xs q
  rw [h2] at g2
  cases g2
  by_cases hl : xs.length + ds.length ≤ sizeLine
  · rw [if_pos hl] at p2
    refine ⟨a, b, vs', ws, rfl, rfl, g3, hb, by rw [← g4.length, ← rl.length]; exact hl, ?_⟩
    have r' : RepL c.K (Fb c own' []) H1 ds ws := rl.weak fun x z => .inl (w x z)
    exact p2 own' _ _ (S'.change q g1 g3 (g4.append r'))
  · rw [if_neg hl] at p2
    exact p2.elim
theorem ls_setIx {i : Nat} {k e : E} (h : rdSt c fu (.setIx i k e) En σ H) : tAsg (rdE c e) (gSub (tVar i) (rdE c k) rSetL) En σ H := by
  obtain ⟨own, τ, S, h⟩ := h
  refine ⟨own, τ, S, (out_post S (show EndS c En ((ev c.G c.Φ e τ).out fun d => (ownL τ i).out fun _ => (ev c.G c.Φ k τ >>= intD).out fun n => (ownL (PyI.keepL τ d (lt e ++ li e)) i).out fun xs => (match (generalizing := false) ixN xs.length n with
    | some j => .nx ((PyI.keepL τ d (lt e ++ li e)).set i (some (.o (xs.set j d))))
    | none => .bad)) from h)).imp (fun d _ h v H1 s r => ?_) fun _ _ x => x⟩
  obtain ⟨xs0, hx0, h⟩ := out_nx nx_ownL h
  have S1 := S.mono s
  obtain ⟨a, vs, h1, h2, h3, _⟩ := S1.ows i xs0 (ownL_ok hx0)
  refine ⟨.ref a, h2, own, τ, S1, (out_post S1 h).bind.imp (fun y _ h w H2 s2 r2 => ?_) fun _ _ x => x⟩
  obtain ⟨n, hn⟩ : ∃ n, y = .int n := by cases y <;> first | exact ⟨_, rfl⟩ | exact h.elim
  subst hn
  obtain ⟨xs, hx, p⟩ := out_nx nx_ownL (show EndS c En ((ownL (PyI.keepL τ d (lt e ++ li e)) i).out fun xs => (match (generalizing := false) ixN xs.length n with
    | some j => .nx ((PyI.keepL τ d (lt e ++ li e)).set i (some (.o (xs.set j d))))
    | none => .bad)) from h)
  obtain ⟨own', S', r'⟩ := (S1.mono s2).keepL ((r.same s2).weak (fun a z => ft_l a z) fun _ z => z)
  have q := ownL_ok hx
  obtain ⟨a', vs', g1, g2, g3, g4⟩ := S'.ows i xs q
  rw [h2] at g2
  cases g2
  cases hj : ixN xs.length n with
  | none => rw [hj] at p; exact p.elim
  | some j =>
    rw [hj] at p
    refine ⟨a, vs', n, j, rfl, r2, g3, by rw [← g4.length]; exact hj, ?_⟩
    exact p own' _ _ (S'.change q g1 g3 (g4.set j r'))
theorem ls_setL {ts : List Tg} {e : E} (h : rdSt c fu (.setL ts e) En σ H) : tAsg (rdE c e) (gLst c.K ts.length (tgGs c.K ts)) En σ H := by
  obtain ⟨own, τ, S, h⟩ := h
  refine ⟨own, τ, S, (out_post S (show EndS c En ((ev c.G c.Φ e τ).out fun d => (lstD d).out fun ds => (asgs ts ds (PyI.keepL τ d (lt e ++ li e))).out fun σ1 => .nx σ1) from h)).imp (fun d _ h v H1 s r => ?_) fun _ _ x => x⟩
  obtain ⟨ds, hd, h⟩ := out_nx nx_lstD h
  obtain ⟨τ', e', h9⟩ := out_nx (nx_asgs _ _ _) h
  have hd' : d = .lst ds := by cases d <;> first | cases hd; rfl | cases hd
  subst hd'
  obtain ⟨own', S', r'⟩ := (S.mono s).keepL (r.weak (fun a z => ft_l a z) fun _ z => z)
  obtain ⟨a, vs, rfl, s1, _, hl⟩ := r'
  have hlen : ∀ (ts : List Tg) (ds : List D) (τ τ' : Env), asgs ts ds τ = .ok τ' → ds.length = ts.length := by
    intro ts
    induction ts with
    | nil =>
      intro ds τ τ' e
      cases ds with
      | nil => rfl
      | cons _ _ => cases e
    | cons t ts ih =>
      intro ds τ τ' e
      cases ds with
      | nil => cases e
      | cons d ds =>
        obtain ⟨τ1, _, e2⟩ := bind_ok (show (asg t d τ >>= fun σ1 => asgs ts ds σ1) = .ok τ' from e)
        rw [List.length_cons, List.length_cons, ih ds τ1 τ' e2]
  exact ⟨a, vs, rfl, SqL.of s1, by rw [← hl.length]; exact hlen ts ds _ τ' e', asgs_run ts ds vs _ τ' σ En.nx S' (hl.weak fun b z => .inl z) e' fun σ' S2 _ => h9 own' _ H1 S2⟩
def rIns : V → List V → Hp → VK → Prop := fun x vs H Q => ∃ (l : Addr) (xs : List V) (i : Int) (y : V), x = .ref l ∧ vs = [.int i, y] ∧ H l = some (.lst xs) ∧ xs.length < sizeLine ∧ 0 ≤ i ∧ i < 2 ^ 63 ∧ Q .non (upd H l (.lst (xs.take i.toNat ++ [y] ++ xs.drop i.toNat)))
theorem RepFL.cut {K : PySem.W.Frag} {F : Addr → Prop} {H : Hp} {ds : List D} {vs : List V} (n : Nat) (h : RepL K F H ds vs) : RepL K F H (ds.take n) (vs.take n) ∧ RepL K F H (ds.drop n) (vs.drop n) := by
  induction n generalizing ds vs with
  | zero => exact ⟨rfl, h⟩
  | succ n ih =>
    cases ds with
    | nil => cases (show vs = [] from h); exact ⟨rfl, rfl⟩
    | cons d ds =>
      obtain ⟨v, r, rfl, h1, h2⟩ := h
      exact ⟨⟨v, r.take n, rfl, h1, (ih h2).1⟩, (ih h2).2⟩
theorem ls_ins {i : Nat} {k e : E} (h : rdSt c fu (.ins i k e) En σ H) : tDrop (tBM c.K "list" rIns (tVar i) (tCons (rdE c k) (tCons (rdE c e) tNil))) En σ H := by
  obtain ⟨own, τ, S, h⟩ := h
  obtain ⟨xs0, hx0, h⟩ := out_nx nx_ownL (show EndS c En ((ownL τ i).out fun _ => (ev c.G c.Φ k τ >>= intD).out fun n => (ev c.G c.Φ e τ).out fun d => (ownL (PyI.keepL τ d (lt e ++ li e)) i).out fun xs => if xs.length < sizeLine ∧ 0 ≤ n ∧ n < 2 ^ 63 then .nx ((PyI.keepL τ d (lt e ++ li e)).set i (some (.o (xs.take n.toNat ++ [d] ++ xs.drop n.toNat)))) else .bad) from h)
  obtain ⟨a, vs, h1, h2, h3, _⟩ := S.ows i xs0 (ownL_ok hx0)
  refine ⟨.ref a, h2, .inl ⟨rfl, vs, .inl (.inl h3)⟩, own, τ, S, (out_post S h).bind.imp (fun y _ h w H1 s r1 => ?_) fun _ _ x => x⟩
  obtain ⟨n, hn⟩ : ∃ n, y = .int n := by cases y <;> first | exact ⟨_, rfl⟩ | exact h.elim
  subst hn
  have S1 := S.mono s
  refine ⟨own, τ, S1, (out_post S1 (show EndS c En ((ev c.G c.Φ e τ).out fun d => (ownL (PyI.keepL τ d (lt e ++ li e)) i).out fun xs => if xs.length < sizeLine ∧ 0 ≤ n ∧ n < 2 ^ 63 then .nx ((PyI.keepL τ d (lt e ++ li e)).set i (some (.o (xs.take n.toNat ++ [d] ++ xs.drop n.toNat)))) else .bad) from h)).imp (fun d _ p v H2 s2 r => ?_) fun _ _ x => x⟩
  obtain ⟨xs, hx, p⟩ := out_nx nx_ownL p
  obtain ⟨own', S', r'⟩ := (S1.mono s2).keepL (r.weak (fun a z => ft_l a z) fun _ z => z)
  have q := ownL_ok hx
  obtain ⟨a', vs', g1, g2, g3, g4⟩ := S'.ows i xs q
  rw [h2] at g2
  cases g2
  by_cases hl : xs.length < sizeLine ∧ 0 ≤ n ∧ n < 2 ^ 63
  · rw [if_pos hl] at p
    cases (show w = .int n from r1)
    refine ⟨a, vs', n, v, rfl, rfl, g3, by rw [← g4.length]; exact hl.1, hl.2.1, hl.2.2, ?_⟩
    exact p own' _ _ (S'.change q g1 g3 (((g4.cut n.toNat).1.append (RepFL.one r')).append (g4.cut n.toNat).2))
  · rw [if_neg hl] at p
    exact p.elim
theorem ls_ife {e : E} {a b : Ss} (h : rdSt c fu (.ife e a b) En σ H) : tIfS (rdT c e) (rdSs c fu a) (rdSs c fu b) En σ H := by
  obtain ⟨own, τ, S, h⟩ := h
  refine ⟨own, τ, S, (out_post S h).imp (fun k _ h H1 s => ?_) fun _ _ x => x⟩
  cases k with
  | true => exact ⟨own, τ, S.mono s, h⟩
  | false => exact ⟨own, τ, S.mono s, h⟩
theorem ls_wh {e : E} {b : Ss} (h : rdSt c fu (.wh e b) En σ H) : tWhile (rdT c e) (rdSs c fu b) En σ H := by
  obtain ⟨own, τ, S, h⟩ := h
  refine ⟨fun m σ H => ∃ own τ, Sim c own τ σ H ∧ EndS c En (whL (ev c.G c.Φ e) (exL c.G c.Φ fu b) m τ), ⟨fu, own, τ, S, h⟩, fun m σ H ⟨own, τ, S, h⟩ => ?_⟩
  cases m with
  | zero => exact h.elim
  | succ m =>
    refine ⟨own, τ, S, (out_post S h).imp (fun k _ h H1 s => ?_) fun _ _ x => x⟩
    cases k with
    | false => exact h own σ H1 (S.mono s)
    | true =>
      have h : EndS c En (match (generalizing := false) exL c.G c.Φ fu b τ with
        | .nx σ2 => whL (ev c.G c.Φ e) (exL c.G c.Φ fu b) m σ2
        | .ct σ2 => whL (ev c.G c.Φ e) (exL c.G c.Φ fu b) m σ2
        | .bk σ2 => .nx σ2
        | o => o) := h
      refine ⟨fun σ H => ∃ own τ, Sim c own τ σ H ∧ EndS c En (whL (ev c.G c.Φ e) (exL c.G c.Φ fu b) m τ), fun σ' H' q => ⟨m, Nat.lt_succ_self m, q⟩, own, τ, S.mono s, ?_⟩
      cases z : exL c.G c.Φ fu b τ with
      | nx σ2 => rw [z] at h; exact fun own σ H S => ⟨own, σ2, S, h⟩
      | ct σ2 => rw [z] at h; exact fun own σ H S => ⟨own, σ2, S, h⟩
      | bk σ2 => rw [z] at h; exact h
      | rt d => rw [z] at h; exact h
      | exc x ds => rw [z] at h; exact h
      | bad => rw [z] at h; exact h
theorem ls_nil (h : rdSs c fu .nil En σ H) : tNext En σ H := by
  obtain ⟨own, τ, S, h⟩ := h
  exact h own σ H S
theorem ls_cons {s : S} {r : Ss} (h : rdSs c fu (.cons s r) En σ H) : tSeq (rdSt c fu s) (rdSs c fu r) En σ H := by
  obtain ⟨own, τ, S, h⟩ := h
  have h : EndS c En (match (generalizing := false) exS c.G c.Φ fu s τ with
    | .nx σ1 => exL c.G c.Φ fu r σ1
    | o => o) := h
  refine ⟨own, τ, S, ?_⟩
  cases z : exS c.G c.Φ fu s τ with
  | nx σ2 => rw [z] at h; exact fun own σ H S => ⟨own, σ2, S, h⟩
  | ct σ2 => rw [z] at h; exact h
  | bk σ2 => rw [z] at h; exact h
  | rt d => rw [z] at h; exact h
  | exc x ds => rw [z] at h; exact h
  | bad => rw [z] at h; exact h
/-! ### for -/
abbrev Cc.at (c : Cc) (B : Addr → Prop) (HB : Hp) : Cc := { c with B := B, HB := HB }
theorem Kept.trans {F F2 : Addr → Prop} {H1 H2 H3 : Hp} (k : Kept F H1 H2) (k2 : Kept F2 H2 H3) (n : ∀ a, F2 a → F a ∨ H1 a = none) : Kept F H1 H3 := fun a o e z => k2 a o (k a o e z) (z.imp (fun f f2 => (n a f2).elim f fun q => by rw [e] at q; cases q) id)
theorem Sim.rebase {B : Addr → Prop} {HB : Hp} (S : Sim (c.at B HB) own τ σ H) (k : Kept c.B c.HB HB) (n : ∀ a, B a → c.B a ∨ c.HB a = none) (f : ∀ a, c.F0 a → c.B a) (hn : ∀ a, HB a = none → c.B a ∨ c.HB a = none) : Sim c own τ σ H :=
  ⟨S.len, S.val, S.ows, S.inj, S.al, S.fin, S.f0, S.same, k.trans S.bs.k n, fun i a e => (S.bs.n i a e).elim (n a) (hn a), f⟩
theorem Sim.base {B : Addr → Prop} (S : Sim c own τ σ H) (n : ∀ a, Fb c own [] a → B a) : Sim (c.at B H) own τ σ H :=
  ⟨S.len, S.val, S.ows, S.inj, S.al, S.fin, S.f0, S.same, same_kept (Same.refl H), fun i a e => .inl (n a (.inr ⟨i, e, List.not_mem_nil⟩)), fun a z => n a (.inl z)⟩
theorem bs_none (S : Bs c own H) {a : Addr} (h : H a = none) : c.B a ∨ c.HB a = none := S.new h
theorem ls_fr {tg : Tg} {src : Src} {b : Ss} (h : rdSt c fu (.fr tg src b) En σ H) : tFor (rdS c src) (tgG c.K tg) (fun En σ H => ∃ (B : Addr → Prop) (HB : Hp), rdSs (c.at B HB) fu b En σ H) En σ H := by
  obtain ⟨own, τ, S, h⟩ := h
  refine ⟨own, τ, S, (out_post S h).imp (fun items _ h J H1 s it => ?_) fun _ _ x => x⟩
  obtain ⟨own1, S1, w⟩ := (S.mono s).freeze (ltS src ++ liS src)
  -- the base of the walk
  have W0 : ∀ a, Fb c own1 [] a → Fb c own (ltS src ++ liS src) a := w
  refine ⟨fun i m σ' H' => m + i = items.length ∧ ∃ own' τ', Sim (c.at (Fb c own1 []) H1) own' τ' σ' H' ∧ EndS c En (forL (asg tg) (exL c.G c.Φ fu b) (items.drop i) τ'), ⟨items.length, rfl, own1, _, S1.base fun _ z => z, h⟩, fun i m σ' H' ⟨hm, own', τ', S', h'⟩ => ?_⟩
  have back : ∀ {own2 τ2 σ2 H2}, Sim (c.at (Fb c own1 []) H1) own2 τ2 σ2 H2 → Sim c own2 τ2 σ2 H2 := fun S2 => S2.rebase S1.bs.k (fun a z => z.elim (fun z => .inl (S1.bs.f a z)) fun ⟨j, e, _⟩ => S1.bs.n j a e) S1.bs.f fun a z => S1.bs.new z
  have kp : Kept (Fb c own (ltS src ++ liS src)) H1 H' := Kept.more S'.bs.k W0
  have fb : ∀ a, Fb c own' [] a → Fb c own (liS src) a ∨ H1 a = none := fun a z => by
    rcases z with z | ⟨j, e, _⟩
    · exact .inl (.inl z)
    · exact (S'.bs.n j a e).elim (fun z => .inl (appR a (w a z))) .inr
  obtain ⟨it1, it2⟩ := it (fun a => H1 a = none) (fun _ z => z) H' kp
  cases hd : items[i]? with
  | none =>
    have : items.length ≤ i := List.getElem?_eq_none_iff.mp hd
    refine .inl ⟨it2 i this, ?_⟩
    rw [List.drop_eq_nil_of_le this] at h'
    exact h' own' σ' H' (back S')
  | some d =>
    obtain ⟨hi, hdd⟩ := List.getElem?_eq_some_iff.mp hd
    obtain ⟨g1, g2⟩ := it1 i d hd
    rw [List.drop_eq_getElem_cons hi, hdd] at h'
    obtain ⟨τ1, ha, h'⟩ := out_nx (nx_asg _ _ _) (show EndS c En ((asg tg d τ').out fun σ1 => match (generalizing := false) exL c.G c.Φ fu b σ1 with
      | .nx σ2 => forL (asg tg) (exL c.G c.Φ fu b) (items.drop (i + 1)) σ2
      | .ct σ2 => forL (asg tg) (exL c.G c.Φ fu b) (items.drop (i + 1)) σ2
      | .bk σ2 => .nx σ2
      | o => o) from h')
    refine .inr ⟨g1, fun σ2 H2 => (m - 1) + (i + 1) = items.length ∧ ∃ own2 τ2, Sim (c.at (Fb c own1 []) H1) own2 τ2 σ2 H2 ∧ EndS c En (forL (asg tg) (exL c.G c.Φ fu b) (items.drop (i + 1)) τ2), fun σ2 H2 q => ⟨m - 1, by omega, q⟩, fun x H2 y => ?_⟩
    obtain ⟨s2, rx⟩ := g2 x H2 y
    have rx' : Rep c.K (Fb c own' []) H2 d x := rx.weak fb
    refine asg_run (c := c.at (Fb c own1 []) H1) tg d x τ' τ1 σ' _ (S'.mono s2) rx' ha fun σ3 S3 _ => ⟨Fb c own1 [], H1, own', τ1, S3, ?_⟩
    have hmi : (m - 1) + (i + 1) = items.length := by omega
    cases z : exL c.G c.Φ fu b τ1 with
    | nx σ2 => rw [z] at h'; exact fun own σ H S => ⟨hmi, own, σ2, S, h'⟩
    | ct σ2 => rw [z] at h'; exact fun own σ H S => ⟨hmi, own, σ2, S, h'⟩
    | bk σ2 => rw [z] at h'; exact fun own σ H S => h' own σ H (back S)
    | rt d => rw [z] at h'; exact h'
    | exc x ds => rw [z] at h'; exact fun own τ σ H S => h' own τ σ H (back S)
    | bad => rw [z] at h'; exact h'.elim
end
end PyI
/-! PyI, part 17: an own exception that says super().__init__('..') and stores its arguments. -/
namespace PyI
open PySem PySem.Spec PyProof.Rows L2 NdefX
/-- what the written part says of the class at C and of its __init__ F at f -/
structure XcF (K : PySem.W.Frag) (prog : Program) (C f cc : Addr) (F : NF) : Prop where
  T : OexC K C
  cl : F.cl = [(("__class__" : Str), cc)]
  fn : ∃ (oc : Value) (od : Option Addr) (dV kV doc pm ctv : Value) (an : Option Addr) (osl : Array (Option Value)), K.lookup f = some ⟨oc, od, .func (PySem.W.fnX F.name F.qual F.params F.body F.scope F.cl dV kV doc pm an (.ref F.c) ctv), osl⟩
  code : PySem.W.codeIn K (.ref F.c) F.qual = true
  file : ∃ (ccl : Value) (cdd : Option Addr) (vs : Array Value) (ccs : Array (Option Value)) (fl : Str) (tf : Tok), K.lookup F.c = some ⟨ccl, cdd, .fields vs, ccs⟩ ∧ vs[2]? = some (.str fl tf) ∧ ((prog.main.file : Str) == fl) = true
  top : (prog.main.scope.names.lookup ("super" : Str)).isSome = false
  cell : ∃ (a : Value) (b : Option Addr) (e : Array (Option Value)), K.lookup cc = some ⟨a, b, .cell (some (.ref C)), e⟩
  cls : ∃ cd l, PySem.W.clsIn K C = some cd ∧ cd.mro = l ∧ PySem.W.alongIn K "__init__" ((l.dropWhile (· != .ref C)).drop 1) = some (some (.builtin "ValueError.__init__"))
  me : PySem.W.mroIn K C (.ref C) = some true
  ve : PySem.W.mroIn K C (.type "ValueError") = some true
  st : PySem.W.nsIn K cStatics "thirdparty.any" = some none
  sup : F.scope.names.lookup ("super" : Str) = some .globalImplicit
  kcl : F.scope.names.lookup ("__class__" : Str) = some .free
  kind : F.scope.kind = .function
theorem meth_at {prog : Program} {w : World} {A : Around} {c : Code} {o : Expr} {name : Str} {p2 p4 : Pos} {e : Expr} {env : PySem.Env} {Q : Value → Shared → Prop} {E : Value → Shared → Prop} {s : Shared} (hn : notStar e = true) (hl : (p2.endLine == p4.line) = true)
    (h : PySem.wpAt (model prog w) A c (attributeBase o name env (eval o env)) (fun ov s1 => wpAny (model prog w) A (calleeOf true o env ov name) (fun fx s2 => wpAny (model prog w) A (callWith p4 fx.1 fx.2 (backTo p4 (starEach [e] env)) []) Q E s2) E s1) E s) :
    PySem.wpAt (model prog w) A c (eval (.Call (.Attribute o name p2) [e] [] p4) env) Q E s := by
  have hform : methodCallForm ([e].length + ([] : List Keyword).length) (backTo p4 (starEach [e] env)) (backToKw p4 (keywordEach [] env)) = true := by rw [star_ok hn]; rfl
  have hpos : methodCallPos true o env p2 p4 = pure p4 := by unfold methodCallPos; simp [hl]
  rw [arm_eval_Call]
  refine PySem.wpAt_bind (PySem.wpAt_mono h (fun ov s1 h1 => PySem.wpAt_of_wpAny (wpAny_bind (wpAny_standAt ?_))) fun _ _ x => x)
  unfold methodCall
  rw [hform]
  exact wpAny_bind (wpAny_holding (wpAny_mono h1 (fun fx s2 h2 => wpAny_bind (wpAny_of_eq hpos h2)) fun _ _ x => x))
/-- the wrapper called: the exception's arguments are laid anew -/
theorem mw_call {prog : Program} {w : World} {A : Around} {E : Value → Shared → Prop} {h : Heap} {g : Array GenState} {d : Drawn} {t : Nat} {os : OsState} {nm q : Str} {C N u e t0 : Addr} {bs bm : List Value} {hdct : Bool} {sn : List Str} {sub : List Value} {ab : Bool} {col : Option Bool} {dd : Option Addr}
    {k0 k1 k2 k3 k5 : Option Value} {rest : List Value} {Q : Value → Shared → Prop} (hC : h.get? C = some (excClassObj nm q C N bs bm hdct sn sub ab col dd k0 k1 k2 k3 k5 "ValueError.__new__")) (he : h.get? e = some ({ cls := .ref C, dict := none, data := .fields #[.ref t0, .none, .none, .none, .bool false, .none] } : Obj))
    (hu : h.get? u = some (PySem.W.kxs_mw "ValueError.__init__" e)) (hz : rest.length ≤ sizeLine) (hq : ∀ h' t1, (∀ b o, b ≠ e → h.get? b = some o → h'.get? b = some o) → h'.get? e = some ({ cls := .ref C, dict := none, data := .fields #[.ref t1, .none, .none, .none, .bool false, .none] } : Obj) → Q .none ⟨h', g, d, t, os⟩) :
    wpAny (model prog w) A (call (.ref u) rest) Q E ⟨h, g, d, t, os⟩ := by
  refine wpAny_call (codeAny_of_tree ?_); show wpAny _ A.in1 (callAny (.ref u) ⟨rest, []⟩) _ _ _
  simp only [callAny]; refine wpAny_bind (wpAny_load hu ?_)
  have m1 : (Value.type "method-wrapper" == Value.type "method" || Value.type "method-wrapper" == Value.type "builtin_function_or_method" || Value.type "method-wrapper" == Value.type "method-wrapper") = true := by decide
  simp only [PySem.W.kxs_mw, m1, if_true]; refine PySem.W.KFB.if_so (by decide) ?_
  refine wpAny_bind (PySem.W.check_bound_init F.excBase_ValueError.toExcCallFacts hC he rfl (wpAny_bind (wpAny_pure (wpAny_pure ⟨plainId_quiet F.excBase_ValueError.init.plain _, codeAny_builtin F.excBase_ValueError.initEntry ?_⟩))))
  exact PySem.W.exc_init_tree (cls := .ref C) (t0 := t0) (dv := none) (c2 := .none) (c3 := .none) (b4 := .bool false) he hz fun h' kk e1 _ => hq h' _ kk e1
section
variable {CXt : CXT} {P : Program} {w : World} {K : PySem.W.Frag} {mg : Str → Option Value} {base : Heap} {N : List Str} {F : NF} {f : Addr} {A : Around} {outer : List PySem.Env} {s0 : Shared} {H0 : Hp} {E : XK}
theorem sup_run {X : Cx} (hX : X = ncx CXt P w K mg base N F f A outer s0 H0 E) {C cc a : Addr} {ar : Arg} (T : XcF K P C f cc F) (hmg : mg "super" = none) (hp : (F.params.posonlyargs ++ F.params.args).head? = some ar) (har : N[0]? = some ar.arg) (kar : F.scope.names.lookup ar.arg = some .local)
    {σ : L2.St} {H : Hp} {s : Shared} (I : Inv X [] σ H s) (h0 : σ[0]? = some (some (.ref a))) (ha : H a = some (exo a C none)) {p0 p1 p2 p3 p4 p5 : Pos} {txt : Str} {kd : Nat} {D : Ends} (hl : (p2.endLine == p4.line) = true) (hD : D.nx σ H) :
    PySem.wpAt (model X.prog X.w) X.A (.func F.body X.env) (exec (.Expr (.Call (.Attribute (.Call (.Name "super" p0) [] [] p1) "__init__" p2) [.Constant (.str txt) kd p3] [] p4) p5) X.env) (SP X [] D) X.xe s := by
  subst hX
  obtain ⟨oc, od, dV, kV, doc, pm, ctv, an, osl, lkF⟩ := T.fn
  obtain ⟨ccl, cdd, vs, ccs, fl, tf, lkc, hvs, hfile⟩ := T.file
  obtain ⟨k1, k2, k3, lkcell⟩ := T.cell
  obtain ⟨cd, l, hcd, hml, hal⟩ := T.cls
  have kin := I.kIn
  obtain ⟨t1, hoe⟩ := exo_at I.hok ha
  obtain ⟨mb, hb1, hb2⟩ := I.mod.blt
  obtain ⟨mL, hns, hloc⟩ := I.loc
  refine ks_wpAt_Expr_any (meth_at rfl hl (ks_wpAt_super_base (fd := PySem.W.fnX F.name F.qual F.params F.body F.scope F.cl dV kV doc pm an (.ref F.c) ctv) T.sup T.kcl (by decide) rfl (kin _ _ lkF) rfl hp rfl (kin _ _ lkc) rfl hvs hfile T.top ?_)) I.quiet rfl
  refine PySem.W.ks_loadName_global T.kind T.sup (Calls.loadGlobal_builtin (I.mod.glob.keeps I.bk) hmg (hb1.keeps I.bk) ((hb2 _ (by decide)).trans (by decide +kernel)) ⟨rfl, ?_⟩)
  refine wpAny_loadName_free T.kind T.kcl (by show F.cl.lookup _ = _; rw [T.cl]; rfl) ⟨_, kin _ _ lkcell, rfl⟩ ?_
  obtain ⟨u, ru, look⟩ := hloc 0 ar.arg (.ref a) har h0 (.inl kar)
  have eu : u = .ref a := ru
  subst eu
  have hma : mL ar.arg = some (.ref a) := by
    rcases look with ⟨_, q⟩ | ⟨q, _⟩
    · exact q
    · have q : F.scope.names.lookup ar.arg = some .cell ∨ F.scope.names.lookup ar.arg = some .free := q
      rw [kar] at q
      rcases q with q | q <;> cases q
  refine wpAny_loadName_local T.kind kar hns hma ?_
  obtain ⟨oC, hC1, hC2⟩ : ∃ oC, s.heap.get? C = some oC ∧ oC.data = .cls cd := by
    unfold PySem.W.clsIn at hcd
    split at hcd
    · rename_i c d cd' slt ho
      cases hcd
      exact ⟨_, kin _ _ ho, rfl⟩
    · cases hcd
  obtain ⟨hp0, g, d, tk, os⟩ := s
  refine ks_wpAny_isType_cls hC1 hC2 ⟨rfl, ?_⟩
  refine ks_wpAny_call_super hC1 hC2 hoe rfl (fun c z => nomatch z) (PySem.W.looks_mroIn kin T.me) fun h1 e1 k1 => ?_
  have kin1 : K.In h1 := fun b o e => k1 b o (kin b o e)
  have hoe1 := k1 _ _ hoe
  have isV : PySem.W.Looks (model P w) h1 (isInstance (.ref a) (.type "ValueError")) true := ((PySem.W.Looks.ld hoe1).andThen .now).andThen (PySem.W.looks_mroIn kin1 T.ve)
  have hxC : a ≠ C := fun z => by
    subst z
    have := hoe.symm.trans hC1
    cases this
    cases hC2
  show wpAny _ _ (getMethod _ _ _) _ _ _
  refine PySem.W.kxs_getMethod PySem.W.kxs_ValueError e1 (PySem.W.looks_opaque kin1 T.st) (l₀ := l) ?_ rfl kin1 hal isV hxC (by decide) ?_
  · rw [← hml]
    exact fun A Q E s k q => wpAny_bind ((PySem.W.looks_clsIn kin1 hcd) A _ E s k (wpAny_pure q))
  have k2 : ∀ b o, hp0.get? b = some o → (h1.push (PySem.W.kxs_mw "ValueError.__init__" a)).get? b = some o := fun b o e => Heap.get?_push_of_some _ (k1 _ _ e)
  have mw : (h1.push (PySem.W.kxs_mw "ValueError.__init__" a)).get? h1.objs.size = some (PySem.W.kxs_mw "ValueError.__init__" a) := Heap.get?_push_at rfl rfl
  have I1 : Inv (ncx CXt P w K mg base N F f A outer s0 H0 E) [] σ H ⟨h1, g, d, tk, os⟩ := I.kept (t' := tk) k1
  have hu : H h1.objs.size = none := I1.hok.fresh (Nat.le_refl _)
  have I2 : Inv (ncx CXt P w K mg base N F f A outer s0 H0 E) [(h1.objs.size, PySem.W.kxs_mw "ValueError.__init__" a)] σ H ⟨h1.push (PySem.W.kxs_mw "ValueError.__init__" a), g, d, tk + 1, os⟩ :=
    (I.kept (t' := tk + 1) k2).pins_of fun p hp => by
      have hp : p = (h1.objs.size, PySem.W.kxs_mw "ValueError.__init__" a) := by simpa [ncx] using hp
      subst hp
      exact ⟨mw, hu, Nat.ne_of_gt I1.lt, I1.nofs (Nat.le_refl _), fun v z => nomatch z⟩
  refine PySem.W.kxs_callWith (i := "ValueError.__init__") (x := a) rfl (Calls.evalArgs_plain ?_)
  refine thn ((pa_cons (pe_str (X := ncx CXt P w K mg base N F f A outer s0 H0 E)) pa_nil).run p4 _ _ σ H (fun vs H1 => vs = [.str txt] ∧ H1 = H) I2 ⟨rfl, rfl⟩) fun us s1 ⟨ws, H1, I3, rv, ew, eH⟩ => ?_
  subst ew eH
  obtain ⟨hp1, g1, d1, tk1, os1⟩ := s1
  have pu := (I3.pin (h1.objs.size, PySem.W.kxs_mw "ValueError.__init__" a) (by simp [ncx])).1
  obtain ⟨t2, hoe2⟩ := exo_at I3.hok ha
  obtain ⟨nm, q, Nn, bs, bm, sn, sub, ab, col, dd, c0, c1, c2, c3, c5, hC, hbm⟩ := T.T.cls
  refine ⟨pu, mw_call (I3.kIn _ _ hC) hoe2 pu (by rw [List.nil_append, ← rv.length]; show 1 ≤ sizeLine; decide) fun h' t3 kk e3 => ?_⟩
  have J := I3.write (t' := tk1) (x := a) (e := a) (o := exo a C none) (by rw [ha]; exact True.intro) (.inl rfl) kk ⟨_, e3⟩ (exo_ok e3)
  have eu : upd H1 a (exo a C none) = H1 := by
    funext b
    by_cases hb : b = a
    · rw [hb, upd_same, ha]
    · rw [upd_ne hb]
  rw [eu] at J
  exact ⟨σ, H1, J.pins_of fun p hp => J.pin p (by simp [ncx] at hp), hD⟩
end
end PyI
/-! PyI, part 18: such an __init__ as a whole. -/
namespace PyI
open PySem PySem.Spec PyProof.Rows L2 NdefX
/-- the stores: self.f = p, the parameter's place -/
def chkI (N : List Str) : List (Str × Nat) → List Stmt → Bool
  | [], [] => true
  | (f, j) :: r, .Assign [.Attribute (.Name x _) g _] (.Name y _) _ :: rest => decide (f = g) && (decide (N[0]? = some x) && (decide (N[j]? = some y) && (nmOk x && (nmOk y && chkI N r rest))))
  | _, _ => false
/-- the body: super().__init__('..'), then the stores -/
def chkInit (N : List Str) (fs : List (Str × Nat)) : List Stmt → Bool
  | .Expr (.Call (.Attribute (.Call (.Name x _) [] [] _) m p2) [.Constant (.str _) _ _] [] p4) _ :: rest => decide (x = ("super" : Str)) && (decide (m = ("__init__" : Str)) && ((p2.endLine == p4.line) && chkI N fs rest))
  | _ => false
theorem i_init {N : List Str} {fs : List (Str × Nat)} {b : List Stmt} (h : chkInit N fs b = true) : ∃ p0 p1 p2 txt kd p3 p4 p5 rest, b = .Expr (.Call (.Attribute (.Call (.Name "super" p0) [] [] p1) "__init__" p2) [.Constant (.str txt) kd p3] [] p4) p5 :: rest ∧ (p2.endLine == p4.line) = true ∧ chkI N fs rest = true := by
  cases b with
  | nil => cases h
  | cons st rest =>
    cases st <;> first | cases h | skip
    rename_i e p5
    cases e <;> first | cases h | skip
    rename_i fn args kws p4
    cases fn <;> first | cases h | skip
    rename_i o m p2
    cases o <;> first | cases h | skip
    rename_i fn2 a2 k2 p1
    cases fn2 <;> first | cases h | skip
    rename_i x p0
    cases a2 <;> first | cases h | skip
    cases k2 <;> first | cases h | skip
    cases args with
    | nil => cases h
    | cons v r =>
      cases v <;> first | cases h | skip
      rename_i cst kd p3
      cases cst <;> first | cases h | skip
      rename_i txt
      cases r <;> first | cases h | skip
      cases kws <;> first | cases h | skip
      have h : (decide (x = ("super" : Str)) && (decide (m = ("__init__" : Str)) && ((p2.endLine == p4.line) && chkI N fs rest))) = true := h
      obtain ⟨h1, h⟩ := ba h
      obtain ⟨h2, h⟩ := ba h
      obtain ⟨h3, h4⟩ := ba h
      cases of_decide_eq_true h1
      cases of_decide_eq_true h2
      exact ⟨p0, p1, p2, txt, kd, p3, p4, p5, rest, rfl, h3, h4⟩
theorem i_store {N : List Str} {f : Str} {j : Nat} {r : List (Str × Nat)} {b : List Stmt} (h : chkI N ((f, j) :: r) b = true) : ∃ x px y py p' p rest, b = .Assign [.Attribute (.Name x px) f p'] (.Name y py) p :: rest ∧ N[0]? = some x ∧ N[j]? = some y ∧ nmOk x = true ∧ nmOk y = true ∧ chkI N r rest = true := by
  cases b with
  | nil => cases h
  | cons st rest =>
    cases st <;> first | cases h | skip
    rename_i ts v p
    cases ts with
    | nil => cases h
    | cons t tr =>
      cases t <;> first | (cases tr <;> cases h) | skip
      rename_i o g p'
      cases o <;> first | (cases tr <;> cases h) | skip
      rename_i x px
      cases tr <;> first | cases h | skip
      cases v <;> first | cases h | skip
      rename_i y py
      have h : (decide (f = g) && (decide (N[0]? = some x) && (decide (N[j]? = some y) && (nmOk x && (nmOk y && chkI N r rest))))) = true := h
      obtain ⟨h1, h⟩ := ba h
      obtain ⟨h2, h⟩ := ba h
      obtain ⟨h3, h⟩ := ba h
      obtain ⟨h4, h⟩ := ba h
      obtain ⟨h5, h6⟩ := ba h
      cases of_decide_eq_true h1
      exact ⟨x, px, y, py, p', p, rest, rfl, of_decide_eq_true h2, of_decide_eq_true h3, h4, h5, h6⟩
/-- the stores, read -/
def tStores (K : PySem.W.Frag) : List (Str × Nat) → TS
  | [] => tNext
  | (f, j) :: r => tSeq (tOst K f (tVar 0) (tVar j)) (tStores K r)
theorem pss_stores {X : Cx} (vis : ∀ x ∈ X.N, Vis X.env.scope x) : ∀ (fs : List (Str × Nat)) (b : List Stmt), chkI X.N fs b = true → PSs X b (tStores X.K fs)
  | [], [], _ => pss_nil
  | [], _ :: _, h => by cases h
  | (f, j) :: r, b, h => by
    obtain ⟨x, px, y, py, p', p, rest, rfl, h1, h2, h3, h4, h5⟩ := i_store h
    exact pss_cons (ps_ost (pe_var h1 (vis x (List.mem_of_getElem? h1)) (nm_ok h3).1 (nm_ok h3).2.1) (pe_var h2 (vis y (List.mem_of_getElem? h2)) (nm_ok h4).1 (nm_ok h4).2.1) rfl) (pss_stores vis r rest h5)
theorem stores_old {K : PySem.W.Frag} {C : Addr} {D : Ends} {σ : L2.St} {a dx : Addr} (T : OexC K C) (ne : dx ≠ a) (vs : List V) (h0 : σ[0]? = some (some (.ref a))) : ∀ (fs : List (Str × Nat)) (ys : List (Str × V)) (H : Hp), (∀ p ∈ fs, PySem.W.findIn K (.ref C) p.1 = some none) → (∀ p ∈ fs, ∃ v, vs[p.2]? = some v ∧ σ[p.2]? = some (some v)) →
    ys.length + fs.length ≤ 900 → H a = some (exo a C (some dx)) → H dx = some (exd dx ys) → D.nx σ (upd H dx (exd dx ((valsOf vs fs).reverse ++ ys))) → tStores K fs D σ H
  | [], ys, H, _, _, _, ha, hd, q => by
    have e : upd H dx (exd dx ys) = H := by
      funext b
      by_cases hb : b = dx
      · rw [hb, upd_same, hd]
      · rw [upd_ne hb]
    have q : D.nx σ (upd H dx (exd dx ys)) := q
    rw [e] at q
    exact q
  | (f, j) :: r, ys, H, hn, hv, hl, ha, hd, q => by
    obtain ⟨v, e1, e2⟩ := hv (f, j) List.mem_cons_self
    have hl' : ys.length + (r.length + 1) ≤ 900 := hl
    refine ⟨v, e2, .ref a, h0, a, C, rfl, T, hn _ List.mem_cons_self, .inr ⟨dx, ys, ha, hd, by omega, ?_⟩⟩
    refine stores_old T ne vs h0 r ((f, v) :: ys) _ (fun p hp => hn p (List.mem_cons_of_mem _ hp)) (fun p hp => hv p (List.mem_cons_of_mem _ hp)) (by show ys.length + 1 + r.length ≤ 900; omega) (by rw [upd_ne (Ne.symm ne)]; exact ha) upd_same ?_
    have e3 : vs.getD j .non = v := by rw [List.getD_eq_getElem?_getD, e1]; rfl
    have e4 : (valsOf vs ((f, j) :: r)).reverse ++ ys = (valsOf vs r).reverse ++ (f, v) :: ys := by
      show ((f, vs.getD j .non) :: valsOf vs r).reverse ++ ys = _
      rw [e3, List.reverse_cons, List.append_assoc]
      rfl
    rw [e4] at q
    have e5 : upd (upd H dx (exd dx ((f, v) :: ys))) dx (exd dx ((valsOf vs r).reverse ++ (f, v) :: ys)) = upd H dx (exd dx ((valsOf vs r).reverse ++ (f, v) :: ys)) := by
      funext b
      by_cases hb : b = dx
      · rw [hb, upd_same, upd_same]
      · rw [upd_ne hb, upd_ne hb, upd_ne hb]
    rw [e5]
    exact q
theorem stores_new {K : PySem.W.Frag} {C : Addr} {D : Ends} {σ : L2.St} {a : Addr} (T : OexC K C) (vs : List V) (h0 : σ[0]? = some (some (.ref a))) {fs : List (Str × Nat)} {H : Hp} (hne : fs ≠ []) (hn : ∀ p ∈ fs, PySem.W.findIn K (.ref C) p.1 = some none) (hv : ∀ p ∈ fs, ∃ v, vs[p.2]? = some v ∧ σ[p.2]? = some (some v))
    (hl : fs.length ≤ 900) (ha : H a = some (exo a C none)) (q : ∀ dx, H dx = none → dx ≠ a → D.nx σ (upd (upd H dx (exd dx (valsOf vs fs).reverse)) a (exo a C (some dx)))) : tStores K fs D σ H := by
  cases fs with
  | nil => exact absurd rfl hne
  | cons p r =>
    obtain ⟨f, j⟩ := p
    obtain ⟨v, e1, e2⟩ := hv (f, j) List.mem_cons_self
    have hl' : r.length + 1 ≤ 900 := hl
    refine ⟨v, e2, .ref a, h0, a, C, rfl, T, hn _ List.mem_cons_self, .inl ⟨ha, fun dx hdx ne => ?_⟩⟩
    refine stores_old T ne vs h0 r [(f, v)] _ (fun p hp => hn p (List.mem_cons_of_mem _ hp)) (fun p hp => hv p (List.mem_cons_of_mem _ hp)) (by show 1 + r.length ≤ 900; omega) upd_same (by rw [upd_ne ne, upd_same]) ?_
    have e3 : vs.getD j .non = v := by rw [List.getD_eq_getElem?_getD, e1]; rfl
    have e4 : (valsOf vs ((f, j) :: r)).reverse = (valsOf vs r).reverse ++ [(f, v)] := by
      show ((f, vs.getD j .non) :: valsOf vs r).reverse = _
      rw [e3, List.reverse_cons]
    have q := q dx hdx ne
    rw [e4] at q
    have e5 : upd (upd (upd H dx (exd dx [(f, v)])) a (exo a C (some dx))) dx (exd dx ((valsOf vs r).reverse ++ [(f, v)])) = upd (upd H dx (exd dx ((valsOf vs r).reverse ++ [(f, v)]))) a (exo a C (some dx)) := by
      funext b
      by_cases hb : b = dx
      · rw [hb, upd_same, upd_ne ne, upd_same]
      · by_cases hb2 : b = a
        · rw [hb2, upd_ne (Ne.symm ne), upd_same, upd_same]
        · rw [upd_ne hb, upd_ne hb2, upd_ne hb, upd_ne hb2, upd_ne hb]
    rw [e5]
    exact q
end PyI
/-! PyI, part 19: such an __init__ keeps its promise. -/
namespace PyI
open PySem PySem.Spec PyProof.Rows L2 NdefX
section
variable {P : Program} {w : World} {K : PySem.W.Frag} {mg : Str → Option Value} {base : Heap}
theorem init_ok {C f cc : Addr} {F : NF} {N ps : List Str} {fs : List (Str × Nat)} {fd : FuncData} {k : Nat} {ar : Arg} (T : XcF K P C f cc F) (S : NScope N ps [("__class__" : Str)] F.scope) (hmg : mg "super" = none) (hp : (F.params.posonlyargs ++ F.params.args).head? = some ar) (har : N[0]? = some ar.arg) (hps : ps ≠ [])
    (hfd : ∃ (oc : Value) (od : Option Addr) (osl : Array (Option Value)) (dV kV doc pm ctv : Value) (an : Option Addr), fd = PySem.W.fnX F.name F.qual F.params F.body F.scope F.cl dV kV doc pm an (.ref F.c) ctv ∧ K.lookup f = some ⟨oc, od, .func fd, osl⟩)
    (vis : ∀ x ∈ N, Vis F.scope x) (hb : chkInit N fs F.body = true) (hne : fs ≠ []) (hfl : fs.length ≤ 900) (hfj : ∀ p ∈ fs, p.2 < ps.length) (hfn : ∀ p ∈ fs, PySem.W.findIn K (.ref C) p.1 = some none) :
    FnOk P w K mg base (L2.CX P w) (k + 1) f fd ps (spInit C (ps.length - 1) fs) := by
  have p1 : 1 ≤ ps.length := by
    cases ps with
    | nil => exact absurd rfl hps
    | cons _ _ => exact Nat.succ_le_succ (Nat.zero_le _)
  refine ⟨fun vs H Q E ⟨a, us, e, h, _⟩ => by rw [e, List.length_cons, h]; omega, fun A outer s H args us vs Q E hr e0 hbind r hsp => ?_⟩
  obtain ⟨a, us', ev, hlen, ha, q⟩ := hsp
  obtain ⟨oc, od, osl, dV, kV, doc, pm, ctv, an, rfl, lkF⟩ := hfd
  have hl : vs.length = ps.length := by rw [ev, List.length_cons, hlen]; omega
  have KX : K.In s.heap := e0.mod.kin.keeps fun b o e => (e0.bs b o e).1
  have lim : s.heap.NoLimit := e0.mod.nolimit.keeps fun b o e => (e0.bs b o e).1
  obtain ⟨p0, p1', p2, txt, kd, p3, p4, p5, rest, ebody, hline, hst⟩ := i_init hb
  refine ks_codeAny_call_defAt (body := F.body) (binds := ps.zip us) hr.depth (KX _ _ lkF) rfl lim (PySem.W.codeRec_of KX T.code) rfl hbind S.nocell (fun y hy => S.par y.1 (List.of_mem_zip hy).1) (fun h1 hns kp => ?_) S.co S.gen S.kind
  obtain ⟨c1, c2, c3, lkcell⟩ := T.cell
  have kb : ∀ {b o}, K.lookup b = some o → H b = none := fun {b o} e => (e0.bs b o (e0.mod.kin _ _ e)).2
  have CA : CellsAt F.cl ["__class__"] [some (.ref C)] s.heap H := by
    rw [T.cl]
    refine ⟨rfl, fun y c e => ?_, fun x y c e1 e2 => ?_, fun i y e => ?_⟩
    · rw [List.lookup_cons] at e
      split at e
      · cases e
        exact ⟨kb lkcell, _, _, KX _ _ lkcell, rfl⟩
      · cases e
    · rw [List.lookup_cons] at e1 e2
      split at e1
      · rename_i z1
        split at e2
        · rename_i z2
          rw [eq_of_beq z1, eq_of_beq z2]
        · cases e2
      · cases e1
    · cases i with
      | zero =>
        cases e
        exact ⟨cc, rfl, fun v hv => by cases hv; exact ⟨.ref C, rfl, _, KX _ _ lkcell, rfl⟩⟩
      | succ i => cases e
  have I : Inv (ncx (L2.CX P w) P w K mg base N F f A outer s H E) [] (startF N vs [some (.ref C)]) H { s with heap := h1, toks := s.toks + (ps.zip us).length } := inv_startN S hr.hd e0 hl r CA hns kp
  have h0 : (startF N vs [some (.ref C)])[0]? = some (some (.ref a)) := by rw [ev]; rfl
  have hps0 : ps[0]? = some ar.arg := by
    have q : (ps ++ [("__class__" : Str)])[0]? = some ar.arg := by rw [← S.pre, List.getElem?_take_of_lt (by omega)]; exact har
    rwa [List.getElem?_append_left (by omega)] at q
  have kar := S.par ar.arg (List.mem_of_getElem? hps0)
  have hv : ∀ p ∈ fs, ∃ v, vs[p.2]? = some v ∧ (startF N vs [some (.ref C)])[p.2]? = some (some v) := fun p hp => by
    have lt : p.2 < vs.length := by rw [hl]; exact hfj p hp
    refine ⟨vs[p.2], List.getElem?_eq_getElem lt, ?_⟩
    unfold startF
    rw [List.getElem?_append_left (by rw [List.length_map]; exact lt), List.getElem?_map, List.getElem?_eq_getElem lt]
    rfl
  have ex : execs F.body (ncx (L2.CX P w) P w K mg base N F f A outer s H E).env = execs (.Expr (.Call (.Attribute (.Call (.Name "super" p0) [] [] p1') "__init__" p2) [.Constant (.str txt) kd p3] [] p4) p5 :: rest) (ncx (L2.CX P w) P w K mg base N F f A outer s H E).env := by rw [ebody]
  show PySem.wpAt (model P w) (ncx (L2.CX P w) P w K mg base N F f A outer s H E).A (.func F.body (ncx (L2.CX P w) P w K mg base N F f A outer s H E).env) (execs F.body (ncx (L2.CX P w) P w K mg base N F f A outer s H E).env) _ (ncx (L2.CX P w) P w K mg base N F f A outer s H E).xe _
  rw [ex]
  refine ks_wpAt_execs_cons (PySem.wpAt_mono (sup_run (X := ncx (L2.CX P w) P w K mg base N F f A outer s H E) rfl T hmg hp har kar I h0 ha (D := { nx := fun σ' H' => σ' = startF N vs [some (.ref C)] ∧ H' = H, rt := fun _ _ => False }) hline ⟨rfl, rfl⟩) (fun fl s1 hs => ?_) fun _ _ x => x)
  have hs0 := hs
  cases fl with
  | next =>
    obtain ⟨σ', H', J, e1, e2⟩ := hs
    subst e1 e2
    refine PySem.wpAt_of_wpAny (wpAny_mono ((pss_stores (X := ncx (L2.CX P w) P w K mg base N F f A outer s H' E) vis fs rest hst).run [] s1 _ H' { nx := fun _ H2 => Q .non H2, rt := Q } J (stores_new T.T vs h0 hne hfn hv hfl ha q)) (fun fl s' hs => ?_) fun e s' hs => hs)
    have fin : ∀ {σ' : L2.St} {H2 : Hp} {v : V} {u : Value}, Inv (ncx (L2.CX P w) P w K mg base N F f A outer s H' E) [] σ' H2 s' → RelV v u → Q v H2 → CE outer P w H' s Q u s' := fun {σ' H2 v u} J rv q => ⟨v, H2, J.os, J.bare, J.base, J.hok, rv, q⟩
    cases fl with
    | ret u =>
      obtain ⟨v, σ', H2, J, rv, q⟩ := hs
      exact fin J rv q
    | next =>
      obtain ⟨σ', H2, J, q⟩ := hs
      exact fin (v := V.non) (u := Value.none) J rfl q
    | brk =>
      obtain ⟨_, _, _, q⟩ := hs
      exact q.elim
    | cont =>
      obtain ⟨_, _, _, q⟩ := hs
      exact q.elim
  | ret u =>
    obtain ⟨_, _, _, _, _, q⟩ := hs
    exact q.elim
  | brk =>
    obtain ⟨_, _, _, q⟩ := hs
    exact q.elim
  | cont =>
    obtain ⟨_, _, _, q⟩ := hs
    exact q.elim
end
end PyI
/-! PyI, part 20: raising such an exception. -/
namespace PyI
open PySem PySem.Spec PyProof.Rows L2 NdefX
theorem vals_idx (pre : List V) : ∀ (fl : List Str) (vs : List V), vs.length = fl.length → valsOf (pre ++ vs) (idx pre.length fl) = fl.zip vs
  | [], vs, _ => by cases vs <;> rfl
  | f :: r, [], h => by cases h
  | f :: r, v :: vs, h => by
    show (f, (pre ++ v :: vs).getD pre.length .non) :: valsOf (pre ++ v :: vs) (idx (pre.length + 1) r) = (f, v) :: r.zip vs
    have e1 : (pre ++ v :: vs).getD pre.length .non = v := by
      rw [List.getD_eq_getElem?_getD, List.getElem?_append_right (Nat.le_refl _), Nat.sub_self]
      rfl
    have e2 := vals_idx (pre ++ [v]) r vs (by simpa using h)
    rw [List.append_assoc, List.length_append] at e2
    rw [e1]
    exact congrArg ((f, v) :: ·) e2
section
variable {c : Cc} {own : Nat → Option Addr} {τ : Env} {σ : L2.St} {H : Hp} {En : Ends} {fu : Nat}
theorem ls_raise {x : Str} {es : Es} {C : Addr} {fl : List Str} (hm : c.mg x = some (.ref C)) (hf : c.xf x = fl) (he : esLen es = fl.length) (hl : fl.length ≤ 900) (h : rdSt c fu (.raise x es) En σ H) :
    tMkO C (spInit C fl.length (idx 1 fl)) [] (rdA c es) σ H (fun cls d H' => c.W cls d σ H') := by
  obtain ⟨own, τ, S, h⟩ := h
  have h : EndS c En ((evs c.G c.Φ es τ).out fun ds => .exc x ds) := h
  refine ⟨own, τ, S, ?_⟩
  cases ev : evs c.G c.Φ es τ with
  | bad => rw [ev] at h; exact h.elim
  | exc y ds => rw [ev] at h; exact h own τ σ H S
  | ok ds =>
    rw [ev] at h
    have hx : ExW c σ H x ds := h own τ σ H S
    intro vs H1 s r ra
    have lds := evs_len ev
    have lvs : vs.length = fl.length := by rw [← r.length, lds, he]
    refine ⟨by omega, fun a ha => ⟨a, vs, by rw [List.append_nil], lvs, upd_same, fun dx hdx ne => ?_⟩⟩
    have hd1 : H1 dx = none := by rw [upd_ne ne] at hdx; exact hdx
    refine ⟨rfl, dx, _, upd_same, by rw [upd_ne ne, upd_same], hd1, ?_⟩
    have e1 : valsOf (.ref a :: (vs ++ [])) (idx 1 fl) = fl.zip vs := by
      rw [List.append_nil]
      exact vals_idx [.ref a] fl vs lvs
    rw [e1]
    have sm : Same H1 (upd (del (upd (upd (upd H1 a (exo a C none)) dx (exd dx (fl.zip vs).reverse)) a (exo a C (some dx))) a) dx (.xd (fl.zip vs).reverse)) := fun b o e => by
      have n1 : b ≠ a := fun z => by rw [z, ha] at e; cases e
      have n2 : b ≠ dx := fun z => by rw [z, hd1] at e; cases e
      rw [upd_ne n2, del_ne n1, upd_ne n1, upd_ne n2, upd_ne n1]
      exact e
    refine hx _ _ _ (s.trans sm) ⟨C, hm, rfl, dx, fl.zip vs, rfl, upd_same, ?_, ?_⟩
    · rw [hf, List.map_fst_zip (by omega)]
    · rw [List.map_snd_zip (by omega)]
      exact (r.weak fun b z => .inl z).same sm
end
end PyI
/-! PyI, part 21: what an except clause says. -/
namespace PyI
open PySem PySem.Spec PyProof.Rows L2
/-! ### the check -/
def eName (n : Option Str) (x : Str) : Bool := match n with
  | some y => decide (x = y)
  | none => false
def hesLen : HEs → Nat
  | .nil => 0
  | .cons _ r => hesLen r + 1
def isName : Expr → Bool
  | .Name .. => true
  | _ => false
def nameIs (n : Option Str) : Expr → Bool
  | .Name x _ => eName n x
  | _ => false
mutual
def chkHE (k : Ck) (sc : Scope) (n : Option Str) : HE → Expr → Bool
  | .non, .Constant .none _ _ => true
  | .bl b, .Constant (.bool j) _ _ => b == j
  | .int i, .Constant (.int j) _ _ => decide (i = j)
  | .str i, .Constant (.str j) _ _ => decide (i = j)
  | .fld f, .Attribute o g _ => decide (f = g) && nameIs n o
  | .isi c, .Call (.Name y _) [o, .Name z _] [] _ => nameIs n o && (decide (y = ("isinstance" : Str)) && (k.fr.contains y && (gl sc y && (decide (z = c) && (k.cls.contains c && (gl sc z && nmOk z))))))
  | .not a, .UnaryOp .Not x _ => chkHE k sc n a x
  | .and a b, .BoolOp .And (x :: y :: r) p => chkHE k sc n a x && (match r with
    | [] => chkHE k sc n b y
    | z :: r => chkHE k sc n b (.BoolOp .And (y :: z :: r) p))
  | .or a b, .BoolOp .Or (x :: y :: r) p => chkHE k sc n a x && (match r with
    | [] => chkHE k sc n b y
    | z :: r => chkHE k sc n b (.BoolOp .Or (y :: z :: r) p))
  | .tup es, .Tuple xs _ _ => decide (hesLen es ≤ 1000) && chkHEs k sc n es xs
  | .cne i z, .Compare (.Call (.Attribute (.Name y _) m ap) [.Constant (.bool true) _ _] [] cp) [.NotEq] [.Constant (.int j) _ _] _ => decide (k.N[i]? = some y) && (isLocal sc y && (nmOk y && (decide (m = ("count" : Str)) && ((ap.endLine == cp.line) && decide (z = j)))))
  | _, _ => false
def chkHEs (k : Ck) (sc : Scope) (n : Option Str) : HEs → List Expr → Bool
  | .nil, [] => true
  | .cons e r, x :: xs => notStar x && (chkHE k sc n e x && chkHEs k sc n r xs)
  | _, _ => false
end
/-- what may stand as a test -/
def htOk : HE → Bool
  | .not a => htOk a
  | .and a b => htOk a && htOk b
  | .or a b => htOk a && htOk b
  | .isi _ => true
  | .cne _ _ => true
  | _ => false
def chkHn (k : Ck) (sc : Scope) (n : Option Str) : Hn → List Stmt → Bool
  | .ret e, [.Return (some v) _] => chkHE k sc n e v
  | .ife c a b, .If t p [] _ :: rest => htOk c && (chkHE k sc n c t && (chkHn k sc n a p && chkHn k sc n b rest))
  | .mk i es r, .Assign [.Name y _] (.List xs _) _ :: rest => decide (k.N[i]? = some y) && (isLocal sc y && (nmOk y && (!eName n y && (decide (hesLen es ≤ 1000) && (chkHEs k sc n es xs && chkHn k sc n r rest)))))
  | .mkA i es r, .Assign [.Name y _] (.BinOp (.Name y2 _) .Add (.List xs _) _) _ :: rest => decide (k.N[i]? = some y) && (decide (y2 = y) && (isLocal sc y && (nmOk y && (!eName n y && (decide (hesLen es ≤ 1000) && (chkHEs k sc n es xs && chkHn k sc n r rest))))))
  | _, _ => false
/-! ### the readings -/
structure Hc where
  c : Cc
  xs : List (Str × List Str)
  i : Option Nat
  a : Addr
  cls : Value
  d : Option Addr
structure HSt (h : Hc) (σ : L2.St) (H : Hp) (x : Str) (ds : List D) (mk : List (Nat × List Bool)) : Prop where
  sl : ∀ i, h.i = some i → ∃ σ0 : L2.St, σ = σ0.set i (some (.ref h.a))
  hx : (h.xs.lookup x).isSome = true
  ex : ExAt h.c.K h.c.mg h.c.xf h.c.F0 H x ds h.cls h.d
  mks : ∀ i bs, mk.lookup i = some bs → ∃ a, (i < σ.length → σ[i]? = some (some (.ref a))) ∧ H a = some (.lst (bs.map V.bl))
theorem HSt.same {h : Hc} {σ : L2.St} {H H' : Hp} {x : Str} {ds : List D} {mk : List (Nat × List Bool)} (t : HSt h σ H x ds mk) (s : Same H H') : HSt h σ H' x ds mk := ⟨t.sl, t.hx, by
  obtain ⟨C, h1, h2, d, fs, h3, h4, h5, h6⟩ := t.ex
  exact ⟨C, h1, h2, d, fs, h3, s _ _ h4, h5, h6.same s⟩, fun i bs e => by
  obtain ⟨a, h1, h2⟩ := t.mks i bs e
  exact ⟨a, h1, s _ _ h2⟩⟩
def rdHE (h : Hc) (e : HE) : TE := fun σ H Q => ∃ x ds mk, HSt h σ H x ds mk ∧ ∃ D, heD h.xs x ds mk e = .ok D ∧ ∀ v H', Same H H' → Rep h.c.K h.c.F0 H' D v → Q v H'
def rdHT (h : Hc) (e : HE) : TT := fun σ H Q => ∃ x ds mk, HSt h σ H x ds mk ∧ ∃ b, heD h.xs x ds mk e = .ok (.bl b) ∧ ∀ H', Same H H' → Q b H'
def rdHA (h : Hc) (es : HEs) : TA := fun σ H Q => ∃ x ds mk, HSt h σ H x ds mk ∧ ∃ Ds, hesD h.xs x ds mk es = .ok Ds ∧ ∀ vs H', Same H H' → RepL h.c.K h.c.F0 H' Ds vs → Q vs H'
def rdHn (h : Hc) (n : Hn) : TS := fun En σ H => ∃ x ds mk, HSt h σ H x ds mk ∧ ∃ D, hnD h.xs x ds n mk = .ok D ∧ ∀ v H', Same H H' → Rep h.c.K h.c.F0 H' D v → En.rt v H'
/-- the context of a clause -/
structure HGood (k : Ck) (X : Cx) (h : Hc) (sc : Scope) (n : Option Str) : Prop where
  sc : X.env.scope = sc
  N : X.N = k.N
  nd : X.N.Nodup
  K : h.c.K = X.K
  mg : h.c.mg = X.mg
  fr : ∀ x ∈ k.fr, X.mg x = none
  xs : h.xs = k.exs
  xf : ∀ p ∈ k.exs, h.c.xf p.1 = p.2
  exq : ∀ p ∈ k.exs, ExQ X.K X.mg k.cls p.1 p.2
  ni : n = none → h.i = none
  nm : ∀ y, n = some y → ∃ i, h.i = some i ∧ k.N[i]? = some y ∧ X.env.scope.names.lookup y = some .local ∧ nmOk y = true
theorem ex_mem {x : Str} {fl : List Str} : ∀ {l : List (Str × List Str)}, l.lookup x = some fl → (x, fl) ∈ l
  | [], h => by cases h
  | (y, gl) :: r, h => by
    rw [List.lookup_cons] at h
    split at h
    · rename_i z
      cases h
      rw [eq_of_beq z]
      exact List.mem_cons_self
    · exact List.mem_cons_of_mem _ (ex_mem h)
section
variable {k : Ck} {X : Cx} {h : Hc} {sc : Scope} {n : Option Str}
theorem HGood.at (g : HGood k X h sc n) {σ : L2.St} {H : Hp} {x : Str} {ds : List D} {mk : List (Nat × List Bool)} (t : HSt h σ H x ds mk) : ∃ (fl : List Str) (C dd : Addr) (fs : List (Str × V)), (x, fl) ∈ k.exs ∧ h.xs.lookup x = some fl ∧ X.mg x = some (.ref C) ∧ h.cls = .ref C ∧ h.d = some dd ∧ H dd = some (.xd fs.reverse) ∧ fs.map (·.1) = fl ∧ RepL h.c.K h.c.F0 H ds (fs.map (·.2)) := by
  obtain ⟨fl, hfl⟩ := Option.isSome_iff_exists.mp t.hx
  obtain ⟨C, h1, h2, d, fs, h3, h4, h5, h6⟩ := t.ex
  have m : (x, fl) ∈ k.exs := by rw [← g.xs]; exact ex_mem hfl
  exact ⟨fl, C, d, fs, m, hfl, by rw [← g.mg]; exact h1, h2, h3, h4, by rw [h5]; exact g.xf _ m, h6⟩
theorem pe_e (g : HGood k X h sc n) {pn : List (Addr × Obj)} {x : Str} {p : Pos} (hn : eName n x = true) : PE (X.suite h.a pn) (.Name x p) (fun σ H Q => (∀ i, h.i = some i → ∃ σ0 : L2.St, σ = σ0.set i (some (.ref h.a))) ∧ Q (.ref h.a) H) := by
  unfold eName at hn
  cases n with
  | none => cases hn
  | some y =>
    cases of_decide_eq_true hn
    obtain ⟨i, hi, hN, hl, hm⟩ := g.nm x rfl
    have base : PE (X.suite h.a pn) (.Name x p) (tVar i) := pe_var (by show X.N[i]? = _; rw [g.N]; exact hN) (.inl hl) (nm_ok hm).1 (nm_ok hm).2.1
    refine ⟨fun pins s σ H Q I q => base.run pins s σ H Q I ?_⟩
    obtain ⟨q1, q2⟩ := q
    obtain ⟨σ0, e⟩ := q1 i hi
    refine ⟨.ref h.a, ?_, q2⟩
    have hlen : σ.length = X.N.length := I.len
    have hi2 : i < X.N.length := by rw [g.N]; exact (List.getElem?_eq_some_iff.mp hN).1
    rw [e, List.length_set] at hlen
    rw [e, List.getElem?_set_self (by omega)]
theorem pe_nm (g : HGood k X h sc n) {pn : List (Addr × Obj)} {o : Expr} (hn : nameIs n o = true) : (∃ x p, o = .Name x p) ∧ PE (X.suite h.a pn) o (fun σ H Q => (∀ i, h.i = some i → ∃ σ0 : L2.St, σ = σ0.set i (some (.ref h.a))) ∧ Q (.ref h.a) H) := by
  cases o <;> first | cases hn | exact ⟨⟨_, _, rfl⟩, pe_e g hn⟩
theorem fld_look {K : PySem.W.Frag} {F : Addr → Prop} {H : Hp} {f : Str} {D : D} : ∀ {fs : List (Str × V)} {ds : List PyI.D}, (fs.map (·.1)).Nodup → RepL K F H ds (fs.map (·.2)) → fldD (fs.map (·.1)) ds f = .ok D → ∃ v, (f, v) ∈ fs ∧ Rep K F H D v
  | [], ds, _, _, e => by cases ds <;> cases e
  | (g, v) :: r, ds, nd, rp, e => by
    cases ds with
    | nil => cases e
    | cons d ds =>
      obtain ⟨v', vs', e1, r1, r2⟩ := rp
      cases e1
      have e : (if g = f then Res.ok d else fldD (r.map (·.1)) ds f) = .ok D := e
      by_cases z : g = f
      · rw [if_pos z] at e
        cases e
        exact ⟨v, by rw [z]; exact List.mem_cons_self, r1⟩
      · rw [if_neg z] at e
        obtain ⟨v2, m, r3⟩ := fld_look (List.nodup_cons.mp nd).2 r2 e
        exact ⟨v2, List.mem_cons_of_mem _ m, r3⟩
theorem look_nd {f : Str} {v : V} : ∀ {l : List (Str × V)}, (l.map (·.1)).Nodup → (f, v) ∈ l → l.lookup f = some v
  | [], _, m => by cases m
  | (g, w) :: r, nd, m => by
    rw [List.lookup_cons]
    have nd := List.nodup_cons.mp nd
    rcases List.mem_cons.mp m with e | m
    · cases e
      simp
    · have ne : f ≠ g := fun z => nd.1 (by rw [← z]; exact List.mem_map.mpr ⟨(f, v), m, rfl⟩)
      have e : (f == g) = false := by simpa using ne
      rw [e]
      exact look_nd nd.2 m
/-- a list's name -/
theorem pe_mk (g : HGood k X h sc n) {pn : List (Addr × Obj)} {i : Nat} {y : Str} {p : Pos} (h1 : k.N[i]? = some y) (h2 : isLocal sc y = true) (h3 : nmOk y = true) : PE (X.suite h.a pn) (.Name y p) (fun σ H Q => ∃ a, (i < σ.length → σ[i]? = some (some (.ref a))) ∧ Q (.ref a) H) := by
  have hl : X.env.scope.names.lookup y = some .local := by rw [g.sc]; exact local_ok h2
  have base : PE (X.suite h.a pn) (.Name y p) (tVar i) := pe_var (by show X.N[i]? = _; rw [g.N]; exact h1) (.inl hl) (nm_ok h3).1 (nm_ok h3).2.1
  refine ⟨fun pins s σ H Q I q => base.run pins s σ H Q I ?_⟩
  obtain ⟨a, q1, q2⟩ := q
  have hlen : σ.length = X.N.length := I.len
  have hi2 : i < X.N.length := by rw [g.N]; exact (List.getElem?_eq_some_iff.mp h1).1
  exact ⟨.ref a, q1 (by omega), q2⟩
def eqb (v : Value) : Bool := match v with
  | .bool b => b
  | _ => false
theorem eqb_count : ∀ bs : List Bool, (bs.map Value.bool).countP eqb = bs.count true
  | [] => rfl
  | b :: r => by
    rw [List.map_cons, List.countP_cons, List.count_cons, eqb_count r]
    cases b <;> rfl
/-- xs.count(True) of a list of bools -/
def rCntB (K : PySem.W.Frag) : V → List V → Hp → VK → Prop := fun x xs H Q => ∃ (p : Addr) (bs : List Bool), x = .ref p ∧ xs = [.bl true] ∧ SqL K H p (bs.map V.bl) ∧ Q (.int (bs.count true : Nat)) H
theorem mt_lcountB {X : Cx} : MtR X "list.count" (rCntB X.K) := by
  intro pins s σ H x xs v us Q I rx rxs h
  obtain ⟨p, bs, rfl, rfl, hs, q⟩ := h
  cases rx
  obtain ⟨u, rfl, ru⟩ := rxs.one
  cases (show u = .bool true from ru)
  obtain ⟨its, rv, ⟨⟨cls, dd, data, sl⟩, n, ho, hc, hdn, hd⟩, hlen⟩ := I.list hs
  simp only at hc hd
  subst hc hd
  have hi := rv.bls
  refine call_meets PySem.F.slot_list_count ⟨_, ho, rfl⟩ PySem.F.entry_list_count (PySem.F.args_list_count_2 _ _)
    (SeqAt.list_countAt p its.toArray n dd sl (.bool true) eqb) ⟨ho, fun y hy => ?_, ?_⟩
  · have hy : y ∈ its := by simpa using hy
    rw [hi] at hy
    obtain ⟨b, _, rfl⟩ := List.mem_map.mp hy
    cases b <;> exact SeqAt.EqAt.bool_bool _ true
  · have ec : its.toArray.toList.countP eqb = bs.count true := by rw [hi]; exact eqb_count bs
    refine ⟨.int (bs.count true : Nat), H, I.tok _, ⟨s.toks, ?_⟩, q⟩
    show Value.int ((its.toArray.toList.countP eqb : Nat) : Int) s.toks = Value.int ((bs.count true : Nat) : Int) s.toks
    rw [ec]
theorem lh_cne {K : PySem.W.Frag} {i : Nat} {z : Int} {σ : L2.St} {H : Hp} {Q : VK} (q : rdHE h (.cne i z) σ H Q) : tOp rNe (tBM K "list" (rCntB K) (fun σ H Q => ∃ a, (i < σ.length → σ[i]? = some (some (.ref a))) ∧ Q (.ref a) H) (tCons (tC (.bl true)) tNil)) (tC (.int z)) σ H Q := by
  obtain ⟨x, ds, mk, t, D, e, kk⟩ := q
  have e : (match mk.lookup i with
    | some bs => Res.ok (PyI.D.bl (!decide (((bs.count true : Nat) : Int) = z)))
    | none => .bad) = .ok D := e
  cases w : mk.lookup i with
  | none => rw [w] at e; cases e
  | some bs =>
    rw [w] at e
    cases e
    obtain ⟨a, w1, w2⟩ := t.mks i bs w
    refine ⟨a, w1, .inl ⟨rfl, _, .inl (.inl w2)⟩, a, bs, rfl, rfl, .inl (.inl w2), rfl, ?_⟩
    have e2 : decide (V.int ((bs.count true : Nat) : Int) = V.int z) = decide (((bs.count true : Nat) : Int) = z) := by
      rw [dec_int]
      exact Bool.eq_iff_iff.mpr (by simp)
    rw [e2]
    exact kk _ H (Same.refl H) rfl
theorem lh_cneT {K : PySem.W.Frag} {i : Nat} {z : Int} {σ : L2.St} {H : Hp} {Q : Bool → Hp → Prop} (q : rdHT h (.cne i z) σ H Q) : tTest (tOp rNe (tBM K "list" (rCntB K) (fun σ H Q => ∃ a, (i < σ.length → σ[i]? = some (some (.ref a))) ∧ Q (.ref a) H) (tCons (tC (.bl true)) tNil)) (tC (.int z))) σ H Q := by
  obtain ⟨x, ds, mk, t, b, e, kk⟩ := q
  exact lh_cne (Q := fun x H1 => ∃ k, x = V.bl k ∧ Q k H1) ⟨x, ds, mk, t, _, e, fun v H' s r => ⟨b, r, kk H' s⟩⟩
theorem cne_ok (g : HGood k X h sc n) {pn : List (Addr × Obj)} {i : Nat} {z : Int} {y m : Str} {p p1 ap cp p3 p4 : Pos} {u1 u2} (h1 : k.N[i]? = some y) (h2 : isLocal sc y = true) (h3 : nmOk y = true) (h4 : m = ("count" : Str)) (h5 : (ap.endLine == cp.line) = true) :
    PE (X.suite h.a pn) (.Compare (.Call (.Attribute (.Name y p1) m ap) [.Constant (.bool true) u1 p3] [] cp) [.NotEq] [.Constant (.int z) u2 p4] p) (rdHE h (.cne i z)) ∧
    PT (X.suite h.a pn) (.Compare (.Call (.Attribute (.Name y p1) m ap) [.Constant (.bool true) u1 p3] [] cp) [.NotEq] [.Constant (.int z) u2 p4] p) (rdHT h (.cne i z)) := by
  subst h4
  have pa : PA (X.suite h.a pn) [.Constant (.bool true) u1 p3] (tCons (tC (.bl true)) tNil) := pa_cons pe_bl pa_nil rfl
  have r := pe_bm (X := X.suite h.a pn) (cpos := cp) (apos := ap) PySem.F.plainAttrs_list PySem.F.slot_list_count PySem.F.type_list_count mt_lcountB (pe_mk g (p := p1) h1 h2 h3) pa rfl rfl h5 rfl rfl
  exact ⟨peImp (pe_cmpR op_ne r pe_int rfl) fun σ H Q q => lh_cne q, ptImp (pt_cmpR op_ne r pe_int rfl) fun σ H Q q => lh_cneT q⟩
variable {oe : Obj} {pn : List (Addr × Obj)}
theorem se_fld (g : HGood k X h sc n) (hz : Zc h.cls h.d oe) (hf : ∃ vs, oe.data = .fields vs) {o : Expr} {f : Str} {p : Pos} (hn : nameIs n o = true) : PE (X.suite h.a ((h.a, oe) :: pn)) (.Attribute o f p) (rdHE h (.fld f)) := ⟨fun pins s σ H Q I q => by
  obtain ⟨x, ds, mk, t, D, e, kk⟩ := q
  obtain ⟨fl, C, dd, fs, m, hl, hm, hc, hd, hH, hmap, hr⟩ := g.at t
  obtain ⟨C', q1, q2, q3, q4, q5, _⟩ := g.exq _ m
  have eC : C' = C := by
    rw [hm] at q1
    cases q1
    rfl
  subst eC
  have e : (match h.xs.lookup x with
    | some fl => fldD fl ds f
    | none => Res.bad) = .ok D := e
  rw [hl] at e
  have e : fldD fl ds f = .ok D := e
  have q5 : fl.Nodup := q5
  rw [← hmap] at e q5
  obtain ⟨v, mv, rv⟩ := fld_look q5 hr e
  have fin : f ∈ fl := by rw [← hmap]; exact List.mem_map.mpr ⟨(f, v), mv, rfl⟩
  obtain ⟨⟨y, py, rfl⟩, pe⟩ := pe_nm g (pn := (h.a, oe) :: pn) hn
  refine (pe_xf q2 (q4 f fin) hz hf pe rfl).run pins s σ H Q I ?_
  refine ⟨t.sl, rfl, hc, dd, fs.reverse, v, hd, hH, look_nd ?_ (List.mem_reverse.mpr mv), kk v H (Same.refl H) rv⟩
  rw [List.map_reverse]
  exact List.pairwise_reverse.mpr (q5.imp Ne.symm)⟩
/-- isinstance(e, c), e the exception that the suite holds -/
def rIsX (K : PySem.W.Frag) (D a : Addr) (d : Option Addr) : List V → Hp → VK → Prop := fun xs H Q => ∃ (c : V) (cv : Value) (b : Bool) (dd : Addr) (fs : List (Str × V)), xs = [.ref a, c] ∧ (∀ u, RelV c u → u = cv) ∧ PySem.W.kitOne K (.ref D) cv = some b ∧ d = some dd ∧ H dd = some (.xd fs) ∧ Q (.bl b) H
theorem call_isX {a D : Addr} {d : Option Addr} (C : ExcC X.K D) (hz : Zc (.ref D) d oe) (hf : ∃ vs, oe.data = .fields vs) : CallR (X.suite a ((a, oe) :: pn)) (.builtin "isinstance") (rIsX X.K D a d) := by
  intro pins s σ H xs us Q I r h
  obtain ⟨c, cv, b, dd, fs, rfl, hcv, e, hd, hH, q⟩ := h
  cases r with
  | cons rx rr =>
    cases rr with
    | cons rt rr =>
      cases rr
      cases rx
      have ec := hcv _ rt
      subst ec
      obtain ⟨hget, _⟩ := I.pin (a, oe) (List.mem_append.mpr (.inl List.mem_cons_self))
      obtain ⟨vs, hv⟩ := hf
      have hx : ObjOk X.prog X.w H s.heap dd (.xd fs) := I.hok dd _ hH
      obtain ⟨mA, hns, hr⟩ := hx
      obtain ⟨od, ho, _⟩ := lookIn_ns hns
      have J : PySem.W.InstAt s.heap a oe D (some od) := ⟨hget, hz.1, by unfold PySem.W.notCls; rw [hv] <;> rfl, by rw [hz.2, hd]; exact ho⟩
      obtain ⟨cd, hcd, _⟩ := PySem.W.any_some C.hd
      exact PySem.W.kia_one (PySem.W.kitx_exc (by rw [hcd]; rfl) C.hg C.hk C.hs C.ha C.hn C.ht C.hm) I.kIn J e (fun z => nomatch z) fun tk => ⟨.bl b, H, I.kept (t' := tk) fun _ _ z => z, rfl, q⟩
theorem se_isi (g : HGood k X h sc n) (hz : Zc h.cls h.d oe) (hf : ∃ vs, oe.data = .fields vs) {o : Expr} {y z c : Str} {p1 p2 p3 : Pos} (hn : nameIs n o = true) (h1 : y = ("isinstance" : Str)) (h2 : k.fr.contains y = true) (h3 : gl sc y = true) (h4 : z = c) (h5 : k.cls.contains c = true) (h6 : gl sc z = true) (h7 : nmOk z = true) :
    PE (X.suite h.a ((h.a, oe) :: pn)) (.Call (.Name y p1) [o, .Name z p2] [] p3) (rdHE h (.isi c)) := ⟨fun pins s σ H Q I q => by
  obtain ⟨x, ds, mk, t, D, e, kk⟩ := q
  cases e
  subst h4
  obtain ⟨fl, C, dd, fs, m, hl, hm, hc, hd, hH, hmap, hr⟩ := g.at t
  obtain ⟨C', q1, q2, q3, q4, q5, q6⟩ := g.exq _ m
  have eC : C' = C := by
    rw [hm] at q1
    cases q1
    rfl
  subst eC
  obtain ⟨cv, w1, w2, w3⟩ := q6 z (by simpa using h5)
  obtain ⟨⟨y', py, rfl⟩, pe⟩ := pe_nm g (pn := (h.a, oe) :: pn) hn
  have gy : Gl X y := by have := gl_ok h3; rw [← g.sc] at this; exact this
  have gz : Gl X z := by have := gl_ok h6; rw [← g.sc] at this; exact this
  have fy : X.mg y = none := g.fr y (by simpa using h2)
  have hz' : Zc (.ref C') h.d oe := by rw [← hc]; exact hz
  rcases w1 with ⟨a, rfl, wm⟩ | ⟨rfl, we, wm⟩
  · have pt : PE (X.suite h.a ((h.a, oe) :: pn)) (.Name z p2) (tC (.ref a)) := pe_glob gz wm rfl (nm_ok h7).1
    refine (pe_callB (X := X.suite h.a ((h.a, oe) :: pn)) (x := y) (call_isX q3 hz' hf) gy fy (by rw [h1]; exact boot_isi) (pa_cons pe (pa_cons pt pa_nil rfl) rfl) (by rw [h1]; decide) (by rw [h1]; decide) rfl rfl).run pins s σ H Q I ?_
    exact ⟨t.sl, .ref a, .ref a, _, dd, _, rfl, fun u r => r, w2, hd, hH, kk _ H (Same.refl H) rfl⟩
  · have pt : PE (X.suite h.a ((h.a, oe) :: pn)) (.Name z p2) (tC (.ty "ValueError")) := pe_bltn gz wm (u := .type "ValueError") (by rw [we]; decide +kernel) rfl (nm_ok h7).2.2 (nm_ok h7).1
    refine (pe_callB (X := X.suite h.a ((h.a, oe) :: pn)) (x := y) (call_isX q3 hz' hf) gy fy (by rw [h1]; exact boot_isi) (pa_cons pe (pa_cons pt pa_nil rfl) rfl) (by rw [h1]; decide) (by rw [h1]; decide) rfl rfl).run pins s σ H Q I ?_
    exact ⟨t.sl, .ty "ValueError", .type "ValueError", _, dd, _, rfl, fun u r => r, w2, hd, hH, kk _ H (Same.refl H) rfl⟩⟩
end
end PyI
/-! PyI, part 22: an except clause runs as the interpreter says. -/
namespace PyI
open PySem PySem.Spec PyProof.Rows L2
section
variable {k : Ck} {h : Hc} {sc : Scope} {n : Option Str}
def SndH (k : Ck) (e : HE) : Prop := ∀ (x : Expr) {X : Cx} {h : Hc} {sc : Scope} {n : Option Str} {oe : Obj} {pn : List (Addr × Obj)}, HGood k X h sc n → Zc h.cls h.d oe → (∃ vs, oe.data = .fields vs) → chkHE k sc n e x = true → PE (X.suite h.a ((h.a, oe) :: pn)) x (rdHE h e)
def SndHT (k : Ck) (e : HE) : Prop := ∀ (x : Expr) {X : Cx} {h : Hc} {sc : Scope} {n : Option Str} {oe : Obj} {pn : List (Addr × Obj)}, HGood k X h sc n → Zc h.cls h.d oe → (∃ vs, oe.data = .fields vs) → htOk e = true → chkHE k sc n e x = true → PT (X.suite h.a ((h.a, oe) :: pn)) x (rdHT h e)
def SndHA (k : Ck) (e : HEs) : Prop := ∀ (x : List Expr) {X : Cx} {h : Hc} {sc : Scope} {n : Option Str} {oe : Obj} {pn : List (Addr × Obj)}, HGood k X h sc n → Zc h.cls h.d oe → (∃ vs, oe.data = .fields vs) → chkHEs k sc n e x = true → PA (X.suite h.a ((h.a, oe) :: pn)) x (rdHA h e)
theorem hc_non {x : Expr} (h : chkHE k sc n .non x = true) : ∃ a b, x = .Constant .none a b := by
  cases x <;> first | cases h | skip
  rename_i c a b
  cases c <;> first | exact ⟨a, b, rfl⟩ | cases h
theorem hc_bl {v : Bool} {x : Expr} (h : chkHE k sc n (.bl v) x = true) : ∃ a b, x = .Constant (.bool v) a b := by
  cases x <;> first | cases h | skip
  rename_i c a b
  cases c <;> first | cases h | skip
  rename_i j
  have e : v = j := eq_of_beq (show (v == j) = true from h)
  subst e
  exact ⟨a, b, rfl⟩
theorem hc_int {v : Int} {x : Expr} (h : chkHE k sc n (.int v) x = true) : ∃ a b, x = .Constant (.int v) a b := by
  cases x <;> first | cases h | skip
  rename_i c a b
  cases c <;> first | cases h | skip
  rename_i j
  have e : v = j := of_decide_eq_true h
  subst e
  exact ⟨a, b, rfl⟩
theorem hc_str {v : Str} {x : Expr} (h : chkHE k sc n (.str v) x = true) : ∃ a b, x = .Constant (.str v) a b := by
  cases x <;> first | cases h | skip
  rename_i c a b
  cases c <;> first | cases h | skip
  rename_i j
  have e : v = j := of_decide_eq_true h
  subst e
  exact ⟨a, b, rfl⟩
theorem hc_fld {f : Str} {x : Expr} (h : chkHE k sc n (.fld f) x = true) : ∃ o p, x = .Attribute o f p ∧ nameIs n o = true := by
  cases x <;> first | cases h | skip
  rename_i o g p
  obtain ⟨h1, h2⟩ := ba (show (decide (f = g) && nameIs n o) = true from h)
  cases of_decide_eq_true h1
  exact ⟨o, p, rfl, h2⟩
theorem hc_isi {c : Str} {x : Expr} (h : chkHE k sc n (.isi c) x = true) : ∃ y p1 o z p2 p3, x = .Call (.Name y p1) [o, .Name z p2] [] p3 ∧ (nameIs n o && (decide (y = ("isinstance" : Str)) && (k.fr.contains y && (gl sc y && (decide (z = c) && (k.cls.contains c && (gl sc z && nmOk z))))))) = true := by
  cases x <;> first | cases h | skip
  rename_i fn as kw p3
  cases fn <;> first | cases h | skip
  rename_i y p1
  cases as with
  | nil => cases h
  | cons o r =>
    cases r with
    | nil => cases h
    | cons z r =>
      cases z <;> first | cases h | skip
      rename_i z p2
      cases r with
      | cons _ _ => cases h
      | nil =>
        cases kw with
        | cons _ _ => cases h
        | nil => exact ⟨_, _, _, _, _, _, rfl, h⟩
theorem hc_not {a : HE} {x : Expr} (h : chkHE k sc n (.not a) x = true) : ∃ y p, x = .UnaryOp .Not y p ∧ chkHE k sc n a y = true := by
  cases x <;> first | cases h | skip
  rename_i o y p
  cases o <;> first | cases h | exact ⟨_, _, rfl, h⟩
theorem hc_and {a b : HE} {X0 : Expr} (h : chkHE k sc n (.and a b) X0 = true) : (∃ x y q, X0 = .BoolOp .And [x, y] q ∧ (chkHE k sc n a x && chkHE k sc n b y) = true) ∨ ∃ x y z r q, X0 = .BoolOp .And (x :: y :: z :: r) q ∧ (chkHE k sc n a x && chkHE k sc n b (.BoolOp .And (y :: z :: r) q)) = true := by
  cases X0 <;> first | cases h | skip
  rename_i o es q
  cases o <;> first | cases h | skip
  cases es with
  | nil => cases h
  | cons x r =>
    cases r with
    | nil => cases h
    | cons y r =>
      cases r with
      | nil => exact .inl ⟨_, _, _, rfl, h⟩
      | cons z r => exact .inr ⟨_, _, _, _, _, rfl, h⟩
theorem hc_or {a b : HE} {X0 : Expr} (h : chkHE k sc n (.or a b) X0 = true) : (∃ x y q, X0 = .BoolOp .Or [x, y] q ∧ (chkHE k sc n a x && chkHE k sc n b y) = true) ∨ ∃ x y z r q, X0 = .BoolOp .Or (x :: y :: z :: r) q ∧ (chkHE k sc n a x && chkHE k sc n b (.BoolOp .Or (y :: z :: r) q)) = true := by
  cases X0 <;> first | cases h | skip
  rename_i o es q
  cases o <;> first | cases h | skip
  cases es with
  | nil => cases h
  | cons x r =>
    cases r with
    | nil => cases h
    | cons y r =>
      cases r with
      | nil => exact .inl ⟨_, _, _, rfl, h⟩
      | cons z r => exact .inr ⟨_, _, _, _, _, rfl, h⟩
theorem hc_tup {es : HEs} {x : Expr} (h : chkHE k sc n (.tup es) x = true) : ∃ xs a b, x = .Tuple xs a b ∧ (decide (hesLen es ≤ 1000) && chkHEs k sc n es xs) = true := by
  cases x <;> first | cases h | exact ⟨_, _, _, rfl, h⟩
theorem hc_cne {i : Nat} {z : Int} {x : Expr} (h : chkHE k sc n (.cne i z) x = true) : ∃ y p1 m ap u1 p3 cp j u2 p4 p, x = .Compare (.Call (.Attribute (.Name y p1) m ap) [.Constant (.bool true) u1 p3] [] cp) [.NotEq] [.Constant (.int j) u2 p4] p ∧ (decide (k.N[i]? = some y) && (isLocal sc y && (nmOk y && (decide (m = ("count" : Str)) && ((ap.endLine == cp.line) && decide (z = j)))))) = true := by
  unfold chkHE at h
  split at h <;> first | cases h | skip
  all_goals (first | (rename_i e1 e2; cases e1; done) | skip)
  all_goals first | (rename_i e1; cases e1) | skip
  all_goals first | exact ⟨_, _, _, _, _, _, _, _, _, _, _, rfl, h⟩ | cases h
/-! ### the interpreter, inverted -/
variable {xs : List (Str × List Str)} {x : Str} {ds : List PyI.D} {mk : List (Nat × List Bool)}
theorem he_bl {r : Res PyI.D} {f : Bool → Res PyI.D} {D : PyI.D} (e : (match r with
    | .ok (.bl b) => f b
    | _ => .bad) = .ok D) : ∃ b, r = .ok (.bl b) ∧ f b = .ok D := by
  cases r with
  | ok d => cases d <;> first | cases e | exact ⟨_, rfl, e⟩
  | _ => cases e
theorem hes_len : ∀ {es : HEs} {Ds : List PyI.D}, hesD xs x ds mk es = .ok Ds → Ds.length = hesLen es
  | .nil, Ds, e => by cases e; rfl
  | .cons a r, Ds, e => by
    have e : (match heD xs x ds mk a with
      | .ok d => (match hesD xs x ds mk r with
        | .ok es => Res.ok (d :: es)
        | _ => .bad)
      | _ => .bad) = .ok Ds := e
    cases h1 : heD xs x ds mk a with
    | ok d =>
      rw [h1] at e
      cases h2 : hesD xs x ds mk r with
      | ok es =>
        rw [h2] at e
        cases e
        exact congrArg (· + 1) (hes_len h2)
      | _ => rw [h2] at e; cases e
    | _ => rw [h1] at e; cases e
theorem lh_not {a : HE} {σ : L2.St} {H : Hp} {Q : VK} (q : rdHE h (.not a) σ H Q) : tNotV (rdHE h a) σ H Q := by
  obtain ⟨x, ds, mk, t, D, e, kk⟩ := q
  obtain ⟨b, e1, e2⟩ := he_bl (f := fun b => .ok (.bl (!b))) e
  cases e2
  exact ⟨x, ds, mk, t, _, e1, fun v H' s r => ⟨b, r, kk _ H' s rfl⟩⟩
theorem lh_and {a b : HE} {σ : L2.St} {H : Hp} {Q : VK} (q : rdHE h (.and a b) σ H Q) : tAndV (rdHE h a) (rdHE h b) σ H Q := by
  obtain ⟨x, ds, mk, t, D, e, kk⟩ := q
  obtain ⟨c, e1, e2⟩ := he_bl (f := fun k => if k then heD h.xs x ds mk b else .ok (.bl false)) e
  refine ⟨x, ds, mk, t, _, e1, fun v H' s r => ⟨c, r, ?_⟩⟩
  cases c with
  | true => exact ⟨x, ds, mk, t.same s, D, e2, fun v H2 s2 r => kk v H2 (s.trans s2) r⟩
  | false => cases e2; exact kk _ H' s rfl
theorem lh_or {a b : HE} {σ : L2.St} {H : Hp} {Q : VK} (q : rdHE h (.or a b) σ H Q) : tOrV (rdHE h a) (rdHE h b) σ H Q := by
  obtain ⟨x, ds, mk, t, D, e, kk⟩ := q
  obtain ⟨c, e1, e2⟩ := he_bl (f := fun k => if k then .ok (.bl true) else heD h.xs x ds mk b) e
  refine ⟨x, ds, mk, t, _, e1, fun v H' s r => ⟨c, r, ?_⟩⟩
  cases c with
  | false => exact ⟨x, ds, mk, t.same s, D, e2, fun v H2 s2 r => kk v H2 (s.trans s2) r⟩
  | true => cases e2; exact kk _ H' s rfl
theorem lh_tup {es : HEs} {σ : L2.St} {H : Hp} {Q : VK} (hl : hesLen es ≤ 1000) (q : rdHE h (.tup es) σ H Q) : tTup (rdHA h es) σ H Q := by
  obtain ⟨x, ds, mk, t, D, e, kk⟩ := q
  have e : (match hesD h.xs x ds mk es with
    | .ok es => Res.ok (PyI.D.tup es)
    | _ => .bad) = .ok D := e
  cases h1 : hesD h.xs x ds mk es with
  | ok Ds =>
    rw [h1] at e
    cases e
    refine ⟨x, ds, mk, t, Ds, h1, fun vs H1 s1 r1 => ⟨?_, fun a ha => kk _ _ (s1.trans (same_upd ha)) (tup_new (F1 := h.c.F0) ha r1).rep⟩⟩
    rw [← r1.length, hes_len h1]
    exact line1000 hl
  | _ => rw [h1] at e; cases e
theorem lh_nil {σ : L2.St} {H : Hp} {Q : List V → Hp → Prop} (q : rdHA h .nil σ H Q) : tNil σ H Q := by
  obtain ⟨x, ds, mk, t, Ds, e, kk⟩ := q
  cases e
  exact kk [] H (Same.refl H) rfl
theorem lh_cons {a : HE} {r : HEs} {σ : L2.St} {H : Hp} {Q : List V → Hp → Prop} (q : rdHA h (.cons a r) σ H Q) : tCons (rdHE h a) (rdHA h r) σ H Q := by
  obtain ⟨x, ds, mk, t, Ds, e, kk⟩ := q
  have e : (match heD h.xs x ds mk a with
    | .ok d => (match hesD h.xs x ds mk r with
      | .ok es => Res.ok (d :: es)
      | _ => .bad)
    | _ => .bad) = .ok Ds := e
  cases h1 : heD h.xs x ds mk a with
  | ok d =>
    rw [h1] at e
    cases h2 : hesD h.xs x ds mk r with
    | ok es =>
      rw [h2] at e
      cases e
      exact ⟨x, ds, mk, t, d, h1, fun v H1 s1 r1 => ⟨x, ds, mk, t.same s1, es, h2, fun vs H2 s2 r2 => kk (v :: vs) H2 (s1.trans s2) ⟨v, vs, rfl, r1.same s2, r2⟩⟩⟩
    | _ => rw [h2] at e; cases e
  | _ => rw [h1] at e; cases e
theorem lh_tB {a : HE} {σ : L2.St} {H : Hp} {Q : Bool → Hp → Prop} (q : rdHT h a σ H Q) : tB (rdHE h a) σ H Q := by
  obtain ⟨x, ds, mk, t, b, e, kk⟩ := q
  exact ⟨x, ds, mk, t, _, e, fun v H' s r => ⟨b, r, kk H' s⟩⟩
theorem lht_not {a : HE} {σ : L2.St} {H : Hp} {Q : Bool → Hp → Prop} (q : rdHT h (.not a) σ H Q) : tNot (rdHT h a) σ H Q := by
  obtain ⟨x, ds, mk, t, b, e, kk⟩ := q
  obtain ⟨c, e1, e2⟩ := he_bl (f := fun b => .ok (.bl (!b))) e
  cases e2
  exact ⟨x, ds, mk, t, c, e1, kk⟩
theorem lht_and {a b : HE} {σ : L2.St} {H : Hp} {Q : Bool → Hp → Prop} (q : rdHT h (.and a b) σ H Q) : tAnd (rdHT h a) (rdHT h b) σ H Q := by
  obtain ⟨x, ds, mk, t, z, e, kk⟩ := q
  obtain ⟨c, e1, e2⟩ := he_bl (f := fun k => if k then heD h.xs x ds mk b else .ok (.bl false)) e
  refine ⟨x, ds, mk, t, c, e1, fun H' s => ?_⟩
  cases c with
  | true => exact ⟨x, ds, mk, t.same s, z, e2, fun H2 s2 => kk H2 (s.trans s2)⟩
  | false => cases e2; exact kk H' s
theorem lht_or {a b : HE} {σ : L2.St} {H : Hp} {Q : Bool → Hp → Prop} (q : rdHT h (.or a b) σ H Q) : tOr (rdHT h a) (rdHT h b) σ H Q := by
  obtain ⟨x, ds, mk, t, z, e, kk⟩ := q
  obtain ⟨c, e1, e2⟩ := he_bl (f := fun k => if k then .ok (.bl true) else heD h.xs x ds mk b) e
  refine ⟨x, ds, mk, t, c, e1, fun H' s => ?_⟩
  cases c with
  | false => exact ⟨x, ds, mk, t.same s, z, e2, fun H2 s2 => kk H2 (s.trans s2)⟩
  | true => cases e2; exact kk H' s
/-! ### soundness -/
theorem s_isi (c : Str) : SndH k (.isi c) := by
  intro X0 X h sc n oe pn g hz hf e
  obtain ⟨y, p1, o, z, p2, p3, rfl, q⟩ := hc_isi e
  obtain ⟨h1, q⟩ := ba q
  obtain ⟨h2, q⟩ := ba q
  obtain ⟨h3, q⟩ := ba q
  obtain ⟨h4, q⟩ := ba q
  obtain ⟨h5, q⟩ := ba q
  obtain ⟨h6, q⟩ := ba q
  obtain ⟨h7, h8⟩ := ba q
  exact se_isi g hz hf h1 (of_decide_eq_true h2) h3 h4 (of_decide_eq_true h5) h6 h7 h8
mutual
theorem heS (k : Ck) : ∀ e : HE, SndH k e
  | .non => fun X0 X h sc n oe pn g hz hf e => by
    obtain ⟨a, b, rfl⟩ := hc_non e
    exact peImp pe_non fun σ H Q ⟨x, ds, mk, t, D, e, kk⟩ => by cases e; exact kk _ H (Same.refl H) rfl
  | .bl v => fun X0 X h sc n oe pn g hz hf e => by
    obtain ⟨a, b, rfl⟩ := hc_bl e
    exact peImp pe_bl fun σ H Q ⟨x, ds, mk, t, D, e, kk⟩ => by cases e; exact kk _ H (Same.refl H) rfl
  | .int v => fun X0 X h sc n oe pn g hz hf e => by
    obtain ⟨a, b, rfl⟩ := hc_int e
    exact peImp pe_int fun σ H Q ⟨x, ds, mk, t, D, e, kk⟩ => by cases e; exact kk _ H (Same.refl H) rfl
  | .str v => fun X0 X h sc n oe pn g hz hf e => by
    obtain ⟨a, b, rfl⟩ := hc_str e
    exact peImp pe_str fun σ H Q ⟨x, ds, mk, t, D, e, kk⟩ => by cases e; exact kk _ H (Same.refl H) rfl
  | .fld f => fun X0 X h sc n oe pn g hz hf e => by
    obtain ⟨o, p, rfl, q⟩ := hc_fld e
    exact se_fld g hz hf q
  | .isi c => s_isi c
  | .not a => fun X0 X h sc n oe pn g hz hf e => by
    obtain ⟨y, p, rfl, q⟩ := hc_not e
    exact peImp (pe_not (heS k a y g hz hf q)) fun σ H Q q => lh_not q
  | .and a b => fun X0 X h sc n oe pn g hz hf e => by
    rcases hc_and e with ⟨x, y, q, rfl, hh⟩ | ⟨x, y, z, r, q, rfl, hh⟩
    · obtain ⟨h1, h2⟩ := ba hh
      exact peImp (pe_and (heS k a x g hz hf h1) (pe_one (heS k b y g hz hf h2))) fun σ H Q q => lh_and q
    · obtain ⟨h1, h2⟩ := ba hh
      exact peImp (pe_and (heS k a x g hz hf h1) (heS k b _ g hz hf h2)) fun σ H Q q => lh_and q
  | .or a b => fun X0 X h sc n oe pn g hz hf e => by
    rcases hc_or e with ⟨x, y, q, rfl, hh⟩ | ⟨x, y, z, r, q, rfl, hh⟩
    · obtain ⟨h1, h2⟩ := ba hh
      exact peImp (pe_or (heS k a x g hz hf h1) (pe_one (heS k b y g hz hf h2))) fun σ H Q q => lh_or q
    · obtain ⟨h1, h2⟩ := ba hh
      exact peImp (pe_or (heS k a x g hz hf h1) (heS k b _ g hz hf h2)) fun σ H Q q => lh_or q
  | .cne i z => fun X0 X h sc n oe pn g hz hf e => by
    obtain ⟨y, p1, m, ap, u1, p3, cp, j, u2, p4, p, rfl, q⟩ := hc_cne e
    obtain ⟨h1, q⟩ := ba q
    obtain ⟨h2, q⟩ := ba q
    obtain ⟨h3, q⟩ := ba q
    obtain ⟨h4, q⟩ := ba q
    obtain ⟨h5, h6⟩ := ba q
    have e6 := of_decide_eq_true h6
    subst e6
    exact (cne_ok g (of_decide_eq_true h1) h2 h3 (of_decide_eq_true h4) h5).1
  | .tup es => fun X0 X h sc n oe pn g hz hf e => by
    obtain ⟨ys, a, b, rfl, q⟩ := hc_tup e
    obtain ⟨h1, h2⟩ := ba q
    exact peImp (pe_tup (hesS k es ys g hz hf h2)) fun σ H Q q => lh_tup (of_decide_eq_true h1) q
theorem hesS (k : Ck) : ∀ e : HEs, SndHA k e
  | .nil => fun X0 X h sc n oe pn g hz hf e => by
    cases X0 with
    | nil => exact paImp pa_nil fun σ H Q q => lh_nil q
    | cons _ _ => cases e
  | .cons a r => fun X0 X h sc n oe pn g hz hf e => by
    cases X0 with
    | nil => cases e
    | cons x ys =>
      obtain ⟨h1, q⟩ := ba (show (notStar x && (chkHE k sc n a x && chkHEs k sc n r ys)) = true from e)
      obtain ⟨h2, h3⟩ := ba q
      exact paImp (pa_cons (heS k a x g hz hf h2) (hesS k r ys g hz hf h3) (star_ok h1 ys X.env)) fun σ H Q q => lh_cons q
end
theorem htS (k : Ck) : ∀ e : HE, SndHT k e
  | .not a => fun X0 X h sc n oe pn g hz hf t e => by
    obtain ⟨y, p, rfl, q⟩ := hc_not e
    exact ptImp (pt_not (htS k a y g hz hf t q)) fun σ H Q q => lht_not q
  | .and a b => fun X0 X h sc n oe pn g hz hf t e => by
    obtain ⟨t1, t2⟩ := ba (show (htOk a && htOk b) = true from t)
    rcases hc_and e with ⟨x, y, q, rfl, hh⟩ | ⟨x, y, z, r, q, rfl, hh⟩
    · obtain ⟨h1, h2⟩ := ba hh
      exact ptImp (pw_and (htS k a x g hz hf t1 h1) (pw_and1 (htS k b y g hz hf t2 h2))).pt fun σ H Q q => lht_and q
    · obtain ⟨h1, h2⟩ := ba hh
      exact ptImp (pw_and (htS k a x g hz hf t1 h1) (pwAnd (htS k b _ g hz hf t2 h2))).pt fun σ H Q q => lht_and q
  | .or a b => fun X0 X h sc n oe pn g hz hf t e => by
    obtain ⟨t1, t2⟩ := ba (show (htOk a && htOk b) = true from t)
    rcases hc_or e with ⟨x, y, q, rfl, hh⟩ | ⟨x, y, z, r, q, rfl, hh⟩
    · obtain ⟨h1, h2⟩ := ba hh
      exact ptImp (pw_or (htS k a x g hz hf t1 h1) (pw_or1 (htS k b y g hz hf t2 h2))).pt fun σ H Q q => lht_or q
    · obtain ⟨h1, h2⟩ := ba hh
      exact ptImp (pw_or (htS k a x g hz hf t1 h1) (pwAnd (htS k b _ g hz hf t2 h2))).pt fun σ H Q q => lht_or q
  | .isi c => fun X0 X h sc n oe pn g hz hf t e => by
    obtain ⟨y, p1, o, z, p2, p3, e2, q⟩ := hc_isi e
    refine ptImp (pt_val (heS k (.isi c) X0 g hz hf e) (plainT_ok (by rw [e2]; rfl) X.env)) fun σ H Q q => lh_tB q
  | .cne i z => fun X0 X h sc n oe pn g hz hf t e => by
    obtain ⟨y, p1, m, ap, u1, p3, cp, j, u2, p4, p, rfl, q⟩ := hc_cne e
    obtain ⟨h1, q⟩ := ba q
    obtain ⟨h2, q⟩ := ba q
    obtain ⟨h3, q⟩ := ba q
    obtain ⟨h4, q⟩ := ba q
    obtain ⟨h5, h6⟩ := ba q
    have e6 := of_decide_eq_true h6
    subst e6
    exact (cne_ok g (of_decide_eq_true h1) h2 h3 (of_decide_eq_true h4) h5).2
  | .non => fun X0 X h sc n oe pn g hz hf t e => by cases t
  | .bl _ => fun X0 X h sc n oe pn g hz hf t e => by cases t
  | .int _ => fun X0 X h sc n oe pn g hz hf t e => by cases t
  | .str _ => fun X0 X h sc n oe pn g hz hf t e => by cases t
  | .fld _ => fun X0 X h sc n oe pn g hz hf t e => by cases t
  | .tup _ => fun X0 X h sc n oe pn g hz hf t e => by cases t
theorem eName_ne {n : Option Str} {y nm : Str} (h : (!eName n y) = true) (e : n = some nm) : y ≠ nm := by
  subst e
  intro z
  subst z
  have h' : (!decide (y = y)) = true := h
  rw [decide_eq_true rfl] at h'
  cases h'
theorem HSt.put (g : HGood k X h sc n) {σ : L2.St} {H : Hp} {x : Str} {ds : List PyI.D} {mk : List (Nat × List Bool)} {i : Nat} {y : Str} {bs : List Bool} {a : Addr} (t : HSt h σ H x ds mk) (h1 : k.N[i]? = some y) (h2 : (!eName n y) = true) (ha : H a = some (.lst (bs.map V.bl))) : HSt h (σ.set i (some (.ref a))) H x ds ((i, bs) :: mk) where
  sl := fun j hj => by
    obtain ⟨σ0, e⟩ := t.sl j hj
    have ne : j ≠ i := by
      intro z
      subst z
      cases n with
      | none => rw [g.ni rfl] at hj; cases hj
      | some nm =>
        obtain ⟨j', w1, w2, _⟩ := g.nm nm rfl
        rw [hj] at w1
        cases w1
        rw [h1] at w2
        exact eName_ne h2 rfl (Option.some.inj w2)
    exact ⟨σ0.set i (some (.ref a)), by rw [e, List.set_comm _ _ ne]⟩
  hx := t.hx
  ex := t.ex
  mks := fun j bs' e => by
    rw [List.lookup_cons] at e
    by_cases z : j = i
    · subst z
      simp only [beq_self_eq_true] at e
      cases e
      exact ⟨a, fun hl => List.getElem?_set_self (by rw [List.length_set] at hl; exact hl), ha⟩
    · have z' : (j == i) = false := by simpa using z
      rw [z'] at e
      obtain ⟨b, w1, w2⟩ := t.mks j bs' e
      exact ⟨b, fun hl => by rw [List.getElem?_set_ne (Ne.symm z)]; exact w1 (by rw [List.length_set] at hl; exact hl), w2⟩
theorem hn_mk {es : HEs} {r : Hn} {i : Nat} {mk : List (Nat × List Bool)} {d : PyI.D} (e : hnD xs x ds (.mk i es r) mk = .ok d) : ∃ vs bs, hesD xs x ds mk es = .ok vs ∧ PyI.D.bls vs = some bs ∧ hnD xs x ds r ((i, bs) :: mk) = .ok d := by
  have e : (match hesD xs x ds mk es with
    | .ok vs => (match PyI.D.bls vs with
      | some bs => hnD xs x ds r ((i, bs) :: mk)
      | none => .bad)
    | _ => .bad) = .ok d := e
  cases h1 : hesD xs x ds mk es with
  | ok vs =>
    rw [h1] at e
    have e : (match PyI.D.bls vs with
      | some bs => hnD xs x ds r ((i, bs) :: mk)
      | none => .bad) = .ok d := e
    cases h2 : PyI.D.bls vs with
    | some bs => rw [h2] at e; exact ⟨_, _, rfl, h2, e⟩
    | none => rw [h2] at e; cases e
  | _ => rw [h1] at e; cases e
theorem hn_mkA {es : HEs} {r : Hn} {i : Nat} {mk : List (Nat × List Bool)} {d : PyI.D} (e : hnD xs x ds (.mkA i es r) mk = .ok d) : ∃ b0 vs bs, mk.lookup i = some b0 ∧ hesD xs x ds mk es = .ok vs ∧ PyI.D.bls vs = some bs ∧ b0.length + bs.length ≤ sizeLine ∧ hnD xs x ds r ((i, b0 ++ bs) :: mk) = .ok d := by
  have e : (match mk.lookup i with
    | some b0 => (match hesD xs x ds mk es with
      | .ok vs => (match PyI.D.bls vs with
        | some bs => if b0.length + bs.length ≤ sizeLine then hnD xs x ds r ((i, b0 ++ bs) :: mk) else .bad
        | none => .bad)
      | _ => .bad)
    | none => .bad) = .ok d := e
  cases h0 : mk.lookup i with
  | none => rw [h0] at e; cases e
  | some b0 =>
    rw [h0] at e
    have e : (match hesD xs x ds mk es with
      | .ok vs => (match PyI.D.bls vs with
        | some bs => if b0.length + bs.length ≤ sizeLine then hnD xs x ds r ((i, b0 ++ bs) :: mk) else .bad
        | none => .bad)
      | _ => .bad) = .ok d := e
    cases h1 : hesD xs x ds mk es with
    | ok vs =>
      rw [h1] at e
      have e : (match PyI.D.bls vs with
        | some bs => if b0.length + bs.length ≤ sizeLine then hnD xs x ds r ((i, b0 ++ bs) :: mk) else .bad
        | none => .bad) = .ok d := e
      cases h2 : PyI.D.bls vs with
      | some bs =>
        rw [h2] at e
        obtain ⟨h3, e⟩ : b0.length + bs.length ≤ sizeLine ∧ hnD xs x ds r ((i, b0 ++ bs) :: mk) = .ok d := by
          have e : (if b0.length + bs.length ≤ sizeLine then hnD xs x ds r ((i, b0 ++ bs) :: mk) else Res.bad) = .ok d := e
          split at e
          · rename_i w; exact ⟨w, e⟩
          · cases e
        exact ⟨_, _, _, rfl, rfl, h2, h3, e⟩
      | none => rw [h2] at e; cases e
    | _ => rw [h1] at e; cases e
theorem hn_mk_inv {k : Ck} {sc : Scope} {n : Option Str} {i : Nat} {es : HEs} {r : Hn} {s : Stmt} {rest : List Stmt} (q : chkHn k sc n (.mk i es r) (s :: rest) = true) : ∃ y px ys a p, s = .Assign [.Name y px] (.List ys a) p ∧ (decide (k.N[i]? = some y) && (isLocal sc y && (nmOk y && (!eName n y && (decide (hesLen es ≤ 1000) && (chkHEs k sc n es ys && chkHn k sc n r rest)))))) = true := by
  cases s <;> first | cases q | skip
  rename_i ts v p
  cases ts with
  | nil => cases q
  | cons t ts =>
    cases ts with
    | cons _ _ => cases t <;> cases q
    | nil =>
      cases t <;> first | cases q | skip
      cases v <;> first | cases q | exact ⟨_, _, _, _, _, rfl, q⟩
theorem hn_mkA_inv {k : Ck} {sc : Scope} {n : Option Str} {i : Nat} {es : HEs} {r : Hn} {s : Stmt} {rest : List Stmt} (q : chkHn k sc n (.mkA i es r) (s :: rest) = true) : ∃ y px y2 px2 ys a p2 p, s = .Assign [.Name y px] (.BinOp (.Name y2 px2) .Add (.List ys a) p2) p ∧ (decide (k.N[i]? = some y) && (decide (y2 = y) && (isLocal sc y && (nmOk y && (!eName n y && (decide (hesLen es ≤ 1000) && (chkHEs k sc n es ys && chkHn k sc n r rest))))))) = true := by
  cases s <;> first | cases q | skip
  rename_i ts v p
  cases ts with
  | nil => cases q
  | cons t ts =>
    cases ts with
    | cons _ _ => cases t <;> cases q
    | nil =>
      cases t <;> first | cases q | skip
      cases v <;> first | cases q | skip
      rename_i l o r p2
      cases l <;> first | (cases o <;> cases q) | skip
      cases o <;> first | cases q | skip
      cases r <;> first | cases q | exact ⟨_, _, _, _, _, _, _, _, rfl, q⟩
theorem hnS (k : Ck) : ∀ (a : Hn) (st : List Stmt) (X : Cx) (h : Hc) (sc : Scope) (n : Option Str) (oe : Obj) (pn : List (Addr × Obj)), HGood k X h sc n → Zc h.cls h.d oe → (∃ vs, oe.data = .fields vs) → chkHn k sc n a st = true → PSs (X.suite h.a ((h.a, oe) :: pn)) st (rdHn h a)
  | .ret e, st => fun X h sc n oe pn g hz hf q => by
    cases st with
    | nil => cases q
    | cons s r =>
      cases s <;> first | cases q | skip
      rename_i v p
      cases v with
      | none => cases r <;> cases q
      | some v =>
        cases r with
        | cons _ _ => cases q
        | nil => exact pssImp (pss_cons (ps_ret (heS k e v g hz hf q)) pss_nil) fun D σ H ⟨x, ds, mk, t, d, e, kk⟩ => ⟨x, ds, mk, t, d, e, kk⟩
  | .ife c a b, st => fun X h sc n oe pn g hz hf q => by
    cases st with
    | nil => cases q
    | cons s r =>
      cases s <;> first | cases q | skip
      rename_i t p els pos
      cases els with
      | cons _ _ => cases q
      | nil =>
        obtain ⟨h1, q⟩ := ba (show (htOk c && (chkHE k sc n c t && (chkHn k sc n a p && chkHn k sc n b r))) = true from q)
        obtain ⟨h2, q⟩ := ba q
        obtain ⟨h3, h4⟩ := ba q
        refine pssImp (pss_cons (ps_if (htS k c t g hz hf h1 h2) (hnS k a p X h sc n oe pn g hz hf h3) pss_nil) (hnS k b r X h sc n oe pn g hz hf h4)) fun D σ H ⟨x, ds, mk, t, d, e, kk⟩ => ?_
        obtain ⟨z, e1, e2⟩ := he_bl (f := fun z => if z then hnD h.xs x ds a mk else hnD h.xs x ds b mk) e
        refine ⟨x, ds, mk, t, z, e1, fun H' s => ?_⟩
        cases z with
        | true => exact ⟨x, ds, mk, t.same s, d, e2, fun v H2 s2 r => kk v H2 (s.trans s2) r⟩
        | false => exact ⟨x, ds, mk, t.same s, d, e2, fun v H2 s2 r => kk v H2 (s.trans s2) r⟩
  | .mk i es r, st => fun X h sc n oe pn g hz hf q => by
    cases st with
    | nil => cases q
    | cons s rest =>
      obtain ⟨y, px, ys, a, p, rfl, q⟩ := hn_mk_inv q
      obtain ⟨h1, q⟩ := ba q
      obtain ⟨h2, q⟩ := ba q
      obtain ⟨h3, q⟩ := ba q
      obtain ⟨h4, q⟩ := ba q
      obtain ⟨h5, q⟩ := ba q
      obtain ⟨h6, h7⟩ := ba q
      have hN : (X.suite h.a ((h.a, oe) :: pn)).N[i]? = some y := by show X.N[i]? = _; rw [g.N]; exact of_decide_eq_true h1
      have hl : X.env.scope.names.lookup y = some .local := by rw [g.sc]; exact local_ok h2
      refine pssImp (pss_cons (ps_set (X := X.suite h.a ((h.a, oe) :: pn)) g.nd hN (.inl hl) (pe_lst (hesS k es ys g hz hf h6)) rfl (.inr hl)) (hnS k r rest X h sc n oe pn g hz hf h7)) fun D σ H ⟨x, ds, mk, t, d, e, kk⟩ => ?_
      obtain ⟨vs, bs, e1, e2, e3⟩ := hn_mk e
      refine ⟨x, ds, mk, t, vs, e1, fun ws H1 s1 r1 => ⟨?_, fun a ha => ?_⟩⟩
      · rw [← r1.length, hes_len e1]
        exact line1000 (of_decide_eq_true h5)
      · have w := r1.bls e2
        subst w
        exact ⟨x, ds, _, (t.same (s1.trans (same_upd ha))).put g (of_decide_eq_true h1) h4 (upd_same), d, e3, fun v H2 s2 r => kk v H2 ((s1.trans (same_upd ha)).trans s2) r⟩
  | .mkA i es r, st => fun X h sc n oe pn g hz hf q => by
    cases st with
    | nil => cases q
    | cons s rest =>
      obtain ⟨y, px, y2, px2, ys, a, p2, p, rfl, q⟩ := hn_mkA_inv q
      obtain ⟨h1, q⟩ := ba q
      obtain ⟨h0, q⟩ := ba q
      obtain ⟨h2, q⟩ := ba q
      obtain ⟨h3, q⟩ := ba q
      obtain ⟨h4, q⟩ := ba q
      obtain ⟨h5, q⟩ := ba q
      obtain ⟨h6, h7⟩ := ba q
      have e0 := of_decide_eq_true h0
      subst e0
      have hN : (X.suite h.a ((h.a, oe) :: pn)).N[i]? = some y2 := by show X.N[i]? = _; rw [g.N]; exact of_decide_eq_true h1
      have hl : X.env.scope.names.lookup y2 = some .local := by rw [g.sc]; exact local_ok h2
      refine pssImp (pss_cons (ps_set (X := X.suite h.a ((h.a, oe) :: pn)) g.nd hN (.inl hl) (pe_op op_cat (pe_mk g (of_decide_eq_true h1) h2 h3) (pe_lst (hesS k es ys g hz hf h6))) rfl (.inr hl)) (hnS k r rest X h sc n oe pn g hz hf h7)) fun D σ H ⟨x, ds, mk, t, d, e, kk⟩ => ?_
      obtain ⟨b0, vs, bs, e0, e1, e2, e3, e4⟩ := hn_mkA e
      obtain ⟨a0, w1, w2⟩ := t.mks i b0 e0
      refine ⟨a0, w1, x, ds, mk, t, vs, e1, fun ws H1 s1 r1 => ⟨?_, fun a ha => ?_⟩⟩
      · rw [← r1.length, hes_len e1]
        exact line1000 (of_decide_eq_true h5)
      · have w := r1.bls e2
        subst w
        have s2 := s1.trans (same_upd (o := .lst (bs.map V.bl)) ha)
        refine ⟨a0, a, b0.map V.bl, bs.map V.bl, rfl, rfl, s2 _ _ w2, upd_same, by rw [List.length_map, List.length_map]; exact e3, fun p hp => ?_⟩
        rw [← List.map_append]
        exact ⟨x, ds, _, (t.same (s2.trans (same_upd hp))).put g (of_decide_eq_true h1) h4 (upd_same), d, e4, fun v H2 s3 r => kk v H2 ((s2.trans (same_upd hp)).trans s3) r⟩
end
end PyI
/-! PyI, part 12: statements, checked. -/
namespace PyI
open PySem PySem.Spec PyProof.Rows L2
def notComp : Expr → Bool
  | .ListComp .. => false
  | .SetComp .. => false
  | .DictComp .. => false
  | _ => true
def notTupE : Expr → Bool
  | .Tuple .. => false
  | _ => true
def locOk (sc : Scope) (fb : Str → Bool) (x : Str) : Bool := isLocal sc x || (isCell sc x && fb x)
def isFn (sc : Scope) : Bool := match sc.kind with
  | .function => true
  | _ => false
def swT (sc : Scope) (x : Str) (px : Pos) : Expr → Bool
  | .ListComp _ _ scope p => isFn sc && (isLocal sc x && ((px.line == p.line) && !(scope.names.any fun (n, k) => n == x && (k == .local || k == .cell))))
  | _ => false
def swF (sc : Scope) (x : Str) (px : Pos) : Expr → Bool
  | .ListComp _ _ _ p => isCell sc x || !(px.line == p.line)
  | _ => false
def augOk : Op → Bool
  | .add => true
  | .sub => true
  | _ => false
def nameOk (k : Ck) (sc : Scope) (i : Nat) (x : Str) : Bool := decide (k.N[i]? = some x) && (vis sc x && nmOk x)
def exLen (k : Ck) (c : Str) (es : Es) : Bool := match k.exs.lookup c with
  | some fl => decide (esLen es = fl.length)
  | none => false
def nmB (k : Ck) (sc : Scope) : Option Nat → Option Str → Bool
  | none, none => true
  | some i, some n => decide (k.N[i]? = some n) && (isLocal sc n && nmOk n)
  | _, _ => false
/-- the clause of a try -/
def chkHd (k : Ck) (sc : Scope) (c : Str) (i : Option Nat) (h : Hn) : List ExceptHandler → Bool
  | [.ExceptHandler (some (.Name z _)) n (b :: suite) _] => decide (z = c) && (k.cls.contains c && (gl sc z && (nmOk z && (chkHn k sc n h (b :: suite) && nmB k sc i n))))
  | _ => false
/-- a context in which statements stand -/
structure Lvl (X : Cx) : Prop where
  ps : PassesOwn (model X.prog X.w) X.A X.env X.xe
  stk : X.stack = X.env :: X.outer
  frm : X.env.frame = some X.env.locals
mutual
def chkSt (k : Ck) (sc : Scope) (fb : Str → Bool) : S → Stmt → Bool
  | .set i e, .Assign [.Name x px] v _ => decide (k.N[i]? = some x) && (locOk sc fb x && (chkE k sc fb e v && (notComp v || (swF sc x px v || swT sc x px v))))
  | .setT ts e, .Assign [.Tuple es n p] v _ => chkTgs k sc fb ts es && (chkE k sc fb e v && (notComp v && notTupE v))
  | .setL ts e, .Assign [.Tuple es n p] v _ => chkTgs k sc fb ts es && (chkE k sc fb e v && (notComp v && notTupE v))
  | .setIx i kx e, .Assign [.Subscript (.Name x _) y _] v _ => nameOk k sc i x && (notSlice y && (chkE k sc fb kx y && chkE k sc fb e v))
  | .aug i o e, .AugAssign (.Name x _) p v _ => decide (k.N[i]? = some x) && (locOk sc fb x && (opk o p && (augOk o && chkE k sc fb e v)))
  | .app i e, .Expr (.Call (.Attribute (.Name x _) m ap) [v] [] cp) _ => decide (m = ("append" : Str)) && ((ap.endLine == cp.line) && (nameOk k sc i x && (notStar v && chkE k sc fb e v)))
  | .ext i e, .Expr (.Call (.Attribute (.Name x _) m ap) [v] [] cp) _ => decide (m = ("extend" : Str)) && ((ap.endLine == cp.line) && (nameOk k sc i x && (notStar v && chkE k sc fb e v)))
  | .ins i kx e, .Expr (.Call (.Attribute (.Name x _) m ap) [y, v] [] cp) _ => decide (m = ("insert" : Str)) && ((ap.endLine == cp.line) && (nameOk k sc i x && (notStar y && (notStar v && (chkE k sc fb kx y && chkE k sc fb e v)))))
  | .exp e, .Expr v _ => notComp v && chkE k sc fb e v
  | .ret e, .Return (some v) _ => (!k.rf || fresh e) && chkE k sc fb e v
  | .retO i, .Return (some (.Name x _)) _ => nameOk k sc i x
  | .retN, .Return none _ => true
  | .ife c a b, .If t p q _ => tOk c && (chkE k sc fb c t && (chkSs k sc fb a p && chkSs k sc fb b q))
  | .fr tg src b, .For t it body [] _ => chkS k sc fb src t it && (chkTg k sc fb tg t && (chkSs k sc fb b body))
  | .wh c b, .While t body [] _ => tOk c && (chkE k sc fb c t && chkSs k sc fb b body)
  | .brk, .Break _ => true
  | .cont, .Continue _ => true
  | .pass, .Pass _ => true
  | .never, _ => true
  | .raise c es, .Raise (some (.Call (.Name y _) (x :: xs) [] _)) none _ => decide (c = y) && (gl sc y && (nmOk y && (exLen k c es && chkEs k sc fb es (x :: xs))))
  | .tr b c i xs h, .Try body hds [] [] _ => !k.rf && (chkSs k sc fb b body && (decide (xs = k.exs) && (!k.exs.isEmpty && chkHd k sc c i h hds)))
  | _, _ => false
def chkSs (k : Ck) (sc : Scope) (fb : Str → Bool) : Ss → List Stmt → Bool
  | .nil, [] => true
  | .cons s r, x :: xs => chkSt k sc fb s x && chkSs k sc fb r xs
  | _, _ => false
end
def SndSt (k : Ck) (s : S) : Prop := ∀ (x : Stmt) {X : Cx} {c : Cc} {sc : Scope} {fb : Str → Bool} {fu : Nat}, Good k X c sc fb → Lvl X → chkSt k sc fb s x = true → PS X x (rdSt c fu s)
def SndSs (k : Ck) (s : Ss) : Prop := ∀ (x : List Stmt) {X : Cx} {c : Cc} {sc : Scope} {fb : Str → Bool} {fu : Nat}, Good k X c sc fb → Lvl X → chkSs k sc fb s x = true → PSs X x (rdSs c fu s)
section
variable {k : Ck} {sc : Scope} {fb : Str → Bool}
theorem isFn_ok (h : isFn sc = true) : sc.kind = .function := by
  unfold isFn at h
  cases z : sc.kind <;> rw [z] at h <;> first | rfl | cases h
theorem nc_ok {v : Expr} (h : notComp v = true) (t : Option Expr) (l : Nat) (env : PySem.Env) : swapsWith v t l env = pure false := by cases v <;> first | rfl | cases h
theorem sub_sw (v : Expr) (o i : Expr) (p : Pos) (l : Nat) (env : PySem.Env) : swapsWith v (some (.Subscript o i p)) l env = pure false := by cases v <;> rfl
theorem tup_sw (v : Expr) (es : List Expr) (n : Nat) (p : Pos) (l : Nat) (env : PySem.Env) : swapsWith v (some (.Tuple es n p)) l env = pure false := by cases v <;> rfl
theorem nt_ok {v : Expr} (h : notTupE v = true) (es : List Expr) (n : Nat) (p : Pos) (env : PySem.Env) : swappedStores [.Tuple es n p] v env = pure none := by cases v <;> first | rfl | cases h
theorem sub_ws (v : Expr) (o i : Expr) (p : Pos) (env : PySem.Env) : swappedStores [.Subscript o i p] v env = pure none := by cases v <;> rfl
theorem swF_ok {x : Str} {px : Pos} {v : Expr} (h : swF sc x px v = true) {env : PySem.Env} (he : env.scope = sc) (l : Nat) : swapsWith v (some (.Name x px)) l env = pure false := by
  cases v <;> first | cases h | skip
  rename_i elt gs scope p
  have h : (isCell sc x || !(px.line == p.line)) = true := h
  show (pure (env.blockKind == .function && env.kindOf x == some .local && px.line == p.line && !(scope.names.any fun (n, k) => n == x && (k == .local || k == .cell))) : Sem Bool) = pure false
  congr 1
  rw [Bool.or_eq_true] at h
  rcases h with h | h
  · have h := cell_ok h
    have q : env.kindOf x = some .cell := by show env.scope.names.lookup x = _; rw [he]; exact h
    rw [q]
    have : (some NameKind.cell == some NameKind.local) = false := by decide
    rw [this]
    simp
  · rw [bn h]
    simp
theorem swT_inv {x : Str} {px : Pos} {v : Expr} (h : swT sc x px v = true) : ∃ elt gs scope p, v = .ListComp elt gs scope p ∧ (isFn sc && (isLocal sc x && ((px.line == p.line) && !(scope.names.any fun (n, k) => n == x && (k == .local || k == .cell))))) = true := by
  cases v <;> first | cases h | exact ⟨_, _, _, _, rfl, h⟩
theorem nameOk_ok (h : nameOk k sc i x = true) {X : Cx} {c : Cc} (g : Good k X c sc fb) (p : Pos) : PE X (.Name x p) (tVar i) := by
  obtain ⟨h1, h2⟩ := ba (show (decide (k.N[i]? = some x) && (vis sc x && nmOk x)) = true from h)
  obtain ⟨h3, h4⟩ := ba h2
  exact pe_var (i := i) (by rw [g.N]; exact of_decide_eq_true h1) (by rw [g.sc]; exact vis_ok h3) (nm_ok h4).1 (nm_ok h4).2.1
theorem locOk_ok {x : Str} (h : locOk sc fb x = true) {X : Cx} {c : Cc} (g : Good k X c sc fb) : Loc X.env.scope x ∧ (X.fn x = true ∨ X.env.scope.names.lookup x = some .local) := by
  unfold locOk at h
  rw [Bool.or_eq_true] at h
  rcases h with h | h
  · have l : X.env.scope.names.lookup x = some .local := by rw [g.sc]; exact local_ok h
    exact ⟨.inl l, .inr l⟩
  · obtain ⟨h3, h4⟩ := ba h
    have l : X.env.scope.names.lookup x = some .cell := by rw [g.sc]; exact cell_ok h3
    exact ⟨.inr l, .inl (by rw [g.fb]; exact h4)⟩
theorem Good.base {X : Cx} {c : Cc} (g : Good k X c sc fb) (B : Addr → Prop) (HB : Hp) : Good k X (c.at B HB) sc fb where
  sc := g.sc
  fb := g.fb
  N := g.N
  nd := g.nd
  calm := g.calm
  K := g.K
  mg := g.mg
  un := g.un
  takes := g.takes
  fr := g.fr
  gm := g.gm
  lm := g.lm
  gs := g.gs
  fns := g.fns
  room := g.room
  exs := g.exs
  exq := g.exq
  rf := g.rf
  frs := g.frs
  gd := g.gd
theorem i_set {i : Nat} {e : E} {X0 : Stmt} (h : chkSt k sc fb (.set i e) X0 = true) : ∃ x px v p, X0 = .Assign [.Name x px] v p ∧ (decide (k.N[i]? = some x) && (locOk sc fb x && (chkE k sc fb e v && (notComp v || (swF sc x px v || swT sc x px v))))) = true := by
  cases X0 <;> first | cases h | skip
  rename_i ts v p
  cases ts with
  | nil => cases h
  | cons t r =>
    cases r with
    | cons _ _ => cases t <;> cases h
    | nil =>
      cases t <;> first | cases h | exact ⟨_, _, _, _, rfl, h⟩
theorem i_setT {ts : List Tg} {e : E} {X0 : Stmt} (h : chkSt k sc fb (.setT ts e) X0 = true) : ∃ es n p v q, X0 = .Assign [.Tuple es n p] v q ∧ (chkTgs k sc fb ts es && (chkE k sc fb e v && (notComp v && notTupE v))) = true := by
  cases X0 <;> first | cases h | skip
  rename_i ts v p
  cases ts with
  | nil => cases h
  | cons t r =>
    cases r with
    | cons _ _ => cases t <;> cases h
    | nil =>
      cases t <;> first | cases h | exact ⟨_, _, _, _, _, rfl, h⟩
theorem i_setL {ts : List Tg} {e : E} {X0 : Stmt} (h : chkSt k sc fb (.setL ts e) X0 = true) : ∃ es n p v q, X0 = .Assign [.Tuple es n p] v q ∧ (chkTgs k sc fb ts es && (chkE k sc fb e v && (notComp v && notTupE v))) = true := by
  cases X0 <;> first | cases h | skip
  rename_i ts v p
  cases ts with
  | nil => cases h
  | cons t r =>
    cases r with
    | cons _ _ => cases t <;> cases h
    | nil =>
      cases t <;> first | cases h | exact ⟨_, _, _, _, _, rfl, h⟩
theorem i_setIx {i : Nat} {kx e : E} {X0 : Stmt} (h : chkSt k sc fb (.setIx i kx e) X0 = true) : ∃ x p1 y p2 v q, X0 = .Assign [.Subscript (.Name x p1) y p2] v q ∧ (nameOk k sc i x && (notSlice y && (chkE k sc fb kx y && chkE k sc fb e v))) = true := by
  cases X0 <;> first | cases h | skip
  rename_i ts v p
  cases ts with
  | nil => cases h
  | cons t r =>
    cases r with
    | cons _ _ =>
      cases t <;> first | cases h | skip
      rename_i o _ _
      cases o <;> cases h
    | nil =>
      cases t <;> first | cases h | skip
      rename_i o _ _
      cases o <;> first | cases h | exact ⟨_, _, _, _, _, _, rfl, h⟩
theorem i_aug {i : Nat} {o : Op} {e : E} {X0 : Stmt} (h : chkSt k sc fb (.aug i o e) X0 = true) : ∃ x px p v q, X0 = .AugAssign (.Name x px) p v q ∧ (decide (k.N[i]? = some x) && (locOk sc fb x && (opk o p && (augOk o && chkE k sc fb e v)))) = true := by
  cases X0 <;> first | cases h | skip
  rename_i t p v q
  cases t <;> first | cases h | exact ⟨_, _, _, _, _, rfl, h⟩
theorem i_ins {i : Nat} {kx e : E} {X0 : Stmt} (h : chkSt k sc fb (.ins i kx e) X0 = true) : ∃ x px m ap y v cp q, X0 = .Expr (.Call (.Attribute (.Name x px) m ap) [y, v] [] cp) q ∧ (decide (m = ("insert" : Str)) && ((ap.endLine == cp.line) && (nameOk k sc i x && (notStar y && (notStar v && (chkE k sc fb kx y && chkE k sc fb e v)))))) = true := by
  cases X0 <;> first | cases h | skip
  rename_i w q
  cases w <;> first | cases h | skip
  rename_i f as kw cp
  cases f <;> first | cases h | skip
  rename_i o m ap
  cases o <;> first | cases h | skip
  cases as with
  | nil => cases h
  | cons y r =>
    cases r with
    | nil => cases h
    | cons v r =>
      cases r with
      | cons _ _ => cases h
      | nil =>
        cases kw with
        | cons _ _ => cases h
        | nil => exact ⟨_, _, _, _, _, _, _, _, rfl, h⟩
theorem i_app {i : Nat} {e : E} {X0 : Stmt} (h : chkSt k sc fb (.app i e) X0 = true) : ∃ x px m ap v cp q, X0 = .Expr (.Call (.Attribute (.Name x px) m ap) [v] [] cp) q ∧ (decide (m = ("append" : Str)) && ((ap.endLine == cp.line) && (nameOk k sc i x && (notStar v && chkE k sc fb e v)))) = true := by
  cases X0 <;> first | cases h | skip
  rename_i w q
  cases w <;> first | cases h | skip
  rename_i f as kw cp
  cases f <;> first | cases h | skip
  rename_i o m ap
  cases o <;> first | cases h | skip
  cases as with
  | nil => cases h
  | cons v r =>
    cases r with
    | cons _ _ => cases h
    | nil =>
      cases kw with
      | cons _ _ => cases h
      | nil => exact ⟨_, _, _, _, _, _, _, rfl, h⟩
theorem i_ext {i : Nat} {e : E} {X0 : Stmt} (h : chkSt k sc fb (.ext i e) X0 = true) : ∃ x px m ap v cp q, X0 = .Expr (.Call (.Attribute (.Name x px) m ap) [v] [] cp) q ∧ (decide (m = ("extend" : Str)) && ((ap.endLine == cp.line) && (nameOk k sc i x && (notStar v && chkE k sc fb e v)))) = true := by
  cases X0 <;> first | cases h | skip
  rename_i w q
  cases w <;> first | cases h | skip
  rename_i f as kw cp
  cases f <;> first | cases h | skip
  rename_i o m ap
  cases o <;> first | cases h | skip
  cases as with
  | nil => cases h
  | cons v r =>
    cases r with
    | cons _ _ => cases h
    | nil =>
      cases kw with
      | cons _ _ => cases h
      | nil => exact ⟨_, _, _, _, _, _, _, rfl, h⟩
theorem i_exp {e : E} {X0 : Stmt} (h : chkSt k sc fb (.exp e) X0 = true) : ∃ v q, X0 = .Expr v q ∧ (notComp v && chkE k sc fb e v) = true := by
  cases X0 <;> first | cases h | exact ⟨_, _, rfl, h⟩
theorem i_ret {e : E} {X0 : Stmt} (h : chkSt k sc fb (.ret e) X0 = true) : ∃ v q, X0 = .Return (some v) q ∧ ((!k.rf || fresh e) && chkE k sc fb e v) = true := by
  cases X0 <;> first | cases h | skip
  rename_i v q
  cases v with
  | none => cases h
  | some v => exact ⟨_, _, rfl, h⟩
theorem i_retO {i : Nat} {X0 : Stmt} (h : chkSt k sc fb (.retO i) X0 = true) : ∃ x p q, X0 = .Return (some (.Name x p)) q ∧ nameOk k sc i x = true := by
  cases X0 <;> first | cases h | skip
  rename_i v q
  cases v with
  | none => cases h
  | some v => cases v <;> first | cases h | exact ⟨_, _, _, rfl, h⟩
theorem i_retN {X0 : Stmt} (h : chkSt k sc fb .retN X0 = true) : ∃ q, X0 = .Return none q := by
  cases X0 <;> first | cases h | skip
  rename_i v q
  cases v with
  | none => exact ⟨_, rfl⟩
  | some v => cases h
theorem i_ife {c : E} {a b : Ss} {X0 : Stmt} (h : chkSt k sc fb (.ife c a b) X0 = true) : ∃ t p q r, X0 = .If t p q r ∧ (tOk c && (chkE k sc fb c t && (chkSs k sc fb a p && chkSs k sc fb b q))) = true := by
  cases X0 <;> first | cases h | exact ⟨_, _, _, _, rfl, h⟩
theorem i_fr {tg : Tg} {src : Src} {b : Ss} {X0 : Stmt} (h : chkSt k sc fb (.fr tg src b) X0 = true) : ∃ t it body r, X0 = .For t it body [] r ∧ (chkS k sc fb src t it && (chkTg k sc fb tg t && (chkSs k sc fb b body))) = true := by
  cases X0 <;> first | cases h | skip
  rename_i t it body els q
  cases els with
  | cons _ _ => cases h
  | nil => exact ⟨_, _, _, _, rfl, h⟩
theorem i_wh {c : E} {b : Ss} {X0 : Stmt} (h : chkSt k sc fb (.wh c b) X0 = true) : ∃ t body r, X0 = .While t body [] r ∧ (tOk c && (chkE k sc fb c t && chkSs k sc fb b body)) = true := by
  cases X0 <;> first | cases h | skip
  rename_i t body els q
  cases els with
  | cons _ _ => cases h
  | nil => exact ⟨_, _, _, rfl, h⟩
theorem i_brk {X0 : Stmt} (h : chkSt k sc fb .brk X0 = true) : ∃ p, X0 = .Break p := by
  cases X0 <;> first | exact ⟨_, rfl⟩ | cases h
theorem i_cont {X0 : Stmt} (h : chkSt k sc fb .cont X0 = true) : ∃ p, X0 = .Continue p := by
  cases X0 <;> first | exact ⟨_, rfl⟩ | cases h
theorem i_pass {X0 : Stmt} (h : chkSt k sc fb .pass X0 = true) : ∃ p, X0 = .Pass p := by
  cases X0 <;> first | exact ⟨_, rfl⟩ | cases h
theorem i_raise {c : Str} {es : Es} {X0 : Stmt} (h : chkSt k sc fb (.raise c es) X0 = true) : ∃ y p x xs q r, X0 = .Raise (some (.Call (.Name y p) (x :: xs) [] q)) none r ∧ (decide (c = y) && (gl sc y && (nmOk y && (exLen k c es && chkEs k sc fb es (x :: xs))))) = true := by
  cases X0 <;> first | cases h | skip
  rename_i e cs r
  cases e with
  | none => cases h
  | some e =>
    cases e <;> first | cases h | skip
    rename_i fn as kw q
    cases fn <;> first | cases h | skip
    cases as with
    | nil => cases h
    | cons x xs =>
      cases kw with
      | cons _ _ => cases h
      | nil =>
        cases cs with
        | some _ => cases h
        | none => exact ⟨_, _, _, _, _, _, rfl, h⟩
theorem i_tr {b : Ss} {c : Str} {i : Option Nat} {xs : List (Str × List Str)} {h : Hn} {X0 : Stmt} (e : chkSt k sc fb (.tr b c i xs h) X0 = true) : ∃ body hds p, X0 = .Try body hds [] [] p ∧ (!k.rf && (chkSs k sc fb b body && (decide (xs = k.exs) && (!k.exs.isEmpty && chkHd k sc c i h hds)))) = true := by
  cases X0 <;> first | cases e | skip
  rename_i body hds els fin p
  cases els with
  | cons _ _ => cases e
  | nil =>
    cases fin with
    | cons _ _ => cases e
    | nil => exact ⟨_, _, _, rfl, e⟩
theorem i_hd {c : Str} {i : Option Nat} {h : Hn} {hds : List ExceptHandler} (e : chkHd k sc c i h hds = true) : ∃ z np n b suite p, hds = [.ExceptHandler (some (.Name z np)) n (b :: suite) p] ∧ (decide (z = c) && (k.cls.contains c && (gl sc z && (nmOk z && (chkHn k sc n h (b :: suite) && nmB k sc i n))))) = true := by
  cases hds with
  | nil => cases e
  | cons hd r =>
    cases hd
    rename_i ty n suite p
    cases ty with
    | none => cases e
    | some ty =>
      cases ty <;> first | cases e | skip
      rename_i z np
      cases suite with
      | nil => cases e
      | cons b suite =>
        cases r with
        | cons _ _ => cases e
        | nil => exact ⟨_, _, _, _, _, _, rfl, e⟩
theorem i_cons {s : S} {r : Ss} {xs : List Stmt} (h : chkSs k sc fb (.cons s r) xs = true) : ∃ x ys, xs = x :: ys ∧ (chkSt k sc fb s x && chkSs k sc fb r ys) = true := by
  cases xs with
  | nil => cases h
  | cons x ys => exact ⟨x, ys, rfl, h⟩
theorem i_nil {xs : List Stmt} (h : chkSs k sc fb .nil xs = true) : xs = [] := by
  cases xs with
  | nil => rfl
  | cons _ _ => cases h
end
end PyI
/-! PyI, part 13: checked statements run as the interpreter says. -/
namespace PyI
open PySem PySem.Spec PyProof.Rows L2
theorem PSs.ex {ι κ : Type} {X : Cx} {st : List Stmt} {t : ι → κ → TS} (h : ∀ i j, PSs X st (t i j)) : PSs X st (fun D σ H => ∃ i j, t i j D σ H) := ⟨fun pins s σ H D I ⟨i, j, q⟩ => (h i j).run pins s σ H D I q⟩
section
variable {k : Ck}
theorem comp_of {sc : Scope} {fb : Str → Bool} {e : E} {elt : Expr} {gs : List Comprehension} {scope : Scope} {q : Pos} (h : chkE k sc fb e (.ListComp elt gs scope q) = true) : (∃ a tg src own, e = .comp a tg src own) ∨ (∃ a tg src c own, e = .compIf a tg src c own) ∨ ∃ a tg src tg1 src1 own vs1, e = .comp2 a tg src tg1 src1 own vs1 := by
  cases e <;> first | exact .inl ⟨_, _, _, _, rfl⟩ | exact .inr (.inl ⟨_, _, _, _, _, rfl⟩) | exact .inr (.inr ⟨_, _, _, _, _, _, _, rfl⟩) | cases h | (rename_i f es; cases es <;> cases h)
theorem s_set (i : Nat) (e : E) : SndSt k (.set i e) := by
  intro X0 X c sc fb fu g hp h
  obtain ⟨x, px, v, p, rfl, h⟩ := i_set h
  obtain ⟨h1, h⟩ := ba h
  obtain ⟨h2, h⟩ := ba h
  obtain ⟨h3, h⟩ := ba h
  have hN : X.N[i]? = some x := by rw [g.N]; exact of_decide_eq_true h1
  obtain ⟨hl, hf⟩ := locOk_ok h2 g
  rw [Bool.or_eq_true] at h
  have go : swapsWith v (some (.Name x px)) p.line X.env = pure false → PS X (.Assign [.Name x px] v p) (rdSt c fu (.set i e)) := fun hs =>
    psImp (ps_set g.nd hN hl (peE k e v g h3) hs hf) fun D σ H q => ls_set q
  rcases h with h | h
  · exact go (nc_ok h _ _ _)
  rw [Bool.or_eq_true] at h
  rcases h with h | h
  · exact go (swF_ok h g.sc _)
  · obtain ⟨elt, gs, scope, q, rfl, h⟩ := swT_inv h
    obtain ⟨w1, h⟩ := ba h
    obtain ⟨w2, h⟩ := ba h
    obtain ⟨w3, w4⟩ := ba h
    have xl : X.env.scope.names.lookup x = some .local := by rw [g.sc]; exact local_ok w2
    have hsw := sw_true (elt := elt) (gs := gs) (scope := scope) (pos := q) (py := px) (y := x) (l := p.line) (env := X.env) (by rw [g.sc]; exact isFn_ok w1) xl w3 (bn w4)
    rcases comp_of h3 with ⟨elt0, tg, src, own, rfl⟩ | ⟨elt0, tg, src, cd, own, rfl⟩ | ⟨elt0, tg, src, tg1, src1, own, vs1, rfl⟩
    · skip
      obtain ⟨x1, t, it, scope1, q1, e1, hh⟩ := inv_comp h3
      cases e1
      obtain ⟨h1, h2⟩ := ba (show (blkC k.N sc scope (ownN k.N own) && (chkS k sc fb src t it && ((liS src).isEmpty && ((tgIx tg).all (own.contains ·) && (chkTg k (relS scope sc) (isCell scope) tg t && chkE k (relS scope sc) (isCell scope) elt0 elt))))) = true from hh)
      obtain ⟨h3', h4⟩ := ba h2
      obtain ⟨h5, h6⟩ := ba h4
      obtain ⟨h7, h8⟩ := ba h6
      obtain ⟨h9, h10⟩ := ba h8
      have r := ps_setLc (own := ownN k.N own) (g := tgG X.K tg) (spos := p) g.calm g.nd hN xl hsw (piS k src t it g h3') (by rw [g.N, g.sc]; exact blkOk_by h1) (fun s H C cl fp => pgTg (g.blk s H scope cl C fp) tg t h9) (fun s H C cl fp => pts_nil) (fun s H C cl fp => peE k elt0 elt (g.blk s H scope cl C fp) h10) (fun v => set_ok (chkS_set h3') X.env v)
      rw [own_snd] at r
      exact psImp r fun D σ H q => lp_comp g.K (by simpa using h5) (fun i hi => by have := List.all_eq_true.mp h7 i hi; simpa using this) (ls_set q)
    · skip
      obtain ⟨x1, t, it, i1, scope1, q1, e1, hh⟩ := inv_compIf h3
      cases e1
      obtain ⟨h1, h2⟩ := ba (show (blkC k.N sc scope (ownN k.N own) && (chkS k sc fb src t it && ((liS src).isEmpty && ((tgIx tg).all (own.contains ·) && (tOk cd && (chkTg k (relS scope sc) (isCell scope) tg t && (chkE k (relS scope sc) (isCell scope) cd i1 && chkE k (relS scope sc) (isCell scope) elt0 elt))))))) = true from hh)
      obtain ⟨h3', h4⟩ := ba h2
      obtain ⟨h5, h6⟩ := ba h4
      obtain ⟨h7, h8⟩ := ba h6
      obtain ⟨h11, h8⟩ := ba h8
      obtain ⟨h9, h10⟩ := ba h8
      obtain ⟨h12, h10⟩ := ba h10
      have r := ps_setLc (own := ownN k.N own) (g := tgG X.K tg) (spos := p) g.calm g.nd hN xl hsw (piS k src t it g h3') (by rw [g.N, g.sc]; exact blkOk_by h1) (fun s H C cl fp => pgTg (g.blk s H scope cl C fp) tg t h9) (fun s H C cl fp => pts_one (ptE k cd i1 (g.blk s H scope cl C fp) h11 h12)) (fun s H C cl fp => peE k elt0 elt (g.blk s H scope cl C fp) h10) (fun v => set_ok (chkS_set h3') X.env v)
      rw [own_snd] at r
      exact psImp r fun D σ H q => lp_compIf g.K (by simpa using h5) (fun i hi => by have := List.all_eq_true.mp h7 i hi; simpa using this) (ls_set q)
    · skip
      obtain ⟨x1, t, it, t1, it1, scope1, q1, e1, w⟩ := inv_comp2 h3
      cases e1
      obtain ⟨h1, w⟩ := ba w
      obtain ⟨h2, w⟩ := ba w
      obtain ⟨h3', w⟩ := ba w
      obtain ⟨h4, w⟩ := ba w
      obtain ⟨h5, w⟩ := ba w
      obtain ⟨h6, w⟩ := ba w
      obtain ⟨h7, w⟩ := ba w
      obtain ⟨h8, w⟩ := ba w
      obtain ⟨h9, w⟩ := ba w
      obtain ⟨h10, h11⟩ := ba w
      have r := ps_setLc2 (own := ownN k.N own) (vs1 := vs1) (g := tgG X.K tg) (g1 := tgG X.K tg1) (spos := p) g.calm g.nd hN xl hsw (piS k src t it g h2) (by rw [g.N, g.sc]; exact blkOk_by h1) (by rw [own_snd]; exact fun i hi => (by have := List.all_eq_true.mp h9 i hi; simpa using this)) (fun s H C cl fp => pgTg (g.blk s H scope cl C fp) tg t h5) (fun s H C cl fp => pts_nil) (fun s H C cl fp => piS k src1 t1 it1 (g.blk s H scope cl C fp) h6) (fun s H C cl fp => pgTg (g.blk s H scope cl C fp) tg1 t1 h10) (fun s H C cl fp => pts_nil) (fun s H C cl fp => peE k elt0 elt (g.blk s H scope cl C fp) h11) (fun v => set_ok (chkS_set h2) X.env v) (fun env v => set_ok (chkS_set h6) env v)
      rw [own_snd] at r
      exact psImp r fun D σ H q => lp_comp2 g.K (by simpa using h3') (by simpa using h7) (fun i hi => by have := List.all_eq_true.mp h4 i hi; simpa using this) (fun i hi => by have := List.all_eq_true.mp h8 i hi; simpa using this) (ls_set q)
theorem s_setT (ts : List Tg) (e : E) : SndSt k (.setT ts e) := by
  intro X0 X c sc fb fu g hp h
  obtain ⟨es, n, p, v, q, rfl, h⟩ := i_setT h
  obtain ⟨h1, h⟩ := ba h
  obtain ⟨h2, h⟩ := ba h
  obtain ⟨h3, h4⟩ := ba h
  have pg := pgTg (X := X) g (.tup ts) (.Tuple es n p) h1
  rw [← g.K] at pg
  exact psImp (ps_asg (peE k e v g h2) pg (tup_sw v es n p q.line X.env) (nt_ok h4 es n p X.env) rfl) fun D σ H q => ls_setT q
theorem s_setL (ts : List Tg) (e : E) : SndSt k (.setL ts e) := by
  intro X0 X c sc fb fu g hp h
  obtain ⟨es, n, p, v, q, rfl, h⟩ := i_setL h
  obtain ⟨h1, h⟩ := ba h
  obtain ⟨h2, h⟩ := ba h
  obtain ⟨h3, h4⟩ := ba h
  obtain ⟨a, b⟩ := chkTgs_len X.env h1
  have pg : PG X (.Tuple es n p) (gLst X.K ts.length (tgGs X.K ts)) := pg_lst g.calm (pgTgs (X := X) g ts es h1) a b
  rw [← g.K] at pg
  exact psImp (ps_asg (peE k e v g h2) pg (tup_sw v es n p q.line X.env) (nt_ok h4 es n p X.env) rfl) fun D σ H q => ls_setL q
theorem s_ins (i : Nat) (kx e : E) : SndSt k (.ins i kx e) := by
  intro X0 X c sc fb fu g hp h
  obtain ⟨x, px, m, ap, y, v, cp, q, rfl, h⟩ := i_ins h
  obtain ⟨h1, h⟩ := ba h
  obtain ⟨h2, h⟩ := ba h
  obtain ⟨h3, h⟩ := ba h
  obtain ⟨h4, h⟩ := ba h
  obtain ⟨h5, h⟩ := ba h
  obtain ⟨h6, h7⟩ := ba h
  have e := of_decide_eq_true h1
  subst e
  have pa : PA X [y, v] (tCons (rdE c kx) (tCons (rdE c e) tNil)) := pa_cons (peE k kx y g h6) (pa_cons (peE k e v g h7) pa_nil (star_ok h5 [] X.env)) (star_ok h4 [v] X.env)
  have r := pe_bm (cpos := cp) (apos := ap) (r := rIns) PySem.F.plainAttrs_list PySem.F.slot_list_insert PySem.F.type_list_insert mt_insert (nameOk_ok h3 g px) pa rfl (by rw [star_ok h4, star_ok h5]; rfl) h2 (star_ok h4 [v] X.env) (by rw [star_ok h5]; rfl)
  rw [← g.K] at r
  exact psImp (ps_expr r rfl) fun D σ H q => ls_ins q
theorem s_setIx (i : Nat) (kx e : E) : SndSt k (.setIx i kx e) := by
  intro X0 X c sc fb fu g hp h
  obtain ⟨x, p1, y, p2, v, q, rfl, h⟩ := i_setIx h
  obtain ⟨h1, h⟩ := ba h
  obtain ⟨h2, h⟩ := ba h
  obtain ⟨h3, h4⟩ := ba h
  exact psImp (ps_asg (peE k e v g h4) (pg_sub (pos := p2) (nameOk_ok h1 g p1) (peE k kx y g h3) set_list (by intro w; cases y <;> first | rfl | cases h2)) (sub_sw v (.Name x p1) y p2 q.line X.env) (sub_ws v (.Name x p1) y p2 X.env) rfl) fun D σ H q => ls_setIx q
theorem s_aug (i : Nat) (o : Op) (e : E) : SndSt k (.aug i o e) := by
  intro X0 X c sc fb fu g hp h
  obtain ⟨x, px, p, v, q, rfl, h⟩ := i_aug h
  obtain ⟨h1, h⟩ := ba h
  obtain ⟨h2, h⟩ := ba h
  obtain ⟨h3, h⟩ := ba h
  obtain ⟨h0, h4⟩ := ba h
  have hN : X.N[i]? = some x := by rw [g.N]; exact of_decide_eq_true h1
  obtain ⟨hl, hf⟩ := locOk_ok h2 g
  have ep := opk_ok h3
  subst ep
  cases o with
  | add => exact psImp (ps_aug g.nd hN hl (peE k e v g h4) ip_add hf) fun D σ H q => (ls_aug q).1 rfl
  | sub => exact psImp (ps_aug g.nd hN hl (peE k e v g h4) ip_sub hf) fun D σ H q => (ls_aug q).2 rfl
  | _ => cases h0
theorem s_app (i : Nat) (e : E) : SndSt k (.app i e) := by
  intro X0 X c sc fb fu g hp h
  obtain ⟨x, px, m, ap, v, cp, q, rfl, h⟩ := i_app h
  obtain ⟨h1, h⟩ := ba h
  obtain ⟨h2, h⟩ := ba h
  obtain ⟨h3, h⟩ := ba h
  obtain ⟨h4, h5⟩ := ba h
  have e := of_decide_eq_true h1
  subst e
  have pa : PA X [v] (tCons (rdE c e) tNil) := pa_cons (peE k e v g h5) pa_nil (star_ok h4 [] X.env)
  have r := pe_bm (cpos := cp) (apos := ap) PySem.F.plainAttrs_list PySem.F.slot_list_append PySem.F.type_list_append mt_append (nameOk_ok h3 g px) pa rfl (by rw [star_ok h4]; rfl) h2 (star_ok h4 [] X.env) rfl
  rw [← g.K] at r
  exact psImp (ps_expr r rfl) fun D σ H q => ls_app q
theorem s_ext (i : Nat) (e : E) : SndSt k (.ext i e) := by
  intro X0 X c sc fb fu g hp h
  obtain ⟨x, px, m, ap, v, cp, q, rfl, h⟩ := i_ext h
  obtain ⟨h1, h⟩ := ba h
  obtain ⟨h2, h⟩ := ba h
  obtain ⟨h3, h⟩ := ba h
  obtain ⟨h4, h5⟩ := ba h
  have e := of_decide_eq_true h1
  subst e
  have pa : PA X [v] (tCons (rdE c e) tNil) := pa_cons (peE k e v g h5) pa_nil (star_ok h4 [] X.env)
  have r := pe_bm (cpos := cp) (apos := ap) PySem.F.plainAttrs_list PySem.F.slot_list_extend PySem.F.type_list_extend mt_extend (nameOk_ok h3 g px) pa rfl (by rw [star_ok h4]; rfl) h2 (star_ok h4 [] X.env) rfl
  rw [← g.K] at r
  exact psImp (ps_expr r rfl) fun D σ H q => ls_ext q
theorem s_exp (e : E) : SndSt k (.exp e) := by
  intro X0 X c sc fb fu g hp h
  obtain ⟨v, q, rfl, h⟩ := i_exp h
  obtain ⟨h1, h2⟩ := ba h
  exact psImp (ps_expr (peE k e v g h2) (nc_ok h1 _ _ _)) fun D σ H q => ls_exp q
theorem s_ret (e : E) : SndSt k (.ret e) := by
  intro X0 X c sc fb fu g hp h
  obtain ⟨v, q, rfl, h⟩ := i_ret h
  obtain ⟨h1, h2⟩ := ba h
  refine psImp (ps_ret (peE k e v g h2)) fun D σ H q => ls_ret (fun hr => ?_) q
  rw [g.rf, hr] at h1
  exact h1
theorem s_retO (i : Nat) : SndSt k (.retO i) := by
  intro X0 X c sc fb fu g hp h
  obtain ⟨x, p, q, rfl, h⟩ := i_retO h
  exact psImp (ps_ret (nameOk_ok h g p)) fun D σ H q => ls_retO q
theorem s_retN : SndSt k .retN := by
  intro X0 X c sc fb fu g hp h
  obtain ⟨q, rfl⟩ := i_retN h
  exact psImp ps_retN fun D σ H q => ls_retN q
theorem s_brk : SndSt k .brk := by
  intro X0 X c sc fb fu g hp h
  obtain ⟨q, rfl⟩ := i_brk h
  exact psImp ps_break fun D σ H ⟨own, τ, S, h⟩ => h own σ H S
theorem s_cont : SndSt k .cont := by
  intro X0 X c sc fb fu g hp h
  obtain ⟨q, rfl⟩ := i_cont h
  exact psImp ps_continue fun D σ H ⟨own, τ, S, h⟩ => h own σ H S
theorem s_pass : SndSt k .pass := by
  intro X0 X c sc fb fu g hp h
  obtain ⟨q, rfl⟩ := i_pass h
  exact psImp ps_pass fun D σ H ⟨own, τ, S, h⟩ => h own σ H S
theorem s_never : SndSt k .never := by
  intro X0 X c sc fb fu g hp h
  exact psImp ps_never fun D σ H ⟨own, τ, S, h⟩ => h
theorem s_raise (x : Str) (es : Es) : SndSt k (.raise x es) := by
  intro X0 X c sc fb fu g hp h
  obtain ⟨y, p, e, xs, q, r, rfl, h⟩ := i_raise h
  obtain ⟨h1, h⟩ := ba h
  obtain ⟨h2, h⟩ := ba h
  obtain ⟨h3, h⟩ := ba h
  obtain ⟨h4, h5⟩ := ba h
  cases of_decide_eq_true h1
  unfold exLen at h4
  cases hl : k.exs.lookup x with
  | none => rw [hl] at h4; cases h4
  | some fl =>
    rw [hl] at h4
    obtain ⟨C, fI, fd, ps, T, iC, tI, F1, hb, hm, hf, h9⟩ := g.exs _ (ex_mem hl)
    obtain ⟨st1, r0, st2⟩ := chkEs_head h5
    have mk := pmk_oex (p := p) (pos := q) T iC tI F1 g.room hb .nil passL (g.gl h2) hm (paEs k es (e :: xs) g h5) (nm_ok h3).1 (star_ok st1 xs X.env) (stars_plain st2)
    exact psImp (ps_raise g.calm g.takes mk) fun D σ H q => ls_raise (by rw [g.mg]; exact hm) hf (of_decide_eq_true h4) h9 q
/-- the context of a try's body -/
theorem Good.tr {X : Cx} {c : Cc} {sc : Scope} {fb : Str → Bool} (g : Good k X c sc fb) {pn : List (Addr × Obj)} {xe : Value → Shared → Prop} {W : WX} (tk : Takes (X.tr pn xe) W) : Good k (X.tr pn xe) { c with W := W } sc fb where
  sc := g.sc
  fb := g.fb
  N := g.N
  nd := g.nd
  calm := g.calm
  K := g.K
  mg := g.mg
  un := g.un
  takes := tk
  fr := g.fr
  gm := g.gm
  lm := g.lm
  gs := g.gs
  fns := g.fns
  room := g.room
  exs := g.exs
  exq := g.exq
  rf := g.rf
  frs := g.frs
  gd := g.gd
theorem Sim.w {c : Cc} {W : WX} {own : Nat → Option Addr} {τ : Env} {σ : L2.St} {H : Hp} (S : Sim c own τ σ H) : Sim { c with W := W } own τ σ H := ⟨S.len, S.val, S.ows, S.inj, S.al, S.fin, S.f0, S.same, S.bs.k, S.bs.n, S.bs.f⟩
theorem Sim.uw {c : Cc} {W : WX} {own : Nat → Option Addr} {τ : Env} {σ : L2.St} {H : Hp} (S : Sim { c with W := W } own τ σ H) : Sim c own τ σ H := ⟨S.len, S.val, S.ows, S.inj, S.al, S.fin, S.f0, S.same, S.bs.k, S.bs.n, S.bs.f⟩
/-- a try, read -/
theorem ls_tr {X : Cx} {c : Cc} {sc : Scope} {fb : Str → Bool} {fu : Nat} (g : Good k X c sc fb) {b : Ss} {x : Str} {i : Option Nat} {xs : List (Str × List Str)} {hn : Hn} {D : Ends} {σ : L2.St} {H : Hp} {W : WX} (hrf : c.rf = false) (hxs : xs = k.exs)
    (hW : ∀ y ds σ' H' cls dd, (∃ fl, (y, fl) ∈ k.exs) → ExAt c.K c.mg c.xf c.F0 H' y ds cls dd → Same c.H0 H' →
      (subX y x = true → ∃ d, hnD xs y ds hn [] = .ok d ∧ ∀ v H2, Same c.H0 H2 → Rep c.K c.F0 H2 d v → D.rt v H2) → (subX y x = false → c.W cls dd σ' H') → W cls dd σ' H')
    (q : rdSt c fu (.tr b x i xs hn) D σ H) : rdSs { c with W := W } fu b D σ H := by
  obtain ⟨own, τ, S, h⟩ := q
  have h : EndS c D (trO xs x hn (exL c.G c.Φ fu b τ)) := h
  refine ⟨own, τ, S.w, ?_⟩
  show EndS { c with W := W } D (exL c.G c.Φ fu b τ)
  cases z : exL c.G c.Φ fu b τ with
  | nx τ' =>
    rw [z] at h
    exact fun own σ H S' => h own σ H S'.uw
  | rt d =>
    rw [z] at h
    exact h
  | bk τ' =>
    rw [z] at h
    exact fun own σ H S' => h own σ H S'.uw
  | ct τ' =>
    rw [z] at h
    exact fun own σ H S' => h own σ H S'.uw
  | bad => rw [z] at h; exact h.elim
  | exc y ds =>
    rw [z] at h
    intro own' τ' σ' H' S' cls dd H2 s2 ex
    have h : EndS c D (if (xs.lookup y).isSome then (if subX y x then (match hnD xs y ds hn [] with
      | .ok d => .rt d
      | _ => .bad) else .exc y ds) else .bad) := h
    by_cases hs : (xs.lookup y).isSome = true
    · rw [if_pos hs] at h
      obtain ⟨fl, hfl⟩ := Option.isSome_iff_exists.mp hs
      refine hW y ds σ' H2 cls dd ⟨fl, by rw [← hxs]; exact ex_mem hfl⟩ ex (S'.same.trans s2) (fun hb => ?_) fun hb => ?_
      · rw [if_pos hb] at h
        cases e : hnD xs y ds hn [] with
        | ok d => rw [e] at h; exact ⟨d, rfl, fun v H2 s r => (show ∀ v H, Same c.H0 H → RepT c.K (fun a => c.F0 a ∨ (c.rf = true ∧ c.H0 a ≠ none)) c.F0 H d v → D.rt v H from h) v H2 s (r.t.weak (fun a z => z.elim id fun z => by rw [hrf] at z; cases z.1) fun _ z => z)⟩
        | exc _ _ => rw [e] at h; exact h.elim
        | bad => rw [e] at h; exact h.elim
      · rw [hb] at h
        exact h own' τ' σ' H' S'.uw cls dd H2 s2 ex
    · rw [if_neg hs] at h
      exact h.elim
theorem s_tr (b : Ss) (x : Str) (i : Option Nat) (xs : List (Str × List Str)) (hn : Hn) (hb : SndSs k b) : SndSt k (.tr b x i xs hn) := by
  intro X0 X c sc fb fu g hp h
  obtain ⟨body, hds, p, rfl, h⟩ := i_tr h
  obtain ⟨hrf, h⟩ := ba h
  have hrf : c.rf = false := by rw [← g.rf]; exact bn hrf
  obtain ⟨h1, h⟩ := ba h
  obtain ⟨h2, h⟩ := ba h
  obtain ⟨hne, h3⟩ := ba h
  have hxs : xs = k.exs := of_decide_eq_true h2
  obtain ⟨z, np, n, b0, suite, p', rfl, u1⟩ := i_hd h3
  obtain ⟨h4, u2⟩ := ba u1
  obtain ⟨h5, u3⟩ := ba u2
  obtain ⟨h6, u4⟩ := ba u3
  obtain ⟨h7, u5⟩ := ba u4
  obtain ⟨h8, h9⟩ := ba u5
  cases of_decide_eq_true h4
  have hz : x ∈ k.cls := by simpa using h5
  have gz : Gl X x := g.gl h6
  have inner : ∀ (W : WX) (pn : List (Addr × Obj)) (xe : Value → Shared → Prop), Takes (X.tr pn xe) W → PassesOwn (model X.prog X.w) X.A X.env xe → PSs (X.tr pn xe) body (rdSs { c with W := W } fu b) := fun W pn xe tk pw => hb body (g.tr tk) ⟨pw, hp.stk, hp.frm⟩ h1
  have hex : ∃ q, q ∈ k.exs := by
    cases e : k.exs with
    | nil => rw [e] at hne; cases hne
    | cons q r => exact ⟨q, List.mem_cons_self⟩
  · obtain ⟨⟨q1, q2⟩, hq⟩ := hex
    obtain ⟨_, _, _, _, _, _, hcv⟩ := g.exq _ hq
    obtain ⟨cv, hcv, _⟩ := hcv x hz
    have hN : Names X x cv := ⟨gz, (nm_ok h7).1, by
      rcases hcv with ⟨a, rfl, hm⟩ | ⟨rfl, rfl, hm⟩
      · exact .inl hm
      · exact .inr ⟨hm, by decide +kernel, by decide⟩⟩
    have same : ∀ {cls : Value} {dd : Option Addr} {y : Str} {ds : List PyI.D} {H' : Hp}, (∃ fl, (y, fl) ∈ k.exs) → ExAt c.K c.mg c.xf c.F0 H' y ds cls dd → PySem.W.exmOne X.K cls cv = some (subX y x) := by
      intro cls dd y ds H' ⟨fl, hm⟩ ex
      obtain ⟨C, e1, _, _, _, _, e2⟩ := g.exq _ hm
      obtain ⟨cv', e3, _, e5⟩ := e2 x hz
      obtain ⟨C', e6, e7, _⟩ := ex
      rw [g.mg, e1] at e6
      cases e6
      have : cv' = cv := by
        rcases e3 with ⟨a, rfl, hm⟩ | ⟨rfl, hz1, hm⟩
        · rcases hcv with ⟨a', rfl, hm'⟩ | ⟨rfl, _, hm'⟩
          · rw [hm] at hm'
            cases hm'
            rfl
          · rw [hm] at hm'; cases hm'
        · rcases hcv with ⟨a', rfl, hm'⟩ | ⟨rfl, _, hm'⟩
          · rw [hm] at hm'; cases hm'
          · rfl
      rw [e7, ← this]
      exact e5
    have hc : ∀ a cls d, HGood k X ⟨c, xs, i, a, cls, d⟩ sc n := fun a cls d => {
      sc := g.sc
      N := g.N
      K := g.K
      mg := g.mg
      fr := g.fr
      xs := hxs
      xf := fun p hp => by
        obtain ⟨_, _, _, _, _, _, _, _, _, _, e, _⟩ := g.exs p hp
        exact e
      exq := g.exq
      nd := g.nd
      ni := fun hn => by
        subst hn
        cases i with
        | none => rfl
        | some i => cases h9
      nm := fun y hy => by
        subst hy
        cases i with
        | none => cases h9
        | some i =>
          obtain ⟨w1, w⟩ := ba (show (decide (k.N[i]? = some y) && (isLocal sc y && nmOk y)) = true from h9)
          obtain ⟨w2, w3⟩ := ba w
          exact ⟨i, rfl, of_decide_eq_true w1, by rw [g.sc]; exact local_ok w2, w3⟩ }
    have look : ∀ {y : Str}, (∃ fl, (y, fl) ∈ k.exs) → (xs.lookup y).isSome = true := fun {y} ⟨fl, hm⟩ => by
      rw [hxs]
      revert hm
      generalize k.exs = l
      intro hm
      induction l with
      | nil => cases hm
      | cons p r ih =>
        obtain ⟨u, w⟩ := p
        rw [List.lookup_cons]
        split
        · rfl
        · rename_i ne
          rcases List.mem_cons.mp hm with e | m
          · cases e
            simp at ne
          · exact ih m
    cases n with
    | some n =>
      cases i with
      | none => cases h9
      | some i =>
        obtain ⟨w1, w⟩ := ba (show (decide (k.N[i]? = some n) && (isLocal sc n && nmOk n)) = true from h9)
        obtain ⟨w2, w3⟩ := ba w
        refine psImp (ps_try_as (i := i) hp.stk hp.frm g.nd (by rw [g.N]; exact of_decide_eq_true w1) (by show X.env.scope.names.lookup n = _; rw [g.sc]; exact local_ok w2) hN g.takes inner (fun a oe cls d pn zc hf => hnS k hn (b0 :: suite) X ⟨c, xs, some i, a, cls, d⟩ sc (some n) oe pn (hc a cls d) zc hf h8)) fun D σ H q => ?_
        refine ls_tr g hrf hxs (fun y ds σ' H' cls dd hy ex sm k1 k2 => ⟨_, same hy ex, fun hb a ha => ?_, k2⟩) q
        obtain ⟨d, e1, e2⟩ := k1 hb
        exact ⟨y, ds, [], ⟨fun j hj => by cases hj; exact ⟨σ', rfl⟩, look hy, ex, fun _ _ z => (nomatch z)⟩, d, e1, fun v H2 s r => e2 v H2 (sm.trans s) r⟩
    | none =>
      cases i with
      | some i => cases h9
      | none =>
        refine psImp (ps_try_many hp.stk hp.frm g.takes inner (.cons hN (fun a oe cls d pn zc hf => hnS k hn (b0 :: suite) X ⟨c, xs, none, a, cls, d⟩ sc none oe pn (hc a cls d) zc hf h8) .nil)) fun D σ H q => ?_
        refine ls_tr g hrf hxs (fun y ds σ' H' cls dd hy ex sm k1 k2 => ⟨_, same hy ex, fun hb a ha => ?_, k2⟩) q
        obtain ⟨d, e1, e2⟩ := k1 hb
        exact ⟨y, ds, [], ⟨fun j hj => (by cases hj), look hy, ex, fun _ _ z => (nomatch z)⟩, d, e1, fun v H2 s r => e2 v H2 (sm.trans s) r⟩
theorem s_ife (c : E) (a b : Ss) (ha : SndSs k a) (hb : SndSs k b) : SndSt k (.ife c a b) := by
  intro X0 X c' sc fb fu g hp h
  obtain ⟨t, p, q, r, rfl, h⟩ := i_ife h
  obtain ⟨h1, h⟩ := ba h
  obtain ⟨h2, h⟩ := ba h
  obtain ⟨h3, h4⟩ := ba h
  exact psImp (ps_if (ptE k c t g h1 h2) (ha p g hp h3) (hb q g hp h4)) fun D σ H q => ls_ife q
theorem s_wh (c : E) (b : Ss) (hb : SndSs k b) : SndSt k (.wh c b) := by
  intro X0 X c' sc fb fu g hp h
  obtain ⟨t, p, r, rfl, h⟩ := i_wh h
  obtain ⟨h1, h⟩ := ba h
  obtain ⟨h2, h3⟩ := ba h
  exact psImp (ps_while hp.ps (ptE k c t g h1 h2) (hb p g hp h3)) fun D σ H q => ls_wh q
theorem s_fr (tg : Tg) (src : Src) (b : Ss) (hb : SndSs k b) : SndSt k (.fr tg src b) := by
  intro X0 X c' sc fb fu g hp h
  obtain ⟨t, it, p, r, rfl, h⟩ := i_fr h
  obtain ⟨h1, h⟩ := ba h
  obtain ⟨h2, h3⟩ := ba h
  have pg := pgTg (X := X) g tg t h2
  rw [← g.K] at pg
  exact psImp (ps_for hp.ps g.calm (piS k src t it g h1) pg (PSs.ex fun B HB => hb p (g.base B HB) hp h3) (fun v => set_ok (chkS_set h1) X.env v)) fun D σ H q => ls_fr q
end
mutual
theorem psS (k : Ck) : ∀ s : S, SndSt k s
  | .set i e => s_set i e
  | .setT ts e => s_setT ts e
  | .setIx i kx e => s_setIx i kx e
  | .aug i o e => s_aug i o e
  | .app i e => s_app i e
  | .ext i e => s_ext i e
  | .ins i kx e => s_ins i kx e
  | .setL ts e => s_setL ts e
  | .exp e => s_exp e
  | .ret e => s_ret e
  | .retN => s_retN
  | .retO i => s_retO i
  | .ife c a b => s_ife c a b (psL k a) (psL k b)
  | .fr tg src b => s_fr tg src b (psL k b)
  | .wh c b => s_wh c b (psL k b)
  | .brk => s_brk
  | .cont => s_cont
  | .pass => s_pass
  | .never => s_never
  | .raise c es => s_raise c es
  | .tr b c i xs h => s_tr b c i xs h (psL k b)
theorem psL (k : Ck) : ∀ s : Ss, SndSs k s
  | .nil => fun x X c sc fb fu g hp h => by
    cases i_nil h
    exact pssImp pss_nil fun D σ H q => ls_nil q
  | .cons s r => fun x X c sc fb fu g hp h => by
    obtain ⟨y, ys, rfl, h⟩ := i_cons h
    obtain ⟨h1, h2⟩ := ba h
    exact pssImp (pss_cons (psS k s y g hp h1) (psL k r ys g hp h2)) fun D σ H q => ls_cons q
end
end PyI
/-! PyI, part 14: the defs of a table keep what the interpreter says. -/
namespace PyI
open PySem PySem.Spec PyProof.Rows L2
structure DDef where
  name : Str
  ps : List Str
  N : List Str
  st : Stmt
  body : Ss
  /-- it returns lists of its own -/
  rf : Bool := false
/-- an exception: the class, its fields in order of storing, its __init__'s parameters and names -/
structure XDef where
  name : Str
  fs : List Str
  ps : List Str
  N : List Str
structure Tbl where
  defs : List DDef
  G : List (Str × D)
  /-- built-in names that the module leaves alone -/
  fr : List Str
  gm : List Str
  fu : Nat
  xds : List XDef := []
  /-- classes that except and isinstance ask for -/
  cls : List Str := []
  /-- the program's file -/
  file : Str := Str.empty
  /-- dicts written at the module's top, with text keys and ints -/
  gd : List (Str × List (Str × Int)) := []
  lm : List Str := []
def Tbl.exs (T : Tbl) : List (Str × List Str) := T.xds.map fun x => (x.name, x.fs)
def DDef.fn (d : DDef) : Fn := ⟨d.ps.length, d.N.length, d.body⟩
def findD : List DDef → Str → Option DDef
  | [], _ => none
  | d :: r, x => if d.name = x then some d else findD r x
def Tbl.prg (T : Tbl) : Prg := ⟨fun x => T.G.lookup x, fun x => (findD T.defs x).map DDef.fn, T.fu⟩
def Tbl.ck (T : Tbl) (d : DDef) : Ck := ⟨d.N, T.fr, T.gm, T.defs.map (·.name), T.G.map (·.1), T.exs, T.cls, d.rf, (T.defs.filter (·.rf)).map (·.name), T.gd, T.lm⟩
def Tbl.frs (T : Tbl) (x : Str) : Bool := match findD T.defs x with
  | some d => d.rf
  | none => false
def Tbl.xf (T : Tbl) (x : Str) : List Str := (T.exs.lookup x).getD []
theorem findD_mem {x : Str} {d : DDef} : ∀ {l : List DDef}, findD l x = some d → d ∈ l ∧ d.name = x
  | [], h => by cases h
  | e :: r, h => by
    unfold findD at h
    split at h
    · rename_i q
      cases h
      exact ⟨List.mem_cons_self, q⟩
    · obtain ⟨a, b⟩ := findD_mem h
      exact ⟨List.mem_cons_of_mem _ a, b⟩
theorem findD_some {x : Str} : ∀ {l : List DDef}, x ∈ l.map (·.name) → ∃ d, findD l x = some d
  | [], h => by cases h
  | e :: r, h => by
    unfold findD
    by_cases q : e.name = x
    · exact ⟨e, if_pos q⟩
    · rw [if_neg q]
      refine findD_some ?_
      rcases List.mem_cons.mp h with z | z
      · exact absurd z.symm q
      · exact z
/-! ### a def's scope -/
def paramsOk (ps : List Str) : Arguments → Bool
  | ⟨[], as, none, [], [], none, []⟩ => decide (as.map (·.arg) = ps)
  | _ => false
def ndup : List Str → Bool
  | [] => true
  | x :: r => r.all (fun y => !decide (y = x)) && ndup r
theorem ndup_ok : ∀ {l : List Str}, ndup l = true → l.Nodup
  | [], _ => List.nodup_nil
  | x :: r, h => by
    obtain ⟨h1, h2⟩ := ba (show (r.all (fun y => !decide (y = x)) && ndup r) = true from h)
    refine List.nodup_cons.mpr ⟨fun m => ?_, ndup_ok h2⟩
    have := List.all_eq_true.mp h1 x m
    simp at this
def scB (N ps : List Str) (sc : Scope) : Bool := isFn sc && (!sc.isCoroutine && (!sc.isGenerator && (ndup N && (decide (N.take ps.length = ps) && (ps.all (fun x => isLocal sc x || isCell sc x) && sc.names.all fun y => !decide (y.2 = .free))))))
theorem scB_ok {N ps : List Str} {sc : Scope} (h : scB N ps sc = true) : FnScope N ps sc := by
  obtain ⟨h1, h⟩ := ba h
  obtain ⟨h2, h⟩ := ba h
  obtain ⟨h3, h⟩ := ba h
  obtain ⟨h4, h⟩ := ba h
  obtain ⟨h5, h⟩ := ba h
  obtain ⟨h6, h7⟩ := ba h
  refine ⟨isFn_ok h1, bn h2, bn h3, ndup_ok h4, of_decide_eq_true h5, fun x hx => ?_, fun y hy => ?_⟩
  · have := List.all_eq_true.mp h6 x hx
    rw [Bool.or_eq_true] at this
    exact this.imp local_ok cell_ok
  · have := List.all_eq_true.mp h7 y hy
    exact of_decide_eq_false (bn this)
/-- the check of a def -/
def chkD (T : Tbl) (d : DDef) : Bool := scB d.N d.ps (defScope d.st) && chkSs (T.ck d) (defScope d.st) (fun _ => true) d.body (defBody d.st)
/-- a row's binding of plain parameters -/
def BindOk (d : DDef) : Prop := ∀ (kV doc pm : Value) (an : Option Addr) (cdv ct : Value) (us : List Value), us.length = d.ps.length → bindArgs (PySem.W.fnOf d.name d.name (defArgs d.st) (defBody d.st) (defScope d.st) .none kV doc pm an cdv ct) ⟨us, []⟩ = pure (d.ps.zip us)
section
variable {P : Program} {w : World} {K : PySem.W.Frag} {mg : Str → Option Value} {base : Heap}
/-- what stands behind the top -/
structure Here (T : Tbl) (P : Program) (w : World) (K : PySem.W.Frag) (mg : Str → Option Value) (base : Heap) : Prop where
  fn : ∀ d ∈ T.defs, ∃ f fd, FunD K d.name d.name (defArgs d.st) (defBody d.st) (defScope d.st) [] [] f fd ∧ mg d.name = some (.ref f)
  fr : ∀ x ∈ T.fr, mg x = none
  gm : ∀ x ∈ T.gm, mg x = some (.builtin "math.gcd")
  gs : ∀ x ∈ T.G.map (·.1), ∃ u v d, mg x = some u ∧ RelV v u ∧ T.G.lookup x = some d ∧ ∀ F H, Rep K F H d v
  ex : ∀ p ∈ T.exs, T.xf p.1 = p.2 ∧ p.2.length ≤ 900 ∧ ∃ C fI fd ps, OexC K C ∧ PySem.W.findIn K (.ref C) "__init__" = some (some (.ref fI)) ∧ PySem.W.typeIn K (.ref fI) = some (.type "function") ∧ FnOk P w K mg base (L2.CX P w) 1 fI fd ps (spInit C p.2.length (idx 1 p.2)) ∧ Binds K fd ps [] ∧ mg p.1 = some (.ref C)
  exq : ∀ p ∈ T.exs, ExQ K mg T.cls p.1 p.2
  gd : ∀ p ∈ T.gd, GdOk K w mg p.1 p.2
  lm : ∀ x ∈ T.lm, mg x = some (.builtin "math.lcm")
structure Fine (T : Tbl) : Prop where
  chk : ∀ d ∈ T.defs, chkD T d = true
  bind : ∀ d ∈ T.defs, BindOk d
abbrev Tbl.cc (T : Tbl) (K : PySem.W.Frag) (mg : Str → Option Value) (n : Nat) (xf : Str → List Str) : Cc := ⟨K, mg, NoF, fun _ => none, fun _ _ _ _ => False, T.prg.G, T.prg.call n, xf, NoF, fun _ => none, false, T.frs⟩
/-- a def's promise at depth n -/
abbrev Tbl.sp (T : Tbl) (K : PySem.W.Frag) (mg : Str → Option Value) (xf : Str → List Str) (n : Nat) (x : Str) : Sp := spD (T.cc K mg n xf) x
theorem call_len {T : Tbl} {d : DDef} {n : Nat} {ds : List D} {q : D → Prop} {x : Str → List D → Prop} (e : findD T.defs d.name = some d) (h : Post (T.prg.call n d.name ds) q x) : ds.length = d.ps.length := by
  cases n with
  | zero => exact h.elim
  | succ n =>
    have h : Post (match (findD T.defs d.name).map DDef.fn with
      | some fn => callB T.prg.G (T.prg.call n) T.prg.fu fn ds
      | none => .bad) q x := h
    rw [e] at h
    have h : Post (if ds.length = d.ps.length then _ else Res.bad) q x := h
    by_cases z : ds.length = d.ps.length
    · exact z
    · rw [if_neg z] at h
      exact h.elim
theorem ent_get {ds : List D} {n i : Nat} {x : C} (h : (enter n ds)[i]? = some (some x)) : ∃ d, ds[i]? = some d ∧ x = .v d := by
  unfold enter at h
  by_cases hi : i < ds.length
  · rw [List.getElem?_append_left (by simpa using hi), List.getElem?_map] at h
    cases e : ds[i]? with
    | none => rw [e] at h; cases h
    | some d => rw [e] at h; cases h; exact ⟨d, rfl, rfl⟩
  · rw [List.getElem?_append_right (by simpa using hi), List.getElem?_replicate] at h
    split at h <;> cases h
theorem sim_enter {c : Cc} {N : List Str} {ds : List D} {vs : List V} {H : Hp} (r : RepL c.K c.F0 H ds vs) (f : FOk c.F0 H) (h0 : c.H0 = H) (hB : c.B = c.F0) (hHB : c.HB = H) : Sim c (fun _ => none) (enter N.length ds) (L2.start N vs) H where
  len := by
    unfold enter L2.start
    rw [List.length_append, List.length_append, List.length_map, List.length_map, List.length_replicate, List.length_replicate, r.length]
  val := fun i d e => by
    obtain ⟨d', hd, e'⟩ := ent_get e
    cases e'
    obtain ⟨v, hv, rv⟩ := r.get hd
    refine ⟨v, ?_, rv.weak fun a z => z.elim id fun ⟨_, q, _⟩ => nomatch q⟩
    unfold L2.start
    have hi : i < vs.length := (List.getElem?_eq_some_iff.mp hv).1
    rw [List.getElem?_append_left (by simpa using hi), List.getElem?_map, hv]
    rfl
  ows := fun i ds' e => by
    obtain ⟨d', hd, e'⟩ := ent_get e
    cases e'
  inj := fun i j a e => nomatch e
  al := fun i a e => nomatch e
  fin := ⟨0, fun _ _ => rfl⟩
  f0 := by rw [h0]; exact f
  same := by rw [h0]; exact Same.refl H
  bs := ⟨by rw [hHB]; exact same_kept (Same.refl H), fun i a e => (nomatch e), fun a z => by rw [hB]; exact z⟩
theorem fn_ok {T : Tbl} (F : Fine T) (Y : Here T P w K mg base) (nd : ∀ d ∈ T.defs, findD T.defs d.name = some d) : ∀ (n : Nat) (d : DDef), d ∈ T.defs → ∀ f fd, FunD K d.name d.name (defArgs d.st) (defBody d.st) (defScope d.st) [] [] f fd →
    FnOk P w K mg base (L2.CX P w) (n + 3) f fd d.ps (T.sp K mg T.xf n d.name) := by
  intro n
  induction n with
  | zero =>
    intro d hd f fd FD
    exact ⟨fun vs H Q E ⟨ds, F, _, _, h⟩ => h.elim, fun _ _ _ _ _ _ _ _ _ _ _ _ _ ⟨ds, F, _, _, h⟩ => h.elim⟩
  | succ n ih =>
    intro d hd f fd FD
    obtain ⟨c1, c2⟩ := ba (F.chk d hd)
    refine FD.ok (scB_ok c1) (fun vs H Q E ⟨ds, F0, r, _, h⟩ => by rw [← r.length]; exact call_len (nd d hd) h) fun cdv A outer s H vs Q E hr ⟨ds, F0, r, fo, h⟩ => ?_
    have h : Post (match (findD T.defs d.name).map DDef.fn with
      | some fn => callB T.prg.G (T.prg.call n) T.prg.fu fn ds
      | none => .bad) _ _ := h
    rw [nd d hd] at h
    have hl : ds.length = d.ps.length := by
      have h : Post (if ds.length = d.ps.length then _ else Res.bad) _ _ := h
      by_cases z : ds.length = d.ps.length
      · exact z
      · rw [if_neg z] at h
        exact h.elim
    have h : Post (if ds.length = d.ps.length then (match exL T.prg.G (T.prg.call n) T.prg.fu d.body (enter d.N.length ds) with
      | .rt d => Res.ok d
      | .nx _ => .ok .non
      | .exc c vs => .exc c vs
      | _ => .bad) else Res.bad) _ _ := h
    rw [if_pos hl] at h
    let c : Cc := ⟨K, mg, F0, H, fun cls dd _ H' => E cls dd H', T.prg.G, T.prg.call n, T.xf, F0, H, d.rf, T.frs⟩
    let X : Cx := cxOf (L2.CX P w) P w K mg base d.N d.name (defScope d.st) f cdv A outer s H E
    have S : Sim c (fun _ => none) (enter d.N.length ds) (L2.start d.N vs) H := sim_enter (c := c) r fo rfl rfl rfl
    have g : Good (T.ck d) X c (defScope d.st) (fun _ => true) := {
      sc := rfl
      fb := rfl
      N := rfl
      nd := (scB_ok c1).nd
      calm := rfl
      K := rfl
      mg := rfl
      un := by have := hr.un; show (A.deeper _).units + 65 < cLine; omega
      takes := takes_of rfl rfl rfl rfl
      fr := Y.fr
      gm := Y.gm
      lm := Y.lm
      gs := Y.gs
      fns := fun x hx => by
        obtain ⟨d2, hd2⟩ := findD_some (show x ∈ T.defs.map (·.name) from hx)
        obtain ⟨m2, rfl⟩ := findD_mem hd2
        obtain ⟨f2, fd2, FD2, hm⟩ := Y.fn d2 m2
        exact ⟨n + 3, f2, fd2, d2.ps, ih d2 m2 f2 fd2 FD2, hr, hm, FD2.kp, FD2.bindsN (F.bind d2 m2)⟩
      room := hr.mono (by omega)
      exs := fun p hp => by
        obtain ⟨h1, h2, C, fI, fd', ps', q1, q2, q3, q4, q5, q6⟩ := Y.ex p hp
        exact ⟨C, fI, fd', ps', q1, q2, q3, q4, q5, q6, h1, h2⟩
      exq := Y.exq
      gd := Y.gd
      rf := rfl
      frs := fun x hx => by
        obtain ⟨d2, hm, rfl⟩ := List.mem_map.mp (show x ∈ (T.defs.filter (·.rf)).map (·.name) from by
          have hx : ((T.defs.filter (·.rf)).map (·.name)).contains x = true := hx
          exact List.contains_iff_mem.mp hx)
        obtain ⟨m2, hr2⟩ := List.mem_filter.mp hm
        show (match findD T.defs d2.name with
          | some d => d.rf
          | none => false) = true
        rw [nd d2 m2]
        exact hr2 }
    refine ⟨rdSs c T.fu d.body, psL (T.ck d) d.body (defBody d.st) g ⟨passes_of rfl, rfl, rfl⟩ c2, _, _, S, ?_⟩
    show EndS c _ (exL T.prg.G (T.prg.call n) T.prg.fu d.body (enter d.N.length ds))
    cases z : exL T.prg.G (T.prg.call n) T.prg.fu d.body (enter d.N.length ds) with
    | rt a =>
      rw [z] at h
      refine fun v H' s r => h v H' s (r.weak (fun a z => z.imp id fun z => ⟨?_, z.2⟩) fun _ z => z)
      have e : T.frs d.name = d.rf := by
        show (match findD T.defs d.name with
          | some d => d.rf
          | none => false) = d.rf
        rw [nd d hd]
      show d.rf = true
      rw [← e]
      exact z.1
    | nx τ =>
      rw [z] at h
      exact fun own σ H' S' => h .non H' S'.same rfl
    | exc x as =>
      rw [z] at h
      exact fun own τ σ H' S' cls dd H2 s2 e => h cls dd H2 (S'.same.trans s2) e
    | bk τ => rw [z] at h; exact h.elim
    | ct τ => rw [z] at h; exact h.elim
    | bad => rw [z] at h; exact h.elim
/-- the law's promise -/
def spLaw (K : PySem.W.Frag) : Sp := fun vs H Q _ => ∃ (a : Addr) (ns : List Int), vs = [.ref a] ∧ ns.length ≤ 63 ∧ SqL K H a (ns.map V.int) ∧ ∀ H', Q (.bl true) H'
theorem law_ok {T : Tbl} (F : Fine T) (Y : Here T P w K mg base) (nd : ∀ d ∈ T.defs, findD T.defs d.name = some d) {n : Nat} {d : DDef} (hd : d ∈ T.defs) {f : Addr} {fd : FuncData} (FD : FunD K d.name d.name (defArgs d.st) (defBody d.st) (defScope d.st) [] [] f fd)
    (h : ∀ ns : List Int, ns.length ≤ 63 → T.prg.call n d.name [.scr ns] = .ok (.bl true)) : FnOk P w K mg base (L2.CX P w) (n + 3) f fd d.ps (spLaw K) := by
  refine (fn_ok F Y nd n d hd f fd FD).imp fun vs H Q E ⟨a, ns, e, hl, hS, q⟩ => ?_
  subst e
  refine ⟨[.scr ns], NoF, ⟨_, [], rfl, ⟨a, rfl, ?_⟩, rfl⟩, fun _ z => z.elim, ?_⟩
  · rcases hS with (z | ⟨o, z⟩) | z
    · exact .inl ⟨z, id⟩
    · exact .inr (.inl ⟨o, z⟩)
    · exact .inr (.inr z)
  · show Post (T.prg.call n d.name [.scr ns]) _ _
    rw [h ns hl]
    intro v H' s r
    have e : v = .bl true := r
    subst e
    exact q H'
end
end PyI
/-! PyI, part 15: a table behind the head, a law. -/
namespace PyI
open PySem PySem.Spec PyProof.Rows L2
mutual
/-- a constant of the module is this data -/
def datB (K : PySem.W.Frag) : D → Value → Bool
  | .non, .none => true
  | .bl b, .bool c => b == c
  | .int i, .int j _ => decide (i = j)
  | .str x, .str y _ => decide (x = y)
  | .tup ds, .ref a => (match K.lookup a with
    | some ⟨.type c, _, .seq its _, _⟩ => decide (c = "tuple") && (decide (its.size ≤ sizeLine) && datsB K ds its.toList)
    | _ => false)
  | _, _ => false
def datsB (K : PySem.W.Frag) : List D → List Value → Bool
  | [], [] => true
  | d :: ds, u :: us => datB K d u && datsB K ds us
  | _, _ => false
end
mutual
theorem datB_ok {K : PySem.W.Frag} : ∀ (d : D) (u : Value), datB K d u = true → ∃ v, RelV v u ∧ ∀ F H, Rep K F H d v
  | .non, u, h => by
    cases u <;> first | exact ⟨.non, rfl, fun _ _ => rfl⟩ | cases h
  | .bl b, u, h => by
    cases u <;> first | cases h | skip
    rename_i c
    have e : b = c := eq_of_beq (show (b == c) = true from h)
    subst e
    exact ⟨.bl b, rfl, fun _ _ => rfl⟩
  | .int i, u, h => by
    cases u <;> first | cases h | skip
    rename_i c t
    have e : i = c := of_decide_eq_true h
    subst e
    exact ⟨.int i, ⟨t, rfl⟩, fun _ _ => rfl⟩
  | .str i, u, h => by
    cases u <;> first | cases h | skip
    rename_i c t
    have e : i = c := of_decide_eq_true h
    subst e
    exact ⟨.str i, ⟨t, rfl⟩, fun _ _ => rfl⟩
  | .tup ds, u, h => by
    cases u <;> first | cases h | skip
    rename_i a
    have h : (match (generalizing := false) K.lookup a with
      | some ⟨.type c, _, .seq its _, _⟩ => decide (c = "tuple") && (decide (its.size ≤ sizeLine) && datsB K ds its.toList)
      | _ => false) = true := h
    cases q : K.lookup a with
    | none => rw [q] at h; cases h
    | some o =>
      obtain ⟨oc, od, dt, osl⟩ := o
      rw [q] at h
      cases oc with
      | type c =>
        cases dt with
        | seq its n =>
          obtain ⟨h1, h2⟩ := ba (show (decide (c = "tuple") && (decide (its.size ≤ sizeLine) && datsB K ds its.toList)) = true from h)
          obtain ⟨h3, h4⟩ := ba h2
          obtain ⟨vs, r1, r2⟩ := datsB_ok ds its.toList h4
          exact ⟨.ref a, rfl, fun F H => ⟨a, vs, rfl, .inr ⟨_, its, n, q, congrArg Value.type (of_decide_eq_true h1), rfl, of_decide_eq_true h3, r1⟩, r2 F H⟩⟩
        | _ => cases h
      | _ => cases dt <;> cases h
  | .lst _, u, h => by cases u <;> cases h
  | .scr _, u, h => by cases u <;> cases h
theorem datsB_ok {K : PySem.W.Frag} : ∀ (ds : List D) (us : List Value), datsB K ds us = true → ∃ vs, Vals vs us ∧ ∀ F H, RepL K F H ds vs
  | [], [], _ => ⟨[], .nil, fun _ _ => rfl⟩
  | [], _ :: _, h => by cases h
  | _ :: _, [], h => by cases h
  | d :: ds, u :: us, h => by
    obtain ⟨h1, h2⟩ := ba (show (datB K d u && datsB K ds us) = true from h)
    obtain ⟨v, r1, r2⟩ := datB_ok d u h1
    obtain ⟨vs, r3, r4⟩ := datsB_ok ds us h2
    exact ⟨v :: vs, .cons r1 r3, fun F H => ⟨v, vs, rfl, r2 F H, r4 F H⟩⟩
end
/-! ### the hook -/
def DDef.he (d : DDef) : He.DefD := ⟨(d.name, none), d.name, d.name, defArgs d.st, defBody d.st, defScope d.st, [], []⟩
def Tbl.fa (T : Tbl) : List He.Fa := T.defs.map (fun d => .glo d.name) ++ T.fr.map .free
def gcdB (K : PySem.W.Frag) (x : Str) : Bool := match PySem.W.nsIn K mainGlobals x with
  | some (some (.builtin z)) => decide (z = "math.gcd")
  | _ => false
def lcmB (K : PySem.W.Frag) (x : Str) : Bool := match PySem.W.nsIn K mainGlobals x with
  | some (some (.builtin z)) => decide (z = "math.lcm")
  | _ => false
def conB (K : PySem.W.Frag) (x : Str) (d : D) : Bool := match PySem.W.nsIn K mainGlobals x with
  | some (some u) => datB K d u
  | _ => false
def fileB (K : PySem.W.Frag) (c : Addr) (file : Str) : Bool := match K.lookup c with
  | some ⟨_, _, .fields vs, _⟩ => (match (vs[2]? : Option Value) with
    | some (.str fl _) => decide (file = fl)
    | _ => false)
  | _ => false
def cellB (K : PySem.W.Frag) (cc C : Addr) : Bool := match K.lookup cc with
  | some ⟨_, _, .cell (some (.ref D)), _⟩ => decide (D = C)
  | _ => false
def supB (K : PySem.W.Frag) (C : Addr) : Bool := match PySem.W.clsIn K C with
  | some cd => decide (PySem.W.alongIn K "__init__" ((cd.mro.dropWhile (· != .ref C)).drop 1) = some (some (.builtin "ValueError.__init__")))
  | none => false
def oexB (K : PySem.W.Frag) (C : Addr) : Bool := (match K.lookup C with
  | some ⟨.type t, _, .cls cd, sl⟩ => (match cd.mro, sl.toList with
    | .ref C' :: bm, [_, _, _, _, some (.builtin n), _] => decide (t = "type") && (decide (C' = C) && (decide (n = "ValueError.__new__") && (!cd.hasDel && (cd.hasDict && PySem.HandSPX.refsVE bm))))
    | _, _ => false)
  | _ => false) && (decide (PySem.W.findIn K (.ref C) "__setattr__" = some (some (.builtin "object.__setattr__"))) && (decide (PySem.W.subIn K (.ref C) (.type "BaseException") = some true) && (decide (PySem.W.typeIn K (.ref C) = some (.type "type")) && PySem.W.keepIn K (.ref C))))
def initB (K : PySem.W.Frag) (file : Str) (x : XDef) (C : Addr) (fd : FuncData) : Bool := match fd.body, fd.closure, fd.code with
  | .stmts body, [(cn, cc)], .ref c => decide (cn = ("__class__" : Str)) && (decide (fd.globals = mainGlobals) && (decide (fd.builtins = builtinsNs) && (decide (fd.defaults = .none) && (PySem.W.codeIn K (.ref c) fd.qualname && (fileB K c file && (cellB K cc C && (chkInit x.N (idx 1 x.fs) body && (NdefX.nscB x.N x.ps ["__class__"] fd.scope && (x.N.all (vis fd.scope) && (paramsOk x.ps fd.params && (decide (fd.scope.names.lookup ("super" : Str) = some .globalImplicit) && decide (x.ps.length = x.fs.length + 1))))))))))))
  | _, _, _ => false
def xqB (K : PySem.W.Frag) (cls : List Str) (x : XDef) (C : Addr) : Bool := xfB K C && (decide (PySem.W.findIn K (.ref C) "__class__" = some (some (.builtin "object.__class__"))) && (decide (PySem.W.specialIn K (.builtin "object.__class__") "__get__" = some (some (.builtin "getset_descriptor.__get__"))) && (decide (PySem.W.takesIn K (.builtin "object.__class__") = some true) && (decide (PySem.W.mroIn K C (.type "object") = some true) && (x.fs.all (fun f => decide (PySem.W.findIn K (.ref C) f = some none)) && (ndup x.fs &&
  cls.all fun c => (match PySem.W.nsIn K mainGlobals c with
    | some (some (.ref a)) => decide (PySem.W.kitOne K (.ref C) (.ref a) = some (subX x.name c)) && decide (PySem.W.exmOne K (.ref C) (.ref a) = some (subX x.name c))
    | some none => decide (c = ("ValueError" : Str)) && (decide (PySem.W.kitOne K (.ref C) (.type "ValueError") = some (subX x.name c)) && decide (PySem.W.exmOne K (.ref C) (.type "ValueError") = some (subX x.name c)))
    | _ => false)))))))
def xdefB (K : PySem.W.Frag) (file : Str) (cls : List Str) (x : XDef) : Bool := match PySem.W.nsIn K mainGlobals x.name with
  | some (some (.ref C)) => oexB K C && (supB K C && (decide (PySem.W.mroIn K C (.ref C) = some true) && (decide (PySem.W.mroIn K C (.type "ValueError") = some true) && (xqB K cls x C && (match PySem.W.findIn K (.ref C) "__init__" with
    | some (some (.ref f)) => decide (PySem.W.typeIn K (.ref f) = some (.type "function")) && (match K.lookup f with
      | some ⟨_, _, .func fd, _⟩ => initB K file x C fd
      | _ => false)
    | _ => false)))))
  | _ => false
def Tbl.exB (T : Tbl) (K : PySem.W.Frag) : Bool := T.xds.all fun x => xdefB K T.file T.cls x && (decide (T.xf x.name = x.fs) && (decide (x.fs.length ≤ 900) && (!x.fs.isEmpty && (decide (PySem.W.nsIn K cStatics "thirdparty.any" = some none) && decide (PySem.W.nsIn K mainGlobals "super" = some none)))))
/-- a written dict: its keys and their hashes -/
def Tbl.gk (T : Tbl) (K : PySem.W.Frag) : List (Option (List (Option (Str × Int)))) := T.gd.map fun p => match PySem.W.nsIn K mainGlobals p.1 with
  | some (some (.ref a)) => He.dicW K a
  | _ => none
/-- .. and what stands behind them -/
def gvB (K : PySem.W.Frag) (a : Addr) (kvs : List (Str × Int)) : Bool := kvs.all fun q => match PySem.W.nsIn K a q.1 with
  | some (some (.int i _)) => decide (kvs.lookup q.1 = some i)
  | _ => false
def Tbl.gv (T : Tbl) (K : PySem.W.Frag) : Bool := T.gd.all fun p => match PySem.W.nsIn K mainGlobals p.1 with
  | some (some (.ref a)) => gvB K a p.2
  | _ => false
def Tbl.gw (T : Tbl) (w : World) : List (Option (List (Option (Str × Int)))) := T.gd.map fun p => some (He.keysIn w.params (p.2.map (·.1)))
def Tbl.ex (T : Tbl) (K : PySem.W.Frag) : Bool := T.gm.all (gcdB K) && (T.exB K && (T.G.all (fun p => conB K p.1 p.2) && (T.gv K && T.lm.all (lcmB K))))
/-- what the module's names and the statics reach in n steps -/
def asX (g : Addr → Option Obj) : Nat → List Addr
  | 0 => [mainGlobals, cStatics]
  | n + 1 => He.growD g (asX g n)
abbrev AlG := He.AlD × (Bool × List (Option (List (Option (Str × Int)))))
def hookE (n : Nat) (fa : List He.Fa) (fn : List He.DefD) (ex : PySem.W.Frag → Bool) (gk : PySem.W.Frag → List (Option (List (Option (Str × Int))))) (gw : World → List (Option (List (Option (Str × Int))))) : PySem.W.Hook where
  α := AlG
  obs := fun s => (He.obsD fa fn (He.frG s.heap.get? (asX s.heap.get? n)), ex (He.frG s.heap.get? (asX s.heap.get? n)), gk (He.frG s.heap.get? (asX s.heap.get? n)))
  val := fun w => (He.valD fn, true, gw w)
  says := fun w h => ∃ K : PySem.W.Frag, K.In h ∧ He.SaysD fa fn K ∧ ex K = true ∧ gk K = gw w
  of := fun _ _ e => ⟨_, He.frG_in, congrArg (fun z : AlG => z.1) e, congrArg (fun z : AlG => z.2.1) e, congrArg (fun z : AlG => z.2.2) e⟩
  keeps := fun _ _ _ ⟨K, hK, c⟩ k => ⟨K, PySem.W.Frag.In.keeps hK k, c⟩
def obsE (n : Nat) (fa : List He.Fa) (fn : List He.DefD) (ex : PySem.W.Frag → Bool) (gk : PySem.W.Frag → List (Option (List (Option (Str × Int))))) (g : Addr → Option Obj) : AlG := (He.obsD fa fn (He.frG g (asX g n)), ex (He.frG g (asX g n)), gk (He.frG g (asX g n)))
theorem obsE_eq {n : Nat} {fa : List He.Fa} {fn : List He.DefD} {ex : PySem.W.Frag → Bool} {gk : PySem.W.Frag → List (Option (List (Option (Str × Int))))} {gw : World → List (Option (List (Option (Str × Int))))} {g : Addr → Option Obj} {s : Shared} (h : ∀ a, g a = s.heap.get? a) : obsE n fa fn ex gk g = (hookE n fa fn ex gk gw).obs s := by
  have e : g = s.heap.get? := funext h
  rw [e] <;> rfl
abbrev Tbl.hk (T : Tbl) (n : Nat) : PySem.W.Hook := hookE n T.fa (T.defs.map DDef.he) T.ex T.gk T.gw
def Tbl.ob (T : Tbl) (n : Nat) (s : PySem.W.SharedT) : AlG := obsE n T.fa (T.defs.map DDef.he) T.ex T.gk (HandSHeadRun.getT s)
theorem Tbl.ob_eq (T : Tbl) (n : Nat) (s : PySem.W.SharedT) : T.ob n s = (T.hk n).obs s.abs := obsE_eq (HandSHeadRun.getT_eq s)
theorem fact_mem {fa : List He.Fa} {fn : List He.DefD} {K : PySem.W.Frag} (c : He.SaysD fa fn K) {f : He.Fa} (h : f ∈ fa) : f.ok K = true := by
  obtain ⟨i, hi, e⟩ := List.mem_iff_getElem.mp h
  exact c.fact i (f := f) (by rw [List.getElem?_eq_getElem hi, e])
theorem def_mem {fa : List He.Fa} {fn : List He.DefD} {K : PySem.W.Frag} (c : He.SaysD fa fn K) {d : He.DefD} (h : d ∈ fn) : ∃ fd, FunD K d.name d.qual d.params d.body d.scope (d.dvs K) (d.kws K) (He.fAd K d.at_) fd := by
  obtain ⟨i, hi, e⟩ := List.mem_iff_getElem.mp h
  exact c.def_ i (d := d) (by rw [List.getElem?_eq_getElem hi, e])
theorem gcd_ok {K : PySem.W.Frag} {h : Heap} {mg : Str → Option Value} (X : K.In h) (G : h.Ns mainGlobals mg) {x : Str} (c : gcdB K x = true) : mg x = some (.builtin "math.gcd") := by
  unfold gcdB at c
  cases q : PySem.W.nsIn K mainGlobals x with
  | none => rw [q] at c; cases c
  | some o =>
    rw [q] at c
    cases o with
    | none => cases c
    | some u =>
      cases u <;> first | cases c | skip
      rename_i z
      have e : z = "math.gcd" := of_decide_eq_true c
      subst e
      exact PySem.W.mg_of X G q
theorem lcm_ok {K : PySem.W.Frag} {h : Heap} {mg : Str → Option Value} (X : K.In h) (G : h.Ns mainGlobals mg) {x : Str} (c : lcmB K x = true) : mg x = some (.builtin "math.lcm") := by
  unfold lcmB at c
  cases q : PySem.W.nsIn K mainGlobals x with
  | none => rw [q] at c; cases c
  | some o =>
    rw [q] at c
    cases o with
    | none => cases c
    | some u =>
      cases u <;> first | cases c | skip
      rename_i z
      have e : z = "math.lcm" := of_decide_eq_true c
      subst e
      exact PySem.W.mg_of X G q
theorem con_ok {K : PySem.W.Frag} {h : Heap} {mg : Str → Option Value} (X : K.In h) (G : h.Ns mainGlobals mg) {x : Str} {d : D} (c : conB K x d = true) : ∃ u v, mg x = some u ∧ RelV v u ∧ ∀ F H, Rep K F H d v := by
  unfold conB at c
  cases q : PySem.W.nsIn K mainGlobals x with
  | none => rw [q] at c; cases c
  | some o =>
    rw [q] at c
    cases o with
    | none => cases c
    | some u =>
      obtain ⟨v, r1, r2⟩ := datB_ok d u c
      exact ⟨u, v, PySem.W.mg_of X G q, r1, r2⟩
theorem file_ok {K : PySem.W.Frag} {c : Addr} {file : Str} (h : fileB K c file = true) : ∃ (ccl : Value) (cdd : Option Addr) (vs : Array Value) (ccs : Array (Option Value)) (fl : Str) (tf : Tok), K.lookup c = some ⟨ccl, cdd, .fields vs, ccs⟩ ∧ vs[2]? = some (.str fl tf) ∧ file = fl := by
  unfold fileB at h
  cases q : K.lookup c with
  | none => rw [q] at h; cases h
  | some o =>
    obtain ⟨oc, od, dt, sl⟩ := o
    rw [q] at h
    cases dt <;> first | cases h | skip
    rename_i vs
    have h : (match (generalizing := false) (vs[2]? : Option Value) with
      | some (.str fl _) => decide (file = fl)
      | _ => false) = true := h
    cases z : vs[2]? with
    | none => rw [z] at h; cases h
    | some v =>
      rw [z] at h
      cases v <;> first | cases h | skip
      rename_i fl tf
      exact ⟨_, _, _, _, _, _, rfl, z, of_decide_eq_true h⟩
theorem cell_ok' {K : PySem.W.Frag} {cc C : Addr} (h : cellB K cc C = true) : ∃ (a : Value) (b : Option Addr) (e : Array (Option Value)), K.lookup cc = some ⟨a, b, .cell (some (.ref C)), e⟩ := by
  unfold cellB at h
  cases q : K.lookup cc with
  | none => rw [q] at h; cases h
  | some o =>
    obtain ⟨oc, od, dt, sl⟩ := o
    rw [q] at h
    cases dt <;> first | cases h | skip
    rename_i v
    cases v with
    | none => cases h
    | some v =>
      cases v <;> first | cases h | skip
      rename_i D
      have e : D = C := of_decide_eq_true h
      subst e
      exact ⟨_, _, _, rfl⟩
theorem sup_ok {K : PySem.W.Frag} {C : Addr} (h : supB K C = true) : ∃ cd l, PySem.W.clsIn K C = some cd ∧ cd.mro = l ∧ PySem.W.alongIn K "__init__" ((l.dropWhile (· != .ref C)).drop 1) = some (some (.builtin "ValueError.__init__")) := by
  unfold supB at h
  cases q : PySem.W.clsIn K C with
  | none => rw [q] at h; cases h
  | some cd => rw [q] at h; exact ⟨cd, cd.mro, rfl, rfl, of_decide_eq_true h⟩
theorem oex_ok {K : PySem.W.Frag} {C : Addr} (h : oexB K C = true) : OexC K C := by
  obtain ⟨h0, h⟩ := ba h
  obtain ⟨h1, h⟩ := ba h
  obtain ⟨h2, h⟩ := ba h
  obtain ⟨h3, h4⟩ := ba h
  refine ⟨?_, of_decide_eq_true h1, of_decide_eq_true h2, of_decide_eq_true h3, h4⟩
  cases q : K.lookup C with
  | none => rw [q] at h0; cases h0
  | some o =>
    obtain ⟨oc, od, dt, sl⟩ := o
    rw [q] at h0
    cases oc <;> first | (cases dt <;> cases h0) | skip
    rename_i t
    cases dt <;> first | cases h0 | skip
    rename_i cd
    obtain ⟨l⟩ := sl
    obtain ⟨nm, bs, mro, ns, qn, hd, sn, sub, ab, col, del⟩ := cd
    have h0 : (match (generalizing := false) mro, l with
      | .ref C' :: bm, [_, _, _, _, some (.builtin n), _] => decide (t = "type") && (decide (C' = C) && (decide (n = "ValueError.__new__") && (!del && (hd && PySem.HandSPX.refsVE bm))))
      | _, _ => false) = true := h0
    split at h0
    · rename_i C' bm k0 k1 k2 k3 n k5
      obtain ⟨e1, h0⟩ := ba h0
      obtain ⟨e2, h0⟩ := ba h0
      obtain ⟨e3, h0⟩ := ba h0
      obtain ⟨e4, h0⟩ := ba h0
      obtain ⟨e5, e6⟩ := ba h0
      have e1 := of_decide_eq_true e1
      have e2 := of_decide_eq_true e2
      have e3 := of_decide_eq_true e3
      have e4 := bn e4
      subst e1 e2 e3 e4 e5
      exact ⟨_, _, _, _, _, _, _, _, _, _, _, _, _, _, _, rfl, e6⟩
    · cases h0
theorem params_ok {ps : List Str} {p : Arguments} (h : paramsOk ps p = true) : ∃ as, p = ⟨[], as, none, [], [], none, []⟩ ∧ as.map (·.arg) = ps := by
  unfold paramsOk at h
  split at h
  · exact ⟨_, rfl, of_decide_eq_true h⟩
  · cases h
/-- an __init__'s arguments are bound as its parameters say -/
def XBind (x : XDef) : Prop := ∀ (nm q : Str) (as : List Arg) (body : List Stmt) (sc : Scope) (cl : List (Str × Addr)) (kV doc pm cdv ct : Value) (an : Option Addr) (us : List Value), as.map (·.arg) = x.ps → us.length = x.ps.length → bindArgs (PySem.W.fnX nm q ⟨[], as, none, [], [], none, []⟩ body sc cl .none kV doc pm an cdv ct) ⟨us, []⟩ = pure (x.ps.zip us)
theorem idx_mem : ∀ {fl : List Str} {n : Nat} {p : Str × Nat}, p ∈ idx n fl → p.1 ∈ fl ∧ p.2 < n + fl.length
  | [], n, p, m => by cases m
  | f :: r, n, p, m => by
    rcases List.mem_cons.mp m with e | m
    · subst e
      exact ⟨List.mem_cons_self, by simp⟩
    · obtain ⟨h1, h2⟩ := idx_mem m
      exact ⟨List.mem_cons_of_mem _ h1, by simp only [List.length_cons]; omega⟩
theorem idx_len : ∀ (fl : List Str) (n : Nat), (idx n fl).length = fl.length
  | [], _ => rfl
  | f :: r, n => congrArg (· + 1) (idx_len r (n + 1))
section
variable {P : Program} {w : World} {base : Heap} {K : PySem.W.Frag} {h : Heap} {mg : Str → Option Value}
/-- what the check of an exception's class tells of its __init__ -/
theorem init_of {file : Str} {x : XDef} {C f : Addr} {fd : FuncData} {oc : Value} {od : Option Addr} {osl : Array (Option Value)} (hl : K.lookup f = some ⟨oc, od, .func fd, osl⟩) (hB : XBind x) (hfile : P.main.file = file) (htop : (P.main.scope.names.lookup ("super" : Str)).isSome = false) (hmg : mg "super" = none)
    (hst : PySem.W.nsIn K cStatics "thirdparty.any" = some none) (o : oexB K C = true) (hs : supB K C = true) (hm : PySem.W.mroIn K C (.ref C) = some true) (hv : PySem.W.mroIn K C (.type "ValueError") = some true) (hfn : ∀ f ∈ x.fs, PySem.W.findIn K (.ref C) f = some none) (hne : x.fs ≠ []) (hfl : x.fs.length ≤ 900)
    (c : initB K file x C fd = true) : FnOk P w K mg base (L2.CX P w) 1 f fd x.ps (spInit C x.fs.length (idx 1 x.fs)) ∧ Binds K fd x.ps [] := by
  obtain ⟨n1, n2, n3, n4, n5, n6, n7, n8, n9, n10, n11, n12, n13, n14, n15⟩ := fd
  unfold initB at c
  cases n4 <;> first | cases c | skip
  rename_i body
  cases n7 with
  | nil => cases c
  | cons p r =>
    cases r with
    | cons _ _ => cases c
    | nil =>
      obtain ⟨cn, cc⟩ := p
      cases n13 <;> first | cases c | skip
      rename_i co
      have c : (decide (cn = ("__class__" : Str)) && (decide (n6 = mainGlobals) && (decide (n15 = builtinsNs) && (decide (n8 = .none) && (PySem.W.codeIn K (.ref co) n2 && (fileB K co file && (cellB K cc C && (chkInit x.N (idx 1 x.fs) body && (NdefX.nscB x.N x.ps ["__class__"] n5 && (x.N.all (vis n5) && (paramsOk x.ps n3 && (decide (n5.names.lookup ("super" : Str) = some .globalImplicit) && decide (x.ps.length = x.fs.length + 1))))))))))))) = true := c
      obtain ⟨c1, c⟩ := ba c
      obtain ⟨c2, c⟩ := ba c
      obtain ⟨c3, c⟩ := ba c
      obtain ⟨c4, c⟩ := ba c
      obtain ⟨c5, c⟩ := ba c
      obtain ⟨c6, c⟩ := ba c
      obtain ⟨c7, c⟩ := ba c
      obtain ⟨c8, c⟩ := ba c
      obtain ⟨c9, c⟩ := ba c
      obtain ⟨c10, c⟩ := ba c
      obtain ⟨c11, c⟩ := ba c
      obtain ⟨c12, c13⟩ := ba c
      have c1 := of_decide_eq_true c1
      have c2 := of_decide_eq_true c2
      have c3 := of_decide_eq_true c3
      have c4 := of_decide_eq_true c4
      have c13 := of_decide_eq_true c13
      obtain ⟨as, c11, c14⟩ := params_ok c11
      have c9 := NdefX.nscope_by c9
      subst c1 c2 c3 c4 c11
      let F : NdefX.NF := ⟨n1, n2, ⟨[], as, none, [], [], none, []⟩, body, n5, [(("__class__" : Str), cc)], co⟩
      have T : XcF K P C f cc F := {
        T := oex_ok o
        cl := rfl
        fn := ⟨oc, od, _, n9, n10, n11, n14, n12, osl, hl⟩
        code := c5
        file := by
          obtain ⟨a1, a2, a3, a4, a5, a6, h1, h2, h3⟩ := file_ok c6
          exact ⟨a1, a2, a3, a4, a5, a6, h1, h2, by rw [hfile, h3]; exact beq_self_eq_true _⟩
        top := htop
        cell := cell_ok' c7
        cls := sup_ok hs
        me := hm
        ve := hv
        st := hst
        sup := of_decide_eq_true c12
        kcl := c9.frk _ List.mem_cons_self
        kind := c9.kind }
      have e1 : x.ps ≠ [] := fun e => by rw [e] at c13; cases c13
      obtain ⟨ar, r, ear⟩ : ∃ ar r, as = ar :: r := by
        cases as with
        | nil => exact absurd c14.symm e1
        | cons ar r => exact ⟨ar, r, rfl⟩
      have e2 : x.ps[0]? = some ar.arg := by rw [← c14, ear]; rfl
      have e3 : x.N[0]? = some ar.arg := by
        have q : (x.N.take (x.ps.length + 1))[0]? = (x.ps ++ [("__class__" : Str)])[0]? := by
          have := c9.pre
          exact congrArg (·[0]?) this
        rw [List.getElem?_take_of_lt (by omega), List.getElem?_append_left (by omega)] at q
        rw [q]
        exact e2
      refine ⟨?_, Binds.all fun us hu => hB n1 n2 as body n5 [(("__class__" : Str), cc)] n9 n10 n11 (.ref co) n14 n12 us c14 hu⟩
      have fin := init_ok (w := w) (mg := mg) (base := base) (k := 0) (fs := idx 1 x.fs) T c9 hmg (ar := ar) (by show ([] ++ as).head? = _; rw [ear]; rfl) e3 e1 ⟨oc, od, osl, _, n9, n10, n11, n14, n12, rfl, hl⟩ (fun y hy => vis_ok (List.all_eq_true.mp c10 y hy)) c8
        (fun e => hne (by have := congrArg List.length e; rw [idx_len] at this; exact List.length_eq_zero_iff.mp this)) (by rw [idx_len]; exact hfl) (fun p hp => by have := (idx_mem hp).2; omega) fun p hp => hfn _ (idx_mem hp).1
      have e4 : x.ps.length - 1 = x.fs.length := by omega
      rw [e4] at fin
      exact fin
theorem ndup_ok' {l : List Str} (h : ndup l = true) : l.Nodup := ndup_ok h
theorem xq_ok {cls : List Str} {x : XDef} {C : Addr} (X : K.In h) (G : h.Ns mainGlobals mg) (hm : mg x.name = some (.ref C)) (c : xqB K cls x C = true) : ExQ K mg cls x.name x.fs := by
  obtain ⟨c1, c⟩ := ba c
  obtain ⟨c2, c⟩ := ba c
  obtain ⟨c3, c⟩ := ba c
  obtain ⟨c4, c⟩ := ba c
  obtain ⟨c5, c⟩ := ba c
  obtain ⟨c6, c⟩ := ba c
  obtain ⟨c7, c8⟩ := ba c
  have xf := xfB_ok c1
  refine ⟨C, hm, xf, ⟨xf.ga, xf.gg, xf.exC, xf.hdC, of_decide_eq_true c2, of_decide_eq_true c3, of_decide_eq_true c4, of_decide_eq_true c5⟩, fun f hf => of_decide_eq_true (List.all_eq_true.mp c6 f hf), ndup_ok c7, fun z hz => ?_⟩
  have q : (match (generalizing := false) PySem.W.nsIn K mainGlobals z with
    | some (some (.ref a)) => decide (PySem.W.kitOne K (.ref C) (.ref a) = some (subX x.name z)) && decide (PySem.W.exmOne K (.ref C) (.ref a) = some (subX x.name z))
    | some none => decide (z = ("ValueError" : Str)) && (decide (PySem.W.kitOne K (.ref C) (.type "ValueError") = some (subX x.name z)) && decide (PySem.W.exmOne K (.ref C) (.type "ValueError") = some (subX x.name z)))
    | _ => false) = true := List.all_eq_true.mp c8 z hz
  cases e : PySem.W.nsIn K mainGlobals z with
  | none => rw [e] at q; cases q
  | some o =>
    rw [e] at q
    cases o with
    | none =>
      obtain ⟨q1, q⟩ := ba q
      obtain ⟨q2, q3⟩ := ba q
      exact ⟨_, .inr ⟨rfl, of_decide_eq_true q1, PySem.W.mg_none_of X G e⟩, of_decide_eq_true q2, of_decide_eq_true q3⟩
    | some u =>
      cases u <;> first | cases q | skip
      rename_i a
      obtain ⟨q2, q3⟩ := ba q
      exact ⟨_, .inl ⟨a, rfl, PySem.W.mg_of X G e⟩, of_decide_eq_true q2, of_decide_eq_true q3⟩
theorem xdef_ok {file : Str} {cls : List Str} {x : XDef} (X : K.In h) (G : h.Ns mainGlobals mg) (hB : XBind x) (hfile : P.main.file = file) (htop : (P.main.scope.names.lookup ("super" : Str)).isSome = false) (hmg : mg "super" = none) (hst : PySem.W.nsIn K cStatics "thirdparty.any" = some none) (hne : x.fs ≠ []) (hfl : x.fs.length ≤ 900)
    (c : xdefB K file cls x = true) : (∃ C fI fd ps, OexC K C ∧ PySem.W.findIn K (.ref C) "__init__" = some (some (.ref fI)) ∧ PySem.W.typeIn K (.ref fI) = some (.type "function") ∧ FnOk P w K mg base (L2.CX P w) 1 fI fd ps (spInit C x.fs.length (idx 1 x.fs)) ∧ Binds K fd ps [] ∧ mg x.name = some (.ref C)) ∧ ExQ K mg cls x.name x.fs := by
  unfold xdefB at c
  cases e : PySem.W.nsIn K mainGlobals x.name with
  | none => rw [e] at c; cases c
  | some o =>
    rw [e] at c
    cases o with
    | none => cases c
    | some u =>
      cases u <;> first | cases c | skip
      rename_i C
      have hm := PySem.W.mg_of X G e
      obtain ⟨c1, c⟩ := ba c
      obtain ⟨c2, c⟩ := ba c
      obtain ⟨c3, c⟩ := ba c
      obtain ⟨c4, c⟩ := ba c
      obtain ⟨c5, c⟩ := ba c
      have xq := xq_ok X G hm c5
      refine ⟨?_, xq⟩
      obtain ⟨C', e1, _, _, e4, _, _⟩ := xq
      rw [hm] at e1
      cases e1
      cases e2 : PySem.W.findIn K (.ref C) "__init__" with
      | none => rw [e2] at c; cases c
      | some o =>
        rw [e2] at c
        cases o with
        | none => cases c
        | some u =>
          cases u <;> first | cases c | skip
          rename_i f
          obtain ⟨c6, c⟩ := ba c
          cases e3 : K.lookup f with
          | none => rw [e3] at c; cases c
          | some o =>
            obtain ⟨oc, od, dt, sl⟩ := o
            rw [e3] at c
            cases dt <;> first | cases c | skip
            rename_i fd
            obtain ⟨r1, r2⟩ := init_of (w := w) (base := base) e3 hB hfile htop hmg hst c1 c2 (of_decide_eq_true c3) (of_decide_eq_true c4) e4 hne hfl c
            exact ⟨C, f, fd, x.ps, oex_ok c1, e2, of_decide_eq_true c6, r1, r2, hm⟩
end
theorem keys_get {P : Params} {es : Array DictEntry} {ks : List Str} (h : es.toList.map He.keyOf = He.keysIn P ks) {z : Str} (hz : z ∉ ks) : es.toList.find? (fun d => d.key.isStr z) = none := by
  rw [List.find?_eq_none]
  intro d hd hs
  have hm : He.keyOf d ∈ He.keysIn P ks := by rw [← h]; exact List.mem_map.mpr ⟨d, hd, rfl⟩
  obtain ⟨k, hk, ek⟩ := List.mem_map.mp hm
  unfold He.keyOf at ek
  split at ek
  · rename_i x t q
    rw [q] at hs
    have e1 : k = x := (Prod.mk.inj (Option.some.inj ek)).1
    have e2 : x = z := by
      have hs : (x == z) = true := hs
      exact eq_of_beq hs
    exact hz (by rw [← e2, ← e1]; exact hk)
  · cases ek
theorem lookup_none {kvs : List (Str × Int)} {z : Str} : z ∉ kvs.map (·.1) → kvs.lookup z = none := by
  induction kvs with
  | nil => intro _; rfl
  | cons p r ih =>
    intro h
    rw [List.lookup_cons]
    have ne : (z == p.1) = false := beq_eq_false_iff_ne.mpr fun e => h (by rw [e]; exact List.mem_cons_self)
    rw [ne]
    exact ih fun hm => h (List.mem_cons_of_mem _ hm)
theorem gd_of {T : Tbl} {w : World} {K : PySem.W.Frag} {h : Heap} {mg : Str → Option Value} (X : K.In h) (G : h.Ns mainGlobals mg) (e : T.gv K = true) (eg : T.gk K = T.gw w) : ∀ p ∈ T.gd, GdOk K w mg p.1 p.2 := by
  intro p hp
  have hv := List.all_eq_true.mp e p hp
  have hk : (match PySem.W.nsIn K mainGlobals p.1 with
    | some (some (.ref a)) => He.dicW K a
    | _ => none) = some (He.keysIn w.params (p.2.map (·.1))) := by
    have := List.map_inj_left.mp eg p hp
    exact this
  cases q : PySem.W.nsIn K mainGlobals p.1 with
  | none => rw [q] at hv; cases hv
  | some o =>
    cases o with
    | none => rw [q] at hv; cases hv
    | some u =>
      cases u <;> first | (rw [q] at hv; cases hv; done) | skip
      rename_i a
      rw [q] at hv hk
      have hv : gvB K a p.2 = true := hv
      have hk : He.dicW K a = some (He.keysIn w.params (p.2.map (·.1))) := hk
      obtain ⟨es, n, D⟩ := He.dicW_ok hk
      have hd := hk
      unfold He.dicW at hd
      rw [D.at_] at hd
      have hkeys : es.toList.map He.keyOf = He.keysIn w.params (p.2.map (·.1)) := by
        have hd : (match decide ("dict" = "dict") && ((#[] : Array (Option Value)).isEmpty && !(a == sysModules)) with
          | true => some (es.toList.map He.keyOf)
          | false => none) = some (He.keysIn w.params (p.2.map (·.1))) := hd
        rw [D.low] at hd
        exact Option.some.inj hd
      refine ⟨a, es, n, PySem.W.mg_of X G q, D, fun z => ?_⟩
      by_cases hz : z ∈ p.2.map (·.1)
      · obtain ⟨r, hr, rfl⟩ := List.mem_map.mp hz
        have h3 := List.all_eq_true.mp hv r hr
        cases q2 : PySem.W.nsIn K a r.1 with
        | none => rw [q2] at h3; cases h3
        | some o =>
          cases o with
          | none => rw [q2] at h3; cases h3
          | some u =>
            cases u <;> first | (rw [q2] at h3; cases h3; done) | skip
            rename_i i t
            rw [q2] at h3
            have h3 : p.2.lookup r.1 = some i := of_decide_eq_true h3
            rw [h3]
            exact ⟨_, rfl, t, rfl⟩
      · rw [lookup_none hz]
        refine ⟨none, ?_, rfl⟩
        unfold PySem.W.nsIn
        rw [D.at_]
        dsimp only
        rw [keys_get hkeys hz]
        dsimp only
        have nr : es.toList.any (fun x => x.refKey) = false := by
          rw [List.any_eq_false]
          intro d hd
          obtain ⟨x, t, e1, _⟩ := D.lit.all d hd
          unfold DictEntry.refKey
          rw [e1]
          simp
        rw [nr]
        rfl
def XFine (T : Tbl) (P : Program) : Prop := ∀ x ∈ T.xds, XBind x ∧ P.main.file = T.file ∧ (P.main.scope.names.lookup ("super" : Str)).isSome = false
theorem here_of {T : Tbl} {P : Program} {w : World} {base : Heap} (hx : XFine T P) {K : PySem.W.Frag} {h : Heap} {mg : Str → Option Value} (X : K.In h) (G : h.Ns mainGlobals mg) (c : He.SaysD T.fa (T.defs.map DDef.he) K) (e : T.ex K = true) (eg : T.gk K = T.gw w) : Here T P w K mg base where
  gd := gd_of X G (ba (ba (ba (ba e).2).2).2).1 eg
  ex := fun p hp => by
    obtain ⟨x, hm, rfl⟩ := List.mem_map.mp hp
    obtain ⟨e1, q⟩ := ba (List.all_eq_true.mp (ba (ba e).2).1 x hm)
    obtain ⟨e2, q⟩ := ba q
    obtain ⟨e3, q⟩ := ba q
    obtain ⟨e4, q⟩ := ba q
    obtain ⟨e5, e6⟩ := ba q
    obtain ⟨b1, b2, b3⟩ := hx x hm
    exact ⟨of_decide_eq_true e2, of_decide_eq_true e3, (xdef_ok X G b1 b2 b3 (PySem.W.mg_none_of X G (of_decide_eq_true e6)) (of_decide_eq_true e5) (fun z => by rw [z] at e4; cases e4) (of_decide_eq_true e3) e1).1⟩
  exq := fun p hp => by
    obtain ⟨x, hm, rfl⟩ := List.mem_map.mp hp
    obtain ⟨e1, q⟩ := ba (List.all_eq_true.mp (ba (ba e).2).1 x hm)
    obtain ⟨e2, q⟩ := ba q
    obtain ⟨e3, q⟩ := ba q
    obtain ⟨e4, q⟩ := ba q
    obtain ⟨e5, e6⟩ := ba q
    obtain ⟨b1, b2, b3⟩ := hx x hm
    exact (xdef_ok (P := P) (w := w) (base := base) X G b1 b2 b3 (PySem.W.mg_none_of X G (of_decide_eq_true e6)) (of_decide_eq_true e5) (fun z => by rw [z] at e4; cases e4) (of_decide_eq_true e3) e1).2
  fn := fun d hd => by
    obtain ⟨fd, F⟩ := def_mem c (d := d.he) (List.mem_map.mpr ⟨d, hd, rfl⟩)
    exact ⟨_, fd, F, He.glo_ok X G (fact_mem c (List.mem_append_left _ (List.mem_map.mpr ⟨d, hd, rfl⟩)))⟩
  fr := fun x hx => He.free_ok X G (fact_mem c (List.mem_append_right _ (List.mem_map.mpr ⟨x, hx, rfl⟩)))
  gm := fun x hx => gcd_ok X G (List.all_eq_true.mp (ba e).1 x hx)
  lm := fun x hx => lcm_ok X G (List.all_eq_true.mp (ba (ba (ba (ba e).2).2).2).2 x hx)
  gs := fun x hx => by
    have key : ∀ (l : List (Str × D)), (∀ p ∈ l, conB K p.1 p.2 = true) → x ∈ l.map (·.1) → ∃ d, l.lookup x = some d ∧ conB K x d = true := by
      intro l
      induction l with
      | nil => intro _ z; cases z
      | cons p r ih =>
        intro hl hm
        obtain ⟨y, d⟩ := p
        rw [List.lookup_cons]
        by_cases q : x = y
        · subst q
          exact ⟨d, by simp, hl (x, d) List.mem_cons_self⟩
        · have q' : (x == y) = false := by simpa using q
          rw [q']
          exact ih (fun p hp => hl p (List.mem_cons_of_mem _ hp)) ((List.mem_cons.mp hm).resolve_left q)
    obtain ⟨d, h1, h2⟩ := key T.G (fun p hp => List.all_eq_true.mp (ba (ba (ba e).2).2).1 p hp) hx
    obtain ⟨u, v, h3, h4, h5⟩ := con_ok X G h2
    exact ⟨u, v, d, h3, h4, h1, h5⟩
/-! ### a law -/
theorem FnOk.to0 {P : Program} {w : World} {K : PySem.W.Frag} {mg : Str → Option Value} {base : Heap} {k : Nat} {f : Addr} {fd : FuncData} {ps : List Str} (F : FnOk P w K mg base (L2.CX P w) k f fd ps (spLaw K)) : FnOk P w K mg base CX0 k f fd ps (spLaw K) := by
  refine ⟨F.len, fun A outer s H args us vs Q E hr he hb hv hs => codeAny_mono (F.run A outer s H args us vs Q E0 hr he hb hv hs) fun r s' q => ?_⟩
  cases r with
  | error e =>
    obtain ⟨_, _, _, _, _, _, _, _, _, _, _, _, z⟩ := (show L2.CX P w outer H s E0 e s' from q)
    exact z.elim
  | ok fl => cases fl <;> exact q
/-- THE RULE for a law -/
theorem law_walk {l : PySem.W.OpenLaw} {T : Tbl} {n m : Nat} {q : Program} {loose : List Str} {XP : (Str → Option Value) → Heap → Prop} {d : DefRec} {dl : DDef}
    (hn : l.most = some 63) (hdf : d.params.defaults = []) (hr : Room (n + 3) callerA) (hx : XFine T l.prog) (F : Fine T) (nd : ∀ d ∈ T.defs, findD T.defs d.name = some d) (hdl : dl ∈ T.defs) (hnm : d.name = dl.name) (hps : dl.ps = [("script" : Str)])
    (h : ∀ ns : List Int, ns.length ≤ 63 → T.prg.call n dl.name [.scr ns] = .ok (.bl true)) :
    PySem.W.WalkO q loose XP (T.hk m).says l.row.toRowW d [] (fun f vs => PySem.call f vs) := by
  refine L2.walk_ofE (l := l) (n := 63) (k := n + 3) (x := "script") (CX := L2.CX0) hn (by decide) hdf hr ?_ (fun _ _ _ _ z => z)
  intro w mg fa h' Y G hmg0
  obtain ⟨K, KX, c, e, eg⟩ := Y
  obtain ⟨fd, FD⟩ := def_mem c (d := dl.he) (List.mem_map.mpr ⟨dl, hdl, rfl⟩)
  have hm := He.glo_ok KX G (fact_mem c (List.mem_append_left _ (List.mem_map.mpr ⟨dl, hdl, rfl⟩)))
  rw [hnm, hm] at hmg0
  cases hmg0
  refine ⟨K, fd, spLaw K, KX, fun s u => ?_, fun H a ns hl _ hS => ⟨a, ns, rfl, hl, hS, fun _ => rfl⟩, fun base _ _ => ?_⟩
  · have b := FunD.bindsA (ps := dl.ps) FD (F.bind dl hdl) s [u] (by rw [hps]; rfl)
    rw [hps] at b
    exact b
  · have k := law_ok (P := l.prog) (w := w) (base := base) F (here_of hx KX G c e eg) nd hdl FD h
    rw [hps] at k
    exact FnOk.to0 k
end PyI
/-! PyI, part 16: the interpreter, run by simp. -/
namespace PyI
open PySem L2
theorem nr {α : Type} {a b : α} (h : a = b) : a = b := h
theorem okb {α β : Type} (a : α) (f : α → Res β) : (Res.ok a >>= f) = f a := nr rfl
theorem oko {α : Type} (a : α) (f : α → Out) : (Res.ok a).out f = f a := nr rfl
theorem noxo {α : Type} (a : α) : nox (Res.ok a) = .ok a := nr rfl
section
variable {G : Str → Option D} {Φ : Str → List D → Res D} {fu : Nat} {σ : Env}
theorem e_var (i : Nat) : ev G Φ (.var i) σ = getV σ i := nr rfl
theorem e_int (i : Int) : ev G Φ (.int i) σ = .ok (.int i) := nr rfl
theorem e_str (i : Str) : ev G Φ (.str i) σ = .ok (.str i) := nr rfl
theorem e_bl (i : Bool) : ev G Φ (.bl i) σ = .ok (.bl i) := nr rfl
theorem e_non : ev G Φ .non σ = .ok .non := nr rfl
theorem e_glob (x : Str) : ev G Φ (.glob x) σ = (match G x with
    | some d => .ok d
    | none => .bad) := nr rfl
theorem e_op (o : Op) (a b : E) : ev G Φ (.op o a b) σ = (ev G Φ a σ >>= fun x => ev G Φ b σ >>= fun y => opD o x y) := nr rfl
theorem e_neg (a : E) : ev G Φ (.neg a) σ = (ev G Φ a σ >>= fun x => intD x >>= fun i => .ok (.int (-i))) := nr rfl
theorem e_not (a : E) : ev G Φ (.not a) σ = (ev G Φ a σ >>= fun x => blD x >>= fun b => .ok (.bl (!b))) := nr rfl
theorem e_and (a b : E) : ev G Φ (.and a b) σ = (ev G Φ a σ >>= fun x => blD x >>= fun c => if c then ev G Φ b σ else .ok (.bl false)) := nr rfl
theorem e_or (a b : E) : ev G Φ (.or a b) σ = (ev G Φ a σ >>= fun x => blD x >>= fun c => if c then .ok (.bl true) else ev G Φ b σ) := nr rfl
theorem e_cmp (c : Cm) (a b : E) : ev G Φ (.cmp c a b) σ = (ev G Φ a σ >>= fun x => ev G Φ b σ >>= fun y => cmD c x y) := nr rfl
theorem e_chain (c c' : Cm) (a b d : E) : ev G Φ (.chain c c' a b d) σ = (ev G Φ a σ >>= fun x => ev G Φ b σ >>= fun y => cmD c x y >>= fun z => blD z >>= fun k => if k then ev G Φ d σ >>= fun w => cmD c' y w else .ok (.bl false)) := nr rfl
theorem e_ife (c a b : E) : ev G Φ (.ife c a b) σ = (ev G Φ c σ >>= fun x => blD x >>= fun k => if k then ev G Φ a σ else ev G Φ b σ) := nr rfl
theorem e_ix (a b : E) : ev G Φ (.ix a b) σ = (ev G Φ a σ >>= fun x => ev G Φ b σ >>= fun y => ixD x y) := nr rfl
theorem e_sl (a : E) (lo hi : Op1) : ev G Φ (.sl a lo hi) σ = (ev G Φ a σ >>= fun x => evo G Φ lo σ >>= fun l => evo G Φ hi σ >>= fun h => slD x l h) := nr rfl
theorem e_tup (es : Es) : ev G Φ (.tup es) σ = (evs G Φ es σ >>= fun ds => .ok (.tup ds)) := nr rfl
theorem e_lst (es : Es) : ev G Φ (.lst es) σ = (evs G Φ es σ >>= fun ds => .ok (.lst ds)) := nr rfl
theorem e_comp (elt : E) (tg : Tg) (src : Src) (own : List Nat) : ev G Φ (.comp elt tg src own) σ = (evS G Φ src σ >>= fun items => mapR (fun x => nox (asg tg x (wipeD σ own) >>= fun σ2 => ev G Φ elt σ2 >>= fun y => .ok (some y))) items >>= fun ds => if ds.length ≤ sizeLine then .ok (.lst ds) else .bad) := nr rfl
theorem e_compIf (elt : E) (tg : Tg) (src : Src) (c : E) (own : List Nat) : ev G Φ (.compIf elt tg src c own) σ = (evS G Φ src σ >>= fun items => mapR (fun x => nox (asg tg x (wipeD σ own) >>= fun σ2 => ev G Φ c σ2 >>= fun t => blD t >>= fun k => if k then ev G Φ elt σ2 >>= fun y => .ok (some y) else .ok none)) items >>= fun ds => if ds.length ≤ sizeLine then .ok (.lst ds) else .bad) := nr rfl
theorem e_call (f : Str) (es : Es) : ev G Φ (.call f es) σ = (evs G Φ es σ >>= fun ds => Φ f ds) := nr rfl
theorem e_bi (b : Bi) (es : Es) : ev G Φ (.bi b es) σ = (evs G Φ es σ >>= fun ds => biD b ds) := nr rfl
theorem e_isi (a : E) (t : String) : ev G Φ (.isi a t) σ = (ev G Φ a σ >>= fun x => isiD x t) := nr rfl
theorem es_nil : evs G Φ .nil σ = .ok [] := nr rfl
theorem es_cons (e : E) (r : Es) : evs G Φ (.cons e r) σ = (ev G Φ e σ >>= fun d => evs G Φ r σ >>= fun ds => .ok (d :: ds)) := nr rfl
theorem eo_no : evo G Φ .no σ = .ok none := nr rfl
theorem eo_so (e : E) : evo G Φ (.so e) σ = (ev G Φ e σ >>= fun x => intD x >>= fun i => .ok (some i)) := nr rfl
theorem eS_seq (e : E) : evS G Φ (.seq e) σ = (ev G Φ e σ >>= fun x => itemsD x) := nr rfl
theorem eS_rng1 (a : E) : evS G Φ (.rng1 a) σ = (ev G Φ a σ >>= fun x => intD x >>= fun i => rngD 0 i) := nr rfl
theorem eS_rng2 (a b : E) : evS G Φ (.rng2 a b) σ = (ev G Φ a σ >>= fun x => ev G Φ b σ >>= fun y => intD x >>= fun i => intD y >>= fun j => rngD i j) := nr rfl
theorem eS_enum (e : E) : evS G Φ (.enum e) σ = (ev G Φ e σ >>= fun x => enumI x >>= fun ds => .ok (enumD 0 ds)) := nr rfl
theorem eS_zip (a b : E) : evS G Φ (.zip a b) σ = (ev G Φ a σ >>= fun x => ev G Φ b σ >>= fun y => zipI x y >>= fun p => .ok (zipD p.1 p.2)) := nr rfl
theorem x_set (i : Nat) (e : E) : exS G Φ fu (.set i e) σ = (ev G Φ e σ).out fun d => (setE σ i e d).out fun σ1 => .nx σ1 := nr rfl
theorem x_setT (ts : List Tg) (e : E) : exS G Φ fu (.setT ts e) σ = (ev G Φ e σ).out fun d => (asg (.tup ts) d (keepL σ d (lt e ++ li e))).out fun σ1 => .nx σ1 := nr rfl
theorem x_setIx (i : Nat) (k e : E) : exS G Φ fu (.setIx i k e) σ = (ev G Φ e σ).out fun d => (ownL σ i).out fun _ => (ev G Φ k σ >>= intD).out fun n => (ownL (keepL σ d (lt e ++ li e)) i).out fun xs => (match ixN xs.length n with
    | some j => .nx ((keepL σ d (lt e ++ li e)).set i (some (.o (xs.set j d))))
    | none => .bad) := nr rfl
theorem x_aug (i : Nat) (o : Op) (e : E) : exS G Φ fu (.aug i o e) σ = (getV σ i).out fun x => (ev G Φ e σ).out fun y => (match o, x, y with
    | .add, .int a, .int b => .nx (σ.set i (some (.v (.int (a + b)))))
    | .sub, .int a, .int b => .nx (σ.set i (some (.v (.int (a - b)))))
    | _, _, _ => .bad) := nr rfl
theorem x_app (i : Nat) (e : E) : exS G Φ fu (.app i e) σ = (ownL σ i).out fun _ => (ev G Φ e σ).out fun d => (ownL (keepL σ d (lt e ++ li e)) i).out fun xs => if xs.length < sizeLine then .nx ((keepL σ d (lt e ++ li e)).set i (some (.o (xs ++ [d])))) else .bad := nr rfl
theorem x_ext (i : Nat) (e : E) : exS G Φ fu (.ext i e) σ = (ownL σ i).out fun _ => (ev G Φ e σ).out fun d => (lstD d).out fun ds => (ownL (freeze σ (li e)) i).out fun xs => if xs.length + ds.length ≤ sizeLine then .nx ((freeze σ (li e)).set i (some (.o (xs ++ ds)))) else .bad := nr rfl
theorem x_exp (e : E) : exS G Φ fu (.exp e) σ = (ev G Φ e σ).out fun _ => .nx σ := nr rfl
theorem x_ret (e : E) : exS G Φ fu (.ret e) σ = (ev G Φ e σ).out fun d => .rt d := nr rfl
theorem x_retN : exS G Φ fu .retN σ = .rt .non := nr rfl
theorem x_ife (c : E) (a b : Ss) : exS G Φ fu (.ife c a b) σ = (ev G Φ c σ >>= blD).out fun k => if k then exL G Φ fu a σ else exL G Φ fu b σ := nr rfl
theorem x_fr (tg : Tg) (src : Src) (b : Ss) : exS G Φ fu (.fr tg src b) σ = (evS G Φ src σ).out fun items => forL (asg tg) (exL G Φ fu b) items (freeze σ (ltS src ++ liS src)) := nr rfl
theorem x_wh (c : E) (b : Ss) : exS G Φ fu (.wh c b) σ = whL (ev G Φ c) (exL G Φ fu b) fu σ := nr rfl
theorem x_brk : exS G Φ fu .brk σ = .bk σ := nr rfl
theorem x_cont : exS G Φ fu .cont σ = .ct σ := nr rfl
theorem x_pass : exS G Φ fu .pass σ = .nx σ := nr rfl
theorem xs_nil : exL G Φ fu .nil σ = .nx σ := nr rfl
/-- go on, where the statement ends behind itself -/
def Out.andThen (o : Out) (f : Env → Out) : Out := match o with
  | .nx σ1 => f σ1
  | o => o
theorem xs_cons (s : S) (r : Ss) : exL G Φ fu (.cons s r) σ = (exS G Φ fu s σ).andThen (exL G Φ fu r) := nr rfl
theorem at_nx (σ : Env) (f : Env → Out) : (Out.nx σ).andThen f = f σ := nr rfl
theorem at_rt (d : D) (f : Env → Out) : (Out.rt d).andThen f = .rt d := nr rfl
theorem at_bk (σ : Env) (f : Env → Out) : (Out.bk σ).andThen f = .bk σ := nr rfl
theorem at_ct (σ : Env) (f : Env → Out) : (Out.ct σ).andThen f = .ct σ := nr rfl
theorem at_exc (c : Str) (vs : List D) (f : Env → Out) : (Out.exc c vs).andThen f = .exc c vs := nr rfl
theorem at_bad (f : Env → Out) : Out.bad.andThen f = .bad := nr rfl
theorem at_ite {c : Prop} [Decidable c] (a b : Out) (f : Env → Out) : (if c then a else b).andThen f = if c then a.andThen f else b.andThen f := by split <;> rfl
def Ss.cat : Ss → Ss → Ss
  | .nil, t => t
  | .cons s r, t => .cons s (r.cat t)
theorem xs_cat (t : Ss) : ∀ (s : Ss) (σ : Env), exL G Φ fu (s.cat t) σ = (exL G Φ fu s σ).andThen (exL G Φ fu t)
  | .nil, σ => rfl
  | .cons s r, σ => by
    show (exS G Φ fu s σ).andThen (exL G Φ fu (r.cat t)) = ((exS G Φ fu s σ).andThen (exL G Φ fu r)).andThen (exL G Φ fu t)
    cases exS G Φ fu s σ with
    | nx σ1 => exact xs_cat t r σ1
    | _ => rfl
/-- a def's end -/
def fin (o : Out) : Res D := match o with
  | .rt d => .ok d
  | .nx _ => .ok .non
  | .exc c vs => .exc c vs
  | _ => .bad
theorem fin_rt (d : D) : fin (.rt d) = .ok d := nr rfl
theorem fin_nx (σ : Env) : fin (.nx σ) = .ok .non := nr rfl
theorem fin_exc (c : Str) (vs : List D) : fin (.exc c vs) = .exc c vs := nr rfl
theorem fin_ite {c : Prop} [Decidable c] (a b : Out) : fin (if c then a else b) = if c then fin a else fin b := by split <;> rfl
/-! slots -/
theorem g_zv (d : D) (l : Env) : getV (some (.v d) :: l) 0 = .ok d := nr rfl
theorem g_zo (xs : List D) (l : Env) : getV (some (.o xs) :: l) 0 = .ok (.lst xs) := nr rfl
theorem g_s (a : Option C) (l : Env) (n : Nat) : getV (a :: l) (n + 1) = getV l n := nr rfl
theorem o_z (xs : List D) (l : Env) : ownL (some (.o xs) :: l) 0 = .ok xs := nr rfl
theorem o_s (a : Option C) (l : Env) (n : Nat) : ownL (a :: l) (n + 1) = ownL l n := nr rfl
/-- a store of something -/
def stV (σ : Env) (i : Nat) (d : D) : Env := σ.set i (some (.v d))
theorem st_z (a : Option C) (l : Env) (x : Option C) : List.set (a :: l) 0 x = x :: l := nr rfl
theorem st_s (a : Option C) (l : Env) (n : Nat) (x : Option C) : List.set (a :: l) (n + 1) x = a :: l.set n x := nr rfl
theorem kp_int (i : Int) (L : List Nat) : keepL σ (.int i) L = σ := nr rfl
theorem kp_non (L : List Nat) : keepL σ .non L = σ := nr rfl
theorem kp_bl (i : Bool) (L : List Nat) : keepL σ (.bl i) L = σ := nr rfl
theorem kp_str (i : Str) (L : List Nat) : keepL σ (.str i) L = σ := nr rfl
theorem kp_nil (d : D) : keepL σ d [] = σ := by unfold keepL; split <;> rfl
theorem lS1 (a : E) : ltS (.rng1 a) ++ liS (.rng1 a) = [] := nr rfl
theorem lS2 (a b : E) : ltS (.rng2 a b) ++ liS (.rng2 a b) = [] := nr rfl
theorem fz_nil : freeze σ [] = σ := nr rfl
theorem sv_if (i : Nat) (d : D) : setV σ i d = if i < σ.length then .ok (σ.set i (some (.v d))) else .bad := nr rfl
theorem sE_f {e : E} (h : fresh e = false) (i : Nat) (d : D) : setE σ i e d = if i < σ.length then .ok ((keepL σ d (lt e ++ li e)).set i (some (.v d))) else .bad := by unfold setE; rw [h]
theorem sE_t {e : E} (h : fresh e = true) (i : Nat) (ds : List D) : setE σ i e (.lst ds) = if i < σ.length then .ok ((freeze σ (li e)).set i (some (.o ds))) else .bad := by unfold setE; rw [h]
theorem sE_i {e : E} (i : Nat) (n : Int) : setE σ i e (.int n) = if i < σ.length then .ok (σ.set i (some (.v (.int n)))) else .bad := by
  unfold setE
  cases fresh e <;> rfl
theorem sE_tup {e : E} (i : Nat) (n : List D) (h : D.stills n = true) : setE σ i e (.tup n) = if i < σ.length then .ok (σ.set i (some (.v (.tup n)))) else .bad := by
  have k : ∀ L, keepL σ (.tup n) L = σ := fun L => by unfold keepL; rw [if_pos (by show D.stills n = true; exact h)]
  unfold setE
  cases fresh e <;> simp [k]
theorem sE_lst (i : Nat) (es : Es) (ds : List D) : setE σ i (.lst es) (.lst ds) = if i < σ.length then .ok ((freeze σ (las es)).set i (some (.o ds))) else .bad := nr rfl
theorem sE_comp (i : Nat) (a : E) (tg : Tg) (s : Src) (o : List Nat) (ds : List D) : setE σ i (.comp a tg s o) (.lst ds) = if i < σ.length then .ok ((freeze σ (lt a ++ li a)).set i (some (.o ds))) else .bad := nr rfl
theorem sE_compIf (i : Nat) (a c : E) (tg : Tg) (s : Src) (o : List Nat) (ds : List D) : setE σ i (.compIf a tg s c o) (.lst ds) = if i < σ.length then .ok ((freeze σ (lt a ++ li a)).set i (some (.o ds))) else .bad := nr rfl
theorem sE_opl (i : Nat) (o : Op) (a b : E) (ds : List D) : setE σ i (.op o a b) (.lst ds) = if i < σ.length then .ok ((freeze σ (li a ++ li b)).set i (some (.o ds))) else .bad := nr rfl
theorem sE_sl (i : Nat) (a : E) (lo hi : Op1) (ds : List D) : setE σ i (.sl a lo hi) (.lst ds) = if i < σ.length then .ok ((freeze σ (li a)).set i (some (.o ds))) else .bad := nr rfl
theorem sE_list (i : Nat) (es : Es) (ds : List D) : setE σ i (.bi .list es) (.lst ds) = if i < σ.length then .ok ((freeze σ (lis es)).set i (some (.o ds))) else .bad := nr rfl
theorem sE_sorted (i : Nat) (es : Es) (ds : List D) : setE σ i (.bi .sorted es) (.lst ds) = if i < σ.length then .ok ((freeze σ (lis es)).set i (some (.o ds))) else .bad := nr rfl
theorem sE_var (i j : Nat) (d : D) : setE σ i (.var j) d = if i < σ.length then .ok ((keepL σ d [j]).set i (some (.v d))) else .bad := by cases d <;> rfl
theorem sE_ix (i : Nat) (a b : E) (d : D) : setE σ i (.ix a b) d = if i < σ.length then .ok ((keepL σ d (li a ++ li a)).set i (some (.v d))) else .bad := by cases d <;> rfl
theorem sE_call (i : Nat) (f : Str) (es : Es) (d : D) : setE σ i (.call f es) d = if i < σ.length then .ok ((keepL σ d (las es ++ las es)).set i (some (.v d))) else .bad := by cases d <;> rfl
theorem sE_non (i : Nat) (e : E) : setE σ i e .non = if i < σ.length then .ok (σ.set i (some (.v .non))) else .bad := by
  unfold setE
  cases fresh e <;> rfl
theorem sE_blv (i : Nat) (e : E) (b : Bool) : setE σ i e (.bl b) = if i < σ.length then .ok (σ.set i (some (.v (.bl b)))) else .bad := by
  unfold setE
  cases fresh e <;> rfl
theorem sE_tp (i : Nat) (e : E) (ds : List D) : setE σ i e (.tup ds) = if i < σ.length then .ok ((keepL σ (.tup ds) (lt e ++ li e)).set i (some (.v (.tup ds)))) else .bad := by
  unfold setE
  cases fresh e <;> rfl
theorem kp_still {d : D} (h : d.still = true) (L : List Nat) : keepL σ d L = σ := if_pos h
theorem stills_ints (ns : List Int) : D.stills (ns.map D.int) = true := by
  induction ns with
  | nil => rfl
  | cons a r ih => exact ih
abbrev nm (x : Nat) : D := .int x
theorem stills_nats (ns : List Nat) : D.stills (ns.map nm) = true := by
  induction ns with
  | nil => rfl
  | cons a r ih => exact ih
theorem ad_int (i j : Int) : opD .add (.int i) (.int j) = .ok (.int (i + j)) := nr rfl
theorem sb_int (i j : Int) : opD .sub (.int i) (.int j) = .ok (.int (i - j)) := nr rfl
theorem ml_int {i j : Int} (h : mulOk i j) : opD .mul (.int i) (.int j) = .ok (.int (i * j)) := if_pos h
theorem fd_int {i j : Int} (h : 0 < j ∧ j.natAbs.log2 < 9000) : opD .fdiv (.int i) (.int j) = .ok (.int (i / j)) := if_pos h
theorem fd_neg {i j : Int} (h : j < 0 ∧ j.natAbs.log2 < 9000) : opD .fdiv (.int i) (.int j) = .ok (.int (Int.fdiv i j)) := by
  show (if 0 < j ∧ j.natAbs.log2 < 9000 then Res.ok (D.int (i / j)) else if j < 0 ∧ j.natAbs.log2 < 9000 then .ok (.int (Int.fdiv i j)) else .bad) = _
  rw [if_neg (by omega), if_pos h]
theorem lm_int {i j : Int} (h : i.natAbs.log2 < 13000 ∧ j.natAbs.log2 < 13000) : biD .lcm [.int i, .int j] = .ok (.int (Nat.lcm i.natAbs j.natAbs : Nat)) := if_pos h
theorem md_int {i j : Int} (h : 0 < j) : opD .mod (.int i) (.int j) = .ok (.int (i % j)) := if_pos h
theorem pw_int {i j : Int} (h : powOk i j) : opD .pow (.int i) (.int j) = .ok (.int (i ^ j.toNat)) := if_pos h
theorem c_lt (i j : Int) : cmD .lt (.int i) (.int j) = .ok (.bl (decide (i < j))) := nr rfl
theorem c_le (i j : Int) : cmD .le (.int i) (.int j) = .ok (.bl (decide (i ≤ j))) := nr rfl
theorem c_gt (i j : Int) : cmD .gt (.int i) (.int j) = .ok (.bl (decide (j < i))) := nr rfl
theorem c_ge (i j : Int) : cmD .ge (.int i) (.int j) = .ok (.bl (decide (j ≤ i))) := nr rfl
theorem c_eq (i j : Int) : cmD .eq (.int i) (.int j) = .ok (.bl (decide (i = j))) := by
  show Res.ok (D.bl (i == j)) = _
  congr 2
theorem c_ne (i j : Int) : cmD .ne (.int i) (.int j) = .ok (.bl (decide (i ≠ j))) := by
  show Res.ok (D.bl (!(i == j))) = _
  congr 2
  by_cases h : i = j
  · subst h; simp
  · simp [h]
theorem c_is (a : D) : cmD .isN a .non = .ok (.bl (isN a)) := nr rfl
theorem c_no (a : D) : cmD .notN a .non = .ok (.bl (!isN a)) := nr rfl
theorem bl_bl (b : Bool) : blD (.bl b) = .ok b := nr rfl
theorem in_in (b : Int) : intD (.int b) = .ok b := nr rfl
theorem b_len (xs : List D) : biD .len [.lst xs] = .ok (.int xs.length) := nr rfl
theorem b_lenT (xs : List D) : biD .len [.tup xs] = .ok (.int xs.length) := nr rfl
theorem b_lenS (xs : List Int) : biD .len [.scr xs] = .ok (.int xs.length) := nr rfl
theorem b_int (i : Int) : biD .int [.int i] = .ok (.int i) := nr rfl
theorem b_abs (i : Int) : biD .abs [.int i] = .ok (.int (if i < 0 then -i else i)) := nr rfl
theorem b_min (i j : Int) : biD .min [.int i, .int j] = .ok (.int (if j < i then j else i)) := nr rfl
theorem b_max (i j : Int) : biD .max [.int i, .int j] = .ok (.int (if i < j then j else i)) := nr rfl
theorem b_tupL (xs : List D) : biD .tuple [.lst xs] = .ok (.tup xs) := nr rfl
theorem b_tupT (xs : List D) : biD .tuple [.tup xs] = .ok (.tup xs) := nr rfl
theorem b_lstT (xs : List D) : biD .list [.tup xs] = .ok (.lst xs) := nr rfl
theorem b_lstL (xs : List D) : biD .list [.lst xs] = .ok (.lst xs) := nr rfl
theorem at_some {α : Type} {xs : List α} {i : Int} {n : Nat} {a : α} (h : i = n) (e : xs[n]? = some a) : atI xs i = some a := by
  subst h
  have hn : n < xs.length := (List.getElem?_eq_some_iff.mp e).1
  unfold atI ixN
  rw [if_pos (by omega), if_pos (by omega)]
  exact e
theorem ix_lst {xs : List D} {i : Int} {n : Nat} {a : D} (h : i = n) (e : xs[n]? = some a) : ixD (.lst xs) (.int i) = .ok a := by
  show (match atI xs i with | some d => Res.ok d | none => .bad) = _
  rw [at_some h e]
theorem ix_tup {xs : List D} {i : Int} {n : Nat} {a : D} (h : i = n) (e : xs[n]? = some a) : ixD (.tup xs) (.int i) = .ok a := by
  show (match atI xs i with | some d => Res.ok d | none => .bad) = _
  rw [at_some h e]
theorem ix_scr {xs : List Int} {i : Int} {n : Nat} {a : Int} (h : i = n) (e : xs[n]? = some a) : ixD (.scr xs) (.int i) = .ok (.int a) := by
  show (match atI xs i with | some d => Res.ok (D.int d) | none => .bad) = _
  rw [at_some h e]
theorem ixT0 (a : D) (l : List D) : ixD (.tup (a :: l)) (.int 0) = .ok a := ix_tup (n := 0) rfl rfl
theorem ixT1 (a b : D) (l : List D) : ixD (.tup (a :: b :: l)) (.int 1) = .ok b := ix_tup (n := 1) rfl rfl
theorem ixT2 (a b c : D) (l : List D) : ixD (.tup (a :: b :: c :: l)) (.int 2) = .ok c := ix_tup (n := 2) rfl rfl
theorem ixT3 (a b c d : D) (l : List D) : ixD (.tup (a :: b :: c :: d :: l)) (.int 3) = .ok d := ix_tup (n := 3) rfl rfl
theorem rng_ok {a b : Int} (h : -(2 ^ 62) ≤ a ∧ a < 2 ^ 62 ∧ -(2 ^ 62) ≤ b ∧ b < 2 ^ 62) : rngD a b = .ok ((List.range (b - a).toNat).map fun i => .int (a + (i : Nat))) := if_pos h
end
theorem is_n_int  : isiD .non "int" = .ok (.bl false) := nr rfl
theorem is_n_bool  : isiD .non "bool" = .ok (.bl false) := nr rfl
theorem is_n_str  : isiD .non "str" = .ok (.bl false) := nr rfl
theorem is_n_tuple  : isiD .non "tuple" = .ok (.bl false) := nr rfl
theorem is_n_list  : isiD .non "list" = .ok (.bl false) := nr rfl
theorem is_b_int (b : Bool) : isiD (.bl b) "int" = .ok (.bl true) := nr rfl
theorem is_b_bool (b : Bool) : isiD (.bl b) "bool" = .ok (.bl true) := nr rfl
theorem is_b_str (b : Bool) : isiD (.bl b) "str" = .ok (.bl false) := nr rfl
theorem is_b_tuple (b : Bool) : isiD (.bl b) "tuple" = .ok (.bl false) := nr rfl
theorem is_b_list (b : Bool) : isiD (.bl b) "list" = .ok (.bl false) := nr rfl
theorem is_i_int (i : Int) : isiD (.int i) "int" = .ok (.bl true) := nr rfl
theorem is_i_bool (i : Int) : isiD (.int i) "bool" = .ok (.bl false) := nr rfl
theorem is_i_str (i : Int) : isiD (.int i) "str" = .ok (.bl false) := nr rfl
theorem is_i_tuple (i : Int) : isiD (.int i) "tuple" = .ok (.bl false) := nr rfl
theorem is_i_list (i : Int) : isiD (.int i) "list" = .ok (.bl false) := nr rfl
theorem is_s_int (s : Str) : isiD (.str s) "int" = .ok (.bl false) := nr rfl
theorem is_s_bool (s : Str) : isiD (.str s) "bool" = .ok (.bl false) := nr rfl
theorem is_s_str (s : Str) : isiD (.str s) "str" = .ok (.bl true) := nr rfl
theorem is_s_tuple (s : Str) : isiD (.str s) "tuple" = .ok (.bl false) := nr rfl
theorem is_s_list (s : Str) : isiD (.str s) "list" = .ok (.bl false) := nr rfl
theorem is_t_int (ds : List D) : isiD (.tup ds) "int" = .ok (.bl false) := nr rfl
theorem is_t_bool (ds : List D) : isiD (.tup ds) "bool" = .ok (.bl false) := nr rfl
theorem is_t_str (ds : List D) : isiD (.tup ds) "str" = .ok (.bl false) := nr rfl
theorem is_t_tuple (ds : List D) : isiD (.tup ds) "tuple" = .ok (.bl true) := nr rfl
theorem is_t_list (ds : List D) : isiD (.tup ds) "list" = .ok (.bl false) := nr rfl
theorem is_l_int (ds : List D) : isiD (.lst ds) "int" = .ok (.bl false) := nr rfl
theorem is_l_bool (ds : List D) : isiD (.lst ds) "bool" = .ok (.bl false) := nr rfl
theorem is_l_str (ds : List D) : isiD (.lst ds) "str" = .ok (.bl false) := nr rfl
theorem is_l_tuple (ds : List D) : isiD (.lst ds) "tuple" = .ok (.bl false) := nr rfl
theorem is_l_list (ds : List D) : isiD (.lst ds) "list" = .ok (.bl true) := nr rfl
theorem asg1 {τ : Env} (i : Nat) (d : D) : asg (.nm i) d τ = if i < τ.length then .ok (τ.set i (some (.v d))) else .bad := nr rfl
theorem asgT {τ : Env} (ts : List Tg) (ds : List D) : asg (.tup ts) (.tup ds) τ = asgs ts ds τ := nr rfl
theorem asgN {τ : Env} (t : Tg) (ts : List Tg) (d : D) (ds : List D) : asgs (t :: ts) (d :: ds) τ = (asg t d τ >>= fun σ1 => asgs ts ds σ1) := nr rfl
theorem asg0 {τ : Env} : asgs [] [] τ = .ok τ := nr rfl
/-! ### loops -/
/-- turns that all go on -/
theorem forL_go {g : D → Env → Res Env} {f : Env → Out} : ∀ (items : List D) (P : Nat → Env → Prop) (σ : Env), P 0 σ → (∀ i d τ, items[i]? = some d → P i τ → ∃ τ1, g d τ = .ok τ1 ∧ ∃ τ2, (f τ1 = .nx τ2 ∨ f τ1 = .ct τ2) ∧ P (i + 1) τ2) →
    ∃ τ, forL g f items σ = .nx τ ∧ P items.length τ
  | [], P, σ, h, _ => ⟨σ, rfl, h⟩
  | d :: r, P, σ, h, st => by
    obtain ⟨τ1, e1, τ2, e2, h2⟩ := st 0 d σ rfl h
    obtain ⟨τ, e3, h3⟩ := forL_go r (fun i => P (i + 1)) τ2 h2 fun i d τ hi hp => st (i + 1) d τ hi hp
    refine ⟨τ, ?_, h3⟩
    unfold forL
    rw [e1]
    show (match f τ1 with
      | .nx σ2 => forL g f r σ2
      | .ct σ2 => forL g f r σ2
      | .bk σ2 => .nx σ2
      | o => o) = _
    rcases e2 with e2 | e2 <;> rw [e2] <;> exact e3
/-- .. or one ends all -/
theorem forL_end {g : D → Env → Res Env} {f : Env → Out} : ∀ (items : List D) (P : Nat → Env → Prop) (R : Out → Prop) (σ : Env), P 0 σ →
    (∀ i d τ, items[i]? = some d → P i τ → ∃ τ1, g d τ = .ok τ1 ∧ ((∃ τ2, (f τ1 = .nx τ2 ∨ f τ1 = .ct τ2) ∧ P (i + 1) τ2) ∨ (∃ d, f τ1 = .rt d ∧ R (.rt d)) ∨ ∃ τ2, f τ1 = .bk τ2 ∧ R (.nx τ2))) →
    (∀ τ, P items.length τ → R (.nx τ)) → R (forL g f items σ)
  | [], P, R, σ, h, _, hn => hn σ h
  | d :: r, P, R, σ, h, st, hn => by
    obtain ⟨τ1, e1, e2⟩ := st 0 d σ rfl h
    unfold forL
    rw [e1]
    show R (match f τ1 with
      | .nx σ2 => forL g f r σ2
      | .ct σ2 => forL g f r σ2
      | .bk σ2 => .nx σ2
      | o => o)
    rcases e2 with ⟨τ2, e2, h2⟩ | ⟨d, e2, h2⟩ | ⟨τ2, e2, h2⟩
    · have := forL_end r (fun i => P (i + 1)) R τ2 h2 (fun i d τ hi hp => st (i + 1) d τ hi hp) hn
      rcases e2 with e2 | e2 <;> rw [e2] <;> exact this
    · rw [e2]; exact h2
    · rw [e2]; exact h2
theorem whL_go {c : Env → Res D} {f : Env → Out} (P : Env → Prop) (R : Out → Prop) (m : Env → Nat) : ∀ (n : Nat) (σ : Env), m σ < n → P σ →
    (∀ τ, P τ → ∃ b, c τ = .ok (.bl b) ∧ (b = false → R (.nx τ)) ∧ (b = true → (∃ τ2, (f τ = .nx τ2 ∨ f τ = .ct τ2) ∧ P τ2 ∧ m τ2 < m τ) ∨ (∃ d, f τ = .rt d ∧ R (.rt d)) ∨ ∃ τ2, f τ = .bk τ2 ∧ R (.nx τ2))) → R (whL c f n σ)
  | 0, σ, h, _, _ => absurd h (Nat.not_lt_zero _)
  | n + 1, σ, h, hp, st => by
    obtain ⟨b, e, e0, e1⟩ := st σ hp
    unfold whL
    rw [e]
    show R (if b then (match f σ with
      | .nx σ2 => whL c f n σ2
      | .ct σ2 => whL c f n σ2
      | .bk σ2 => .nx σ2
      | o => o) else .nx σ)
    cases b with
    | false => exact e0 rfl
    | true =>
      rw [if_pos rfl]
      rcases e1 rfl with ⟨τ2, e2, h2, hm⟩ | ⟨d, e2, h2⟩ | ⟨τ2, e2, h2⟩
      · have := whL_go P R m n τ2 (by omega) h2 st
        rcases e2 with e2 | e2 <;> rw [e2] <;> exact this
      · rw [e2]; exact h2
      · rw [e2]; exact h2
/-- a comprehension over turns that all yield -/
theorem mapR_ok {f : D → Res (Option D)} {g : D → D} : ∀ {ds : List D}, (∀ d ∈ ds, f d = .ok (some (g d))) → mapR f ds = .ok (ds.map g)
  | [], _ => rfl
  | d :: r, h => by
    show (f d >>= fun o => mapR f r >>= fun ds => match o with
      | some x => .ok (x :: ds)
      | none => .ok ds) = _
    rw [h d List.mem_cons_self, mapR_ok fun d hd => h d (List.mem_cons_of_mem _ hd)]
    rfl
theorem mapR_if {f : D → Res (Option D)} {g : D → D} {p : D → Bool} : ∀ {ds : List D}, (∀ d ∈ ds, f d = .ok (if p d then some (g d) else none)) → mapR f ds = .ok ((ds.filter p).map g)
  | [], _ => rfl
  | d :: r, h => by
    show (f d >>= fun o => mapR f r >>= fun ds => match o with
      | some x => .ok (x :: ds)
      | none => .ok ds) = _
    rw [h d List.mem_cons_self, mapR_if fun d hd => h d (List.mem_cons_of_mem _ hd)]
    rw [List.filter_cons]
    cases p d <;> rfl
end PyI
namespace PyI
open PySem L2
/-- no slot holds a list of its own -/
def noO : Env → Bool
  | [] => true
  | none :: r => noO r
  | some (.v _) :: r => noO r
  | some (.o _) :: _ => false
theorem no_0 : noO [] = true := nr rfl
theorem no_n (r : Env) : noO (none :: r) = noO r := nr rfl
theorem no_v (d : D) (r : Env) : noO (some (.v d) :: r) = noO r := nr rfl
theorem noO_get : ∀ {σ : Env} {i : Nat} {xs : List D}, noO σ = true → σ[i]? ≠ some (some (.o xs))
  | [], i, xs, _, h => by cases h
  | none :: r, 0, xs, _, h => by cases h
  | none :: r, i + 1, xs, hn, h => noO_get (σ := r) (i := i) hn h
  | some (.v _) :: r, 0, xs, _, h => by cases h
  | some (.v _) :: r, i + 1, xs, hn, h => noO_get (σ := r) (i := i) hn h
  | some (.o _) :: _, _, _, hn, _ => by cases hn
theorem fz_noO {σ : Env} (h : noO σ = true) : ∀ L, freeze σ L = σ
  | [] => rfl
  | i :: r => by
    show (match (freeze σ r)[i]? with
      | some (some (.o xs)) => (freeze σ r).set i (some (.v (.lst xs)))
      | _ => freeze σ r) = σ
    rw [fz_noO h r]
    split
    · rename_i xs e
      exact absurd e (noO_get h)
    · rfl
theorem kp_noO {σ : Env} (h : noO σ = true) (d : D) (L : List Nat) : keepL σ d L = σ := by
  unfold keepL
  split
  · rfl
  · exact fz_noO h L
theorem wp_s {σ : Env} (i : Nat) (r : List Nat) : wipeD σ (i :: r) = (wipeD σ r).set i none := nr rfl
theorem wp_n {σ : Env} : wipeD σ [] = σ := nr rfl
theorem rng0 {m : Nat} (h : m ≤ 1000000000) : rngD 0 (m : Int) = .ok ((List.range m).map fun (i : Nat) => D.int i) := by
  rw [rng_ok (a := 0) (b := (m : Int)) ⟨by decide, by decide, by omega, by omega⟩]
  congr 1
  rw [show ((m : Int) - 0).toNat = m by omega]
  apply List.map_congr_left
  intro i _
  congr 1
  omega
theorem rngN {m k : Nat} (h : m ≤ 1000000000) (h2 : k ≤ 1000000000) : rngD (k : Int) (m : Int) = .ok ((List.range (m - k)).map fun (i : Nat) => D.int ((k + i : Nat) : Int)) := by
  rw [rng_ok (a := (k : Int)) (b := (m : Int)) ⟨by omega, by omega, by omega, by omega⟩]
  congr 1
  rw [show ((m : Int) - (k : Int)).toNat = m - k by omega]
  apply List.map_congr_left
  intro i _
  congr 1
theorem rg_get {m : Nat} {g : Nat → D} {i : Nat} {d : D} (h : ((List.range m).map g)[i]? = some d) : i < m ∧ d = g i := by
  rw [List.getElem?_map] at h
  cases e : (List.range m)[i]? with
  | none => rw [e] at h; cases h
  | some j =>
    rw [e] at h
    obtain ⟨h1, h2⟩ := List.getElem?_eq_some_iff.mp e
    rw [List.getElem_range] at h2
    subst h2
    cases h
    exact ⟨by simpa using h1, rfl⟩
theorem rg_len {m : Nat} {g : Nat → D} : ((List.range m).map g).length = m := by simp
section
variable {G : Str → Option D} {Φ : Str → List D → Res D} {fu : Nat} {σ : Env}
theorem comp_ok {elt : E} {tg : Tg} {src : Src} {own : List Nat} {items : List D} (hs : evS G Φ src σ = .ok items) (g : D → D) (h : ∀ d ∈ items, ∃ σ2, asg tg d (wipeD σ own) = .ok σ2 ∧ ev G Φ elt σ2 = .ok (g d)) (hl : items.length ≤ sizeLine) :
    ev G Φ (.comp elt tg src own) σ = .ok (.lst (items.map g)) := by
  rw [e_comp, hs]
  show (mapR _ items >>= fun ds => if ds.length ≤ sizeLine then Res.ok (D.lst ds) else .bad) = _
  rw [mapR_ok (g := g) fun d hd => by
    obtain ⟨σ2, h1, h2⟩ := h d hd
    rw [h1]
    show nox (ev G Φ elt σ2 >>= fun y => Res.ok (some y)) = _
    rw [h2]
    rfl]
  show (if (items.map g).length ≤ sizeLine then Res.ok (D.lst (items.map g)) else .bad) = _
  rw [List.length_map, if_pos hl]
theorem compIf_ok {elt c : E} {tg : Tg} {src : Src} {own : List Nat} {items : List D} (hs : evS G Φ src σ = .ok items) (g : D → D) (p : D → Bool) (h : ∀ d ∈ items, ∃ σ2, asg tg d (wipeD σ own) = .ok σ2 ∧ ev G Φ c σ2 = .ok (.bl (p d)) ∧ (p d = true → ev G Φ elt σ2 = .ok (g d))) (hl : items.length ≤ sizeLine) :
    ev G Φ (.compIf elt tg src c own) σ = .ok (.lst ((items.filter p).map g)) := by
  rw [e_compIf, hs]
  show (mapR _ items >>= fun ds => if ds.length ≤ sizeLine then Res.ok (D.lst ds) else .bad) = _
  rw [mapR_if (g := g) (p := p) fun d hd => by
    obtain ⟨σ2, h1, h2, h3⟩ := h d hd
    rw [h1]
    show nox (ev G Φ c σ2 >>= fun t => blD t >>= fun k => if k then ev G Φ elt σ2 >>= fun y => Res.ok (some y) else .ok none) = _
    rw [h2]
    show nox (if p d then ev G Φ elt σ2 >>= fun y => Res.ok (some y) else .ok none) = _
    cases q : p d with
    | true => rw [if_pos rfl, h3 q]; rfl
    | false => rfl]
  show (if ((items.filter p).map g).length ≤ sizeLine then Res.ok (D.lst ((items.filter p).map g)) else .bad) = _
  rw [List.length_map, if_pos (Nat.le_trans (List.length_filter_le _ _) hl)]
theorem comp_rng {elt : E} {tg : Tg} {src : Src} {own : List Nat} {m : Nat} {q : Nat → D} (hs : evS G Φ src σ = .ok ((List.range m).map q)) (g : Nat → D) (h : ∀ i, i < m → ∃ σ2, asg tg (q i) (wipeD σ own) = .ok σ2 ∧ ev G Φ elt σ2 = .ok (g i)) (hl : m ≤ sizeLine) :
    ev G Φ (.comp elt tg src own) σ = .ok (.lst ((List.range m).map g)) := by
  have key : ∀ l : List Nat, (∀ i ∈ l, i < m) → mapR (fun x => nox (asg tg x (wipeD σ own) >>= fun σ2 => ev G Φ elt σ2 >>= fun y => .ok (some y))) (l.map q) = .ok (l.map g) := by
    intro l
    induction l with
    | nil => intro _; rfl
    | cons i r ih =>
      intro hm
      obtain ⟨σ2, h1, h2⟩ := h i (hm i List.mem_cons_self)
      show (nox (asg tg (q i) (wipeD σ own) >>= fun σ2 => ev G Φ elt σ2 >>= fun y => Res.ok (some y)) >>= fun o => mapR _ (r.map q) >>= fun ds => match o with
        | some x => Res.ok (x :: ds)
        | none => .ok ds) = _
      rw [ih fun j hj => hm j (List.mem_cons_of_mem _ hj), h1]
      show (nox (ev G Φ elt σ2 >>= fun y => Res.ok (some y)) >>= fun o => _) = _
      rw [h2]
      rfl
  rw [e_comp, hs]
  show (mapR _ ((List.range m).map q) >>= fun ds => if ds.length ≤ sizeLine then Res.ok (D.lst ds) else .bad) = _
  rw [key _ fun i hi => List.mem_range.mp hi]
  show (if ((List.range m).map g).length ≤ sizeLine then Res.ok (D.lst ((List.range m).map g)) else .bad) = _
  rw [rg_len, if_pos hl]
end
theorem ixN_nat {n j : Nat} {i : Int} (h : i = j) (hj : j < n) : ixN n i = some j := by
  subst h
  unfold ixN
  rw [if_pos (by omega), if_pos (by omega), Int.toNat_natCast]
theorem nget {xs : List Nat} {j : Nat} (h : j < xs.length) : (xs.map nm)[j]? = some (.int (xs.getD j 0 : Nat)) := by
  rw [List.getElem?_map, List.getElem?_eq_getElem h, List.getD_eq_getElem?_getD, List.getElem?_eq_getElem h]
  rfl
theorem iget {xs : List Int} {j : Nat} (h : j < xs.length) : (xs.map D.int)[j]? = some (.int (xs.getD j 0)) := by
  rw [List.getElem?_map, List.getElem?_eq_getElem h, List.getD_eq_getElem?_getD, List.getElem?_eq_getElem h]
  rfl
theorem call_of {T : Tbl} {x : Str} {d : DDef} (h : findD T.defs x = some d) (n : Nat) (ds : List D) (hl : ds.length = d.ps.length) : T.prg.call (n + 1) x ds = fin (exL T.prg.G (T.prg.call n) T.prg.fu d.body (enter d.N.length ds)) := by
  show (match (findD T.defs x).map DDef.fn with
      | some fn => callB T.prg.G (T.prg.call n) T.prg.fu fn ds
      | none => .bad) = _
  rw [h]
  show (if ds.length = d.ps.length then _ else Res.bad) = _
  rw [if_pos hl]
  rfl
section
variable {G : Str → Option D} {Φ : Str → List D → Res D} {fu : Nat} {σ : Env}
theorem oke {α : Type} (c : Str) (vs : List D) (f : α → Out) : (Res.exc c vs : Res α).out f = .exc c vs := nr rfl
theorem okbe {α β : Type} (c : Str) (vs : List D) (f : α → Res β) : ((Res.exc c vs : Res α) >>= f) = .exc c vs := nr rfl
theorem x_raise (c : Str) (es : Es) : exS G Φ fu (.raise c es) σ = (evs G Φ es σ).out fun ds => .exc c ds := nr rfl
theorem x_tr (b : Ss) (c : Str) (i : Option Nat) (xs : List (Str × List Str)) (h : Hn) : exS G Φ fu (.tr b c i xs h) σ = trO xs c h (exL G Φ fu b σ) := nr rfl
theorem tr_nx (xs : List (Str × List Str)) (c : Str) (h : Hn) (σ : Env) : trO xs c h (.nx σ) = .nx σ := nr rfl
theorem tr_rt (xs : List (Str × List Str)) (c : Str) (h : Hn) (d : D) : trO xs c h (.rt d) = .rt d := nr rfl
theorem e_comp2 (elt : E) (tg : Tg) (src : Src) (tg1 : Tg) (src1 : Src) (own vs1 : List Nat) : ev G Φ (.comp2 elt tg src tg1 src1 own vs1) σ = (evS G Φ src σ >>= fun items => flatR (fun x => nox (asg tg x (wipeD σ own) >>= fun σ2 => evS G Φ src1 σ2 >>= fun items1 => mapR (fun x1 => nox (asg tg1 x1 (wipeD σ2 vs1) >>= fun σ3 => ev G Φ elt σ3 >>= fun y => .ok (some y))) items1)) items >>= fun ds => if ds.length ≤ sizeLine then .ok (.lst ds) else .bad) := nr rfl
theorem sE_comp2 (i : Nat) (a : E) (tg : Tg) (s : Src) (tg1 : Tg) (s1 : Src) (o o1 : List Nat) (ds : List D) : setE σ i (.comp2 a tg s tg1 s1 o o1) (.lst ds) = if i < σ.length then .ok ((freeze σ (lt a ++ li a)).set i (some (.o ds))) else .bad := nr rfl
theorem flatR_ok {f : D → Res (List D)} {g : D → List D} : ∀ {ds : List D}, (∀ d ∈ ds, f d = .ok (g d)) → flatR f ds = .ok (ds.flatMap g)
  | [], _ => rfl
  | d :: r, h => by
    show (f d >>= fun xs => flatR f r >>= fun ds => .ok (xs ++ ds)) = _
    rw [h d List.mem_cons_self, flatR_ok fun d hd => h d (List.mem_cons_of_mem _ hd)]
    rfl
theorem comp2_ok {elt : E} {tg tg1 : Tg} {src src1 : Src} {own vs1 : List Nat} {items : List D} (hs : evS G Φ src σ = .ok items) (I : D → List D) (g : D → D → D)
    (h : ∀ d ∈ items, ∃ σ2, asg tg d (wipeD σ own) = .ok σ2 ∧ evS G Φ src1 σ2 = .ok (I d) ∧ ∀ e ∈ I d, ∃ σ3, asg tg1 e (wipeD σ2 vs1) = .ok σ3 ∧ ev G Φ elt σ3 = .ok (g d e)) (hl : (items.flatMap fun d => (I d).map (g d)).length ≤ sizeLine) :
    ev G Φ (.comp2 elt tg src tg1 src1 own vs1) σ = .ok (.lst (items.flatMap fun d => (I d).map (g d))) := by
  rw [e_comp2, hs]
  show (flatR _ items >>= fun ds => if ds.length ≤ sizeLine then Res.ok (D.lst ds) else .bad) = _
  rw [flatR_ok (g := fun d => (I d).map (g d)) fun d hd => by
    obtain ⟨σ2, h1, h2, h3⟩ := h d hd
    rw [h1]
    show nox (evS G Φ src1 σ2 >>= fun items1 => _) = _
    rw [h2]
    show nox (mapR _ (I d)) = _
    rw [mapR_ok (g := g d) fun e he => by
      obtain ⟨σ3, k1, k2⟩ := h3 e he
      rw [k1]
      show nox (ev G Φ elt σ3 >>= fun y => Res.ok (some y)) = _
      rw [k2]
      rfl]
    rfl]
  show (if _ then _ else _) = _
  rw [if_pos hl]
/-- a slot that holds no list of its own -/
theorem fz1 {i : Nat} (h : ∀ xs, σ[i]? ≠ some (some (.o xs))) : freeze σ [i] = σ := by
  show (match σ[i]? with
    | some (some (.o xs)) => σ.set i (some (.v (.lst xs)))
    | _ => σ) = σ
  split
  · rename_i xs e
    exact absurd e (h xs)
  · rfl
theorem fz1o {i : Nat} {xs : List D} (h : σ[i]? = some (some (.o xs))) : freeze σ [i] = σ.set i (some (.v (.lst xs))) := by
  show (match σ[i]? with
    | some (some (.o xs)) => σ.set i (some (.v (.lst xs)))
    | _ => σ) = _
  rw [h]
/-- turns that fold -/
theorem forL_fold {α β γ : Type} {g : D → Env → Res Env} {f : Env → Out} (toD : α → D) (S : β → γ → Env) (step : β → α → β) (I : List α → β → Prop)
    (h : ∀ x r b l, I (x :: r) b → ∃ l' τ1, g (toD x) (S b l) = .ok τ1 ∧ (f τ1 = .nx (S (step b x) l') ∨ f τ1 = .ct (S (step b x) l')) ∧ I r (step b x)) : ∀ (items : List α) (b : β) (l : γ), I items b → ∃ l', forL g f (items.map toD) (S b l) = .nx (S (items.foldl step b) l') ∧ I [] (items.foldl step b)
  | [], b, l, hi => ⟨l, rfl, hi⟩
  | x :: r, b, l, hi => by
    obtain ⟨l1, τ1, e1, e2, h2⟩ := h x r b l hi
    obtain ⟨l2, e3, h3⟩ := forL_fold toD S step I h r (step b x) l1 h2
    refine ⟨l2, ?_, h3⟩
    show (g (toD x) (S b l)).out (fun σ1 => match f σ1 with
      | .nx σ2 => forL g f (r.map toD) σ2
      | .ct σ2 => forL g f (r.map toD) σ2
      | .bk σ2 => .nx σ2
      | o => o) = _
    rw [e1]
    rcases e2 with e2 | e2
    · show (match f τ1 with
        | .nx σ2 => forL g f (r.map toD) σ2
        | .ct σ2 => forL g f (r.map toD) σ2
        | .bk σ2 => .nx σ2
        | o => o) = _
      rw [e2]; exact e3
    · show (match f τ1 with
        | .nx σ2 => forL g f (r.map toD) σ2
        | .ct σ2 => forL g f (r.map toD) σ2
        | .bk σ2 => .nx σ2
        | o => o) = _
      rw [e2]; exact e3
end
/-- one slot frozen -/
def frz : Env → Nat → Env
  | [], _ => []
  | some (.o xs) :: l, 0 => some (.v (.lst xs)) :: l
  | a :: l, 0 => a :: l
  | a :: l, n + 1 => a :: frz l n
theorem frz_ok : ∀ (σ : Env) (i : Nat), (match σ[i]? with
    | some (some (.o xs)) => σ.set i (some (.v (.lst xs)))
    | _ => σ) = frz σ i
  | [], _ => rfl
  | none :: l, 0 => rfl
  | some (.v _) :: l, 0 => rfl
  | some (.o _) :: l, 0 => rfl
  | a :: l, n + 1 => by
    have e : frz (a :: l) (n + 1) = a :: frz l n := by cases a with | none => rfl | some c => cases c <;> rfl
    rw [e, ← frz_ok l n]
    show (match l[n]? with
      | some (some (.o xs)) => a :: l.set n (some (.v (.lst xs)))
      | _ => a :: l) = a :: (match l[n]? with
      | some (some (.o xs)) => l.set n (some (.v (.lst xs)))
      | _ => l)
    cases l[n]? with
    | none => rfl
    | some o => cases o with
      | none => rfl
      | some c => cases c <;> rfl
theorem fz_c (σ : Env) (i : Nat) (r : List Nat) : freeze σ (i :: r) = frz (freeze σ r) i := frz_ok _ _
theorem fr_o (xs : List D) (l : Env) : frz (some (.o xs) :: l) 0 = some (.v (.lst xs)) :: l := nr rfl
theorem fr_v (d : D) (l : Env) : frz (some (.v d) :: l) 0 = some (.v d) :: l := nr rfl
theorem fr_n (l : Env) : frz (none :: l) 0 = none :: l := nr rfl
theorem fr_s (a : Option C) (l : Env) (n : Nat) : frz (a :: l) (n + 1) = a :: frz l n := by
  cases a with
  | none => rfl
  | some c => cases c <;> rfl
theorem kp_lst (σ : Env) (xs : List D) (L : List Nat) : keepL σ (.lst xs) L = freeze σ L := nr rfl
theorem ls_d (xs : List D) : lstD (.lst xs) = .ok xs := nr rfl
/-- a slot that may hold something -/
theorem fr_j (j : Option D) (l : Env) : frz (j.map C.v :: l) 0 = j.map C.v :: l := by cases j <;> rfl
/-- a slot with a list, its own or not -/
def rsl (b : Bool) (rows : List D) : Option C := if b then some (.o rows) else some (.v (.lst rows))
theorem g_rsl (b : Bool) (rows : List D) (l : Env) : getV (rsl b rows :: l) 0 = .ok (.lst rows) := by cases b <;> rfl
theorem fr_rsl (b : Bool) (rows : List D) (l : Env) : frz (rsl b rows :: l) 0 = some (.v (.lst rows)) :: l := by cases b <;> rfl
theorem kp_fz {σ : Env} {L : List Nat} (d : D) (h : freeze σ L = σ) : keepL σ d L = σ := by
  unfold keepL
  split
  · rfl
  · exact h
theorem ltk_int (i : Int) : lt (.int i) = [] := nr rfl
theorem ltk_str (i : Str) : lt (.str i) = [] := nr rfl
theorem ltk_bl (i : Bool) : lt (.bl i) = [] := nr rfl
theorem ltk_non  : lt (.non ) = [] := nr rfl
theorem ltk_glob (i : Str) : lt (.glob i) = [] := nr rfl
theorem ltk_op (o : Op) (a b : E) : lt (.op o a b) = [] := nr rfl
theorem ltk_neg (a : E) : lt (.neg a) = [] := nr rfl
theorem ltk_not (a : E) : lt (.not a) = [] := nr rfl
theorem ltk_cmp (c : Cm) (a b : E) : lt (.cmp c a b) = [] := nr rfl
theorem ltk_chain (c c1 : Cm) (a b d : E) : lt (.chain c c1 a b d) = [] := nr rfl
theorem ltk_sl (a : E) (l h : Op1) : lt (.sl a l h) = [] := nr rfl
theorem ltk_tup (es : Es) : lt (.tup es) = [] := nr rfl
theorem ltk_lst (es : Es) : lt (.lst es) = [] := nr rfl
theorem ltk_bi (b : Bi) (es : Es) : lt (.bi b es) = [] := nr rfl
theorem ltk_isi (a : E) (t : String) : lt (.isi a t) = [] := nr rfl
theorem ltk_comp (a : E) (tg : Tg) (s : Src) (o : List Nat) : lt (.comp a tg s o) = [] := nr rfl
theorem ltk_compIf (a : E) (tg : Tg) (s : Src) (d : E) (o : List Nat) : lt (.compIf a tg s d o) = [] := nr rfl
theorem ltk_comp2 (a : E) (tg : Tg) (s : Src) (tg1 : Tg) (s1 : Src) (o o1 : List Nat) : lt (.comp2 a tg s tg1 s1 o o1) = [] := nr rfl
theorem lik_var (i : Nat) : li (.var i) = [] := nr rfl
theorem lik_int (i : Int) : li (.int i) = [] := nr rfl
theorem lik_str (i : Str) : li (.str i) = [] := nr rfl
theorem lik_bl (i : Bool) : li (.bl i) = [] := nr rfl
theorem lik_non  : li (.non ) = [] := nr rfl
theorem lik_glob (i : Str) : li (.glob i) = [] := nr rfl
theorem lik_neg (a : E) : li (.neg a) = [] := nr rfl
theorem lik_not (a : E) : li (.not a) = [] := nr rfl
theorem lik_cmp (c : Cm) (a b : E) : li (.cmp c a b) = [] := nr rfl
theorem lik_chain (c c1 : Cm) (a b d : E) : li (.chain c c1 a b d) = [] := nr rfl
theorem lik_isi (a : E) (t : String) : li (.isi a t) = [] := nr rfl
theorem e_find {G : Str → Option D} {Φ : Str → List D → Res D} {σ : Env} (a b : E) : ev G Φ (.find a b) σ = (ev G Φ a σ >>= fun x => strD x >>= fun s => ev G Φ b σ >>= fun y => strD y >>= fun t => .ok (.int (Txt.find s t))) := nr rfl
theorem sd_s (x : Str) : strD (.str x) = .ok x := nr rfl
theorem e_dget {G : Str → Option D} {Φ : Str → List D → Res D} {σ : Env} (x : Str) (kvs : List (Str × Int)) (a b : E) : ev G Φ (.dget x kvs a b) σ = (ev G Φ a σ >>= fun x => ev G Φ b σ >>= fun y => getK kvs x y) := nr rfl
theorem ltk_dget (x : Str) (kvs : List (Str × Int)) (a b : E) : lt (.dget x kvs a b) = [] := nr rfl
theorem lik_dget (x : Str) (kvs : List (Str × Int)) (a b : E) : li (.dget x kvs a b) = [] := nr rfl
theorem gK_s (kvs : List (Str × Int)) (z : Str) (j : Int) : getK kvs (.str z) (.int j) = .ok (.int ((kvs.lookup z).getD j)) := nr rfl
theorem ltk_find (a b : E) : lt (.find a b) = [] := nr rfl
theorem lik_find (a b : E) : li (.find a b) = [] := nr rfl
theorem sE_str (σ : Env) (i : Nat) (e : E) (x : Str) : setE σ i e (.str x) = if i < σ.length then .ok (σ.set i (some (.v (.str x)))) else .bad := by
  unfold setE
  cases fresh e <;> rfl
theorem c_eqS (x y : Str) : cmD .eq (.str x) (.str y) = .ok (.bl (decide (x = y))) := nr rfl
theorem e_me {G : Str → Option D} {Φ : Str → List D → Res D} {σ : Env} (m : Me) (a : E) (es : Es) : ev G Φ (.me m a es) σ = (ev G Φ a σ >>= fun x => meT m x >>= fun _ => evs G Φ es σ >>= fun ds => meD m x ds) := nr rfl
theorem e_fs {G : Str → Option D} {Φ : Str → List D → Res D} {σ : Env} (es : Es) : ev G Φ (.fs es) σ = (evf G Φ es Str.empty σ >>= fun out => .ok (.str out)) := nr rfl
theorem ef_nil {G : Str → Option D} {Φ : Str → List D → Res D} {σ : Env} (acc : Str) : evf G Φ .nil acc σ = .ok acc := nr rfl
theorem ef_cons {G : Str → Option D} {Φ : Str → List D → Res D} {σ : Env} (acc : Str) (e : E) (r : Es) : evf G Φ (.cons e r) acc σ = (ev G Φ e σ >>= fun d => fmtD d >>= fun y => if (acc ++ y).length ≤ sizeLine then evf G Φ r (acc ++ y) σ else .bad) := nr rfl
theorem x_setL {G : Str → Option D} {Φ : Str → List D → Res D} {fu : Nat} {σ : Env} (ts : List Tg) (e : E) : exS G Φ fu (.setL ts e) σ = (ev G Φ e σ).out fun d => (lstD d).out fun ds => (asgs ts ds (keepL σ d (lt e ++ li e))).out fun σ1 => .nx σ1 := nr rfl
theorem x_ins {G : Str → Option D} {Φ : Str → List D → Res D} {fu : Nat} {σ : Env} (i : Nat) (k e : E) : exS G Φ fu (.ins i k e) σ = (ownL σ i).out fun _ => (ev G Φ k σ >>= intD).out fun n => (ev G Φ e σ).out fun d => (ownL (keepL σ d (lt e ++ li e)) i).out fun xs => if xs.length < sizeLine ∧ 0 ≤ n ∧ n < 2 ^ 63 then .nx ((keepL σ d (lt e ++ li e)).set i (some (.o (xs.take n.toNat ++ [d] ++ xs.drop n.toNat)))) else .bad := nr rfl
theorem ltk_me (m : Me) (a : E) (es : Es) : lt (.me m a es) = [] := nr rfl
theorem lik_me (m : Me) (a : E) (es : Es) : li (.me m a es) = [] := nr rfl
theorem ltk_fs (es : Es) : lt (.fs es) = [] := nr rfl
theorem lik_fs (es : Es) : li (.fs es) = [] := nr rfl
theorem mT_u (x : Str) : meT .upper (.str x) = .ok () := nr rfl
theorem mT_j (x : Str) : meT .join (.str x) = .ok () := nr rfl
theorem mT_s (x : Str) : meT .split (.str x) = .ok () := nr rfl
theorem mT_i (xs : List D) : meT .index (.lst xs) = .ok () := nr rfl
theorem mT_c (xs : List D) : meT .count (.lst xs) = .ok () := nr rfl
theorem mD_c {xs : List D} {d : D} (h : (xs.all D.flat && d.flat) = true) : meD .count (.lst xs) [d] = .ok (.int (xs.countP fun z => z.eqv d : Nat)) := if_pos h
theorem ld_l (xs : List D) : lstD (.lst xs) = .ok xs := nr rfl
theorem sE_me (σ : Env) (i : Nat) (m : Me) (a : E) (es : Es) (ds : List D) : setE σ i (.me m a es) (.lst ds) = if i < σ.length then .ok (σ.set i (some (.v (.lst ds)))) else .bad := nr rfl
theorem e_par {G : Str → Option D} {Φ : Str → List D → Res D} {σ : Env} (i : Nat) : ev G Φ (.par i) σ = getP σ i := nr rfl
theorem gp_z (d : D) (l : Env) : getP (some (.v d) :: l) 0 = .ok d := nr rfl
theorem gp_s (a : Option C) (l : Env) (n : Nat) : getP (a :: l) (n + 1) = getP l n := nr rfl
theorem ltk_par (i : Nat) : lt (.par i) = [] := nr rfl
theorem lik_par (i : Nat) : li (.par i) = [] := nr rfl
theorem e_callF {G : Str → Option D} {Φ : Str → List D → Res D} {σ : Env} (f : Str) (es : Es) : ev G Φ (.callF f es) σ = (evs G Φ es σ >>= fun ds => Φ f ds) := nr rfl
theorem x_retO {G : Str → Option D} {Φ : Str → List D → Res D} {fu : Nat} {σ : Env} (i : Nat) : exS G Φ fu (.retO i) σ = (ownL σ i).out fun xs => .rt (.lst xs) := nr rfl
theorem sE_callF (σ : Env) (i : Nat) (f : Str) (es : Es) (ds : List D) : setE σ i (.callF f es) (.lst ds) = if i < σ.length then .ok ((freeze σ (las es)).set i (some (.o ds))) else .bad := nr rfl
end PyI
local macro_rules | `(tactic| simp? [$ls,*]) => `(tactic| simp only [PyI.e_var, PyI.e_int, PyI.e_str, PyI.e_bl, PyI.e_non, PyI.e_glob, PyI.e_op, PyI.e_neg, PyI.e_not, PyI.e_and, PyI.e_or, PyI.e_cmp, PyI.e_chain, PyI.e_ife, PyI.e_ix, PyI.e_sl, PyI.e_tup, PyI.e_lst, PyI.e_call, PyI.e_bi, PyI.e_isi, PyI.es_nil, PyI.es_cons, PyI.eo_no, PyI.eo_so, PyI.eS_seq, PyI.eS_rng1, PyI.eS_rng2, PyI.eS_enum, PyI.eS_zip, PyI.x_set, PyI.x_setT, PyI.x_setIx, PyI.x_aug, PyI.x_app, PyI.x_ext, PyI.x_exp, PyI.x_ret, PyI.x_retN, PyI.x_ife, PyI.x_fr, PyI.x_wh, PyI.x_brk, PyI.x_cont, PyI.x_pass, PyI.xs_nil, PyI.xs_cons, PyI.at_nx, PyI.at_rt, PyI.at_bk, PyI.at_ct, PyI.at_exc, PyI.oke, PyI.okbe, PyI.x_raise, PyI.x_tr, PyI.tr_nx, PyI.tr_rt, PyI.fin_exc, PyI.sE_comp2, PyI.fin_rt, PyI.fin_nx, PyI.g_zv, PyI.g_zo, PyI.g_s, PyI.o_z, PyI.o_s, PyI.st_z, PyI.st_s, PyI.kp_int, PyI.kp_non, PyI.kp_bl, PyI.kp_str, PyI.kp_nil, PyI.kp_noO, PyI.kp_fz, List.cons_append, PyI.sE_str, PyI.c_eqS, PyI.e_find, PyI.e_callF, PyI.x_retO, PyI.sE_callF, PyI.e_par, PyI.gp_z, PyI.gp_s, PyI.ltk_par, PyI.lik_par, PyI.sd_s, PyI.e_me, PyI.e_fs, PyI.ef_nil, PyI.ef_cons, PyI.x_setL, PyI.x_ins, PyI.ltk_me, PyI.lik_me, PyI.ltk_fs, PyI.lik_fs, PyI.mT_u, PyI.mT_j, PyI.mT_s, PyI.mT_i, PyI.mT_c, PyI.ld_l, PyI.sE_me, PyI.ltk_find, PyI.lik_find, PyI.ltk_int, PyI.ltk_str, PyI.ltk_bl, PyI.ltk_non, PyI.ltk_glob, PyI.ltk_op, PyI.ltk_neg, PyI.ltk_not, PyI.ltk_cmp, PyI.ltk_chain, PyI.ltk_sl, PyI.ltk_tup, PyI.ltk_lst, PyI.ltk_bi, PyI.ltk_isi, PyI.ltk_comp, PyI.ltk_compIf, PyI.ltk_comp2, PyI.lik_var, PyI.lik_int, PyI.lik_str, PyI.lik_bl, PyI.lik_non, PyI.lik_glob, PyI.lik_neg, PyI.lik_not, PyI.lik_cmp, PyI.lik_chain, PyI.lik_isi, PyI.fz_noO, PyI.ls_d, PyI.fr_j, PyI.g_rsl, PyI.fr_rsl, PyI.fz_c, PyI.fr_o, PyI.fr_v, PyI.fr_n, PyI.fr_s, PyI.kp_lst, PyI.no_0, PyI.no_n, PyI.no_v, PyI.fz_nil, PyI.e_dget, PyI.ltk_dget, PyI.lik_dget, PyI.gK_s, PyI.lS1, PyI.lS2, PyI.sE_i, PyI.sE_lst, PyI.sE_comp, PyI.sE_compIf, PyI.sE_opl, PyI.sE_sl, PyI.sE_list, PyI.sE_sorted, PyI.sE_var, PyI.sE_ix, PyI.sE_call, PyI.sE_non, PyI.sE_blv, PyI.sE_tp, PyI.lt, PyI.li, PyI.las, PyI.lis, PyI.ltS, PyI.liS, List.append_nil, List.nil_append, PyI.ad_int, PyI.sb_int, PyI.c_lt, PyI.c_le, PyI.c_gt, PyI.c_ge, PyI.c_eq, PyI.c_ne, PyI.c_is, PyI.c_no, PyI.isN, PyI.bl_bl, PyI.in_in, PyI.b_len, PyI.b_lenT, PyI.b_lenS, PyI.b_int, PyI.b_abs, PyI.b_tupL, PyI.b_tupT, PyI.b_lstT, PyI.b_lstL, PyI.ixT0, PyI.ixT1, PyI.ixT2, PyI.ixT3, PyI.is_n_int, PyI.is_n_bool, PyI.is_n_str, PyI.is_n_tuple, PyI.is_n_list, PyI.is_b_int, PyI.is_b_bool, PyI.is_b_str, PyI.is_b_tuple, PyI.is_b_list, PyI.is_i_int, PyI.is_i_bool, PyI.is_i_str, PyI.is_i_tuple, PyI.is_i_list, PyI.is_s_int, PyI.is_s_bool, PyI.is_s_str, PyI.is_s_tuple, PyI.is_s_list, PyI.is_t_int, PyI.is_t_bool, PyI.is_t_str, PyI.is_t_tuple, PyI.is_t_list, PyI.is_l_int, PyI.is_l_bool, PyI.is_l_str, PyI.is_l_tuple, PyI.is_l_list, PyI.itemsD, PyI.wp_s, PyI.wp_n, PyI.asg1, PyI.asgT, PyI.asgN, PyI.asg0, PyI.okb, PyI.oko, PyI.noxo, List.length_cons, List.length_nil, Nat.reduceAdd, Nat.reduceLT, if_true, if_false, Bool.false_eq_true, Bool.true_eq_false, Bool.not_true, Bool.not_false, decide_true, decide_false, reduceIte, $ls,*])
local macro_rules | `(tactic| simp? [$ls,*] $l:location) => `(tactic| simp only [PyI.e_var, PyI.e_int, PyI.e_str, PyI.e_bl, PyI.e_non, PyI.e_glob, PyI.e_op, PyI.e_neg, PyI.e_not, PyI.e_and, PyI.e_or, PyI.e_cmp, PyI.e_chain, PyI.e_ife, PyI.e_ix, PyI.e_sl, PyI.e_tup, PyI.e_lst, PyI.e_call, PyI.e_bi, PyI.e_isi, PyI.es_nil, PyI.es_cons, PyI.eo_no, PyI.eo_so, PyI.eS_seq, PyI.eS_rng1, PyI.eS_rng2, PyI.eS_enum, PyI.eS_zip, PyI.x_set, PyI.x_setT, PyI.x_setIx, PyI.x_aug, PyI.x_app, PyI.x_ext, PyI.x_exp, PyI.x_ret, PyI.x_retN, PyI.x_ife, PyI.x_fr, PyI.x_wh, PyI.x_brk, PyI.x_cont, PyI.x_pass, PyI.xs_nil, PyI.xs_cons, PyI.at_nx, PyI.at_rt, PyI.at_bk, PyI.at_ct, PyI.at_exc, PyI.oke, PyI.okbe, PyI.x_raise, PyI.x_tr, PyI.tr_nx, PyI.tr_rt, PyI.fin_exc, PyI.sE_comp2, PyI.fin_rt, PyI.fin_nx, PyI.g_zv, PyI.g_zo, PyI.g_s, PyI.o_z, PyI.o_s, PyI.st_z, PyI.st_s, PyI.kp_int, PyI.kp_non, PyI.kp_bl, PyI.kp_str, PyI.kp_nil, PyI.kp_noO, PyI.kp_fz, List.cons_append, PyI.sE_str, PyI.c_eqS, PyI.e_find, PyI.e_callF, PyI.x_retO, PyI.sE_callF, PyI.e_par, PyI.gp_z, PyI.gp_s, PyI.ltk_par, PyI.lik_par, PyI.sd_s, PyI.e_me, PyI.e_fs, PyI.ef_nil, PyI.ef_cons, PyI.x_setL, PyI.x_ins, PyI.ltk_me, PyI.lik_me, PyI.ltk_fs, PyI.lik_fs, PyI.mT_u, PyI.mT_j, PyI.mT_s, PyI.mT_i, PyI.mT_c, PyI.ld_l, PyI.sE_me, PyI.ltk_find, PyI.lik_find, PyI.ltk_int, PyI.ltk_str, PyI.ltk_bl, PyI.ltk_non, PyI.ltk_glob, PyI.ltk_op, PyI.ltk_neg, PyI.ltk_not, PyI.ltk_cmp, PyI.ltk_chain, PyI.ltk_sl, PyI.ltk_tup, PyI.ltk_lst, PyI.ltk_bi, PyI.ltk_isi, PyI.ltk_comp, PyI.ltk_compIf, PyI.ltk_comp2, PyI.lik_var, PyI.lik_int, PyI.lik_str, PyI.lik_bl, PyI.lik_non, PyI.lik_glob, PyI.lik_neg, PyI.lik_not, PyI.lik_cmp, PyI.lik_chain, PyI.lik_isi, PyI.fz_noO, PyI.ls_d, PyI.fr_j, PyI.g_rsl, PyI.fr_rsl, PyI.fz_c, PyI.fr_o, PyI.fr_v, PyI.fr_n, PyI.fr_s, PyI.kp_lst, PyI.no_0, PyI.no_n, PyI.no_v, PyI.fz_nil, PyI.e_dget, PyI.ltk_dget, PyI.lik_dget, PyI.gK_s, PyI.lS1, PyI.lS2, PyI.sE_i, PyI.sE_lst, PyI.sE_comp, PyI.sE_compIf, PyI.sE_opl, PyI.sE_sl, PyI.sE_list, PyI.sE_sorted, PyI.sE_var, PyI.sE_ix, PyI.sE_call, PyI.sE_non, PyI.sE_blv, PyI.sE_tp, PyI.lt, PyI.li, PyI.las, PyI.lis, PyI.ltS, PyI.liS, List.append_nil, List.nil_append, PyI.ad_int, PyI.sb_int, PyI.c_lt, PyI.c_le, PyI.c_gt, PyI.c_ge, PyI.c_eq, PyI.c_ne, PyI.c_is, PyI.c_no, PyI.isN, PyI.bl_bl, PyI.in_in, PyI.b_len, PyI.b_lenT, PyI.b_lenS, PyI.b_int, PyI.b_abs, PyI.b_tupL, PyI.b_tupT, PyI.b_lstT, PyI.b_lstL, PyI.ixT0, PyI.ixT1, PyI.ixT2, PyI.ixT3, PyI.is_n_int, PyI.is_n_bool, PyI.is_n_str, PyI.is_n_tuple, PyI.is_n_list, PyI.is_b_int, PyI.is_b_bool, PyI.is_b_str, PyI.is_b_tuple, PyI.is_b_list, PyI.is_i_int, PyI.is_i_bool, PyI.is_i_str, PyI.is_i_tuple, PyI.is_i_list, PyI.is_s_int, PyI.is_s_bool, PyI.is_s_str, PyI.is_s_tuple, PyI.is_s_list, PyI.is_t_int, PyI.is_t_bool, PyI.is_t_str, PyI.is_t_tuple, PyI.is_t_list, PyI.is_l_int, PyI.is_l_bool, PyI.is_l_str, PyI.is_l_tuple, PyI.is_l_list, PyI.itemsD, PyI.wp_s, PyI.wp_n, PyI.asg1, PyI.asgT, PyI.asgN, PyI.asg0, PyI.okb, PyI.oko, PyI.noxo, List.length_cons, List.length_nil, Nat.reduceAdd, Nat.reduceLT, if_true, if_false, Bool.false_eq_true, Bool.true_eq_false, Bool.not_true, Bool.not_false, decide_true, decide_false, reduceIte, $ls,*] $l)
/-! PyL, part 1: defs that many laws share. -/
namespace PyI
open PySem L2
def l_numbers : Ss := (.cons (.ife (.and (.cmp .ge (.var 3) (.op .pow (.int 10) (.int 18))) (.cmp .gt (.var 4) (.int 0))) (.cons (.app 6 (.op .mod (.bi .int (.cons (.var 4) .nil)) (.int 1000))) (.cons (.set 4 (.op .fdiv (.var 4) (.int 1000))) .nil)) (.cons (.set 5 (.op .mod (.bi .int (.cons (.op .add (.op .add (.op .add (.op .mul (.var 5) (.int 48271)) (.op .mul (.int 69621) (.var 7))) (.op .mul (.int 40692) (.var 1))) (.int 12345)) .nil)) (.int 2147483647))) (.cons (.app 6 (.op .mod (.op .fdiv (.op .mod (.bi .int (.cons (.op .mul (.var 5) (.var 5)) .nil)) (.int 2147483629)) (.int 211)) (.int 1000))) .nil))) .nil)
def b_numbers : Ss :=
    .cons (.set 3 (.op .add (.op .mul (.int 7) (.var 1)) (.bi .len (.cons (.var 0) .nil)))) <|
    .cons (.ife (.cmp .lt (.var 1) (.bi .len (.cons (.var 0) .nil))) (.cons (.set 3 (.ix (.var 0) (.var 1))) .nil) (.nil)) <|
    .cons (.set 4 (.var 3)) <|
    .cons (.set 5 (.op .mod (.bi .int (.cons (.var 3) .nil)) (.int 2147483647))) <|
    .cons (.set 6 (.lst (.nil))) <|
    .cons (.fr (.nm 7) (.rng1 (.var 2)) l_numbers) <|
    .cons (.ret (.var 6)) .nil
theorem mulS {i j : Int} (h : -1000000000000000000 < j ∧ j < 1000000000000000000) : mulOk i j := .inl (.inr ⟨by omega, by omega⟩)
theorem mulS' {i j : Int} (h : -1000000000000000000 < i ∧ i < 1000000000000000000) : mulOk i j := .inl (.inl ⟨by omega, by omega⟩)
theorem small6 {n : Nat} (h : n ≤ 1000000) : n < sizeLine := Nat.lt_of_le_of_lt h (by decide)
theorem rng_get {a b : Int} {i : Nat} {d : D} (h : ((List.range (b - a).toNat).map fun (i : Nat) => D.int (a + i))[i]? = some d) : i < (b - a).toNat ∧ d = .int (a + i) := by
  rw [List.getElem?_map] at h
  cases e : (List.range (b - a).toNat)[i]? with
  | none => rw [e] at h; cases h
  | some j =>
    rw [e] at h
    obtain ⟨h1, h2⟩ := List.getElem?_eq_some_iff.mp e
    rw [List.getElem_range] at h2
    subst h2
    cases h
    exact ⟨by simpa using h1, rfl⟩
theorem rng_len {a b : Int} : ((List.range (b - a).toNat).map fun (i : Nat) => D.int (a + i)).length = (b - a).toNat := by simp
theorem numbers_run {G : Str → Option D} {Φ : Str → List D → Res D} {fu : Nat} (ns : List Int) (k many : Nat) (hk : k ≤ 1000000) (hm : many ≤ 1000000) : ∃ xs : List Nat,
    fin (exL G Φ fu b_numbers [some (.v (.scr ns)), some (.v (.int k)), some (.v (.int many)), none, none, none, none, none]) = .ok (.lst (xs.map nm)) ∧ xs.length = many ∧ ∀ x ∈ xs, x < 1000 := by
  unfold b_numbers
  have rest : ∀ cell : Int, ∃ xs : List Nat, fin (exL G Φ fu (.cons (.set 4 (.var 3)) <|
    .cons (.set 5 (.op .mod (.bi .int (.cons (.var 3) .nil)) (.int 2147483647))) <|
    .cons (.set 6 (.lst (.nil))) <|
    .cons (.fr (.nm 7) (.rng1 (.var 2)) l_numbers) <|
    .cons (.ret (.var 6)) .nil) [some (.v (.scr ns)), some (.v (.int k)), some (.v (.int many)), some (.v (.int cell)), none, none, none, none]) = .ok (.lst (xs.map nm)) ∧ xs.length = many ∧ ∀ x ∈ xs, x < 1000 := by
    intro cell
    let P : Nat → Env → Prop := fun i τ => ∃ (left mixed : Int) (xs : List Nat) (last : Option C), τ = [some (.v (.scr ns)), some (.v (.int k)), some (.v (.int many)), some (.v (.int cell)), some (.v (.int left)), some (.v (.int mixed)), some (.o (xs.map nm)), last] ∧ xs.length = i ∧ (∀ x ∈ xs, x < 1000) ∧ 0 ≤ mixed ∧ mixed < 2147483647
    have step : ∀ (i : Nat) (d : D) (τ : Env), ((List.range ((many : Int) - 0).toNat).map fun (i : Nat) => D.int (0 + i))[i]? = some d → P i τ → ∃ τ1, asg (.nm 7) d τ = .ok τ1 ∧ ∃ τ2, (exL G Φ fu l_numbers τ1 = .nx τ2 ∨ exL G Φ fu l_numbers τ1 = .ct τ2) ∧ P (i + 1) τ2 := by
      rintro i d τ hd ⟨left, mixed, xs, last, rfl, h1, h2, h3, h4⟩
      obtain ⟨hi, rfl⟩ := rng_get hd
      refine ⟨[some (.v (.scr ns)), some (.v (.int k)), some (.v (.int many)), some (.v (.int cell)), some (.v (.int left)), some (.v (.int mixed)), some (.o (xs.map nm)), some (.v (.int (0 + i)))], by simp? [], ?_⟩
      have hl : (xs.map nm).length < sizeLine := by rw [List.length_map]; exact small6 (by omega)
      have snoc : ∀ z : Int, 0 ≤ z → z < 1000 → ∃ ys : List Nat, xs.map nm ++ [.int z] = ys.map nm ∧ ys.length = i + 1 ∧ ∀ x ∈ ys, x < 1000 := fun z z0 z1 => ⟨xs ++ [z.toNat], by
        rw [List.map_append, List.map_singleton]; show _ = _ ++ [D.int (z.toNat : Int)]; rw [Int.toNat_of_nonneg z0], by rw [List.length_append, h1]; rfl, fun x hx => by
        rcases List.mem_append.mp hx with hx | hx
        · exact h2 x hx
        · rw [List.mem_singleton.mp hx]; omega⟩
      unfold l_numbers
      have hp : (10 : Int) ^ (18 : Int).toNat = 1000000000000000000 := by decide
      obtain ⟨mx, hmx⟩ : ∃ mx : Int, (mixed * 48271 + 69621 * (0 + (i : Int)) + 40692 * (k : Int) + 12345) % 2147483647 = mx := ⟨_, rfl⟩
      have m0 : 0 ≤ mx := by rw [← hmx]; exact Int.emod_nonneg _ (by decide)
      have m1 : mx < 2147483647 := by rw [← hmx]; exact Int.emod_lt_of_pos _ (by decide)
      have q1 : mulOk mixed 48271 := mulS (by decide)
      have q2 : mulOk 69621 (0 + (i : Int)) := mulS' (by decide)
      have q3 : mulOk 40692 (k : Int) := mulS' (by decide)
      have q4 : mulOk mx mx := mulS (by omega)
      obtain ⟨ys, e1, e2, e3⟩ := snoc (mx * mx % 2147483629 / 211 % 1000) (Int.emod_nonneg _ (by decide)) (Int.emod_lt_of_pos _ (by decide))
      by_cases hc : 1000000000000000000 ≤ cell
      · by_cases hd : 0 < left
        · obtain ⟨ys, e1, e2, e3⟩ := snoc (left % 1000) (Int.emod_nonneg _ (by decide)) (Int.emod_lt_of_pos _ (by decide))
          simp? [pw_int (i := 10) (j := 18) (by decide), hp, hc, hd, md_int (i := left) (j := 1000) (by decide), fd_int (i := left) (j := 1000) (by decide), hl, e1]
          exact ⟨_, .inl rfl, _, _, _, _, rfl, e2, e3, h3, h4⟩
        · simp? [pw_int (i := 10) (j := 18) (by decide), hp, hc, hd, ml_int q1, ml_int q2, ml_int q3, md_int (i := mixed * 48271 + 69621 * (0 + (i : Int)) + 40692 * (k : Int) + 12345) (j := 2147483647) (by decide), hmx, ml_int q4, md_int (i := mx * mx) (j := 2147483629) (by decide), fd_int (i := mx * mx % 2147483629) (j := 211) (by decide), md_int (i := mx * mx % 2147483629 / 211) (j := 1000) (by decide), hl, e1]
          exact ⟨_, .inl rfl, _, _, _, _, rfl, e2, e3, m0, m1⟩
      · simp? [pw_int (i := 10) (j := 18) (by decide), hp, hc, ml_int q1, ml_int q2, ml_int q3, md_int (i := mixed * 48271 + 69621 * (0 + (i : Int)) + 40692 * (k : Int) + 12345) (j := 2147483647) (by decide), hmx, ml_int q4, md_int (i := mx * mx) (j := 2147483629) (by decide), fd_int (i := mx * mx % 2147483629) (j := 211) (by decide), md_int (i := mx * mx % 2147483629 / 211) (j := 1000) (by decide), hl, e1]
        exact ⟨_, .inl rfl, _, _, _, _, rfl, e2, e3, m0, m1⟩
    have go := forL_go (g := asg (.nm 7)) (f := exL G Φ fu l_numbers) _ P
      [some (.v (.scr ns)), some (.v (.int k)), some (.v (.int many)), some (.v (.int cell)), some (.v (.int cell)), some (.v (.int (cell % 2147483647))), some (.o []), none]
      ⟨cell, _, [], none, rfl, rfl, by simp, Int.emod_nonneg _ (by decide), Int.emod_lt_of_pos _ (by decide)⟩ step
    obtain ⟨τ, e, left, mixed, xs, last, rfl, h1, h2, h3⟩ := go
    simp? [md_int (i := cell) (j := 2147483647) (by decide), rng_ok (a := 0) (b := (many : Int)) ⟨by decide, by decide, by omega, by omega⟩, e]
    exact ⟨xs, rfl, by rw [h1, rng_len]; omega, h2⟩
  by_cases h : (k : Int) < (ns.length : Int)
  · obtain ⟨a, ha⟩ : ∃ a, ns[k]? = some a := ⟨ns[k]'(by omega), List.getElem?_eq_getElem (by omega)⟩
    have := rest a
    simp? [ml_int (mulS' (i := 7) (j := k) (by omega)), h, ix_scr rfl ha]
    simp? [] at this
    exact this
  · have := rest (7 * k + ns.length)
    simp? [ml_int (mulS' (i := 7) (j := k) (by omega)), h]
    simp? [] at this
    exact this
end PyI
/-! PyA, part 1: what a value may be, roughly. -/
namespace PyI
open PySem L2
/-- data of a depth, with texts and sequences that are not too long -/
inductive Dt : Nat → D → Prop
  | int (n : Nat) (i : Int) : Dt n (.int i)
  | bl (n : Nat) (b : Bool) : Dt n (.bl b)
  | non (n : Nat) : Dt n .non
  | str (n : Nat) (s : Str) (h : s.length ≤ 1000000) : Dt n (.str s)
  | tup (n : Nat) (xs : List D) (hl : xs.length ≤ 1000000) (h : ∀ x ∈ xs, Dt n x) : Dt (n + 1) (.tup xs)
  | lst (n : Nat) (xs : List D) (hl : xs.length ≤ 1000000) (h : ∀ x ∈ xs, Dt n x) : Dt (n + 1) (.lst xs)
theorem Dt.up {n : Nat} {d : D} (h : Dt n d) : Dt (n + 1) d := by
  induction h with
  | int n i => exact .int _ i
  | bl n b => exact .bl _ b
  | non n => exact .non _
  | str n s h => exact .str _ s h
  | tup n xs hl _ ih => exact .tup _ xs hl ih
  | lst n xs hl _ ih => exact .lst _ xs hl ih
theorem Dt.le {n m : Nat} {d : D} (h : Dt n d) (hn : n ≤ m) : Dt m d := by
  induction hn with
  | refl => exact h
  | step _ ih => exact ih.up
inductive A where
  | bot | any (n : Nat) | p (i : Nat) | int (lo hi : Int) | intU | bl (o : Option Bool) | non | str (m : Nat) | scr
  | tup (as : List A) | lsf (as : List A) | seq (t : Bool) (a : A) (lo hi : Nat) | un (a b : A)
  deriving Inhabited
def sqD (t : Bool) (ds : List D) : D := if t then .tup ds else .lst ds
section
variable (P : Nat → D → Prop)
mutual
def γ : A → D → Prop
  | .bot, _ => False
  | .any n, d => Dt n d
  | .p i, d => P i d
  | .int lo hi, d => ∃ i, d = .int i ∧ lo ≤ i ∧ i ≤ hi
  | .intU, d => ∃ i, d = .int i
  | .bl o, d => ∃ b, d = .bl b ∧ ∀ k, o = some k → b = k
  | .non, d => d = .non
  | .str m, d => ∃ x, d = .str x ∧ x.length ≤ m
  | .scr, d => ∃ ns, d = .scr ns
  | .tup as, d => ∃ ds, d = .tup ds ∧ γs as ds
  | .lsf as, d => ∃ ds, d = .lst ds ∧ γs as ds
  | .seq t a lo hi, d => ∃ ds, d = sqD t ds ∧ lo ≤ ds.length ∧ ds.length ≤ hi ∧ ∀ x ∈ ds, γ a x
  | .un a b, d => γ a d ∨ γ b d
def γs : List A → List D → Prop
  | [], ds => ds = []
  | a :: as, ds => ∃ d r, ds = d :: r ∧ γ a d ∧ γs as r
end
end
def all2 (f : A → A → Bool) : List A → List A → Bool
  | [], [] => true
  | a :: as, b :: bs => f a b && all2 f as bs
  | _, _ => false
section
variable (bs : Nat → A)
def leq : Nat → A → A → Bool
  | 0, _, _ => false
  | n + 1, a, b => match a, b with
    | .bot, _ => true
    | .un x y, b => leq n x b && leq n y b
    | .p i, .p j => decide (i = j)
    | .p i, .un x y => leq n (.p i) x || leq n (.p i) y
    | .p i, b => leq n (bs i) b
    | a, .un x y => leq n a x || leq n a y
    | .int a b, .int c d => decide (c ≤ a) && decide (b ≤ d)
    | .int _ _, .intU => true
    | .intU, .intU => true
    | .bl o, .bl q => decide (q = none) || decide (o = q)
    | .non, .non => true
    | .str m, .str k => decide (m ≤ k)
    | .scr, .scr => true
    | .tup as, .tup cs => all2 (leq n) as cs
    | .lsf as, .lsf cs => all2 (leq n) as cs
    | .tup as, .seq true c lo hi => decide (lo ≤ as.length) && decide (as.length ≤ hi) && as.all fun a => leq n a c
    | .lsf as, .seq false c lo hi => decide (lo ≤ as.length) && decide (as.length ≤ hi) && as.all fun a => leq n a c
    | .seq t a l h, .seq t' a' l' h' => decide (t = t') && decide (l' ≤ l) && decide (h ≤ h') && (decide (h = 0) || leq n a a')
    | .any m, .any k => decide (m ≤ k)
    | .int _ _, .any _ => true
    | .intU, .any _ => true
    | .bl _, .any _ => true
    | .non, .any _ => true
    | .str m, .any _ => decide (m ≤ 1000000)
    | .tup as, .any (k + 1) => decide (as.length ≤ 1000000) && as.all fun a => leq n a (.any k)
    | .lsf as, .any (k + 1) => decide (as.length ≤ 1000000) && as.all fun a => leq n a (.any k)
    | .seq _ a _ h, .any (k + 1) => decide (h ≤ 1000000) && (decide (h = 0) || leq n a (.any k))
    | _, _ => false
end
section
variable {P : Nat → D → Prop} {bs : Nat → A}
theorem γs_len : ∀ {as : List A} {ds : List D}, γs P as ds → ds.length = as.length
  | [], ds, h => by
    have h : ds = [] := h
    rw [h]; rfl
  | a :: as, ds, h => by
    obtain ⟨d, r, rfl, _, h2⟩ := (show ∃ d r, ds = d :: r ∧ γ P a d ∧ γs P as r from h)
    rw [List.length_cons, List.length_cons, γs_len h2]
theorem γs_mem : ∀ {as : List A} {ds : List D}, γs P as ds → ∀ x ∈ ds, ∃ a ∈ as, γ P a x
  | [], ds, h, x, hx => by
    have h : ds = [] := h
    rw [h] at hx; cases hx
  | a :: as, ds, h, x, hx => by
    obtain ⟨d, r, rfl, h1, h2⟩ := (show ∃ d r, ds = d :: r ∧ γ P a d ∧ γs P as r from h)
    rcases List.mem_cons.mp hx with z | z
    · exact ⟨a, List.mem_cons_self, by rw [z]; exact h1⟩
    · obtain ⟨b, hb, h3⟩ := γs_mem h2 x z
      exact ⟨b, List.mem_cons_of_mem _ hb, h3⟩
theorem γs_all {f : A → Bool} {R : D → Prop} (hf : ∀ a, f a = true → ∀ d, γ P a d → R d) {as : List A} {ds : List D} (h : γs P as ds) (ha : as.all f = true) : ∀ x ∈ ds, R x := fun x hx => by
  obtain ⟨a, hm, h1⟩ := γs_mem h x hx
  exact hf a (List.all_eq_true.mp ha a hm) x h1
theorem γs_all2 {f : A → A → Bool} (hf : ∀ a b, f a b = true → ∀ d, γ P a d → γ P b d) : ∀ {as cs : List A} {ds : List D}, γs P as ds → all2 f as cs = true → γs P cs ds
  | [], [], ds, h, _ => h
  | [], _ :: _, _, _, h => by cases h
  | _ :: _, [], _, _, h => by cases h
  | a :: as, b :: cs, ds, h, e => by
    obtain ⟨d, r, rfl, h1, h2⟩ := (show ∃ d r, ds = d :: r ∧ γ P a d ∧ γs P as r from h)
    have e : (f a b && all2 f as cs) = true := e
    rw [Bool.and_eq_true] at e
    exact ⟨d, r, rfl, hf a b e.1 d h1, γs_all2 hf h2 e.2⟩
theorem leq_ok (hb : ∀ i d, P i d → γ P (bs i) d) : ∀ n a b, leq bs n a b = true → ∀ d, γ P a d → γ P b d := by
  intro n
  induction n with
  | zero => intro a b h; cases h
  | succ n ih =>
    intro a b h d hd
    unfold leq at h
    split at h
    · exact hd.elim
    · rw [Bool.and_eq_true] at h
      rcases hd with z | z
      · exact ih _ _ h.1 d z
      · exact ih _ _ h.2 d z
    · rw [← of_decide_eq_true h]; exact hd
    · rw [Bool.or_eq_true] at h
      rcases h with z | z
      · exact .inl (ih _ _ z d hd)
      · exact .inr (ih _ _ z d hd)
    · exact ih _ _ h d (hb _ _ hd)
    · rw [Bool.or_eq_true] at h
      rcases h with z | z
      · exact .inl (ih _ _ z d hd)
      · exact .inr (ih _ _ z d hd)
    · rw [Bool.and_eq_true, decide_eq_true_eq, decide_eq_true_eq] at h
      obtain ⟨i, rfl, h1, h2⟩ := hd
      exact ⟨i, rfl, by omega, by omega⟩
    · obtain ⟨i, rfl, _⟩ := hd
      exact ⟨i, rfl⟩
    · exact hd
    · rw [Bool.or_eq_true, decide_eq_true_eq, decide_eq_true_eq] at h
      obtain ⟨b, rfl, h1⟩ := hd
      rcases h with rfl | rfl
      · exact ⟨b, rfl, fun k hk => by cases hk⟩
      · exact ⟨b, rfl, h1⟩
    · exact hd
    · rw [decide_eq_true_eq] at h
      obtain ⟨x, rfl, h1⟩ := hd
      exact ⟨x, rfl, by omega⟩
    · exact hd
    · obtain ⟨ds, rfl, h1⟩ := hd
      exact ⟨ds, rfl, γs_all2 ih h1 h⟩
    · obtain ⟨ds, rfl, h1⟩ := hd
      exact ⟨ds, rfl, γs_all2 ih h1 h⟩
    · rw [Bool.and_eq_true, Bool.and_eq_true, decide_eq_true_eq, decide_eq_true_eq] at h
      obtain ⟨ds, rfl, h1⟩ := hd
      have := γs_len h1
      exact ⟨ds, rfl, by omega, by omega, γs_all (fun a ha => ih a _ ha) h1 h.2⟩
    · rw [Bool.and_eq_true, Bool.and_eq_true, decide_eq_true_eq, decide_eq_true_eq] at h
      obtain ⟨ds, rfl, h1⟩ := hd
      have := γs_len h1
      exact ⟨ds, rfl, by omega, by omega, γs_all (fun a ha => ih a _ ha) h1 h.2⟩
    · rw [Bool.and_eq_true, Bool.and_eq_true, Bool.and_eq_true, Bool.or_eq_true, decide_eq_true_eq, decide_eq_true_eq, decide_eq_true_eq, decide_eq_true_eq] at h
      obtain ⟨⟨⟨rfl, h1⟩, h2⟩, h3⟩ := h
      obtain ⟨ds, rfl, k1, k2, k3⟩ := hd
      refine ⟨ds, rfl, by omega, by omega, fun x hx => ?_⟩
      rcases h3 with z | z
      · have := List.length_pos_of_mem hx; omega
      · exact ih _ _ z x (k3 x hx)
    · exact Dt.le hd (of_decide_eq_true h)
    · obtain ⟨i, rfl, _⟩ := hd; exact .int _ _
    · obtain ⟨i, rfl⟩ := hd; exact .int _ _
    · obtain ⟨i, rfl, _⟩ := hd; exact .bl _ _
    · have hd : d = .non := hd
      rw [hd]; exact .non _
    · obtain ⟨x, rfl, h1⟩ := hd
      have := of_decide_eq_true h
      exact .str _ _ (by omega)
    · rw [Bool.and_eq_true, decide_eq_true_eq] at h
      obtain ⟨ds, rfl, h1⟩ := hd
      exact .tup _ _ (by rw [γs_len h1]; exact h.1) (γs_all (fun a ha => ih a _ ha) h1 h.2)
    · rw [Bool.and_eq_true, decide_eq_true_eq] at h
      obtain ⟨ds, rfl, h1⟩ := hd
      exact .lst _ _ (by rw [γs_len h1]; exact h.1) (γs_all (fun a ha => ih a _ ha) h1 h.2)
    · rename_i t a l hh k
      rw [Bool.and_eq_true, Bool.or_eq_true, decide_eq_true_eq, decide_eq_true_eq] at h
      obtain ⟨ds, rfl, k1, k2, k3⟩ := hd
      have k4 : ∀ x ∈ ds, Dt k x := fun x hx => by
        rcases h.2 with z | z
        · have := List.length_pos_of_mem hx; omega
        · exact ih _ _ z x (k3 x hx)
      cases t with
      | true => exact .tup _ _ (by omega) k4
      | false => exact .lst _ _ (by omega) k4
    · cases h
end
section
variable (bs : Nat → A)
/-- a guess of what holds both -/
def mg : Nat → A → A → A
  | 0, a, b => .un a b
  | n + 1, a, b => match a, b with
    | .bot, b => b
    | a, .bot => a
    | .int a b, .int c d => .int (if c < a then c else a) (if b < d then d else b)
    | .int _ _, .intU => .intU
    | .intU, .int _ _ => .intU
    | .intU, .intU => .intU
    | .bl o, .bl q => .bl (if o = q then o else none)
    | .non, .non => .non
    | .str m, .str k => .str (if m < k then k else m)
    | .p i, .p j => if i = j then .p i else mg n (bs i) (bs j)
    | .p i, .str k => mg n (bs i) (.str k)
    | .str k, .p i => mg n (bs i) (.str k)
    | .any m, .any k => .any (if m < k then k else m)
    | .tup as, .tup cs => if as.length = cs.length then .tup (List.zipWith (mg n) as cs) else .un (.tup as) (.tup cs)
    | .lsf as, .lsf cs => if as.length = cs.length then .lsf (List.zipWith (mg n) as cs) else .seq false ((as ++ cs).foldl (mg n) .bot) (if as.length < cs.length then as.length else cs.length) (if as.length < cs.length then cs.length else as.length)
    | .seq t a l h, .seq t' a' l' h' => if t = t' then .seq t (mg n a a') (if l' < l then l' else l) (if h < h' then h' else h) else .un (.seq t a l h) (.seq t' a' l' h')
    | .lsf as, .seq false a' l' h' => .seq false (as.foldl (mg n) a') (if l' < as.length then l' else as.length) (if as.length < h' then h' else as.length)
    | .seq false a' l' h', .lsf as => .seq false (as.foldl (mg n) a') (if l' < as.length then l' else as.length) (if as.length < h' then h' else as.length)
    | .any k, b => if leq bs 60 b (.any k) then .any k else .un (.any k) b
    | b, .any k => if leq bs 60 b (.any k) then .any k else .un b (.any k)
    | .un a b, c => match mg n a c with
      | .un _ _ => .un a (mg n b c)
      | ac => .un ac b
    | a, .un b c => match mg n a b with
      | .un _ _ => .un b (mg n a c)
      | ab => .un ab c
    | a, b => .un a b
def join (a b : A) : A := let c := mg bs 40 a b; if leq bs 60 a c && leq bs 60 b c then c else .un a b
def joinAll (as : List A) : A := as.foldr (join bs) .bot
end
section
variable {P : Nat → D → Prop} {bs : Nat → A}
theorem join_l (hb : ∀ i d, P i d → γ P (bs i) d) {a b : A} {d : D} (h : γ P a d) : γ P (join bs a b) d := by
  unfold join
  show γ P (if leq bs 60 a (mg bs 40 a b) && leq bs 60 b (mg bs 40 a b) then mg bs 40 a b else .un a b) d
  split
  · rename_i e
    rw [Bool.and_eq_true] at e
    exact leq_ok hb _ _ _ e.1 d h
  · exact .inl h
theorem join_r (hb : ∀ i d, P i d → γ P (bs i) d) {a b : A} {d : D} (h : γ P b d) : γ P (join bs a b) d := by
  unfold join
  show γ P (if leq bs 60 a (mg bs 40 a b) && leq bs 60 b (mg bs 40 a b) then mg bs 40 a b else .un a b) d
  split
  · rename_i e
    rw [Bool.and_eq_true] at e
    exact leq_ok hb _ _ _ e.2 d h
  · exact .inr h
theorem joinAll_ok (hb : ∀ i d, P i d → γ P (bs i) d) : ∀ {as : List A} {a : A} {d : D}, a ∈ as → γ P a d → γ P (joinAll bs as) d
  | b :: r, a, d, hm, h => by
    show γ P (join bs b (joinAll bs r)) d
    rcases List.mem_cons.mp hm with z | z
    · rw [z] at h; exact join_l hb h
    · exact join_r hb (joinAll_ok hb z h)
end
end PyI
/-! PyA, part 2: operations on rough values. -/
namespace PyI
open PySem L2
def Ok (P : Nat → D → Prop) (r : Res D) (c : A) : Prop := ∃ z, r = .ok z ∧ γ P c z
section
variable (bs : Nat → A)
def l1 (f : A → Option A) : A → Option A
  | .bot => some .bot
  | .p i => (match bs i with
    | .un _ _ => none
    | .p _ => none
    | x => f x)
  | .un a b => (match l1 f a, l1 f b with
    | some x, some y => some (join bs x y)
    | _, _ => none)
  | a => f a
end
theorem l1_ok {P : Nat → D → Prop} {bs : Nat → A} (hb : ∀ i d, P i d → γ P (bs i) d) {f : A → Option A} {F : D → Res D} (h : ∀ a c d, f a = some c → γ P a d → Ok P (F d) c) : ∀ (a c : A) (d : D), l1 bs f a = some c → γ P a d → Ok P (F d) c
  | .bot, c, d, _, hd => hd.elim
  | .p i, c, d, e, hd => by
    have e : (match bs i with
      | .un _ _ => none
      | .p _ => none
      | x => f x) = some c := e
    have hd := hb i d hd
    split at e
    · cases e
    · cases e
    · exact h _ _ _ e hd
  | .un a b, c, d, e, hd => by
    have e : (match l1 bs f a, l1 bs f b with
      | some x, some y => some (join bs x y)
      | _, _ => none) = some c := e
    cases ea : l1 bs f a with
    | none => rw [ea] at e; cases e
    | some x =>
      cases eb : l1 bs f b with
      | none => rw [ea, eb] at e; cases e
      | some y =>
        rw [ea, eb] at e
        cases e
        rcases hd with z | z
        · obtain ⟨w, h1, h2⟩ := l1_ok hb h a x d ea z
          exact ⟨w, h1, join_l hb h2⟩
        · obtain ⟨w, h1, h2⟩ := l1_ok hb h b y d eb z
          exact ⟨w, h1, join_r hb h2⟩
  | .any n, c, d, e, hd => h _ _ _ e hd
  | .int _ _, c, d, e, hd => h _ _ _ e hd
  | .intU, c, d, e, hd => h _ _ _ e hd
  | .bl _, c, d, e, hd => h _ _ _ e hd
  | .non, c, d, e, hd => h _ _ _ e hd
  | .str _, c, d, e, hd => h _ _ _ e hd
  | .scr, c, d, e, hd => h _ _ _ e hd
  | .tup _, c, d, e, hd => h _ _ _ e hd
  | .lsf _, c, d, e, hd => h _ _ _ e hd
  | .seq _ _ _ _, c, d, e, hd => h _ _ _ e hd
/-! ### sequences -/
section
variable (bs : Nat → A)
def toSeq : A → Option (Bool × A × Nat × Nat)
  | .seq t a l h => some (t, a, l, h)
  | .tup as => some (true, joinAll bs as, as.length, as.length)
  | .lsf as => some (false, joinAll bs as, as.length, as.length)
  | _ => none
end
theorem toSeq_ok {P : Nat → D → Prop} {bs : Nat → A} (hb : ∀ i d, P i d → γ P (bs i) d) {x : A} {t : Bool} {a : A} {l h : Nat} {d : D} (e : toSeq bs x = some (t, a, l, h)) (hd : γ P x d) : γ P (.seq t a l h) d := by
  cases x with
  | seq t a l h => cases e; exact hd
  | tup as =>
    cases e
    obtain ⟨ds, rfl, h1⟩ := hd
    have := γs_len h1
    exact ⟨ds, rfl, by omega, by omega, fun x hx => by
      obtain ⟨a, hm, h2⟩ := γs_mem h1 x hx
      exact joinAll_ok hb hm h2⟩
  | lsf as =>
    cases e
    obtain ⟨ds, rfl, h1⟩ := hd
    have := γs_len h1
    exact ⟨ds, rfl, by omega, by omega, fun x hx => by
      obtain ⟨a, hm, h2⟩ := γs_mem h1 x hx
      exact joinAll_ok hb hm h2⟩
  | _ => cases e
theorem γs_app {P : Nat → D → Prop} : ∀ {as cs : List A} {ds es : List D}, γs P as ds → γs P cs es → γs P (as ++ cs) (ds ++ es)
  | [], cs, ds, es, h, h' => by
    have h : ds = [] := h
    rw [h]; exact h'
  | a :: as, cs, ds, es, h, h' => by
    obtain ⟨d, r, rfl, h1, h2⟩ := (show ∃ d r, ds = d :: r ∧ γ P a d ∧ γs P as r from h)
    exact ⟨d, r ++ es, rfl, h1, γs_app h2 h'⟩
theorem γs_drop {P : Nat → D → Prop} : ∀ (n : Nat) {as : List A} {ds : List D}, γs P as ds → γs P (as.drop n) (ds.drop n)
  | 0, as, ds, h => h
  | n + 1, [], ds, h => by
    have h : ds = [] := h
    rw [h]; rfl
  | n + 1, a :: as, ds, h => by
    obtain ⟨d, r, rfl, h1, h2⟩ := (show ∃ d r, ds = d :: r ∧ γ P a d ∧ γs P as r from h)
    exact γs_drop n h2
theorem γs_take {P : Nat → D → Prop} : ∀ (n : Nat) {as : List A} {ds : List D}, γs P as ds → γs P (as.take n) (ds.take n)
  | 0, as, ds, h => rfl
  | n + 1, [], ds, h => by
    have h : ds = [] := h
    rw [h]; rfl
  | n + 1, a :: as, ds, h => by
    obtain ⟨d, r, rfl, h1, h2⟩ := (show ∃ d r, ds = d :: r ∧ γ P a d ∧ γs P as r from h)
    exact ⟨d, r.take n, rfl, h1, γs_take n h2⟩
theorem γs_get {P : Nat → D → Prop} : ∀ {as : List A} {ds : List D} {i : Nat} {d : D}, γs P as ds → ds[i]? = some d → ∃ a, as[i]? = some a ∧ γ P a d
  | [], ds, i, d, h, e => by
    have h : ds = [] := h
    rw [h] at e; cases e
  | a :: as, ds, i, d, h, e => by
    obtain ⟨d', r, rfl, h1, h2⟩ := (show ∃ d r, ds = d :: r ∧ γ P a d ∧ γs P as r from h)
    cases i with
    | zero => cases e; exact ⟨a, rfl, h1⟩
    | succ i => exact γs_get (i := i) h2 e
/-! ### arithmetic -/
def B300 : Nat := 2 ^ 250
def im (a b : Int) : Nat := if a.natAbs < b.natAbs then b.natAbs else a.natAbs
theorem im_ok {a b i : Int} (h1 : a ≤ i) (h2 : i ≤ b) : i.natAbs ≤ im a b := by
  unfold im
  split <;> omega
theorem log_im {n : Nat} (h : n < B300) : n.log2 < 251 := by
  by_cases z : n = 0
  · subst z; decide
  · exact Nat.lt_succ_of_lt ((Nat.log2_lt z).mpr h)
section
variable (bs : Nat → A)
def isI : A → Bool
  | .int _ _ => true
  | .intU => true
  | _ => false
def addS (x y : A) : Option A := match toSeq bs x, toSeq bs y with
  | some (t, a, l, h), some (t', a', l', h') => if t = t' ∧ h + h' ≤ 1000000 then some (.seq t (join bs a a') (l + l') (h + h')) else none
  | _, _ => none
def opA : Op → A → A → Option A
  | .add, .int a b, .int c d => some (.int (a + c) (b + d))
  | .sub, .int a b, .int c d => some (.int (a - d) (b - c))
  | .mul, .int a b, .int c d => if im a b < B300 ∧ im c d < B300 then (if 0 ≤ a ∧ 0 ≤ c then some (.int (a * c) (b * d)) else some (.int (-((im a b * im c d : Nat) : Int)) ((im a b * im c d : Nat) : Int))) else none
  | .fdiv, .int a b, .int c d => if 0 < c ∧ d.natAbs < B300 then (if 0 ≤ a then some (.int (a / d) (b / c)) else some (.int a (if 0 ≤ b then b / c else -1))) else none
  | .mod, .int a b, .int c d => if 0 < c then (if a = b ∧ c = d then some (.int (a % c) (a % c)) else if 0 ≤ a ∧ b < c then some (.int a b) else some (.int 0 (d - 1))) else none
  | .pow, .int a b, .int c d => if a = b ∧ c = d ∧ powOk a c then some (.int (a ^ c.toNat) (a ^ c.toNat)) else none
  | .fdiv, .intU, .int c d => if 0 < c ∧ d.natAbs < B300 then some .intU else none
  | .mod, .intU, .int c d => if 0 < c then some (.int 0 (d - 1)) else none
  | .mul, .intU, .int c d => if -1000000000000000000 < c ∧ d < 1000000000000000000 then some .intU else none
  | .mul, .int a b, .intU => if -1000000000000000000 < a ∧ b < 1000000000000000000 then some .intU else none
  | .add, .str m, .str k => if m + k ≤ 1000000 then some (.str (m + k)) else none
  | .mul, .str m, .int c d => if -1000 ≤ c ∧ d ≤ 1000 ∧ m ≤ 1000 then some (.str (m * d.toNat)) else none
  | .add, .tup as, .tup cs => if as.length + cs.length ≤ 1000000 then some (.tup (as ++ cs)) else none
  | .add, .lsf as, .lsf cs => if as.length + cs.length ≤ 1000000 then some (.lsf (as ++ cs)) else none
  | .add, a, b => if isI a && isI b then some .intU else addS bs a b
  | .sub, a, b => if isI a && isI b then some .intU else none
  | .mul, x, .int c d => (match toSeq bs x with
    | some (false, a, l, h) => if 0 ≤ c ∧ d ≤ 1000000 ∧ h * d.toNat ≤ 1000000 then some (.seq false a (l * c.toNat) (h * d.toNat)) else none
    | some (true, a, l, h) => if 1 ≤ c ∧ d ≤ 1000 ∧ 1 ≤ l ∧ h ≤ 1000 then some (.seq true a (l * c.toNat) (h * d.toNat)) else if h = 0 ∧ -1000 ≤ c ∧ d ≤ 1000 then some (.seq true .bot 0 0) else none
    | none => none)
  | _, _, _ => none
end
theorem len_rep {α : Type} (k : Nat) (xs : List α) : (List.replicate k xs).flatten.length = k * xs.length := by
  induction k with
  | zero => simp
  | succ n ih => rw [List.replicate_succ, List.flatten_cons, List.length_append, ih, Nat.succ_mul]; omega
theorem mem_rep {α : Type} {k : Nat} {xs : List α} {x : α} (h : x ∈ (List.replicate k xs).flatten) : x ∈ xs := by
  obtain ⟨l, h1, h2⟩ := List.mem_flatten.mp h
  rw [(List.mem_replicate.mp h1).2] at h2
  exact h2
theorem s24 {n : Nat} (h : n ≤ 1000000) : n ≤ sizeLine := Nat.le_trans h (by decide)
theorem isI_ok {P : Nat → D → Prop} {a : A} {d : D} (h : isI a = true) (hd : γ P a d) : ∃ i, d = .int i := by
  cases a with
  | int lo hi => obtain ⟨i, rfl, _⟩ := hd; exact ⟨i, rfl⟩
  | intU => exact hd
  | _ => cases h
theorem addS_ok {P : Nat → D → Prop} {bs : Nat → A} (hb : ∀ i d, P i d → γ P (bs i) d) {a b c : A} {x y : D} (e : addS bs a b = some c) (hx : γ P a x) (hy : γ P b y) : Ok P (opD .add x y) c := by
  unfold addS at e
  split at e
  · rename_i t a' l h t' b' l' h' e1 e2
    split at e
    · rename_i hc
      obtain ⟨rfl, hc⟩ := hc
      cases e
      obtain ⟨ds, rfl, k1, k2, k3⟩ := toSeq_ok hb e1 hx
      obtain ⟨es, rfl, j1, j2, j3⟩ := toSeq_ok hb e2 hy
      have fit : ds.length + es.length ≤ sizeLine := s24 (by omega)
      refine ⟨sqD t (ds ++ es), ?_, ds ++ es, rfl, by rw [List.length_append]; omega, by rw [List.length_append]; omega, fun z hz => ?_⟩
      · cases t with
        | true => exact if_pos fit
        | false => exact if_pos fit
      · rcases List.mem_append.mp hz with w | w
        · exact join_l hb (k3 z w)
        · exact join_r hb (j3 z w)
    · cases e
  · cases e
theorem mulOk_im {a b c d i j : Int} (h1 : a ≤ i) (h2 : i ≤ b) (h3 : c ≤ j) (h4 : j ≤ d) (h : im a b < B300 ∧ im c d < B300) : mulOk i j := by
  have := log_im (Nat.lt_of_le_of_lt (im_ok h1 h2) h.1)
  have := log_im (Nat.lt_of_le_of_lt (im_ok h3 h4) h.2)
  exact .inr (by omega)
theorem fdOk {d j : Int} (h0 : 0 < j) (h : j ≤ d) (hd : d.natAbs < B300) : 0 < j ∧ j.natAbs.log2 < 9000 := ⟨h0, by
  have := log_im (Nat.lt_of_le_of_lt (show j.natAbs ≤ d.natAbs by omega) hd)
  omega⟩
theorem div_hi {b c i j : Int} (h0 : 0 < c) (h1 : c ≤ j) (h2 : i ≤ b) (hb : 0 ≤ b) : i / j ≤ b / c := by
  refine Int.le_ediv_of_mul_le h0 ?_
  by_cases hi : 0 ≤ i
  · have k0 : 0 ≤ i / j := Int.ediv_nonneg hi (by omega)
    have k1 : i / j * c ≤ i / j * j := Int.mul_le_mul_of_nonneg_left h1 k0
    have k2 : i / j * j ≤ i := Int.ediv_mul_le i (by omega)
    omega
  · have k0 : i / j < 0 := Int.ediv_neg_of_neg_of_pos (by omega) (by omega)
    have k1 : i / j * c ≤ 0 * c := Int.mul_le_mul_of_nonneg_right (by omega) (by omega)
    omega
theorem div_lo {a d i j : Int} (h0 : 0 < j) (h1 : j ≤ d) (h2 : a ≤ i) (ha : 0 ≤ a) : a / d ≤ i / j := by
  refine Int.le_ediv_of_mul_le h0 ?_
  have k0 : 0 ≤ a / d := Int.ediv_nonneg ha (by omega)
  have k1 : a / d * j ≤ a / d * d := Int.mul_le_mul_of_nonneg_left h1 k0
  have k2 : a / d * d ≤ a := Int.ediv_mul_le a (by omega)
  omega
theorem div_neg_lo {a i j : Int} (h0 : 0 < j) (h2 : a ≤ i) (ha : a < 0) : a ≤ i / j := by
  refine Int.le_ediv_of_mul_le h0 ?_
  have k1 : a * j ≤ a * 1 := Int.mul_le_mul_of_nonpos_left (by omega) (by omega)
  omega
theorem opA_ok {P : Nat → D → Prop} {bs : Nat → A} (hb : ∀ i d, P i d → γ P (bs i) d) {o : Op} {a b c : A} {x y : D} (e : opA bs o a b = some c) (hx : γ P a x) (hy : γ P b y) : Ok P (opD o x y) c := by
  unfold opA at e
  split at e
  · cases e
    obtain ⟨i, rfl, h1, h2⟩ := hx
    obtain ⟨j, rfl, h3, h4⟩ := hy
    exact ⟨_, rfl, _, rfl, by omega, by omega⟩
  · cases e
    obtain ⟨i, rfl, h1, h2⟩ := hx
    obtain ⟨j, rfl, h3, h4⟩ := hy
    exact ⟨_, rfl, _, rfl, by omega, by omega⟩
  · split at e
    · rename_i hc
      obtain ⟨i, rfl, h1, h2⟩ := hx
      obtain ⟨j, rfl, h3, h4⟩ := hy
      have ok := ml_int (mulOk_im h1 h2 h3 h4 hc)
      split at e
      · rename_i hz
        cases e
        exact ⟨_, ok, _, rfl, Int.mul_le_mul h1 h3 hz.2 (by omega), Int.mul_le_mul h2 h4 (by omega) (by omega)⟩
      · cases e
        refine ⟨_, ok, _, rfl, ?_, ?_⟩ <;>
        · have := Nat.mul_le_mul (im_ok h1 h2) (im_ok h3 h4)
          rw [← Int.natAbs_mul] at this
          omega
    · cases e
  · split at e
    · rename_i hc
      obtain ⟨i, rfl, h1, h2⟩ := hx
      obtain ⟨j, rfl, h3, h4⟩ := hy
      have ok := fd_int (i := i) (fdOk (by omega) h4 hc.2)
      split at e
      · rename_i hz
        cases e
        exact ⟨_, ok, _, rfl, div_lo (by omega) h4 h1 hz, div_hi hc.1 h3 h2 (by omega)⟩
      · cases e
        refine ⟨_, ok, _, rfl, div_neg_lo (by omega) h1 (by omega), ?_⟩
        split
        · exact div_hi hc.1 h3 h2 (by assumption)
        · have : i / j < 0 := Int.ediv_neg_of_neg_of_pos (by omega) (by omega)
          omega
    · cases e
  · split at e
    · rename_i hc
      obtain ⟨i, rfl, h1, h2⟩ := hx
      obtain ⟨j, rfl, h3, h4⟩ := hy
      have ok := md_int (i := i) (j := j) (by omega)
      have m1 := Int.emod_nonneg i (show j ≠ 0 by omega)
      have m2 := Int.emod_lt_of_pos i (show 0 < j by omega)
      split at e
      · rename_i hz
        cases e
        obtain ⟨rfl, rfl⟩ := hz
        have e1 : i = _ := Int.le_antisymm h2 h1
        have e2 : j = _ := Int.le_antisymm h4 h3
        subst e1 e2
        exact ⟨_, ok, _, rfl, Int.le_refl _, Int.le_refl _⟩
      · split at e
        · rename_i hz
          cases e
          have : i % j = i := Int.emod_eq_of_lt (by omega) (by omega)
          exact ⟨_, ok, _, rfl, by omega, by omega⟩
        · cases e
          exact ⟨_, ok, _, rfl, by omega, by omega⟩
    · cases e
  · split at e
    · rename_i hc
      cases e
      obtain ⟨i, rfl, h1, h2⟩ := hx
      obtain ⟨j, rfl, h3, h4⟩ := hy
      obtain ⟨rfl, rfl, hc⟩ := hc
      have e1 : i = _ := Int.le_antisymm h2 h1
      have e2 : j = _ := Int.le_antisymm h4 h3
      subst e1 e2
      exact ⟨_, pw_int hc, _, rfl, Int.le_refl _, Int.le_refl _⟩
    · cases e
  · split at e
    · rename_i hc
      cases e
      obtain ⟨i, rfl⟩ := hx
      obtain ⟨j, rfl, h3, h4⟩ := hy
      exact ⟨_, fd_int (i := i) (fdOk (by omega) h4 hc.2), _, rfl⟩
    · cases e
  · split at e
    · rename_i hc
      cases e
      obtain ⟨i, rfl⟩ := hx
      obtain ⟨j, rfl, h3, h4⟩ := hy
      have m1 := Int.emod_nonneg i (show j ≠ 0 by omega)
      have m2 := Int.emod_lt_of_pos i (show 0 < j by omega)
      exact ⟨_, md_int (i := i) (j := j) (by omega), _, rfl, by omega, by omega⟩
    · cases e
  · split at e
    · rename_i hc
      cases e
      obtain ⟨i, rfl⟩ := hx
      obtain ⟨j, rfl, h3, h4⟩ := hy
      exact ⟨_, ml_int (mulS ⟨by omega, by omega⟩), _, rfl⟩
    · cases e
  · split at e
    · rename_i hc
      cases e
      obtain ⟨i, rfl, h3, h4⟩ := hx
      obtain ⟨j, rfl⟩ := hy
      exact ⟨_, ml_int (mulS' ⟨by omega, by omega⟩), _, rfl⟩
    · cases e
  · split at e
    · rename_i hc
      cases e
      obtain ⟨i, rfl, h1⟩ := hx
      obtain ⟨j, rfl, h2⟩ := hy
      refine ⟨_, if_pos (s24 (by omega)), _, rfl, ?_⟩
      have : (i ++ j).length = i.length + j.length := by show (i.cps ++ j.cps).size = _; simp [Str.length]
      omega
    · cases e
  · split at e
    · rename_i hc
      cases e
      obtain ⟨x, rfl, h1⟩ := hx
      obtain ⟨j, rfl, h3, h4⟩ := hy
      refine ⟨_, if_pos ⟨by omega, by omega, by omega⟩, _, rfl, ?_⟩
      show ((List.replicate j.toNat x.cps).foldl (· ++ ·) #[]).size ≤ _
      have key : ∀ (n : Nat) (acc : Array Nat), ((List.replicate n x.cps).foldl (· ++ ·) acc).size = acc.size + n * x.cps.size := by
        intro n
        induction n with
        | zero => intro acc; simp
        | succ n ih => intro acc; rw [List.replicate_succ, List.foldl_cons, ih, Array.size_append, Nat.succ_mul]; omega
      rw [key, Array.size_empty, Nat.zero_add, Nat.mul_comm]
      exact Nat.mul_le_mul h1 (by omega)
    · cases e
  · split at e
    · rename_i hc
      cases e
      obtain ⟨ds, rfl, h1⟩ := hx
      obtain ⟨es, rfl, h2⟩ := hy
      exact ⟨_, if_pos (s24 (by rw [γs_len h1, γs_len h2]; exact hc)), _, rfl, γs_app h1 h2⟩
    · cases e
  · split at e
    · rename_i hc
      cases e
      obtain ⟨ds, rfl, h1⟩ := hx
      obtain ⟨es, rfl, h2⟩ := hy
      exact ⟨_, if_pos (s24 (by rw [γs_len h1, γs_len h2]; exact hc)), _, rfl, γs_app h1 h2⟩
    · cases e
  · split at e
    · rename_i hc
      cases e
      rw [Bool.and_eq_true] at hc
      obtain ⟨i, rfl⟩ := isI_ok hc.1 hx
      obtain ⟨j, rfl⟩ := isI_ok hc.2 hy
      exact ⟨_, rfl, _, rfl⟩
    · exact addS_ok hb e hx hy
  · split at e
    · rename_i hc
      cases e
      rw [Bool.and_eq_true] at hc
      obtain ⟨i, rfl⟩ := isI_ok hc.1 hx
      obtain ⟨j, rfl⟩ := isI_ok hc.2 hy
      exact ⟨_, rfl, _, rfl⟩
    · cases e
  · obtain ⟨j, rfl, h3, h4⟩ := hy
    split at e
    · rename_i a l h e1
      split at e
      · rename_i hc
        cases e
        obtain ⟨ds, rfl, k1, k2, k3⟩ := toSeq_ok hb e1 hx
        have m1 : l * _ ≤ ds.length * j.toNat := Nat.mul_le_mul k1 (Int.toNat_le_toNat h3)
        have m2 : ds.length * j.toNat ≤ h * _ := Nat.mul_le_mul k2 (Int.toNat_le_toNat h4)
        exact ⟨_, if_pos ⟨by omega, by omega, s24 (by omega)⟩, _, rfl, by rw [len_rep, Nat.mul_comm j.toNat]; exact m1, by rw [len_rep, Nat.mul_comm j.toNat]; exact m2, fun z hz => k3 z (mem_rep hz)⟩
      · cases e
    · rename_i a l h e1
      split at e
      · rename_i hc
        cases e
        obtain ⟨ds, rfl, k1, k2, k3⟩ := toSeq_ok hb e1 hx
        have m1 : l * _ ≤ ds.length * j.toNat := Nat.mul_le_mul k1 (Int.toNat_le_toNat h3)
        have m2 : ds.length * j.toNat ≤ h * _ := Nat.mul_le_mul k2 (Int.toNat_le_toNat h4)
        have ne : ds ≠ [] := fun z => by
          rw [z] at k1
          have : ([] : List D).length = 0 := rfl
          omega
        exact ⟨_, if_pos (.inr ⟨ne, by omega, by omega, by omega⟩), _, rfl, by rw [len_rep, Nat.mul_comm j.toNat]; exact m1, by rw [len_rep, Nat.mul_comm j.toNat]; exact m2, fun z hz => k3 z (mem_rep hz)⟩
      · split at e
        · rename_i hc
          cases e
          obtain ⟨ds, rfl, k1, k2, k3⟩ := toSeq_ok hb e1 hx
          have : ds = [] := List.eq_nil_of_length_eq_zero (by omega)
          subst this
          have e0 : (List.replicate j.toNat ([] : List D)).flatten = [] := by simp
          refine ⟨.tup [], ?_, [], rfl, Nat.le_refl _, Nat.le_refl _, fun z hz => by cases hz⟩
          show (if _ then Res.ok (D.tup (List.replicate j.toNat ([] : List D)).flatten) else .bad) = _
          rw [if_pos (.inl ⟨rfl, by omega, by omega⟩), e0]
        · cases e
    · cases e
  · cases e
end PyI
/-! PyA, part 3: comparisons, subscripts, built-ins on rough values. -/
namespace PyI
open PySem L2
/-- one rule at a time -/
def R1 (f : A → Option A) (F : D → Res D) : Prop := ∀ (P : Nat → D → Prop) (a c : A) (d : D), f a = some c → γ P a d → Ok P (F d) c
/-! ### comparisons -/
def cmpI : Cm → Int → Int → Int → Int → Option (Option Bool)
  | .lt, a, b, c, d => some (if b < c then some true else if d ≤ a then some false else none)
  | .le, a, b, c, d => some (if b ≤ c then some true else if d < a then some false else none)
  | .gt, a, b, c, d => some (if d < a then some true else if b ≤ c then some false else none)
  | .ge, a, b, c, d => some (if d ≤ a then some true else if b < c then some false else none)
  | .eq, a, b, c, d => some (if a = b ∧ c = d ∧ a = c then some true else if b < c ∨ d < a then some false else none)
  | .ne, a, b, c, d => some (if a = b ∧ c = d ∧ a = c then some false else if b < c ∨ d < a then some true else none)
  | _, _, _, _, _ => none
theorem cmpI_ok {c : Cm} {a b x y i j : Int} {o : Option Bool} (e : cmpI c a b x y = some o) (h1 : a ≤ i) (h2 : i ≤ b) (h3 : x ≤ j) (h4 : j ≤ y) : ∃ k : Bool, cmD c (.int i) (.int j) = .ok (.bl k) ∧ ∀ q, o = some q → k = q := by
  cases c with
  | lt =>
    cases e
    refine ⟨_, c_lt i j, fun q hq => ?_⟩
    split at hq
    · cases hq; exact decide_eq_true (by omega)
    · split at hq
      · cases hq; exact decide_eq_false (by omega)
      · cases hq
  | le =>
    cases e
    refine ⟨_, c_le i j, fun q hq => ?_⟩
    split at hq
    · cases hq; exact decide_eq_true (by omega)
    · split at hq
      · cases hq; exact decide_eq_false (by omega)
      · cases hq
  | gt =>
    cases e
    refine ⟨_, c_gt i j, fun q hq => ?_⟩
    split at hq
    · cases hq; exact decide_eq_true (by omega)
    · split at hq
      · cases hq; exact decide_eq_false (by omega)
      · cases hq
  | ge =>
    cases e
    refine ⟨_, c_ge i j, fun q hq => ?_⟩
    split at hq
    · cases hq; exact decide_eq_true (by omega)
    · split at hq
      · cases hq; exact decide_eq_false (by omega)
      · cases hq
  | eq =>
    cases e
    refine ⟨_, c_eq i j, fun q hq => ?_⟩
    split at hq
    · cases hq; exact decide_eq_true (by omega)
    · split at hq
      · cases hq; exact decide_eq_false (by omega)
      · cases hq
  | ne =>
    cases e
    refine ⟨_, c_ne i j, fun q hq => ?_⟩
    split at hq
    · cases hq; exact decide_eq_false (by omega)
    · split at hq
      · cases hq; exact decide_eq_true (by omega)
      · cases hq
  | _ => cases e
def is6 : Cm → Bool
  | .lt => true | .le => true | .gt => true | .ge => true | .eq => true | .ne => true
  | _ => false
theorem is6_ok {c : Cm} (h : is6 c = true) (i j : Int) : ∃ k : Bool, cmD c (.int i) (.int j) = .ok (.bl k) := by
  cases c with
  | lt => exact ⟨_, c_lt i j⟩
  | le => exact ⟨_, c_le i j⟩
  | gt => exact ⟨_, c_gt i j⟩
  | ge => exact ⟨_, c_ge i j⟩
  | eq => exact ⟨_, c_eq i j⟩
  | ne => exact ⟨_, c_ne i j⟩
  | _ => cases h
section
variable (bs : Nat → A)
def flatA : Nat → A → Bool
  | 0, _ => false
  | n + 1, a => match a with
    | .bot => true
    | .int _ _ => true
    | .intU => true
    | .bl _ => true
    | .non => true
    | .str _ => true
    | .p i => flatA n (bs i)
    | .un a b => flatA n a && flatA n b
    | _ => false
def noN : A → Option Bool
  | .non => some true
  | .int _ _ => some false
  | .intU => some false
  | .bl _ => some false
  | .str _ => some false
  | .scr => some false
  | .tup _ => some false
  | .lsf _ => some false
  | .seq _ _ _ _ => some false
  | _ => none
def isEq : Cm → Bool
  | .eq => true | .ne => true
  | _ => false
def cmA (c : Cm) (x y : A) : Option A := match c, x, y with
  | c, .int a b, .int u v => (match cmpI c a b u v with
    | some o => some (.bl o)
    | none => none)
  | .isN, a, .non => some (.bl (noN a))
  | .notN, a, .non => some (.bl ((noN a).map fun b => !b))
  | .in_, a, b => (match toSeq bs b with
    | some (_, e, _, _) => if flatA bs 8 a && flatA bs 8 e then some (.bl none) else none
    | none => none)
  | .notIn, a, b => (match toSeq bs b with
    | some (_, e, _, _) => if flatA bs 8 a && flatA bs 8 e then some (.bl none) else none
    | none => none)
  | c, .str _, .str _ => if isEq c then some (.bl none) else none
  | c, .bl _, .bl _ => if isEq c then some (.bl none) else none
  | c, .non, .non => if isEq c then some (.bl none) else none
  | c, x, y => if is6 c && isI x && isI y then some (.bl none) else none
end
theorem flatA_ok {P : Nat → D → Prop} {bs : Nat → A} (hb : ∀ i d, P i d → γ P (bs i) d) : ∀ (n : Nat) {a : A} {d : D}, flatA bs n a = true → γ P a d → d.flat = true := by
  intro n
  induction n with
  | zero => intro a d h; cases h
  | succ n ih =>
    intro a d h hd
    unfold flatA at h
    split at h
    · exact hd.elim
    · obtain ⟨i, rfl, _⟩ := hd; rfl
    · obtain ⟨i, rfl⟩ := hd; rfl
    · obtain ⟨i, rfl, _⟩ := hd; rfl
    · cases (show d = .non from hd); rfl
    · obtain ⟨i, rfl, _⟩ := hd; rfl
    · exact ih h (hb _ _ hd)
    · rw [Bool.and_eq_true] at h
      rcases hd with z | z
      · exact ih h.1 z
      · exact ih h.2 z
    · cases h
theorem noN_ok {P : Nat → D → Prop} {a : A} {d : D} {b : Bool} (h : noN a = some b) (hd : γ P a d) : isN d = b := by
  cases a with
  | non => cases h; cases (show d = .non from hd); rfl
  | int _ _ => cases h; obtain ⟨i, rfl, _⟩ := hd; rfl
  | intU => cases h; obtain ⟨i, rfl⟩ := hd; rfl
  | bl _ => cases h; obtain ⟨i, rfl, _⟩ := hd; rfl
  | str _ => cases h; obtain ⟨i, rfl, _⟩ := hd; rfl
  | scr => cases h; obtain ⟨i, rfl⟩ := hd; rfl
  | tup _ => cases h; obtain ⟨i, rfl, _⟩ := hd; rfl
  | lsf _ => cases h; obtain ⟨i, rfl, _⟩ := hd; rfl
  | seq t _ _ _ => cases h; obtain ⟨i, rfl, _⟩ := hd; cases t <;> rfl
  | _ => cases h
theorem isEq_ok {c : Cm} (h : isEq c = true) {x y : D} {b : Bool} (e : eqD x y = .ok b) : ∃ k : Bool, cmD c x y = .ok (.bl k) := by
  cases c with
  | eq => exact ⟨b, by show (eqD x y >>= fun r => Res.ok (D.bl r)) = _; rw [e]; rfl⟩
  | ne => exact ⟨!b, by show (eqD x y >>= fun r => Res.ok (D.bl (!r))) = _; rw [e]; rfl⟩
  | _ => cases h
theorem inA_ok {P : Nat → D → Prop} {bs : Nat → A} (hb : ∀ i d, P i d → γ P (bs i) d) {a b e : A} {t : Bool} {l h : Nat} {x y : D} (e1 : toSeq bs b = some (t, e, l, h)) (hf : (flatA bs 8 a && flatA bs 8 e) = true) (hx : γ P a x) (hy : γ P b y) : ∃ k, inD x y = .ok k := by
  obtain ⟨ds, rfl, k1, k2, k3⟩ := toSeq_ok hb e1 hy
  rw [Bool.and_eq_true] at hf
  have fx := flatA_ok hb 8 hf.1 hx
  have fd : ds.all D.flat = true := List.all_eq_true.mpr fun z hz => flatA_ok hb 8 hf.2 (k3 z hz)
  cases t with
  | true => exact ⟨_, if_pos (by rw [fx, fd]; rfl)⟩
  | false => exact ⟨_, if_pos (by rw [fx, fd]; rfl)⟩
theorem cmA_ok {P : Nat → D → Prop} {bs : Nat → A} (hb : ∀ i d, P i d → γ P (bs i) d) {o : Cm} {a b c : A} {x y : D} (e : cmA bs o a b = some c) (hx : γ P a x) (hy : γ P b y) : Ok P (cmD o x y) c := by
  unfold cmA at e
  split at e
  · obtain ⟨i, rfl, h1, h2⟩ := hx
    obtain ⟨j, rfl, h3, h4⟩ := hy
    split at e
    · rename_i q eq
      cases e
      obtain ⟨k, e1, h⟩ := cmpI_ok eq h1 h2 h3 h4
      exact ⟨_, e1, k, rfl, h⟩
    · cases e
  · cases e
    cases (show y = .non from hy)
    exact ⟨_, c_is x, _, rfl, fun k hk => noN_ok hk hx⟩
  · cases e
    cases (show y = .non from hy)
    refine ⟨_, c_no x, _, rfl, fun k hk => ?_⟩
    cases q : noN a with
    | none => rw [q] at hk; cases hk
    | some b =>
      rw [q] at hk
      cases hk
      rw [noN_ok q hx]
  · split at e
    · rename_i e1
      split at e
      · rename_i hf
        cases e
        obtain ⟨k, hk⟩ := inA_ok hb e1 hf hx hy
        exact ⟨.bl k, by show (inD x y >>= fun r => Res.ok (D.bl r)) = _; rw [hk]; rfl, k, rfl, fun _ h => by cases h⟩
      · cases e
    · cases e
  · split at e
    · rename_i e1
      split at e
      · rename_i hf
        cases e
        obtain ⟨k, hk⟩ := inA_ok hb e1 hf hx hy
        exact ⟨.bl (!k), by show (inD x y >>= fun r => Res.ok (D.bl (!r))) = _; rw [hk]; rfl, !k, rfl, fun _ h => by cases h⟩
      · cases e
    · cases e
  · split at e
    · rename_i hq
      cases e
      obtain ⟨i, rfl, _⟩ := hx
      obtain ⟨j, rfl, _⟩ := hy
      obtain ⟨k, hk⟩ := isEq_ok hq (x := .str i) (y := .str j) rfl
      exact ⟨_, hk, k, rfl, fun _ h => by cases h⟩
    · cases e
  · split at e
    · rename_i hq
      cases e
      obtain ⟨i, rfl, _⟩ := hx
      obtain ⟨j, rfl, _⟩ := hy
      obtain ⟨k, hk⟩ := isEq_ok hq (x := .bl i) (y := .bl j) rfl
      exact ⟨_, hk, k, rfl, fun _ h => by cases h⟩
    · cases e
  · split at e
    · rename_i hq
      cases e
      cases (show x = .non from hx)
      cases (show y = .non from hy)
      obtain ⟨k, hk⟩ := isEq_ok hq (x := .non) (y := .non) rfl
      exact ⟨_, hk, k, rfl, fun _ h => by cases h⟩
    · cases e
  · split at e
    · rename_i hq
      cases e
      rw [Bool.and_eq_true, Bool.and_eq_true] at hq
      obtain ⟨i, rfl⟩ := isI_ok hq.1.2 hx
      obtain ⟨j, rfl⟩ := isI_ok hq.2 hy
      obtain ⟨k, hk⟩ := is6_ok hq.1.1 i j
      exact ⟨_, hk, k, rfl, fun _ h => by cases h⟩
    · cases e
/-! ### subscripts -/
section
variable (bs : Nat → A)
def ixA : A → A → Option A
  | .seq _ a l _, .int c d => if (0 ≤ c ∧ d < l) ∨ (-(l : Int) ≤ c ∧ d < 0) then some a else none
  | .tup as, .int c d => if 0 ≤ c ∧ d < as.length then some (joinAll bs ((as.drop c.toNat).take (d.toNat + 1 - c.toNat))) else if -(as.length : Int) ≤ c ∧ d < 0 then some (joinAll bs ((as.drop (as.length + c).toNat).take ((as.length + d).toNat + 1 - (as.length + c).toNat))) else none
  | .lsf as, .int c d => if 0 ≤ c ∧ d < as.length then some (joinAll bs ((as.drop c.toNat).take (d.toNat + 1 - c.toNat))) else if -(as.length : Int) ≤ c ∧ d < 0 then some (joinAll bs ((as.drop (as.length + c).toNat).take ((as.length + d).toNat + 1 - (as.length + c).toNat))) else none
  | _, _ => none
end
theorem ix_sq {t : Bool} {ds : List D} {i : Int} {n : Nat} {a : D} (h : (i = n) ∨ (i < 0 ∧ i + ds.length = n)) (e : ds[n]? = some a) : ixD (sqD t ds) (.int i) = .ok a := by
  have hn : n < ds.length := (List.getElem?_eq_some_iff.mp e).1
  have q : atI ds i = some a := by
    unfold atI ixN
    rcases h with rfl | ⟨h1, h2⟩
    · rw [if_pos (by omega), if_pos (by omega)]
      exact e
    · rw [if_neg (by omega), if_pos (by omega)]
      show ds[((i + (ds.length : Int)).toNat)]? = some a
      rw [h2]
      exact e
  cases t with
  | true => show (match atI ds i with | some d => Res.ok d | none => .bad) = _; rw [q]
  | false => show (match atI ds i with | some d => Res.ok d | none => .bad) = _; rw [q]
theorem mem_win {α : Type} {as : List α} {n lo hi : Nat} {a : α} (e : as[n]? = some a) (h1 : lo ≤ n) (h2 : n ≤ hi) : a ∈ (as.drop lo).take (hi + 1 - lo) := by
  refine List.mem_of_getElem? (i := n - lo) ?_
  rw [List.getElem?_take_of_lt (by omega), List.getElem?_drop, show lo + (n - lo) = n by omega]
  exact e
theorem ixA_ok {P : Nat → D → Prop} {bs : Nat → A} (hb : ∀ i d, P i d → γ P (bs i) d) {a b c : A} {x y : D} (e : ixA bs a b = some c) (hx : γ P a x) (hy : γ P b y) : Ok P (ixD x y) c := by
  have fix : ∀ (as : List A) (t : Bool) (ds : List D) (u v i : Int), γs P as ds → u ≤ i → i ≤ v → (if 0 ≤ u ∧ v < as.length then some (joinAll bs ((as.drop u.toNat).take (v.toNat + 1 - u.toNat))) else if -(as.length : Int) ≤ u ∧ v < 0 then some (joinAll bs ((as.drop (as.length + u).toNat).take ((as.length + v).toNat + 1 - (as.length + u).toNat))) else none) = some c → Ok P (ixD (sqD t ds) (.int i)) c := by
    intro as t ds u v i hs h1 h2 e
    have hl := γs_len hs
    split at e
    · cases e
      obtain ⟨d, hd⟩ : ∃ d, ds[i.toNat]? = some d := ⟨_, List.getElem?_eq_getElem (by omega)⟩
      obtain ⟨a, ha, h3⟩ := γs_get hs hd
      exact ⟨d, ix_sq (.inl (by omega)) hd, joinAll_ok hb (mem_win ha (by omega) (by omega)) h3⟩
    · split at e
      · cases e
        obtain ⟨d, hd⟩ : ∃ d, ds[(as.length + i).toNat]? = some d := ⟨_, List.getElem?_eq_getElem (by omega)⟩
        obtain ⟨a, ha, h3⟩ := γs_get hs hd
        exact ⟨d, ix_sq (.inr ⟨by omega, by omega⟩) hd, joinAll_ok hb (mem_win ha (by omega) (by omega)) h3⟩
      · cases e
  unfold ixA at e
  split at e
  · obtain ⟨ds, rfl, k1, k2, k3⟩ := hx
    obtain ⟨i, rfl, h1, h2⟩ := hy
    split at e
    · rename_i hc
      cases e
      rcases hc with hc | hc
      · obtain ⟨d, hd⟩ : ∃ d, ds[i.toNat]? = some d := ⟨_, List.getElem?_eq_getElem (by omega)⟩
        exact ⟨d, ix_sq (.inl (by omega)) hd, k3 d (List.mem_of_getElem? hd)⟩
      · obtain ⟨d, hd⟩ : ∃ d, ds[(ds.length + i).toNat]? = some d := ⟨_, List.getElem?_eq_getElem (by omega)⟩
        exact ⟨d, ix_sq (.inr ⟨by omega, by omega⟩) hd, k3 d (List.mem_of_getElem? hd)⟩
    · cases e
  · obtain ⟨ds, rfl, hs⟩ := hx
    obtain ⟨i, rfl, h1, h2⟩ := hy
    exact fix _ true ds _ _ i hs h1 h2 e
  · obtain ⟨ds, rfl, hs⟩ := hx
    obtain ⟨i, rfl, h1, h2⟩ := hy
    exact fix _ false ds _ _ i hs h1 h2 e
  · cases e
/-! ### slices; an end is missing, one number, or some number -/
inductive AO where
  | no | one (i : Int) | some_
def γO : AO → Option Int → Prop
  | .no, o => o = none
  | .one i, o => o = some i
  | .some_, o => ∃ i, o = some i
def exO : AO → Option (Option Int)
  | .no => some none
  | .one i => some (some i)
  | .some_ => none
theorem exO_ok {a : AO} {o q : Option Int} (e : exO a = some q) (h : γO a o) : o = q := by
  cases a with
  | no => cases e; exact h
  | one i => cases e; exact h
  | some_ => cases e
def slA (a : A) (lo hi : AO) : Option A := match a with
  | .seq t a l h => (match decide (l = h), exO lo, exO hi with
    | true, some u, some v => (let k := min (HT.sIx h h v - HT.sIx h 0 u) (h - HT.sIx h 0 u); some (.seq t a k k))
    | _, _, _ => some (.seq t a 0 h))
  | .tup as => (match exO lo, exO hi with
    | some u, some v => some (.tup ((as.drop (HT.sIx as.length 0 u)).take (HT.sIx as.length as.length v - HT.sIx as.length 0 u)))
    | _, _ => none)
  | .lsf as => (match exO lo, exO hi with
    | some u, some v => some (.lsf ((as.drop (HT.sIx as.length 0 u)).take (HT.sIx as.length as.length v - HT.sIx as.length 0 u)))
    | _, _ => none)
  | .str m => if m ≤ 1000000 then some (.str m) else none
  | _ => none
theorem slA_ok {P : Nat → D → Prop} {a c : A} {lo hi : AO} {x : D} {u v : Option Int} (e : slA a lo hi = some c) (hx : γ P a x) (hu : γO lo u) (hv : γO hi v) : Ok P (slD x u v) c := by
  have sq : ∀ (t : Bool) (ds : List D), slD (sqD t ds) u v = .ok (sqD t (cutD ds u v)) := fun t ds => by cases t <;> rfl
  have cl : ∀ ds : List D, (cutD ds u v).length = min (HT.sIx ds.length ds.length v - HT.sIx ds.length 0 u) (ds.length - HT.sIx ds.length 0 u) := fun ds => by
    unfold cutD
    rw [List.length_take, List.length_drop]
  have cm : ∀ ds : List D, ∀ z ∈ cutD ds u v, z ∈ ds := fun ds z hz => List.mem_of_mem_drop (List.mem_of_mem_take hz)
  unfold slA at e
  split at e
  · rename_i t a l h
    obtain ⟨ds, rfl, k1, k2, k3⟩ := hx
    split at e
    · rename_i u' v' e0 e1 e2
      have e0 := of_decide_eq_true e0
      cases e
      have hu := exO_ok e1 hu
      have hv := exO_ok e2 hv
      subst hu hv
      have el : ds.length = h := by omega
      refine ⟨_, sq t ds, _, rfl, ?_, ?_, fun z hz => k3 z (cm ds z hz)⟩ <;>
      · rw [cl, el]
        exact Nat.le_refl _
    · cases e
      refine ⟨_, sq t ds, _, rfl, Nat.zero_le _, ?_, fun z hz => k3 z (cm ds z hz)⟩
      rw [cl]
      omega
  · obtain ⟨ds, rfl, hs⟩ := hx
    split at e
    · rename_i e1 e2
      cases e
      have hu := exO_ok e1 hu
      have hv := exO_ok e2 hv
      subst hu hv
      refine ⟨_, rfl, _, rfl, ?_⟩
      unfold cutD
      rw [γs_len hs]
      exact γs_take _ (γs_drop _ hs)
    · cases e
  · obtain ⟨ds, rfl, hs⟩ := hx
    split at e
    · rename_i e1 e2
      cases e
      have hu := exO_ok e1 hu
      have hv := exO_ok e2 hv
      subst hu hv
      refine ⟨_, rfl, _, rfl, ?_⟩
      unfold cutD
      rw [γs_len hs]
      exact γs_take _ (γs_drop _ hs)
    · cases e
  · obtain ⟨z, rfl, h1⟩ := hx
    split at e
    · cases e
      refine ⟨_, if_pos (s24 (by omega)), _, rfl, ?_⟩
      show (((z.cps.toList.drop _).take _).toArray).size ≤ _
      rw [List.size_toArray, List.length_take, List.length_drop]
      have : z.cps.toList.length = z.length := by simp [Str.length]
      omega
    · cases e
  · cases e
/-! ### one-place built-ins -/
def negA : A → Option A
  | .int a b => some (.int (-b) (-a))
  | .intU => some .intU
  | _ => none
theorem negA_ok : R1 negA fun x => intD x >>= fun i => .ok (.int (-i)) := by
  intro P a c d e hd
  cases a with
  | int lo hi => cases e; obtain ⟨i, rfl, h1, h2⟩ := hd; exact ⟨_, rfl, _, rfl, by omega, by omega⟩
  | intU => cases e; obtain ⟨i, rfl⟩ := hd; exact ⟨_, rfl, _, rfl⟩
  | _ => cases e
def notA : A → Option A
  | .bl o => some (.bl (o.map fun b => !b))
  | _ => none
theorem notA_ok : R1 notA fun x => blD x >>= fun b => .ok (.bl (!b)) := by
  intro P a c d e hd
  cases a with
  | bl o =>
    cases e
    obtain ⟨b, rfl, h⟩ := hd
    refine ⟨_, rfl, _, rfl, fun k hk => ?_⟩
    cases o with
    | none => cases hk
    | some q => cases hk; rw [h q rfl]
  | _ => cases e
/-- numbers of up to 250 signs or so -/
def strN (m : Nat) : Option Nat := if m < 10 ^ 3 then some 4 else if m < 10 ^ 6 then some 7 else if m ≤ 10 ^ 19 then some 21 else if m < 10 ^ 75 then some 76 else none
theorem len_str {i : Int} {k : Nat} (hk : 0 < k) (h : i.natAbs < 10 ^ k) : (Str.ofString (toString i)).length ≤ k + 1 := by
  have nat : ∀ n : Nat, n < 10 ^ k → (Str.ofString (toString ((n : Nat) : Int))).length ≤ k := fun n hn => by
    have e := TL.tl_num n
    have l := TL.numL_len hk hn
    have : (Str.ofString (toString ((n : Nat) : Int))).length = (TL.numL n).length := by
      rw [← e]
      show _ = (Str.ofString (toString ((n : Nat) : Int))).cps.toList.length
      simp [Str.length]
    omega
  by_cases h0 : 0 ≤ i
  · obtain ⟨n, rfl⟩ := Int.eq_ofNat_of_zero_le h0
    have := nat n (by omega)
    omega
  · obtain ⟨n, rfl⟩ : ∃ n : Nat, i = -((n + 1 : Nat) : Int) := ⟨i.natAbs - 1, by omega⟩
    have l := nat (n + 1) (by omega)
    have e : toString (-((n + 1 : Nat) : Int)) = "-" ++ toString (n + 1) := rfl
    have e2 : toString (((n + 1 : Nat)) : Int) = toString (n + 1) := rfl
    rw [e2] at l
    rw [e]
    have e3 : ∀ s : String, (Str.ofString s).length = s.toList.length := fun s => by rw [Str.ofString_eq_toList]; simp [Str.length]
    rw [e3] at l ⊢
    rw [String.toList_append, List.length_append]
    have : ("-" : String).toList.length = 1 := by decide
    omega
end PyI
/-! PyA, part 4: built-ins, slots, expressions. -/
namespace PyI
open PySem L2
section
variable {P : Nat → D → Prop}
theorem ints_ok {a b : Int} : ∀ xs : List D, (∀ x ∈ xs, γ P (.int a b) x) → ∃ ns, D.ints xs = some ns ∧ ns.length = xs.length ∧ ∀ n ∈ ns, a ≤ n ∧ n ≤ b
  | [], _ => ⟨[], rfl, rfl, fun n h => by cases h⟩
  | x :: r, h => by
    obtain ⟨i, rfl, h1, h2⟩ := h x List.mem_cons_self
    obtain ⟨ns, e, l, k⟩ := ints_ok r fun y hy => h y (List.mem_cons_of_mem _ hy)
    refine ⟨i :: ns, ?_, by rw [List.length_cons, l]; rfl, fun n hn => ?_⟩
    · show (D.ints r).map (i :: ·) = _
      rw [e]; rfl
    · rcases List.mem_cons.mp hn with z | z
      · rw [z]; exact ⟨h1, h2⟩
      · exact k n z
theorem intsU_ok : ∀ xs : List D, (∀ x ∈ xs, γ P .intU x) → ∃ ns, D.ints xs = some ns
  | [], _ => ⟨[], rfl⟩
  | x :: r, h => by
    obtain ⟨i, rfl⟩ := h x List.mem_cons_self
    obtain ⟨ns, e⟩ := intsU_ok r fun y hy => h y (List.mem_cons_of_mem _ hy)
    refine ⟨i :: ns, ?_⟩
    show (D.ints r).map (i :: ·) = _
    rw [e]; rfl
theorem blsA_ok {o : Option Bool} : ∀ xs : List D, (∀ x ∈ xs, γ P (.bl o) x) → ∃ ns, D.bls xs = some ns
  | [], _ => ⟨[], rfl⟩
  | x :: r, h => by
    obtain ⟨i, rfl, _⟩ := h x List.mem_cons_self
    obtain ⟨ns, e⟩ := blsA_ok r fun y hy => h y (List.mem_cons_of_mem _ hy)
    refine ⟨i :: ns, ?_⟩
    show (D.bls r).map (i :: ·) = _
    rw [e]; rfl
theorem strsA_ok {k : Nat} : ∀ xs : List D, (∀ x ∈ xs, γ P (.str k) x) → ∃ ns, D.strs xs = some ns ∧ ns.length = xs.length ∧ (ns.map (·.length)).sum ≤ xs.length * k
  | [], _ => ⟨[], rfl, rfl, Nat.zero_le _⟩
  | x :: r, h => by
    obtain ⟨i, rfl, h1⟩ := h x List.mem_cons_self
    obtain ⟨ns, e, l, s⟩ := strsA_ok r fun y hy => h y (List.mem_cons_of_mem _ hy)
    refine ⟨i :: ns, ?_, by rw [List.length_cons, l]; rfl, ?_⟩
    · show (D.strs r).map (i :: ·) = _
      rw [e]; rfl
    · rw [List.map_cons, List.sum_cons, List.length_cons, Nat.succ_mul]; omega
theorem minL_in {a b : Int} : ∀ (r : List Int) (m : Int), a ≤ m → m ≤ b → (∀ n ∈ r, a ≤ n ∧ n ≤ b) → a ≤ minL m r ∧ minL m r ≤ b
  | [], m, h1, h2, _ => ⟨h1, h2⟩
  | x :: r, m, h1, h2, h => by
    have hx := h x List.mem_cons_self
    show a ≤ minL (if x < m then x else m) r ∧ minL (if x < m then x else m) r ≤ b
    refine minL_in r _ ?_ ?_ fun n hn => h n (List.mem_cons_of_mem _ hn) <;> split <;> omega
theorem maxL_in {a b : Int} : ∀ (r : List Int) (m : Int), a ≤ m → m ≤ b → (∀ n ∈ r, a ≤ n ∧ n ≤ b) → a ≤ maxL m r ∧ maxL m r ≤ b
  | [], m, h1, h2, _ => ⟨h1, h2⟩
  | x :: r, m, h1, h2, h => by
    have hx := h x List.mem_cons_self
    show a ≤ maxL (if m < x then x else m) r ∧ maxL (if m < x then x else m) r ≤ b
    refine maxL_in r _ ?_ ?_ fun n hn => h n (List.mem_cons_of_mem _ hn) <;> split <;> omega
theorem sum_in {a b : Int} : ∀ (r : List Int), (∀ n ∈ r, a ≤ n ∧ n ≤ b) → (0 ≤ a → 0 ≤ r.sum) ∧ r.sum.natAbs ≤ r.length * im a b
  | [], _ => ⟨fun _ => Int.le_refl _, Nat.zero_le _⟩
  | x :: r, h => by
    have hx := h x List.mem_cons_self
    obtain ⟨h1, h2⟩ := sum_in r fun n hn => h n (List.mem_cons_of_mem _ hn)
    have := im_ok hx.1 hx.2
    rw [List.sum_cons, List.length_cons, Nat.succ_mul]
    exact ⟨fun z => by have := h1 z; omega, by omega⟩
end
/-! ### built-ins -/
section
variable (bs : Nat → A)
/-- items that can be sorted -/
def srtA : A → Bool
  | .bot => true
  | .int _ _ => true
  | .intU => true
  | .tup as => !as.isEmpty && as.all isI
  | _ => false
def biS (b : Bi) (x : Option (Bool × A × Nat × Nat)) : Option A := match b, x with
  | .min, some (false, .int a b, l, _) => if 1 ≤ l then some (.int a b) else none
  | .max, some (false, .int a b, l, _) => if 1 ≤ l then some (.int a b) else none
  | .sum, some (_, .int a b, _, h) => some (.int (if 0 ≤ a then 0 else -((h * im a b : Nat) : Int)) (h * im a b : Nat))
  | .sum, some (_, .intU, _, _) => some .intU
  | .sum, some (_, .bot, _, _) => some (.int 0 0)
  | .all, some (false, .bl _, _, _) => some (.bl none)
  | .any, some (false, .bl _, _, _) => some (.bl none)
  | .sorted, some (false, a, l, h) => if srtA a then some (.seq false a l h) else none
  | _, _ => none
def biA1 (b : Bi) (x : A) : Option A := match b, x with
  | .len, .seq _ _ l h => some (.int l h)
  | .len, .tup as => some (.int as.length as.length)
  | .len, .lsf as => some (.int as.length as.length)
  | .len, .str m => if m ≤ 1000000 then some (.int 0 m) else none
  | .abs, .int a b => some (.int 0 (im a b : Nat))
  | .abs, .intU => some .intU
  | .int, .int a b => some (.int a b)
  | .int, .intU => some .intU
  | .int, .bl _ => some (.int 0 1)
  | .str, .int a b => (match strN (im a b) with
    | some k => some (.str k)
    | none => none)
  | .tuple, .tup as => some (.tup as)
  | .tuple, .lsf as => some (.tup as)
  | .tuple, .seq _ a l h => some (.seq true a l h)
  | .list, .tup as => some (.lsf as)
  | .list, .lsf as => some (.lsf as)
  | .list, .seq _ a l h => some (.seq false a l h)
  | b, x => biS b (toSeq bs x)
def biA2 (b : Bi) (x y : A) : Option A := match b, x, y with
  | .min, .int a b, .int c d => some (.int (if c < a then c else a) (if d < b then d else b))
  | .max, .int a b, .int c d => some (.int (if a < c then c else a) (if b < d then d else b))
  | .gcd, .int _ _, .int _ _ => some .intU
  | _, _, _ => none
end
theorem strN_ok {m k : Nat} {i : Int} (e : strN m = some k) (h : i.natAbs ≤ m) : biD .str [.int i] = .ok (.str (Str.ofString (toString i))) ∧ (Str.ofString (toString i)).length ≤ k := by
  have lg : m < 10 ^ 75 → i.natAbs.log2 < 1920 := fun hm => by
    by_cases z : i.natAbs = 0
    · rw [z]; decide
    · exact Nat.lt_of_lt_of_le ((Nat.log2_lt z).mpr (Nat.lt_of_lt_of_le (Nat.lt_of_le_of_lt h hm) (show 10 ^ 75 ≤ 2 ^ 250 by decide))) (by decide)
  have h3 : (10 : Nat) ^ 3 ≤ 10 ^ 75 := by decide
  have h6 : (10 : Nat) ^ 6 ≤ 10 ^ 75 := by decide
  have h19 : (10 : Nat) ^ 19 < 10 ^ 75 := by decide
  have h20 : (10 : Nat) ^ 19 < 10 ^ 20 := by decide
  have big : m < 10 ^ 75 := by
    unfold strN at e
    split at e
    · omega
    · split at e
      · omega
      · split at e
        · omega
        · by_cases z : m < 10 ^ 75
          · exact z
          · rw [if_neg z] at e; cases e
  refine ⟨if_pos (lg big), ?_⟩
  unfold strN at e
  split at e
  · cases e; exact len_str (by decide) (by omega)
  · split at e
    · cases e; exact len_str (by decide) (by omega)
    · split at e
      · cases e; exact len_str (k := 20) (by decide) (by omega)
      · cases e; exact len_str (by decide) (by omega)
theorem intsI_ok {P : Nat → D → Prop} : ∀ {as : List A} {xs : List D}, as.all isI = true → γs P as xs → ∃ ns, D.ints xs = some ns ∧ xs = ns.map D.int
  | [], xs, _, h => by cases (show xs = [] from h); exact ⟨[], rfl, rfl⟩
  | a :: as, xs, e, h => by
    obtain ⟨d, r, rfl, h1, h2⟩ := h
    rw [List.all_cons, Bool.and_eq_true] at e
    obtain ⟨i, rfl⟩ := isI_ok e.1 h1
    obtain ⟨ns, e1, e2⟩ := intsI_ok e.2 h2
    refine ⟨i :: ns, ?_, by rw [e2]; rfl⟩
    show (D.ints r).map (i :: ·) = _
    rw [e1]; rfl
theorem intsD_ok : ∀ {xs : List D}, (∀ x ∈ xs, ∃ i, x = .int i) → ∃ ns, D.ints xs = some ns ∧ xs = ns.map D.int
  | [], _ => ⟨[], rfl, rfl⟩
  | d :: r, h => by
    obtain ⟨i, rfl⟩ := h d List.mem_cons_self
    obtain ⟨ns, e1, e2⟩ := intsD_ok fun x hx => h x (List.mem_cons_of_mem _ hx)
    refine ⟨i :: ns, ?_, by rw [e2]; rfl⟩
    show (D.ints r).map (i :: ·) = _
    rw [e1]; rfl
theorem rowsD_ok : ∀ {xs : List D}, (∀ x ∈ xs, ∃ ns, ns ≠ [] ∧ x = tupI ns) → ∃ rs, D.rows xs = some rs ∧ xs = rs.map tupI
  | [], _ => ⟨[], rfl, rfl⟩
  | d :: r, h => by
    obtain ⟨ns, hn, rfl⟩ := h d List.mem_cons_self
    obtain ⟨rs, e1, e2⟩ := rowsD_ok fun x hx => h x (List.mem_cons_of_mem _ hx)
    obtain ⟨n, ns, rfl⟩ : ∃ n m, ns = n :: m := by cases ns with
      | nil => exact absurd rfl hn
      | cons n m => exact ⟨n, m, rfl⟩
    have ei : ∀ l : List Int, D.ints (l.map D.int) = some l := fun l => by
      induction l with
      | nil => rfl
      | cons a l ih => show (D.ints (l.map D.int)).map (a :: ·) = _; rw [ih]; rfl
    refine ⟨(n :: ns) :: rs, ?_, by rw [e2]; rfl⟩
    show (match D.ints ((n :: ns).map D.int), D.rows r with
      | some (n :: ns), some rs => some ((n :: ns) :: rs)
      | _, _ => none) = _
    rw [ei, e1]
theorem sorted_ok {P : Nat → D → Prop} {a : A} {l h : Nat} {ds : List D} (e : srtA a = true) (h1 : l ≤ ds.length) (h2 : ds.length ≤ h) (h3 : ∀ x ∈ ds, γ P a x) : Ok P (biD .sorted [.lst ds]) (.seq false a l h) := by
  have asInts : (∀ x ∈ ds, ∃ i, x = .int i) → Ok P (biD .sorted [.lst ds]) (.seq false a l h) := fun hi => by
    obtain ⟨ns, e1, e2⟩ := intsD_ok hi
    have pm : ((sortI ns).map D.int).Perm ds := by rw [e2]; exact (sortI_perm ns).map D.int
    refine ⟨.lst ((sortI ns).map D.int), ?_, _, rfl, by rw [pm.length_eq]; exact h1, by rw [pm.length_eq]; exact h2, fun x hx => h3 x (pm.mem_iff.mp hx)⟩
    show sortedD ds = _
    unfold sortedD
    rw [e1]
  cases a with
  | bot => exact asInts fun x hx => (h3 x hx).elim
  | int lo hi => exact asInts fun x hx => by obtain ⟨i, hi, _⟩ := h3 x hx; exact ⟨i, hi⟩
  | intU => exact asInts fun x hx => h3 x hx
  | tup as =>
    have e : (!as.isEmpty && as.all isI) = true := e
    rw [Bool.and_eq_true] at e
    cases ds with
    | nil => exact asInts fun x hx => by cases hx
    | cons d r =>
      obtain ⟨rs, e1, e2⟩ := rowsD_ok (xs := d :: r) fun x hx => by
        obtain ⟨xs, rfl, hs⟩ := h3 x hx
        obtain ⟨ns, _, e4⟩ := intsI_ok e.2 hs
        refine ⟨ns, fun z => ?_, by rw [e4]; rfl⟩
        have hl := γs_len hs
        rw [e4, z] at hl
        have : as = [] := List.eq_nil_of_length_eq_zero hl.symm
        rw [this] at e
        exact absurd e.1 (by decide)
      have pm : ((sortT rs).map tupI).Perm (d :: r) := by rw [e2]; exact (sortT_perm rs).map tupI
      refine ⟨.lst ((sortT rs).map tupI), ?_, _, rfl, by rw [pm.length_eq]; exact h1, by rw [pm.length_eq]; exact h2, fun x hx => h3 x (pm.mem_iff.mp hx)⟩
      show sortedD (d :: r) = _
      unfold sortedD
      have none' : D.ints (d :: r) = none := by
        obtain ⟨xs, hd, _⟩ := h3 d List.mem_cons_self
        rw [hd]; rfl
      rw [none', e1]
  | _ => cases e
theorem biS_ok {P : Nat → D → Prop} {bs : Nat → A} (hb : ∀ i d, P i d → γ P (bs i) d) {b : Bi} {a c : A} {x : D} {o : Option (Bool × A × Nat × Nat)} (eo : toSeq bs a = o) (e : biS b o = some c) (hx : γ P a x) : Ok P (biD b [x]) c := by
  unfold biS at e
  split at e
  · skip
    split at e
    · cases e
      obtain ⟨ds, rfl, k1, k2, k3⟩ := toSeq_ok hb eo hx
      obtain ⟨ns, n1, n2, n3⟩ := ints_ok ds k3
      match ns, n1, n2, n3 with
      | [], _, n2, _ => have : ([] : List Int).length = 0 := rfl; omega
      | n :: r, n1, _, n3 =>
        refine ⟨.int (minL n r), ?_, _, rfl, minL_in r n (n3 n List.mem_cons_self).1 (n3 n List.mem_cons_self).2 fun q hq => n3 q (List.mem_cons_of_mem _ hq)⟩
        show (match D.ints ds with
          | some (x :: r) => Res.ok (D.int (minL x r))
          | _ => .bad) = _
        rw [n1]
    · cases e
  · skip
    split at e
    · cases e
      obtain ⟨ds, rfl, k1, k2, k3⟩ := toSeq_ok hb eo hx
      obtain ⟨ns, n1, n2, n3⟩ := ints_ok ds k3
      match ns, n1, n2, n3 with
      | [], _, n2, _ => have : ([] : List Int).length = 0 := rfl; omega
      | n :: r, n1, _, n3 =>
        refine ⟨.int (maxL n r), ?_, _, rfl, maxL_in r n (n3 n List.mem_cons_self).1 (n3 n List.mem_cons_self).2 fun q hq => n3 q (List.mem_cons_of_mem _ hq)⟩
        show (match D.ints ds with
          | some (x :: r) => Res.ok (D.int (maxL x r))
          | _ => .bad) = _
        rw [n1]
    · cases e
  · rename_i t u v _ h
    cases e
    obtain ⟨ds, rfl, k1, k2, k3⟩ := toSeq_ok hb eo hx
    obtain ⟨ns, n1, n2, n3⟩ := ints_ok ds k3
    obtain ⟨s1, s2⟩ := sum_in ns n3
    have s3 : ns.length * im u v ≤ h * im u v := Nat.mul_le_mul_right _ (by omega)
    refine ⟨.int ns.sum, ?_, _, rfl, ?_, by omega⟩
    · cases t with
      | true => show (match D.ints ds with | some ns => Res.ok (D.int ns.sum) | _ => .bad) = _; rw [n1]
      | false => show (match D.ints ds with | some ns => Res.ok (D.int ns.sum) | _ => .bad) = _; rw [n1]
    · split
      · exact s1 (by assumption)
      · omega
  · rename_i t _ _
    cases e
    obtain ⟨ds, rfl, k1, k2, k3⟩ := toSeq_ok hb eo hx
    obtain ⟨ns, n1⟩ := intsU_ok ds k3
    refine ⟨.int ns.sum, ?_, _, rfl⟩
    cases t with
    | true => show (match D.ints ds with | some ns => Res.ok (D.int ns.sum) | _ => .bad) = _; rw [n1]
    | false => show (match D.ints ds with | some ns => Res.ok (D.int ns.sum) | _ => .bad) = _; rw [n1]
  · rename_i t _ _
    cases e
    obtain ⟨ds, rfl, k1, k2, k3⟩ := toSeq_ok hb eo hx
    match ds, k3 with
    | [], _ =>
      cases t with
      | true => exact ⟨_, rfl, _, rfl, Int.le_refl _, Int.le_refl _⟩
      | false => exact ⟨_, rfl, _, rfl, Int.le_refl _, Int.le_refl _⟩
    | d :: r, k3 => exact (k3 d List.mem_cons_self).elim
  · skip
    cases e
    obtain ⟨ds, rfl, k1, k2, k3⟩ := toSeq_ok hb eo hx
    obtain ⟨ns, n1⟩ := blsA_ok ds k3
    refine ⟨.bl (ns.all id), ?_, _, rfl, fun _ h => by cases h⟩
    show (match D.bls ds with | some bs => Res.ok (D.bl (bs.all id)) | _ => .bad) = _
    rw [n1]
  · skip
    cases e
    obtain ⟨ds, rfl, k1, k2, k3⟩ := toSeq_ok hb eo hx
    obtain ⟨ns, n1⟩ := blsA_ok ds k3
    refine ⟨.bl (ns.any id), ?_, _, rfl, fun _ h => by cases h⟩
    show (match D.bls ds with | some bs => Res.ok (D.bl (bs.any id)) | _ => .bad) = _
    rw [n1]
  · rename_i a' l h
    split at e
    · rename_i hs
      cases e
      obtain ⟨ds, rfl, k1, k2, k3⟩ := toSeq_ok hb eo hx
      exact sorted_ok hs k1 k2 k3
    · cases e
  · cases e
theorem biA1_ok {P : Nat → D → Prop} {bs : Nat → A} (hb : ∀ i d, P i d → γ P (bs i) d) {b : Bi} {a c : A} {x : D} (e : biA1 bs b a = some c) (hx : γ P a x) : Ok P (biD b [x]) c := by
  unfold biA1 at e
  split at e
  · rename_i t a l h
    cases e
    obtain ⟨ds, rfl, h1, h2, _⟩ := hx
    cases t with
    | true => exact ⟨_, rfl, _, rfl, by omega, by omega⟩
    | false => exact ⟨_, rfl, _, rfl, by omega, by omega⟩
  · cases e
    obtain ⟨ds, rfl, h1⟩ := hx
    have := γs_len h1
    exact ⟨_, rfl, _, rfl, by omega, by omega⟩
  · cases e
    obtain ⟨ds, rfl, h1⟩ := hx
    have := γs_len h1
    exact ⟨_, rfl, _, rfl, by omega, by omega⟩
  · split at e
    · cases e
      obtain ⟨z, rfl, h1⟩ := hx
      refine ⟨.int z.length, ?_, _, rfl, by omega, by omega⟩
      show (lenD (.str z) >>= fun n => Res.ok (D.int n)) = _
      rw [show lenD (.str z) = .ok z.length from if_pos (s24 (by omega))]
      rfl
    · cases e
  · cases e
    obtain ⟨i, rfl, h1, h2⟩ := hx
    have := im_ok h1 h2
    exact ⟨_, b_abs i, _, rfl, by split <;> omega, by split <;> omega⟩
  · cases e
    obtain ⟨i, rfl⟩ := hx
    exact ⟨_, b_abs i, _, rfl⟩
  · cases e
    obtain ⟨i, rfl, h1, h2⟩ := hx
    exact ⟨_, rfl, _, rfl, h1, h2⟩
  · cases e
    obtain ⟨i, rfl⟩ := hx
    exact ⟨_, rfl, _, rfl⟩
  · cases e
    obtain ⟨i, rfl, _⟩ := hx
    exact ⟨_, rfl, _, rfl, by split <;> omega, by split <;> omega⟩
  · rename_i u v
    cases q : strN (im u v) with
    | none => rw [q] at e; cases e
    | some k =>
      rw [q] at e
      cases e
      obtain ⟨i, rfl, h1, h2⟩ := hx
      obtain ⟨e1, e2⟩ := strN_ok q (im_ok h1 h2)
      exact ⟨_, e1, _, rfl, e2⟩
  · cases e; obtain ⟨ds, rfl, h1⟩ := hx; exact ⟨_, rfl, _, rfl, h1⟩
  · cases e; obtain ⟨ds, rfl, h1⟩ := hx; exact ⟨_, rfl, _, rfl, h1⟩
  · rename_i t _ _ _
    cases e
    obtain ⟨ds, rfl, h1⟩ := hx
    cases t with
    | true => exact ⟨_, rfl, _, rfl, h1⟩
    | false => exact ⟨_, rfl, _, rfl, h1⟩
  · cases e; obtain ⟨ds, rfl, h1⟩ := hx; exact ⟨_, rfl, _, rfl, h1⟩
  · cases e; obtain ⟨ds, rfl, h1⟩ := hx; exact ⟨_, rfl, _, rfl, h1⟩
  · rename_i t _ _ _
    cases e
    obtain ⟨ds, rfl, h1⟩ := hx
    cases t with
    | true => exact ⟨_, rfl, _, rfl, h1⟩
    | false => exact ⟨_, rfl, _, rfl, h1⟩
  · exact biS_ok hb rfl e hx
theorem biA2_ok {P : Nat → D → Prop} {b : Bi} {a a' c : A} {x y : D} (e : biA2 b a a' = some c) (hx : γ P a x) (hy : γ P a' y) : Ok P (biD b [x, y]) c := by
  unfold biA2 at e
  split at e
  · cases e
    obtain ⟨i, rfl, h1, h2⟩ := hx
    obtain ⟨j, rfl, h3, h4⟩ := hy
    exact ⟨_, b_min i j, _, rfl, by split <;> split <;> omega, by split <;> split <;> omega⟩
  · cases e
    obtain ⟨i, rfl, h1, h2⟩ := hx
    obtain ⟨j, rfl, h3, h4⟩ := hy
    exact ⟨_, b_max i j, _, rfl, by split <;> split <;> omega, by split <;> split <;> omega⟩
  · cases e
    obtain ⟨i, rfl, h1, h2⟩ := hx
    obtain ⟨j, rfl, h3, h4⟩ := hy
    exact ⟨_, rfl, _, rfl⟩
  · cases e
def tyA : A → Option String
  | .int _ _ => some "int"
  | .intU => some "int"
  | .bl _ => some "bool"
  | .non => some "NoneType"
  | .str _ => some "str"
  | .scr => some "list"
  | .tup _ => some "tuple"
  | .lsf _ => some "list"
  | .seq t _ _ _ => some (if t then "tuple" else "list")
  | _ => none
def isiA (t : String) (a : A) : Option A := match tyA a with
  | some s => (kitB s t).map fun b => .bl (some b)
  | none => (match a with
    | .any _ => if ["int", "bool", "NoneType", "str", "tuple", "list"].all fun s => (kitB s t).isSome then some (.bl none) else none
    | _ => none)
theorem tyA_ok {P : Nat → D → Prop} {a : A} {d : D} {s : String} (e : tyA a = some s) (h : γ P a d) : d.ty = s := by
  cases a with
  | int _ _ => cases e; obtain ⟨i, rfl, _⟩ := h; rfl
  | intU => cases e; obtain ⟨i, rfl⟩ := h; rfl
  | bl _ => cases e; obtain ⟨i, rfl, _⟩ := h; rfl
  | non => cases e; cases (show d = .non from h); rfl
  | str _ => cases e; obtain ⟨i, rfl, _⟩ := h; rfl
  | scr => cases e; obtain ⟨i, rfl⟩ := h; rfl
  | tup _ => cases e; obtain ⟨i, rfl, _⟩ := h; rfl
  | lsf _ => cases e; obtain ⟨i, rfl, _⟩ := h; rfl
  | seq t _ _ _ => cases e; obtain ⟨i, rfl, _⟩ := h; cases t <;> rfl
  | _ => cases e
theorem isiA_ok (t : String) : R1 (isiA t) fun x => isiD x t := by
  intro P a c d e hd
  unfold isiA at e
  split at e
  · rename_i s es
    have ht := tyA_ok es hd
    cases q : kitB s t with
    | none => rw [q] at e; cases e
    | some b =>
      rw [q] at e
      cases e
      refine ⟨.bl b, ?_, b, rfl, fun k hk => by cases hk; rfl⟩
      show (match kitB d.ty t with | some b => Res.ok (D.bl b) | none => .bad) = _
      rw [ht, q]
  · split at e
    · split at e
      · rename_i hs
        cases e
        have : (kitB d.ty t).isSome = true := by
          rw [List.all_eq_true] at hs
          cases hd with
          | int n i => exact hs "int" (by simp)
          | bl n i => exact hs "bool" (by simp)
          | non n => exact hs "NoneType" (by simp)
          | str n s h => exact hs "str" (by simp)
          | tup n xs _ _ => exact hs "tuple" (by simp)
          | lst n xs _ _ => exact hs "list" (by simp)
        obtain ⟨b, hb⟩ := Option.isSome_iff_exists.mp this
        refine ⟨.bl b, ?_, b, rfl, fun k hk => by cases hk⟩
        show (match kitB d.ty t with | some b => Res.ok (D.bl b) | none => .bad) = _
        rw [hb]
      · cases e
    · cases e
/-! ### methods -/
section
variable (bs : Nat → A)
def meA (m : Me) (x : A) (xs : List A) : Option A := match m, x, xs with
  | .upper, .str m, [] => if m ≤ 300000 then some (.str (3 * m)) else none
  | .join, .str m, [y] => (match toSeq bs y with
    | some (false, .str k, _, h) => if h * (k + m) ≤ 1000000 then some (.str (h * (k + m))) else none
    | some (false, .bot, _, _) => some (.str 0)
    | _ => none)
  | _, _, _ => none
end
theorem join_len (x : Str) (ys : List Str) (n k m : Nat) (h1 : ys.length ≤ n) (h2 : (ys.map (·.length)).sum ≤ ys.length * k) (h3 : x.length ≤ m) : (Txt.join x ys).length ≤ n * (k + m) := by
  show (Builtin.Str.glued x ys).length ≤ _
  rw [PySem.size_glued]
  have a : (ys.length - 1) * x.length ≤ n * m := Nat.mul_le_mul (by omega) h3
  have b : ys.length * k ≤ n * k := Nat.mul_le_mul_right _ h1
  rw [Nat.mul_add]
  omega
theorem meA_ok {P : Nat → D → Prop} {bs : Nat → A} (hb : ∀ i d, P i d → γ P (bs i) d) {m : Me} {a c : A} {as : List A} {x : D} {ds : List D} (e : meA bs m a as = some c) (hx : γ P a x) (hs : γs P as ds) : Ok P (meT m x >>= fun _ => meD m x ds) c := by
  unfold meA at e
  split at e
  · split at e
    · cases e
      obtain ⟨z, rfl, h1⟩ := hx
      cases (show ds = [] from hs)
      refine ⟨.str (Txt.upper z), ?_, _, rfl, ?_⟩
      · show (if z.length ≤ 5592405 then Res.ok (D.str (Txt.upper z)) else .bad) = _
        rw [if_pos (by omega)]
      · have := PyProof.Rows.len_upper z
        omega
    · cases e
  · obtain ⟨z, rfl, h1⟩ := hx
    obtain ⟨y, r, rfl, hy, hr⟩ := hs
    cases (show r = [] from hr)
    split at e
    · rename_i k _ h e1
      split at e
      · cases e
        obtain ⟨ds, rfl, k1, k2, k3⟩ := toSeq_ok hb e1 hy
        obtain ⟨ns, n1, n2, n3⟩ := strsA_ok ds k3
        have fit : (ns.map (·.length)).sum + ns.length * z.length ≤ 16777216 := by
          have a1 : ns.length * z.length ≤ h * _ := Nat.mul_le_mul (by omega) h1
          have a2 : ds.length * k ≤ h * k := Nat.mul_le_mul_right _ k2
          rename_i hc
          rw [Nat.mul_add] at hc
          omega
        refine ⟨.str (Txt.join z ns), ?_, _, rfl, join_len z ns h k _ (by omega) (by rw [n2]; exact n3) h1⟩
        show (match D.strs ds with
          | some ys => if (ys.map (fun w : Str => w.length)).sum + ys.length * z.length ≤ 16777216 then Res.ok (D.str (Txt.join z ys)) else .bad
          | none => .bad) = _
        rw [n1]
        exact if_pos fit
      · cases e
    · rename_i e1
      cases e
      obtain ⟨ds, rfl, k1, k2, k3⟩ := toSeq_ok hb e1 hy
      match ds, k3 with
      | [], _ =>
        refine ⟨.str (Txt.join z []), ?_, _, rfl, Nat.le_refl _⟩
        show (if _ then _ else _) = _
        exact if_pos (by show 0 + 0 * z.length ≤ 16777216; omega)
      | d :: r, k3 => exact (k3 d List.mem_cons_self).elim
    · cases e
  · cases e
end PyI
/-! PyA, part 5: slots and expressions. -/
namespace PyI
open PySem L2
/-- a slot: anything; a value; a list of its own; a list, its own or not -/
inductive AC where
  | top | v (a : A) | o (a : A) (lo hi : Nat) | l (a : A) (lo hi : Nat)
  deriving Inhabited
abbrev AEnv := List AC
section
variable (P : Nat → D → Prop)
def γL (a : A) (lo hi : Nat) (ds : List D) : Prop := lo ≤ ds.length ∧ ds.length ≤ hi ∧ ∀ x ∈ ds, γ P a x
def γC : AC → Option C → Prop
  | .top, _ => True
  | .v a, c => ∃ d, c = some (.v d) ∧ γ P a d
  | .o a lo hi, c => ∃ ds, c = some (.o ds) ∧ γL P a lo hi ds
  | .l a lo hi, c => ∃ ds, (c = some (.o ds) ∨ c = some (.v (.lst ds))) ∧ γL P a lo hi ds
def γE : AEnv → PyI.Env → Prop
  | [], σ => σ = []
  | a :: E, σ => ∃ c r, σ = c :: r ∧ γC P a c ∧ γE E r
end
def agV (E : AEnv) (i : Nat) : Option A := match E[i]? with
  | some (.v a) => some a
  | some (.o a l h) => some (.seq false a l h)
  | some (.l a l h) => some (.seq false a l h)
  | _ => none
def agP (E : AEnv) (i : Nat) : Option A := match E[i]? with
  | some (.v a) => some a
  | _ => none
section
variable {P : Nat → D → Prop}
theorem γE_len : ∀ {E : AEnv} {σ : PyI.Env}, γE P E σ → σ.length = E.length
  | [], σ, h => by cases (show σ = [] from h); rfl
  | a :: E, σ, h => by
    obtain ⟨c, r, rfl, _, h2⟩ := h
    rw [List.length_cons, List.length_cons, γE_len h2]
theorem γE_get : ∀ {E : AEnv} {σ : PyI.Env} {i : Nat} {a : AC}, γE P E σ → E[i]? = some a → ∃ c, σ[i]? = some c ∧ γC P a c
  | [], σ, i, a, h, e => by cases e
  | b :: E, σ, i, a, h, e => by
    obtain ⟨c, r, rfl, h1, h2⟩ := h
    cases i with
    | zero => cases e; exact ⟨c, rfl, h1⟩
    | succ i => exact γE_get (i := i) h2 e
theorem γE_set : ∀ {E : AEnv} {σ : PyI.Env} (i : Nat) {a : AC} {c : Option C}, γE P E σ → γC P a c → γE P (E.set i a) (σ.set i c)
  | [], σ, i, a, c, h, hc => by cases (show σ = [] from h); exact rfl
  | b :: E, σ, i, a, c, h, hc => by
    obtain ⟨c', r, rfl, h1, h2⟩ := h
    cases i with
    | zero => exact ⟨c, r, rfl, hc, h2⟩
    | succ i => exact ⟨c', r.set i c, rfl, h1, γE_set i h2 hc⟩
theorem γE_keep : ∀ {E : AEnv} {σ : PyI.Env} (i : Nat) {a : AC}, γE P E σ → (∀ c, σ[i]? = some c → γC P a c) → γE P (E.set i a) σ
  | [], σ, i, a, h, hc => h
  | b :: E, σ, i, a, h, hc => by
    obtain ⟨c', r, rfl, h1, h2⟩ := h
    cases i with
    | zero => exact ⟨c', r, rfl, hc c' rfl, h2⟩
    | succ i => exact ⟨c', r, rfl, h1, γE_keep i h2 fun c e => hc c e⟩
theorem agV_ok {E : AEnv} {σ : PyI.Env} {i : Nat} {a : A} (h : γE P E σ) (e : agV E i = some a) : Ok P (getV σ i) a := by
  unfold agV at e
  split at e
  · rename_i ei
    cases e
    obtain ⟨c, e1, d, rfl, hd⟩ := γE_get h ei
    refine ⟨d, ?_, hd⟩
    unfold getV
    rw [e1]
  · rename_i ei
    cases e
    obtain ⟨c, e1, ds, rfl, hd⟩ := γE_get h ei
    refine ⟨.lst ds, ?_, ds, rfl, hd.1, hd.2.1, hd.2.2⟩
    unfold getV
    rw [e1]
  · rename_i ei
    cases e
    obtain ⟨c, e1, ds, hc, hd⟩ := γE_get h ei
    refine ⟨.lst ds, ?_, ds, rfl, hd.1, hd.2.1, hd.2.2⟩
    unfold getV
    rw [e1]
    rcases hc with rfl | rfl <;> rfl
  · cases e
theorem agP_ok {E : AEnv} {σ : PyI.Env} {i : Nat} {a : A} (h : γE P E σ) (e : agP E i = some a) : Ok P (getP σ i) a := by
  unfold agP at e
  split at e
  · rename_i ei
    cases e
    obtain ⟨c, e1, d, rfl, hd⟩ := γE_get h ei
    refine ⟨d, ?_, hd⟩
    unfold getP
    rw [e1]
  · cases e
end
def wipeA (E : AEnv) : List Nat → AEnv
  | [] => E
  | i :: r => (wipeA E r).set i .top
theorem wipeA_ok {P : Nat → D → Prop} {E : AEnv} {σ : PyI.Env} (h : γE P E σ) : ∀ L, γE P (wipeA E L) (wipeD σ L)
  | [] => h
  | i :: r => γE_set i (wipeA_ok h r) trivial
section
variable (bs : Nat → A)
def parts : A → Option (List A)
  | .tup as => some as
  | .seq true a l h => if l = h then some (List.replicate h a) else none
  | .p i => (match bs i with
    | .tup as => some as
    | _ => none)
  | _ => none
mutual
def asgA : Tg → A → AEnv → Option AEnv
  | .nm i, a, E => if i < E.length then some (E.set i (.v a)) else none
  | .tup ts, a, E => (match parts bs a with
    | some as => asgsA ts as E
    | none => none)
def asgsA : List Tg → List A → AEnv → Option AEnv
  | [], [], E => some E
  | t :: ts, a :: as, E => (match asgA t a E with
    | some E1 => asgsA ts as E1
    | none => none)
  | _, _, _ => none
end
end
theorem γs_rep {P : Nat → D → Prop} {a : A} : ∀ {n : Nat} {ds : List D}, ds.length = n → (∀ x ∈ ds, γ P a x) → γs P (List.replicate n a) ds
  | 0, ds, e, h => List.eq_nil_of_length_eq_zero e
  | n + 1, [], e, h => by cases e
  | n + 1, d :: r, e, h => ⟨d, r, rfl, h d List.mem_cons_self, γs_rep (by simpa using e) fun x hx => h x (List.mem_cons_of_mem _ hx)⟩
theorem parts_ok {P : Nat → D → Prop} {bs : Nat → A} (hb : ∀ i d, P i d → γ P (bs i) d) {a : A} {as : List A} {d : D} (e : parts bs a = some as) (hd : γ P a d) : ∃ ds, d = .tup ds ∧ γs P as ds := by
  unfold parts at e
  split at e
  · cases e; exact hd
  · split at e
    · cases e
      obtain ⟨ds, rfl, k1, k2, k3⟩ := hd
      exact ⟨ds, rfl, γs_rep (by omega) k3⟩
    · cases e
  · split at e
    · rename_i eb
      cases e
      have hd := hb _ _ hd
      rw [eb] at hd
      exact hd
    · cases e
  · cases e
mutual
theorem asgA_ok {P : Nat → D → Prop} {bs : Nat → A} (hb : ∀ i d, P i d → γ P (bs i) d) : ∀ (t : Tg) (a : A) (E E1 : AEnv) (σ : PyI.Env) (d : D), asgA bs t a E = some E1 → γE P E σ → γ P a d → ∃ σ1, asg t d σ = .ok σ1 ∧ γE P E1 σ1
  | .nm i, a, E, E1, σ, d, e, h, hd => by
    have e : (if i < E.length then some (E.set i (.v a)) else none) = some E1 := by
      unfold asgA at e; exact e
    split at e
    · cases e
      refine ⟨σ.set i (some (.v d)), ?_, γE_set i h ⟨d, rfl, hd⟩⟩
      rw [asg1, if_pos (by rw [γE_len h]; assumption)]
    · cases e
  | .tup ts, a, E, E1, σ, d, e, h, hd => by
    unfold asgA at e
    split at e
    · rename_i as ep
      obtain ⟨ds, rfl, hs⟩ := parts_ok hb ep hd
      exact asgsA_ok hb ts as E E1 σ ds e h hs
    · cases e
theorem asgsA_ok {P : Nat → D → Prop} {bs : Nat → A} (hb : ∀ i d, P i d → γ P (bs i) d) : ∀ (ts : List Tg) (as : List A) (E E1 : AEnv) (σ : PyI.Env) (ds : List D), asgsA bs ts as E = some E1 → γE P E σ → γs P as ds → ∃ σ1, asgs ts ds σ = .ok σ1 ∧ γE P E1 σ1
  | [], [], E, E1, σ, ds, e, h, hs => by
    unfold asgsA at e
    cases e
    cases (show ds = [] from hs)
    exact ⟨σ, asg0, h⟩
  | [], _ :: _, E, E1, σ, ds, e, h, hs => by unfold asgsA at e; cases e
  | _ :: _, [], E, E1, σ, ds, e, h, hs => by unfold asgsA at e; cases e
  | t :: ts, a :: as, E, E1, σ, ds, e, h, hs => by
    obtain ⟨d, r, rfl, hd, hr⟩ := hs
    unfold asgsA at e
    split at e
    · rename_i E2 e2
      obtain ⟨σ2, f2, h2⟩ := asgA_ok hb t a E E2 σ d e2 h hd
      obtain ⟨σ1, f1, h1⟩ := asgsA_ok hb ts as E2 E1 σ2 r e h2 hr
      refine ⟨σ1, ?_, h1⟩
      rw [asgN, f2, okb, f1]
    · cases e
end
/-! ### what a test tells -/
def nrI : Cm → Bool → Int → Int → Int → Int × Int
  | .lt, true, n, a, b => (a, if n - 1 < b then n - 1 else b)
  | .lt, false, n, a, b => (if a < n then n else a, b)
  | .le, true, n, a, b => (a, if n < b then n else b)
  | .le, false, n, a, b => (if a < n + 1 then n + 1 else a, b)
  | .gt, true, n, a, b => (if a < n + 1 then n + 1 else a, b)
  | .gt, false, n, a, b => (a, if n < b then n else b)
  | .ge, true, n, a, b => (if a < n then n else a, b)
  | .ge, false, n, a, b => (a, if n - 1 < b then n - 1 else b)
  | .eq, true, n, a, b => (if a < n then n else a, if n < b then n else b)
  | .eq, false, n, a, b => if a = n then (n + 1, b) else if b = n then (a, n - 1) else (a, b)
  | .ne, false, n, a, b => (if a < n then n else a, if n < b then n else b)
  | .ne, true, n, a, b => if a = n then (n + 1, b) else if b = n then (a, n - 1) else (a, b)
  | _, _, _, a, b => (a, b)
theorem nrI_ok {c : Cm} {k : Bool} {n a b i : Int} (e : cmD c (.int i) (.int n) = .ok (.bl k)) (h1 : a ≤ i) (h2 : i ≤ b) : (nrI c k n a b).1 ≤ i ∧ i ≤ (nrI c k n a b).2 := by
  cases c with
  | lt =>
    rw [c_lt] at e
    injection e with e; injection e with e
    cases k with
    | true => have := of_decide_eq_true e; exact ⟨h1, by show i ≤ (if n - 1 < b then n - 1 else b); split <;> omega⟩
    | false => have := of_decide_eq_false e; exact ⟨by show (if a < n then n else a) ≤ i; split <;> omega, h2⟩
  | le =>
    rw [c_le] at e
    injection e with e; injection e with e
    cases k with
    | true => have := of_decide_eq_true e; exact ⟨h1, by show i ≤ (if n < b then n else b); split <;> omega⟩
    | false => have := of_decide_eq_false e; exact ⟨by show (if a < n + 1 then n + 1 else a) ≤ i; split <;> omega, h2⟩
  | gt =>
    rw [c_gt] at e
    injection e with e; injection e with e
    cases k with
    | true => have := of_decide_eq_true e; exact ⟨by show (if a < n + 1 then n + 1 else a) ≤ i; split <;> omega, h2⟩
    | false => have := of_decide_eq_false e; exact ⟨h1, by show i ≤ (if n < b then n else b); split <;> omega⟩
  | ge =>
    rw [c_ge] at e
    injection e with e; injection e with e
    cases k with
    | true => have := of_decide_eq_true e; exact ⟨by show (if a < n then n else a) ≤ i; split <;> omega, h2⟩
    | false => have := of_decide_eq_false e; exact ⟨h1, by show i ≤ (if n - 1 < b then n - 1 else b); split <;> omega⟩
  | eq =>
    rw [c_eq] at e
    injection e with e; injection e with e
    cases k with
    | true => have := of_decide_eq_true e; exact ⟨by show (if a < n then n else a) ≤ i; split <;> omega, by show i ≤ (if n < b then n else b); split <;> omega⟩
    | false =>
      have := of_decide_eq_false e
      show (if a = n then (n + 1, b) else if b = n then (a, n - 1) else (a, b)).1 ≤ i ∧ i ≤ (if a = n then (n + 1, b) else if b = n then (a, n - 1) else (a, b)).2
      split
      · exact ⟨by show n + 1 ≤ i; omega, h2⟩
      · split
        · exact ⟨h1, by show i ≤ n - 1; omega⟩
        · exact ⟨h1, h2⟩
  | ne =>
    rw [c_ne] at e
    injection e with e; injection e with e
    cases k with
    | false => have := of_decide_eq_false e; exact ⟨by show (if a < n then n else a) ≤ i; split <;> omega, by show i ≤ (if n < b then n else b); split <;> omega⟩
    | true =>
      have := of_decide_eq_true e
      show (if a = n then (n + 1, b) else if b = n then (a, n - 1) else (a, b)).1 ≤ i ∧ i ≤ (if a = n then (n + 1, b) else if b = n then (a, n - 1) else (a, b)).2
      split
      · exact ⟨by show n + 1 ≤ i; omega, h2⟩
      · split
        · exact ⟨h1, by show i ≤ n - 1; omega⟩
        · exact ⟨h1, h2⟩
  | _ => cases k <;> exact ⟨h1, h2⟩
/-- the ends of a length -/
def nrN (c : Cm) (k : Bool) (n : Int) (l h : Nat) : Nat × Nat := let p := nrI c k n l h; (p.1.toNat, p.2.toNat)
theorem nrN_ok {c : Cm} {k : Bool} {n : Int} {l h i : Nat} (e : cmD c (.int i) (.int n) = .ok (.bl k)) (h1 : l ≤ i) (h2 : i ≤ h) : (nrN c k n l h).1 ≤ i ∧ i ≤ (nrN c k n l h).2 := by
  obtain ⟨a, b⟩ := nrI_ok e (a := l) (b := h) (by omega) (by omega)
  exact ⟨by show (nrI c k n l h).1.toNat ≤ i; omega, by show i ≤ (nrI c k n l h).2.toNat; omega⟩
def refC (c : Cm) (k : Bool) (n : Int) : AC → AC
  | .v (.int a b) => .v (.int (nrI c k n a b).1 (nrI c k n a b).2)
  | x => x
def refL (c : Cm) (k : Bool) (n : Int) : AC → AC
  | .v (.seq t a l h) => .v (.seq t a (nrN c k n l h).1 (nrN c k n l h).2)
  | .o a l h => .o a (nrN c k n l h).1 (nrN c k n l h).2
  | .l a l h => .l a (nrN c k n l h).1 (nrN c k n l h).2
  | x => x
def ref : E → Bool → AEnv → AEnv
  | .not a, k, E => ref a (!k) E
  | .and a b, true, E => ref b true (ref a true E)
  | .or a b, false, E => ref b false (ref a false E)
  | .cmp c (.var i) (.int n), k, E => (match E[i]? with
    | some x => E.set i (refC c k n x)
    | none => E)
  | .cmp c (.bi .len (.cons (.var i) .nil)) (.int n), k, E => (match E[i]? with
    | some x => E.set i (refL c k n x)
    | none => E)
  | _, _, E => E
theorem bind_ok2 {α β : Type} {r : Res α} {f : α → Res β} {b : β} (h : (r >>= f) = .ok b) : ∃ a, r = .ok a ∧ f a = .ok b := by
  cases r with
  | ok a => exact ⟨a, rfl, h⟩
  | exc c vs => cases h
  | bad => cases h
theorem ref_ok {P : Nat → D → Prop} {G : Str → Option D} {Φ : Str → List D → Res D} : ∀ (c : E) (k : Bool) (E : AEnv) (σ : PyI.Env), ev G Φ c σ = .ok (.bl k) → γE P E σ → γE P (ref c k E) σ := by
  intro c k E
  fun_induction ref c k E with
  | case1 a k E ih =>
    intro σ e h
    rw [e_not] at e
    obtain ⟨x, e1, e⟩ := bind_ok2 e
    obtain ⟨b, e2, e⟩ := bind_ok2 e
    cases x with
    | bl b' =>
      cases e2
      injection e with e; injection e with e
      subst e
      exact ih σ (by rw [Bool.not_not]; exact e1) h
    | _ => cases e2
  | case2 a b E ih1 ih2 =>
    intro σ e h
    rw [e_and] at e
    obtain ⟨x, e1, e⟩ := bind_ok2 e
    obtain ⟨q, e2, e⟩ := bind_ok2 e
    cases x with
    | bl b' =>
      cases e2
      cases q with
      | false => cases e
      | true => exact ih2 σ e (ih1 σ e1 h)
    | _ => cases e2
  | case3 a b E ih1 ih2 =>
    intro σ e h
    rw [e_or] at e
    obtain ⟨x, e1, e⟩ := bind_ok2 e
    obtain ⟨q, e2, e⟩ := bind_ok2 e
    cases x with
    | bl b' =>
      cases e2
      cases q with
      | true => cases e
      | false => exact ih2 σ e (ih1 σ e1 h)
    | _ => cases e2
  | case4 c i n k E x ex =>
    intro σ e h
    rw [e_cmp, e_var, e_int] at e
    obtain ⟨y, e1, e⟩ := bind_ok2 e
    rw [okb] at e
    refine γE_keep i h fun q hq => ?_
    obtain ⟨q', hq', hc⟩ := γE_get h ex
    rw [hq] at hq'
    cases hq'
    unfold refC
    split
    · obtain ⟨d, rfl, j, rfl, h1, h2⟩ := hc
      have : y = .int j := by
        unfold getV at e1
        rw [hq] at e1
        cases e1; rfl
      subst this
      obtain ⟨a1, a2⟩ := nrI_ok e h1 h2
      exact ⟨_, rfl, j, rfl, a1, a2⟩
    · exact hc
  | case5 c i n k E ex => intro σ e h; exact h
  | case6 c i n k E x ex =>
    intro σ e h
    rw [e_cmp, e_int, e_bi, es_cons, e_var, es_nil] at e
    obtain ⟨y, e1, e⟩ := bind_ok2 e
    rw [okb] at e
    obtain ⟨z, e2, e1⟩ := bind_ok2 e1
    obtain ⟨w, e3, e2⟩ := bind_ok2 e2
    rw [okb] at e2
    cases e2
    refine γE_keep i h fun q hq => ?_
    obtain ⟨q', hq', hc⟩ := γE_get h ex
    rw [hq] at hq'
    cases hq'
    have key : ∀ ds : List D, (w = .lst ds ∨ w = .tup ds) → cmD c (.int (ds.length : Nat)) (.int n) = .ok (.bl k) := fun ds hw => by
      rcases hw with rfl | rfl
      · rw [b_len] at e1; cases e1; exact e
      · rw [b_lenT] at e1; cases e1; exact e
    unfold refL
    split
    · rename_i t a l hh
      obtain ⟨d, rfl, ds, rfl, h1, h2, h3⟩ := hc
      have hw : w = sqD t ds := by
        unfold getV at e3
        rw [hq] at e3
        cases e3; rfl
      obtain ⟨a1, a2⟩ := nrN_ok (key ds (by rw [hw]; cases t <;> simp [sqD])) h1 h2
      exact ⟨_, rfl, ds, rfl, a1, a2, h3⟩
    · obtain ⟨ds, rfl, h1, h2, h3⟩ := hc
      have hw : w = .lst ds := by
        unfold getV at e3
        rw [hq] at e3
        cases e3; rfl
      obtain ⟨a1, a2⟩ := nrN_ok (key ds (.inl hw)) h1 h2
      exact ⟨ds, rfl, a1, a2, h3⟩
    · obtain ⟨ds, hd, h1, h2, h3⟩ := hc
      have hw : w = .lst ds := by
        unfold getV at e3
        rw [hq] at e3
        rcases hd with rfl | rfl <;> (cases e3; rfl)
      obtain ⟨a1, a2⟩ := nrN_ok (key ds (.inl hw)) h1 h2
      exact ⟨ds, hd, a1, a2, h3⟩
    · exact hc
  | case7 c i n k E ex => intro σ e h; exact h
  | case8 => intro σ e h; exact h
end PyI
/-! PyA, part 6: expressions. -/
namespace PyI
open PySem L2
/-- the items of a walk: alike; one by one -/
inductive AI where
  | uni (a : A) (lo hi : Nat) | each (as : List A) (lo : Nat)
section
variable (P : Nat → D → Prop)
def γI : List A → List D → Prop
  | _, [] => True
  | [], _ :: _ => False
  | a :: as, d :: ds => γ P a d ∧ γI as ds
def γAI : AI → List D → Prop
  | .uni a lo hi, ds => γL P a lo hi ds
  | .each as lo, ds => lo ≤ ds.length ∧ γI P as ds
end
section
variable {P : Nat → D → Prop}
theorem γI_len : ∀ {as : List A} {ds : List D}, γI P as ds → ds.length ≤ as.length
  | as, [], _ => Nat.zero_le _
  | [], _ :: _, h => h.elim
  | a :: as, d :: ds, h => Nat.succ_le_succ (γI_len h.2)
theorem γs_I : ∀ {as : List A} {ds : List D}, γs P as ds → γI P as ds
  | [], ds, h => by cases (show ds = [] from h); trivial
  | a :: as, ds, h => by
    obtain ⟨d, r, rfl, h1, h2⟩ := h
    exact ⟨h1, γs_I h2⟩
theorem γI_s : ∀ {as : List A} {ds : List D}, γI P as ds → as.length ≤ ds.length → γs P as ds
  | [], [], _, _ => rfl
  | _ :: _, [], _, h => absurd h (by simp)
  | [], _ :: _, h, _ => h.elim
  | a :: as, d :: ds, h, l => ⟨d, ds, rfl, h.1, γI_s h.2 (Nat.le_of_succ_le_succ l)⟩
theorem γI_mem : ∀ {as : List A} {ds : List D}, γI P as ds → ∀ x ∈ ds, ∃ a ∈ as, γ P a x
  | _, [], _, x, h => by cases h
  | [], _ :: _, h, _, _ => h.elim
  | a :: as, d :: ds, h, x, hx => by
    rcases List.mem_cons.mp hx with z | z
    · exact ⟨a, List.mem_cons_self, by rw [z]; exact h.1⟩
    · obtain ⟨b, hb, h3⟩ := γI_mem h.2 x z
      exact ⟨b, List.mem_cons_of_mem _ hb, h3⟩
theorem γI_rep {a : A} : ∀ {n : Nat} {ds : List D}, ds.length ≤ n → (∀ x ∈ ds, γ P a x) → γI P (List.replicate n a) ds
  | n, [], _, _ => by cases n <;> trivial
  | 0, _ :: _, h, _ => absurd h (by simp)
  | n + 1, d :: r, h, k => ⟨k d List.mem_cons_self, γI_rep (Nat.le_of_succ_le_succ h) fun x hx => k x (List.mem_cons_of_mem _ hx)⟩
end
section
variable (bs : Nat → A)
def itA : A → Option AI
  | .seq _ a l h => some (.uni a l h)
  | .tup as => some (.each as as.length)
  | .lsf as => some (.each as as.length)
  | .str m => some (.uni (.str 1) 0 m)
  | .p i => (match bs i with
    | .tup as => some (.each as as.length)
    | _ => none)
  | _ => none
/-- lists and tuples alone -/
def enA : A → Option AI
  | .seq _ a l h => some (.uni a l h)
  | .tup as => some (.each as as.length)
  | .lsf as => some (.each as as.length)
  | _ => none
def cnt (a : Int) (n lo : Nat) : AI := if n ≤ 70 then .each ((List.range n).map fun (i : Nat) => .int (a + i) (a + i)) lo else .uni (.int a (a + n - 1)) lo n
def rngA : A → A → Option AI
  | .int a b, .int c d => if -1000000000000000000 ≤ a ∧ b ≤ 1000000000000000000 ∧ -1000000000000000000 ≤ c ∧ d ≤ 1000000000000000000 then (if a = b then some (cnt a (d - a).toNat (c - a).toNat) else some (.uni (.int a (d - 1)) (c - b).toNat (d - a).toNat)) else none
  | _, _ => none
def enuL : Nat → List A → List A
  | _, [] => []
  | i, a :: as => .tup [.int i i, a] :: enuL (i + 1) as
def enuA : AI → AI
  | .uni a l h => if h ≤ 64 then .each (enuL 0 (List.replicate h a)) l else .uni (.tup [.int 0 h, a]) l h
  | .each as lo => .each (enuL 0 as) lo
def zpL : List A → List A → List A
  | a :: as, b :: bs => .tup [a, b] :: zpL as bs
  | _, _ => []
def flA : AI → List A × Nat
  | .uni a l h => (List.replicate h a, l)
  | .each as lo => (as, lo)
def zpA (x y : AI) : AI := match x, y with
  | .uni a l h, .uni b l' h' => .uni (.tup [a, b]) (if l < l' then l else l') (if h < h' then h else h')
  | x, y => .each (zpL (flA x).1 (flA y).1) (if (flA x).2 < (flA y).2 then (flA x).2 else (flA y).2)
end
section
variable {P : Nat → D → Prop} {bs : Nat → A}
theorem itA_ok (hb : ∀ i d, P i d → γ P (bs i) d) {a : A} {ai : AI} {d : D} (e : itA bs a = some ai) (hd : γ P a d) : ∃ ds, itemsD d = .ok ds ∧ γAI P ai ds := by
  unfold itA at e
  split at e
  · rename_i t a l h
    cases e
    obtain ⟨ds, rfl, k1, k2, k3⟩ := hd
    cases t <;> exact ⟨ds, rfl, k1, k2, k3⟩
  · cases e
    obtain ⟨ds, rfl, h⟩ := hd
    exact ⟨ds, rfl, by rw [γs_len h]; exact Nat.le_refl _, γs_I h⟩
  · cases e
    obtain ⟨ds, rfl, h⟩ := hd
    exact ⟨ds, rfl, by rw [γs_len h]; exact Nat.le_refl _, γs_I h⟩
  · cases e
    obtain ⟨x, rfl, h⟩ := hd
    refine ⟨_, rfl, Nat.zero_le _, ?_, fun y hy => ?_⟩
    · rw [List.length_map, Array.length_toList]; exact h
    · obtain ⟨c, _, rfl⟩ := List.mem_map.mp hy
      exact ⟨_, rfl, Nat.le_refl _⟩
  · split at e
    · rename_i as eb
      cases e
      have hd := hb _ _ hd
      rw [eb] at hd
      obtain ⟨ds, rfl, h⟩ := hd
      exact ⟨ds, rfl, by rw [γs_len h]; exact Nat.le_refl _, γs_I h⟩
    · cases e
  · cases e
theorem enA_ok {a : A} {ai : AI} {d : D} (e : enA a = some ai) (hd : γ P a d) : ∃ ds t, enumI d = .ok ds ∧ d = sqD t ds ∧ γAI P ai ds := by
  unfold enA at e
  split at e
  · rename_i t a l h
    cases e
    obtain ⟨ds, rfl, k1, k2, k3⟩ := hd
    cases t
    · exact ⟨ds, false, rfl, rfl, k1, k2, k3⟩
    · exact ⟨ds, true, rfl, rfl, k1, k2, k3⟩
  · cases e
    obtain ⟨ds, rfl, h⟩ := hd
    exact ⟨ds, true, rfl, rfl, by rw [γs_len h]; exact Nat.le_refl _, γs_I h⟩
  · cases e
    obtain ⟨ds, rfl, h⟩ := hd
    exact ⟨ds, false, rfl, rfl, by rw [γs_len h]; exact Nat.le_refl _, γs_I h⟩
  · cases e
theorem γI_map {α : Type} (F : α → A) (g : α → D) (h : ∀ a, γ P (F a) (g a)) : ∀ (l : List α) (n : Nat), γI P (l.map F) ((l.take n).map g)
  | [], n => by rw [List.take_nil]; trivial
  | a :: r, 0 => trivial
  | a :: r, n + 1 => ⟨h a, γI_map F g h r n⟩
theorem rngA_ok {x y : A} {ai : AI} {i j : Int} (e : rngA x y = some ai) (hx : γ P x (.int i)) (hy : γ P y (.int j)) : ∃ ds, rngD i j = .ok ds ∧ γAI P ai ds := by
  unfold rngA at e
  split at e
  · obtain ⟨i', ei, h1, h2⟩ := hx
    obtain ⟨j', ej, h3, h4⟩ := hy
    cases ei; cases ej
    split at e
    · rename_i a b c d hc
      refine ⟨_, rng_ok (a := i) (b := j) ⟨by omega, by omega, by omega, by omega⟩, ?_⟩
      split at e
      · rename_i eab
        subst eab
        have : i = a := by omega
        subst this
        cases e
        unfold cnt
        split
        · refine ⟨by rw [List.length_map, List.length_range]; omega, ?_⟩
          have tk : List.range (j - i).toNat = (List.range (d - i).toNat).take (j - i).toNat := by
            rw [List.take_range, Nat.min_eq_left (by omega)]
          rw [tk]
          exact γI_map (fun (k : Nat) => A.int (i + k) (i + k)) (fun (k : Nat) => D.int (i + k)) (fun k => ⟨_, rfl, Int.le_refl _, Int.le_refl _⟩) _ _
        · refine ⟨by rw [List.length_map, List.length_range]; omega, by rw [List.length_map, List.length_range]; omega, fun z hz => ?_⟩
          obtain ⟨k, hk, rfl⟩ := List.mem_map.mp hz
          have := List.mem_range.mp hk
          exact ⟨_, rfl, by omega, by omega⟩
      · cases e
        refine ⟨by rw [List.length_map, List.length_range]; omega, by rw [List.length_map, List.length_range]; omega, fun z hz => ?_⟩
        obtain ⟨k, hk, rfl⟩ := List.mem_map.mp hz
        have := List.mem_range.mp hk
        exact ⟨_, rfl, by omega, by omega⟩
    · cases e
  · cases e
theorem enuL_ok : ∀ {as : List A} {ds : List D} (i : Nat), γI P as ds → γI P (enuL i as) (enumD i ds)
  | as, [], i, _ => by cases as <;> trivial
  | [], _ :: _, i, h => h.elim
  | a :: as, d :: ds, i, h => ⟨⟨_, rfl, _, _, rfl, ⟨_, rfl, Int.le_refl _, Int.le_refl _⟩, _, _, rfl, h.1, rfl⟩, enuL_ok (i + 1) h.2⟩
theorem enum_len : ∀ (ds : List D) (i : Nat), (enumD i ds).length = ds.length
  | [], i => rfl
  | d :: r, i => by show (enumD (i + 1) r).length + 1 = r.length + 1; rw [enum_len r]
theorem enum_mem : ∀ {ds : List D} {i : Nat} {x : D}, x ∈ enumD i ds → ∃ j d, x = .tup [.int (j : Nat), d] ∧ d ∈ ds ∧ i ≤ j ∧ j < i + ds.length
  | [], i, x, h => by cases h
  | d :: r, i, x, h => by
    rcases List.mem_cons.mp h with z | z
    · exact ⟨i, d, z, List.mem_cons_self, Nat.le_refl _, by rw [List.length_cons]; omega⟩
    · obtain ⟨j, d', h1, h2, h3, h4⟩ := enum_mem (i := i + 1) z
      exact ⟨j, d', h1, List.mem_cons_of_mem _ h2, by omega, by rw [List.length_cons]; omega⟩
theorem enuA_ok {ai : AI} {ds : List D} (h : γAI P ai ds) : γAI P (enuA ai) (enumD 0 ds) := by
  cases ai with
  | uni a l hh =>
    obtain ⟨h1, h2, h3⟩ := h
    by_cases hz : hh ≤ 64
    · rw [show enuA (.uni a l hh) = .each (enuL 0 (List.replicate hh a)) l from if_pos hz]
      exact ⟨by rw [enum_len]; exact h1, enuL_ok 0 (γI_rep h2 h3)⟩
    · rw [show enuA (.uni a l hh) = .uni (.tup [.int 0 hh, a]) l hh from if_neg hz]
      refine ⟨by rw [enum_len]; exact h1, by rw [enum_len]; exact h2, fun x hx => ?_⟩
      obtain ⟨j, d, rfl, k1, k2, k3⟩ := enum_mem hx
      exact ⟨_, rfl, _, _, rfl, ⟨_, rfl, by omega, by omega⟩, _, _, rfl, h3 d k1, rfl⟩
  | each as lo => exact ⟨by rw [enum_len]; exact h.1, enuL_ok 0 h.2⟩
theorem zpL_ok : ∀ {as cs : List A} {ds es : List D}, γI P as ds → γI P cs es → γI P (zpL as cs) (zipD ds es)
  | as, cs, [], es, _, _ => by cases es <;> (show γI P _ []; cases h : zpL as cs <;> trivial)
  | as, cs, d :: ds, [], _, _ => by show γI P _ []; cases h : zpL as cs <;> trivial
  | [], _, _ :: _, _ :: _, h, _ => h.elim
  | _ :: _, [], _ :: _, _ :: _, _, h => h.elim
  | a :: as, c :: cs, d :: ds, e :: es, h1, h2 => ⟨⟨_, rfl, _, _, rfl, h1.1, _, _, rfl, h2.1, rfl⟩, zpL_ok h1.2 h2.2⟩
theorem zip_len : ∀ (ds es : List D), (zipD ds es).length = min ds.length es.length
  | [], es => by cases es <;> simp [zipD]
  | d :: r, [] => by simp [zipD]
  | d :: r, e :: s => by
    show (zipD r s).length + 1 = min (r.length + 1) (s.length + 1)
    rw [zip_len r s]
    omega
theorem zip_mem : ∀ {ds es : List D} {x : D}, x ∈ zipD ds es → ∃ d e, x = .tup [d, e] ∧ d ∈ ds ∧ e ∈ es
  | [], es, x, h => by cases es <;> cases h
  | d :: r, [], x, h => by cases h
  | d :: r, e :: s, x, h => by
    rcases List.mem_cons.mp h with z | z
    · exact ⟨d, e, z, List.mem_cons_self, List.mem_cons_self⟩
    · obtain ⟨d', e', h1, h2, h3⟩ := zip_mem z
      exact ⟨d', e', h1, List.mem_cons_of_mem _ h2, List.mem_cons_of_mem _ h3⟩
theorem flA_ok {ai : AI} {ds : List D} (h : γAI P ai ds) : (flA ai).2 ≤ ds.length ∧ γI P (flA ai).1 ds := by
  cases ai with
  | uni a l hh => exact ⟨h.1, γI_rep h.2.1 h.2.2⟩
  | each as lo => exact h
theorem zpA_ok {x y : AI} {ds es : List D} (h1 : γAI P x ds) (h2 : γAI P y es) : γAI P (zpA x y) (zipD ds es) := by
  have gen : γAI P (.each (zpL (flA x).1 (flA y).1) (if (flA x).2 < (flA y).2 then (flA x).2 else (flA y).2)) (zipD ds es) := by
    have a := flA_ok h1
    have b := flA_ok h2
    refine ⟨?_, zpL_ok a.2 b.2⟩
    rw [zip_len]
    split <;> omega
  cases x with
  | each _ _ => cases y <;> exact gen
  | uni a l h =>
    cases y with
    | each _ _ => exact gen
    | uni b l' h' =>
      refine ⟨?_, ?_, fun z hz => ?_⟩
      · rw [zip_len]; have := h1.1; have := h2.1; split <;> omega
      · rw [zip_len]; have := h1.2.1; have := h2.2.1; split <;> omega
      · obtain ⟨d, e, rfl, k1, k2⟩ := zip_mem hz
        exact ⟨_, rfl, _, _, rfl, h1.2.2 d k1, _, _, rfl, h2.2.2 e k2, rfl⟩
end
mutual
def ofD : D → A
  | .non => .non
  | .bl b => .bl (some b)
  | .int i => .int i i
  | .str x => .str x.length
  | .tup xs => .tup (ofDs xs)
  | .lst xs => .lsf (ofDs xs)
  | .scr _ => .scr
def ofDs : List D → List A
  | [] => []
  | d :: r => ofD d :: ofDs r
end
mutual
theorem ofD_ok {P : Nat → D → Prop} : ∀ d : D, γ P (ofD d) d
  | .non => rfl
  | .bl b => ⟨b, rfl, fun k h => by cases h; rfl⟩
  | .int i => ⟨i, rfl, Int.le_refl _, Int.le_refl _⟩
  | .str x => ⟨x, rfl, Nat.le_refl _⟩
  | .tup xs => ⟨xs, rfl, ofDs_ok xs⟩
  | .lst xs => ⟨xs, rfl, ofDs_ok xs⟩
  | .scr ns => ⟨ns, rfl⟩
theorem ofDs_ok {P : Nat → D → Prop} : ∀ ds : List D, γs P (ofDs ds) ds
  | [] => rfl
  | d :: r => ⟨d, r, rfl, ofD_ok d, ofDs_ok r⟩
end
/-- what a truth value is, if known -/
def blA (bs : Nat → A) : A → Option (Option Bool)
  | .bl o => some o
  | _ => none
def mapA (f : A → Option A) : List A → Option (List A)
  | [] => some []
  | a :: r => (match f a, mapA f r with
    | some b, some s => some (b :: s)
    | _, _ => none)
def oneA : A → AO
  | .int a b => if a = b then .one a else .some_
  | _ => .some_
end PyI
/-! PyA, part 7: expressions. -/
namespace PyI
open PySem L2
section
variable (bs : Nat → A) (G : Str → Option D) (F : Str → List A → Option A)
def andA (x : Option A) (y : Option A) : Option A := match x with
  | some (.bl (some true)) => y
  | some (.bl (some false)) => some (.bl (some false))
  | some (.bl none) => (match y with
    | some y => some (join bs (.bl (some false)) y)
    | none => none)
  | _ => none
def orA (x : Option A) (y : Option A) : Option A := match x with
  | some (.bl (some true)) => some (.bl (some true))
  | some (.bl (some false)) => y
  | some (.bl none) => (match y with
    | some y => some (join bs (.bl (some true)) y)
    | none => none)
  | _ => none
def ifeA (x a b : Option A) : Option A := match x with
  | some (.bl (some true)) => a
  | some (.bl (some false)) => b
  | some (.bl none) => (match a, b with
    | some y, some z => some (join bs y z)
    | _, _ => none)
  | _ => none
def cm2 (c : Cm) (x y : A) : Option A := l1 bs (fun x => l1 bs (fun y => cmA bs c x y) y) x
def chA (z w : Option A) : Option A := match z, w with
  | some (.bl _), some w => some (join bs (.bl (some false)) w)
  | _, _ => none
def op2 (o : Op) (x y : A) : Option A := l1 bs (fun x => l1 bs (fun y => opA bs o x y) y) x
def ix2 (x y : A) : Option A := l1 bs (fun x => l1 bs (fun y => ixA bs x y) y) x
def biA (b : Bi) : List A → Option A
  | [x] => l1 bs (biA1 bs b) x
  | [x, y] => l1 bs (fun x => l1 bs (fun y => biA2 b x y) y) x
  | _ => none
def oneO : Option A → Option AO
  | some (.int a b) => some (if a = b then .one a else .some_)
  | some .intU => some .some_
  | _ => none
def cmpR (rs : List A) (lo : Nat) : A := if lo = rs.length ∧ lo ≤ 16 then .lsf rs else .seq false (joinAll bs rs) lo rs.length
/-- a comprehension over items -/
def compA (f : A → Option A) : AI → Option A
  | .uni a l h => if h ≤ 1000000 then (if h = 0 then some (.seq false .bot 0 0) else (match f a with
    | some r => some (.seq false r l h)
    | none => none)) else none
  | .each as lo => if as.length ≤ 1000000 then (match mapA f as with
    | some rs => some (cmpR bs rs lo)
    | none => none) else none
def cifA (f : A → Option A) : AI → Option A
  | .uni a l h => if h ≤ 1000000 then (match f a with
    | some r => some (.seq false r 0 h)
    | none => none) else none
  | .each as lo => if as.length ≤ 1000000 then (match mapA f as with
    | some rs => some (.seq false (joinAll bs rs) 0 rs.length)
    | none => none) else none
def strA : A → Bool
  | .str _ => true
  | .p i => (match bs i with
    | .str _ => true
    | _ => false)
  | _ => false
def fmA : A → Option Nat
  | .str m => if m ≤ 1000000 then some m else none
  | .int a b => strN (im a b)
  | .p i => (match bs i with
    | .str m => if m ≤ 1000000 then some m else none
    | .int a b => strN (im a b)
    | _ => none)
  | _ => none
mutual
def evA : E → AEnv → Option A
  | .var i, E => agV E i
  | .par i, E => agP E i
  | .int i, _ => some (.int i i)
  | .str x, _ => some (.str x.length)
  | .bl b, _ => some (.bl (some b))
  | .non, _ => some .non
  | .glob x, _ => (match G x with
    | some d => some (ofD d)
    | none => none)
  | .op o a b, E => (match evA a E, evA b E with
    | some x, some y => op2 bs o x y
    | _, _ => none)
  | .neg a, E => (match evA a E with
    | some x => l1 bs negA x
    | none => none)
  | .not a, E => (match evA a E with
    | some x => l1 bs notA x
    | none => none)
  | .and a b, E => andA bs (evA a E) (evA b (ref a true E))
  | .or a b, E => orA bs (evA a E) (evA b (ref a false E))
  | .cmp c a b, E => (match evA a E, evA b E with
    | some x, some y => cm2 bs c x y
    | _, _ => none)
  | .chain c c' a b d, E => (match evA a E, evA b E, evA d E with
    | some x, some y, some z => chA bs (cm2 bs c x y) (cm2 bs c' y z)
    | _, _, _ => none)
  | .ife c a b, E => ifeA bs (evA c E) (evA a (ref c true E)) (evA b (ref c false E))
  | .ix a b, E => (match evA a E, evA b E with
    | some x, some y => ix2 bs x y
    | _, _ => none)
  | .sl a lo hi, E => (match evA a E, evoA lo E, evoA hi E with
    | some x, some l, some h => l1 bs (fun x => slA x l h) x
    | _, _, _ => none)
  | .tup es, E => (match evsA es E with
    | some as => some (.tup as)
    | none => none)
  | .lst es, E => (match evsA es E with
    | some as => some (.lsf as)
    | none => none)
  | .comp elt tg src own, E => (match evSA src E with
    | some ai => compA bs (fun x => match asgA bs tg x (wipeA E own) with
      | some E2 => evA elt E2
      | none => none) ai
    | none => none)
  | .compIf elt tg src c own, E => (match evSA src E with
    | some ai => cifA bs (fun x => match asgA bs tg x (wipeA E own) with
      | some E2 => (match evA c E2 with
        | some (.bl (some false)) => some .bot
        | some (.bl _) => evA elt (ref c true E2)
        | _ => none)
      | none => none) ai
    | none => none)
  | .call f es, E => (match evsA es E with
    | some as => F f as
    | none => none)
  | .callF f es, E => (match evsA es E with
    | some as => F f as
    | none => none)
  | .bi b es, E => (match evsA es E with
    | some as => biA bs b as
    | none => none)
  | .isi a t, E => (match evA a E with
    | some x => l1 bs (isiA t) x
    | none => none)
  | .dget .., _ => none
  | .find a b, E => (match evA a E, evA b E with
    | some x, some y => (match strA bs x, strA bs y with
      | true, true => some .intU
      | _, _ => none)
    | _, _ => none)
  | .me m a es, E => (match evA a E, evsA es E with
    | some x, some as => l1 bs (fun x => meA bs m x as) x
    | _, _ => none)
  | .fs es, E => (match evfA es 0 E with
    | some m => some (.str m)
    | none => none)
  | .comp2 .., _ => none
def evfA : Es → Nat → AEnv → Option Nat
  | .nil, m, _ => some m
  | .cons e r, m, E => (match evA e E with
    | some a => (match fmA bs a with
      | some k => if m + k ≤ 1000000 then evfA r (m + k) E else none
      | none => none)
    | none => none)
def evsA : Es → AEnv → Option (List A)
  | .nil, _ => some []
  | .cons e r, E => (match evA e E, evsA r E with
    | some a, some as => some (a :: as)
    | _, _ => none)
def evoA : Op1 → AEnv → Option AO
  | .no, _ => some .no
  | .so e, E => oneO (evA e E)
def evSA : Src → AEnv → Option AI
  | .seq e, E => (match evA e E with
    | some a => itA bs a
    | none => none)
  | .rng1 a, E => (match evA a E with
    | some x => rngA (.int 0 0) x
    | none => none)
  | .rng2 a b, E => (match evA a E, evA b E with
    | some x, some y => rngA x y
    | _, _ => none)
  | .enum e, E => (match evA e E with
    | some a => (match enA a with
      | some ai => some (enuA ai)
      | none => none)
    | none => none)
  | .zip a b, E => (match evA a E, evA b E with
    | some x, some y => (match x, y with
      | .seq t _ _ _, .seq t' _ _ _ => if t = t' then (match enA x, enA y with
        | some u, some v => some (zpA u v)
        | _, _ => none) else none
      | .tup _, .tup _ => (match enA x, enA y with
        | some u, some v => some (zpA u v)
        | _, _ => none)
      | .tup _, .seq true _ _ _ => (match enA x, enA y with
        | some u, some v => some (zpA u v)
        | _, _ => none)
      | .seq true _ _ _, .tup _ => (match enA x, enA y with
        | some u, some v => some (zpA u v)
        | _, _ => none)
      | .lsf _, .lsf _ => (match enA x, enA y with
        | some u, some v => some (zpA u v)
        | _, _ => none)
      | .lsf _, .seq false _ _ _ => (match enA x, enA y with
        | some u, some v => some (zpA u v)
        | _, _ => none)
      | .seq false _ _ _, .lsf _ => (match enA x, enA y with
        | some u, some v => some (zpA u v)
        | _, _ => none)
      | _, _ => none)
    | _, _ => none)
end
end
end PyI
/-! PyA, part 8: expressions, sound. -/
namespace PyI
open PySem L2
theorem Ok.bind {P : Nat → D → Prop} {r : Res D} {f : D → Res D} {a c : A} (h : Ok P r a) (k : ∀ d, γ P a d → Ok P (f d) c) : Ok P (r >>= f) c := by
  obtain ⟨d, e, hd⟩ := h
  rw [e, okb]
  exact k d hd
/-- what a rough reader of numbers, slots and calls needs -/
structure Ax where
  P : Nat → D → Prop
  bs : Nat → A
  G : Str → Option D
  Φ : Str → List D → Res D
  F : Str → List A → Option A
  hb : ∀ i d, P i d → γ P (bs i) d
  hF : ∀ f as a, F f as = some a → ∀ ds, γs P as ds → Ok P (Φ f ds) a
section
variable (X : Ax)
def SE (e : E) : Prop := ∀ E σ a, γE X.P E σ → evA X.bs X.G X.F e E = some a → Ok X.P (ev X.G X.Φ e σ) a
def SEs (es : Es) : Prop := ∀ E σ as, γE X.P E σ → evsA X.bs X.G X.F es E = some as → ∃ ds, evs X.G X.Φ es σ = .ok ds ∧ γs X.P as ds
def SO (o : Op1) : Prop := ∀ E σ a, γE X.P E σ → evoA X.bs X.G X.F o E = some a → ∃ v, evo X.G X.Φ o σ = .ok v ∧ γO a v
def SS (s : Src) : Prop := ∀ E σ a, γE X.P E σ → evSA X.bs X.G X.F s E = some a → ∃ ds, evS X.G X.Φ s σ = .ok ds ∧ γAI X.P a ds
def SF (es : Es) : Prop := ∀ m E σ k acc, γE X.P E σ → evfA X.bs X.G X.F es m E = some k → acc.length ≤ m → ∃ out : Str, evf X.G X.Φ es acc σ = .ok out ∧ out.length ≤ k
end
section
variable {X : Ax}
theorem op2_ok {o : Op} {a b c : A} {x y : D} (e : op2 X.bs o a b = some c) (hx : γ X.P a x) (hy : γ X.P b y) : Ok X.P (opD o x y) c :=
  l1_ok X.hb (F := fun x => opD o x y) (fun a c d e hd => l1_ok X.hb (F := fun y => opD o d y) (fun b c' d' e' hd' => opA_ok X.hb e' hd hd') b c y e hy) a c x e hx
theorem cm2_ok {o : Cm} {a b c : A} {x y : D} (e : cm2 X.bs o a b = some c) (hx : γ X.P a x) (hy : γ X.P b y) : Ok X.P (cmD o x y) c :=
  l1_ok X.hb (F := fun x => cmD o x y) (fun a c d e hd => l1_ok X.hb (F := fun y => cmD o d y) (fun b c' d' e' hd' => cmA_ok X.hb e' hd hd') b c y e hy) a c x e hx
theorem ix2_ok {a b c : A} {x y : D} (e : ix2 X.bs a b = some c) (hx : γ X.P a x) (hy : γ X.P b y) : Ok X.P (ixD x y) c :=
  l1_ok X.hb (F := fun x => ixD x y) (fun a c d e hd => l1_ok X.hb (F := fun y => ixD d y) (fun b c' d' e' hd' => ixA_ok X.hb e' hd hd') b c y e hy) a c x e hx
theorem biA_ok {b : Bi} {as : List A} {c : A} {ds : List D} (e : biA X.bs b as = some c) (h : γs X.P as ds) : Ok X.P (biD b ds) c := by
  match as, e, h with
  | [x], e, h =>
    obtain ⟨d, r, rfl, hd, hr⟩ := h
    cases (show r = [] from hr)
    exact l1_ok X.hb (F := fun x => biD b [x]) (fun a c d e hd => biA1_ok X.hb e hd) x c d e hd
  | [x, y], e, h =>
    obtain ⟨d, r, rfl, hd, d', r', rfl, hd', hr⟩ := h
    cases (show r' = [] from hr)
    exact l1_ok X.hb (F := fun x => biD b [x, d']) (fun a c d e hd => l1_ok X.hb (F := fun y => biD b [d, y]) (fun b c' d' e' hd' => biA2_ok e' hd hd') y c d' e hd') x c d e hd
  | [], e, h => cases e
  | _ :: _ :: _ :: _, e, h => cases e
theorem q_var (i : Nat) : SE X (.var i) := fun E σ a h e => by rw [e_var]; exact agV_ok h e
theorem q_par (i : Nat) : SE X (.par i) := fun E σ a h e => by rw [e_par]; exact agP_ok h e
theorem q_int (i : Int) : SE X (.int i) := fun E σ a h e => by
  have e : some (A.int i i) = some a := e
  cases e
  exact ⟨_, e_int i, i, rfl, Int.le_refl _, Int.le_refl _⟩
theorem q_str (x : Str) : SE X (.str x) := fun E σ a h e => by
  have e : some (A.str x.length) = some a := e
  cases e
  exact ⟨_, e_str x, x, rfl, Nat.le_refl _⟩
theorem q_bl (b : Bool) : SE X (.bl b) := fun E σ a h e => by
  have e : some (A.bl (some b)) = some a := e
  cases e
  exact ⟨_, e_bl b, b, rfl, fun k hk => by cases hk; rfl⟩
theorem q_non : SE X .non := fun E σ a h e => by
  have e : some A.non = some a := e
  cases e
  exact ⟨_, e_non, rfl⟩
theorem q_glob (x : Str) : SE X (.glob x) := fun E σ a h e => by
  have e : (match X.G x with
    | some d => some (ofD d)
    | none => none) = some a := e
  rw [e_glob]
  split at e
  · rename_i d eg
    cases e
    exact ⟨d, by first | rw [eg] | rfl, ofD_ok d⟩
  · cases e
theorem two {f : A → A → Option A} {a b : E} {E : AEnv} {c : A} (e : (match evA X.bs X.G X.F a E, evA X.bs X.G X.F b E with
    | some x, some y => f x y
    | _, _ => none) = some c) : ∃ x y, evA X.bs X.G X.F a E = some x ∧ evA X.bs X.G X.F b E = some y ∧ f x y = some c := by
  split at e
  · rename_i x y ex ey
    exact ⟨x, y, ex, ey, e⟩
  · cases e
theorem one {f : A → Option A} {a : E} {E : AEnv} {c : A} (e : (match evA X.bs X.G X.F a E with
    | some x => f x
    | none => none) = some c) : ∃ x, evA X.bs X.G X.F a E = some x ∧ f x = some c := by
  split at e
  · rename_i x ex
    exact ⟨x, ex, e⟩
  · cases e
theorem q_op (o : Op) {a b : E} (ha : SE X a) (hb : SE X b) : SE X (.op o a b) := fun E σ c h e => by
  obtain ⟨x, y, ex, ey, e⟩ := two (f := op2 X.bs o) e
  rw [e_op]
  exact (ha E σ x h ex).bind fun d hd => (hb E σ y h ey).bind fun d' hd' => op2_ok e hd hd'
theorem q_neg {a : E} (ha : SE X a) : SE X (.neg a) := fun E σ c h e => by
  obtain ⟨x, ex, e⟩ := one (f := l1 X.bs negA) e
  rw [e_neg]
  exact (ha E σ x h ex).bind fun d hd => l1_ok X.hb (negA_ok X.P) x c d e hd
theorem q_not {a : E} (ha : SE X a) : SE X (.not a) := fun E σ c h e => by
  obtain ⟨x, ex, e⟩ := one (f := l1 X.bs notA) e
  rw [e_not]
  exact (ha E σ x h ex).bind fun d hd => l1_ok X.hb (notA_ok X.P) x c d e hd
theorem q_cmp (o : Cm) {a b : E} (ha : SE X a) (hb : SE X b) : SE X (.cmp o a b) := fun E σ c h e => by
  obtain ⟨x, y, ex, ey, e⟩ := two (f := cm2 X.bs o) e
  rw [e_cmp]
  exact (ha E σ x h ex).bind fun d hd => (hb E σ y h ey).bind fun d' hd' => cm2_ok e hd hd'
theorem q_ix {a b : E} (ha : SE X a) (hb : SE X b) : SE X (.ix a b) := fun E σ c h e => by
  obtain ⟨x, y, ex, ey, e⟩ := two (f := ix2 X.bs) e
  rw [e_ix]
  exact (ha E σ x h ex).bind fun d hd => (hb E σ y h ey).bind fun d' hd' => ix2_ok e hd hd'
/-- a truth value and what follows -/
theorem bl_of {o : Option Bool} {r : Res D} (h : Ok X.P r (.bl o)) : ∃ b, r = .ok (.bl b) ∧ ∀ k, o = some k → b = k := by
  obtain ⟨d, e, b, rfl, h⟩ := h
  exact ⟨b, e, h⟩
theorem andA_in {x y : Option A} {c : A} (e : andA X.bs x y = some c) : ∃ o, x = some (.bl o) ∧ (o ≠ some true → γ X.P c (.bl false)) ∧ (o ≠ some false → ∃ z, y = some z ∧ ∀ d, γ X.P z d → γ X.P c d) := by
  unfold andA at e
  split at e
  · exact ⟨_, rfl, fun z => absurd rfl z, fun _ => ⟨c, e, fun d h => h⟩⟩
  · cases e
    exact ⟨_, rfl, fun _ => ⟨_, rfl, fun k h => by cases h; rfl⟩, fun z => absurd rfl z⟩
  · split at e
    · rename_i y
      cases e
      exact ⟨_, rfl, fun _ => join_l X.hb ⟨_, rfl, fun k h => by cases h; rfl⟩, fun _ => ⟨y, rfl, fun d h => join_r X.hb h⟩⟩
    · cases e
  · cases e
theorem orA_in {x y : Option A} {c : A} (e : orA X.bs x y = some c) : ∃ o, x = some (.bl o) ∧ (o ≠ some false → γ X.P c (.bl true)) ∧ (o ≠ some true → ∃ z, y = some z ∧ ∀ d, γ X.P z d → γ X.P c d) := by
  unfold orA at e
  split at e
  · cases e
    exact ⟨_, rfl, fun _ => ⟨_, rfl, fun k h => by cases h; rfl⟩, fun z => absurd rfl z⟩
  · exact ⟨_, rfl, fun z => absurd rfl z, fun _ => ⟨c, e, fun d h => h⟩⟩
  · split at e
    · rename_i y
      cases e
      exact ⟨_, rfl, fun _ => join_l X.hb ⟨_, rfl, fun k h => by cases h; rfl⟩, fun _ => ⟨y, rfl, fun d h => join_r X.hb h⟩⟩
    · cases e
  · cases e
theorem ifeA_in {x y z : Option A} {c : A} (e : ifeA X.bs x y z = some c) : ∃ o, x = some (.bl o) ∧ (o ≠ some false → ∃ w, y = some w ∧ ∀ d, γ X.P w d → γ X.P c d) ∧ (o ≠ some true → ∃ w, z = some w ∧ ∀ d, γ X.P w d → γ X.P c d) := by
  unfold ifeA at e
  split at e
  · exact ⟨_, rfl, fun _ => ⟨c, e, fun d h => h⟩, fun z => absurd rfl z⟩
  · exact ⟨_, rfl, fun z => absurd rfl z, fun _ => ⟨c, e, fun d h => h⟩⟩
  · split at e
    · rename_i y z
      cases e
      exact ⟨_, rfl, fun _ => ⟨y, rfl, fun d h => join_l X.hb h⟩, fun _ => ⟨z, rfl, fun d h => join_r X.hb h⟩⟩
    · cases e
  · cases e
theorem q_and {a b : E} (ha : SE X a) (hb : SE X b) : SE X (.and a b) := fun E σ c h e => by
  have e : andA X.bs (evA X.bs X.G X.F a E) (evA X.bs X.G X.F b (ref a true E)) = some c := e
  obtain ⟨o, ex, h0, h1⟩ := andA_in e
  obtain ⟨k, ek, hk⟩ := bl_of (ha E σ _ h ex)
  rw [e_and, ek, okb, bl_bl, okb]
  cases k with
  | true =>
    obtain ⟨z, ez, hz⟩ := h1 fun q => by have := hk false q; cases this
    obtain ⟨d, e1, hd⟩ := hb _ σ z (ref_ok a true E σ ek h) ez
    exact ⟨d, e1, hz d hd⟩
  | false => exact ⟨_, rfl, h0 fun q => by have := hk true q; cases this⟩
theorem q_or {a b : E} (ha : SE X a) (hb : SE X b) : SE X (.or a b) := fun E σ c h e => by
  have e : orA X.bs (evA X.bs X.G X.F a E) (evA X.bs X.G X.F b (ref a false E)) = some c := e
  obtain ⟨o, ex, h0, h1⟩ := orA_in e
  obtain ⟨k, ek, hk⟩ := bl_of (ha E σ _ h ex)
  rw [e_or, ek, okb, bl_bl, okb]
  cases k with
  | false =>
    obtain ⟨z, ez, hz⟩ := h1 fun q => by have := hk true q; cases this
    obtain ⟨d, e1, hd⟩ := hb _ σ z (ref_ok a false E σ ek h) ez
    exact ⟨d, e1, hz d hd⟩
  | true => exact ⟨_, rfl, h0 fun q => by have := hk false q; cases this⟩
theorem q_ife {q a b : E} (hq : SE X q) (ha : SE X a) (hb : SE X b) : SE X (.ife q a b) := fun E σ c h e => by
  have e : ifeA X.bs (evA X.bs X.G X.F q E) (evA X.bs X.G X.F a (ref q true E)) (evA X.bs X.G X.F b (ref q false E)) = some c := e
  obtain ⟨o, ex, h0, h1⟩ := ifeA_in e
  obtain ⟨k, ek, hk⟩ := bl_of (hq E σ _ h ex)
  rw [e_ife, ek, okb, bl_bl, okb]
  cases k with
  | true =>
    obtain ⟨z, ez, hz⟩ := h0 fun q => by have := hk false q; cases this
    obtain ⟨d, e1, hd⟩ := ha _ σ z (ref_ok q true E σ ek h) ez
    exact ⟨d, e1, hz d hd⟩
  | false =>
    obtain ⟨z, ez, hz⟩ := h1 fun q => by have := hk true q; cases this
    obtain ⟨d, e1, hd⟩ := hb _ σ z (ref_ok q false E σ ek h) ez
    exact ⟨d, e1, hz d hd⟩
theorem q_chain (c c' : Cm) {a b d : E} (ha : SE X a) (hb : SE X b) (hd : SE X d) : SE X (.chain c c' a b d) := fun E σ r h e => by
  have e : (match evA X.bs X.G X.F a E, evA X.bs X.G X.F b E, evA X.bs X.G X.F d E with
    | some x, some y, some z => chA X.bs (cm2 X.bs c x y) (cm2 X.bs c' y z)
    | _, _, _ => none) = some r := e
  split at e
  · rename_i x y z ex ey ez
    unfold chA at e
    split at e
    · rename_i o w e1 e2
      cases e
      rw [e_chain]
      refine (ha E σ x h ex).bind fun p hp => (hb E σ y h ey).bind fun q hq => ?_
      obtain ⟨k, ek, _⟩ := bl_of (cm2_ok e1 hp hq)
      rw [ek, okb, bl_bl, okb]
      cases k with
      | true =>
        obtain ⟨s, es, hs⟩ := hd E σ z h ez
        obtain ⟨t, et, ht⟩ := cm2_ok e2 hq hs
        refine ⟨t, ?_, join_r X.hb ht⟩
        rw [if_pos rfl, es, okb, et]
      | false => exact ⟨_, rfl, join_l X.hb ⟨_, rfl, fun k h => by cases h; rfl⟩⟩
    · cases e
  · cases e
theorem q_sl {a : E} {lo hi : Op1} (ha : SE X a) (hl : SO X lo) (hh : SO X hi) : SE X (.sl a lo hi) := fun E σ c h e => by
  have e : (match evA X.bs X.G X.F a E, evoA X.bs X.G X.F lo E, evoA X.bs X.G X.F hi E with
    | some x, some l, some h => l1 X.bs (fun x => slA x l h) x
    | _, _, _ => none) = some c := e
  split at e
  · rename_i x l q ex el eq
    rw [e_sl]
    refine (ha E σ x h ex).bind fun d hd => ?_
    obtain ⟨u, eu, hu⟩ := hl E σ l h el
    obtain ⟨v, ev, hv⟩ := hh E σ q h eq
    rw [eu, okb, ev, okb]
    exact l1_ok X.hb (F := fun d => slD d u v) (fun a c d e hd => slA_ok e hd hu hv) x c d e hd
  · cases e
theorem q_tup {es : Es} (hs : SEs X es) : SE X (.tup es) := fun E σ c h e => by
  have e : (match evsA X.bs X.G X.F es E with
    | some as => some (A.tup as)
    | none => none) = some c := e
  split at e
  · rename_i as ea
    cases e
    obtain ⟨ds, ed, hd⟩ := hs E σ as h ea
    exact ⟨.tup ds, by rw [e_tup, ed, okb], ds, rfl, hd⟩
  · cases e
theorem q_lst {es : Es} (hs : SEs X es) : SE X (.lst es) := fun E σ c h e => by
  have e : (match evsA X.bs X.G X.F es E with
    | some as => some (A.lsf as)
    | none => none) = some c := e
  split at e
  · rename_i as ea
    cases e
    obtain ⟨ds, ed, hd⟩ := hs E σ as h ea
    exact ⟨.lst ds, by rw [e_lst, ed, okb], ds, rfl, hd⟩
  · cases e
theorem q_args {es : Es} (hs : SEs X es) {f : List A → Option A} {g : List D → Res D} (hf : ∀ as a ds, f as = some a → γs X.P as ds → Ok X.P (g ds) a) {E : AEnv} {σ : PyI.Env} {c : A} (h : γE X.P E σ) (e : (match evsA X.bs X.G X.F es E with
    | some as => f as
    | none => none) = some c) : Ok X.P (evs X.G X.Φ es σ >>= g) c := by
  split at e
  · rename_i as ea
    obtain ⟨ds, ed, hd⟩ := hs E σ as h ea
    rw [ed, okb]
    exact hf as c ds e hd
  · cases e
theorem q_call (f : Str) {es : Es} (hs : SEs X es) : SE X (.call f es) := fun E σ c h e => by
  rw [e_call]
  exact q_args hs (f := X.F f) (g := X.Φ f) (fun as a ds e hd => X.hF f as a e ds hd) h e
theorem q_callF (f : Str) {es : Es} (hs : SEs X es) : SE X (.callF f es) := fun E σ c h e => by
  rw [e_callF]
  exact q_args hs (f := X.F f) (g := X.Φ f) (fun as a ds e hd => X.hF f as a e ds hd) h e
theorem q_bi (b : Bi) {es : Es} (hs : SEs X es) : SE X (.bi b es) := fun E σ c h e => by
  rw [e_bi]
  exact q_args hs (f := biA X.bs b) (g := biD b) (fun as a ds e hd => biA_ok e hd) h e
theorem q_isi (t : String) {a : E} (ha : SE X a) : SE X (.isi a t) := fun E σ c h e => by
  obtain ⟨x, ex, e⟩ := one (f := l1 X.bs (isiA t)) e
  rw [e_isi]
  exact (ha E σ x h ex).bind fun d hd => l1_ok X.hb (isiA_ok t X.P) x c d e hd
theorem strA_ok {a : A} {d : D} (e : strA X.bs a = true) (hd : γ X.P a d) : ∃ s, d = .str s := by
  unfold strA at e
  split at e
  · obtain ⟨s, rfl, _⟩ := hd; exact ⟨s, rfl⟩
  · have hd := X.hb _ _ hd
    split at e
    · rename_i eb
      rw [eb] at hd
      obtain ⟨s, rfl, _⟩ := hd
      exact ⟨s, rfl⟩
    · cases e
  · cases e
theorem q_find {a b : E} (ha : SE X a) (hb : SE X b) : SE X (.find a b) := fun E σ c h e => by
  have e : (match evA X.bs X.G X.F a E, evA X.bs X.G X.F b E with
    | some x, some y => (match strA X.bs x, strA X.bs y with
      | true, true => some A.intU
      | _, _ => none)
    | _, _ => none) = some c := e
  split at e
  · rename_i x y ex ey
    split at e
    · rename_i sx sy
      cases e
      obtain ⟨d, e1, h1⟩ := ha E σ _ h ex
      obtain ⟨d', e2, h2⟩ := hb E σ _ h ey
      obtain ⟨s, rfl⟩ := strA_ok sx h1
      obtain ⟨t, rfl⟩ := strA_ok sy h2
      exact ⟨_, by rw [e_find, e1, okb, sd_s, okb, e2, okb, sd_s, okb], _, rfl⟩
    · cases e
  · cases e
theorem q_me (m : Me) {a : E} {es : Es} (ha : SE X a) (hs : SEs X es) : SE X (.me m a es) := fun E σ c h e => by
  have e : (match evA X.bs X.G X.F a E, evsA X.bs X.G X.F es E with
    | some x, some as => l1 X.bs (fun x => meA X.bs m x as) x
    | _, _ => none) = some c := e
  split at e
  · rename_i x as ex ea
    obtain ⟨d, e1, hd⟩ := ha E σ _ h ex
    obtain ⟨ds, e2, hs⟩ := hs E σ as h ea
    rw [e_me, e1, okb, e2]
    have := l1_ok X.hb (F := fun d => meT m d >>= fun _ => meD m d ds) (fun a c d e hd => meA_ok X.hb e hd hs) x c d e hd
    cases q : meT m d with
    | ok u =>
      rw [q, okb] at this
      rw [okb, okb]
      exact this
    | exc c vs => rw [q] at this; obtain ⟨z, hz, _⟩ := this; cases hz
    | bad => rw [q] at this; obtain ⟨z, hz, _⟩ := this; cases hz
  · cases e
theorem q_fs {es : Es} (hs : SF X es) : SE X (.fs es) := fun E σ c h e => by
  have e : (match evfA X.bs X.G X.F es 0 E with
    | some m => some (A.str m)
    | none => none) = some c := e
  split at e
  · rename_i m em
    cases e
    obtain ⟨out, e1, h1⟩ := hs 0 E σ m Str.empty h em (by decide)
    exact ⟨.str out, by rw [e_fs, e1, okb], out, rfl, h1⟩
  · cases e
/-! ### comprehensions -/
theorem mapA_in {f : A → Option A} : ∀ {as rs : List A}, mapA f as = some rs → rs.length = as.length ∧ ∀ (i : Nat) (a : A), as[i]? = some a → ∃ r, rs[i]? = some r ∧ f a = some r
  | [], rs, e => by cases e; exact ⟨rfl, fun i a h => by cases h⟩
  | a :: as, rs, e => by
    have e : (match f a, mapA f as with
      | some b, some s => some (b :: s)
      | _, _ => none) = some rs := e
    split at e
    · rename_i b s e1 e2
      cases e
      obtain ⟨h1, h2⟩ := mapA_in e2
      refine ⟨by rw [List.length_cons, List.length_cons, h1], fun i x hx => ?_⟩
      cases i with
      | zero => cases hx; exact ⟨b, rfl, e1⟩
      | succ i => exact h2 i x hx
    · cases e
/-- turns that all yield, each its own -/
theorem mapR_in {f : D → Res (Option D)} {g : A → Option A} (h : ∀ a r d, g a = some r → γ X.P a d → ∃ y, f d = .ok (some y) ∧ γ X.P r y) : ∀ {as rs : List A} {ds : List D}, mapA g as = some rs → γI X.P as ds → ∃ ys, mapR f ds = .ok ys ∧ ys.length = ds.length ∧ γI X.P rs ys
  | as, rs, [], e, hI => ⟨[], rfl, rfl, by cases rs <;> trivial⟩
  | [], rs, _ :: _, e, hI => hI.elim
  | a :: as, rs, d :: ds, e, hI => by
    have e : (match g a, mapA g as with
      | some b, some s => some (b :: s)
      | _, _ => none) = some rs := e
    split at e
    · rename_i b s e1 e2
      cases e
      obtain ⟨y, h1, h2⟩ := h a b d e1 hI.1
      obtain ⟨ys, h3, h4, h5⟩ := mapR_in h e2 hI.2
      refine ⟨y :: ys, ?_, by rw [List.length_cons, List.length_cons, h4], h2, h5⟩
      show (f d >>= fun o => mapR f ds >>= fun zs => match o with
        | some x => .ok (x :: zs)
        | none => .ok zs) = _
      rw [h1, okb, h3, okb]
    · cases e
theorem mapR_un {f : D → Res (Option D)} {a r : A} (h : ∀ d, γ X.P a d → ∃ y, f d = .ok (some y) ∧ γ X.P r y) : ∀ {ds : List D}, (∀ x ∈ ds, γ X.P a x) → ∃ ys, mapR f ds = .ok ys ∧ ys.length = ds.length ∧ ∀ y ∈ ys, γ X.P r y
  | [], _ => ⟨[], rfl, rfl, fun y h => by cases h⟩
  | d :: ds, hd => by
    obtain ⟨y, h1, h2⟩ := h d (hd d List.mem_cons_self)
    obtain ⟨ys, h3, h4, h5⟩ := mapR_un h fun x hx => hd x (List.mem_cons_of_mem _ hx)
    refine ⟨y :: ys, ?_, by rw [List.length_cons, List.length_cons, h4], fun z hz => ?_⟩
    · show (f d >>= fun o => mapR f ds >>= fun zs => match o with
        | some x => .ok (x :: zs)
        | none => .ok zs) = _
      rw [h1, okb, h3, okb]
    · rcases List.mem_cons.mp hz with w | w
      · rw [w]; exact h2
      · exact h5 z w
theorem cmpR_ok {rs : List A} {lo : Nat} {ys : List D} (h : γI X.P rs ys) (hl : lo ≤ ys.length) : γ X.P (cmpR X.bs rs lo) (.lst ys) := by
  unfold cmpR
  split
  · rename_i hc
    exact ⟨ys, rfl, γI_s h (by omega)⟩
  · refine ⟨ys, rfl, hl, γI_len h, fun y hy => ?_⟩
    obtain ⟨a, ha, h1⟩ := γI_mem h y hy
    exact joinAll_ok X.hb ha h1
theorem compA_ok {f : D → Res (Option D)} {g : A → Option A} (h : ∀ a r d, g a = some r → γ X.P a d → ∃ y, f d = .ok (some y) ∧ γ X.P r y) {ai : AI} {c : A} {ds : List D} (e : compA X.bs g ai = some c) (hI : γAI X.P ai ds) : ∃ ys, mapR f ds = .ok ys ∧ ys.length ≤ sizeLine ∧ γ X.P c (.lst ys) := by
  cases ai with
  | uni a l hh =>
    have e : (if hh ≤ 1000000 then (if hh = 0 then some (A.seq false .bot 0 0) else (match g a with
      | some r => some (A.seq false r l hh)
      | none => none)) else none) = some c := e
    obtain ⟨k1, k2, k3⟩ := hI
    split at e
    · split at e
      · cases e
        have : ds = [] := List.eq_nil_of_length_eq_zero (by omega)
        subst this
        exact ⟨[], rfl, Nat.zero_le _, [], rfl, Nat.le_refl _, Nat.le_refl _, fun x hx => by cases hx⟩
      · split at e
        · rename_i r er
          cases e
          obtain ⟨ys, h1, h2, h3⟩ := mapR_un (fun d hd => h a r d er hd) k3
          exact ⟨ys, h1, s24 (by omega), ys, rfl, by omega, by omega, h3⟩
        · cases e
    · cases e
  | each as lo =>
    have e : (if as.length ≤ 1000000 then (match mapA g as with
      | some rs => some (cmpR X.bs rs lo)
      | none => none) else none) = some c := e
    split at e
    · split at e
      · rename_i rs er
        cases e
        obtain ⟨ys, h1, h2, h3⟩ := mapR_in h er hI.2
        have := γI_len hI.2
        exact ⟨ys, h1, s24 (by omega), cmpR_ok h3 (by rw [h2]; exact hI.1)⟩
      · cases e
    · cases e
theorem mapR_cif {f : D → Res (Option D)} {R : D → Prop} : ∀ {ds : List D}, (∀ d ∈ ds, f d = .ok none ∨ ∃ y, f d = .ok (some y) ∧ R y) → ∃ ys, mapR f ds = .ok ys ∧ ys.length ≤ ds.length ∧ ∀ y ∈ ys, R y
  | [], _ => ⟨[], rfl, Nat.le_refl _, fun y h => by cases h⟩
  | d :: ds, h => by
    obtain ⟨ys, h3, h4, h5⟩ := mapR_cif fun x hx => h x (List.mem_cons_of_mem _ hx)
    have red : mapR f (d :: ds) = (f d >>= fun o => mapR f ds >>= fun zs => match o with
        | some x => .ok (x :: zs)
        | none => .ok zs) := rfl
    rcases h d List.mem_cons_self with w | ⟨y, w, hy⟩
    · exact ⟨ys, by rw [red, w, okb, h3, okb], by rw [List.length_cons]; omega, h5⟩
    · refine ⟨y :: ys, by rw [red, w, okb, h3, okb], by rw [List.length_cons, List.length_cons]; omega, fun z hz => ?_⟩
      rcases List.mem_cons.mp hz with w | w
      · rw [w]; exact hy
      · exact h5 z w
theorem cifA_ok {f : D → Res (Option D)} {g : A → Option A} (h : ∀ a r d, g a = some r → γ X.P a d → f d = .ok none ∨ ∃ y, f d = .ok (some y) ∧ γ X.P r y) {ai : AI} {c : A} {ds : List D} (e : cifA X.bs g ai = some c) (hI : γAI X.P ai ds) : ∃ ys, mapR f ds = .ok ys ∧ ys.length ≤ sizeLine ∧ γ X.P c (.lst ys) := by
  cases ai with
  | uni a l hh =>
    have e : (if hh ≤ 1000000 then (match g a with
      | some r => some (A.seq false r 0 hh)
      | none => none) else none) = some c := e
    obtain ⟨k1, k2, k3⟩ := hI
    split at e
    · split at e
      · rename_i r er
        cases e
        obtain ⟨ys, h1, h2, h3⟩ := mapR_cif (R := γ X.P r) fun d hd => h a r d er (k3 d hd)
        exact ⟨ys, h1, s24 (by omega), ys, rfl, Nat.zero_le _, by omega, h3⟩
      · cases e
    · cases e
  | each as lo =>
    have e : (if as.length ≤ 1000000 then (match mapA g as with
      | some rs => some (A.seq false (joinAll X.bs rs) 0 rs.length)
      | none => none) else none) = some c := e
    split at e
    · split at e
      · rename_i rs er
        cases e
        obtain ⟨m1, m2⟩ := mapA_in er
        have := γI_len hI.2
        obtain ⟨ys, h1, h2, h3⟩ := mapR_cif (R := γ X.P (joinAll X.bs rs)) fun d hd => by
          obtain ⟨a, ha, hd⟩ := γI_mem hI.2 d hd
          obtain ⟨i, hi⟩ := List.getElem?_of_mem ha
          obtain ⟨r, hr, eg⟩ := m2 i a hi
          rcases h a r d eg hd with w | ⟨y, w, hy⟩
          · exact .inl w
          · exact .inr ⟨y, w, joinAll_ok X.hb (List.mem_of_getElem? hr) hy⟩
        exact ⟨ys, h1, s24 (by omega), ys, rfl, Nat.zero_le _, by omega, h3⟩
      · cases e
    · cases e
theorem q_comp {elt : E} {tg : Tg} {src : Src} {own : List Nat} (he : SE X elt) (hs : SS X src) : SE X (.comp elt tg src own) := fun E σ c h e => by
  have e : (match evSA X.bs X.G X.F src E with
    | some ai => compA X.bs (fun x => match asgA X.bs tg x (wipeA E own) with
      | some E2 => evA X.bs X.G X.F elt E2
      | none => none) ai
    | none => none) = some c := e
  split at e
  · rename_i ai ea
    obtain ⟨ds, e1, hI⟩ := hs E σ ai h ea
    obtain ⟨ys, e2, h2, h3⟩ := compA_ok (f := fun x => nox (asg tg x (wipeD σ own) >>= fun σ2 => ev X.G X.Φ elt σ2 >>= fun y => .ok (some y))) (fun a r d eg hd => by
      split at eg
      · rename_i E2 e2
        obtain ⟨σ2, f2, h2⟩ := asgA_ok X.hb tg a _ E2 _ d e2 (wipeA_ok h own) hd
        obtain ⟨y, f3, h3⟩ := he E2 σ2 r h2 eg
        exact ⟨y, by rw [f2, okb, f3, okb, noxo], h3⟩
      · cases eg) e hI
    exact ⟨.lst ys, by rw [e_comp, e1, okb, e2, okb, if_pos h2], h3⟩
  · cases e
theorem q_compIf {elt q : E} {tg : Tg} {src : Src} {own : List Nat} (he : SE X elt) (hq : SE X q) (hs : SS X src) : SE X (.compIf elt tg src q own) := fun E σ c h e => by
  have e : (match evSA X.bs X.G X.F src E with
    | some ai => cifA X.bs (fun x => match asgA X.bs tg x (wipeA E own) with
      | some E2 => (match evA X.bs X.G X.F q E2 with
        | some (.bl (some false)) => some .bot
        | some (.bl _) => evA X.bs X.G X.F elt (ref q true E2)
        | _ => none)
      | none => none) ai
    | none => none) = some c := e
  split at e
  · rename_i ai ea
    obtain ⟨ds, e1, hI⟩ := hs E σ ai h ea
    obtain ⟨ys, e2, h2, h3⟩ := cifA_ok (f := fun x => nox (asg tg x (wipeD σ own) >>= fun σ2 => ev X.G X.Φ q σ2 >>= fun t => blD t >>= fun k => if k then ev X.G X.Φ elt σ2 >>= fun y => .ok (some y) else .ok none)) (fun a r d eg hd => by
      split at eg
      · rename_i E2 e2
        obtain ⟨σ2, f2, h2⟩ := asgA_ok X.hb tg a _ E2 _ d e2 (wipeA_ok h own) hd
        split at eg
        · rename_i eq
          obtain ⟨k, ek, hk⟩ := bl_of (hq E2 σ2 _ h2 eq)
          have := hk false rfl
          subst this
          exact .inl (by rw [f2, okb, ek, okb, bl_bl, okb, if_neg (by decide), noxo])
        · rename_i o _ eq
          obtain ⟨k, ek, hk⟩ := bl_of (hq E2 σ2 _ h2 eq)
          cases k with
          | false => exact .inl (by rw [f2, okb, ek, okb, bl_bl, okb, if_neg (by decide), noxo])
          | true =>
            obtain ⟨y, f3, h3⟩ := he _ σ2 r (ref_ok q true E2 σ2 ek h2) eg
            exact .inr ⟨y, by rw [f2, okb, ek, okb, bl_bl, okb, if_pos rfl, f3, okb, noxo], h3⟩
        · cases eg
      · cases eg) e hI
    exact ⟨.lst ys, by rw [e_compIf, e1, okb, e2, okb, if_pos h2], h3⟩
  · cases e
/-! ### lists of expressions, ends of slices, sources -/
theorem q_nil : SEs X .nil := fun E σ as h e => by
  have e : some [] = some as := e
  cases e
  exact ⟨[], es_nil, rfl⟩
theorem q_cons {a : E} {r : Es} (ha : SE X a) (hr : SEs X r) : SEs X (.cons a r) := fun E σ as h e => by
  have e : (match evA X.bs X.G X.F a E, evsA X.bs X.G X.F r E with
    | some a, some as => some (a :: as)
    | _, _ => none) = some as := e
  split at e
  · rename_i x xs ex es
    cases e
    obtain ⟨d, e1, h1⟩ := ha E σ x h ex
    obtain ⟨ds, e2, h2⟩ := hr E σ xs h es
    exact ⟨d :: ds, by rw [es_cons, e1, okb, e2, okb], d, ds, rfl, h1, h2⟩
  · cases e
theorem q_fnil : SF X .nil := fun m E σ k acc h e hl => by
  have e : some m = some k := e
  cases e
  exact ⟨acc, ef_nil acc, hl⟩
theorem fmA_ok {a : A} {k : Nat} {d : D} (e : fmA X.bs a = some k) (hd : γ X.P a d) : ∃ y, fmtD d = .ok y ∧ y.length ≤ k := by
  have st : ∀ m x, x.length ≤ m → m ≤ 1000000 → fmtD (.str x) = .ok x := fun m x h1 h2 => if_pos (s24 (by omega))
  have it : ∀ (u v i : Int) (k : Nat), strN (im u v) = some k → u ≤ i → i ≤ v → ∃ y, fmtD (.int i) = .ok y ∧ y.length ≤ k := fun u v i k e h1 h2 => by
    obtain ⟨e1, e2⟩ := strN_ok e (im_ok h1 h2)
    have e1 : (if i.natAbs.log2 < 1920 then Res.ok (D.str (Str.ofString (toString i))) else .bad) = _ := e1
    split at e1
    · exact ⟨_, if_pos (by assumption), e2⟩
    · cases e1
  unfold fmA at e
  split at e
  · split at e
    · cases e
      obtain ⟨x, rfl, h⟩ := hd
      exact ⟨x, st _ x h (by assumption), h⟩
    · cases e
  · obtain ⟨i, rfl, h1, h2⟩ := hd
    exact it _ _ i k e h1 h2
  · have hd := X.hb _ _ hd
    split at e
    · rename_i eb
      rw [eb] at hd
      split at e
      · cases e
        obtain ⟨x, rfl, h⟩ := hd
        exact ⟨x, st _ x h (by assumption), h⟩
      · cases e
    · rename_i eb
      rw [eb] at hd
      obtain ⟨i, rfl, h1, h2⟩ := hd
      exact it _ _ i k e h1 h2
    · cases e
  · cases e
theorem q_fcons {a : E} {r : Es} (ha : SE X a) (hr : SF X r) : SF X (.cons a r) := fun m E σ k acc h e hl => by
  have e : (match evA X.bs X.G X.F a E with
    | some a => (match fmA X.bs a with
      | some k => if m + k ≤ 1000000 then evfA X.bs X.G X.F r (m + k) E else none
      | none => none)
    | none => none) = some k := e
  split at e
  · rename_i x ex
    split at e
    · rename_i k1 ek
      split at e
      · obtain ⟨d, e1, h1⟩ := ha E σ x h ex
        obtain ⟨y, e2, h2⟩ := fmA_ok ek h1
        have el : (acc ++ y).length = acc.length + y.length := by show (acc.cps ++ y.cps).size = _; simp [Str.length]
        obtain ⟨out, e3, h3⟩ := hr (m + k1) E σ k (acc ++ y) h e (by omega)
        exact ⟨out, by rw [ef_cons, e1, okb, e2, okb, if_pos (s24 (by omega)), e3], h3⟩
      · cases e
    · cases e
  · cases e
theorem q_no : SO X .no := fun E σ a h e => by
  have e : some AO.no = some a := e
  cases e
  exact ⟨none, eo_no, rfl⟩
theorem q_so {x : E} (hx : SE X x) : SO X (.so x) := fun E σ a h e => by
  have e : oneO (evA X.bs X.G X.F x E) = some a := e
  unfold oneO at e
  split at e
  · rename_i u v ex
    cases e
    obtain ⟨d, e1, i, rfl, h1, h2⟩ := hx E σ _ h ex
    refine ⟨some i, by rw [eo_so, e1, okb, in_in, okb], ?_⟩
    split
    · rename_i hc
      have : i = u := by omega
      subst this
      exact rfl
    · exact ⟨i, rfl⟩
  · rename_i ex
    cases e
    obtain ⟨d, e1, i, rfl⟩ := hx E σ _ h ex
    exact ⟨some i, by rw [eo_so, e1, okb, in_in, okb], i, rfl⟩
  · cases e
theorem q_seq {x : E} (hx : SE X x) : SS X (.seq x) := fun E σ a h e => by
  have e : (match evA X.bs X.G X.F x E with
    | some a => itA X.bs a
    | none => none) = some a := e
  split at e
  · rename_i b ex
    obtain ⟨d, e1, h1⟩ := hx E σ b h ex
    obtain ⟨ds, e2, h2⟩ := itA_ok X.hb e h1
    exact ⟨ds, by rw [eS_seq, e1, okb, e2], h2⟩
  · cases e
theorem rngA_int {x y : A} {ai : AI} {d d' : D} (e : rngA x y = some ai) (hx : γ X.P x d) (hy : γ X.P y d') : ∃ i j, d = .int i ∧ d' = .int j := by
  unfold rngA at e
  split at e
  · obtain ⟨i, rfl, _⟩ := hx
    obtain ⟨j, rfl, _⟩ := hy
    exact ⟨i, j, rfl, rfl⟩
  · cases e
theorem q_rng1 {x : E} (hx : SE X x) : SS X (.rng1 x) := fun E σ a h e => by
  have e : (match evA X.bs X.G X.F x E with
    | some x => rngA (.int 0 0) x
    | none => none) = some a := e
  split at e
  · rename_i b ex
    obtain ⟨d, e1, h1⟩ := hx E σ b h ex
    have z : γ X.P (.int 0 0) (.int 0) := ⟨0, rfl, Int.le_refl _, Int.le_refl _⟩
    obtain ⟨i, j, ei, rfl⟩ := rngA_int e z h1
    obtain ⟨ds, e2, h2⟩ := rngA_ok e z h1
    exact ⟨ds, by rw [eS_rng1, e1, okb, in_in, okb, e2], h2⟩
  · cases e
theorem q_rng2 {x y : E} (hx : SE X x) (hy : SE X y) : SS X (.rng2 x y) := fun E σ a h e => by
  have e : (match evA X.bs X.G X.F x E, evA X.bs X.G X.F y E with
    | some x, some y => rngA x y
    | _, _ => none) = some a := e
  split at e
  · rename_i b c ex ey
    obtain ⟨d, e1, h1⟩ := hx E σ b h ex
    obtain ⟨d', e1', h1'⟩ := hy E σ c h ey
    obtain ⟨i, j, rfl, rfl⟩ := rngA_int e h1 h1'
    obtain ⟨ds, e2, h2⟩ := rngA_ok e h1 h1'
    exact ⟨ds, by rw [eS_rng2, e1, okb, e1', okb, in_in, okb, in_in, okb, e2], h2⟩
  · cases e
theorem q_enum {x : E} (hx : SE X x) : SS X (.enum x) := fun E σ a h e => by
  have e : (match evA X.bs X.G X.F x E with
    | some a => (match enA a with
      | some ai => some (enuA ai)
      | none => none)
    | none => none) = some a := e
  split at e
  · rename_i b ex
    split at e
    · rename_i ai ea
      cases e
      obtain ⟨d, e1, h1⟩ := hx E σ b h ex
      obtain ⟨ds, t, e2, _, h2⟩ := enA_ok ea h1
      exact ⟨enumD 0 ds, by rw [eS_enum, e1, okb, e2, okb], enuA_ok h2⟩
    · cases e
  · cases e
theorem zip_sq (t : Bool) (ds es : List D) : zipI (sqD t ds) (sqD t es) = .ok (ds, es) := by cases t <;> rfl
theorem q_zip {x y : E} (hx : SE X x) (hy : SE X y) : SS X (.zip x y) := fun E σ a h e => by
  have gen : ∀ (b c : A) (t : Bool), (match enA b, enA c with
      | some u, some v => some (zpA u v)
      | _, _ => none) = some a → (∀ d, γ X.P b d → ∃ ds, d = sqD t ds) → (∀ d, γ X.P c d → ∃ ds, d = sqD t ds) → evA X.bs X.G X.F x E = some b → evA X.bs X.G X.F y E = some c → ∃ ds, evS X.G X.Φ (.zip x y) σ = .ok ds ∧ γAI X.P a ds := by
    intro b c t e hb hc ex ey
    split at e
    · rename_i u v eu ev
      cases e
      obtain ⟨d, e1, h1⟩ := hx E σ b h ex
      obtain ⟨d', e1', h1'⟩ := hy E σ c h ey
      obtain ⟨ds, t1, _, q1, h2⟩ := enA_ok eu h1
      obtain ⟨es, t2, _, q2, h2'⟩ := enA_ok ev h1'
      obtain ⟨ds', r1⟩ := hb d h1
      obtain ⟨es', r2⟩ := hc d' h1'
      have i1 : t1 = t ∧ ds = ds' := by
        rw [q1] at r1
        cases t1 <;> cases t <;> cases r1 <;> exact ⟨rfl, rfl⟩
      have i2 : t2 = t ∧ es = es' := by
        rw [q2] at r2
        cases t2 <;> cases t <;> cases r2 <;> exact ⟨rfl, rfl⟩
      refine ⟨zipD ds es, ?_, zpA_ok h2 h2'⟩
      rw [eS_zip, e1, okb, e1', okb, q1, q2, i1.1, i2.1, zip_sq, okb]
    · cases e
  have sq : ∀ t a l h d, γ X.P (.seq t a l h) d → ∃ ds, d = sqD t ds := fun t a l h d hd => by obtain ⟨ds, e, _⟩ := hd; exact ⟨ds, e⟩
  have tp : ∀ as d, γ X.P (.tup as) d → ∃ ds, d = sqD true ds := fun as d hd => by obtain ⟨ds, e, _⟩ := hd; exact ⟨ds, e⟩
  have ls : ∀ as d, γ X.P (.lsf as) d → ∃ ds, d = sqD false ds := fun as d hd => by obtain ⟨ds, e, _⟩ := hd; exact ⟨ds, e⟩
  unfold evSA at e
  split at e
  · rename_i b c ex ey
    split at e
    · split at e
      · rename_i ht
        subst ht
        exact gen _ _ _ e (fun d => sq _ _ _ _ d) (fun d => sq _ _ _ _ d) ex ey
      · cases e
    · exact gen _ _ true e (fun d => tp _ d) (fun d => tp _ d) ex ey
    · exact gen _ _ true e (fun d => tp _ d) (fun d => sq _ _ _ _ d) ex ey
    · exact gen _ _ true e (fun d => sq _ _ _ _ d) (fun d => tp _ d) ex ey
    · exact gen _ _ false e (fun d => ls _ d) (fun d => ls _ d) ex ey
    · exact gen _ _ false e (fun d => ls _ d) (fun d => sq _ _ _ _ d) ex ey
    · exact gen _ _ false e (fun d => sq _ _ _ _ d) (fun d => ls _ d) ex ey
    · cases e
  · cases e
variable (X)
mutual
theorem evA_ok : ∀ e : E, SE X e
  | .var i => q_var i
  | .par i => q_par i
  | .int i => q_int i
  | .str x => q_str x
  | .bl b => q_bl b
  | .non => q_non
  | .glob x => q_glob x
  | .op o a b => q_op o (evA_ok a) (evA_ok b)
  | .neg a => q_neg (evA_ok a)
  | .not a => q_not (evA_ok a)
  | .and a b => q_and (evA_ok a) (evA_ok b)
  | .or a b => q_or (evA_ok a) (evA_ok b)
  | .cmp c a b => q_cmp c (evA_ok a) (evA_ok b)
  | .chain c c' a b d => q_chain c c' (evA_ok a) (evA_ok b) (evA_ok d)
  | .ife c a b => q_ife (evA_ok c) (evA_ok a) (evA_ok b)
  | .ix a b => q_ix (evA_ok a) (evA_ok b)
  | .sl a lo hi => q_sl (evA_ok a) (evoA_ok lo) (evoA_ok hi)
  | .tup es => q_tup (evsA_ok es)
  | .lst es => q_lst (evsA_ok es)
  | .comp elt tg src own => q_comp (evA_ok elt) (evSA_ok src)
  | .compIf elt tg src c own => q_compIf (evA_ok elt) (evA_ok c) (evSA_ok src)
  | .comp2 .. => fun E σ a h e => by cases (show none = some a from e)
  | .call f es => q_call f (evsA_ok es)
  | .callF f es => q_callF f (evsA_ok es)
  | .bi b es => q_bi b (evsA_ok es)
  | .isi a t => q_isi t (evA_ok a)
  | .find a b => q_find (evA_ok a) (evA_ok b)
  | .dget .. => fun E σ a h e => by cases (show none = some a from e)
  | .me m a es => q_me m (evA_ok a) (evsA_ok es)
  | .fs es => q_fs (evfA_ok es)
theorem evfA_ok : ∀ es : Es, SF X es
  | .nil => q_fnil
  | .cons e r => q_fcons (evA_ok e) (evfA_ok r)
theorem evsA_ok : ∀ es : Es, SEs X es
  | .nil => q_nil
  | .cons e r => q_cons (evA_ok e) (evsA_ok r)
theorem evoA_ok : ∀ o : Op1, SO X o
  | .no => q_no
  | .so e => q_so (evA_ok e)
theorem evSA_ok : ∀ s : Src, SS X s
  | .seq e => q_seq (evA_ok e)
  | .rng1 a => q_rng1 (evA_ok a)
  | .rng2 a b => q_rng2 (evA_ok a) (evA_ok b)
  | .enum e => q_enum (evA_ok e)
  | .zip a b => q_zip (evA_ok a) (evA_ok b)
end
end
end PyI
/-! PyA, part 9: statements. -/
namespace PyI
open PySem L2
section
variable (bs : Nat → A)
/-- surely without a list within; surely a list -/
def stillA : Nat → A → Option Bool
  | 0, _ => none
  | n + 1, a => match a with
    | .bot => some true
    | .int _ _ => some true
    | .intU => some true
    | .bl _ => some true
    | .non => some true
    | .str _ => some true
    | .scr => some false
    | .lsf _ => some false
    | .seq false _ _ _ => some false
    | .seq true a _ _ => if stillA n a = some true then some true else none
    | .tup as => if as.all fun a => decide (stillA n a = some true) then some true else none
    | .p i => stillA n (bs i)
    | .un a b => if stillA n a = stillA n b then stillA n a else none
    | .any _ => none
end
theorem stills_all : ∀ {ds : List D}, (∀ d ∈ ds, d.still = true) → D.stills ds = true
  | [], _ => rfl
  | d :: r, h => by
    show (d.still && D.stills r) = true
    rw [h d List.mem_cons_self, stills_all fun x hx => h x (List.mem_cons_of_mem _ hx)]
    rfl
theorem stillA_ok {P : Nat → D → Prop} {bs : Nat → A} (hb : ∀ i d, P i d → γ P (bs i) d) : ∀ (n : Nat) (a : A) (b : Bool) (d : D), stillA bs n a = some b → γ P a d → d.still = b := by
  intro n
  induction n with
  | zero => intro a b d h; cases h
  | succ n ih =>
    intro a b d h hd
    unfold stillA at h
    split at h
    · exact hd.elim
    · cases h; obtain ⟨i, rfl, _⟩ := hd; rfl
    · cases h; obtain ⟨i, rfl⟩ := hd; rfl
    · cases h; obtain ⟨i, rfl, _⟩ := hd; rfl
    · cases h; cases (show d = .non from hd); rfl
    · cases h; obtain ⟨i, rfl, _⟩ := hd; rfl
    · cases h; obtain ⟨i, rfl⟩ := hd; rfl
    · cases h; obtain ⟨i, rfl, _⟩ := hd; rfl
    · cases h; obtain ⟨i, rfl, _⟩ := hd; rfl
    · split at h
      · rename_i hs
        cases h
        obtain ⟨ds, rfl, _, _, k3⟩ := hd
        exact stills_all fun x hx => ih _ _ x hs (k3 x hx)
      · cases h
    · split at h
      · rename_i hs
        cases h
        obtain ⟨ds, rfl, k⟩ := hd
        exact stills_all fun x hx => by
          obtain ⟨a, ha, h1⟩ := γs_mem k x hx
          exact ih _ _ x (of_decide_eq_true (List.all_eq_true.mp hs a ha)) h1
      · cases h
    · exact ih _ _ d h (hb _ _ hd)
    · split at h
      · rename_i hs
        rcases hd with z | z
        · exact ih _ _ d h z
        · exact ih _ _ d (hs ▸ h) z
      · cases h
    · cases h
def frzA (E : AEnv) (i : Nat) : AEnv := match E[i]? with
  | some (.o a l h) => E.set i (.v (.seq false a l h))
  | some (.l a l h) => E.set i (.v (.seq false a l h))
  | _ => E
def freezeA (E : AEnv) : List Nat → AEnv
  | [] => E
  | i :: r => frzA (freezeA E r) i
def lsA (E : AEnv) (i : Nat) : AEnv := match E[i]? with
  | some (.o a l h) => E.set i (.l a l h)
  | _ => E
def looseA (E : AEnv) : List Nat → AEnv
  | [] => E
  | i :: r => lsA (looseA E r) i
theorem set_eq {α : Type} {l : List α} {i : Nat} {a : α} (h : l[i]? = some a) : l.set i a = l := by
  apply List.ext_getElem?
  intro j
  by_cases z : i = j
  · subst z
    rw [List.getElem?_set_self (List.getElem?_eq_some_iff.mp h).1, h]
  · rw [List.getElem?_set_ne z]
theorem frz_eq (σ : PyI.Env) (i : Nat) : frz σ i = (match σ[i]? with
    | some (some (.o xs)) => σ.set i (some (.v (.lst xs)))
    | _ => σ) := (frz_ok σ i).symm
section
variable {P : Nat → D → Prop}
theorem frzA_ok {E : AEnv} {σ : PyI.Env} (i : Nat) (h : γE P E σ) : γE P (frzA E i) (frz σ i) := by
  rw [frz_eq]
  unfold frzA
  split
  · rename_i a l hh ei
    obtain ⟨c, ec, ds, rfl, hd⟩ := γE_get h ei
    rw [ec]
    exact γE_set i h ⟨_, rfl, ds, rfl, hd⟩
  · rename_i a l hh ei
    obtain ⟨c, ec, ds, hc, hd⟩ := γE_get h ei
    rw [ec]
    rcases hc with rfl | rfl
    · exact γE_set i h ⟨_, rfl, ds, rfl, hd⟩
    · have := γE_set i (a := .v (.seq false a l hh)) (c := some (.v (.lst ds))) h ⟨_, rfl, ds, rfl, hd⟩
      rw [set_eq ec] at this
      exact this
  · rename_i n1 n2
    split
    · rename_i xs ec
      cases ei : E[i]? with
      | none =>
        have := γE_len h
        have l1 := (List.getElem?_eq_some_iff.mp ec).1
        have l2 := List.getElem?_eq_none_iff.mp ei
        omega
      | some q =>
        obtain ⟨c, ec', hc⟩ := γE_get h ei
        rw [ec] at ec'
        cases ec'
        cases q with
        | top =>
          have := γE_set i (a := .top) (c := some (.v (.lst xs))) h trivial
          rw [set_eq ei] at this
          exact this
        | v a => obtain ⟨d, hd, _⟩ := hc; cases hd
        | o a l hh => exact absurd ei (n1 a l hh)
        | l a l hh => exact absurd ei (n2 a l hh)
    · exact h
theorem freezeA_ok {E : AEnv} {σ : PyI.Env} (h : γE P E σ) : ∀ L, γE P (freezeA E L) (freeze σ L)
  | [] => h
  | i :: r => by
    rw [fz_c]
    exact frzA_ok i (freezeA_ok h r)
theorem lsA_ok {E : AEnv} {σ : PyI.Env} (i : Nat) (h : γE P E σ) : γE P (lsA E i) σ := by
  unfold lsA
  split
  · rename_i ei
    refine γE_keep i h fun c hc => ?_
    obtain ⟨c', ec, ds, rfl, hd⟩ := γE_get h ei
    rw [hc] at ec
    cases ec
    exact ⟨ds, .inl rfl, hd⟩
  · exact h
theorem lsA_fz {E : AEnv} {σ : PyI.Env} (i : Nat) (h : γE P E σ) : γE P (lsA E i) (frz σ i) := by
  rw [frz_eq]
  unfold lsA
  split
  · rename_i a l hh ei
    obtain ⟨c, ec, ds, rfl, hd⟩ := γE_get h ei
    rw [ec]
    exact γE_set i h ⟨ds, .inr rfl, hd⟩
  · rename_i n1
    split
    · rename_i xs ec
      cases ei : E[i]? with
      | none =>
        have := γE_len h
        have l1 := (List.getElem?_eq_some_iff.mp ec).1
        have l2 := List.getElem?_eq_none_iff.mp ei
        omega
      | some q =>
        obtain ⟨c, ec', hc⟩ := γE_get h ei
        rw [ec] at ec'
        cases ec'
        cases q with
        | top =>
          have := γE_set i (a := .top) (c := some (.v (.lst xs))) h trivial
          rw [set_eq ei] at this
          exact this
        | v a => obtain ⟨d, hd, _⟩ := hc; cases hd
        | o a l hh => exact absurd ei (n1 a l hh)
        | l a l hh =>
          obtain ⟨ds, hd, hl⟩ := hc
          have e : xs = ds := by rcases hd with w | w <;> cases w; rfl
          subst e
          have := γE_set i (a := .l a l hh) (c := some (.v (.lst xs))) h ⟨xs, .inr rfl, hl⟩
          rw [set_eq ei] at this
          exact this
    · exact h
theorem looseA_ok {E : AEnv} {σ : PyI.Env} (h : γE P E σ) : ∀ L, γE P (looseA E L) σ
  | [] => h
  | i :: r => lsA_ok i (looseA_ok h r)
theorem looseA_fz {E : AEnv} {σ : PyI.Env} (h : γE P E σ) : ∀ L, γE P (looseA E L) (freeze σ L)
  | [] => h
  | i :: r => by
    rw [fz_c]
    exact lsA_fz i (looseA_fz h r)
end
section
variable (bs : Nat → A)
def keepA (E : AEnv) (a : A) (L : List Nat) : AEnv := match stillA bs 12 a with
  | some true => E
  | some false => freezeA E L
  | none => looseA E L
def asL : A → Option (A × Nat × Nat)
  | .seq false a l h => some (a, l, h)
  | .lsf as => some (joinAll bs as, as.length, as.length)
  | _ => none
def notL (a : A) : Bool := match tyA a with
  | some t => decide (t ≠ "list")
  | none => (match a with
    | .p i => (match tyA (bs i) with
      | some t => decide (t ≠ "list")
      | none => false)
    | .un a b => (match tyA a, tyA b with
      | some t, some u => decide (t ≠ "list") && decide (u ≠ "list")
      | _, _ => false)
    | _ => false)
def setA (E : AEnv) (i : Nat) (e : PyI.E) (a : A) : Option AEnv := if i < E.length then
  (if fresh e then (match asL bs a with
    | some (b, l, h) => some ((freezeA E (li e)).set i (.o b l h))
    | none => if notL bs a then some ((keepA bs E a (lt e ++ li e)).set i (.v a)) else none)
  else some ((keepA bs E a (lt e ++ li e)).set i (.v a))) else none
end
section
variable {P : Nat → D → Prop} {bs : Nat → A} (hb : ∀ i d, P i d → γ P (bs i) d)
include hb
theorem keepA_ok {E : AEnv} {σ : PyI.Env} {a : A} {d : D} (h : γE P E σ) (hd : γ P a d) (L : List Nat) : γE P (keepA bs E a L) (keepL σ d L) := by
  unfold keepA keepL
  split
  · rename_i es
    rw [stillA_ok hb _ _ _ _ es hd, if_pos rfl]
    exact h
  · rename_i es
    rw [stillA_ok hb _ _ _ _ es hd, if_neg (by decide)]
    exact freezeA_ok h L
  · split
    · exact looseA_ok h L
    · exact looseA_fz h L
theorem asL_ok {a b : A} {l h : Nat} {d : D} (e : asL bs a = some (b, l, h)) (hd : γ P a d) : ∃ ds, d = .lst ds ∧ γL P b l h ds := by
  unfold asL at e
  split at e
  · cases e
    obtain ⟨ds, rfl, h⟩ := hd
    exact ⟨ds, rfl, h⟩
  · cases e
    obtain ⟨ds, rfl, h⟩ := hd
    have := γs_len h
    exact ⟨ds, rfl, by omega, by omega, fun x hx => by
      obtain ⟨a, ha, h1⟩ := γs_mem h x hx
      exact joinAll_ok hb ha h1⟩
  · cases e
theorem notL_ok {a : A} {d : D} (e : notL bs a = true) (hd : γ P a d) : ∀ ds, d ≠ .lst ds := by
  intro ds z
  subst z
  have key : ∀ (a : A) t, tyA a = some t → γ P a (.lst ds) → t = "list" := fun a t et h => (tyA_ok et h).symm
  unfold notL at e
  split at e
  · rename_i t et
    exact (of_decide_eq_true e) (key _ _ et hd)
  · split at e
    · split at e
      · rename_i t et
        exact (of_decide_eq_true e) (key _ _ et (hb _ _ hd))
      · cases e
    · split at e
      · rename_i t u et eu
        rw [Bool.and_eq_true] at e
        rcases hd with z | z
        · exact (of_decide_eq_true e.1) (key _ _ et z)
        · exact (of_decide_eq_true e.2) (key _ _ eu z)
      · cases e
    · cases e
theorem frz_len (σ : PyI.Env) (i : Nat) : (frz σ i).length = σ.length := by
  rw [frz_eq]
  split
  · exact List.length_set
  · rfl
theorem setA_ok {E E1 : AEnv} {σ : PyI.Env} {i : Nat} {e : PyI.E} {a : A} {d : D} (es : setA bs E i e a = some E1) (h : γE P E σ) (hd : γ P a d) : ∃ σ1, setE σ i e d = .ok σ1 ∧ γE P E1 σ1 := by
  unfold setA at es
  split at es
  · rename_i hi
    have hi' : i < σ.length := by rw [γE_len h]; exact hi
    split at es
    · rename_i hf
      split at es
      · rename_i b l hh ea
        cases es
        obtain ⟨ds, rfl, hl⟩ := asL_ok hb ea hd
        exact ⟨_, by rw [sE_t hf, if_pos hi'], γE_set i (freezeA_ok h _) ⟨ds, rfl, hl⟩⟩
      · split at es
        · rename_i hn
          cases es
          have nl := notL_ok hb hn hd
          refine ⟨(keepL σ d (lt e ++ li e)).set i (some (.v d)), ?_, γE_set i (keepA_ok hb h hd _) ⟨d, rfl, hd⟩⟩
          unfold setE
          rw [if_pos hi', hf]
          cases d with
          | lst ds => exact absurd rfl (nl ds)
          | _ => rfl
        · cases es
    · rename_i hf
      cases es
      exact ⟨_, by rw [sE_f (by simpa using hf), if_pos hi'], γE_set i (keepA_ok hb h hd _) ⟨d, rfl, hd⟩⟩
  · cases es
end
/-! ### joined slots -/
section
variable (bs : Nat → A)
def lC : AC → Option (A × Nat × Nat)
  | .v (.seq false a l h) => some (a, l, h)
  | .v (.lsf as) => some (joinAll bs as, as.length, as.length)
  | .o a l h => some (a, l, h)
  | .l a l h => some (a, l, h)
  | _ => none
def joinC (x y : AC) : AC := match x, y with
  | .v a, .v b => .v (join bs a b)
  | .o a l h, .o a' l' h' => .o (join bs a a') (if l' < l then l' else l) (if h < h' then h' else h)
  | x, y => (match lC bs x, lC bs y with
    | some (a, l, h), some (a', l', h') => .l (join bs a a') (if l' < l then l' else l) (if h < h' then h' else h)
    | _, _ => .top)
def joinE : AEnv → AEnv → AEnv
  | a :: E, b :: E' => joinC bs a b :: joinE E E'
  | _, _ => []
def leqC : AC → AC → Bool
  | _, .top => true
  | .v a, .v b => leq bs 60 a b
  | .o a l h, .o a' l' h' => leq bs 60 a a' && decide (l' ≤ l) && decide (h ≤ h')
  | .o a l h, .l a' l' h' => leq bs 60 a a' && decide (l' ≤ l) && decide (h ≤ h')
  | .l a l h, .l a' l' h' => leq bs 60 a a' && decide (l' ≤ l) && decide (h ≤ h')
  | _, _ => false
def leqE : AEnv → AEnv → Bool
  | [], [] => true
  | a :: E, b :: E' => leqC bs a b && leqE E E'
  | _, _ => false
def jO : Option AEnv → Option AEnv → Option AEnv
  | some x, some y => some (joinE bs x y)
  | some x, none => some x
  | none, y => y
def jR : Option A → Option A → Option A
  | some x, some y => some (join bs x y)
  | some x, none => some x
  | none, y => y
end
section
variable {P : Nat → D → Prop} {bs : Nat → A} (hb : ∀ i d, P i d → γ P (bs i) d)
include hb
theorem γL_l {a a' : A} {l h l' h' : Nat} {ds : List D} (hd : γL P a l h ds) : γL P (join bs a a') (if l' < l then l' else l) (if h < h' then h' else h) ds := by
  obtain ⟨h1, h2, h3⟩ := hd
  exact ⟨by split <;> omega, by split <;> omega, fun x hx => join_l hb (h3 x hx)⟩
theorem γL_r {a a' : A} {l h l' h' : Nat} {ds : List D} (hd : γL P a' l' h' ds) : γL P (join bs a a') (if l' < l then l' else l) (if h < h' then h' else h) ds := by
  obtain ⟨h1, h2, h3⟩ := hd
  exact ⟨by split <;> omega, by split <;> omega, fun x hx => join_r hb (h3 x hx)⟩
theorem lC_ok {x : AC} {a : A} {l h : Nat} {c : Option C} (e : lC bs x = some (a, l, h)) (hc : γC P x c) : ∃ ds, (c = some (.o ds) ∨ c = some (.v (.lst ds))) ∧ γL P a l h ds := by
  unfold lC at e
  split at e
  · cases e
    obtain ⟨d, rfl, ds, rfl, hl⟩ := hc
    exact ⟨ds, .inr rfl, hl⟩
  · cases e
    obtain ⟨d, rfl, ds, rfl, hl⟩ := hc
    have := γs_len hl
    exact ⟨ds, .inr rfl, by omega, by omega, fun x hx => by
      obtain ⟨a, ha, h1⟩ := γs_mem hl x hx
      exact joinAll_ok hb ha h1⟩
  · cases e
    obtain ⟨ds, rfl, hl⟩ := hc
    exact ⟨ds, .inl rfl, hl⟩
  · cases e
    exact hc
  · cases e
theorem joinC_l {x y : AC} {c : Option C} (hc : γC P x c) : γC P (joinC bs x y) c := by
  unfold joinC
  split
  · obtain ⟨d, rfl, h⟩ := hc; exact ⟨d, rfl, join_l hb h⟩
  · obtain ⟨ds, rfl, h⟩ := hc; exact ⟨ds, rfl, γL_l hb h⟩
  · split
    · rename_i e1 e2
      obtain ⟨ds, h1, h2⟩ := lC_ok hb e1 hc
      exact ⟨ds, h1, γL_l hb h2⟩
    · trivial
theorem joinC_r {x y : AC} {c : Option C} (hc : γC P y c) : γC P (joinC bs x y) c := by
  unfold joinC
  split
  · obtain ⟨d, rfl, h⟩ := hc; exact ⟨d, rfl, join_r hb h⟩
  · obtain ⟨ds, rfl, h⟩ := hc; exact ⟨ds, rfl, γL_r hb h⟩
  · split
    · rename_i e1 e2
      obtain ⟨ds, h1, h2⟩ := lC_ok hb e2 hc
      exact ⟨ds, h1, γL_r hb h2⟩
    · trivial
theorem joinE_l : ∀ {x y : AEnv} {σ : PyI.Env}, x.length = y.length → γE P x σ → γE P (joinE bs x y) σ
  | [], [], σ, _, h => h
  | [], _ :: _, _, e, _ => by cases e
  | _ :: _, [], _, e, _ => by cases e
  | a :: x, b :: y, σ, e, h => by
    obtain ⟨c, r, rfl, h1, h2⟩ := h
    exact ⟨c, r, rfl, joinC_l hb h1, joinE_l (by simpa using e) h2⟩
theorem joinE_r : ∀ {x y : AEnv} {σ : PyI.Env}, x.length = y.length → γE P y σ → γE P (joinE bs x y) σ
  | [], [], σ, _, h => h
  | [], _ :: _, _, e, _ => by cases e
  | _ :: _, [], _, e, _ => by cases e
  | a :: x, b :: y, σ, e, h => by
    obtain ⟨c, r, rfl, h1, h2⟩ := h
    exact ⟨c, r, rfl, joinC_r hb h1, joinE_r (by simpa using e) h2⟩
theorem leqC_ok {x y : AC} {c : Option C} (e : leqC bs x y = true) (hc : γC P x c) : γC P y c := by
  unfold leqC at e
  split at e
  · trivial
  · obtain ⟨d, rfl, h⟩ := hc; exact ⟨d, rfl, leq_ok hb _ _ _ e d h⟩
  · rw [Bool.and_eq_true, Bool.and_eq_true, decide_eq_true_eq, decide_eq_true_eq] at e
    obtain ⟨ds, rfl, h1, h2, h3⟩ := hc
    exact ⟨ds, rfl, by omega, by omega, fun x hx => leq_ok hb _ _ _ e.1.1 x (h3 x hx)⟩
  · rw [Bool.and_eq_true, Bool.and_eq_true, decide_eq_true_eq, decide_eq_true_eq] at e
    obtain ⟨ds, rfl, h1, h2, h3⟩ := hc
    exact ⟨ds, .inl rfl, by omega, by omega, fun x hx => leq_ok hb _ _ _ e.1.1 x (h3 x hx)⟩
  · rw [Bool.and_eq_true, Bool.and_eq_true, decide_eq_true_eq, decide_eq_true_eq] at e
    obtain ⟨ds, hd, h1, h2, h3⟩ := hc
    exact ⟨ds, hd, by omega, by omega, fun x hx => leq_ok hb _ _ _ e.1.1 x (h3 x hx)⟩
  · cases e
theorem leqE_ok : ∀ {x y : AEnv} {σ : PyI.Env}, leqE bs x y = true → γE P x σ → γE P y σ
  | [], [], σ, _, h => h
  | [], _ :: _, _, e, _ => by cases e
  | _ :: _, [], _, e, _ => by cases e
  | a :: x, b :: y, σ, e, h => by
    have e : (leqC bs a b && leqE bs x y) = true := e
    rw [Bool.and_eq_true] at e
    obtain ⟨c, r, rfl, h1, h2⟩ := h
    exact ⟨c, r, rfl, leqC_ok hb e.1 h1, leqE_ok e.2 h2⟩
end
end PyI
/-! PyA, part 10: statements and calls. -/
namespace PyI
open PySem L2
/-- how statements may end: behind themselves, with a value, by break, by continue -/
structure AOut where
  nx : Option AEnv
  rt : Option A
  bk : Option AEnv
  ct : Option AEnv
def γO1 (P : Nat → D → Prop) (o : Option AEnv) (σ : PyI.Env) : Prop := ∃ E, o = some E ∧ γE P E σ
def γOut (P : Nat → D → Prop) (o : AOut) : Out → Prop
  | .nx σ => γO1 P o.nx σ
  | .rt d => ∃ a, o.rt = some a ∧ γ P a d
  | .bk σ => γO1 P o.bk σ
  | .ct σ => γO1 P o.ct σ
  | .exc _ _ => False
  | .bad => False
section
variable (bs : Nat → A)
def jo : Option AEnv → Option AEnv → Option (Option AEnv)
  | some x, some y => if x.length = y.length then some (some (joinE bs x y)) else none
  | some x, none => some (some x)
  | none, y => some y
def joinOut (x y : AOut) : Option AOut := match jo bs x.nx y.nx, jo bs x.bk y.bk, jo bs x.ct y.ct with
  | some n, some b, some c => some ⟨n, jR bs x.rt y.rt, b, c⟩
  | _, _, _ => none
/-- behind o1, o2 from its next state -/
def thenOut (x y : AOut) : Option AOut := match jo bs x.bk y.bk, jo bs x.ct y.ct with
  | some b, some c => some ⟨y.nx, jR bs x.rt y.rt, b, c⟩
  | _, _ => none
end
section
variable {P : Nat → D → Prop} {bs : Nat → A} (hb : ∀ i d, P i d → γ P (bs i) d)
include hb
theorem jo_l {x y z : Option AEnv} {σ : PyI.Env} (e : jo bs x y = some z) (h : γO1 P x σ) : γO1 P z σ := by
  obtain ⟨E, rfl, h⟩ := h
  cases y with
  | none => cases e; exact ⟨E, rfl, h⟩
  | some y =>
    have e : (if E.length = y.length then some (some (joinE bs E y)) else none) = some z := e
    split at e
    · rename_i hl
      cases e
      exact ⟨_, rfl, joinE_l hb hl h⟩
    · cases e
theorem jo_r {x y z : Option AEnv} {σ : PyI.Env} (e : jo bs x y = some z) (h : γO1 P y σ) : γO1 P z σ := by
  obtain ⟨E, rfl, h⟩ := h
  cases x with
  | none => cases e; exact ⟨E, rfl, h⟩
  | some x =>
    have e : (if x.length = E.length then some (some (joinE bs x E)) else none) = some z := e
    split at e
    · rename_i hl
      cases e
      exact ⟨_, rfl, joinE_r hb hl h⟩
    · cases e
theorem jR_l {x y : Option A} {d : D} (h : ∃ a, x = some a ∧ γ P a d) : ∃ a, jR bs x y = some a ∧ γ P a d := by
  obtain ⟨a, rfl, h⟩ := h
  cases y with
  | none => exact ⟨a, rfl, h⟩
  | some y => exact ⟨_, rfl, join_l hb h⟩
theorem jR_r {x y : Option A} {d : D} (h : ∃ a, y = some a ∧ γ P a d) : ∃ a, jR bs x y = some a ∧ γ P a d := by
  obtain ⟨a, rfl, h⟩ := h
  cases x with
  | none => exact ⟨a, rfl, h⟩
  | some x => exact ⟨_, rfl, join_r hb h⟩
theorem joinOut_l {x y z : AOut} {o : Out} (e : joinOut bs x y = some z) (h : γOut P x o) : γOut P z o := by
  unfold joinOut at e
  split at e
  · rename_i e1 e2 e3
    cases e
    cases o with
    | nx σ => exact jo_l hb e1 h
    | rt d => exact jR_l hb h
    | bk σ => exact jo_l hb e2 h
    | ct σ => exact jo_l hb e3 h
    | exc c vs => exact h
    | bad => exact h
  · cases e
theorem joinOut_r {x y z : AOut} {o : Out} (e : joinOut bs x y = some z) (h : γOut P y o) : γOut P z o := by
  unfold joinOut at e
  split at e
  · rename_i e1 e2 e3
    cases e
    cases o with
    | nx σ => exact jo_r hb e1 h
    | rt d => exact jR_r hb h
    | bk σ => exact jo_r hb e2 h
    | ct σ => exact jo_r hb e3 h
    | exc c vs => exact h
    | bad => exact h
  · cases e
/-- a statement that did not end behind itself -/
theorem thenOut_l {x y z : AOut} {o : Out} (e : thenOut bs x y = some z) (h : γOut P x o) (hn : ∀ σ, o ≠ .nx σ) : γOut P z o := by
  unfold thenOut at e
  split at e
  · rename_i e2 e3
    cases e
    cases o with
    | nx σ => exact absurd rfl (hn σ)
    | rt d => exact jR_l hb h
    | bk σ => exact jo_l hb e2 h
    | ct σ => exact jo_l hb e3 h
    | exc c vs => exact h
    | bad => exact h
  · cases e
theorem thenOut_r {x y z : AOut} {o : Out} (e : thenOut bs x y = some z) (h : γOut P y o) : γOut P z o := by
  unfold thenOut at e
  split at e
  · rename_i e2 e3
    cases e
    cases o with
    | nx σ => exact h
    | rt d => exact jR_r hb h
    | bk σ => exact jo_r hb e2 h
    | ct σ => exact jo_r hb e3 h
    | exc c vs => exact h
    | bad => exact h
  · cases e
end
/-! ### loops -/
section
variable (bs : Nat → A)
def forA (g : A → AEnv → Option AEnv) (f : AEnv → Option AOut) : List A → Nat → AEnv → Option AOut
  | [], _, E => some ⟨some E, none, none, none⟩
  | a :: as, lo, E => match g a E with
    | some E1 => (match f E1 with
      | some o => (match jo bs (if lo = 0 then some E else none) o.bk, jo bs o.nx o.ct with
        | some here, some none => some ⟨here, o.rt, none, none⟩
        | some here, some (some E2) => (match forA g f as (lo - 1) E2 with
          | some o2 => (match jo bs here o2.nx with
            | some n => some ⟨n, jR bs o.rt o2.rt, none, none⟩
            | none => none)
          | none => none)
        | _, _ => none)
      | none => none)
    | none => none
def fixA (g : A → AEnv → Option AEnv) (f : AEnv → Option AOut) (a : A) : Nat → AEnv → Option AOut
  | 0, _ => none
  | n + 1, E => match g a E with
    | some E1 => (match f E1 with
      | some o => (match jo bs (some E) o.bk, jo bs o.nx o.ct with
        | some n1, some none => some ⟨n1, o.rt, none, none⟩
        | some n1, some (some E2) => if leqE bs E2 E then some ⟨n1, o.rt, none, none⟩ else if E.length = E2.length then fixA g f a n (joinE bs E E2) else none
        | _, _ => none)
      | none => none)
    | none => none
def loopA (g : A → AEnv → Option AEnv) (f : AEnv → Option AOut) (ai : AI) (E : AEnv) : Option AOut := match ai with
  | .each as lo => forA bs g f as lo E
  | .uni a l h => if h ≤ 70 then forA bs g f (List.replicate h a) l E else fixA bs g f a 9 E
end
section
variable {P : Nat → D → Prop} {bs : Nat → A} (hb : ∀ i d, P i d → γ P (bs i) d)
variable {g : A → AEnv → Option AEnv} {f : AEnv → Option AOut} {gc : D → PyI.Env → Res PyI.Env} {fc : PyI.Env → Out}
variable (hg : ∀ a E E1 d σ, g a E = some E1 → γE P E σ → γ P a d → ∃ σ1, gc d σ = .ok σ1 ∧ γE P E1 σ1) (hf : ∀ E o σ, f E = some o → γE P E σ → γOut P o (fc σ))
include hb hg hf
theorem forA_ok : ∀ {as : List A} {lo : Nat} {E : AEnv} {o : AOut} {ds : List D} {σ : PyI.Env}, forA bs g f as lo E = some o → γE P E σ → γI P as ds → lo ≤ ds.length → γOut P o (forL gc fc ds σ)
  | [], lo, E, o, [], σ, e, h, hI, hl => by
    cases (show some (AOut.mk (some E) none none none) = some o from e)
    exact ⟨E, rfl, h⟩
  | [], lo, E, o, _ :: _, σ, e, h, hI, hl => hI.elim
  | a :: as, lo, E, o, ds, σ, e, h, hI, hl => by
    unfold forA at e
    split at e
    · rename_i E1 e1
      split at e
      · rename_i o1 eo
        have stop : ∀ {here : Option AEnv}, jo bs (if lo = 0 then some E else none) o1.bk = some here → ds = [] → γO1 P here σ := fun ej ed => by
          have : lo = 0 := by rw [ed] at hl; exact Nat.le_zero.mp hl
          refine jo_l hb ej ?_
          rw [if_pos this]
          exact ⟨E, rfl, h⟩
        have goes : ∀ (here : Option AEnv) (R : AOut), jo bs (if lo = 0 then some E else none) o1.bk = some here → (∀ σ, γO1 P here σ → γO1 P R.nx σ) → (∀ d, (∃ a, o1.rt = some a ∧ γ P a d) → ∃ a, R.rt = some a ∧ γ P a d) →
            (∀ d ds' σ2, ds = d :: ds' → γI P as ds' → (γO1 P o1.nx σ2 ∨ γO1 P o1.ct σ2) → γOut P R (forL gc fc ds' σ2)) → γOut P R (forL gc fc ds σ) := by
          intro here R ej hn hr hgo
          cases ds with
          | nil => exact hn σ (stop ej rfl)
          | cons d ds' =>
            obtain ⟨σ1, f1, h1⟩ := hg a E E1 d σ e1 h hI.1
            have h2 := hf E1 o1 σ1 eo h1
            unfold forL
            rw [f1]
            show γOut P R (match fc σ1 with
              | .nx σ2 => forL gc fc ds' σ2
              | .ct σ2 => forL gc fc ds' σ2
              | .bk σ2 => .nx σ2
              | o => o)
            cases ec : fc σ1 with
            | nx σ2 => rw [ec] at h2; exact hgo d ds' σ2 rfl hI.2 (.inl h2)
            | ct σ2 => rw [ec] at h2; exact hgo d ds' σ2 rfl hI.2 (.inr h2)
            | bk σ2 => rw [ec] at h2; exact hn σ2 (jo_r hb ej h2)
            | rt d => rw [ec] at h2; exact hr d h2
            | exc c vs => rw [ec] at h2; exact h2.elim
            | bad => rw [ec] at h2; exact h2.elim
        split at e
        · rename_i here ej en
          cases e
          refine goes here _ ej (fun σ h => h) (fun d h => h) fun d ds' σ2 _ _ hz => ?_
          have : γO1 P none σ2 := hz.elim (jo_l hb en) (jo_r hb en)
          obtain ⟨_, q, _⟩ := this
          cases q
        · rename_i here E2 ej en
          split at e
          · rename_i o2 e2
            split at e
            · rename_i n en2
              cases e
              refine goes here _ ej (fun σ h => jo_l hb en2 h) (fun d h => jR_l hb h) fun d ds' σ2 ed hI' hz => ?_
              have hE2 : γO1 P (some E2) σ2 := hz.elim (jo_l hb en) (jo_r hb en)
              obtain ⟨_, q, hE2⟩ := hE2
              cases q
              have hl' : lo - 1 ≤ ds'.length := by rw [ed, List.length_cons] at hl; omega
              have ih := forA_ok (as := as) (lo := lo - 1) e2 hE2 hI' hl'
              cases eo2 : forL gc fc ds' σ2 with
              | nx σ3 => rw [eo2] at ih; exact jo_r hb en2 ih
              | rt d => rw [eo2] at ih; exact jR_r hb ih
              | bk σ3 =>
                have : ∀ (ds : List D) (σ τ : PyI.Env), forL gc fc ds σ ≠ .bk τ := fun ds => by
                  induction ds with
                  | nil => intro σ τ z; cases z
                  | cons d r ih =>
                    intro σ τ z
                    unfold forL at z
                    cases q : gc d σ with
                    | ok s =>
                      rw [q] at z
                      have z : (match fc s with
                        | .nx σ2 => forL gc fc r σ2
                        | .ct σ2 => forL gc fc r σ2
                        | .bk σ2 => .nx σ2
                        | o => o) = .bk τ := z
                      cases q2 : fc s <;> rw [q2] at z <;> first | exact ih _ _ z | cases z
                    | exc c vs => rw [q] at z; cases z
                    | bad => rw [q] at z; cases z
                exact absurd eo2 (this ds' σ2 σ3)
              | ct σ3 =>
                have : ∀ (ds : List D) (σ τ : PyI.Env), forL gc fc ds σ ≠ .ct τ := fun ds => by
                  induction ds with
                  | nil => intro σ τ z; cases z
                  | cons d r ih =>
                    intro σ τ z
                    unfold forL at z
                    cases q : gc d σ with
                    | ok s =>
                      rw [q] at z
                      have z : (match fc s with
                        | .nx σ2 => forL gc fc r σ2
                        | .ct σ2 => forL gc fc r σ2
                        | .bk σ2 => .nx σ2
                        | o => o) = .ct τ := z
                      cases q2 : fc s <;> rw [q2] at z <;> first | exact ih _ _ z | cases z
                    | exc c vs => rw [q] at z; cases z
                    | bad => rw [q] at z; cases z
                exact absurd eo2 (this ds' σ2 σ3)
              | exc c vs => rw [eo2] at ih; exact ih
              | bad => rw [eo2] at ih; exact ih
            · cases e
          · cases e
        · cases e
      · cases e
    · cases e
theorem fixA_ok {a : A} : ∀ (n : Nat) {E : AEnv} {o : AOut} {ds : List D} {σ : PyI.Env}, fixA bs g f a n E = some o → γE P E σ → (∀ x ∈ ds, γ P a x) → γOut P o (forL gc fc ds σ)
  | 0, E, o, ds, σ, e, _, _ => by cases e
  | n + 1, E, o, ds, σ, e, h, hd => by
    unfold fixA at e
    split at e
    · rename_i E1 e1
      split at e
      · rename_i o1 eo
        have turn : ∀ d σ, γE P E σ → γ P a d → ∃ σ1, gc d σ = .ok σ1 ∧ γOut P o1 (fc σ1) := fun d σ h hd => by
          obtain ⟨σ1, f1, h1⟩ := hg a E E1 d σ e1 h hd
          exact ⟨σ1, f1, hf E1 o1 σ1 eo h1⟩
        have go : ∀ (n1 : Option AEnv), jo bs (some E) o1.bk = some n1 → (∀ σ2, (γO1 P o1.nx σ2 ∨ γO1 P o1.ct σ2) → γE P E σ2) → ∀ (ds : List D) (σ : PyI.Env), (∀ x ∈ ds, γ P a x) → γE P E σ → γOut P ⟨n1, o1.rt, none, none⟩ (forL gc fc ds σ) := by
          intro n1 ej hs ds
          induction ds with
          | nil => intro σ _ h; exact jo_l hb ej ⟨E, rfl, h⟩
          | cons d r ih =>
            intro σ hd h
            obtain ⟨σ1, f1, h2⟩ := turn d σ h (hd d List.mem_cons_self)
            unfold forL
            rw [f1]
            show γOut P ⟨n1, o1.rt, none, none⟩ (match fc σ1 with
              | .nx σ2 => forL gc fc r σ2
              | .ct σ2 => forL gc fc r σ2
              | .bk σ2 => .nx σ2
              | o => o)
            have hr : ∀ x ∈ r, γ P a x := fun x hx => hd x (List.mem_cons_of_mem _ hx)
            cases ec : fc σ1 with
            | nx σ2 => rw [ec] at h2; exact ih σ2 hr (hs σ2 (.inl h2))
            | ct σ2 => rw [ec] at h2; exact ih σ2 hr (hs σ2 (.inr h2))
            | bk σ2 => rw [ec] at h2; exact jo_r hb ej h2
            | rt d => rw [ec] at h2; exact h2
            | exc c vs => rw [ec] at h2; exact h2.elim
            | bad => rw [ec] at h2; exact h2.elim
        split at e
        · rename_i n1 ej en
          cases e
          refine go n1 ej (fun σ2 hz => ?_) ds σ hd h
          have : γO1 P none σ2 := hz.elim (jo_l hb en) (jo_r hb en)
          obtain ⟨_, q, _⟩ := this
          cases q
        · rename_i n1 E2 ej en
          split at e
          · rename_i hle
            cases e
            refine go n1 ej (fun σ2 hz => ?_) ds σ hd h
            have hE2 : γO1 P (some E2) σ2 := hz.elim (jo_l hb en) (jo_r hb en)
            obtain ⟨_, q, hE2⟩ := hE2
            cases q
            exact leqE_ok hb hle hE2
          · split at e
            · rename_i hl
              exact fixA_ok n e (joinE_l hb hl h) hd
            · cases e
        · cases e
      · cases e
    · cases e
theorem loopA_ok {ai : AI} {E : AEnv} {o : AOut} {ds : List D} {σ : PyI.Env} (e : loopA bs g f ai E = some o) (h : γE P E σ) (hI : γAI P ai ds) : γOut P o (forL gc fc ds σ) := by
  cases ai with
  | each as lo => exact forA_ok hb hg hf e h hI.2 hI.1
  | uni a l hh =>
    have e : (if hh ≤ 70 then forA bs g f (List.replicate hh a) l E else fixA bs g f a 9 E) = some o := e
    split at e
    · exact forA_ok hb hg hf e h (γI_rep hI.2.1 hI.2.2) hI.1
    · exact fixA_ok hb hg hf 9 e h hI.2.2
end
/-! ### statements -/
section
variable (bs : Nat → A) (G : Str → Option D) (F : Str → List A → Option A) (sp : List Nat)
def goes (E : AEnv) : AOut := ⟨some E, none, none, none⟩
def addA (o : Op) (x y : A) : Option A := match o, x, y with
  | .add, .int a b, .int c d => some (.int (a + c) (b + d))
  | .sub, .int a b, .int c d => some (.int (a - d) (b - c))
  | .add, x, y => if isI x && isI y then some .intU else none
  | .sub, x, y => if isI x && isI y then some .intU else none
  | _, _, _ => none
/-- the values of a narrow number -/
def spread : A → Option (List Int)
  | .int a b => if b - a ≤ 16 ∧ a < b then some ((List.range (b - a + 1).toNat).map fun (i : Nat) => a + i) else none
  | _ => none
def jU : Option A → Option A → Option A
  | some x, some y => some (if leq bs 60 y x then x else .un x y)
  | some x, none => some x
  | none, y => y
def joinOutU (x y : AOut) : Option AOut := match jo bs x.nx y.nx, jo bs x.bk y.bk, jo bs x.ct y.ct with
  | some n, some b, some c => some ⟨n, jU bs x.rt y.rt, b, c⟩
  | _, _, _ => none
def joinOuts : List (Option AOut) → Option AOut
  | [] => none
  | [x] => x
  | x :: r => (match x, joinOuts r with
    | some x, some y => joinOutU bs x y
    | _, _ => none)
/-- a slot that is looked at value by value -/
def spl (sp : List Nat) (s : S) (E : AEnv) : Option (Nat × List Int) := match s with
  | .set j _ => if j ∈ sp then (match E[j]? with
    | some (.v a) => (match spread a with
      | some ns => some (j, ns)
      | none => none)
    | _ => none) else none
  | _ => none
mutual
def exA : S → AEnv → Option AOut
  | .set i e, E => (match evA bs G F e E with
    | some a => (setA bs E i e a).map goes
    | none => none)
  | .setT ts e, E => (match evA bs G F e E with
    | some a => (asgA bs (.tup ts) a (keepA bs E a (lt e ++ li e))).map goes
    | none => none)
  | .setL ts e, E => (match evA bs G F e E with
    | some (.lsf as) => (asgsA bs ts as (keepA bs E (.lsf as) (lt e ++ li e))).map goes
    | some (.seq false a l h) => if l = h then (asgsA bs ts (List.replicate h a) (keepA bs E (.seq false a l h) (lt e ++ li e))).map goes else none
    | _ => none)
  | .setIx i k e, E => (match evA bs G F e E, E[i]?, evA bs G F k E with
    | some a, some (.o _ _ _), some (.int c d) => (match (keepA bs E a (lt e ++ li e))[i]? with
      | some (.o b l h) => if (0 ≤ c ∧ d < l) ∨ (-(l : Int) ≤ c ∧ d < 0) then some (goes ((keepA bs E a (lt e ++ li e)).set i (.o (join bs b a) l h))) else none
      | _ => none)
    | _, _, _ => none)
  | .aug i o e, E => (match agV E i, evA bs G F e E with
    | some x, some y => (match addA o x y with
      | some z => some (goes (E.set i (.v z)))
      | none => none)
    | _, _ => none)
  | .app i e, E => (match E[i]?, evA bs G F e E with
    | some (.o _ _ _), some a => (match (keepA bs E a (lt e ++ li e))[i]? with
      | some (.o b l h) => if h < 1000000 then some (goes ((keepA bs E a (lt e ++ li e)).set i (.o (join bs b a) (l + 1) (h + 1)))) else none
      | _ => none)
    | _, _ => none)
  | .ext i e, E => (match E[i]?, evA bs G F e E with
    | some (.o _ _ _), some a => (match asL bs a, (freezeA E (li e))[i]? with
      | some (c, l', h'), some (.o b l h) => if h + h' ≤ 1000000 then some (goes ((freezeA E (li e)).set i (.o (join bs b c) (l + l') (h + h')))) else none
      | _, _ => none)
    | _, _ => none)
  | .ins i k e, E => (match E[i]?, evA bs G F k E, evA bs G F e E with
    | some (.o _ _ _), some (.int c d), some a => (match (keepA bs E a (lt e ++ li e))[i]? with
      | some (.o b l h) => if h < 1000000 ∧ 0 ≤ c ∧ d ≤ 1000000 then some (goes ((keepA bs E a (lt e ++ li e)).set i (.o (join bs b a) (l + 1) (h + 1)))) else none
      | _ => none)
    | _, _, _ => none)
  | .exp e, E => (match evA bs G F e E with
    | some _ => some (goes E)
    | none => none)
  | .ret e, E => (match evA bs G F e E with
    | some a => some ⟨none, some a, none, none⟩
    | none => none)
  | .retN, E => some ⟨none, some .non, none, none⟩
  | .retO i, E => (match E[i]? with
    | some (.o a l h) => some ⟨none, some (.seq false a l h), none, none⟩
    | _ => none)
  | .ife c a b, E => (match evA bs G F c E with
    | some (.bl (some true)) => exAL a (ref c true E)
    | some (.bl (some false)) => exAL b (ref c false E)
    | some (.bl none) => (match exAL a (ref c true E), exAL b (ref c false E) with
      | some x, some y => joinOut bs x y
      | _, _ => none)
    | _ => none)
  | .fr tg src b, E => (match evSA bs G F src E with
    | some ai => loopA bs (asgA bs tg) (exAL b) ai (freezeA E (ltS src ++ liS src))
    | none => none)
  | .brk, E => some ⟨none, none, some E, none⟩
  | .cont, E => some ⟨none, none, none, some E⟩
  | .pass, E => some (goes E)
  | _, _ => none
def exAL : Ss → AEnv → Option AOut
  | .nil, E => some (goes E)
  | .cons s r, E => (match exA s E with
    | some o => (match o.nx with
      | none => some o
      | some E1 => (match spl sp s E1 with
        | some (j, ns) => (match joinOuts bs (ns.map fun n => exAL r (E1.set j (.v (.int n n)))) with
          | some o2 => thenOut bs o o2
          | none => none)
        | none => (match exAL r E1 with
          | some o2 => thenOut bs o o2
          | none => none)))
    | none => none)
end
end
end PyI
/-! PyA, part 11: statements and calls, sound. -/
namespace PyI
open PySem L2
section
variable (X : Ax) (fu : Nat) (sp : List Nat)
def TS (s : S) : Prop := ∀ E σ o, γE X.P E σ → exA X.bs X.G X.F sp s E = some o → γOut X.P o (exS X.G X.Φ fu s σ)
def TL_ (s : Ss) : Prop := ∀ E σ o, γE X.P E σ → exAL X.bs X.G X.F sp s E = some o → γOut X.P o (exL X.G X.Φ fu s σ)
end
section
variable {X : Ax} {fu : Nat} {sp : List Nat}
theorem okO {P : Nat → D → Prop} {r : Res D} {f : D → Out} {o : AOut} {a : A} (h : Ok P r a) (k : ∀ d, γ P a d → γOut P o (f d)) : γOut P o (r.out f) := by
  obtain ⟨d, e, hd⟩ := h
  rw [e, oko]
  exact k d hd
theorem map_goes {o : Option AEnv} {q : AOut} (e : o.map goes = some q) : ∃ E1, o = some E1 ∧ q = goes E1 := by
  cases o with
  | none => cases e
  | some E1 => cases e; exact ⟨E1, rfl, rfl⟩
theorem nx_goes {P : Nat → D → Prop} {E : AEnv} {σ : PyI.Env} (h : γE P E σ) : γOut P (goes E) (.nx σ) := ⟨E, rfl, h⟩
theorem t_set (i : Nat) (e : E) : TS X fu sp (.set i e) := fun E σ o h eo => by
  have eo : (match evA X.bs X.G X.F e E with
    | some a => (setA X.bs E i e a).map goes
    | none => none) = some o := eo
  split at eo
  · rename_i a ea
    obtain ⟨E1, e1, rfl⟩ := map_goes eo
    rw [x_set]
    refine okO (evA_ok X e E σ a h ea) fun d hd => ?_
    obtain ⟨σ1, f1, h1⟩ := setA_ok X.hb e1 h hd
    rw [f1, oko]
    exact nx_goes h1
  · cases eo
theorem t_setT (ts : List Tg) (e : E) : TS X fu sp (.setT ts e) := fun E σ o h eo => by
  have eo : (match evA X.bs X.G X.F e E with
    | some a => (asgA X.bs (.tup ts) a (keepA X.bs E a (lt e ++ li e))).map goes
    | none => none) = some o := eo
  split at eo
  · rename_i a ea
    obtain ⟨E1, e1, rfl⟩ := map_goes eo
    rw [x_setT]
    refine okO (evA_ok X e E σ a h ea) fun d hd => ?_
    obtain ⟨σ1, f1, h1⟩ := asgA_ok X.hb _ _ _ _ _ d e1 (keepA_ok X.hb h hd _) hd
    rw [f1, oko]
    exact nx_goes h1
  · cases eo
theorem t_setL (ts : List Tg) (e : E) : TS X fu sp (.setL ts e) := fun E σ o h eo => by
  have eo : (match evA X.bs X.G X.F e E with
    | some (.lsf as) => (asgsA X.bs ts as (keepA X.bs E (.lsf as) (lt e ++ li e))).map goes
    | some (.seq false a l h) => if l = h then (asgsA X.bs ts (List.replicate h a) (keepA X.bs E (.seq false a l h) (lt e ++ li e))).map goes else none
    | _ => none) = some o := eo
  split at eo
  · rename_i as ea
    obtain ⟨E1, e1, rfl⟩ := map_goes eo
    rw [x_setL]
    refine okO (evA_ok X e E σ _ h ea) fun d hd => ?_
    have hk := keepA_ok X.hb h hd (lt e ++ li e)
    obtain ⟨ds, rfl, hs⟩ := hd
    obtain ⟨σ1, f1, h1⟩ := asgsA_ok X.hb _ _ _ _ _ ds e1 hk hs
    rw [ld_l, oko, f1, oko]
    exact nx_goes h1
  · rename_i a l hh ea
    split at eo
    · obtain ⟨E1, e1, rfl⟩ := map_goes eo
      rw [x_setL]
      refine okO (evA_ok X e E σ _ h ea) fun d hd => ?_
      have hk := keepA_ok X.hb h hd (lt e ++ li e)
      obtain ⟨ds, rfl, k1, k2, k3⟩ := hd
      obtain ⟨σ1, f1, h1⟩ := asgsA_ok X.hb _ _ _ _ _ ds e1 hk (γs_rep (by omega) k3)
      show γOut X.P _ ((lstD (.lst ds)).out _)
      rw [ld_l, oko]
      have f1 : asgs ts ds (keepL σ (.lst ds) (lt e ++ li e)) = .ok σ1 := f1
      show γOut X.P _ ((asgs ts ds (keepL σ (.lst ds) (lt e ++ li e))).out _)
      rw [f1, oko]
      exact nx_goes h1
    · cases eo
  · cases eo
theorem own_ok {P : Nat → D → Prop} {E : AEnv} {σ : PyI.Env} {i : Nat} {a : A} {l hh : Nat} (h : γE P E σ) (e : E[i]? = some (.o a l hh)) : ∃ ds, ownL σ i = .ok ds ∧ γL P a l hh ds := by
  obtain ⟨c, ec, ds, rfl, hl⟩ := γE_get h e
  refine ⟨ds, ?_, hl⟩
  unfold ownL
  rw [ec]
theorem t_setIx (i : Nat) (k e : E) : TS X fu sp (.setIx i k e) := fun E σ o h eo => by
  have eo : (match evA X.bs X.G X.F e E, E[i]?, evA X.bs X.G X.F k E with
    | some a, some (.o _ _ _), some (.int c d) => (match (keepA X.bs E a (lt e ++ li e))[i]? with
      | some (.o b l h) => if (0 ≤ c ∧ d < l) ∨ (-(l : Int) ≤ c ∧ d < 0) then some (goes ((keepA X.bs E a (lt e ++ li e)).set i (.o (join X.bs b a) l h))) else none
      | _ => none)
    | _, _, _ => none) = some o := eo
  split at eo
  · rename_i a _ _ _ c d ea eo1 ek
    split at eo
    · rename_i b l hh eo2
      split at eo
      · rename_i hc
        cases eo
        rw [x_setIx]
        refine okO (evA_ok X e E σ a h ea) fun d hd => ?_
        obtain ⟨ds0, f0, _⟩ := own_ok h eo1
        rw [f0, oko]
        obtain ⟨d', ed', n, rfl, n1, n2⟩ := evA_ok X k E σ _ h ek
        rw [ed', okb, in_in, oko]
        have hk := keepA_ok X.hb h hd (lt e ++ li e)
        obtain ⟨ds, f1, l1, l2, l3⟩ := own_ok hk eo2
        rw [f1, oko]
        obtain ⟨j, hj⟩ : ∃ j, ixN ds.length n = some j := by
          unfold ixN
          rcases hc with hc | hc
          · rw [if_pos (by omega), if_pos (by omega)]; exact ⟨_, rfl⟩
          · rw [if_neg (by omega), if_pos (by omega)]; exact ⟨_, rfl⟩
        rw [hj]
        refine nx_goes (γE_set i hk ⟨_, rfl, by rw [List.length_set]; exact l1, by rw [List.length_set]; exact l2, fun x hx => ?_⟩)
        rcases List.mem_or_eq_of_mem_set hx with z | z
        · exact join_l X.hb (l3 x z)
        · rw [z]; exact join_r X.hb hd
      · cases eo
    · cases eo
  · cases eo
theorem addA_ok {P : Nat → D → Prop} {o : Op} {a b c : A} {x y : D} (e : addA o a b = some c) (hx : γ P a x) (hy : γ P b y) : ∃ i j k, x = .int i ∧ y = .int j ∧ ((o = .add ∧ k = i + j) ∨ (o = .sub ∧ k = i - j)) ∧ γ P c (.int k) := by
  unfold addA at e
  split at e
  · cases e
    obtain ⟨i, rfl, h1, h2⟩ := hx
    obtain ⟨j, rfl, h3, h4⟩ := hy
    exact ⟨i, j, i + j, rfl, rfl, .inl ⟨rfl, rfl⟩, _, rfl, by omega, by omega⟩
  · cases e
    obtain ⟨i, rfl, h1, h2⟩ := hx
    obtain ⟨j, rfl, h3, h4⟩ := hy
    exact ⟨i, j, i - j, rfl, rfl, .inr ⟨rfl, rfl⟩, _, rfl, by omega, by omega⟩
  · split at e
    · rename_i hc
      cases e
      rw [Bool.and_eq_true] at hc
      obtain ⟨i, rfl⟩ := isI_ok hc.1 hx
      obtain ⟨j, rfl⟩ := isI_ok hc.2 hy
      exact ⟨i, j, _, rfl, rfl, .inl ⟨rfl, rfl⟩, _, rfl⟩
    · cases e
  · split at e
    · rename_i hc
      cases e
      rw [Bool.and_eq_true] at hc
      obtain ⟨i, rfl⟩ := isI_ok hc.1 hx
      obtain ⟨j, rfl⟩ := isI_ok hc.2 hy
      exact ⟨i, j, _, rfl, rfl, .inr ⟨rfl, rfl⟩, _, rfl⟩
    · cases e
  · cases e
theorem t_aug (i : Nat) (q : Op) (e : E) : TS X fu sp (.aug i q e) := fun E σ o h eo => by
  have eo : (match agV E i, evA X.bs X.G X.F e E with
    | some x, some y => (match addA q x y with
      | some z => some (goes (E.set i (.v z)))
      | none => none)
    | _, _ => none) = some o := eo
  split at eo
  · rename_i x y ex ey
    split at eo
    · rename_i z ez
      cases eo
      rw [x_aug]
      refine okO (agV_ok h ex) fun d hd => okO (evA_ok X e E σ y h ey) fun d' hd' => ?_
      obtain ⟨a, b, k, rfl, rfl, hq, hk⟩ := addA_ok ez hd hd'
      rcases hq with ⟨rfl, rfl⟩ | ⟨rfl, rfl⟩
      · exact nx_goes (γE_set i h ⟨_, rfl, hk⟩)
      · exact nx_goes (γE_set i h ⟨_, rfl, hk⟩)
    · cases eo
  · cases eo
theorem t_app (i : Nat) (e : E) : TS X fu sp (.app i e) := fun E σ o h eo => by
  have eo : (match E[i]?, evA X.bs X.G X.F e E with
    | some (.o _ _ _), some a => (match (keepA X.bs E a (lt e ++ li e))[i]? with
      | some (.o b l h) => if h < 1000000 then some (goes ((keepA X.bs E a (lt e ++ li e)).set i (.o (join X.bs b a) (l + 1) (h + 1)))) else none
      | _ => none)
    | _, _ => none) = some o := eo
  split at eo
  · rename_i _ _ _ a eo1 ea
    split at eo
    · rename_i b l hh eo2
      split at eo
      · cases eo
        rw [x_app]
        obtain ⟨ds0, f0, _⟩ := own_ok h eo1
        rw [f0, oko]
        refine okO (evA_ok X e E σ a h ea) fun d hd => ?_
        have hk := keepA_ok X.hb h hd (lt e ++ li e)
        obtain ⟨ds, f1, l1, l2, l3⟩ := own_ok hk eo2
        rw [f1, oko, if_pos (Nat.lt_of_lt_of_le (show ds.length < 1000001 by omega) (by decide))]
        refine nx_goes (γE_set i hk ⟨_, rfl, by rw [List.length_append, List.length_singleton]; omega, by rw [List.length_append, List.length_singleton]; omega, fun x hx => ?_⟩)
        rcases List.mem_append.mp hx with z | z
        · exact join_l X.hb (l3 x z)
        · rw [List.mem_singleton.mp z]; exact join_r X.hb hd
      · cases eo
    · cases eo
  · cases eo
theorem t_ins (i : Nat) (k e : E) : TS X fu sp (.ins i k e) := fun E σ o h eo => by
  have eo : (match E[i]?, evA X.bs X.G X.F k E, evA X.bs X.G X.F e E with
    | some (.o _ _ _), some (.int c d), some a => (match (keepA X.bs E a (lt e ++ li e))[i]? with
      | some (.o b l h) => if h < 1000000 ∧ 0 ≤ c ∧ d ≤ 1000000 then some (goes ((keepA X.bs E a (lt e ++ li e)).set i (.o (join X.bs b a) (l + 1) (h + 1)))) else none
      | _ => none)
    | _, _, _ => none) = some o := eo
  split at eo
  · rename_i _ _ _ c d a eo1 ek ea
    split at eo
    · rename_i b l hh eo2
      split at eo
      · rename_i hc
        cases eo
        rw [x_ins]
        obtain ⟨ds0, f0, _⟩ := own_ok h eo1
        rw [f0, oko]
        obtain ⟨d', ed', n, rfl, n1, n2⟩ := evA_ok X k E σ _ h ek
        rw [ed', okb, in_in, oko]
        refine okO (evA_ok X e E σ a h ea) fun d hd => ?_
        have hk := keepA_ok X.hb h hd (lt e ++ li e)
        obtain ⟨ds, f1, l1, l2, l3⟩ := own_ok hk eo2
        rw [f1, oko, if_pos ⟨Nat.lt_of_lt_of_le (show ds.length < 1000001 by omega) (by decide), by omega, by omega⟩]
        have len : (ds.take n.toNat ++ [d] ++ ds.drop n.toNat).length = ds.length + 1 := by
          rw [List.length_append, List.length_append, List.length_take, List.length_drop, List.length_singleton]
          omega
        refine nx_goes (γE_set i hk ⟨_, rfl, by rw [len]; omega, by rw [len]; omega, fun x hx => ?_⟩)
        rcases List.mem_append.mp hx with z | z
        · rcases List.mem_append.mp z with z | z
          · exact join_l X.hb (l3 x (List.mem_of_mem_take z))
          · rw [List.mem_singleton.mp z]; exact join_r X.hb hd
        · exact join_l X.hb (l3 x (List.mem_of_mem_drop z))
      · cases eo
    · cases eo
  · cases eo
theorem t_ext (i : Nat) (e : E) : TS X fu sp (.ext i e) := fun E σ o h eo => by
  have eo : (match E[i]?, evA X.bs X.G X.F e E with
    | some (.o _ _ _), some a => (match asL X.bs a, (freezeA E (li e))[i]? with
      | some (c, l', h'), some (.o b l h) => if h + h' ≤ 1000000 then some (goes ((freezeA E (li e)).set i (.o (join X.bs b c) (l + l') (h + h')))) else none
      | _, _ => none)
    | _, _ => none) = some o := eo
  split at eo
  · rename_i _ _ _ a eo1 ea
    split at eo
    · rename_i c l' h' b l hh el eo2
      split at eo
      · cases eo
        rw [x_ext]
        obtain ⟨ds0, f0, _⟩ := own_ok h eo1
        rw [f0, oko]
        refine okO (evA_ok X e E σ a h ea) fun d hd => ?_
        obtain ⟨es, rfl, k1, k2, k3⟩ := asL_ok X.hb el hd
        have hk := freezeA_ok h (li e)
        obtain ⟨ds, f1, l1, l2, l3⟩ := own_ok hk eo2
        rw [ld_l, oko, f1, oko, if_pos (s24 (by omega))]
        refine nx_goes (γE_set i hk ⟨_, rfl, by rw [List.length_append]; omega, by rw [List.length_append]; omega, fun x hx => ?_⟩)
        rcases List.mem_append.mp hx with z | z
        · exact join_l X.hb (l3 x z)
        · exact join_r X.hb (k3 x z)
      · cases eo
    · cases eo
  · cases eo
theorem t_exp (e : E) : TS X fu sp (.exp e) := fun E σ o h eo => by
  have eo : (match evA X.bs X.G X.F e E with
    | some _ => some (goes E)
    | none => none) = some o := eo
  split at eo
  · rename_i a ea
    cases eo
    rw [x_exp]
    exact okO (evA_ok X e E σ a h ea) fun d hd => nx_goes h
  · cases eo
theorem t_ret (e : E) : TS X fu sp (.ret e) := fun E σ o h eo => by
  have eo : (match evA X.bs X.G X.F e E with
    | some a => some (AOut.mk none (some a) none none)
    | none => none) = some o := eo
  split at eo
  · rename_i a ea
    cases eo
    rw [x_ret]
    exact okO (evA_ok X e E σ a h ea) fun d hd => ⟨a, rfl, hd⟩
  · cases eo
theorem t_retN : TS X fu sp .retN := fun E σ o h eo => by
  have eo : some (AOut.mk none (some .non) none none) = some o := eo
  cases eo
  exact ⟨.non, rfl, rfl⟩
theorem t_retO (i : Nat) : TS X fu sp (.retO i) := fun E σ o h eo => by
  have eo : (match E[i]? with
    | some (.o a l h) => some (AOut.mk none (some (.seq false a l h)) none none)
    | _ => none) = some o := eo
  split at eo
  · rename_i a l hh ei
    cases eo
    obtain ⟨ds, f, k1, k2, k3⟩ := own_ok h ei
    rw [x_retO, f, oko]
    exact ⟨_, rfl, ds, rfl, k1, k2, k3⟩
  · cases eo
theorem t_ife {c : E} {a b : Ss} (ha : TL_ X fu sp a) (hb : TL_ X fu sp b) : TS X fu sp (.ife c a b) := fun E σ o h eo => by
  have eo : (match evA X.bs X.G X.F c E with
    | some (.bl (some true)) => exAL X.bs X.G X.F sp a (ref c true E)
    | some (.bl (some false)) => exAL X.bs X.G X.F sp b (ref c false E)
    | some (.bl none) => (match exAL X.bs X.G X.F sp a (ref c true E), exAL X.bs X.G X.F sp b (ref c false E) with
      | some x, some y => joinOut X.bs x y
      | _, _ => none)
    | _ => none) = some o := eo
  rw [x_ife]
  split at eo
  · rename_i ec
    obtain ⟨k, ek, hk⟩ := bl_of (evA_ok X c E σ _ h ec)
    have := hk true rfl
    subst this
    rw [ek, okb, bl_bl, oko, if_pos rfl]
    exact ha _ σ o (ref_ok c true E σ ek h) eo
  · rename_i ec
    obtain ⟨k, ek, hk⟩ := bl_of (evA_ok X c E σ _ h ec)
    have := hk false rfl
    subst this
    rw [ek, okb, bl_bl, oko, if_neg (by decide)]
    exact hb _ σ o (ref_ok c false E σ ek h) eo
  · rename_i ec
    obtain ⟨k, ek, hk⟩ := bl_of (evA_ok X c E σ _ h ec)
    split at eo
    · rename_i x y e1 e2
      rw [ek, okb, bl_bl, oko]
      cases k with
      | true => rw [if_pos rfl]; exact joinOut_l X.hb eo (ha _ σ x (ref_ok c true E σ ek h) e1)
      | false => rw [if_neg (by decide)]; exact joinOut_r X.hb eo (hb _ σ y (ref_ok c false E σ ek h) e2)
    · cases eo
  · cases eo
theorem t_fr {tg : Tg} {src : Src} {b : Ss} (hB : TL_ X fu sp b) : TS X fu sp (.fr tg src b) := fun E σ o h eo => by
  have eo : (match evSA X.bs X.G X.F src E with
    | some ai => loopA X.bs (asgA X.bs tg) (exAL X.bs X.G X.F sp b) ai (freezeA E (ltS src ++ liS src))
    | none => none) = some o := eo
  split at eo
  · rename_i ai ea
    obtain ⟨ds, e1, hI⟩ := evSA_ok X src E σ ai h ea
    rw [x_fr, e1, oko]
    exact loopA_ok X.hb (gc := asg tg) (fc := exL X.G X.Φ fu b) (fun a E E1 d σ e h hd => asgA_ok X.hb tg a E E1 σ d e h hd) (fun E o σ e h => hB E σ o h e) eo (freezeA_ok h _) hI
  · cases eo
theorem t_brk : TS X fu sp .brk := fun E σ o h eo => by
  have eo : some (AOut.mk none none (some E) none) = some o := eo
  cases eo
  exact ⟨E, rfl, h⟩
theorem t_cont : TS X fu sp .cont := fun E σ o h eo => by
  have eo : some (AOut.mk none none none (some E)) = some o := eo
  cases eo
  exact ⟨E, rfl, h⟩
theorem t_pass : TS X fu sp .pass := fun E σ o h eo => by
  have eo : some (goes E) = some o := eo
  cases eo
  exact nx_goes h
theorem joinOutU_l {x y z : AOut} {o : Out} (e : joinOutU X.bs x y = some z) (h : γOut X.P x o) : γOut X.P z o := by
  unfold joinOutU at e
  split at e
  · rename_i e1 e2 e3
    cases e
    cases o with
    | nx σ => exact jo_l X.hb e1 h
    | rt d =>
      obtain ⟨a, ea, h⟩ := h
      show ∃ a, jU X.bs x.rt y.rt = some a ∧ γ X.P a d
      rw [ea]
      cases y.rt with
      | none => exact ⟨a, rfl, h⟩
      | some b =>
        refine ⟨_, rfl, ?_⟩
        split
        · exact h
        · exact .inl h
    | bk σ => exact jo_l X.hb e2 h
    | ct σ => exact jo_l X.hb e3 h
    | exc c vs => exact h
    | bad => exact h
  · cases e
theorem joinOutU_r {x y z : AOut} {o : Out} (e : joinOutU X.bs x y = some z) (h : γOut X.P y o) : γOut X.P z o := by
  unfold joinOutU at e
  split at e
  · rename_i e1 e2 e3
    cases e
    cases o with
    | nx σ => exact jo_r X.hb e1 h
    | rt d =>
      obtain ⟨a, ea, h⟩ := h
      show ∃ a, jU X.bs x.rt y.rt = some a ∧ γ X.P a d
      rw [ea]
      cases x.rt with
      | none => exact ⟨a, rfl, h⟩
      | some b =>
        refine ⟨_, rfl, ?_⟩
        split
        · exact leq_ok X.hb _ _ _ (by assumption) d h
        · exact .inr h
    | bk σ => exact jo_r X.hb e2 h
    | ct σ => exact jo_r X.hb e3 h
    | exc c vs => exact h
    | bad => exact h
  · cases e
theorem joinOuts_ok : ∀ {l : List (Option AOut)} {z : AOut}, joinOuts X.bs l = some z → ∀ x ∈ l, ∃ y, x = some y ∧ ∀ o, γOut X.P y o → γOut X.P z o
  | [], z, e, x, h => by cases h
  | [q], z, e, x, h => by
    have e : q = some z := e
    rw [List.mem_singleton.mp h]
    exact ⟨z, e, fun o h => h⟩
  | q :: q2 :: r, z, e, x, h => by
    have e : (match (generalizing := false) q, joinOuts X.bs (q2 :: r) with
      | some x, some y => joinOutU X.bs x y
      | _, _ => none) = some z := e
    cases hq : q with
    | none => rw [hq] at e; cases e
    | some u =>
      cases hj : joinOuts X.bs (q2 :: r) with
      | none => rw [hq, hj] at e; cases e
      | some v =>
        rw [hq, hj] at e
        have e : joinOutU X.bs u v = some z := e
        rcases List.mem_cons.mp h with w | w
        · exact ⟨u, by rw [w, hq], fun o h => joinOutU_l e h⟩
        · obtain ⟨y, h1, h2⟩ := joinOuts_ok hj x w
          exact ⟨y, h1, fun o h => joinOutU_r e (h2 o h)⟩
theorem spl_ok {s : S} {E : AEnv} {j : Nat} {ns : List Int} {σ : PyI.Env} (e : spl sp s E = some (j, ns)) (h : γE X.P E σ) : ∃ n ∈ ns, γE X.P (E.set j (.v (.int n n))) σ := by
  unfold spl at e
  split at e
  · split at e
    · split at e
      · rename_i a ea
        split at e
        · rename_i ns' en
          cases e
          obtain ⟨c, ec, d, rfl, hd⟩ := γE_get h ea
          unfold spread at en
          split at en
          · rename_i u v
            split at en
            · cases en
              obtain ⟨i, rfl, h1, h2⟩ := hd
              refine ⟨i, List.mem_map.mpr ⟨(i - u).toNat, List.mem_range.mpr (by omega), by omega⟩, γE_keep _ h fun c hc => ?_⟩
              rw [ec] at hc
              cases hc
              exact ⟨_, rfl, i, rfl, Int.le_refl _, Int.le_refl _⟩
            · cases en
          · cases en
        · cases e
      · cases e
    · cases e
  · cases e
theorem t_nil : TL_ X fu sp .nil := fun E σ o h eo => by
  have eo : some (goes E) = some o := eo
  cases eo
  exact nx_goes h
theorem t_cons {s : S} {r : Ss} (hs : TS X fu sp s) (hr : TL_ X fu sp r) : TL_ X fu sp (.cons s r) := fun E σ o h eo => by
  have eo : (match exA X.bs X.G X.F sp s E with
    | some o => (match o.nx with
      | none => some o
      | some E1 => (match spl sp s E1 with
        | some (j, ns) => (match joinOuts X.bs (ns.map fun n => exAL X.bs X.G X.F sp r (E1.set j (.v (.int n n)))) with
          | some o2 => thenOut X.bs o o2
          | none => none)
        | none => (match exAL X.bs X.G X.F sp r E1 with
          | some o2 => thenOut X.bs o o2
          | none => none)))
    | none => none) = some o := eo
  split at eo
  · rename_i o1 e1
    have h1 := hs E σ o1 h e1
    rw [xs_cons]
    split at eo
    · rename_i en
      cases eo
      cases eq : exS X.G X.Φ fu s σ with
      | nx τ =>
        rw [eq] at h1
        obtain ⟨E1, e2, _⟩ := h1
        rw [en] at e2
        cases e2
      | rt d => rw [eq] at h1; exact h1
      | bk τ => rw [eq] at h1; exact h1
      | ct τ => rw [eq] at h1; exact h1
      | exc c vs => rw [eq] at h1; exact h1
      | bad => rw [eq] at h1; exact h1
    · rename_i E1 en
      have key : ∀ o2, thenOut X.bs o1 o2 = some o → (∀ τ, γE X.P E1 τ → γOut X.P o2 (exL X.G X.Φ fu r τ)) → γOut X.P o ((exS X.G X.Φ fu s σ).andThen (exL X.G X.Φ fu r)) := by
        intro o2 et h2
        cases eq : exS X.G X.Φ fu s σ with
        | nx τ =>
          rw [eq] at h1
          obtain ⟨E2, e2, h3⟩ := h1
          rw [en] at e2
          cases e2
          rw [at_nx]
          exact thenOut_r X.hb et (h2 τ h3)
        | rt d => rw [eq] at h1; exact thenOut_l X.hb et h1 (fun _ z => by cases z)
        | bk τ => rw [eq] at h1; exact thenOut_l X.hb et h1 (fun _ z => by cases z)
        | ct τ => rw [eq] at h1; exact thenOut_l X.hb et h1 (fun _ z => by cases z)
        | exc c vs => rw [eq] at h1; exact h1.elim
        | bad => rw [eq] at h1; exact h1.elim
      split at eo
      · rename_i j ns es
        split at eo
        · rename_i o2 ej
          refine key o2 eo fun τ hτ => ?_
          obtain ⟨n, hn, hE⟩ := spl_ok es hτ
          obtain ⟨y, ey, hy⟩ := joinOuts_ok ej _ (List.mem_map.mpr ⟨n, hn, rfl⟩)
          exact hy _ (hr _ τ y hE ey)
        · cases eo
      · split at eo
        · rename_i o2 ej
          exact key o2 eo fun τ hτ => hr _ τ o2 hτ ej
        · cases eo
  · cases eo
variable (X fu sp)
mutual
theorem exA_ok : ∀ s : S, TS X fu sp s
  | .set i e => t_set i e
  | .setT ts e => t_setT ts e
  | .setL ts e => t_setL ts e
  | .setIx i k e => t_setIx i k e
  | .aug i o e => t_aug i o e
  | .app i e => t_app i e
  | .ext i e => t_ext i e
  | .ins i k e => t_ins i k e
  | .exp e => t_exp e
  | .ret e => t_ret e
  | .retN => t_retN
  | .retO i => t_retO i
  | .ife c a b => t_ife (exAL_ok a) (exAL_ok b)
  | .fr tg src b => t_fr (exAL_ok b)
  | .brk => t_brk
  | .cont => t_cont
  | .pass => t_pass
  | .wh c b => fun E σ o h e => by cases (show none = some o from e)
  | .never => fun E σ o h e => by cases (show none = some o from e)
  | .raise c es => fun E σ o h e => by cases (show none = some o from e)
  | .tr b c i xs h => fun E σ o h e => by cases (show none = some o from e)
theorem exAL_ok : ∀ s : Ss, TL_ X fu sp s
  | .nil => t_nil
  | .cons s r => t_cons (exA_ok s) (exAL_ok r)
end
end
/-! ### calls -/
def enterA (n : Nat) (as : List A) : AEnv := as.map AC.v ++ List.replicate (n - as.length) .top
theorem enterA_ok {P : Nat → D → Prop} {n : Nat} : ∀ {as : List A} {ds : List D}, γs P as ds → γE P (enterA n as) (enter n ds) := by
  have rest : ∀ k, γE P (List.replicate k AC.top) (List.replicate k (none : Option C)) := fun k => by
    induction k with
    | zero => exact rfl
    | succ k ih => exact ⟨none, _, rfl, trivial, ih⟩
  have app : ∀ {as : List A} {ds : List D} (k : Nat), γs P as ds → γE P (as.map AC.v ++ List.replicate k .top) (ds.map (fun d => some (C.v d)) ++ List.replicate k none) := fun {as} => by
    induction as with
    | nil =>
      intro ds k h
      cases (show ds = [] from h)
      exact rest k
    | cons a r ih =>
      intro ds k h
      obtain ⟨d, s, rfl, h1, h2⟩ := h
      exact ⟨_, _, rfl, ⟨d, rfl, h1⟩, ih k h2⟩
  intro as ds h
  unfold enterA enter
  rw [γs_len h]
  exact app _ h
/-- a def's value -/
def resA (bs : Nat → A) (o : AOut) : Option A := match o.nx, o.rt with
  | some _, some a => some (join bs .non a)
  | some _, none => some .non
  | none, some a => some a
  | none, none => some .bot
/-- calls: what is known by hand, or the def's body, read roughly; sp: which slots of which def are looked at value by value -/
def callA (bs : Nat → A) (p : Prg) (hand : Str → List A → Option A) (sp : Str → List Nat) : Nat → Str → List A → Option A
  | 0, _, _ => none
  | n + 1, f, as => match hand f as with
    | some a => some a
    | none => (match p.fs f with
      | some fn => if as.length = fn.ar then (match exAL bs p.G (callA bs p hand sp n) (sp f) fn.body (enterA fn.n as) with
        | some o => if o.bk.isNone && o.ct.isNone then resA bs o else none
        | none => none) else none
      | none => none)
theorem resA_ok {P : Nat → D → Prop} {bs : Nat → A} (hb : ∀ i d, P i d → γ P (bs i) d) {o : AOut} {a : A} {out : Out} (e : resA bs o = some a) (h : γOut P o out) (hn : (∀ σ, out ≠ .bk σ) ∧ ∀ σ, out ≠ .ct σ) : Ok P (fin out) a := by
  cases out with
  | nx σ =>
    obtain ⟨E, en, _⟩ := h
    refine ⟨.non, rfl, ?_⟩
    unfold resA at e
    rw [en] at e
    split at e
    · cases e; exact join_l hb rfl
    · cases e; exact rfl
    · rename_i q _; cases q
    · rename_i q _; cases q
  | rt d =>
    obtain ⟨b, eb, hd⟩ := h
    refine ⟨d, rfl, ?_⟩
    unfold resA at e
    rw [eb] at e
    split at e
    · rename_i q; cases q; cases e; exact join_r hb hd
    · rename_i q; cases q
    · rename_i q; cases q; cases e; exact hd
    · rename_i q; cases q
  | bk σ => exact absurd rfl (hn.1 σ)
  | ct σ => exact absurd rfl (hn.2 σ)
  | exc c vs => exact h.elim
  | bad => exact h.elim
theorem callA_ok {P : Nat → D → Prop} {bs : Nat → A} (hb : ∀ i d, P i d → γ P (bs i) d) {p : Prg} {hand : Str → List A → Option A} {sp : Str → List Nat} {K : Nat}
    (hh : ∀ f as a, hand f as = some a → ∀ N ds, K ≤ N → γs P as ds → Ok P (p.call N f ds) a) : ∀ (n : Nat) (f : Str) (as : List A) (a : A), callA bs p hand sp n f as = some a → ∀ N ds, K + n ≤ N → γs P as ds → Ok P (p.call N f ds) a := by
  intro n
  induction n with
  | zero => intro f as a e; cases e
  | succ n ih =>
    intro f as a e N ds hN hs
    unfold callA at e
    split at e
    · rename_i eh
      cases e
      exact hh f as _ eh N ds (by omega) hs
    · split at e
      · rename_i fn ef
        split at e
        · rename_i hl
          split at e
          · rename_i o eo
            obtain ⟨M, rfl⟩ : ∃ M, N = M + 1 := ⟨N - 1, by omega⟩
            show Ok P (match p.fs f with
              | some fn => callB p.G (p.call M) p.fu fn ds
              | none => .bad) a
            rw [ef]
            show Ok P (if ds.length = fn.ar then _ else _) a
            rw [if_pos (by rw [γs_len hs]; exact hl)]
            have h := exAL_ok ⟨P, bs, p.G, p.call M, callA bs p hand sp n, hb, fun f as a e ds hd => ih f as a e M ds (by omega) hd⟩ p.fu (sp f) fn.body (enterA fn.n as) (enter fn.n ds) o (enterA_ok hs) eo
            split at e
            · rename_i hf
              rw [Bool.and_eq_true, Option.isNone_iff_eq_none, Option.isNone_iff_eq_none] at hf
              have h' : γOut P o (exL p.G (p.call M) p.fu fn.body (enter fn.n ds)) := h
              show Ok P (fin (exL p.G (p.call M) p.fu fn.body (enter fn.n ds))) a
              refine resA_ok hb e h' ⟨fun σ z => ?_, fun σ z => ?_⟩
              · rw [z] at h'
                obtain ⟨E, q, _⟩ := h'
                rw [hf.1] at q; cases q
              · rw [z] at h'
                obtain ⟨E, q, _⟩ := h'
                rw [hf.2] at q; cases q
            · cases e
          · cases e
        · cases e
      · cases e
end PyI
/-! PyA, part 12: how it is used. -/
namespace PyI
open PySem L2
def Ss.tl : Ss → Ss
  | .cons _ r => r
  | .nil => .nil
/-- statements that return, roughly a -/
def retsA (bs : Nat → A) (o : Option AOut) (a : A) : Bool := match o with
  | some ⟨none, some b, none, none⟩ => leq bs 60 b a
  | _ => false
theorem rets_ok (X : Ax) {fu : Nat} {sp : List Nat} {s : Ss} {E : AEnv} {a : A} (e : retsA X.bs (exAL X.bs X.G X.F sp s E) a = true) {σ : PyI.Env} (h : γE X.P E σ) : ∃ d, exL X.G X.Φ fu s σ = .rt d ∧ γ X.P a d := by
  unfold retsA at e
  split at e
  · rename_i b eo
    have k := exAL_ok X fu sp s E σ _ h eo
    cases q : exL X.G X.Φ fu s σ with
    | rt d =>
      rw [q] at k
      obtain ⟨b', hb, hd⟩ := k
      cases hb
      exact ⟨d, rfl, leq_ok X.hb _ _ _ e d hd⟩
    | nx τ => rw [q] at k; obtain ⟨_, z, _⟩ := k; cases z
    | bk τ => rw [q] at k; obtain ⟨_, z, _⟩ := k; cases z
    | ct τ => rw [q] at k; obtain ⟨_, z, _⟩ := k; cases z
    | exc c vs => rw [q] at k; exact k.elim
    | bad => rw [q] at k; exact k.elim
  · cases e
/-- a call that returns, roughly a -/
def callsA (bs : Nat → A) (o : Option A) (a : A) : Bool := match o with
  | some b => leq bs 60 b a
  | none => false
theorem calls_ok {P : Nat → D → Prop} {bs : Nat → A} (hb : ∀ i d, P i d → γ P (bs i) d) {p : Prg} {hand : Str → List A → Option A} {sp : Str → List Nat} {K : Nat}
    (hh : ∀ f as a, hand f as = some a → ∀ N ds, K ≤ N → γs P as ds → Ok P (p.call N f ds) a) {n : Nat} {f : Str} {as : List A} {a : A} (e : callsA bs (callA bs p hand sp n f as) a = true) {N : Nat} (hN : K + n ≤ N) {ds : List D} (hs : γs P as ds) : ∃ d, p.call N f ds = .ok d ∧ γ P a d := by
  unfold callsA at e
  split at e
  · rename_i b eb
    obtain ⟨d, h1, h2⟩ := callA_ok hb hh n f as b eb N ds hN hs
    exact ⟨d, h1, leq_ok hb _ _ _ e d h2⟩
  · cases e
def noP : Nat → D → Prop := fun _ _ => False
def noB : Nat → A := fun _ => .bot
theorem noPB : ∀ i d, noP i d → γ noP (noB i) d := fun _ _ h => h.elim
def noF : Str → List A → Option A := fun _ _ => none
theorem noFok {P : Nat → D → Prop} {Φ : Str → List D → Res D} : ∀ f as a, noF f as = some a → ∀ ds, γs P as ds → Ok P (Φ f ds) a := fun f as a h => by cases h
end PyI
namespace K33
open PySem PySem.Spec PyProof.Rows L2 PyI
def top (i : Nat) : Stmt := PySem.Challenge.pw_offerbook_k33_solve.main.body.getD i (.Pass ⟨0, 0, 0, 0⟩)
def b_lowest : Ss :=
    .cons (.set 2 (.bi .gcd (.cons (.var 0) (.cons (.var 1) .nil)))) <|
    .cons (.ret (.tup (.cons (.op .fdiv (.var 0) (.var 2)) (.cons (.op .fdiv (.var 1) (.var 2)) .nil)))) .nil
def d_lowest : DDef := ⟨"lowest", ["top", "bottom"], ["top", "bottom", "common"], top 2, b_lowest, false⟩
def b_ratio_less : Ss :=
    .cons (.ret (.cmp .lt (.op .mul (.ix (.var 0) (.int 0)) (.ix (.var 1) (.int 1))) (.op .mul (.ix (.var 1) (.int 0)) (.ix (.var 0) (.int 1))))) .nil
def d_ratio_less : DDef := ⟨"ratio_less", ["a", "b"], ["a", "b"], top 3, b_ratio_less, false⟩
def t1_pivot_line : Ss := 
    .cons (.ret (.neg (.int 1))) .nil
def l2_pivot_line : Ss := .cons (.ife (.cmp .ne (.ix (.ix (.var 0) (.var 2)) (.var 1)) (.int 0)) (.cons (.ret (.var 2)) .nil) (.nil)) .nil
def b_pivot_line : Ss :=
    .cons (.fr (.nm 2) (.rng2 (.var 1) (.bi .len (.cons (.var 0) .nil))) l2_pivot_line) <|
    t1_pivot_line
def d_pivot_line : DDef := ⟨"pivot_line", ["lines", "at"], ["lines", "at", "index"], top 5, b_pivot_line, false⟩
def t1_cleared : Ss := 
    .cons (.ret (.comp (.op .sub (.op .mul (.ix (.var 1) (.var 2)) (.var 3)) (.op .mul (.ix (.var 0) (.var 2)) (.var 4))) (.tup [.nm 3, .nm 4]) (.zip (.var 0) (.var 1)) [3, 4])) .nil
def b_cleared : Ss :=
    .cons (.ife (.cmp .eq (.ix (.var 0) (.var 2)) (.int 0)) (.cons (.ret (.var 0)) .nil) (.nil)) <|
    t1_cleared
def d_cleared : DDef := ⟨"cleared", ["line", "pivot", "at"], ["line", "pivot", "at", "x", "y"], top 6, b_cleared, false⟩
def t3_in_lowest : Ss := 
    .cons (.ret (.tup (.cons (.var 2) (.cons (.bi .tuple (.cons (.comp (.op .mul (.ix (.var 5) (.int 0)) (.op .fdiv (.var 2) (.ix (.var 5) (.int 1)))) (.nm 5) (.seq (.var 1)) [5]) .nil)) .nil)))) .nil
def l2_in_lowest : Ss := .cons (.ife (.cmp .lt (.var 4) (.int 0)) (.cons (.set 5 (.call "lowest" (.cons (.neg (.var 3)) (.cons (.neg (.var 4)) .nil)))) .nil) (.cons (.set 5 (.call "lowest" (.cons (.var 3) (.cons (.var 4) .nil)))) .nil)) (.cons (.app 1 (.var 5)) (.cons (.set 2 (.bi .lcm (.cons (.var 2) (.cons (.ix (.var 5) (.int 1)) .nil)))) .nil))
def b_in_lowest : Ss :=
    .cons (.set 1 (.lst (.nil))) <|
    .cons (.set 2 (.int 1)) <|
    .cons (.fr (.tup [.nm 3, .nm 4]) (.seq (.var 0)) l2_in_lowest) <|
    t3_in_lowest
def d_in_lowest : DDef := ⟨"in_lowest", ["pairs"], ["pairs", "parts", "bottom", "upper", "under", "part"], top 7, b_in_lowest, false⟩
def t3_solve : Ss := 
    .cons (.ret (.call "in_lowest" (.cons (.comp (.tup (.cons (.ix (.ix (.var 3) (.var 4)) (.var 2)) (.cons (.ix (.ix (.var 3) (.var 4)) (.var 4)) .nil))) (.nm 4) (.rng1 (.var 2)) [4]) .nil))) .nil
def l2_solve : Ss := .cons (.ife (.cmp .ne (.var 7) (.var 4)) (.cons (.setIx 3 (.var 7) (.call "cleared" (.cons (.ix (.var 3) (.var 7)) (.cons (.ix (.var 3) (.var 4)) (.cons (.var 4) .nil))))) .nil) (.nil)) .nil
def l3_solve : Ss := .cons (.set 5 (.call "pivot_line" (.cons (.var 3) (.cons (.var 4) .nil)))) (.cons (.ife (.cmp .lt (.var 5) (.int 0)) (.cons (.ret (.non)) .nil) (.nil)) (.cons (.set 6 (.ix (.var 3) (.var 4))) (.cons (.setIx 3 (.var 4) (.ix (.var 3) (.var 5))) (.cons (.setIx 3 (.var 5) (.var 6)) (.cons (.fr (.nm 7) (.rng1 (.var 2)) l2_solve) .nil)))))
def b_solve : Ss :=
    .cons (.set 2 (.bi .len (.cons (.var 0) .nil))) <|
    .cons (.set 3 (.comp (.op .add (.bi .list (.cons (.var 8) .nil)) (.lst (.cons (.var 9) .nil))) (.tup [.nm 8, .nm 9]) (.zip (.var 0) (.var 1)) [8, 9])) <|
    .cons (.fr (.nm 4) (.rng1 (.var 2)) l3_solve) <|
    t3_solve
def d_solve : DDef := ⟨"solve", ["rows", "right"], ["rows", "right", "size", "lines", "at", "found", "kept", "other", "row", "value"], top 8, b_solve, false⟩
def l1__law_numbers : Ss := .cons (.ife (.and (.cmp .ge (.var 3) (.op .pow (.int 10) (.int 18))) (.cmp .gt (.var 4) (.int 0))) (.cons (.app 6 (.op .mod (.bi .int (.cons (.var 4) .nil)) (.int 1000))) (.cons (.set 4 (.op .fdiv (.var 4) (.int 1000))) .nil)) (.cons (.set 5 (.op .mod (.bi .int (.cons (.op .add (.op .add (.op .add (.op .mul (.var 5) (.int 48271)) (.op .mul (.int 69621) (.var 7))) (.op .mul (.int 40692) (.var 1))) (.int 12345)) .nil)) (.int 2147483647))) (.cons (.app 6 (.op .mod (.op .fdiv (.op .mod (.bi .int (.cons (.op .mul (.var 5) (.var 5)) .nil)) (.int 2147483629)) (.int 211)) (.int 1000))) .nil))) .nil
def b__law_numbers : Ss :=
    .cons (.set 3 (.op .add (.op .mul (.int 7) (.var 1)) (.bi .len (.cons (.var 0) .nil)))) <|
    .cons (.ife (.cmp .lt (.var 1) (.bi .len (.cons (.var 0) .nil))) (.cons (.set 3 (.ix (.var 0) (.var 1))) .nil) (.nil)) <|
    .cons (.set 4 (.var 3)) <|
    .cons (.set 5 (.op .mod (.bi .int (.cons (.var 3) .nil)) (.int 2147483647))) <|
    .cons (.set 6 (.lst (.nil))) <|
    .cons (.fr (.nm 7) (.rng1 (.var 2)) l1__law_numbers) <|
    .cons (.ret (.var 6)) .nil
def d__law_numbers : DDef := ⟨"_law_numbers", ["script", "k", "many"], ["script", "k", "many", "cell", "left", "mixed", "numbers", "at"], top 10, b__law_numbers, false⟩
def l1__law_same : Ss := .cons (.ife (.not (.call "_law_same" (.cons (.ix (.var 0) (.var 2)) (.cons (.ix (.var 1) (.var 2)) .nil)))) (.cons (.ret (.bl false)) .nil) (.nil)) .nil
def b__law_same : Ss :=
    .cons (.ife (.cmp .isN (.var 1) (.non)) (.cons (.ret (.cmp .isN (.var 0) (.non))) .nil) (.nil)) <|
    .cons (.ife (.isi (.var 1) "bool") (.cons (.ret (.and (.isi (.var 0) "bool") (.cmp .eq (.var 0) (.var 1)))) .nil) (.nil)) <|
    .cons (.ife (.isi (.var 1) "str") (.cons (.ret (.and (.isi (.var 0) "str") (.cmp .eq (.var 0) (.var 1)))) .nil) (.nil)) <|
    .cons (.ife (.isi (.var 1) "tuple") (.cons (.ife (.or (.not (.isi (.var 0) "tuple")) (.cmp .ne (.bi .len (.cons (.var 0) .nil)) (.bi .len (.cons (.var 1) .nil)))) (.cons (.ret (.bl false)) .nil) (.nil)) (.cons (.fr (.nm 2) (.rng1 (.bi .len (.cons (.var 1) .nil))) l1__law_same) (.cons (.ret (.bl true)) .nil))) (.nil)) <|
    .cons (.ret (.and (.isi (.var 0) "int") (.and (.not (.isi (.var 0) "bool")) (.cmp .eq (.var 0) (.var 1))))) .nil
def d__law_same : DDef := ⟨"_law_same", ["told", "due"], ["told", "due", "k"], top 11, b__law_same, false⟩
def t3__law_gcd : Ss := 
    .cons (.ret (.var 0)) .nil
def l2__law_gcd : Ss := .cons (.ife (.cmp .eq (.var 1) (.int 0)) (.cons (.ret (.var 0)) .nil) (.nil)) (.cons (.set 3 (.op .mod (.bi .int (.cons (.var 0) .nil)) (.var 1))) (.cons (.set 0 (.var 1)) (.cons (.set 1 (.var 3)) .nil)))
def b__law_gcd : Ss :=
    .cons (.set 0 (.bi .abs (.cons (.var 0) .nil))) <|
    .cons (.set 1 (.bi .abs (.cons (.var 1) .nil))) <|
    .cons (.fr (.nm 2) (.rng1 (.int 900)) l2__law_gcd) <|
    t3__law_gcd
def d__law_gcd : DDef := ⟨"_law_gcd", ["a", "b"], ["a", "b", "step", "rest"], top 12, b__law_gcd, false⟩
def b__law_lowest : Ss :=
    .cons (.set 2 (.call "_law_gcd" (.cons (.var 0) (.cons (.var 1) .nil)))) <|
    .cons (.ret (.tup (.cons (.op .fdiv (.var 0) (.var 2)) (.cons (.op .fdiv (.var 1) (.var 2)) .nil)))) .nil
def d__law_lowest : DDef := ⟨"_law_lowest", ["top", "bottom"], ["top", "bottom", "common"], top 13, b__law_lowest, false⟩
def t3__law_det : Ss := 
    .cons (.ret (.var 1)) .nil
def l2__law_det : Ss := .cons (.ife (.cmp .ne (.ix (.ix (.var 0) (.int 0)) (.var 2)) (.int 0)) (.cons (.set 3 (.comp (.op .add (.sl (.var 4) .no (.so (.var 2))) (.sl (.var 4) (.so (.op .add (.var 2) (.int 1))) .no)) (.nm 4) (.seq (.sl (.var 0) (.so (.int 1)) .no)) [4])) (.cons (.set 1 (.op .add (.var 1) (.op .mul (.op .mul (.op .sub (.int 1) (.op .mul (.int 2) (.op .mod (.var 2) (.int 2)))) (.ix (.ix (.var 0) (.int 0)) (.var 2))) (.call "_law_det" (.cons (.var 3) .nil))))) .nil)) (.nil)) .nil
def t1__law_det : Ss := 
    .cons (.set 1 (.int 0)) <|
    .cons (.fr (.nm 2) (.rng1 (.bi .len (.cons (.var 0) .nil))) l2__law_det) <|
    t3__law_det
def b__law_det : Ss :=
    .cons (.ife (.cmp .eq (.bi .len (.cons (.var 0) .nil)) (.int 0)) (.cons (.ret (.int 1)) .nil) (.nil)) <|
    t1__law_det
def d__law_det : DDef := ⟨"_law_det", ["rows"], ["rows", "whole", "k", "smaller", "row"], top 14, b__law_det, false⟩
def t7__law_solved : Ss := 
    .cons (.ret (.tup (.cons (.op .fdiv (.var 2) (.var 4)) (.cons (.bi .tuple (.cons (.comp (.op .fdiv (.var 8) (.var 4)) (.nm 8) (.seq (.var 3)) [8]) .nil)) .nil)))) .nil
def t5__law_solved : Ss := 
    .cons (.set 4 (.bi .abs (.cons (.var 4) .nil))) <|
    .cons (.ife (.cmp .lt (.var 2) (.int 0)) (.cons (.set 4 (.neg (.var 4))) .nil) (.nil)) <|
    t7__law_solved
def l3__law_solved : Ss := .cons (.set 6 (.comp (.op .add (.op .add (.sl (.ix (.var 0) (.var 7)) .no (.so (.var 5))) (.tup (.cons (.ix (.var 1) (.var 7)) .nil))) (.sl (.ix (.var 0) (.var 7)) (.so (.op .add (.var 5) (.int 1))) .no)) (.nm 7) (.rng1 (.bi .len (.cons (.var 0) .nil))) [7])) (.cons (.app 3 (.call "_law_det" (.cons (.var 6) .nil))) (.cons (.set 4 (.call "_law_gcd" (.cons (.var 4) (.cons (.ix (.var 3) (.neg (.int 1))) .nil)))) .nil))
def t2__law_solved : Ss := 
    .cons (.set 3 (.lst (.nil))) <|
    .cons (.set 4 (.var 2)) <|
    .cons (.fr (.nm 5) (.rng1 (.bi .len (.cons (.var 0) .nil))) l3__law_solved) <|
    t5__law_solved
def b__law_solved : Ss :=
    .cons (.set 2 (.call "_law_det" (.cons (.var 0) .nil))) <|
    .cons (.ife (.cmp .eq (.var 2) (.int 0)) (.cons (.ret (.non)) .nil) (.nil)) <|
    t2__law_solved
def d__law_solved : DDef := ⟨"_law_solved", ["rows", "right"], ["rows", "right", "whole", "tops", "common", "k", "changed", "at", "one"], top 15, b__law_solved, false⟩
def t4__law_entry : Ss := 
    .cons (.ret (.op .sub (.op .mod (.var 3) (.int 19)) (.int 9))) .nil
def t3__law_entry : Ss := 
    .cons (.ife (.and (.cmp .eq (.var 1) (.int 5)) (.cmp .eq (.op .mod (.var 3) (.int 2)) (.int 0))) (.cons (.ret (.int 0)) .nil) (.nil)) <|
    t4__law_entry
def t2__law_entry : Ss := 
    .cons (.ife (.cmp .eq (.var 1) (.int 2)) (.cons (.ret (.op .add (.op .mul (.op .sub (.var 3) (.int 500)) (.op .pow (.int 10) (.int 15))) (.ix (.var 0) (.op .add (.int 24) (.var 2))))) .nil) (.nil)) <|
    t3__law_entry
def b__law_entry : Ss :=
    .cons (.set 3 (.bi .int (.cons (.ix (.var 0) (.op .add (.int 8) (.var 2))) .nil))) <|
    .cons (.ife (.cmp .eq (.var 1) (.int 1)) (.cons (.ret (.op .sub (.op .mod (.var 3) (.int 3)) (.int 1))) .nil) (.nil)) <|
    t2__law_entry
def d__law_entry : DDef := ⟨"_law_entry", ["numbers", "style", "place"], ["numbers", "style", "place", "number"], top 16, b__law_entry, false⟩
def t3__law_rows : Ss := 
    .cons (.set 5 (.op .mod (.bi .int (.cons (.ix (.var 0) (.int 2)) .nil)) (.var 1))) <|
    .cons (.set 6 (.ix (.var 3) (.op .mod (.op .add (.var 5) (.int 1)) (.var 1)))) <|
    .cons (.set 7 (.ix (.var 3) (.op .mod (.op .add (.var 5) (.int 2)) (.var 1)))) <|
    .cons (.set 8 (.op .mul (.op .sub (.op .mod (.bi .int (.cons (.ix (.var 0) (.int 3)) .nil)) (.int 5)) (.int 2)) (.bi .int (.cons (.cmp .gt (.var 1) (.int 1)) .nil)))) <|
    .cons (.set 9 (.op .mul (.op .sub (.op .mod (.bi .int (.cons (.ix (.var 0) (.int 4)) .nil)) (.int 5)) (.int 2)) (.bi .int (.cons (.cmp .gt (.var 1) (.int 2)) .nil)))) <|
    .cons (.ret (.op .add (.op .add (.sl (.var 3) .no (.so (.var 5))) (.lst (.cons (.bi .tuple (.cons (.comp (.op .add (.op .mul (.var 8) (.ix (.var 6) (.var 10))) (.op .mul (.var 9) (.ix (.var 7) (.var 10)))) (.nm 10) (.rng1 (.var 1)) [10]) .nil)) .nil))) (.sl (.var 3) (.so (.op .add (.var 5) (.int 1))) .no))) .nil
def t2__law_rows : Ss := 
    .cons (.ife (.and (.cmp .ne (.var 2) (.int 3)) (.cmp .ne (.var 2) (.int 4))) (.cons (.ret (.var 3)) .nil) (.nil)) <|
    t3__law_rows
def l3__law_rows : Ss := .cons (.app 3 (.bi .tuple (.cons (.comp (.call "_law_entry" (.cons (.var 0) (.cons (.var 2) (.cons (.op .add (.op .mul (.int 4) (.var 4)) (.var 10)) .nil)))) (.nm 10) (.rng1 (.var 1)) [10]) .nil))) .nil
def b__law_rows : Ss :=
    .cons (.set 3 (.lst (.nil))) <|
    .cons (.fr (.nm 4) (.rng1 (.var 1)) l3__law_rows) <|
    t2__law_rows
def d__law_rows : DDef := ⟨"_law_rows", ["numbers", "size", "style"], ["numbers", "size", "style", "rows", "at", "changed", "one", "two", "a", "b", "k"], top 17, b__law_rows, false⟩
def t5__law_right : Ss := 
    .cons (.ret (.bi .tuple (.cons (.var 5) .nil))) .nil
def t4__law_right : Ss := 
    .cons (.ife (.cmp .eq (.var 2) (.int 4)) (.cons (.set 7 (.op .mod (.bi .int (.cons (.ix (.var 0) (.int 2)) .nil)) (.var 3))) (.cons (.setIx 5 (.var 7) (.op .add (.op .add (.ix (.var 5) (.var 7)) (.int 1)) (.op .mod (.bi .int (.cons (.ix (.var 0) (.int 5)) .nil)) (.int 3)))) .nil)) (.cons (.ife (.and (.cmp .ne (.var 2) (.int 3)) (.cmp .eq (.op .mod (.bi .int (.cons (.ix (.var 0) (.int 6)) .nil)) (.int 3)) (.int 1))) (.cons (.set 5 (.comp (.op .sub (.ix (.var 0) (.op .add (.int 44) (.var 8))) (.int 500)) (.nm 8) (.rng1 (.var 3)) [8])) .nil) (.cons (.ife (.and (.cmp .ne (.var 2) (.int 3)) (.cmp .eq (.op .mod (.bi .int (.cons (.ix (.var 0) (.int 6)) .nil)) (.int 3)) (.int 2))) (.cons (.set 5 (.op .mul (.lst (.cons (.int 0) .nil)) (.var 3))) .nil) (.nil)) .nil)) .nil)) <|
    t5__law_right
def l3__law_right : Ss := .cons (.app 5 (.bi .sum (.cons (.comp (.op .mul (.ix (.var 6) (.var 8)) (.ix (.var 4) (.var 8))) (.nm 8) (.rng1 (.var 3)) [8]) .nil))) .nil
def b__law_right : Ss :=
    .cons (.set 3 (.bi .len (.cons (.var 1) .nil))) <|
    .cons (.set 4 (.comp (.op .sub (.op .mod (.bi .int (.cons (.ix (.var 0) (.op .add (.int 40) (.var 8))) .nil)) (.int 19)) (.int 9)) (.nm 8) (.rng1 (.var 3)) [8])) <|
    .cons (.set 5 (.lst (.nil))) <|
    .cons (.fr (.nm 6) (.seq (.var 1)) l3__law_right) <|
    t4__law_right
def d__law_right : DDef := ⟨"_law_right", ["numbers", "rows", "style"], ["numbers", "rows", "style", "size", "unknown", "right", "row", "changed", "k"], top 18, b__law_right, false⟩
def t14_law : Ss := 
    .cons (.set 11 (.cmp .lt (.op .mul (.ix (.var 9) (.int 0)) (.ix (.var 10) (.int 1))) (.op .mul (.ix (.var 10) (.int 0)) (.ix (.var 9) (.int 1))))) <|
    .cons (.set 12 (.cmp .lt (.op .mul (.ix (.var 10) (.int 0)) (.ix (.var 9) (.int 1))) (.op .mul (.ix (.var 9) (.int 0)) (.ix (.var 10) (.int 1))))) <|
    .cons (.ret (.and (.call "_law_same" (.cons (.call "ratio_less" (.cons (.var 9) (.cons (.var 10) .nil))) (.cons (.var 11) .nil))) (.call "_law_same" (.cons (.call "ratio_less" (.cons (.var 10) (.cons (.var 9) .nil))) (.cons (.var 12) .nil))))) .nil
def t12_law : Ss := 
    .cons (.set 10 (.call "_law_lowest" (.cons (.op .sub (.op .add (.op .mul (.var 7) (.int 1000)) (.op .mod (.bi .int (.cons (.ix (.var 1) (.int 54)) .nil)) (.int 3))) (.int 1)) (.cons (.op .mul (.var 8) (.int 1000)) .nil)))) <|
    .cons (.ife (.cmp .eq (.op .mod (.bi .int (.cons (.ix (.var 1) (.int 55)) .nil)) (.int 2)) (.int 1)) (.cons (.set 10 (.call "_law_lowest" (.cons (.op .sub (.ix (.var 1) (.int 56)) (.int 500)) (.cons (.op .add (.int 1) (.ix (.var 1) (.int 57))) .nil)))) .nil) (.nil)) <|
    t14_law
def t9_law : Ss := 
    .cons (.set 8 (.op .add (.op .add (.int 1) (.op .mul (.ix (.var 1) (.int 50)) (.int 1000))) (.ix (.var 1) (.int 51)))) <|
    .cons (.set 9 (.call "_law_lowest" (.cons (.var 7) (.cons (.var 8) .nil)))) <|
    .cons (.ife (.not (.call "_law_same" (.cons (.call "lowest" (.cons (.op .mul (.var 7) (.var 6)) (.cons (.op .mul (.var 8) (.var 6)) .nil))) (.cons (.var 9) .nil)))) (.cons (.ret (.bl false)) .nil) (.nil)) <|
    t12_law
def t6_law : Ss := 
    .cons (.set 6 (.op .add (.int 1) (.ix (.var 1) (.int 52)))) <|
    .cons (.set 7 (.op .add (.op .mul (.op .sub (.ix (.var 1) (.int 48)) (.int 500)) (.int 1000)) (.ix (.var 1) (.int 49)))) <|
    .cons (.ife (.cmp .eq (.op .mod (.bi .int (.cons (.ix (.var 1) (.int 53)) .nil)) (.int 7)) (.int 0)) (.cons (.set 7 (.int 0)) .nil) (.nil)) <|
    t9_law
def b_law : Ss :=
    .cons (.set 1 (.call "_law_numbers" (.cons (.var 0) (.cons (.int 0) (.cons (.int 60) .nil))))) <|
    .cons (.set 2 (.op .add (.int 1) (.op .mod (.bi .int (.cons (.ix (.var 1) (.int 0)) .nil)) (.int 4)))) <|
    .cons (.set 3 (.op .mod (.bi .int (.cons (.ix (.var 1) (.int 1)) .nil)) (.int 6))) <|
    .cons (.set 4 (.call "_law_rows" (.cons (.var 1) (.cons (.var 2) (.cons (.var 3) .nil))))) <|
    .cons (.set 5 (.call "_law_right" (.cons (.var 1) (.cons (.var 4) (.cons (.var 3) .nil))))) <|
    .cons (.ife (.not (.call "_law_same" (.cons (.call "solve" (.cons (.bi .tuple (.cons (.var 4) .nil)) (.cons (.var 5) .nil))) (.cons (.call "_law_solved" (.cons (.var 4) (.cons (.var 5) .nil))) .nil)))) (.cons (.ret (.bl false)) .nil) (.nil)) <|
    t6_law
def d_law : DDef := ⟨"law", ["script"], ["script", "numbers", "size", "style", "rows", "right", "common", "top", "bottom", "first", "second", "less", "more"], top 19, b_law, false⟩
def T : Tbl := ⟨[d_lowest, d_ratio_less, d_pivot_line, d_cleared, d_in_lowest, d_solve, d__law_numbers, d__law_same, d__law_gcd, d__law_lowest, d__law_det, d__law_solved, d__law_entry, d__law_rows, d__law_right, d_law],
    [],
    ["abs", "bool", "int", "isinstance", "len", "list", "range", "str", "sum", "tuple", "zip"], ["gcd"], 60, [], [], PySem.Challenge.pw_offerbook_k33_solve.main.file, [], ["lcm"]⟩
theorem xfine : XFine T (PySem.W.OpenLaw.prog PySem.Challenge.rw_offerbook_k33_solve) := by
  intro x hx
  unfold T at hx
  cases hx
theorem chk_lowest : chkD T d_lowest = true := by decide +kernel
theorem bind_lowest : BindOk d_lowest := fun kV doc pm an cdv ct us hl => match us, hl with | [_, _], _ => rfl
theorem call_lowest (n : Nat) (x0 : D) (x1 : D) : T.prg.call (n + 1) "lowest" [x0, x1] = fin (exL T.prg.G (T.prg.call n) T.prg.fu b_lowest [some (.v x0), some (.v x1), none]) := call_of (d := d_lowest) (by rfl) n _ rfl
theorem nd_lowest : findD T.defs d_lowest.name = some d_lowest := by rfl
theorem chk_ratio_less : chkD T d_ratio_less = true := by decide +kernel
theorem bind_ratio_less : BindOk d_ratio_less := fun kV doc pm an cdv ct us hl => match us, hl with | [_, _], _ => rfl
theorem call_ratio_less (n : Nat) (x0 : D) (x1 : D) : T.prg.call (n + 1) "ratio_less" [x0, x1] = fin (exL T.prg.G (T.prg.call n) T.prg.fu b_ratio_less [some (.v x0), some (.v x1)]) := call_of (d := d_ratio_less) (by rfl) n _ rfl
theorem nd_ratio_less : findD T.defs d_ratio_less.name = some d_ratio_less := by rfl
theorem chk_pivot_line : chkD T d_pivot_line = true := by decide +kernel
theorem bind_pivot_line : BindOk d_pivot_line := fun kV doc pm an cdv ct us hl => match us, hl with | [_, _], _ => rfl
theorem call_pivot_line (n : Nat) (x0 : D) (x1 : D) : T.prg.call (n + 1) "pivot_line" [x0, x1] = fin (exL T.prg.G (T.prg.call n) T.prg.fu b_pivot_line [some (.v x0), some (.v x1), none]) := call_of (d := d_pivot_line) (by rfl) n _ rfl
theorem nd_pivot_line : findD T.defs d_pivot_line.name = some d_pivot_line := by rfl
theorem chk_cleared : chkD T d_cleared = true := by decide +kernel
theorem bind_cleared : BindOk d_cleared := fun kV doc pm an cdv ct us hl => match us, hl with | [_, _, _], _ => rfl
theorem call_cleared (n : Nat) (x0 : D) (x1 : D) (x2 : D) : T.prg.call (n + 1) "cleared" [x0, x1, x2] = fin (exL T.prg.G (T.prg.call n) T.prg.fu b_cleared [some (.v x0), some (.v x1), some (.v x2), none, none]) := call_of (d := d_cleared) (by rfl) n _ rfl
theorem nd_cleared : findD T.defs d_cleared.name = some d_cleared := by rfl
theorem chk_in_lowest : chkD T d_in_lowest = true := by decide +kernel
theorem bind_in_lowest : BindOk d_in_lowest := fun kV doc pm an cdv ct us hl => match us, hl with | [_], _ => rfl
theorem call_in_lowest (n : Nat) (x0 : D) : T.prg.call (n + 1) "in_lowest" [x0] = fin (exL T.prg.G (T.prg.call n) T.prg.fu b_in_lowest [some (.v x0), none, none, none, none, none]) := call_of (d := d_in_lowest) (by rfl) n _ rfl
theorem nd_in_lowest : findD T.defs d_in_lowest.name = some d_in_lowest := by rfl
theorem chk_solve : chkD T d_solve = true := by decide +kernel
theorem bind_solve : BindOk d_solve := fun kV doc pm an cdv ct us hl => match us, hl with | [_, _], _ => rfl
theorem call_solve (n : Nat) (x0 : D) (x1 : D) : T.prg.call (n + 1) "solve" [x0, x1] = fin (exL T.prg.G (T.prg.call n) T.prg.fu b_solve [some (.v x0), some (.v x1), none, none, none, none, none, none, none, none]) := call_of (d := d_solve) (by rfl) n _ rfl
theorem nd_solve : findD T.defs d_solve.name = some d_solve := by rfl
theorem chk__law_numbers : chkD T d__law_numbers = true := by decide +kernel
theorem bind__law_numbers : BindOk d__law_numbers := fun kV doc pm an cdv ct us hl => match us, hl with | [_, _, _], _ => rfl
theorem call__law_numbers (n : Nat) (x0 : D) (x1 : D) (x2 : D) : T.prg.call (n + 1) "_law_numbers" [x0, x1, x2] = fin (exL T.prg.G (T.prg.call n) T.prg.fu b__law_numbers [some (.v x0), some (.v x1), some (.v x2), none, none, none, none, none]) := call_of (d := d__law_numbers) (by rfl) n _ rfl
theorem nd__law_numbers : findD T.defs d__law_numbers.name = some d__law_numbers := by rfl
theorem chk__law_same : chkD T d__law_same = true := by decide +kernel
theorem bind__law_same : BindOk d__law_same := fun kV doc pm an cdv ct us hl => match us, hl with | [_, _], _ => rfl
theorem call__law_same (n : Nat) (x0 : D) (x1 : D) : T.prg.call (n + 1) "_law_same" [x0, x1] = fin (exL T.prg.G (T.prg.call n) T.prg.fu b__law_same [some (.v x0), some (.v x1), none]) := call_of (d := d__law_same) (by rfl) n _ rfl
theorem nd__law_same : findD T.defs d__law_same.name = some d__law_same := by rfl
theorem chk__law_gcd : chkD T d__law_gcd = true := by decide +kernel
theorem bind__law_gcd : BindOk d__law_gcd := fun kV doc pm an cdv ct us hl => match us, hl with | [_, _], _ => rfl
theorem call__law_gcd (n : Nat) (x0 : D) (x1 : D) : T.prg.call (n + 1) "_law_gcd" [x0, x1] = fin (exL T.prg.G (T.prg.call n) T.prg.fu b__law_gcd [some (.v x0), some (.v x1), none, none]) := call_of (d := d__law_gcd) (by rfl) n _ rfl
theorem nd__law_gcd : findD T.defs d__law_gcd.name = some d__law_gcd := by rfl
theorem chk__law_lowest : chkD T d__law_lowest = true := by decide +kernel
theorem bind__law_lowest : BindOk d__law_lowest := fun kV doc pm an cdv ct us hl => match us, hl with | [_, _], _ => rfl
theorem call__law_lowest (n : Nat) (x0 : D) (x1 : D) : T.prg.call (n + 1) "_law_lowest" [x0, x1] = fin (exL T.prg.G (T.prg.call n) T.prg.fu b__law_lowest [some (.v x0), some (.v x1), none]) := call_of (d := d__law_lowest) (by rfl) n _ rfl
theorem nd__law_lowest : findD T.defs d__law_lowest.name = some d__law_lowest := by rfl
theorem chk__law_det : chkD T d__law_det = true := by decide +kernel
theorem bind__law_det : BindOk d__law_det := fun kV doc pm an cdv ct us hl => match us, hl with | [_], _ => rfl
theorem call__law_det (n : Nat) (x0 : D) : T.prg.call (n + 1) "_law_det" [x0] = fin (exL T.prg.G (T.prg.call n) T.prg.fu b__law_det [some (.v x0), none, none, none, none]) := call_of (d := d__law_det) (by rfl) n _ rfl
theorem nd__law_det : findD T.defs d__law_det.name = some d__law_det := by rfl
theorem chk__law_solved : chkD T d__law_solved = true := by decide +kernel
theorem bind__law_solved : BindOk d__law_solved := fun kV doc pm an cdv ct us hl => match us, hl with | [_, _], _ => rfl
theorem call__law_solved (n : Nat) (x0 : D) (x1 : D) : T.prg.call (n + 1) "_law_solved" [x0, x1] = fin (exL T.prg.G (T.prg.call n) T.prg.fu b__law_solved [some (.v x0), some (.v x1), none, none, none, none, none, none, none]) := call_of (d := d__law_solved) (by rfl) n _ rfl
theorem nd__law_solved : findD T.defs d__law_solved.name = some d__law_solved := by rfl
theorem chk__law_entry : chkD T d__law_entry = true := by decide +kernel
theorem bind__law_entry : BindOk d__law_entry := fun kV doc pm an cdv ct us hl => match us, hl with | [_, _, _], _ => rfl
theorem call__law_entry (n : Nat) (x0 : D) (x1 : D) (x2 : D) : T.prg.call (n + 1) "_law_entry" [x0, x1, x2] = fin (exL T.prg.G (T.prg.call n) T.prg.fu b__law_entry [some (.v x0), some (.v x1), some (.v x2), none]) := call_of (d := d__law_entry) (by rfl) n _ rfl
theorem nd__law_entry : findD T.defs d__law_entry.name = some d__law_entry := by rfl
theorem chk__law_rows : chkD T d__law_rows = true := by decide +kernel
theorem bind__law_rows : BindOk d__law_rows := fun kV doc pm an cdv ct us hl => match us, hl with | [_, _, _], _ => rfl
theorem call__law_rows (n : Nat) (x0 : D) (x1 : D) (x2 : D) : T.prg.call (n + 1) "_law_rows" [x0, x1, x2] = fin (exL T.prg.G (T.prg.call n) T.prg.fu b__law_rows [some (.v x0), some (.v x1), some (.v x2), none, none, none, none, none, none, none, none]) := call_of (d := d__law_rows) (by rfl) n _ rfl
theorem nd__law_rows : findD T.defs d__law_rows.name = some d__law_rows := by rfl
theorem chk__law_right : chkD T d__law_right = true := by decide +kernel
theorem bind__law_right : BindOk d__law_right := fun kV doc pm an cdv ct us hl => match us, hl with | [_, _, _], _ => rfl
theorem call__law_right (n : Nat) (x0 : D) (x1 : D) (x2 : D) : T.prg.call (n + 1) "_law_right" [x0, x1, x2] = fin (exL T.prg.G (T.prg.call n) T.prg.fu b__law_right [some (.v x0), some (.v x1), some (.v x2), none, none, none, none, none, none]) := call_of (d := d__law_right) (by rfl) n _ rfl
theorem nd__law_right : findD T.defs d__law_right.name = some d__law_right := by rfl
theorem chk_law : chkD T d_law = true := by decide +kernel
theorem bind_law : BindOk d_law := fun kV doc pm an cdv ct us hl => match us, hl with | [_], _ => rfl
theorem call_law (n : Nat) (x0 : D) : T.prg.call (n + 1) "law" [x0] = fin (exL T.prg.G (T.prg.call n) T.prg.fu b_law [some (.v x0), none, none, none, none, none, none, none, none, none, none, none, none]) := call_of (d := d_law) (by rfl) n _ rfl
theorem nd_law : findD T.defs d_law.name = some d_law := by rfl
theorem fine : Fine T where
  chk := by
    intro d hd
    unfold T at hd
    simp only [List.mem_cons, List.not_mem_nil, or_false] at hd
    rcases hd with rfl | rfl | rfl | rfl | rfl | rfl | rfl | rfl | rfl | rfl | rfl | rfl | rfl | rfl | rfl | rfl
    · exact chk_lowest
    · exact chk_ratio_less
    · exact chk_pivot_line
    · exact chk_cleared
    · exact chk_in_lowest
    · exact chk_solve
    · exact chk__law_numbers
    · exact chk__law_same
    · exact chk__law_gcd
    · exact chk__law_lowest
    · exact chk__law_det
    · exact chk__law_solved
    · exact chk__law_entry
    · exact chk__law_rows
    · exact chk__law_right
    · exact chk_law
  bind := by
    intro d hd
    unfold T at hd
    simp only [List.mem_cons, List.not_mem_nil, or_false] at hd
    rcases hd with rfl | rfl | rfl | rfl | rfl | rfl | rfl | rfl | rfl | rfl | rfl | rfl | rfl | rfl | rfl | rfl
    · exact bind_lowest
    · exact bind_ratio_less
    · exact bind_pivot_line
    · exact bind_cleared
    · exact bind_in_lowest
    · exact bind_solve
    · exact bind__law_numbers
    · exact bind__law_same
    · exact bind__law_gcd
    · exact bind__law_lowest
    · exact bind__law_det
    · exact bind__law_solved
    · exact bind__law_entry
    · exact bind__law_rows
    · exact bind__law_right
    · exact bind_law
theorem nds : ∀ d ∈ T.defs, findD T.defs d.name = some d := by
  intro d hd
  unfold T at hd
  simp only [List.mem_cons, List.not_mem_nil, or_false] at hd
  rcases hd with rfl | rfl | rfl | rfl | rfl | rfl | rfl | rfl | rfl | rfl | rfl | rfl | rfl | rfl | rfl | rfl
  · exact nd_lowest
  · exact nd_ratio_less
  · exact nd_pivot_line
  · exact nd_cleared
  · exact nd_in_lowest
  · exact nd_solve
  · exact nd__law_numbers
  · exact nd__law_same
  · exact nd__law_gcd
  · exact nd__law_lowest
  · exact nd__law_det
  · exact nd__law_solved
  · exact nd__law_entry
  · exact nd__law_rows
  · exact nd__law_right
  · exact nd_law
abbrev R : PySem.W.OpenRow := PySem.W.OpenLaw.row PySem.Challenge.rw_offerbook_k33_solve
def loose : List Str := (["gcd", "lcm", "__name__", "lowest", "ratio_less", "pivot_line", "cleared", "in_lowest", "solve", "_law_numbers", "_law_same", "_law_gcd"] : List Str) ++ (["_law_lowest", "_law_det", "_law_solved", "_law_entry", "_law_rows", "_law_right"] : List Str)
end K33
namespace K33
open PySem PySem.Spec PyProof.Rows L2 PyI
/-- the view holds the import and the law -/
def qv : PySem.Program := PySem.W.view R.prog [0, 19]
def looseI : List Str := loose.drop 2
theorem run (w : World) : HandSHeadRun.RunEqI R qv (T.hk 4) (T.ob 4) 20000 looseI w := by
  unfold HandSHeadRun.RunEqI
  kernel_rfl
end K33
namespace K33
/-! ### determinants, by the first row -/
def sg (k : Nat) : Int := 1 - 2 * ((k % 2 : Nat) : Int)
def cut (k : Nat) (r : List Int) : List Int := r.take k ++ r.drop (k + 1)
def dt : Nat → List (List Int) → Int
  | 0, _ => 1
  | n + 1, R => ((List.range (n + 1)).map fun k => sg k * (R.getD 0 []).getD k 0 * dt n (R.tail.map (cut k))).sum
def det2 (a b c d : Int) : Int := a*d - b*c
def det3 (a b c d e f g h i : Int) : Int := a * det2 e f h i - b * det2 d f g i + c * det2 d e g h
def det4 (a0 a1 a2 a3 b0 b1 b2 b3 c0 c1 c2 c3 d0 d1 d2 d3 : Int) : Int :=
  a0 * det3 b1 b2 b3 c1 c2 c3 d1 d2 d3 - a1 * det3 b0 b2 b3 c0 c2 c3 d0 d2 d3 + a2 * det3 b0 b1 b3 c0 c1 c3 d0 d1 d3 - a3 * det3 b0 b1 b2 c0 c1 c2 d0 d1 d2
theorem sg0 : sg 0 = 1 := rfl
theorem sg1 : sg 1 = -1 := rfl
theorem sg2 : sg 2 = 1 := rfl
theorem sg3 : sg 3 = -1 := rfl
theorem dt1 (a : Int) : dt 1 [[a]] = a := by
  show sg 0 * a * 1 + 0 = a
  rw [sg0]
  omega
theorem dt2 (a b c d : Int) : dt 2 [[a, b], [c, d]] = det2 a b c d := by
  show sg 0 * a * dt 1 [[d]] + (sg 1 * b * dt 1 [[c]] + 0) = _
  rw [dt1, dt1, sg0, sg1]
  unfold det2
  grind
theorem dt3 (a b c d e f g h i : Int) : dt 3 [[a, b, c], [d, e, f], [g, h, i]] = det3 a b c d e f g h i := by
  show sg 0 * a * dt 2 [[e, f], [h, i]] + (sg 1 * b * dt 2 [[d, f], [g, i]] + (sg 2 * c * dt 2 [[d, e], [g, h]] + 0)) = _
  rw [dt2, dt2, dt2, sg0, sg1, sg2]
  unfold det3
  grind
theorem dt4 (a0 a1 a2 a3 b0 b1 b2 b3 c0 c1 c2 c3 d0 d1 d2 d3 : Int) : dt 4 [[a0, a1, a2, a3], [b0, b1, b2, b3], [c0, c1, c2, c3], [d0, d1, d2, d3]] = det4 a0 a1 a2 a3 b0 b1 b2 b3 c0 c1 c2 c3 d0 d1 d2 d3 := by
  show sg 0 * a0 * dt 3 [[b1, b2, b3], [c1, c2, c3], [d1, d2, d3]] + (sg 1 * a1 * dt 3 [[b0, b2, b3], [c0, c2, c3], [d0, d2, d3]] + (sg 2 * a2 * dt 3 [[b0, b1, b3], [c0, c1, c3], [d0, d1, d3]] + (sg 3 * a3 * dt 3 [[b0, b1, b2], [c0, c1, c2], [d0, d1, d2]] + 0))) = _
  rw [dt3, dt3, dt3, dt3, sg0, sg1, sg2, sg3]
  unfold det4
  grind
theorem len1 {α : Type} {l : List α} (h : l.length = 1) : ∃ a, l = [a] := by
  match l, h with
  | [a], _ => exact ⟨a, rfl⟩
theorem len2 {α : Type} {l : List α} (h : l.length = 2) : ∃ a b, l = [a, b] := by
  match l, h with
  | [a, b], _ => exact ⟨a, b, rfl⟩
theorem len3 {α : Type} {l : List α} (h : l.length = 3) : ∃ a b c, l = [a, b, c] := by
  match l, h with
  | [a, b, c], _ => exact ⟨a, b, c, rfl⟩
theorem len4 {α : Type} {l : List α} (h : l.length = 4) : ∃ a b c d, l = [a, b, c, d] := by
  match l, h with
  | [a, b, c, d], _ => exact ⟨a, b, c, d, rfl⟩
/-- a square -/
def Sq (n : Nat) (R : List (List Int)) : Prop := R.length = n ∧ ∀ r ∈ R, r.length = n
theorem sq1 {R : List (List Int)} (h : Sq 1 R) : ∃ a, R = [[a]] := by
  obtain ⟨r, rfl⟩ := len1 h.1
  obtain ⟨a, rfl⟩ := len1 (h.2 r (by simp))
  exact ⟨a, rfl⟩
theorem sq2 {R : List (List Int)} (h : Sq 2 R) : ∃ a b c d, R = [[a, b], [c, d]] := by
  obtain ⟨r, s, rfl⟩ := len2 h.1
  obtain ⟨a, b, rfl⟩ := len2 (h.2 r (by simp))
  obtain ⟨c, d, rfl⟩ := len2 (h.2 s (by simp))
  exact ⟨a, b, c, d, rfl⟩
theorem sq3 {R : List (List Int)} (h : Sq 3 R) : ∃ a b c d e f g h i, R = [[a, b, c], [d, e, f], [g, h, i]] := by
  obtain ⟨r, s, t, rfl⟩ := len3 h.1
  obtain ⟨a, b, c, rfl⟩ := len3 (h.2 r (by simp))
  obtain ⟨d, e, f, rfl⟩ := len3 (h.2 s (by simp))
  obtain ⟨g, hh, i, rfl⟩ := len3 (h.2 t (by simp))
  exact ⟨a, b, c, d, e, f, g, hh, i, rfl⟩
theorem sq4 {R : List (List Int)} (h : Sq 4 R) : ∃ a0 a1 a2 a3 b0 b1 b2 b3 c0 c1 c2 c3 d0 d1 d2 d3, R = [[a0, a1, a2, a3], [b0, b1, b2, b3], [c0, c1, c2, c3], [d0, d1, d2, d3]] := by
  obtain ⟨r, s, t, u, rfl⟩ := len4 h.1
  obtain ⟨a0, a1, a2, a3, rfl⟩ := len4 (h.2 r (by simp))
  obtain ⟨b0, b1, b2, b3, rfl⟩ := len4 (h.2 s (by simp))
  obtain ⟨c0, c1, c2, c3, rfl⟩ := len4 (h.2 t (by simp))
  obtain ⟨d0, d1, d2, d3, rfl⟩ := len4 (h.2 u (by simp))
  exact ⟨a0, a1, a2, a3, b0, b1, b2, b3, c0, c1, c2, c3, d0, d1, d2, d3, rfl⟩
/-- p times a row, less c times another -/
def lc (p c : Int) (r s : List Int) : List Int := List.zipWith (fun x y => p * x - c * y) r s
def row (R : List (List Int)) (i : Nat) : List Int := R.getD i []
theorem lt4 {i n : Nat} (h : i < n) (h4 : n ≤ 4) : i = 0 ∨ i = 1 ∨ i = 2 ∨ i = 3 := by omega
theorem dt_row {n : Nat} (h1 : 1 ≤ n) (h4 : n ≤ 4) {R : List (List Int)} (hR : Sq n R) {i k : Nat} (hi : i < n) (hk : k < n) (ne : i ≠ k) (p c : Int) : dt n (R.set i (lc p c (row R i) (row R k))) = p * dt n R := by
  have : n = 1 ∨ n = 2 ∨ n = 3 ∨ n = 4 := by omega
  rcases this with rfl | rfl | rfl | rfl
  · omega
  · obtain ⟨a, b, c, d, rfl⟩ := sq2 hR
    rw [dt2]
    have hi := lt4 hi h4
    have hk := lt4 hk h4
    rcases hi with rfl | rfl | rfl | rfl <;> rcases hk with rfl | rfl | rfl | rfl <;> first | (exfalso; omega) | (show dt 2 [[_, _], [_, _]] = _; rw [dt2]; unfold det2; grind)
  · obtain ⟨a, b, c, d, e, f, g, h, i', rfl⟩ := sq3 hR
    rw [dt3]
    have hi := lt4 hi h4
    have hk := lt4 hk h4
    rcases hi with rfl | rfl | rfl | rfl <;> rcases hk with rfl | rfl | rfl | rfl <;> first | (exfalso; omega) | (show dt 3 [[_, _, _], [_, _, _], [_, _, _]] = _; rw [dt3]; unfold det3 det2; grind)
  · obtain ⟨a0, a1, a2, a3, b0, b1, b2, b3, c0, c1, c2, c3, d0, d1, d2, d3, rfl⟩ := sq4 hR
    rw [dt4]
    have hi := lt4 hi h4
    have hk := lt4 hk h4
    rcases hi with rfl | rfl | rfl | rfl <;> rcases hk with rfl | rfl | rfl | rfl <;> first | (exfalso; omega) | (show dt 4 [[_, _, _, _], [_, _, _, _], [_, _, _, _], [_, _, _, _]] = _; rw [dt4]; unfold det4 det3 det2; grind)
theorem dt_swap {n : Nat} (h1 : 1 ≤ n) (h4 : n ≤ 4) {R : List (List Int)} (hR : Sq n R) {i k : Nat} (hi : i < n) (hk : k < n) (ne : i ≠ k) : dt n ((R.set i (row R k)).set k (row R i)) = -1 * dt n R := by
  have : n = 1 ∨ n = 2 ∨ n = 3 ∨ n = 4 := by omega
  rcases this with rfl | rfl | rfl | rfl
  · omega
  · obtain ⟨a, b, c, d, rfl⟩ := sq2 hR
    rw [dt2]
    have hi := lt4 hi h4
    have hk := lt4 hk h4
    rcases hi with rfl | rfl | rfl | rfl <;> rcases hk with rfl | rfl | rfl | rfl <;> first | (exfalso; omega) | (show dt 2 [[_, _], [_, _]] = _; rw [dt2]; unfold det2; grind)
  · obtain ⟨a, b, c, d, e, f, g, h, i', rfl⟩ := sq3 hR
    rw [dt3]
    have hi := lt4 hi h4
    have hk := lt4 hk h4
    rcases hi with rfl | rfl | rfl | rfl <;> rcases hk with rfl | rfl | rfl | rfl <;> first | (exfalso; omega) | (show dt 3 [[_, _, _], [_, _, _], [_, _, _]] = _; rw [dt3]; unfold det3 det2; grind)
  · obtain ⟨a0, a1, a2, a3, b0, b1, b2, b3, c0, c1, c2, c3, d0, d1, d2, d3, rfl⟩ := sq4 hR
    rw [dt4]
    have hi := lt4 hi h4
    have hk := lt4 hk h4
    rcases hi with rfl | rfl | rfl | rfl <;> rcases hk with rfl | rfl | rfl | rfl <;> first | (exfalso; omega) | (show dt 4 [[_, _, _, _], [_, _, _, _], [_, _, _, _], [_, _, _, _]] = _; rw [dt4]; unfold det4 det3 det2; grind)
end K33
namespace K33
/-! ### equations: rows with their right side behind -/
def Aug (n : Nat) (A : List (List Int)) : Prop := A.length = n ∧ ∀ r ∈ A, r.length = n + 1
/-- the square of the left sides, column j of it the right sides (none for j = n) -/
def sel (n j : Nat) (r : List Int) : List Int := if j < n then (r.take n).set j (r.getD n 0) else r.take n
def δ (n : Nat) (A : List (List Int)) (j : Nat) : Int := dt n (A.map (sel n j))
theorem sel_len {n j : Nat} {r : List Int} (h : r.length = n + 1) : (sel n j r).length = n := by
  unfold sel
  split
  · rw [List.length_set, List.length_take]; omega
  · rw [List.length_take]; omega
theorem Aug.sq {n : Nat} {A : List (List Int)} (h : Aug n A) (j : Nat) : Sq n (A.map (sel n j)) := ⟨by rw [List.length_map]; exact h.1, fun r hr => by
  obtain ⟨s, hs, rfl⟩ := List.mem_map.mp hr
  exact sel_len (h.2 s hs)⟩
theorem row_mem {R : List (List Int)} {i : Nat} (h : i < R.length) : row R i ∈ R := by
  unfold row
  rw [List.getD_eq_getElem?_getD, List.getElem?_eq_getElem h]
  exact List.getElem_mem h
theorem row_map {n j i : Nat} {A : List (List Int)} (h : i < A.length) : row (A.map (sel n j)) i = sel n j (row A i) := by
  unfold row
  rw [List.getD_eq_getElem?_getD, List.getElem?_map, List.getElem?_eq_getElem h, List.getD_eq_getElem?_getD, List.getElem?_eq_getElem h]
  rfl
theorem len5 {α : Type} {l : List α} (h : l.length = 5) : ∃ a b c d e, l = [a, b, c, d, e] := by
  match l, h with
  | [a, b, c, d, e], _ => exact ⟨a, b, c, d, e, rfl⟩
theorem sel_lc {n : Nat} (h1 : 1 ≤ n) (h4 : n ≤ 4) {j : Nat} (hj : j ≤ n) {r s : List Int} (hr : r.length = n + 1) (hs : s.length = n + 1) (p c : Int) : sel n j (lc p c r s) = lc p c (sel n j r) (sel n j s) := by
  have : n = 1 ∨ n = 2 ∨ n = 3 ∨ n = 4 := by omega
  have hj5 : j = 0 ∨ j = 1 ∨ j = 2 ∨ j = 3 ∨ j = 4 := by omega
  rcases this with rfl | rfl | rfl | rfl
  · obtain ⟨a, b, rfl⟩ := len2 hr
    obtain ⟨c, d, rfl⟩ := len2 hs
    rcases hj5 with rfl | rfl | rfl | rfl | rfl <;> first | rfl | (exfalso; omega)
  · obtain ⟨a, b, c, rfl⟩ := len3 hr
    obtain ⟨d, e, f, rfl⟩ := len3 hs
    rcases hj5 with rfl | rfl | rfl | rfl | rfl <;> first | rfl | (exfalso; omega)
  · obtain ⟨a, b, c, d, rfl⟩ := len4 hr
    obtain ⟨e, f, g, h, rfl⟩ := len4 hs
    rcases hj5 with rfl | rfl | rfl | rfl | rfl <;> first | rfl | (exfalso; omega)
  · obtain ⟨a, b, c, d, e, rfl⟩ := len5 hr
    obtain ⟨f, g, h, i, k, rfl⟩ := len5 hs
    rcases hj5 with rfl | rfl | rfl | rfl | rfl <;> first | rfl | (exfalso; omega)
theorem lc_len {p c : Int} {r s : List Int} (h : s.length = r.length) : (lc p c r s).length = r.length := by
  unfold lc
  rw [List.length_zipWith, h, Nat.min_self]
theorem Aug.set {n : Nat} {A : List (List Int)} (h : Aug n A) (i : Nat) {r : List Int} (hr : r.length = n + 1) : Aug n (A.set i r) := ⟨by rw [List.length_set]; exact h.1, fun s hs => by
  rcases List.mem_or_eq_of_mem_set hs with z | z
  · exact h.2 s z
  · rw [z]; exact hr⟩
theorem Aug.row {n : Nat} {A : List (List Int)} (h : Aug n A) {i : Nat} (hi : i < n) : (row A i).length = n + 1 := h.2 _ (row_mem (by rw [h.1]; exact hi))
section
variable {n : Nat} (h1 : 1 ≤ n) (h4 : n ≤ 4) {A : List (List Int)} (hA : Aug n A)
include h1 h4 hA
theorem δ_row {i k : Nat} (hi : i < n) (hk : k < n) (ne : i ≠ k) (p c : Int) {j : Nat} (hj : j ≤ n) : δ n (A.set i (lc p c (row A i) (row A k))) j = p * δ n A j := by
  unfold δ
  rw [List.map_set, sel_lc h1 h4 hj (hA.row hi) (hA.row hk), ← row_map (by rw [hA.1]; exact hi), ← row_map (by rw [hA.1]; exact hk)]
  exact dt_row h1 h4 (hA.sq j) hi hk ne p c
theorem δ_swap {i k : Nat} (hi : i < n) (hk : k < n) (ne : i ≠ k) {j : Nat} : δ n ((A.set i (row A k)).set k (row A i)) j = -1 * δ n A j := by
  unfold δ
  have e1 := row_map (n := n) (j := j) (A := A) (i := i) (by rw [hA.1]; exact hi)
  have e2 := row_map (n := n) (j := j) (A := A) (i := k) (by rw [hA.1]; exact hk)
  rw [List.map_set, List.map_set, ← e1, ← e2]
  exact dt_swap h1 h4 (hA.sq j) hi hk ne
end
/-- an entry -/
def at_ (A : List (List Int)) (i j : Nat) : Int := (row A i).getD j 0
/-- the first t columns are cleared -/
def Dg (n t : Nat) (A : List (List Int)) : Prop := (∀ i j, i < n → j < t → i ≠ j → at_ A i j = 0) ∧ ∀ j, j < t → at_ A j j ≠ 0
theorem aug1 {A : List (List Int)} (h : Aug 1 A) : ∃ a r, A = [[a, r]] := by
  obtain ⟨x, rfl⟩ := len1 h.1
  obtain ⟨a, r, rfl⟩ := len2 (h.2 x (by simp))
  exact ⟨a, r, rfl⟩
theorem aug2 {A : List (List Int)} (h : Aug 2 A) : ∃ a0 a1 r0 b0 b1 r1, A = [[a0, a1, r0], [b0, b1, r1]] := by
  obtain ⟨x, y, rfl⟩ := len2 h.1
  obtain ⟨a, b, c, rfl⟩ := len3 (h.2 x (by simp))
  obtain ⟨d, e, f, rfl⟩ := len3 (h.2 y (by simp))
  exact ⟨_, _, _, _, _, _, rfl⟩
theorem aug3 {A : List (List Int)} (h : Aug 3 A) : ∃ a0 a1 a2 r0 b0 b1 b2 r1 c0 c1 c2 r2, A = [[a0, a1, a2, r0], [b0, b1, b2, r1], [c0, c1, c2, r2]] := by
  obtain ⟨x, y, z, rfl⟩ := len3 h.1
  obtain ⟨a, b, c, d, rfl⟩ := len4 (h.2 x (by simp))
  obtain ⟨a, b, c, d, rfl⟩ := len4 (h.2 y (by simp))
  obtain ⟨a, b, c, d, rfl⟩ := len4 (h.2 z (by simp))
  exact ⟨_, _, _, _, _, _, _, _, _, _, _, _, rfl⟩
theorem aug4 {A : List (List Int)} (h : Aug 4 A) : ∃ a0 a1 a2 a3 r0 b0 b1 b2 b3 r1 c0 c1 c2 c3 r2 d0 d1 d2 d3 r3, A = [[a0, a1, a2, a3, r0], [b0, b1, b2, b3, r1], [c0, c1, c2, c3, r2], [d0, d1, d2, d3, r3]] := by
  obtain ⟨x, y, z, w, rfl⟩ := len4 h.1
  obtain ⟨a, b, c, d, e, rfl⟩ := len5 (h.2 x (by simp))
  obtain ⟨a, b, c, d, e, rfl⟩ := len5 (h.2 y (by simp))
  obtain ⟨a, b, c, d, e, rfl⟩ := len5 (h.2 z (by simp))
  obtain ⟨a, b, c, d, e, rfl⟩ := len5 (h.2 w (by simp))
  exact ⟨_, _, _, _, _, _, _, _, _, _, _, _, _, _, _, _, _, _, _, _, rfl⟩
theorem mul_ne {a b : Int} (h : a ≠ 0) (k : b ≠ 0) : a * b ≠ 0 := Int.mul_ne_zero h k
/-- all cleared: each unknown by itself -/
theorem diag {n : Nat} (h1 : 1 ≤ n) (h4 : n ≤ 4) {A : List (List Int)} (hA : Aug n A) (hd : Dg n n A) : δ n A n ≠ 0 ∧ ∀ k, k < n → δ n A k * at_ A k k = at_ A k n * δ n A n := by
  obtain ⟨z, nz⟩ := hd
  have : n = 1 ∨ n = 2 ∨ n = 3 ∨ n = 4 := by omega
  rcases this with rfl | rfl | rfl | rfl
  · obtain ⟨a, r, rfl⟩ := aug1 hA
    have n0 : a ≠ 0 := nz 0 (by omega)
    have e : δ 1 [[a, r]] 1 = a := dt1 a
    refine ⟨by rw [e]; exact n0, fun k hk => ?_⟩
    have : k = 0 := by omega
    subst this
    show dt 1 [[r]] * a = r * δ 1 [[a, r]] 1
    rw [dt1, e]
  · obtain ⟨a0, a1, r0, b0, b1, r1, rfl⟩ := aug2 hA
    have z01 : a1 = 0 := z 0 1 (by omega) (by omega) (by omega)
    have z10 : b0 = 0 := z 1 0 (by omega) (by omega) (by omega)
    have n0 : a0 ≠ 0 := nz 0 (by omega)
    have n1 : b1 ≠ 0 := nz 1 (by omega)
    subst z01 z10
    have e : δ 2 [[a0, 0, r0], [0, b1, r1]] 2 = a0 * b1 := by
      show dt 2 [[a0, 0], [0, b1]] = _
      rw [dt2]; unfold det2; grind
    refine ⟨by rw [e]; exact mul_ne n0 n1, fun k hk => ?_⟩
    rw [e]
    have : k = 0 ∨ k = 1 := by omega
    rcases this with rfl | rfl
    · show dt 2 [[r0, 0], [r1, b1]] * a0 = r0 * _
      rw [dt2]; unfold det2; grind
    · show dt 2 [[a0, r0], [0, r1]] * b1 = r1 * _
      rw [dt2]; unfold det2; grind
  · obtain ⟨a0, a1, a2, r0, b0, b1, b2, r1, c0, c1, c2, r2, rfl⟩ := aug3 hA
    have z01 : a1 = 0 := z 0 1 (by omega) (by omega) (by omega)
    have z02 : a2 = 0 := z 0 2 (by omega) (by omega) (by omega)
    have z10 : b0 = 0 := z 1 0 (by omega) (by omega) (by omega)
    have z12 : b2 = 0 := z 1 2 (by omega) (by omega) (by omega)
    have z20 : c0 = 0 := z 2 0 (by omega) (by omega) (by omega)
    have z21 : c1 = 0 := z 2 1 (by omega) (by omega) (by omega)
    have n0 : a0 ≠ 0 := nz 0 (by omega)
    have n1 : b1 ≠ 0 := nz 1 (by omega)
    have n2 : c2 ≠ 0 := nz 2 (by omega)
    subst z01 z02 z10 z12 z20 z21
    have e : δ 3 [[a0, 0, 0, r0], [0, b1, 0, r1], [0, 0, c2, r2]] 3 = a0 * (b1 * c2) := by
      show dt 3 [[a0, 0, 0], [0, b1, 0], [0, 0, c2]] = _
      rw [dt3]; unfold det3 det2; grind
    refine ⟨by rw [e]; exact mul_ne n0 (mul_ne n1 n2), fun k hk => ?_⟩
    rw [e]
    have : k = 0 ∨ k = 1 ∨ k = 2 := by omega
    rcases this with rfl | rfl | rfl
    · show dt 3 [[r0, 0, 0], [r1, b1, 0], [r2, 0, c2]] * a0 = r0 * _
      rw [dt3]; unfold det3 det2; grind
    · show dt 3 [[a0, r0, 0], [0, r1, 0], [0, r2, c2]] * b1 = r1 * _
      rw [dt3]; unfold det3 det2; grind
    · show dt 3 [[a0, 0, r0], [0, b1, r1], [0, 0, r2]] * c2 = r2 * _
      rw [dt3]; unfold det3 det2; grind
  · obtain ⟨a0, a1, a2, a3, r0, b0, b1, b2, b3, r1, c0, c1, c2, c3, r2, d0, d1, d2, d3, r3, rfl⟩ := aug4 hA
    have z01 : a1 = 0 := z 0 1 (by omega) (by omega) (by omega)
    have z02 : a2 = 0 := z 0 2 (by omega) (by omega) (by omega)
    have z03 : a3 = 0 := z 0 3 (by omega) (by omega) (by omega)
    have z10 : b0 = 0 := z 1 0 (by omega) (by omega) (by omega)
    have z12 : b2 = 0 := z 1 2 (by omega) (by omega) (by omega)
    have z13 : b3 = 0 := z 1 3 (by omega) (by omega) (by omega)
    have z20 : c0 = 0 := z 2 0 (by omega) (by omega) (by omega)
    have z21 : c1 = 0 := z 2 1 (by omega) (by omega) (by omega)
    have z23 : c3 = 0 := z 2 3 (by omega) (by omega) (by omega)
    have z30 : d0 = 0 := z 3 0 (by omega) (by omega) (by omega)
    have z31 : d1 = 0 := z 3 1 (by omega) (by omega) (by omega)
    have z32 : d2 = 0 := z 3 2 (by omega) (by omega) (by omega)
    have n0 : a0 ≠ 0 := nz 0 (by omega)
    have n1 : b1 ≠ 0 := nz 1 (by omega)
    have n2 : c2 ≠ 0 := nz 2 (by omega)
    have n3 : d3 ≠ 0 := nz 3 (by omega)
    subst z01 z02 z03 z10 z12 z13 z20 z21 z23 z30 z31 z32
    have e : δ 4 [[a0, 0, 0, 0, r0], [0, b1, 0, 0, r1], [0, 0, c2, 0, r2], [0, 0, 0, d3, r3]] 4 = a0 * (b1 * (c2 * d3)) := by
      show dt 4 [[a0, 0, 0, 0], [0, b1, 0, 0], [0, 0, c2, 0], [0, 0, 0, d3]] = _
      rw [dt4]; unfold det4 det3 det2; grind
    refine ⟨by rw [e]; exact mul_ne n0 (mul_ne n1 (mul_ne n2 n3)), fun k hk => ?_⟩
    rw [e]
    have : k = 0 ∨ k = 1 ∨ k = 2 ∨ k = 3 := by omega
    rcases this with rfl | rfl | rfl | rfl
    · show dt 4 [[r0, 0, 0, 0], [r1, b1, 0, 0], [r2, 0, c2, 0], [r3, 0, 0, d3]] * a0 = r0 * _
      rw [dt4]; unfold det4 det3 det2; grind
    · show dt 4 [[a0, r0, 0, 0], [0, r1, 0, 0], [0, r2, c2, 0], [0, r3, 0, d3]] * b1 = r1 * _
      rw [dt4]; unfold det4 det3 det2; grind
    · show dt 4 [[a0, 0, r0, 0], [0, b1, r1, 0], [0, 0, r2, 0], [0, 0, r3, d3]] * c2 = r2 * _
      rw [dt4]; unfold det4 det3 det2; grind
    · show dt 4 [[a0, 0, 0, r0], [0, b1, 0, r1], [0, 0, c2, r2], [0, 0, 0, r3]] * d3 = r3 * _
      rw [dt4]; unfold det4 det3 det2; grind
/-- no pivot: the determinant is 0 -/
theorem stuck {n : Nat} (h1 : 1 ≤ n) (h4 : n ≤ 4) {A : List (List Int)} (hA : Aug n A) {t : Nat} (ht : t < n) (hd : Dg n t A) (h0 : ∀ i, t ≤ i → i < n → at_ A i t = 0) : δ n A n = 0 := by
  obtain ⟨z, nz⟩ := hd
  have : n = 1 ∨ n = 2 ∨ n = 3 ∨ n = 4 := by omega
  rcases this with rfl | rfl | rfl | rfl
  · obtain ⟨a, r, rfl⟩ := aug1 hA
    have : t = 0 := by omega
    subst this
    have e0 : a = 0 := h0 0 (by omega) (by omega)
    subst e0
    exact dt1 0
  · obtain ⟨a0, a1, r0, b0, b1, r1, rfl⟩ := aug2 hA
    show dt 2 [[a0, a1], [b0, b1]] = 0
    rw [dt2]
    have : t = 0 ∨ t = 1 := by omega
    rcases this with rfl | rfl
    · have e0 : a0 = 0 := h0 0 (by omega) (by omega)
      have e1 : b0 = 0 := h0 1 (by omega) (by omega)
      subst e0 e1
      unfold det2; grind
    · have e1 : b1 = 0 := h0 1 (by omega) (by omega)
      have z10 : b0 = 0 := z 1 0 (by omega) (by omega) (by omega)
      subst e1 z10
      unfold det2; grind
  · obtain ⟨a0, a1, a2, r0, b0, b1, b2, r1, c0, c1, c2, r2, rfl⟩ := aug3 hA
    show dt 3 [[a0, a1, a2], [b0, b1, b2], [c0, c1, c2]] = 0
    rw [dt3]
    have : t = 0 ∨ t = 1 ∨ t = 2 := by omega
    rcases this with rfl | rfl | rfl
    · have e0 : a0 = 0 := h0 0 (by omega) (by omega)
      have e1 : b0 = 0 := h0 1 (by omega) (by omega)
      have e2 : c0 = 0 := h0 2 (by omega) (by omega)
      subst e0 e1 e2
      unfold det3 det2; grind
    · have e1 : b1 = 0 := h0 1 (by omega) (by omega)
      have e2 : c1 = 0 := h0 2 (by omega) (by omega)
      have z10 : b0 = 0 := z 1 0 (by omega) (by omega) (by omega)
      have z20 : c0 = 0 := z 2 0 (by omega) (by omega) (by omega)
      subst e1 e2 z10 z20
      unfold det3 det2; grind
    · have e2 : c2 = 0 := h0 2 (by omega) (by omega)
      have z20 : c0 = 0 := z 2 0 (by omega) (by omega) (by omega)
      have z21 : c1 = 0 := z 2 1 (by omega) (by omega) (by omega)
      subst e2 z20 z21
      unfold det3 det2; grind
  · obtain ⟨a0, a1, a2, a3, r0, b0, b1, b2, b3, r1, c0, c1, c2, c3, r2, d0, d1, d2, d3, r3, rfl⟩ := aug4 hA
    show dt 4 [[a0, a1, a2, a3], [b0, b1, b2, b3], [c0, c1, c2, c3], [d0, d1, d2, d3]] = 0
    rw [dt4]
    have : t = 0 ∨ t = 1 ∨ t = 2 ∨ t = 3 := by omega
    rcases this with rfl | rfl | rfl | rfl
    · have e0 : a0 = 0 := h0 0 (by omega) (by omega)
      have e1 : b0 = 0 := h0 1 (by omega) (by omega)
      have e2 : c0 = 0 := h0 2 (by omega) (by omega)
      have e3 : d0 = 0 := h0 3 (by omega) (by omega)
      subst e0 e1 e2 e3
      unfold det4 det3 det2; grind
    · have e1 : b1 = 0 := h0 1 (by omega) (by omega)
      have e2 : c1 = 0 := h0 2 (by omega) (by omega)
      have e3 : d1 = 0 := h0 3 (by omega) (by omega)
      have z10 : b0 = 0 := z 1 0 (by omega) (by omega) (by omega)
      have z20 : c0 = 0 := z 2 0 (by omega) (by omega) (by omega)
      have z30 : d0 = 0 := z 3 0 (by omega) (by omega) (by omega)
      subst e1 e2 e3 z10 z20 z30
      unfold det4 det3 det2; grind
    · have e2 : c2 = 0 := h0 2 (by omega) (by omega)
      have e3 : d2 = 0 := h0 3 (by omega) (by omega)
      have z20 : c0 = 0 := z 2 0 (by omega) (by omega) (by omega)
      have z30 : d0 = 0 := z 3 0 (by omega) (by omega) (by omega)
      have z21 : c1 = 0 := z 2 1 (by omega) (by omega) (by omega)
      have z31 : d1 = 0 := z 3 1 (by omega) (by omega) (by omega)
      subst e2 e3 z20 z30 z21 z31
      unfold det4 det3 det2; grind
    · have e3 : d3 = 0 := h0 3 (by omega) (by omega)
      have z30 : d0 = 0 := z 3 0 (by omega) (by omega) (by omega)
      have z31 : d1 = 0 := z 3 1 (by omega) (by omega) (by omega)
      have z32 : d2 = 0 := z 3 2 (by omega) (by omega) (by omega)
      subst e3 z30 z31 z32
      unfold det4 det3 det2; grind
end K33
namespace K33
/-! ### elimination -/
def pvt (A : List (List Int)) (n t : Nat) : Option Nat := (List.range' t (n - t)).find? fun p => decide (at_ A p t ≠ 0)
def swapF (A : List (List Int)) (t p : Nat) : List (List Int) := (A.set t (row A p)).set p (row A t)
def clr (A : List (List Int)) (t i : Nat) : List Int := if at_ A i t = 0 then row A i else lc (at_ A t t) (at_ A i t) (row A i) (row A t)
def stE (t : Nat) (A : List (List Int)) (i : Nat) : List (List Int) := if i = t then A else A.set i (clr A t i)
def elimF (n : Nat) (A : List (List Int)) (t : Nat) : List (List Int) := (List.range n).foldl (stE t) A
def stepF (n : Nat) (o : Option (List (List Int))) (t : Nat) : Option (List (List Int)) := match o with
  | none => none
  | some A => (match pvt A n t with
    | none => none
    | some p => some (elimF n (swapF A t p) t))
def Rel (n : Nat) (A B : List (List Int)) : Prop := ∃ s : Int, s ≠ 0 ∧ ∀ j, j ≤ n → δ n B j = s * δ n A j
theorem Rel.refl (n : Nat) (A : List (List Int)) : Rel n A A := ⟨1, by decide, fun j _ => (Int.one_mul _).symm⟩
theorem Rel.trans {n : Nat} {A B C : List (List Int)} (h : Rel n A B) (k : Rel n B C) : Rel n A C := by
  obtain ⟨s, s0, hs⟩ := h
  obtain ⟨u, u0, hu⟩ := k
  exact ⟨u * s, Int.mul_ne_zero u0 s0, fun j hj => by rw [hu j hj, hs j hj, Int.mul_assoc]⟩
def BdR (k : Nat) (r : List Int) : Prop := ∀ x ∈ r, x.natAbs < 2 ^ k
theorem row_set_self {A : List (List Int)} {i : Nat} {r : List Int} (h : i < A.length) : row (A.set i r) i = r := by
  unfold row
  rw [List.getD_eq_getElem?_getD, List.getElem?_set_self h]
  rfl
theorem row_set_ne {A : List (List Int)} {i k : Nat} {r : List Int} (h : i ≠ k) : row (A.set i r) k = row A k := by
  unfold row
  rw [List.getD_eq_getElem?_getD, List.getElem?_set_ne h, ← List.getD_eq_getElem?_getD]
theorem set_row {A : List (List Int)} {i : Nat} (h : i < A.length) : A.set i (row A i) = A := by
  unfold row
  rw [List.getD_eq_getElem?_getD, List.getElem?_eq_getElem h]
  exact List.set_getElem_self h
theorem lc_get {p c : Int} {r s : List Int} {j : Nat} (hr : j < r.length) (hs : j < s.length) : (lc p c r s).getD j 0 = p * r.getD j 0 - c * s.getD j 0 := by
  unfold lc
  rw [List.getD_eq_getElem?_getD, List.getElem?_zipWith, List.getD_eq_getElem?_getD, List.getD_eq_getElem?_getD, List.getElem?_eq_getElem hr, List.getElem?_eq_getElem hs]
  rfl
theorem get_mem {r : List Int} {j : Nat} (h : j < r.length) : r.getD j 0 ∈ r := by
  rw [List.getD_eq_getElem?_getD, List.getElem?_eq_getElem h]
  exact List.getElem_mem h
theorem lc_bd {k : Nat} {p c : Int} {r s : List Int} (hr : BdR k r) (hs : BdR k s) (hp : p.natAbs < 2 ^ k) (hc : c.natAbs < 2 ^ k) : BdR (2 * k + 1) (lc p c r s) := by
  intro x hx
  unfold lc at hx
  rw [List.mem_iff_getElem] at hx
  obtain ⟨i, hi, rfl⟩ := hx
  rw [List.getElem_zipWith]
  rw [List.length_zipWith] at hi
  have a1 := hr _ (List.getElem_mem (show i < r.length by omega))
  have a2 := hs _ (List.getElem_mem (show i < s.length by omega))
  have m1 : (p * r[i]'(by omega)).natAbs < 2 ^ (2 * k) := by
    rw [Int.natAbs_mul, Nat.two_mul, Nat.pow_add]
    exact Nat.mul_lt_mul'' hp a1
  have m2 : (c * s[i]'(by omega)).natAbs < 2 ^ (2 * k) := by
    rw [Int.natAbs_mul, Nat.two_mul, Nat.pow_add]
    exact Nat.mul_lt_mul'' hc a2
  rw [Nat.pow_succ]
  omega
theorem bd_mono {k l : Nat} (h : k ≤ l) {r : List Int} (hr : BdR k r) : BdR l r := fun x hx => Nat.lt_of_lt_of_le (hr x hx) (Nat.pow_le_pow_right (by decide) h)
section
variable {n : Nat} (h1 : 1 ≤ n) (h4 : n ≤ 4)
include h1 h4
/-- the rows cleared so far -/
structure In (A : List (List Int)) (t k m : Nat) (B : List (List Int)) : Prop where
  aug : Aug n B
  rel : Rel n A B
  piv : row B t = row A t
  rest : ∀ i, m ≤ i → i < n → row B i = row A i
  zero : ∀ i, i < m → i ≠ t → at_ B i t = 0
  dg : Dg n t B
  bd : ∀ i, i < n → BdR (2 * k + 1) (row B i)
theorem inner {A : List (List Int)} (hA : Aug n A) {t k : Nat} (ht : t < n) (hd : Dg n t A) (hp : at_ A t t ≠ 0) (hb : ∀ i, i < n → BdR k (row A i)) : ∀ m, m ≤ n → In (n := n) A t k m ((List.range m).foldl (stE t) A)
  | 0, _ => ⟨hA, Rel.refl n A, rfl, fun _ _ _ => rfl, fun i h => absurd h (Nat.not_lt_zero _), hd, fun i hi => bd_mono (by omega) (hb i hi)⟩
  | m + 1, hm => by
    have ih := inner hA ht hd hp hb m (by omega)
    rw [List.range_succ, List.foldl_append]
    show In A t k (m + 1) (stE t ((List.range m).foldl (stE t) A) m)
    generalize (List.range m).foldl (stE t) A = B at ih ⊢
    unfold stE
    by_cases e : m = t
    · rw [if_pos e]
      exact ⟨ih.aug, ih.rel, ih.piv, fun i h1 h2 => ih.rest i (by omega) h2, fun i h1 h2 => ih.zero i (by omega) h2, ih.dg, ih.bd⟩
    · rw [if_neg e]
      have ml : m < B.length := by rw [ih.aug.1]; omega
      have rm : row B m = row A m := ih.rest m (Nat.le_refl _) (by omega)
      have ptt : at_ B t t = at_ A t t := by unfold at_; rw [ih.piv]
      have lm : (row B m).length = n + 1 := ih.aug.row (by omega)
      have lt : (row B t).length = n + 1 := ih.aug.row ht
      by_cases z : at_ B m t = 0
      · have ec : clr B t m = row B m := if_pos z
        rw [ec, set_row ml]
        refine ⟨ih.aug, ih.rel, ih.piv, fun i h1 h2 => ih.rest i (by omega) h2, fun i h1 h2 => ?_, ih.dg, ih.bd⟩
        by_cases w : i = m
        · rw [w]; exact z
        · exact ih.zero i (by omega) h2
      · have ec : clr B t m = lc (at_ B t t) (at_ B m t) (row B m) (row B t) := if_neg z
        rw [ec]
        have la : ∀ j, j < n + 1 → (lc (at_ B t t) (at_ B m t) (row B m) (row B t)).getD j 0 = at_ B t t * at_ B m j - at_ B m t * at_ B t j := fun j hj => lc_get (by omega) (by omega)
        have at_new : ∀ i j, i ≠ m → at_ (B.set m (lc (at_ B t t) (at_ B m t) (row B m) (row B t))) i j = at_ B i j := fun i j hi => by
          unfold at_
          rw [row_set_ne (fun e => hi e.symm)]
        have at_m : ∀ j, j < n + 1 → at_ (B.set m (lc (at_ B t t) (at_ B m t) (row B m) (row B t))) m j = at_ B t t * at_ B m j - at_ B m t * at_ B t j := fun j hj => by
          have : at_ (B.set m (lc (at_ B t t) (at_ B m t) (row B m) (row B t))) m j = (lc (at_ B t t) (at_ B m t) (row B m) (row B t)).getD j 0 := by
            show (row _ m).getD j 0 = _
            rw [row_set_self ml]
          rw [this, la j hj]
        have dlt : ∀ j, j < t → at_ B t j = 0 := fun j hj => ih.dg.1 t j ht hj (by omega)
        refine ⟨ih.aug.set m (by rw [lc_len (by omega)]; exact lm), ih.rel.trans ⟨at_ B t t, by rw [ptt]; exact hp, fun j hj => δ_row h1 h4 ih.aug (by omega) ht e _ _ hj⟩, by rw [row_set_ne e, ih.piv], fun i a b => by rw [row_set_ne (by omega)]; exact ih.rest i (by omega) b, fun i a b => ?_, ⟨fun i j a b c => ?_, fun j hj => ?_⟩, fun i hi => ?_⟩
        · by_cases w : i = m
          · rw [w, at_m t (by omega), Int.mul_comm]
            omega
          · rw [at_new i t w]
            exact ih.zero i (by omega) b
        · by_cases w : i = m
          · subst w
            rw [at_m j (by omega), dlt j b, ih.dg.1 i j a b c, Int.mul_zero, Int.mul_zero]
            rfl
          · rw [at_new i j w]
            exact ih.dg.1 i j a b c
        · by_cases w : j = m
          · subst w
            rw [at_m j (by omega), dlt j hj, Int.mul_zero, Int.sub_zero]
            exact Int.mul_ne_zero (by rw [ptt]; exact hp) (ih.dg.2 j hj)
          · rw [at_new j j w]
            exact ih.dg.2 j hj
        · by_cases w : i = m
          · subst w
            rw [row_set_self ml]
            have b1 := hb i hi
            have b2 := hb t ht
            rw [← rm] at b1
            rw [← ih.piv] at b2
            exact lc_bd b1 b2 (b2 _ (get_mem (by omega))) (b1 _ (get_mem (by omega)))
          · rw [row_set_ne (fun e => w e.symm)]
            exact ih.bd i hi
theorem pvt_some {A : List (List Int)} {t p : Nat} (h : pvt A n t = some p) : t ≤ p ∧ p < n ∧ at_ A p t ≠ 0 := by
  have m := List.mem_of_find?_eq_some h
  have c := List.find?_some h
  rw [List.mem_range'_1] at m
  exact ⟨m.1, by omega, of_decide_eq_true c⟩
theorem pvt_none {A : List (List Int)} {t : Nat} (h : pvt A n t = none) : ∀ i, t ≤ i → i < n → at_ A i t = 0 := fun i a b => by
  have := List.find?_eq_none.mp h i (List.mem_range'_1.mpr ⟨a, by omega⟩)
  rw [decide_eq_true_iff] at this
  exact Decidable.of_not_not this
theorem swap_ok {A : List (List Int)} (hA : Aug n A) {t p k : Nat} (ht : t < n) (hd : Dg n t A) (hp : t ≤ p ∧ p < n ∧ at_ A p t ≠ 0) (hb : ∀ i, i < n → BdR k (row A i)) :
    Aug n (swapF A t p) ∧ Rel n A (swapF A t p) ∧ Dg n t (swapF A t p) ∧ at_ (swapF A t p) t t ≠ 0 ∧ ∀ i, i < n → BdR k (row (swapF A t p) i) := by
  obtain ⟨p1, p2, p3⟩ := hp
  have tl : t < A.length := by rw [hA.1]; exact ht
  have pl : p < A.length := by rw [hA.1]; exact p2
  by_cases e : t = p
  · subst e
    have es : swapF A t t = A := by
      unfold swapF
      rw [set_row tl, set_row tl]
    rw [es]
    exact ⟨hA, Rel.refl n A, hd, p3, hb⟩
  · have r1 : row (swapF A t p) t = row A p := by
      unfold swapF
      rw [row_set_ne (fun h => e h.symm), row_set_self tl]
    have r2 : row (swapF A t p) p = row A t := by
      unfold swapF
      rw [row_set_self (by rw [List.length_set]; exact pl)]
    have r3 : ∀ i, i ≠ t → i ≠ p → row (swapF A t p) i = row A i := fun i a b => by
      unfold swapF
      rw [row_set_ne (fun h => b h.symm), row_set_ne (fun h => a h.symm)]
    refine ⟨(hA.set t (hA.row p2)).set p (hA.row ht), ⟨-1, by decide, fun j _ => δ_swap h1 h4 hA ht p2 e⟩, ⟨fun i j a b c => ?_, fun j hj => ?_⟩, ?_, fun i hi => ?_⟩
    · unfold at_
      by_cases x : i = t
      · rw [x, r1]
        exact hd.1 p j p2 b (by omega)
      · by_cases y : i = p
        · rw [y, r2]
          exact hd.1 t j ht b (by omega)
        · rw [r3 i x y]
          exact hd.1 i j a b c
    · unfold at_
      rw [r3 j (by omega) (by omega)]
      exact hd.2 j hj
    · unfold at_
      rw [r1]
      exact p3
    · by_cases x : i = t
      · rw [x, r1]; exact hb p p2
      · by_cases y : i = p
        · rw [y, r2]; exact hb t ht
        · rw [r3 i x y]; exact hb i hi
def bits : Nat → Nat → Nat
  | k, 0 => k
  | k, m + 1 => 2 * bits k m + 1
theorem outer {A : List (List Int)} (hA : Aug n A) {k : Nat} (hb : ∀ i, i < n → BdR k (row A i)) : ∀ m, m ≤ n → match (List.range m).foldl (stepF n) (some A) with
    | none => δ n A n = 0
    | some B => Aug n B ∧ Dg n m B ∧ Rel n A B ∧ ∀ i, i < n → BdR (bits k m) (row B i)
  | 0, _ => ⟨hA, ⟨fun _ j _ h => absurd h (Nat.not_lt_zero _), fun j h => absurd h (Nat.not_lt_zero _)⟩, Rel.refl n A, hb⟩
  | m + 1, hm => by
    have ih := outer hA hb m (by omega)
    rw [List.range_succ, List.foldl_append]
    show match stepF n ((List.range m).foldl (stepF n) (some A)) m with
      | none => δ n A n = 0
      | some B => Aug n B ∧ Dg n (m + 1) B ∧ Rel n A B ∧ ∀ i, i < n → BdR (bits k (m + 1)) (row B i)
    cases q : (List.range m).foldl (stepF n) (some A) with
    | none =>
      rw [q] at ih
      exact ih
    | some B =>
      rw [q] at ih
      obtain ⟨a1, a2, a3, a4⟩ := ih
      have es : stepF n (some B) m = (match pvt B n m with
        | none => none
        | some p => some (elimF n (swapF B m p) m)) := rfl
      rw [es]
      cases pv : pvt B n m with
      | none =>
        have z := stuck h1 h4 a1 (by omega) a2 (pvt_none h1 h4 pv)
        obtain ⟨s, s0, hs⟩ := a3
        have := hs n (Nat.le_refl _)
        rw [z] at this
        simp only
        rcases Int.mul_eq_zero.mp this.symm with h | h
        · exact absurd h s0
        · exact h
      | some p =>
        obtain ⟨b1, b2, b3, b4, b5⟩ := swap_ok h1 h4 a1 (by omega) a2 (pvt_some h1 h4 pv) a4
        have c := inner h1 h4 b1 (by omega) b3 b4 b5 n (Nat.le_refl _)
        simp only
        refine ⟨c.aug, ⟨fun i j a b d => ?_, fun j hj => ?_⟩, (a3.trans b2).trans c.rel, c.bd⟩
        · by_cases w : j = m
          · rw [w]
            exact c.zero i a (by omega)
          · exact c.dg.1 i j a (by omega) d
        · by_cases w : j = m
          · rw [w]
            unfold at_
            show (row ((List.range n).foldl (stE m) (swapF B m p)) m).getD m 0 ≠ 0
            rw [c.piv]
            exact b4
          · exact c.dg.2 j (by omega)
end
end K33
namespace K33
/-! ### lowest terms -/
theorem nat_frac {t w r d : Nat} (hw : 0 < w) (hd : 0 < d) (h : t * d = r * w) : d / Nat.gcd r d = w / Nat.gcd t w := by
  have e : d * Nat.gcd t w = w * Nat.gcd r d := by
    have a : Nat.gcd (t * d) (w * d) = Nat.gcd t w * d := Nat.gcd_mul_right t d w
    have b : Nat.gcd (r * w) (d * w) = Nat.gcd r d * w := Nat.gcd_mul_right r w d
    rw [h, Nat.mul_comm w d] at a
    rw [a] at b
    rw [Nat.mul_comm d, Nat.mul_comm w]
    exact b
  have g0 : 0 < Nat.gcd t w := Nat.gcd_pos_of_pos_right _ hw
  have h0 : 0 < Nat.gcd r d := Nat.gcd_pos_of_pos_right _ hd
  obtain ⟨x, hx⟩ := Nat.gcd_dvd_right r d
  obtain ⟨y, hy⟩ := Nat.gcd_dvd_right t w
  have ex : d / Nat.gcd r d = x := Nat.div_eq_of_eq_mul_right h0 hx
  have ey : w / Nat.gcd t w = y := Nat.div_eq_of_eq_mul_right g0 hy
  rw [ex, ey]
  generalize Nat.gcd r d = H at *
  generalize Nat.gcd t w = G at *
  subst hx hy
  have : (H * G) * x = (H * G) * y := by
    rw [Nat.mul_assoc, Nat.mul_comm G x, ← Nat.mul_assoc, e, Nat.mul_assoc, Nat.mul_comm y H, ← Nat.mul_assoc, Nat.mul_comm G H]
  exact Nat.eq_of_mul_eq_mul_left (Nat.mul_pos h0 g0) this
/-- the sign -/
def sn (w : Int) : Int := if w < 0 then -1 else 1
theorem sn_mul {w : Int} : sn w * w = (w.natAbs : Int) := by
  unfold sn
  split <;> omega
theorem sn_sq (w : Int) : sn w * sn w = 1 := by
  unfold sn
  split <;> rfl
def prt (r d : Int) : Int × Nat := (sn d * r / ((Nat.gcd r.natAbs d.natAbs : Nat) : Int), d.natAbs / Nat.gcd r.natAbs d.natAbs)
theorem sn_dvd (w t : Int) (g : Nat) (h : g ∣ t.natAbs) : ((g : Nat) : Int) ∣ sn w * t := by
  have : ((g : Nat) : Int) ∣ t := Int.ofNat_dvd_left.mpr h
  exact Int.dvd_trans this ⟨sn w, Int.mul_comm _ _⟩
theorem prt_eq {t w r d : Int} (hw : w ≠ 0) (hd : d ≠ 0) (h : t * d = r * w) : prt r d = (sn w * t / ((Nat.gcd t.natAbs w.natAbs : Nat) : Int), w.natAbs / Nat.gcd t.natAbs w.natAbs) := by
  have w0 : 0 < w.natAbs := Int.natAbs_pos.mpr hw
  have d0 : 0 < d.natAbs := Int.natAbs_pos.mpr hd
  have hn : t.natAbs * d.natAbs = r.natAbs * w.natAbs := by rw [← Int.natAbs_mul, ← Int.natAbs_mul, h]
  have e := nat_frac w0 d0 hn
  unfold prt
  rw [e]
  congr 1
  have g0 : 0 < Nat.gcd t.natAbs w.natAbs := Nat.gcd_pos_of_pos_right _ w0
  have h0 : 0 < Nat.gcd r.natAbs d.natAbs := Nat.gcd_pos_of_pos_right _ d0
  obtain ⟨X, hX⟩ := sn_dvd d r _ (Nat.gcd_dvd_left r.natAbs d.natAbs)
  obtain ⟨Y, hY⟩ := sn_dvd w t _ (Nat.gcd_dvd_left t.natAbs w.natAbs)
  obtain ⟨x, hx⟩ := Nat.gcd_dvd_right r.natAbs d.natAbs
  obtain ⟨y, hy⟩ := Nat.gcd_dvd_right t.natAbs w.natAbs
  have ex : d.natAbs / Nat.gcd r.natAbs d.natAbs = x := Nat.div_eq_of_eq_mul_right h0 hx
  have ey : w.natAbs / Nat.gcd t.natAbs w.natAbs = y := Nat.div_eq_of_eq_mul_right g0 hy
  rw [ex, ey] at e
  subst e
  have x0 : 0 < x := by
    rcases Nat.eq_zero_or_pos x with z | z
    · rw [z, Nat.mul_zero] at hx; omega
    · exact z
  rw [hX, hY]
  have dN : sn d * d = ((Nat.gcd r.natAbs d.natAbs * x : Nat) : Int) := by rw [sn_mul]; exact congrArg Nat.cast hx
  have wN : sn w * w = ((Nat.gcd t.natAbs w.natAbs * x : Nat) : Int) := by rw [sn_mul]; exact congrArg Nat.cast hy
  generalize Nat.gcd r.natAbs d.natAbs = H at *
  generalize Nat.gcd t.natAbs w.natAbs = G at *
  rw [Int.mul_ediv_cancel_left X (show (H : Int) ≠ 0 by omega), Int.mul_ediv_cancel_left Y (show (G : Int) ≠ 0 by omega)]
  have key : (sn w * t) * (sn d * d) = (sn d * r) * (sn w * w) := by grind
  rw [hX, hY, dN, wN, Int.natCast_mul, Int.natCast_mul] at key
  have k2 : (G : Int) * (H : Int) * (x : Int) * X = (G : Int) * (H : Int) * (x : Int) * Y := by grind
  exact Int.eq_of_mul_eq_mul_left (Int.mul_ne_zero (Int.mul_ne_zero (by omega) (by omega)) (by omega)) k2
def fG (W : Nat) (ts : List Int) : Nat := ts.foldl (fun g t => Nat.gcd g t.natAbs) W
theorem fG_dvd : ∀ (ts : List Int) (W : Nat), fG W ts ∣ W ∧ ∀ t ∈ ts, fG W ts ∣ t.natAbs
  | [], W => ⟨Nat.dvd_refl W, fun t h => by cases h⟩
  | t :: r, W => by
    obtain ⟨a, b⟩ := fG_dvd r (Nat.gcd W t.natAbs)
    refine ⟨Nat.dvd_trans a (Nat.gcd_dvd_left _ _), fun u hu => ?_⟩
    rcases List.mem_cons.mp hu with z | z
    · rw [z]; exact Nat.dvd_trans a (Nat.gcd_dvd_right _ _)
    · exact b u z
theorem fG_pos {W : Nat} (h : 0 < W) (ts : List Int) : 0 < fG W ts := Nat.pos_of_dvd_of_pos (fG_dvd ts W).1 h
theorem ddl {W a g : Nat} (g0 : 0 < g) (a0 : 0 < a) (h1 : g ∣ a) (h2 : a ∣ W) : W / a ∣ W / g := by
  obtain ⟨k, rfl⟩ := h1
  obtain ⟨m, rfl⟩ := h2
  have e1 : g * k * m / (g * k) = m := Nat.mul_div_cancel_left m a0
  have e2 : g * k * m / g = k * m := by rw [Nat.mul_assoc]; exact Nat.mul_div_cancel_left _ g0
  rw [e1, e2]
  exact ⟨k, Nat.mul_comm _ _⟩
theorem lcm_div {W a b : Nat} (hW : 0 < W) (ha : a ∣ W) (hb : b ∣ W) : Nat.lcm (W / a) (W / b) = W / Nat.gcd a b := by
  have a0 : 0 < a := Nat.pos_of_dvd_of_pos ha hW
  have b0 : 0 < b := Nat.pos_of_dvd_of_pos hb hW
  have g0 : 0 < Nat.gcd a b := Nat.gcd_pos_of_pos_left _ a0
  have gw : Nat.gcd a b ∣ W := Nat.dvd_trans (Nat.gcd_dvd_left a b) ha
  apply Nat.dvd_antisymm
  · apply Nat.lcm_dvd
    · exact ddl g0 a0 (Nat.gcd_dvd_left a b) ha
    · exact ddl g0 b0 (Nat.gcd_dvd_right a b) hb
  · obtain ⟨x, hx⟩ := Nat.dvd_lcm_left (W / a) (W / b)
    obtain ⟨y, hy⟩ := Nat.dvd_lcm_right (W / a) (W / b)
    generalize Nat.lcm (W / a) (W / b) = l at *
    have la : l * a = W * x := by rw [hx, Nat.mul_right_comm, Nat.div_mul_cancel ha]
    have lb : l * b = W * y := by rw [hy, Nat.mul_right_comm, Nat.div_mul_cancel hb]
    have lg : W ∣ l * Nat.gcd a b := by
      rw [← Nat.gcd_mul_left, la, lb]
      exact Nat.dvd_gcd ⟨x, rfl⟩ ⟨y, rfl⟩
    obtain ⟨z, hz⟩ := lg
    refine ⟨z, ?_⟩
    have : Nat.gcd a b * l = Nat.gcd a b * (W / Nat.gcd a b * z) := by
      rw [← Nat.mul_assoc, Nat.mul_div_cancel' gw, ← hz, Nat.mul_comm]
    exact Nat.eq_of_mul_eq_mul_left g0 this
theorem lcm_fold {W : Nat} (hW : 0 < W) : ∀ (ts : List Int) (G : Nat), G ∣ W → ts.foldl (fun b t => Nat.lcm b (W / Nat.gcd t.natAbs W)) (W / G) = W / fG G ts
  | [], G, _ => rfl
  | t :: r, G, hG => by
    have e : Nat.lcm (W / G) (W / Nat.gcd t.natAbs W) = W / Nat.gcd G t.natAbs := by
      rw [lcm_div hW hG (Nat.gcd_dvd_right _ _)]
      congr 1
      apply Nat.dvd_antisymm
      · exact Nat.dvd_gcd (Nat.gcd_dvd_left _ _) (Nat.dvd_trans (Nat.gcd_dvd_right _ _) (Nat.gcd_dvd_left _ _))
      · exact Nat.dvd_gcd (Nat.gcd_dvd_left _ _) (Nat.dvd_gcd (Nat.gcd_dvd_right _ _) (Nat.dvd_trans (Nat.gcd_dvd_left _ _) hG))
    rw [List.foldl_cons, e]
    exact lcm_fold hW r (Nat.gcd G t.natAbs) (Nat.dvd_trans (Nat.gcd_dvd_left _ _) hG)
/-- a quotient over the common bottom -/
theorem top_eq {W g G : Nat} {t : Int} (w : Int) (hW : 0 < W) (hg : g ∣ W) (hG : G ∣ g) (ht : g ∣ t.natAbs) : (sn w * t / (g : Int)) * ((W / G / (W / g) : Nat) : Int) = sn w * t / (G : Int) := by
  have g0 : 0 < g := Nat.pos_of_dvd_of_pos hg hW
  have G0 : 0 < G := Nat.pos_of_dvd_of_pos hG g0
  obtain ⟨a, rfl⟩ := hG
  have a0 : 0 < a := by
    rcases Nat.eq_zero_or_pos a with z | z
    · rw [z, Nat.mul_zero] at g0; omega
    · exact z
  obtain ⟨b, rfl⟩ := hg
  have b0 : 0 < b := by
    rcases Nat.eq_zero_or_pos b with z | z
    · rw [z, Nat.mul_zero] at hW; omega
    · exact z
  have e1 : G * a * b / (G * a) = b := Nat.mul_div_cancel_left b g0
  have e2 : G * a * b / G = a * b := by rw [Nat.mul_assoc]; exact Nat.mul_div_cancel_left _ G0
  rw [e1, e2, Nat.mul_div_cancel a b0]
  obtain ⟨X, hX⟩ := sn_dvd w t _ ht
  rw [hX, Int.mul_ediv_cancel_left X (by omega), Int.natCast_mul, Int.mul_assoc, Int.mul_ediv_cancel_left _ (by omega), Int.mul_comm]
theorem div_sn {w x : Int} {G : Nat} (hG : 0 < G) (h : (G : Int) ∣ x) : (w < 0 → Int.fdiv x (-(G : Int)) = sn w * x / (G : Int)) ∧ (¬ w < 0 → x / (G : Int) = sn w * x / (G : Int)) := by
  obtain ⟨c, rfl⟩ := h
  unfold sn
  constructor
  · intro z
    rw [if_pos z]
    have e1 : (G : Int) * c = -(G : Int) * (-c) := by grind
    have e2 : -1 * ((G : Int) * c) = (G : Int) * (-c) := by grind
    rw [e2, Int.mul_ediv_cancel_left _ (by omega), e1, Int.mul_fdiv_cancel_left _ (by omega)]
  · intro z
    rw [if_neg z, Int.one_mul]
end K33
namespace K33
open PySem L2 PyI
/-! ### loops, comprehensions -/
theorem forL_nx {g : D → PyI.Env → Res PyI.Env} {f : PyI.Env → Out} {d : D} {r : List D} {σ σ1 σ2 : PyI.Env} (h1 : g d σ = .ok σ1) (h2 : f σ1 = .nx σ2) : forL g f (d :: r) σ = forL g f r σ2 := by
  unfold forL
  rw [h1]
  simp only [ok_out]
  rw [h2]
  cases r <;> rfl
theorem forL_rt {g : D → PyI.Env → Res PyI.Env} {f : PyI.Env → Out} {d : D} {r : List D} {σ σ1 : PyI.Env} {v : D} (h1 : g d σ = .ok σ1) (h2 : f σ1 = .rt v) : forL g f (d :: r) σ = .rt v := by
  unfold forL
  rw [h1]
  simp only [ok_out]
  rw [h2]
theorem comp_mp {α : Type} {G : Str → Option D} {Φ : Str → List D → Res D} {σ : PyI.Env} {elt : E} {tg : Tg} {src : Src} {own : List Nat} {as : List α} {q : α → D} (hs : evS G Φ src σ = .ok (as.map q)) (g : α → D)
    (h : ∀ a ∈ as, ∃ σ2, asg tg (q a) (wipeD σ own) = .ok σ2 ∧ ev G Φ elt σ2 = .ok (g a)) (hl : as.length ≤ 1000000) : ev G Φ (.comp elt tg src own) σ = .ok (.lst (as.map g)) := by
  have key : ∀ l : List α, (∀ a ∈ l, a ∈ as) → mapR (fun x => nox (asg tg x (wipeD σ own) >>= fun σ2 => ev G Φ elt σ2 >>= fun y => .ok (some y))) (l.map q) = .ok (l.map g) := by
    intro l
    induction l with
    | nil => intro _; rfl
    | cons i r ih =>
      intro hm
      obtain ⟨σ2, h1, h2⟩ := h i (hm i List.mem_cons_self)
      show (nox (asg tg (q i) (wipeD σ own) >>= fun σ2 => ev G Φ elt σ2 >>= fun y => Res.ok (some y)) >>= fun o => mapR _ (r.map q) >>= fun ds => match o with
        | some x => Res.ok (x :: ds)
        | none => .ok ds) = _
      rw [ih fun j hj => hm j (List.mem_cons_of_mem _ hj), h1]
      show (nox (ev G Φ elt σ2 >>= fun y => Res.ok (some y)) >>= fun o => _) = _
      rw [h2]
      rfl
  rw [e_comp, hs]
  show (mapR _ (as.map q) >>= fun ds => if ds.length ≤ sizeLine then Res.ok (D.lst ds) else .bad) = _
  rw [key as fun a h => h]
  show (if (as.map g).length ≤ sizeLine then Res.ok (D.lst (as.map g)) else .bad) = _
  rw [List.length_map, if_pos (Nat.le_of_lt (small6 hl))]
theorem rngA {lo m : Nat} (h : lo ≤ m) (hm : m ≤ 1000000) : rngD (lo : Int) (m : Int) = .ok ((List.range' lo (m - lo)).map fun (i : Nat) => D.int i) := by
  rw [rng_ok ⟨by omega, by omega, by omega, by omega⟩]
  have e : ((m : Int) - (lo : Int)).toNat = m - lo := by omega
  rw [e, List.range'_eq_map_range, List.map_map]
  rfl
theorem rng0' {m : Nat} (hm : m ≤ 1000000) : rngD 0 (m : Int) = .ok ((List.range m).map fun (i : Nat) => D.int i) := by
  have h := rngA (lo := 0) (m := m) (by omega) hm
  rw [Nat.sub_zero, ← List.range_eq_range'] at h
  exact h
/-! ### numbers that may be multiplied -/
def Sm (x : Int) : Prop := x.natAbs < 2 ^ 4000
theorem sm_log {x : Int} (h : Sm x) : x.natAbs.log2 < 4000 := by
  unfold Sm at h
  by_cases z : x.natAbs = 0
  · rw [z, Nat.log2_zero]; omega
  · exact (Nat.log2_lt z).mpr h
theorem sm_mul {x y : Int} (hx : Sm x) (hy : Sm y) : opD .mul (.int x) (.int y) = .ok (.int (x * y)) := ml_int (.inr (by have := sm_log hx; have := sm_log hy; omega))
theorem sm_of {k : Nat} (hk : k ≤ 4000) {r : List Int} (h : BdR k r) : ∀ x ∈ r, Sm x := fun x hx => by
  have h1 := h x hx
  have h2 : (2 : Nat) ^ k ≤ 2 ^ 4000 := Nat.pow_le_pow_right (Nat.zero_lt_succ 1) hk
  exact Nat.lt_of_lt_of_le h1 h2
/-! ### rows -/
def LD (r : List Int) : D := .lst (r.map D.int)
theorem ixA {A : List (List Int)} {i : Nat} (h : i < A.length) : ixD (.lst (A.map LD)) (.int (i : Nat)) = .ok (LD (row A i)) := by
  refine ix_lst (n := i) rfl ?_
  unfold row
  rw [List.getElem?_map, List.getElem?_eq_getElem h, List.getD_eq_getElem?_getD, List.getElem?_eq_getElem h]
  rfl
theorem ixR {r : List Int} {j : Nat} (h : j < r.length) : ixD (LD r) (.int (j : Nat)) = .ok (.int (r.getD j 0)) := by
  refine ix_lst (n := j) rfl ?_
  rw [List.getElem?_map, List.getElem?_eq_getElem h, List.getD_eq_getElem?_getD, List.getElem?_eq_getElem h]
  rfl
theorem piv_loop (N n t : Nat) {A : List (List Int)} (hA : Aug n A) (ht : t < n) : ∀ (l : List Nat) (j2 : Option D), (∀ i ∈ l, i < n) → ∃ j2' : Option D,
    forL (asg (.nm 2)) (exL T.prg.G (T.prg.call N) T.prg.fu l2_pivot_line) (l.map fun (i : Nat) => D.int i) [some (.v (.lst (A.map LD))), some (.v (.int (t : Nat))), j2.map C.v] =
      match l.find? fun p => decide (at_ A p t ≠ 0) with
      | some p => .rt (.int (p : Nat))
      | none => .nx [some (.v (.lst (A.map LD))), some (.v (.int (t : Nat))), j2'.map C.v]
  | [], j2, _ => ⟨j2, rfl⟩
  | i :: r, j2, h => by
    have il := h i List.mem_cons_self
    have a1 : asg (.nm 2) (.int (i : Nat)) [some (.v (.lst (A.map LD))), some (.v (.int (t : Nat))), j2.map C.v] = .ok [some (.v (.lst (A.map LD))), some (.v (.int (t : Nat))), some (.v (.int (i : Nat)))] := by simp? []
    have x1 := ixA (A := A) (i := i) (by rw [hA.1]; exact il)
    have x2 := ixR (r := row A i) (j := t) (by rw [hA.row il]; omega)
    have e : at_ A i t = (row A i).getD t 0 := rfl
    by_cases z : at_ A i t = 0
    · obtain ⟨j2', ih⟩ := piv_loop N n t hA ht r (some (.int (i : Nat))) fun j hj => h j (List.mem_cons_of_mem _ hj)
      refine ⟨j2', ?_⟩
      have b1 : exL T.prg.G (T.prg.call N) T.prg.fu l2_pivot_line [some (.v (.lst (A.map LD))), some (.v (.int (t : Nat))), some (.v (.int (i : Nat)))] = .nx [some (.v (.lst (A.map LD))), some (.v (.int (t : Nat))), some (.v (.int (i : Nat)))] := by
        unfold l2_pivot_line
        simp? [x1, x2, ← e, z]
        rfl
      rw [List.map_cons, forL_nx a1 b1, List.find?_cons, decide_eq_false (fun h => h z)]
      exact ih
    · refine ⟨none, ?_⟩
      have b1 : exL T.prg.G (T.prg.call N) T.prg.fu l2_pivot_line [some (.v (.lst (A.map LD))), some (.v (.int (t : Nat))), some (.v (.int (i : Nat)))] = .rt (.int (i : Nat)) := by
        unfold l2_pivot_line
        simp? [x1, x2, ← e, decide_eq_true z]
      rw [List.map_cons, forL_rt a1 b1, List.find?_cons, decide_eq_true z]
def pivI (o : Option Nat) : Int := match o with
  | some p => (p : Int)
  | none => -1
theorem pivot_run (N n t : Nat) {A : List (List Int)} (hA : Aug n A) (ht : t < n) (hn : n ≤ 4) : T.prg.call (N + 1) "pivot_line" [.lst (A.map LD), .int (t : Nat)] = .ok (.int (pivI (pvt A n t))) := by
  rw [call_pivot_line]
  unfold b_pivot_line t1_pivot_line
  obtain ⟨j2, e⟩ := piv_loop N n t hA ht (List.range' t (n - t)) none fun i hi => by have := List.mem_range'_1.mp hi; omega
  have ln : (((A.map LD).length : Nat) : Int) = (n : Int) := by rw [List.length_map, hA.1]
  simp only [Option.map_none] at e
  have e : forL _ _ _ _ = (match pvt A n t with
    | some p => Out.rt (.int (p : Nat))
    | none => .nx [some (.v (.lst (A.map LD))), some (.v (.int (t : Nat))), j2.map C.v]) := e
  simp? [ln, rngA (lo := t) (m := n) (by omega) (by omega)]
  rw [e]
  cases pvt A n t with
  | none => simp? []; rfl
  | some p => simp? []; rfl
def pr2 (p : Int × Int) : D := .tup [.int p.1, .int p.2]
theorem zip_int : ∀ a b : List Int, zipD (a.map D.int) (b.map D.int) = (List.zip a b).map pr2
  | [], _ => rfl
  | _ :: _, [] => rfl
  | x :: a, y :: b => by
    show D.tup _ :: zipD (a.map D.int) (b.map D.int) = _
    rw [zip_int a b]
    rfl
theorem lc_zip (p c : Int) (r s : List Int) : (List.zip r s).map (fun z => D.int (p * z.1 - c * z.2)) = (lc p c r s).map D.int := by
  unfold lc
  rw [List.zip, List.map_zipWith, List.map_zipWith]
theorem cleared_run (N n t : Nat) (ht : t < n) (hn : n ≤ 4) {r p : List Int} (hr : r.length = n + 1) (hp : p.length = n + 1) (br : ∀ x ∈ r, Sm x) (bp : ∀ x ∈ p, Sm x) : T.prg.call (N + 1) "cleared" [LD r, LD p, .int (t : Nat)] = .ok (LD (if r.getD t 0 = 0 then r else lc (p.getD t 0) (r.getD t 0) r p)) := by
  rw [call_cleared]
  unfold b_cleared t1_cleared
  have x1 := ixR (r := r) (j := t) (by omega)
  have x2 := ixR (r := p) (j := t) (by omega)
  by_cases z : r.getD t 0 = 0
  · rw [if_pos z]
    simp? [x1, decide_eq_true z]
  · rw [if_neg z]
    have s1 := bp _ (get_mem (r := p) (j := t) (by omega))
    have s2 := br _ (get_mem (r := r) (j := t) (by omega))
    have zi : zipI (LD r) (LD p) = .ok (r.map D.int, p.map D.int) := rfl
    have cp := comp_mp (G := T.prg.G) (Φ := T.prg.call N) (σ := [some (.v (LD r)), some (.v (LD p)), some (.v (.int (t : Nat))), none, none]) (elt := .op .sub (.op .mul (.ix (.var 1) (.var 2)) (.var 3)) (.op .mul (.ix (.var 0) (.var 2)) (.var 4))) (tg := .tup [.nm 3, .nm 4]) (src := .zip (.var 0) (.var 1)) (own := [3, 4]) (as := List.zip r p) (q := pr2)
      (by simp? [zi, zip_int]) (fun w => .int (p.getD t 0 * w.1 - r.getD t 0 * w.2)) (fun w hw => by
        obtain ⟨w1, w2⟩ := List.of_mem_zip hw
        exact ⟨[some (.v (LD r)), some (.v (LD p)), some (.v (.int (t : Nat))), some (.v (.int w.1)), some (.v (.int w.2))], by unfold pr2; simp? [], by simp? [x1, x2, sm_mul s1 (br _ w1), sm_mul s2 (bp _ w2)]⟩) (by rw [List.length_zip]; omega)
    rw [lc_zip] at cp
    simp? [x1, decide_eq_false z, cp]
    rfl
end K33
namespace K33
open PySem L2 PyI
/-! ### solve -/
theorem setA {A : List (List Int)} {i : Nat} {r : List Int} : (A.map LD).set i (LD r) = (A.set i r).map LD := (List.map_set).symm
section
variable (N n : Nat) (h1 : 1 ≤ n) (h4 : n ≤ 4) (x0 x1 : D)
/-- the slots of solve -/
def sσ (n : Nat) (x0 x1 : D) (A : List (List Int)) (c4 c5 c6 c7 : Option C) : PyI.Env := [some (.v x0), some (.v x1), some (.v (.int (n : Nat))), some (.o (A.map LD)), c4, c5, c6, c7, none, none]
include h1 h4
theorem s_inner {A : List (List Int)} (hA : Aug n A) {t k : Nat} (ht : t < n) (hd : Dg n t A) (hp : at_ A t t ≠ 0) (hb : ∀ i, i < n → BdR k (row A i)) (hk : 2 * k + 1 ≤ 4000) (c5 c6 c7 : Option C) : ∃ c7' : Option C,
    forL (asg (.nm 7)) (exL T.prg.G (T.prg.call (N + 1)) T.prg.fu l2_solve) ((List.range n).map fun (i : Nat) => D.int i) (sσ n x0 x1 A (some (.v (.int (t : Nat)))) c5 c6 c7) = .nx (sσ n x0 x1 (elimF n A t) (some (.v (.int (t : Nat)))) c5 c6 c7') := by
  have go := forL_go (g := asg (.nm 7)) (f := exL T.prg.G (T.prg.call (N + 1)) T.prg.fu l2_solve) ((List.range n).map fun (i : Nat) => D.int (i : Nat))
    (fun i τ => ∃ c : Option C, τ = sσ n x0 x1 ((List.range i).foldl (stE t) A) (some (.v (.int (t : Nat)))) c5 c6 c)
    (sσ n x0 x1 A (some (.v (.int (t : Nat)))) c5 c6 c7) ⟨c7, rfl⟩ (by
      rintro i d τ hdd ⟨c, rfl⟩
      obtain ⟨hi, rfl⟩ := rg_get hdd
      obtain ⟨B, eB⟩ : ∃ B, (List.range i).foldl (stE t) A = B := ⟨_, rfl⟩
      have I := inner h1 h4 hA ht hd hp hb i (by omega)
      have es : (List.range (i + 1)).foldl (stE t) A = stE t B i := by
        rw [List.range_succ, List.foldl_append, eB]
        rfl
      rw [es, eB]
      rw [eB] at I
      refine ⟨sσ n x0 x1 B (some (.v (.int (t : Nat)))) c5 c6 (some (.v (.int (i : Nat)))), by unfold sσ; simp? [], sσ n x0 x1 (stE t B i) (some (.v (.int (t : Nat)))) c5 c6 (some (.v (.int (i : Nat)))), .inl ?_, _, rfl⟩
      unfold l2_solve stE
      by_cases e : i = t
      · rw [if_pos e]
        subst e
        have hc : decide (((i : Nat) : Int) ≠ ((i : Nat) : Int)) = false := by simp
        unfold sσ
        simp? [hc]
      · rw [if_neg e]
        have hc : decide (((i : Nat) : Int) ≠ ((t : Nat) : Int)) = true := decide_eq_true (by omega)
        have il : i < B.length := by rw [I.aug.1]; exact hi
        have tl : t < B.length := by rw [I.aug.1]; exact ht
        have cr := cleared_run N n t ht h4 (r := row B i) (p := row B t) (I.aug.row hi) (I.aug.row ht) (sm_of hk (I.bd i hi)) (sm_of hk (I.bd t ht))
        have ce : (if (row B i).getD t 0 = 0 then row B i else lc ((row B t).getD t 0) ((row B i).getD t 0) (row B i) (row B t)) = clr B t i := rfl
        rw [ce] at cr
        have ixn : ixN (B.map LD).length ((i : Nat) : Int) = some i := by
          rw [List.length_map]
          unfold ixN
          rw [if_pos (by omega)]
          simp
          omega
        unfold sσ
        simp? [hc, ixA il, ixA tl, cr, ixn, setA])
  obtain ⟨τ, e, c, rfl⟩ := go
  rw [rg_len] at e
  exact ⟨c, e⟩
omit h1 h4 in
theorem stepF_stop {A : List (List Int)} {i : Nat} (h : (List.range i).foldl (stepF n) (some A) = none) : ∀ d, (List.range (i + d)).foldl (stepF n) (some A) = none
  | 0 => h
  | d + 1 => by
    have e : i + (d + 1) = (i + d) + 1 := rfl
    rw [e, List.range_succ, List.foldl_append, stepF_stop h d]
    rfl
omit h1 h4 in
theorem bits_le (k : Nat) : ∀ m, m ≤ 3 → 2 * bits k m + 1 ≤ 16 * k + 15 := fun m hm => by
  have : m = 0 ∨ m = 1 ∨ m = 2 ∨ m = 3 := by omega
  rcases this with rfl | rfl | rfl | rfl <;> simp only [bits] <;> omega
/-- how the outer loop ends -/
def soEnd (n : Nat) (x0 x1 : D) (o : Option (List (List Int))) (r : Out) : Prop := match o with
  | none => r = .rt .non
  | some B => ∃ c4 c5 c6 c7 : Option C, r = .nx (sσ n x0 x1 B c4 c5 c6 c7)
theorem s_outer {A : List (List Int)} (hA : Aug n A) {k : Nat} (hk : k ≤ 200) (hb : ∀ i, i < n → BdR k (row A i)) (c4 c5 c6 c7 : Option C) :
    soEnd n x0 x1 ((List.range n).foldl (stepF n) (some A)) (forL (asg (.nm 4)) (exL T.prg.G (T.prg.call (N + 1)) T.prg.fu l3_solve) ((List.range n).map fun (i : Nat) => D.int i) (sσ n x0 x1 A c4 c5 c6 c7)) := by
  refine forL_end (g := asg (.nm 4)) (f := exL T.prg.G (T.prg.call (N + 1)) T.prg.fu l3_solve) ((List.range n).map fun (i : Nat) => D.int (i : Nat))
    (fun i τ => ∃ (B : List (List Int)) (c4 c5 c6 c7 : Option C), (List.range i).foldl (stepF n) (some A) = some B ∧ τ = sσ n x0 x1 B c4 c5 c6 c7) (soEnd n x0 x1 ((List.range n).foldl (stepF n) (some A)))
    _ ⟨A, c4, c5, c6, c7, rfl, rfl⟩ ?_ ?_
  · rintro i d τ hdd ⟨B, c4, c5, c6, c7, eB, rfl⟩
    obtain ⟨hi, rfl⟩ := rg_get hdd
    have O := outer h1 h4 hA hb i (by omega)
    rw [eB] at O
    obtain ⟨a1, a2, a3, a4⟩ := O
    have es : (List.range (i + 1)).foldl (stepF n) (some A) = stepF n (some B) i := by
      rw [List.range_succ, List.foldl_append, eB]
      rfl
    have es2 : stepF n (some B) i = (match pvt B n i with
      | none => none
      | some p => some (elimF n (swapF B i p) i)) := rfl
    rw [es2] at es
    refine ⟨sσ n x0 x1 B (some (.v (.int (i : Nat)))) c5 c6 c7, by unfold sσ; simp? [], ?_⟩
    have pr := pivot_run N n i a1 hi h4
    cases pv : pvt B n i with
    | none =>
      rw [pv] at es pr
      refine .inr (.inl ⟨.non, ?_, ?_⟩)
      · unfold l3_solve sσ
        have hc : decide (pivI none < 0) = true := rfl
        simp? [pr, hc]
      · have e : n = (i + 1) + (n - (i + 1)) := by omega
        have q := stepF_stop (n := n) es (n - (i + 1))
        rw [← e] at q
        rw [q]
        rfl
    | some p =>
      rw [pv] at es pr
      obtain ⟨p1, p2, p3⟩ := pvt_some h1 h4 pv
      obtain ⟨b1, b2, b3, b4, b5⟩ := swap_ok h1 h4 a1 hi a2 ⟨p1, p2, p3⟩ a4
      have hc : decide (pivI (some p) < 0) = false := decide_eq_false (by unfold pivI; simp only; omega)
      have il : i < B.length := by rw [a1.1]; exact hi
      have pl : p < B.length := by rw [a1.1]; exact p2
      have bk : 2 * bits k i + 1 ≤ 4000 := by have := bits_le k i (by omega); omega
      obtain ⟨c7', inn⟩ := s_inner N n h1 h4 x0 x1 b1 hi b3 b4 b5 bk (some (.v (.int (pivI (some p))))) (some (.v (LD (row B i)))) c7
      have ixn : ixN (B.map LD).length ((i : Nat) : Int) = some i := by
        rw [List.length_map]
        unfold ixN
        rw [if_pos (by omega)]
        simp
        omega
      have ixp : ixN ((B.set i (row B p)).map LD).length (pivI (some p)) = some p := by
        rw [List.length_map, List.length_set]
        show ixN _ ((p : Nat) : Int) = _
        unfold ixN
        rw [if_pos (by omega)]
        simp
        omega
      have ip : ixD (.lst (B.map LD)) (.int (pivI (some p))) = .ok (LD (row B p)) := ixA pl
      refine .inl ⟨sσ n x0 x1 (elimF n (swapF B i p) i) (some (.v (.int (i : Nat)))) (some (.v (.int (pivI (some p))))) (some (.v (LD (row B i)))) c7', .inl ?_, _, _, _, _, _, es, rfl⟩
      unfold l3_solve sσ
      unfold sσ swapF at inn
      simp? [pr, hc, ixA il, ip, ixn, ixp, setA, rng0' (m := n) (by omega), inn]
      rfl
  · rintro τ ⟨B, c4, c5, c6, c7, eB, rfl⟩
    rw [rg_len] at eB
    rw [eB]
    exact ⟨_, _, _, _, rfl⟩
end
end K33
namespace K33
open PySem L2 PyI
/-! ### lowest terms -/
theorem gd_int (i j : Int) : biD .gcd [.int i, .int j] = .ok (.int (Nat.gcd i.natAbs j.natAbs : Nat)) := rfl
theorem log_lt {x k : Nat} (h : x < 2 ^ k) (hk : 0 < k) : x.log2 < k := by
  by_cases z : x = 0
  · rw [z, Nat.log2_zero]; exact hk
  · exact (Nat.log2_lt z).mpr h
def prD (p : Int × Nat) : D := .tup [.int p.1, .int (p.2 : Nat)]
theorem lowest_run (N : Nat) (t b : Int) (hb : 0 < b) (h9 : b.natAbs < 2 ^ 9000) : T.prg.call (N + 1) "lowest" [.int t, .int b] = .ok (.tup [.int (t / (Nat.gcd t.natAbs b.natAbs : Nat)), .int (b / (Nat.gcd t.natAbs b.natAbs : Nat))]) := by
  rw [call_lowest]
  unfold b_lowest
  have g0 : 0 < Nat.gcd t.natAbs b.natAbs := Nat.gcd_pos_of_pos_right _ (by omega)
  have gl : Nat.gcd t.natAbs b.natAbs ≤ b.natAbs := Nat.gcd_le_right _ (by omega)
  have ok : 0 < ((Nat.gcd t.natAbs b.natAbs : Nat) : Int) ∧ ((Nat.gcd t.natAbs b.natAbs : Nat) : Int).natAbs.log2 < 9000 := ⟨by omega, log_lt (Nat.lt_of_le_of_lt gl h9) (by omega)⟩
  simp? [gd_int, fd_int (i := t) ok, fd_int (i := b) ok]
theorem lowest_prt (N : Nat) (r d : Int) (hd : d ≠ 0) (h9 : d.natAbs < 2 ^ 9000) : T.prg.call (N + 1) "lowest" [.int (sn d * r), .int (sn d * d)] = .ok (prD (prt r d)) := by
  have e : sn d * d = (d.natAbs : Int) := sn_mul
  have d0 : 0 < d.natAbs := Int.natAbs_pos.mpr hd
  have er : (sn d * r).natAbs = r.natAbs := by
    unfold sn
    split <;> omega
  rw [lowest_run N _ _ (by rw [e]; omega) (by rw [e]; exact h9), er, e]
  rfl
def lcF (b : Nat) (ps : List (Int × Int)) : Nat := ps.foldl (fun b p => Nat.lcm b (prt p.1 p.2).2) b
theorem prt_le (r d : Int) : (prt r d).2 ≤ d.natAbs := Nat.div_le_self _ _
theorem prt_pos {r d : Int} (h : d ≠ 0) : 0 < (prt r d).2 := by
  have d0 : 0 < d.natAbs := Int.natAbs_pos.mpr h
  exact Nat.div_pos (Nat.gcd_le_right _ d0) (Nat.gcd_pos_of_pos_right _ d0)
theorem lcm_lt {a b m k : Nat} (h1 : a < 2 ^ m) (h2 : b < 2 ^ k) : Nat.lcm a b < 2 ^ (m + k) := by
  rw [Nat.pow_add]
  exact Nat.lt_of_le_of_lt (Nat.div_le_self _ _) (Nat.mul_lt_mul'' h1 h2)
theorem lcF_lt {k : Nat} : ∀ (ps : List (Int × Int)) (b m : Nat), b < 2 ^ m → (∀ p ∈ ps, p.2.natAbs < 2 ^ k) → lcF b ps < 2 ^ (m + k * ps.length)
  | [], b, m, h, _ => h
  | p :: r, b, m, h, hp => by
    have e : m + k * (p :: r).length = m + k + k * r.length := by rw [List.length_cons, Nat.mul_succ]; omega
    rw [e]
    exact lcF_lt r _ (m + k) (lcm_lt h (Nat.lt_of_le_of_lt (prt_le _ _) (hp p List.mem_cons_self))) fun q hq => hp q (List.mem_cons_of_mem _ hq)
def prP (p : Int × Int) : D := prD (prt p.1 p.2)
theorem ix_prD0 (p : Int × Nat) : ixD (prD p) (.int 0) = .ok (.int p.1) := rfl
theorem ix_prD1 (p : Int × Nat) : ixD (prD p) (.int 1) = .ok (.int (p.2 : Nat)) := rfl
theorem il_loop (N : Nat) (x0 : D) {k : Nat} (hk : k ≤ 9000) : ∀ (ps : List (Int × Int)) (P : List D) (b m : Nat) (c3 c4 c5 : Option C), (∀ p ∈ ps, p.2 ≠ 0 ∧ p.2.natAbs < 2 ^ k) → 0 < m → b < 2 ^ m → m + k * ps.length ≤ 12000 → P.length + ps.length ≤ 1000 →
    ∃ c3' c4' c5' : Option C, forL (asg (.tup [.nm 3, .nm 4])) (exL T.prg.G (T.prg.call (N + 1)) T.prg.fu l2_in_lowest) (ps.map pr2) [some (.v x0), some (.o P), some (.v (.int (b : Nat))), c3, c4, c5] = .nx [some (.v x0), some (.o (P ++ ps.map prP)), some (.v (.int (lcF b ps : Nat))), c3', c4', c5']
  | [], P, b, m, c3, c4, c5, _, _, _, _, _ => ⟨c3, c4, c5, by rw [List.map_nil, List.map_nil, List.append_nil]; rfl⟩
  | p :: r, P, b, m, c3, c4, c5, h, m0, hb, hm, hl => by
    rw [List.length_cons] at hl
    have e : m + k * (p :: r).length = m + k + k * r.length := by rw [List.length_cons, Nat.mul_succ]; omega
    rw [e] at hm
    obtain ⟨d0, d1⟩ := h p List.mem_cons_self
    have d9 : p.2.natAbs < 2 ^ 9000 := Nat.lt_of_lt_of_le d1 (Nat.pow_le_pow_right (Nat.zero_lt_succ 1) hk)
    have pl := Nat.lt_of_le_of_lt (prt_le p.1 p.2) d1
    have lr := lowest_prt N p.1 p.2 d0 d9
    have k0 : 0 < k := by
      rcases Nat.eq_zero_or_pos k with z | z
      · rw [z, Nat.pow_zero] at d1; omega
      · exact z
    have lm := lm_int (i := (b : Int)) (j := ((prt p.1 p.2).2 : Int)) ⟨Nat.lt_of_lt_of_le (log_lt (show b < 2 ^ m from hb) m0) (by omega), Nat.lt_of_lt_of_le (log_lt (show (prt p.1 p.2).2 < 2 ^ k from pl) k0) (by omega)⟩
    have lm : biD .lcm [.int (b : Nat), .int ((prt p.1 p.2).2 : Nat)] = .ok (.int (Nat.lcm b (prt p.1 p.2).2 : Nat)) := lm
    obtain ⟨c3', c4', c5', ih⟩ := il_loop N x0 hk r (P ++ [prP p]) (Nat.lcm b (prt p.1 p.2).2) (m + k) (some (.v (.int p.1))) (some (.v (.int p.2))) (some (.v (prP p))) (fun q hq => h q (List.mem_cons_of_mem _ hq)) (by omega) (lcm_lt hb pl) hm (by rw [List.length_append, List.length_singleton]; omega)
    refine ⟨c3', c4', c5', ?_⟩
    have a1 : asg (.tup [.nm 3, .nm 4]) (pr2 p) [some (.v x0), some (.o P), some (.v (.int (b : Nat))), c3, c4, c5] = .ok [some (.v x0), some (.o P), some (.v (.int (b : Nat))), some (.v (.int p.1)), some (.v (.int p.2)), c5] := by
      unfold pr2
      simp? []
    have sl : P.length < sizeLine := small6 (by omega)
    have b1 : exL T.prg.G (T.prg.call (N + 1)) T.prg.fu l2_in_lowest [some (.v x0), some (.o P), some (.v (.int (b : Nat))), some (.v (.int p.1)), some (.v (.int p.2)), c5] = .nx [some (.v x0), some (.o (P ++ [prP p])), some (.v (.int (Nat.lcm b (prt p.1 p.2).2 : Nat))), some (.v (.int p.1)), some (.v (.int p.2)), some (.v (prP p))] := by
      unfold l2_in_lowest
      unfold sn at lr
      by_cases z : p.2 < 0
      · rw [if_pos z, Int.neg_one_mul, Int.neg_one_mul] at lr
        simp? [decide_eq_true z, lr, sl, prP, ix_prD1, lm]
      · rw [if_neg z, Int.one_mul, Int.one_mul] at lr
        simp? [decide_eq_false z, lr, sl, prP, ix_prD1, lm]
    rw [List.map_cons, forL_nx a1 b1, ih, List.map_cons, List.append_assoc]
    rfl
/-- in_lowest -/
def ilD (ps : List (Int × Int)) : D := .tup [.int (lcF 1 ps : Nat), .tup (ps.map fun p => .int ((prt p.1 p.2).1 * (lcF 1 ps / (prt p.1 p.2).2 : Nat)))]
theorem in_lowest_run (N : Nat) {k : Nat} (hk : k ≤ 2900) (ps : List (Int × Int)) (h : ∀ p ∈ ps, p.2 ≠ 0 ∧ p.2.natAbs < 2 ^ k ∧ p.1.natAbs < 2 ^ k) (hl : ps.length ≤ 4) : T.prg.call (N + 2) "in_lowest" [.lst (ps.map pr2)] = .ok (ilD ps) := by
  rw [call_in_lowest]
  unfold b_in_lowest t3_in_lowest
  have hkl : 1 + k * ps.length ≤ 12000 := by
    have : k * ps.length ≤ 2900 * 4 := Nat.mul_le_mul hk hl
    omega
  obtain ⟨c3, c4, c5, lp⟩ := il_loop N (.lst (ps.map pr2)) (k := k) (by omega) ps [] 1 1 none none none (fun p hp => ⟨(h p hp).1, (h p hp).2.1⟩) (by omega) (by decide) hkl (by rw [List.length_nil]; omega)
  have L := lcF_lt (k := k) ps 1 1 (by decide) fun p hp => (h p hp).2.1
  have L2 : lcF 1 ps < 2 ^ 12000 := Nat.lt_of_lt_of_le L (Nat.pow_le_pow_right (Nat.zero_lt_succ 1) hkl)
  have cp := comp_mp (G := T.prg.G) (Φ := T.prg.call (N + 1)) (σ := [some (.v (.lst (ps.map pr2))), some (.o (ps.map prP)), some (.v (.int (lcF 1 ps : Nat))), c3, c4, c5]) (elt := .op .mul (.ix (.var 5) (.int 0)) (.op .fdiv (.var 2) (.ix (.var 5) (.int 1)))) (tg := .nm 5) (src := .seq (.var 1)) (own := [5]) (as := ps) (q := prP)
    (by simp? []) (fun p => .int ((prt p.1 p.2).1 * (lcF 1 ps / (prt p.1 p.2).2 : Nat))) (fun p hp => by
      obtain ⟨d0, d1, r1⟩ := h p hp
      have pp := prt_pos (r := p.1) d0
      have pl := Nat.lt_of_le_of_lt (prt_le p.1 p.2) d1
      have p9 : (prt p.1 p.2).2 < 2 ^ 9000 := Nat.lt_of_lt_of_le pl (Nat.pow_le_pow_right (Nat.zero_lt_succ 1) (by omega))
      have f1 : opD .fdiv (.int (lcF 1 ps : Nat)) (.int ((prt p.1 p.2).2 : Nat)) = .ok (.int (lcF 1 ps / (prt p.1 p.2).2 : Nat)) := by
        have ok : 0 < (((prt p.1 p.2).2 : Nat) : Int) ∧ (((prt p.1 p.2).2 : Nat) : Int).natAbs.log2 < 9000 := ⟨by clear p9 L L2 pl d1 r1; omega, log_lt (show (prt p.1 p.2).2 < 2 ^ 9000 from p9) (by clear p9 L L2 pl d1 r1; omega)⟩
        rw [fd_int ok]
        rfl
      have q1 : (prt p.1 p.2).1.natAbs < 2 ^ 9000 := by
        have e : (sn p.2 * p.1).natAbs = p.1.natAbs := by
          unfold sn
          split <;> omega
        have : (prt p.1 p.2).1.natAbs ≤ (sn p.2 * p.1).natAbs := by
          show (sn p.2 * p.1 / ((Nat.gcd p.1.natAbs p.2.natAbs : Nat) : Int)).natAbs ≤ _
          exact Int.natAbs_ediv_le_natAbs _ _
        rw [e] at this
        exact Nat.lt_of_le_of_lt this (Nat.lt_of_lt_of_le r1 (Nat.pow_le_pow_right (Nat.zero_lt_succ 1) (by omega)))
      have q2 : lcF 1 ps / (prt p.1 p.2).2 < 2 ^ 12000 := Nat.lt_of_le_of_lt (Nat.div_le_self _ _) L2
      have m1 : opD .mul (.int (prt p.1 p.2).1) (.int (lcF 1 ps / (prt p.1 p.2).2 : Nat)) = .ok (.int ((prt p.1 p.2).1 * (lcF 1 ps / (prt p.1 p.2).2 : Nat))) := by
        refine ml_int (.inr ?_)
        have a1 := log_lt q1 (by omega)
        have a2 : ((lcF 1 ps / (prt p.1 p.2).2 : Nat) : Int).natAbs.log2 < 12000 := log_lt q2 (by omega)
        omega
      exact ⟨[some (.v (.lst (ps.map pr2))), some (.o (ps.map prP)), some (.v (.int (lcF 1 ps : Nat))), c3, c4, some (.v (prP p))], by simp? [], by unfold prP; simp? [ix_prD0, ix_prD1, f1, m1]⟩) (by omega)
  rw [List.nil_append] at lp
  have lp : forL _ _ _ [_, _, some (.v (.int 1)), _, _, _] = _ := lp
  simp? [lp, cp]
  rfl
end K33
namespace K33
open PySem L2 PyI
/-! ### solve: the answer -/
def TR (r : List Int) : D := .tup (r.map D.int)
def aug (R : List (List Int)) (b : List Int) : List (List Int) := List.zipWith (fun r v => r ++ [v]) R b
theorem aug_ok {n : Nat} {R : List (List Int)} (hR : Sq n R) {b : List Int} (hb : b.length = n) : Aug n (aug R b) := by
  constructor
  · unfold aug
    rw [List.length_zipWith, hR.1, hb, Nat.min_self]
  · intro r hr
    unfold aug at hr
    rw [List.mem_iff_getElem] at hr
    obtain ⟨i, hi, rfl⟩ := hr
    rw [List.getElem_zipWith, List.length_append, List.length_singleton, hR.2 _ (List.getElem_mem _)]
theorem row_aug {n : Nat} {R : List (List Int)} (hR : Sq n R) {b : List Int} (hb : b.length = n) {i : Nat} (hi : i < n) : row (aug R b) i = row R i ++ [b.getD i 0] := by
  unfold row aug
  have a1 : i < R.length := by rw [hR.1]; exact hi
  have a2 : i < b.length := by rw [hb]; exact hi
  rw [List.getD_eq_getElem?_getD, List.getElem?_zipWith, List.getD_eq_getElem?_getD, List.getD_eq_getElem?_getD, List.getElem?_eq_getElem a1, List.getElem?_eq_getElem a2]
  rfl
def rv (z : List Int × Int) : D := .tup [TR z.1, .int z.2]
theorem zip_rv : ∀ (R : List (List Int)) (b : List Int), zipD (R.map TR) (b.map D.int) = (List.zip R b).map rv
  | [], _ => rfl
  | _ :: _, [] => rfl
  | x :: a, y :: b => by
    show D.tup _ :: zipD (a.map TR) (b.map D.int) = _
    rw [zip_rv a b]
    rfl
theorem aug_zip (R : List (List Int)) (b : List Int) : (List.zip R b).map (fun z => LD (z.1 ++ [z.2])) = (aug R b).map LD := by
  unfold aug
  rw [List.zip, List.map_zipWith, List.map_zipWith]
/-- the pairs -/
def psB (n : Nat) (B : List (List Int)) : List (Int × Int) := (List.range n).map fun i => (at_ B i n, at_ B i i)
def endD (n : Nat) (o : Option (List (List Int))) : D := match o with
  | none => .non
  | some B => ilD (psB n B)
theorem solve_run (N : Nat) {n : Nat} (h1 : 1 ≤ n) (h4 : n ≤ 4) {R : List (List Int)} (hR : Sq n R) {b : List Int} (hb : b.length = n) {k : Nat} (hk : k ≤ 150) (bd : ∀ i, i < n → BdR k (row (aug R b) i)) : T.prg.call (N + 3) "solve" [.tup (R.map TR), .tup (b.map D.int)] = .ok (endD n ((List.range n).foldl (stepF n) (some (aug R b)))) := by
  rw [call_solve]
  unfold b_solve t3_solve
  have hA := aug_ok hR hb
  have O := s_outer (N + 1) n h1 h4 (.tup (R.map TR)) (.tup (b.map D.int)) hA (k := k) (by omega) bd none none none none
  have P := outer h1 h4 hA bd n (Nat.le_refl _)
  have zi : zipI (.tup (R.map TR)) (.tup (b.map D.int)) = .ok (R.map TR, b.map D.int) := rfl
  have ln : (((R.map TR).length : Nat) : Int) = (n : Int) := by rw [List.length_map, hR.1]
  have cp := comp_mp (G := T.prg.G) (Φ := T.prg.call (N + 2)) (σ := [some (.v (.tup (R.map TR))), some (.v (.tup (b.map D.int))), some (.v (.int (n : Nat))), none, none, none, none, none, none, none]) (elt := .op .add (.bi .list (.cons (.var 8) .nil)) (.lst (.cons (.var 9) .nil))) (tg := .tup [.nm 8, .nm 9]) (src := .zip (.var 0) (.var 1)) (own := [8, 9]) (as := List.zip R b) (q := rv)
    (by simp? [zi, zip_rv]) (fun z => LD (z.1 ++ [z.2])) (fun z hz => by
      obtain ⟨w1, w2⟩ := List.of_mem_zip hz
      have l1 : z.1.length = n := hR.2 _ w1
      have ok : (z.1.map D.int).length + [D.int z.2].length ≤ sizeLine := Nat.le_of_lt (small6 (by rw [List.length_map, List.length_singleton]; omega))
      have ad : opD .add (.lst (z.1.map D.int)) (.lst [.int z.2]) = .ok (LD (z.1 ++ [z.2])) := by
        show (if (z.1.map D.int).length + [D.int z.2].length ≤ sizeLine then Res.ok (D.lst (z.1.map D.int ++ [D.int z.2])) else .bad) = _
        rw [if_pos ok]
        unfold LD
        rw [List.map_append]
        rfl
      exact ⟨[some (.v (.tup (R.map TR))), some (.v (.tup (b.map D.int))), some (.v (.int (n : Nat))), none, none, none, none, none, some (.v (TR z.1)), some (.v (.int z.2))], by unfold rv; simp? [], by unfold TR; simp? [ad]⟩) (by rw [List.length_zip, hb]; omega)
  rw [aug_zip] at cp
  unfold sσ at O
  obtain ⟨FL, eFL⟩ : ∃ FL, forL (asg (.nm 4)) (exL T.prg.G (T.prg.call (N + 2)) T.prg.fu l3_solve) ((List.range n).map fun (i : Nat) => D.int i) [some (.v (.tup (R.map TR))), some (.v (.tup (b.map D.int))), some (.v (.int (n : Nat))), some (.o ((aug R b).map LD)), none, none, none, none, none, none] = FL := ⟨_, rfl⟩
  have O : soEnd n _ _ _ (forL (asg (.nm 4)) (exL T.prg.G (T.prg.call (N + 2)) T.prg.fu l3_solve) ((List.range n).map fun (i : Nat) => D.int i) [some (.v (.tup (R.map TR))), some (.v (.tup (b.map D.int))), some (.v (.int (n : Nat))), some (.o ((aug R b).map LD)), none, none, none, none, none, none]) := O
  rw [eFL] at O
  simp? [ln, cp, rng0' (m := n) (by omega), eFL]
  cases q : (List.range n).foldl (stepF n) (some (aug R b)) with
  | none =>
    rw [q] at O
    have O : FL = .rt .non := O
    rw [O]
    rfl
  | some B =>
    rw [q] at O P
    obtain ⟨c4, c5, c6, c7, O⟩ := O
    obtain ⟨a1, a2, a3, a4⟩ := P
    rw [O]
    have cq := comp_mp (G := T.prg.G) (Φ := T.prg.call (N + 2)) (σ := sσ n (.tup (R.map TR)) (.tup (b.map D.int)) B c4 c5 c6 c7) (elt := .tup (.cons (.ix (.ix (.var 3) (.var 4)) (.var 2)) (.cons (.ix (.ix (.var 3) (.var 4)) (.var 4)) .nil))) (tg := .nm 4) (src := .rng1 (.var 2)) (own := [4]) (as := List.range n) (q := fun (i : Nat) => D.int i)
      (by unfold sσ; simp? [rng0' (m := n) (by omega)]) (fun i => pr2 (at_ B i n, at_ B i i)) (fun i hi => by
        have hi := List.mem_range.mp hi
        have il : i < B.length := by rw [a1.1]; exact hi
        refine ⟨sσ n (.tup (R.map TR)) (.tup (b.map D.int)) B (some (.v (.int (i : Nat)))) c5 c6 c7, by unfold sσ; simp? [], ?_⟩
        have e1 := ixR (r := row B i) (j := n) (by rw [a1.row hi]; omega)
        have e2 := ixR (r := row B i) (j := i) (by rw [a1.row hi]; omega)
        unfold sσ
        simp? [ixA il, e1, e2]
        rfl) (by rw [List.length_range]; omega)
    have em : ((List.range n).map fun i => pr2 (at_ B i n, at_ B i i)) = (psB n B).map pr2 := by
      unfold psB
      rw [List.map_map]
      rfl
    rw [em] at cq
    have bk : bits k n ≤ 2900 := by
      have : n = 1 ∨ n = 2 ∨ n = 3 ∨ n = 4 := by omega
      rcases this with rfl | rfl | rfl | rfl <;> simp only [bits] <;> omega
    have ir := in_lowest_run N (k := bits k n) bk (psB n B) (fun p hp => by
      unfold psB at hp
      obtain ⟨i, hi, rfl⟩ := List.mem_map.mp hp
      have hi := List.mem_range.mp hi
      exact ⟨a2.2 i hi, a4 i hi _ (get_mem (by rw [a1.row hi]; omega)), a4 i hi _ (get_mem (by rw [a1.row hi]; omega))⟩) (by unfold psB; rw [List.length_map, List.length_range]; exact h4)
    unfold sσ at cq
    unfold sσ
    simp? [cq, ir]
    rfl
/-! ### the same by determinants -/
def tsA (n : Nat) (A : List (List Int)) : List Int := (List.range n).map (δ n A)
def ansD (w : Int) (ts : List Int) : D := if w = 0 then .non else .tup [.int (w.natAbs / fG w.natAbs ts : Nat), .tup (ts.map fun t => .int (sn w * t / (fG w.natAbs ts : Nat)))]
theorem end_ans {n : Nat} (h1 : 1 ≤ n) (h4 : n ≤ 4) {A : List (List Int)} (hA : Aug n A) {k : Nat} (bd : ∀ i, i < n → BdR k (row A i)) : endD n ((List.range n).foldl (stepF n) (some A)) = ansD (δ n A n) (tsA n A) := by
  have P := outer h1 h4 hA bd n (Nat.le_refl _)
  cases q : (List.range n).foldl (stepF n) (some A) with
  | none =>
    rw [q] at P
    unfold ansD
    rw [if_pos P]
    rfl
  | some B =>
    rw [q] at P
    obtain ⟨a1, a2, ⟨s, s0, hs⟩, _⟩ := P
    obtain ⟨d0, dk⟩ := diag h1 h4 a1 a2
    have w0 : δ n A n ≠ 0 := fun h => d0 (by rw [hs n (Nat.le_refl _), h, Int.mul_zero])
    have key : ∀ i, i < n → δ n A i * at_ B i i = at_ B i n * δ n A n := fun i hi => by
      have e := dk i hi
      rw [hs i (by omega), hs n (Nat.le_refl _)] at e
      have e2 : s * (δ n A i * at_ B i i) = s * (at_ B i n * δ n A n) := by
        rw [← Int.mul_assoc, e]
        rw [← Int.mul_assoc, ← Int.mul_assoc, Int.mul_comm s (at_ B i n)]
      exact Int.eq_of_mul_eq_mul_left s0 e2
    have pe : ∀ i, i < n → prt (at_ B i n) (at_ B i i) = (sn (δ n A n) * δ n A i / ((Nat.gcd (δ n A i).natAbs (δ n A n).natAbs : Nat) : Int), (δ n A n).natAbs / Nat.gcd (δ n A i).natAbs (δ n A n).natAbs) := fun i hi => prt_eq w0 (a2.2 i hi) (key i hi)
    have W0 : 0 < (δ n A n).natAbs := Int.natAbs_pos.mpr w0
    have lf : lcF 1 (psB n B) = (δ n A n).natAbs / fG (δ n A n).natAbs (tsA n A) := by
      have f := lcm_fold W0 (tsA n A) (δ n A n).natAbs (Nat.dvd_refl _)
      rw [Nat.div_self W0] at f
      rw [← f]
      unfold lcF psB tsA
      rw [List.foldl_map, List.foldl_map]
      have : ∀ (l : List Nat) (b : Nat), (∀ i ∈ l, i < n) → l.foldl (fun x y => Nat.lcm x (prt (at_ B y n) (at_ B y y)).2) b = l.foldl (fun x y => Nat.lcm x ((δ n A n).natAbs / Nat.gcd (δ n A y).natAbs (δ n A n).natAbs)) b := by
        intro l
        induction l with
        | nil => intro b _; rfl
        | cons i r ih =>
          intro b hl
          rw [List.foldl_cons, List.foldl_cons, pe i (hl i List.mem_cons_self)]
          exact ih _ fun j hj => hl j (List.mem_cons_of_mem _ hj)
      exact this _ _ fun i hi => List.mem_range.mp hi
    unfold ansD
    rw [if_neg w0]
    show ilD (psB n B) = _
    unfold ilD
    rw [lf]
    congr 2
    congr 1
    congr 1
    unfold psB tsA
    rw [List.map_map, List.map_map]
    refine List.map_congr_left fun i hi => ?_
    have hi := List.mem_range.mp hi
    show D.int ((prt (at_ B i n) (at_ B i i)).1 * _) = D.int _
    rw [pe i hi]
    have mm : δ n A i ∈ tsA n A := List.mem_map.mpr ⟨i, List.mem_range.mpr hi, rfl⟩
    obtain ⟨f1, f2⟩ := fG_dvd (tsA n A) (δ n A n).natAbs
    congr 1
    exact top_eq (δ n A n) W0 (Nat.gcd_dvd_right _ _) (Nat.dvd_gcd (f2 _ mm) f1) (Nat.gcd_dvd_left _ _)
end K33
namespace K33
open PySem L2 PyI
/-! ### the greatest common divisor by division -/
theorem half {x y : Nat} (h : y < x) (y0 : 0 < y) : 2 * (x % y) ≤ x := by
  have e := Nat.div_add_mod x y
  have l := Nat.mod_lt x y0
  have q : 1 ≤ x / y := (Nat.le_div_iff_mul_le y0).mpr (by omega)
  have : y * 1 ≤ y * (x / y) := Nat.mul_le_mul_left y q
  omega
theorem p900 : (2 : Nat) ^ 900 = 2 ^ 440 * 2 ^ 440 * 1048576 := by decide +kernel
theorem gz {p q P : Nat} (h : p * (P * 1048576) ≤ 2 * q) (hq : q < P) : p = 0 := by
  rcases Nat.eq_zero_or_pos p with z | z
  · exact z
  · have : 1 * (P * 1048576) ≤ p * (P * 1048576) := Nat.mul_le_mul_right _ z
    omega
theorem i_abs (a : Int) : (if a < 0 then -a else a) = ((a.natAbs : Nat) : Int) := by
  split <;> omega
theorem gcd_run (N : Nat) (a b : Int) (ha : a.natAbs < 2 ^ 440) (hb : b.natAbs < 2 ^ 440) : T.prg.call (N + 1) "_law_gcd" [.int a, .int b] = .ok (.int (Nat.gcd a.natAbs b.natAbs : Nat)) := by
  rw [call__law_gcd]
  unfold b__law_gcd t3__law_gcd
  have go := forL_end (g := asg (.nm 2)) (f := exL T.prg.G (T.prg.call N) T.prg.fu l2__law_gcd) ((List.range 900).map fun (i : Nat) => D.int (i : Nat))
    (fun i τ => ∃ (x y : Nat) (l2 l3 : Option D), τ = [some (.v (.int x)), some (.v (.int y)), l2.map C.v, l3.map C.v] ∧ Nat.gcd x y = Nat.gcd a.natAbs b.natAbs ∧ ((i = 0 ∧ x * y = a.natAbs * b.natAbs) ∨ y < x) ∧ x * y * 2 ^ i ≤ 2 * (a.natAbs * b.natAbs)) (fun o => o = .rt (.int (Nat.gcd a.natAbs b.natAbs : Nat)) ∨ ∃ l1 l2 l3 : Option C, o = .nx [some (.v (.int (Nat.gcd a.natAbs b.natAbs : Nat))), l1, l2, l3])
    [some (.v (.int a.natAbs)), some (.v (.int b.natAbs)), none, none] ⟨a.natAbs, b.natAbs, none, none, rfl, rfl, .inl ⟨rfl, rfl⟩, by rw [Nat.pow_zero, Nat.mul_one]; omega⟩ (by
      rintro i d τ hd ⟨x, y, l2, l3, rfl, h1, h2, h3⟩
      obtain ⟨hi, rfl⟩ := rg_get hd
      refine ⟨[some (.v (.int x)), some (.v (.int y)), some (.v (.int i)), l3.map C.v], by simp? [], ?_⟩
      unfold l2__law_gcd
      by_cases hy : y = 0
      · subst hy
        refine .inr (.inl ⟨_, ?_, .inl rfl⟩)
        have hx : x = Nat.gcd a.natAbs b.natAbs := by rw [← h1, Nat.gcd_zero_right]
        rw [← hx]
        have hc : ((0 : Nat) : Int) = 0 := rfl
        simp? [hc]
      · have hc : ¬ ((y : Int) = 0) := by omega
        refine .inl ⟨[some (.v (.int y)), some (.v (.int ((x % y : Nat) : Int))), some (.v (.int i)), some (.v (.int ((x % y : Nat) : Int)))], .inl ?_, y, x % y, some (.int i), some (.int ((x % y : Nat) : Int)), rfl, (Nat.gcd_comm _ _).trans ((Nat.gcd_rec y x).symm.trans ((Nat.gcd_comm _ _).trans h1)), .inr (Nat.mod_lt x (by omega)), ?_⟩
        · simp? [hc, md_int (i := (x : Int)) (j := (y : Int)) (by omega), Int.natCast_emod]
        · rcases h2 with ⟨rfl, h0⟩ | h2
          · have l := Nat.mod_le x y
            have : y * (x % y) ≤ y * x := Nat.mul_le_mul_left y l
            rw [Nat.mul_comm y x] at this
            rw [Nat.zero_add, Nat.pow_one]
            rw [Nat.pow_zero, Nat.mul_one] at h3
            omega
          · have l := half h2 (by omega)
            have : y * (2 * (x % y)) ≤ y * x := Nat.mul_le_mul_left y l
            have : y * (2 * (x % y)) * 2 ^ i ≤ y * x * 2 ^ i := Nat.mul_le_mul_right _ this
            have e : y * (x % y) * 2 ^ (i + 1) = y * (2 * (x % y)) * 2 ^ i := by
              rw [Nat.pow_succ]
              generalize 2 ^ i = P
              generalize x % y = r
              rw [Nat.mul_comm P 2, ← Nat.mul_assoc, Nat.mul_assoc y r 2, Nat.mul_comm r 2]
            rw [e]
            rw [Nat.mul_comm y x] at this
            omega) (by
      rintro τ ⟨x, y, l2, l3, rfl, h1, h2, h3⟩
      rw [rg_len] at h2 h3
      have h2 : y < x := by omega
      have lt : a.natAbs * b.natAbs < 2 ^ 440 * 2 ^ 440 := Nat.mul_lt_mul'' ha hb
      have e : (2 : Nat) ^ 900 = 2 ^ 440 * 2 ^ 440 * 1048576 := p900
      rw [e] at h3
      have z : x * y = 0 := gz h3 lt
      have y0 : y = 0 := by
        rcases Nat.mul_eq_zero.mp z with z | z
        · omega
        · exact z
      subst y0
      rw [← h1, Nat.gcd_zero_right]
      exact .inr ⟨_, _, _, rfl⟩)
  have r0 := rng0 (m := 900) (by decide)
  have r0 : rngD 0 900 = _ := r0
  have go : _ ∨ _ := go
  obtain ⟨FL, eFL⟩ : ∃ FL, forL (asg (.nm 2)) (exL T.prg.G (T.prg.call N) T.prg.fu l2__law_gcd) ((List.range 900).map fun (i : Nat) => D.int (i : Nat)) [some (.v (.int a.natAbs)), some (.v (.int b.natAbs)), none, none] = FL := ⟨_, rfl⟩
  rw [eFL] at go
  simp? [i_abs, r0, eFL]
  rcases go with rfl | ⟨l1, l2, l3, rfl⟩
  · rfl
  · rfl
theorem lawlow_run (N : Nat) (t b : Int) (hb : 0 < b) (ht : t.natAbs < 2 ^ 440) (h9 : b.natAbs < 2 ^ 440) : T.prg.call (N + 2) "_law_lowest" [.int t, .int b] = .ok (.tup [.int (t / (Nat.gcd t.natAbs b.natAbs : Nat)), .int (b / (Nat.gcd t.natAbs b.natAbs : Nat))]) := by
  rw [call__law_lowest]
  unfold b__law_lowest
  have g0 : 0 < Nat.gcd t.natAbs b.natAbs := Nat.gcd_pos_of_pos_right _ (by omega)
  have gl : Nat.gcd t.natAbs b.natAbs ≤ b.natAbs := Nat.gcd_le_right _ (by omega)
  have ok : 0 < ((Nat.gcd t.natAbs b.natAbs : Nat) : Int) ∧ ((Nat.gcd t.natAbs b.natAbs : Nat) : Int).natAbs.log2 < 9000 := ⟨by omega, Nat.lt_of_lt_of_le (log_lt (Nat.lt_of_le_of_lt gl h9) (by omega)) (by omega)⟩
  simp? [gcd_run N t b ht h9, fd_int (i := t) ok, fd_int (i := b) ok]
end K33
namespace K33
open PySem L2 PyI
/-! ### the determinant by the first row -/
def TL (R : List (List Int)) : D := .lst (R.map TR)
theorem cut_l1 {ds : List D} {a : Nat} (h : a ≤ ds.length) : slD (.lst ds) (some (a : Int)) none = .ok (.lst (ds.drop a)) := by
  show Res.ok (D.lst (cutD ds (some (a : Int)) none)) = _
  unfold cutD
  rw [HT.sIx_nat, HT.sIx_none, Nat.min_eq_left h, List.take_of_length_le (by rw [List.length_drop]; exact Nat.le_refl _)]
theorem cut_l0 {ds : List D} {a : Nat} (h : a ≤ ds.length) : slD (.lst ds) none (some (a : Int)) = .ok (.lst (ds.take a)) := by
  show Res.ok (D.lst (cutD ds none (some (a : Int)))) = _
  unfold cutD
  rw [HT.sIx_nat, HT.sIx_none, Nat.min_eq_left h]
  rfl
theorem cut_t1 {r : List Int} {a : Nat} (h : a ≤ r.length) : slD (TR r) (some (a : Int)) none = .ok (TR (r.drop a)) := by
  show Res.ok (D.tup (cutD (r.map D.int) (some (a : Int)) none)) = _
  unfold cutD TR
  rw [HT.sIx_nat, HT.sIx_none, List.length_map, Nat.min_eq_left h, List.take_of_length_le (by rw [List.length_drop, List.length_map]; exact Nat.le_refl _), List.map_drop]
theorem cut_t0 {r : List Int} {a : Nat} (h : a ≤ r.length) : slD (TR r) none (some (a : Int)) = .ok (TR (r.take a)) := by
  show Res.ok (D.tup (cutD (r.map D.int) none (some (a : Int)))) = _
  unfold cutD TR
  rw [HT.sIx_nat, HT.sIx_none, List.length_map, Nat.min_eq_left h, List.map_take]
  rfl
theorem ad_tr {a b : List Int} (h : a.length + b.length ≤ 1000) : opD .add (TR a) (TR b) = .ok (TR (a ++ b)) := by
  show (if (a.map D.int).length + (b.map D.int).length ≤ sizeLine then Res.ok (D.tup (a.map D.int ++ b.map D.int)) else .bad) = _
  rw [if_pos (Nat.le_of_lt (small6 (by rw [List.length_map, List.length_map]; omega))), ← List.map_append]
  rfl
theorem ixTR {r : List Int} {j : Nat} (h : j < r.length) : ixD (TR r) (.int (j : Nat)) = .ok (.int (r.getD j 0)) := by
  refine ix_tup (n := j) rfl ?_
  rw [List.getElem?_map, List.getElem?_eq_getElem h, List.getD_eq_getElem?_getD, List.getElem?_eq_getElem h]
  rfl
theorem ixTL {R : List (List Int)} {j : Nat} (h : j < R.length) : ixD (TL R) (.int (j : Nat)) = .ok (TR (row R j)) := by
  refine ix_lst (n := j) rfl ?_
  unfold row
  rw [List.getElem?_map, List.getElem?_eq_getElem h, List.getD_eq_getElem?_getD, List.getElem?_eq_getElem h]
  rfl
theorem sum_bd {f : Nat → Int} {B : Nat} : ∀ l : List Nat, (∀ k ∈ l, (f k).natAbs ≤ B) → ((l.map f).sum).natAbs ≤ l.length * B
  | [], _ => by simp
  | a :: r, h => by
    have h1 := h a List.mem_cons_self
    have h2 := sum_bd r fun k hk => h k (List.mem_cons_of_mem _ hk)
    rw [List.map_cons, List.sum_cons, List.length_cons, Nat.succ_mul]
    have := Int.natAbs_add_le (f a) (r.map f).sum
    omega
theorem cut_len {k : Nat} {r : List Int} {n : Nat} (h : r.length = n + 1) (hk : k < n + 1) : (cut k r).length = n := by
  unfold cut
  rw [List.length_append, List.length_take, List.length_drop]
  omega
theorem cut_mem {k : Nat} {r : List Int} {x : Int} (h : x ∈ cut k r) : x ∈ r := by
  unfold cut at h
  rcases List.mem_append.mp h with h | h
  · exact List.mem_of_mem_take h
  · exact List.mem_of_mem_drop h
theorem sq_cut {n k : Nat} {r0 : List Int} {rs : List (List Int)} (h : Sq (n + 1) (r0 :: rs)) (hk : k < n + 1) : Sq n (rs.map (cut k)) := by
  refine ⟨by rw [List.length_map]; have := h.1; rw [List.length_cons] at this; omega, fun r hr => ?_⟩
  obtain ⟨s, hs, rfl⟩ := List.mem_map.mp hr
  exact cut_len (h.2 s (List.mem_cons_of_mem _ hs)) hk
def Bd66 (R : List (List Int)) : Prop := ∀ r ∈ R, BdR 66 r
theorem bd_cut {k : Nat} {r0 : List Int} {rs : List (List Int)} (h : Bd66 (r0 :: rs)) : Bd66 (rs.map (cut k)) := fun r hr => by
  obtain ⟨s, hs, rfl⟩ := List.mem_map.mp hr
  exact fun x hx => h s (List.mem_cons_of_mem _ hs) x (cut_mem hx)
theorem sg_abs (k : Nat) : (sg k).natAbs = 1 := by
  unfold sg
  omega
theorem dt_bd : ∀ n, n ≤ 4 → ∀ R, Sq n R → Bd66 R → (dt n R).natAbs ≤ 2 ^ (69 * n)
  | 0, _, R, _, _ => by
    show (1 : Int).natAbs ≤ 2 ^ 0
    decide
  | n + 1, hn, R, hR, hB => by
    match R, hR, hB with
    | [], hR, _ => exact absurd hR.1 (by rw [List.length_nil]; omega)
    | r0 :: rs, hR, hB =>
      have l0 : r0.length = n + 1 := hR.2 r0 List.mem_cons_self
      have h : ∀ k ∈ List.range (n + 1), (sg k * ((r0 :: rs).getD 0 []).getD k 0 * dt n ((r0 :: rs).tail.map (cut k))).natAbs ≤ 2 ^ 66 * 2 ^ (69 * n) := fun k hk => by
        have hk := List.mem_range.mp hk
        have ih := dt_bd n (by omega) (rs.map (cut k)) (sq_cut hR hk) (bd_cut hB)
        have e : (r0.getD k 0).natAbs < 2 ^ 66 := hB r0 List.mem_cons_self _ (get_mem (by omega))
        rw [Int.natAbs_mul, Int.natAbs_mul, sg_abs, Nat.one_mul]
        exact Nat.mul_le_mul (Nat.le_of_lt e) ih
      have s := sum_bd (List.range (n + 1)) h
      rw [List.length_range] at s
      have e : 69 * (n + 1) = 3 + (66 + 69 * n) := by omega
      rw [e, Nat.pow_add, Nat.pow_add]
      have : (n + 1) * (2 ^ 66 * 2 ^ (69 * n)) ≤ 2 ^ 3 * (2 ^ 66 * 2 ^ (69 * n)) := Nat.mul_le_mul_right _ (by omega)
      exact Nat.le_trans s this
theorem dt_sm {n : Nat} (hn : n ≤ 4) {R : List (List Int)} (hR : Sq n R) (hB : Bd66 R) : (dt n R).natAbs < 2 ^ 440 := by
  have h := dt_bd n hn R hR hB
  have : (2 : Nat) ^ (69 * n) < 2 ^ 440 := Nat.pow_lt_pow_right (by omega) (by omega)
  exact Nat.lt_of_le_of_lt h this
def term (n : Nat) (r0 : List Int) (rs : List (List Int)) (k : Nat) : Int := sg k * r0.getD k 0 * dt n (rs.map (cut k))
theorem det_run : ∀ n, n ≤ 4 → ∀ R, Sq n R → Bd66 R → ∀ N, T.prg.call (N + n + 1) "_law_det" [TL R] = .ok (.int (dt n R))
  | 0, _, R, hR, _, N => by
    have : R = [] := List.eq_nil_of_length_eq_zero hR.1
    subst this
    rw [call__law_det]
    unfold b__law_det TL
    have e : decide ((([].map TR : List D).length : Int) = 0) = true := rfl
    simp? [e]
    rfl
  | n + 1, hn, R, hR, hB, N => by
    match R, hR, hB with
    | [], hR, _ => exact absurd hR.1 (by rw [List.length_nil]; omega)
    | r0 :: rs, hR, hB =>
      have l0 : r0.length = n + 1 := hR.2 r0 List.mem_cons_self
      have ls : rs.length = n := by have := hR.1; rw [List.length_cons] at this; omega
      rw [call__law_det]
      unfold b__law_det t1__law_det t3__law_det
      have z : decide (((n + 1 : Nat) : Int) = 0) = false := decide_eq_false (by omega)
      have ln : ((((r0 :: rs).map TR).length : Nat) : Int) = ((n + 1 : Nat) : Int) := by rw [List.length_map, List.length_cons, ls]
      have go := forL_go (g := asg (.nm 2)) (f := exL T.prg.G (T.prg.call (N + (n + 1))) T.prg.fu l2__law_det) ((List.range (n + 1)).map fun (i : Nat) => D.int (i : Nat))
        (fun i τ => ∃ (c2 c3 c4 : Option C), τ = [some (.v (TL (r0 :: rs))), some (.v (.int ((List.range i).map (term n r0 rs)).sum)), c2, c3, c4])
        [some (.v (TL (r0 :: rs))), some (.v (.int 0)), none, none, none] ⟨none, none, none, rfl⟩ (by
          rintro i d τ hdd ⟨c2, c3, c4, rfl⟩
          obtain ⟨hi, rfl⟩ := rg_get hdd
          obtain ⟨S, eS⟩ : ∃ S, ((List.range i).map (term n r0 rs)).sum = S := ⟨_, rfl⟩
          have es : ((List.range (i + 1)).map (term n r0 rs)).sum = S + term n r0 rs i := by
            rw [List.range_succ, List.map_append, List.sum_append, eS]
            show S + (term n r0 rs i + 0) = _
            rw [Int.add_zero]
          rw [es, eS]
          refine ⟨[some (.v (TL (r0 :: rs))), some (.v (.int S)), some (.v (.int (i : Nat))), c3, c4], by simp? [], ?_⟩
          have x0 : ixD (TL (r0 :: rs)) (.int 0) = .ok (TR r0) := ix_lst (n := 0) rfl rfl
          have xi := ixTR (r := r0) (j := i) (by omega)
          unfold l2__law_det
          by_cases q : r0.getD i 0 = 0
          · refine ⟨[some (.v (TL (r0 :: rs))), some (.v (.int S)), some (.v (.int (i : Nat))), c3, c4], .inl ?_, some (.v (.int (i : Nat))), c3, c4, ?_⟩
            · have hc : decide (r0.getD i 0 ≠ 0) = false := decide_eq_false (fun h => h q)
              simp? [x0, xi, hc]
            · have : term n r0 rs i = 0 := by
                unfold term
                rw [q, Int.mul_zero, Int.zero_mul]
              rw [this, Int.add_zero]
          · have hc : decide (r0.getD i 0 ≠ 0) = true := decide_eq_true q
            have ih := det_run n (by omega) (rs.map (cut i)) (sq_cut hR hi) (bd_cut hB) N
            have bt := dt_sm (by omega) (sq_cut hR hi) (bd_cut (k := i) hB)
            have be : (r0.getD i 0).natAbs < 2 ^ 66 := hB r0 List.mem_cons_self _ (get_mem (by omega))
            have s1 : slD (TL (r0 :: rs)) (some 1) none = .ok (.lst (rs.map TR)) := cut_l1 (ds := (r0 :: rs).map TR) (a := 1) (by rw [List.length_map, List.length_cons]; omega)
            have cp := comp_mp (G := T.prg.G) (Φ := T.prg.call (N + (n + 1))) (σ := [some (.v (TL (r0 :: rs))), some (.v (.int S)), some (.v (.int (i : Nat))), c3, c4]) (elt := .op .add (.sl (.var 4) .no (.so (.var 2))) (.sl (.var 4) (.so (.op .add (.var 2) (.int 1))) .no)) (tg := .nm 4) (src := .seq (.sl (.var 0) (.so (.int 1)) .no)) (own := [4]) (as := rs) (q := TR)
              (by simp? [s1]) (fun r => TR (cut i r)) (fun r hr => by
                have lr : r.length = n + 1 := hR.2 r (List.mem_cons_of_mem _ hr)
                have c1 := cut_t0 (r := r) (a := i) (by omega)
                have c2 := cut_t1 (r := r) (a := i + 1) (by omega)
                have ec : ((i + 1 : Nat) : Int) = (i : Int) + 1 := rfl
                rw [ec] at c2
                have ad := ad_tr (a := r.take i) (b := r.drop (i + 1)) (by rw [List.length_take, List.length_drop]; omega)
                exact ⟨[some (.v (TL (r0 :: rs))), some (.v (.int S)), some (.v (.int (i : Nat))), c3, some (.v (TR r))], by simp? [], by simp? [c1, c2, ad]; rfl⟩) (by omega)
            have em : (rs.map fun r => TR (cut i r)) = (rs.map (cut i)).map TR := by rw [List.map_map]; rfl
            rw [em] at cp
            have ih : T.prg.call (N + (n + 1)) "_law_det" [.lst ((rs.map (cut i)).map TR)] = .ok (.int (dt n (rs.map (cut i)))) := ih
            have m2 : opD .mod (.int (i : Nat)) (.int 2) = .ok (.int ((i % 2 : Nat) : Int)) := by
              rw [md_int (by decide)]
              rfl
            have m3 : opD .mul (.int 2) (.int ((i % 2 : Nat) : Int)) = .ok (.int (2 * ((i % 2 : Nat) : Int))) := ml_int (mulS' (by omega))
            have m4 : opD .mul (.int (1 - 2 * ((i % 2 : Nat) : Int))) (.int (r0.getD i 0)) = .ok (.int (sg i * r0.getD i 0)) := ml_int (mulS' (by omega))
            have m5 : opD .mul (.int (sg i * r0.getD i 0)) (.int (dt n (rs.map (cut i)))) = .ok (.int (term n r0 rs i)) := by
              refine ml_int (.inr ?_)
              have a1 : (sg i * r0.getD i 0).natAbs.log2 < 66 := by
                rw [Int.natAbs_mul, sg_abs, Nat.one_mul]
                exact log_lt be (by omega)
              have a2 := log_lt bt (by omega)
              omega
            refine ⟨[some (.v (TL (r0 :: rs))), some (.v (.int (S + term n r0 rs i))), some (.v (.int (i : Nat))), some (.o ((rs.map (cut i)).map TR)), c4], .inl ?_, _, _, _, rfl⟩
            simp? [x0, xi, hc, cp, m2, m3, m4, ih, m5])
      obtain ⟨τ, e, c2, c3, c4, rfl⟩ := go
      rw [rg_len] at e
      have ti : itemsD (TL (r0 :: rs)) = .ok ((r0 :: rs).map TR) := rfl
      have lt : biD .len [TL (r0 :: rs)] = .ok (.int (((r0 :: rs).map TR).length : Nat)) := rfl
      have ed : dt (n + 1) (r0 :: rs) = ((List.range (n + 1)).map (term n r0 rs)).sum := rfl
      rw [ed]
      simp? [lt, z, ln, rng0' (m := n + 1) (by omega), e]
end K33
namespace K33
open PySem L2 PyI
/-! ### the law's own answer -/
section
variable {n : Nat} (h1 : 1 ≤ n) (h4 : n ≤ 4) {R : List (List Int)} (hR : Sq n R) {b : List Int} (hb : b.length = n) (hB : Bd66 R) (hbb : BdR 66 b)
include hR hb
theorem aug_map (g : List Int → List Int) : (aug R b).map g = (List.range n).map fun i => g (row R i ++ [b.getD i 0]) := by
  apply List.ext_getElem
  · rw [List.length_map, List.length_map, List.length_range]
    exact (aug_ok hR hb).1
  · intro i a1 a2
    rw [List.length_map, List.length_range] at a2
    rw [List.getElem_map, List.getElem_map, List.getElem_range]
    congr 1
    have e := row_aug hR hb a2
    unfold row at e
    rw [List.getD_eq_getElem?_getD, List.getElem?_eq_getElem (by rw [(aug_ok hR hb).1]; exact a2)] at e
    exact e
theorem sel_row {i k : Nat} (hi : i < n) (hk : k < n) : sel n k (row R i ++ [b.getD i 0]) = (row R i).take k ++ [b.getD i 0] ++ (row R i).drop (k + 1) := by
  have l : (row R i).length = n := hR.2 _ (row_mem (by rw [hR.1]; exact hi))
  unfold sel
  rw [if_pos hk, List.take_append_of_le_length (by omega), List.take_of_length_le (by omega), List.set_eq_take_append_cons_drop, if_pos (by omega), List.append_assoc]
  congr 2
  rw [List.getD_eq_getElem?_getD, List.getElem?_append_right (by omega), l, Nat.sub_self]
  rfl
theorem sel_full : (aug R b).map (sel n n) = R := by
  rw [aug_map hR hb]
  apply List.ext_getElem
  · rw [List.length_map, List.length_range, hR.1]
  · intro i a1 a2
    rw [List.length_map, List.length_range] at a1
    rw [List.getElem_map, List.getElem_range]
    have l : (row R i).length = n := hR.2 _ (row_mem a2)
    unfold sel
    rw [if_neg (Nat.lt_irrefl n), List.take_append_of_le_length (by omega), List.take_of_length_le (by omega)]
    unfold row
    rw [List.getD_eq_getElem?_getD, List.getElem?_eq_getElem a2]
    rfl
theorem δ_full : δ n (aug R b) n = dt n R := by
  unfold δ
  rw [sel_full hR hb]
include hB hbb
theorem bd_aug {i : Nat} (hi : i < n) : BdR 66 (row (aug R b) i) := by
  rw [row_aug hR hb hi]
  intro x hx
  rcases List.mem_append.mp hx with hx | hx
  · exact hB _ (row_mem (by rw [hR.1]; exact hi)) x hx
  · rw [List.mem_singleton.mp hx]
    exact hbb _ (get_mem (by omega))
theorem bd_sel {k : Nat} (hk : k < n) : Bd66 ((aug R b).map (sel n k)) := by
  intro r hr
  rw [aug_map hR hb] at hr
  obtain ⟨i, hi, rfl⟩ := List.mem_map.mp hr
  have hi := List.mem_range.mp hi
  rw [sel_row hR hb hi hk]
  have hr := hB _ (row_mem (R := R) (i := i) (by rw [hR.1]; exact hi))
  intro x hx
  rcases List.mem_append.mp hx with hx | hx
  · rcases List.mem_append.mp hx with hx | hx
    · exact hr x (List.mem_of_mem_take hx)
    · rw [List.mem_singleton.mp hx]
      exact hbb _ (get_mem (by omega))
  · exact hr x (List.mem_of_mem_drop hx)
end
theorem fG_snoc (W : Nat) (ts : List Int) (t : Int) : fG W (ts ++ [t]) = Nat.gcd (fG W ts) t.natAbs := by
  unfold fG
  rw [List.foldl_append]
  rfl
theorem ix_last (l : List D) (x : D) : ixD (.lst (l ++ [x])) (.int (-1)) = .ok x := by
  show (match atI (l ++ [x]) (-1) with | some d => Res.ok d | none => .bad) = _
  have : atI (l ++ [x]) (-1) = some x := by
    unfold atI ixN
    have len : (l ++ [x]).length = l.length + 1 := by rw [List.length_append, List.length_singleton]
    rw [len, if_neg (by omega), if_pos (by omega)]
    have e : ((-1 : Int) + ((l.length + 1 : Nat) : Int)).toNat = l.length := by omega
    first
      | (rw [e]; show (l ++ [x])[l.length]? = _; rw [List.getElem?_append_right (Nat.le_refl _), Nat.sub_self]; rfl)
      | skip
  rw [this]
theorem solved_run (N : Nat) {n : Nat} (h1 : 1 ≤ n) (h4 : n ≤ 4) {R : List (List Int)} (hR : Sq n R) {b : List Int} (hb : b.length = n) (hB : Bd66 R) (hbb : BdR 66 b) : T.prg.call (N + n + 2) "_law_solved" [TL R, .tup (b.map D.int)] = .ok (ansD (δ n (aug R b) n) (tsA n (aug R b))) := by
  rw [call__law_solved, δ_full hR hb]
  unfold b__law_solved t2__law_solved t5__law_solved t7__law_solved
  have dr := det_run n h4 R hR hB N
  have ws := dt_sm h4 hR hB
  obtain ⟨w, ew⟩ : ∃ w, dt n R = w := ⟨_, rfl⟩
  rw [ew] at dr ws ⊢
  by_cases w0 : w = 0
  · unfold ansD
    rw [if_pos w0]
    simp? [dr, decide_eq_true w0]
  · unfold ansD
    rw [if_neg w0]
    have hc := decide_eq_false w0
    have ln : biD .len [TL R] = .ok (.int (n : Nat)) := by
      show Res.ok (D.int ((R.map TR).length : Nat)) = _
      rw [List.length_map, hR.1]
    obtain ⟨A, eA⟩ : ∃ A, aug R b = A := ⟨_, rfl⟩
    have go := forL_go (g := asg (.nm 5)) (f := exL T.prg.G (T.prg.call (N + n + 1)) T.prg.fu l3__law_solved) ((List.range n).map fun (i : Nat) => D.int (i : Nat))
      (fun i τ => ∃ (c : Int) (c5 c6 c7 : Option C), τ = [some (.v (TL R)), some (.v (.tup (b.map D.int))), some (.v (.int w)), some (.o (((List.range i).map (δ n A)).map D.int)), some (.v (.int c)), c5, c6, c7, none] ∧ c.natAbs = fG w.natAbs ((List.range i).map (δ n A)))
      [some (.v (TL R)), some (.v (.tup (b.map D.int))), some (.v (.int w)), some (.o []), some (.v (.int w)), none, none, none, none] ⟨w, none, none, none, rfl, rfl⟩ (by
        rintro i d τ hdd ⟨c, c5, c6, c7, rfl, hcc⟩
        obtain ⟨hi, rfl⟩ := rg_get hdd
        refine ⟨[some (.v (TL R)), some (.v (.tup (b.map D.int))), some (.v (.int w)), some (.o (((List.range i).map (δ n A)).map D.int)), some (.v (.int c)), some (.v (.int (i : Nat))), c6, c7, none], by simp? [], ?_⟩
        have cp := comp_mp (G := T.prg.G) (Φ := T.prg.call (N + n + 1)) (σ := [some (.v (TL R)), some (.v (.tup (b.map D.int))), some (.v (.int w)), some (.o (((List.range i).map (δ n A)).map D.int)), some (.v (.int c)), some (.v (.int (i : Nat))), c6, c7, none]) (elt := .op .add (.op .add (.sl (.ix (.var 0) (.var 7)) .no (.so (.var 5))) (.tup (.cons (.ix (.var 1) (.var 7)) .nil))) (.sl (.ix (.var 0) (.var 7)) (.so (.op .add (.var 5) (.int 1))) .no)) (tg := .nm 7) (src := .rng1 (.bi .len (.cons (.var 0) .nil))) (own := [7]) (as := List.range n) (q := fun (j : Nat) => D.int j)
          (by simp? [ln, rng0' (m := n) (by omega)]) (fun j => TR (sel n i (row R j ++ [b.getD j 0]))) (fun j hj => by
            have hj := List.mem_range.mp hj
            have lr : (row R j).length = n := hR.2 _ (row_mem (by rw [hR.1]; exact hj))
            refine ⟨[some (.v (TL R)), some (.v (.tup (b.map D.int))), some (.v (.int w)), some (.o (((List.range i).map (δ n A)).map D.int)), some (.v (.int c)), some (.v (.int (i : Nat))), c6, some (.v (.int (j : Nat))), none], by simp? [], ?_⟩
            have x1 := ixTL (R := R) (j := j) (by rw [hR.1]; exact hj)
            have x2 : ixD (.tup (b.map D.int)) (.int (j : Nat)) = .ok (.int (b.getD j 0)) := ixTR (r := b) (j := j) (by omega)
            have s1 := cut_t0 (r := row R j) (a := i) (by omega)
            have s2 := cut_t1 (r := row R j) (a := i + 1) (by omega)
            have ec : ((i + 1 : Nat) : Int) = (i : Int) + 1 := rfl
            rw [ec] at s2
            have ad1 : opD .add (TR ((row R j).take i)) (.tup [.int (b.getD j 0)]) = .ok (TR ((row R j).take i ++ [b.getD j 0])) := ad_tr (b := [b.getD j 0]) (by rw [List.length_take, List.length_singleton]; omega)
            have ad2 := ad_tr (a := (row R j).take i ++ [b.getD j 0]) (b := (row R j).drop (i + 1)) (by rw [List.length_append, List.length_take, List.length_drop, List.length_singleton]; omega)
            simp? [x1, x2, s1, s2, ad1, ad2]
            rw [sel_row hR hb hj hi]) (by rw [List.length_range]; omega)
        have em : ((List.range n).map fun j => TR (sel n i (row R j ++ [b.getD j 0]))) = (A.map (sel n i)).map TR := by
          rw [← eA, aug_map hR hb, List.map_map]
          rfl
        rw [em] at cp
        have aA : Aug n A := by rw [← eA]; exact aug_ok hR hb
        have bA : Bd66 (A.map (sel n i)) := by rw [← eA]; exact bd_sel hR hb hB hbb hi
        have di : T.prg.call (N + n + 1) "_law_det" [.lst ((A.map (sel n i)).map TR)] = .ok (.int (δ n A i)) := det_run n h4 _ (aA.sq i) bA N
        have ds : (δ n A i).natAbs < 2 ^ 440 := dt_sm h4 (aA.sq i) bA
        have cs : c.natAbs < 2 ^ 440 := by
          rw [hcc]
          exact Nat.lt_of_le_of_lt (Nat.le_of_dvd (Int.natAbs_pos.mpr w0) (fG_dvd _ _).1) ws
        have gr := gcd_run (N + n) c (δ n A i) cs ds
        have sl : (((List.range i).map (δ n A)).map D.int).length < sizeLine := small6 (by rw [List.length_map, List.length_map, List.length_range]; omega)
        have es : ((List.range (i + 1)).map (δ n A)).map D.int = ((List.range i).map (δ n A)).map D.int ++ [D.int (δ n A i)] := by
          rw [List.range_succ, List.map_append, List.map_append]
          rfl
        refine ⟨[some (.v (TL R)), some (.v (.tup (b.map D.int))), some (.v (.int w)), some (.o (((List.range (i + 1)).map (δ n A)).map D.int)), some (.v (.int (Nat.gcd c.natAbs (δ n A i).natAbs : Nat))), some (.v (.int (i : Nat))), some (.o ((A.map (sel n i)).map TR)), c7, none], .inl ?_, _, _, _, _, rfl, ?_⟩
        · unfold l3__law_solved
          rw [es]
          simp? [cp, di, sl, ix_last, gr]
        · rw [List.range_succ, List.map_append]
          show Nat.gcd c.natAbs (δ n A i).natAbs = fG w.natAbs ((List.range i).map (δ n A) ++ [δ n A i])
          rw [fG_snoc, hcc])
    obtain ⟨τ, e, c, c5, c6, c7, rfl, hcc⟩ := go
    rw [rg_len] at e hcc
    have hts : (List.range n).map (δ n A) = tsA n A := rfl
    rw [hts] at e hcc
    obtain ⟨G, eG⟩ : ∃ G, fG w.natAbs (tsA n A) = G := ⟨_, rfl⟩
    rw [eG] at hcc
    have W0 : 0 < w.natAbs := Int.natAbs_pos.mpr w0
    have G0 : 0 < G := by rw [← eG]; exact fG_pos W0 _
    obtain ⟨f1, f2⟩ := fG_dvd (tsA n A) w.natAbs
    rw [eG] at f1 f2
    have Gs : G.log2 < 9000 := Nat.lt_of_lt_of_le (log_lt (Nat.lt_of_le_of_lt (Nat.le_of_dvd W0 f1) ws) (by omega)) (by omega)
    have ab : (if c < 0 then -c else c) = ((G : Nat) : Int) := by rw [← hcc]; exact i_abs c
    have first : ((w.natAbs / G : Nat) : Int) = sn w * w / (G : Int) := by
      rw [sn_mul]
      rfl
    have dvw : (G : Int) ∣ w := Int.ofNat_dvd_left.mpr f1
    rw [eA, eG, first]
    by_cases z : w < 0
    · have q := fun (x : Int) (hx : (G : Int) ∣ x) => (div_sn (w := w) G0 hx).1 z
      have okc : -(G : Int) < 0 ∧ (-(G : Int)).natAbs.log2 < 9000 := ⟨by omega, by rw [Int.natAbs_neg]; exact Gs⟩
      have fw := fd_neg (i := w) okc
      rw [q w dvw] at fw
      have cp := comp_mp (G := T.prg.G) (Φ := T.prg.call (N + n + 1)) (σ := [some (.v (TL R)), some (.v (.tup (b.map D.int))), some (.v (.int w)), some (.o ((tsA n A).map D.int)), some (.v (.int (-(G : Int)))), c5, c6, c7, none]) (elt := .op .fdiv (.var 8) (.var 4)) (tg := .nm 8) (src := .seq (.var 3)) (own := [8]) (as := tsA n A) (q := D.int)
        (by simp? []) (fun t => .int (sn w * t / (G : Int))) (fun t ht => by
          have ft := fd_neg (i := t) okc
          rw [q t (Int.ofNat_dvd_left.mpr (f2 t ht))] at ft
          exact ⟨[some (.v (TL R)), some (.v (.tup (b.map D.int))), some (.v (.int w)), some (.o ((tsA n A).map D.int)), some (.v (.int (-(G : Int)))), c5, c6, c7, some (.v (.int t))], by simp? [], by simp? [ft]⟩) (by unfold tsA; rw [List.length_map, List.length_range]; omega)
      simp? [dr, hc, ln, rng0' (m := n) (by omega), e, ab, decide_eq_true z, fw, cp]
    · have q := fun (x : Int) (hx : (G : Int) ∣ x) => (div_sn (w := w) G0 hx).2 z
      have okc : 0 < (G : Int) ∧ ((G : Nat) : Int).natAbs.log2 < 9000 := ⟨by omega, Gs⟩
      have fw := fd_int (i := w) okc
      rw [q w dvw] at fw
      have cp := comp_mp (G := T.prg.G) (Φ := T.prg.call (N + n + 1)) (σ := [some (.v (TL R)), some (.v (.tup (b.map D.int))), some (.v (.int w)), some (.o ((tsA n A).map D.int)), some (.v (.int (G : Int))), c5, c6, c7, none]) (elt := .op .fdiv (.var 8) (.var 4)) (tg := .nm 8) (src := .seq (.var 3)) (own := [8]) (as := tsA n A) (q := D.int)
        (by simp? []) (fun t => .int (sn w * t / (G : Int))) (fun t ht => by
          have ft := fd_int (i := t) okc
          rw [q t (Int.ofNat_dvd_left.mpr (f2 t ht))] at ft
          exact ⟨[some (.v (TL R)), some (.v (.tup (b.map D.int))), some (.v (.int w)), some (.o ((tsA n A).map D.int)), some (.v (.int (G : Int))), c5, c6, c7, some (.v (.int t))], by simp? [], by simp? [ft]⟩) (by unfold tsA; rw [List.length_map, List.length_range]; omega)
      simp? [dr, hc, ln, rng0' (m := n) (by omega), e, ab, decide_eq_false z, fw, cp]
end K33
namespace K33
open PySem L2 PyI
/-! ### what is drawn -/
def nA : A := .seq false (.int 0 999) 60 60
def eA : A := .int (-1000000000000000000) 1000000000000000000
def fA : A := .int (-70000000000000000000) 70000000000000000000
def rowsB (n s : Nat) : Bool := callsA noB (callA noB T.prg noF (fun f => if f = "_law_rows" then [5] else []) 2 "_law_rows" [nA, .int n n, .int s s]) (.seq false (.seq true eA n n) n n)
def rightB (n s : Nat) : Bool := callsA noB (callA noB T.prg noF (fun f => if f = "_law_right" then [7] else []) 1 "_law_right" [nA, .seq false (.seq true eA n n) n n, .int s s]) (.seq true fA n n)
theorem draw_abs : ((List.range 6).all fun s => [1, 2, 3, 4].all fun n => rowsB n s && rightB n s) = true := by decide +kernel
theorem numA {xs : List Nat} (hx : xs.length = 60) (h1000 : ∀ x ∈ xs, x < 1000) : γ noP nA (.lst (xs.map nm)) :=
  ⟨xs.map nm, rfl, by rw [List.length_map]; omega, by rw [List.length_map]; omega, fun x hm => by
    obtain ⟨v, hv, rfl⟩ := List.mem_map.mp hm
    have := h1000 v hv
    exact ⟨v, rfl, by omega, by omega⟩⟩
theorem ints_of {lo hi : Int} : ∀ ds : List D, (∀ x ∈ ds, γ noP (.int lo hi) x) → ∃ r : List Int, ds = r.map D.int ∧ ∀ x ∈ r, lo ≤ x ∧ x ≤ hi
  | [], _ => ⟨[], rfl, fun x h => by cases h⟩
  | d :: ds, h => by
    obtain ⟨i, e, hi⟩ := h d List.mem_cons_self
    obtain ⟨r, er, hr⟩ := ints_of ds fun x hx => h x (List.mem_cons_of_mem _ hx)
    exact ⟨i :: r, by rw [er, e]; rfl, fun x hx => by
      rcases List.mem_cons.mp hx with z | z
      · rw [z]; exact hi
      · exact hr x z⟩
theorem rows_of {n : Nat} {lo hi : Int} : ∀ ds : List D, (∀ x ∈ ds, γ noP (.seq true (.int lo hi) n n) x) → ∃ R : List (List Int), ds = R.map TR ∧ ∀ r ∈ R, r.length = n ∧ ∀ x ∈ r, lo ≤ x ∧ x ≤ hi
  | [], _ => ⟨[], rfl, fun x h => by cases h⟩
  | d :: ds, h => by
    obtain ⟨es, e, l1, l2, hi⟩ := h d List.mem_cons_self
    obtain ⟨r, er, hr⟩ := ints_of es hi
    obtain ⟨R, eR, hR⟩ := rows_of ds fun x hx => h x (List.mem_cons_of_mem _ hx)
    refine ⟨r :: R, by rw [eR, e, er]; rfl, fun x hx => ?_⟩
    rcases List.mem_cons.mp hx with z | z
    · rw [z]
      rw [er, List.length_map] at l1 l2
      exact ⟨by omega, hr⟩
    · exact hR x z
theorem p66 : (2 : Nat) ^ 66 = 73786976294838206464 := by decide
theorem draw_run (N : Nat) {xs : List Nat} (hx : xs.length = 60) (h1000 : ∀ x ∈ xs, x < 1000) {n s : Nat} (h1 : 1 ≤ n) (h4 : n ≤ 4) (hs : s < 6) : ∃ (R : List (List Int)) (b : List Int), T.prg.call (N + 2) "_law_rows" [.lst (xs.map nm), .int (n : Nat), .int (s : Nat)] = .ok (TL R) ∧ T.prg.call (N + 2) "_law_right" [.lst (xs.map nm), TL R, .int (s : Nat)] = .ok (.tup (b.map D.int)) ∧ Sq n R ∧ b.length = n ∧ Bd66 R ∧ BdR 66 b := by
  have ta := List.all_eq_true.mp draw_abs s (List.mem_range.mpr hs)
  have tb := List.all_eq_true.mp ta n (by
    have : n = 1 ∨ n = 2 ∨ n = 3 ∨ n = 4 := by omega
    rcases this with rfl | rfl | rfl | rfl <;> simp)
  rw [Bool.and_eq_true] at tb
  have hn : γ noP (.int (n : Int) (n : Int)) (.int (n : Nat)) := ⟨_, rfl, Int.le_refl _, Int.le_refl _⟩
  have hS : γ noP (.int (s : Int) (s : Int)) (.int (s : Nat)) := ⟨_, rfl, Int.le_refl _, Int.le_refl _⟩
  obtain ⟨F, e, hF⟩ := calls_ok (P := noP) (bs := noB) noPB (p := T.prg) (hand := noF) (K := 0) (fun f as a h => by cases h) tb.1 (N := N + 2) (by omega) (ds := [.lst (xs.map nm), .int (n : Nat), .int (s : Nat)]) ⟨_, _, rfl, numA hx h1000, _, _, rfl, hn, _, _, rfl, hS, rfl⟩
  obtain ⟨ds, ed, l1, l2, hd⟩ := id hF
  obtain ⟨R, eR, hR⟩ := rows_of ds hd
  have eF : F = TL R := by rw [ed, eR]; rfl
  subst eF
  obtain ⟨F2, e2, hF2⟩ := calls_ok (P := noP) (bs := noB) noPB (p := T.prg) (hand := noF) (K := 0) (fun f as a h => by cases h) tb.2 (N := N + 2) (by omega) (ds := [.lst (xs.map nm), TL R, .int (s : Nat)]) ⟨_, _, rfl, numA hx h1000, _, _, rfl, hF, _, _, rfl, hS, rfl⟩
  obtain ⟨es, ee, m1, m2, he⟩ := hF2
  obtain ⟨b, eb, hb⟩ := ints_of es he
  have eF2 : F2 = .tup (b.map D.int) := by rw [ee, eb]; rfl
  subst eF2
  rw [eR, List.length_map] at l1 l2
  rw [eb, List.length_map] at m1 m2
  refine ⟨R, b, e, e2, ⟨by omega, fun r hr => (hR r hr).1⟩, by omega, fun r hr x hxr => ?_, fun x hxb => ?_⟩
  · have := (hR r hr).2 x hxr
    rw [p66]
    omega
  · have := hb x hxb
    rw [p66]
    omega
/-! ### data alike -/
inductive Sd : Nat → D → Prop
  | non (n : Nat) : Sd n .non
  | int (n : Nat) (i : Int) : Sd n (.int i)
  | bl (n : Nat) (b : Bool) : Sd n (.bl b)
  | tup (n : Nat) (xs : List D) (hl : xs.length ≤ 1000000) (h : ∀ x ∈ xs, Sd n x) : Sd (n + 1) (.tup xs)
theorem eq_bl (b : Bool) : cmD .eq (.bl b) (.bl b) = .ok (.bl true) := by cases b <;> rfl
theorem same_run : ∀ (n : Nat) (d : D), Sd n d → ∀ m, T.prg.call (n + m + 1) "_law_same" [d, d] = .ok (.bl true) := by
  intro n d h
  induction h with
  | non n =>
    intro m
    rw [call__law_same]
    unfold b__law_same
    simp? []
  | int n i =>
    intro m
    rw [call__law_same]
    unfold b__law_same
    simp? []
  | bl n b =>
    intro m
    rw [call__law_same]
    unfold b__law_same
    simp? [eq_bl]
  | tup n xs hl h ih =>
    intro m
    rw [call__law_same]
    unfold b__law_same
    have e1 : n + 1 + m = n + m + 1 := by omega
    have go := forL_go (g := asg (.nm 2)) (f := exL T.prg.G (T.prg.call (n + 1 + m)) T.prg.fu l1__law_same) ((List.range xs.length).map fun (i : Nat) => D.int (i : Nat)) (fun i τ => ∃ l : Option C, τ = [some (.v (.tup xs)), some (.v (.tup xs)), l])
      [some (.v (.tup xs)), some (.v (.tup xs)), none] ⟨none, rfl⟩ (by
        rintro i d τ hd ⟨l, rfl⟩
        obtain ⟨hi, rfl⟩ := rg_get hd
        refine ⟨[some (.v (.tup xs)), some (.v (.tup xs)), some (.v (.int i))], by simp? [], [some (.v (.tup xs)), some (.v (.tup xs)), some (.v (.int i))], .inl ?_, _, rfl⟩
        have ix := ix_tup (xs := xs) (i := (i : Int)) (n := i) rfl (List.getElem?_eq_getElem hi)
        have q := ih xs[i] (List.getElem_mem hi) m
        rw [← e1] at q
        unfold l1__law_same
        simp? [ix, q])
    obtain ⟨τ, e, l, rfl⟩ := go
    have hne : decide ((xs.length : Int) ≠ (xs.length : Int)) = false := by simp
    simp? [hne, rng0 (m := xs.length) (by omega), e]
theorem same_at {N k : Nat} {d : D} (h : Sd k d) (hN : k + 1 ≤ N) : T.prg.call N "_law_same" [d, d] = .ok (.bl true) := by
  have e : N = k + (N - k - 1) + 1 := by omega
  rw [e]
  exact same_run k d h _
theorem sd_ans (w : Int) {ts : List Int} (h : ts.length ≤ 4) : Sd 2 (ansD w ts) := by
  unfold ansD
  split
  · exact .non 2
  · refine .tup 1 _ (show 2 ≤ 1000000 by decide) fun x hx => ?_
    rcases List.mem_cons.mp hx with rfl | hx
    · exact .int 1 _
    · rw [List.mem_singleton.mp hx]
      refine .tup 0 _ (by rw [List.length_map]; omega) fun y hy => ?_
      obtain ⟨t, _, rfl⟩ := List.mem_map.mp hy
      exact .int 0 _
end K33
namespace K33
open PySem L2 PyI
/-! ### ratios -/
def SmR (x : Int) : Prop := -100000000000 < x ∧ x < 100000000000
def g2 (t b : Int) : Int := ((Nat.gcd t.natAbs b.natAbs : Nat) : Int)
def lw (t b : Int) : D := .tup [.int (t / g2 t b), .int (b / g2 t b)]
theorem sd_lw (t b : Int) : Sd 1 (lw t b) := by
  refine .tup 0 _ (show 2 ≤ 1000000 by decide) fun x hx => ?_
  rcases List.mem_cons.mp hx with rfl | hx
  · exact .int 0 _
  · rw [List.mem_singleton.mp hx]
    exact .int 0 _
theorem smR_div {x : Int} (h : SmR x) (g : Int) : SmR (x / g) := by
  have := Int.natAbs_ediv_le_natAbs x g
  unfold SmR at *
  omega
theorem smR_mul {x y : Int} (hx : SmR x) (hy : SmR y) : opD .mul (.int x) (.int y) = .ok (.int (x * y)) := ml_int (mulS ⟨by unfold SmR at hy; omega, by unfold SmR at hy; omega⟩)
theorem p440 : (100000000000 : Nat) < 2 ^ 440 := by decide +kernel
theorem smR_p {x : Int} (h : SmR x) : x.natAbs < 2 ^ 440 := by
  have := p440
  unfold SmR at h
  generalize (2 : Nat) ^ 440 = P at *
  omega
theorem first_run (N : Nat) {t b : Int} (hb : 0 < b) (ht : SmR t) (h9 : SmR b) : T.prg.call (N + 2) "_law_lowest" [.int t, .int b] = .ok (lw t b) := lawlow_run N t b hb (smR_p ht) (smR_p h9)
theorem p9000 : (2 : Nat) ^ 440 * 1000000 < 2 ^ 9000 := by decide +kernel
theorem low_run (N : Nat) {t b : Int} {c : Nat} (hb : 0 < b) (c0 : 0 < c) (hc : c ≤ 1000000) (ht : SmR t) (h9 : SmR b) : T.prg.call (N + 1) "lowest" [.int (t * (c : Int)), .int (b * (c : Int))] = .ok (lw t b) := by
  have e1 : (t * (c : Int)).natAbs = t.natAbs * c := by rw [Int.natAbs_mul]; rfl
  have e2 : (b * (c : Int)).natAbs = b.natAbs * c := by rw [Int.natAbs_mul]; rfl
  have cc : (0 : Int) < (c : Int) := by omega
  have l1 : (b * (c : Int)).natAbs < 2 ^ 9000 := by
    rw [e2]
    have h := smR_p h9
    have k := p9000
    have : b.natAbs * c ≤ 2 ^ 440 * 1000000 := Nat.mul_le_mul (Nat.le_of_lt h) hc
    exact Nat.lt_of_le_of_lt this k
  rw [lowest_run N _ _ (Int.mul_pos hb cc) l1, e1, e2, Nat.gcd_mul_right, Int.natCast_mul, Int.mul_ediv_mul_of_pos_left _ _ cc, Int.mul_ediv_mul_of_pos_left _ _ cc]
  rfl
theorem ixw0 (t b : Int) : ixD (lw t b) (.int 0) = .ok (.int (t / g2 t b)) := rfl
theorem ixw1 (t b : Int) : ixD (lw t b) (.int 1) = .ok (.int (b / g2 t b)) := rfl
theorem ratio_run (N : Nat) {t b u d : Int} (ht : SmR t) (hb : SmR b) (hu : SmR u) (hd : SmR d) : T.prg.call (N + 1) "ratio_less" [lw t b, lw u d] = .ok (.bl (decide (t / g2 t b * (d / g2 u d) < u / g2 u d * (b / g2 t b)))) := by
  rw [call_ratio_less]
  unfold b_ratio_less
  simp? [ixw0, ixw1, smR_mul (smR_div ht _) (smR_div hd _), smR_mul (smR_div hu _) (smR_div hb _)]
theorem t14_run (N : Nat) (c0 c1 c2 c3 c4 c5 c6 c7 c8 : Option C) {t b u d : Int} (ht : SmR t) (hb : SmR b) (hu : SmR u) (hd : SmR d) : fin (exL T.prg.G (T.prg.call (N + 3)) T.prg.fu t14_law [c0, c1, c2, c3, c4, c5, c6, c7, c8, some (.v (lw t b)), some (.v (lw u d)), none, none]) = .ok (.bl true) := by
  unfold t14_law
  have r1 := ratio_run (N + 2) ht hb hu hd
  have r2 := ratio_run (N + 2) hu hd ht hb
  have s := fun x : Bool => same_at (N := N + 3) (k := 0) (.bl 0 x) (by omega)
  simp? [ixw0, ixw1, smR_mul (smR_div ht _) (smR_div hd _), smR_mul (smR_div hu _) (smR_div hb _), r1, r2, s]
section
variable (xs : List Nat) (hx : xs.length = 60) (h1000 : ∀ x ∈ xs, x < 1000)
include hx h1000
theorem getD_lt (j : Nat) : xs.getD j 0 < 1000 := by
  rw [List.getD_eq_getElem?_getD]
  cases e : xs[j]? with
  | none => exact (by decide : (0 : Nat) < 1000)
  | some a => exact h1000 a (List.mem_of_getElem? e)
theorem nat_ix {i : Int} (n : Nat) (h : i = n) (hn : n < 60) : ixD (.lst (xs.map nm)) (.int i) = .ok (.int ((xs.getD n 0 : Nat) : Int)) := ix_lst (n := n) h (nget (by omega))
theorem t12_run (N : Nat) (c0 c2 c3 c4 c5 c6 : Option C) {t b : Int} (ht : -1000000 < t ∧ t < 1000000) (hb : 0 < b ∧ b < 1000002) : fin (exL T.prg.G (T.prg.call (N + 3)) T.prg.fu t12_law [c0, some (.v (.lst (xs.map nm))), c2, c3, c4, c5, c6, some (.v (.int t)), some (.v (.int b)), some (.v (lw t b)), none, none, none]) = .ok (.bl true) := by
  unfold t12_law
  have i54 := nat_ix xs hx h1000 (i := 54) 54 rfl (by omega)
  have i55 := nat_ix xs hx h1000 (i := 55) 55 rfl (by omega)
  have i56 := nat_ix xs hx h1000 (i := 56) 56 rfl (by omega)
  have i57 := nat_ix xs hx h1000 (i := 57) 57 rfl (by omega)
  have g54 := getD_lt xs hx h1000 54
  have g56 := getD_lt xs hx h1000 56
  have g57 := getD_lt xs hx h1000 57
  have m1 : opD .mul (.int t) (.int 1000) = .ok (.int (t * 1000)) := ml_int (mulS ⟨by omega, by omega⟩)
  have m2 : opD .mul (.int b) (.int 1000) = .ok (.int (b * 1000)) := ml_int (mulS ⟨by omega, by omega⟩)
  have ht' : SmR t := ⟨by omega, by omega⟩
  have hb' : SmR b := ⟨by omega, by omega⟩
  have u1 : SmR (t * 1000 + ((xs.getD 54 0 : Nat) : Int) % 3 - 1) := ⟨by omega, by omega⟩
  have u2 : SmR (b * 1000) := ⟨by omega, by omega⟩
  have v1 : SmR (((xs.getD 56 0 : Nat) : Int) - 500) := ⟨by omega, by omega⟩
  have v2 : SmR (1 + ((xs.getD 57 0 : Nat) : Int)) := ⟨by omega, by omega⟩
  have f1 := first_run (N + 1) (by omega) u1 u2
  have f2 := first_run (N + 1) (by omega) v1 v2
  by_cases h : ((xs.getD 55 0 : Nat) : Int) % 2 = 1
  · have t := t14_run N c0 (some (.v (.lst (xs.map nm)))) c2 c3 c4 c5 c6 (some (.v (.int t))) (some (.v (.int b))) ht' hb' v1 v2
    simp? [i54, md_int (i := ((xs.getD 54 0 : Nat) : Int)) (j := 3) (by decide), m1, m2, f1, i55, md_int (i := ((xs.getD 55 0 : Nat) : Int)) (j := 2) (by decide), decide_eq_true h, i56, i57, f2]
    exact t
  · have t := t14_run N c0 (some (.v (.lst (xs.map nm)))) c2 c3 c4 c5 c6 (some (.v (.int t))) (some (.v (.int b))) ht' hb' u1 u2
    simp? [i54, md_int (i := ((xs.getD 54 0 : Nat) : Int)) (j := 3) (by decide), m1, m2, f1, i55, md_int (i := ((xs.getD 55 0 : Nat) : Int)) (j := 2) (by decide), decide_eq_false h]
    exact t
theorem t9_run (N : Nat) (c0 c2 c3 c4 c5 : Option C) {t : Int} (ht : -1000000 < t ∧ t < 1000000) : fin (exL T.prg.G (T.prg.call (N + 3)) T.prg.fu t9_law [c0, some (.v (.lst (xs.map nm))), c2, c3, c4, c5, some (.v (.int (1 + ((xs.getD 52 0 : Nat) : Int)))), some (.v (.int t)), none, none, none, none, none]) = .ok (.bl true) := by
  unfold t9_law
  have i50 := nat_ix xs hx h1000 (i := 50) 50 rfl (by omega)
  have i51 := nat_ix xs hx h1000 (i := 51) 51 rfl (by omega)
  have g50 := getD_lt xs hx h1000 50
  have g51 := getD_lt xs hx h1000 51
  have g52 := getD_lt xs hx h1000 52
  obtain ⟨b, eb⟩ : ∃ b : Int, 1 + ((xs.getD 50 0 : Nat) : Int) * 1000 + ((xs.getD 51 0 : Nat) : Int) = b := ⟨_, rfl⟩
  have ec : (1 : Int) + ((xs.getD 52 0 : Nat) : Int) = ((1 + xs.getD 52 0 : Nat) : Int) := by omega
  rw [ec]
  obtain ⟨c, ecc⟩ : ∃ c : Nat, 1 + xs.getD 52 0 = c := ⟨_, rfl⟩
  rw [ecc]
  have m1 : opD .mul (.int ((xs.getD 50 0 : Nat) : Int)) (.int 1000) = .ok (.int (((xs.getD 50 0 : Nat) : Int) * 1000)) := ml_int (mulS ⟨by omega, by omega⟩)
  have m2 : opD .mul (.int t) (.int (c : Nat)) = .ok (.int (t * (c : Int))) := ml_int (mulS ⟨by omega, by omega⟩)
  have m3 : opD .mul (.int b) (.int (c : Nat)) = .ok (.int (b * (c : Int))) := ml_int (mulS ⟨by omega, by omega⟩)
  have ht' : SmR t := ⟨by omega, by omega⟩
  have hb' : SmR b := ⟨by omega, by omega⟩
  have f1 := first_run (N + 1) (show 0 < b by omega) ht' hb'
  have f2 := low_run (N + 2) (c := c) (show 0 < b by omega) (by omega) (by omega) ht' hb'
  have s := same_at (N := N + 3) (sd_lw t b) (by omega)
  have r := t12_run xs hx h1000 N c0 c2 c3 c4 c5 (some (.v (.int (c : Nat)))) (t := t) (b := b) ht (by omega)
  simp? [i50, i51, m1, eb, f1, m2, m3, f2, s]
  exact r
theorem t6_run (N : Nat) (c0 c2 c3 c4 c5 : Option C) : fin (exL T.prg.G (T.prg.call (N + 3)) T.prg.fu t6_law [c0, some (.v (.lst (xs.map nm))), c2, c3, c4, c5, none, none, none, none, none, none, none]) = .ok (.bl true) := by
  unfold t6_law
  have i52 := nat_ix xs hx h1000 (i := 52) 52 rfl (by omega)
  have i48 := nat_ix xs hx h1000 (i := 48) 48 rfl (by omega)
  have i49 := nat_ix xs hx h1000 (i := 49) 49 rfl (by omega)
  have i53 := nat_ix xs hx h1000 (i := 53) 53 rfl (by omega)
  have g48 := getD_lt xs hx h1000 48
  have g49 := getD_lt xs hx h1000 49
  have m1 : opD .mul (.int (((xs.getD 48 0 : Nat) : Int) - 500)) (.int 1000) = .ok (.int ((((xs.getD 48 0 : Nat) : Int) - 500) * 1000)) := ml_int (mulS ⟨by omega, by omega⟩)
  by_cases h : ((xs.getD 53 0 : Nat) : Int) % 7 = 0
  · have r := t9_run xs hx h1000 N c0 c2 c3 c4 c5 (t := 0) (by omega)
    simp? [i52, i48, i49, m1, i53, md_int (i := ((xs.getD 53 0 : Nat) : Int)) (j := 7) (by decide), decide_eq_true h]
    exact r
  · have r := t9_run xs hx h1000 N c0 c2 c3 c4 c5 (t := (((xs.getD 48 0 : Nat) : Int) - 500) * 1000 + ((xs.getD 49 0 : Nat) : Int)) (by omega)
    simp? [i52, i48, i49, m1, i53, md_int (i := ((xs.getD 53 0 : Nat) : Int)) (j := 7) (by decide), decide_eq_false h]
    exact r
end
theorem num_run (ns : List Int) (k many n : Nat) (hk : k ≤ 1000000) (hm : many ≤ 1000000) : ∃ xs : List Nat, T.prg.call (n + 1) "_law_numbers" [.scr ns, .int k, .int many] = .ok (.lst (xs.map nm)) ∧ xs.length = many ∧ ∀ x ∈ xs, x < 1000 := by
  rw [call__law_numbers]
  exact numbers_run ns k many hk hm
theorem plain (ns : List Int) (h : ns.length ≤ 63) : T.prg.call 60 d_law.name [.scr ns] = .ok (.bl true) := by
  show T.prg.call (59 + 1) "law" [.scr ns] = .ok (.bl true)
  obtain ⟨xs, hc, hx, h1000⟩ := num_run ns 0 60 58 (by decide) (by decide)
  have hc : T.prg.call 59 "_law_numbers" [.scr ns, .int 0, .int 60] = .ok (.lst (xs.map nm)) := hc
  have i0 := nat_ix xs hx h1000 (i := 0) 0 rfl (by omega)
  have i1 := nat_ix xs hx h1000 (i := 1) 1 rfl (by omega)
  obtain ⟨n, en⟩ : ∃ z : Nat, 1 + xs.getD 0 0 % 4 = z := ⟨_, rfl⟩
  obtain ⟨s, es⟩ : ∃ z : Nat, xs.getD 1 0 % 6 = z := ⟨_, rfl⟩
  have e1 : (1 : Int) + ((xs.getD 0 0 : Nat) : Int) % 4 = (n : Int) := by omega
  have e2 : ((xs.getD 1 0 : Nat) : Int) % 6 = (s : Int) := by omega
  obtain ⟨R, b, d1, d2, hR, hb, hB, hbb⟩ := draw_run 57 hx h1000 (n := n) (s := s) (by omega) (by omega) (by omega)
  have so := solve_run 56 (n := n) (by omega) (by omega) hR hb (k := 66) (by omega) fun i hi => bd_aug hR hb hB hbb hi
  rw [end_ans (by omega) (by omega) (aug_ok hR hb) (k := 66) fun i hi => bd_aug hR hb hB hbb hi] at so
  have sv := solved_run (59 - n - 2) (n := n) (by omega) (by omega) hR hb hB hbb
  have e59 : 59 - n - 2 + n + 2 = 59 := by omega
  rw [e59] at sv
  have sm := same_at (N := 59) (sd_ans (δ n (aug R b) n) (ts := tsA n (aug R b)) (by unfold tsA; rw [List.length_map, List.length_range]; omega)) (by omega)
  unfold TL at d1 d2 sv
  have t := t6_run xs hx h1000 56 (some (.v (.scr ns))) (some (.v (.int (n : Nat)))) (some (.v (.int (s : Nat)))) (some (.v (.lst (R.map TR)))) (some (.v (.tup (b.map D.int))))
  have d1 : T.prg.call 59 _ _ = _ := d1
  have d2 : T.prg.call 59 _ _ = _ := d2
  have so : T.prg.call 59 _ _ = _ := so
  rw [call_law]
  unfold b_law
  simp? [hc, i0, i1, md_int (i := ((xs.getD 0 0 : Nat) : Int)) (j := 4) (by decide), e1, md_int (i := ((xs.getD 1 0 : Nat) : Int)) (j := 6) (by decide), e2, d1, d2, so, sv, sm]
  exact t
end K33
open PySem PySem.W PySem.Calls PyProof.Rows
theorem PySem.Challenge.cw_offerbook_k33_solve_holds : PySem.Challenge.rw_offerbook_k33_solve.Holds := by
  w_on; o_law
  refine HandSHeadRun.head_imp (r := K33.R) (q := K33.qv) (H := K33.T.hk 4) (ob := K33.T.ob 4) (M := 20000) (loose := K33.looseI) (d := HandSHeadRun.topDef (K33.R).prog 19) (kwd := []) (K33.T.ob_eq 4)
    K33.run (by kernel_rfl) (by kernel_rfl) (by kernel_rfl) (by rfl) (by first | assumption | decide +kernel) (by decide +kernel) ⟨rfl, rfl, rfl, rfl, rfl, by decide +kernel⟩ ?hw ?hc
  case hw => w_witness2
  case hc =>
    exact PyI.law_walk (l := PySem.Challenge.rw_offerbook_k33_solve) (T := K33.T) (n := 60) (m := 4) (dl := K33.d_law) rfl (by kernel_rfl) ⟨by decide, by decide, by decide⟩ K33.xfine K33.fine K33.nds (by unfold K33.T; simp) (by kernel_rfl) rfl K33.plain
