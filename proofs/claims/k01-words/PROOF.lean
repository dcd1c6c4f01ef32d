import PyProof.Rows.All
import Wide.All
import OpenK.AllK
import Wide.FinOn
import HandS.ForMost
import HandS.IsInst
import HandS.TupAny
import HandS.TupMul
import HandS.Deep
import HandS.Wide
import HandS.CallSlots
import HandS.Gcd
import KE.KTupSum
import KE.KIntText
import HandS.Text
import HandS.Zip
import HandS.Conv
import HandS.WordsExc
import HandS.ExcInit
import HandS.ExcField
import HandS.ExcIs
import HandS.Nested
import KE.KSuper
import KE.KExcSuper
import HandS.TryMany
import KE.KExcIs
import HandS.Defaults
import HandS.Head0
import HandS.Head1
import HandS.Head2
import HandS.HeadEnd
import HandS.HeadHook1
import HandS.HeadHook2
import PySem.Challenge.RW_offerbook_k01_words
set_option Elab.async false
set_option linter.all false
set_option maxRecDepth 100000
set_option maxHeartbeats 0
/-! PyI, part 1: a small interpreter over plain data, for the defs of a program whose lists are local. -/
namespace PyI
open PySem L2
/-- data: tuples and lists hold data; a list here is one that nobody changes any more -/
inductive D where
  | non | bl (b : Bool) | int (i : Int) | str (x : Str) | tup (xs : List D) | lst (xs : List D) | scr (ns : List Int)
  deriving Inhabited

inductive Res (α : Type) where
  | ok (a : α)
  | exc (c : Str) (vs : List D)
  | bad
namespace Res
@[simp, reducible] def bind {α β : Type} (r : Res α) (f : α → Res β) : Res β := match r with
  | .ok a => f a
  | .exc c vs => .exc c vs
  | .bad => .bad
end Res
instance : Monad Res where
  pure := Res.ok
  bind := Res.bind
@[simp] theorem ok_bind {α β : Type} (a : α) (f : α → Res β) : (Res.ok a >>= f) = f a := rfl
@[simp] theorem exc_bind {α β : Type} (c : Str) (vs : List D) (f : α → Res β) : ((Res.exc c vs : Res α) >>= f) = .exc c vs := rfl
@[simp] theorem bad_bind {α β : Type} (f : α → Res β) : ((Res.bad : Res α) >>= f) = .bad := rfl
@[simp] theorem pure_ok {α : Type} (a : α) : (pure a : Res α) = .ok a := rfl

/-- what a slot holds: a value; a list of its own -/
inductive C where
  | v (d : D) | o (xs : List D)
abbrev Env := List (Option C)

inductive Op where
  | add | sub | mul | fdiv | mod | pow
  deriving DecidableEq
inductive Cm where
  | eq | ne | lt | le | gt | ge | isN | notN | in_ | notIn
  deriving DecidableEq
inductive Bi where
  | len | abs | int | min | max | sum | all | any | tuple | list | sorted | str | gcd | lcm
  deriving DecidableEq
inductive Tg where
  | nm (i : Nat) | tup (ts : List Tg)
mutual
inductive E where
  | var (i : Nat) | int (i : Int) | str (x : Str) | bl (b : Bool) | non | glob (x : Str)
  | op (o : Op) (a b : E) | neg (a : E)
  | not (a : E) | and (a b : E) | or (a b : E)
  | cmp (c : Cm) (a b : E) | chain (c c' : Cm) (a b d : E)
  | ife (c a b : E)
  | ix (a b : E) | sl (a : E) (lo hi : Op1)
  | tup (es : Es) | lst (es : Es)
  | comp (elt : E) (tg : Tg) (src : Src) (own : List Nat)
  | compIf (elt : E) (tg : Tg) (src : Src) (c : E) (own : List Nat)
  | comp2 (elt : E) (tg : Tg) (src : Src) (tg1 : Tg) (src1 : Src) (own vs1 : List Nat)
  | call (f : Str) (es : Es)
  | bi (b : Bi) (es : Es)
  | isi (a : E) (t : String)
  | find (a b : E)
inductive Es where
  | nil | cons (e : E) (r : Es)
inductive Op1 where
  | no | so (e : E)
inductive Src where
  | seq (e : E) | rng1 (a : E) | rng2 (a b : E) | enum (e : E) | zip (a b : E)
end
mutual
/-- what an except clause may say: of the exception alone -/
inductive HE where
  | non | bl (b : Bool) | int (i : Int) | str (x : Str) | fld (f : Str) | isi (c : Str)
  | not (a : HE) | and (a b : HE) | or (a b : HE) | tup (es : HEs)
inductive HEs where
  | nil | cons (e : HE) (r : HEs)
end
inductive Hn where
  | ret (e : HE) | ife (c : HE) (a b : Hn)
mutual
inductive S where
  | set (i : Nat) (e : E) | setT (ts : List Tg) (e : E) | setIx (i : Nat) (k e : E) | aug (i : Nat) (o : Op) (e : E)
  | app (i : Nat) (e : E) | ext (i : Nat) (e : E) | ins (i : Nat) (k e : E)
  | exp (e : E) | ret (e : E) | retN
  | ife (c : E) (a b : Ss)
  | fr (tg : Tg) (src : Src) (b : Ss) | wh (c : E) (b : Ss)
  | brk | cont | pass | never
  | raise (c : Str) (es : Es)
  | tr (b : Ss) (c : Str) (i : Option Nat) (xs : List (Str × List Str)) (h : Hn)
inductive Ss where
  | nil | cons (s : S) (r : Ss)
end

/-! ### operations on data -/
mutual
def D.py : D → PyData
  | .non => .none
  | .bl b => .bool b
  | .int i => .int i
  | .str x => .str x
  | .tup xs => .tuple (D.pys xs)
  | .lst xs => .list (D.pys xs)
  | .scr ns => .list (ns.map PyData.int)
def D.pys : List D → List PyData
  | [] => []
  | d :: ds => d.py :: D.pys ds
end
theorem D.pys_eq (ds : List D) : D.pys ds = ds.map D.py := by
  induction ds with
  | nil => rfl
  | cons d r ih => simp only [D.pys, List.map_cons, ih]
def D.flat : D → Bool
  | .non => true | .bl _ => true | .int _ => true | .str _ => true
  | _ => false
mutual
/-- no list within -/
def D.still : D → Bool
  | .lst _ => false
  | .scr _ => false
  | .tup xs => D.stills xs
  | _ => true
def D.stills : List D → Bool
  | [] => true
  | d :: ds => d.still && D.stills ds
end
def D.shaped (d : D) : Bool := SeqAt.shaped d.py
def D.eqv (a b : D) : Bool := PyData.eqv a.py b.py
def D.ints : List D → Option (List Int)
  | [] => some []
  | .int i :: r => (D.ints r).map (i :: ·)
  | _ => none
def D.bls : List D → Option (List Bool)
  | [] => some []
  | .bl i :: r => (D.bls r).map (i :: ·)
  | _ => none
def mulOk (i j : Int) : Prop := CMul i j ∨ i.natAbs.log2 + j.natAbs.log2 < 1000000
instance (i j : Int) : Decidable (mulOk i j) := by unfold mulOk CMul; infer_instance
def powOk (i j : Int) : Prop := CPow i j
instance (i j : Int) : Decidable (powOk i j) := by unfold powOk CPow; infer_instance
def opD : Op → D → D → Res D
  | .add, .int i, .int j => .ok (.int (i + j))
  | .add, .str x, .str y => if x.length + y.length ≤ sizeLine then .ok (.str (x ++ y)) else .bad
  | .add, .tup xs, .tup ys => if xs.length + ys.length ≤ sizeLine then .ok (.tup (xs ++ ys)) else .bad
  | .add, .lst xs, .lst ys => if xs.length + ys.length ≤ sizeLine then .ok (.lst (xs ++ ys)) else .bad
  | .sub, .int i, .int j => .ok (.int (i - j))
  | .mul, .int i, .int j => if mulOk i j then .ok (.int (i * j)) else .bad
  | .mul, .lst xs, .int k => if -(2 ^ 63) ≤ k ∧ k < 2 ^ 63 ∧ xs.length * k.toNat ≤ sizeLine then .ok (.lst (List.replicate k.toNat xs).flatten) else .bad
  | .mul, .tup xs, .int k => if xs ≠ [] ∧ 1 ≤ k ∧ k ≤ 1000 ∧ xs.length ≤ 1000 then .ok (.tup (List.replicate k.toNat xs).flatten) else .bad
  | .fdiv, .int i, .int j => if 0 < j ∧ j.natAbs.log2 < 9000 then .ok (.int (i / j)) else .bad
  | .mod, .int i, .int j => if 0 < j then .ok (.int (i % j)) else .bad
  | .pow, .int i, .int j => if powOk i j then .ok (.int (i ^ j.toNat)) else .bad
  | _, _, _ => .bad
def eqD (a b : D) : Res Bool := match a, b with
  | .int i, .int j => .ok (i == j)
  | .str i, .str j => .ok (decide (i = j))
  | .bl i, .bl j => .ok (i == j)
  | .non, .non => .ok true
  | a, b => if a.shaped && b.shaped then .ok (a.eqv b) else .bad
def isN : D → Bool
  | .non => true
  | _ => false
def inD (a b : D) : Res Bool := match b with
  | .lst ds => if (a.flat && ds.all D.flat) || (a.shaped && b.shaped) then .ok (ds.any fun z => z.eqv a) else .bad
  | .tup ds => if a.flat && ds.all D.flat then .ok (ds.any fun z => z.eqv a) else .bad
  | .str z => (match a with
    | .str x => if h : x.cps.size = 1 then .ok (decide (x.cps[0]'(by omega) ∈ z.cps.toList)) else .bad
    | _ => .bad)
  | _ => .bad
def cmD : Cm → D → D → Res D
  | .eq, a, b => (eqD a b) >>= fun r => .ok (.bl r)
  | .ne, a, b => (eqD a b) >>= fun r => .ok (.bl (!r))
  | .lt, .int i, .int j => .ok (.bl (decide (i < j)))
  | .le, .int i, .int j => .ok (.bl (decide (i ≤ j)))
  | .gt, .int i, .int j => .ok (.bl (decide (j < i)))
  | .ge, .int i, .int j => .ok (.bl (decide (j ≤ i)))
  | .lt, .tup xs, .tup ys => (match D.ints xs, D.ints ys with
    | some a, some b => .ok (.bl (HT.lexLt a b))
    | _, _ => .bad)
  | .isN, a, .non => .ok (.bl (isN a))
  | .notN, a, .non => .ok (.bl (!isN a))
  | .in_, a, b => (inD a b) >>= fun r => .ok (.bl r)
  | .notIn, a, b => (inD a b) >>= fun r => .ok (.bl (!r))
  | _, _, _ => .bad
def blD : D → Res Bool
  | .bl b => .ok b
  | _ => .bad
def ixD : D → D → Res D
  | .lst xs, .int i => (match atI xs i with
    | some d => .ok d
    | none => .bad)
  | .scr xs, .int i => (match atI xs i with
    | some d => .ok (.int d)
    | none => .bad)
  | .tup xs, .int i => (match atI xs i with
    | some d => .ok d
    | none => .bad)
  | .str z, .int i => if z.length ≤ sizeLine then (match atI z.cps.toList i with
    | some c => .ok (.str ⟨#[c]⟩)
    | none => .bad) else .bad
  | _, _ => .bad
/-- the items of xs[lo:hi] -/
def cutD (xs : List D) (lo hi : Option Int) : List D := (xs.drop (HT.sIx xs.length 0 lo)).take (HT.sIx xs.length xs.length hi - HT.sIx xs.length 0 lo)
def slD : D → Option Int → Option Int → Res D
  | .lst xs, lo, hi => .ok (.lst (cutD xs lo hi))
  | .tup xs, lo, hi => .ok (.tup (cutD xs lo hi))
  | .str z, lo, hi => if z.length ≤ sizeLine then .ok (.str (cutS z lo hi)) else .bad
  | _, _, _ => .bad
def strD : D → Res Str
  | .str x => .ok x
  | _ => .bad
def intD : D → Res Int
  | .int i => .ok i
  | _ => .bad
def lenD : D → Res Nat
  | .lst xs => .ok xs.length
  | .scr xs => .ok xs.length
  | .tup xs => .ok xs.length
  | .str x => if x.length ≤ sizeLine then .ok x.length else .bad
  | _ => .bad
def minL : Int → List Int → Int
  | m, [] => m
  | m, x :: r => minL (if x < m then x else m) r
def maxL : Int → List Int → Int
  | m, [] => m
  | m, x :: r => maxL (if m < x then x else m) r
def biD : Bi → List D → Res D
  | .len, [d] => lenD d >>= fun n => .ok (.int n)
  | .abs, [.int i] => .ok (.int (if i < 0 then -i else i))
  | .int, [.int i] => .ok (.int i)
  | .int, [.bl b] => .ok (.int (if b then 1 else 0))
  | .int, [.str x] => if x.cps.toList ≠ [] ∧ x.length ≤ 640 ∧ (x.cps.toList.all fun c => decide (48 ≤ c) && decide (c ≤ 57)) = true then .ok (.int (NumText.digitsVal x.cps.toList : Nat)) else .bad
  | .str, [.int i] => if i.natAbs.log2 < 1920 then .ok (.str (Str.ofString (toString i))) else .bad
  | .min, [.int i, .int j] => .ok (.int (if j < i then j else i))
  | .max, [.int i, .int j] => .ok (.int (if i < j then j else i))
  | .min, [.lst xs] => (match D.ints xs with
    | some (x :: r) => .ok (.int (minL x r))
    | _ => .bad)
  | .max, [.lst xs] => (match D.ints xs with
    | some (x :: r) => .ok (.int (maxL x r))
    | _ => .bad)
  | .sum, [.lst xs] => (match D.ints xs with
    | some ns => .ok (.int ns.sum)
    | _ => .bad)
  | .sum, [.tup xs] => (match D.ints xs with
    | some ns => .ok (.int ns.sum)
    | _ => .bad)
  | .all, [.lst xs] => (match D.bls xs with
    | some bs => .ok (.bl (bs.all id))
    | _ => .bad)
  | .any, [.lst xs] => (match D.bls xs with
    | some bs => .ok (.bl (bs.any id))
    | _ => .bad)
  | .tuple, [.lst xs] => .ok (.tup xs)
  | .tuple, [.tup xs] => .ok (.tup xs)
  | .list, [.lst xs] => .ok (.lst xs)
  | .list, [.tup xs] => .ok (.lst xs)
  | .gcd, [.int i, .int j] => .ok (.int (Nat.gcd i.natAbs j.natAbs : Nat))
  | _, _ => .bad
/-- isinstance(d, T) for a built-in T -/
def D.ty : D → String
  | .non => "NoneType" | .bl _ => "bool" | .int _ => "int" | .str _ => "str" | .tup _ => "tuple" | .lst _ => "list" | .scr _ => "list"
def isiD (d : D) (t : String) : Res D := match kitB d.ty t with
  | some b => .ok (.bl b)
  | none => .bad
/-! ### slots -/
def getV (σ : Env) (i : Nat) : Res D := match σ[i]? with
  | some (some (.v d)) => .ok d
  | some (some (.o xs)) => .ok (.lst xs)
  | _ => .bad
def setV (σ : Env) (i : Nat) (d : D) : Res Env := if i < σ.length then .ok (σ.set i (some (.v d))) else .bad
def wipeD (σ : Env) : List Nat → Env
  | [] => σ
  | i :: r => (wipeD σ r).set i none
mutual
def asg : Tg → D → Env → Res Env
  | .nm i, d, σ => setV σ i d
  | .tup ts, .tup ds, σ => asgs ts ds σ
  | .tup _, _, _ => .bad
def asgs : List Tg → List D → Env → Res Env
  | [], [], σ => .ok σ
  | t :: ts, d :: ds, σ => asg t d σ >>= fun σ1 => asgs ts ds σ1
  | _, _, _ => .bad
end
/-- a list of its own becomes one that nobody changes -/
def freeze (σ : Env) : List Nat → Env
  | [] => σ
  | i :: r => let σ1 := freeze σ r; match σ1[i]? with
    | some (some (.o xs)) => σ1.set i (some (.v (.lst xs)))
    | _ => σ1
/-! ### which lists of its own a value may hold: at its top, within -/
mutual
def lt : E → List Nat
  | .var i => [i]
  | .ife _ a b => lt a ++ lt b
  | .and a b => lt a ++ lt b
  | .or a b => lt a ++ lt b
  | .ix a _ => li a
  | .call _ es => las es
  | _ => []
def li : E → List Nat
  | .op _ a b => li a ++ li b
  | .and a b => li a ++ li b
  | .or a b => li a ++ li b
  | .ife _ a b => li a ++ li b
  | .ix a _ => li a
  | .sl a _ _ => li a
  | .tup es => las es
  | .lst es => las es
  | .comp elt _ _ _ => lt elt ++ li elt
  | .compIf elt _ _ _ _ => lt elt ++ li elt
  | .comp2 elt _ _ _ _ _ _ => lt elt ++ li elt
  | .call _ es => las es
  | .bi _ es => lis es
  | _ => []
def las : Es → List Nat
  | .nil => []
  | .cons e r => lt e ++ li e ++ las r
def lis : Es → List Nat
  | .nil => []
  | .cons e r => li e ++ lis r
end
def liS : Src → List Nat
  | .seq e => li e
  | .enum e => li e
  | .zip a b => li a ++ li b
  | _ => []
def ltS : Src → List Nat
  | .seq e => lt e
  | .enum e => lt e
  | .zip a b => lt a ++ lt b
  | _ => []
/-! ### the walk over a source -/
def itemsD : D → Res (List D)
  | .lst ds => .ok ds
  | .scr ns => .ok (ns.map D.int)
  | .tup ds => .ok ds
  | .str x => .ok (x.cps.toList.map fun c => .str ⟨#[c]⟩)
  | _ => .bad
def enumI : D → Res (List D)
  | .lst ds => .ok ds
  | _ => .bad
def zipI : D → D → Res (List D × List D)
  | .lst xs, .lst ys => .ok (xs, ys)
  | .tup xs, .tup ys => .ok (xs, ys)
  | _, _ => .bad
def enumD : Nat → List D → List D
  | _, [] => []
  | i, d :: r => .tup [.int (i : Nat), d] :: enumD (i + 1) r
def zipD : List D → List D → List D
  | a :: r, b :: s => .tup [a, b] :: zipD r s
  | _, _ => []
def rngD (a b : Int) : Res (List D) := if -(2 ^ 62) ≤ a ∧ a < 2 ^ 62 ∧ -(2 ^ 62) ≤ b ∧ b < 2 ^ 62 then .ok ((List.range (b - a).toNat).map fun i => .int (a + (i : Nat))) else .bad
/-- within a comprehension nothing is raised -/
def nox {α : Type} (r : Res α) : Res α := match r with
  | .ok a => .ok a
  | _ => .bad
@[simp] theorem nox_ok {α : Type} (a : α) : nox (Res.ok a) = .ok a := rfl
@[simp] theorem nox_bad {α : Type} : nox (Res.bad : Res α) = .bad := rfl
def mapR (f : D → Res (Option D)) : List D → Res (List D)
  | [] => .ok []
  | d :: r => f d >>= fun o => mapR f r >>= fun ds => match o with
    | some x => .ok (x :: ds)
    | none => .ok ds
def flatR (f : D → Res (List D)) : List D → Res (List D)
  | [] => .ok []
  | d :: r => f d >>= fun xs => flatR f r >>= fun ds => .ok (xs ++ ds)
section
variable (G : Str → Option D) (Φ : Str → List D → Res D)
mutual
def ev : E → Env → Res D
  | .var i, σ => getV σ i
  | .int i, _ => .ok (.int i)
  | .str x, _ => .ok (.str x)
  | .bl b, _ => .ok (.bl b)
  | .non, _ => .ok .non
  | .glob x, _ => (match G x with
    | some d => .ok d
    | none => .bad)
  | .op o a b, σ => ev a σ >>= fun x => ev b σ >>= fun y => opD o x y
  | .neg a, σ => ev a σ >>= fun x => intD x >>= fun i => .ok (.int (-i))
  | .not a, σ => ev a σ >>= fun x => blD x >>= fun b => .ok (.bl (!b))
  | .and a b, σ => ev a σ >>= fun x => blD x >>= fun c => if c then ev b σ else .ok (.bl false)
  | .or a b, σ => ev a σ >>= fun x => blD x >>= fun c => if c then .ok (.bl true) else ev b σ
  | .cmp c a b, σ => ev a σ >>= fun x => ev b σ >>= fun y => cmD c x y
  | .chain c c' a b d, σ => ev a σ >>= fun x => ev b σ >>= fun y => cmD c x y >>= fun z => blD z >>= fun k => if k then ev d σ >>= fun w => cmD c' y w else .ok (.bl false)
  | .ife c a b, σ => ev c σ >>= fun x => blD x >>= fun k => if k then ev a σ else ev b σ
  | .ix a b, σ => ev a σ >>= fun x => ev b σ >>= fun y => ixD x y
  | .sl a lo hi, σ => ev a σ >>= fun x => evo lo σ >>= fun l => evo hi σ >>= fun h => slD x l h
  | .tup es, σ => evs es σ >>= fun ds => .ok (.tup ds)
  | .lst es, σ => evs es σ >>= fun ds => .ok (.lst ds)
  | .comp elt tg src own, σ => evS src σ >>= fun items => mapR (fun x => nox (asg tg x (wipeD σ own) >>= fun σ2 => ev elt σ2 >>= fun y => .ok (some y))) items >>= fun ds => if ds.length ≤ sizeLine then .ok (.lst ds) else .bad
  | .compIf elt tg src c own, σ => evS src σ >>= fun items => mapR (fun x => nox (asg tg x (wipeD σ own) >>= fun σ2 => ev c σ2 >>= fun t => blD t >>= fun k => if k then ev elt σ2 >>= fun y => .ok (some y) else .ok none)) items >>= fun ds => if ds.length ≤ sizeLine then .ok (.lst ds) else .bad
  | .comp2 elt tg src tg1 src1 own vs1, σ => evS src σ >>= fun items => flatR (fun x => nox (asg tg x (wipeD σ own) >>= fun σ2 => evS src1 σ2 >>= fun items1 => mapR (fun x1 => nox (asg tg1 x1 (wipeD σ2 vs1) >>= fun σ3 => ev elt σ3 >>= fun y => .ok (some y))) items1)) items >>= fun ds => if ds.length ≤ sizeLine then .ok (.lst ds) else .bad
  | .call f es, σ => evs es σ >>= fun ds => Φ f ds
  | .bi b es, σ => evs es σ >>= fun ds => biD b ds
  | .isi a t, σ => ev a σ >>= fun x => isiD x t
  | .find a b, σ => ev a σ >>= fun x => strD x >>= fun s => ev b σ >>= fun y => strD y >>= fun t => .ok (.int (Txt.find s t))
def evs : Es → Env → Res (List D)
  | .nil, _ => .ok []
  | .cons e r, σ => ev e σ >>= fun d => evs r σ >>= fun ds => .ok (d :: ds)
def evo : Op1 → Env → Res (Option Int)
  | .no, _ => .ok none
  | .so e, σ => ev e σ >>= fun x => intD x >>= fun i => .ok (some i)
def evS : Src → Env → Res (List D)
  | .seq e, σ => ev e σ >>= fun x => itemsD x
  | .rng1 a, σ => ev a σ >>= fun x => intD x >>= fun i => rngD 0 i
  | .rng2 a b, σ => ev a σ >>= fun x => ev b σ >>= fun y => intD x >>= fun i => intD y >>= fun j => rngD i j
  | .enum e, σ => ev e σ >>= fun x => enumI x >>= fun ds => .ok (enumD 0 ds)
  | .zip a b, σ => ev a σ >>= fun x => ev b σ >>= fun y => zipI x y >>= fun p => .ok (zipD p.1 p.2)
end
end
/-! ### statements -/
inductive Out where
  | nx (σ : Env) | rt (d : D) | bk (σ : Env) | ct (σ : Env) | exc (c : Str) (vs : List D) | bad
def Res.out {α : Type} (r : Res α) (f : α → Out) : Out := match r with
  | .ok a => f a
  | .exc c vs => .exc c vs
  | .bad => .bad
@[simp] theorem ok_out {α : Type} (a : α) (f : α → Out) : (Res.ok a).out f = f a := rfl
@[simp] theorem exc_out {α : Type} (c : Str) (vs : List D) (f : α → Out) : (Res.exc c vs : Res α).out f = .exc c vs := rfl
@[simp] theorem bad_out {α : Type} (f : α → Out) : (Res.bad : Res α).out f = .bad := rfl
def forL (g : D → Env → Res Env) (f : Env → Out) : List D → Env → Out
  | [], σ => .nx σ
  | d :: r, σ => (g d σ).out fun σ1 => match f σ1 with
    | .nx σ2 => forL g f r σ2
    | .ct σ2 => forL g f r σ2
    | .bk σ2 => .nx σ2
    | o => o
def whL (c : Env → Res D) (f : Env → Out) : Nat → Env → Out
  | 0, _ => .bad
  | n + 1, σ => (c σ >>= blD).out fun k => if k then (match f σ with
    | .nx σ2 => whL c f n σ2
    | .ct σ2 => whL c f n σ2
    | .bk σ2 => .nx σ2
    | o => o) else .nx σ
/-- a list that the expression has just made -/
def fresh : E → Bool
  | .lst _ => true
  | .comp .. => true
  | .compIf .. => true
  | .comp2 .. => true
  | .op _ _ _ => true
  | .sl _ _ _ => true
  | .bi .list _ => true
  | .bi .sorted _ => true
  | _ => false
/-- a value that is kept: the lists that it may hold are frozen -/
def keepL (σ : Env) (d : D) (l : List Nat) : Env := if d.still then σ else freeze σ l
def setE (σ : Env) (i : Nat) (e : E) (d : D) : Res Env := if i < σ.length then (match fresh e, d with
  | true, .lst ds => .ok ((freeze σ (li e)).set i (some (.o ds)))
  | _, d => .ok ((keepL σ d (lt e ++ li e)).set i (some (.v d)))) else .bad
/-! ### except clauses -/
/-- one level of own classes below OfferError, itself below ValueError -/
def subX (x c : Str) : Bool := decide (x = c) || (decide (c = ("OfferError" : Str)) || decide (c = ("ValueError" : Str)))
def fldD : List Str → List D → Str → Res D
  | f :: fl, d :: ds, g => if f = g then .ok d else fldD fl ds g
  | _, _, _ => .bad
section
variable (xs : List (Str × List Str)) (x : Str) (ds : List D)
mutual
def heD : HE → Res D
  | .non => .ok .non
  | .bl b => .ok (.bl b)
  | .int i => .ok (.int i)
  | .str z => .ok (.str z)
  | .fld f => (match xs.lookup x with
    | some fl => fldD fl ds f
    | none => .bad)
  | .isi c => .ok (.bl (subX x c))
  | .not a => (match heD a with
    | .ok (.bl b) => .ok (.bl (!b))
    | _ => .bad)
  | .and a b => (match heD a with
    | .ok (.bl k) => if k then heD b else .ok (.bl false)
    | _ => .bad)
  | .or a b => (match heD a with
    | .ok (.bl k) => if k then .ok (.bl true) else heD b
    | _ => .bad)
  | .tup es => (match hesD es with
    | .ok es => .ok (.tup es)
    | _ => .bad)
def hesD : HEs → Res (List D)
  | .nil => .ok []
  | .cons e r => (match heD e with
    | .ok d => (match hesD r with
      | .ok es => .ok (d :: es)
      | _ => .bad)
    | _ => .bad)
end
def hnD : Hn → Res D
  | .ret e => heD xs x ds e
  | .ife c a b => (match heD xs x ds c with
    | .ok (.bl k) => if k then hnD a else hnD b
    | _ => .bad)
end
/-- a try's body that ends so, and the clause -/
def trO (xs : List (Str × List Str)) (c : Str) (h : Hn) : Out → Out
  | .exc x ds => if (xs.lookup x).isSome then (if subX x c then (match hnD xs x ds h with
    | .ok d => .rt d
    | _ => .bad) else .exc x ds) else .bad
  | o => o
def lstD : D → Res (List D)
  | .lst ds => .ok ds
  | _ => .bad
def ownL (σ : Env) (i : Nat) : Res (List D) := match σ[i]? with
  | some (some (.o xs)) => .ok xs
  | _ => .bad
section
variable (G : Str → Option D) (Φ : Str → List D → Res D) (fu : Nat)
mutual
def exS : S → Env → Out
  | .set i e, σ => (ev G Φ e σ).out fun d => (setE σ i e d).out fun σ1 => .nx σ1
  | .setT ts e, σ => (ev G Φ e σ).out fun d => (asg (.tup ts) d (keepL σ d (lt e ++ li e))).out fun σ1 => .nx σ1
  | .setIx i k e, σ => (ev G Φ e σ).out fun d => (ownL σ i).out fun _ => (ev G Φ k σ >>= intD).out fun n => (ownL (keepL σ d (lt e ++ li e)) i).out fun xs => (match ixN xs.length n with
    | some j => .nx ((keepL σ d (lt e ++ li e)).set i (some (.o (xs.set j d))))
    | none => .bad)
  | .aug i o e, σ => (getV σ i).out fun x => (ev G Φ e σ).out fun y => (match o, x, y with
    | .add, .int a, .int b => .nx (σ.set i (some (.v (.int (a + b)))))
    | .sub, .int a, .int b => .nx (σ.set i (some (.v (.int (a - b)))))
    | _, _, _ => .bad)
  | .app i e, σ => (ownL σ i).out fun _ => (ev G Φ e σ).out fun d => (ownL (keepL σ d (lt e ++ li e)) i).out fun xs => if xs.length < sizeLine then .nx ((keepL σ d (lt e ++ li e)).set i (some (.o (xs ++ [d])))) else .bad
  | .ext i e, σ => (ownL σ i).out fun _ => (ev G Φ e σ).out fun d => (lstD d).out fun ds => (ownL (freeze σ (li e)) i).out fun xs => if xs.length + ds.length ≤ sizeLine then .nx ((freeze σ (li e)).set i (some (.o (xs ++ ds)))) else .bad
  | .ins i k e, σ => .bad
  | .exp e, σ => (ev G Φ e σ).out fun _ => .nx σ
  | .ret e, σ => (ev G Φ e σ).out fun d => .rt d
  | .retN, _ => .rt .non
  | .ife c a b, σ => (ev G Φ c σ >>= blD).out fun k => if k then exL a σ else exL b σ
  | .fr tg src b, σ => (evS G Φ src σ).out fun items => forL (asg tg) (exL b) items (freeze σ (ltS src ++ liS src))
  | .wh c b, σ => whL (ev G Φ c) (exL b) fu σ
  | .brk, σ => .bk σ
  | .cont, σ => .ct σ
  | .pass, σ => .nx σ
  | .never, _ => .bad
  | .raise c es, σ => (evs G Φ es σ).out fun ds => .exc c ds
  | .tr b c _ xs h, σ => trO xs c h (exL b σ)
def exL : Ss → Env → Out
  | .nil, σ => .nx σ
  | .cons s r, σ => match exS s σ with
    | .nx σ1 => exL r σ1
    | o => o
end
end
/-- a def: how many parameters, how many names, its body -/
structure Fn where
  ar : Nat
  n : Nat
  body : Ss
def enter (n : Nat) (ds : List D) : Env := ds.map (fun d => some (.v d)) ++ List.replicate (n - ds.length) none
def callB (G : Str → Option D) (Φ : Str → List D → Res D) (fu : Nat) (f : Fn) (ds : List D) : Res D :=
  if ds.length = f.ar then (match exL G Φ fu f.body (enter f.n ds) with
    | .rt d => .ok d
    | .nx _ => .ok .non
    | .exc c vs => .exc c vs
    | _ => .bad) else .bad
structure Prg where
  G : Str → Option D
  fs : Str → Option Fn
  fu : Nat
def Prg.call (p : Prg) : Nat → Str → List D → Res D
  | 0, _, _ => .bad
  | n + 1, f, ds => match p.fs f with
    | some fn => callB p.G (p.call n) p.fu fn ds
    | none => .bad
end PyI
/-! PyI, part 2: data in a heap; a state of the interpreter over a state of the machine. -/
namespace PyI
open PySem L2
/-- the script: tracked, locked, or of the written part -/
def ScrAt (K : PySem.W.Frag) (F : Addr → Prop) (H : Hp) (a : Addr) (xs : List V) : Prop := (H a = some (.lst xs) ∧ ¬ F a) ∨ (∃ o, H a = some (.frz o (.lst xs))) ∨
  ∃ (o : Obj) (its : Array Value) (n : Nat), K.lookup a = some o ∧ o.cls = .type "list" ∧ o.dict = none ∧ o.data = .seq its n ∧ its.size ≤ sizeLine ∧ Vals xs its.toList
theorem ScrAt.seq {K : PySem.W.Frag} {F : Addr → Prop} {H : Hp} {a : Addr} {xs : List V} (h : ScrAt K F H a xs) : SqL K H a xs := by
  rcases h with ⟨h, _⟩ | ⟨o, h⟩ | h
  · exact .inl (.inl h)
  · exact .inl (.inr ⟨o, h⟩)
  · exact .inr h
section
variable (K : PySem.W.Frag) (H : Hp)
mutual
/-- the value stands for the data; no list of it is one of F, none holds itself -/
def RepF : (Addr → Prop) → D → V → Prop
  | _, .non, v => v = .non
  | _, .bl b, v => v = .bl b
  | _, .int i, v => v = .int i
  | _, .str x, v => v = .str x
  | F, .tup ds, v => ∃ a vs, v = .ref a ∧ SqT K H a vs ∧ RepFL F ds vs
  | F, .lst ds, v => ∃ a vs, v = .ref a ∧ H a = some (.lst vs) ∧ ¬ F a ∧ RepFL (fun b => F b ∨ b = a) ds vs
  | F, .scr ns, v => ∃ a, v = .ref a ∧ ScrAt K F H a (ns.map V.int)
def RepFL : (Addr → Prop) → List D → List V → Prop
  | _, [], vs => vs = []
  | F, d :: ds, vs => ∃ v r, vs = v :: r ∧ RepF F d v ∧ RepFL F ds r
end
end
abbrev Rep (K : PySem.W.Frag) (F : Addr → Prop) (H : Hp) (d : D) (v : V) : Prop := RepF K H F d v
abbrev RepL (K : PySem.W.Frag) (F : Addr → Prop) (H : Hp) (ds : List D) (vs : List V) : Prop := RepFL K H F ds vs
/-- .. at its top none of F1, within none of F2 -/
def RepT (K : PySem.W.Frag) (F1 F2 : Addr → Prop) (H : Hp) : D → V → Prop
  | .lst ds, v => ∃ a vs, v = .ref a ∧ H a = some (.lst vs) ∧ ¬ F1 a ∧ RepL K (fun b => F2 b ∨ b = a) H ds vs
  | d, v => Rep K F2 H d v
abbrev NoF : Addr → Prop := fun _ => False
section
variable {K : PySem.W.Frag} {F F' F1 F1' F2 F2' : Addr → Prop} {H H' : Hp} {d : D} {ds es : List D} {v : V} {vs ws : List V}
theorem RepF.t (h : Rep K F H d v) : RepT K F F H d v := by
  cases d <;> simpa [RepT, RepF] using h
theorem RepT.rep (h : RepT K F F H d v) : Rep K F H d v := by
  cases d <;> simpa [RepT, RepF] using h
theorem same_sqT (s : Same H H') {a : Addr} (h : SqT K H a vs) : SqT K H' a vs := by
  rcases h with (h | ⟨o, h⟩) | h
  · exact .inl (.inl (s _ _ h))
  · exact .inl (.inr ⟨o, s _ _ h⟩)
  · exact .inr h
/-- what stands away from F is kept; tuples and locked things too -/
def Kept (F : Addr → Prop) (H H' : Hp) : Prop := ∀ a o, H a = some o → (¬ F a ∨ ¬ ∃ xs, o = .lst xs) → H' a = some o
theorem same_kept (s : Same H H') : Kept F H H' := fun a o h _ => s a o h
theorem Kept.sqT (k : Kept F H H') {a : Addr} (h : SqT K H a vs) : SqT K H' a vs := by
  rcases h with (h | ⟨o, h⟩) | h
  · exact .inl (.inl (k _ _ h (.inr fun ⟨_, z⟩ => nomatch z)))
  · exact .inl (.inr ⟨o, k _ _ h (.inr fun ⟨_, z⟩ => nomatch z)⟩)
  · exact .inr h
theorem Kept.sqL (k : Kept F H H') {a : Addr} (n : ¬ F a) (h : SqL K H a vs) : SqL K H' a vs := by
  rcases h with (h | ⟨o, h⟩) | h
  · exact .inl (.inl (k _ _ h (.inl n)))
  · exact .inl (.inr ⟨o, k _ _ h (.inl n)⟩)
  · exact .inr h
mutual
theorem RepF.kept : ∀ (d : D) {F F' : Addr → Prop} (v : V), Kept F H H' → (∀ a, F' a → F a) → Rep K F H d v → Rep K F' H' d v
  | .non, _, _, v, k, w, h => h
  | .bl _, _, _, v, k, w, h => h
  | .int _, _, _, v, k, w, h => h
  | .str _, _, _, v, k, w, h => h
  | .tup ds, _, _, v, k, w, h => by
    obtain ⟨a, vs, e, hs, hl⟩ := h
    exact ⟨a, vs, e, k.sqT hs, RepFL.kept ds vs k w hl⟩
  | .lst ds, _, _, v, k, w, h => by
    obtain ⟨a, vs, e, hs, n, hl⟩ := h
    exact ⟨a, vs, e, k _ _ hs (.inl n), fun z => n (w a z), RepFL.kept ds vs (fun b o e z => k b o e (z.imp (fun y x => y (.inl x)) id)) (fun b z => z.imp (w b) id) hl⟩
  | .scr ns, _, _, v, k, w, h => by
    obtain ⟨a, e, hs⟩ := h
    refine ⟨a, e, ?_⟩
    rcases hs with ⟨h, n⟩ | ⟨o, h⟩ | h
    · exact .inl ⟨k _ _ h (.inl n), fun z => n (w a z)⟩
    · exact .inr (.inl ⟨o, k _ _ h (.inr fun ⟨_, z⟩ => nomatch z)⟩)
    · exact .inr (.inr h)
theorem RepFL.kept : ∀ (ds : List D) {F F' : Addr → Prop} (vs : List V), Kept F H H' → (∀ a, F' a → F a) → RepL K F H ds vs → RepL K F' H' ds vs
  | [], _, _, vs, k, w, h => h
  | d :: ds, _, _, vs, k, w, h => by
    obtain ⟨v, r, e, h1, h2⟩ := h
    exact ⟨v, r, e, RepF.kept d v k w h1, RepFL.kept ds r k w h2⟩
end
theorem RepF.same (s : Same H H') (h : Rep K F H d v) : Rep K F H' d v := RepF.kept d v (same_kept s) (fun _ z => z) h
theorem RepFL.same (s : Same H H') (h : RepL K F H ds vs) : RepL K F H' ds vs := RepFL.kept ds vs (same_kept s) (fun _ z => z) h
theorem RepF.weak (w : ∀ a, F' a → F a) (h : Rep K F H d v) : Rep K F' H d v := RepF.kept d v (same_kept (Same.refl H)) w h
theorem RepFL.weak (w : ∀ a, F' a → F a) (h : RepL K F H ds vs) : RepL K F' H ds vs := RepFL.kept ds vs (same_kept (Same.refl H)) w h
theorem RepT.same (s : Same H H') (h : RepT K F1 F2 H d v) : RepT K F1 F2 H' d v := by
  cases d with
  | lst ds =>
    obtain ⟨a, vs, e, hs, n, hl⟩ := h
    exact ⟨a, vs, e, s _ _ hs, n, RepFL.same s hl⟩
  | _ => exact RepF.same s (show Rep K F2 H _ v from h)
theorem RepT.weak (w1 : ∀ a, F1' a → F1 a) (w2 : ∀ a, F2' a → F2 a) (h : RepT K F1 F2 H d v) : RepT K F1' F2' H d v := by
  cases d with
  | lst ds =>
    obtain ⟨a, vs, e, hs, n, hl⟩ := h
    exact ⟨a, vs, e, hs, fun z => n (w1 a z), RepFL.weak (fun b z => z.imp (w2 b) id) hl⟩
  | _ => exact RepF.weak w2 (show Rep K F2 H _ v from h)
mutual
theorem RepF.still_any : ∀ (d : D) (v : V), d.still = true → Rep K F H d v → Rep K F' H d v
  | .non, v, _, h => h
  | .bl _, v, _, h => h
  | .int _, v, _, h => h
  | .str _, v, _, h => h
  | .tup ds, v, s, h => by
    obtain ⟨a, vs, e, hs, hl⟩ := h
    exact ⟨a, vs, e, hs, RepFL.still_any ds vs s hl⟩
  | .lst ds, v, s, h => by cases s
  | .scr ds, v, s, h => by cases s
theorem RepFL.still_any : ∀ (ds : List D) (vs : List V), D.stills ds = true → RepL K F H ds vs → RepL K F' H ds vs
  | [], vs, _, h => h
  | d :: ds, vs, s, h => by
    obtain ⟨v, r, e, h1, h2⟩ := h
    have s2 : (d.still && D.stills ds) = true := s
    rw [Bool.and_eq_true] at s2
    exact ⟨v, r, e, RepF.still_any d v s2.1 h1, RepFL.still_any ds r s2.2 h2⟩
end
theorem RepT.still_any (s : d.still = true) (h : RepT K F1 F2 H d v) : Rep K F' H d v := by
  cases d with
  | lst ds => cases s
  | _ => exact RepF.still_any (F := F2) _ v s h
theorem dp_ints : ∀ ns : List Int, DpAll K H (ns.map V.int) (ns.map PyData.int)
  | [] => .nil
  | n :: r => .cons (.int n) (dp_ints r)
mutual
theorem RepF.dp : ∀ (d : D) {F : Addr → Prop} (v : V), Rep K F H d v → Dp K H v d.py
  | .non, _, v, h => by cases (show v = .non from h); exact .non
  | .bl b, _, v, h => by cases (show v = .bl b from h); exact .bl b
  | .int i, _, v, h => by cases (show v = .int i from h); exact .int i
  | .str x, _, v, h => by cases (show v = .str x from h); exact .str x
  | .tup ds, _, v, h => by
    obtain ⟨a, vs, rfl, hs, hl⟩ := h
    exact .tup hs (RepFL.dp ds vs hl)
  | .lst ds, _, v, h => by
    obtain ⟨a, vs, rfl, hs, n, hl⟩ := h
    exact .lst (SqL.of hs) (RepFL.dp ds vs hl)
  | .scr ns, _, v, h => by
    obtain ⟨a, rfl, hs⟩ := h
    exact .lst hs.seq (dp_ints ns)
theorem RepFL.dp : ∀ (ds : List D) {F : Addr → Prop} (vs : List V), RepL K F H ds vs → DpAll K H vs (D.pys ds)
  | [], _, vs, h => by cases (show vs = [] from h); exact .nil
  | d :: ds, _, vs, h => by
    obtain ⟨v, r, rfl, h1, h2⟩ := h
    exact .cons (RepF.dp d v h1) (RepFL.dp ds r h2)
end
theorem RepT.dp (h : RepT K F1 F2 H d v) : Dp K H v d.py := by
  cases d with
  | lst ds =>
    obtain ⟨a, vs, rfl, hs, n, hl⟩ := h
    exact .lst (SqL.of hs) (RepFL.dp ds vs hl)
  | _ => exact RepF.dp _ v (show Rep K F2 H _ v from h)
/-- a list opened -/
theorem RepT.un {ds : List D} (h : RepT K F1 F2 H (.lst ds) v) : ∃ a vs, v = .ref a ∧ H a = some (.lst vs) ∧ ¬ F1 a ∧ RepL K F2 H ds vs := by
  obtain ⟨a, vs, e, hs, n, hl⟩ := h
  exact ⟨a, vs, e, hs, n, RepFL.weak (fun b z => .inl z) hl⟩
theorem RepFL.length : ∀ {ds : List D} {vs : List V}, RepL K F H ds vs → ds.length = vs.length
  | [], _, h => by cases (show _ = [] from h); rfl
  | d :: ds, _, h => by
    obtain ⟨v, r, rfl, _, h2⟩ := h
    rw [List.length_cons, List.length_cons, RepFL.length h2]
theorem RepFL.get : ∀ {ds : List D} {vs : List V} {i : Nat} {d : D}, RepL K F H ds vs → ds[i]? = some d → ∃ v, vs[i]? = some v ∧ Rep K F H d v
  | [], _, _, _, _, e => by simp at e
  | d :: ds, _, 0, _, h, e => by
    obtain ⟨v, r, rfl, h1, _⟩ := h
    simp at e
    subst e
    exact ⟨v, rfl, h1⟩
  | d :: ds, _, i + 1, _, h, e => by
    obtain ⟨v, r, rfl, _, h2⟩ := h
    obtain ⟨w, h3, h4⟩ := RepFL.get h2 (by simpa using e)
    exact ⟨w, by simpa using h3, h4⟩
theorem RepFL.append : ∀ {ds : List D} {vs : List V}, RepL K F H ds vs → RepL K F H es ws → RepL K F H (ds ++ es) (vs ++ ws)
  | [], _, h, h' => by cases (show _ = [] from h); exact h'
  | d :: ds, _, h, h' => by
    obtain ⟨v, r, rfl, h1, h2⟩ := h
    exact ⟨v, r ++ ws, rfl, h1, h2.append h'⟩
theorem RepFL.take (n : Nat) : ∀ {ds : List D} {vs : List V}, RepL K F H ds vs → RepL K F H (ds.take n) (vs.take n) := by
  induction n with
  | zero => intro ds vs _; rfl
  | succ n ih =>
    intro ds vs h
    cases ds with
    | nil => cases (show vs = [] from h); rfl
    | cons d ds =>
      obtain ⟨v, r, rfl, h1, h2⟩ := h
      exact ⟨v, r.take n, rfl, h1, ih h2⟩
theorem RepFL.drop (n : Nat) : ∀ {ds : List D} {vs : List V}, RepL K F H ds vs → RepL K F H (ds.drop n) (vs.drop n) := by
  induction n with
  | zero => intro ds vs h; exact h
  | succ n ih =>
    intro ds vs h
    cases ds with
    | nil => cases (show vs = [] from h); rfl
    | cons d ds =>
      obtain ⟨v, r, rfl, h1, h2⟩ := h
      exact ih h2
theorem RepFL.set (n : Nat) (hd : Rep K F H d v) : ∀ {ds : List D} {vs : List V}, RepL K F H ds vs → RepL K F H (ds.set n d) (vs.set n v) := by
  induction n with
  | zero =>
    intro ds vs h
    cases ds with
    | nil => cases (show vs = [] from h); rfl
    | cons e ds =>
      obtain ⟨w, r, rfl, h1, h2⟩ := h
      exact ⟨v, r, rfl, hd, h2⟩
  | succ n ih =>
    intro ds vs h
    cases ds with
    | nil => cases (show vs = [] from h); rfl
    | cons e ds =>
      obtain ⟨w, r, rfl, h1, h2⟩ := h
      exact ⟨w, r.set n v, rfl, h1, ih h2⟩
theorem RepFL.rep (n : Nat) (h : RepL K F H ds vs) : RepL K F H (List.replicate n ds).flatten (List.replicate n vs).flatten := by
  induction n with
  | zero => rfl
  | succ n ih =>
    rw [List.replicate_succ, List.replicate_succ, List.flatten_cons, List.flatten_cons]
    exact h.append ih
theorem RepFL.one (h : Rep K F H d v) : RepL K F H [d] [v] := ⟨v, [], rfl, h, rfl⟩
theorem RepFL.of_get : ∀ {ds : List D} {vs : List V}, ds.length = vs.length → (∀ (i : Nat) (d : D) (v : V), ds[i]? = some d → vs[i]? = some v → Rep K F H d v) → RepL K F H ds vs
  | [], vs, h, _ => by
    cases vs with
    | nil => rfl
    | cons v r => simp at h
  | d :: ds, vs, h, hg => by
    cases vs with
    | nil => simp at h
    | cons v r => exact ⟨v, r, rfl, hg 0 d v rfl rfl, RepFL.of_get (by simpa using h) fun i e w h1 h2 => hg (i + 1) e w (by simpa using h1) (by simpa using h2)⟩
theorem RepFL.ints : ∀ {ds : List D} {vs : List V} {ns : List Int}, RepL K F H ds vs → D.ints ds = some ns → vs = ns.map V.int
  | [], vs, ns, h, e => by
    cases (show vs = [] from h)
    cases (Option.some.inj e)
    rfl
  | .int i :: ds, vs, ns, h, e => by
    obtain ⟨v, r, rfl, h1, h2⟩ := h
    have e' : (D.ints ds).map (i :: ·) = some ns := e
    cases q : D.ints ds with
    | none => rw [q] at e'; cases e'
    | some ms =>
      rw [q] at e'
      cases Option.some.inj e'
      cases (show v = .int i from h1)
      rw [RepFL.ints h2 q]
      rfl
  | .non :: _, _, _, _, e => by cases e
  | .bl _ :: _, _, _, _, e => by cases e
  | .str _ :: _, _, _, _, e => by cases e
  | .tup _ :: _, _, _, _, e => by cases e
  | .lst _ :: _, _, _, _, e => by cases e
  | .scr _ :: _, _, _, _, e => by cases e
theorem RepFL.bls : ∀ {ds : List D} {vs : List V} {ns : List Bool}, RepL K F H ds vs → D.bls ds = some ns → vs = ns.map V.bl
  | [], vs, ns, h, e => by
    cases (show vs = [] from h)
    cases (Option.some.inj e)
    rfl
  | .bl i :: ds, vs, ns, h, e => by
    obtain ⟨v, r, rfl, h1, h2⟩ := h
    have e' : (D.bls ds).map (i :: ·) = some ns := e
    cases q : D.bls ds with
    | none => rw [q] at e'; cases e'
    | some ms =>
      rw [q] at e'
      cases Option.some.inj e'
      cases (show v = .bl i from h1)
      rw [RepFL.bls h2 q]
      rfl
  | .non :: _, _, _, _, e => by cases e
  | .int _ :: _, _, _, _, e => by cases e
  | .str _ :: _, _, _, _, e => by cases e
  | .tup _ :: _, _, _, _, e => by cases e
  | .lst _ :: _, _, _, _, e => by cases e
  | .scr _ :: _, _, _, _, e => by cases e
theorem RepF.flatV : ∀ {d : D} {v : V}, Rep K F H d v → d.flat = true → L2.flatV v = true
  | .non, _, h, _ => by cases (show _ = V.non from h); rfl
  | .bl _, _, h, _ => by cases (show _ = V.bl _ from h); rfl
  | .int _, _, h, _ => by cases (show _ = V.int _ from h); rfl
  | .str _, _, h, _ => by cases (show _ = V.str _ from h); rfl
  | .tup _, _, _, h => by cases h
  | .lst _, _, _, h => by cases h
  | .scr _, _, _, h => by cases h
theorem RepT.flat (h : RepT K F1 F2 H d v) (f : d.flat = true) : Rep K F H d v := by
  cases d with
  | lst _ => cases f
  | tup _ => cases f
  | scr _ => cases f
  | _ => exact h
theorem RepF.eqV {e : D} {w : V} (h : Rep K F H d v) (h' : Rep K F' H e w) (f : d.flat = true) (f' : e.flat = true) : L2.eqV v w = D.eqv d e := by
  cases d with
  | tup _ => cases f
  | lst _ => cases f
  | scr _ => cases f
  | non => cases (show v = _ from h); cases e <;> first | (cases f'; done) | (cases (show w = _ from h'); rfl)
  | bl b => cases (show v = _ from h); cases e <;> first | (cases f'; done) | (cases (show w = _ from h'); rfl)
  | int i => cases (show v = _ from h); cases e <;> first | (cases f'; done) | (cases (show w = _ from h'); rfl)
  | str x =>
    cases (show v = _ from h)
    cases e with
    | tup _ => cases f'
    | lst _ => cases f'
    | scr _ => cases f'
    | str y => cases (show w = _ from h'); rfl
    | _ => cases (show w = _ from h'); rfl
theorem RepFL.inV {x : D} {w : V} (hx : Rep K F' H x w) (fx : x.flat = true) : ∀ {ds : List D} {vs : List V}, RepL K F H ds vs → ds.all D.flat = true → vs.all L2.flatV = true ∧ L2.inV w vs = ds.any fun z => z.eqv x
  | [], vs, h, _ => by cases (show vs = [] from h); exact ⟨rfl, rfl⟩
  | d :: ds, vs, h, f => by
    obtain ⟨v, r, rfl, h1, h2⟩ := h
    rw [List.all_cons, Bool.and_eq_true] at f
    obtain ⟨a, b⟩ := RepFL.inV hx fx h2 f.2
    refine ⟨by rw [List.all_cons, h1.flatV f.1, a]; rfl, ?_⟩
    show (List.any (v :: r) fun y => L2.eqV y w) = _
    rw [List.any_cons, List.any_cons, h1.eqV hx f.1 fx]
    have b' : (List.any r fun y => L2.eqV y w) = _ := b
    rw [b']
theorem RepF.non_iff (h : Rep K F H d v) : decide (v = .non) = isN d := by
  cases d with
  | non => cases (show v = _ from h); rfl
  | bl _ => cases (show v = _ from h); rfl
  | int _ => cases (show v = _ from h); rfl
  | str _ => cases (show v = _ from h); rfl
  | tup _ => obtain ⟨a, vs, rfl, _⟩ := h; rfl
  | lst _ => obtain ⟨a, vs, rfl, _⟩ := h; rfl
  | scr _ => obtain ⟨a, rfl, _⟩ := h; rfl
theorem RepT.non_iff (h : RepT K F1 F2 H d v) : decide (v = .non) = isN d := by
  cases d with
  | lst _ => obtain ⟨a, vs, rfl, _⟩ := h; rfl
  | _ => exact RepF.non_iff (K := K) (H := H) (F := F2) (show Rep K F2 H _ v from h)
theorem RepT.len (h : RepT K F1 F2 H d v) {n : Nat} (e : lenD d = .ok n) : LenV K v H n := by
  cases d with
  | lst ds =>
    obtain ⟨a, vs, rfl, hs, _, hl⟩ := h
    cases e
    exact .inl ⟨vs, SqL.of hs, hl.length⟩
  | scr ns =>
    obtain ⟨a, rfl, hs⟩ := h
    cases e
    exact .inl ⟨_, hs.seq, (List.length_map _).symm⟩
  | tup ds =>
    obtain ⟨a, vs, rfl, hs, hl⟩ := h
    cases e
    exact .inr ⟨vs, hs, hl.length⟩
  | str x =>
    cases (show v = .str x from h)
    have e' : (if x.length ≤ sizeLine then Res.ok x.length else Res.bad) = Res.ok n := e
    by_cases z : x.length ≤ sizeLine
    · rw [if_pos z] at e'
      cases e'
      exact ⟨z, rfl⟩
    · rw [if_neg z] at e'
      cases e'
  | _ => cases e
theorem RepT.tyOf (h : RepT K F1 F2 H d v) : TyX K H v (.type d.ty) := by
  cases d with
  | non => cases (show v = _ from h); exact .base .non
  | bl b => cases (show v = _ from h); exact .base (.bl b)
  | int i => cases (show v = _ from h); exact .base (.int i)
  | str x => cases (show v = _ from h); exact .base (.str x)
  | tup ds =>
    obtain ⟨a, vs, rfl, (h | ⟨o, h⟩) | ⟨o, its, n, h, hc, _⟩, _⟩ := h
    · exact .base (.tup h)
    · exact .fTuple h
    · exact .kTuple h hc
  | lst ds =>
    obtain ⟨a, vs, rfl, h, _⟩ := h
    exact .base (.lst h)
  | scr ns =>
    obtain ⟨a, rfl, ⟨h, _⟩ | ⟨o, h⟩ | ⟨o, its, n, h, hc, _⟩⟩ := h
    · exact .base (.lst h)
    · exact .base (.frz h)
    · exact .kList h hc
end
section
variable {K : PySem.W.Frag} {F Y : Addr → Prop} {H : Hp}
mutual
/-- what stands in H holds no list that is younger than H -/
theorem RepF.older (y : ∀ a, Y a → H a = none) : ∀ (d : D) {F : Addr → Prop} (v : V), Rep K F H d v → Rep K (fun a => F a ∨ Y a) H d v
  | .non, _, v, h => h
  | .bl _, _, v, h => h
  | .int _, _, v, h => h
  | .str _, _, v, h => h
  | .tup ds, _, v, h => by
    obtain ⟨a, vs, e, hs, hl⟩ := h
    exact ⟨a, vs, e, hs, RepFL.older y ds vs hl⟩
  | .lst ds, F, v, h => by
    obtain ⟨a, vs, e, hs, n, hl⟩ := h
    refine ⟨a, vs, e, hs, ?_, RepFL.weak (F := fun b => (F b ∨ b = a) ∨ Y b) (fun b z => ?_) (RepFL.older y ds vs hl)⟩
    · rintro (z | z)
      · exact n z
      · rw [y a z] at hs; cases hs
    · rcases z with (z | z) | z
      · exact .inl (.inl z)
      · exact .inr z
      · exact .inl (.inr z)
  | .scr ns, _, v, h => by
    obtain ⟨a, e, hs⟩ := h
    refine ⟨a, e, ?_⟩
    rcases hs with ⟨h, n⟩ | h | h
    · refine .inl ⟨h, ?_⟩
      rintro (z | z)
      · exact n z
      · rw [y a z] at h; cases h
    · exact .inr (.inl h)
    · exact .inr (.inr h)
theorem RepFL.older (y : ∀ a, Y a → H a = none) : ∀ (ds : List D) {F : Addr → Prop} (vs : List V), RepL K F H ds vs → RepL K (fun a => F a ∨ Y a) H ds vs
  | [], _, vs, h => h
  | d :: ds, _, vs, h => by
    obtain ⟨v, r, e, h1, h2⟩ := h
    exact ⟨v, r, e, RepF.older y d v h1, RepFL.older y ds r h2⟩
end
end
theorem kept_upd {F : Addr → Prop} {H : Hp} {p : Addr} {o : HO} (f : F p) (h : ∃ xs, H p = some (.lst xs)) : Kept F H (upd H p o) := fun a u e n => by
  by_cases q : a = p
  · subst q
    obtain ⟨xs, hx⟩ := h
    rw [hx] at e
    cases e
    exact (n.elim (fun z => z f) fun z => z ⟨xs, rfl⟩).elim
  · rw [upd_ne q]
    exact e
theorem same_upd {H : Hp} {p : Addr} {o : HO} (h : H p = none) : Same H (upd H p o) := fun b x e => by
  rw [upd_ne (ne_of_none e h)]
  exact e
end PyI
/-! PyI, part 3: the interpreter's operations against the layer's rules, value by value. -/
namespace PyI
open PySem PySem.Spec PyProof.Rows L2
theorem ok_if {α : Type} {c : Prop} [Decidable c] {a d : α} (h : (if c then Res.ok a else Res.bad) = Res.ok d) : c ∧ a = d := by
  by_cases z : c
  · rw [if_pos z] at h
    cases h
    exact ⟨z, rfl⟩
  · rw [if_neg z] at h
    cases h
/-- a result and what is wanted of it -/
def Gv (K : PySem.W.Frag) (F1 F : Addr → Prop) (H : Hp) (r : Res D) (Q : VK) : Prop := ∃ d, r = .ok d ∧ ∀ v H', Same H H' → RepT K F1 F H' d v → Q v H'
abbrev FOk (F : Addr → Prop) (H : Hp) : Prop := ∀ a, F a → H a ≠ none
theorem FOk.new {F : Addr → Prop} {H : Hp} (h : FOk F H) {p : Addr} (n : H p = none) : ¬ F p := fun z => h p z n
theorem FOk.same {F : Addr → Prop} {H H' : Hp} (h : FOk F H) (s : Same H H') : FOk F H' := fun a z n => h a z (s.free n)
def pyOp : Op → Operator
  | .add => .Add | .sub => .Sub | .mul => .Mult | .fdiv => .FloorDiv | .mod => .Mod | .pow => .Pow
def rOpD (K : PySem.W.Frag) (o : Op) : R2 := fun x y H Q => ∃ F1 F dx dy, FOk F1 H ∧ RepT K NoF F H dx x ∧ RepT K NoF F H dy y ∧ Gv K F1 F H (opD o dx dy) Q
section
variable {X : Cx}
theorem tup_new {K : PySem.W.Frag} {F1 F : Addr → Prop} {H : Hp} {p : Addr} {ds : List D} {vs : List V} (hp : H p = none) (r : RepL K F H ds vs) : RepT K F1 F (upd H p (.tup vs)) (.tup ds) (.ref p) :=
  ⟨p, vs, rfl, SqT.of upd_same, r.same (same_upd hp)⟩
theorem lst_new {K : PySem.W.Frag} {F1 F : Addr → Prop} {H : Hp} {p : Addr} {ds : List D} {vs : List V} (hF : FOk F1 H) (hp : H p = none) (r : RepL K F H ds vs) : RepT K F1 F (upd H p (.lst vs)) (.lst ds) (.ref p) :=
  ⟨p, vs, rfl, upd_same, hF.new hp, (RepFL.older (Y := fun b => b = p) (fun a z => by rw [z]; exact hp) ds vs r).same (same_upd hp)⟩
theorem tup_mul1 (l : Addr) (items : Array Value) (n : Nat) (dd : Option Addr) (sl : Array (Option Value)) (u : Tok) :
    Meets (Builtin.«tuple.__mul__» ⟨[.ref l, .int 1 u], []⟩) (fun _ R s => s.heap.get? l = some { cls := .type "tuple", dict := dd, data := .seq items n, slots := sl } ∧ R (.ok (.ret (Value.ref l))) s) :=
  .of_wp fun prog w A R s h => by
    obtain ⟨hp, g, d, tk, os⟩ := s
    obtain ⟨hl, h⟩ := h
    have idx := AutoSeq1.idx_int
    have small : (decide ((1 : Int) < -(2 ^ 63)) || decide ((1 : Int) ≥ 2 ^ 63)) = false := by decide
    have one : (items.isEmpty || (1 : Int) == 1) = true := by simp
    wp_walk using wpAny_loadPart' hl
    repeat (first
      | (refine wpAny_ite_false (decide_eq_false (by rw [small]; decide)) ?_; wp_walk using wpAny_loadPart' hl)
      | (refine wpAny_ite_true (decide_eq_true (by rw [one])) ?_; wp_walk using wpAny_loadPart' hl))
    exact ⟨_, rfl, h⟩
theorem op_rep1 {pins : List (Addr × Obj)} {s : Shared} {σ : L2.St} {H : Hp} {a : Addr} {t : Tok} {xs : List V} {Q : VK} (I : Inv X pins σ H s) (hT : SqT X.K H a xs) (q : Q (.ref a) H) : wpAny (model X.prog X.w) X.A (binaryOp .Mult (.ref a) (.int 1 t)) (EP X pins σ Q) X.xe s := by
  obtain ⟨its, r, ⟨⟨cls, dd, data, sl⟩, ho, hc, n, hd⟩, hs⟩ := I.tuple hT
  simp only at hc hd
  subst hc hd
  exact wpAny_binaryOp_repeat_ref (T := "tuple") (U := "int") (by decide) ⟨_, ho, rfl⟩ (fun s' => typeIs_int s' 1 t) noFill_tuple_mul F.fills_int_mul F.slot_int_rmul repeat_tuple F.slot_int_index.lookup
    (call_meets F.slot_int_rmul (typeIs_int s 1 t) F.entry_int_rmul (F.args_int_rmul_2 _ _) (int_rmul_tuple 1 t a its.toArray n dd sl)
      ⟨ho, rfl, ⟨_, ho, rfl⟩, call_meets F.slot_tuple_mul ⟨_, ho, rfl⟩ F.entry_tuple_mul (F.args_tuple_mul_2 _ _) (tup_mul1 a its.toArray n dd sl t) ⟨ho, .ref a, H, I, rfl, q⟩⟩)
theorem op_ok (o : Op) : OpR X (binaryOp (pyOp o)) (rOpD X.K o) := by
  intro pins s σ H x y v u Q I rx ry h
  obtain ⟨F1, F, dx, dy, hF, r1, r2, d, e, q⟩ := h
  cases o with
  | add =>
    cases dx with
    | int i =>
      cases dy with
      | int j => cases e; exact op_add pins s σ H _ _ v u Q I rx ry ⟨i, j, r1, r2, q _ _ (Same.refl _) rfl⟩
      | _ => cases e
    | str i =>
      cases dy with
      | str j =>
        obtain ⟨hz, rfl⟩ := ok_if e
        exact op_add_str pins s σ H _ _ v u Q I rx ry ⟨i, j, r1, r2, hz, q _ _ (Same.refl _) rfl⟩
      | _ => cases e
    | tup xs =>
      cases dy with
      | tup ys =>
        obtain ⟨hz, rfl⟩ := ok_if e
        obtain ⟨a, vs, rfl, s1, l1⟩ := r1
        obtain ⟨b, ws, rfl, s2, l2⟩ := r2
        have z1 := l1.length
        have z2 := l2.length
        refine op_catA pins s σ H _ _ v u Q I rx ry ⟨a, b, vs, ws, rfl, rfl, s1, s2, by omega, fun e1 => ?_, fun _ e2 => ?_, fun _ _ p hp => ?_⟩
        · subst e1
          cases xs with
          | nil => exact q _ _ (Same.refl _) ⟨b, ws, rfl, s2, l2⟩
          | cons _ _ => simp at z1
        · subst e2
          cases ys with
          | nil => rw [List.append_nil] at q; exact q _ _ (Same.refl _) ⟨a, vs, rfl, s1, l1⟩
          | cons _ _ => simp at z2
        · exact q _ _ (same_upd hp) (tup_new hp (l1.append l2))
      | _ => cases e
    | lst xs =>
      cases dy with
      | lst ys =>
        obtain ⟨hz, rfl⟩ := ok_if e
        obtain ⟨a, vs, rfl, s1, _, l1⟩ := r1.un
        obtain ⟨b, ws, rfl, s2, _, l2⟩ := r2.un
        have z1 := l1.length
        have z2 := l2.length
        exact op_cat pins s σ H _ _ v u Q I rx ry ⟨a, b, vs, ws, rfl, rfl, s1, s2, by omega, fun p hp => q _ _ (same_upd hp) (lst_new hF hp (l1.append l2))⟩
      | _ => cases e
    | _ => cases e
  | sub =>
    cases dx with
    | int i =>
      cases dy with
      | int j => cases e; exact op_sub pins s σ H _ _ v u Q I rx ry ⟨i, j, r1, r2, q _ _ (Same.refl _) rfl⟩
      | _ => cases e
    | _ => cases e
  | mul =>
    cases dx with
    | int i =>
      cases dy with
      | int j =>
        obtain ⟨hz, rfl⟩ := ok_if e
        rcases hz with hz | hz
        · exact op_mul pins s σ H _ _ v u Q I rx ry ⟨i, j, r1, r2, hz, q _ _ (Same.refl _) rfl⟩
        · exact op_mulW pins s σ H _ _ v u Q I rx ry ⟨i, j, r1, r2, hz, q _ _ (Same.refl _) rfl⟩
      | _ => cases e
    | lst xs =>
      cases dy with
      | int k =>
        obtain ⟨⟨h1, h2, h3⟩, rfl⟩ := ok_if e
        obtain ⟨a, vs, rfl, s1, _, l1⟩ := r1.un
        have z1 := l1.length
        exact op_rep pins s σ H _ _ v u Q I rx ry ⟨a, k, vs, rfl, r2, s1, h1, h2, by rw [← z1]; exact h3, fun p hp => q _ _ (same_upd hp) (lst_new hF hp (l1.rep _))⟩
      | _ => cases e
    | tup xs =>
      cases dy with
      | int k =>
        obtain ⟨⟨h0, h1, h2, h3⟩, rfl⟩ := ok_if e
        obtain ⟨a, vs, rfl, s1, l1⟩ := r1
        have z1 := l1.length
        by_cases hk : k = 1
        · subst hk
          cases rx
          cases (show y = .int 1 from r2)
          obtain ⟨t, rfl⟩ := ry
          refine op_rep1 I s1 (q _ _ (Same.refl _) ⟨a, vs, rfl, s1, ?_⟩)
          show RepL X.K F H (List.replicate 1 xs).flatten vs
          rw [List.replicate_one, List.flatten_singleton]
          exact l1
        · exact op_repT pins s σ H _ _ v u Q I rx ry ⟨a, k, vs, rfl, r2, s1, fun z => h0 (List.eq_nil_of_length_eq_zero (by rw [z1, z]; rfl)), by omega, h2, by omega, fun p hp => q _ _ (same_upd hp) (tup_new hp (l1.rep _))⟩
      | _ => cases e
    | _ => cases e
  | fdiv =>
    cases dx with
    | int i =>
      cases dy with
      | int j =>
        obtain ⟨hz, rfl⟩ := ok_if e
        exact op_fdivW pins s σ H _ _ v u Q I rx ry ⟨i, j, r1, r2, hz, q _ _ (Same.refl _) rfl⟩
      | _ => cases e
    | _ => cases e
  | mod =>
    cases dx with
    | int i =>
      cases dy with
      | int j =>
        obtain ⟨hz, rfl⟩ := ok_if e
        exact op_mod pins s σ H _ _ v u Q I rx ry ⟨i, j, r1, r2, hz, q _ _ (Same.refl _) rfl⟩
      | _ => cases e
    | _ => cases e
  | pow =>
    cases dx with
    | int i =>
      cases dy with
      | int j =>
        obtain ⟨hz, rfl⟩ := ok_if e
        exact op_pow pins s σ H _ _ v u Q I rx ry ⟨i, j, r1, r2, hz, q _ _ (Same.refl _) rfl⟩
      | _ => cases e
    | _ => cases e
/-! ### comparisons -/
def pyCm : Cm → CmpOp
  | .eq => .Eq | .ne => .NotEq | .lt => .Lt | .le => .LtE | .gt => .Gt | .ge => .GtE | .isN => .Is | .notN => .IsNot | .in_ => .In | .notIn => .NotIn
def rCmD (K : PySem.W.Frag) (o : Cm) : R2 := fun x y H Q => ∃ F F1 F1' F' dx dy d, RepT K F1 F H dx x ∧ RepT K F1' F' H dy y ∧ cmD o dx dy = .ok d ∧ ∀ b, d = .bl b → Q (.bl b) H
theorem bind_ok {α β : Type} {r : Res α} {f : α → Res β} {b : β} (h : (r >>= f) = .ok b) : ∃ a, r = .ok a ∧ f a = .ok b := by
  cases r with
  | ok a => exact ⟨a, rfl, h⟩
  | exc c vs => cases h
  | bad => cases h
theorem eqD_run {K : PySem.W.Frag} {F F1 F' F1' : Addr → Prop} {H : Hp} {dx dy : D} {x y : V} {b : Bool} (r1 : RepT K F1 F H dx x) (r2 : RepT K F1' F' H dy y) (e : eqD dx dy = .ok b) :
    (scal x y = true ∧ b = decide (x = y)) ∨ (Dp K H x dx.py ∧ Dp K H y dy.py ∧ SeqAt.shaped dx.py = true ∧ SeqAt.shaped dy.py = true ∧ b = PyData.eqv dx.py dy.py) := by
  have deep : (if (dx.shaped && dy.shaped) = true then Res.ok (dx.eqv dy) else Res.bad) = Res.ok b → Dp K H x dx.py ∧ Dp K H y dy.py ∧ SeqAt.shaped dx.py = true ∧ SeqAt.shaped dy.py = true ∧ b = PyData.eqv dx.py dy.py := fun h => by
    obtain ⟨c, rfl⟩ := ok_if h
    rw [Bool.and_eq_true] at c
    exact ⟨r1.dp, r2.dp, c.1, c.2, rfl⟩
  cases dx with
  | int i =>
    cases dy with
    | int j =>
      cases e
      cases (show x = .int i from r1)
      cases (show y = .int j from r2)
      exact .inl ⟨rfl, dec_int.symm⟩
    | _ => exact .inr (deep e)
  | str i =>
    cases dy with
    | str j =>
      cases e
      cases (show x = .str i from r1)
      cases (show y = .str j from r2)
      refine .inl ⟨rfl, ?_⟩
      by_cases z : i = j
      · subst z; simp
      · rw [decide_eq_false z, decide_eq_false (fun q => z (V.str.inj q))]
    | _ => exact .inr (deep e)
  | bl i =>
    cases dy with
    | bl j =>
      cases e
      cases (show x = .bl i from r1)
      cases (show y = .bl j from r2)
      exact .inl ⟨rfl, dec_bl.symm⟩
    | _ => exact .inr (deep e)
  | non =>
    cases dy with
    | non =>
      cases e
      cases (show x = .non from r1)
      cases (show y = .non from r2)
      exact .inl ⟨rfl, rfl⟩
    | _ => exact .inr (deep e)
  | tup _ => exact .inr (deep e)
  | lst _ => exact .inr (deep e)
  | scr _ => exact .inr (deep e)
theorem inD_run {K : PySem.W.Frag} {F F1 F' F1' : Addr → Prop} {H : Hp} {dx dy : D} {x y : V} {b : Bool} (r1 : RepT K F1 F H dx x) (r2 : RepT K F1' F' H dy y) (e : inD dx dy = .ok b) :
    (∃ p xs, y = .ref p ∧ (SqL K H p xs ∨ SqT K H p xs) ∧ L2.flatV x = true ∧ xs.all L2.flatV = true ∧ b = L2.inV x xs) ∨
    (∃ ds, Dp K H x dx.py ∧ Dp K H y (.list ds) ∧ SeqAt.shaped dx.py = true ∧ SeqAt.shaped (.list ds) = true ∧ b = ds.any fun z => PyData.eqv z dx.py) ∨
    (∃ (c : Nat) (z : Str), x = .str ⟨#[c]⟩ ∧ y = .str z ∧ b = decide (c ∈ z.cps.toList)) := by
  cases dy with
  | lst ds =>
    obtain ⟨c, rfl⟩ := ok_if (show (if ((dx.flat && ds.all D.flat) || (dx.shaped && (D.lst ds).shaped)) = true then Res.ok (ds.any fun z => z.eqv dx) else Res.bad) = .ok b from e)
    by_cases f : (dx.flat && ds.all D.flat) = true
    · rw [Bool.and_eq_true] at f
      obtain ⟨a, vs, rfl, hs, _, hl⟩ := r2.un
      have rx : Rep K NoF H dx x := r1.flat f.1
      obtain ⟨z1, z2⟩ := hl.inV rx f.1 f.2
      exact .inl ⟨a, vs, rfl, .inl (SqL.of hs), rx.flatV f.1, z1, z2.symm⟩
    · rw [Bool.or_eq_true] at c
      have c' := c.resolve_left f
      rw [Bool.and_eq_true] at c'
      refine .inr (.inl ⟨D.pys ds, r1.dp, r2.dp, c'.1, c'.2, ?_⟩)
      rw [D.pys_eq, List.any_map]
      rfl
  | tup ds =>
    obtain ⟨f, rfl⟩ := ok_if (show (if (dx.flat && ds.all D.flat) = true then Res.ok (ds.any fun z => z.eqv dx) else Res.bad) = .ok b from e)
    rw [Bool.and_eq_true] at f
    obtain ⟨a, vs, rfl, hs, hl⟩ := r2
    have rx : Rep K NoF H dx x := r1.flat f.1
    obtain ⟨z1, z2⟩ := hl.inV rx f.1 f.2
    exact .inl ⟨a, vs, rfl, .inr hs, rx.flatV f.1, z1, z2.symm⟩
  | str z =>
    cases dx with
    | str w =>
      have e' : (if h : w.cps.size = 1 then Res.ok (decide (w.cps[0]'(by omega) ∈ z.cps.toList)) else Res.bad) = .ok b := e
      by_cases h : w.cps.size = 1
      · rw [dif_pos h] at e'
        cases e'
        cases (show x = .str w from r1)
        cases (show y = .str z from r2)
        refine .inr (.inr ⟨w.cps[0]'(by omega), z, ?_, rfl, rfl⟩)
        have : w = ⟨#[w.cps[0]'(by omega)]⟩ := by
          cases w with
          | mk c =>
            congr 1
            apply Array.ext
            · simpa using h
            · intro i h1 h2
              have : i = 0 := by simp at h2; omega
              subst this
              rfl
        exact congrArg V.str this
      · rw [dif_neg h] at e'
        cases e'
    | _ => cases e
  | _ => cases e
theorem cm_ok (hu : X.A.units + 65 < cLine) (o : Cm) : OpR X (compareOp (pyCm o)) (rCmD X.K o) := by
  intro pins s σ H x y v u Q I rx ry h
  obtain ⟨F, F1, F1', F', dx, dy, d, r1, r2, e, q⟩ := h
  cases o with
  | eq =>
    obtain ⟨b, e1, e2⟩ := bind_ok (show (eqD dx dy >>= fun r => Res.ok (.bl r)) = .ok d from e)
    cases e2
    rcases eqD_run r1 r2 e1 with ⟨z, w⟩ | ⟨z1, z2, z3, z4, w⟩
    · exact op_eq pins s σ H _ _ v u Q I rx ry ⟨z, by rw [← w]; exact q _ rfl⟩
    · exact op_eqD (by omega) pins s σ H _ _ v u Q I rx ry ⟨_, _, z1, z2, z3, z4, by rw [← w]; exact q _ rfl⟩
  | ne =>
    obtain ⟨b, e1, e2⟩ := bind_ok (show (eqD dx dy >>= fun r => Res.ok (.bl (!r))) = .ok d from e)
    cases e2
    rcases eqD_run r1 r2 e1 with ⟨z, w⟩ | ⟨z1, z2, z3, z4, w⟩
    · exact op_ne pins s σ H _ _ v u Q I rx ry ⟨z, by rw [← w]; exact q _ rfl⟩
    · exact op_neD (by omega) pins s σ H _ _ v u Q I rx ry ⟨_, _, z1, z2, z3, z4, by rw [← w]; exact q _ rfl⟩
  | lt =>
    cases dx with
    | int i =>
      cases dy with
      | int j => cases e; exact op_lt pins s σ H _ _ v u Q I rx ry ⟨i, j, r1, r2, q _ rfl⟩
      | _ => cases e
    | tup xs =>
      cases dy with
      | tup ys =>
        have e' : (match D.ints xs, D.ints ys with
          | some a, some b => Res.ok (D.bl (HT.lexLt a b))
          | _, _ => .bad) = .ok d := e
        cases z1 : D.ints xs with
        | none => rw [z1] at e'; cases e'
        | some a =>
          cases z2 : D.ints ys with
          | none => rw [z1, z2] at e'; cases e'
          | some b =>
            rw [z1, z2] at e'
            cases e'
            obtain ⟨p, vs, rfl, s1, l1⟩ := r1
            obtain ⟨p2, ws, rfl, s2, l2⟩ := r2
            have w1 := l1.ints z1
            have w2 := l2.ints z2
            subst w1
            subst w2
            exact op_ltT (by omega) pins s σ H _ _ v u Q I rx ry ⟨p, p2, a, b, rfl, rfl, s1, s2, q _ rfl⟩
      | _ => cases e
    | _ => cases e
  | le =>
    cases dx with
    | int i =>
      cases dy with
      | int j => cases e; exact op_le pins s σ H _ _ v u Q I rx ry ⟨i, j, r1, r2, q _ rfl⟩
      | _ => cases e
    | _ => cases e
  | gt =>
    cases dx with
    | int i =>
      cases dy with
      | int j => cases e; exact op_gt pins s σ H _ _ v u Q I rx ry ⟨i, j, r1, r2, q _ rfl⟩
      | _ => cases e
    | _ => cases e
  | ge =>
    cases dx with
    | int i =>
      cases dy with
      | int j => cases e; exact op_ge pins s σ H _ _ v u Q I rx ry ⟨i, j, r1, r2, q _ rfl⟩
      | _ => cases e
    | _ => cases e
  | isN =>
    cases dy with
    | non => cases e; exact op_isN pins s σ H _ _ v u Q I rx ry ⟨r2, by rw [r1.non_iff]; exact q _ rfl⟩
    | _ => cases dx <;> cases e
  | notN =>
    cases dy with
    | non => cases e; exact op_notN pins s σ H _ _ v u Q I rx ry ⟨r2, by rw [r1.non_iff]; exact q _ rfl⟩
    | _ => cases dx <;> cases e
  | in_ =>
    obtain ⟨b, e1, e2⟩ := bind_ok (show (inD dx dy >>= fun r => Res.ok (.bl r)) = .ok d from e)
    cases e2
    rcases inD_run r1 r2 e1 with ⟨p, xs, z1, z2, z3, z4, w⟩ | ⟨ds, z1, z2, z3, z4, w⟩ | ⟨c, z, z1, z2, w⟩
    · exact op_in_seq pins s σ H _ _ v u Q I rx ry ⟨p, xs, z1, z2, z3, z4, by rw [← w]; exact q _ rfl⟩
    · exact op_inD hu pins s σ H _ _ v u Q I rx ry ⟨_, ds, z1, z2, z3, z4, by rw [← w]; exact q _ rfl⟩
    · exact op_in_sign pins s σ H _ _ v u Q I rx ry ⟨c, z, z1, z2, by rw [← w]; exact q _ rfl⟩
  | notIn =>
    obtain ⟨b, e1, e2⟩ := bind_ok (show (inD dx dy >>= fun r => Res.ok (.bl (!r))) = .ok d from e)
    cases e2
    rcases inD_run r1 r2 e1 with ⟨p, xs, z1, z2, z3, z4, w⟩ | ⟨ds, z1, z2, z3, z4, w⟩ | ⟨c, z, z1, z2, w⟩
    · exact op_notIn_seq pins s σ H _ _ v u Q I rx ry ⟨p, xs, z1, z2, z3, z4, by rw [← w]; exact q _ rfl⟩
    · exact op_notInD hu pins s σ H _ _ v u Q I rx ry ⟨_, ds, z1, z2, z3, z4, by rw [← w]; exact q _ rfl⟩
    · exact op_notIn_sign pins s σ H _ _ v u Q I rx ry ⟨c, z, z1, z2, by rw [← w]; exact q _ rfl⟩
/-! ### subscripts, slices -/
theorem atI_rep {K : PySem.W.Frag} {F : Addr → Prop} {H : Hp} {ds : List D} {vs : List V} {i : Int} {d : D} (r : RepL K F H ds vs) (e : atI ds i = some d) : ∃ v, atI vs i = some v ∧ Rep K F H d v := by
  unfold atI at e ⊢
  rw [r.length] at e
  cases z : ixN vs.length i with
  | none => rw [z] at e; cases e
  | some j =>
    rw [z] at e
    exact r.get e
theorem atI_map {α β : Type} (f : α → β) (xs : List α) (i : Int) : atI (xs.map f) i = (atI xs i).map f := by
  unfold atI
  rw [List.length_map]
  cases ixN xs.length i with
  | none => rfl
  | some j => simp
def rIxD (K : PySem.W.Frag) : R2 := fun x y H Q => ∃ F F1 F1' F' dx dy d, RepT K F1 F H dx x ∧ RepT K F1' F' H dy y ∧ ixD dx dy = .ok d ∧ ∀ v, Rep K F H d v → Q v H
theorem ix_ok : IxR X (rIxD X.K) := by
  intro value slice pins s σ H x y v u Q I rx ry h hs
  obtain ⟨F, F1, F1', F', dx, dy, d, r1, r2, e, q⟩ := h
  cases dx with
  | lst xs =>
    cases dy with
    | int i =>
      have e' : (match atI xs i with
        | some d => Res.ok d
        | none => .bad) = .ok d := e
      cases z : atI xs i with
      | none => rw [z] at e'; cases e'
      | some d' =>
        rw [z] at e'
        cases e'
        obtain ⟨a, vs, rfl, s1, _, l1⟩ := r1.un
        obtain ⟨w, hw, rw'⟩ := atI_rep l1 z
        exact ix_seq value slice pins s σ H _ _ v u Q I rx ry (.inl ⟨a, vs, i, w, rfl, r2, SqL.of s1, hw, q w rw'⟩) hs
    | _ => cases e
  | tup xs =>
    cases dy with
    | int i =>
      have e' : (match atI xs i with
        | some d => Res.ok d
        | none => .bad) = .ok d := e
      cases z : atI xs i with
      | none => rw [z] at e'; cases e'
      | some d' =>
        rw [z] at e'
        cases e'
        obtain ⟨a, vs, rfl, s1, l1⟩ := r1
        obtain ⟨w, hw, rw'⟩ := atI_rep l1 z
        exact ix_seq value slice pins s σ H _ _ v u Q I rx ry (.inr (.inl ⟨a, vs, i, w, rfl, r2, s1, hw, q w rw'⟩)) hs
    | _ => cases e
  | scr xs =>
    cases dy with
    | int i =>
      have e' : (match atI xs i with
        | some d => Res.ok (D.int d)
        | none => .bad) = .ok d := e
      cases z : atI xs i with
      | none => rw [z] at e'; cases e'
      | some n =>
        rw [z] at e'
        cases e'
        obtain ⟨a, rfl, s1⟩ := r1
        exact ix_seq value slice pins s σ H _ _ v u Q I rx ry (.inl ⟨a, _, i, .int n, rfl, r2, s1.seq, by rw [atI_map, z]; rfl, q _ rfl⟩) hs
    | _ => cases e
  | str z =>
    cases dy with
    | int i =>
      have e' : (if z.length ≤ sizeLine then (match atI z.cps.toList i with
        | some c => Res.ok (D.str ⟨#[c]⟩)
        | none => .bad) else .bad) = .ok d := e
      by_cases hz : z.length ≤ sizeLine
      · rw [if_pos hz] at e'
        cases w : atI z.cps.toList i with
        | none => rw [w] at e'; cases e'
        | some c =>
          rw [w] at e'
          cases e'
          exact ix_seq value slice pins s σ H _ _ v u Q I rx ry (.inr (.inr ⟨z, i, c, r1, r2, hz, w, q _ rfl⟩)) hs
      · rw [if_neg hz] at e'
        cases e'
    | _ => cases e
  | _ => cases e
def rSlD (K : PySem.W.Frag) : V → Option Int → Option Int → Hp → VK → Prop := fun x lo hi H Q => ∃ F1 F dx, FOk F1 H ∧ RepT K NoF F H dx x ∧ Gv K F1 F H (slD dx lo hi) Q
theorem cut_rep {K : PySem.W.Frag} {F : Addr → Prop} {H : Hp} {ds : List D} {vs : List V} (lo hi : Option Int) (r : RepL K F H ds vs) : RepL K F H (cutD ds lo hi) (cutV vs lo hi) := by
  unfold cutD cutV
  rw [r.length]
  exact (r.drop _).take _
theorem sl_ok : SlR X (rSlD X.K) := by
  intro pins s σ H x v vl vu lo hi sl Q I rx hs pl pu h
  obtain ⟨F1, F, dx, hF, r1, d, e, q⟩ := h
  cases dx with
  | lst xs =>
    cases e
    obtain ⟨a, vs, rfl, s1, _, l1⟩ := r1.un
    exact sl_list pins s σ H _ v vl vu lo hi sl Q I rx hs pl pu ⟨a, vs, rfl, SqL.of s1, fun p hp => q _ _ (same_upd hp) (lst_new hF hp (cut_rep lo hi l1))⟩
  | tup xs =>
    cases e
    obtain ⟨a, vs, rfl, s1, l1⟩ := r1
    refine sl_tupA pins s σ H _ v vl vu lo hi sl Q I rx hs pl pu ⟨a, vs, rfl, s1, fun w => ?_, fun _ p hp => q _ _ (same_upd hp) (tup_new hp (cut_rep lo hi l1))⟩
    refine q _ _ (Same.refl _) ⟨a, vs, rfl, s1, ?_⟩
    have z : cutD xs lo hi = xs := by
      unfold cutD
      rw [l1.length, w.1, w.2, List.drop_zero, Nat.sub_zero, ← l1.length, List.take_length]
    rw [z]
    exact l1
  | str z =>
    have e' : (if z.length ≤ sizeLine then Res.ok (D.str (cutS z lo hi)) else .bad) = .ok d := e
    obtain ⟨hz, rfl⟩ := ok_if e'
    cases (show x = .str z from r1)
    exact sl_str pins s σ H _ v vl vu lo hi sl Q I rx hs pl pu ⟨z, rfl, hz, q _ _ (Same.refl _) rfl⟩
  | _ => cases e
/-! ### built-ins -/
def RepA (K : PySem.W.Frag) (F : Addr → Prop) (H : Hp) : List D → List V → Prop
  | [], vs => vs = []
  | d :: ds, vs => ∃ v r, vs = v :: r ∧ RepT K NoF F H d v ∧ RepA K F H ds r
theorem call_intS : CallR X (.type "int") (fun xs H Q => ∃ z : Str, xs = [.str z] ∧ (z.cps.toList ≠ [] ∧ z.length ≤ 640 ∧ (z.cps.toList.all fun c => decide (48 ≤ c) && decide (c ≤ 57)) = true) ∧ Q (.int (NumText.digitsVal z.cps.toList : Nat)) H) := by
  intro pins s σ H vs us Q I r h
  obtain ⟨z, rfl, ⟨h1, h2, h3⟩, q⟩ := h
  cases r with
  | cons rx rr =>
    cases rr
    obtain ⟨t, rfl⟩ := rx
    have hn : intText? z = some ((NumText.digitsVal z.cps.toList : Nat) : Int) := intText_digits (fun c hc => by
      have w : (decide (48 ≤ c) && decide (c ≤ 57)) = true := List.all_eq_true.mp h3 c hc
      rw [Bool.and_eq_true, decide_eq_true_eq, decide_eq_true_eq] at w
      exact w) h1 (by omega)
    exact PySem.W.KIN.call_text hn h2 ⟨.int _, H, I.tok _, ⟨_, rfl⟩, q⟩
theorem cr_sumT (hc : X.calm = true) : CallR X (.builtin "sum") (fun vs H Q => ∃ (a : Addr) (ns : List Int), vs = [V.ref a] ∧ SqT X.K H a (ns.map V.int) ∧ Q (.int ns.sum) H) := by
  intro pins s σ H vs us Q I r h
  obtain ⟨a, ns, rfl, hs, q⟩ := h
  obtain ⟨its, rv, pl, _⟩ := I.tuple hs
  rw [Vals.ref1 r]
  have hi := rv.ints
  have hl : s.heap.IsTuple a its.toArray := pl
  obtain ⟨xs, hx⟩ := hi.allInts.items
  have hn : PySem.numsOf its.toArray.toList = ns := by rw [show its.toArray.toList = its from rfl, hi.numsOf]
  rw [hx] at hl hn
  rw [PySem.nums_intItems] at hn
  refine PySem.W.ktm_sumG (I.ok.hd hc) hl fun h' tk t' hk => ?_
  have fin : ∀ i : Int, i = ns.sum → ∃ (x : V) (H1 : Hp), Inv X pins σ H1 { s with heap := h', toks := tk } ∧ RelV x (.int i t') ∧ Q x H1 := fun i e => ⟨.int i, H, I.kept hk, ⟨_, rfl⟩, by rw [e]; exact q⟩
  refine fin _ ?_
  rw [PySem.preSum_eq, List.take_of_length_le (by simp), hn]
def rBiD (K : PySem.W.Frag) (b : Bi) : List V → Hp → VK → Prop := fun xs H Q => ∃ F1 F ds, FOk F1 H ∧ RepA K F H ds xs ∧ Gv K F1 F H (biD b ds) Q
def biV : Bi → Value
  | .len => .builtin "len" | .abs => .builtin "abs" | .int => .type "int" | .min => .builtin "min" | .max => .builtin "max" | .sum => .builtin "sum" | .all => .builtin "all" | .any => .builtin "any"
  | .tuple => .type "tuple" | .list => .type "list" | .sorted => .builtin "sorted" | .str => .type "str" | .gcd => .builtin "math.gcd" | .lcm => .builtin "math.lcm"
theorem minL_le : ∀ (r : List Int) (m : Int), minL m r ≤ m ∧ (∀ y ∈ r, minL m r ≤ y) ∧ (minL m r = m ∨ minL m r ∈ r)
  | [], m => ⟨Int.le_refl m, (fun _ h => nomatch h), Or.inl rfl⟩
  | x :: r, m => by
    obtain ⟨h1, h2, h3⟩ := minL_le r (if x < m then x else m)
    have e : minL m (x :: r) = minL (if x < m then x else m) r := rfl
    rw [e]
    by_cases z : x < m
    · rw [if_pos z] at h1 h2 h3 ⊢
      refine ⟨by omega, fun y hy => ?_, .inr ?_⟩
      · rcases List.mem_cons.mp hy with rfl | hy
        · exact h1
        · exact h2 y hy
      · rcases h3 with h3 | h3
        · rw [h3]; exact List.mem_cons_self
        · exact List.mem_cons_of_mem _ h3
    · rw [if_neg z] at h1 h2 h3 ⊢
      refine ⟨h1, fun y hy => ?_, ?_⟩
      · rcases List.mem_cons.mp hy with rfl | hy
        · omega
        · exact h2 y hy
      · rcases h3 with h3 | h3
        · exact .inl h3
        · exact .inr (List.mem_cons_of_mem _ h3)
theorem maxL_ge : ∀ (r : List Int) (m : Int), m ≤ maxL m r ∧ (∀ y ∈ r, y ≤ maxL m r) ∧ (maxL m r = m ∨ maxL m r ∈ r)
  | [], m => ⟨Int.le_refl m, (fun _ h => nomatch h), Or.inl rfl⟩
  | x :: r, m => by
    obtain ⟨h1, h2, h3⟩ := maxL_ge r (if m < x then x else m)
    have e : maxL m (x :: r) = maxL (if m < x then x else m) r := rfl
    rw [e]
    by_cases z : m < x
    · rw [if_pos z] at h1 h2 h3 ⊢
      refine ⟨by omega, fun y hy => ?_, .inr ?_⟩
      · rcases List.mem_cons.mp hy with rfl | hy
        · exact h1
        · exact h2 y hy
      · rcases h3 with h3 | h3
        · rw [h3]; exact List.mem_cons_self
        · exact List.mem_cons_of_mem _ h3
    · rw [if_neg z] at h1 h2 h3 ⊢
      refine ⟨h1, fun y hy => ?_, ?_⟩
      · rcases List.mem_cons.mp hy with rfl | hy
        · omega
        · exact h2 y hy
      · rcases h3 with h3 | h3
        · exact .inl h3
        · exact .inr (List.mem_cons_of_mem _ h3)
theorem min_is {x m : Int} {r : List Int} (h1 : m ∈ x :: r) (h2 : ∀ y ∈ x :: r, m ≤ y) : m = minL x r := by
  obtain ⟨a, b, c⟩ := minL_le r x
  have d : minL x r ≤ m := by
    rcases List.mem_cons.mp h1 with rfl | h1
    · exact a
    · exact b m h1
  have e : m ≤ minL x r := by
    rcases c with c | c
    · rw [c]; exact h2 x List.mem_cons_self
    · exact h2 _ (List.mem_cons_of_mem _ c)
  omega
theorem max_is {x m : Int} {r : List Int} (h1 : m ∈ x :: r) (h2 : ∀ y ∈ x :: r, y ≤ m) : m = maxL x r := by
  obtain ⟨a, b, c⟩ := maxL_ge r x
  have d : m ≤ maxL x r := by
    rcases List.mem_cons.mp h1 with rfl | h1
    · exact a
    · exact b m h1
  have e : maxL x r ≤ m := by
    rcases c with c | c
    · rw [c]; exact h2 x List.mem_cons_self
    · exact h2 _ (List.mem_cons_of_mem _ c)
  omega
theorem bi_ok (hc : X.calm = true) (b : Bi) : CallR X (biV b) (rBiD X.K b) := by
  intro pins s σ H xs us Q I r h
  obtain ⟨F1, F, ds, hF, ra, d, e, q⟩ := h
  cases ds with
  | nil => cases b <;> cases e
  | cons d1 ds =>
    obtain ⟨v1, rs, rfl, a1, ra⟩ := ra
    cases ds with
    | nil =>
      cases (show rs = [] from ra)
      cases b with
      | len =>
        obtain ⟨n, e1, e2⟩ := bind_ok (show (lenD d1 >>= fun n => Res.ok (D.int n)) = .ok d from e)
        cases e2
        exact call_len pins s σ H _ us Q I r ⟨v1, n, rfl, a1.len e1, q _ _ (Same.refl _) rfl⟩
      | abs =>
        cases d1 with
        | int i =>
          cases e
          exact call_abs pins s σ H _ us Q I r ⟨i, congrArg (fun z => [z]) a1, q _ _ (Same.refl _) rfl⟩
        | _ => cases e
      | int =>
        cases d1 with
        | int i =>
          cases e
          exact call_int1 pins s σ H _ us Q I r (.inl ⟨i, congrArg (fun z => [z]) a1, q _ _ (Same.refl _) rfl⟩)
        | bl b =>
          cases e
          exact call_int1 pins s σ H _ us Q I r (.inr ⟨b, congrArg (fun z => [z]) a1, q _ _ (Same.refl _) rfl⟩)
        | str z =>
          have e' : (if z.cps.toList ≠ [] ∧ z.length ≤ 640 ∧ (z.cps.toList.all fun c => decide (48 ≤ c) && decide (c ≤ 57)) = true then Res.ok (D.int (NumText.digitsVal z.cps.toList : Nat)) else .bad) = .ok d := e
          obtain ⟨hz, rfl⟩ := ok_if e'
          exact call_intS pins s σ H _ us Q I r ⟨z, congrArg (fun z => [z]) a1, hz, q _ _ (Same.refl _) rfl⟩
        | _ => cases e
      | min =>
        cases d1 with
        | lst xs =>
          have e' : (match D.ints xs with
            | some (x :: r) => Res.ok (D.int (minL x r))
            | _ => .bad) = .ok d := e
          cases z : D.ints xs with
          | none => rw [z] at e'; cases e'
          | some ns =>
            rw [z] at e'
            cases ns with
            | nil => cases e'
            | cons x ns =>
              cases e'
              obtain ⟨a, vs, rfl, s1, _, l1⟩ := a1.un
              have w := l1.ints z
              subst w
              exact cr_min hc pins s σ H _ us Q I r ⟨a, x :: ns, rfl, SqL.of s1, Nat.succ_pos _, fun m h1 h2 => by rw [min_is h1 h2]; exact q _ _ (Same.refl _) rfl⟩
        | _ => cases e
      | max =>
        cases d1 with
        | lst xs =>
          have e' : (match D.ints xs with
            | some (x :: r) => Res.ok (D.int (maxL x r))
            | _ => .bad) = .ok d := e
          cases z : D.ints xs with
          | none => rw [z] at e'; cases e'
          | some ns =>
            rw [z] at e'
            cases ns with
            | nil => cases e'
            | cons x ns =>
              cases e'
              obtain ⟨a, vs, rfl, s1, _, l1⟩ := a1.un
              have w := l1.ints z
              subst w
              exact cr_max hc pins s σ H _ us Q I r ⟨a, x :: ns, rfl, SqL.of s1, Nat.succ_pos _, fun m h1 h2 => by rw [max_is h1 h2]; exact q _ _ (Same.refl _) rfl⟩
        | _ => cases e
      | sum =>
        cases d1 with
        | lst xs =>
          have e' : (match D.ints xs with
            | some ns => Res.ok (D.int ns.sum)
            | _ => .bad) = .ok d := e
          cases z : D.ints xs with
          | none => rw [z] at e'; cases e'
          | some ns =>
            rw [z] at e'
            cases e'
            obtain ⟨a, vs, rfl, s1, _, l1⟩ := a1.un
            have w := l1.ints z
            subst w
            exact cr_sum hc pins s σ H _ us Q I r ⟨a, ns, rfl, SqL.of s1, q _ _ (Same.refl _) rfl⟩
        | tup xs =>
          have e' : (match D.ints xs with
            | some ns => Res.ok (D.int ns.sum)
            | _ => .bad) = .ok d := e
          cases z : D.ints xs with
          | none => rw [z] at e'; cases e'
          | some ns =>
            rw [z] at e'
            cases e'
            obtain ⟨a, vs, rfl, s1, l1⟩ := a1
            have w := l1.ints z
            subst w
            exact cr_sumT hc pins s σ H _ us Q I r ⟨a, ns, rfl, s1, q _ _ (Same.refl _) rfl⟩
        | _ => cases e
      | all =>
        cases d1 with
        | lst xs =>
          have e' : (match D.bls xs with
            | some ns => Res.ok (D.bl (ns.all id))
            | _ => .bad) = .ok d := e
          cases z : D.bls xs with
          | none => rw [z] at e'; cases e'
          | some ns =>
            rw [z] at e'
            cases e'
            obtain ⟨a, vs, rfl, s1, _, l1⟩ := a1.un
            have w := l1.bls z
            subst w
            exact cr_all hc pins s σ H _ us Q I r ⟨a, ns, rfl, SqL.of s1, q _ _ (Same.refl _) rfl⟩
        | _ => cases e
      | any =>
        cases d1 with
        | lst xs =>
          have e' : (match D.bls xs with
            | some ns => Res.ok (D.bl (ns.any id))
            | _ => .bad) = .ok d := e
          cases z : D.bls xs with
          | none => rw [z] at e'; cases e'
          | some ns =>
            rw [z] at e'
            cases e'
            obtain ⟨a, vs, rfl, s1, _, l1⟩ := a1.un
            have w := l1.bls z
            subst w
            exact cr_any hc pins s σ H _ us Q I r ⟨a, ns, rfl, SqL.of s1, q _ _ (Same.refl _) rfl⟩
        | _ => cases e
      | tuple =>
        cases d1 with
        | lst xs =>
          cases e
          obtain ⟨a, vs, rfl, s1, _, l1⟩ := a1.un
          exact call_tuple_of pins s σ H _ us Q I r ⟨a, vs, rfl, .inl ⟨SqL.of s1, fun p hp => q _ _ (same_upd hp) (tup_new hp l1)⟩⟩
        | tup xs =>
          cases e
          obtain ⟨a, vs, rfl, s1, l1⟩ := a1
          exact call_tuple_of pins s σ H _ us Q I r ⟨a, vs, rfl, .inr ⟨s1, q _ _ (Same.refl _) ⟨a, vs, rfl, s1, l1⟩⟩⟩
        | _ => cases e
      | list =>
        cases d1 with
        | lst xs =>
          cases e
          obtain ⟨a, vs, rfl, s1, _, l1⟩ := a1.un
          exact call_list_of pins s σ H _ us Q I r ⟨a, vs, rfl, .inl (SqL.of s1), fun p hp => q _ _ (same_upd hp) (lst_new hF hp l1)⟩
        | tup xs =>
          cases e
          obtain ⟨a, vs, rfl, s1, l1⟩ := a1
          exact call_list_of pins s σ H _ us Q I r ⟨a, vs, rfl, .inr s1, fun p hp => q _ _ (same_upd hp) (lst_new hF hp l1)⟩
        | _ => cases e
      | sorted => cases e
      | str =>
        cases d1 with
        | int i =>
          have e' : (if i.natAbs.log2 < 1920 then Res.ok (D.str (Str.ofString (toString i))) else .bad) = .ok d := e
          obtain ⟨hz, rfl⟩ := ok_if e'
          exact call_str_int pins s σ H _ us Q I r ⟨i, congrArg (fun z => [z]) a1, hz, q _ _ (Same.refl _) rfl⟩
        | _ => cases e
      | gcd => cases d1 <;> cases e
      | lcm => cases e
    | cons d2 ds =>
      obtain ⟨v2, rs, rfl, a2, ra⟩ := ra
      cases ds with
      | nil =>
        cases (show rs = [] from ra)
        cases b with
        | min =>
          cases d1 with
          | int i =>
            cases d2 with
            | int j =>
              cases e
              cases (show v1 = .int i from a1)
              cases (show v2 = .int j from a2)
              exact call_min2 hc pins s σ H _ us Q I r ⟨i, j, rfl, q _ _ (Same.refl _) rfl⟩
            | _ => cases e
          | _ => cases e
        | max =>
          cases d1 with
          | int i =>
            cases d2 with
            | int j =>
              cases e
              cases (show v1 = .int i from a1)
              cases (show v2 = .int j from a2)
              exact call_max2 hc pins s σ H _ us Q I r ⟨i, j, rfl, q _ _ (Same.refl _) rfl⟩
            | _ => cases e
          | _ => cases e
        | gcd =>
          cases d1 with
          | int i =>
            cases d2 with
            | int j =>
              cases e
              cases (show v1 = .int i from a1)
              cases (show v2 = .int j from a2)
              exact cr_gcd pins s σ H _ us Q I r ⟨i, j, rfl, q _ _ (Same.refl _) rfl⟩
            | _ => cases e
          | _ => cases e
        | abs => cases d1 <;> cases e
        | int => cases d1 <;> cases e
        | sum => cases d1 <;> cases e
        | all => cases d1 <;> cases e
        | any => cases d1 <;> cases e
        | tuple => cases d1 <;> cases e
        | list => cases d1 <;> cases e
        | str => cases d1 <;> cases e
        | _ => cases e
      | cons d3 ds => cases b <;> cases d1 <;> (try cases e) <;> cases d2 <;> cases e
/-- isinstance(x, T) -/
def rIsD (K : PySem.W.Frag) (t : String) : List V → Hp → VK → Prop := fun xs H Q => ∃ F F1 dx v d, xs = [v, .ty t] ∧ RepT K F1 F H dx v ∧ isiD dx t = .ok d ∧ ∀ b, d = .bl b → Q (.bl b) H
theorem isi_ok (t : String) : CallR X (.builtin "isinstance") (rIsD X.K t) := by
  intro pins s σ H xs us Q I r h
  obtain ⟨F, F1, dx, v, d, rfl, r1, e, q⟩ := h
  have e' : (match kitB dx.ty t with
    | some b => Res.ok (D.bl b)
    | none => .bad) = .ok d := e
  cases z : kitB dx.ty t with
  | none => rw [z] at e'; cases e'
  | some b =>
    rw [z] at e'
    cases e'
    exact call_isi pins s σ H _ us Q I r ⟨v, .ty t, .type dx.ty, .type t, b, rfl, .ty t, r1.tyOf, kit_ty z, q b rfl⟩
end
end PyI
/-! PyI, part 4: expressions. -/
namespace PyI
open PySem PySem.Spec PyProof.Rows L2
/-! ### results -/
def Post {α : Type} (r : Res α) (q : α → Prop) (x : Str → List D → Prop) : Prop := match r with
  | .ok a => q a
  | .exc c ds => x c ds
  | .bad => False
theorem Post.bind {α β : Type} {r : Res α} {f : α → Res β} {q : β → Prop} {x : Str → List D → Prop} (h : Post (r >>= f) q x) : Post r (fun a => Post (f a) q x) x := by
  cases r with
  | ok a => exact h
  | exc c ds => exact h
  | bad => exact h
theorem Post.imp {α : Type} {r : Res α} {q q' : α → Prop} {x x' : Str → List D → Prop} (h : Post r q x) (i : ∀ a, r = .ok a → q a → q' a) (j : ∀ c ds, x c ds → x' c ds) : Post r q' x' := by
  cases r with
  | ok a => exact i a rfl h
  | exc c ds => exact j c ds h
  | bad => exact h
theorem Post.nox {α : Type} {r : Res α} {q : α → Prop} {x : Str → List D → Prop} (h : Post (nox r) q x) : Post r q (fun _ _ => False) := by
  cases r with
  | ok a => exact h
  | exc c ds => exact h
  | bad => exact h
/-! ### the context -/
structure Cc where
  K : PySem.W.Frag
  mg : Str → Option Value
  F0 : Addr → Prop
  H0 : Hp
  W : WX
  G : Str → Option D
  Φ : Str → List D → Res D
  xf : Str → List Str
  B : Addr → Prop
  HB : Hp
abbrev Cc.quiet (c : Cc) : Cc := { c with W := fun _ _ _ _ => False }
/-- the lists that are somebody's own: the callers', the def's own but those of L -/
def Fb (c : Cc) (own : Nat → Option Addr) (L : List Nat) : Addr → Prop := fun a => c.F0 a ∨ ∃ j, own j = some a ∧ j ∉ L
/-- since HB stood, only lists of B have been changed -/
structure Bs (c : Cc) (own : Nat → Option Addr) (H : Hp) : Prop where
  k : Kept c.B c.HB H
  n : ∀ (i : Nat) (a : Addr), own i = some a → c.B a ∨ c.HB a = none
  f : ∀ a, c.F0 a → c.B a
structure Sim (c : Cc) (own : Nat → Option Addr) (τ : Env) (σ : L2.St) (H : Hp) : Prop where
  len : τ.length = σ.length
  val : ∀ (i : Nat) (d : D), τ[i]? = some (some (C.v d)) → ∃ v, σ[i]? = some (some v) ∧ Rep c.K (Fb c own []) H d v
  ows : ∀ (i : Nat) (ds : List D), τ[i]? = some (some (C.o ds)) → ∃ a vs, own i = some a ∧ σ[i]? = some (some (.ref a)) ∧ H a = some (.lst vs) ∧ RepL c.K (Fb c own []) H ds vs
  inj : ∀ i j a, own i = some a → own j = some a → i = j
  al : ∀ i a, own i = some a → c.H0 a = none ∧ H a ≠ none
  fin : ∃ n, ∀ i, n ≤ i → own i = none
  f0 : FOk c.F0 c.H0
  same : Same c.H0 H
  bs : Bs c own H
theorem Bs.mono {c : Cc} {own : Nat → Option Addr} {H H' : Hp} (S : Bs c own H) (s : Same H H') : Bs c own H' := ⟨fun a o e n => s a o (S.k a o e n), S.n, S.f⟩
theorem Bs.new {c : Cc} {own : Nat → Option Addr} {H : Hp} (S : Bs c own H) {a : Addr} (h : H a = none) : c.B a ∨ c.HB a = none := by
  by_cases b : c.B a
  · exact .inl b
  · cases z : c.HB a with
    | none => exact .inr rfl
    | some o => have := S.k a o z (.inl b); rw [h] at this; cases this
section
variable {c : Cc} {own : Nat → Option Addr} {τ : Env} {σ : L2.St} {H H' : Hp} {L L' : List Nat}
theorem Fb.mono (h : ∀ j ∈ L, j ∈ L') (a : Addr) (x : Fb c own L' a) : Fb c own L a := x.imp id fun ⟨j, e, n⟩ => ⟨j, e, fun z => n (h j z)⟩
theorem Fb.nil (a : Addr) (x : Fb c own L a) : Fb c own [] a := Fb.mono (L := []) (L' := L) (fun _ z => absurd z List.not_mem_nil) a x
theorem Sim.fok (S : Sim c own τ σ H) : FOk (Fb c own L) H := fun a x n => by
  rcases x with x | ⟨j, e, _⟩
  · exact S.f0 a x (S.same.free n)
  · exact (S.al j a e).2 n
theorem Sim.mono (S : Sim c own τ σ H) (s : Same H H') : Sim c own τ σ H' where
  len := S.len
  val := fun i d e => let ⟨v, h1, h2⟩ := S.val i d e; ⟨v, h1, h2.same s⟩
  ows := fun i ds e => let ⟨a, vs, h1, h2, h3, h4⟩ := S.ows i ds e; ⟨a, vs, h1, h2, s _ _ h3, h4.same s⟩
  inj := S.inj
  al := fun i a e => ⟨(S.al i a e).1, fun n => (S.al i a e).2 (s.free n)⟩
  fin := S.fin
  f0 := S.f0
  same := S.same.trans s
  bs := S.bs.mono s
theorem Sim.quiet (S : Sim c own τ σ H) : Sim c.quiet own τ σ H := ⟨S.len, S.val, S.ows, S.inj, S.al, S.fin, S.f0, S.same, S.bs.k, S.bs.n, S.bs.f⟩
theorem Sim.get (S : Sim c own τ σ H) {i : Nat} {d : D} (e : getV τ i = .ok d) : ∃ v, σ[i]? = some (some v) ∧ RepT c.K (Fb c own [i]) (Fb c own []) H d v := by
  unfold getV at e
  cases z : τ[i]? with
  | none => rw [z] at e; cases e
  | some o =>
    rw [z] at e
    cases o with
    | none => cases e
    | some k =>
      cases k with
      | v d' =>
        cases e
        obtain ⟨v, h1, h2⟩ := S.val i d z
        exact ⟨v, h1, h2.t.weak (fun a x => Fb.nil a x) (fun _ x => x)⟩
      | o xs =>
        cases e
        obtain ⟨a, vs, h1, h2, h3, h4⟩ := S.ows i xs z
        refine ⟨_, h2, a, vs, rfl, h3, ?_, h4.weak fun b z => z.elim id fun z => by rw [z]; exact .inr ⟨i, h1, List.not_mem_nil⟩⟩
        rintro (x | ⟨j, e, n⟩)
        · exact S.f0 a x (S.al i a h1).1
        · exact n (by rw [S.inj j i a e h1]; exact List.mem_cons_self)
end
/-- an exception as the heap bears it -/
def ExAt (K : PySem.W.Frag) (mg : Str → Option Value) (xf : Str → List Str) (F : Addr → Prop) (H : Hp) (x : Str) (ds : List D) (cls : Value) (dd : Option Addr) : Prop :=
  ∃ C, mg x = some (.ref C) ∧ cls = .ref C ∧ ∃ (d : Addr) (fs : List (Str × V)), dd = some d ∧ H d = some (.xd fs.reverse) ∧ fs.map (·.1) = xf x ∧ RepL K F H ds (fs.map (·.2))
def ExW (c : Cc) (σ : L2.St) (H : Hp) (x : Str) (ds : List D) : Prop := ∀ cls dd H', Same H H' → ExAt c.K c.mg c.xf c.F0 H' x ds cls dd → c.W cls dd σ H'
theorem ExW.same {c : Cc} {σ : L2.St} {H H' : Hp} {x : Str} {ds : List D} (s : Same H H') (h : ExW c σ H x ds) : ExW c σ H' x ds := fun cls dd H2 s2 e => h cls dd H2 (s.trans s2) e
def valsOf (vs : List V) (fs : List (Str × Nat)) : List (Str × V) := fs.map fun p => (p.1, vs.getD p.2 .non)
def idx : Nat → List Str → List (Str × Nat)
  | _, [] => []
  | n, f :: r => (f, n) :: idx (n + 1) r
/-- the promise of an exception's __init__ -/
def spInit (C : Addr) (np : Nat) (fs : List (Str × Nat)) : Sp := fun vs H Q _ => ∃ a us, vs = .ref a :: us ∧ us.length = np ∧ H a = some (exo a C none) ∧ ∀ dx, H dx = none → dx ≠ a → Q .non (upd (upd H dx (exd dx (valsOf vs fs).reverse)) a (exo a C (some dx)))
/-! ### readings -/
/-- what the top of a value is not: somebody's own list; a list that stood already, where the expression makes one -/
def Ft (c : Cc) (own : Nat → Option Addr) (e : E) (H : Hp) : Addr → Prop := fun a => Fb c own (lt e) a ∨ (fresh e = true ∧ H a ≠ none)
def rdE (c : Cc) (e : E) : TE := fun σ H Q => ∃ own τ, Sim c own τ σ H ∧ Post (ev c.G c.Φ e τ) (fun d => ∀ v H', Same H H' → RepT c.K (Ft c own e H) (Fb c own (li e)) H' d v → Q v H') (ExW c σ H)
def rdT (c : Cc) (e : E) : TT := fun σ H Q => ∃ own τ, Sim c own τ σ H ∧ Post (ev c.G c.Φ e τ >>= blD) (fun b => ∀ H', Same H H' → Q b H') (ExW c σ H)
def rdA (c : Cc) (es : Es) : TA := fun σ H Q => ∃ own τ, Sim c own τ σ H ∧ Post (evs c.G c.Φ es τ) (fun ds => ∀ vs H', Same H H' → RepL c.K (Fb c own (las es)) H' ds vs → RepA c.K (Fb c own (lis es)) H' ds vs → Q vs H') (ExW c σ H)
def rdO (c : Cc) (o : Op1) : TO := fun σ H Q => ∃ own τ, Sim c own τ σ H ∧ Post (evo c.G c.Φ o τ) (fun i => ∀ H', Same H H' → Q i H') (ExW c σ H)
/-- what is walked yields the items, whatever happens to the lists of F; they hold no list that is younger than H -/
def ItOk (K : PySem.W.Frag) (F F2 : Addr → Prop) (J : It) (H : Hp) (items : List D) : Prop := ∀ (Y : Addr → Prop), (∀ a, Y a → H a = none) → ∀ H1, Kept F H H1 →
  (∀ (i : Nat) (d : D), items[i]? = some d → J.go i H1 ∧ ∀ x H2, J.yld i H1 x H2 → Same H1 H2 ∧ Rep K (fun a => F2 a ∨ Y a) H2 d x) ∧ ∀ i, items.length ≤ i → J.stop i H1
def rdS (c : Cc) (s : Src) : TI := fun σ H R => ∃ own τ, Sim c own τ σ H ∧ Post (evS c.G c.Φ s τ) (fun items => ∀ J H', Same H H' → ItOk c.K (Fb c own (ltS s ++ liS s)) (Fb c own (liS s)) J H' items → R J H') (ExW c σ H)
theorem rdT_of {c : Cc} {e : E} {σ : L2.St} {H : Hp} {Q : Bool → Hp → Prop} (h : rdT c e σ H Q) : tB (rdE c e) σ H Q := by
  obtain ⟨own, τ, S, p⟩ := h
  refine ⟨own, τ, S, p.bind.imp (fun d _ h v H' s r => ?_) fun _ _ x => x⟩
  cases d with
  | bl b => exact ⟨b, r, h H' s⟩
  | _ => exact h.elim
section
variable {X : Cx}
theorem peImp {e : Expr} {t t' : TE} (h : PE X e t) (i : ∀ σ H Q, t' σ H Q → t σ H Q) : PE X e t' := ⟨fun pins s σ H Q I q => h.run pins s σ H Q I (i _ _ _ q)⟩
theorem ptImp {e : Expr} {t t' : TT} (h : PT X e t) (i : ∀ σ H Q, t' σ H Q → t σ H Q) : PT X e t' := ⟨fun pins s σ H Q I q => h.run pins s σ H Q I (i _ _ _ q)⟩
theorem paImp {e : List Expr} {t t' : TA} (h : PA X e t) (i : ∀ σ H Q, t' σ H Q → t σ H Q) : PA X e t' := ⟨fun pos pins s σ H Q I q => h.run pos pins s σ H Q I (i _ _ _ q)⟩
theorem poImp {e : Option Expr} {t t' : TO} (h : PO X e t) (i : ∀ σ H Q, t' σ H Q → t σ H Q) : PO X e t' := ⟨fun pins s σ H Q I q => h.run pins s σ H Q I (i _ _ _ q)⟩
theorem piImp {tg e : Expr} {t t' : TI} (h : PI X tg e t) (i : ∀ σ H Q, t' σ H Q → t σ H Q) : PI X tg e t' := ⟨fun pins s σ H Q I q => h.run pins s σ H Q I (i _ _ _ q)⟩
end
/-! ### the check of a piece of syntax against an expression of ours -/
def vis (sc : Scope) (x : Str) : Bool := match sc.names.lookup x with
  | some .local => true | some .cell => true | some .free => true
  | _ => false
def gl (sc : Scope) (x : Str) : Bool := match sc.names.lookup x with
  | some .globalImplicit => true
  | _ => false
def isLocal (sc : Scope) (x : Str) : Bool := match sc.names.lookup x with
  | some .local => true
  | _ => false
def isCell (sc : Scope) (x : Str) : Bool := sc.names.lookup x == some .cell
def esLen : Es → Nat
  | .nil => 0
  | .cons _ r => esLen r + 1
def nmOk (x : Str) : Bool := !(x == ("__debug__" : Str)) && !(x == ("__classdict__" : Str)) && !(decide (x = ("__name__" : Str)))
def notStar : Expr → Bool
  | .Starred .. => false
  | _ => true
def notSet : Expr → Bool
  | .Set .. => false
  | _ => true
def notSlice : Expr → Bool
  | .Slice .. => false
  | _ => true
def plainT : Expr → Bool
  | .UnaryOp .Not _ _ => false
  | .BoolOp .. => false
  | .IfExp .. => false
  | .Compare .. => false
  | _ => true
def opk : Op → Operator → Bool
  | .add, .Add => true | .sub, .Sub => true | .mul, .Mult => true | .fdiv, .FloorDiv => true | .mod, .Mod => true | .pow, .Pow => true
  | _, _ => false
theorem opk_ok {o : Op} {p : Operator} (h : opk o p = true) : p = pyOp o := by cases o <;> cases p <;> first | rfl | cases h
def cmk : Cm → CmpOp → Bool
  | .eq, .Eq => true | .ne, .NotEq => true | .lt, .Lt => true | .le, .LtE => true | .gt, .Gt => true | .ge, .GtE => true | .isN, .Is => true | .notN, .IsNot => true | .in_, .In => true | .notIn, .NotIn => true
  | _, _ => false
theorem cmk_ok {o : Cm} {p : CmpOp} (h : cmk o p = true) : p = pyCm o := by cases o <;> cases p <;> first | rfl | cases h
def biName : Bi → Str
  | .len => "len" | .abs => "abs" | .int => "int" | .min => "min" | .max => "max" | .sum => "sum" | .all => "all" | .any => "any" | .tuple => "tuple" | .list => "list" | .sorted => "sorted" | .str => "str" | .gcd => "gcd" | .lcm => "lcm"
/-- what may stand as a test -/
def tOk : E → Bool
  | .not a => tOk a
  | .and a b => tOk a && tOk b
  | .or a b => tOk a && tOk b
  | .cmp .. => true | .chain .. => true | .var _ => true | .bl _ => true | .ix .. => true | .call .. => true | .bi .. => true | .isi .. => true
  | _ => false
structure Ck where
  N : List Str
  /-- built-in names that the module does not bind -/
  fr : List Str
  /-- names that stand for math.gcd -/
  gm : List Str
  /-- the module's defs -/
  fns : List Str
  /-- the module's constants -/
  gs : List Str
  /-- the module's exceptions: the class, the fields in order of storing -/
  exs : List (Str × List Str)
  /-- names of classes that except and isinstance ask for -/
  cls : List Str
/-- what a method may be asked of -/
def objOk : Expr → Bool
  | .Name .. => true
  | .Constant .. => true
  | _ => false
def tgE : Expr → Bool
  | .Tuple .. => true
  | _ => false
mutual
def chkTg (k : Ck) (sc : Scope) (fb : Str → Bool) : Tg → Expr → Bool
  | .nm i, .Name x _ => decide (k.N[i]? = some x) && (isLocal sc x || (isCell sc x && fb x))
  | .tup ts, .Tuple es _ _ => chkTgs k sc fb ts es
  | _, _ => false
def chkTgs (k : Ck) (sc : Scope) (fb : Str → Bool) : List Tg → List Expr → Bool
  | [], [] => true
  | t :: ts, e :: es => notStar e && (chkTg k sc fb t e && chkTgs k sc fb ts es)
  | _, _ => false
end
mutual
/-- the slots that a target stores -/
def tgIx : Tg → List Nat
  | .nm i => [i]
  | .tup ts => tgIxs ts
def tgIxs : List Tg → List Nat
  | [] => []
  | t :: ts => tgIx t ++ tgIxs ts
end
def ownN (N : List Str) (own : List Nat) : List (Str × Nat) := own.map fun i => (N.getD i Str.empty, i)
def biChk (k : Ck) : Bi → Str → Bool
  | .gcd, y => k.gm.contains y
  | .lcm, _ => false
  | b, y => decide (y = biName b) && k.fr.contains y
mutual
def chkE (k : Ck) (sc : Scope) (fb : Str → Bool) : E → Expr → Bool
  | .var i, .Name x _ => decide (k.N[i]? = some x) && (vis sc x && nmOk x)
  | .int i, .Constant (.int j) _ _ => decide (i = j)
  | .str i, .Constant (.str j) _ _ => decide (i = j)
  | .bl i, .Constant (.bool j) _ _ => i == j
  | .non, .Constant .none _ _ => true
  | .glob x, .Name y _ => decide (x = y) && (gl sc x && (nmOk x && k.gs.contains x))
  | .op o a b, .BinOp x p y _ => opk o p && (chkE k sc fb a x && chkE k sc fb b y)
  | .neg a, .UnaryOp .USub x _ => chkE k sc fb a x
  | .not a, .UnaryOp .Not x _ => chkE k sc fb a x
  | .and a b, .BoolOp .And (x :: y :: r) p => chkE k sc fb a x && (match r with
    | [] => chkE k sc fb b y
    | z :: r => chkE k sc fb b (.BoolOp .And (y :: z :: r) p))
  | .or a b, .BoolOp .Or (x :: y :: r) p => chkE k sc fb a x && (match r with
    | [] => chkE k sc fb b y
    | z :: r => chkE k sc fb b (.BoolOp .Or (y :: z :: r) p))
  | .cmp o a b, .Compare x [p] [y] _ => cmk o p && (!behindInMarks p y && (chkE k sc fb a x && chkE k sc fb b y))
  | .chain o o' a b d, .Compare x [p, p'] [y, z] _ => cmk o p && (cmk o' p' && (!lastMarks [p, p'] [y, z] && (chkE k sc fb a x && (chkE k sc fb b y && chkE k sc fb d z))))
  | .ife t a b, .IfExp c x y _ => tOk t && (chkE k sc fb t c && (chkE k sc fb a x && chkE k sc fb b y))
  | .ix a b, .Subscript x y _ => notSlice y && (chkE k sc fb a x && chkE k sc fb b y)
  | .sl a lo hi, .Subscript x (.Slice l h none _) _ => chkE k sc fb a x && (chkO k sc fb lo l && chkO k sc fb hi h)
  | .tup es, .Tuple xs _ _ => decide (esLen es ≤ 1000) && chkEs k sc fb es xs
  | .lst es, .List xs _ => decide (esLen es ≤ 1000) && chkEs k sc fb es xs
  | .comp elt tg src own, .ListComp x [⟨t, it, fs, n⟩] scope _ => (fs.isEmpty && decide (n = 0)) && (blkC k.N sc scope (ownN k.N own) && (chkS k sc fb src t it && ((liS src).isEmpty && ((tgIx tg).all (own.contains ·) && (chkTg k (relS scope sc) (isCell scope) tg t && chkE k (relS scope sc) (isCell scope) elt x)))))
  | .comp2 elt tg src tg1 src1 own vs1, .ListComp x [⟨t, it, fs, n⟩, ⟨t1, it1, fs1, n1⟩] scope _ => (fs.isEmpty && (decide (n = 0) && (fs1.isEmpty && decide (n1 = 0)))) && (blkC k.N sc scope (ownN k.N own) && (chkS k sc fb src t it && ((liS src).isEmpty && ((tgIx tg).all (own.contains ·) && (chkTg k (relS scope sc) (isCell scope) tg t && (chkS k (relS scope sc) (isCell scope) src1 t1 it1 && ((liS src1).isEmpty && ((tgIx tg1).all (vs1.contains ·) && (vs1.all (own.contains ·) && (chkTg k (relS scope sc) (isCell scope) tg1 t1 && chkE k (relS scope sc) (isCell scope) elt x))))))))))
  | .compIf elt tg src c own, .ListComp x [⟨t, it, fs, n⟩] scope _ => decide (n = 0) && (match fs with
    | [i] => blkC k.N sc scope (ownN k.N own) && (chkS k sc fb src t it && ((liS src).isEmpty && ((tgIx tg).all (own.contains ·) && (tOk c && (chkTg k (relS scope sc) (isCell scope) tg t && (chkE k (relS scope sc) (isCell scope) c i && chkE k (relS scope sc) (isCell scope) elt x))))))
    | _ => false)
  | .call f .nil, .Call (.Name y _) [] [] _ => decide (f = y) && (k.fns.contains f && (gl sc y && nmOk y))
  | .call f es, .Call (.Name y _) (x :: xs) [] _ => decide (f = y) && (k.fns.contains f && (gl sc y && (nmOk y && chkEs k sc fb es (x :: xs))))
  | .bi b es, .Call (.Name y _) (x :: xs) [] _ => biChk k b y && (gl sc y && (nmOk y && chkEs k sc fb es (x :: xs)))
  | .find a b, .Call (.Attribute o m ap) [v] [] cp => decide (m = ("find" : Str)) && ((ap.endLine == cp.line) && (objOk o && (notStar v && (chkE k sc fb a o && chkE k sc fb b v))))
  | .isi a t, .Call (.Name y _) [x, .Name z _] [] _ => decide (y = ("isinstance" : Str)) && (k.fr.contains y && (gl sc y && (decide (z = Str.ofString t) && (k.fr.contains z && (gl sc z && (nmOk z && (["int", "bool", "str", "tuple", "list"].contains t && (notStar x && chkE k sc fb a x))))))))
  | _, _ => false
def chkEs (k : Ck) (sc : Scope) (fb : Str → Bool) : Es → List Expr → Bool
  | .nil, [] => true
  | .cons e r, x :: xs => notStar x && (chkE k sc fb e x && chkEs k sc fb r xs)
  | _, _ => false
def chkO (k : Ck) (sc : Scope) (fb : Str → Bool) : Op1 → Option Expr → Bool
  | .no, none => true
  | .so e, some x => chkE k sc fb e x
  | _, _ => false
def chkS (k : Ck) (sc : Scope) (fb : Str → Bool) : Src → Expr → Expr → Bool
  | .seq e, _, it => notSet it && chkE k sc fb e it
  | .rng1 a, _, .Call (.Name y _) [x] [] _ => decide (y = ("range" : Str)) && (k.fr.contains y && (gl sc y && (notStar x && chkE k sc fb a x)))
  | .rng2 a b, _, .Call (.Name y _) [x, z] [] _ => decide (y = ("range" : Str)) && (k.fr.contains y && (gl sc y && (notStar x && (notStar z && (chkE k sc fb a x && chkE k sc fb b z)))))
  | .enum e, t, .Call (.Name y _) [x] [] _ => tgE t && (decide (y = ("enumerate" : Str)) && (k.fr.contains y && (gl sc y && (notStar x && chkE k sc fb e x))))
  | .zip a b, t, .Call (.Name y _) [x, z] [] _ => tgE t && (decide (y = ("zip" : Str)) && (k.fr.contains y && (gl sc y && (notStar x && (notStar z && (chkE k sc fb a x && chkE k sc fb b z))))))
  | _, _, _ => false
end
end PyI
/-! PyI, part 5: what is checked runs as the interpreter says: expressions. -/
namespace PyI
open PySem PySem.Spec PyProof.Rows L2
theorem ba {a b : Bool} (h : (a && b) = true) : a = true ∧ b = true := Bool.and_eq_true_iff.mp h
theorem bn {a : Bool} (h : (!a) = true) : a = false := by cases a <;> first | rfl | cases h
theorem vis_ok {sc : Scope} {x : Str} (h : vis sc x = true) : Vis sc x := by
  unfold vis at h
  unfold Vis
  cases z : sc.names.lookup x with
  | none => rw [z] at h; cases h
  | some q => rw [z] at h; cases q <;> first | exact .inl rfl | exact .inr (.inl rfl) | exact .inr (.inr rfl) | cases h
theorem gl_ok {sc : Scope} {x : Str} (h : gl sc x = true) : sc.names.lookup x = some .globalImplicit := by
  unfold gl at h
  cases z : sc.names.lookup x with
  | none => rw [z] at h; cases h
  | some q => rw [z] at h; cases q <;> first | rfl | cases h
theorem local_ok {sc : Scope} {x : Str} (h : isLocal sc x = true) : sc.names.lookup x = some .local := by
  unfold isLocal at h
  cases z : sc.names.lookup x with
  | none => rw [z] at h; cases h
  | some q => rw [z] at h; cases q <;> first | rfl | cases h
theorem cell_ok {sc : Scope} {x : Str} (h : isCell sc x = true) : sc.names.lookup x = some .cell := by
  unfold isCell at h
  cases z : sc.names.lookup x with
  | none => rw [z] at h; cases h
  | some q => rw [z] at h; cases q <;> first | rfl | cases h
theorem nm_ok {x : Str} (h : nmOk x = true) : (x == ("__debug__" : Str)) = false ∧ (x == ("__classdict__" : Str)) = false ∧ x ≠ "__name__" := by
  unfold nmOk at h
  obtain ⟨h, h3⟩ := ba h
  obtain ⟨h1, h2⟩ := ba h
  exact ⟨bn h1, bn h2, of_decide_eq_false (bn h3)⟩
theorem star_ok {x : Expr} (h : notStar x = true) (xs : List Expr) (env : PySem.Env) : starEach (x :: xs) env = (false, eval x env) :: starEach xs env := by
  cases x <;> first | rfl | cases h
theorem slice_ok {y : Expr} (h : notSlice y = true) : PlainIx y := fun o i => by cases y <;> first | rfl | cases h
theorem set_ok {y : Expr} (h : notSet y = true) (env : PySem.Env) (x : Value) : foldedSetIterable y env x = pure x := by cases y <;> first | rfl | cases h
theorem plainT_ok {x : Expr} (h : plainT x = true) (env : PySem.Env) (whole : Sem Value) : isTrue x env whole = (do let v ← whole; standAt x.pos; holding [v] (truthy v)) := by
  cases x with
  | UnaryOp o a p => cases o <;> first | rfl | cases h
  | _ => first | rfl | cases h
theorem stars_plain {k : Ck} {sc : Scope} {fb : Str → Bool} {env : PySem.Env} {pos : Pos} : ∀ {es : Es} {xs : List Expr}, chkEs k sc fb es xs = true → (backTo pos (starEach xs env)).any (·.1) = false
  | .nil, [], _ => rfl
  | .nil, _ :: _, h => by cases h
  | .cons e r, [], h => by cases h
  | .cons e r, x :: xs, h => by
    obtain ⟨h1, h2⟩ := ba (show (notStar x && (chkE k sc fb e x && chkEs k sc fb r xs)) = true from h)
    obtain ⟨_, h3⟩ := ba h2
    rw [star_ok h1]
    show (false || (backTo pos (starEach xs env)).any (·.1)) = false
    rw [stars_plain h3]
    rfl
theorem boot_bi : ∀ b : Bi, b ≠ .gcd → b ≠ .lcm → bootBuiltins (biName b) = some (biV b)
  | .len, _, _ => by decide +kernel
  | .abs, _, _ => by decide +kernel
  | .int, _, _ => by decide +kernel
  | .min, _, _ => by decide +kernel
  | .max, _, _ => by decide +kernel
  | .sum, _, _ => by decide +kernel
  | .all, _, _ => by decide +kernel
  | .any, _, _ => by decide +kernel
  | .tuple, _, _ => by decide +kernel
  | .list, _, _ => by decide +kernel
  | .sorted, _, _ => by decide +kernel
  | .str, _, _ => by decide +kernel
  | .gcd, h, _ => absurd rfl h
  | .lcm, _, h => absurd rfl h
theorem boot_isi : bootBuiltins "isinstance" = some (.builtin "isinstance") := by decide +kernel
theorem boot_ty {t : String} (h : ["int", "bool", "str", "tuple", "list"].contains t = true) : bootBuiltins (Str.ofString t) = some (.type t) := by
  have h' : t = "int" ∨ t = "bool" ∨ t = "str" ∨ t = "tuple" ∨ t = "list" := by simpa using h
  rcases h' with rfl | rfl | rfl | rfl | rfl <;> decide +kernel
/-! ### calls of the module's defs -/
/-- a def's promise: what the interpreter says of it -/
def spD (c : Cc) (f : Str) : Sp := fun vs H Q Ex => ∃ ds F, RepL c.K F H ds vs ∧ FOk F H ∧ Post (c.Φ f ds) (fun d => ∀ v H', Same H H' → Rep c.K F H' d v → Q v H') (fun x as => ∀ cls dd H', Same H H' → ExAt c.K c.mg c.xf F H' x as cls dd → Ex cls dd H')
def CallOk (X : Cx) (c : Cc) (f : Str) : Prop := ∃ n fa fd ps, FnOk X.prog X.w X.K X.mg X.base (L2.CX X.prog X.w) n fa fd ps (spD c f) ∧ Room n X.A ∧ X.mg f = some (.ref fa) ∧ PySem.W.keepIn X.K (.ref fa) = true ∧ Binds X.K fd ps []
/-- an exception of the module -/
def ExcOk (X : Cx) (c : Cc) (x : Str) (fl : List Str) : Prop := ∃ C fI fd ps, OexC X.K C ∧ PySem.W.findIn X.K (.ref C) "__init__" = some (some (.ref fI)) ∧ PySem.W.typeIn X.K (.ref fI) = some (.type "function") ∧ FnOk X.prog X.w X.K X.mg X.base (L2.CX X.prog X.w) 1 fI fd ps (spInit C fl.length (idx 1 fl)) ∧
  Binds X.K fd ps [] ∧ X.mg x = some (.ref C) ∧ c.xf x = fl ∧ fl.length ≤ 900
/-- what is asked of an exception -/
def ExQ (K : PySem.W.Frag) (mg : Str → Option Value) (cls : List Str) (x : Str) (fl : List Str) : Prop := ∃ C, mg x = some (.ref C) ∧ XfC K C ∧ ExcC K C ∧ (∀ f ∈ fl, PySem.W.findIn K (.ref C) f = some none) ∧ fl.Nodup ∧
  ∀ c ∈ cls, ∃ cv, ((∃ a, cv = .ref a ∧ mg c = some (.ref a)) ∨ (cv = .type "ValueError" ∧ c = "ValueError" ∧ mg c = none)) ∧ PySem.W.kitOne K (.ref C) cv = some (subX x c) ∧ PySem.W.exmOne K (.ref C) cv = some (subX x c)
structure Good (k : Ck) (X : Cx) (c : Cc) (sc : Scope) (fb : Str → Bool) : Prop where
  sc : X.env.scope = sc
  fb : X.fn = fb
  N : X.N = k.N
  nd : X.N.Nodup
  calm : X.calm = true
  K : c.K = X.K
  mg : c.mg = X.mg
  un : X.A.units + 65 < cLine
  takes : Takes X c.W
  fr : ∀ x ∈ k.fr, X.mg x = none
  gm : ∀ x ∈ k.gm, X.mg x = some (.builtin "math.gcd")
  gs : ∀ x ∈ k.gs, ∃ u v d, X.mg x = some u ∧ RelV v u ∧ c.G x = some d ∧ ∀ F H, Rep c.K F H d v
  fns : ∀ f ∈ k.fns, CallOk X c f
  room : Room 2 X.A
  exs : ∀ p ∈ k.exs, ExcOk X c p.1 p.2
  exq : ∀ p ∈ k.exs, ExQ X.K X.mg k.cls p.1 p.2
theorem Good.blk {k : Ck} {X : Cx} {c : Cc} {sc : Scope} {fb : Str → Bool} (g : Good k X c sc fb) (s : Shared) (H : Hp) (scope : Scope) (cl : List (Str × Addr)) (C : Addr) (fp : List Addr) :
    Good k (X.blk s H scope (compEnvC scope cl C X.env) fp) c.quiet (relS scope sc) (isCell scope) where
  sc := by rw [← g.sc]; rfl
  fb := rfl
  N := g.N
  nd := g.nd
  calm := g.calm
  K := g.K
  mg := g.mg
  un := g.un
  takes := takes0
  fr := g.fr
  gm := g.gm
  gs := g.gs
  fns := g.fns
  room := g.room
  exs := g.exs
  exq := g.exq
section
variable {k : Ck} {X : Cx} {c : Cc} {sc : Scope} {fb : Str → Bool}
theorem Good.gl (g : Good k X c sc fb) {x : Str} (h : PyI.gl sc x = true) : Gl X x := by
  have := gl_ok h
  rw [← g.sc] at this
  exact this
theorem Good.frn (g : Good k X c sc fb) {x : Str} (h : k.fr.contains x = true) : X.mg x = none := g.fr x (by simpa using h)
/-! ### a state of the machine without some slots -/
theorem wipeD_get {τ : Env} {i : Nat} {x : C} : ∀ {vs : List Nat}, (wipeD τ vs)[i]? = some (some x) → τ[i]? = some (some x) ∧ i ∉ vs
  | [], h => ⟨h, List.not_mem_nil⟩
  | v :: vs, h => by
    have h' : ((wipeD τ vs).set v none)[i]? = some (some x) := h
    by_cases e : i = v
    · subst e
      rw [List.getElem?_set] at h'
      simp at h'
    · rw [List.getElem?_set_ne (Ne.symm e)] at h'
      obtain ⟨a, b⟩ := wipeD_get h'
      exact ⟨a, fun z => (List.mem_cons.mp z).elim e b⟩
theorem wipeD_len (τ : Env) : ∀ vs : List Nat, (wipeD τ vs).length = τ.length
  | [] => rfl
  | v :: vs => by show ((wipeD τ vs).set v none).length = _; rw [List.length_set, wipeD_len τ vs]
variable {own : Nat → Option Addr} {τ : Env} {σ : L2.St} {H H' : Hp}
theorem Sim.wipe (S : Sim c own τ σ H) (vs : List Nat) : Sim c own (wipeD τ vs) (wipe σ vs) H where
  len := by rw [wipeD_len, wipe_length]; exact S.len
  val := fun i d e => by
    obtain ⟨e1, e2⟩ := wipeD_get e
    obtain ⟨v, h1, h2⟩ := S.val i d e1
    exact ⟨v, by rw [wipe_out e2]; exact h1, h2⟩
  ows := fun i ds e => by
    obtain ⟨e1, e2⟩ := wipeD_get e
    obtain ⟨a, vs', h1, h2, h3, h4⟩ := S.ows i ds e1
    exact ⟨a, vs', h1, by rw [wipe_out e2]; exact h2, h3, h4⟩
  inj := S.inj
  al := S.al
  fin := S.fin
  f0 := S.f0
  same := S.same
  bs := S.bs
theorem Sim.setV (S : Sim c own τ σ H) {i : Nat} {d : D} {v : V} (r : Rep c.K (Fb c own []) H d v) (hi : i < τ.length) : Sim c own (τ.set i (some (.v d))) (σ.set i (some v)) H where
  len := by rw [List.length_set, List.length_set]; exact S.len
  val := fun j e h => by
    by_cases q : j = i
    · subst q
      rw [List.getElem?_set_self hi] at h
      cases h
      exact ⟨v, List.getElem?_set_self (by rw [← S.len]; exact hi), r⟩
    · rw [List.getElem?_set_ne (Ne.symm q)] at h
      obtain ⟨w, h1, h2⟩ := S.val j e h
      exact ⟨w, by rw [List.getElem?_set_ne (Ne.symm q)]; exact h1, h2⟩
  ows := fun j ds h => by
    by_cases q : j = i
    · subst q
      rw [List.getElem?_set_self hi] at h
      cases h
    · rw [List.getElem?_set_ne (Ne.symm q)] at h
      obtain ⟨a, vs, h1, h2, h3⟩ := S.ows j ds h
      exact ⟨a, vs, h1, by rw [List.getElem?_set_ne (Ne.symm q)]; exact h2, h3⟩
  inj := S.inj
  al := S.al
  fin := S.fin
  f0 := S.f0
  same := S.same
  bs := S.bs
/-! ### targets -/
mutual
def tgG (K : PySem.W.Frag) : Tg → TG
  | .nm i => gName i
  | .tup ts => gTup K ts.length (tgGs K ts)
def tgGs (K : PySem.W.Frag) : List Tg → TGs
  | [] => gNil
  | t :: ts => gCons (tgG K t) (tgGs K ts)
end
theorem chkTgs_len (env : PySem.Env) : ∀ {ts : List Tg} {es : List Expr}, chkTgs k sc fb ts es = true → (assignEach es env).length = ts.length ∧ (assignEach es env).findIdx? (·.1) = none
  | [], [], _ => ⟨rfl, rfl⟩
  | [], _ :: _, h => by cases h
  | _ :: _, [], h => by cases h
  | t :: ts, e :: es, h => by
    obtain ⟨h1, h2⟩ := ba (show (notStar e && (chkTg k sc fb t e && chkTgs k sc fb ts es)) = true from h)
    obtain ⟨_, h3⟩ := ba h2
    obtain ⟨a, b⟩ := chkTgs_len env h3
    have z : assignEach (e :: es) env = (false, assign e env) :: assignEach es env := by cases e <;> first | rfl | cases h1
    rw [z]
    refine ⟨by rw [List.length_cons, a]; rfl, ?_⟩
    rw [List.findIdx?_cons]
    simp [b]
mutual
theorem pgTg (g : Good k X c sc fb) : ∀ (t : Tg) (e : Expr), chkTg k sc fb t e = true → PG X e (tgG X.K t)
  | .nm i, .Name x _, h => by
    obtain ⟨h1, h2⟩ := ba (show (decide (k.N[i]? = some x) && (isLocal sc x || (isCell sc x && fb x))) = true from h)
    have hN : X.N[i]? = some x := by rw [g.N]; exact of_decide_eq_true h1
    rw [Bool.or_eq_true] at h2
    rcases h2 with h2 | h2
    · have l : X.env.scope.names.lookup x = some .local := by rw [g.sc]; exact local_ok h2
      exact pg_name g.nd hN (.inl l) (.inr l)
    · obtain ⟨h3, h4⟩ := ba h2
      have l : X.env.scope.names.lookup x = some .cell := by rw [g.sc]; exact cell_ok h3
      exact pg_name g.nd hN (.inr l) (.inl (by rw [g.fb]; exact h4))
  | .tup ts, .Tuple es _ _, h => by
    have h' : chkTgs k sc fb ts es = true := h
    obtain ⟨a, b⟩ := chkTgs_len X.env h'
    exact pg_tup g.calm (pgTgs g ts es h') a b
theorem pgTgs (g : Good k X c sc fb) : ∀ (ts : List Tg) (es : List Expr), chkTgs k sc fb ts es = true → PGs X es (tgGs X.K ts)
  | [], [], _ => pgs_nil
  | [], _ :: _, h => by cases h
  | _ :: _, [], h => by cases h
  | t :: ts, e :: es, h => by
    obtain ⟨h1, h2⟩ := ba (show (notStar e && (chkTg k sc fb t e && chkTgs k sc fb ts es)) = true from h)
    obtain ⟨h3, h4⟩ := ba h2
    exact pgs_cons (pgTg g t e h3) (pgTgs g ts es h4) (by cases e <;> first | rfl | cases h1)
end
theorem wipe_set {σ : L2.St} {i : Nat} {x : Option V} : ∀ {vs : List Nat}, i ∈ vs → wipe (σ.set i x) vs = wipe σ vs := fun {vs} h => by
  apply List.ext_getElem?
  intro j
  by_cases hj : j ∈ vs
  · have key : ∀ (ρ : L2.St) (l : List Nat), j ∈ l → (wipe ρ l)[j]? = if j < ρ.length then some none else none := by
      intro ρ l
      induction l with
      | nil => intro z; cases z
      | cons v r ih =>
        intro z
        show ((wipe ρ r).set v none)[j]? = _
        by_cases e : j = v
        · subst e
          rw [List.getElem?_set]
          simp [wipe_length]
        · rw [List.getElem?_set_ne (Ne.symm e)]
          exact ih ((List.mem_cons.mp z).resolve_left e)
    rw [key _ _ hj, key _ _ hj, List.length_set]
  · rw [wipe_out hj, wipe_out hj]
    have e : i ≠ j := fun z => hj (z ▸ h)
    rw [List.getElem?_set_ne e]
mutual
theorem asg_run : ∀ (t : Tg) (d : D) (v : V) (τ τ' : Env) (σ : L2.St) (Q : L2.St → Hp → Prop), Sim c own τ σ H → Rep c.K (Fb c own []) H d v → asg t d τ = .ok τ' →
    (∀ σ', Sim c own τ' σ' H → (∀ vs, (∀ i ∈ tgIx t, i ∈ vs) → wipe σ' vs = wipe σ vs) → Q σ' H) → tgG c.K t v σ H Q
  | .nm i, d, v, τ, τ', σ, Q, S, r, e, q => by
    obtain ⟨hi, rfl⟩ := ok_if (show (if i < τ.length then Res.ok (τ.set i (some (.v d))) else Res.bad) = .ok τ' from e)
    exact q _ (S.setV r hi) fun vs h => wipe_set (h i (by simp [tgIx]))
  | .tup ts, .tup ds, v, τ, τ', σ, Q, S, r, e, q => by
    obtain ⟨a, vs, rfl, hs, hl⟩ := r
    have e' : asgs ts ds τ = .ok τ' := e
    have hlen : ∀ (ts : List Tg) (ds : List D) (τ τ' : Env), asgs ts ds τ = .ok τ' → ds.length = ts.length := by
      intro ts
      induction ts with
      | nil =>
        intro ds τ τ' e
        cases ds with
        | nil => rfl
        | cons _ _ => cases e
      | cons t ts ih =>
        intro ds τ τ' e
        cases ds with
        | nil => cases e
        | cons d ds =>
          obtain ⟨τ1, _, e2⟩ := bind_ok (show (asg t d τ >>= fun σ1 => asgs ts ds σ1) = .ok τ' from e)
          rw [List.length_cons, List.length_cons, ih ds τ1 τ' e2]
    exact ⟨a, vs, rfl, hs, by rw [← hl.length]; exact hlen ts ds τ τ' e', asgs_run ts ds vs τ τ' σ Q S hl e' q⟩
  | .tup _, .non, _, _, _, _, _, _, _, e, _ => by cases e
  | .tup _, .bl _, _, _, _, _, _, _, _, e, _ => by cases e
  | .tup _, .int _, _, _, _, _, _, _, _, e, _ => by cases e
  | .tup _, .str _, _, _, _, _, _, _, _, e, _ => by cases e
  | .tup _, .lst _, _, _, _, _, _, _, _, e, _ => by cases e
  | .tup _, .scr _, _, _, _, _, _, _, _, e, _ => by cases e
theorem asgs_run : ∀ (ts : List Tg) (ds : List D) (vs : List V) (τ τ' : Env) (σ : L2.St) (Q : L2.St → Hp → Prop), Sim c own τ σ H → RepL c.K (Fb c own []) H ds vs → asgs ts ds τ = .ok τ' →
    (∀ σ', Sim c own τ' σ' H → (∀ vs, (∀ i ∈ tgIxs ts, i ∈ vs) → wipe σ' vs = wipe σ vs) → Q σ' H) → tgGs c.K ts vs σ H Q
  | [], [], vs, τ, τ', σ, Q, S, r, e, q => by
    cases (show vs = [] from r)
    cases (show Res.ok τ = .ok τ' from e)
    exact ⟨rfl, q σ S fun _ _ => rfl⟩
  | [], _ :: _, _, _, _, _, _, _, _, e, _ => by cases e
  | _ :: _, [], _, _, _, _, _, _, _, e, _ => by cases e
  | t :: ts, d :: ds, vs, τ, τ', σ, Q, S, r, e, q => by
    obtain ⟨τ1, e1, e2⟩ := bind_ok (show (asg t d τ >>= fun σ1 => asgs ts ds σ1) = .ok τ' from e)
    obtain ⟨v, vr, rfl, r1, r2⟩ := r
    refine ⟨v, vr, rfl, asg_run t d v τ τ1 σ _ S r1 e1 fun σ1 S1 w1 => asgs_run ts ds vr τ1 τ' σ1 Q S1 r2 e2 fun σ2 S2 w2 => q σ2 S2 fun us h => ?_⟩
    rw [w2 us (fun i z => h i (List.mem_append_right _ z)), w1 us (fun i z => h i (List.mem_append_left _ z))]
end
end
end PyI
/-! PyI, part 6: what raises nothing. -/
namespace PyI
open PySem PySem.Spec PyProof.Rows L2
def NoX {α : Type} (r : Res α) : Prop := match r with
  | .exc _ _ => False
  | _ => True
theorem NoX.ok {α : Type} (a : α) : NoX (Res.ok a) := trivial
theorem NoX.bad {α : Type} : NoX (Res.bad : Res α) := trivial
theorem NoX.ite {α : Type} {c : Prop} [Decidable c] {a : α} : NoX (if c then Res.ok a else Res.bad) := by
  by_cases h : c
  · rw [if_pos h]; trivial
  · rw [if_neg h]; trivial
theorem NoX.bind {α β : Type} {r : Res α} {f : α → Res β} (h : NoX r) (hf : ∀ a, NoX (f a)) : NoX (r >>= f) := by
  cases r with
  | ok a => exact hf a
  | exc c vs => exact h.elim
  | bad => trivial
theorem Post.nx {α : Type} {r : Res α} {q : α → Prop} {x : Str → List D → Prop} (h : Post r q x) (n : NoX r) : ∃ a, r = .ok a ∧ q a := by
  cases r with
  | ok a => exact ⟨a, rfl, h⟩
  | exc c vs => exact n.elim
  | bad => exact h.elim
theorem nx_getV (τ : Env) (i : Nat) : NoX (getV τ i) := by unfold getV; split <;> trivial
theorem nx_blD (d : D) : NoX (blD d) := by cases d <;> trivial
theorem nx_intD (d : D) : NoX (intD d) := by cases d <;> trivial
theorem nx_lenD (d : D) : NoX (lenD d) := by
  cases d with
  | str x => exact NoX.ite
  | _ => trivial
theorem nx_itemsD (d : D) : NoX (itemsD d) := by cases d <;> trivial
theorem nx_rngD (a b : Int) : NoX (rngD a b) := NoX.ite
theorem nx_opD (o : Op) (x y : D) : NoX (opD o x y) := by
  cases o <;> cases x <;> cases y <;> first | trivial | exact NoX.ite
theorem nx_eqD (x y : D) : NoX (eqD x y) := by
  cases x <;> cases y <;> first | trivial | exact NoX.ite
theorem nx_inD (x y : D) : NoX (inD x y) := by
  cases y with
  | lst ds => exact NoX.ite
  | tup ds => exact NoX.ite
  | str z =>
    cases x with
    | str w =>
      show NoX (if h : w.cps.size = 1 then Res.ok (decide (w.cps[0]'(by omega) ∈ z.cps.toList)) else Res.bad)
      split <;> trivial
    | _ => trivial
  | _ => trivial
theorem nx_cmD (o : Cm) (x y : D) : NoX (cmD o x y) := by
  cases o with
  | eq => exact (nx_eqD x y).bind fun _ => trivial
  | ne => exact (nx_eqD x y).bind fun _ => trivial
  | in_ => exact (nx_inD x y).bind fun _ => trivial
  | notIn => exact (nx_inD x y).bind fun _ => trivial
  | lt =>
    cases x with
    | tup xs =>
      cases y with
      | tup ys =>
        show NoX (match D.ints xs, D.ints ys with
          | some a, some b => Res.ok (D.bl (HT.lexLt a b))
          | _, _ => .bad)
        split <;> trivial
      | _ => trivial
    | _ => cases y <;> trivial
  | _ => cases x <;> cases y <;> trivial
theorem nx_ixD (x y : D) : NoX (ixD x y) := by
  cases x with
  | lst xs =>
    cases y with
    | int i =>
      show NoX (match atI xs i with
        | some d => Res.ok d
        | none => .bad)
      split <;> trivial
    | _ => trivial
  | tup xs =>
    cases y with
    | int i =>
      show NoX (match atI xs i with
        | some d => Res.ok d
        | none => .bad)
      split <;> trivial
    | _ => trivial
  | scr xs =>
    cases y with
    | int i =>
      show NoX (match atI xs i with
        | some d => Res.ok (D.int d)
        | none => .bad)
      split <;> trivial
    | _ => trivial
  | str z =>
    cases y with
    | int i =>
      show NoX (if z.length ≤ sizeLine then (match atI z.cps.toList i with
        | some c => Res.ok (D.str ⟨#[c]⟩)
        | none => .bad) else .bad)
      split
      · split <;> trivial
      · trivial
    | _ => trivial
  | _ => cases y <;> trivial
theorem nx_strD (x : D) : NoX (strD x) := by cases x <;> trivial
theorem nx_slD (x : D) (lo hi : Option Int) : NoX (slD x lo hi) := by
  cases x with
  | str z => exact NoX.ite
  | _ => trivial
theorem nx_biD (b : Bi) : ∀ ds : List D, NoX (biD b ds)
  | [] => by cases b <;> trivial
  | [d] => by
    cases b with
    | len => exact (nx_lenD d).bind fun _ => trivial
    | min =>
      cases d with
      | lst xs =>
        show NoX (match D.ints xs with
          | some (x :: r) => Res.ok (D.int (minL x r))
          | _ => .bad)
        split <;> trivial
      | _ => trivial
    | max =>
      cases d with
      | lst xs =>
        show NoX (match D.ints xs with
          | some (x :: r) => Res.ok (D.int (maxL x r))
          | _ => .bad)
        split <;> trivial
      | _ => trivial
    | sum =>
      cases d with
      | lst xs =>
        show NoX (match D.ints xs with
          | some ns => Res.ok (D.int ns.sum)
          | _ => .bad)
        split <;> trivial
      | tup xs =>
        show NoX (match D.ints xs with
          | some ns => Res.ok (D.int ns.sum)
          | _ => .bad)
        split <;> trivial
      | _ => trivial
    | all =>
      cases d with
      | lst xs =>
        show NoX (match D.bls xs with
          | some ns => Res.ok (D.bl (ns.all id))
          | _ => .bad)
        split <;> trivial
      | _ => trivial
    | any =>
      cases d with
      | lst xs =>
        show NoX (match D.bls xs with
          | some ns => Res.ok (D.bl (ns.any id))
          | _ => .bad)
        split <;> trivial
      | _ => trivial
    | int =>
      cases d with
      | str z => exact NoX.ite
      | _ => trivial
    | str =>
      cases d with
      | int z => exact NoX.ite
      | _ => trivial
    | _ => cases d <;> trivial
  | [d, e] => by cases b <;> cases d <;> first | trivial | (cases e <;> trivial)
  | d :: e :: f :: r => by cases b <;> cases d <;> first | trivial | (cases e <;> trivial)
theorem nx_isiD (d : D) (t : String) : NoX (isiD d t) := by
  unfold isiD
  split <;> trivial
mutual
theorem nx_asg : ∀ (t : Tg) (d : D) (τ : Env), NoX (asg t d τ)
  | .nm i, d, τ => NoX.ite
  | .tup ts, .tup ds, τ => nx_asgs ts ds τ
  | .tup _, .non, _ => trivial
  | .tup _, .bl _, _ => trivial
  | .tup _, .int _, _ => trivial
  | .tup _, .str _, _ => trivial
  | .tup _, .lst _, _ => trivial
  | .tup _, .scr _, _ => trivial
theorem nx_asgs : ∀ (ts : List Tg) (ds : List D) (τ : Env), NoX (asgs ts ds τ)
  | [], [], _ => trivial
  | [], _ :: _, _ => trivial
  | _ :: _, [], _ => trivial
  | t :: ts, d :: ds, τ => (nx_asg t d τ).bind fun τ1 => nx_asgs ts ds τ1
end
theorem nx_nox {α : Type} (r : Res α) : NoX (nox r) := by cases r <;> trivial
theorem nx_mapR (f : D → Res (Option D)) (h : ∀ d, NoX (f d)) : ∀ ds, NoX (mapR f ds)
  | [] => trivial
  | d :: r => (h d).bind fun o => (nx_mapR f h r).bind fun ds => by cases o <;> trivial
theorem nx_flatR (f : D → Res (List D)) (h : ∀ d, NoX (f d)) : ∀ ds, NoX (flatR f ds)
  | [] => trivial
  | d :: r => (h d).bind fun xs => (nx_flatR f h r).bind fun ds => trivial
end PyI
/-! PyI, part 7: one construct each, no syntax in sight. -/
namespace PyI
open PySem PySem.Spec PyProof.Rows L2
section
variable {k : Ck} {X : Cx} {c : Cc} {sc : Scope} {fb : Str → Bool} {own : Nat → Option Addr} {τ : Env} {σ : L2.St} {H H' : Hp}
theorem evs_len : ∀ {es : Es} {τ : Env} {ds : List D}, evs c.G c.Φ es τ = .ok ds → ds.length = esLen es
  | .nil, τ, ds, e => by cases e; rfl
  | .cons e r, τ, ds, h => by
    obtain ⟨d, h1, h2⟩ := bind_ok (show (ev c.G c.Φ e τ >>= fun d => evs c.G c.Φ r τ >>= fun ds => Res.ok (d :: ds)) = .ok ds from h)
    obtain ⟨ds', h3, h4⟩ := bind_ok h2
    cases h4
    rw [List.length_cons, evs_len h3]
    rfl
theorem line1000 {n : Nat} (h : n ≤ 1000) : n ≤ sizeLine := Nat.le_of_lt (small1000 h)
theorem RepT.any {K : PySem.W.Frag} {F1 F : Addr → Prop} {H : Hp} {d : D} {v : V} (h : RepT K F1 F H d v) : RepT K NoF F H d v := h.weak (fun _ z => z.elim) fun _ z => z
theorem appL {L L' : List Nat} (a : Addr) (z : Fb c own (L ++ L') a) : Fb c own L a := Fb.mono (fun j h => List.mem_append_left _ h) a z
theorem appR {L L' : List Nat} (a : Addr) (z : Fb c own (L ++ L') a) : Fb c own L' a := Fb.mono (fun j h => List.mem_append_right _ h) a z
theorem ft_l {c : Cc} {own : Nat → Option Addr} {e : E} {H : Hp} (a : Addr) (z : Fb c own (lt e) a) : Ft c own e H a := .inl z
theorem ft_n {c : Cc} {own : Nat → Option Addr} {e : E} {H : Hp} {L : List Nat} (h : fresh e = false) (w : ∀ j ∈ L, j ∈ lt e) (a : Addr) (z : Ft c own e H a) : Fb c own L a := z.elim (Fb.mono w a) fun z => by rw [h] at z; cases z.1
theorem ft_ok (S : Sim c own τ σ H) (s : Same H H') {e : E} : FOk (Ft c own e H) H' := fun a z n => z.elim (fun z => (S.mono s).fok a z n) fun z => z.2 (s.free n)
theorem lp_var {i : Nat} {Q : VK} (q : rdE c (.var i) σ H Q) : tVar i σ H Q := by
  obtain ⟨own, τ, S, p⟩ := q
  obtain ⟨d, e, p⟩ := (show Post (getV τ i) _ _ from p).nx (nx_getV τ i)
  obtain ⟨v, h1, h2⟩ := S.get e
  exact ⟨v, h1, p v H (Same.refl H) (h2.weak (ft_n rfl fun _ z => z) fun _ z => z)⟩
/-- two in a row -/
theorem lp_two {a b : E} {f : D → D → Res D} {T : Addr → Prop} {L2 : List Nat} {Q : VK} {R : V → V → Hp → Prop} (S : Sim c own τ σ H)
    (p : Post (ev c.G c.Φ a τ >>= fun x => ev c.G c.Φ b τ >>= fun y => f x y) (fun d => ∀ v H', Same H H' → RepT c.K T (Fb c own L2) H' d v → Q v H') (ExW c σ H))
    (q : ∀ x y v w H2, Same H H2 → Sim c own τ σ H2 → RepT c.K (Fb c own (lt a)) (Fb c own (li a)) H2 x v → RepT c.K (Fb c own (lt b)) (Fb c own (li b)) H2 y w → Post (f x y) (fun d => ∀ v H', Same H2 H' → RepT c.K T (Fb c own L2) H' d v → Q v H') (ExW c σ H2) → R v w H2) :
    rdE c a σ H fun x H1 => rdE c b σ H1 fun y H2 => R x y H2 :=
  ⟨own, τ, S, (Post.bind p).imp (fun x _ p v H1 s1 r1 => ⟨own, τ, S.mono s1, (Post.bind p).imp (fun y _ p w H2 s2 r2 => q x y v w H2 (s1.trans s2) (S.mono (s1.trans s2)) ((r1.same s2).weak ft_l fun _ z => z) (r2.weak ft_l fun _ z => z)
    (p.imp (fun d _ q v H3 s3 r => q v H3 ((s1.trans s2).trans s3) r) fun _ _ e => e.same (s1.trans s2))) fun _ _ e => e.same s1⟩) fun _ _ e => e⟩
theorem lp_op {o : Op} {a b : E} {Q : VK} (q : rdE c (.op o a b) σ H Q) : tOp (rOpD c.K o) (rdE c a) (rdE c b) σ H Q := by
  obtain ⟨own, τ, S, p⟩ := q
  refine lp_two (f := opD o) (T := Ft c own (.op o a b) H) (L2 := li a ++ li b) S p fun x y v w H2 s S2 r1 r2 p => ?_
  obtain ⟨d, e, q⟩ := p.nx (nx_opD o x y)
  exact ⟨Ft c own (.op o a b) H, Fb c own (li a ++ li b), x, y, ft_ok S s, r1.any.weak (fun _ z => z) appL, r2.any.weak (fun _ z => z) appR, d, e, q⟩
theorem lp_neg {a : E} {Q : VK} (q : rdE c (.neg a) σ H Q) : tUn (rU fun i => .int (-i)) (rdE c a) σ H Q := by
  obtain ⟨own, τ, S, p⟩ := q
  refine ⟨own, τ, S, (Post.bind p).imp (fun x _ p v H1 s1 r1 => ?_) fun _ _ e => e⟩
  obtain ⟨i, e, p⟩ := (Post.bind p).nx (nx_intD x)
  cases x with
  | int j => cases e; exact ⟨i, r1, p _ H1 s1 rfl⟩
  | _ => cases e
theorem lp_not {a : E} {Q : VK} (q : rdE c (.not a) σ H Q) : tNotV (rdE c a) σ H Q := by
  obtain ⟨own, τ, S, p⟩ := q
  refine ⟨own, τ, S, (Post.bind p).imp (fun x _ p v H1 s1 r1 => ?_) fun _ _ e => e⟩
  obtain ⟨b, e, p⟩ := (Post.bind p).nx (nx_blD x)
  cases x with
  | bl j => cases e; exact ⟨b, r1, p _ H1 s1 rfl⟩
  | _ => cases e
theorem lp_and {a b : E} {Q : VK} (q : rdE c (.and a b) σ H Q) : tAndV (rdE c a) (rdE c b) σ H Q := by
  obtain ⟨own, τ, S, p⟩ := q
  refine ⟨own, τ, S, (Post.bind p).imp (fun x _ p v H1 s1 r1 => ?_) fun _ _ e => e⟩
  obtain ⟨t, e, p⟩ := (Post.bind p).nx (nx_blD x)
  cases x with
  | bl j =>
    cases e
    refine ⟨t, r1, ?_⟩
    cases t with
    | true => exact iteT ⟨own, τ, S.mono s1, (show Post (ev c.G c.Φ b τ) _ _ from p).imp (fun d _ q w H2 s2 r => q w H2 (s1.trans s2) (r.weak (fun a z => ft_l a (appR a (ft_n rfl (fun _ z => z) a z))) appR)) fun _ _ e => e.same s1⟩
    | false => exact iteF ((show ∀ v H', Same H H' → RepT c.K _ _ H' (D.bl false) v → Q v H' from p) _ H1 s1 rfl)
  | _ => cases e
theorem lp_or {a b : E} {Q : VK} (q : rdE c (.or a b) σ H Q) : tOrV (rdE c a) (rdE c b) σ H Q := by
  obtain ⟨own, τ, S, p⟩ := q
  refine ⟨own, τ, S, (Post.bind p).imp (fun x _ p v H1 s1 r1 => ?_) fun _ _ e => e⟩
  obtain ⟨t, e, p⟩ := (Post.bind p).nx (nx_blD x)
  cases x with
  | bl j =>
    cases e
    refine ⟨t, r1, ?_⟩
    cases t with
    | false => exact iteF ⟨own, τ, S.mono s1, (show Post (ev c.G c.Φ b τ) _ _ from p).imp (fun d _ q w H2 s2 r => q w H2 (s1.trans s2) (r.weak (fun a z => ft_l a (appR a (ft_n rfl (fun _ z => z) a z))) appR)) fun _ _ e => e.same s1⟩
    | true => exact iteT ((show ∀ v H', Same H H' → RepT c.K _ _ H' (D.bl true) v → Q v H' from p) _ H1 s1 rfl)
  | _ => cases e
theorem nxbl {o : Cm} {x y d : D} (h : cmD o x y = .ok d) : ∃ b, d = .bl b := by
  cases o with
  | eq => obtain ⟨b, _, e⟩ := bind_ok (show (eqD x y >>= fun r => Res.ok (D.bl r)) = .ok d from h); exact ⟨b, (Res.ok.inj e).symm⟩
  | ne => obtain ⟨b, _, e⟩ := bind_ok (show (eqD x y >>= fun r => Res.ok (D.bl (!r))) = .ok d from h); exact ⟨!b, (Res.ok.inj e).symm⟩
  | in_ => obtain ⟨b, _, e⟩ := bind_ok (show (inD x y >>= fun r => Res.ok (D.bl r)) = .ok d from h); exact ⟨b, (Res.ok.inj e).symm⟩
  | notIn => obtain ⟨b, _, e⟩ := bind_ok (show (inD x y >>= fun r => Res.ok (D.bl (!r))) = .ok d from h); exact ⟨!b, (Res.ok.inj e).symm⟩
  | lt =>
    cases x with
    | tup xs =>
      cases y with
      | tup ys =>
        have h' : (match D.ints xs, D.ints ys with
          | some a, some b => Res.ok (D.bl (HT.lexLt a b))
          | _, _ => .bad) = .ok d := h
        split at h'
        · exact ⟨_, (Res.ok.inj h').symm⟩
        · cases h'
      | _ => cases h
    | int i =>
      cases y with
      | int j => exact ⟨_, (Res.ok.inj h).symm⟩
      | _ => cases h
    | _ => cases y <;> cases h
  | _ =>
    cases x <;> cases y <;> first | exact ⟨_, (Res.ok.inj h).symm⟩ | cases h
theorem lp_cmp {o : Cm} {a b : E} {Q : VK} (q : rdE c (.cmp o a b) σ H Q) : tOp (rCmD c.K o) (rdE c a) (rdE c b) σ H Q := by
  obtain ⟨own, τ, S, p⟩ := q
  refine lp_two (f := cmD o) (T := Ft c own (.cmp o a b) H) (L2 := []) S p fun x y v w H2 s S2 r1 r2 p => ?_
  obtain ⟨d, e, q⟩ := p.nx (nx_cmD o x y)
  exact ⟨_, _, _, _, x, y, d, r1, r2, e, fun b eb => by subst eb; exact q _ H2 (Same.refl _) rfl⟩
theorem lp_chain {o o' : Cm} {a b d : E} {Q : VK} (q : rdE c (.chain o o' a b d) σ H Q) : tChain (rCmD c.K o) (rCmD c.K o') (rdE c a) (rdE c b) (rdE c d) σ H Q := by
  obtain ⟨own, τ, S, p⟩ := q
  refine ⟨own, τ, S, (Post.bind p).imp (fun x _ p v H1 s1 r1 => ⟨own, τ, S.mono s1, (Post.bind p).imp (fun y _ p w H2 s2 r2 => ?_) fun _ _ e => e.same s1⟩) fun _ _ e => e⟩
  obtain ⟨z, e, p⟩ := (Post.bind p).nx (nx_cmD o x y)
  obtain ⟨t, et⟩ := nxbl e
  subst et
  refine ⟨_, _, _, _, x, y, .bl t, r1.same s2, r2, e, fun b eb => ?_⟩
  cases eb
  refine ⟨t, rfl, ?_⟩
  have p' : Post (if t then ev c.G c.Φ d τ >>= fun w => cmD o' y w else Res.ok (D.bl false)) (fun d' => ∀ v H', Same H H' → RepT c.K (Ft c own (E.chain o o' a b d) H) (Fb c own (li (E.chain o o' a b d))) H' d' v → Q v H') (ExW c σ H) := p
  cases t with
  | false => exact iteF ((show ∀ v H', Same H H' → RepT c.K _ _ H' (D.bl false) v → Q v H' from p') _ H2 (s1.trans s2) rfl)
  | true =>
    refine iteT ⟨own, τ, S.mono (s1.trans s2), (Post.bind (show Post (ev c.G c.Φ d τ >>= fun w => cmD o' y w) _ _ from p')).imp (fun z _ p u H3 s3 r3 => ?_) fun _ _ e => e.same (s1.trans s2)⟩
    obtain ⟨d', e, q⟩ := p.nx (nx_cmD o' y z)
    exact ⟨_, _, _, _, y, z, d', r2.same s3, r3, e, fun b eb => by subst eb; exact q _ H3 ((s1.trans s2).trans s3) rfl⟩
theorem lp_ife {t a b : E} {Q : VK} (q : rdE c (.ife t a b) σ H Q) : tIf (rdT c t) (rdE c a) (rdE c b) σ H Q := by
  obtain ⟨own, τ, S, p⟩ := q
  have p' : Post ((ev c.G c.Φ t τ >>= blD) >>= fun k => if k then ev c.G c.Φ a τ else ev c.G c.Φ b τ) (fun d => ∀ v H', Same H H' → RepT c.K (Ft c own (E.ife t a b) H) (Fb c own (li (E.ife t a b))) H' d v → Q v H') (ExW c σ H) := by
    have e : ((ev c.G c.Φ t τ >>= blD) >>= fun k => if k then ev c.G c.Φ a τ else ev c.G c.Φ b τ) = ev c.G c.Φ (.ife t a b) τ := by
      show _ = (ev c.G c.Φ t τ >>= fun x => blD x >>= fun k => if k then ev c.G c.Φ a τ else ev c.G c.Φ b τ)
      cases ev c.G c.Φ t τ <;> rfl
    rw [e]
    exact p
  refine ⟨own, τ, S, (Post.bind p').imp (fun t _ p H1 s1 => ?_) fun _ _ e => e⟩
  cases t with
  | true => exact iteT ⟨own, τ, S.mono s1, (show Post (ev c.G c.Φ a τ) _ _ from p).imp (fun d _ q w H2 s2 r => q w H2 (s1.trans s2) (r.weak (fun a z => ft_l a (appL a (ft_n rfl (fun _ z => z) a z))) appL)) fun _ _ e => e.same s1⟩
  | false => exact iteF ⟨own, τ, S.mono s1, (show Post (ev c.G c.Φ b τ) _ _ from p).imp (fun d _ q w H2 s2 r => q w H2 (s1.trans s2) (r.weak (fun a z => ft_l a (appR a (ft_n rfl (fun _ z => z) a z))) appR)) fun _ _ e => e.same s1⟩
theorem lp_ix {a b : E} {Q : VK} (q : rdE c (.ix a b) σ H Q) : tOp (rIxD c.K) (rdE c a) (rdE c b) σ H Q := by
  obtain ⟨own, τ, S, p⟩ := q
  refine lp_two (f := ixD) (T := Ft c own (.ix a b) H) (L2 := li a) S p fun x y v w H2 s S2 r1 r2 p => ?_
  obtain ⟨d, e, q⟩ := p.nx (nx_ixD x y)
  exact ⟨_, _, _, _, x, y, d, r1, r2, e, fun u r => q u H2 (Same.refl _) (r.t.weak (ft_n rfl fun _ z => z) fun _ z => z)⟩
theorem lp_part {o : Op1} {Q : Option Int → Hp → Prop} (q : rdO c o σ H Q) : (o = .no → tNoPart σ H Q) ∧ ∀ e, o = .so e → tPart (rdE c e) σ H Q := by
  obtain ⟨own, τ, S, p⟩ := q
  refine ⟨fun e => ?_, fun e he => ?_⟩
  · subst e
    exact (show ∀ H', Same H H' → Q none H' from p) H (Same.refl _)
  · subst he
    refine ⟨own, τ, S, (Post.bind (show Post (ev c.G c.Φ e τ >>= fun x => intD x >>= fun i => Res.ok (some i)) _ _ from p)).imp (fun x _ p v H1 s1 r1 => ?_) fun _ _ e => e⟩
    obtain ⟨i, e, p⟩ := (Post.bind p).nx (nx_intD x)
    cases x with
    | int j => cases e; exact ⟨i, r1, (show ∀ H', Same H H' → Q (some i) H' from p) H1 s1⟩
    | _ => cases e
theorem lp_sl {a : E} {lo hi : Op1} {Q : VK} (q : rdE c (.sl a lo hi) σ H Q) : tSl (rSlD c.K) (rdE c a) (rdO c lo) (rdO c hi) σ H Q := by
  obtain ⟨own, τ, S, p⟩ := q
  refine ⟨own, τ, S, (Post.bind p).imp (fun x _ p v H1 s1 r1 => ⟨own, τ, S.mono s1, (Post.bind p).imp (fun l _ p H2 s2 => ⟨own, τ, S.mono (s1.trans s2), (Post.bind p).imp (fun h _ p H3 s3 => ?_) fun _ _ e => e.same (s1.trans s2)⟩) fun _ _ e => e.same s1⟩) fun _ _ e => e⟩
  obtain ⟨d, e, q⟩ := p.nx (nx_slD x l h)
  exact ⟨Ft c own (.sl a lo hi) H, Fb c own (li a), x, ft_ok S ((s1.trans s2).trans s3), (r1.same (s2.trans s3)).any, d, e, fun u H4 s4 r => q u H4 (((s1.trans s2).trans s3).trans s4) r⟩
theorem lp_nil {Q : List V → Hp → Prop} (q : rdA c .nil σ H Q) : tNil σ H Q := by
  obtain ⟨own, τ, S, p⟩ := q
  exact (show ∀ vs H', Same H H' → RepL c.K (Fb c own (las .nil)) H' [] vs → RepA c.K (Fb c own (lis .nil)) H' [] vs → Q vs H' from p) [] H (Same.refl _) rfl rfl
theorem lp_cons {e : E} {r : Es} {Q : List V → Hp → Prop} (q : rdA c (.cons e r) σ H Q) : tCons (rdE c e) (rdA c r) σ H Q := by
  obtain ⟨own, τ, S, p⟩ := q
  refine ⟨own, τ, S, (Post.bind (show Post (ev c.G c.Φ e τ >>= fun d => evs c.G c.Φ r τ >>= fun ds => Res.ok (d :: ds)) _ _ from p)).imp (fun x _ p v H1 s1 r1 => ⟨own, τ, S.mono s1, (Post.bind p).imp (fun ds _ p vs H2 s2 r2 r3 => ?_) fun _ _ e => e.same s1⟩) fun _ _ e => e⟩
  refine (show ∀ vs H', Same H H' → RepL c.K (Fb c own (las (.cons e r))) H' (x :: ds) vs → RepA c.K (Fb c own (lis (.cons e r))) H' (x :: ds) vs → Q vs H' from p) (v :: vs) H2 (s1.trans s2) ⟨v, vs, rfl, ?_, r2.weak appR⟩ ⟨v, vs, rfl, (r1.same s2).any.weak (fun _ z => z) appL, ?_⟩
  · exact ((r1.same s2).weak (F1' := Fb c own (las (.cons e r))) (fun a z => ft_l a (appL (L' := li e) a (appL (L' := las r) a z))) (fun a z => appR (L := lt e) a (appL (L' := las r) a z))).rep
  · have key : ∀ {ds : List D} {vs : List V}, RepA c.K (Fb c own (lis r)) H2 ds vs → RepA c.K (Fb c own (lis (.cons e r))) H2 ds vs := by
      intro ds
      induction ds with
      | nil => intro vs h; exact h
      | cons d ds ih =>
        intro vs h
        obtain ⟨v, w, e1, h1, h2⟩ := h
        exact ⟨v, w, e1, h1.weak (fun _ z => z) appR, ih h2⟩
    exact key r3
theorem lp_tup {es : Es} {Q : VK} (hl : esLen es ≤ 1000) (q : rdE c (.tup es) σ H Q) : tTup (rdA c es) σ H Q := by
  obtain ⟨own, τ, S, p⟩ := q
  refine ⟨own, τ, S, (Post.bind p).imp (fun ds e p vs H1 s1 r1 _ => ?_) fun _ _ e => e⟩
  have n := evs_len e
  exact ⟨by rw [← r1.length, n]; exact line1000 hl, fun a ha => (show ∀ v H', Same H H' → RepT c.K _ _ H' (D.tup ds) v → Q v H' from p) _ _ (s1.trans (same_upd ha)) (tup_new ha r1)⟩
theorem lp_lst {es : Es} {Q : VK} (hl : esLen es ≤ 1000) (q : rdE c (.lst es) σ H Q) : tLst (rdA c es) σ H Q := by
  obtain ⟨own, τ, S, p⟩ := q
  refine ⟨own, τ, S, (Post.bind p).imp (fun ds e p vs H1 s1 r1 _ => ?_) fun _ _ e => e⟩
  have n := evs_len e
  exact ⟨by rw [← r1.length, n]; exact line1000 hl, fun a ha => (show ∀ v H', Same H H' → RepT c.K (Ft c own (.lst es) H) (Fb c own (las es)) H' (D.lst ds) v → Q v H' from p) _ _ (s1.trans (same_upd ha)) (lst_new (ft_ok S s1) ha r1)⟩
theorem lp_bi {b : Bi} {es : Es} {Q : VK} (q : rdE c (.bi b es) σ H Q) : tCB (rBiD c.K b) (rdA c es) σ H Q := by
  obtain ⟨own, τ, S, p⟩ := q
  refine ⟨own, τ, S, (Post.bind p).imp (fun ds e p vs H1 s1 _ r1 => ?_) fun _ _ e => e⟩
  obtain ⟨d, e, q⟩ := p.nx (nx_biD b ds)
  exact ⟨Ft c own (.bi b es) H, Fb c own (lis es), ds, ft_ok S s1, r1, d, e, fun v H2 s2 r => q v H2 (s1.trans s2) r⟩
theorem lp_call {f : Str} {es : Es} {Q : VK} (q : rdE c (.call f es) σ H Q) : tCallS (spD c f) (WE c.W) (rdA c es) σ H Q := by
  obtain ⟨own, τ, S, p⟩ := q
  refine ⟨own, τ, S, (Post.bind p).imp (fun ds e p vs H1 s1 r1 _ => ?_) fun _ _ e => e⟩
  refine ⟨ds, Fb c own (las es), r1, (S.mono s1).fok, p.imp (fun d _ q v H2 s2 r => q v H2 (s1.trans s2) (r.t.weak (ft_n rfl fun _ z => z) fun _ z => z)) fun x as e cls dd H2 s2 ex => ?_⟩
  obtain ⟨C, h1, h2, d, fs, h3, h4, h5, h6⟩ := ex
  exact e cls dd H2 (s1.trans s2) ⟨C, h1, h2, d, fs, h3, h4, h5, h6.weak fun a z => .inl z⟩
theorem lp_isi {a : E} {t : String} {Q : VK} (q : rdE c (.isi a t) σ H Q) : tCB (rIsD c.K t) (tCons (rdE c a) (tCons (tC (.ty t)) tNil)) σ H Q := by
  obtain ⟨own, τ, S, p⟩ := q
  refine ⟨own, τ, S, (Post.bind p).imp (fun x _ p v H1 s1 r1 => ?_) fun _ _ e => e⟩
  obtain ⟨d, e, q⟩ := p.nx (nx_isiD x t)
  exact ⟨_, _, x, v, d, rfl, r1, e, fun b eb => by subst eb; exact q _ H1 s1 rfl⟩
theorem lp_find {K : PySem.W.Frag} {a b : E} {Q : VK} (q : rdE c (.find a b) σ H Q) : tBM K "str" (fun x xs H Q => ∃ a b, x = .str a ∧ xs = [.str b] ∧ Q (.int (Txt.find a b)) H) (rdE c a) (tCons (rdE c b) tNil) σ H Q := by
  obtain ⟨own, τ, S, p⟩ := q
  refine ⟨own, τ, S, (Post.bind p).imp (fun x _ p v H1 s1 r1 => ?_) fun _ _ e => e⟩
  cases x with
  | str z =>
    cases (show v = .str z from r1)
    refine ⟨rfl, own, τ, S.mono s1, (Post.bind (show Post (ev c.G c.Φ b τ >>= fun y => strD y >>= fun t => Res.ok (D.int (Txt.find z t))) _ _ from p)).imp (fun y _ p w H2 s2 r2 => ?_) fun _ _ e => e.same s1⟩
    cases y with
    | str t =>
      cases (show w = .str t from r2)
      exact ⟨z, t, rfl, rfl, (show ∀ v H', Same H H' → RepT c.K _ _ H' (D.int (Txt.find z t)) v → Q v H' from p) _ _ (s1.trans s2) rfl⟩
    | _ => exact p.elim
  | _ => exact p.elim
end
end PyI
/-! PyI, part 8: what is walked; comprehensions. -/
namespace PyI
open PySem PySem.Spec PyProof.Rows L2
section
variable {K : PySem.W.Frag} {F F1 F2 : Addr → Prop} {H : Hp}
theorem Kept.more {F F2 : Addr → Prop} {H H' : Hp} (k : Kept F H H') (w : ∀ a, F a → F2 a) : Kept F2 H H' := fun a o e n => k a o e (n.imp (fun z x => z (w a x)) id)
theorem it_list {a : Addr} {vs : List V} {ds : List D} (h : H a = some (.lst vs)) (n : ¬ F a) (w : ∀ a, F a → F2 a) (r : RepL K F2 H ds vs) : ItOk K F F2 (Itl K a) H ds := fun Y hY H1 kp => by
  have h1 : H1 a = some (.lst vs) := kp a _ h (.inl n)
  have r1 := RepFL.kept ds vs (kp.more (fun a z => Or.inl (w a z))) (fun _ z => z) (RepFL.older hY ds vs r)
  refine ⟨fun i d e => ?_, fun i hi => ⟨vs, SqL.of h1, by rw [← r.length]; exact hi⟩⟩
  obtain ⟨v, hv, rv⟩ := r1.get e
  refine ⟨⟨vs, v, SqL.of h1, hv⟩, fun x H2 ⟨e1, e2⟩ => ?_⟩
  subst e1
  have := e2 vs (SqL.of h1)
  rw [hv] at this
  cases this
  exact ⟨Same.refl _, rv⟩
theorem it_tup {a : Addr} {vs : List V} {ds : List D} (h : SqT K H a vs) (w : ∀ a, F a → F2 a) (r : RepL K F2 H ds vs) : ItOk K F F2 (Itt K a) H ds := fun Y hY H1 kp => by
  have h1 : SqT K H1 a vs := kp.sqT h
  have r1 := RepFL.kept ds vs (kp.more (fun a z => Or.inl (w a z))) (fun _ z => z) (RepFL.older hY ds vs r)
  refine ⟨fun i d e => ?_, fun i hi => ⟨vs, h1, by rw [← r.length]; exact hi⟩⟩
  obtain ⟨v, hv, rv⟩ := r1.get e
  refine ⟨⟨vs, v, h1, hv⟩, fun x H2 ⟨e1, e2⟩ => ?_⟩
  subst e1
  have := e2 vs h1
  rw [hv] at this
  cases this
  exact ⟨Same.refl _, rv⟩
theorem it_scr {a : Addr} {ns : List Int} (h : ScrAt K F H a (ns.map V.int)) : ItOk K F F2 (Itl K a) H (ns.map D.int) := fun Y hY H1 kp => by
  have h1 : SqL K H1 a (ns.map V.int) := by
    rcases h with ⟨h, n⟩ | ⟨o, h⟩ | h
    · exact .inl (.inl (kp _ _ h (.inl n)))
    · exact .inl (.inr ⟨o, kp _ _ h (.inr fun ⟨_, z⟩ => nomatch z)⟩)
    · exact .inr h
  refine ⟨fun i d e => ?_, fun i hi => ⟨_, h1, by simpa using hi⟩⟩
  rw [List.getElem?_map] at e
  cases z : ns[i]? with
  | none => rw [z] at e; cases e
  | some m =>
    rw [z] at e
    cases e
    have hv : (ns.map V.int)[i]? = some (.int m) := by rw [List.getElem?_map, z]; rfl
    refine ⟨⟨_, _, h1, hv⟩, fun x H2 ⟨e1, e2⟩ => ?_⟩
    subst e1
    have := e2 _ h1
    rw [hv] at this
    cases this
    exact ⟨Same.refl _, rfl⟩
theorem it_str {x : Str} : ItOk K F F2 (Its x) H (x.cps.toList.map fun c => .str ⟨#[c]⟩) := fun Y hY H1 kp => by
  refine ⟨fun i d e => ?_, fun i hi => by simpa [Its] using hi⟩
  rw [List.getElem?_map] at e
  cases z : x.cps.toList[i]? with
  | none => rw [z] at e; cases e
  | some m =>
    rw [z] at e
    cases e
    have z' : x.cps[i]? = some m := by rw [← Array.getElem?_toList]; exact z
    refine ⟨by have := (Array.getElem?_eq_some_iff.mp z').1; exact this, fun v H2 ⟨e1, ch, e2, e3⟩ => ?_⟩
    subst e1
    rw [z'] at e2
    cases e2
    exact ⟨Same.refl _, e3⟩
theorem it_rng {a : Int} {n : Nat} : ItOk K F F2 (Itr a n) H ((List.range n).map fun (i : Nat) => .int (a + i)) := fun Y hY H1 kp => by
  refine ⟨fun i d e => ?_, fun i hi => by simpa [Itr] using hi⟩
  rw [List.getElem?_map] at e
  by_cases h : i < n
  · rw [List.getElem?_range h] at e
    cases e
    refine ⟨h, fun v H2 ⟨e1, e2⟩ => ?_⟩
    subst e1
    exact ⟨Same.refl _, e2⟩
  · rw [List.getElem?_eq_none (by simpa using h)] at e
    cases e
theorem enumD_get : ∀ (ds : List D) (m i : Nat) (d : D), (enumD m ds)[i]? = some d → ∃ e, ds[i]? = some e ∧ d = .tup [.int ((m + i : Nat) : Int), e]
  | [], _, _, _, h => by simp [enumD] at h
  | x :: r, m, 0, d, h => by
    have h' : some (D.tup [.int (m : Nat), x]) = some d := h
    cases h'
    exact ⟨x, rfl, rfl⟩
  | x :: r, m, i + 1, d, h => by
    obtain ⟨e, h1, h2⟩ := enumD_get r (m + 1) i d h
    exact ⟨e, h1, by rw [h2]; congr 4; omega⟩
theorem enumD_len : ∀ (ds : List D) (m : Nat), (enumD m ds).length = ds.length
  | [], _ => rfl
  | x :: r, m => by show (enumD (m + 1) r).length + 1 = _; rw [enumD_len r (m + 1)]; rfl
theorem it_enum {a : Addr} {vs : List V} {ds : List D} (h : H a = some (.lst vs)) (n : ¬ F a) (w : ∀ a, F a → F2 a) (r : RepL K F2 H ds vs) : ItOk K F F2 (Ite K a) H (enumD 0 ds) := fun Y hY H1 kp => by
  have h1 : H1 a = some (.lst vs) := kp a _ h (.inl n)
  have r1 := RepFL.kept ds vs (kp.more (fun a z => Or.inl (w a z))) (fun _ z => z) (RepFL.older hY ds vs r)
  refine ⟨fun i d e => ?_, fun i hi => ⟨vs, SqL.of h1, by rw [← r.length, ← enumD_len ds 0]; exact hi⟩⟩
  obtain ⟨d', e1, rfl⟩ := enumD_get ds 0 i d e
  obtain ⟨v, hv, rv⟩ := r1.get e1
  refine ⟨⟨vs, v, SqL.of h1, hv⟩, fun x H2 ⟨T, y, ex, hT, e2, e3⟩ => ?_⟩
  subst ex
  subst e2
  have := e3 vs (SqL.of h1)
  rw [hv] at this
  cases this
  refine ⟨same_upd hT, T, [.int (i : Nat), v], rfl, SqT.of upd_same, ?_⟩
  refine ⟨_, _, rfl, ?_, v, [], rfl, rv.same (same_upd hT), rfl⟩
  show V.int (i : Nat) = V.int ((0 + i : Nat) : Int)
  rw [Nat.zero_add]
theorem zipD_get : ∀ (xs ys : List D) (i : Nat) (d : D), (zipD xs ys)[i]? = some d → ∃ a b, xs[i]? = some a ∧ ys[i]? = some b ∧ d = .tup [a, b]
  | [], _, _, _, h => by simp [zipD] at h
  | _ :: _, [], _, _, h => by simp [zipD] at h
  | x :: r, y :: s, 0, d, h => by
    have h' : some (D.tup [x, y]) = some d := h
    cases h'
    exact ⟨x, y, rfl, rfl, rfl⟩
  | x :: r, y :: s, i + 1, d, h => zipD_get r s i d h
theorem zipD_len : ∀ (xs ys : List D), (zipD xs ys).length = min xs.length ys.length
  | [], _ => by simp [zipD]
  | _ :: _, [] => by simp [zipD]
  | x :: r, y :: s => by
    show (zipD r s).length + 1 = min (r.length + 1) (s.length + 1)
    rw [zipD_len r s]
    omega
theorem it_zipL {a b : Addr} {vs ws : List V} {ds es : List D} (h : H a = some (.lst vs)) (h' : H b = some (.lst ws)) (n : ¬ F a) (n' : ¬ F b) (w : ∀ a, F a → F2 a) (r : RepL K F2 H ds vs) (r' : RepL K F2 H es ws) : ItOk K F F2 (Itz K a b) H (zipD ds es) := fun Y hY H1 kp => by
  have h1 : H1 a = some (.lst vs) := kp a _ h (.inl n)
  have h2 : H1 b = some (.lst ws) := kp b _ h' (.inl n')
  have r1 := RepFL.kept ds vs (kp.more (fun a z => Or.inl (w a z))) (fun _ z => z) (RepFL.older hY ds vs r)
  have r2 := RepFL.kept es ws (kp.more (fun a z => Or.inl (w a z))) (fun _ z => z) (RepFL.older hY es ws r')
  refine ⟨fun i d e => ?_, fun i hi => ⟨vs, ws, SqL.of h1, SqL.of h2, ?_⟩⟩
  · obtain ⟨d1, d2, e1, e2, rfl⟩ := zipD_get ds es i d e
    obtain ⟨v, hv, rv⟩ := r1.get e1
    obtain ⟨u, hu, ru⟩ := r2.get e2
    refine ⟨⟨vs, ws, v, u, SqL.of h1, SqL.of h2, hv, hu⟩, fun x H2 ⟨T, x1, y1, ex, hT, eH, e3, e4⟩ => ?_⟩
    subst ex
    subst eH
    have q1 := e3 vs (SqL.of h1)
    rw [hv] at q1
    cases q1
    have q2 := e4 ws (SqL.of h2)
    rw [hu] at q2
    cases q2
    exact ⟨same_upd hT, T, [v, u], rfl, SqT.of upd_same, _, _, rfl, rv.same (same_upd hT), _, _, rfl, ru.same (same_upd hT), rfl⟩
  · rw [zipD_len, r.length, r'.length] at hi
    omega
theorem it_zipT {a b : Addr} {vs ws : List V} {ds es : List D} (h : SqT K H a vs) (h' : SqT K H b ws) (w : ∀ a, F a → F2 a) (r : RepL K F2 H ds vs) (r' : RepL K F2 H es ws) : ItOk K F F2 (RZ.ItzT K a b) H (zipD ds es) := fun Y hY H1 kp => by
  have h1 : SqT K H1 a vs := kp.sqT h
  have h2 : SqT K H1 b ws := kp.sqT h'
  have r1 := RepFL.kept ds vs (kp.more (fun a z => Or.inl (w a z))) (fun _ z => z) (RepFL.older hY ds vs r)
  have r2 := RepFL.kept es ws (kp.more (fun a z => Or.inl (w a z))) (fun _ z => z) (RepFL.older hY es ws r')
  refine ⟨fun i d e => ?_, fun i hi => ⟨vs, ws, h1, h2, ?_⟩⟩
  · obtain ⟨d1, d2, e1, e2, rfl⟩ := zipD_get ds es i d e
    obtain ⟨v, hv, rv⟩ := r1.get e1
    obtain ⟨u, hu, ru⟩ := r2.get e2
    refine ⟨⟨vs, ws, v, u, h1, h2, hv, hu⟩, fun x H2 ⟨T, x1, y1, ex, hT, eH, e3, e4⟩ => ?_⟩
    subst ex
    subst eH
    have q1 := e3 vs h1
    rw [hv] at q1
    cases q1
    have q2 := e4 ws h2
    rw [hu] at q2
    cases q2
    exact ⟨same_upd hT, T, [v, u], rfl, SqT.of upd_same, _, _, rfl, rv.same (same_upd hT), _, _, rfl, ru.same (same_upd hT), rfl⟩
  · rw [zipD_len, r.length, r'.length] at hi
    omega
end
theorem piOr {X : Cx} {tg e : Expr} {t t' : TI} (h : PI X tg e t) (h' : PI X tg e t') : PI X tg e (fun σ H R => t σ H R ∨ t' σ H R) := ⟨fun pins s σ H Q I q => q.elim (h.run pins s σ H Q I) (h'.run pins s σ H Q I)⟩
section
variable {c : Cc} {own : Nat → Option Addr} {τ : Env} {σ : L2.St} {H : Hp}
theorem lp_seq {e : E} {R : It → Hp → Prop} (q : rdS c (.seq e) σ H R) : (iList c.K (rdE c e) σ H R ∨ iTup c.K (rdE c e) σ H R) ∨ iStr (rdE c e) σ H R := by
  obtain ⟨own, τ, S, p⟩ := q
  have p' := Post.bind (show Post (ev c.G c.Φ e τ >>= fun x => itemsD x) _ _ from p)
  cases z : ev c.G c.Φ e τ with
  | bad => rw [z] at p'; exact p'.elim
  | exc x ds => rw [z] at p'; exact .inl (.inl ⟨own, τ, S, by rw [z]; exact p'⟩)
  | ok d =>
    rw [z] at p'
    have p2 : Post (itemsD d) (fun items => ∀ J H', Same H H' → ItOk c.K (Fb c own (lt e ++ li e)) (Fb c own (li e)) J H' items → R J H') (ExW c σ H) := p'
    cases d with
    | lst ds =>
      refine .inl (.inl ⟨own, τ, S, ?_⟩)
      rw [z]
      refine fun v H1 s1 r1 => ?_
      obtain ⟨a, vs, rfl, h1, n, l1⟩ := r1.un
      exact ⟨a, rfl, ⟨vs, SqL.of h1⟩, (show ∀ J H', Same H H' → ItOk c.K _ _ J H' ds → R J H' from p2) _ H1 s1 (it_list h1 (fun y => n (ft_l a (appL a y))) appR l1)⟩
    | scr ns =>
      refine .inl (.inl ⟨own, τ, S, ?_⟩)
      rw [z]
      refine fun v H1 s1 r1 => ?_
      obtain ⟨a, rfl, h1⟩ := r1
      refine ⟨a, rfl, ⟨_, h1.seq⟩, (show ∀ J H', Same H H' → ItOk c.K _ _ J H' (ns.map D.int) → R J H' from p2) _ H1 s1 (it_scr ?_)⟩
      exact h1.imp (fun z => ⟨z.1, fun y => z.2 (appR a y)⟩) id
    | tup ds =>
      refine .inl (.inr ⟨own, τ, S, ?_⟩)
      rw [z]
      refine fun v H1 s1 r1 => ?_
      obtain ⟨a, vs, rfl, h1, l1⟩ := r1
      exact ⟨a, rfl, ⟨vs, h1⟩, (show ∀ J H', Same H H' → ItOk c.K _ _ J H' ds → R J H' from p2) _ H1 s1 (it_tup h1 appR l1)⟩
    | str x =>
      refine .inr ⟨own, τ, S, ?_⟩
      rw [z]
      refine fun v H1 s1 r1 => ?_
      exact ⟨x, r1, (show ∀ J H', Same H H' → ItOk c.K _ _ J H' (x.cps.toList.map fun c => .str ⟨#[c]⟩) → R J H' from p2) _ H1 s1 it_str⟩
    | _ => exact p2.elim
theorem lp_rng1 {a : E} {R : It → Hp → Prop} (q : rdS c (.rng1 a) σ H R) : iRng1 (tCons (rdE c a) tNil) σ H R := by
  obtain ⟨own, τ, S, p⟩ := q
  refine ⟨own, τ, S, (Post.bind (show Post (ev c.G c.Φ a τ >>= fun x => intD x >>= fun i => rngD 0 i) _ _ from p)).imp (fun x _ p v H1 s1 r1 => ?_) fun _ _ e => e⟩
  obtain ⟨i, e, p⟩ := (Post.bind p).nx (nx_intD x)
  cases x with
  | int j =>
    cases e
    obtain ⟨ds, e, p⟩ := p.nx (nx_rngD 0 i)
    obtain ⟨h, rfl⟩ := ok_if e
    refine ⟨i, congrArg (fun z => [z]) r1, h.2.2.1, h.2.2.2, p _ H1 s1 ?_⟩
    rw [Int.sub_zero]
    exact it_rng
  | _ => cases e
theorem lp_rng2 {a b : E} {R : It → Hp → Prop} (q : rdS c (.rng2 a b) σ H R) : iRng2 (tCons (rdE c a) (tCons (rdE c b) tNil)) σ H R := by
  obtain ⟨own, τ, S, p⟩ := q
  refine ⟨own, τ, S, (Post.bind (show Post (ev c.G c.Φ a τ >>= fun x => ev c.G c.Φ b τ >>= fun y => intD x >>= fun i => intD y >>= fun j => rngD i j) _ _ from p)).imp (fun x _ p v H1 s1 r1 => ⟨own, τ, S.mono s1, (Post.bind p).imp (fun y _ p w H2 s2 r2 => ?_) fun _ _ e => e.same s1⟩) fun _ _ e => e⟩
  obtain ⟨i, e, p⟩ := (Post.bind p).nx (nx_intD x)
  obtain ⟨j, e', p⟩ := (Post.bind p).nx (nx_intD y)
  cases x with
  | int _ =>
    cases e
    cases y with
    | int _ =>
      cases e'
      obtain ⟨ds, e, p⟩ := p.nx (nx_rngD i j)
      obtain ⟨h, rfl⟩ := ok_if e
      refine ⟨i, j, ?_, ⟨h.1, h.2.1, h.2.2.1, h.2.2.2⟩, p _ H2 (s1.trans s2) it_rng⟩
      rw [show v = V.int i from r1, show w = V.int j from r2]
    | _ => cases e'
  | _ => cases e
theorem lp_enum {e : E} {R : It → Hp → Prop} (q : rdS c (.enum e) σ H R) : iEnum c.K (tCons (rdE c e) tNil) σ H R := by
  obtain ⟨own, τ, S, p⟩ := q
  refine ⟨own, τ, S, (Post.bind (show Post (ev c.G c.Φ e τ >>= fun x => enumI x >>= fun ds => Res.ok (enumD 0 ds)) _ _ from p)).imp (fun x _ p v H1 s1 r1 => ?_) fun _ _ e => e⟩
  cases x with
  | lst ds =>
    obtain ⟨a, vs, rfl, h1, n, l1⟩ := r1.un
    exact ⟨a, vs, rfl, SqL.of h1, (show ∀ J H', Same H H' → ItOk c.K (Fb c own (lt e ++ li e)) (Fb c own (li e)) J H' (enumD 0 ds) → R J H' from p) _ H1 s1 (it_enum h1 (fun y => n (ft_l a (appL a y))) appR l1)⟩
  | _ => exact p.elim
theorem lp_zip {a b : E} {R : It → Hp → Prop} (q : rdS c (.zip a b) σ H R) : RZ.iZipA c.K (tCons (rdE c a) (tCons (rdE c b) tNil)) σ H R := by
  obtain ⟨own, τ, S, p⟩ := q
  refine ⟨own, τ, S, (Post.bind (show Post (ev c.G c.Φ a τ >>= fun x => ev c.G c.Φ b τ >>= fun y => zipI x y >>= fun p => Res.ok (zipD p.1 p.2)) _ _ from p)).imp (fun x _ p v H1 s1 r1 => ⟨own, τ, S.mono s1, (Post.bind p).imp (fun y _ p w H2 s2 r2 => ?_) fun _ _ e => e.same s1⟩) fun _ _ e => e⟩
  have r1 := r1.same s2
  cases x with
  | lst ds =>
    cases y with
    | lst es =>
      obtain ⟨p1, vs, rfl, h1, n1, l1⟩ := r1.un
      obtain ⟨p2, ws, rfl, h2, n2, l2⟩ := r2.un
      refine ⟨p1, p2, vs, ws, rfl, .inl ⟨SqL.of h1, SqL.of h2, (show ∀ J H', Same H H' → ItOk c.K (Fb c own ((lt a ++ lt b) ++ (li a ++ li b))) (Fb c own (li a ++ li b)) J H' (zipD ds es) → R J H' from p) _ H2 (s1.trans s2) ?_⟩⟩
      exact it_zipL h1 h2 (fun y => n1 (ft_l _ (appL _ (appL _ y)))) (fun y => n2 (ft_l _ (appR _ (appL _ y)))) appR (l1.weak appL) (l2.weak appR)
    | _ => exact p.elim
  | tup ds =>
    cases y with
    | tup es =>
      obtain ⟨p1, vs, rfl, h1, l1⟩ := r1
      obtain ⟨p2, ws, rfl, h2, l2⟩ := r2
      refine ⟨p1, p2, vs, ws, rfl, .inr ⟨h1, h2, (show ∀ J H', Same H H' → ItOk c.K (Fb c own ((lt a ++ lt b) ++ (li a ++ li b))) (Fb c own (li a ++ li b)) J H' (zipD ds es) → R J H' from p) _ H2 (s1.trans s2) ?_⟩⟩
      exact it_zipT h1 h2 appR (l1.weak appL) (l2.weak appR)
    | _ => exact p.elim
  | _ => exact p.elim
/-! ### tests -/
theorem lt_not {a : E} {Q : Bool → Hp → Prop} (q : rdT c (.not a) σ H Q) : tNot (rdT c a) σ H Q := by
  obtain ⟨own, τ, S, p⟩ := q
  refine ⟨own, τ, S, ?_⟩
  have p' : Post ((ev c.G c.Φ a τ >>= fun x => blD x >>= fun b => Res.ok (D.bl (!b))) >>= blD) _ _ := p
  revert p'
  cases ev c.G c.Φ a τ with
  | ok d => cases d <;> exact fun p => p
  | exc _ _ => exact fun p => p
  | bad => exact fun p => p
theorem lt_and {a b : E} {Q : Bool → Hp → Prop} (q : rdT c (.and a b) σ H Q) : tAnd (rdT c a) (rdT c b) σ H Q := by
  obtain ⟨own, τ, S, p⟩ := q
  refine ⟨own, τ, S, ?_⟩
  have p' : Post ((ev c.G c.Φ a τ >>= fun x => blD x >>= fun k => if k then ev c.G c.Φ b τ else Res.ok (D.bl false)) >>= blD) (fun b => ∀ H', Same H H' → Q b H') (ExW c σ H) := p
  revert p'
  cases ev c.G c.Φ a τ with
  | ok d =>
    cases d with
    | bl k =>
      cases k with
      | true => exact fun p => fun H1 s1 => iteT ⟨own, τ, S.mono s1, (show Post (ev c.G c.Φ b τ >>= blD) (fun b => ∀ H', Same H H' → Q b H') (ExW c σ H) from p).imp (fun b _ q H2 s2 => q H2 (s1.trans s2)) fun _ _ e => e.same s1⟩
      | false => exact fun p => fun H1 s1 => iteF ((show ∀ H', Same H H' → Q false H' from p) H1 s1)
    | _ => exact fun p => p
  | exc _ _ => exact fun p => p
  | bad => exact fun p => p
theorem lt_or {a b : E} {Q : Bool → Hp → Prop} (q : rdT c (.or a b) σ H Q) : tOr (rdT c a) (rdT c b) σ H Q := by
  obtain ⟨own, τ, S, p⟩ := q
  refine ⟨own, τ, S, ?_⟩
  have p' : Post ((ev c.G c.Φ a τ >>= fun x => blD x >>= fun k => if k then Res.ok (D.bl true) else ev c.G c.Φ b τ) >>= blD) (fun b => ∀ H', Same H H' → Q b H') (ExW c σ H) := p
  revert p'
  cases ev c.G c.Φ a τ with
  | ok d =>
    cases d with
    | bl k =>
      cases k with
      | false => exact fun p => fun H1 s1 => iteF ⟨own, τ, S.mono s1, (show Post (ev c.G c.Φ b τ >>= blD) (fun b => ∀ H', Same H H' → Q b H') (ExW c σ H) from p).imp (fun b _ q H2 s2 => q H2 (s1.trans s2)) fun _ _ e => e.same s1⟩
      | true => exact fun p => fun H1 s1 => iteT ((show ∀ H', Same H H' → Q true H' from p) H1 s1)
    | _ => exact fun p => p
  | exc _ _ => exact fun p => p
  | bad => exact fun p => p
theorem chkS_set {k : Ck} {sc : Scope} {fb : Str → Bool} : ∀ {s : Src} {t it : Expr}, chkS k sc fb s t it = true → notSet it = true
  | .seq e, t, it, h => (ba (show (notSet it && chkE k sc fb e it) = true from h)).1
  | .rng1 _, _, .Call .., _ => rfl
  | .rng2 _ _, _, .Call .., _ => rfl
  | .enum _, _, .Call .., _ => rfl
  | .zip _ _, _, .Call .., _ => rfl
theorem chkEs_head {k : Ck} {sc : Scope} {fb : Str → Bool} : ∀ {es : Es} {x : Expr} {xs : List Expr}, chkEs k sc fb es (x :: xs) = true → notStar x = true ∧ ∃ r, chkEs k sc fb r xs = true
  | .cons e r, x, xs, h => by
    obtain ⟨h1, h2⟩ := ba (show (notStar x && (chkE k sc fb e x && chkEs k sc fb r xs)) = true from h)
    exact ⟨h1, r, (ba h2).2⟩
def plainE : E → Bool
  | .var _ => true | .bl _ => true | .ix .. => true | .call .. => true | .bi .. => true | .isi .. => true
  | _ => false
theorem plain_of {k : Ck} {sc : Scope} {fb : Str → Bool} : ∀ {e : E} {x : Expr}, plainE e = true → chkE k sc fb e x = true → plainT x = true
  | .var _, .Name .., _, _ => rfl
  | .bl _, .Constant .., _, _ => rfl
  | .ix .., .Subscript .., _, _ => rfl
  | .call _ .nil, .Call .., _, _ => rfl
  | .call _ (.cons ..), .Call .., _, _ => rfl
  | .bi .., .Call .., _, _ => rfl
  | .isi .., .Call .., _, _ => rfl
theorem pwAnd {X : Cx} {op : BoolOp} {es : List Expr} {p : Pos} {t : TT} (h : PT X (.BoolOp op es p) t) : PW X (.BoolOp op es p) t := ⟨fun whole pins s σ H Q I q => h.run pins s σ H Q I q⟩
/-! ### comprehensions -/
/-- a list that is being made is nobody's yet -/
def hold (own : Nat → Option Addr) (j0 : Nat) (P : Addr) : Nat → Option Addr := fun j => if j = j0 then some P else own j
theorem room_for (S : Sim c own τ σ H) (L : List Nat) : ∃ j0, own j0 = none ∧ j0 ∉ L := by
  obtain ⟨n, hn⟩ := S.fin
  have key : ∀ L : List Nat, ∃ m, ∀ j ∈ L, j < m := by
    intro L
    induction L with
    | nil => exact ⟨0, fun j h => by cases h⟩
    | cons x r ih =>
      obtain ⟨m, h⟩ := ih
      refine ⟨max m (x + 1), fun j hj => ?_⟩
      rcases List.mem_cons.mp hj with rfl | hj
      · omega
      · have := h j hj
        omega
  obtain ⟨m, hm⟩ := key L
  exact ⟨max n m, hn _ (by omega), fun z => by have := hm _ z; omega⟩
theorem hold_fb {j0 : Nat} {P : Addr} {L : List Nat} (a : Addr) (z : Fb c (hold own j0 P) L a) : Fb c own L a ∨ a = P := by
  rcases z with z | ⟨j, e, n⟩
  · exact .inl (.inl z)
  · unfold hold at e
    by_cases q : j = j0
    · rw [if_pos q] at e
      exact .inr (Option.some.inj e).symm
    · rw [if_neg q] at e
      exact .inl (.inr ⟨j, e, n⟩)
theorem fb_hold {j0 : Nat} {P : Addr} {L : List Nat} (h0 : own j0 = none) (a : Addr) (z : Fb c own L a) : Fb c (hold own j0 P) L a := by
  rcases z with z | ⟨j, e, n⟩
  · exact .inl z
  · refine .inr ⟨j, ?_, n⟩
    unfold hold
    rw [if_neg (fun q => by rw [q, h0] at e; cases e)]
    exact e
theorem Sim.hold {H' : Hp} (S : Sim c own τ σ H) {j0 : Nat} {P : Addr} (h0 : own j0 = none) (hP : H P = none) (s : Same H H') (hP' : H' P ≠ none) : Sim c (PyI.hold own j0 P) τ σ H' := by
  have up : ∀ {d : D} {v : V}, Rep c.K (Fb c own []) H d v → Rep c.K (Fb c (PyI.hold own j0 P) []) H' d v := fun {d v} r =>
    ((RepF.older (Y := fun a => a = P) (fun a z => by rw [z]; exact hP) d v r).weak hold_fb).same s
  have ups : ∀ {d : List D} {v : List V}, RepL c.K (Fb c own []) H d v → RepL c.K (Fb c (PyI.hold own j0 P) []) H' d v := fun {d v} r =>
    ((RepFL.older (Y := fun a => a = P) (fun a z => by rw [z]; exact hP) d v r).weak hold_fb).same s
  have eq : ∀ {i a}, own i = some a → PyI.hold own j0 P i = some a := fun {i a} e => by
    unfold PyI.hold
    rw [if_neg (fun q => by rw [q, h0] at e; cases e)]
    exact e
  refine ⟨S.len, fun i d e => ?_, fun i ds e => ?_, fun i j a e1 e2 => ?_, fun i a e => ?_, ?_, S.f0, S.same.trans s, (S.bs.mono s).k, fun i a e => ?_, S.bs.f⟩
  · obtain ⟨v, h1, h2⟩ := S.val i d e
    exact ⟨v, h1, up h2⟩
  · obtain ⟨a, vs, h1, h2, h3, h4⟩ := S.ows i ds e
    exact ⟨a, vs, eq h1, h2, s _ _ h3, ups h4⟩
  · unfold PyI.hold at e1 e2
    by_cases q1 : i = j0
    · by_cases q2 : j = j0
      · rw [q1, q2]
      · rw [if_pos q1] at e1
        rw [if_neg q2] at e2
        cases e1
        exact absurd hP (S.al j _ e2).2
    · by_cases q2 : j = j0
      · rw [if_neg q1] at e1
        rw [if_pos q2] at e2
        cases e2
        exact absurd hP (S.al i _ e1).2
      · rw [if_neg q1] at e1
        rw [if_neg q2] at e2
        exact S.inj i j a e1 e2
  · unfold PyI.hold at e
    by_cases q : i = j0
    · rw [if_pos q] at e
      cases e
      refine ⟨?_, hP'⟩
      cases z : c.H0 P with
      | none => rfl
      | some o => have := S.same _ _ z; rw [hP] at this; cases this
    · rw [if_neg q] at e
      exact ⟨(S.al i a e).1, fun n => (S.al i a e).2 (s.free n)⟩
  · obtain ⟨n, hn⟩ := S.fin
    refine ⟨max n (j0 + 1), fun i hi => ?_⟩
    unfold PyI.hold
    rw [if_neg (by omega)]
    exact hn i (by omega)
  · unfold PyI.hold at e
    by_cases q : i = j0
    · rw [if_pos q] at e
      cases e
      exact S.bs.new hP
    · rw [if_neg q] at e
      exact S.bs.n i a e
theorem wipe_wipe (σ : L2.St) (l : List Nat) : L2.wipe (L2.wipe σ l) l = L2.wipe σ l := by
  have key : ∀ (ρ : L2.St) (l : List Nat) (j : Nat), j ∈ l → (L2.wipe ρ l)[j]? = if j < ρ.length then some none else none := by
    intro ρ l j
    induction l with
    | nil => intro z; cases z
    | cons v r ih =>
      intro z
      show ((L2.wipe ρ r).set v none)[j]? = _
      by_cases e : j = v
      · subst e
        rw [List.getElem?_set]
        simp [wipe_length]
      · rw [List.getElem?_set_ne (Ne.symm e)]
        exact ih ((List.mem_cons.mp z).resolve_left e)
  apply List.ext_getElem?
  intro j
  by_cases hj : j ∈ l
  · rw [key _ _ _ hj, key _ _ _ hj, wipe_length]
  · rw [wipe_out hj, wipe_out hj]
/-- the turn of a comprehension -/
abbrev turnR (c : Cc) (elt : E) (tg : Tg) (vs : List Nat) (cd : Env → Res Bool) (τ : Env) (x : D) : Res (Option D) := nox (asg tg x (wipeD τ vs) >>= fun τ2 => cd τ2 >>= fun b => if b then ev c.G c.Φ elt τ2 >>= fun y => .ok (some y) else .ok none)
theorem nox_inv {α : Type} {r : Res α} {a : α} (h : nox r = .ok a) : r = .ok a := by cases r <;> first | exact h | cases h
theorem lp_lc {elt : E} {tg : Tg} {src : Src} {vs : List Nat} {tt : TT} {cd : Env → Res Bool} {Q : VK}
    (h0 : liS src = []) (ht : ∀ i ∈ tgIx tg, i ∈ vs)
    (hc : ∀ own τ σ H Q, Sim c.quiet own τ σ H → Post (cd τ) (fun b => ∀ H', Same H H' → Q b H') (fun _ _ => False) → tt σ H Q)
    (q : ∃ own τ, Sim c own τ σ H ∧ Post (evS c.G c.Φ src τ >>= fun items => mapR (turnR c elt tg vs cd τ) items >>= fun ds => if ds.length ≤ sizeLine then Res.ok (D.lst ds) else .bad)
      (fun d => ∀ v H', Same H H' → RepT c.K (fun a => Fb c own [] a ∨ (true = true ∧ H a ≠ none)) (Fb c own (lt elt ++ li elt)) H' d v → Q v H') (ExW c σ H)) :
    tLc (rdS c src) (tgG c.K tg) tt (rdE c.quiet elt) vs σ H Q := by
  obtain ⟨own, τ, S, p⟩ := q
  refine ⟨own, τ, S, (Post.bind p).imp (fun items _ p J H1 s1 it => ?_) fun _ _ e => e⟩
  rw [h0] at it
  intro P hP
  obtain ⟨ds, em, p⟩ := (Post.bind p).nx (nx_mapR _ (fun _ => nx_nox _) items)
  obtain ⟨dd, e, p⟩ := p.nx NoX.ite
  obtain ⟨hz, rfl⟩ := ok_if e
  have S1 := S.mono s1
  obtain ⟨j0, hj0, hjL⟩ := room_for S1 (lt elt ++ li elt)
  have FP : Fb c (hold own j0 P) (lt elt ++ li elt) P := .inr ⟨j0, by unfold hold; rw [if_pos rfl], hjL⟩
  refine ⟨fun i m Hc => i + m = items.length ∧ ∃ acc rest vs', Same H1 Hc ∧ Hc P = some (.lst vs') ∧ RepL c.K (Fb c (hold own j0 P) (lt elt ++ li elt)) Hc acc vs' ∧ mapR (turnR c elt tg vs cd τ) (items.drop i) = .ok rest ∧ acc ++ rest = ds,
    ⟨items.length, by omega, [], ds, [], same_upd hP, upd_same, rfl, em, rfl⟩, fun i m Hc ⟨hm, acc, rest, vs', sc, hDc, ra, er, ea⟩ => ?_⟩
  have itc := it (fun a => a = P) (fun a z => by rw [z]; exact hP) Hc (same_kept sc)
  by_cases hi : i < items.length
  · refine .inr ⟨(itc.1 i items[i] (List.getElem?_eq_getElem hi)).1, fun H' => i + 1 + (m - 1) = items.length ∧ ∃ acc rest vs', Same H1 H' ∧ H' P = some (.lst vs') ∧ RepL c.K (Fb c (hold own j0 P) (lt elt ++ li elt)) H' acc vs' ∧ mapR (turnR c elt tg vs cd τ) (items.drop (i + 1)) = .ok rest ∧ acc ++ rest = ds,
      fun H' h => ⟨m - 1, by omega, h⟩, fun x H' hy => ?_⟩
    obtain ⟨sy, ry⟩ := (itc.1 i items[i] (List.getElem?_eq_getElem hi)).2 x H' hy
    rw [List.drop_eq_getElem_cons hi] at er
    obtain ⟨o, e1, er⟩ := bind_ok (show (turnR c elt tg vs cd τ items[i] >>= fun o => mapR (turnR c elt tg vs cd τ) (items.drop (i + 1)) >>= fun ds => match o with
      | some x => Res.ok (x :: ds)
      | none => .ok ds) = .ok rest from er)
    obtain ⟨rest', e2, er⟩ := bind_ok er
    obtain ⟨τ2, e3, e4⟩ := bind_ok (nox_inv e1)
    obtain ⟨b, e5, e6⟩ := bind_ok e4
    have hPy : H' P = some (.lst vs') := sy _ _ hDc
    have Sh : Sim c (hold own j0 P) τ σ H' := S1.hold hj0 hP (sc.trans sy) (by rw [hPy]; exact fun z => nomatch z)
    refine asg_run tg items[i] x (wipeD τ vs) τ2 (wipe σ vs) _ (Sh.wipe vs) (ry.weak hold_fb) e3 fun σ2 S2 w2 => ⟨by rw [w2 vs ht]; exact wipe_wipe σ vs, ?_⟩
    refine hc (hold own j0 P) τ2 σ2 H' _ S2.quiet ?_
    rw [e5]
    refine fun H3 s3 => ?_
    have sH3 : Same H1 H3 := (sc.trans sy).trans s3
    cases b with
    | false =>
      refine iteF ⟨by omega, acc, rest, vs', sH3, s3 _ _ hPy, ra.same (sy.trans s3), ?_, ea⟩
      cases e6
      rw [show rest = rest' from (Res.ok.inj er).symm]
      exact e2
    | true =>
      refine iteT ⟨hold own j0 P, τ2, (S2.mono s3).quiet, ?_⟩
      obtain ⟨y, e7, e8⟩ := bind_ok (show (ev c.G c.Φ elt τ2 >>= fun y => Res.ok (some y)) = .ok o from e6)
      have e7' : ev c.quiet.G c.quiet.Φ elt τ2 = .ok y := e7
      rw [e7']
      refine fun v H4 s4 r4 => ?_
      cases e8
      have hP4 : H4 P = some (.lst vs') := s4 _ _ (s3 _ _ hPy)
      have hr : rest = y :: rest' := (Res.ok.inj er).symm
      have kp : Kept (Fb c (hold own j0 P) (lt elt ++ li elt)) H4 (upd H4 P (.lst (vs' ++ [v]))) := kept_upd FP ⟨_, hP4⟩
      have r4' : Rep c.K (Fb c (hold own j0 P) (lt elt ++ li elt)) H4 y v := ((show RepT c.K (Ft c.quiet (hold own j0 P) elt H3) (Fb c (hold own j0 P) (li elt)) H4 y v from r4).weak (fun a z => .inl (appL a z)) appR).rep
      refine ⟨vs', hP4, ?_, by omega, acc ++ [y], rest', vs' ++ [v], ?_, upd_same, RepFL.kept _ _ kp (fun _ z => z) ((ra.same ((sy.trans s3).trans s4)).append (RepFL.one r4')), e2, by rw [← ea, hr, List.append_assoc]; rfl⟩
      · have : acc.length + (rest'.length + 1) ≤ sizeLine := by
          rw [← ea, hr] at hz
          simpa using hz
        rw [← ra.length]
        omega
      · intro b o ho
        by_cases e : b = P
        · subst e; rw [hP] at ho; cases ho
        · rw [upd_ne e]
          exact s4 _ _ (sH3 _ _ ho)
  · refine .inl ⟨itc.2 i (by omega), ?_⟩
    have ei : items.drop i = [] := List.drop_eq_nil_of_le (by omega)
    rw [ei] at er
    cases er
    rw [List.append_nil] at ea
    subst ea
    exact (show ∀ v H', Same H H' → RepT c.K (fun a => Fb c own [] a ∨ (true = true ∧ H a ≠ none)) (Fb c own (lt elt ++ li elt)) H' (D.lst acc) v → Q v H' from p) _ Hc (s1.trans sc) ⟨P, vs', rfl, hDc, fun z => z.elim (fun z => S1.fok P z hP) fun z => z.2 (s1.free hP), ra.weak fun b z => z.elim (fb_hold hj0 b) fun z => by rw [z]; exact FP⟩
theorem lp_comp {K : PySem.W.Frag} {elt : E} {tg : Tg} {src : Src} {vs : List Nat} {Q : VK} (hK : c.K = K) (h0 : liS src = []) (ht : ∀ i ∈ tgIx tg, i ∈ vs) (q : rdE c (.comp elt tg src vs) σ H Q) : tLc (rdS c src) (tgG K tg) tYes (rdE c.quiet elt) vs σ H Q := by
  subst hK
  exact lp_lc (cd := fun _ => .ok true) h0 ht (fun own τ σ H Q S p => p H (Same.refl H)) q
theorem lp_compIf {K : PySem.W.Frag} {elt cd : E} {tg : Tg} {src : Src} {vs : List Nat} {Q : VK} (hK : c.K = K) (h0 : liS src = []) (ht : ∀ i ∈ tgIx tg, i ∈ vs) (q : rdE c (.compIf elt tg src cd vs) σ H Q) : tLc (rdS c src) (tgG K tg) (rdT c.quiet cd) (rdE c.quiet elt) vs σ H Q := by
  subst hK
  refine lp_lc (cd := fun τ => ev c.G c.Φ cd τ >>= blD) h0 ht (fun own τ σ H Q S p => ⟨own, τ, S, p.imp (fun _ _ q => q) fun _ _ e => e.elim⟩) ?_
  obtain ⟨own', τ, S, p⟩ := q
  refine ⟨own', τ, S, ?_⟩
  have e : (fun x => nox (asg tg x (wipeD τ vs) >>= fun σ2 => ev c.G c.Φ cd σ2 >>= fun t => blD t >>= fun k => if k then ev c.G c.Φ elt σ2 >>= fun y => Res.ok (some y) else .ok none)) = turnR c elt tg vs (fun τ => ev c.G c.Φ cd τ >>= blD) τ := by
    funext x
    unfold turnR
    congr 1
    cases asg tg x (wipeD τ vs) with
    | ok σ2 => show (ev c.G c.Φ cd σ2 >>= _) = ((ev c.G c.Φ cd σ2 >>= blD) >>= _); cases ev c.G c.Φ cd σ2 <;> rfl
    | exc _ _ => rfl
    | bad => rfl
  rw [← e]
  exact p
/-! ### two loops in one comprehension -/
theorem room_for2 (S : Sim c own τ σ H) (L : List Nat) : ∃ j0, own j0 = none ∧ j0 ∉ L ∧ τ.length ≤ j0 := by
  obtain ⟨n, hn⟩ := S.fin
  have key : ∀ L : List Nat, ∃ m, ∀ j ∈ L, j < m := by
    intro L
    induction L with
    | nil => exact ⟨0, fun j h => by cases h⟩
    | cons x r ih =>
      obtain ⟨m, h⟩ := ih
      refine ⟨max m (x + 1), fun j hj => ?_⟩
      rcases List.mem_cons.mp hj with rfl | hj
      · omega
      · have := h j hj
        omega
  obtain ⟨m, hm⟩ := key L
  exact ⟨max (max n m) τ.length, hn _ (by omega), fun z => (by have := hm _ z; omega), by omega⟩
theorem Sim.keptP {own' : Nat → Option Addr} {H' : Hp} {j0 : Nat} {P : Addr} {vs : List V} (S : Sim c own' τ σ H) (hj : own' j0 = some P) (no : τ.length ≤ j0) (hP : H P = some (.lst vs)) (k : ∀ a o, a ≠ P → H a = some o → H' a = some o) (hP' : H' P ≠ none) : Sim c own' τ σ H' := by
  have FP : Fb c own' [] P := .inr ⟨j0, hj, List.not_mem_nil⟩
  have kp : Kept (Fb c own' []) H H' := fun a o e n => by
    by_cases z : a = P
    · subst z
      rw [hP] at e
      cases e
      rcases n with n | n
      · exact absurd FP n
      · exact absurd ⟨vs, rfl⟩ n
    · exact k a o z e
  have ni : ∀ {i : Nat} {ds : List D}, τ[i]? = some (some (C.o ds)) → i ≠ j0 := fun {i ds} e z => by
    rw [z, List.getElem?_eq_none no] at e
    cases e
  refine ⟨S.len, fun i d e => ?_, fun i ds e => ?_, S.inj, fun i a e => ?_, S.fin, S.f0, ?_, ?_⟩
  · obtain ⟨v, h1, h2⟩ := S.val i d e
    exact ⟨v, h1, RepF.kept d v kp (fun _ z => z) h2⟩
  · obtain ⟨a, vs', h1, h2, h3, h4⟩ := S.ows i ds e
    have ne : a ≠ P := fun z => ni e (S.inj i j0 a h1 (by rw [z]; exact hj))
    exact ⟨a, vs', h1, h2, k a _ ne h3, RepFL.kept ds vs' kp (fun _ z => z) h4⟩
  · refine ⟨(S.al i a e).1, ?_⟩
    by_cases z : a = P
    · rw [z]; exact hP'
    · cases q : H a with
      | none => exact absurd q (S.al i a e).2
      | some o => rw [k a o z q]; exact fun z => nomatch z
  · intro b o e
    have ne : b ≠ P := fun z => by rw [z, (S.al j0 P hj).1] at e; cases e
    exact k b o ne (S.same b o e)
  · refine ⟨fun a o e n => ?_, S.bs.n, S.bs.f⟩
    have e1 := S.bs.k a o e n
    by_cases z : a = P
    · subst z
      rw [hP] at e1
      cases e1
      rcases S.bs.n j0 a hj with b | b
      · rcases n with n | n
        · exact absurd b n
        · exact absurd ⟨vs, rfl⟩ n
      · rw [b] at e; cases e
    · exact k a o z e1
end
end PyI
/-! PyI, part 8b: comprehensions with two loops. -/
namespace PyI
open PySem PySem.Spec PyProof.Rows L2
section
variable {c : Cc} {own : Nat → Option Addr} {τ : Env} {σ : L2.St} {H : Hp}
abbrev turn1 (c : Cc) (elt : E) (tg1 : Tg) (vs1 : List Nat) (τ2 : Env) (x : D) : Res (Option D) := nox (asg tg1 x (wipeD τ2 vs1) >>= fun τ3 => ev c.G c.Φ elt τ3 >>= fun y => .ok (some y))
abbrev turn2 (c : Cc) (elt : E) (tg : Tg) (tg1 : Tg) (src1 : Src) (vs vs1 : List Nat) (τ : Env) (x : D) : Res (List D) := nox (asg tg x (wipeD τ vs) >>= fun τ2 => evS c.G c.Φ src1 τ2 >>= fun items1 => mapR (turn1 c elt tg1 vs1 τ2) items1)
theorem lp_comp2 {K : PySem.W.Frag} {elt : E} {tg tg1 : Tg} {src src1 : Src} {vs vs1 : List Nat} {Q : VK} (hK : c.K = K) (h0 : liS src = []) (h01 : liS src1 = []) (ht : ∀ i ∈ tgIx tg, i ∈ vs) (ht1 : ∀ i ∈ tgIx tg1, i ∈ vs1) (q : rdE c (.comp2 elt tg src tg1 src1 vs vs1) σ H Q) :
    tLc2 (rdS c src) (tgG K tg) tYes (rdS c.quiet src1) (tgG K tg1) tYes (rdE c.quiet elt) vs vs1 σ H Q := by
  subst hK
  obtain ⟨own, τ, S, p⟩ := q
  have p : Post (evS c.G c.Φ src τ >>= fun items => flatR (turn2 c elt tg tg1 src1 vs vs1 τ) items >>= fun ds => if ds.length ≤ sizeLine then Res.ok (D.lst ds) else .bad)
      (fun d => ∀ v H', Same H H' → RepT c.K (fun a => Fb c own [] a ∨ (true = true ∧ H a ≠ none)) (Fb c own (lt elt ++ li elt)) H' d v → Q v H') (ExW c σ H) := p
  refine ⟨own, τ, S, (Post.bind p).imp (fun items _ p J H1 s1 it => ?_) fun _ _ e => e⟩
  rw [h0] at it
  intro P hP
  obtain ⟨ds, em, p⟩ := (Post.bind p).nx (nx_flatR _ (fun _ => nx_nox _) items)
  obtain ⟨dd, e, p⟩ := p.nx NoX.ite
  obtain ⟨hz, rfl⟩ := ok_if e
  have S1 := S.mono s1
  obtain ⟨j0, hj0, hjL0, hjt⟩ := room_for2 S1 (lt elt ++ li elt ++ (ltS src1 ++ liS src1))
  have hjL : j0 ∉ lt elt ++ li elt := fun z => hjL0 (List.mem_append_left _ z)
  have hjS : j0 ∉ ltS src1 ++ liS src1 := fun z => hjL0 (List.mem_append_right _ z)
  have e0 : hold own j0 P j0 = some P := by unfold hold; rw [if_pos rfl]
  have FP : Fb c (hold own j0 P) (lt elt ++ li elt) P := .inr ⟨j0, e0, hjL⟩
  have FS : Fb c (hold own j0 P) (ltS src1 ++ liS src1) P := .inr ⟨j0, e0, hjS⟩
  refine ⟨fun i m Hc => i + m = items.length ∧ ∃ acc rest vs', Same H1 Hc ∧ Hc P = some (.lst vs') ∧ RepL c.K (Fb c (hold own j0 P) (lt elt ++ li elt)) Hc acc vs' ∧ flatR (turn2 c elt tg tg1 src1 vs vs1 τ) (items.drop i) = .ok rest ∧ acc ++ rest = ds,
    ⟨items.length, by omega, [], ds, [], same_upd hP, upd_same, rfl, em, rfl⟩, fun i m Hc ⟨hm, acc, rest, vs', sc, hDc, ra, er, ea⟩ => ?_⟩
  have itc := it (fun a => a = P) (fun a z => by rw [z]; exact hP) Hc (same_kept sc)
  by_cases hi : i < items.length
  · refine .inr ⟨(itc.1 i items[i] (List.getElem?_eq_getElem hi)).1, fun H' => i + 1 + (m - 1) = items.length ∧ ∃ acc rest vs', Same H1 H' ∧ H' P = some (.lst vs') ∧ RepL c.K (Fb c (hold own j0 P) (lt elt ++ li elt)) H' acc vs' ∧ flatR (turn2 c elt tg tg1 src1 vs vs1 τ) (items.drop (i + 1)) = .ok rest ∧ acc ++ rest = ds,
      fun H' h => ⟨m - 1, by omega, h⟩, fun x H' hy => ?_⟩
    obtain ⟨sy, ry⟩ := (itc.1 i items[i] (List.getElem?_eq_getElem hi)).2 x H' hy
    rw [List.drop_eq_getElem_cons hi] at er
    obtain ⟨ys, e1, er⟩ := bind_ok (show (turn2 c elt tg tg1 src1 vs vs1 τ items[i] >>= fun xs => flatR (turn2 c elt tg tg1 src1 vs vs1 τ) (items.drop (i + 1)) >>= fun ds => Res.ok (xs ++ ds)) = .ok rest from er)
    obtain ⟨rest', e2, er⟩ := bind_ok er
    have hrest : rest = ys ++ rest' := (Res.ok.inj er).symm
    obtain ⟨τ2, e3, e4⟩ := bind_ok (nox_inv e1)
    obtain ⟨items1, e5, e6⟩ := bind_ok e4
    have hPy : H' P = some (.lst vs') := sy _ _ hDc
    have Sh : Sim c (hold own j0 P) τ σ H' := S1.hold hj0 hP (sc.trans sy) (by rw [hPy]; exact fun z => nomatch z)
    refine asg_run tg items[i] x (wipeD τ vs) τ2 (wipe σ vs) _ (Sh.wipe vs) (ry.weak hold_fb) e3 fun σ2 S2 w2 => ⟨by rw [w2 vs ht]; exact wipe_wipe σ vs, ?_⟩
    have hlen2 : τ2.length ≤ j0 := by
      have l1 := S2.len
      have l2 : (wipe σ2 vs).length = (wipe (wipe σ vs) vs).length := by rw [w2 vs ht]
      rw [wipe_length, wipe_length, wipe_length] at l2
      have := S.len
      omega
    dsimp only [tYes]
    rw [if_pos rfl]
    refine ⟨hold own j0 P, τ2, S2.quiet, ?_⟩
    have e5' : evS c.quiet.G c.quiet.Φ src1 τ2 = .ok items1 := e5
    rw [e5']
    intro J1 H4 s4 it1
    have hP4 : H4 P = some (.lst vs') := s4 _ _ hPy
    have S4 : Sim c (hold own j0 P) τ2 σ2 H4 := S2.mono s4
    have sH4 : Same H1 H4 := (sc.trans sy).trans s4
    refine ⟨fun j k Hc1 => j + k = items1.length ∧ ∃ acc1 rest1 vs2, (∀ a o, a ≠ P → H4 a = some o → Hc1 a = some o) ∧ Hc1 P = some (.lst vs2) ∧ RepL c.K (Fb c (hold own j0 P) (lt elt ++ li elt)) Hc1 acc1 vs2 ∧ mapR (turn1 c elt tg1 vs1 τ2) (items1.drop j) = .ok rest1 ∧ acc1 ++ rest1 = acc ++ ys,
      ⟨items1.length, by omega, acc, ys, vs', fun a o _ h => h, hP4, ra.same (sy.trans s4), e6, rfl⟩, fun j k Hc1 ⟨hk, acc1, rest1, vs2, k1, hP1, ra1, er1, ea1⟩ => ?_⟩
    have kp1 : Kept (Fb c (hold own j0 P) (ltS src1 ++ liS src1)) H4 Hc1 := fun a o e n => by
      by_cases z : a = P
      · subst z
        rw [hP4] at e
        cases e
        rcases n with n | n
        · exact absurd FS n
        · exact absurd ⟨vs', rfl⟩ n
      · exact k1 a o z e
    have sH1 : Same H1 Hc1 := fun b o ho => by
      by_cases e : b = P
      · subst e; rw [hP] at ho; cases ho
      · exact k1 b o e (sH4 _ _ ho)
    have itc1 := it1 (fun a => False) (fun a z => z.elim) Hc1 kp1
    by_cases hj : j < items1.length
    · refine .inr ⟨(itc1.1 j items1[j] (List.getElem?_eq_getElem hj)).1, fun H' => j + 1 + (k - 1) = items1.length ∧ ∃ acc1 rest1 vs2, (∀ a o, a ≠ P → H4 a = some o → H' a = some o) ∧ H' P = some (.lst vs2) ∧ RepL c.K (Fb c (hold own j0 P) (lt elt ++ li elt)) H' acc1 vs2 ∧ mapR (turn1 c elt tg1 vs1 τ2) (items1.drop (j + 1)) = .ok rest1 ∧ acc1 ++ rest1 = acc ++ ys,
        fun H' h => ⟨k - 1, by omega, h⟩, fun x1 H5 hy1 => ?_⟩
      obtain ⟨sy1, ry1⟩ := (itc1.1 j items1[j] (List.getElem?_eq_getElem hj)).2 x1 H5 hy1
      rw [List.drop_eq_getElem_cons hj] at er1
      obtain ⟨o, f1, er1⟩ := bind_ok (show (turn1 c elt tg1 vs1 τ2 items1[j] >>= fun o => mapR (turn1 c elt tg1 vs1 τ2) (items1.drop (j + 1)) >>= fun ds => match o with
        | some x => Res.ok (x :: ds)
        | none => .ok ds) = .ok rest1 from er1)
      obtain ⟨rest2, f2, er1⟩ := bind_ok er1
      obtain ⟨τ3, f3, f4⟩ := bind_ok (nox_inv f1)
      obtain ⟨y, f5, f6⟩ := bind_ok f4
      cases f6
      have hr1 : rest1 = y :: rest2 := (Res.ok.inj er1).symm
      have hP5 : H5 P = some (.lst vs2) := sy1 _ _ hP1
      have S5 : Sim c (hold own j0 P) τ2 σ2 H5 := (S4.keptP e0 hlen2 hP4 k1 (by rw [hP1]; exact fun z => nomatch z)).mono sy1
      have ry1' : Rep c.K (Fb c (hold own j0 P) []) H5 items1[j] x1 := ry1.weak fun a z => .inl (by
        have := (show Fb c (hold own j0 P) [] a from z)
        have hl : liS src1 = [] := h01
        show Fb c.quiet (hold own j0 P) (liS src1) a
        rw [hl]
        exact z)
      refine asg_run tg1 items1[j] x1 (wipeD τ2 vs1) τ3 (wipe σ2 vs1) _ (S5.wipe vs1) ry1' f3 fun σ3 S3 w3 => ⟨by rw [w3 vs1 ht1]; exact wipe_wipe σ2 vs1, ?_⟩
      rw [if_pos rfl]
      refine ⟨hold own j0 P, τ3, S3.quiet, ?_⟩
      have f5' : ev c.quiet.G c.quiet.Φ elt τ3 = .ok y := f5
      rw [f5']
      refine fun v H6 s6 r6 => ?_
      have hP6 : H6 P = some (.lst vs2) := s6 _ _ hP5
      have kp : Kept (Fb c (hold own j0 P) (lt elt ++ li elt)) H6 (upd H6 P (.lst (vs2 ++ [v]))) := kept_upd FP ⟨_, hP6⟩
      have r6' : Rep c.K (Fb c (hold own j0 P) (lt elt ++ li elt)) H6 y v := ((show RepT c.K (Ft c.quiet (hold own j0 P) elt H5) (Fb c (hold own j0 P) (li elt)) H6 y v from r6).weak (fun a z => .inl (appL a z)) appR).rep
      refine ⟨vs2, hP6, ?_, by omega, acc1 ++ [y], rest2, vs2 ++ [v], ?_, upd_same, RepFL.kept _ _ kp (fun _ z => z) ((ra1.same (sy1.trans s6)).append (RepFL.one r6')), f2, by rw [← ea1, hr1, List.append_assoc]; rfl⟩
      · have l1 : acc1.length + (rest2.length + 1) = acc.length + ys.length := by
          have := congrArg List.length ea1
          rw [hr1] at this
          simpa using this
        have l2 : acc.length + (ys.length + rest'.length) ≤ sizeLine := by
          rw [← ea, hrest] at hz
          simpa using hz
        rw [← ra1.length]
        omega
      · intro b o ne ho
        rw [upd_ne ne]
        exact s6 _ _ (sy1 _ _ (k1 b o ne ho))
    · refine .inl ⟨itc1.2 j (by omega), by omega, acc1, rest', vs2, sH1, hP1, ra1, e2, ?_⟩
      have ei : items1.drop j = [] := List.drop_eq_nil_of_le (by omega)
      rw [ei] at er1
      cases er1
      rw [List.append_nil] at ea1
      rw [ea1, ← ea, hrest, List.append_assoc]
  · refine .inl ⟨itc.2 i (by omega), ?_⟩
    have ei : items.drop i = [] := List.drop_eq_nil_of_le (by omega)
    rw [ei] at er
    cases er
    rw [List.append_nil] at ea
    subst ea
    exact (show ∀ v H', Same H H' → RepT c.K (fun a => Fb c own [] a ∨ (true = true ∧ H a ≠ none)) (Fb c own (lt elt ++ li elt)) H' (D.lst acc) v → Q v H' from p) _ Hc (s1.trans sc) ⟨P, vs', rfl, hDc, fun z => z.elim (fun z => S1.fok P z hP) fun z => z.2 (s1.free hP), ra.weak fun b z => z.elim (fb_hold hj0 b) fun z => by rw [z]; exact FP⟩
end
end PyI
/-! PyI, part 9: checked syntax runs as the interpreter says: expressions. -/
namespace PyI
open PySem PySem.Spec PyProof.Rows L2
theorem own_snd (N : List Str) (own : List Nat) : (ownN N own).map (·.2) = own := by
  unfold ownN
  rw [List.map_map]
  exact (List.map_congr_left fun _ _ => rfl).trans (List.map_id own)
section
variable {k : Ck} {sc : Scope} {fb : Str → Bool}
theorem inv_var {i : Nat} {X0 : Expr} (h : chkE k sc fb (.var i) X0 = true) : ∃ x p, X0 = .Name x p ∧ (decide (k.N[i]? = some x) && (vis sc x && nmOk x)) = true := by
  cases X0 with
  | Name x p =>
    exact ⟨_, _, rfl, h⟩
  | _ => cases h
theorem inv_int {i : Int} {X0 : Expr} (h : chkE k sc fb (.int i) X0 = true) : ∃ j n p, X0 = .Constant (.int j) n p ∧ (decide (i = j)) = true := by
  cases X0 with
  | Constant v1 n p =>
    cases v1 with
    | int j =>
      exact ⟨_, _, _, rfl, h⟩
    | _ => cases h
  | _ => cases h
theorem inv_str {i : Str} {X0 : Expr} (h : chkE k sc fb (.str i) X0 = true) : ∃ j n p, X0 = .Constant (.str j) n p ∧ (decide (i = j)) = true := by
  cases X0 with
  | Constant v2 n p =>
    cases v2 with
    | str j =>
      exact ⟨_, _, _, rfl, h⟩
    | _ => cases h
  | _ => cases h
theorem inv_bl {i : Bool} {X0 : Expr} (h : chkE k sc fb (.bl i) X0 = true) : ∃ j n p, X0 = .Constant (.bool j) n p ∧ (i == j) = true := by
  cases X0 with
  | Constant v3 n p =>
    cases v3 with
    | bool j =>
      exact ⟨_, _, _, rfl, h⟩
    | _ => cases h
  | _ => cases h
theorem inv_non {X0 : Expr} (h : chkE k sc fb (.non) X0 = true) : ∃ n p, X0 = .Constant .none n p ∧ (true) = true := by
  cases X0 with
  | Constant v4 n p =>
    cases v4 with
    | none =>
      exact ⟨_, _, rfl, h⟩
    | _ => cases h
  | _ => cases h
theorem inv_glob {x0 : Str} {X0 : Expr} (h : chkE k sc fb (.glob x0) X0 = true) : ∃ y p, X0 = .Name y p ∧ (decide (x0 = y) && (gl sc x0 && (nmOk x0 && k.gs.contains x0))) = true := by
  cases X0 with
  | Name y p =>
    exact ⟨_, _, rfl, h⟩
  | _ => cases h
theorem inv_op {o : Op} {a b : E} {X0 : Expr} (h : chkE k sc fb (.op o a b) X0 = true) : ∃ x p y q, X0 = .BinOp x p y q ∧ (opk o p && (chkE k sc fb a x && chkE k sc fb b y)) = true := by
  cases X0 with
  | BinOp x p y q =>
    exact ⟨_, _, _, _, rfl, h⟩
  | _ => cases h
theorem inv_neg {a : E} {X0 : Expr} (h : chkE k sc fb (.neg a) X0 = true) : ∃ x q, X0 = .UnaryOp .USub x q ∧ (chkE k sc fb a x) = true := by
  cases X0 with
  | UnaryOp v5 x q =>
    cases v5 with
    | USub =>
      exact ⟨_, _, rfl, h⟩
    | _ => cases h
  | _ => cases h
theorem inv_not {a : E} {X0 : Expr} (h : chkE k sc fb (.not a) X0 = true) : ∃ x q, X0 = .UnaryOp .Not x q ∧ (chkE k sc fb a x) = true := by
  cases X0 with
  | UnaryOp v6 x q =>
    cases v6 with
    | Not =>
      exact ⟨_, _, rfl, h⟩
    | _ => cases h
  | _ => cases h
theorem inv_cmp {o : Cm} {a b : E} {X0 : Expr} (h : chkE k sc fb (.cmp o a b) X0 = true) : ∃ x p y q, X0 = .Compare x (p :: []) (y :: []) q ∧ (cmk o p && (!behindInMarks p y && (chkE k sc fb a x && chkE k sc fb b y))) = true := by
  cases X0 with
  | Compare x v7 v8 q =>
    cases v7 with
    | cons p v9 =>
      cases v9 with
      | nil =>
        cases v8 with
        | cons y v10 =>
          cases v10 with
          | nil =>
            exact ⟨_, _, _, _, rfl, h⟩
          | _ => cases h
        | _ => cases h
      | _ => cases h
    | _ => cases h
  | _ => cases h
theorem inv_chain {o o' : Cm} {a b d : E} {X0 : Expr} (h : chkE k sc fb (.chain o o' a b d) X0 = true) : ∃ x p p' y z q, X0 = .Compare x (p :: (p' :: [])) (y :: (z :: [])) q ∧ (cmk o p && (cmk o' p' && (!lastMarks [p, p'] [y, z] && (chkE k sc fb a x && (chkE k sc fb b y && chkE k sc fb d z))))) = true := by
  cases X0 with
  | Compare x v11 v12 q =>
    cases v11 with
    | cons p v13 =>
      cases v13 with
      | cons p' v14 =>
        cases v14 with
        | nil =>
          cases v12 with
          | cons y v15 =>
            cases v15 with
            | cons z v16 =>
              cases v16 with
              | nil =>
                exact ⟨_, _, _, _, _, _, rfl, h⟩
              | _ => cases h
            | _ => cases h
          | _ => cases h
        | _ => cases h
      | _ => cases h
    | _ => cases h
  | _ => cases h
theorem inv_ife {t a b : E} {X0 : Expr} (h : chkE k sc fb (.ife t a b) X0 = true) : ∃ w x y q, X0 = .IfExp w x y q ∧ (tOk t && (chkE k sc fb t w && (chkE k sc fb a x && chkE k sc fb b y))) = true := by
  cases X0 with
  | IfExp w x y q =>
    exact ⟨_, _, _, _, rfl, h⟩
  | _ => cases h
theorem inv_ix {a b : E} {X0 : Expr} (h : chkE k sc fb (.ix a b) X0 = true) : ∃ x y q, X0 = .Subscript x y q ∧ (notSlice y && (chkE k sc fb a x && chkE k sc fb b y)) = true := by
  cases X0 with
  | Subscript x y q =>
    exact ⟨_, _, _, rfl, h⟩
  | _ => cases h
theorem inv_sl {a : E} {lo hi : Op1} {X0 : Expr} (h : chkE k sc fb (.sl a lo hi) X0 = true) : ∃ x l u p q, X0 = .Subscript x (.Slice l u .none p) q ∧ (chkE k sc fb a x && (chkO k sc fb lo l && chkO k sc fb hi u)) = true := by
  cases X0 with
  | Subscript x v17 q =>
    cases v17 with
    | Slice l u v18 p =>
      cases v18 with
      | none =>
        exact ⟨_, _, _, _, _, rfl, h⟩
      | _ => cases h
    | _ => cases h
  | _ => cases h
theorem inv_tup {es : Es} {X0 : Expr} (h : chkE k sc fb (.tup es) X0 = true) : ∃ xs n q, X0 = .Tuple xs n q ∧ (decide (esLen es ≤ 1000) && chkEs k sc fb es xs) = true := by
  cases X0 with
  | Tuple xs n q =>
    exact ⟨_, _, _, rfl, h⟩
  | _ => cases h
theorem inv_lst {es : Es} {X0 : Expr} (h : chkE k sc fb (.lst es) X0 = true) : ∃ xs q, X0 = .List xs q ∧ (decide (esLen es ≤ 1000) && chkEs k sc fb es xs) = true := by
  cases X0 with
  | List xs q =>
    exact ⟨_, _, rfl, h⟩
  | _ => cases h
theorem inv_call {f : Str} {es : Es} {X0 : Expr} (h : chkE k sc fb (.call f es) X0 = true) : (∃ y p x xs q, X0 = .Call (.Name y p) (x :: xs) [] q ∧ (decide (f = y) && (k.fns.contains f && (gl sc y && (nmOk y && chkEs k sc fb es (x :: xs))))) = true) ∨ ∃ y p q, X0 = .Call (.Name y p) [] [] q ∧ es = .nil ∧ (decide (f = y) && (k.fns.contains f && (gl sc y && nmOk y))) = true := by
  cases X0 with
  | Call v19 v20 v21 q =>
    cases v19 with
    | Name y p =>
      cases v20 with
      | cons x xs =>
        cases v21 with
        | nil => cases es <;> exact .inl ⟨_, _, _, _, _, rfl, h⟩
        | _ => cases es <;> cases h
      | nil =>
        cases v21 with
        | nil =>
          cases es with
          | nil => exact .inr ⟨_, _, _, rfl, rfl, h⟩
          | _ => cases h
        | _ => cases es <;> cases h
    | _ => cases es <;> cases h
  | _ => cases es <;> cases h
theorem inv_bi {b : Bi} {es : Es} {X0 : Expr} (h : chkE k sc fb (.bi b es) X0 = true) : ∃ y p x xs q, X0 = .Call (.Name y p) (x :: xs) [] q ∧ (biChk k b y && (gl sc y && (nmOk y && chkEs k sc fb es (x :: xs)))) = true := by
  cases X0 with
  | Call v22 v23 v24 q =>
    cases v22 with
    | Name y p =>
      cases v23 with
      | cons x xs =>
        cases v24 with
        | nil =>
          exact ⟨_, _, _, _, _, rfl, h⟩
        | _ => cases h
      | _ => cases h
    | _ => cases h
  | _ => cases h
theorem inv_isi {a : E} {t : String} {X0 : Expr} (h : chkE k sc fb (.isi a t) X0 = true) : ∃ y p x z p' q, X0 = .Call (.Name y p) (x :: ((.Name z p') :: [])) [] q ∧ (decide (y = ("isinstance" : Str)) && (k.fr.contains y && (gl sc y && (decide (z = Str.ofString t) && (k.fr.contains z && (gl sc z && (nmOk z && (["int", "bool", "str", "tuple", "list"].contains t && (notStar x && chkE k sc fb a x))))))))) = true := by
  cases X0 with
  | Call v25 v26 v27 q =>
    cases v25 with
    | Name y p =>
      cases v26 with
      | cons x v28 =>
        cases v28 with
        | cons v29 v30 =>
          cases v29 with
          | Name z p' =>
            cases v30 with
            | nil =>
              cases v27 with
              | nil =>
                exact ⟨_, _, _, _, _, _, rfl, h⟩
              | _ => cases h
            | _ => cases h
          | _ => cases h
        | _ => cases h
      | _ => cases h
    | _ => cases h
  | _ => cases h
theorem inv_find {a b : E} {X0 : Expr} (h : chkE k sc fb (.find a b) X0 = true) : ∃ o m ap v cp, X0 = .Call (.Attribute o m ap) [v] [] cp ∧ (decide (m = ("find" : Str)) && ((ap.endLine == cp.line) && (objOk o && (notStar v && (chkE k sc fb a o && chkE k sc fb b v))))) = true := by
  cases X0 with
  | Call f as kw cp =>
    cases f with
    | Attribute o m ap =>
      cases as with
      | nil => cases h
      | cons v r =>
        cases r with
        | cons _ _ => cases h
        | nil =>
          cases kw with
          | cons _ _ => cases h
          | nil => exact ⟨_, _, _, _, _, rfl, h⟩
    | _ => cases h
  | _ => cases h
theorem inv_and {a b : E} {X0 : Expr} (h : chkE k sc fb (.and a b) X0 = true) : (∃ x y q, X0 = .BoolOp .And [x, y] q ∧ (chkE k sc fb a x && chkE k sc fb b y) = true) ∨ ∃ x y z r q, X0 = .BoolOp .And (x :: y :: z :: r) q ∧ (chkE k sc fb a x && chkE k sc fb b (.BoolOp .And (y :: z :: r) q)) = true := by
  cases X0 with
  | BoolOp o vs q =>
    cases o with
    | And =>
      cases vs with
      | nil => cases h
      | cons x vs =>
        cases vs with
        | nil => cases h
        | cons y vs =>
          cases vs with
          | nil => exact .inl ⟨_, _, _, rfl, h⟩
          | cons z r => exact .inr ⟨_, _, _, _, _, rfl, h⟩
    | _ => cases h
  | _ => cases h
theorem inv_or {a b : E} {X0 : Expr} (h : chkE k sc fb (.or a b) X0 = true) : (∃ x y q, X0 = .BoolOp .Or [x, y] q ∧ (chkE k sc fb a x && chkE k sc fb b y) = true) ∨ ∃ x y z r q, X0 = .BoolOp .Or (x :: y :: z :: r) q ∧ (chkE k sc fb a x && chkE k sc fb b (.BoolOp .Or (y :: z :: r) q)) = true := by
  cases X0 with
  | BoolOp o vs q =>
    cases o with
    | Or =>
      cases vs with
      | nil => cases h
      | cons x vs =>
        cases vs with
        | nil => cases h
        | cons y vs =>
          cases vs with
          | nil => exact .inl ⟨_, _, _, rfl, h⟩
          | cons z r => exact .inr ⟨_, _, _, _, _, rfl, h⟩
    | _ => cases h
  | _ => cases h
theorem inv_comp {elt : E} {tg : Tg} {src : Src} {own : List Nat} {X0 : Expr} (h : chkE k sc fb (.comp elt tg src own) X0 = true) : ∃ x t it scope q, X0 = .ListComp x [⟨t, it, [], 0⟩] scope q ∧ (blkC k.N sc scope (ownN k.N own) && (chkS k sc fb src t it && ((liS src).isEmpty && ((tgIx tg).all (own.contains ·) && (chkTg k (relS scope sc) (isCell scope) tg t && chkE k (relS scope sc) (isCell scope) elt x))))) = true := by
  cases X0 with
  | ListComp x gs scope q =>
    cases gs with
    | nil => cases h
    | cons g1 gs =>
      obtain ⟨t, it, fs, n⟩ := g1
      cases gs with
      | cons _ _ => cases h
      | nil =>
        obtain ⟨h1, h2⟩ := ba (show ((fs.isEmpty && decide (n = 0)) && _) = true from h)
        obtain ⟨h3, h4⟩ := ba h1
        have e1 : n = 0 := of_decide_eq_true h4
        subst e1
        cases fs with
        | nil => exact ⟨_, _, _, _, _, rfl, h2⟩
        | cons _ _ => cases h3
  | _ => cases h
theorem inv_comp2 {elt : E} {tg tg1 : Tg} {src src1 : Src} {own vs1 : List Nat} {X0 : Expr} (h : chkE k sc fb (.comp2 elt tg src tg1 src1 own vs1) X0 = true) : ∃ x t it t1 it1 scope q, X0 = .ListComp x [⟨t, it, [], 0⟩, ⟨t1, it1, [], 0⟩] scope q ∧ (blkC k.N sc scope (ownN k.N own) && (chkS k sc fb src t it && ((liS src).isEmpty && ((tgIx tg).all (own.contains ·) && (chkTg k (relS scope sc) (isCell scope) tg t && (chkS k (relS scope sc) (isCell scope) src1 t1 it1 && ((liS src1).isEmpty && ((tgIx tg1).all (vs1.contains ·) && (vs1.all (own.contains ·) && (chkTg k (relS scope sc) (isCell scope) tg1 t1 && chkE k (relS scope sc) (isCell scope) elt x)))))))))) = true := by
  cases X0 with
  | ListComp x gs scope q =>
    cases gs with
    | nil => cases h
    | cons g gs =>
      cases gs with
      | nil => obtain ⟨t, it, fs, n⟩ := g; cases h
      | cons g1 gs =>
        cases gs with
        | cons _ _ => obtain ⟨t, it, fs, n⟩ := g; obtain ⟨t1, it1, fs1, n1⟩ := g1; cases h
        | nil =>
          obtain ⟨t, it, fs, n⟩ := g
          obtain ⟨t1, it1, fs1, n1⟩ := g1
          obtain ⟨h1, h2⟩ := ba (show ((fs.isEmpty && (decide (n = 0) && (fs1.isEmpty && decide (n1 = 0)))) && (blkC k.N sc scope (ownN k.N own) && (chkS k sc fb src t it && ((liS src).isEmpty && ((tgIx tg).all (own.contains ·) && (chkTg k (relS scope sc) (isCell scope) tg t && (chkS k (relS scope sc) (isCell scope) src1 t1 it1 && ((liS src1).isEmpty && ((tgIx tg1).all (vs1.contains ·) && (vs1.all (own.contains ·) && (chkTg k (relS scope sc) (isCell scope) tg1 t1 && chkE k (relS scope sc) (isCell scope) elt x))))))))))) = true from h)
          obtain ⟨h3, h1⟩ := ba h1
          obtain ⟨h4, h1⟩ := ba h1
          obtain ⟨h5, h6⟩ := ba h1
          cases fs with
          | cons _ _ => cases h3
          | nil =>
            cases fs1 with
            | cons _ _ => cases h5
            | nil =>
              cases of_decide_eq_true h4
              cases of_decide_eq_true h6
              exact ⟨_, _, _, _, _, _, _, rfl, h2⟩
  | _ => cases h
theorem inv_compIf {elt : E} {tg : Tg} {src : Src} {cd : E} {own : List Nat} {X0 : Expr} (h : chkE k sc fb (.compIf elt tg src cd own) X0 = true) : ∃ x t it i scope q, X0 = .ListComp x [⟨t, it, [i], 0⟩] scope q ∧ (blkC k.N sc scope (ownN k.N own) && (chkS k sc fb src t it && ((liS src).isEmpty && ((tgIx tg).all (own.contains ·) && (tOk cd && (chkTg k (relS scope sc) (isCell scope) tg t && (chkE k (relS scope sc) (isCell scope) cd i && chkE k (relS scope sc) (isCell scope) elt x))))))) = true := by
  cases X0 with
  | ListComp x gs scope q =>
    cases gs with
    | nil => cases h
    | cons g1 gs =>
      obtain ⟨t, it, fs, n⟩ := g1
      cases gs with
      | cons _ _ => cases h
      | nil =>
        cases fs with
        | nil => obtain ⟨h1, h2⟩ := ba (show (decide (n = 0) && false) = true from h); cases h2
        | cons i fs =>
          cases fs with
          | cons _ _ => obtain ⟨h1, h2⟩ := ba (show (decide (n = 0) && false) = true from h); cases h2
          | nil =>
            obtain ⟨h1, h2⟩ := ba (show (decide (n = 0) && _) = true from h)
            have e1 : n = 0 := of_decide_eq_true h1
            subst e1
            exact ⟨_, _, _, _, _, _, rfl, h2⟩
  | _ => cases h
theorem inv_nil {xs : List Expr} (h : chkEs k sc fb .nil xs = true) : xs = [] := by
  cases xs with
  | nil => rfl
  | cons _ _ => cases h
theorem inv_cons {e : E} {r : Es} {xs : List Expr} (h : chkEs k sc fb (.cons e r) xs = true) : ∃ x ys, xs = x :: ys ∧ (notStar x && (chkE k sc fb e x && chkEs k sc fb r ys)) = true := by
  cases xs with
  | nil => cases h
  | cons x ys => exact ⟨_, _, rfl, h⟩
theorem inv_no {x : Option Expr} (h : chkO k sc fb .no x = true) : x = none := by
  cases x with
  | none => rfl
  | some _ => cases h
theorem inv_so {e : E} {x : Option Expr} (h : chkO k sc fb (.so e) x = true) : ∃ y, x = some y ∧ chkE k sc fb e y = true := by
  cases x with
  | none => cases h
  | some y => exact ⟨_, rfl, h⟩
theorem inv_rng1 {a : E} {t X0 : Expr} (h : chkS k sc fb (.rng1 a) t X0 = true) : ∃ y p x q, X0 = .Call (.Name y p) [x] [] q ∧ (decide (y = ("range" : Str)) && (k.fr.contains y && (gl sc y && (notStar x && chkE k sc fb a x)))) = true := by
  cases X0 with
  | Call f as ks q =>
    cases f with
    | Name y p =>
      cases as with
      | nil => cases h
      | cons x as =>
        cases as with
        | nil =>
          cases ks with
          | nil => exact ⟨_, _, _, _, rfl, h⟩
          | cons _ _ => cases h
        | cons _ _ => cases h
    | _ => cases h
  | _ => cases h
theorem inv_rng2 {a b : E} {t X0 : Expr} (h : chkS k sc fb (.rng2 a b) t X0 = true) : ∃ y p x w q, X0 = .Call (.Name y p) [x, w] [] q ∧ (decide (y = ("range" : Str)) && (k.fr.contains y && (gl sc y && (notStar x && (notStar w && (chkE k sc fb a x && chkE k sc fb b w)))))) = true := by
  cases X0 with
  | Call f as ks q =>
    cases f with
    | Name y p =>
      cases as with
      | nil => cases h
      | cons x as =>
        cases as with
        | nil => cases h
        | cons w as =>
          cases as with
          | nil =>
            cases ks with
            | nil => exact ⟨_, _, _, _, _, rfl, h⟩
            | cons _ _ => cases h
          | cons _ _ => cases h
    | _ => cases h
  | _ => cases h
theorem inv_enum {e : E} {t X0 : Expr} (h : chkS k sc fb (.enum e) t X0 = true) : ∃ y p x q, X0 = .Call (.Name y p) [x] [] q ∧ (tgE t && (decide (y = ("enumerate" : Str)) && (k.fr.contains y && (gl sc y && (notStar x && chkE k sc fb e x))))) = true := by
  cases X0 with
  | Call f as ks q =>
    cases f with
    | Name y p =>
      cases as with
      | nil => cases h
      | cons x as =>
        cases as with
        | nil =>
          cases ks with
          | nil => exact ⟨_, _, _, _, rfl, h⟩
          | cons _ _ => cases h
        | cons _ _ => cases h
    | _ => cases h
  | _ => cases h
theorem inv_zip {a b : E} {t X0 : Expr} (h : chkS k sc fb (.zip a b) t X0 = true) : ∃ y p x w q, X0 = .Call (.Name y p) [x, w] [] q ∧ (tgE t && (decide (y = ("zip" : Str)) && (k.fr.contains y && (gl sc y && (notStar x && (notStar w && (chkE k sc fb a x && chkE k sc fb b w))))))) = true := by
  cases X0 with
  | Call f as ks q =>
    cases f with
    | Name y p =>
      cases as with
      | nil => cases h
      | cons x as =>
        cases as with
        | nil => cases h
        | cons w as =>
          cases as with
          | nil =>
            cases ks with
            | nil => exact ⟨_, _, _, _, _, rfl, h⟩
            | cons _ _ => cases h
          | cons _ _ => cases h
    | _ => cases h
  | _ => cases h
theorem inv_tgE {t : Expr} (h : tgE t = true) : ∃ es n p, t = .Tuple es n p := by
  cases t with
  | Tuple es n p => exact ⟨_, _, _, rfl⟩
  | _ => cases h
end
end PyI
/-! PyI, part 9: checked syntax runs as the interpreter says: expressions. -/
namespace PyI
open PySem PySem.Spec PyProof.Rows L2

def SndE (k : Ck) (e : E) : Prop := ∀ (x : Expr) {X : Cx} {c : Cc} {sc : Scope} {fb : Str → Bool}, Good k X c sc fb → chkE k sc fb e x = true → PE X x (rdE c e)
def SndT (k : Ck) (e : E) : Prop := ∀ (x : Expr) {X : Cx} {c : Cc} {sc : Scope} {fb : Str → Bool}, Good k X c sc fb → tOk e = true → chkE k sc fb e x = true → PT X x (rdT c e)
def SndA (k : Ck) (e : Es) : Prop := ∀ (x : List Expr) {X : Cx} {c : Cc} {sc : Scope} {fb : Str → Bool}, Good k X c sc fb → chkEs k sc fb e x = true → PA X x (rdA c e)
def SndO (k : Ck) (e : Op1) : Prop := ∀ (x : Option Expr) {X : Cx} {c : Cc} {sc : Scope} {fb : Str → Bool}, Good k X c sc fb → chkO k sc fb e x = true → PO X x (rdO c e)
def SndS (k : Ck) (e : Src) : Prop := ∀ (t x : Expr) {X : Cx} {c : Cc} {sc : Scope} {fb : Str → Bool}, Good k X c sc fb → chkS k sc fb e t x = true → PI X t x (rdS c e)
section
variable {k : Ck}
theorem s_peE_var (i : Nat) : SndE k (.var i) := by
  intro X0 X c sc fb g h
  obtain ⟨x, _, rfl, hh⟩ := inv_var h
  have h := hh
  obtain ⟨h1, h2⟩ := ba (show (decide (k.N[i]? = some x) && (vis sc x && nmOk x)) = true from h)
  obtain ⟨h3, h4⟩ := ba h2
  exact peImp (pe_var (i := i) (by rw [g.N]; exact of_decide_eq_true h1) (by rw [g.sc]; exact vis_ok h3) (nm_ok h4).1 (nm_ok h4).2.1) fun σ H Q q => lp_var q
theorem s_peE_int (i : Int) : SndE k (.int i) := by
  intro X0 X c sc fb g h
  obtain ⟨j, _, _, rfl, hh⟩ := inv_int h
  have h := hh
  have e : i = j := of_decide_eq_true h
  subst e
  exact peImp pe_int fun σ H Q q => let ⟨own, τ, S, p⟩ := q; p _ H (Same.refl H) rfl
theorem s_peE_str (i : Str) : SndE k (.str i) := by
  intro X0 X c sc fb g h
  obtain ⟨j, _, _, rfl, hh⟩ := inv_str h
  have h := hh
  have e : i = j := of_decide_eq_true h
  subst e
  exact peImp pe_str fun σ H Q q => let ⟨own, τ, S, p⟩ := q; p _ H (Same.refl H) rfl
theorem s_peE_bl (i : Bool) : SndE k (.bl i) := by
  intro X0 X c sc fb g h
  obtain ⟨j, _, _, rfl, hh⟩ := inv_bl h
  have h := hh
  have e : i = j := by simpa using (show (i == j) = true from h)
  subst e
  exact peImp pe_bl fun σ H Q q => let ⟨own, τ, S, p⟩ := q; p _ H (Same.refl H) rfl
theorem s_peE_non  : SndE k (.non) := by
  intro X0 X c sc fb g h
  obtain ⟨_, _, rfl, hh⟩ := inv_non h
  have h := hh
  exact peImp pe_non fun σ H Q q => let ⟨own, τ, S, p⟩ := q; p _ H (Same.refl H) rfl
theorem s_peE_glob (x : Str) : SndE k (.glob x) := by
  intro X0 X c sc fb g h
  obtain ⟨y, _, rfl, hh⟩ := inv_glob h
  have h := hh
  obtain ⟨h1, h2⟩ := ba (show (decide (x = y) && (gl sc x && (nmOk x && k.gs.contains x))) = true from h)
  obtain ⟨h3, h4⟩ := ba h2
  obtain ⟨h5, h6⟩ := ba h4
  have e : x = y := of_decide_eq_true h1
  subst e
  obtain ⟨u, v, d, m1, m2, m3, m4⟩ := g.gs x (by simpa using h6)
  refine peImp (pe_glob (g.gl h3) m1 m2 (nm_ok h5).1) fun σ H Q q => ?_
  obtain ⟨own, τ, S, p⟩ := q
  have p' : Post (match c.G x with
    | some d => Res.ok d
    | none => .bad) _ _ := p
  rw [m3] at p'
  exact p' _ H (Same.refl H) ((m4 (Fb c own []) H).t.weak (ft_n rfl fun _ z => z) fun a z => z)
theorem s_peE_op (o : Op) (a b : E) (H_peE_a : SndE k a) (H_peE_b : SndE k b) : SndE k (.op o a b) := by
  intro X0 X c sc fb g h
  obtain ⟨x, p, y, _, rfl, hh⟩ := inv_op h
  have h := hh
  obtain ⟨h1, h2⟩ := ba (show (opk o p && (chkE k sc fb a x && chkE k sc fb b y)) = true from h)
  obtain ⟨h3, h4⟩ := ba h2
  have e := opk_ok h1
  subst e
  have r : OpR X (binaryOp (pyOp o)) (rOpD c.K o) := by rw [g.K]; exact op_ok o
  exact peImp (pe_op r (H_peE_a x g h3) (H_peE_b y g h4)) fun σ H Q q => lp_op q
theorem s_peE_neg (a : E) (H_peE_a : SndE k a) : SndE k (.neg a) := by
  intro X0 X c sc fb g h
  obtain ⟨x, _, rfl, hh⟩ := inv_neg h
  have h := hh
  exact peImp (pe_un un_neg (H_peE_a x g h)) fun σ H Q q => lp_neg q
theorem s_peE_not (a : E) (H_peE_a : SndE k a) : SndE k (.not a) := by
  intro X0 X c sc fb g h
  obtain ⟨x, _, rfl, hh⟩ := inv_not h
  have h := hh
  exact peImp (pe_not (H_peE_a x g h)) fun σ H Q q => lp_not q
theorem s_peE_and (a b : E) (H_peE_a : SndE k a) (H_peE_b : SndE k b) : SndE k (.and a b) := by
  intro X0 X c sc fb g h
  rcases inv_and h with ⟨x, y, _, rfl, hh⟩ | ⟨x, y, z, r, p, rfl, hh⟩
  · obtain ⟨h1, h2⟩ := ba (show (chkE k sc fb a x && chkE k sc fb b y) = true from hh)
    exact peImp (pe_and (H_peE_a x g h1) (pe_one (H_peE_b y g h2))) fun σ H Q q => lp_and q
  · obtain ⟨h1, h2⟩ := ba (show (chkE k sc fb a x && chkE k sc fb b (.BoolOp .And (y :: z :: r) p)) = true from hh)
    exact peImp (pe_and (H_peE_a x g h1) (H_peE_b (.BoolOp .And (y :: z :: r) p) g h2)) fun σ H Q q => lp_and q
theorem s_peE_or (a b : E) (H_peE_a : SndE k a) (H_peE_b : SndE k b) : SndE k (.or a b) := by
  intro X0 X c sc fb g h
  rcases inv_or h with ⟨x, y, _, rfl, hh⟩ | ⟨x, y, z, r, p, rfl, hh⟩
  · obtain ⟨h1, h2⟩ := ba (show (chkE k sc fb a x && chkE k sc fb b y) = true from hh)
    exact peImp (pe_or (H_peE_a x g h1) (pe_one (H_peE_b y g h2))) fun σ H Q q => lp_or q
  · obtain ⟨h1, h2⟩ := ba (show (chkE k sc fb a x && chkE k sc fb b (.BoolOp .Or (y :: z :: r) p)) = true from hh)
    exact peImp (pe_or (H_peE_a x g h1) (H_peE_b (.BoolOp .Or (y :: z :: r) p) g h2)) fun σ H Q q => lp_or q
theorem s_peE_cmp (o : Cm) (a b : E) (H_peE_a : SndE k a) (H_peE_b : SndE k b) : SndE k (.cmp o a b) := by
  intro X0 X c sc fb g h
  obtain ⟨x, p, y, _, rfl, hh⟩ := inv_cmp h
  have h := hh
  obtain ⟨h1, h2⟩ := ba (show (cmk o p && (!behindInMarks p y && (chkE k sc fb a x && chkE k sc fb b y))) = true from h)
  obtain ⟨h3, h4⟩ := ba h2
  obtain ⟨h5, h6⟩ := ba h4
  have e := cmk_ok h1
  subst e
  have r : OpR X (compareOp (pyCm o)) (rCmD c.K o) := by rw [g.K]; exact cm_ok g.un o
  exact peImp (pe_cmpR r (H_peE_a x g h5) (H_peE_b y g h6) (bn h3)) fun σ H Q q => lp_cmp q
theorem s_peE_chain (o o' : Cm) (a b d : E) (H_peE_a : SndE k a) (H_peE_b : SndE k b) (H_peE_d : SndE k d) : SndE k (.chain o o' a b d) := by
  intro X0 X c sc fb g h
  obtain ⟨x, p, p', y, z, _, rfl, hh⟩ := inv_chain h
  have h := hh
  obtain ⟨h1, h2⟩ := ba (show (cmk o p && (cmk o' p' && (!lastMarks [p, p'] [y, z] && (chkE k sc fb a x && (chkE k sc fb b y && chkE k sc fb d z))))) = true from h)
  obtain ⟨h3, h4⟩ := ba h2
  obtain ⟨h5, h6⟩ := ba h4
  obtain ⟨h7, h8⟩ := ba h6
  obtain ⟨h9, h10⟩ := ba h8
  have e := cmk_ok h1
  have e' := cmk_ok h3
  subst e
  subst e'
  have r : OpR X (compareOp (pyCm o)) (rCmD c.K o) := by rw [g.K]; exact cm_ok g.un o
  have r' : OpR X (compareOp (pyCm o')) (rCmD c.K o') := by rw [g.K]; exact cm_ok g.un o'
  exact peImp (pe_chain r r' (H_peE_a x g h7) (H_peE_b y g h9) (H_peE_d z g h10) (bn h5)) fun σ H Q q => lp_chain q
theorem s_peE_ife (t a b : E) (H_ptE_t : SndT k t) (H_peE_a : SndE k a) (H_peE_b : SndE k b) : SndE k (.ife t a b) := by
  intro X0 X c sc fb g h
  obtain ⟨w, x, y, _, rfl, hh⟩ := inv_ife h
  have h := hh
  obtain ⟨h1, h2⟩ := ba (show (tOk t && (chkE k sc fb t w && (chkE k sc fb a x && chkE k sc fb b y))) = true from h)
  obtain ⟨h3, h4⟩ := ba h2
  obtain ⟨h5, h6⟩ := ba h4
  exact peImp (pe_ifExp (H_ptE_t w g h1 h3) (H_peE_a x g h5) (H_peE_b y g h6)) fun σ H Q q => lp_ife q
theorem s_peE_ix (a b : E) (H_peE_a : SndE k a) (H_peE_b : SndE k b) : SndE k (.ix a b) := by
  intro X0 X c sc fb g h
  obtain ⟨x, y, _, rfl, hh⟩ := inv_ix h
  have h := hh
  obtain ⟨h1, h2⟩ := ba (show (notSlice y && (chkE k sc fb a x && chkE k sc fb b y)) = true from h)
  obtain ⟨h3, h4⟩ := ba h2
  have r : IxR X (rIxD c.K) := by rw [g.K]; exact ix_ok
  exact peImp (pe_ix r (H_peE_a x g h3) (H_peE_b y g h4) (slice_ok h1)) fun σ H Q q => lp_ix q
theorem s_peE_sl (a : E) (lo hi : Op1) (H_peE_a : SndE k a) (H_poO_lo : SndO k lo) (H_poO_hi : SndO k hi) : SndE k (.sl a lo hi) := by
  intro X0 X c sc fb g h
  obtain ⟨x, l, u, _, _, rfl, hh⟩ := inv_sl h
  have h := hh
  obtain ⟨h1, h2⟩ := ba (show (chkE k sc fb a x && (chkO k sc fb lo l && chkO k sc fb hi u)) = true from h)
  obtain ⟨h3, h4⟩ := ba h2
  have r : SlR X (rSlD c.K) := by rw [g.K]; exact sl_ok
  exact peImp (pe_slice r (H_peE_a x g h1) (H_poO_lo l g h3) (H_poO_hi u g h4)) fun σ H Q q => lp_sl q
theorem s_peE_tup (es : Es) (H_paEs_es : SndA k es) : SndE k (.tup es) := by
  intro X0 X c sc fb g h
  obtain ⟨xs, _, _, rfl, hh⟩ := inv_tup h
  have h := hh
  obtain ⟨h1, h2⟩ := ba (show (decide (esLen es ≤ 1000) && chkEs k sc fb es xs) = true from h)
  exact peImp (pe_tup (H_paEs_es xs g h2)) fun σ H Q q => lp_tup (of_decide_eq_true h1) q
theorem s_peE_lst (es : Es) (H_paEs_es : SndA k es) : SndE k (.lst es) := by
  intro X0 X c sc fb g h
  obtain ⟨xs, _, rfl, hh⟩ := inv_lst h
  have h := hh
  obtain ⟨h1, h2⟩ := ba (show (decide (esLen es ≤ 1000) && chkEs k sc fb es xs) = true from h)
  exact peImp (pe_lst (H_paEs_es xs g h2)) fun σ H Q q => lp_lst (of_decide_eq_true h1) q
theorem s_peE_comp (elt : E) (tg : Tg) (src : Src) (own : List Nat) (H_piS_src : SndS k src) (H_peE_elt : SndE k elt) : SndE k (.comp elt tg src own) := by
  intro X0 X c sc fb g h
  obtain ⟨x, t, it, scope, q0, rfl, hh⟩ := inv_comp h
  have h := hh
  obtain ⟨h1, h2⟩ := ba (show (blkC k.N sc scope (ownN k.N own) && (chkS k sc fb src t it && ((liS src).isEmpty && ((tgIx tg).all (own.contains ·) && (chkTg k (relS scope sc) (isCell scope) tg t && chkE k (relS scope sc) (isCell scope) elt x))))) = true from h)
  obtain ⟨h3, h4⟩ := ba h2
  obtain ⟨h5, h6⟩ := ba h4
  obtain ⟨h7, h8⟩ := ba h6
  obtain ⟨h9, h10⟩ := ba h8
  have r := pe_lc (pos := q0) (own := ownN k.N own) (g := tgG X.K tg) g.calm g.nd (H_piS_src t it g h3) (by rw [g.N, g.sc]; exact blkOk_by h1) (fun s H C cl fp => pgTg (g.blk s H scope cl C fp) tg t h9) (fun s H C cl fp => pts_nil) (fun s H C cl fp => H_peE_elt x (g.blk s H scope cl C fp) h10) (fun v => set_ok (chkS_set h3) X.env v)
  rw [own_snd] at r
  exact peImp r fun σ H Q q => lp_comp g.K (by simpa using h5) (fun i hi => by have := List.all_eq_true.mp h7 i hi; simpa using this) q
theorem s_peE_compIf (elt : E) (tg : Tg) (src : Src) (cd : E) (own : List Nat) (H_piS_src : SndS k src) (H_ptE_cd : SndT k cd) (H_peE_elt : SndE k elt) : SndE k (.compIf elt tg src cd own) := by
  intro X0 X c sc fb g h
  obtain ⟨x, t, it, i, scope, q0, rfl, hh⟩ := inv_compIf h
  have h := hh
  obtain ⟨h1, h2⟩ := ba (show (blkC k.N sc scope (ownN k.N own) && (chkS k sc fb src t it && ((liS src).isEmpty && ((tgIx tg).all (own.contains ·) && (tOk cd && (chkTg k (relS scope sc) (isCell scope) tg t && (chkE k (relS scope sc) (isCell scope) cd i && chkE k (relS scope sc) (isCell scope) elt x))))))) = true from h)
  obtain ⟨h3, h4⟩ := ba h2
  obtain ⟨h5, h6⟩ := ba h4
  obtain ⟨h7, h8⟩ := ba h6
  obtain ⟨h11, h8⟩ := ba h8
  obtain ⟨h9, h10⟩ := ba h8
  obtain ⟨h12, h10⟩ := ba h10
  have r := pe_lc (pos := q0) (own := ownN k.N own) (g := tgG X.K tg) g.calm g.nd (H_piS_src t it g h3) (by rw [g.N, g.sc]; exact blkOk_by h1) (fun s H C cl fp => pgTg (g.blk s H scope cl C fp) tg t h9) (fun s H C cl fp => pts_one (H_ptE_cd i (g.blk s H scope cl C fp) h11 h12)) (fun s H C cl fp => H_peE_elt x (g.blk s H scope cl C fp) h10) (fun v => set_ok (chkS_set h3) X.env v)
  rw [own_snd] at r
  exact peImp r fun σ H Q q => lp_compIf g.K (by simpa using h5) (fun i hi => by have := List.all_eq_true.mp h7 i hi; simpa using this) q
theorem pe_callS0 {X : Cx} {CX : CXT} {n : Nat} {f : Addr} {fd : FuncData} {ps : List Str} {sp : Sp} {E : L2.St → XK} {x : Str} {p pos : Pos} (F : FnOk X.prog X.w X.K X.mg X.base CX n f fd ps sp) (hr : Room n X.A) (hg : Gl X x) (hm : X.mg x = some (.ref f)) (hk : PySem.W.keepIn X.K (.ref f) = true) (hb : Binds X.K fd ps []) (hx : ∀ σ, PassesAt CX X σ (E σ))
    (hdb : (x == ("__debug__" : Str)) = false) : PE X (.Call (.Name x p) [] [] pos) (tCallS sp E tNil) := by
  refine ⟨fun pins s σ H Q I h => ?_⟩
  refine wpAny_Call_Name_kw (ld_glob I hg hm ?_ hdb)
  exact PySem.W.callWith_K0 I.kIn hk (run_fnSD (us := []) (vs := []) (dvs := []) F hr hb .nil (hx σ) I .nil h)
theorem s_peE_call (f : Str) (es : Es) (H_paEs_es : SndA k es) : SndE k (.call f es) := by
  intro X0 X c sc fb g h
  rcases inv_call h with ⟨y, _, x, xs, _, rfl, hh⟩ | ⟨y, p, q, rfl, rfl, hh⟩
  · have h := hh
    obtain ⟨h1, h2⟩ := ba (show (decide (f = y) && (k.fns.contains f && (gl sc y && (nmOk y && chkEs k sc fb es (x :: xs))))) = true from h)
    obtain ⟨h3, h4⟩ := ba h2
    obtain ⟨h5, h6⟩ := ba h4
    obtain ⟨h7, h8⟩ := ba h6
    have e : f = y := of_decide_eq_true h1
    subst e
    obtain ⟨n, fa, fd, ps, F, hr, m1, m2, m3⟩ := g.fns f (by simpa using h3)
    obtain ⟨st1, r0, st2⟩ := chkEs_head h8
    exact peImp (pe_callS (x := f) F hr (g.gl h5) m1 m2 m3 (fun σ => passAt g.takes σ) (H_paEs_es (x :: xs) g h8) (nm_ok h7).1 (star_ok st1 xs X.env) (stars_plain st2)) fun σ H Q q => lp_call q
  · obtain ⟨h1, h2⟩ := ba hh
    obtain ⟨h3, h4⟩ := ba h2
    obtain ⟨h5, h7⟩ := ba h4
    have e : f = y := of_decide_eq_true h1
    subst e
    obtain ⟨n, fa, fd, ps, F, hr, m1, m2, m3⟩ := g.fns f (by simpa using h3)
    exact peImp (pe_callS0 (x := f) F hr (g.gl h5) m1 m2 m3 (fun σ => passAt g.takes σ) (nm_ok h7).1) fun σ H Q q => by
      obtain ⟨own, τ, S, p⟩ := lp_call q
      exact (show ∀ vs H', Same H H' → RepL _ _ H' [] vs → RepA _ _ H' [] vs → _ from p) [] H (Same.refl H) rfl rfl
theorem s_peE_bi (b : Bi) (es : Es) (H_paEs_es : SndA k es) : SndE k (.bi b es) := by
  intro X0 X c sc fb g h
  obtain ⟨y, _, x, xs, _, rfl, hh⟩ := inv_bi h
  have h := hh
  obtain ⟨h1, h2⟩ := ba (show (biChk k b y && (gl sc y && (nmOk y && chkEs k sc fb es (x :: xs)))) = true from h)
  obtain ⟨h3, h4⟩ := ba h2
  obtain ⟨h5, h6⟩ := ba h4
  obtain ⟨st1, r0, st2⟩ := chkEs_head h6
  have r : CallR X (biV b) (rBiD c.K b) := by rw [g.K]; exact bi_ok g.calm b
  have pa := H_paEs_es (x :: xs) g h6
  have nm := nm_ok h5
  have s1 := star_ok st1 xs X.env
  have s2 : ∀ pos, (backTo pos (starEach xs X.env)).any (·.1) = false := fun pos => stars_plain st2
  cases b with
  | gcd => exact peImp (pe_callBfun r (g.gl h3) (g.gm y (by simpa using (show k.gm.contains y = true from h1))) pa nm.1 s1 (s2 _)) fun σ H Q q => lp_bi q
  | lcm => cases h1
  | len =>
    obtain ⟨e, h1⟩ := ba h1
    exact peImp (pe_callB r (g.gl h3) (g.frn h1) (by rw [of_decide_eq_true e]; exact boot_bi _ (by decide) (by decide)) pa nm.2.2 nm.1 s1 (s2 _)) fun σ H Q q => lp_bi q
  | abs =>
    obtain ⟨e, h1⟩ := ba h1
    exact peImp (pe_callB r (g.gl h3) (g.frn h1) (by rw [of_decide_eq_true e]; exact boot_bi _ (by decide) (by decide)) pa nm.2.2 nm.1 s1 (s2 _)) fun σ H Q q => lp_bi q
  | min =>
    obtain ⟨e, h1⟩ := ba h1
    exact peImp (pe_callB r (g.gl h3) (g.frn h1) (by rw [of_decide_eq_true e]; exact boot_bi _ (by decide) (by decide)) pa nm.2.2 nm.1 s1 (s2 _)) fun σ H Q q => lp_bi q
  | max =>
    obtain ⟨e, h1⟩ := ba h1
    exact peImp (pe_callB r (g.gl h3) (g.frn h1) (by rw [of_decide_eq_true e]; exact boot_bi _ (by decide) (by decide)) pa nm.2.2 nm.1 s1 (s2 _)) fun σ H Q q => lp_bi q
  | sum =>
    obtain ⟨e, h1⟩ := ba h1
    exact peImp (pe_callB r (g.gl h3) (g.frn h1) (by rw [of_decide_eq_true e]; exact boot_bi _ (by decide) (by decide)) pa nm.2.2 nm.1 s1 (s2 _)) fun σ H Q q => lp_bi q
  | all =>
    obtain ⟨e, h1⟩ := ba h1
    exact peImp (pe_callB r (g.gl h3) (g.frn h1) (by rw [of_decide_eq_true e]; exact boot_bi _ (by decide) (by decide)) pa nm.2.2 nm.1 s1 (s2 _)) fun σ H Q q => lp_bi q
  | any =>
    obtain ⟨e, h1⟩ := ba h1
    exact peImp (pe_callB r (g.gl h3) (g.frn h1) (by rw [of_decide_eq_true e]; exact boot_bi _ (by decide) (by decide)) pa nm.2.2 nm.1 s1 (s2 _)) fun σ H Q q => lp_bi q
  | sorted =>
    obtain ⟨e, h1⟩ := ba h1
    exact peImp (pe_callB r (g.gl h3) (g.frn h1) (by rw [of_decide_eq_true e]; exact boot_bi _ (by decide) (by decide)) pa nm.2.2 nm.1 s1 (s2 _)) fun σ H Q q => lp_bi q
  | int =>
    obtain ⟨e, h1⟩ := ba h1
    exact peImp (pe_callTy r (g.gl h3) (g.frn h1) (by rw [of_decide_eq_true e]; exact boot_bi _ (by decide) (by decide)) pa nm.2.2 nm.1 s1 (s2 _)) fun σ H Q q => lp_bi q
  | tuple =>
    obtain ⟨e, h1⟩ := ba h1
    exact peImp (pe_callTy r (g.gl h3) (g.frn h1) (by rw [of_decide_eq_true e]; exact boot_bi _ (by decide) (by decide)) pa nm.2.2 nm.1 s1 (s2 _)) fun σ H Q q => lp_bi q
  | list =>
    obtain ⟨e, h1⟩ := ba h1
    exact peImp (pe_callTy r (g.gl h3) (g.frn h1) (by rw [of_decide_eq_true e]; exact boot_bi _ (by decide) (by decide)) pa nm.2.2 nm.1 s1 (s2 _)) fun σ H Q q => lp_bi q
  | str =>
    obtain ⟨e, h1⟩ := ba h1
    exact peImp (pe_callTy r (g.gl h3) (g.frn h1) (by rw [of_decide_eq_true e]; exact boot_bi _ (by decide) (by decide)) pa nm.2.2 nm.1 s1 (s2 _)) fun σ H Q q => lp_bi q
theorem s_peE_isi (a : E) (t : String) (H_peE_a : SndE k a) : SndE k (.isi a t) := by
  intro X0 X c sc fb g h
  obtain ⟨y, _, x, z, _, _, rfl, hh⟩ := inv_isi h
  have h := hh
  obtain ⟨h1, h⟩ := ba (show (decide (y = ("isinstance" : Str)) && (k.fr.contains y && (gl sc y && (decide (z = Str.ofString t) && (k.fr.contains z && (gl sc z && (nmOk z && (["int", "bool", "str", "tuple", "list"].contains t && (notStar x && chkE k sc fb a x))))))))) = true from h)
  obtain ⟨h2, h⟩ := ba h
  obtain ⟨h3, h⟩ := ba h
  obtain ⟨h4, h⟩ := ba h
  obtain ⟨h5, h⟩ := ba h
  obtain ⟨h6, h⟩ := ba h
  obtain ⟨h7, h⟩ := ba h
  obtain ⟨h8, h⟩ := ba h
  obtain ⟨h9, h10⟩ := ba h
  have e1 : y = ("isinstance" : Str) := of_decide_eq_true h1
  have e2 : z = Str.ofString t := of_decide_eq_true h4
  have r : CallR X (.builtin "isinstance") (rIsD c.K t) := by rw [g.K]; exact isi_ok t
  have pt : ∀ pos, PE X (.Name z pos) (tC (.ty t)) := fun pos => pe_bltn (g.gl h6) (g.frn h5) (u := .type t) (by rw [e2]; exact boot_ty h8) rfl (nm_ok h7).2.2 (nm_ok h7).1
  exact peImp (pe_callB (x := y) r (g.gl h3) (g.frn h2) (by rw [e1]; exact boot_isi) (pa_cons (H_peE_a x g h10) (pa_cons (pt _) pa_nil rfl) (star_ok h9 _ _)) (by rw [e1]; decide) (by rw [e1]; decide) (star_ok h9 _ _) rfl) fun σ H Q q => lp_isi q
theorem s_ptE_not (a : E) (H_ptE_a : SndT k a) : SndT k (.not a) := by
  intro X0 X c sc fb g t h
  obtain ⟨x, _, rfl, hh⟩ := inv_not h
  have h := hh
  exact ptImp (pt_not (H_ptE_a x g t h)) fun σ H Q q => lt_not q
theorem s_ptE_and (a b : E) (H_ptE_a : SndT k a) (H_ptE_b : SndT k b) : SndT k (.and a b) := by
  intro X0 X c sc fb g t h
  rcases inv_and h with ⟨x, y, _, rfl, hh⟩ | ⟨x, y, z, r, p, rfl, hh⟩
  · obtain ⟨h1, h2⟩ := ba (show (chkE k sc fb a x && chkE k sc fb b y) = true from hh)
    obtain ⟨t1, t2⟩ := ba (show (tOk a && tOk b) = true from t)
    exact ptImp (pw_and (H_ptE_a x g t1 h1) (pw_and1 (H_ptE_b y g t2 h2))).pt fun σ H Q q => lt_and q
  · obtain ⟨h1, h2⟩ := ba (show (chkE k sc fb a x && chkE k sc fb b (.BoolOp .And (y :: z :: r) p)) = true from hh)
    obtain ⟨t1, t2⟩ := ba (show (tOk a && tOk b) = true from t)
    exact ptImp (pw_and (H_ptE_a x g t1 h1) (pwAnd (H_ptE_b (.BoolOp .And (y :: z :: r) p) g t2 h2))).pt fun σ H Q q => lt_and q
theorem s_ptE_or (a b : E) (H_ptE_a : SndT k a) (H_ptE_b : SndT k b) : SndT k (.or a b) := by
  intro X0 X c sc fb g t h
  rcases inv_or h with ⟨x, y, _, rfl, hh⟩ | ⟨x, y, z, r, p, rfl, hh⟩
  · obtain ⟨h1, h2⟩ := ba (show (chkE k sc fb a x && chkE k sc fb b y) = true from hh)
    obtain ⟨t1, t2⟩ := ba (show (tOk a && tOk b) = true from t)
    exact ptImp (pw_or (H_ptE_a x g t1 h1) (pw_or1 (H_ptE_b y g t2 h2))).pt fun σ H Q q => lt_or q
  · obtain ⟨h1, h2⟩ := ba (show (chkE k sc fb a x && chkE k sc fb b (.BoolOp .Or (y :: z :: r) p)) = true from hh)
    obtain ⟨t1, t2⟩ := ba (show (tOk a && tOk b) = true from t)
    exact ptImp (pw_or (H_ptE_a x g t1 h1) (pwAnd (H_ptE_b (.BoolOp .Or (y :: z :: r) p) g t2 h2))).pt fun σ H Q q => lt_or q
theorem s_ptE_cmp (o : Cm) (a b : E) (H_peE_a : SndE k a) (H_peE_b : SndE k b) : SndT k (.cmp o a b) := by
  intro X0 X c sc fb g t h
  obtain ⟨x, p, y, _, rfl, hh⟩ := inv_cmp h
  have h := hh
  obtain ⟨h1, h2⟩ := ba (show (cmk o p && (!behindInMarks p y && (chkE k sc fb a x && chkE k sc fb b y))) = true from h)
  obtain ⟨h3, h4⟩ := ba h2
  obtain ⟨h5, h6⟩ := ba h4
  have e := cmk_ok h1
  subst e
  have r : OpR X (compareOp (pyCm o)) (rCmD c.K o) := by rw [g.K]; exact cm_ok g.un o
  exact ptImp (pt_cmpR r (H_peE_a x g h5) (H_peE_b y g h6) (bn h3)) fun σ H Q q => lp_cmp (rdT_of q)
theorem s_ptE_chain (o o' : Cm) (a b d : E) (H_peE_a : SndE k a) (H_peE_b : SndE k b) (H_peE_d : SndE k d) : SndT k (.chain o o' a b d) := by
  intro X0 X c sc fb g t h
  obtain ⟨x, p, p', y, z, _, rfl, hh⟩ := inv_chain h
  have h := hh
  obtain ⟨h1, h2⟩ := ba (show (cmk o p && (cmk o' p' && (!lastMarks [p, p'] [y, z] && (chkE k sc fb a x && (chkE k sc fb b y && chkE k sc fb d z))))) = true from h)
  obtain ⟨h3, h4⟩ := ba h2
  obtain ⟨h5, h6⟩ := ba h4
  obtain ⟨h7, h8⟩ := ba h6
  obtain ⟨h9, h10⟩ := ba h8
  have e := cmk_ok h1
  have e' := cmk_ok h3
  subst e
  subst e'
  have r : OpR X (compareOp (pyCm o)) (rCmD c.K o) := by rw [g.K]; exact cm_ok g.un o
  have r' : OpR X (compareOp (pyCm o')) (rCmD c.K o') := by rw [g.K]; exact cm_ok g.un o'
  exact ptImp (pt_chain r r' (H_peE_a x g h7) (H_peE_b y g h9) (H_peE_d z g h10) (bn h5)) fun σ H Q q => lp_chain (rdT_of q)
theorem s_ptE_var (i : Nat) (H_self : SndE k (.var i)) : SndT k (.var i) := by
  intro x X c sc fb g t h
  exact ptImp (pt_val (H_self x g h) (plainT_ok (plain_of rfl h) X.env)) fun σ H Q q => rdT_of q
theorem s_ptE_bl (i : Bool) (H_self : SndE k (.bl i)) : SndT k (.bl i) := by
  intro x X c sc fb g t h
  exact ptImp (pt_val (H_self x g h) (plainT_ok (plain_of rfl h) X.env)) fun σ H Q q => rdT_of q
theorem s_ptE_ix (a b : E) (H_self : SndE k (.ix a b)) : SndT k (.ix a b) := by
  intro x X c sc fb g t h
  exact ptImp (pt_val (H_self x g h) (plainT_ok (plain_of rfl h) X.env)) fun σ H Q q => rdT_of q
theorem s_ptE_call (f : Str) (es : Es) (H_self : SndE k (.call f es)) : SndT k (.call f es) := by
  intro x X c sc fb g t h
  exact ptImp (pt_val (H_self x g h) (plainT_ok (plain_of rfl h) X.env)) fun σ H Q q => rdT_of q
theorem s_ptE_bi (b : Bi) (es : Es) (H_self : SndE k (.bi b es)) : SndT k (.bi b es) := by
  intro x X c sc fb g t h
  exact ptImp (pt_val (H_self x g h) (plainT_ok (plain_of rfl h) X.env)) fun σ H Q q => rdT_of q
theorem s_ptE_isi (a : E) (t' : String) (H_self : SndE k (.isi a t')) : SndT k (.isi a t') := by
  intro x X c sc fb g t h
  exact ptImp (pt_val (H_self x g h) (plainT_ok (plain_of rfl h) X.env)) fun σ H Q q => rdT_of q
theorem s_paEs_nil  : SndA k (.nil) := by
  intro X0 X c sc fb g h
  cases inv_nil h
  exact paImp pa_nil fun σ H Q q => lp_nil q
theorem s_paEs_cons (e : E) (r : Es) (H_peE_e : SndE k e) (H_paEs_r : SndA k r) : SndA k (.cons e r) := by
  intro X0 X c sc fb g h
  obtain ⟨x, xs, rfl, hh⟩ := inv_cons h
  have h := hh
  obtain ⟨h1, h2⟩ := ba (show (notStar x && (chkE k sc fb e x && chkEs k sc fb r xs)) = true from h)
  obtain ⟨h3, h4⟩ := ba h2
  exact paImp (pa_cons (H_peE_e x g h3) (H_paEs_r xs g h4) (star_ok h1 xs X.env)) fun σ H Q q => lp_cons q
theorem s_poO_no  : SndO k (.no) := by
  intro X0 X c sc fb g h
  cases inv_no h
  exact poImp po_none fun σ H Q q => (lp_part q).1 rfl
theorem s_poO_so (e : E) (H_peE_e : SndE k e) : SndO k (.so e) := by
  intro X0 X c sc fb g h
  obtain ⟨x, rfl, hh⟩ := inv_so h
  have h := hh
  exact poImp (po_some (H_peE_e x g h)) fun σ H Q q => (lp_part q).2 e rfl
theorem s_piS_seq (e : E) (H_peE_e : SndE k e) : SndS k (.seq e) := by
  intro t it X c sc fb g h
  obtain ⟨h1, h2⟩ := ba (show (notSet it && chkE k sc fb e it) = true from h)
  have r := H_peE_e it g h2
  have z := piOr (piOr (pi_list (tg := t) r) (pi_tup r)) (pi_str r)
  rw [← g.K] at z
  exact piImp z fun σ H R q => lp_seq q
theorem s_piS_rng1 (a : E) (H_peE_a : SndE k a) : SndS k (.rng1 a) := by
  intro t X0 X c sc fb g h
  obtain ⟨y, _, x, _, rfl, hh⟩ := inv_rng1 h
  have h := hh
  obtain ⟨h1, h⟩ := ba (show (decide (y = ("range" : Str)) && (k.fr.contains y && (gl sc y && (notStar x && chkE k sc fb a x)))) = true from h)
  obtain ⟨h2, h⟩ := ba h
  obtain ⟨h3, h⟩ := ba h
  obtain ⟨h4, h5⟩ := ba h
  have e1 : y = ("range" : Str) := of_decide_eq_true h1
  subst e1
  have s1 := star_ok h4 [] X.env
  exact piImp (pi_range1 (g.gl h3) (g.frn h2) (pa_cons (H_peE_a x g h5) pa_nil s1) s1) fun σ H R q => lp_rng1 q
theorem s_piS_rng2 (a b : E) (H_peE_a : SndE k a) (H_peE_b : SndE k b) : SndS k (.rng2 a b) := by
  intro t X0 X c sc fb g h
  obtain ⟨y, _, x, w, _, rfl, hh⟩ := inv_rng2 h
  have h := hh
  obtain ⟨h1, h⟩ := ba (show (decide (y = ("range" : Str)) && (k.fr.contains y && (gl sc y && (notStar x && (notStar w && (chkE k sc fb a x && chkE k sc fb b w)))))) = true from h)
  obtain ⟨h2, h⟩ := ba h
  obtain ⟨h3, h⟩ := ba h
  obtain ⟨h4, h⟩ := ba h
  obtain ⟨h5, h⟩ := ba h
  obtain ⟨h6, h7⟩ := ba h
  have e1 : y = ("range" : Str) := of_decide_eq_true h1
  subst e1
  have s1 := star_ok h5 [] X.env
  have s2 := star_ok h4 [w] X.env
  exact piImp (pi_range2 (g.gl h3) (g.frn h2) (pa_cons (H_peE_a x g h6) (pa_cons (H_peE_b w g h7) pa_nil s1) s2) (by rw [s2, s1]; rfl) s1) fun σ H R q => lp_rng2 q
theorem s_piS_enum (e : E) (H_peE_e : SndE k e) : SndS k (.enum e) := by
  intro t X0 X c sc fb g h
  obtain ⟨y, _, x, _, rfl, hh⟩ := inv_enum h
  have h := hh
  obtain ⟨h0, h⟩ := ba h
  obtain ⟨elts, kk, tpos, rfl⟩ := inv_tgE h0
  obtain ⟨h1, h⟩ := ba (show (decide (y = ("enumerate" : Str)) && (k.fr.contains y && (gl sc y && (notStar x && chkE k sc fb e x)))) = true from h)
  obtain ⟨h2, h⟩ := ba h
  obtain ⟨h3, h⟩ := ba h
  obtain ⟨h4, h5⟩ := ba h
  have e1 : y = ("enumerate" : Str) := of_decide_eq_true h1
  subst e1
  have s1 := star_ok h4 [] X.env
  refine piImp (t := iEnum c.K (tCons (rdE c e) tNil)) ?_ fun σ H R q => lp_enum q
  rw [g.K]
  exact pi_enum (g.gl h3) (g.frn h2) (pa_cons (H_peE_e x g h5) pa_nil s1) s1
theorem s_piS_zip (a b : E) (H_peE_a : SndE k a) (H_peE_b : SndE k b) : SndS k (.zip a b) := by
  intro t X0 X c sc fb g h
  obtain ⟨y, _, x, w, _, rfl, hh⟩ := inv_zip h
  have h := hh
  obtain ⟨h0, h⟩ := ba h
  obtain ⟨elts, kk, tpos, rfl⟩ := inv_tgE h0
  obtain ⟨h1, h⟩ := ba (show (decide (y = ("zip" : Str)) && (k.fr.contains y && (gl sc y && (notStar x && (notStar w && (chkE k sc fb a x && chkE k sc fb b w)))))) = true from h)
  obtain ⟨h2, h⟩ := ba h
  obtain ⟨h3, h⟩ := ba h
  obtain ⟨h4, h⟩ := ba h
  obtain ⟨h5, h⟩ := ba h
  obtain ⟨h6, h7⟩ := ba h
  have e1 : y = ("zip" : Str) := of_decide_eq_true h1
  subst e1
  have s1 := star_ok h5 [] X.env
  have s2 := star_ok h4 [w] X.env
  refine piImp (t := RZ.iZipA c.K (tCons (rdE c a) (tCons (rdE c b) tNil))) ?_ fun σ H R q => lp_zip q
  rw [g.K]
  exact RZ.pi_zipA (g.gl h3) (g.frn h2) (pa_cons (H_peE_a x g h6) (pa_cons (H_peE_b w g h7) pa_nil s1) s2) s2 (by rw [s1]; rfl)
end
theorem s_peE_comp2 {k : Ck} (elt : E) (tg : Tg) (src : Src) (tg1 : Tg) (src1 : Src) (own vs1 : List Nat) (H_src : SndS k src) (H_src1 : SndS k src1) (H_elt : SndE k elt) : SndE k (.comp2 elt tg src tg1 src1 own vs1) := by
  intro X0 X c sc fb g h
  obtain ⟨x, t, it, t1, it1, scope, q0, rfl, w⟩ := inv_comp2 h
  obtain ⟨h1, w⟩ := ba w
  obtain ⟨h2, w⟩ := ba w
  obtain ⟨h3, w⟩ := ba w
  obtain ⟨h4, w⟩ := ba w
  obtain ⟨h5, w⟩ := ba w
  obtain ⟨h6, w⟩ := ba w
  obtain ⟨h7, w⟩ := ba w
  obtain ⟨h8, w⟩ := ba w
  obtain ⟨h9, w⟩ := ba w
  obtain ⟨h10, h11⟩ := ba w
  have r := pe_lc2 (pos := q0) (own := ownN k.N own) (vs1 := vs1) (g := tgG X.K tg) (g1 := tgG X.K tg1) g.calm g.nd (H_src t it g h2) (by rw [g.N, g.sc]; exact blkOk_by h1) (by rw [own_snd]; exact fun i hi => (by have := List.all_eq_true.mp h9 i hi; simpa using this)) (fun s H C cl fp => pgTg (g.blk s H scope cl C fp) tg t h5) (fun s H C cl fp => pts_nil) (fun s H C cl fp => H_src1 t1 it1 (g.blk s H scope cl C fp) h6) (fun s H C cl fp => pgTg (g.blk s H scope cl C fp) tg1 t1 h10) (fun s H C cl fp => pts_nil) (fun s H C cl fp => H_elt x (g.blk s H scope cl C fp) h11) (fun v => set_ok (chkS_set h2) X.env v) (fun env v => set_ok (chkS_set h6) env v)
  rw [own_snd] at r
  exact peImp r fun σ H Q q => lp_comp2 g.K (by simpa using h3) (by simpa using h7) (fun i hi => by have := List.all_eq_true.mp h4 i hi; simpa using this) (fun i hi => by have := List.all_eq_true.mp h8 i hi; simpa using this) q
theorem s_peE_find {k : Ck} (a b : E) (Ha : SndE k a) (Hb : SndE k b) : SndE k (.find a b) := by
  intro X0 X c sc fb g h
  obtain ⟨o, m, ap, v, cp, rfl, w⟩ := inv_find h
  obtain ⟨h1, w⟩ := ba w
  obtain ⟨h2, w⟩ := ba w
  obtain ⟨h3, w⟩ := ba w
  obtain ⟨h4, w⟩ := ba w
  obtain ⟨h5, h6⟩ := ba w
  cases of_decide_eq_true h1
  have pa : PA X [v] (tCons (rdE c b) tNil) := pa_cons (Hb v g h6) pa_nil (star_ok h4 [] X.env)
  have hb : attributeBase o "find" X.env (eval o X.env) = eval o X.env := by cases o <;> first | rfl | cases h3
  have r := pe_bm (cpos := cp) (apos := ap) PySem.F.plainAttrs_str PySem.F.slot_str_find PySem.F.type_str_find mt_find (Ha o g h5) pa hb (by rw [star_ok h4]; rfl) h2 (star_ok h4 [] X.env) rfl
  exact peImp r fun σ H Q q => lp_find q
mutual
theorem peE (k : Ck) : ∀ e : E, SndE k e
  | .var i => s_peE_var i
  | .int i => s_peE_int i
  | .str i => s_peE_str i
  | .bl i => s_peE_bl i
  | .non => s_peE_non
  | .glob x => s_peE_glob x
  | .op o a b => s_peE_op o a b (peE k a) (peE k b)
  | .neg a => s_peE_neg a (peE k a)
  | .not a => s_peE_not a (peE k a)
  | .and a b => s_peE_and a b (peE k a) (peE k b)
  | .or a b => s_peE_or a b (peE k a) (peE k b)
  | .cmp o a b => s_peE_cmp o a b (peE k a) (peE k b)
  | .chain o o' a b d => s_peE_chain o o' a b d (peE k a) (peE k b) (peE k d)
  | .ife t a b => s_peE_ife t a b (ptE k t) (peE k a) (peE k b)
  | .ix a b => s_peE_ix a b (peE k a) (peE k b)
  | .sl a lo hi => s_peE_sl a lo hi (peE k a) (poO k lo) (poO k hi)
  | .tup es => s_peE_tup es (paEs k es)
  | .lst es => s_peE_lst es (paEs k es)
  | .comp elt tg src own => s_peE_comp elt tg src own (piS k src) (peE k elt)
  | .compIf elt tg src cd own => s_peE_compIf elt tg src cd own (piS k src) (ptE k cd) (peE k elt)
  | .call f es => s_peE_call f es (paEs k es)
  | .bi b es => s_peE_bi b es (paEs k es)
  | .isi a t => s_peE_isi a t (peE k a)
  | .find a b => s_peE_find a b (peE k a) (peE k b)
  | .comp2 elt tg src tg1 src1 own vs1 => s_peE_comp2 elt tg src tg1 src1 own vs1 (piS k src) (piS k src1) (peE k elt)
theorem ptE (k : Ck) : ∀ e : E, SndT k e
  | .not a => s_ptE_not a (ptE k a)
  | .and a b => s_ptE_and a b (ptE k a) (ptE k b)
  | .or a b => s_ptE_or a b (ptE k a) (ptE k b)
  | .cmp o a b => s_ptE_cmp o a b (peE k a) (peE k b)
  | .chain o o' a b d => s_ptE_chain o o' a b d (peE k a) (peE k b) (peE k d)
  | .var i => s_ptE_var i (peE k (.var i))
  | .bl i => s_ptE_bl i (peE k (.bl i))
  | .ix a b => s_ptE_ix a b (peE k (.ix a b))
  | .call f es => s_ptE_call f es (peE k (.call f es))
  | .bi b es => s_ptE_bi b es (peE k (.bi b es))
  | .isi a t' => s_ptE_isi a t' (peE k (.isi a t'))
  | .int _ => fun _ _ _ _ _ _ t _ => Bool.noConfusion t
  | .find _ _ => fun _ _ _ _ _ _ t _ => Bool.noConfusion t
  | .str _ => fun _ _ _ _ _ _ t _ => Bool.noConfusion t
  | .non => fun _ _ _ _ _ _ t _ => Bool.noConfusion t
  | .glob _ => fun _ _ _ _ _ _ t _ => Bool.noConfusion t
  | .op _ _ _ => fun _ _ _ _ _ _ t _ => Bool.noConfusion t
  | .neg _ => fun _ _ _ _ _ _ t _ => Bool.noConfusion t
  | .ife _ _ _ => fun _ _ _ _ _ _ t _ => Bool.noConfusion t
  | .sl _ _ _ => fun _ _ _ _ _ _ t _ => Bool.noConfusion t
  | .tup _ => fun _ _ _ _ _ _ t _ => Bool.noConfusion t
  | .lst _ => fun _ _ _ _ _ _ t _ => Bool.noConfusion t
  | .comp _ _ _ _ => fun _ _ _ _ _ _ t _ => Bool.noConfusion t
  | .compIf _ _ _ _ _ => fun _ _ _ _ _ _ t _ => Bool.noConfusion t
  | .comp2 _ _ _ _ _ _ _ => fun _ _ _ _ _ _ t _ => Bool.noConfusion t
theorem paEs (k : Ck) : ∀ e : Es, SndA k e
  | .nil => s_paEs_nil
  | .cons e r => s_paEs_cons e r (peE k e) (paEs k r)
theorem poO (k : Ck) : ∀ e : Op1, SndO k e
  | .no => s_poO_no
  | .so e => s_poO_so e (peE k e)
theorem piS (k : Ck) : ∀ e : Src, SndS k e
  | .seq e => s_piS_seq e (peE k e)
  | .rng1 a => s_piS_rng1 a (peE k a)
  | .rng2 a b => s_piS_rng2 a b (peE k a) (peE k b)
  | .enum e => s_piS_enum e (peE k e)
  | .zip a b => s_piS_zip a b (peE k a) (peE k b)
end
end PyI
/-! PyI, part 10: statements, no syntax in sight. -/
namespace PyI
open PySem PySem.Spec PyProof.Rows L2
/-- what is wanted behind a statement that ends so -/
def EndS (c : Cc) (En : Ends) (o : Out) : Prop := match o with
  | .nx τ => ∀ own σ H, Sim c own τ σ H → En.nx σ H
  | .rt d => ∀ v H, Same c.H0 H → Rep c.K c.F0 H d v → En.rt v H
  | .bk τ => ∀ own σ H, Sim c own τ σ H → En.bk σ H
  | .ct τ => ∀ own σ H, Sim c own τ σ H → En.ct σ H
  | .exc x ds => ∀ own τ σ H, Sim c own τ σ H → ExW c σ H x ds
  | .bad => False
def rdSt (c : Cc) (fu : Nat) (s : S) : TS := fun En σ H => ∃ own τ, Sim c own τ σ H ∧ EndS c En (exS c.G c.Φ fu s τ)
def rdSs (c : Cc) (fu : Nat) (s : Ss) : TS := fun En σ H => ∃ own τ, Sim c own τ σ H ∧ EndS c En (exL c.G c.Φ fu s τ)
theorem psImp {X : Cx} {st : Stmt} {t t' : TS} (h : PS X st t) (i : ∀ D σ H, t' D σ H → t D σ H) : PS X st t' := ⟨fun pins s σ H D I q => h.run pins s σ H D I (i _ _ _ q)⟩
theorem pssImp {X : Cx} {st : List Stmt} {t t' : TS} (h : PSs X st t) (i : ∀ D σ H, t' D σ H → t D σ H) : PSs X st t' := ⟨fun pins s σ H D I q => h.run pins s σ H D I (i _ _ _ q)⟩
section
variable {c : Cc} {own : Nat → Option Addr} {τ : Env} {σ : L2.St} {H : Hp} {En : Ends} {fu : Nat}
/-- a result, then a way out -/
theorem out_post {α : Type} {r : Res α} {f : α → Out} (S : Sim c own τ σ H) (h : EndS c En (r.out f)) : Post r (fun a => EndS c En (f a)) (ExW c σ H) := by
  cases r with
  | ok a => exact h
  | exc x ds => exact h own τ σ H S
  | bad => exact h
theorem out_nx {α : Type} {r : Res α} {f : α → Out} (n : NoX r) (h : EndS c En (r.out f)) : ∃ a, r = .ok a ∧ EndS c En (f a) := by
  cases r with
  | ok a => exact ⟨a, rfl, h⟩
  | exc x ds => exact n.elim
  | bad => exact h.elim
/-! ### freezing -/
theorem freeze_len : ∀ (L : List Nat) (τ : Env), (freeze τ L).length = τ.length
  | [], _ => rfl
  | i :: r, τ => by
    have h : freeze τ (i :: r) = (match (freeze τ r)[i]? with
      | some (some (.o xs)) => (freeze τ r).set i (some (.v (.lst xs)))
      | _ => freeze τ r) := rfl
    rw [h]
    split
    · rw [List.length_set, freeze_len r τ]
    · exact freeze_len r τ
theorem freeze1 (S : Sim c own τ σ H) (i : Nat) : ∃ own', Sim c own' (match τ[i]? with
      | some (some (.o xs)) => τ.set i (some (.v (.lst xs)))
      | _ => τ) σ H ∧ (∀ L a, Fb c own' L a → Fb c own (i :: L) a) := by
  refine ⟨fun j => if j = i then none else own j, ?_, ?_⟩
  · have w : ∀ L a, Fb c (fun j => if j = i then none else own j) L a → Fb c own L a := fun L a z => z.imp id fun ⟨j, e, n⟩ => ⟨j, by
      have e' : (if j = i then none else own j) = some a := e
      by_cases q : j = i
      · rw [if_pos q] at e'; cases e'
      · rw [if_neg q] at e'; exact e', n⟩
    have base : (h : ¬ ∃ xs, τ[i]? = some (some (C.o xs))) → Sim c (fun j => if j = i then none else own j) τ σ H := fun h => {
      len := S.len
      val := fun j d e => let ⟨v, h1, h2⟩ := S.val j d e; ⟨v, h1, h2.weak (w [])⟩
      ows := fun j ds e => by
        obtain ⟨a, vs, h1, h2, h3, h4⟩ := S.ows j ds e
        refine ⟨a, vs, ?_, h2, h3, h4.weak (w [])⟩
        show (if j = i then none else own j) = some a
        rw [if_neg (fun q => h ⟨ds, by rw [← q]; exact e⟩)]
        exact h1
      inj := fun j j' a e1 e2 => by
        have e1' : (if j = i then none else own j) = some a := e1
        have e2' : (if j' = i then none else own j') = some a := e2
        by_cases q : j = i
        · rw [if_pos q] at e1'; cases e1'
        · by_cases q' : j' = i
          · rw [if_pos q'] at e2'; cases e2'
          · rw [if_neg q] at e1'; rw [if_neg q'] at e2'; exact S.inj j j' a e1' e2'
      al := fun j a e => by
        have e' : (if j = i then none else own j) = some a := e
        by_cases q : j = i
        · rw [if_pos q] at e'; cases e'
        · rw [if_neg q] at e'; exact S.al j a e'
      fin := by
        obtain ⟨n, hn⟩ := S.fin
        refine ⟨n, fun j hj => ?_⟩
        show (if j = i then none else own j) = none
        by_cases q : j = i
        · rw [if_pos q]
        · rw [if_neg q]; exact hn j hj
      f0 := S.f0
      same := S.same
      bs := ⟨S.bs.k, fun j a e => by
        have e' : (if j = i then none else own j) = some a := e
        by_cases q : j = i
        · rw [if_pos q] at e'; cases e'
        · rw [if_neg q] at e'; exact S.bs.n j a e', S.bs.f⟩ }
    split
    · rename_i xs e
      have hi : i < τ.length := (List.getElem?_eq_some_iff.mp e).1
      obtain ⟨a, vs, h1, h2, h3, h4⟩ := S.ows i xs e
      have na : ¬ Fb c (fun j => if j = i then none else own j) [] a := by
        rintro (z | ⟨j, e, _⟩)
        · exact S.f0 a z (S.al i a h1).1
        · have e' : (if j = i then none else own j) = some a := e
          by_cases q : j = i
          · rw [if_pos q] at e'; cases e'
          · rw [if_neg q] at e'; exact q (S.inj j i a e' h1)
      refine ⟨by rw [List.length_set]; exact S.len, fun j d e2 => ?_, fun j ds e2 => ?_, ?_, ?_, ?_, S.f0, S.same, S.bs.k, fun j a e => by
        have e' : (if j = i then none else own j) = some a := e
        by_cases q : j = i
        · rw [if_pos q] at e'; cases e'
        · rw [if_neg q] at e'; exact S.bs.n j a e', S.bs.f⟩
      · by_cases q : j = i
        · subst q
          rw [List.getElem?_set_self hi] at e2
          cases e2
          refine ⟨_, h2, a, vs, rfl, h3, na, h4.weak fun b z => ?_⟩
          rcases z with z | z
          · exact w [] b z
          · rw [z]; exact .inr ⟨j, h1, List.not_mem_nil⟩
        · rw [List.getElem?_set_ne (Ne.symm q)] at e2
          obtain ⟨v, q1, q2⟩ := S.val j d e2
          exact ⟨v, q1, q2.weak (w [])⟩
      · by_cases q : j = i
        · subst q
          rw [List.getElem?_set_self hi] at e2
          cases e2
        · rw [List.getElem?_set_ne (Ne.symm q)] at e2
          obtain ⟨b, us, q1, q2, q3, q4⟩ := S.ows j ds e2
          refine ⟨b, us, ?_, q2, q3, q4.weak (w [])⟩
          show (if j = i then none else own j) = some b
          rw [if_neg q]
          exact q1
      · intro j j' b e1 e2
        have e1' : (if j = i then none else own j) = some b := e1
        have e2' : (if j' = i then none else own j') = some b := e2
        by_cases q : j = i
        · rw [if_pos q] at e1'; cases e1'
        · by_cases q' : j' = i
          · rw [if_pos q'] at e2'; cases e2'
          · rw [if_neg q] at e1'; rw [if_neg q'] at e2'; exact S.inj j j' b e1' e2'
      · intro j b e
        have e' : (if j = i then none else own j) = some b := e
        by_cases q : j = i
        · rw [if_pos q] at e'; cases e'
        · rw [if_neg q] at e'; exact S.al j b e'
      · obtain ⟨n, hn⟩ := S.fin
        refine ⟨n, fun j hj => ?_⟩
        show (if j = i then none else own j) = none
        by_cases q : j = i
        · rw [if_pos q]
        · rw [if_neg q]; exact hn j hj
    · rename_i hno
      exact base fun ⟨xs, z⟩ => hno xs z
  · intro L a z
    rcases z with z | ⟨j, e, n⟩
    · exact .inl z
    · have e' : (if j = i then none else own j) = some a := e
      by_cases q : j = i
      · rw [if_pos q] at e'; cases e'
      · rw [if_neg q] at e'
        exact .inr ⟨j, e', fun m => (List.mem_cons.mp m).elim q n⟩
theorem Sim.freeze (S : Sim c own τ σ H) : ∀ L : List Nat, ∃ own', Sim c own' (PyI.freeze τ L) σ H ∧ ∀ a, Fb c own' [] a → Fb c own L a := by
  have key : ∀ L : List Nat, ∃ own', Sim c own' (PyI.freeze τ L) σ H ∧ ∀ L' a, Fb c own' L' a → Fb c own (L ++ L') a := by
    intro L
    induction L with
    | nil => exact ⟨own, S, fun _ _ z => z⟩
    | cons i r ih =>
      obtain ⟨own1, S1, w1⟩ := ih
      obtain ⟨own2, S2, w2⟩ := freeze1 S1 i
      refine ⟨own2, S2, fun L' a z => ?_⟩
      exact Fb.mono (fun j m => by simp at m ⊢; rcases m with m | m | m <;> simp [m]) a (w1 (i :: L') a (w2 L' a z))
  intro L
  obtain ⟨own', S', w⟩ := key L
  exact ⟨own', S', fun a z => by have := w [] a z; rwa [List.append_nil] at this⟩
/-- a value is kept: it is stored, and the lists that it may hold are frozen -/
theorem Sim.keepL {d : D} {v : V} {L1 L2 : List Nat} (S : Sim c own τ σ H) (r : RepT c.K (Fb c own L1) (Fb c own L2) H d v) : ∃ own', Sim c own' (PyI.keepL τ d (L1 ++ L2)) σ H ∧ Rep c.K (Fb c own' []) H d v := by
  unfold PyI.keepL
  by_cases h : d.still = true
  · rw [if_pos h]
    exact ⟨own, S, r.still_any h⟩
  · rw [if_neg h]
    obtain ⟨own', S', w⟩ := S.freeze (L1 ++ L2)
    exact ⟨own', S', (r.weak (fun a z => appL a (w a z)) (fun a z => appR a (w a z))).rep⟩
/-- a new list becomes the def's own -/
theorem Sim.owns {H' : Hp} {i : Nat} {a : Addr} {ds : List D} {vs : List V} (S : Sim c own τ σ H) (s : Same H H') (ha : H a = none) (ha' : H' a = some (.lst vs)) (hi : i < τ.length)
    (r : RepL c.K (fun b => Fb c own [] b ∨ b = a) H' ds vs) : ∃ own', Sim c own' (τ.set i (some (.o ds))) (σ.set i (some (.ref a))) H' := by
  have na : ∀ j, own j ≠ some a := fun j e => (S.al j a e).2 ha
  have w : ∀ b, Fb c (fun j => if j = i then some a else own j) [] b → Fb c own [] b ∨ b = a := fun b z => by
    rcases z with z | ⟨j, e, n⟩
    · exact .inl (.inl z)
    · have e' : (if j = i then some a else own j) = some b := e
      by_cases q : j = i
      · rw [if_pos q] at e'; exact .inr (Option.some.inj e').symm
      · rw [if_neg q] at e'; exact .inl (.inr ⟨j, e', n⟩)
  refine ⟨fun j => if j = i then some a else own j, by rw [List.length_set, List.length_set]; exact S.len, fun j d e => ?_, fun j es e => ?_, fun j j' b e1 e2 => ?_, fun j b e => ?_, ?_, S.f0, S.same.trans s, (S.bs.mono s).k, fun j b e => by
    have e' : (if j = i then some a else own j) = some b := e
    by_cases q : j = i
    · rw [if_pos q] at e'
      cases e'
      exact S.bs.new ha
    · rw [if_neg q] at e'
      exact S.bs.n j b e', S.bs.f⟩
  · by_cases q : j = i
    · subst q
      rw [List.getElem?_set_self hi] at e
      cases e
    · rw [List.getElem?_set_ne (Ne.symm q)] at e
      obtain ⟨v, h1, h2⟩ := S.val j d e
      refine ⟨v, by rw [List.getElem?_set_ne (Ne.symm q)]; exact h1, ?_⟩
      exact ((RepF.older (Y := fun b => b = a) (fun b z => by rw [z]; exact ha) d v h2).weak w).same s
  · by_cases q : j = i
    · subst q
      rw [List.getElem?_set_self hi] at e
      cases e
      exact ⟨a, vs, if_pos rfl, List.getElem?_set_self (by rw [← S.len]; exact hi), ha', r.weak w⟩
    · rw [List.getElem?_set_ne (Ne.symm q)] at e
      obtain ⟨b, us, h1, h2, h3, h4⟩ := S.ows j es e
      refine ⟨b, us, ?_, by rw [List.getElem?_set_ne (Ne.symm q)]; exact h2, s _ _ h3, ((RepFL.older (Y := fun b => b = a) (fun b z => by rw [z]; exact ha) es us h4).weak w).same s⟩
      show (if j = i then some a else own j) = some b
      rw [if_neg q]
      exact h1
  · have e1' : (if j = i then some a else own j) = some b := e1
    have e2' : (if j' = i then some a else own j') = some b := e2
    by_cases q : j = i
    · by_cases q' : j' = i
      · rw [q, q']
      · rw [if_pos q] at e1'; rw [if_neg q'] at e2'; cases e1'; exact absurd e2' (na j')
    · by_cases q' : j' = i
      · rw [if_neg q] at e1'; rw [if_pos q'] at e2'; cases e2'; exact absurd e1' (na j)
      · rw [if_neg q] at e1'; rw [if_neg q'] at e2'; exact S.inj j j' b e1' e2'
  · have e' : (if j = i then some a else own j) = some b := e
    by_cases q : j = i
    · rw [if_pos q] at e'
      cases e'
      refine ⟨?_, by rw [ha']; exact fun z => nomatch z⟩
      cases z : c.H0 a with
      | none => rfl
      | some o => have := S.same _ _ z; rw [ha] at this; cases this
    · rw [if_neg q] at e'
      exact ⟨(S.al j b e').1, fun n => (S.al j b e').2 (s.free n)⟩
  · obtain ⟨n, hn⟩ := S.fin
    refine ⟨max n (i + 1), fun j hj => ?_⟩
    show (if j = i then some a else own j) = none
    rw [if_neg (by omega)]
    exact hn j (by omega)
/-- a list of the def's own is changed -/
theorem Sim.change {i : Nat} {a : Addr} {ds es : List D} {vs us : List V} (S : Sim c own τ σ H) (e : τ[i]? = some (some (.o ds))) (ho : own i = some a) (hH : H a = some (.lst vs)) (r : RepL c.K (Fb c own []) H es us) :
    Sim c own (τ.set i (some (.o es))) σ (upd H a (.lst us)) := by
  have hi : i < τ.length := (List.getElem?_eq_some_iff.mp e).1
  have Fa : Fb c own [] a := .inr ⟨i, ho, List.not_mem_nil⟩
  have k : Kept (Fb c own []) H (upd H a (.lst us)) := kept_upd Fa ⟨vs, hH⟩
  obtain ⟨a', vs', h1, h2, h3, h4⟩ := S.ows i ds e
  rw [ho] at h1
  cases h1
  refine ⟨by rw [List.length_set]; exact S.len, fun j d e2 => ?_, fun j es' e2 => ?_, S.inj, fun j b e2 => ?_, S.fin, S.f0, fun b o eb => ?_, fun b o eb nb => ?_, S.bs.n, S.bs.f⟩
  · by_cases q : j = i
    · subst q
      rw [List.getElem?_set_self hi] at e2
      cases e2
    · rw [List.getElem?_set_ne (Ne.symm q)] at e2
      obtain ⟨v, q1, q2⟩ := S.val j d e2
      exact ⟨v, q1, RepF.kept d v k (fun _ z => z) q2⟩
  · by_cases q : j = i
    · subst q
      rw [List.getElem?_set_self hi] at e2
      cases e2
      exact ⟨a, us, ho, h2, upd_same, RepFL.kept es us k (fun _ z => z) r⟩
    · rw [List.getElem?_set_ne (Ne.symm q)] at e2
      obtain ⟨b, ws, q1, q2, q3, q4⟩ := S.ows j es' e2
      have nb : b ≠ a := fun z => q (S.inj j i a (by rw [← z]; exact q1) ho)
      exact ⟨b, ws, q1, q2, by rw [upd_ne nb]; exact q3, RepFL.kept es' ws k (fun _ z => z) q4⟩
  · refine ⟨(S.al j b e2).1, fun z => ?_⟩
    by_cases q : b = a
    · rw [q, upd_same] at z; cases z
    · rw [upd_ne q] at z; exact (S.al j b e2).2 z
  · have nb : b ≠ a := fun z => by
      have := (S.al i a ho).1
      rw [← z, eb] at this
      cases this
    rw [upd_ne nb]
    exact S.same b o eb
  · by_cases q : b = a
    · subst q
      have hb := S.bs.k b o eb nb
      rw [hH] at hb
      cases hb
      refine (nb.elim (fun z => z ?_) fun z => z ⟨vs, rfl⟩).elim
      rcases S.bs.n i b ho with z | z
      · exact z
      · rw [eb] at z; cases z
    · rw [upd_ne q]
      exact S.bs.k b o eb nb
end
end PyI
/-! PyI, part 11: statements, the readings. -/
namespace PyI
open PySem PySem.Spec PyProof.Rows L2
section
variable {c : Cc} {own : Nat → Option Addr} {τ : Env} {σ : L2.St} {H H' : Hp} {En : Ends} {fu : Nat}
theorem Sim.setE {i : Nat} {e : E} {d : D} {v : V} {τ' : Env} (S : Sim c own τ σ H) (s : Same H H') (r : RepT c.K (Ft c own e H) (Fb c own (li e)) H' d v) (h : PyI.setE τ i e d = .ok τ') : ∃ own', Sim c own' τ' (σ.set i (some v)) H' := by
  unfold PyI.setE at h
  by_cases hi : i < τ.length
  · rw [if_pos hi] at h
    have gen : Res.ok ((PyI.keepL τ d (lt e ++ li e)).set i (some (.v d))) = Res.ok τ' → ∃ own', Sim c own' τ' (σ.set i (some v)) H' := fun h => by
      cases h
      obtain ⟨own', S', r'⟩ := (S.mono s).keepL (r.weak (fun a z => ft_l a z) fun _ z => z)
      exact ⟨own', S'.setV r' (by unfold PyI.keepL; split; exact hi; rw [freeze_len]; exact hi)⟩
    cases hf : fresh e with
    | false =>
      rw [hf] at h
      exact gen h
    | true =>
      rw [hf] at h
      cases d with
      | lst ds =>
        have h : Res.ok ((PyI.freeze τ (li e)).set i (some (.o ds))) = Res.ok τ' := h
        cases h
        obtain ⟨a, vs, rfl, ha, na, rl⟩ := r
        have hn : H a = none := by
          cases z : H a with
          | none => rfl
          | some o => exact (na (.inr ⟨hf, by rw [z]; exact fun q => nomatch q⟩)).elim
        obtain ⟨own1, S1, w⟩ := S.freeze (li e)
        exact S1.owns s hn ha (by rw [freeze_len]; exact hi) (rl.weak fun b z => z.imp (w b) id)
      | _ => exact gen h
  · rw [if_neg hi] at h
    cases h
theorem nx_setE {τ : Env} {i : Nat} {e : E} {d : D} : NoX (PyI.setE τ i e d) := by
  unfold PyI.setE
  split
  · split <;> trivial
  · trivial
theorem nx_ownL {τ : Env} {i : Nat} : NoX (PyI.ownL τ i) := by
  unfold PyI.ownL
  split <;> trivial
theorem ownL_ok {i : Nat} {xs : List D} (h : PyI.ownL τ i = .ok xs) : τ[i]? = some (some (.o xs)) := by
  unfold PyI.ownL at h
  split at h
  · rename_i ys e
    cases h
    exact e
  · cases h
theorem ls_set {i : Nat} {e : E} (h : rdSt c fu (.set i e) En σ H) : tAsg (rdE c e) (gName i) En σ H := by
  obtain ⟨own, τ, S, h⟩ := h
  refine ⟨own, τ, S, (out_post S h).imp (fun d _ h v H1 s r => ?_) fun _ _ x => x⟩
  obtain ⟨τ', e', h⟩ := out_nx nx_setE h
  obtain ⟨own', S'⟩ := S.setE s r e'
  exact h own' _ H1 S'
theorem ls_setT {ts : List Tg} {e : E} (h : rdSt c fu (.setT ts e) En σ H) : tAsg (rdE c e) (tgG c.K (.tup ts)) En σ H := by
  obtain ⟨own, τ, S, h⟩ := h
  refine ⟨own, τ, S, (out_post S h).imp (fun d _ h v H1 s r => ?_) fun _ _ x => x⟩
  obtain ⟨τ', e', h⟩ := out_nx (nx_asg _ _ _) h
  obtain ⟨own', S', r'⟩ := (S.mono s).keepL (r.weak (fun a z => ft_l a z) fun _ z => z)
  exact asg_run (.tup ts) d v _ τ' σ En.nx S' r' e' fun σ' S2 _ => h own' _ H1 S2
theorem ls_ret {e : E} (h : rdSt c fu (.ret e) En σ H) : tRet (rdE c e) En σ H := by
  obtain ⟨own, τ, S, h⟩ := h
  refine ⟨own, τ, S, (out_post S h).imp (fun d _ h v H1 s r => ?_) fun _ _ x => x⟩
  exact h v H1 (S.same.trans s) (r.weak (fun a z => .inl (.inl z)) fun a z => .inl z).rep
theorem ls_retN (h : rdSt c fu .retN En σ H) : tRetN En σ H := by
  obtain ⟨own, τ, S, h⟩ := h
  exact h .non H S.same rfl
theorem ls_exp {e : E} (h : rdSt c fu (.exp e) En σ H) : tDrop (rdE c e) En σ H := by
  obtain ⟨own, τ, S, h⟩ := h
  exact ⟨own, τ, S, (out_post S h).imp (fun d _ h v H1 s r => h own σ H1 (S.mono s)) fun _ _ x => x⟩
theorem ls_nx {s : S} (hs : ∀ τ, exS c.G c.Φ fu s τ = .nx τ) (h : rdSt c fu s En σ H) : En.nx σ H := by
  obtain ⟨own, τ, S, h⟩ := h
  rw [hs] at h
  exact h own σ H S
theorem ls_aug {i : Nat} {o : Op} {e : E} (h : rdSt c fu (.aug i o e) En σ H) : (o = .add → tAug i (rdE c e) (ipI fun i j => i + j) En σ H) ∧ (o = .sub → tAug i (rdE c e) (ipI fun i j => i - j) En σ H) := by
  obtain ⟨own, τ, S, h⟩ := h
  have h : EndS c En ((getV τ i).out fun x => (ev c.G c.Φ e τ).out fun y => (match (generalizing := false) o, x, y with
    | .add, .int a, .int b => .nx (τ.set i (some (.v (.int (a + b)))))
    | .sub, .int a, .int b => .nx (τ.set i (some (.v (.int (a - b)))))
    | _, _, _ => .bad)) := h
  obtain ⟨x, ex, h⟩ := out_nx (nx_getV τ i) h
  obtain ⟨v, hv, r⟩ := S.get ex
  have hi : i < τ.length := by
    have := (List.getElem?_eq_some_iff.mp hv).1
    rw [S.len]; exact this
  constructor
  · intro e'
    subst e'
    refine ⟨v, hv, own, τ, S, (out_post S h).imp (fun y _ h w H1 s r1 => ?_) fun _ _ x => x⟩
    cases x with
    | int a =>
      cases y with
      | int b => exact ⟨a, b, r, r1, h own _ H1 ((S.mono s).setV rfl hi)⟩
      | _ => exact h.elim
    | _ => exact h.elim
  · intro e'
    subst e'
    refine ⟨v, hv, own, τ, S, (out_post S h).imp (fun y _ h w H1 s r1 => ?_) fun _ _ x => x⟩
    cases x with
    | int a =>
      cases y with
      | int b => exact ⟨a, b, r, r1, h own _ H1 ((S.mono s).setV rfl hi)⟩
      | _ => exact h.elim
    | _ => exact h.elim
/-- a list of the def's own, read by its name -/
theorem Sim.at {i : Nat} {xs : List D} (S : Sim c own τ σ H) (e : τ[i]? = some (some (.o xs))) : ∃ a vs, own i = some a ∧ σ[i]? = some (some (.ref a)) ∧ H a = some (.lst vs) ∧ RepL c.K (Fb c own []) H xs vs := S.ows i xs e
theorem ls_app {i : Nat} {e : E} (h : rdSt c fu (.app i e) En σ H) : tDrop (tBM c.K "list" rAppend (tVar i) (tCons (rdE c e) tNil)) En σ H := by
  obtain ⟨own, τ, S, h⟩ := h
  obtain ⟨xs0, hx0, h⟩ := out_nx nx_ownL (show EndS c En ((ownL τ i).out fun _ => (ev c.G c.Φ e τ).out fun d => (ownL (PyI.keepL τ d (lt e ++ li e)) i).out fun xs => if xs.length < sizeLine then .nx ((PyI.keepL τ d (lt e ++ li e)).set i (some (.o (xs ++ [d])))) else .bad) from h)
  obtain ⟨a, vs, h1, h2, h3, _⟩ := S.ows i xs0 (ownL_ok hx0)
  refine ⟨.ref a, h2, .inl ⟨rfl, vs, .inl (.inl h3)⟩, own, τ, S, (out_post S h).imp (fun d _ p v H1 s r => ?_) fun _ _ x => x⟩
  obtain ⟨xs, hx, p⟩ := out_nx nx_ownL p
  obtain ⟨own', S', r'⟩ := (S.mono s).keepL (r.weak (fun a z => ft_l a z) fun _ z => z)
  have q := ownL_ok hx
  obtain ⟨a', vs', g1, g2, g3, g4⟩ := S'.ows i xs q
  rw [h2] at g2
  cases g2
  by_cases hl : xs.length < sizeLine
  · rw [if_pos hl] at p
    refine ⟨a, vs', v, rfl, rfl, g3, by rw [← g4.length]; exact hl, ?_⟩
    exact p own' _ _ (S'.change q g1 g3 (g4.append (RepFL.one r')))
  · rw [if_neg hl] at p
    exact p.elim
theorem nx_lstD {d : D} : NoX (lstD d) := by cases d <;> trivial
theorem ls_ext {i : Nat} {e : E} (h : rdSt c fu (.ext i e) En σ H) : tDrop (tBM c.K "list" rExtend (tVar i) (tCons (rdE c e) tNil)) En σ H := by
  obtain ⟨own, τ, S, h⟩ := h
  obtain ⟨xs0, hx0, h⟩ := out_nx nx_ownL (show EndS c En ((ownL τ i).out fun _ => (ev c.G c.Φ e τ).out fun d => (lstD d).out fun ds => (ownL (PyI.freeze τ (li e)) i).out fun xs => if xs.length + ds.length ≤ sizeLine then .nx ((PyI.freeze τ (li e)).set i (some (.o (xs ++ ds)))) else .bad) from h)
  obtain ⟨a, vs, h1, h2, h3, _⟩ := S.ows i xs0 (ownL_ok hx0)
  refine ⟨.ref a, h2, .inl ⟨rfl, vs, .inl (.inl h3)⟩, own, τ, S, (out_post S h).imp (fun d _ p v H1 s r => ?_) fun _ _ x => x⟩
  obtain ⟨ds, hd, p1⟩ := out_nx nx_lstD p
  obtain ⟨xs, hx, p2⟩ := out_nx nx_ownL p1
  clear p p1
  have hd' : d = .lst ds := by cases d <;> first | cases hd; rfl | cases hd
  subst hd'
  obtain ⟨b, ws, rfl, hb, nb, rl⟩ := r
  obtain ⟨own', S', w⟩ := (S.mono s).freeze (li e)
  have q := ownL_ok hx
  obtain ⟨a', vs', g1, g2, g3, g4⟩ := S'.ows i xs q
  rw [h2] at g2
  cases g2
  by_cases hl : xs.length + ds.length ≤ sizeLine
  · rw [if_pos hl] at p2
    refine ⟨a, b, vs', ws, rfl, rfl, g3, hb, by rw [← g4.length, ← rl.length]; exact hl, ?_⟩
    have r' : RepL c.K (Fb c own' []) H1 ds ws := rl.weak fun x z => .inl (w x z)
    exact p2 own' _ _ (S'.change q g1 g3 (g4.append r'))
  · rw [if_neg hl] at p2
    exact p2.elim
theorem ls_setIx {i : Nat} {k e : E} (h : rdSt c fu (.setIx i k e) En σ H) : tAsg (rdE c e) (gSub (tVar i) (rdE c k) rSetL) En σ H := by
  obtain ⟨own, τ, S, h⟩ := h
  refine ⟨own, τ, S, (out_post S (show EndS c En ((ev c.G c.Φ e τ).out fun d => (ownL τ i).out fun _ => (ev c.G c.Φ k τ >>= intD).out fun n => (ownL (PyI.keepL τ d (lt e ++ li e)) i).out fun xs => (match (generalizing := false) ixN xs.length n with
    | some j => .nx ((PyI.keepL τ d (lt e ++ li e)).set i (some (.o (xs.set j d))))
    | none => .bad)) from h)).imp (fun d _ h v H1 s r => ?_) fun _ _ x => x⟩
  obtain ⟨xs0, hx0, h⟩ := out_nx nx_ownL h
  have S1 := S.mono s
  obtain ⟨a, vs, h1, h2, h3, _⟩ := S1.ows i xs0 (ownL_ok hx0)
  refine ⟨.ref a, h2, own, τ, S1, (out_post S1 h).bind.imp (fun y _ h w H2 s2 r2 => ?_) fun _ _ x => x⟩
  obtain ⟨n, hn⟩ : ∃ n, y = .int n := by cases y <;> first | exact ⟨_, rfl⟩ | exact h.elim
  subst hn
  obtain ⟨xs, hx, p⟩ := out_nx nx_ownL (show EndS c En ((ownL (PyI.keepL τ d (lt e ++ li e)) i).out fun xs => (match (generalizing := false) ixN xs.length n with
    | some j => .nx ((PyI.keepL τ d (lt e ++ li e)).set i (some (.o (xs.set j d))))
    | none => .bad)) from h)
  obtain ⟨own', S', r'⟩ := (S1.mono s2).keepL ((r.same s2).weak (fun a z => ft_l a z) fun _ z => z)
  have q := ownL_ok hx
  obtain ⟨a', vs', g1, g2, g3, g4⟩ := S'.ows i xs q
  rw [h2] at g2
  cases g2
  cases hj : ixN xs.length n with
  | none => rw [hj] at p; exact p.elim
  | some j =>
    rw [hj] at p
    refine ⟨a, vs', n, j, rfl, r2, g3, by rw [← g4.length]; exact hj, ?_⟩
    exact p own' _ _ (S'.change q g1 g3 (g4.set j r'))
theorem ls_ife {e : E} {a b : Ss} (h : rdSt c fu (.ife e a b) En σ H) : tIfS (rdT c e) (rdSs c fu a) (rdSs c fu b) En σ H := by
  obtain ⟨own, τ, S, h⟩ := h
  refine ⟨own, τ, S, (out_post S h).imp (fun k _ h H1 s => ?_) fun _ _ x => x⟩
  cases k with
  | true => exact ⟨own, τ, S.mono s, h⟩
  | false => exact ⟨own, τ, S.mono s, h⟩
theorem ls_wh {e : E} {b : Ss} (h : rdSt c fu (.wh e b) En σ H) : tWhile (rdT c e) (rdSs c fu b) En σ H := by
  obtain ⟨own, τ, S, h⟩ := h
  refine ⟨fun m σ H => ∃ own τ, Sim c own τ σ H ∧ EndS c En (whL (ev c.G c.Φ e) (exL c.G c.Φ fu b) m τ), ⟨fu, own, τ, S, h⟩, fun m σ H ⟨own, τ, S, h⟩ => ?_⟩
  cases m with
  | zero => exact h.elim
  | succ m =>
    refine ⟨own, τ, S, (out_post S h).imp (fun k _ h H1 s => ?_) fun _ _ x => x⟩
    cases k with
    | false => exact h own σ H1 (S.mono s)
    | true =>
      have h : EndS c En (match (generalizing := false) exL c.G c.Φ fu b τ with
        | .nx σ2 => whL (ev c.G c.Φ e) (exL c.G c.Φ fu b) m σ2
        | .ct σ2 => whL (ev c.G c.Φ e) (exL c.G c.Φ fu b) m σ2
        | .bk σ2 => .nx σ2
        | o => o) := h
      refine ⟨fun σ H => ∃ own τ, Sim c own τ σ H ∧ EndS c En (whL (ev c.G c.Φ e) (exL c.G c.Φ fu b) m τ), fun σ' H' q => ⟨m, Nat.lt_succ_self m, q⟩, own, τ, S.mono s, ?_⟩
      cases z : exL c.G c.Φ fu b τ with
      | nx σ2 => rw [z] at h; exact fun own σ H S => ⟨own, σ2, S, h⟩
      | ct σ2 => rw [z] at h; exact fun own σ H S => ⟨own, σ2, S, h⟩
      | bk σ2 => rw [z] at h; exact h
      | rt d => rw [z] at h; exact h
      | exc x ds => rw [z] at h; exact h
      | bad => rw [z] at h; exact h
theorem ls_nil (h : rdSs c fu .nil En σ H) : tNext En σ H := by
  obtain ⟨own, τ, S, h⟩ := h
  exact h own σ H S
theorem ls_cons {s : S} {r : Ss} (h : rdSs c fu (.cons s r) En σ H) : tSeq (rdSt c fu s) (rdSs c fu r) En σ H := by
  obtain ⟨own, τ, S, h⟩ := h
  have h : EndS c En (match (generalizing := false) exS c.G c.Φ fu s τ with
    | .nx σ1 => exL c.G c.Φ fu r σ1
    | o => o) := h
  refine ⟨own, τ, S, ?_⟩
  cases z : exS c.G c.Φ fu s τ with
  | nx σ2 => rw [z] at h; exact fun own σ H S => ⟨own, σ2, S, h⟩
  | ct σ2 => rw [z] at h; exact h
  | bk σ2 => rw [z] at h; exact h
  | rt d => rw [z] at h; exact h
  | exc x ds => rw [z] at h; exact h
  | bad => rw [z] at h; exact h
/-! ### for -/
abbrev Cc.at (c : Cc) (B : Addr → Prop) (HB : Hp) : Cc := { c with B := B, HB := HB }
theorem Kept.trans {F F2 : Addr → Prop} {H1 H2 H3 : Hp} (k : Kept F H1 H2) (k2 : Kept F2 H2 H3) (n : ∀ a, F2 a → F a ∨ H1 a = none) : Kept F H1 H3 := fun a o e z => k2 a o (k a o e z) (z.imp (fun f f2 => (n a f2).elim f fun q => by rw [e] at q; cases q) id)
theorem Sim.rebase {B : Addr → Prop} {HB : Hp} (S : Sim (c.at B HB) own τ σ H) (k : Kept c.B c.HB HB) (n : ∀ a, B a → c.B a ∨ c.HB a = none) (f : ∀ a, c.F0 a → c.B a) (hn : ∀ a, HB a = none → c.B a ∨ c.HB a = none) : Sim c own τ σ H :=
  ⟨S.len, S.val, S.ows, S.inj, S.al, S.fin, S.f0, S.same, k.trans S.bs.k n, fun i a e => (S.bs.n i a e).elim (n a) (hn a), f⟩
theorem Sim.base {B : Addr → Prop} (S : Sim c own τ σ H) (n : ∀ a, Fb c own [] a → B a) : Sim (c.at B H) own τ σ H :=
  ⟨S.len, S.val, S.ows, S.inj, S.al, S.fin, S.f0, S.same, same_kept (Same.refl H), fun i a e => .inl (n a (.inr ⟨i, e, List.not_mem_nil⟩)), fun a z => n a (.inl z)⟩
theorem bs_none (S : Bs c own H) {a : Addr} (h : H a = none) : c.B a ∨ c.HB a = none := S.new h
theorem ls_fr {tg : Tg} {src : Src} {b : Ss} (h : rdSt c fu (.fr tg src b) En σ H) : tFor (rdS c src) (tgG c.K tg) (fun En σ H => ∃ (B : Addr → Prop) (HB : Hp), rdSs (c.at B HB) fu b En σ H) En σ H := by
  obtain ⟨own, τ, S, h⟩ := h
  refine ⟨own, τ, S, (out_post S h).imp (fun items _ h J H1 s it => ?_) fun _ _ x => x⟩
  obtain ⟨own1, S1, w⟩ := (S.mono s).freeze (ltS src ++ liS src)
  -- the base of the walk
  have W0 : ∀ a, Fb c own1 [] a → Fb c own (ltS src ++ liS src) a := w
  refine ⟨fun i m σ' H' => m + i = items.length ∧ ∃ own' τ', Sim (c.at (Fb c own1 []) H1) own' τ' σ' H' ∧ EndS c En (forL (asg tg) (exL c.G c.Φ fu b) (items.drop i) τ'), ⟨items.length, rfl, own1, _, S1.base fun _ z => z, h⟩, fun i m σ' H' ⟨hm, own', τ', S', h'⟩ => ?_⟩
  have back : ∀ {own2 τ2 σ2 H2}, Sim (c.at (Fb c own1 []) H1) own2 τ2 σ2 H2 → Sim c own2 τ2 σ2 H2 := fun S2 => S2.rebase S1.bs.k (fun a z => z.elim (fun z => .inl (S1.bs.f a z)) fun ⟨j, e, _⟩ => S1.bs.n j a e) S1.bs.f fun a z => S1.bs.new z
  have kp : Kept (Fb c own (ltS src ++ liS src)) H1 H' := Kept.more S'.bs.k W0
  have fb : ∀ a, Fb c own' [] a → Fb c own (liS src) a ∨ H1 a = none := fun a z => by
    rcases z with z | ⟨j, e, _⟩
    · exact .inl (.inl z)
    · exact (S'.bs.n j a e).elim (fun z => .inl (appR a (w a z))) .inr
  obtain ⟨it1, it2⟩ := it (fun a => H1 a = none) (fun _ z => z) H' kp
  cases hd : items[i]? with
  | none =>
    have : items.length ≤ i := List.getElem?_eq_none_iff.mp hd
    refine .inl ⟨it2 i this, ?_⟩
    rw [List.drop_eq_nil_of_le this] at h'
    exact h' own' σ' H' (back S')
  | some d =>
    obtain ⟨hi, hdd⟩ := List.getElem?_eq_some_iff.mp hd
    obtain ⟨g1, g2⟩ := it1 i d hd
    rw [List.drop_eq_getElem_cons hi, hdd] at h'
    obtain ⟨τ1, ha, h'⟩ := out_nx (nx_asg _ _ _) (show EndS c En ((asg tg d τ').out fun σ1 => match (generalizing := false) exL c.G c.Φ fu b σ1 with
      | .nx σ2 => forL (asg tg) (exL c.G c.Φ fu b) (items.drop (i + 1)) σ2
      | .ct σ2 => forL (asg tg) (exL c.G c.Φ fu b) (items.drop (i + 1)) σ2
      | .bk σ2 => .nx σ2
      | o => o) from h')
    refine .inr ⟨g1, fun σ2 H2 => (m - 1) + (i + 1) = items.length ∧ ∃ own2 τ2, Sim (c.at (Fb c own1 []) H1) own2 τ2 σ2 H2 ∧ EndS c En (forL (asg tg) (exL c.G c.Φ fu b) (items.drop (i + 1)) τ2), fun σ2 H2 q => ⟨m - 1, by omega, q⟩, fun x H2 y => ?_⟩
    obtain ⟨s2, rx⟩ := g2 x H2 y
    have rx' : Rep c.K (Fb c own' []) H2 d x := rx.weak fb
    refine asg_run (c := c.at (Fb c own1 []) H1) tg d x τ' τ1 σ' _ (S'.mono s2) rx' ha fun σ3 S3 _ => ⟨Fb c own1 [], H1, own', τ1, S3, ?_⟩
    have hmi : (m - 1) + (i + 1) = items.length := by omega
    cases z : exL c.G c.Φ fu b τ1 with
    | nx σ2 => rw [z] at h'; exact fun own σ H S => ⟨hmi, own, σ2, S, h'⟩
    | ct σ2 => rw [z] at h'; exact fun own σ H S => ⟨hmi, own, σ2, S, h'⟩
    | bk σ2 => rw [z] at h'; exact fun own σ H S => h' own σ H (back S)
    | rt d => rw [z] at h'; exact h'
    | exc x ds => rw [z] at h'; exact fun own τ σ H S => h' own τ σ H (back S)
    | bad => rw [z] at h'; exact h'.elim
end
end PyI
/-! PyI, part 17: an own exception that says super().__init__('..') and stores its arguments. -/
namespace PyI
open PySem PySem.Spec PyProof.Rows L2 NdefX
/-- what the written part says of the class at C and of its __init__ F at f -/
structure XcF (K : PySem.W.Frag) (prog : Program) (C f cc : Addr) (F : NF) : Prop where
  T : OexC K C
  cl : F.cl = [(("__class__" : Str), cc)]
  fn : ∃ (oc : Value) (od : Option Addr) (dV kV doc pm ctv : Value) (an : Option Addr) (osl : Array (Option Value)), K.lookup f = some ⟨oc, od, .func (PySem.W.fnX F.name F.qual F.params F.body F.scope F.cl dV kV doc pm an (.ref F.c) ctv), osl⟩
  code : PySem.W.codeIn K (.ref F.c) F.qual = true
  file : ∃ (ccl : Value) (cdd : Option Addr) (vs : Array Value) (ccs : Array (Option Value)) (fl : Str) (tf : Tok), K.lookup F.c = some ⟨ccl, cdd, .fields vs, ccs⟩ ∧ vs[2]? = some (.str fl tf) ∧ ((prog.main.file : Str) == fl) = true
  top : (prog.main.scope.names.lookup ("super" : Str)).isSome = false
  cell : ∃ (a : Value) (b : Option Addr) (e : Array (Option Value)), K.lookup cc = some ⟨a, b, .cell (some (.ref C)), e⟩
  cls : ∃ cd l, PySem.W.clsIn K C = some cd ∧ cd.mro = l ∧ PySem.W.alongIn K "__init__" ((l.dropWhile (· != .ref C)).drop 1) = some (some (.builtin "ValueError.__init__"))
  me : PySem.W.mroIn K C (.ref C) = some true
  ve : PySem.W.mroIn K C (.type "ValueError") = some true
  st : PySem.W.nsIn K cStatics "thirdparty.any" = some none
  sup : F.scope.names.lookup ("super" : Str) = some .globalImplicit
  kcl : F.scope.names.lookup ("__class__" : Str) = some .free
  kind : F.scope.kind = .function
theorem meth_at {prog : Program} {w : World} {A : Around} {c : Code} {o : Expr} {name : Str} {p2 p4 : Pos} {e : Expr} {env : PySem.Env} {Q : Value → Shared → Prop} {E : Value → Shared → Prop} {s : Shared} (hn : notStar e = true) (hl : (p2.endLine == p4.line) = true)
    (h : PySem.wpAt (model prog w) A c (attributeBase o name env (eval o env)) (fun ov s1 => wpAny (model prog w) A (calleeOf true o env ov name) (fun fx s2 => wpAny (model prog w) A (callWith p4 fx.1 fx.2 (backTo p4 (starEach [e] env)) []) Q E s2) E s1) E s) :
    PySem.wpAt (model prog w) A c (eval (.Call (.Attribute o name p2) [e] [] p4) env) Q E s := by
  have hform : methodCallForm ([e].length + ([] : List Keyword).length) (backTo p4 (starEach [e] env)) (backToKw p4 (keywordEach [] env)) = true := by rw [star_ok hn]; rfl
  have hpos : methodCallPos true o env p2 p4 = pure p4 := by unfold methodCallPos; simp [hl]
  rw [arm_eval_Call]
  refine PySem.wpAt_bind (PySem.wpAt_mono h (fun ov s1 h1 => PySem.wpAt_of_wpAny (wpAny_bind (wpAny_standAt ?_))) fun _ _ x => x)
  unfold methodCall
  rw [hform]
  exact wpAny_bind (wpAny_holding (wpAny_mono h1 (fun fx s2 h2 => wpAny_bind (wpAny_of_eq hpos h2)) fun _ _ x => x))
/-- the wrapper called: the exception's arguments are laid anew -/
theorem mw_call {prog : Program} {w : World} {A : Around} {E : Value → Shared → Prop} {h : Heap} {g : Array GenState} {d : Drawn} {t : Nat} {os : OsState} {nm q : Str} {C N u e t0 : Addr} {bs bm : List Value} {hdct : Bool} {sn : List Str} {sub : List Value} {ab : Bool} {col : Option Bool} {dd : Option Addr}
    {k0 k1 k2 k3 k5 : Option Value} {rest : List Value} {Q : Value → Shared → Prop} (hC : h.get? C = some (excClassObj nm q C N bs bm hdct sn sub ab col dd k0 k1 k2 k3 k5 "ValueError.__new__")) (he : h.get? e = some ({ cls := .ref C, dict := none, data := .fields #[.ref t0, .none, .none, .none, .bool false, .none] } : Obj))
    (hu : h.get? u = some (PySem.W.kxs_mw "ValueError.__init__" e)) (hz : rest.length ≤ sizeLine) (hq : ∀ h' t1, (∀ b o, b ≠ e → h.get? b = some o → h'.get? b = some o) → h'.get? e = some ({ cls := .ref C, dict := none, data := .fields #[.ref t1, .none, .none, .none, .bool false, .none] } : Obj) → Q .none ⟨h', g, d, t, os⟩) :
    wpAny (model prog w) A (call (.ref u) rest) Q E ⟨h, g, d, t, os⟩ := by
  refine wpAny_call (codeAny_of_tree ?_); show wpAny _ A.in1 (callAny (.ref u) ⟨rest, []⟩) _ _ _
  simp only [callAny]; refine wpAny_bind (wpAny_load hu ?_)
  have m1 : (Value.type "method-wrapper" == Value.type "method" || Value.type "method-wrapper" == Value.type "builtin_function_or_method" || Value.type "method-wrapper" == Value.type "method-wrapper") = true := by decide
  simp only [PySem.W.kxs_mw, m1, if_true]; refine PySem.W.KFB.if_so (by decide) ?_
  refine wpAny_bind (PySem.W.check_bound_init F.excBase_ValueError.toExcCallFacts hC he rfl (wpAny_bind (wpAny_pure (wpAny_pure ⟨plainId_quiet F.excBase_ValueError.init.plain _, codeAny_builtin F.excBase_ValueError.initEntry ?_⟩))))
  exact PySem.W.exc_init_tree (cls := .ref C) (t0 := t0) (dv := none) (c2 := .none) (c3 := .none) (b4 := .bool false) he hz fun h' kk e1 _ => hq h' _ kk e1
section
variable {CXt : CXT} {P : Program} {w : World} {K : PySem.W.Frag} {mg : Str → Option Value} {base : Heap} {N : List Str} {F : NF} {f : Addr} {A : Around} {outer : List PySem.Env} {s0 : Shared} {H0 : Hp} {E : XK}
theorem sup_run {X : Cx} (hX : X = ncx CXt P w K mg base N F f A outer s0 H0 E) {C cc a : Addr} {ar : Arg} (T : XcF K P C f cc F) (hmg : mg "super" = none) (hp : (F.params.posonlyargs ++ F.params.args).head? = some ar) (har : N[0]? = some ar.arg) (kar : F.scope.names.lookup ar.arg = some .local)
    {σ : L2.St} {H : Hp} {s : Shared} (I : Inv X [] σ H s) (h0 : σ[0]? = some (some (.ref a))) (ha : H a = some (exo a C none)) {p0 p1 p2 p3 p4 p5 : Pos} {txt : Str} {kd : Nat} {D : Ends} (hl : (p2.endLine == p4.line) = true) (hD : D.nx σ H) :
    PySem.wpAt (model X.prog X.w) X.A (.func F.body X.env) (exec (.Expr (.Call (.Attribute (.Call (.Name "super" p0) [] [] p1) "__init__" p2) [.Constant (.str txt) kd p3] [] p4) p5) X.env) (SP X [] D) X.xe s := by
  subst hX
  obtain ⟨oc, od, dV, kV, doc, pm, ctv, an, osl, lkF⟩ := T.fn
  obtain ⟨ccl, cdd, vs, ccs, fl, tf, lkc, hvs, hfile⟩ := T.file
  obtain ⟨k1, k2, k3, lkcell⟩ := T.cell
  obtain ⟨cd, l, hcd, hml, hal⟩ := T.cls
  have kin := I.kIn
  obtain ⟨t1, hoe⟩ := exo_at I.hok ha
  obtain ⟨mb, hb1, hb2⟩ := I.mod.blt
  obtain ⟨mL, hns, hloc⟩ := I.loc
  refine ks_wpAt_Expr_any (meth_at rfl hl (ks_wpAt_super_base (fd := PySem.W.fnX F.name F.qual F.params F.body F.scope F.cl dV kV doc pm an (.ref F.c) ctv) T.sup T.kcl (by decide) rfl (kin _ _ lkF) rfl hp rfl (kin _ _ lkc) rfl hvs hfile T.top ?_)) I.quiet rfl
  refine PySem.W.ks_loadName_global T.kind T.sup (Calls.loadGlobal_builtin (I.mod.glob.keeps I.bk) hmg (hb1.keeps I.bk) ((hb2 _ (by decide)).trans (by decide +kernel)) ⟨rfl, ?_⟩)
  refine wpAny_loadName_free T.kind T.kcl (by show F.cl.lookup _ = _; rw [T.cl]; rfl) ⟨_, kin _ _ lkcell, rfl⟩ ?_
  obtain ⟨u, ru, look⟩ := hloc 0 ar.arg (.ref a) har h0 (.inl kar)
  have eu : u = .ref a := ru
  subst eu
  have hma : mL ar.arg = some (.ref a) := by
    rcases look with ⟨_, q⟩ | ⟨q, _⟩
    · exact q
    · have q : F.scope.names.lookup ar.arg = some .cell ∨ F.scope.names.lookup ar.arg = some .free := q
      rw [kar] at q
      rcases q with q | q <;> cases q
  refine wpAny_loadName_local T.kind kar hns hma ?_
  obtain ⟨oC, hC1, hC2⟩ : ∃ oC, s.heap.get? C = some oC ∧ oC.data = .cls cd := by
    unfold PySem.W.clsIn at hcd
    split at hcd
    · rename_i c d cd' slt ho
      cases hcd
      exact ⟨_, kin _ _ ho, rfl⟩
    · cases hcd
  obtain ⟨hp0, g, d, tk, os⟩ := s
  refine ks_wpAny_isType_cls hC1 hC2 ⟨rfl, ?_⟩
  refine ks_wpAny_call_super hC1 hC2 hoe rfl (fun c z => nomatch z) (PySem.W.looks_mroIn kin T.me) fun h1 e1 k1 => ?_
  have kin1 : K.In h1 := fun b o e => k1 b o (kin b o e)
  have hoe1 := k1 _ _ hoe
  have isV : PySem.W.Looks (model P w) h1 (isInstance (.ref a) (.type "ValueError")) true := ((PySem.W.Looks.ld hoe1).andThen .now).andThen (PySem.W.looks_mroIn kin1 T.ve)
  have hxC : a ≠ C := fun z => by
    subst z
    have := hoe.symm.trans hC1
    cases this
    cases hC2
  show wpAny _ _ (getMethod _ _ _) _ _ _
  refine PySem.W.kxs_getMethod PySem.W.kxs_ValueError e1 (PySem.W.looks_opaque kin1 T.st) (l₀ := l) ?_ rfl kin1 hal isV hxC (by decide) ?_
  · rw [← hml]
    exact fun A Q E s k q => wpAny_bind ((PySem.W.looks_clsIn kin1 hcd) A _ E s k (wpAny_pure q))
  have k2 : ∀ b o, hp0.get? b = some o → (h1.push (PySem.W.kxs_mw "ValueError.__init__" a)).get? b = some o := fun b o e => Heap.get?_push_of_some _ (k1 _ _ e)
  have mw : (h1.push (PySem.W.kxs_mw "ValueError.__init__" a)).get? h1.objs.size = some (PySem.W.kxs_mw "ValueError.__init__" a) := Heap.get?_push_at rfl rfl
  have I1 : Inv (ncx CXt P w K mg base N F f A outer s0 H0 E) [] σ H ⟨h1, g, d, tk, os⟩ := I.kept (t' := tk) k1
  have hu : H h1.objs.size = none := I1.hok.fresh (Nat.le_refl _)
  have I2 : Inv (ncx CXt P w K mg base N F f A outer s0 H0 E) [(h1.objs.size, PySem.W.kxs_mw "ValueError.__init__" a)] σ H ⟨h1.push (PySem.W.kxs_mw "ValueError.__init__" a), g, d, tk + 1, os⟩ :=
    (I.kept (t' := tk + 1) k2).pins_of fun p hp => by
      have hp : p = (h1.objs.size, PySem.W.kxs_mw "ValueError.__init__" a) := by simpa [ncx] using hp
      subst hp
      exact ⟨mw, hu, Nat.ne_of_gt I1.lt, I1.nofs (Nat.le_refl _), fun v z => nomatch z⟩
  refine PySem.W.kxs_callWith (i := "ValueError.__init__") (x := a) rfl (Calls.evalArgs_plain ?_)
  refine thn ((pa_cons (pe_str (X := ncx CXt P w K mg base N F f A outer s0 H0 E)) pa_nil).run p4 _ _ σ H (fun vs H1 => vs = [.str txt] ∧ H1 = H) I2 ⟨rfl, rfl⟩) fun us s1 ⟨ws, H1, I3, rv, ew, eH⟩ => ?_
  subst ew eH
  obtain ⟨hp1, g1, d1, tk1, os1⟩ := s1
  have pu := (I3.pin (h1.objs.size, PySem.W.kxs_mw "ValueError.__init__" a) (by simp [ncx])).1
  obtain ⟨t2, hoe2⟩ := exo_at I3.hok ha
  obtain ⟨nm, q, Nn, bs, bm, sn, sub, ab, col, dd, c0, c1, c2, c3, c5, hC, hbm⟩ := T.T.cls
  refine ⟨pu, mw_call (I3.kIn _ _ hC) hoe2 pu (by rw [List.nil_append, ← rv.length]; show 1 ≤ sizeLine; decide) fun h' t3 kk e3 => ?_⟩
  have J := I3.write (t' := tk1) (x := a) (e := a) (o := exo a C none) (by rw [ha]; exact True.intro) (.inl rfl) kk ⟨_, e3⟩ (exo_ok e3)
  have eu : upd H1 a (exo a C none) = H1 := by
    funext b
    by_cases hb : b = a
    · rw [hb, upd_same, ha]
    · rw [upd_ne hb]
  rw [eu] at J
  exact ⟨σ, H1, J.pins_of fun p hp => J.pin p (by simp [ncx] at hp), hD⟩
end
end PyI
/-! PyI, part 18: such an __init__ as a whole. -/
namespace PyI
open PySem PySem.Spec PyProof.Rows L2 NdefX
/-- the stores: self.f = p, the parameter's place -/
def chkI (N : List Str) : List (Str × Nat) → List Stmt → Bool
  | [], [] => true
  | (f, j) :: r, .Assign [.Attribute (.Name x _) g _] (.Name y _) _ :: rest => decide (f = g) && (decide (N[0]? = some x) && (decide (N[j]? = some y) && (nmOk x && (nmOk y && chkI N r rest))))
  | _, _ => false
/-- the body: super().__init__('..'), then the stores -/
def chkInit (N : List Str) (fs : List (Str × Nat)) : List Stmt → Bool
  | .Expr (.Call (.Attribute (.Call (.Name x _) [] [] _) m p2) [.Constant (.str _) _ _] [] p4) _ :: rest => decide (x = ("super" : Str)) && (decide (m = ("__init__" : Str)) && ((p2.endLine == p4.line) && chkI N fs rest))
  | _ => false
theorem i_init {N : List Str} {fs : List (Str × Nat)} {b : List Stmt} (h : chkInit N fs b = true) : ∃ p0 p1 p2 txt kd p3 p4 p5 rest, b = .Expr (.Call (.Attribute (.Call (.Name "super" p0) [] [] p1) "__init__" p2) [.Constant (.str txt) kd p3] [] p4) p5 :: rest ∧ (p2.endLine == p4.line) = true ∧ chkI N fs rest = true := by
  cases b with
  | nil => cases h
  | cons st rest =>
    cases st <;> first | cases h | skip
    rename_i e p5
    cases e <;> first | cases h | skip
    rename_i fn args kws p4
    cases fn <;> first | cases h | skip
    rename_i o m p2
    cases o <;> first | cases h | skip
    rename_i fn2 a2 k2 p1
    cases fn2 <;> first | cases h | skip
    rename_i x p0
    cases a2 <;> first | cases h | skip
    cases k2 <;> first | cases h | skip
    cases args with
    | nil => cases h
    | cons v r =>
      cases v <;> first | cases h | skip
      rename_i cst kd p3
      cases cst <;> first | cases h | skip
      rename_i txt
      cases r <;> first | cases h | skip
      cases kws <;> first | cases h | skip
      have h : (decide (x = ("super" : Str)) && (decide (m = ("__init__" : Str)) && ((p2.endLine == p4.line) && chkI N fs rest))) = true := h
      obtain ⟨h1, h⟩ := ba h
      obtain ⟨h2, h⟩ := ba h
      obtain ⟨h3, h4⟩ := ba h
      cases of_decide_eq_true h1
      cases of_decide_eq_true h2
      exact ⟨p0, p1, p2, txt, kd, p3, p4, p5, rest, rfl, h3, h4⟩
theorem i_store {N : List Str} {f : Str} {j : Nat} {r : List (Str × Nat)} {b : List Stmt} (h : chkI N ((f, j) :: r) b = true) : ∃ x px y py p' p rest, b = .Assign [.Attribute (.Name x px) f p'] (.Name y py) p :: rest ∧ N[0]? = some x ∧ N[j]? = some y ∧ nmOk x = true ∧ nmOk y = true ∧ chkI N r rest = true := by
  cases b with
  | nil => cases h
  | cons st rest =>
    cases st <;> first | cases h | skip
    rename_i ts v p
    cases ts with
    | nil => cases h
    | cons t tr =>
      cases t <;> first | (cases tr <;> cases h) | skip
      rename_i o g p'
      cases o <;> first | (cases tr <;> cases h) | skip
      rename_i x px
      cases tr <;> first | cases h | skip
      cases v <;> first | cases h | skip
      rename_i y py
      have h : (decide (f = g) && (decide (N[0]? = some x) && (decide (N[j]? = some y) && (nmOk x && (nmOk y && chkI N r rest))))) = true := h
      obtain ⟨h1, h⟩ := ba h
      obtain ⟨h2, h⟩ := ba h
      obtain ⟨h3, h⟩ := ba h
      obtain ⟨h4, h⟩ := ba h
      obtain ⟨h5, h6⟩ := ba h
      cases of_decide_eq_true h1
      exact ⟨x, px, y, py, p', p, rest, rfl, of_decide_eq_true h2, of_decide_eq_true h3, h4, h5, h6⟩
/-- the stores, read -/
def tStores (K : PySem.W.Frag) : List (Str × Nat) → TS
  | [] => tNext
  | (f, j) :: r => tSeq (tOst K f (tVar 0) (tVar j)) (tStores K r)
theorem pss_stores {X : Cx} (vis : ∀ x ∈ X.N, Vis X.env.scope x) : ∀ (fs : List (Str × Nat)) (b : List Stmt), chkI X.N fs b = true → PSs X b (tStores X.K fs)
  | [], [], _ => pss_nil
  | [], _ :: _, h => by cases h
  | (f, j) :: r, b, h => by
    obtain ⟨x, px, y, py, p', p, rest, rfl, h1, h2, h3, h4, h5⟩ := i_store h
    exact pss_cons (ps_ost (pe_var h1 (vis x (List.mem_of_getElem? h1)) (nm_ok h3).1 (nm_ok h3).2.1) (pe_var h2 (vis y (List.mem_of_getElem? h2)) (nm_ok h4).1 (nm_ok h4).2.1) rfl) (pss_stores vis r rest h5)
theorem stores_old {K : PySem.W.Frag} {C : Addr} {D : Ends} {σ : L2.St} {a dx : Addr} (T : OexC K C) (ne : dx ≠ a) (vs : List V) (h0 : σ[0]? = some (some (.ref a))) : ∀ (fs : List (Str × Nat)) (ys : List (Str × V)) (H : Hp), (∀ p ∈ fs, PySem.W.findIn K (.ref C) p.1 = some none) → (∀ p ∈ fs, ∃ v, vs[p.2]? = some v ∧ σ[p.2]? = some (some v)) →
    ys.length + fs.length ≤ 900 → H a = some (exo a C (some dx)) → H dx = some (exd dx ys) → D.nx σ (upd H dx (exd dx ((valsOf vs fs).reverse ++ ys))) → tStores K fs D σ H
  | [], ys, H, _, _, _, ha, hd, q => by
    have e : upd H dx (exd dx ys) = H := by
      funext b
      by_cases hb : b = dx
      · rw [hb, upd_same, hd]
      · rw [upd_ne hb]
    have q : D.nx σ (upd H dx (exd dx ys)) := q
    rw [e] at q
    exact q
  | (f, j) :: r, ys, H, hn, hv, hl, ha, hd, q => by
    obtain ⟨v, e1, e2⟩ := hv (f, j) List.mem_cons_self
    have hl' : ys.length + (r.length + 1) ≤ 900 := hl
    refine ⟨v, e2, .ref a, h0, a, C, rfl, T, hn _ List.mem_cons_self, .inr ⟨dx, ys, ha, hd, by omega, ?_⟩⟩
    refine stores_old T ne vs h0 r ((f, v) :: ys) _ (fun p hp => hn p (List.mem_cons_of_mem _ hp)) (fun p hp => hv p (List.mem_cons_of_mem _ hp)) (by show ys.length + 1 + r.length ≤ 900; omega) (by rw [upd_ne (Ne.symm ne)]; exact ha) upd_same ?_
    have e3 : vs.getD j .non = v := by rw [List.getD_eq_getElem?_getD, e1]; rfl
    have e4 : (valsOf vs ((f, j) :: r)).reverse ++ ys = (valsOf vs r).reverse ++ (f, v) :: ys := by
      show ((f, vs.getD j .non) :: valsOf vs r).reverse ++ ys = _
      rw [e3, List.reverse_cons, List.append_assoc]
      rfl
    rw [e4] at q
    have e5 : upd (upd H dx (exd dx ((f, v) :: ys))) dx (exd dx ((valsOf vs r).reverse ++ (f, v) :: ys)) = upd H dx (exd dx ((valsOf vs r).reverse ++ (f, v) :: ys)) := by
      funext b
      by_cases hb : b = dx
      · rw [hb, upd_same, upd_same]
      · rw [upd_ne hb, upd_ne hb, upd_ne hb]
    rw [e5]
    exact q
theorem stores_new {K : PySem.W.Frag} {C : Addr} {D : Ends} {σ : L2.St} {a : Addr} (T : OexC K C) (vs : List V) (h0 : σ[0]? = some (some (.ref a))) {fs : List (Str × Nat)} {H : Hp} (hne : fs ≠ []) (hn : ∀ p ∈ fs, PySem.W.findIn K (.ref C) p.1 = some none) (hv : ∀ p ∈ fs, ∃ v, vs[p.2]? = some v ∧ σ[p.2]? = some (some v))
    (hl : fs.length ≤ 900) (ha : H a = some (exo a C none)) (q : ∀ dx, H dx = none → dx ≠ a → D.nx σ (upd (upd H dx (exd dx (valsOf vs fs).reverse)) a (exo a C (some dx)))) : tStores K fs D σ H := by
  cases fs with
  | nil => exact absurd rfl hne
  | cons p r =>
    obtain ⟨f, j⟩ := p
    obtain ⟨v, e1, e2⟩ := hv (f, j) List.mem_cons_self
    have hl' : r.length + 1 ≤ 900 := hl
    refine ⟨v, e2, .ref a, h0, a, C, rfl, T, hn _ List.mem_cons_self, .inl ⟨ha, fun dx hdx ne => ?_⟩⟩
    refine stores_old T ne vs h0 r [(f, v)] _ (fun p hp => hn p (List.mem_cons_of_mem _ hp)) (fun p hp => hv p (List.mem_cons_of_mem _ hp)) (by show 1 + r.length ≤ 900; omega) upd_same (by rw [upd_ne ne, upd_same]) ?_
    have e3 : vs.getD j .non = v := by rw [List.getD_eq_getElem?_getD, e1]; rfl
    have e4 : (valsOf vs ((f, j) :: r)).reverse = (valsOf vs r).reverse ++ [(f, v)] := by
      show ((f, vs.getD j .non) :: valsOf vs r).reverse = _
      rw [e3, List.reverse_cons]
    have q := q dx hdx ne
    rw [e4] at q
    have e5 : upd (upd (upd H dx (exd dx [(f, v)])) a (exo a C (some dx))) dx (exd dx ((valsOf vs r).reverse ++ [(f, v)])) = upd (upd H dx (exd dx ((valsOf vs r).reverse ++ [(f, v)]))) a (exo a C (some dx)) := by
      funext b
      by_cases hb : b = dx
      · rw [hb, upd_same, upd_ne ne, upd_same]
      · by_cases hb2 : b = a
        · rw [hb2, upd_ne (Ne.symm ne), upd_same, upd_same]
        · rw [upd_ne hb, upd_ne hb2, upd_ne hb, upd_ne hb2, upd_ne hb]
    rw [e5]
    exact q
end PyI
/-! PyI, part 19: such an __init__ keeps its promise. -/
namespace PyI
open PySem PySem.Spec PyProof.Rows L2 NdefX
section
variable {P : Program} {w : World} {K : PySem.W.Frag} {mg : Str → Option Value} {base : Heap}
theorem init_ok {C f cc : Addr} {F : NF} {N ps : List Str} {fs : List (Str × Nat)} {fd : FuncData} {k : Nat} {ar : Arg} (T : XcF K P C f cc F) (S : NScope N ps [("__class__" : Str)] F.scope) (hmg : mg "super" = none) (hp : (F.params.posonlyargs ++ F.params.args).head? = some ar) (har : N[0]? = some ar.arg) (hps : ps ≠ [])
    (hfd : ∃ (oc : Value) (od : Option Addr) (osl : Array (Option Value)) (dV kV doc pm ctv : Value) (an : Option Addr), fd = PySem.W.fnX F.name F.qual F.params F.body F.scope F.cl dV kV doc pm an (.ref F.c) ctv ∧ K.lookup f = some ⟨oc, od, .func fd, osl⟩)
    (vis : ∀ x ∈ N, Vis F.scope x) (hb : chkInit N fs F.body = true) (hne : fs ≠ []) (hfl : fs.length ≤ 900) (hfj : ∀ p ∈ fs, p.2 < ps.length) (hfn : ∀ p ∈ fs, PySem.W.findIn K (.ref C) p.1 = some none) :
    FnOk P w K mg base (L2.CX P w) (k + 1) f fd ps (spInit C (ps.length - 1) fs) := by
  have p1 : 1 ≤ ps.length := by
    cases ps with
    | nil => exact absurd rfl hps
    | cons _ _ => exact Nat.succ_le_succ (Nat.zero_le _)
  refine ⟨fun vs H Q E ⟨a, us, e, h, _⟩ => by rw [e, List.length_cons, h]; omega, fun A outer s H args us vs Q E hr e0 hbind r hsp => ?_⟩
  obtain ⟨a, us', ev, hlen, ha, q⟩ := hsp
  obtain ⟨oc, od, osl, dV, kV, doc, pm, ctv, an, rfl, lkF⟩ := hfd
  have hl : vs.length = ps.length := by rw [ev, List.length_cons, hlen]; omega
  have KX : K.In s.heap := e0.mod.kin.keeps fun b o e => (e0.bs b o e).1
  have lim : s.heap.NoLimit := e0.mod.nolimit.keeps fun b o e => (e0.bs b o e).1
  obtain ⟨p0, p1', p2, txt, kd, p3, p4, p5, rest, ebody, hline, hst⟩ := i_init hb
  refine ks_codeAny_call_defAt (body := F.body) (binds := ps.zip us) hr.depth (KX _ _ lkF) rfl lim (PySem.W.codeRec_of KX T.code) rfl hbind S.nocell (fun y hy => S.par y.1 (List.of_mem_zip hy).1) (fun h1 hns kp => ?_) S.co S.gen S.kind
  obtain ⟨c1, c2, c3, lkcell⟩ := T.cell
  have kb : ∀ {b o}, K.lookup b = some o → H b = none := fun {b o} e => (e0.bs b o (e0.mod.kin _ _ e)).2
  have CA : CellsAt F.cl ["__class__"] [some (.ref C)] s.heap H := by
    rw [T.cl]
    refine ⟨rfl, fun y c e => ?_, fun x y c e1 e2 => ?_, fun i y e => ?_⟩
    · rw [List.lookup_cons] at e
      split at e
      · cases e
        exact ⟨kb lkcell, _, _, KX _ _ lkcell, rfl⟩
      · cases e
    · rw [List.lookup_cons] at e1 e2
      split at e1
      · rename_i z1
        split at e2
        · rename_i z2
          rw [eq_of_beq z1, eq_of_beq z2]
        · cases e2
      · cases e1
    · cases i with
      | zero =>
        cases e
        exact ⟨cc, rfl, fun v hv => by cases hv; exact ⟨.ref C, rfl, _, KX _ _ lkcell, rfl⟩⟩
      | succ i => cases e
  have I : Inv (ncx (L2.CX P w) P w K mg base N F f A outer s H E) [] (startF N vs [some (.ref C)]) H { s with heap := h1, toks := s.toks + (ps.zip us).length } := inv_startN S hr.hd e0 hl r CA hns kp
  have h0 : (startF N vs [some (.ref C)])[0]? = some (some (.ref a)) := by rw [ev]; rfl
  have hps0 : ps[0]? = some ar.arg := by
    have q : (ps ++ [("__class__" : Str)])[0]? = some ar.arg := by rw [← S.pre, List.getElem?_take_of_lt (by omega)]; exact har
    rwa [List.getElem?_append_left (by omega)] at q
  have kar := S.par ar.arg (List.mem_of_getElem? hps0)
  have hv : ∀ p ∈ fs, ∃ v, vs[p.2]? = some v ∧ (startF N vs [some (.ref C)])[p.2]? = some (some v) := fun p hp => by
    have lt : p.2 < vs.length := by rw [hl]; exact hfj p hp
    refine ⟨vs[p.2], List.getElem?_eq_getElem lt, ?_⟩
    unfold startF
    rw [List.getElem?_append_left (by rw [List.length_map]; exact lt), List.getElem?_map, List.getElem?_eq_getElem lt]
    rfl
  have ex : execs F.body (ncx (L2.CX P w) P w K mg base N F f A outer s H E).env = execs (.Expr (.Call (.Attribute (.Call (.Name "super" p0) [] [] p1') "__init__" p2) [.Constant (.str txt) kd p3] [] p4) p5 :: rest) (ncx (L2.CX P w) P w K mg base N F f A outer s H E).env := by rw [ebody]
  show PySem.wpAt (model P w) (ncx (L2.CX P w) P w K mg base N F f A outer s H E).A (.func F.body (ncx (L2.CX P w) P w K mg base N F f A outer s H E).env) (execs F.body (ncx (L2.CX P w) P w K mg base N F f A outer s H E).env) _ (ncx (L2.CX P w) P w K mg base N F f A outer s H E).xe _
  rw [ex]
  refine ks_wpAt_execs_cons (PySem.wpAt_mono (sup_run (X := ncx (L2.CX P w) P w K mg base N F f A outer s H E) rfl T hmg hp har kar I h0 ha (D := { nx := fun σ' H' => σ' = startF N vs [some (.ref C)] ∧ H' = H, rt := fun _ _ => False }) hline ⟨rfl, rfl⟩) (fun fl s1 hs => ?_) fun _ _ x => x)
  have hs0 := hs
  cases fl with
  | next =>
    obtain ⟨σ', H', J, e1, e2⟩ := hs
    subst e1 e2
    refine PySem.wpAt_of_wpAny (wpAny_mono ((pss_stores (X := ncx (L2.CX P w) P w K mg base N F f A outer s H' E) vis fs rest hst).run [] s1 _ H' { nx := fun _ H2 => Q .non H2, rt := Q } J (stores_new T.T vs h0 hne hfn hv hfl ha q)) (fun fl s' hs => ?_) fun e s' hs => hs)
    have fin : ∀ {σ' : L2.St} {H2 : Hp} {v : V} {u : Value}, Inv (ncx (L2.CX P w) P w K mg base N F f A outer s H' E) [] σ' H2 s' → RelV v u → Q v H2 → CE outer P w H' s Q u s' := fun {σ' H2 v u} J rv q => ⟨v, H2, J.os, J.bare, J.base, J.hok, rv, q⟩
    cases fl with
    | ret u =>
      obtain ⟨v, σ', H2, J, rv, q⟩ := hs
      exact fin J rv q
    | next =>
      obtain ⟨σ', H2, J, q⟩ := hs
      exact fin (v := V.non) (u := Value.none) J rfl q
    | brk =>
      obtain ⟨_, _, _, q⟩ := hs
      exact q.elim
    | cont =>
      obtain ⟨_, _, _, q⟩ := hs
      exact q.elim
  | ret u =>
    obtain ⟨_, _, _, _, _, q⟩ := hs
    exact q.elim
  | brk =>
    obtain ⟨_, _, _, q⟩ := hs
    exact q.elim
  | cont =>
    obtain ⟨_, _, _, q⟩ := hs
    exact q.elim
end
end PyI
/-! PyI, part 20: raising such an exception. -/
namespace PyI
open PySem PySem.Spec PyProof.Rows L2 NdefX
theorem vals_idx (pre : List V) : ∀ (fl : List Str) (vs : List V), vs.length = fl.length → valsOf (pre ++ vs) (idx pre.length fl) = fl.zip vs
  | [], vs, _ => by cases vs <;> rfl
  | f :: r, [], h => by cases h
  | f :: r, v :: vs, h => by
    show (f, (pre ++ v :: vs).getD pre.length .non) :: valsOf (pre ++ v :: vs) (idx (pre.length + 1) r) = (f, v) :: r.zip vs
    have e1 : (pre ++ v :: vs).getD pre.length .non = v := by
      rw [List.getD_eq_getElem?_getD, List.getElem?_append_right (Nat.le_refl _), Nat.sub_self]
      rfl
    have e2 := vals_idx (pre ++ [v]) r vs (by simpa using h)
    rw [List.append_assoc, List.length_append] at e2
    rw [e1]
    exact congrArg ((f, v) :: ·) e2
section
variable {c : Cc} {own : Nat → Option Addr} {τ : Env} {σ : L2.St} {H : Hp} {En : Ends} {fu : Nat}
theorem ls_raise {x : Str} {es : Es} {C : Addr} {fl : List Str} (hm : c.mg x = some (.ref C)) (hf : c.xf x = fl) (he : esLen es = fl.length) (hl : fl.length ≤ 900) (h : rdSt c fu (.raise x es) En σ H) :
    tMkO C (spInit C fl.length (idx 1 fl)) [] (rdA c es) σ H (fun cls d H' => c.W cls d σ H') := by
  obtain ⟨own, τ, S, h⟩ := h
  have h : EndS c En ((evs c.G c.Φ es τ).out fun ds => .exc x ds) := h
  refine ⟨own, τ, S, ?_⟩
  cases ev : evs c.G c.Φ es τ with
  | bad => rw [ev] at h; exact h.elim
  | exc y ds => rw [ev] at h; exact h own τ σ H S
  | ok ds =>
    rw [ev] at h
    have hx : ExW c σ H x ds := h own τ σ H S
    intro vs H1 s r ra
    have lds := evs_len ev
    have lvs : vs.length = fl.length := by rw [← r.length, lds, he]
    refine ⟨by omega, fun a ha => ⟨a, vs, by rw [List.append_nil], lvs, upd_same, fun dx hdx ne => ?_⟩⟩
    have hd1 : H1 dx = none := by rw [upd_ne ne] at hdx; exact hdx
    refine ⟨rfl, dx, _, upd_same, by rw [upd_ne ne, upd_same], hd1, ?_⟩
    have e1 : valsOf (.ref a :: (vs ++ [])) (idx 1 fl) = fl.zip vs := by
      rw [List.append_nil]
      exact vals_idx [.ref a] fl vs lvs
    rw [e1]
    have sm : Same H1 (upd (del (upd (upd (upd H1 a (exo a C none)) dx (exd dx (fl.zip vs).reverse)) a (exo a C (some dx))) a) dx (.xd (fl.zip vs).reverse)) := fun b o e => by
      have n1 : b ≠ a := fun z => by rw [z, ha] at e; cases e
      have n2 : b ≠ dx := fun z => by rw [z, hd1] at e; cases e
      rw [upd_ne n2, del_ne n1, upd_ne n1, upd_ne n2, upd_ne n1]
      exact e
    refine hx _ _ _ (s.trans sm) ⟨C, hm, rfl, dx, fl.zip vs, rfl, upd_same, ?_, ?_⟩
    · rw [hf, List.map_fst_zip (by omega)]
    · rw [List.map_snd_zip (by omega)]
      exact (r.weak fun b z => .inl z).same sm
end
end PyI
/-! PyI, part 21: what an except clause says. -/
namespace PyI
open PySem PySem.Spec PyProof.Rows L2
/-! ### the check -/
def eName (n : Option Str) (x : Str) : Bool := match n with
  | some y => decide (x = y)
  | none => false
def hesLen : HEs → Nat
  | .nil => 0
  | .cons _ r => hesLen r + 1
def isName : Expr → Bool
  | .Name .. => true
  | _ => false
def nameIs (n : Option Str) : Expr → Bool
  | .Name x _ => eName n x
  | _ => false
mutual
def chkHE (k : Ck) (sc : Scope) (n : Option Str) : HE → Expr → Bool
  | .non, .Constant .none _ _ => true
  | .bl b, .Constant (.bool j) _ _ => b == j
  | .int i, .Constant (.int j) _ _ => decide (i = j)
  | .str i, .Constant (.str j) _ _ => decide (i = j)
  | .fld f, .Attribute o g _ => decide (f = g) && nameIs n o
  | .isi c, .Call (.Name y _) [o, .Name z _] [] _ => nameIs n o && (decide (y = ("isinstance" : Str)) && (k.fr.contains y && (gl sc y && (decide (z = c) && (k.cls.contains c && (gl sc z && nmOk z))))))
  | .not a, .UnaryOp .Not x _ => chkHE k sc n a x
  | .and a b, .BoolOp .And (x :: y :: r) p => chkHE k sc n a x && (match r with
    | [] => chkHE k sc n b y
    | z :: r => chkHE k sc n b (.BoolOp .And (y :: z :: r) p))
  | .or a b, .BoolOp .Or (x :: y :: r) p => chkHE k sc n a x && (match r with
    | [] => chkHE k sc n b y
    | z :: r => chkHE k sc n b (.BoolOp .Or (y :: z :: r) p))
  | .tup es, .Tuple xs _ _ => decide (hesLen es ≤ 1000) && chkHEs k sc n es xs
  | _, _ => false
def chkHEs (k : Ck) (sc : Scope) (n : Option Str) : HEs → List Expr → Bool
  | .nil, [] => true
  | .cons e r, x :: xs => notStar x && (chkHE k sc n e x && chkHEs k sc n r xs)
  | _, _ => false
end
/-- what may stand as a test -/
def htOk : HE → Bool
  | .not a => htOk a
  | .and a b => htOk a && htOk b
  | .or a b => htOk a && htOk b
  | .isi _ => true
  | _ => false
def chkHn (k : Ck) (sc : Scope) (n : Option Str) : Hn → List Stmt → Bool
  | .ret e, [.Return (some v) _] => chkHE k sc n e v
  | .ife c a b, .If t p [] _ :: rest => htOk c && (chkHE k sc n c t && (chkHn k sc n a p && chkHn k sc n b rest))
  | _, _ => false
/-! ### the readings -/
structure Hc where
  c : Cc
  xs : List (Str × List Str)
  i : Option Nat
  a : Addr
  cls : Value
  d : Option Addr
structure HSt (h : Hc) (σ : L2.St) (H : Hp) (x : Str) (ds : List D) : Prop where
  sl : ∀ i, h.i = some i → ∃ σ0 : L2.St, σ = σ0.set i (some (.ref h.a))
  hx : (h.xs.lookup x).isSome = true
  ex : ExAt h.c.K h.c.mg h.c.xf h.c.F0 H x ds h.cls h.d
theorem HSt.same {h : Hc} {σ : L2.St} {H H' : Hp} {x : Str} {ds : List D} (t : HSt h σ H x ds) (s : Same H H') : HSt h σ H' x ds := ⟨t.sl, t.hx, by
  obtain ⟨C, h1, h2, d, fs, h3, h4, h5, h6⟩ := t.ex
  exact ⟨C, h1, h2, d, fs, h3, s _ _ h4, h5, h6.same s⟩⟩
def rdHE (h : Hc) (e : HE) : TE := fun σ H Q => ∃ x ds, HSt h σ H x ds ∧ ∃ D, heD h.xs x ds e = .ok D ∧ ∀ v H', Same H H' → Rep h.c.K h.c.F0 H' D v → Q v H'
def rdHT (h : Hc) (e : HE) : TT := fun σ H Q => ∃ x ds, HSt h σ H x ds ∧ ∃ b, heD h.xs x ds e = .ok (.bl b) ∧ ∀ H', Same H H' → Q b H'
def rdHA (h : Hc) (es : HEs) : TA := fun σ H Q => ∃ x ds, HSt h σ H x ds ∧ ∃ Ds, hesD h.xs x ds es = .ok Ds ∧ ∀ vs H', Same H H' → RepL h.c.K h.c.F0 H' Ds vs → Q vs H'
def rdHn (h : Hc) (n : Hn) : TS := fun En σ H => ∃ x ds, HSt h σ H x ds ∧ ∃ D, hnD h.xs x ds n = .ok D ∧ ∀ v H', Same H H' → Rep h.c.K h.c.F0 H' D v → En.rt v H'
/-- the context of a clause -/
structure HGood (k : Ck) (X : Cx) (h : Hc) (sc : Scope) (n : Option Str) : Prop where
  sc : X.env.scope = sc
  N : X.N = k.N
  K : h.c.K = X.K
  mg : h.c.mg = X.mg
  fr : ∀ x ∈ k.fr, X.mg x = none
  xs : h.xs = k.exs
  xf : ∀ p ∈ k.exs, h.c.xf p.1 = p.2
  exq : ∀ p ∈ k.exs, ExQ X.K X.mg k.cls p.1 p.2
  nm : ∀ y, n = some y → ∃ i, h.i = some i ∧ k.N[i]? = some y ∧ X.env.scope.names.lookup y = some .local ∧ nmOk y = true
theorem ex_mem {x : Str} {fl : List Str} : ∀ {l : List (Str × List Str)}, l.lookup x = some fl → (x, fl) ∈ l
  | [], h => by cases h
  | (y, gl) :: r, h => by
    rw [List.lookup_cons] at h
    split at h
    · rename_i z
      cases h
      rw [eq_of_beq z]
      exact List.mem_cons_self
    · exact List.mem_cons_of_mem _ (ex_mem h)
section
variable {k : Ck} {X : Cx} {h : Hc} {sc : Scope} {n : Option Str}
theorem HGood.at (g : HGood k X h sc n) {σ : L2.St} {H : Hp} {x : Str} {ds : List D} (t : HSt h σ H x ds) : ∃ (fl : List Str) (C dd : Addr) (fs : List (Str × V)), (x, fl) ∈ k.exs ∧ h.xs.lookup x = some fl ∧ X.mg x = some (.ref C) ∧ h.cls = .ref C ∧ h.d = some dd ∧ H dd = some (.xd fs.reverse) ∧ fs.map (·.1) = fl ∧ RepL h.c.K h.c.F0 H ds (fs.map (·.2)) := by
  obtain ⟨fl, hfl⟩ := Option.isSome_iff_exists.mp t.hx
  obtain ⟨C, h1, h2, d, fs, h3, h4, h5, h6⟩ := t.ex
  have m : (x, fl) ∈ k.exs := by rw [← g.xs]; exact ex_mem hfl
  exact ⟨fl, C, d, fs, m, hfl, by rw [← g.mg]; exact h1, h2, h3, h4, by rw [h5]; exact g.xf _ m, h6⟩
theorem pe_e (g : HGood k X h sc n) {pn : List (Addr × Obj)} {x : Str} {p : Pos} (hn : eName n x = true) : PE (X.suite h.a pn) (.Name x p) (fun σ H Q => (∀ i, h.i = some i → ∃ σ0 : L2.St, σ = σ0.set i (some (.ref h.a))) ∧ Q (.ref h.a) H) := by
  unfold eName at hn
  cases n with
  | none => cases hn
  | some y =>
    cases of_decide_eq_true hn
    obtain ⟨i, hi, hN, hl, hm⟩ := g.nm x rfl
    have base : PE (X.suite h.a pn) (.Name x p) (tVar i) := pe_var (by show X.N[i]? = _; rw [g.N]; exact hN) (.inl hl) (nm_ok hm).1 (nm_ok hm).2.1
    refine ⟨fun pins s σ H Q I q => base.run pins s σ H Q I ?_⟩
    obtain ⟨q1, q2⟩ := q
    obtain ⟨σ0, e⟩ := q1 i hi
    refine ⟨.ref h.a, ?_, q2⟩
    have hlen : σ.length = X.N.length := I.len
    have hi2 : i < X.N.length := by rw [g.N]; exact (List.getElem?_eq_some_iff.mp hN).1
    rw [e, List.length_set] at hlen
    rw [e, List.getElem?_set_self (by omega)]
theorem pe_nm (g : HGood k X h sc n) {pn : List (Addr × Obj)} {o : Expr} (hn : nameIs n o = true) : (∃ x p, o = .Name x p) ∧ PE (X.suite h.a pn) o (fun σ H Q => (∀ i, h.i = some i → ∃ σ0 : L2.St, σ = σ0.set i (some (.ref h.a))) ∧ Q (.ref h.a) H) := by
  cases o <;> first | cases hn | exact ⟨⟨_, _, rfl⟩, pe_e g hn⟩
theorem fld_look {K : PySem.W.Frag} {F : Addr → Prop} {H : Hp} {f : Str} {D : D} : ∀ {fs : List (Str × V)} {ds : List PyI.D}, (fs.map (·.1)).Nodup → RepL K F H ds (fs.map (·.2)) → fldD (fs.map (·.1)) ds f = .ok D → ∃ v, (f, v) ∈ fs ∧ Rep K F H D v
  | [], ds, _, _, e => by cases ds <;> cases e
  | (g, v) :: r, ds, nd, rp, e => by
    cases ds with
    | nil => cases e
    | cons d ds =>
      obtain ⟨v', vs', e1, r1, r2⟩ := rp
      cases e1
      have e : (if g = f then Res.ok d else fldD (r.map (·.1)) ds f) = .ok D := e
      by_cases z : g = f
      · rw [if_pos z] at e
        cases e
        exact ⟨v, by rw [z]; exact List.mem_cons_self, r1⟩
      · rw [if_neg z] at e
        obtain ⟨v2, m, r3⟩ := fld_look (List.nodup_cons.mp nd).2 r2 e
        exact ⟨v2, List.mem_cons_of_mem _ m, r3⟩
theorem look_nd {f : Str} {v : V} : ∀ {l : List (Str × V)}, (l.map (·.1)).Nodup → (f, v) ∈ l → l.lookup f = some v
  | [], _, m => by cases m
  | (g, w) :: r, nd, m => by
    rw [List.lookup_cons]
    have nd := List.nodup_cons.mp nd
    rcases List.mem_cons.mp m with e | m
    · cases e
      simp
    · have ne : f ≠ g := fun z => nd.1 (by rw [← z]; exact List.mem_map.mpr ⟨(f, v), m, rfl⟩)
      have e : (f == g) = false := by simpa using ne
      rw [e]
      exact look_nd nd.2 m
variable {oe : Obj} {pn : List (Addr × Obj)}
theorem se_fld (g : HGood k X h sc n) (hz : Zc h.cls h.d oe) (hf : ∃ vs, oe.data = .fields vs) {o : Expr} {f : Str} {p : Pos} (hn : nameIs n o = true) : PE (X.suite h.a ((h.a, oe) :: pn)) (.Attribute o f p) (rdHE h (.fld f)) := ⟨fun pins s σ H Q I q => by
  obtain ⟨x, ds, t, D, e, kk⟩ := q
  obtain ⟨fl, C, dd, fs, m, hl, hm, hc, hd, hH, hmap, hr⟩ := g.at t
  obtain ⟨C', q1, q2, q3, q4, q5, _⟩ := g.exq _ m
  have eC : C' = C := by
    rw [hm] at q1
    cases q1
    rfl
  subst eC
  have e : (match h.xs.lookup x with
    | some fl => fldD fl ds f
    | none => Res.bad) = .ok D := e
  rw [hl] at e
  have e : fldD fl ds f = .ok D := e
  have q5 : fl.Nodup := q5
  rw [← hmap] at e q5
  obtain ⟨v, mv, rv⟩ := fld_look q5 hr e
  have fin : f ∈ fl := by rw [← hmap]; exact List.mem_map.mpr ⟨(f, v), mv, rfl⟩
  obtain ⟨⟨y, py, rfl⟩, pe⟩ := pe_nm g (pn := (h.a, oe) :: pn) hn
  refine (pe_xf q2 (q4 f fin) hz hf pe rfl).run pins s σ H Q I ?_
  refine ⟨t.sl, rfl, hc, dd, fs.reverse, v, hd, hH, look_nd ?_ (List.mem_reverse.mpr mv), kk v H (Same.refl H) rv⟩
  rw [List.map_reverse]
  exact List.pairwise_reverse.mpr (q5.imp Ne.symm)⟩
/-- isinstance(e, c), e the exception that the suite holds -/
def rIsX (K : PySem.W.Frag) (D a : Addr) (d : Option Addr) : List V → Hp → VK → Prop := fun xs H Q => ∃ (c : V) (cv : Value) (b : Bool) (dd : Addr) (fs : List (Str × V)), xs = [.ref a, c] ∧ (∀ u, RelV c u → u = cv) ∧ PySem.W.kitOne K (.ref D) cv = some b ∧ d = some dd ∧ H dd = some (.xd fs) ∧ Q (.bl b) H
theorem call_isX {a D : Addr} {d : Option Addr} (C : ExcC X.K D) (hz : Zc (.ref D) d oe) (hf : ∃ vs, oe.data = .fields vs) : CallR (X.suite a ((a, oe) :: pn)) (.builtin "isinstance") (rIsX X.K D a d) := by
  intro pins s σ H xs us Q I r h
  obtain ⟨c, cv, b, dd, fs, rfl, hcv, e, hd, hH, q⟩ := h
  cases r with
  | cons rx rr =>
    cases rr with
    | cons rt rr =>
      cases rr
      cases rx
      have ec := hcv _ rt
      subst ec
      obtain ⟨hget, _⟩ := I.pin (a, oe) (List.mem_append.mpr (.inl List.mem_cons_self))
      obtain ⟨vs, hv⟩ := hf
      have hx : ObjOk X.prog X.w H s.heap dd (.xd fs) := I.hok dd _ hH
      obtain ⟨mA, hns, hr⟩ := hx
      obtain ⟨od, ho, _⟩ := lookIn_ns hns
      have J : PySem.W.InstAt s.heap a oe D (some od) := ⟨hget, hz.1, by unfold PySem.W.notCls; rw [hv] <;> rfl, by rw [hz.2, hd]; exact ho⟩
      obtain ⟨cd, hcd, _⟩ := PySem.W.any_some C.hd
      exact PySem.W.kia_one (PySem.W.kitx_exc (by rw [hcd]; rfl) C.hg C.hk C.hs C.ha C.hn C.ht C.hm) I.kIn J e (fun z => nomatch z) fun tk => ⟨.bl b, H, I.kept (t' := tk) fun _ _ z => z, rfl, q⟩
theorem se_isi (g : HGood k X h sc n) (hz : Zc h.cls h.d oe) (hf : ∃ vs, oe.data = .fields vs) {o : Expr} {y z c : Str} {p1 p2 p3 : Pos} (hn : nameIs n o = true) (h1 : y = ("isinstance" : Str)) (h2 : k.fr.contains y = true) (h3 : gl sc y = true) (h4 : z = c) (h5 : k.cls.contains c = true) (h6 : gl sc z = true) (h7 : nmOk z = true) :
    PE (X.suite h.a ((h.a, oe) :: pn)) (.Call (.Name y p1) [o, .Name z p2] [] p3) (rdHE h (.isi c)) := ⟨fun pins s σ H Q I q => by
  obtain ⟨x, ds, t, D, e, kk⟩ := q
  cases e
  subst h4
  obtain ⟨fl, C, dd, fs, m, hl, hm, hc, hd, hH, hmap, hr⟩ := g.at t
  obtain ⟨C', q1, q2, q3, q4, q5, q6⟩ := g.exq _ m
  have eC : C' = C := by
    rw [hm] at q1
    cases q1
    rfl
  subst eC
  obtain ⟨cv, w1, w2, w3⟩ := q6 z (by simpa using h5)
  obtain ⟨⟨y', py, rfl⟩, pe⟩ := pe_nm g (pn := (h.a, oe) :: pn) hn
  have gy : Gl X y := by have := gl_ok h3; rw [← g.sc] at this; exact this
  have gz : Gl X z := by have := gl_ok h6; rw [← g.sc] at this; exact this
  have fy : X.mg y = none := g.fr y (by simpa using h2)
  have hz' : Zc (.ref C') h.d oe := by rw [← hc]; exact hz
  rcases w1 with ⟨a, rfl, wm⟩ | ⟨rfl, we, wm⟩
  · have pt : PE (X.suite h.a ((h.a, oe) :: pn)) (.Name z p2) (tC (.ref a)) := pe_glob gz wm rfl (nm_ok h7).1
    refine (pe_callB (X := X.suite h.a ((h.a, oe) :: pn)) (x := y) (call_isX q3 hz' hf) gy fy (by rw [h1]; exact boot_isi) (pa_cons pe (pa_cons pt pa_nil rfl) rfl) (by rw [h1]; decide) (by rw [h1]; decide) rfl rfl).run pins s σ H Q I ?_
    exact ⟨t.sl, .ref a, .ref a, _, dd, _, rfl, fun u r => r, w2, hd, hH, kk _ H (Same.refl H) rfl⟩
  · have pt : PE (X.suite h.a ((h.a, oe) :: pn)) (.Name z p2) (tC (.ty "ValueError")) := pe_bltn gz wm (u := .type "ValueError") (by rw [we]; decide +kernel) rfl (nm_ok h7).2.2 (nm_ok h7).1
    refine (pe_callB (X := X.suite h.a ((h.a, oe) :: pn)) (x := y) (call_isX q3 hz' hf) gy fy (by rw [h1]; exact boot_isi) (pa_cons pe (pa_cons pt pa_nil rfl) rfl) (by rw [h1]; decide) (by rw [h1]; decide) rfl rfl).run pins s σ H Q I ?_
    exact ⟨t.sl, .ty "ValueError", .type "ValueError", _, dd, _, rfl, fun u r => r, w2, hd, hH, kk _ H (Same.refl H) rfl⟩⟩
end
end PyI
/-! PyI, part 22: an except clause runs as the interpreter says. -/
namespace PyI
open PySem PySem.Spec PyProof.Rows L2
section
variable {k : Ck} {h : Hc} {sc : Scope} {n : Option Str}
def SndH (k : Ck) (e : HE) : Prop := ∀ (x : Expr) {X : Cx} {h : Hc} {sc : Scope} {n : Option Str} {oe : Obj} {pn : List (Addr × Obj)}, HGood k X h sc n → Zc h.cls h.d oe → (∃ vs, oe.data = .fields vs) → chkHE k sc n e x = true → PE (X.suite h.a ((h.a, oe) :: pn)) x (rdHE h e)
def SndHT (k : Ck) (e : HE) : Prop := ∀ (x : Expr) {X : Cx} {h : Hc} {sc : Scope} {n : Option Str} {oe : Obj} {pn : List (Addr × Obj)}, HGood k X h sc n → Zc h.cls h.d oe → (∃ vs, oe.data = .fields vs) → htOk e = true → chkHE k sc n e x = true → PT (X.suite h.a ((h.a, oe) :: pn)) x (rdHT h e)
def SndHA (k : Ck) (e : HEs) : Prop := ∀ (x : List Expr) {X : Cx} {h : Hc} {sc : Scope} {n : Option Str} {oe : Obj} {pn : List (Addr × Obj)}, HGood k X h sc n → Zc h.cls h.d oe → (∃ vs, oe.data = .fields vs) → chkHEs k sc n e x = true → PA (X.suite h.a ((h.a, oe) :: pn)) x (rdHA h e)
theorem hc_non {x : Expr} (h : chkHE k sc n .non x = true) : ∃ a b, x = .Constant .none a b := by
  cases x <;> first | cases h | skip
  rename_i c a b
  cases c <;> first | exact ⟨a, b, rfl⟩ | cases h
theorem hc_bl {v : Bool} {x : Expr} (h : chkHE k sc n (.bl v) x = true) : ∃ a b, x = .Constant (.bool v) a b := by
  cases x <;> first | cases h | skip
  rename_i c a b
  cases c <;> first | cases h | skip
  rename_i j
  have e : v = j := eq_of_beq (show (v == j) = true from h)
  subst e
  exact ⟨a, b, rfl⟩
theorem hc_int {v : Int} {x : Expr} (h : chkHE k sc n (.int v) x = true) : ∃ a b, x = .Constant (.int v) a b := by
  cases x <;> first | cases h | skip
  rename_i c a b
  cases c <;> first | cases h | skip
  rename_i j
  have e : v = j := of_decide_eq_true h
  subst e
  exact ⟨a, b, rfl⟩
theorem hc_str {v : Str} {x : Expr} (h : chkHE k sc n (.str v) x = true) : ∃ a b, x = .Constant (.str v) a b := by
  cases x <;> first | cases h | skip
  rename_i c a b
  cases c <;> first | cases h | skip
  rename_i j
  have e : v = j := of_decide_eq_true h
  subst e
  exact ⟨a, b, rfl⟩
theorem hc_fld {f : Str} {x : Expr} (h : chkHE k sc n (.fld f) x = true) : ∃ o p, x = .Attribute o f p ∧ nameIs n o = true := by
  cases x <;> first | cases h | skip
  rename_i o g p
  obtain ⟨h1, h2⟩ := ba (show (decide (f = g) && nameIs n o) = true from h)
  cases of_decide_eq_true h1
  exact ⟨o, p, rfl, h2⟩
theorem hc_isi {c : Str} {x : Expr} (h : chkHE k sc n (.isi c) x = true) : ∃ y p1 o z p2 p3, x = .Call (.Name y p1) [o, .Name z p2] [] p3 ∧ (nameIs n o && (decide (y = ("isinstance" : Str)) && (k.fr.contains y && (gl sc y && (decide (z = c) && (k.cls.contains c && (gl sc z && nmOk z))))))) = true := by
  cases x <;> first | cases h | skip
  rename_i fn as kw p3
  cases fn <;> first | cases h | skip
  rename_i y p1
  cases as with
  | nil => cases h
  | cons o r =>
    cases r with
    | nil => cases h
    | cons z r =>
      cases z <;> first | cases h | skip
      rename_i z p2
      cases r with
      | cons _ _ => cases h
      | nil =>
        cases kw with
        | cons _ _ => cases h
        | nil => exact ⟨_, _, _, _, _, _, rfl, h⟩
theorem hc_not {a : HE} {x : Expr} (h : chkHE k sc n (.not a) x = true) : ∃ y p, x = .UnaryOp .Not y p ∧ chkHE k sc n a y = true := by
  cases x <;> first | cases h | skip
  rename_i o y p
  cases o <;> first | cases h | exact ⟨_, _, rfl, h⟩
theorem hc_and {a b : HE} {X0 : Expr} (h : chkHE k sc n (.and a b) X0 = true) : (∃ x y q, X0 = .BoolOp .And [x, y] q ∧ (chkHE k sc n a x && chkHE k sc n b y) = true) ∨ ∃ x y z r q, X0 = .BoolOp .And (x :: y :: z :: r) q ∧ (chkHE k sc n a x && chkHE k sc n b (.BoolOp .And (y :: z :: r) q)) = true := by
  cases X0 <;> first | cases h | skip
  rename_i o es q
  cases o <;> first | cases h | skip
  cases es with
  | nil => cases h
  | cons x r =>
    cases r with
    | nil => cases h
    | cons y r =>
      cases r with
      | nil => exact .inl ⟨_, _, _, rfl, h⟩
      | cons z r => exact .inr ⟨_, _, _, _, _, rfl, h⟩
theorem hc_or {a b : HE} {X0 : Expr} (h : chkHE k sc n (.or a b) X0 = true) : (∃ x y q, X0 = .BoolOp .Or [x, y] q ∧ (chkHE k sc n a x && chkHE k sc n b y) = true) ∨ ∃ x y z r q, X0 = .BoolOp .Or (x :: y :: z :: r) q ∧ (chkHE k sc n a x && chkHE k sc n b (.BoolOp .Or (y :: z :: r) q)) = true := by
  cases X0 <;> first | cases h | skip
  rename_i o es q
  cases o <;> first | cases h | skip
  cases es with
  | nil => cases h
  | cons x r =>
    cases r with
    | nil => cases h
    | cons y r =>
      cases r with
      | nil => exact .inl ⟨_, _, _, rfl, h⟩
      | cons z r => exact .inr ⟨_, _, _, _, _, rfl, h⟩
theorem hc_tup {es : HEs} {x : Expr} (h : chkHE k sc n (.tup es) x = true) : ∃ xs a b, x = .Tuple xs a b ∧ (decide (hesLen es ≤ 1000) && chkHEs k sc n es xs) = true := by
  cases x <;> first | cases h | exact ⟨_, _, _, rfl, h⟩
/-! ### the interpreter, inverted -/
variable {xs : List (Str × List Str)} {x : Str} {ds : List PyI.D}
theorem he_bl {r : Res PyI.D} {f : Bool → Res PyI.D} {D : PyI.D} (e : (match r with
    | .ok (.bl b) => f b
    | _ => .bad) = .ok D) : ∃ b, r = .ok (.bl b) ∧ f b = .ok D := by
  cases r with
  | ok d => cases d <;> first | cases e | exact ⟨_, rfl, e⟩
  | _ => cases e
theorem hes_len : ∀ {es : HEs} {Ds : List PyI.D}, hesD xs x ds es = .ok Ds → Ds.length = hesLen es
  | .nil, Ds, e => by cases e; rfl
  | .cons a r, Ds, e => by
    have e : (match heD xs x ds a with
      | .ok d => (match hesD xs x ds r with
        | .ok es => Res.ok (d :: es)
        | _ => .bad)
      | _ => .bad) = .ok Ds := e
    cases h1 : heD xs x ds a with
    | ok d =>
      rw [h1] at e
      cases h2 : hesD xs x ds r with
      | ok es =>
        rw [h2] at e
        cases e
        exact congrArg (· + 1) (hes_len h2)
      | _ => rw [h2] at e; cases e
    | _ => rw [h1] at e; cases e
theorem lh_not {a : HE} {σ : L2.St} {H : Hp} {Q : VK} (q : rdHE h (.not a) σ H Q) : tNotV (rdHE h a) σ H Q := by
  obtain ⟨x, ds, t, D, e, kk⟩ := q
  obtain ⟨b, e1, e2⟩ := he_bl (f := fun b => .ok (.bl (!b))) e
  cases e2
  exact ⟨x, ds, t, _, e1, fun v H' s r => ⟨b, r, kk _ H' s rfl⟩⟩
theorem lh_and {a b : HE} {σ : L2.St} {H : Hp} {Q : VK} (q : rdHE h (.and a b) σ H Q) : tAndV (rdHE h a) (rdHE h b) σ H Q := by
  obtain ⟨x, ds, t, D, e, kk⟩ := q
  obtain ⟨c, e1, e2⟩ := he_bl (f := fun k => if k then heD h.xs x ds b else .ok (.bl false)) e
  refine ⟨x, ds, t, _, e1, fun v H' s r => ⟨c, r, ?_⟩⟩
  cases c with
  | true => exact ⟨x, ds, t.same s, D, e2, fun v H2 s2 r => kk v H2 (s.trans s2) r⟩
  | false => cases e2; exact kk _ H' s rfl
theorem lh_or {a b : HE} {σ : L2.St} {H : Hp} {Q : VK} (q : rdHE h (.or a b) σ H Q) : tOrV (rdHE h a) (rdHE h b) σ H Q := by
  obtain ⟨x, ds, t, D, e, kk⟩ := q
  obtain ⟨c, e1, e2⟩ := he_bl (f := fun k => if k then .ok (.bl true) else heD h.xs x ds b) e
  refine ⟨x, ds, t, _, e1, fun v H' s r => ⟨c, r, ?_⟩⟩
  cases c with
  | false => exact ⟨x, ds, t.same s, D, e2, fun v H2 s2 r => kk v H2 (s.trans s2) r⟩
  | true => cases e2; exact kk _ H' s rfl
theorem lh_tup {es : HEs} {σ : L2.St} {H : Hp} {Q : VK} (hl : hesLen es ≤ 1000) (q : rdHE h (.tup es) σ H Q) : tTup (rdHA h es) σ H Q := by
  obtain ⟨x, ds, t, D, e, kk⟩ := q
  have e : (match hesD h.xs x ds es with
    | .ok es => Res.ok (PyI.D.tup es)
    | _ => .bad) = .ok D := e
  cases h1 : hesD h.xs x ds es with
  | ok Ds =>
    rw [h1] at e
    cases e
    refine ⟨x, ds, t, Ds, h1, fun vs H1 s1 r1 => ⟨?_, fun a ha => kk _ _ (s1.trans (same_upd ha)) (tup_new (F1 := h.c.F0) ha r1).rep⟩⟩
    rw [← r1.length, hes_len h1]
    exact line1000 hl
  | _ => rw [h1] at e; cases e
theorem lh_nil {σ : L2.St} {H : Hp} {Q : List V → Hp → Prop} (q : rdHA h .nil σ H Q) : tNil σ H Q := by
  obtain ⟨x, ds, t, Ds, e, kk⟩ := q
  cases e
  exact kk [] H (Same.refl H) rfl
theorem lh_cons {a : HE} {r : HEs} {σ : L2.St} {H : Hp} {Q : List V → Hp → Prop} (q : rdHA h (.cons a r) σ H Q) : tCons (rdHE h a) (rdHA h r) σ H Q := by
  obtain ⟨x, ds, t, Ds, e, kk⟩ := q
  have e : (match heD h.xs x ds a with
    | .ok d => (match hesD h.xs x ds r with
      | .ok es => Res.ok (d :: es)
      | _ => .bad)
    | _ => .bad) = .ok Ds := e
  cases h1 : heD h.xs x ds a with
  | ok d =>
    rw [h1] at e
    cases h2 : hesD h.xs x ds r with
    | ok es =>
      rw [h2] at e
      cases e
      exact ⟨x, ds, t, d, h1, fun v H1 s1 r1 => ⟨x, ds, t.same s1, es, h2, fun vs H2 s2 r2 => kk (v :: vs) H2 (s1.trans s2) ⟨v, vs, rfl, r1.same s2, r2⟩⟩⟩
    | _ => rw [h2] at e; cases e
  | _ => rw [h1] at e; cases e
theorem lh_tB {a : HE} {σ : L2.St} {H : Hp} {Q : Bool → Hp → Prop} (q : rdHT h a σ H Q) : tB (rdHE h a) σ H Q := by
  obtain ⟨x, ds, t, b, e, kk⟩ := q
  exact ⟨x, ds, t, _, e, fun v H' s r => ⟨b, r, kk H' s⟩⟩
theorem lht_not {a : HE} {σ : L2.St} {H : Hp} {Q : Bool → Hp → Prop} (q : rdHT h (.not a) σ H Q) : tNot (rdHT h a) σ H Q := by
  obtain ⟨x, ds, t, b, e, kk⟩ := q
  obtain ⟨c, e1, e2⟩ := he_bl (f := fun b => .ok (.bl (!b))) e
  cases e2
  exact ⟨x, ds, t, c, e1, kk⟩
theorem lht_and {a b : HE} {σ : L2.St} {H : Hp} {Q : Bool → Hp → Prop} (q : rdHT h (.and a b) σ H Q) : tAnd (rdHT h a) (rdHT h b) σ H Q := by
  obtain ⟨x, ds, t, z, e, kk⟩ := q
  obtain ⟨c, e1, e2⟩ := he_bl (f := fun k => if k then heD h.xs x ds b else .ok (.bl false)) e
  refine ⟨x, ds, t, c, e1, fun H' s => ?_⟩
  cases c with
  | true => exact ⟨x, ds, t.same s, z, e2, fun H2 s2 => kk H2 (s.trans s2)⟩
  | false => cases e2; exact kk H' s
theorem lht_or {a b : HE} {σ : L2.St} {H : Hp} {Q : Bool → Hp → Prop} (q : rdHT h (.or a b) σ H Q) : tOr (rdHT h a) (rdHT h b) σ H Q := by
  obtain ⟨x, ds, t, z, e, kk⟩ := q
  obtain ⟨c, e1, e2⟩ := he_bl (f := fun k => if k then .ok (.bl true) else heD h.xs x ds b) e
  refine ⟨x, ds, t, c, e1, fun H' s => ?_⟩
  cases c with
  | false => exact ⟨x, ds, t.same s, z, e2, fun H2 s2 => kk H2 (s.trans s2)⟩
  | true => cases e2; exact kk H' s
/-! ### soundness -/
theorem s_isi (c : Str) : SndH k (.isi c) := by
  intro X0 X h sc n oe pn g hz hf e
  obtain ⟨y, p1, o, z, p2, p3, rfl, q⟩ := hc_isi e
  obtain ⟨h1, q⟩ := ba q
  obtain ⟨h2, q⟩ := ba q
  obtain ⟨h3, q⟩ := ba q
  obtain ⟨h4, q⟩ := ba q
  obtain ⟨h5, q⟩ := ba q
  obtain ⟨h6, q⟩ := ba q
  obtain ⟨h7, h8⟩ := ba q
  exact se_isi g hz hf h1 (of_decide_eq_true h2) h3 h4 (of_decide_eq_true h5) h6 h7 h8
mutual
theorem heS (k : Ck) : ∀ e : HE, SndH k e
  | .non => fun X0 X h sc n oe pn g hz hf e => by
    obtain ⟨a, b, rfl⟩ := hc_non e
    exact peImp pe_non fun σ H Q ⟨x, ds, t, D, e, kk⟩ => by cases e; exact kk _ H (Same.refl H) rfl
  | .bl v => fun X0 X h sc n oe pn g hz hf e => by
    obtain ⟨a, b, rfl⟩ := hc_bl e
    exact peImp pe_bl fun σ H Q ⟨x, ds, t, D, e, kk⟩ => by cases e; exact kk _ H (Same.refl H) rfl
  | .int v => fun X0 X h sc n oe pn g hz hf e => by
    obtain ⟨a, b, rfl⟩ := hc_int e
    exact peImp pe_int fun σ H Q ⟨x, ds, t, D, e, kk⟩ => by cases e; exact kk _ H (Same.refl H) rfl
  | .str v => fun X0 X h sc n oe pn g hz hf e => by
    obtain ⟨a, b, rfl⟩ := hc_str e
    exact peImp pe_str fun σ H Q ⟨x, ds, t, D, e, kk⟩ => by cases e; exact kk _ H (Same.refl H) rfl
  | .fld f => fun X0 X h sc n oe pn g hz hf e => by
    obtain ⟨o, p, rfl, q⟩ := hc_fld e
    exact se_fld g hz hf q
  | .isi c => s_isi c
  | .not a => fun X0 X h sc n oe pn g hz hf e => by
    obtain ⟨y, p, rfl, q⟩ := hc_not e
    exact peImp (pe_not (heS k a y g hz hf q)) fun σ H Q q => lh_not q
  | .and a b => fun X0 X h sc n oe pn g hz hf e => by
    rcases hc_and e with ⟨x, y, q, rfl, hh⟩ | ⟨x, y, z, r, q, rfl, hh⟩
    · obtain ⟨h1, h2⟩ := ba hh
      exact peImp (pe_and (heS k a x g hz hf h1) (pe_one (heS k b y g hz hf h2))) fun σ H Q q => lh_and q
    · obtain ⟨h1, h2⟩ := ba hh
      exact peImp (pe_and (heS k a x g hz hf h1) (heS k b _ g hz hf h2)) fun σ H Q q => lh_and q
  | .or a b => fun X0 X h sc n oe pn g hz hf e => by
    rcases hc_or e with ⟨x, y, q, rfl, hh⟩ | ⟨x, y, z, r, q, rfl, hh⟩
    · obtain ⟨h1, h2⟩ := ba hh
      exact peImp (pe_or (heS k a x g hz hf h1) (pe_one (heS k b y g hz hf h2))) fun σ H Q q => lh_or q
    · obtain ⟨h1, h2⟩ := ba hh
      exact peImp (pe_or (heS k a x g hz hf h1) (heS k b _ g hz hf h2)) fun σ H Q q => lh_or q
  | .tup es => fun X0 X h sc n oe pn g hz hf e => by
    obtain ⟨ys, a, b, rfl, q⟩ := hc_tup e
    obtain ⟨h1, h2⟩ := ba q
    exact peImp (pe_tup (hesS k es ys g hz hf h2)) fun σ H Q q => lh_tup (of_decide_eq_true h1) q
theorem hesS (k : Ck) : ∀ e : HEs, SndHA k e
  | .nil => fun X0 X h sc n oe pn g hz hf e => by
    cases X0 with
    | nil => exact paImp pa_nil fun σ H Q q => lh_nil q
    | cons _ _ => cases e
  | .cons a r => fun X0 X h sc n oe pn g hz hf e => by
    cases X0 with
    | nil => cases e
    | cons x ys =>
      obtain ⟨h1, q⟩ := ba (show (notStar x && (chkHE k sc n a x && chkHEs k sc n r ys)) = true from e)
      obtain ⟨h2, h3⟩ := ba q
      exact paImp (pa_cons (heS k a x g hz hf h2) (hesS k r ys g hz hf h3) (star_ok h1 ys X.env)) fun σ H Q q => lh_cons q
end
theorem htS (k : Ck) : ∀ e : HE, SndHT k e
  | .not a => fun X0 X h sc n oe pn g hz hf t e => by
    obtain ⟨y, p, rfl, q⟩ := hc_not e
    exact ptImp (pt_not (htS k a y g hz hf t q)) fun σ H Q q => lht_not q
  | .and a b => fun X0 X h sc n oe pn g hz hf t e => by
    obtain ⟨t1, t2⟩ := ba (show (htOk a && htOk b) = true from t)
    rcases hc_and e with ⟨x, y, q, rfl, hh⟩ | ⟨x, y, z, r, q, rfl, hh⟩
    · obtain ⟨h1, h2⟩ := ba hh
      exact ptImp (pw_and (htS k a x g hz hf t1 h1) (pw_and1 (htS k b y g hz hf t2 h2))).pt fun σ H Q q => lht_and q
    · obtain ⟨h1, h2⟩ := ba hh
      exact ptImp (pw_and (htS k a x g hz hf t1 h1) (pwAnd (htS k b _ g hz hf t2 h2))).pt fun σ H Q q => lht_and q
  | .or a b => fun X0 X h sc n oe pn g hz hf t e => by
    obtain ⟨t1, t2⟩ := ba (show (htOk a && htOk b) = true from t)
    rcases hc_or e with ⟨x, y, q, rfl, hh⟩ | ⟨x, y, z, r, q, rfl, hh⟩
    · obtain ⟨h1, h2⟩ := ba hh
      exact ptImp (pw_or (htS k a x g hz hf t1 h1) (pw_or1 (htS k b y g hz hf t2 h2))).pt fun σ H Q q => lht_or q
    · obtain ⟨h1, h2⟩ := ba hh
      exact ptImp (pw_or (htS k a x g hz hf t1 h1) (pwAnd (htS k b _ g hz hf t2 h2))).pt fun σ H Q q => lht_or q
  | .isi c => fun X0 X h sc n oe pn g hz hf t e => by
    obtain ⟨y, p1, o, z, p2, p3, e2, q⟩ := hc_isi e
    refine ptImp (pt_val (heS k (.isi c) X0 g hz hf e) (plainT_ok (by rw [e2]; rfl) X.env)) fun σ H Q q => lh_tB q
  | .non => fun X0 X h sc n oe pn g hz hf t e => by cases t
  | .bl _ => fun X0 X h sc n oe pn g hz hf t e => by cases t
  | .int _ => fun X0 X h sc n oe pn g hz hf t e => by cases t
  | .str _ => fun X0 X h sc n oe pn g hz hf t e => by cases t
  | .fld _ => fun X0 X h sc n oe pn g hz hf t e => by cases t
  | .tup _ => fun X0 X h sc n oe pn g hz hf t e => by cases t
theorem hnS (k : Ck) : ∀ (a : Hn) (st : List Stmt) (X : Cx) (h : Hc) (sc : Scope) (n : Option Str) (oe : Obj) (pn : List (Addr × Obj)), HGood k X h sc n → Zc h.cls h.d oe → (∃ vs, oe.data = .fields vs) → chkHn k sc n a st = true → PSs (X.suite h.a ((h.a, oe) :: pn)) st (rdHn h a)
  | .ret e, st => fun X h sc n oe pn g hz hf q => by
    cases st with
    | nil => cases q
    | cons s r =>
      cases s <;> first | cases q | skip
      rename_i v p
      cases v with
      | none => cases r <;> cases q
      | some v =>
        cases r with
        | cons _ _ => cases q
        | nil => exact pssImp (pss_cons (ps_ret (heS k e v g hz hf q)) pss_nil) fun D σ H ⟨x, ds, t, d, e, kk⟩ => ⟨x, ds, t, d, e, kk⟩
  | .ife c a b, st => fun X h sc n oe pn g hz hf q => by
    cases st with
    | nil => cases q
    | cons s r =>
      cases s <;> first | cases q | skip
      rename_i t p els pos
      cases els with
      | cons _ _ => cases q
      | nil =>
        obtain ⟨h1, q⟩ := ba (show (htOk c && (chkHE k sc n c t && (chkHn k sc n a p && chkHn k sc n b r))) = true from q)
        obtain ⟨h2, q⟩ := ba q
        obtain ⟨h3, h4⟩ := ba q
        refine pssImp (pss_cons (ps_if (htS k c t g hz hf h1 h2) (hnS k a p X h sc n oe pn g hz hf h3) pss_nil) (hnS k b r X h sc n oe pn g hz hf h4)) fun D σ H ⟨x, ds, t, d, e, kk⟩ => ?_
        obtain ⟨z, e1, e2⟩ := he_bl (f := fun z => if z then hnD h.xs x ds a else hnD h.xs x ds b) e
        refine ⟨x, ds, t, z, e1, fun H' s => ?_⟩
        cases z with
        | true => exact ⟨x, ds, t.same s, d, e2, fun v H2 s2 r => kk v H2 (s.trans s2) r⟩
        | false => exact ⟨x, ds, t.same s, d, e2, fun v H2 s2 r => kk v H2 (s.trans s2) r⟩
end
end PyI
/-! PyI, part 12: statements, checked. -/
namespace PyI
open PySem PySem.Spec PyProof.Rows L2
def notComp : Expr → Bool
  | .ListComp .. => false
  | .SetComp .. => false
  | .DictComp .. => false
  | _ => true
def notTupE : Expr → Bool
  | .Tuple .. => false
  | _ => true
def locOk (sc : Scope) (fb : Str → Bool) (x : Str) : Bool := isLocal sc x || (isCell sc x && fb x)
def isFn (sc : Scope) : Bool := match sc.kind with
  | .function => true
  | _ => false
def swT (sc : Scope) (x : Str) (px : Pos) : Expr → Bool
  | .ListComp _ _ scope p => isFn sc && (isLocal sc x && ((px.line == p.line) && !(scope.names.any fun (n, k) => n == x && (k == .local || k == .cell))))
  | _ => false
def swF (sc : Scope) (x : Str) (px : Pos) : Expr → Bool
  | .ListComp _ _ _ p => isCell sc x || !(px.line == p.line)
  | _ => false
def augOk : Op → Bool
  | .add => true
  | .sub => true
  | _ => false
def nameOk (k : Ck) (sc : Scope) (i : Nat) (x : Str) : Bool := decide (k.N[i]? = some x) && (vis sc x && nmOk x)
def exLen (k : Ck) (c : Str) (es : Es) : Bool := match k.exs.lookup c with
  | some fl => decide (esLen es = fl.length)
  | none => false
def nmB (k : Ck) (sc : Scope) : Option Nat → Option Str → Bool
  | none, none => true
  | some i, some n => decide (k.N[i]? = some n) && (isLocal sc n && nmOk n)
  | _, _ => false
/-- the clause of a try -/
def chkHd (k : Ck) (sc : Scope) (c : Str) (i : Option Nat) (h : Hn) : List ExceptHandler → Bool
  | [.ExceptHandler (some (.Name z _)) n (b :: suite) _] => decide (z = c) && (k.cls.contains c && (gl sc z && (nmOk z && (chkHn k sc n h (b :: suite) && nmB k sc i n))))
  | _ => false
/-- a context in which statements stand -/
structure Lvl (X : Cx) : Prop where
  ps : PassesOwn (model X.prog X.w) X.A X.env X.xe
  stk : X.stack = X.env :: X.outer
  frm : X.env.frame = some X.env.locals
mutual
def chkSt (k : Ck) (sc : Scope) (fb : Str → Bool) : S → Stmt → Bool
  | .set i e, .Assign [.Name x px] v _ => decide (k.N[i]? = some x) && (locOk sc fb x && (chkE k sc fb e v && (notComp v || (swF sc x px v || swT sc x px v))))
  | .setT ts e, .Assign [.Tuple es n p] v _ => chkTgs k sc fb ts es && (chkE k sc fb e v && (notComp v && notTupE v))
  | .setIx i kx e, .Assign [.Subscript (.Name x _) y _] v _ => nameOk k sc i x && (notSlice y && (chkE k sc fb kx y && chkE k sc fb e v))
  | .aug i o e, .AugAssign (.Name x _) p v _ => decide (k.N[i]? = some x) && (locOk sc fb x && (opk o p && (augOk o && chkE k sc fb e v)))
  | .app i e, .Expr (.Call (.Attribute (.Name x _) m ap) [v] [] cp) _ => decide (m = ("append" : Str)) && ((ap.endLine == cp.line) && (nameOk k sc i x && (notStar v && chkE k sc fb e v)))
  | .ext i e, .Expr (.Call (.Attribute (.Name x _) m ap) [v] [] cp) _ => decide (m = ("extend" : Str)) && ((ap.endLine == cp.line) && (nameOk k sc i x && (notStar v && chkE k sc fb e v)))
  | .exp e, .Expr v _ => notComp v && chkE k sc fb e v
  | .ret e, .Return (some v) _ => chkE k sc fb e v
  | .retN, .Return none _ => true
  | .ife c a b, .If t p q _ => tOk c && (chkE k sc fb c t && (chkSs k sc fb a p && chkSs k sc fb b q))
  | .fr tg src b, .For t it body [] _ => chkS k sc fb src t it && (chkTg k sc fb tg t && (chkSs k sc fb b body))
  | .wh c b, .While t body [] _ => tOk c && (chkE k sc fb c t && chkSs k sc fb b body)
  | .brk, .Break _ => true
  | .cont, .Continue _ => true
  | .pass, .Pass _ => true
  | .never, _ => true
  | .raise c es, .Raise (some (.Call (.Name y _) (x :: xs) [] _)) none _ => decide (c = y) && (gl sc y && (nmOk y && (exLen k c es && chkEs k sc fb es (x :: xs))))
  | .tr b c i xs h, .Try body hds [] [] _ => chkSs k sc fb b body && (decide (xs = k.exs) && (!k.exs.isEmpty && chkHd k sc c i h hds))
  | _, _ => false
def chkSs (k : Ck) (sc : Scope) (fb : Str → Bool) : Ss → List Stmt → Bool
  | .nil, [] => true
  | .cons s r, x :: xs => chkSt k sc fb s x && chkSs k sc fb r xs
  | _, _ => false
end
def SndSt (k : Ck) (s : S) : Prop := ∀ (x : Stmt) {X : Cx} {c : Cc} {sc : Scope} {fb : Str → Bool} {fu : Nat}, Good k X c sc fb → Lvl X → chkSt k sc fb s x = true → PS X x (rdSt c fu s)
def SndSs (k : Ck) (s : Ss) : Prop := ∀ (x : List Stmt) {X : Cx} {c : Cc} {sc : Scope} {fb : Str → Bool} {fu : Nat}, Good k X c sc fb → Lvl X → chkSs k sc fb s x = true → PSs X x (rdSs c fu s)
section
variable {k : Ck} {sc : Scope} {fb : Str → Bool}
theorem isFn_ok (h : isFn sc = true) : sc.kind = .function := by
  unfold isFn at h
  cases z : sc.kind <;> rw [z] at h <;> first | rfl | cases h
theorem nc_ok {v : Expr} (h : notComp v = true) (t : Option Expr) (l : Nat) (env : PySem.Env) : swapsWith v t l env = pure false := by cases v <;> first | rfl | cases h
theorem sub_sw (v : Expr) (o i : Expr) (p : Pos) (l : Nat) (env : PySem.Env) : swapsWith v (some (.Subscript o i p)) l env = pure false := by cases v <;> rfl
theorem tup_sw (v : Expr) (es : List Expr) (n : Nat) (p : Pos) (l : Nat) (env : PySem.Env) : swapsWith v (some (.Tuple es n p)) l env = pure false := by cases v <;> rfl
theorem nt_ok {v : Expr} (h : notTupE v = true) (es : List Expr) (n : Nat) (p : Pos) (env : PySem.Env) : swappedStores [.Tuple es n p] v env = pure none := by cases v <;> first | rfl | cases h
theorem sub_ws (v : Expr) (o i : Expr) (p : Pos) (env : PySem.Env) : swappedStores [.Subscript o i p] v env = pure none := by cases v <;> rfl
theorem swF_ok {x : Str} {px : Pos} {v : Expr} (h : swF sc x px v = true) {env : PySem.Env} (he : env.scope = sc) (l : Nat) : swapsWith v (some (.Name x px)) l env = pure false := by
  cases v <;> first | cases h | skip
  rename_i elt gs scope p
  have h : (isCell sc x || !(px.line == p.line)) = true := h
  show (pure (env.blockKind == .function && env.kindOf x == some .local && px.line == p.line && !(scope.names.any fun (n, k) => n == x && (k == .local || k == .cell))) : Sem Bool) = pure false
  congr 1
  rw [Bool.or_eq_true] at h
  rcases h with h | h
  · have h := cell_ok h
    have q : env.kindOf x = some .cell := by show env.scope.names.lookup x = _; rw [he]; exact h
    rw [q]
    have : (some NameKind.cell == some NameKind.local) = false := by decide
    rw [this]
    simp
  · rw [bn h]
    simp
theorem swT_inv {x : Str} {px : Pos} {v : Expr} (h : swT sc x px v = true) : ∃ elt gs scope p, v = .ListComp elt gs scope p ∧ (isFn sc && (isLocal sc x && ((px.line == p.line) && !(scope.names.any fun (n, k) => n == x && (k == .local || k == .cell))))) = true := by
  cases v <;> first | cases h | exact ⟨_, _, _, _, rfl, h⟩
theorem nameOk_ok (h : nameOk k sc i x = true) {X : Cx} {c : Cc} (g : Good k X c sc fb) (p : Pos) : PE X (.Name x p) (tVar i) := by
  obtain ⟨h1, h2⟩ := ba (show (decide (k.N[i]? = some x) && (vis sc x && nmOk x)) = true from h)
  obtain ⟨h3, h4⟩ := ba h2
  exact pe_var (i := i) (by rw [g.N]; exact of_decide_eq_true h1) (by rw [g.sc]; exact vis_ok h3) (nm_ok h4).1 (nm_ok h4).2.1
theorem locOk_ok {x : Str} (h : locOk sc fb x = true) {X : Cx} {c : Cc} (g : Good k X c sc fb) : Loc X.env.scope x ∧ (X.fn x = true ∨ X.env.scope.names.lookup x = some .local) := by
  unfold locOk at h
  rw [Bool.or_eq_true] at h
  rcases h with h | h
  · have l : X.env.scope.names.lookup x = some .local := by rw [g.sc]; exact local_ok h
    exact ⟨.inl l, .inr l⟩
  · obtain ⟨h3, h4⟩ := ba h
    have l : X.env.scope.names.lookup x = some .cell := by rw [g.sc]; exact cell_ok h3
    exact ⟨.inr l, .inl (by rw [g.fb]; exact h4)⟩
theorem Good.base {X : Cx} {c : Cc} (g : Good k X c sc fb) (B : Addr → Prop) (HB : Hp) : Good k X (c.at B HB) sc fb where
  sc := g.sc
  fb := g.fb
  N := g.N
  nd := g.nd
  calm := g.calm
  K := g.K
  mg := g.mg
  un := g.un
  takes := g.takes
  fr := g.fr
  gm := g.gm
  gs := g.gs
  fns := g.fns
  room := g.room
  exs := g.exs
  exq := g.exq
theorem i_set {i : Nat} {e : E} {X0 : Stmt} (h : chkSt k sc fb (.set i e) X0 = true) : ∃ x px v p, X0 = .Assign [.Name x px] v p ∧ (decide (k.N[i]? = some x) && (locOk sc fb x && (chkE k sc fb e v && (notComp v || (swF sc x px v || swT sc x px v))))) = true := by
  cases X0 <;> first | cases h | skip
  rename_i ts v p
  cases ts with
  | nil => cases h
  | cons t r =>
    cases r with
    | cons _ _ => cases t <;> cases h
    | nil =>
      cases t <;> first | cases h | exact ⟨_, _, _, _, rfl, h⟩
theorem i_setT {ts : List Tg} {e : E} {X0 : Stmt} (h : chkSt k sc fb (.setT ts e) X0 = true) : ∃ es n p v q, X0 = .Assign [.Tuple es n p] v q ∧ (chkTgs k sc fb ts es && (chkE k sc fb e v && (notComp v && notTupE v))) = true := by
  cases X0 <;> first | cases h | skip
  rename_i ts v p
  cases ts with
  | nil => cases h
  | cons t r =>
    cases r with
    | cons _ _ => cases t <;> cases h
    | nil =>
      cases t <;> first | cases h | exact ⟨_, _, _, _, _, rfl, h⟩
theorem i_setIx {i : Nat} {kx e : E} {X0 : Stmt} (h : chkSt k sc fb (.setIx i kx e) X0 = true) : ∃ x p1 y p2 v q, X0 = .Assign [.Subscript (.Name x p1) y p2] v q ∧ (nameOk k sc i x && (notSlice y && (chkE k sc fb kx y && chkE k sc fb e v))) = true := by
  cases X0 <;> first | cases h | skip
  rename_i ts v p
  cases ts with
  | nil => cases h
  | cons t r =>
    cases r with
    | cons _ _ =>
      cases t <;> first | cases h | skip
      rename_i o _ _
      cases o <;> cases h
    | nil =>
      cases t <;> first | cases h | skip
      rename_i o _ _
      cases o <;> first | cases h | exact ⟨_, _, _, _, _, _, rfl, h⟩
theorem i_aug {i : Nat} {o : Op} {e : E} {X0 : Stmt} (h : chkSt k sc fb (.aug i o e) X0 = true) : ∃ x px p v q, X0 = .AugAssign (.Name x px) p v q ∧ (decide (k.N[i]? = some x) && (locOk sc fb x && (opk o p && (augOk o && chkE k sc fb e v)))) = true := by
  cases X0 <;> first | cases h | skip
  rename_i t p v q
  cases t <;> first | cases h | exact ⟨_, _, _, _, _, rfl, h⟩
theorem i_app {i : Nat} {e : E} {X0 : Stmt} (h : chkSt k sc fb (.app i e) X0 = true) : ∃ x px m ap v cp q, X0 = .Expr (.Call (.Attribute (.Name x px) m ap) [v] [] cp) q ∧ (decide (m = ("append" : Str)) && ((ap.endLine == cp.line) && (nameOk k sc i x && (notStar v && chkE k sc fb e v)))) = true := by
  cases X0 <;> first | cases h | skip
  rename_i w q
  cases w <;> first | cases h | skip
  rename_i f as kw cp
  cases f <;> first | cases h | skip
  rename_i o m ap
  cases o <;> first | cases h | skip
  cases as with
  | nil => cases h
  | cons v r =>
    cases r with
    | cons _ _ => cases h
    | nil =>
      cases kw with
      | cons _ _ => cases h
      | nil => exact ⟨_, _, _, _, _, _, _, rfl, h⟩
theorem i_ext {i : Nat} {e : E} {X0 : Stmt} (h : chkSt k sc fb (.ext i e) X0 = true) : ∃ x px m ap v cp q, X0 = .Expr (.Call (.Attribute (.Name x px) m ap) [v] [] cp) q ∧ (decide (m = ("extend" : Str)) && ((ap.endLine == cp.line) && (nameOk k sc i x && (notStar v && chkE k sc fb e v)))) = true := by
  cases X0 <;> first | cases h | skip
  rename_i w q
  cases w <;> first | cases h | skip
  rename_i f as kw cp
  cases f <;> first | cases h | skip
  rename_i o m ap
  cases o <;> first | cases h | skip
  cases as with
  | nil => cases h
  | cons v r =>
    cases r with
    | cons _ _ => cases h
    | nil =>
      cases kw with
      | cons _ _ => cases h
      | nil => exact ⟨_, _, _, _, _, _, _, rfl, h⟩
theorem i_exp {e : E} {X0 : Stmt} (h : chkSt k sc fb (.exp e) X0 = true) : ∃ v q, X0 = .Expr v q ∧ (notComp v && chkE k sc fb e v) = true := by
  cases X0 <;> first | cases h | exact ⟨_, _, rfl, h⟩
theorem i_ret {e : E} {X0 : Stmt} (h : chkSt k sc fb (.ret e) X0 = true) : ∃ v q, X0 = .Return (some v) q ∧ chkE k sc fb e v = true := by
  cases X0 <;> first | cases h | skip
  rename_i v q
  cases v with
  | none => cases h
  | some v => exact ⟨_, _, rfl, h⟩
theorem i_retN {X0 : Stmt} (h : chkSt k sc fb .retN X0 = true) : ∃ q, X0 = .Return none q := by
  cases X0 <;> first | cases h | skip
  rename_i v q
  cases v with
  | none => exact ⟨_, rfl⟩
  | some v => cases h
theorem i_ife {c : E} {a b : Ss} {X0 : Stmt} (h : chkSt k sc fb (.ife c a b) X0 = true) : ∃ t p q r, X0 = .If t p q r ∧ (tOk c && (chkE k sc fb c t && (chkSs k sc fb a p && chkSs k sc fb b q))) = true := by
  cases X0 <;> first | cases h | exact ⟨_, _, _, _, rfl, h⟩
theorem i_fr {tg : Tg} {src : Src} {b : Ss} {X0 : Stmt} (h : chkSt k sc fb (.fr tg src b) X0 = true) : ∃ t it body r, X0 = .For t it body [] r ∧ (chkS k sc fb src t it && (chkTg k sc fb tg t && (chkSs k sc fb b body))) = true := by
  cases X0 <;> first | cases h | skip
  rename_i t it body els q
  cases els with
  | cons _ _ => cases h
  | nil => exact ⟨_, _, _, _, rfl, h⟩
theorem i_wh {c : E} {b : Ss} {X0 : Stmt} (h : chkSt k sc fb (.wh c b) X0 = true) : ∃ t body r, X0 = .While t body [] r ∧ (tOk c && (chkE k sc fb c t && chkSs k sc fb b body)) = true := by
  cases X0 <;> first | cases h | skip
  rename_i t body els q
  cases els with
  | cons _ _ => cases h
  | nil => exact ⟨_, _, _, rfl, h⟩
theorem i_brk {X0 : Stmt} (h : chkSt k sc fb .brk X0 = true) : ∃ p, X0 = .Break p := by
  cases X0 <;> first | exact ⟨_, rfl⟩ | cases h
theorem i_cont {X0 : Stmt} (h : chkSt k sc fb .cont X0 = true) : ∃ p, X0 = .Continue p := by
  cases X0 <;> first | exact ⟨_, rfl⟩ | cases h
theorem i_pass {X0 : Stmt} (h : chkSt k sc fb .pass X0 = true) : ∃ p, X0 = .Pass p := by
  cases X0 <;> first | exact ⟨_, rfl⟩ | cases h
theorem i_raise {c : Str} {es : Es} {X0 : Stmt} (h : chkSt k sc fb (.raise c es) X0 = true) : ∃ y p x xs q r, X0 = .Raise (some (.Call (.Name y p) (x :: xs) [] q)) none r ∧ (decide (c = y) && (gl sc y && (nmOk y && (exLen k c es && chkEs k sc fb es (x :: xs))))) = true := by
  cases X0 <;> first | cases h | skip
  rename_i e cs r
  cases e with
  | none => cases h
  | some e =>
    cases e <;> first | cases h | skip
    rename_i fn as kw q
    cases fn <;> first | cases h | skip
    cases as with
    | nil => cases h
    | cons x xs =>
      cases kw with
      | cons _ _ => cases h
      | nil =>
        cases cs with
        | some _ => cases h
        | none => exact ⟨_, _, _, _, _, _, rfl, h⟩
theorem i_tr {b : Ss} {c : Str} {i : Option Nat} {xs : List (Str × List Str)} {h : Hn} {X0 : Stmt} (e : chkSt k sc fb (.tr b c i xs h) X0 = true) : ∃ body hds p, X0 = .Try body hds [] [] p ∧ (chkSs k sc fb b body && (decide (xs = k.exs) && (!k.exs.isEmpty && chkHd k sc c i h hds))) = true := by
  cases X0 <;> first | cases e | skip
  rename_i body hds els fin p
  cases els with
  | cons _ _ => cases e
  | nil =>
    cases fin with
    | cons _ _ => cases e
    | nil => exact ⟨_, _, _, rfl, e⟩
theorem i_hd {c : Str} {i : Option Nat} {h : Hn} {hds : List ExceptHandler} (e : chkHd k sc c i h hds = true) : ∃ z np n b suite p, hds = [.ExceptHandler (some (.Name z np)) n (b :: suite) p] ∧ (decide (z = c) && (k.cls.contains c && (gl sc z && (nmOk z && (chkHn k sc n h (b :: suite) && nmB k sc i n))))) = true := by
  cases hds with
  | nil => cases e
  | cons hd r =>
    cases hd
    rename_i ty n suite p
    cases ty with
    | none => cases e
    | some ty =>
      cases ty <;> first | cases e | skip
      rename_i z np
      cases suite with
      | nil => cases e
      | cons b suite =>
        cases r with
        | cons _ _ => cases e
        | nil => exact ⟨_, _, _, _, _, _, rfl, e⟩
theorem i_cons {s : S} {r : Ss} {xs : List Stmt} (h : chkSs k sc fb (.cons s r) xs = true) : ∃ x ys, xs = x :: ys ∧ (chkSt k sc fb s x && chkSs k sc fb r ys) = true := by
  cases xs with
  | nil => cases h
  | cons x ys => exact ⟨x, ys, rfl, h⟩
theorem i_nil {xs : List Stmt} (h : chkSs k sc fb .nil xs = true) : xs = [] := by
  cases xs with
  | nil => rfl
  | cons _ _ => cases h
end
end PyI
/-! PyI, part 13: checked statements run as the interpreter says. -/
namespace PyI
open PySem PySem.Spec PyProof.Rows L2
theorem PSs.ex {ι κ : Type} {X : Cx} {st : List Stmt} {t : ι → κ → TS} (h : ∀ i j, PSs X st (t i j)) : PSs X st (fun D σ H => ∃ i j, t i j D σ H) := ⟨fun pins s σ H D I ⟨i, j, q⟩ => (h i j).run pins s σ H D I q⟩
section
variable {k : Ck}
theorem comp_of {sc : Scope} {fb : Str → Bool} {e : E} {elt : Expr} {gs : List Comprehension} {scope : Scope} {q : Pos} (h : chkE k sc fb e (.ListComp elt gs scope q) = true) : (∃ a tg src own, e = .comp a tg src own) ∨ (∃ a tg src c own, e = .compIf a tg src c own) ∨ ∃ a tg src tg1 src1 own vs1, e = .comp2 a tg src tg1 src1 own vs1 := by
  cases e <;> first | exact .inl ⟨_, _, _, _, rfl⟩ | exact .inr (.inl ⟨_, _, _, _, _, rfl⟩) | exact .inr (.inr ⟨_, _, _, _, _, _, _, rfl⟩) | cases h | (rename_i f es; cases es <;> cases h)
theorem s_set (i : Nat) (e : E) : SndSt k (.set i e) := by
  intro X0 X c sc fb fu g hp h
  obtain ⟨x, px, v, p, rfl, h⟩ := i_set h
  obtain ⟨h1, h⟩ := ba h
  obtain ⟨h2, h⟩ := ba h
  obtain ⟨h3, h⟩ := ba h
  have hN : X.N[i]? = some x := by rw [g.N]; exact of_decide_eq_true h1
  obtain ⟨hl, hf⟩ := locOk_ok h2 g
  rw [Bool.or_eq_true] at h
  have go : swapsWith v (some (.Name x px)) p.line X.env = pure false → PS X (.Assign [.Name x px] v p) (rdSt c fu (.set i e)) := fun hs =>
    psImp (ps_set g.nd hN hl (peE k e v g h3) hs hf) fun D σ H q => ls_set q
  rcases h with h | h
  · exact go (nc_ok h _ _ _)
  rw [Bool.or_eq_true] at h
  rcases h with h | h
  · exact go (swF_ok h g.sc _)
  · obtain ⟨elt, gs, scope, q, rfl, h⟩ := swT_inv h
    obtain ⟨w1, h⟩ := ba h
    obtain ⟨w2, h⟩ := ba h
    obtain ⟨w3, w4⟩ := ba h
    have xl : X.env.scope.names.lookup x = some .local := by rw [g.sc]; exact local_ok w2
    have hsw := sw_true (elt := elt) (gs := gs) (scope := scope) (pos := q) (py := px) (y := x) (l := p.line) (env := X.env) (by rw [g.sc]; exact isFn_ok w1) xl w3 (bn w4)
    rcases comp_of h3 with ⟨elt0, tg, src, own, rfl⟩ | ⟨elt0, tg, src, cd, own, rfl⟩ | ⟨elt0, tg, src, tg1, src1, own, vs1, rfl⟩
    · skip
      obtain ⟨x1, t, it, scope1, q1, e1, hh⟩ := inv_comp h3
      cases e1
      obtain ⟨h1, h2⟩ := ba (show (blkC k.N sc scope (ownN k.N own) && (chkS k sc fb src t it && ((liS src).isEmpty && ((tgIx tg).all (own.contains ·) && (chkTg k (relS scope sc) (isCell scope) tg t && chkE k (relS scope sc) (isCell scope) elt0 elt))))) = true from hh)
      obtain ⟨h3', h4⟩ := ba h2
      obtain ⟨h5, h6⟩ := ba h4
      obtain ⟨h7, h8⟩ := ba h6
      obtain ⟨h9, h10⟩ := ba h8
      have r := ps_setLc (own := ownN k.N own) (g := tgG X.K tg) (spos := p) g.calm g.nd hN xl hsw (piS k src t it g h3') (by rw [g.N, g.sc]; exact blkOk_by h1) (fun s H C cl fp => pgTg (g.blk s H scope cl C fp) tg t h9) (fun s H C cl fp => pts_nil) (fun s H C cl fp => peE k elt0 elt (g.blk s H scope cl C fp) h10) (fun v => set_ok (chkS_set h3') X.env v)
      rw [own_snd] at r
      exact psImp r fun D σ H q => lp_comp g.K (by simpa using h5) (fun i hi => by have := List.all_eq_true.mp h7 i hi; simpa using this) (ls_set q)
    · skip
      obtain ⟨x1, t, it, i1, scope1, q1, e1, hh⟩ := inv_compIf h3
      cases e1
      obtain ⟨h1, h2⟩ := ba (show (blkC k.N sc scope (ownN k.N own) && (chkS k sc fb src t it && ((liS src).isEmpty && ((tgIx tg).all (own.contains ·) && (tOk cd && (chkTg k (relS scope sc) (isCell scope) tg t && (chkE k (relS scope sc) (isCell scope) cd i1 && chkE k (relS scope sc) (isCell scope) elt0 elt))))))) = true from hh)
      obtain ⟨h3', h4⟩ := ba h2
      obtain ⟨h5, h6⟩ := ba h4
      obtain ⟨h7, h8⟩ := ba h6
      obtain ⟨h11, h8⟩ := ba h8
      obtain ⟨h9, h10⟩ := ba h8
      obtain ⟨h12, h10⟩ := ba h10
      have r := ps_setLc (own := ownN k.N own) (g := tgG X.K tg) (spos := p) g.calm g.nd hN xl hsw (piS k src t it g h3') (by rw [g.N, g.sc]; exact blkOk_by h1) (fun s H C cl fp => pgTg (g.blk s H scope cl C fp) tg t h9) (fun s H C cl fp => pts_one (ptE k cd i1 (g.blk s H scope cl C fp) h11 h12)) (fun s H C cl fp => peE k elt0 elt (g.blk s H scope cl C fp) h10) (fun v => set_ok (chkS_set h3') X.env v)
      rw [own_snd] at r
      exact psImp r fun D σ H q => lp_compIf g.K (by simpa using h5) (fun i hi => by have := List.all_eq_true.mp h7 i hi; simpa using this) (ls_set q)
    · skip
      obtain ⟨x1, t, it, t1, it1, scope1, q1, e1, w⟩ := inv_comp2 h3
      cases e1
      obtain ⟨h1, w⟩ := ba w
      obtain ⟨h2, w⟩ := ba w
      obtain ⟨h3', w⟩ := ba w
      obtain ⟨h4, w⟩ := ba w
      obtain ⟨h5, w⟩ := ba w
      obtain ⟨h6, w⟩ := ba w
      obtain ⟨h7, w⟩ := ba w
      obtain ⟨h8, w⟩ := ba w
      obtain ⟨h9, w⟩ := ba w
      obtain ⟨h10, h11⟩ := ba w
      have r := ps_setLc2 (own := ownN k.N own) (vs1 := vs1) (g := tgG X.K tg) (g1 := tgG X.K tg1) (spos := p) g.calm g.nd hN xl hsw (piS k src t it g h2) (by rw [g.N, g.sc]; exact blkOk_by h1) (by rw [own_snd]; exact fun i hi => (by have := List.all_eq_true.mp h9 i hi; simpa using this)) (fun s H C cl fp => pgTg (g.blk s H scope cl C fp) tg t h5) (fun s H C cl fp => pts_nil) (fun s H C cl fp => piS k src1 t1 it1 (g.blk s H scope cl C fp) h6) (fun s H C cl fp => pgTg (g.blk s H scope cl C fp) tg1 t1 h10) (fun s H C cl fp => pts_nil) (fun s H C cl fp => peE k elt0 elt (g.blk s H scope cl C fp) h11) (fun v => set_ok (chkS_set h2) X.env v) (fun env v => set_ok (chkS_set h6) env v)
      rw [own_snd] at r
      exact psImp r fun D σ H q => lp_comp2 g.K (by simpa using h3') (by simpa using h7) (fun i hi => by have := List.all_eq_true.mp h4 i hi; simpa using this) (fun i hi => by have := List.all_eq_true.mp h8 i hi; simpa using this) (ls_set q)
theorem s_setT (ts : List Tg) (e : E) : SndSt k (.setT ts e) := by
  intro X0 X c sc fb fu g hp h
  obtain ⟨es, n, p, v, q, rfl, h⟩ := i_setT h
  obtain ⟨h1, h⟩ := ba h
  obtain ⟨h2, h⟩ := ba h
  obtain ⟨h3, h4⟩ := ba h
  have pg := pgTg (X := X) g (.tup ts) (.Tuple es n p) h1
  rw [← g.K] at pg
  exact psImp (ps_asg (peE k e v g h2) pg (tup_sw v es n p q.line X.env) (nt_ok h4 es n p X.env) rfl) fun D σ H q => ls_setT q
theorem s_setIx (i : Nat) (kx e : E) : SndSt k (.setIx i kx e) := by
  intro X0 X c sc fb fu g hp h
  obtain ⟨x, p1, y, p2, v, q, rfl, h⟩ := i_setIx h
  obtain ⟨h1, h⟩ := ba h
  obtain ⟨h2, h⟩ := ba h
  obtain ⟨h3, h4⟩ := ba h
  exact psImp (ps_asg (peE k e v g h4) (pg_sub (pos := p2) (nameOk_ok h1 g p1) (peE k kx y g h3) set_list (by intro w; cases y <;> first | rfl | cases h2)) (sub_sw v (.Name x p1) y p2 q.line X.env) (sub_ws v (.Name x p1) y p2 X.env) rfl) fun D σ H q => ls_setIx q
theorem s_aug (i : Nat) (o : Op) (e : E) : SndSt k (.aug i o e) := by
  intro X0 X c sc fb fu g hp h
  obtain ⟨x, px, p, v, q, rfl, h⟩ := i_aug h
  obtain ⟨h1, h⟩ := ba h
  obtain ⟨h2, h⟩ := ba h
  obtain ⟨h3, h⟩ := ba h
  obtain ⟨h0, h4⟩ := ba h
  have hN : X.N[i]? = some x := by rw [g.N]; exact of_decide_eq_true h1
  obtain ⟨hl, hf⟩ := locOk_ok h2 g
  have ep := opk_ok h3
  subst ep
  cases o with
  | add => exact psImp (ps_aug g.nd hN hl (peE k e v g h4) ip_add hf) fun D σ H q => (ls_aug q).1 rfl
  | sub => exact psImp (ps_aug g.nd hN hl (peE k e v g h4) ip_sub hf) fun D σ H q => (ls_aug q).2 rfl
  | _ => cases h0
theorem s_app (i : Nat) (e : E) : SndSt k (.app i e) := by
  intro X0 X c sc fb fu g hp h
  obtain ⟨x, px, m, ap, v, cp, q, rfl, h⟩ := i_app h
  obtain ⟨h1, h⟩ := ba h
  obtain ⟨h2, h⟩ := ba h
  obtain ⟨h3, h⟩ := ba h
  obtain ⟨h4, h5⟩ := ba h
  have e := of_decide_eq_true h1
  subst e
  have pa : PA X [v] (tCons (rdE c e) tNil) := pa_cons (peE k e v g h5) pa_nil (star_ok h4 [] X.env)
  have r := pe_bm (cpos := cp) (apos := ap) PySem.F.plainAttrs_list PySem.F.slot_list_append PySem.F.type_list_append mt_append (nameOk_ok h3 g px) pa rfl (by rw [star_ok h4]; rfl) h2 (star_ok h4 [] X.env) rfl
  rw [← g.K] at r
  exact psImp (ps_expr r rfl) fun D σ H q => ls_app q
theorem s_ext (i : Nat) (e : E) : SndSt k (.ext i e) := by
  intro X0 X c sc fb fu g hp h
  obtain ⟨x, px, m, ap, v, cp, q, rfl, h⟩ := i_ext h
  obtain ⟨h1, h⟩ := ba h
  obtain ⟨h2, h⟩ := ba h
  obtain ⟨h3, h⟩ := ba h
  obtain ⟨h4, h5⟩ := ba h
  have e := of_decide_eq_true h1
  subst e
  have pa : PA X [v] (tCons (rdE c e) tNil) := pa_cons (peE k e v g h5) pa_nil (star_ok h4 [] X.env)
  have r := pe_bm (cpos := cp) (apos := ap) PySem.F.plainAttrs_list PySem.F.slot_list_extend PySem.F.type_list_extend mt_extend (nameOk_ok h3 g px) pa rfl (by rw [star_ok h4]; rfl) h2 (star_ok h4 [] X.env) rfl
  rw [← g.K] at r
  exact psImp (ps_expr r rfl) fun D σ H q => ls_ext q
theorem s_exp (e : E) : SndSt k (.exp e) := by
  intro X0 X c sc fb fu g hp h
  obtain ⟨v, q, rfl, h⟩ := i_exp h
  obtain ⟨h1, h2⟩ := ba h
  exact psImp (ps_expr (peE k e v g h2) (nc_ok h1 _ _ _)) fun D σ H q => ls_exp q
theorem s_ret (e : E) : SndSt k (.ret e) := by
  intro X0 X c sc fb fu g hp h
  obtain ⟨v, q, rfl, h⟩ := i_ret h
  exact psImp (ps_ret (peE k e v g h)) fun D σ H q => ls_ret q
theorem s_retN : SndSt k .retN := by
  intro X0 X c sc fb fu g hp h
  obtain ⟨q, rfl⟩ := i_retN h
  exact psImp ps_retN fun D σ H q => ls_retN q
theorem s_brk : SndSt k .brk := by
  intro X0 X c sc fb fu g hp h
  obtain ⟨q, rfl⟩ := i_brk h
  exact psImp ps_break fun D σ H ⟨own, τ, S, h⟩ => h own σ H S
theorem s_cont : SndSt k .cont := by
  intro X0 X c sc fb fu g hp h
  obtain ⟨q, rfl⟩ := i_cont h
  exact psImp ps_continue fun D σ H ⟨own, τ, S, h⟩ => h own σ H S
theorem s_pass : SndSt k .pass := by
  intro X0 X c sc fb fu g hp h
  obtain ⟨q, rfl⟩ := i_pass h
  exact psImp ps_pass fun D σ H ⟨own, τ, S, h⟩ => h own σ H S
theorem s_never : SndSt k .never := by
  intro X0 X c sc fb fu g hp h
  exact psImp ps_never fun D σ H ⟨own, τ, S, h⟩ => h
theorem s_raise (x : Str) (es : Es) : SndSt k (.raise x es) := by
  intro X0 X c sc fb fu g hp h
  obtain ⟨y, p, e, xs, q, r, rfl, h⟩ := i_raise h
  obtain ⟨h1, h⟩ := ba h
  obtain ⟨h2, h⟩ := ba h
  obtain ⟨h3, h⟩ := ba h
  obtain ⟨h4, h5⟩ := ba h
  cases of_decide_eq_true h1
  unfold exLen at h4
  cases hl : k.exs.lookup x with
  | none => rw [hl] at h4; cases h4
  | some fl =>
    rw [hl] at h4
    obtain ⟨C, fI, fd, ps, T, iC, tI, F1, hb, hm, hf, h9⟩ := g.exs _ (ex_mem hl)
    obtain ⟨st1, r0, st2⟩ := chkEs_head h5
    have mk := pmk_oex (p := p) (pos := q) T iC tI F1 g.room hb .nil passL (g.gl h2) hm (paEs k es (e :: xs) g h5) (nm_ok h3).1 (star_ok st1 xs X.env) (stars_plain st2)
    exact psImp (ps_raise g.calm g.takes mk) fun D σ H q => ls_raise (by rw [g.mg]; exact hm) hf (of_decide_eq_true h4) h9 q
/-- the context of a try's body -/
theorem Good.tr {X : Cx} {c : Cc} {sc : Scope} {fb : Str → Bool} (g : Good k X c sc fb) {pn : List (Addr × Obj)} {xe : Value → Shared → Prop} {W : WX} (tk : Takes (X.tr pn xe) W) : Good k (X.tr pn xe) { c with W := W } sc fb where
  sc := g.sc
  fb := g.fb
  N := g.N
  nd := g.nd
  calm := g.calm
  K := g.K
  mg := g.mg
  un := g.un
  takes := tk
  fr := g.fr
  gm := g.gm
  gs := g.gs
  fns := g.fns
  room := g.room
  exs := g.exs
  exq := g.exq
theorem Sim.w {c : Cc} {W : WX} {own : Nat → Option Addr} {τ : Env} {σ : L2.St} {H : Hp} (S : Sim c own τ σ H) : Sim { c with W := W } own τ σ H := ⟨S.len, S.val, S.ows, S.inj, S.al, S.fin, S.f0, S.same, S.bs.k, S.bs.n, S.bs.f⟩
theorem Sim.uw {c : Cc} {W : WX} {own : Nat → Option Addr} {τ : Env} {σ : L2.St} {H : Hp} (S : Sim { c with W := W } own τ σ H) : Sim c own τ σ H := ⟨S.len, S.val, S.ows, S.inj, S.al, S.fin, S.f0, S.same, S.bs.k, S.bs.n, S.bs.f⟩
/-- a try, read -/
theorem ls_tr {X : Cx} {c : Cc} {sc : Scope} {fb : Str → Bool} {fu : Nat} (g : Good k X c sc fb) {b : Ss} {x : Str} {i : Option Nat} {xs : List (Str × List Str)} {hn : Hn} {D : Ends} {σ : L2.St} {H : Hp} {W : WX} (hxs : xs = k.exs)
    (hW : ∀ y ds σ' H' cls dd, (∃ fl, (y, fl) ∈ k.exs) → ExAt c.K c.mg c.xf c.F0 H' y ds cls dd → Same c.H0 H' →
      (subX y x = true → ∃ d, hnD xs y ds hn = .ok d ∧ ∀ v H2, Same c.H0 H2 → Rep c.K c.F0 H2 d v → D.rt v H2) → (subX y x = false → c.W cls dd σ' H') → W cls dd σ' H')
    (q : rdSt c fu (.tr b x i xs hn) D σ H) : rdSs { c with W := W } fu b D σ H := by
  obtain ⟨own, τ, S, h⟩ := q
  have h : EndS c D (trO xs x hn (exL c.G c.Φ fu b τ)) := h
  refine ⟨own, τ, S.w, ?_⟩
  show EndS { c with W := W } D (exL c.G c.Φ fu b τ)
  cases z : exL c.G c.Φ fu b τ with
  | nx τ' =>
    rw [z] at h
    exact fun own σ H S' => h own σ H S'.uw
  | rt d =>
    rw [z] at h
    exact h
  | bk τ' =>
    rw [z] at h
    exact fun own σ H S' => h own σ H S'.uw
  | ct τ' =>
    rw [z] at h
    exact fun own σ H S' => h own σ H S'.uw
  | bad => rw [z] at h; exact h.elim
  | exc y ds =>
    rw [z] at h
    intro own' τ' σ' H' S' cls dd H2 s2 ex
    have h : EndS c D (if (xs.lookup y).isSome then (if subX y x then (match hnD xs y ds hn with
      | .ok d => .rt d
      | _ => .bad) else .exc y ds) else .bad) := h
    by_cases hs : (xs.lookup y).isSome = true
    · rw [if_pos hs] at h
      obtain ⟨fl, hfl⟩ := Option.isSome_iff_exists.mp hs
      refine hW y ds σ' H2 cls dd ⟨fl, by rw [← hxs]; exact ex_mem hfl⟩ ex (S'.same.trans s2) (fun hb => ?_) fun hb => ?_
      · rw [if_pos hb] at h
        cases e : hnD xs y ds hn with
        | ok d => rw [e] at h; exact ⟨d, rfl, h⟩
        | exc _ _ => rw [e] at h; exact h.elim
        | bad => rw [e] at h; exact h.elim
      · rw [hb] at h
        exact h own' τ' σ' H' S'.uw cls dd H2 s2 ex
    · rw [if_neg hs] at h
      exact h.elim
theorem s_tr (b : Ss) (x : Str) (i : Option Nat) (xs : List (Str × List Str)) (hn : Hn) (hb : SndSs k b) : SndSt k (.tr b x i xs hn) := by
  intro X0 X c sc fb fu g hp h
  obtain ⟨body, hds, p, rfl, h⟩ := i_tr h
  obtain ⟨h1, h⟩ := ba h
  obtain ⟨h2, h⟩ := ba h
  obtain ⟨hne, h3⟩ := ba h
  have hxs : xs = k.exs := of_decide_eq_true h2
  obtain ⟨z, np, n, b0, suite, p', rfl, u1⟩ := i_hd h3
  obtain ⟨h4, u2⟩ := ba u1
  obtain ⟨h5, u3⟩ := ba u2
  obtain ⟨h6, u4⟩ := ba u3
  obtain ⟨h7, u5⟩ := ba u4
  obtain ⟨h8, h9⟩ := ba u5
  cases of_decide_eq_true h4
  have hz : x ∈ k.cls := by simpa using h5
  have gz : Gl X x := g.gl h6
  have inner : ∀ (W : WX) (pn : List (Addr × Obj)) (xe : Value → Shared → Prop), Takes (X.tr pn xe) W → PassesOwn (model X.prog X.w) X.A X.env xe → PSs (X.tr pn xe) body (rdSs { c with W := W } fu b) := fun W pn xe tk pw => hb body (g.tr tk) ⟨pw, hp.stk, hp.frm⟩ h1
  have hex : ∃ q, q ∈ k.exs := by
    cases e : k.exs with
    | nil => rw [e] at hne; cases hne
    | cons q r => exact ⟨q, List.mem_cons_self⟩
  · obtain ⟨⟨q1, q2⟩, hq⟩ := hex
    obtain ⟨_, _, _, _, _, _, hcv⟩ := g.exq _ hq
    obtain ⟨cv, hcv, _⟩ := hcv x hz
    have hN : Names X x cv := ⟨gz, (nm_ok h7).1, by
      rcases hcv with ⟨a, rfl, hm⟩ | ⟨rfl, rfl, hm⟩
      · exact .inl hm
      · exact .inr ⟨hm, by decide +kernel, by decide⟩⟩
    have same : ∀ {cls : Value} {dd : Option Addr} {y : Str} {ds : List PyI.D} {H' : Hp}, (∃ fl, (y, fl) ∈ k.exs) → ExAt c.K c.mg c.xf c.F0 H' y ds cls dd → PySem.W.exmOne X.K cls cv = some (subX y x) := by
      intro cls dd y ds H' ⟨fl, hm⟩ ex
      obtain ⟨C, e1, _, _, _, _, e2⟩ := g.exq _ hm
      obtain ⟨cv', e3, _, e5⟩ := e2 x hz
      obtain ⟨C', e6, e7, _⟩ := ex
      rw [g.mg, e1] at e6
      cases e6
      have : cv' = cv := by
        rcases e3 with ⟨a, rfl, hm⟩ | ⟨rfl, hz1, hm⟩
        · rcases hcv with ⟨a', rfl, hm'⟩ | ⟨rfl, _, hm'⟩
          · rw [hm] at hm'
            cases hm'
            rfl
          · rw [hm] at hm'; cases hm'
        · rcases hcv with ⟨a', rfl, hm'⟩ | ⟨rfl, _, hm'⟩
          · rw [hm] at hm'; cases hm'
          · rfl
      rw [e7, ← this]
      exact e5
    have hc : ∀ a cls d, HGood k X ⟨c, xs, i, a, cls, d⟩ sc n := fun a cls d => {
      sc := g.sc
      N := g.N
      K := g.K
      mg := g.mg
      fr := g.fr
      xs := hxs
      xf := fun p hp => by
        obtain ⟨_, _, _, _, _, _, _, _, _, _, e, _⟩ := g.exs p hp
        exact e
      exq := g.exq
      nm := fun y hy => by
        subst hy
        cases i with
        | none => cases h9
        | some i =>
          obtain ⟨w1, w⟩ := ba (show (decide (k.N[i]? = some y) && (isLocal sc y && nmOk y)) = true from h9)
          obtain ⟨w2, w3⟩ := ba w
          exact ⟨i, rfl, of_decide_eq_true w1, by rw [g.sc]; exact local_ok w2, w3⟩ }
    have look : ∀ {y : Str}, (∃ fl, (y, fl) ∈ k.exs) → (xs.lookup y).isSome = true := fun {y} ⟨fl, hm⟩ => by
      rw [hxs]
      revert hm
      generalize k.exs = l
      intro hm
      induction l with
      | nil => cases hm
      | cons p r ih =>
        obtain ⟨u, w⟩ := p
        rw [List.lookup_cons]
        split
        · rfl
        · rename_i ne
          rcases List.mem_cons.mp hm with e | m
          · cases e
            simp at ne
          · exact ih m
    cases n with
    | some n =>
      cases i with
      | none => cases h9
      | some i =>
        obtain ⟨w1, w⟩ := ba (show (decide (k.N[i]? = some n) && (isLocal sc n && nmOk n)) = true from h9)
        obtain ⟨w2, w3⟩ := ba w
        refine psImp (ps_try_as (i := i) hp.stk hp.frm g.nd (by rw [g.N]; exact of_decide_eq_true w1) (by show X.env.scope.names.lookup n = _; rw [g.sc]; exact local_ok w2) hN g.takes inner (fun a oe cls d pn zc hf => hnS k hn (b0 :: suite) X ⟨c, xs, some i, a, cls, d⟩ sc (some n) oe pn (hc a cls d) zc hf h8)) fun D σ H q => ?_
        refine ls_tr g hxs (fun y ds σ' H' cls dd hy ex sm k1 k2 => ⟨_, same hy ex, fun hb a ha => ?_, k2⟩) q
        obtain ⟨d, e1, e2⟩ := k1 hb
        exact ⟨y, ds, ⟨fun j hj => by cases hj; exact ⟨σ', rfl⟩, look hy, ex⟩, d, e1, fun v H2 s r => e2 v H2 (sm.trans s) r⟩
    | none =>
      cases i with
      | some i => cases h9
      | none =>
        refine psImp (ps_try_many hp.stk hp.frm g.takes inner (.cons hN (fun a oe cls d pn zc hf => hnS k hn (b0 :: suite) X ⟨c, xs, none, a, cls, d⟩ sc none oe pn (hc a cls d) zc hf h8) .nil)) fun D σ H q => ?_
        refine ls_tr g hxs (fun y ds σ' H' cls dd hy ex sm k1 k2 => ⟨_, same hy ex, fun hb a ha => ?_, k2⟩) q
        obtain ⟨d, e1, e2⟩ := k1 hb
        exact ⟨y, ds, ⟨fun j hj => (by cases hj), look hy, ex⟩, d, e1, fun v H2 s r => e2 v H2 (sm.trans s) r⟩
theorem s_ife (c : E) (a b : Ss) (ha : SndSs k a) (hb : SndSs k b) : SndSt k (.ife c a b) := by
  intro X0 X c' sc fb fu g hp h
  obtain ⟨t, p, q, r, rfl, h⟩ := i_ife h
  obtain ⟨h1, h⟩ := ba h
  obtain ⟨h2, h⟩ := ba h
  obtain ⟨h3, h4⟩ := ba h
  exact psImp (ps_if (ptE k c t g h1 h2) (ha p g hp h3) (hb q g hp h4)) fun D σ H q => ls_ife q
theorem s_wh (c : E) (b : Ss) (hb : SndSs k b) : SndSt k (.wh c b) := by
  intro X0 X c' sc fb fu g hp h
  obtain ⟨t, p, r, rfl, h⟩ := i_wh h
  obtain ⟨h1, h⟩ := ba h
  obtain ⟨h2, h3⟩ := ba h
  exact psImp (ps_while hp.ps (ptE k c t g h1 h2) (hb p g hp h3)) fun D σ H q => ls_wh q
theorem s_fr (tg : Tg) (src : Src) (b : Ss) (hb : SndSs k b) : SndSt k (.fr tg src b) := by
  intro X0 X c' sc fb fu g hp h
  obtain ⟨t, it, p, r, rfl, h⟩ := i_fr h
  obtain ⟨h1, h⟩ := ba h
  obtain ⟨h2, h3⟩ := ba h
  have pg := pgTg (X := X) g tg t h2
  rw [← g.K] at pg
  exact psImp (ps_for hp.ps g.calm (piS k src t it g h1) pg (PSs.ex fun B HB => hb p (g.base B HB) hp h3) (fun v => set_ok (chkS_set h1) X.env v)) fun D σ H q => ls_fr q
end
mutual
theorem psS (k : Ck) : ∀ s : S, SndSt k s
  | .set i e => s_set i e
  | .setT ts e => s_setT ts e
  | .setIx i kx e => s_setIx i kx e
  | .aug i o e => s_aug i o e
  | .app i e => s_app i e
  | .ext i e => s_ext i e
  | .ins _ _ _ => fun x _ _ _ _ _ _ _ h => by cases x <;> cases h
  | .exp e => s_exp e
  | .ret e => s_ret e
  | .retN => s_retN
  | .ife c a b => s_ife c a b (psL k a) (psL k b)
  | .fr tg src b => s_fr tg src b (psL k b)
  | .wh c b => s_wh c b (psL k b)
  | .brk => s_brk
  | .cont => s_cont
  | .pass => s_pass
  | .never => s_never
  | .raise c es => s_raise c es
  | .tr b c i xs h => s_tr b c i xs h (psL k b)
theorem psL (k : Ck) : ∀ s : Ss, SndSs k s
  | .nil => fun x X c sc fb fu g hp h => by
    cases i_nil h
    exact pssImp pss_nil fun D σ H q => ls_nil q
  | .cons s r => fun x X c sc fb fu g hp h => by
    obtain ⟨y, ys, rfl, h⟩ := i_cons h
    obtain ⟨h1, h2⟩ := ba h
    exact pssImp (pss_cons (psS k s y g hp h1) (psL k r ys g hp h2)) fun D σ H q => ls_cons q
end
end PyI
/-! PyI, part 14: the defs of a table keep what the interpreter says. -/
namespace PyI
open PySem PySem.Spec PyProof.Rows L2
structure DDef where
  name : Str
  ps : List Str
  N : List Str
  st : Stmt
  body : Ss
/-- an exception: the class, its fields in order of storing, its __init__'s parameters and names -/
structure XDef where
  name : Str
  fs : List Str
  ps : List Str
  N : List Str
structure Tbl where
  defs : List DDef
  G : List (Str × D)
  /-- built-in names that the module leaves alone -/
  fr : List Str
  gm : List Str
  fu : Nat
  xds : List XDef := []
  /-- classes that except and isinstance ask for -/
  cls : List Str := []
  /-- the program's file -/
  file : Str := Str.empty
def Tbl.exs (T : Tbl) : List (Str × List Str) := T.xds.map fun x => (x.name, x.fs)
def DDef.fn (d : DDef) : Fn := ⟨d.ps.length, d.N.length, d.body⟩
def findD : List DDef → Str → Option DDef
  | [], _ => none
  | d :: r, x => if d.name = x then some d else findD r x
def Tbl.prg (T : Tbl) : Prg := ⟨fun x => T.G.lookup x, fun x => (findD T.defs x).map DDef.fn, T.fu⟩
def Tbl.ck (T : Tbl) (d : DDef) : Ck := ⟨d.N, T.fr, T.gm, T.defs.map (·.name), T.G.map (·.1), T.exs, T.cls⟩
def Tbl.xf (T : Tbl) (x : Str) : List Str := (T.exs.lookup x).getD []
theorem findD_mem {x : Str} {d : DDef} : ∀ {l : List DDef}, findD l x = some d → d ∈ l ∧ d.name = x
  | [], h => by cases h
  | e :: r, h => by
    unfold findD at h
    split at h
    · rename_i q
      cases h
      exact ⟨List.mem_cons_self, q⟩
    · obtain ⟨a, b⟩ := findD_mem h
      exact ⟨List.mem_cons_of_mem _ a, b⟩
theorem findD_some {x : Str} : ∀ {l : List DDef}, x ∈ l.map (·.name) → ∃ d, findD l x = some d
  | [], h => by cases h
  | e :: r, h => by
    unfold findD
    by_cases q : e.name = x
    · exact ⟨e, if_pos q⟩
    · rw [if_neg q]
      refine findD_some ?_
      rcases List.mem_cons.mp h with z | z
      · exact absurd z.symm q
      · exact z
/-! ### a def's scope -/
def paramsOk (ps : List Str) : Arguments → Bool
  | ⟨[], as, none, [], [], none, []⟩ => decide (as.map (·.arg) = ps)
  | _ => false
def ndup : List Str → Bool
  | [] => true
  | x :: r => r.all (fun y => !decide (y = x)) && ndup r
theorem ndup_ok : ∀ {l : List Str}, ndup l = true → l.Nodup
  | [], _ => List.nodup_nil
  | x :: r, h => by
    obtain ⟨h1, h2⟩ := ba (show (r.all (fun y => !decide (y = x)) && ndup r) = true from h)
    refine List.nodup_cons.mpr ⟨fun m => ?_, ndup_ok h2⟩
    have := List.all_eq_true.mp h1 x m
    simp at this
def scB (N ps : List Str) (sc : Scope) : Bool := isFn sc && (!sc.isCoroutine && (!sc.isGenerator && (ndup N && (decide (N.take ps.length = ps) && (ps.all (fun x => isLocal sc x || isCell sc x) && sc.names.all fun y => !decide (y.2 = .free))))))
theorem scB_ok {N ps : List Str} {sc : Scope} (h : scB N ps sc = true) : FnScope N ps sc := by
  obtain ⟨h1, h⟩ := ba h
  obtain ⟨h2, h⟩ := ba h
  obtain ⟨h3, h⟩ := ba h
  obtain ⟨h4, h⟩ := ba h
  obtain ⟨h5, h⟩ := ba h
  obtain ⟨h6, h7⟩ := ba h
  refine ⟨isFn_ok h1, bn h2, bn h3, ndup_ok h4, of_decide_eq_true h5, fun x hx => ?_, fun y hy => ?_⟩
  · have := List.all_eq_true.mp h6 x hx
    rw [Bool.or_eq_true] at this
    exact this.imp local_ok cell_ok
  · have := List.all_eq_true.mp h7 y hy
    exact of_decide_eq_false (bn this)
/-- the check of a def -/
def chkD (T : Tbl) (d : DDef) : Bool := scB d.N d.ps (defScope d.st) && chkSs (T.ck d) (defScope d.st) (fun _ => true) d.body (defBody d.st)
/-- a row's binding of plain parameters -/
def BindOk (d : DDef) : Prop := ∀ (kV doc pm : Value) (an : Option Addr) (cdv ct : Value) (us : List Value), us.length = d.ps.length → bindArgs (PySem.W.fnOf d.name d.name (defArgs d.st) (defBody d.st) (defScope d.st) .none kV doc pm an cdv ct) ⟨us, []⟩ = pure (d.ps.zip us)
section
variable {P : Program} {w : World} {K : PySem.W.Frag} {mg : Str → Option Value} {base : Heap}
/-- what stands behind the top -/
structure Here (T : Tbl) (P : Program) (w : World) (K : PySem.W.Frag) (mg : Str → Option Value) (base : Heap) : Prop where
  fn : ∀ d ∈ T.defs, ∃ f fd, FunD K d.name d.name (defArgs d.st) (defBody d.st) (defScope d.st) [] [] f fd ∧ mg d.name = some (.ref f)
  fr : ∀ x ∈ T.fr, mg x = none
  gm : ∀ x ∈ T.gm, mg x = some (.builtin "math.gcd")
  gs : ∀ x ∈ T.G.map (·.1), ∃ u v d, mg x = some u ∧ RelV v u ∧ T.G.lookup x = some d ∧ ∀ F H, Rep K F H d v
  ex : ∀ p ∈ T.exs, T.xf p.1 = p.2 ∧ p.2.length ≤ 900 ∧ ∃ C fI fd ps, OexC K C ∧ PySem.W.findIn K (.ref C) "__init__" = some (some (.ref fI)) ∧ PySem.W.typeIn K (.ref fI) = some (.type "function") ∧ FnOk P w K mg base (L2.CX P w) 1 fI fd ps (spInit C p.2.length (idx 1 p.2)) ∧ Binds K fd ps [] ∧ mg p.1 = some (.ref C)
  exq : ∀ p ∈ T.exs, ExQ K mg T.cls p.1 p.2
structure Fine (T : Tbl) : Prop where
  chk : ∀ d ∈ T.defs, chkD T d = true
  bind : ∀ d ∈ T.defs, BindOk d
abbrev Tbl.cc (T : Tbl) (K : PySem.W.Frag) (mg : Str → Option Value) (n : Nat) (xf : Str → List Str) : Cc := ⟨K, mg, NoF, fun _ => none, fun _ _ _ _ => False, T.prg.G, T.prg.call n, xf, NoF, fun _ => none⟩
/-- a def's promise at depth n -/
abbrev Tbl.sp (T : Tbl) (K : PySem.W.Frag) (mg : Str → Option Value) (xf : Str → List Str) (n : Nat) (x : Str) : Sp := spD (T.cc K mg n xf) x
theorem call_len {T : Tbl} {d : DDef} {n : Nat} {ds : List D} {q : D → Prop} {x : Str → List D → Prop} (e : findD T.defs d.name = some d) (h : Post (T.prg.call n d.name ds) q x) : ds.length = d.ps.length := by
  cases n with
  | zero => exact h.elim
  | succ n =>
    have h : Post (match (findD T.defs d.name).map DDef.fn with
      | some fn => callB T.prg.G (T.prg.call n) T.prg.fu fn ds
      | none => .bad) q x := h
    rw [e] at h
    have h : Post (if ds.length = d.ps.length then _ else Res.bad) q x := h
    by_cases z : ds.length = d.ps.length
    · exact z
    · rw [if_neg z] at h
      exact h.elim
theorem ent_get {ds : List D} {n i : Nat} {x : C} (h : (enter n ds)[i]? = some (some x)) : ∃ d, ds[i]? = some d ∧ x = .v d := by
  unfold enter at h
  by_cases hi : i < ds.length
  · rw [List.getElem?_append_left (by simpa using hi), List.getElem?_map] at h
    cases e : ds[i]? with
    | none => rw [e] at h; cases h
    | some d => rw [e] at h; cases h; exact ⟨d, rfl, rfl⟩
  · rw [List.getElem?_append_right (by simpa using hi), List.getElem?_replicate] at h
    split at h <;> cases h
theorem sim_enter {c : Cc} {N : List Str} {ds : List D} {vs : List V} {H : Hp} (r : RepL c.K c.F0 H ds vs) (f : FOk c.F0 H) (h0 : c.H0 = H) (hB : c.B = c.F0) (hHB : c.HB = H) : Sim c (fun _ => none) (enter N.length ds) (L2.start N vs) H where
  len := by
    unfold enter L2.start
    rw [List.length_append, List.length_append, List.length_map, List.length_map, List.length_replicate, List.length_replicate, r.length]
  val := fun i d e => by
    obtain ⟨d', hd, e'⟩ := ent_get e
    cases e'
    obtain ⟨v, hv, rv⟩ := r.get hd
    refine ⟨v, ?_, rv.weak fun a z => z.elim id fun ⟨_, q, _⟩ => nomatch q⟩
    unfold L2.start
    have hi : i < vs.length := (List.getElem?_eq_some_iff.mp hv).1
    rw [List.getElem?_append_left (by simpa using hi), List.getElem?_map, hv]
    rfl
  ows := fun i ds' e => by
    obtain ⟨d', hd, e'⟩ := ent_get e
    cases e'
  inj := fun i j a e => nomatch e
  al := fun i a e => nomatch e
  fin := ⟨0, fun _ _ => rfl⟩
  f0 := by rw [h0]; exact f
  same := by rw [h0]; exact Same.refl H
  bs := ⟨by rw [hHB]; exact same_kept (Same.refl H), fun i a e => (nomatch e), fun a z => by rw [hB]; exact z⟩
theorem fn_ok {T : Tbl} (F : Fine T) (Y : Here T P w K mg base) (nd : ∀ d ∈ T.defs, findD T.defs d.name = some d) : ∀ (n : Nat) (d : DDef), d ∈ T.defs → ∀ f fd, FunD K d.name d.name (defArgs d.st) (defBody d.st) (defScope d.st) [] [] f fd →
    FnOk P w K mg base (L2.CX P w) (n + 3) f fd d.ps (T.sp K mg T.xf n d.name) := by
  intro n
  induction n with
  | zero =>
    intro d hd f fd FD
    exact ⟨fun vs H Q E ⟨ds, F, _, _, h⟩ => h.elim, fun _ _ _ _ _ _ _ _ _ _ _ _ _ ⟨ds, F, _, _, h⟩ => h.elim⟩
  | succ n ih =>
    intro d hd f fd FD
    obtain ⟨c1, c2⟩ := ba (F.chk d hd)
    refine FD.ok (scB_ok c1) (fun vs H Q E ⟨ds, F0, r, _, h⟩ => by rw [← r.length]; exact call_len (nd d hd) h) fun cdv A outer s H vs Q E hr ⟨ds, F0, r, fo, h⟩ => ?_
    have h : Post (match (findD T.defs d.name).map DDef.fn with
      | some fn => callB T.prg.G (T.prg.call n) T.prg.fu fn ds
      | none => .bad) _ _ := h
    rw [nd d hd] at h
    have hl : ds.length = d.ps.length := by
      have h : Post (if ds.length = d.ps.length then _ else Res.bad) _ _ := h
      by_cases z : ds.length = d.ps.length
      · exact z
      · rw [if_neg z] at h
        exact h.elim
    have h : Post (if ds.length = d.ps.length then (match exL T.prg.G (T.prg.call n) T.prg.fu d.body (enter d.N.length ds) with
      | .rt d => Res.ok d
      | .nx _ => .ok .non
      | .exc c vs => .exc c vs
      | _ => .bad) else Res.bad) _ _ := h
    rw [if_pos hl] at h
    let c : Cc := ⟨K, mg, F0, H, fun cls dd _ H' => E cls dd H', T.prg.G, T.prg.call n, T.xf, F0, H⟩
    let X : Cx := cxOf (L2.CX P w) P w K mg base d.N d.name (defScope d.st) f cdv A outer s H E
    have S : Sim c (fun _ => none) (enter d.N.length ds) (L2.start d.N vs) H := sim_enter (c := c) r fo rfl rfl rfl
    have g : Good (T.ck d) X c (defScope d.st) (fun _ => true) := {
      sc := rfl
      fb := rfl
      N := rfl
      nd := (scB_ok c1).nd
      calm := rfl
      K := rfl
      mg := rfl
      un := by have := hr.un; show (A.deeper _).units + 65 < cLine; omega
      takes := takes_of rfl rfl rfl rfl
      fr := Y.fr
      gm := Y.gm
      gs := Y.gs
      fns := fun x hx => by
        obtain ⟨d2, hd2⟩ := findD_some (show x ∈ T.defs.map (·.name) from hx)
        obtain ⟨m2, rfl⟩ := findD_mem hd2
        obtain ⟨f2, fd2, FD2, hm⟩ := Y.fn d2 m2
        exact ⟨n + 3, f2, fd2, d2.ps, ih d2 m2 f2 fd2 FD2, hr, hm, FD2.kp, FD2.bindsN (F.bind d2 m2)⟩
      room := hr.mono (by omega)
      exs := fun p hp => by
        obtain ⟨h1, h2, C, fI, fd', ps', q1, q2, q3, q4, q5, q6⟩ := Y.ex p hp
        exact ⟨C, fI, fd', ps', q1, q2, q3, q4, q5, q6, h1, h2⟩
      exq := Y.exq }
    refine ⟨rdSs c T.fu d.body, psL (T.ck d) d.body (defBody d.st) g ⟨passes_of rfl, rfl, rfl⟩ c2, _, _, S, ?_⟩
    show EndS c _ (exL T.prg.G (T.prg.call n) T.prg.fu d.body (enter d.N.length ds))
    cases z : exL T.prg.G (T.prg.call n) T.prg.fu d.body (enter d.N.length ds) with
    | rt a =>
      rw [z] at h
      exact fun v H' s r => h v H' s r
    | nx τ =>
      rw [z] at h
      exact fun own σ H' S' => h .non H' S'.same rfl
    | exc x as =>
      rw [z] at h
      exact fun own τ σ H' S' cls dd H2 s2 e => h cls dd H2 (S'.same.trans s2) e
    | bk τ => rw [z] at h; exact h.elim
    | ct τ => rw [z] at h; exact h.elim
    | bad => rw [z] at h; exact h.elim
/-- the law's promise -/
def spLaw (K : PySem.W.Frag) : Sp := fun vs H Q _ => ∃ (a : Addr) (ns : List Int), vs = [.ref a] ∧ ns.length ≤ 63 ∧ SqL K H a (ns.map V.int) ∧ ∀ H', Q (.bl true) H'
theorem law_ok {T : Tbl} (F : Fine T) (Y : Here T P w K mg base) (nd : ∀ d ∈ T.defs, findD T.defs d.name = some d) {n : Nat} {d : DDef} (hd : d ∈ T.defs) {f : Addr} {fd : FuncData} (FD : FunD K d.name d.name (defArgs d.st) (defBody d.st) (defScope d.st) [] [] f fd)
    (h : ∀ ns : List Int, ns.length ≤ 63 → T.prg.call n d.name [.scr ns] = .ok (.bl true)) : FnOk P w K mg base (L2.CX P w) (n + 3) f fd d.ps (spLaw K) := by
  refine (fn_ok F Y nd n d hd f fd FD).imp fun vs H Q E ⟨a, ns, e, hl, hS, q⟩ => ?_
  subst e
  refine ⟨[.scr ns], NoF, ⟨_, [], rfl, ⟨a, rfl, ?_⟩, rfl⟩, fun _ z => z.elim, ?_⟩
  · rcases hS with (z | ⟨o, z⟩) | z
    · exact .inl ⟨z, id⟩
    · exact .inr (.inl ⟨o, z⟩)
    · exact .inr (.inr z)
  · show Post (T.prg.call n d.name [.scr ns]) _ _
    rw [h ns hl]
    intro v H' s r
    have e : v = .bl true := r
    subst e
    exact q H'
end
end PyI
/-! PyI, part 15: a table behind the head, a law. -/
namespace PyI
open PySem PySem.Spec PyProof.Rows L2
mutual
/-- a constant of the module is this data -/
def datB (K : PySem.W.Frag) : D → Value → Bool
  | .non, .none => true
  | .bl b, .bool c => b == c
  | .int i, .int j _ => decide (i = j)
  | .str x, .str y _ => decide (x = y)
  | .tup ds, .ref a => (match K.lookup a with
    | some ⟨.type c, _, .seq its _, _⟩ => decide (c = "tuple") && (decide (its.size ≤ sizeLine) && datsB K ds its.toList)
    | _ => false)
  | _, _ => false
def datsB (K : PySem.W.Frag) : List D → List Value → Bool
  | [], [] => true
  | d :: ds, u :: us => datB K d u && datsB K ds us
  | _, _ => false
end
mutual
theorem datB_ok {K : PySem.W.Frag} : ∀ (d : D) (u : Value), datB K d u = true → ∃ v, RelV v u ∧ ∀ F H, Rep K F H d v
  | .non, u, h => by
    cases u <;> first | exact ⟨.non, rfl, fun _ _ => rfl⟩ | cases h
  | .bl b, u, h => by
    cases u <;> first | cases h | skip
    rename_i c
    have e : b = c := eq_of_beq (show (b == c) = true from h)
    subst e
    exact ⟨.bl b, rfl, fun _ _ => rfl⟩
  | .int i, u, h => by
    cases u <;> first | cases h | skip
    rename_i c t
    have e : i = c := of_decide_eq_true h
    subst e
    exact ⟨.int i, ⟨t, rfl⟩, fun _ _ => rfl⟩
  | .str i, u, h => by
    cases u <;> first | cases h | skip
    rename_i c t
    have e : i = c := of_decide_eq_true h
    subst e
    exact ⟨.str i, ⟨t, rfl⟩, fun _ _ => rfl⟩
  | .tup ds, u, h => by
    cases u <;> first | cases h | skip
    rename_i a
    have h : (match (generalizing := false) K.lookup a with
      | some ⟨.type c, _, .seq its _, _⟩ => decide (c = "tuple") && (decide (its.size ≤ sizeLine) && datsB K ds its.toList)
      | _ => false) = true := h
    cases q : K.lookup a with
    | none => rw [q] at h; cases h
    | some o =>
      obtain ⟨oc, od, dt, osl⟩ := o
      rw [q] at h
      cases oc with
      | type c =>
        cases dt with
        | seq its n =>
          obtain ⟨h1, h2⟩ := ba (show (decide (c = "tuple") && (decide (its.size ≤ sizeLine) && datsB K ds its.toList)) = true from h)
          obtain ⟨h3, h4⟩ := ba h2
          obtain ⟨vs, r1, r2⟩ := datsB_ok ds its.toList h4
          exact ⟨.ref a, rfl, fun F H => ⟨a, vs, rfl, .inr ⟨_, its, n, q, congrArg Value.type (of_decide_eq_true h1), rfl, of_decide_eq_true h3, r1⟩, r2 F H⟩⟩
        | _ => cases h
      | _ => cases dt <;> cases h
  | .lst _, u, h => by cases u <;> cases h
  | .scr _, u, h => by cases u <;> cases h
theorem datsB_ok {K : PySem.W.Frag} : ∀ (ds : List D) (us : List Value), datsB K ds us = true → ∃ vs, Vals vs us ∧ ∀ F H, RepL K F H ds vs
  | [], [], _ => ⟨[], .nil, fun _ _ => rfl⟩
  | [], _ :: _, h => by cases h
  | _ :: _, [], h => by cases h
  | d :: ds, u :: us, h => by
    obtain ⟨h1, h2⟩ := ba (show (datB K d u && datsB K ds us) = true from h)
    obtain ⟨v, r1, r2⟩ := datB_ok d u h1
    obtain ⟨vs, r3, r4⟩ := datsB_ok ds us h2
    exact ⟨v :: vs, .cons r1 r3, fun F H => ⟨v, vs, rfl, r2 F H, r4 F H⟩⟩
end
/-! ### the hook -/
def DDef.he (d : DDef) : He.DefD := ⟨(d.name, none), d.name, d.name, defArgs d.st, defBody d.st, defScope d.st, [], []⟩
def Tbl.fa (T : Tbl) : List He.Fa := T.defs.map (fun d => .glo d.name) ++ T.fr.map .free
def gcdB (K : PySem.W.Frag) (x : Str) : Bool := match PySem.W.nsIn K mainGlobals x with
  | some (some (.builtin z)) => decide (z = "math.gcd")
  | _ => false
def conB (K : PySem.W.Frag) (x : Str) (d : D) : Bool := match PySem.W.nsIn K mainGlobals x with
  | some (some u) => datB K d u
  | _ => false
def fileB (K : PySem.W.Frag) (c : Addr) (file : Str) : Bool := match K.lookup c with
  | some ⟨_, _, .fields vs, _⟩ => (match (vs[2]? : Option Value) with
    | some (.str fl _) => decide (file = fl)
    | _ => false)
  | _ => false
def cellB (K : PySem.W.Frag) (cc C : Addr) : Bool := match K.lookup cc with
  | some ⟨_, _, .cell (some (.ref D)), _⟩ => decide (D = C)
  | _ => false
def supB (K : PySem.W.Frag) (C : Addr) : Bool := match PySem.W.clsIn K C with
  | some cd => decide (PySem.W.alongIn K "__init__" ((cd.mro.dropWhile (· != .ref C)).drop 1) = some (some (.builtin "ValueError.__init__")))
  | none => false
def oexB (K : PySem.W.Frag) (C : Addr) : Bool := (match K.lookup C with
  | some ⟨.type t, _, .cls cd, sl⟩ => (match cd.mro, sl.toList with
    | .ref C' :: bm, [_, _, _, _, some (.builtin n), _] => decide (t = "type") && (decide (C' = C) && (decide (n = "ValueError.__new__") && (!cd.hasDel && (cd.hasDict && PySem.HandSPX.refsVE bm))))
    | _, _ => false)
  | _ => false) && (decide (PySem.W.findIn K (.ref C) "__setattr__" = some (some (.builtin "object.__setattr__"))) && (decide (PySem.W.subIn K (.ref C) (.type "BaseException") = some true) && (decide (PySem.W.typeIn K (.ref C) = some (.type "type")) && PySem.W.keepIn K (.ref C))))
def initB (K : PySem.W.Frag) (file : Str) (x : XDef) (C : Addr) (fd : FuncData) : Bool := match fd.body, fd.closure, fd.code with
  | .stmts body, [(cn, cc)], .ref c => decide (cn = ("__class__" : Str)) && (decide (fd.globals = mainGlobals) && (decide (fd.builtins = builtinsNs) && (decide (fd.defaults = .none) && (PySem.W.codeIn K (.ref c) fd.qualname && (fileB K c file && (cellB K cc C && (chkInit x.N (idx 1 x.fs) body && (NdefX.nscB x.N x.ps ["__class__"] fd.scope && (x.N.all (vis fd.scope) && (paramsOk x.ps fd.params && (decide (fd.scope.names.lookup ("super" : Str) = some .globalImplicit) && decide (x.ps.length = x.fs.length + 1))))))))))))
  | _, _, _ => false
def xqB (K : PySem.W.Frag) (cls : List Str) (x : XDef) (C : Addr) : Bool := xfB K C && (decide (PySem.W.findIn K (.ref C) "__class__" = some (some (.builtin "object.__class__"))) && (decide (PySem.W.specialIn K (.builtin "object.__class__") "__get__" = some (some (.builtin "getset_descriptor.__get__"))) && (decide (PySem.W.takesIn K (.builtin "object.__class__") = some true) && (decide (PySem.W.mroIn K C (.type "object") = some true) && (x.fs.all (fun f => decide (PySem.W.findIn K (.ref C) f = some none)) && (ndup x.fs &&
  cls.all fun c => (match PySem.W.nsIn K mainGlobals c with
    | some (some (.ref a)) => decide (PySem.W.kitOne K (.ref C) (.ref a) = some (subX x.name c)) && decide (PySem.W.exmOne K (.ref C) (.ref a) = some (subX x.name c))
    | some none => decide (c = ("ValueError" : Str)) && (decide (PySem.W.kitOne K (.ref C) (.type "ValueError") = some (subX x.name c)) && decide (PySem.W.exmOne K (.ref C) (.type "ValueError") = some (subX x.name c)))
    | _ => false)))))))
def xdefB (K : PySem.W.Frag) (file : Str) (cls : List Str) (x : XDef) : Bool := match PySem.W.nsIn K mainGlobals x.name with
  | some (some (.ref C)) => oexB K C && (supB K C && (decide (PySem.W.mroIn K C (.ref C) = some true) && (decide (PySem.W.mroIn K C (.type "ValueError") = some true) && (xqB K cls x C && (match PySem.W.findIn K (.ref C) "__init__" with
    | some (some (.ref f)) => decide (PySem.W.typeIn K (.ref f) = some (.type "function")) && (match K.lookup f with
      | some ⟨_, _, .func fd, _⟩ => initB K file x C fd
      | _ => false)
    | _ => false)))))
  | _ => false
def Tbl.exB (T : Tbl) (K : PySem.W.Frag) : Bool := T.xds.all fun x => xdefB K T.file T.cls x && (decide (T.xf x.name = x.fs) && (decide (x.fs.length ≤ 900) && (!x.fs.isEmpty && (decide (PySem.W.nsIn K cStatics "thirdparty.any" = some none) && decide (PySem.W.nsIn K mainGlobals "super" = some none)))))
def Tbl.ex (T : Tbl) (K : PySem.W.Frag) : Bool := T.gm.all (gcdB K) && (T.exB K && T.G.all fun p => conB K p.1 p.2)
/-- what the module's names and the statics reach in n steps -/
def asX (g : Addr → Option Obj) : Nat → List Addr
  | 0 => [mainGlobals, cStatics]
  | n + 1 => He.growD g (asX g n)
def hookE (n : Nat) (fa : List He.Fa) (fn : List He.DefD) (ex : PySem.W.Frag → Bool) : PySem.W.Hook where
  α := He.AlD × Bool
  obs := fun s => (He.obsD fa fn (He.frG s.heap.get? (asX s.heap.get? n)), ex (He.frG s.heap.get? (asX s.heap.get? n)))
  val := fun _ => (He.valD fn, true)
  says := fun _ h => ∃ K : PySem.W.Frag, K.In h ∧ He.SaysD fa fn K ∧ ex K = true
  of := fun _ _ e => ⟨_, He.frG_in, congrArg (fun z : He.AlD × Bool => z.1) e, congrArg (fun z : He.AlD × Bool => z.2) e⟩
  keeps := fun _ _ _ ⟨K, hK, c⟩ k => ⟨K, PySem.W.Frag.In.keeps hK k, c⟩
def obsE (n : Nat) (fa : List He.Fa) (fn : List He.DefD) (ex : PySem.W.Frag → Bool) (g : Addr → Option Obj) : He.AlD × Bool := (He.obsD fa fn (He.frG g (asX g n)), ex (He.frG g (asX g n)))
theorem obsE_eq {n : Nat} {fa : List He.Fa} {fn : List He.DefD} {ex : PySem.W.Frag → Bool} {g : Addr → Option Obj} {s : Shared} (h : ∀ a, g a = s.heap.get? a) : obsE n fa fn ex g = (hookE n fa fn ex).obs s := by
  have e : g = s.heap.get? := funext h
  rw [e] <;> rfl
abbrev Tbl.hk (T : Tbl) (n : Nat) : PySem.W.Hook := hookE n T.fa (T.defs.map DDef.he) T.ex
def Tbl.ob (T : Tbl) (n : Nat) (s : PySem.W.SharedT) : He.AlD × Bool := obsE n T.fa (T.defs.map DDef.he) T.ex (HandSHeadRun.getT s)
theorem Tbl.ob_eq (T : Tbl) (n : Nat) (s : PySem.W.SharedT) : T.ob n s = (T.hk n).obs s.abs := obsE_eq (HandSHeadRun.getT_eq s)
theorem fact_mem {fa : List He.Fa} {fn : List He.DefD} {K : PySem.W.Frag} (c : He.SaysD fa fn K) {f : He.Fa} (h : f ∈ fa) : f.ok K = true := by
  obtain ⟨i, hi, e⟩ := List.mem_iff_getElem.mp h
  exact c.fact i (f := f) (by rw [List.getElem?_eq_getElem hi, e])
theorem def_mem {fa : List He.Fa} {fn : List He.DefD} {K : PySem.W.Frag} (c : He.SaysD fa fn K) {d : He.DefD} (h : d ∈ fn) : ∃ fd, FunD K d.name d.qual d.params d.body d.scope (d.dvs K) (d.kws K) (He.fAd K d.at_) fd := by
  obtain ⟨i, hi, e⟩ := List.mem_iff_getElem.mp h
  exact c.def_ i (d := d) (by rw [List.getElem?_eq_getElem hi, e])
theorem gcd_ok {K : PySem.W.Frag} {h : Heap} {mg : Str → Option Value} (X : K.In h) (G : h.Ns mainGlobals mg) {x : Str} (c : gcdB K x = true) : mg x = some (.builtin "math.gcd") := by
  unfold gcdB at c
  cases q : PySem.W.nsIn K mainGlobals x with
  | none => rw [q] at c; cases c
  | some o =>
    rw [q] at c
    cases o with
    | none => cases c
    | some u =>
      cases u <;> first | cases c | skip
      rename_i z
      have e : z = "math.gcd" := of_decide_eq_true c
      subst e
      exact PySem.W.mg_of X G q
theorem con_ok {K : PySem.W.Frag} {h : Heap} {mg : Str → Option Value} (X : K.In h) (G : h.Ns mainGlobals mg) {x : Str} {d : D} (c : conB K x d = true) : ∃ u v, mg x = some u ∧ RelV v u ∧ ∀ F H, Rep K F H d v := by
  unfold conB at c
  cases q : PySem.W.nsIn K mainGlobals x with
  | none => rw [q] at c; cases c
  | some o =>
    rw [q] at c
    cases o with
    | none => cases c
    | some u =>
      obtain ⟨v, r1, r2⟩ := datB_ok d u c
      exact ⟨u, v, PySem.W.mg_of X G q, r1, r2⟩
theorem file_ok {K : PySem.W.Frag} {c : Addr} {file : Str} (h : fileB K c file = true) : ∃ (ccl : Value) (cdd : Option Addr) (vs : Array Value) (ccs : Array (Option Value)) (fl : Str) (tf : Tok), K.lookup c = some ⟨ccl, cdd, .fields vs, ccs⟩ ∧ vs[2]? = some (.str fl tf) ∧ file = fl := by
  unfold fileB at h
  cases q : K.lookup c with
  | none => rw [q] at h; cases h
  | some o =>
    obtain ⟨oc, od, dt, sl⟩ := o
    rw [q] at h
    cases dt <;> first | cases h | skip
    rename_i vs
    have h : (match (generalizing := false) (vs[2]? : Option Value) with
      | some (.str fl _) => decide (file = fl)
      | _ => false) = true := h
    cases z : vs[2]? with
    | none => rw [z] at h; cases h
    | some v =>
      rw [z] at h
      cases v <;> first | cases h | skip
      rename_i fl tf
      exact ⟨_, _, _, _, _, _, rfl, z, of_decide_eq_true h⟩
theorem cell_ok' {K : PySem.W.Frag} {cc C : Addr} (h : cellB K cc C = true) : ∃ (a : Value) (b : Option Addr) (e : Array (Option Value)), K.lookup cc = some ⟨a, b, .cell (some (.ref C)), e⟩ := by
  unfold cellB at h
  cases q : K.lookup cc with
  | none => rw [q] at h; cases h
  | some o =>
    obtain ⟨oc, od, dt, sl⟩ := o
    rw [q] at h
    cases dt <;> first | cases h | skip
    rename_i v
    cases v with
    | none => cases h
    | some v =>
      cases v <;> first | cases h | skip
      rename_i D
      have e : D = C := of_decide_eq_true h
      subst e
      exact ⟨_, _, _, rfl⟩
theorem sup_ok {K : PySem.W.Frag} {C : Addr} (h : supB K C = true) : ∃ cd l, PySem.W.clsIn K C = some cd ∧ cd.mro = l ∧ PySem.W.alongIn K "__init__" ((l.dropWhile (· != .ref C)).drop 1) = some (some (.builtin "ValueError.__init__")) := by
  unfold supB at h
  cases q : PySem.W.clsIn K C with
  | none => rw [q] at h; cases h
  | some cd => rw [q] at h; exact ⟨cd, cd.mro, rfl, rfl, of_decide_eq_true h⟩
theorem oex_ok {K : PySem.W.Frag} {C : Addr} (h : oexB K C = true) : OexC K C := by
  obtain ⟨h0, h⟩ := ba h
  obtain ⟨h1, h⟩ := ba h
  obtain ⟨h2, h⟩ := ba h
  obtain ⟨h3, h4⟩ := ba h
  refine ⟨?_, of_decide_eq_true h1, of_decide_eq_true h2, of_decide_eq_true h3, h4⟩
  cases q : K.lookup C with
  | none => rw [q] at h0; cases h0
  | some o =>
    obtain ⟨oc, od, dt, sl⟩ := o
    rw [q] at h0
    cases oc <;> first | (cases dt <;> cases h0) | skip
    rename_i t
    cases dt <;> first | cases h0 | skip
    rename_i cd
    obtain ⟨l⟩ := sl
    obtain ⟨nm, bs, mro, ns, qn, hd, sn, sub, ab, col, del⟩ := cd
    have h0 : (match (generalizing := false) mro, l with
      | .ref C' :: bm, [_, _, _, _, some (.builtin n), _] => decide (t = "type") && (decide (C' = C) && (decide (n = "ValueError.__new__") && (!del && (hd && PySem.HandSPX.refsVE bm))))
      | _, _ => false) = true := h0
    split at h0
    · rename_i C' bm k0 k1 k2 k3 n k5
      obtain ⟨e1, h0⟩ := ba h0
      obtain ⟨e2, h0⟩ := ba h0
      obtain ⟨e3, h0⟩ := ba h0
      obtain ⟨e4, h0⟩ := ba h0
      obtain ⟨e5, e6⟩ := ba h0
      have e1 := of_decide_eq_true e1
      have e2 := of_decide_eq_true e2
      have e3 := of_decide_eq_true e3
      have e4 := bn e4
      subst e1 e2 e3 e4 e5
      exact ⟨_, _, _, _, _, _, _, _, _, _, _, _, _, _, _, rfl, e6⟩
    · cases h0
theorem params_ok {ps : List Str} {p : Arguments} (h : paramsOk ps p = true) : ∃ as, p = ⟨[], as, none, [], [], none, []⟩ ∧ as.map (·.arg) = ps := by
  unfold paramsOk at h
  split at h
  · exact ⟨_, rfl, of_decide_eq_true h⟩
  · cases h
/-- an __init__'s arguments are bound as its parameters say -/
def XBind (x : XDef) : Prop := ∀ (nm q : Str) (as : List Arg) (body : List Stmt) (sc : Scope) (cl : List (Str × Addr)) (kV doc pm cdv ct : Value) (an : Option Addr) (us : List Value), as.map (·.arg) = x.ps → us.length = x.ps.length → bindArgs (PySem.W.fnX nm q ⟨[], as, none, [], [], none, []⟩ body sc cl .none kV doc pm an cdv ct) ⟨us, []⟩ = pure (x.ps.zip us)
theorem idx_mem : ∀ {fl : List Str} {n : Nat} {p : Str × Nat}, p ∈ idx n fl → p.1 ∈ fl ∧ p.2 < n + fl.length
  | [], n, p, m => by cases m
  | f :: r, n, p, m => by
    rcases List.mem_cons.mp m with e | m
    · subst e
      exact ⟨List.mem_cons_self, by simp⟩
    · obtain ⟨h1, h2⟩ := idx_mem m
      exact ⟨List.mem_cons_of_mem _ h1, by simp only [List.length_cons]; omega⟩
theorem idx_len : ∀ (fl : List Str) (n : Nat), (idx n fl).length = fl.length
  | [], _ => rfl
  | f :: r, n => congrArg (· + 1) (idx_len r (n + 1))
section
variable {P : Program} {w : World} {base : Heap} {K : PySem.W.Frag} {h : Heap} {mg : Str → Option Value}
/-- what the check of an exception's class tells of its __init__ -/
theorem init_of {file : Str} {x : XDef} {C f : Addr} {fd : FuncData} {oc : Value} {od : Option Addr} {osl : Array (Option Value)} (hl : K.lookup f = some ⟨oc, od, .func fd, osl⟩) (hB : XBind x) (hfile : P.main.file = file) (htop : (P.main.scope.names.lookup ("super" : Str)).isSome = false) (hmg : mg "super" = none)
    (hst : PySem.W.nsIn K cStatics "thirdparty.any" = some none) (o : oexB K C = true) (hs : supB K C = true) (hm : PySem.W.mroIn K C (.ref C) = some true) (hv : PySem.W.mroIn K C (.type "ValueError") = some true) (hfn : ∀ f ∈ x.fs, PySem.W.findIn K (.ref C) f = some none) (hne : x.fs ≠ []) (hfl : x.fs.length ≤ 900)
    (c : initB K file x C fd = true) : FnOk P w K mg base (L2.CX P w) 1 f fd x.ps (spInit C x.fs.length (idx 1 x.fs)) ∧ Binds K fd x.ps [] := by
  obtain ⟨n1, n2, n3, n4, n5, n6, n7, n8, n9, n10, n11, n12, n13, n14, n15⟩ := fd
  unfold initB at c
  cases n4 <;> first | cases c | skip
  rename_i body
  cases n7 with
  | nil => cases c
  | cons p r =>
    cases r with
    | cons _ _ => cases c
    | nil =>
      obtain ⟨cn, cc⟩ := p
      cases n13 <;> first | cases c | skip
      rename_i co
      have c : (decide (cn = ("__class__" : Str)) && (decide (n6 = mainGlobals) && (decide (n15 = builtinsNs) && (decide (n8 = .none) && (PySem.W.codeIn K (.ref co) n2 && (fileB K co file && (cellB K cc C && (chkInit x.N (idx 1 x.fs) body && (NdefX.nscB x.N x.ps ["__class__"] n5 && (x.N.all (vis n5) && (paramsOk x.ps n3 && (decide (n5.names.lookup ("super" : Str) = some .globalImplicit) && decide (x.ps.length = x.fs.length + 1))))))))))))) = true := c
      obtain ⟨c1, c⟩ := ba c
      obtain ⟨c2, c⟩ := ba c
      obtain ⟨c3, c⟩ := ba c
      obtain ⟨c4, c⟩ := ba c
      obtain ⟨c5, c⟩ := ba c
      obtain ⟨c6, c⟩ := ba c
      obtain ⟨c7, c⟩ := ba c
      obtain ⟨c8, c⟩ := ba c
      obtain ⟨c9, c⟩ := ba c
      obtain ⟨c10, c⟩ := ba c
      obtain ⟨c11, c⟩ := ba c
      obtain ⟨c12, c13⟩ := ba c
      have c1 := of_decide_eq_true c1
      have c2 := of_decide_eq_true c2
      have c3 := of_decide_eq_true c3
      have c4 := of_decide_eq_true c4
      have c13 := of_decide_eq_true c13
      obtain ⟨as, c11, c14⟩ := params_ok c11
      have c9 := NdefX.nscope_by c9
      subst c1 c2 c3 c4 c11
      let F : NdefX.NF := ⟨n1, n2, ⟨[], as, none, [], [], none, []⟩, body, n5, [(("__class__" : Str), cc)], co⟩
      have T : XcF K P C f cc F := {
        T := oex_ok o
        cl := rfl
        fn := ⟨oc, od, _, n9, n10, n11, n14, n12, osl, hl⟩
        code := c5
        file := by
          obtain ⟨a1, a2, a3, a4, a5, a6, h1, h2, h3⟩ := file_ok c6
          exact ⟨a1, a2, a3, a4, a5, a6, h1, h2, by rw [hfile, h3]; exact beq_self_eq_true _⟩
        top := htop
        cell := cell_ok' c7
        cls := sup_ok hs
        me := hm
        ve := hv
        st := hst
        sup := of_decide_eq_true c12
        kcl := c9.frk _ List.mem_cons_self
        kind := c9.kind }
      have e1 : x.ps ≠ [] := fun e => by rw [e] at c13; cases c13
      obtain ⟨ar, r, ear⟩ : ∃ ar r, as = ar :: r := by
        cases as with
        | nil => exact absurd c14.symm e1
        | cons ar r => exact ⟨ar, r, rfl⟩
      have e2 : x.ps[0]? = some ar.arg := by rw [← c14, ear]; rfl
      have e3 : x.N[0]? = some ar.arg := by
        have q : (x.N.take (x.ps.length + 1))[0]? = (x.ps ++ [("__class__" : Str)])[0]? := by
          have := c9.pre
          exact congrArg (·[0]?) this
        rw [List.getElem?_take_of_lt (by omega), List.getElem?_append_left (by omega)] at q
        rw [q]
        exact e2
      refine ⟨?_, Binds.all fun us hu => hB n1 n2 as body n5 [(("__class__" : Str), cc)] n9 n10 n11 (.ref co) n14 n12 us c14 hu⟩
      have fin := init_ok (w := w) (mg := mg) (base := base) (k := 0) (fs := idx 1 x.fs) T c9 hmg (ar := ar) (by show ([] ++ as).head? = _; rw [ear]; rfl) e3 e1 ⟨oc, od, osl, _, n9, n10, n11, n14, n12, rfl, hl⟩ (fun y hy => vis_ok (List.all_eq_true.mp c10 y hy)) c8
        (fun e => hne (by have := congrArg List.length e; rw [idx_len] at this; exact List.length_eq_zero_iff.mp this)) (by rw [idx_len]; exact hfl) (fun p hp => by have := (idx_mem hp).2; omega) fun p hp => hfn _ (idx_mem hp).1
      have e4 : x.ps.length - 1 = x.fs.length := by omega
      rw [e4] at fin
      exact fin
theorem ndup_ok' {l : List Str} (h : ndup l = true) : l.Nodup := ndup_ok h
theorem xq_ok {cls : List Str} {x : XDef} {C : Addr} (X : K.In h) (G : h.Ns mainGlobals mg) (hm : mg x.name = some (.ref C)) (c : xqB K cls x C = true) : ExQ K mg cls x.name x.fs := by
  obtain ⟨c1, c⟩ := ba c
  obtain ⟨c2, c⟩ := ba c
  obtain ⟨c3, c⟩ := ba c
  obtain ⟨c4, c⟩ := ba c
  obtain ⟨c5, c⟩ := ba c
  obtain ⟨c6, c⟩ := ba c
  obtain ⟨c7, c8⟩ := ba c
  have xf := xfB_ok c1
  refine ⟨C, hm, xf, ⟨xf.ga, xf.gg, xf.exC, xf.hdC, of_decide_eq_true c2, of_decide_eq_true c3, of_decide_eq_true c4, of_decide_eq_true c5⟩, fun f hf => of_decide_eq_true (List.all_eq_true.mp c6 f hf), ndup_ok c7, fun z hz => ?_⟩
  have q : (match (generalizing := false) PySem.W.nsIn K mainGlobals z with
    | some (some (.ref a)) => decide (PySem.W.kitOne K (.ref C) (.ref a) = some (subX x.name z)) && decide (PySem.W.exmOne K (.ref C) (.ref a) = some (subX x.name z))
    | some none => decide (z = ("ValueError" : Str)) && (decide (PySem.W.kitOne K (.ref C) (.type "ValueError") = some (subX x.name z)) && decide (PySem.W.exmOne K (.ref C) (.type "ValueError") = some (subX x.name z)))
    | _ => false) = true := List.all_eq_true.mp c8 z hz
  cases e : PySem.W.nsIn K mainGlobals z with
  | none => rw [e] at q; cases q
  | some o =>
    rw [e] at q
    cases o with
    | none =>
      obtain ⟨q1, q⟩ := ba q
      obtain ⟨q2, q3⟩ := ba q
      exact ⟨_, .inr ⟨rfl, of_decide_eq_true q1, PySem.W.mg_none_of X G e⟩, of_decide_eq_true q2, of_decide_eq_true q3⟩
    | some u =>
      cases u <;> first | cases q | skip
      rename_i a
      obtain ⟨q2, q3⟩ := ba q
      exact ⟨_, .inl ⟨a, rfl, PySem.W.mg_of X G e⟩, of_decide_eq_true q2, of_decide_eq_true q3⟩
theorem xdef_ok {file : Str} {cls : List Str} {x : XDef} (X : K.In h) (G : h.Ns mainGlobals mg) (hB : XBind x) (hfile : P.main.file = file) (htop : (P.main.scope.names.lookup ("super" : Str)).isSome = false) (hmg : mg "super" = none) (hst : PySem.W.nsIn K cStatics "thirdparty.any" = some none) (hne : x.fs ≠ []) (hfl : x.fs.length ≤ 900)
    (c : xdefB K file cls x = true) : (∃ C fI fd ps, OexC K C ∧ PySem.W.findIn K (.ref C) "__init__" = some (some (.ref fI)) ∧ PySem.W.typeIn K (.ref fI) = some (.type "function") ∧ FnOk P w K mg base (L2.CX P w) 1 fI fd ps (spInit C x.fs.length (idx 1 x.fs)) ∧ Binds K fd ps [] ∧ mg x.name = some (.ref C)) ∧ ExQ K mg cls x.name x.fs := by
  unfold xdefB at c
  cases e : PySem.W.nsIn K mainGlobals x.name with
  | none => rw [e] at c; cases c
  | some o =>
    rw [e] at c
    cases o with
    | none => cases c
    | some u =>
      cases u <;> first | cases c | skip
      rename_i C
      have hm := PySem.W.mg_of X G e
      obtain ⟨c1, c⟩ := ba c
      obtain ⟨c2, c⟩ := ba c
      obtain ⟨c3, c⟩ := ba c
      obtain ⟨c4, c⟩ := ba c
      obtain ⟨c5, c⟩ := ba c
      have xq := xq_ok X G hm c5
      refine ⟨?_, xq⟩
      obtain ⟨C', e1, _, _, e4, _, _⟩ := xq
      rw [hm] at e1
      cases e1
      cases e2 : PySem.W.findIn K (.ref C) "__init__" with
      | none => rw [e2] at c; cases c
      | some o =>
        rw [e2] at c
        cases o with
        | none => cases c
        | some u =>
          cases u <;> first | cases c | skip
          rename_i f
          obtain ⟨c6, c⟩ := ba c
          cases e3 : K.lookup f with
          | none => rw [e3] at c; cases c
          | some o =>
            obtain ⟨oc, od, dt, sl⟩ := o
            rw [e3] at c
            cases dt <;> first | cases c | skip
            rename_i fd
            obtain ⟨r1, r2⟩ := init_of (w := w) (base := base) e3 hB hfile htop hmg hst c1 c2 (of_decide_eq_true c3) (of_decide_eq_true c4) e4 hne hfl c
            exact ⟨C, f, fd, x.ps, oex_ok c1, e2, of_decide_eq_true c6, r1, r2, hm⟩
end
def XFine (T : Tbl) (P : Program) : Prop := ∀ x ∈ T.xds, XBind x ∧ P.main.file = T.file ∧ (P.main.scope.names.lookup ("super" : Str)).isSome = false
theorem here_of {T : Tbl} {P : Program} {w : World} {base : Heap} (hx : XFine T P) {K : PySem.W.Frag} {h : Heap} {mg : Str → Option Value} (X : K.In h) (G : h.Ns mainGlobals mg) (c : He.SaysD T.fa (T.defs.map DDef.he) K) (e : T.ex K = true) : Here T P w K mg base where
  ex := fun p hp => by
    obtain ⟨x, hm, rfl⟩ := List.mem_map.mp hp
    obtain ⟨e1, q⟩ := ba (List.all_eq_true.mp (ba (ba e).2).1 x hm)
    obtain ⟨e2, q⟩ := ba q
    obtain ⟨e3, q⟩ := ba q
    obtain ⟨e4, q⟩ := ba q
    obtain ⟨e5, e6⟩ := ba q
    obtain ⟨b1, b2, b3⟩ := hx x hm
    exact ⟨of_decide_eq_true e2, of_decide_eq_true e3, (xdef_ok X G b1 b2 b3 (PySem.W.mg_none_of X G (of_decide_eq_true e6)) (of_decide_eq_true e5) (fun z => by rw [z] at e4; cases e4) (of_decide_eq_true e3) e1).1⟩
  exq := fun p hp => by
    obtain ⟨x, hm, rfl⟩ := List.mem_map.mp hp
    obtain ⟨e1, q⟩ := ba (List.all_eq_true.mp (ba (ba e).2).1 x hm)
    obtain ⟨e2, q⟩ := ba q
    obtain ⟨e3, q⟩ := ba q
    obtain ⟨e4, q⟩ := ba q
    obtain ⟨e5, e6⟩ := ba q
    obtain ⟨b1, b2, b3⟩ := hx x hm
    exact (xdef_ok (P := P) (w := w) (base := base) X G b1 b2 b3 (PySem.W.mg_none_of X G (of_decide_eq_true e6)) (of_decide_eq_true e5) (fun z => by rw [z] at e4; cases e4) (of_decide_eq_true e3) e1).2
  fn := fun d hd => by
    obtain ⟨fd, F⟩ := def_mem c (d := d.he) (List.mem_map.mpr ⟨d, hd, rfl⟩)
    exact ⟨_, fd, F, He.glo_ok X G (fact_mem c (List.mem_append_left _ (List.mem_map.mpr ⟨d, hd, rfl⟩)))⟩
  fr := fun x hx => He.free_ok X G (fact_mem c (List.mem_append_right _ (List.mem_map.mpr ⟨x, hx, rfl⟩)))
  gm := fun x hx => gcd_ok X G (List.all_eq_true.mp (ba e).1 x hx)
  gs := fun x hx => by
    have key : ∀ (l : List (Str × D)), (∀ p ∈ l, conB K p.1 p.2 = true) → x ∈ l.map (·.1) → ∃ d, l.lookup x = some d ∧ conB K x d = true := by
      intro l
      induction l with
      | nil => intro _ z; cases z
      | cons p r ih =>
        intro hl hm
        obtain ⟨y, d⟩ := p
        rw [List.lookup_cons]
        by_cases q : x = y
        · subst q
          exact ⟨d, by simp, hl (x, d) List.mem_cons_self⟩
        · have q' : (x == y) = false := by simpa using q
          rw [q']
          exact ih (fun p hp => hl p (List.mem_cons_of_mem _ hp)) ((List.mem_cons.mp hm).resolve_left q)
    obtain ⟨d, h1, h2⟩ := key T.G (fun p hp => List.all_eq_true.mp (ba (ba e).2).2 p hp) hx
    obtain ⟨u, v, h3, h4, h5⟩ := con_ok X G h2
    exact ⟨u, v, d, h3, h4, h1, h5⟩
/-! ### a law -/
theorem FnOk.to0 {P : Program} {w : World} {K : PySem.W.Frag} {mg : Str → Option Value} {base : Heap} {k : Nat} {f : Addr} {fd : FuncData} {ps : List Str} (F : FnOk P w K mg base (L2.CX P w) k f fd ps (spLaw K)) : FnOk P w K mg base CX0 k f fd ps (spLaw K) := by
  refine ⟨F.len, fun A outer s H args us vs Q E hr he hb hv hs => codeAny_mono (F.run A outer s H args us vs Q E0 hr he hb hv hs) fun r s' q => ?_⟩
  cases r with
  | error e =>
    obtain ⟨_, _, _, _, _, _, _, _, _, _, _, _, z⟩ := (show L2.CX P w outer H s E0 e s' from q)
    exact z.elim
  | ok fl => cases fl <;> exact q
/-- THE RULE for a law -/
theorem law_walk {l : PySem.W.OpenLaw} {T : Tbl} {n m : Nat} {q : Program} {loose : List Str} {XP : (Str → Option Value) → Heap → Prop} {d : DefRec} {dl : DDef}
    (hn : l.most = some 63) (hdf : d.params.defaults = []) (hr : Room (n + 3) callerA) (hx : XFine T l.prog) (F : Fine T) (nd : ∀ d ∈ T.defs, findD T.defs d.name = some d) (hdl : dl ∈ T.defs) (hnm : d.name = dl.name) (hps : dl.ps = [("script" : Str)])
    (h : ∀ ns : List Int, ns.length ≤ 63 → T.prg.call n dl.name [.scr ns] = .ok (.bl true)) :
    PySem.W.WalkO q loose XP (T.hk m).says l.row.toRowW d [] (fun f vs => PySem.call f vs) := by
  refine L2.walk_ofE (l := l) (n := 63) (k := n + 3) (x := "script") (CX := L2.CX0) hn (by decide) hdf hr ?_ (fun _ _ _ _ z => z)
  intro w mg fa h' Y G hmg0
  obtain ⟨K, KX, c, e⟩ := Y
  obtain ⟨fd, FD⟩ := def_mem c (d := dl.he) (List.mem_map.mpr ⟨dl, hdl, rfl⟩)
  have hm := He.glo_ok KX G (fact_mem c (List.mem_append_left _ (List.mem_map.mpr ⟨dl, hdl, rfl⟩)))
  rw [hnm, hm] at hmg0
  cases hmg0
  refine ⟨K, fd, spLaw K, KX, fun s u => ?_, fun H a ns hl _ hS => ⟨a, ns, rfl, hl, hS, fun _ => rfl⟩, fun base _ _ => ?_⟩
  · have b := FunD.bindsA (ps := dl.ps) FD (F.bind dl hdl) s [u] (by rw [hps]; rfl)
    rw [hps] at b
    exact b
  · have k := law_ok (P := l.prog) (w := w) (base := base) F (here_of hx KX G c e) nd hdl FD h
    rw [hps] at k
    exact FnOk.to0 k
end PyI
/-! PyI, part 16: the interpreter, run by simp. -/
namespace PyI
open PySem L2
theorem nr {α : Type} {a b : α} (h : a = b) : a = b := h
theorem okb {α β : Type} (a : α) (f : α → Res β) : (Res.ok a >>= f) = f a := nr rfl
theorem oko {α : Type} (a : α) (f : α → Out) : (Res.ok a).out f = f a := nr rfl
theorem noxo {α : Type} (a : α) : nox (Res.ok a) = .ok a := nr rfl
section
variable {G : Str → Option D} {Φ : Str → List D → Res D} {fu : Nat} {σ : Env}
theorem e_var (i : Nat) : ev G Φ (.var i) σ = getV σ i := nr rfl
theorem e_int (i : Int) : ev G Φ (.int i) σ = .ok (.int i) := nr rfl
theorem e_str (i : Str) : ev G Φ (.str i) σ = .ok (.str i) := nr rfl
theorem e_bl (i : Bool) : ev G Φ (.bl i) σ = .ok (.bl i) := nr rfl
theorem e_non : ev G Φ .non σ = .ok .non := nr rfl
theorem e_glob (x : Str) : ev G Φ (.glob x) σ = (match G x with
    | some d => .ok d
    | none => .bad) := nr rfl
theorem e_op (o : Op) (a b : E) : ev G Φ (.op o a b) σ = (ev G Φ a σ >>= fun x => ev G Φ b σ >>= fun y => opD o x y) := nr rfl
theorem e_neg (a : E) : ev G Φ (.neg a) σ = (ev G Φ a σ >>= fun x => intD x >>= fun i => .ok (.int (-i))) := nr rfl
theorem e_not (a : E) : ev G Φ (.not a) σ = (ev G Φ a σ >>= fun x => blD x >>= fun b => .ok (.bl (!b))) := nr rfl
theorem e_and (a b : E) : ev G Φ (.and a b) σ = (ev G Φ a σ >>= fun x => blD x >>= fun c => if c then ev G Φ b σ else .ok (.bl false)) := nr rfl
theorem e_or (a b : E) : ev G Φ (.or a b) σ = (ev G Φ a σ >>= fun x => blD x >>= fun c => if c then .ok (.bl true) else ev G Φ b σ) := nr rfl
theorem e_cmp (c : Cm) (a b : E) : ev G Φ (.cmp c a b) σ = (ev G Φ a σ >>= fun x => ev G Φ b σ >>= fun y => cmD c x y) := nr rfl
theorem e_chain (c c' : Cm) (a b d : E) : ev G Φ (.chain c c' a b d) σ = (ev G Φ a σ >>= fun x => ev G Φ b σ >>= fun y => cmD c x y >>= fun z => blD z >>= fun k => if k then ev G Φ d σ >>= fun w => cmD c' y w else .ok (.bl false)) := nr rfl
theorem e_ife (c a b : E) : ev G Φ (.ife c a b) σ = (ev G Φ c σ >>= fun x => blD x >>= fun k => if k then ev G Φ a σ else ev G Φ b σ) := nr rfl
theorem e_ix (a b : E) : ev G Φ (.ix a b) σ = (ev G Φ a σ >>= fun x => ev G Φ b σ >>= fun y => ixD x y) := nr rfl
theorem e_sl (a : E) (lo hi : Op1) : ev G Φ (.sl a lo hi) σ = (ev G Φ a σ >>= fun x => evo G Φ lo σ >>= fun l => evo G Φ hi σ >>= fun h => slD x l h) := nr rfl
theorem e_tup (es : Es) : ev G Φ (.tup es) σ = (evs G Φ es σ >>= fun ds => .ok (.tup ds)) := nr rfl
theorem e_lst (es : Es) : ev G Φ (.lst es) σ = (evs G Φ es σ >>= fun ds => .ok (.lst ds)) := nr rfl
theorem e_comp (elt : E) (tg : Tg) (src : Src) (own : List Nat) : ev G Φ (.comp elt tg src own) σ = (evS G Φ src σ >>= fun items => mapR (fun x => nox (asg tg x (wipeD σ own) >>= fun σ2 => ev G Φ elt σ2 >>= fun y => .ok (some y))) items >>= fun ds => if ds.length ≤ sizeLine then .ok (.lst ds) else .bad) := nr rfl
theorem e_compIf (elt : E) (tg : Tg) (src : Src) (c : E) (own : List Nat) : ev G Φ (.compIf elt tg src c own) σ = (evS G Φ src σ >>= fun items => mapR (fun x => nox (asg tg x (wipeD σ own) >>= fun σ2 => ev G Φ c σ2 >>= fun t => blD t >>= fun k => if k then ev G Φ elt σ2 >>= fun y => .ok (some y) else .ok none)) items >>= fun ds => if ds.length ≤ sizeLine then .ok (.lst ds) else .bad) := nr rfl
theorem e_call (f : Str) (es : Es) : ev G Φ (.call f es) σ = (evs G Φ es σ >>= fun ds => Φ f ds) := nr rfl
theorem e_bi (b : Bi) (es : Es) : ev G Φ (.bi b es) σ = (evs G Φ es σ >>= fun ds => biD b ds) := nr rfl
theorem e_isi (a : E) (t : String) : ev G Φ (.isi a t) σ = (ev G Φ a σ >>= fun x => isiD x t) := nr rfl
theorem es_nil : evs G Φ .nil σ = .ok [] := nr rfl
theorem es_cons (e : E) (r : Es) : evs G Φ (.cons e r) σ = (ev G Φ e σ >>= fun d => evs G Φ r σ >>= fun ds => .ok (d :: ds)) := nr rfl
theorem eo_no : evo G Φ .no σ = .ok none := nr rfl
theorem eo_so (e : E) : evo G Φ (.so e) σ = (ev G Φ e σ >>= fun x => intD x >>= fun i => .ok (some i)) := nr rfl
theorem eS_seq (e : E) : evS G Φ (.seq e) σ = (ev G Φ e σ >>= fun x => itemsD x) := nr rfl
theorem eS_rng1 (a : E) : evS G Φ (.rng1 a) σ = (ev G Φ a σ >>= fun x => intD x >>= fun i => rngD 0 i) := nr rfl
theorem eS_rng2 (a b : E) : evS G Φ (.rng2 a b) σ = (ev G Φ a σ >>= fun x => ev G Φ b σ >>= fun y => intD x >>= fun i => intD y >>= fun j => rngD i j) := nr rfl
theorem eS_enum (e : E) : evS G Φ (.enum e) σ = (ev G Φ e σ >>= fun x => enumI x >>= fun ds => .ok (enumD 0 ds)) := nr rfl
theorem eS_zip (a b : E) : evS G Φ (.zip a b) σ = (ev G Φ a σ >>= fun x => ev G Φ b σ >>= fun y => zipI x y >>= fun p => .ok (zipD p.1 p.2)) := nr rfl
theorem x_set (i : Nat) (e : E) : exS G Φ fu (.set i e) σ = (ev G Φ e σ).out fun d => (setE σ i e d).out fun σ1 => .nx σ1 := nr rfl
theorem x_setT (ts : List Tg) (e : E) : exS G Φ fu (.setT ts e) σ = (ev G Φ e σ).out fun d => (asg (.tup ts) d (keepL σ d (lt e ++ li e))).out fun σ1 => .nx σ1 := nr rfl
theorem x_setIx (i : Nat) (k e : E) : exS G Φ fu (.setIx i k e) σ = (ev G Φ e σ).out fun d => (ownL σ i).out fun _ => (ev G Φ k σ >>= intD).out fun n => (ownL (keepL σ d (lt e ++ li e)) i).out fun xs => (match ixN xs.length n with
    | some j => .nx ((keepL σ d (lt e ++ li e)).set i (some (.o (xs.set j d))))
    | none => .bad) := nr rfl
theorem x_aug (i : Nat) (o : Op) (e : E) : exS G Φ fu (.aug i o e) σ = (getV σ i).out fun x => (ev G Φ e σ).out fun y => (match o, x, y with
    | .add, .int a, .int b => .nx (σ.set i (some (.v (.int (a + b)))))
    | .sub, .int a, .int b => .nx (σ.set i (some (.v (.int (a - b)))))
    | _, _, _ => .bad) := nr rfl
theorem x_app (i : Nat) (e : E) : exS G Φ fu (.app i e) σ = (ownL σ i).out fun _ => (ev G Φ e σ).out fun d => (ownL (keepL σ d (lt e ++ li e)) i).out fun xs => if xs.length < sizeLine then .nx ((keepL σ d (lt e ++ li e)).set i (some (.o (xs ++ [d])))) else .bad := nr rfl
theorem x_ext (i : Nat) (e : E) : exS G Φ fu (.ext i e) σ = (ownL σ i).out fun _ => (ev G Φ e σ).out fun d => (lstD d).out fun ds => (ownL (freeze σ (li e)) i).out fun xs => if xs.length + ds.length ≤ sizeLine then .nx ((freeze σ (li e)).set i (some (.o (xs ++ ds)))) else .bad := nr rfl
theorem x_exp (e : E) : exS G Φ fu (.exp e) σ = (ev G Φ e σ).out fun _ => .nx σ := nr rfl
theorem x_ret (e : E) : exS G Φ fu (.ret e) σ = (ev G Φ e σ).out fun d => .rt d := nr rfl
theorem x_retN : exS G Φ fu .retN σ = .rt .non := nr rfl
theorem x_ife (c : E) (a b : Ss) : exS G Φ fu (.ife c a b) σ = (ev G Φ c σ >>= blD).out fun k => if k then exL G Φ fu a σ else exL G Φ fu b σ := nr rfl
theorem x_fr (tg : Tg) (src : Src) (b : Ss) : exS G Φ fu (.fr tg src b) σ = (evS G Φ src σ).out fun items => forL (asg tg) (exL G Φ fu b) items (freeze σ (ltS src ++ liS src)) := nr rfl
theorem x_wh (c : E) (b : Ss) : exS G Φ fu (.wh c b) σ = whL (ev G Φ c) (exL G Φ fu b) fu σ := nr rfl
theorem x_brk : exS G Φ fu .brk σ = .bk σ := nr rfl
theorem x_cont : exS G Φ fu .cont σ = .ct σ := nr rfl
theorem x_pass : exS G Φ fu .pass σ = .nx σ := nr rfl
theorem xs_nil : exL G Φ fu .nil σ = .nx σ := nr rfl
/-- go on, where the statement ends behind itself -/
def Out.andThen (o : Out) (f : Env → Out) : Out := match o with
  | .nx σ1 => f σ1
  | o => o
theorem xs_cons (s : S) (r : Ss) : exL G Φ fu (.cons s r) σ = (exS G Φ fu s σ).andThen (exL G Φ fu r) := nr rfl
theorem at_nx (σ : Env) (f : Env → Out) : (Out.nx σ).andThen f = f σ := nr rfl
theorem at_rt (d : D) (f : Env → Out) : (Out.rt d).andThen f = .rt d := nr rfl
theorem at_bk (σ : Env) (f : Env → Out) : (Out.bk σ).andThen f = .bk σ := nr rfl
theorem at_ct (σ : Env) (f : Env → Out) : (Out.ct σ).andThen f = .ct σ := nr rfl
theorem at_exc (c : Str) (vs : List D) (f : Env → Out) : (Out.exc c vs).andThen f = .exc c vs := nr rfl
theorem at_bad (f : Env → Out) : Out.bad.andThen f = .bad := nr rfl
theorem at_ite {c : Prop} [Decidable c] (a b : Out) (f : Env → Out) : (if c then a else b).andThen f = if c then a.andThen f else b.andThen f := by split <;> rfl
def Ss.cat : Ss → Ss → Ss
  | .nil, t => t
  | .cons s r, t => .cons s (r.cat t)
theorem xs_cat (t : Ss) : ∀ (s : Ss) (σ : Env), exL G Φ fu (s.cat t) σ = (exL G Φ fu s σ).andThen (exL G Φ fu t)
  | .nil, σ => rfl
  | .cons s r, σ => by
    show (exS G Φ fu s σ).andThen (exL G Φ fu (r.cat t)) = ((exS G Φ fu s σ).andThen (exL G Φ fu r)).andThen (exL G Φ fu t)
    cases exS G Φ fu s σ with
    | nx σ1 => exact xs_cat t r σ1
    | _ => rfl
/-- a def's end -/
def fin (o : Out) : Res D := match o with
  | .rt d => .ok d
  | .nx _ => .ok .non
  | .exc c vs => .exc c vs
  | _ => .bad
theorem fin_rt (d : D) : fin (.rt d) = .ok d := nr rfl
theorem fin_nx (σ : Env) : fin (.nx σ) = .ok .non := nr rfl
theorem fin_exc (c : Str) (vs : List D) : fin (.exc c vs) = .exc c vs := nr rfl
theorem fin_ite {c : Prop} [Decidable c] (a b : Out) : fin (if c then a else b) = if c then fin a else fin b := by split <;> rfl
/-! slots -/
theorem g_zv (d : D) (l : Env) : getV (some (.v d) :: l) 0 = .ok d := nr rfl
theorem g_zo (xs : List D) (l : Env) : getV (some (.o xs) :: l) 0 = .ok (.lst xs) := nr rfl
theorem g_s (a : Option C) (l : Env) (n : Nat) : getV (a :: l) (n + 1) = getV l n := nr rfl
theorem o_z (xs : List D) (l : Env) : ownL (some (.o xs) :: l) 0 = .ok xs := nr rfl
theorem o_s (a : Option C) (l : Env) (n : Nat) : ownL (a :: l) (n + 1) = ownL l n := nr rfl
/-- a store of something -/
def stV (σ : Env) (i : Nat) (d : D) : Env := σ.set i (some (.v d))
theorem st_z (a : Option C) (l : Env) (x : Option C) : List.set (a :: l) 0 x = x :: l := nr rfl
theorem st_s (a : Option C) (l : Env) (n : Nat) (x : Option C) : List.set (a :: l) (n + 1) x = a :: l.set n x := nr rfl
theorem kp_int (i : Int) (L : List Nat) : keepL σ (.int i) L = σ := nr rfl
theorem kp_non (L : List Nat) : keepL σ .non L = σ := nr rfl
theorem kp_bl (i : Bool) (L : List Nat) : keepL σ (.bl i) L = σ := nr rfl
theorem kp_str (i : Str) (L : List Nat) : keepL σ (.str i) L = σ := nr rfl
theorem kp_nil (d : D) : keepL σ d [] = σ := by unfold keepL; split <;> rfl
theorem lS1 (a : E) : ltS (.rng1 a) ++ liS (.rng1 a) = [] := nr rfl
theorem lS2 (a b : E) : ltS (.rng2 a b) ++ liS (.rng2 a b) = [] := nr rfl
theorem fz_nil : freeze σ [] = σ := nr rfl
theorem sv_if (i : Nat) (d : D) : setV σ i d = if i < σ.length then .ok (σ.set i (some (.v d))) else .bad := nr rfl
theorem sE_f {e : E} (h : fresh e = false) (i : Nat) (d : D) : setE σ i e d = if i < σ.length then .ok ((keepL σ d (lt e ++ li e)).set i (some (.v d))) else .bad := by unfold setE; rw [h]
theorem sE_t {e : E} (h : fresh e = true) (i : Nat) (ds : List D) : setE σ i e (.lst ds) = if i < σ.length then .ok ((freeze σ (li e)).set i (some (.o ds))) else .bad := by unfold setE; rw [h]
theorem sE_i {e : E} (i : Nat) (n : Int) : setE σ i e (.int n) = if i < σ.length then .ok (σ.set i (some (.v (.int n)))) else .bad := by
  unfold setE
  cases fresh e <;> rfl
theorem sE_tup {e : E} (i : Nat) (n : List D) (h : D.stills n = true) : setE σ i e (.tup n) = if i < σ.length then .ok (σ.set i (some (.v (.tup n)))) else .bad := by
  have k : ∀ L, keepL σ (.tup n) L = σ := fun L => by unfold keepL; rw [if_pos (by show D.stills n = true; exact h)]
  unfold setE
  cases fresh e <;> simp [k]
theorem sE_lst (i : Nat) (es : Es) (ds : List D) : setE σ i (.lst es) (.lst ds) = if i < σ.length then .ok ((freeze σ (las es)).set i (some (.o ds))) else .bad := nr rfl
theorem sE_comp (i : Nat) (a : E) (tg : Tg) (s : Src) (o : List Nat) (ds : List D) : setE σ i (.comp a tg s o) (.lst ds) = if i < σ.length then .ok ((freeze σ (lt a ++ li a)).set i (some (.o ds))) else .bad := nr rfl
theorem sE_compIf (i : Nat) (a c : E) (tg : Tg) (s : Src) (o : List Nat) (ds : List D) : setE σ i (.compIf a tg s c o) (.lst ds) = if i < σ.length then .ok ((freeze σ (lt a ++ li a)).set i (some (.o ds))) else .bad := nr rfl
theorem sE_opl (i : Nat) (o : Op) (a b : E) (ds : List D) : setE σ i (.op o a b) (.lst ds) = if i < σ.length then .ok ((freeze σ (li a ++ li b)).set i (some (.o ds))) else .bad := nr rfl
theorem sE_sl (i : Nat) (a : E) (lo hi : Op1) (ds : List D) : setE σ i (.sl a lo hi) (.lst ds) = if i < σ.length then .ok ((freeze σ (li a)).set i (some (.o ds))) else .bad := nr rfl
theorem sE_list (i : Nat) (es : Es) (ds : List D) : setE σ i (.bi .list es) (.lst ds) = if i < σ.length then .ok ((freeze σ (lis es)).set i (some (.o ds))) else .bad := nr rfl
theorem sE_sorted (i : Nat) (es : Es) (ds : List D) : setE σ i (.bi .sorted es) (.lst ds) = if i < σ.length then .ok ((freeze σ (lis es)).set i (some (.o ds))) else .bad := nr rfl
theorem sE_var (i j : Nat) (d : D) : setE σ i (.var j) d = if i < σ.length then .ok ((keepL σ d [j]).set i (some (.v d))) else .bad := by cases d <;> rfl
theorem sE_ix (i : Nat) (a b : E) (d : D) : setE σ i (.ix a b) d = if i < σ.length then .ok ((keepL σ d (li a ++ li a)).set i (some (.v d))) else .bad := by cases d <;> rfl
theorem sE_call (i : Nat) (f : Str) (es : Es) (d : D) : setE σ i (.call f es) d = if i < σ.length then .ok ((keepL σ d (las es ++ las es)).set i (some (.v d))) else .bad := by cases d <;> rfl
theorem sE_non (i : Nat) (e : E) : setE σ i e .non = if i < σ.length then .ok (σ.set i (some (.v .non))) else .bad := by
  unfold setE
  cases fresh e <;> rfl
theorem sE_blv (i : Nat) (e : E) (b : Bool) : setE σ i e (.bl b) = if i < σ.length then .ok (σ.set i (some (.v (.bl b)))) else .bad := by
  unfold setE
  cases fresh e <;> rfl
theorem sE_tp (i : Nat) (e : E) (ds : List D) : setE σ i e (.tup ds) = if i < σ.length then .ok ((keepL σ (.tup ds) (lt e ++ li e)).set i (some (.v (.tup ds)))) else .bad := by
  unfold setE
  cases fresh e <;> rfl
theorem kp_still {d : D} (h : d.still = true) (L : List Nat) : keepL σ d L = σ := if_pos h
theorem stills_ints (ns : List Int) : D.stills (ns.map D.int) = true := by
  induction ns with
  | nil => rfl
  | cons a r ih => exact ih
abbrev nm (x : Nat) : D := .int x
theorem stills_nats (ns : List Nat) : D.stills (ns.map nm) = true := by
  induction ns with
  | nil => rfl
  | cons a r ih => exact ih
theorem ad_int (i j : Int) : opD .add (.int i) (.int j) = .ok (.int (i + j)) := nr rfl
theorem sb_int (i j : Int) : opD .sub (.int i) (.int j) = .ok (.int (i - j)) := nr rfl
theorem ml_int {i j : Int} (h : mulOk i j) : opD .mul (.int i) (.int j) = .ok (.int (i * j)) := if_pos h
theorem fd_int {i j : Int} (h : 0 < j ∧ j.natAbs.log2 < 9000) : opD .fdiv (.int i) (.int j) = .ok (.int (i / j)) := if_pos h
theorem md_int {i j : Int} (h : 0 < j) : opD .mod (.int i) (.int j) = .ok (.int (i % j)) := if_pos h
theorem pw_int {i j : Int} (h : powOk i j) : opD .pow (.int i) (.int j) = .ok (.int (i ^ j.toNat)) := if_pos h
theorem c_lt (i j : Int) : cmD .lt (.int i) (.int j) = .ok (.bl (decide (i < j))) := nr rfl
theorem c_le (i j : Int) : cmD .le (.int i) (.int j) = .ok (.bl (decide (i ≤ j))) := nr rfl
theorem c_gt (i j : Int) : cmD .gt (.int i) (.int j) = .ok (.bl (decide (j < i))) := nr rfl
theorem c_ge (i j : Int) : cmD .ge (.int i) (.int j) = .ok (.bl (decide (j ≤ i))) := nr rfl
theorem c_eq (i j : Int) : cmD .eq (.int i) (.int j) = .ok (.bl (decide (i = j))) := by
  show Res.ok (D.bl (i == j)) = _
  congr 2
theorem c_ne (i j : Int) : cmD .ne (.int i) (.int j) = .ok (.bl (decide (i ≠ j))) := by
  show Res.ok (D.bl (!(i == j))) = _
  congr 2
  by_cases h : i = j
  · subst h; simp
  · simp [h]
theorem c_is (a : D) : cmD .isN a .non = .ok (.bl (isN a)) := nr rfl
theorem c_no (a : D) : cmD .notN a .non = .ok (.bl (!isN a)) := nr rfl
theorem bl_bl (b : Bool) : blD (.bl b) = .ok b := nr rfl
theorem in_in (b : Int) : intD (.int b) = .ok b := nr rfl
theorem b_len (xs : List D) : biD .len [.lst xs] = .ok (.int xs.length) := nr rfl
theorem b_lenT (xs : List D) : biD .len [.tup xs] = .ok (.int xs.length) := nr rfl
theorem b_lenS (xs : List Int) : biD .len [.scr xs] = .ok (.int xs.length) := nr rfl
theorem b_int (i : Int) : biD .int [.int i] = .ok (.int i) := nr rfl
theorem b_abs (i : Int) : biD .abs [.int i] = .ok (.int (if i < 0 then -i else i)) := nr rfl
theorem b_min (i j : Int) : biD .min [.int i, .int j] = .ok (.int (if j < i then j else i)) := nr rfl
theorem b_max (i j : Int) : biD .max [.int i, .int j] = .ok (.int (if i < j then j else i)) := nr rfl
theorem b_tupL (xs : List D) : biD .tuple [.lst xs] = .ok (.tup xs) := nr rfl
theorem b_tupT (xs : List D) : biD .tuple [.tup xs] = .ok (.tup xs) := nr rfl
theorem b_lstT (xs : List D) : biD .list [.tup xs] = .ok (.lst xs) := nr rfl
theorem b_lstL (xs : List D) : biD .list [.lst xs] = .ok (.lst xs) := nr rfl
theorem at_some {α : Type} {xs : List α} {i : Int} {n : Nat} {a : α} (h : i = n) (e : xs[n]? = some a) : atI xs i = some a := by
  subst h
  have hn : n < xs.length := (List.getElem?_eq_some_iff.mp e).1
  unfold atI ixN
  rw [if_pos (by omega), if_pos (by omega)]
  exact e
theorem ix_lst {xs : List D} {i : Int} {n : Nat} {a : D} (h : i = n) (e : xs[n]? = some a) : ixD (.lst xs) (.int i) = .ok a := by
  show (match atI xs i with | some d => Res.ok d | none => .bad) = _
  rw [at_some h e]
theorem ix_tup {xs : List D} {i : Int} {n : Nat} {a : D} (h : i = n) (e : xs[n]? = some a) : ixD (.tup xs) (.int i) = .ok a := by
  show (match atI xs i with | some d => Res.ok d | none => .bad) = _
  rw [at_some h e]
theorem ix_scr {xs : List Int} {i : Int} {n : Nat} {a : Int} (h : i = n) (e : xs[n]? = some a) : ixD (.scr xs) (.int i) = .ok (.int a) := by
  show (match atI xs i with | some d => Res.ok (D.int d) | none => .bad) = _
  rw [at_some h e]
theorem ixT0 (a : D) (l : List D) : ixD (.tup (a :: l)) (.int 0) = .ok a := ix_tup (n := 0) rfl rfl
theorem ixT1 (a b : D) (l : List D) : ixD (.tup (a :: b :: l)) (.int 1) = .ok b := ix_tup (n := 1) rfl rfl
theorem ixT2 (a b c : D) (l : List D) : ixD (.tup (a :: b :: c :: l)) (.int 2) = .ok c := ix_tup (n := 2) rfl rfl
theorem ixT3 (a b c d : D) (l : List D) : ixD (.tup (a :: b :: c :: d :: l)) (.int 3) = .ok d := ix_tup (n := 3) rfl rfl
theorem rng_ok {a b : Int} (h : -(2 ^ 62) ≤ a ∧ a < 2 ^ 62 ∧ -(2 ^ 62) ≤ b ∧ b < 2 ^ 62) : rngD a b = .ok ((List.range (b - a).toNat).map fun i => .int (a + (i : Nat))) := if_pos h
end
theorem is_n_int  : isiD .non "int" = .ok (.bl false) := nr rfl
theorem is_n_bool  : isiD .non "bool" = .ok (.bl false) := nr rfl
theorem is_n_str  : isiD .non "str" = .ok (.bl false) := nr rfl
theorem is_n_tuple  : isiD .non "tuple" = .ok (.bl false) := nr rfl
theorem is_n_list  : isiD .non "list" = .ok (.bl false) := nr rfl
theorem is_b_int (b : Bool) : isiD (.bl b) "int" = .ok (.bl true) := nr rfl
theorem is_b_bool (b : Bool) : isiD (.bl b) "bool" = .ok (.bl true) := nr rfl
theorem is_b_str (b : Bool) : isiD (.bl b) "str" = .ok (.bl false) := nr rfl
theorem is_b_tuple (b : Bool) : isiD (.bl b) "tuple" = .ok (.bl false) := nr rfl
theorem is_b_list (b : Bool) : isiD (.bl b) "list" = .ok (.bl false) := nr rfl
theorem is_i_int (i : Int) : isiD (.int i) "int" = .ok (.bl true) := nr rfl
theorem is_i_bool (i : Int) : isiD (.int i) "bool" = .ok (.bl false) := nr rfl
theorem is_i_str (i : Int) : isiD (.int i) "str" = .ok (.bl false) := nr rfl
theorem is_i_tuple (i : Int) : isiD (.int i) "tuple" = .ok (.bl false) := nr rfl
theorem is_i_list (i : Int) : isiD (.int i) "list" = .ok (.bl false) := nr rfl
theorem is_s_int (s : Str) : isiD (.str s) "int" = .ok (.bl false) := nr rfl
theorem is_s_bool (s : Str) : isiD (.str s) "bool" = .ok (.bl false) := nr rfl
theorem is_s_str (s : Str) : isiD (.str s) "str" = .ok (.bl true) := nr rfl
theorem is_s_tuple (s : Str) : isiD (.str s) "tuple" = .ok (.bl false) := nr rfl
theorem is_s_list (s : Str) : isiD (.str s) "list" = .ok (.bl false) := nr rfl
theorem is_t_int (ds : List D) : isiD (.tup ds) "int" = .ok (.bl false) := nr rfl
theorem is_t_bool (ds : List D) : isiD (.tup ds) "bool" = .ok (.bl false) := nr rfl
theorem is_t_str (ds : List D) : isiD (.tup ds) "str" = .ok (.bl false) := nr rfl
theorem is_t_tuple (ds : List D) : isiD (.tup ds) "tuple" = .ok (.bl true) := nr rfl
theorem is_t_list (ds : List D) : isiD (.tup ds) "list" = .ok (.bl false) := nr rfl
theorem is_l_int (ds : List D) : isiD (.lst ds) "int" = .ok (.bl false) := nr rfl
theorem is_l_bool (ds : List D) : isiD (.lst ds) "bool" = .ok (.bl false) := nr rfl
theorem is_l_str (ds : List D) : isiD (.lst ds) "str" = .ok (.bl false) := nr rfl
theorem is_l_tuple (ds : List D) : isiD (.lst ds) "tuple" = .ok (.bl false) := nr rfl
theorem is_l_list (ds : List D) : isiD (.lst ds) "list" = .ok (.bl true) := nr rfl
theorem asg1 {τ : Env} (i : Nat) (d : D) : asg (.nm i) d τ = if i < τ.length then .ok (τ.set i (some (.v d))) else .bad := nr rfl
theorem asgT {τ : Env} (ts : List Tg) (ds : List D) : asg (.tup ts) (.tup ds) τ = asgs ts ds τ := nr rfl
theorem asgN {τ : Env} (t : Tg) (ts : List Tg) (d : D) (ds : List D) : asgs (t :: ts) (d :: ds) τ = (asg t d τ >>= fun σ1 => asgs ts ds σ1) := nr rfl
theorem asg0 {τ : Env} : asgs [] [] τ = .ok τ := nr rfl
/-! ### loops -/
/-- turns that all go on -/
theorem forL_go {g : D → Env → Res Env} {f : Env → Out} : ∀ (items : List D) (P : Nat → Env → Prop) (σ : Env), P 0 σ → (∀ i d τ, items[i]? = some d → P i τ → ∃ τ1, g d τ = .ok τ1 ∧ ∃ τ2, (f τ1 = .nx τ2 ∨ f τ1 = .ct τ2) ∧ P (i + 1) τ2) →
    ∃ τ, forL g f items σ = .nx τ ∧ P items.length τ
  | [], P, σ, h, _ => ⟨σ, rfl, h⟩
  | d :: r, P, σ, h, st => by
    obtain ⟨τ1, e1, τ2, e2, h2⟩ := st 0 d σ rfl h
    obtain ⟨τ, e3, h3⟩ := forL_go r (fun i => P (i + 1)) τ2 h2 fun i d τ hi hp => st (i + 1) d τ hi hp
    refine ⟨τ, ?_, h3⟩
    unfold forL
    rw [e1]
    show (match f τ1 with
      | .nx σ2 => forL g f r σ2
      | .ct σ2 => forL g f r σ2
      | .bk σ2 => .nx σ2
      | o => o) = _
    rcases e2 with e2 | e2 <;> rw [e2] <;> exact e3
/-- .. or one ends all -/
theorem forL_end {g : D → Env → Res Env} {f : Env → Out} : ∀ (items : List D) (P : Nat → Env → Prop) (R : Out → Prop) (σ : Env), P 0 σ →
    (∀ i d τ, items[i]? = some d → P i τ → ∃ τ1, g d τ = .ok τ1 ∧ ((∃ τ2, (f τ1 = .nx τ2 ∨ f τ1 = .ct τ2) ∧ P (i + 1) τ2) ∨ (∃ d, f τ1 = .rt d ∧ R (.rt d)) ∨ ∃ τ2, f τ1 = .bk τ2 ∧ R (.nx τ2))) →
    (∀ τ, P items.length τ → R (.nx τ)) → R (forL g f items σ)
  | [], P, R, σ, h, _, hn => hn σ h
  | d :: r, P, R, σ, h, st, hn => by
    obtain ⟨τ1, e1, e2⟩ := st 0 d σ rfl h
    unfold forL
    rw [e1]
    show R (match f τ1 with
      | .nx σ2 => forL g f r σ2
      | .ct σ2 => forL g f r σ2
      | .bk σ2 => .nx σ2
      | o => o)
    rcases e2 with ⟨τ2, e2, h2⟩ | ⟨d, e2, h2⟩ | ⟨τ2, e2, h2⟩
    · have := forL_end r (fun i => P (i + 1)) R τ2 h2 (fun i d τ hi hp => st (i + 1) d τ hi hp) hn
      rcases e2 with e2 | e2 <;> rw [e2] <;> exact this
    · rw [e2]; exact h2
    · rw [e2]; exact h2
theorem whL_go {c : Env → Res D} {f : Env → Out} (P : Env → Prop) (R : Out → Prop) (m : Env → Nat) : ∀ (n : Nat) (σ : Env), m σ < n → P σ →
    (∀ τ, P τ → ∃ b, c τ = .ok (.bl b) ∧ (b = false → R (.nx τ)) ∧ (b = true → (∃ τ2, (f τ = .nx τ2 ∨ f τ = .ct τ2) ∧ P τ2 ∧ m τ2 < m τ) ∨ (∃ d, f τ = .rt d ∧ R (.rt d)) ∨ ∃ τ2, f τ = .bk τ2 ∧ R (.nx τ2))) → R (whL c f n σ)
  | 0, σ, h, _, _ => absurd h (Nat.not_lt_zero _)
  | n + 1, σ, h, hp, st => by
    obtain ⟨b, e, e0, e1⟩ := st σ hp
    unfold whL
    rw [e]
    show R (if b then (match f σ with
      | .nx σ2 => whL c f n σ2
      | .ct σ2 => whL c f n σ2
      | .bk σ2 => .nx σ2
      | o => o) else .nx σ)
    cases b with
    | false => exact e0 rfl
    | true =>
      rw [if_pos rfl]
      rcases e1 rfl with ⟨τ2, e2, h2, hm⟩ | ⟨d, e2, h2⟩ | ⟨τ2, e2, h2⟩
      · have := whL_go P R m n τ2 (by omega) h2 st
        rcases e2 with e2 | e2 <;> rw [e2] <;> exact this
      · rw [e2]; exact h2
      · rw [e2]; exact h2
/-- a comprehension over turns that all yield -/
theorem mapR_ok {f : D → Res (Option D)} {g : D → D} : ∀ {ds : List D}, (∀ d ∈ ds, f d = .ok (some (g d))) → mapR f ds = .ok (ds.map g)
  | [], _ => rfl
  | d :: r, h => by
    show (f d >>= fun o => mapR f r >>= fun ds => match o with
      | some x => .ok (x :: ds)
      | none => .ok ds) = _
    rw [h d List.mem_cons_self, mapR_ok fun d hd => h d (List.mem_cons_of_mem _ hd)]
    rfl
theorem mapR_if {f : D → Res (Option D)} {g : D → D} {p : D → Bool} : ∀ {ds : List D}, (∀ d ∈ ds, f d = .ok (if p d then some (g d) else none)) → mapR f ds = .ok ((ds.filter p).map g)
  | [], _ => rfl
  | d :: r, h => by
    show (f d >>= fun o => mapR f r >>= fun ds => match o with
      | some x => .ok (x :: ds)
      | none => .ok ds) = _
    rw [h d List.mem_cons_self, mapR_if fun d hd => h d (List.mem_cons_of_mem _ hd)]
    rw [List.filter_cons]
    cases p d <;> rfl
end PyI
namespace PyI
open PySem L2
/-- no slot holds a list of its own -/
def noO : Env → Bool
  | [] => true
  | none :: r => noO r
  | some (.v _) :: r => noO r
  | some (.o _) :: _ => false
theorem no_0 : noO [] = true := nr rfl
theorem no_n (r : Env) : noO (none :: r) = noO r := nr rfl
theorem no_v (d : D) (r : Env) : noO (some (.v d) :: r) = noO r := nr rfl
theorem noO_get : ∀ {σ : Env} {i : Nat} {xs : List D}, noO σ = true → σ[i]? ≠ some (some (.o xs))
  | [], i, xs, _, h => by cases h
  | none :: r, 0, xs, _, h => by cases h
  | none :: r, i + 1, xs, hn, h => noO_get (σ := r) (i := i) hn h
  | some (.v _) :: r, 0, xs, _, h => by cases h
  | some (.v _) :: r, i + 1, xs, hn, h => noO_get (σ := r) (i := i) hn h
  | some (.o _) :: _, _, _, hn, _ => by cases hn
theorem fz_noO {σ : Env} (h : noO σ = true) : ∀ L, freeze σ L = σ
  | [] => rfl
  | i :: r => by
    show (match (freeze σ r)[i]? with
      | some (some (.o xs)) => (freeze σ r).set i (some (.v (.lst xs)))
      | _ => freeze σ r) = σ
    rw [fz_noO h r]
    split
    · rename_i xs e
      exact absurd e (noO_get h)
    · rfl
theorem kp_noO {σ : Env} (h : noO σ = true) (d : D) (L : List Nat) : keepL σ d L = σ := by
  unfold keepL
  split
  · rfl
  · exact fz_noO h L
theorem wp_s {σ : Env} (i : Nat) (r : List Nat) : wipeD σ (i :: r) = (wipeD σ r).set i none := nr rfl
theorem wp_n {σ : Env} : wipeD σ [] = σ := nr rfl
theorem rng0 {m : Nat} (h : m ≤ 1000000000) : rngD 0 (m : Int) = .ok ((List.range m).map fun (i : Nat) => D.int i) := by
  rw [rng_ok (a := 0) (b := (m : Int)) ⟨by decide, by decide, by omega, by omega⟩]
  congr 1
  rw [show ((m : Int) - 0).toNat = m by omega]
  apply List.map_congr_left
  intro i _
  congr 1
  omega
theorem rngN {m k : Nat} (h : m ≤ 1000000000) (h2 : k ≤ 1000000000) : rngD (k : Int) (m : Int) = .ok ((List.range (m - k)).map fun (i : Nat) => D.int ((k + i : Nat) : Int)) := by
  rw [rng_ok (a := (k : Int)) (b := (m : Int)) ⟨by omega, by omega, by omega, by omega⟩]
  congr 1
  rw [show ((m : Int) - (k : Int)).toNat = m - k by omega]
  apply List.map_congr_left
  intro i _
  congr 1
theorem rg_get {m : Nat} {g : Nat → D} {i : Nat} {d : D} (h : ((List.range m).map g)[i]? = some d) : i < m ∧ d = g i := by
  rw [List.getElem?_map] at h
  cases e : (List.range m)[i]? with
  | none => rw [e] at h; cases h
  | some j =>
    rw [e] at h
    obtain ⟨h1, h2⟩ := List.getElem?_eq_some_iff.mp e
    rw [List.getElem_range] at h2
    subst h2
    cases h
    exact ⟨by simpa using h1, rfl⟩
theorem rg_len {m : Nat} {g : Nat → D} : ((List.range m).map g).length = m := by simp
section
variable {G : Str → Option D} {Φ : Str → List D → Res D} {fu : Nat} {σ : Env}
theorem comp_ok {elt : E} {tg : Tg} {src : Src} {own : List Nat} {items : List D} (hs : evS G Φ src σ = .ok items) (g : D → D) (h : ∀ d ∈ items, ∃ σ2, asg tg d (wipeD σ own) = .ok σ2 ∧ ev G Φ elt σ2 = .ok (g d)) (hl : items.length ≤ sizeLine) :
    ev G Φ (.comp elt tg src own) σ = .ok (.lst (items.map g)) := by
  rw [e_comp, hs]
  show (mapR _ items >>= fun ds => if ds.length ≤ sizeLine then Res.ok (D.lst ds) else .bad) = _
  rw [mapR_ok (g := g) fun d hd => by
    obtain ⟨σ2, h1, h2⟩ := h d hd
    rw [h1]
    show nox (ev G Φ elt σ2 >>= fun y => Res.ok (some y)) = _
    rw [h2]
    rfl]
  show (if (items.map g).length ≤ sizeLine then Res.ok (D.lst (items.map g)) else .bad) = _
  rw [List.length_map, if_pos hl]
theorem compIf_ok {elt c : E} {tg : Tg} {src : Src} {own : List Nat} {items : List D} (hs : evS G Φ src σ = .ok items) (g : D → D) (p : D → Bool) (h : ∀ d ∈ items, ∃ σ2, asg tg d (wipeD σ own) = .ok σ2 ∧ ev G Φ c σ2 = .ok (.bl (p d)) ∧ (p d = true → ev G Φ elt σ2 = .ok (g d))) (hl : items.length ≤ sizeLine) :
    ev G Φ (.compIf elt tg src c own) σ = .ok (.lst ((items.filter p).map g)) := by
  rw [e_compIf, hs]
  show (mapR _ items >>= fun ds => if ds.length ≤ sizeLine then Res.ok (D.lst ds) else .bad) = _
  rw [mapR_if (g := g) (p := p) fun d hd => by
    obtain ⟨σ2, h1, h2, h3⟩ := h d hd
    rw [h1]
    show nox (ev G Φ c σ2 >>= fun t => blD t >>= fun k => if k then ev G Φ elt σ2 >>= fun y => Res.ok (some y) else .ok none) = _
    rw [h2]
    show nox (if p d then ev G Φ elt σ2 >>= fun y => Res.ok (some y) else .ok none) = _
    cases q : p d with
    | true => rw [if_pos rfl, h3 q]; rfl
    | false => rfl]
  show (if ((items.filter p).map g).length ≤ sizeLine then Res.ok (D.lst ((items.filter p).map g)) else .bad) = _
  rw [List.length_map, if_pos (Nat.le_trans (List.length_filter_le _ _) hl)]
theorem comp_rng {elt : E} {tg : Tg} {src : Src} {own : List Nat} {m : Nat} {q : Nat → D} (hs : evS G Φ src σ = .ok ((List.range m).map q)) (g : Nat → D) (h : ∀ i, i < m → ∃ σ2, asg tg (q i) (wipeD σ own) = .ok σ2 ∧ ev G Φ elt σ2 = .ok (g i)) (hl : m ≤ sizeLine) :
    ev G Φ (.comp elt tg src own) σ = .ok (.lst ((List.range m).map g)) := by
  have key : ∀ l : List Nat, (∀ i ∈ l, i < m) → mapR (fun x => nox (asg tg x (wipeD σ own) >>= fun σ2 => ev G Φ elt σ2 >>= fun y => .ok (some y))) (l.map q) = .ok (l.map g) := by
    intro l
    induction l with
    | nil => intro _; rfl
    | cons i r ih =>
      intro hm
      obtain ⟨σ2, h1, h2⟩ := h i (hm i List.mem_cons_self)
      show (nox (asg tg (q i) (wipeD σ own) >>= fun σ2 => ev G Φ elt σ2 >>= fun y => Res.ok (some y)) >>= fun o => mapR _ (r.map q) >>= fun ds => match o with
        | some x => Res.ok (x :: ds)
        | none => .ok ds) = _
      rw [ih fun j hj => hm j (List.mem_cons_of_mem _ hj), h1]
      show (nox (ev G Φ elt σ2 >>= fun y => Res.ok (some y)) >>= fun o => _) = _
      rw [h2]
      rfl
  rw [e_comp, hs]
  show (mapR _ ((List.range m).map q) >>= fun ds => if ds.length ≤ sizeLine then Res.ok (D.lst ds) else .bad) = _
  rw [key _ fun i hi => List.mem_range.mp hi]
  show (if ((List.range m).map g).length ≤ sizeLine then Res.ok (D.lst ((List.range m).map g)) else .bad) = _
  rw [rg_len, if_pos hl]
end
theorem ixN_nat {n j : Nat} {i : Int} (h : i = j) (hj : j < n) : ixN n i = some j := by
  subst h
  unfold ixN
  rw [if_pos (by omega), if_pos (by omega), Int.toNat_natCast]
theorem nget {xs : List Nat} {j : Nat} (h : j < xs.length) : (xs.map nm)[j]? = some (.int (xs.getD j 0 : Nat)) := by
  rw [List.getElem?_map, List.getElem?_eq_getElem h, List.getD_eq_getElem?_getD, List.getElem?_eq_getElem h]
  rfl
theorem iget {xs : List Int} {j : Nat} (h : j < xs.length) : (xs.map D.int)[j]? = some (.int (xs.getD j 0)) := by
  rw [List.getElem?_map, List.getElem?_eq_getElem h, List.getD_eq_getElem?_getD, List.getElem?_eq_getElem h]
  rfl
theorem call_of {T : Tbl} {x : Str} {d : DDef} (h : findD T.defs x = some d) (n : Nat) (ds : List D) (hl : ds.length = d.ps.length) : T.prg.call (n + 1) x ds = fin (exL T.prg.G (T.prg.call n) T.prg.fu d.body (enter d.N.length ds)) := by
  show (match (findD T.defs x).map DDef.fn with
      | some fn => callB T.prg.G (T.prg.call n) T.prg.fu fn ds
      | none => .bad) = _
  rw [h]
  show (if ds.length = d.ps.length then _ else Res.bad) = _
  rw [if_pos hl]
  rfl
section
variable {G : Str → Option D} {Φ : Str → List D → Res D} {fu : Nat} {σ : Env}
theorem oke {α : Type} (c : Str) (vs : List D) (f : α → Out) : (Res.exc c vs : Res α).out f = .exc c vs := nr rfl
theorem okbe {α β : Type} (c : Str) (vs : List D) (f : α → Res β) : ((Res.exc c vs : Res α) >>= f) = .exc c vs := nr rfl
theorem x_raise (c : Str) (es : Es) : exS G Φ fu (.raise c es) σ = (evs G Φ es σ).out fun ds => .exc c ds := nr rfl
theorem x_tr (b : Ss) (c : Str) (i : Option Nat) (xs : List (Str × List Str)) (h : Hn) : exS G Φ fu (.tr b c i xs h) σ = trO xs c h (exL G Φ fu b σ) := nr rfl
theorem tr_nx (xs : List (Str × List Str)) (c : Str) (h : Hn) (σ : Env) : trO xs c h (.nx σ) = .nx σ := nr rfl
theorem tr_rt (xs : List (Str × List Str)) (c : Str) (h : Hn) (d : D) : trO xs c h (.rt d) = .rt d := nr rfl
theorem e_comp2 (elt : E) (tg : Tg) (src : Src) (tg1 : Tg) (src1 : Src) (own vs1 : List Nat) : ev G Φ (.comp2 elt tg src tg1 src1 own vs1) σ = (evS G Φ src σ >>= fun items => flatR (fun x => nox (asg tg x (wipeD σ own) >>= fun σ2 => evS G Φ src1 σ2 >>= fun items1 => mapR (fun x1 => nox (asg tg1 x1 (wipeD σ2 vs1) >>= fun σ3 => ev G Φ elt σ3 >>= fun y => .ok (some y))) items1)) items >>= fun ds => if ds.length ≤ sizeLine then .ok (.lst ds) else .bad) := nr rfl
theorem sE_comp2 (i : Nat) (a : E) (tg : Tg) (s : Src) (tg1 : Tg) (s1 : Src) (o o1 : List Nat) (ds : List D) : setE σ i (.comp2 a tg s tg1 s1 o o1) (.lst ds) = if i < σ.length then .ok ((freeze σ (lt a ++ li a)).set i (some (.o ds))) else .bad := nr rfl
theorem flatR_ok {f : D → Res (List D)} {g : D → List D} : ∀ {ds : List D}, (∀ d ∈ ds, f d = .ok (g d)) → flatR f ds = .ok (ds.flatMap g)
  | [], _ => rfl
  | d :: r, h => by
    show (f d >>= fun xs => flatR f r >>= fun ds => .ok (xs ++ ds)) = _
    rw [h d List.mem_cons_self, flatR_ok fun d hd => h d (List.mem_cons_of_mem _ hd)]
    rfl
theorem comp2_ok {elt : E} {tg tg1 : Tg} {src src1 : Src} {own vs1 : List Nat} {items : List D} (hs : evS G Φ src σ = .ok items) (I : D → List D) (g : D → D → D)
    (h : ∀ d ∈ items, ∃ σ2, asg tg d (wipeD σ own) = .ok σ2 ∧ evS G Φ src1 σ2 = .ok (I d) ∧ ∀ e ∈ I d, ∃ σ3, asg tg1 e (wipeD σ2 vs1) = .ok σ3 ∧ ev G Φ elt σ3 = .ok (g d e)) (hl : (items.flatMap fun d => (I d).map (g d)).length ≤ sizeLine) :
    ev G Φ (.comp2 elt tg src tg1 src1 own vs1) σ = .ok (.lst (items.flatMap fun d => (I d).map (g d))) := by
  rw [e_comp2, hs]
  show (flatR _ items >>= fun ds => if ds.length ≤ sizeLine then Res.ok (D.lst ds) else .bad) = _
  rw [flatR_ok (g := fun d => (I d).map (g d)) fun d hd => by
    obtain ⟨σ2, h1, h2, h3⟩ := h d hd
    rw [h1]
    show nox (evS G Φ src1 σ2 >>= fun items1 => _) = _
    rw [h2]
    show nox (mapR _ (I d)) = _
    rw [mapR_ok (g := g d) fun e he => by
      obtain ⟨σ3, k1, k2⟩ := h3 e he
      rw [k1]
      show nox (ev G Φ elt σ3 >>= fun y => Res.ok (some y)) = _
      rw [k2]
      rfl]
    rfl]
  show (if _ then _ else _) = _
  rw [if_pos hl]
/-- a slot that holds no list of its own -/
theorem fz1 {i : Nat} (h : ∀ xs, σ[i]? ≠ some (some (.o xs))) : freeze σ [i] = σ := by
  show (match σ[i]? with
    | some (some (.o xs)) => σ.set i (some (.v (.lst xs)))
    | _ => σ) = σ
  split
  · rename_i xs e
    exact absurd e (h xs)
  · rfl
theorem fz1o {i : Nat} {xs : List D} (h : σ[i]? = some (some (.o xs))) : freeze σ [i] = σ.set i (some (.v (.lst xs))) := by
  show (match σ[i]? with
    | some (some (.o xs)) => σ.set i (some (.v (.lst xs)))
    | _ => σ) = _
  rw [h]
/-- turns that fold -/
theorem forL_fold {α β γ : Type} {g : D → Env → Res Env} {f : Env → Out} (toD : α → D) (S : β → γ → Env) (step : β → α → β) (I : List α → β → Prop)
    (h : ∀ x r b l, I (x :: r) b → ∃ l' τ1, g (toD x) (S b l) = .ok τ1 ∧ (f τ1 = .nx (S (step b x) l') ∨ f τ1 = .ct (S (step b x) l')) ∧ I r (step b x)) : ∀ (items : List α) (b : β) (l : γ), I items b → ∃ l', forL g f (items.map toD) (S b l) = .nx (S (items.foldl step b) l') ∧ I [] (items.foldl step b)
  | [], b, l, hi => ⟨l, rfl, hi⟩
  | x :: r, b, l, hi => by
    obtain ⟨l1, τ1, e1, e2, h2⟩ := h x r b l hi
    obtain ⟨l2, e3, h3⟩ := forL_fold toD S step I h r (step b x) l1 h2
    refine ⟨l2, ?_, h3⟩
    show (g (toD x) (S b l)).out (fun σ1 => match f σ1 with
      | .nx σ2 => forL g f (r.map toD) σ2
      | .ct σ2 => forL g f (r.map toD) σ2
      | .bk σ2 => .nx σ2
      | o => o) = _
    rw [e1]
    rcases e2 with e2 | e2
    · show (match f τ1 with
        | .nx σ2 => forL g f (r.map toD) σ2
        | .ct σ2 => forL g f (r.map toD) σ2
        | .bk σ2 => .nx σ2
        | o => o) = _
      rw [e2]; exact e3
    · show (match f τ1 with
        | .nx σ2 => forL g f (r.map toD) σ2
        | .ct σ2 => forL g f (r.map toD) σ2
        | .bk σ2 => .nx σ2
        | o => o) = _
      rw [e2]; exact e3
end
/-- one slot frozen -/
def frz : Env → Nat → Env
  | [], _ => []
  | some (.o xs) :: l, 0 => some (.v (.lst xs)) :: l
  | a :: l, 0 => a :: l
  | a :: l, n + 1 => a :: frz l n
theorem frz_ok : ∀ (σ : Env) (i : Nat), (match σ[i]? with
    | some (some (.o xs)) => σ.set i (some (.v (.lst xs)))
    | _ => σ) = frz σ i
  | [], _ => rfl
  | none :: l, 0 => rfl
  | some (.v _) :: l, 0 => rfl
  | some (.o _) :: l, 0 => rfl
  | a :: l, n + 1 => by
    have e : frz (a :: l) (n + 1) = a :: frz l n := by cases a with | none => rfl | some c => cases c <;> rfl
    rw [e, ← frz_ok l n]
    show (match l[n]? with
      | some (some (.o xs)) => a :: l.set n (some (.v (.lst xs)))
      | _ => a :: l) = a :: (match l[n]? with
      | some (some (.o xs)) => l.set n (some (.v (.lst xs)))
      | _ => l)
    cases l[n]? with
    | none => rfl
    | some o => cases o with
      | none => rfl
      | some c => cases c <;> rfl
theorem fz_c (σ : Env) (i : Nat) (r : List Nat) : freeze σ (i :: r) = frz (freeze σ r) i := frz_ok _ _
theorem fr_o (xs : List D) (l : Env) : frz (some (.o xs) :: l) 0 = some (.v (.lst xs)) :: l := nr rfl
theorem fr_v (d : D) (l : Env) : frz (some (.v d) :: l) 0 = some (.v d) :: l := nr rfl
theorem fr_n (l : Env) : frz (none :: l) 0 = none :: l := nr rfl
theorem fr_s (a : Option C) (l : Env) (n : Nat) : frz (a :: l) (n + 1) = a :: frz l n := by
  cases a with
  | none => rfl
  | some c => cases c <;> rfl
theorem kp_lst (σ : Env) (xs : List D) (L : List Nat) : keepL σ (.lst xs) L = freeze σ L := nr rfl
theorem ls_d (xs : List D) : lstD (.lst xs) = .ok xs := nr rfl
/-- a slot that may hold something -/
theorem fr_j (j : Option D) (l : Env) : frz (j.map C.v :: l) 0 = j.map C.v :: l := by cases j <;> rfl
/-- a slot with a list, its own or not -/
def rsl (b : Bool) (rows : List D) : Option C := if b then some (.o rows) else some (.v (.lst rows))
theorem g_rsl (b : Bool) (rows : List D) (l : Env) : getV (rsl b rows :: l) 0 = .ok (.lst rows) := by cases b <;> rfl
theorem fr_rsl (b : Bool) (rows : List D) (l : Env) : frz (rsl b rows :: l) 0 = some (.v (.lst rows)) :: l := by cases b <;> rfl
theorem kp_fz {σ : Env} {L : List Nat} (d : D) (h : freeze σ L = σ) : keepL σ d L = σ := by
  unfold keepL
  split
  · rfl
  · exact h
theorem ltk_int (i : Int) : lt (.int i) = [] := nr rfl
theorem ltk_str (i : Str) : lt (.str i) = [] := nr rfl
theorem ltk_bl (i : Bool) : lt (.bl i) = [] := nr rfl
theorem ltk_non  : lt (.non ) = [] := nr rfl
theorem ltk_glob (i : Str) : lt (.glob i) = [] := nr rfl
theorem ltk_op (o : Op) (a b : E) : lt (.op o a b) = [] := nr rfl
theorem ltk_neg (a : E) : lt (.neg a) = [] := nr rfl
theorem ltk_not (a : E) : lt (.not a) = [] := nr rfl
theorem ltk_cmp (c : Cm) (a b : E) : lt (.cmp c a b) = [] := nr rfl
theorem ltk_chain (c c1 : Cm) (a b d : E) : lt (.chain c c1 a b d) = [] := nr rfl
theorem ltk_sl (a : E) (l h : Op1) : lt (.sl a l h) = [] := nr rfl
theorem ltk_tup (es : Es) : lt (.tup es) = [] := nr rfl
theorem ltk_lst (es : Es) : lt (.lst es) = [] := nr rfl
theorem ltk_bi (b : Bi) (es : Es) : lt (.bi b es) = [] := nr rfl
theorem ltk_isi (a : E) (t : String) : lt (.isi a t) = [] := nr rfl
theorem ltk_comp (a : E) (tg : Tg) (s : Src) (o : List Nat) : lt (.comp a tg s o) = [] := nr rfl
theorem ltk_compIf (a : E) (tg : Tg) (s : Src) (d : E) (o : List Nat) : lt (.compIf a tg s d o) = [] := nr rfl
theorem ltk_comp2 (a : E) (tg : Tg) (s : Src) (tg1 : Tg) (s1 : Src) (o o1 : List Nat) : lt (.comp2 a tg s tg1 s1 o o1) = [] := nr rfl
theorem lik_var (i : Nat) : li (.var i) = [] := nr rfl
theorem lik_int (i : Int) : li (.int i) = [] := nr rfl
theorem lik_str (i : Str) : li (.str i) = [] := nr rfl
theorem lik_bl (i : Bool) : li (.bl i) = [] := nr rfl
theorem lik_non  : li (.non ) = [] := nr rfl
theorem lik_glob (i : Str) : li (.glob i) = [] := nr rfl
theorem lik_neg (a : E) : li (.neg a) = [] := nr rfl
theorem lik_not (a : E) : li (.not a) = [] := nr rfl
theorem lik_cmp (c : Cm) (a b : E) : li (.cmp c a b) = [] := nr rfl
theorem lik_chain (c c1 : Cm) (a b d : E) : li (.chain c c1 a b d) = [] := nr rfl
theorem lik_isi (a : E) (t : String) : li (.isi a t) = [] := nr rfl
theorem e_find {G : Str → Option D} {Φ : Str → List D → Res D} {σ : Env} (a b : E) : ev G Φ (.find a b) σ = (ev G Φ a σ >>= fun x => strD x >>= fun s => ev G Φ b σ >>= fun y => strD y >>= fun t => .ok (.int (Txt.find s t))) := nr rfl
theorem sd_s (x : Str) : strD (.str x) = .ok x := nr rfl
theorem ltk_find (a b : E) : lt (.find a b) = [] := nr rfl
theorem lik_find (a b : E) : li (.find a b) = [] := nr rfl
theorem sE_str (σ : Env) (i : Nat) (e : E) (x : Str) : setE σ i e (.str x) = if i < σ.length then .ok (σ.set i (some (.v (.str x)))) else .bad := by
  unfold setE
  cases fresh e <;> rfl
theorem c_eqS (x y : Str) : cmD .eq (.str x) (.str y) = .ok (.bl (decide (x = y))) := nr rfl
end PyI
/-! PyL, part 1: defs that many laws share. -/
namespace PyI
open PySem L2
def l_numbers : Ss := (.cons (.ife (.and (.cmp .ge (.var 3) (.op .pow (.int 10) (.int 18))) (.cmp .gt (.var 4) (.int 0))) (.cons (.app 6 (.op .mod (.bi .int (.cons (.var 4) .nil)) (.int 1000))) (.cons (.set 4 (.op .fdiv (.var 4) (.int 1000))) .nil)) (.cons (.set 5 (.op .mod (.bi .int (.cons (.op .add (.op .add (.op .add (.op .mul (.var 5) (.int 48271)) (.op .mul (.int 69621) (.var 7))) (.op .mul (.int 40692) (.var 1))) (.int 12345)) .nil)) (.int 2147483647))) (.cons (.app 6 (.op .mod (.op .fdiv (.op .mod (.bi .int (.cons (.op .mul (.var 5) (.var 5)) .nil)) (.int 2147483629)) (.int 211)) (.int 1000))) .nil))) .nil)
def b_numbers : Ss :=
    .cons (.set 3 (.op .add (.op .mul (.int 7) (.var 1)) (.bi .len (.cons (.var 0) .nil)))) <|
    .cons (.ife (.cmp .lt (.var 1) (.bi .len (.cons (.var 0) .nil))) (.cons (.set 3 (.ix (.var 0) (.var 1))) .nil) (.nil)) <|
    .cons (.set 4 (.var 3)) <|
    .cons (.set 5 (.op .mod (.bi .int (.cons (.var 3) .nil)) (.int 2147483647))) <|
    .cons (.set 6 (.lst (.nil))) <|
    .cons (.fr (.nm 7) (.rng1 (.var 2)) l_numbers) <|
    .cons (.ret (.var 6)) .nil
theorem mulS {i j : Int} (h : -1000000000000000000 < j ∧ j < 1000000000000000000) : mulOk i j := .inl (.inr ⟨by omega, by omega⟩)
theorem mulS' {i j : Int} (h : -1000000000000000000 < i ∧ i < 1000000000000000000) : mulOk i j := .inl (.inl ⟨by omega, by omega⟩)
theorem small6 {n : Nat} (h : n ≤ 1000000) : n < sizeLine := Nat.lt_of_le_of_lt h (by decide)
theorem rng_get {a b : Int} {i : Nat} {d : D} (h : ((List.range (b - a).toNat).map fun (i : Nat) => D.int (a + i))[i]? = some d) : i < (b - a).toNat ∧ d = .int (a + i) := by
  rw [List.getElem?_map] at h
  cases e : (List.range (b - a).toNat)[i]? with
  | none => rw [e] at h; cases h
  | some j =>
    rw [e] at h
    obtain ⟨h1, h2⟩ := List.getElem?_eq_some_iff.mp e
    rw [List.getElem_range] at h2
    subst h2
    cases h
    exact ⟨by simpa using h1, rfl⟩
theorem rng_len {a b : Int} : ((List.range (b - a).toNat).map fun (i : Nat) => D.int (a + i)).length = (b - a).toNat := by simp
theorem numbers_run {G : Str → Option D} {Φ : Str → List D → Res D} {fu : Nat} (ns : List Int) (k many : Nat) (hk : k ≤ 1000000) (hm : many ≤ 1000000) : ∃ xs : List Nat,
    fin (exL G Φ fu b_numbers [some (.v (.scr ns)), some (.v (.int k)), some (.v (.int many)), none, none, none, none, none]) = .ok (.lst (xs.map nm)) ∧ xs.length = many ∧ ∀ x ∈ xs, x < 1000 := by
  unfold b_numbers
  have rest : ∀ cell : Int, ∃ xs : List Nat, fin (exL G Φ fu (.cons (.set 4 (.var 3)) <|
    .cons (.set 5 (.op .mod (.bi .int (.cons (.var 3) .nil)) (.int 2147483647))) <|
    .cons (.set 6 (.lst (.nil))) <|
    .cons (.fr (.nm 7) (.rng1 (.var 2)) l_numbers) <|
    .cons (.ret (.var 6)) .nil) [some (.v (.scr ns)), some (.v (.int k)), some (.v (.int many)), some (.v (.int cell)), none, none, none, none]) = .ok (.lst (xs.map nm)) ∧ xs.length = many ∧ ∀ x ∈ xs, x < 1000 := by
    intro cell
    let P : Nat → Env → Prop := fun i τ => ∃ (left mixed : Int) (xs : List Nat) (last : Option C), τ = [some (.v (.scr ns)), some (.v (.int k)), some (.v (.int many)), some (.v (.int cell)), some (.v (.int left)), some (.v (.int mixed)), some (.o (xs.map nm)), last] ∧ xs.length = i ∧ (∀ x ∈ xs, x < 1000) ∧ 0 ≤ mixed ∧ mixed < 2147483647
    have step : ∀ (i : Nat) (d : D) (τ : Env), ((List.range ((many : Int) - 0).toNat).map fun (i : Nat) => D.int (0 + i))[i]? = some d → P i τ → ∃ τ1, asg (.nm 7) d τ = .ok τ1 ∧ ∃ τ2, (exL G Φ fu l_numbers τ1 = .nx τ2 ∨ exL G Φ fu l_numbers τ1 = .ct τ2) ∧ P (i + 1) τ2 := by
      rintro i d τ hd ⟨left, mixed, xs, last, rfl, h1, h2, h3, h4⟩
      obtain ⟨hi, rfl⟩ := rng_get hd
      refine ⟨[some (.v (.scr ns)), some (.v (.int k)), some (.v (.int many)), some (.v (.int cell)), some (.v (.int left)), some (.v (.int mixed)), some (.o (xs.map nm)), some (.v (.int (0 + i)))], by simp only [e_var, e_int, e_str, e_bl, e_non, e_glob, e_op, e_neg, e_not, e_and, e_or, e_cmp, e_chain, e_ife, e_ix, e_sl, e_tup, e_lst, e_call, e_bi, e_isi, es_nil, es_cons, eo_no, eo_so, eS_seq, eS_rng1, eS_rng2, eS_enum, eS_zip, x_set, x_setT, x_setIx, x_aug, x_app, x_ext, x_exp, x_ret, x_retN, x_ife, x_fr, x_wh, x_brk, x_cont, x_pass, xs_nil, xs_cons, at_nx, at_rt, at_bk, at_ct, at_exc, oke, okbe, x_raise, x_tr, tr_nx, tr_rt, fin_exc, sE_comp2, fin_rt, fin_nx, g_zv, g_zo, g_s, o_z, o_s, st_z, st_s, kp_int, kp_non, kp_bl, kp_str, kp_nil, kp_noO, kp_fz, List.cons_append, sE_str, c_eqS, e_find, sd_s, ltk_find, lik_find, ltk_int, ltk_str, ltk_bl, ltk_non, ltk_glob, ltk_op, ltk_neg, ltk_not, ltk_cmp, ltk_chain, ltk_sl, ltk_tup, ltk_lst, ltk_bi, ltk_isi, ltk_comp, ltk_compIf, ltk_comp2, lik_var, lik_int, lik_str, lik_bl, lik_non, lik_glob, lik_neg, lik_not, lik_cmp, lik_chain, lik_isi, fz_noO, ls_d, fr_j, g_rsl, fr_rsl, fz_c, fr_o, fr_v, fr_n, fr_s, kp_lst, no_0, no_n, no_v, fz_nil, lS1, lS2, sE_i, sE_lst, sE_comp, sE_compIf, sE_opl, sE_sl, sE_list, sE_sorted, sE_var, sE_ix, sE_call, sE_non, sE_blv, sE_tp, lt, li, las, lis, ltS, liS, List.append_nil, List.nil_append, ad_int, sb_int, c_lt, c_le, c_gt, c_ge, c_eq, c_ne, c_is, c_no, isN, bl_bl, in_in, b_len, b_lenT, b_lenS, b_int, b_abs, b_tupL, b_tupT, b_lstT, b_lstL, ixT0, ixT1, ixT2, ixT3, is_n_int, is_n_bool, is_n_str, is_n_tuple, is_n_list, is_b_int, is_b_bool, is_b_str, is_b_tuple, is_b_list, is_i_int, is_i_bool, is_i_str, is_i_tuple, is_i_list, is_s_int, is_s_bool, is_s_str, is_s_tuple, is_s_list, is_t_int, is_t_bool, is_t_str, is_t_tuple, is_t_list, is_l_int, is_l_bool, is_l_str, is_l_tuple, is_l_list, itemsD, wp_s, wp_n, asg1, asgT, asgN, asg0, okb, oko, noxo, List.length_cons, List.length_nil, Nat.reduceAdd, Nat.reduceLT, if_true, if_false, Bool.false_eq_true, Bool.true_eq_false, Bool.not_true, Bool.not_false, decide_true, decide_false, reduceIte], ?_⟩
      have hl : (xs.map nm).length < sizeLine := by rw [List.length_map]; exact small6 (by omega)
      have snoc : ∀ z : Int, 0 ≤ z → z < 1000 → ∃ ys : List Nat, xs.map nm ++ [.int z] = ys.map nm ∧ ys.length = i + 1 ∧ ∀ x ∈ ys, x < 1000 := fun z z0 z1 => ⟨xs ++ [z.toNat], by
        rw [List.map_append, List.map_singleton]; show _ = _ ++ [D.int (z.toNat : Int)]; rw [Int.toNat_of_nonneg z0], by rw [List.length_append, h1]; rfl, fun x hx => by
        rcases List.mem_append.mp hx with hx | hx
        · exact h2 x hx
        · rw [List.mem_singleton.mp hx]; omega⟩
      unfold l_numbers
      have hp : (10 : Int) ^ (18 : Int).toNat = 1000000000000000000 := by decide
      obtain ⟨mx, hmx⟩ : ∃ mx : Int, (mixed * 48271 + 69621 * (0 + (i : Int)) + 40692 * (k : Int) + 12345) % 2147483647 = mx := ⟨_, rfl⟩
      have m0 : 0 ≤ mx := by rw [← hmx]; exact Int.emod_nonneg _ (by decide)
      have m1 : mx < 2147483647 := by rw [← hmx]; exact Int.emod_lt_of_pos _ (by decide)
      have q1 : mulOk mixed 48271 := mulS (by decide)
      have q2 : mulOk 69621 (0 + (i : Int)) := mulS' (by decide)
      have q3 : mulOk 40692 (k : Int) := mulS' (by decide)
      have q4 : mulOk mx mx := mulS (by omega)
      obtain ⟨ys, e1, e2, e3⟩ := snoc (mx * mx % 2147483629 / 211 % 1000) (Int.emod_nonneg _ (by decide)) (Int.emod_lt_of_pos _ (by decide))
      by_cases hc : 1000000000000000000 ≤ cell
      · by_cases hd : 0 < left
        · obtain ⟨ys, e1, e2, e3⟩ := snoc (left % 1000) (Int.emod_nonneg _ (by decide)) (Int.emod_lt_of_pos _ (by decide))
          simp only [e_var, e_int, e_str, e_bl, e_non, e_glob, e_op, e_neg, e_not, e_and, e_or, e_cmp, e_chain, e_ife, e_ix, e_sl, e_tup, e_lst, e_call, e_bi, e_isi, es_nil, es_cons, eo_no, eo_so, eS_seq, eS_rng1, eS_rng2, eS_enum, eS_zip, x_set, x_setT, x_setIx, x_aug, x_app, x_ext, x_exp, x_ret, x_retN, x_ife, x_fr, x_wh, x_brk, x_cont, x_pass, xs_nil, xs_cons, at_nx, at_rt, at_bk, at_ct, at_exc, oke, okbe, x_raise, x_tr, tr_nx, tr_rt, fin_exc, sE_comp2, fin_rt, fin_nx, g_zv, g_zo, g_s, o_z, o_s, st_z, st_s, kp_int, kp_non, kp_bl, kp_str, kp_nil, kp_noO, kp_fz, List.cons_append, sE_str, c_eqS, e_find, sd_s, ltk_find, lik_find, ltk_int, ltk_str, ltk_bl, ltk_non, ltk_glob, ltk_op, ltk_neg, ltk_not, ltk_cmp, ltk_chain, ltk_sl, ltk_tup, ltk_lst, ltk_bi, ltk_isi, ltk_comp, ltk_compIf, ltk_comp2, lik_var, lik_int, lik_str, lik_bl, lik_non, lik_glob, lik_neg, lik_not, lik_cmp, lik_chain, lik_isi, fz_noO, ls_d, fr_j, g_rsl, fr_rsl, fz_c, fr_o, fr_v, fr_n, fr_s, kp_lst, no_0, no_n, no_v, fz_nil, lS1, lS2, sE_i, sE_lst, sE_comp, sE_compIf, sE_opl, sE_sl, sE_list, sE_sorted, sE_var, sE_ix, sE_call, sE_non, sE_blv, sE_tp, lt, li, las, lis, ltS, liS, List.append_nil, List.nil_append, ad_int, sb_int, c_lt, c_le, c_gt, c_ge, c_eq, c_ne, c_is, c_no, isN, bl_bl, in_in, b_len, b_lenT, b_lenS, b_int, b_abs, b_tupL, b_tupT, b_lstT, b_lstL, ixT0, ixT1, ixT2, ixT3, is_n_int, is_n_bool, is_n_str, is_n_tuple, is_n_list, is_b_int, is_b_bool, is_b_str, is_b_tuple, is_b_list, is_i_int, is_i_bool, is_i_str, is_i_tuple, is_i_list, is_s_int, is_s_bool, is_s_str, is_s_tuple, is_s_list, is_t_int, is_t_bool, is_t_str, is_t_tuple, is_t_list, is_l_int, is_l_bool, is_l_str, is_l_tuple, is_l_list, itemsD, wp_s, wp_n, asg1, asgT, asgN, asg0, okb, oko, noxo, List.length_cons, List.length_nil, Nat.reduceAdd, Nat.reduceLT, if_true, if_false, Bool.false_eq_true, Bool.true_eq_false, Bool.not_true, Bool.not_false, decide_true, decide_false, reduceIte, pw_int (i := 10) (j := 18) (by decide), hp, hc, hd, md_int (i := left) (j := 1000) (by decide), fd_int (i := left) (j := 1000) (by decide), hl, e1]
          exact ⟨_, .inl rfl, _, _, _, _, rfl, e2, e3, h3, h4⟩
        · simp only [e_var, e_int, e_str, e_bl, e_non, e_glob, e_op, e_neg, e_not, e_and, e_or, e_cmp, e_chain, e_ife, e_ix, e_sl, e_tup, e_lst, e_call, e_bi, e_isi, es_nil, es_cons, eo_no, eo_so, eS_seq, eS_rng1, eS_rng2, eS_enum, eS_zip, x_set, x_setT, x_setIx, x_aug, x_app, x_ext, x_exp, x_ret, x_retN, x_ife, x_fr, x_wh, x_brk, x_cont, x_pass, xs_nil, xs_cons, at_nx, at_rt, at_bk, at_ct, at_exc, oke, okbe, x_raise, x_tr, tr_nx, tr_rt, fin_exc, sE_comp2, fin_rt, fin_nx, g_zv, g_zo, g_s, o_z, o_s, st_z, st_s, kp_int, kp_non, kp_bl, kp_str, kp_nil, kp_noO, kp_fz, List.cons_append, sE_str, c_eqS, e_find, sd_s, ltk_find, lik_find, ltk_int, ltk_str, ltk_bl, ltk_non, ltk_glob, ltk_op, ltk_neg, ltk_not, ltk_cmp, ltk_chain, ltk_sl, ltk_tup, ltk_lst, ltk_bi, ltk_isi, ltk_comp, ltk_compIf, ltk_comp2, lik_var, lik_int, lik_str, lik_bl, lik_non, lik_glob, lik_neg, lik_not, lik_cmp, lik_chain, lik_isi, fz_noO, ls_d, fr_j, g_rsl, fr_rsl, fz_c, fr_o, fr_v, fr_n, fr_s, kp_lst, no_0, no_n, no_v, fz_nil, lS1, lS2, sE_i, sE_lst, sE_comp, sE_compIf, sE_opl, sE_sl, sE_list, sE_sorted, sE_var, sE_ix, sE_call, sE_non, sE_blv, sE_tp, lt, li, las, lis, ltS, liS, List.append_nil, List.nil_append, ad_int, sb_int, c_lt, c_le, c_gt, c_ge, c_eq, c_ne, c_is, c_no, isN, bl_bl, in_in, b_len, b_lenT, b_lenS, b_int, b_abs, b_tupL, b_tupT, b_lstT, b_lstL, ixT0, ixT1, ixT2, ixT3, is_n_int, is_n_bool, is_n_str, is_n_tuple, is_n_list, is_b_int, is_b_bool, is_b_str, is_b_tuple, is_b_list, is_i_int, is_i_bool, is_i_str, is_i_tuple, is_i_list, is_s_int, is_s_bool, is_s_str, is_s_tuple, is_s_list, is_t_int, is_t_bool, is_t_str, is_t_tuple, is_t_list, is_l_int, is_l_bool, is_l_str, is_l_tuple, is_l_list, itemsD, wp_s, wp_n, asg1, asgT, asgN, asg0, okb, oko, noxo, List.length_cons, List.length_nil, Nat.reduceAdd, Nat.reduceLT, if_true, if_false, Bool.false_eq_true, Bool.true_eq_false, Bool.not_true, Bool.not_false, decide_true, decide_false, reduceIte, pw_int (i := 10) (j := 18) (by decide), hp, hc, hd, ml_int q1, ml_int q2, ml_int q3, md_int (i := mixed * 48271 + 69621 * (0 + (i : Int)) + 40692 * (k : Int) + 12345) (j := 2147483647) (by decide), hmx, ml_int q4, md_int (i := mx * mx) (j := 2147483629) (by decide), fd_int (i := mx * mx % 2147483629) (j := 211) (by decide), md_int (i := mx * mx % 2147483629 / 211) (j := 1000) (by decide), hl, e1]
          exact ⟨_, .inl rfl, _, _, _, _, rfl, e2, e3, m0, m1⟩
      · simp only [e_var, e_int, e_str, e_bl, e_non, e_glob, e_op, e_neg, e_not, e_and, e_or, e_cmp, e_chain, e_ife, e_ix, e_sl, e_tup, e_lst, e_call, e_bi, e_isi, es_nil, es_cons, eo_no, eo_so, eS_seq, eS_rng1, eS_rng2, eS_enum, eS_zip, x_set, x_setT, x_setIx, x_aug, x_app, x_ext, x_exp, x_ret, x_retN, x_ife, x_fr, x_wh, x_brk, x_cont, x_pass, xs_nil, xs_cons, at_nx, at_rt, at_bk, at_ct, at_exc, oke, okbe, x_raise, x_tr, tr_nx, tr_rt, fin_exc, sE_comp2, fin_rt, fin_nx, g_zv, g_zo, g_s, o_z, o_s, st_z, st_s, kp_int, kp_non, kp_bl, kp_str, kp_nil, kp_noO, kp_fz, List.cons_append, sE_str, c_eqS, e_find, sd_s, ltk_find, lik_find, ltk_int, ltk_str, ltk_bl, ltk_non, ltk_glob, ltk_op, ltk_neg, ltk_not, ltk_cmp, ltk_chain, ltk_sl, ltk_tup, ltk_lst, ltk_bi, ltk_isi, ltk_comp, ltk_compIf, ltk_comp2, lik_var, lik_int, lik_str, lik_bl, lik_non, lik_glob, lik_neg, lik_not, lik_cmp, lik_chain, lik_isi, fz_noO, ls_d, fr_j, g_rsl, fr_rsl, fz_c, fr_o, fr_v, fr_n, fr_s, kp_lst, no_0, no_n, no_v, fz_nil, lS1, lS2, sE_i, sE_lst, sE_comp, sE_compIf, sE_opl, sE_sl, sE_list, sE_sorted, sE_var, sE_ix, sE_call, sE_non, sE_blv, sE_tp, lt, li, las, lis, ltS, liS, List.append_nil, List.nil_append, ad_int, sb_int, c_lt, c_le, c_gt, c_ge, c_eq, c_ne, c_is, c_no, isN, bl_bl, in_in, b_len, b_lenT, b_lenS, b_int, b_abs, b_tupL, b_tupT, b_lstT, b_lstL, ixT0, ixT1, ixT2, ixT3, is_n_int, is_n_bool, is_n_str, is_n_tuple, is_n_list, is_b_int, is_b_bool, is_b_str, is_b_tuple, is_b_list, is_i_int, is_i_bool, is_i_str, is_i_tuple, is_i_list, is_s_int, is_s_bool, is_s_str, is_s_tuple, is_s_list, is_t_int, is_t_bool, is_t_str, is_t_tuple, is_t_list, is_l_int, is_l_bool, is_l_str, is_l_tuple, is_l_list, itemsD, wp_s, wp_n, asg1, asgT, asgN, asg0, okb, oko, noxo, List.length_cons, List.length_nil, Nat.reduceAdd, Nat.reduceLT, if_true, if_false, Bool.false_eq_true, Bool.true_eq_false, Bool.not_true, Bool.not_false, decide_true, decide_false, reduceIte, pw_int (i := 10) (j := 18) (by decide), hp, hc, ml_int q1, ml_int q2, ml_int q3, md_int (i := mixed * 48271 + 69621 * (0 + (i : Int)) + 40692 * (k : Int) + 12345) (j := 2147483647) (by decide), hmx, ml_int q4, md_int (i := mx * mx) (j := 2147483629) (by decide), fd_int (i := mx * mx % 2147483629) (j := 211) (by decide), md_int (i := mx * mx % 2147483629 / 211) (j := 1000) (by decide), hl, e1]
        exact ⟨_, .inl rfl, _, _, _, _, rfl, e2, e3, m0, m1⟩
    have go := forL_go (g := asg (.nm 7)) (f := exL G Φ fu l_numbers) _ P
      [some (.v (.scr ns)), some (.v (.int k)), some (.v (.int many)), some (.v (.int cell)), some (.v (.int cell)), some (.v (.int (cell % 2147483647))), some (.o []), none]
      ⟨cell, _, [], none, rfl, rfl, by simp, Int.emod_nonneg _ (by decide), Int.emod_lt_of_pos _ (by decide)⟩ step
    obtain ⟨τ, e, left, mixed, xs, last, rfl, h1, h2, h3⟩ := go
    simp only [e_var, e_int, e_str, e_bl, e_non, e_glob, e_op, e_neg, e_not, e_and, e_or, e_cmp, e_chain, e_ife, e_ix, e_sl, e_tup, e_lst, e_call, e_bi, e_isi, es_nil, es_cons, eo_no, eo_so, eS_seq, eS_rng1, eS_rng2, eS_enum, eS_zip, x_set, x_setT, x_setIx, x_aug, x_app, x_ext, x_exp, x_ret, x_retN, x_ife, x_fr, x_wh, x_brk, x_cont, x_pass, xs_nil, xs_cons, at_nx, at_rt, at_bk, at_ct, at_exc, oke, okbe, x_raise, x_tr, tr_nx, tr_rt, fin_exc, sE_comp2, fin_rt, fin_nx, g_zv, g_zo, g_s, o_z, o_s, st_z, st_s, kp_int, kp_non, kp_bl, kp_str, kp_nil, kp_noO, kp_fz, List.cons_append, sE_str, c_eqS, e_find, sd_s, ltk_find, lik_find, ltk_int, ltk_str, ltk_bl, ltk_non, ltk_glob, ltk_op, ltk_neg, ltk_not, ltk_cmp, ltk_chain, ltk_sl, ltk_tup, ltk_lst, ltk_bi, ltk_isi, ltk_comp, ltk_compIf, ltk_comp2, lik_var, lik_int, lik_str, lik_bl, lik_non, lik_glob, lik_neg, lik_not, lik_cmp, lik_chain, lik_isi, fz_noO, ls_d, fr_j, g_rsl, fr_rsl, fz_c, fr_o, fr_v, fr_n, fr_s, kp_lst, no_0, no_n, no_v, fz_nil, lS1, lS2, sE_i, sE_lst, sE_comp, sE_compIf, sE_opl, sE_sl, sE_list, sE_sorted, sE_var, sE_ix, sE_call, sE_non, sE_blv, sE_tp, lt, li, las, lis, ltS, liS, List.append_nil, List.nil_append, ad_int, sb_int, c_lt, c_le, c_gt, c_ge, c_eq, c_ne, c_is, c_no, isN, bl_bl, in_in, b_len, b_lenT, b_lenS, b_int, b_abs, b_tupL, b_tupT, b_lstT, b_lstL, ixT0, ixT1, ixT2, ixT3, is_n_int, is_n_bool, is_n_str, is_n_tuple, is_n_list, is_b_int, is_b_bool, is_b_str, is_b_tuple, is_b_list, is_i_int, is_i_bool, is_i_str, is_i_tuple, is_i_list, is_s_int, is_s_bool, is_s_str, is_s_tuple, is_s_list, is_t_int, is_t_bool, is_t_str, is_t_tuple, is_t_list, is_l_int, is_l_bool, is_l_str, is_l_tuple, is_l_list, itemsD, wp_s, wp_n, asg1, asgT, asgN, asg0, okb, oko, noxo, List.length_cons, List.length_nil, Nat.reduceAdd, Nat.reduceLT, if_true, if_false, Bool.false_eq_true, Bool.true_eq_false, Bool.not_true, Bool.not_false, decide_true, decide_false, reduceIte, md_int (i := cell) (j := 2147483647) (by decide), rng_ok (a := 0) (b := (many : Int)) ⟨by decide, by decide, by omega, by omega⟩, e]
    exact ⟨xs, rfl, by rw [h1, rng_len]; omega, h2⟩
  by_cases h : (k : Int) < (ns.length : Int)
  · obtain ⟨a, ha⟩ : ∃ a, ns[k]? = some a := ⟨ns[k]'(by omega), List.getElem?_eq_getElem (by omega)⟩
    have := rest a
    simp only [e_var, e_int, e_str, e_bl, e_non, e_glob, e_op, e_neg, e_not, e_and, e_or, e_cmp, e_chain, e_ife, e_ix, e_sl, e_tup, e_lst, e_call, e_bi, e_isi, es_nil, es_cons, eo_no, eo_so, eS_seq, eS_rng1, eS_rng2, eS_enum, eS_zip, x_set, x_setT, x_setIx, x_aug, x_app, x_ext, x_exp, x_ret, x_retN, x_ife, x_fr, x_wh, x_brk, x_cont, x_pass, xs_nil, xs_cons, at_nx, at_rt, at_bk, at_ct, at_exc, oke, okbe, x_raise, x_tr, tr_nx, tr_rt, fin_exc, sE_comp2, fin_rt, fin_nx, g_zv, g_zo, g_s, o_z, o_s, st_z, st_s, kp_int, kp_non, kp_bl, kp_str, kp_nil, kp_noO, kp_fz, List.cons_append, sE_str, c_eqS, e_find, sd_s, ltk_find, lik_find, ltk_int, ltk_str, ltk_bl, ltk_non, ltk_glob, ltk_op, ltk_neg, ltk_not, ltk_cmp, ltk_chain, ltk_sl, ltk_tup, ltk_lst, ltk_bi, ltk_isi, ltk_comp, ltk_compIf, ltk_comp2, lik_var, lik_int, lik_str, lik_bl, lik_non, lik_glob, lik_neg, lik_not, lik_cmp, lik_chain, lik_isi, fz_noO, ls_d, fr_j, g_rsl, fr_rsl, fz_c, fr_o, fr_v, fr_n, fr_s, kp_lst, no_0, no_n, no_v, fz_nil, lS1, lS2, sE_i, sE_lst, sE_comp, sE_compIf, sE_opl, sE_sl, sE_list, sE_sorted, sE_var, sE_ix, sE_call, sE_non, sE_blv, sE_tp, lt, li, las, lis, ltS, liS, List.append_nil, List.nil_append, ad_int, sb_int, c_lt, c_le, c_gt, c_ge, c_eq, c_ne, c_is, c_no, isN, bl_bl, in_in, b_len, b_lenT, b_lenS, b_int, b_abs, b_tupL, b_tupT, b_lstT, b_lstL, ixT0, ixT1, ixT2, ixT3, is_n_int, is_n_bool, is_n_str, is_n_tuple, is_n_list, is_b_int, is_b_bool, is_b_str, is_b_tuple, is_b_list, is_i_int, is_i_bool, is_i_str, is_i_tuple, is_i_list, is_s_int, is_s_bool, is_s_str, is_s_tuple, is_s_list, is_t_int, is_t_bool, is_t_str, is_t_tuple, is_t_list, is_l_int, is_l_bool, is_l_str, is_l_tuple, is_l_list, itemsD, wp_s, wp_n, asg1, asgT, asgN, asg0, okb, oko, noxo, List.length_cons, List.length_nil, Nat.reduceAdd, Nat.reduceLT, if_true, if_false, Bool.false_eq_true, Bool.true_eq_false, Bool.not_true, Bool.not_false, decide_true, decide_false, reduceIte, ml_int (mulS' (i := 7) (j := k) (by omega)), h, ix_scr rfl ha]
    simp only [e_var, e_int, e_str, e_bl, e_non, e_glob, e_op, e_neg, e_not, e_and, e_or, e_cmp, e_chain, e_ife, e_ix, e_sl, e_tup, e_lst, e_call, e_bi, e_isi, es_nil, es_cons, eo_no, eo_so, eS_seq, eS_rng1, eS_rng2, eS_enum, eS_zip, x_set, x_setT, x_setIx, x_aug, x_app, x_ext, x_exp, x_ret, x_retN, x_ife, x_fr, x_wh, x_brk, x_cont, x_pass, xs_nil, xs_cons, at_nx, at_rt, at_bk, at_ct, at_exc, oke, okbe, x_raise, x_tr, tr_nx, tr_rt, fin_exc, sE_comp2, fin_rt, fin_nx, g_zv, g_zo, g_s, o_z, o_s, st_z, st_s, kp_int, kp_non, kp_bl, kp_str, kp_nil, kp_noO, kp_fz, List.cons_append, sE_str, c_eqS, e_find, sd_s, ltk_find, lik_find, ltk_int, ltk_str, ltk_bl, ltk_non, ltk_glob, ltk_op, ltk_neg, ltk_not, ltk_cmp, ltk_chain, ltk_sl, ltk_tup, ltk_lst, ltk_bi, ltk_isi, ltk_comp, ltk_compIf, ltk_comp2, lik_var, lik_int, lik_str, lik_bl, lik_non, lik_glob, lik_neg, lik_not, lik_cmp, lik_chain, lik_isi, fz_noO, ls_d, fr_j, g_rsl, fr_rsl, fz_c, fr_o, fr_v, fr_n, fr_s, kp_lst, no_0, no_n, no_v, fz_nil, lS1, lS2, sE_i, sE_lst, sE_comp, sE_compIf, sE_opl, sE_sl, sE_list, sE_sorted, sE_var, sE_ix, sE_call, sE_non, sE_blv, sE_tp, lt, li, las, lis, ltS, liS, List.append_nil, List.nil_append, ad_int, sb_int, c_lt, c_le, c_gt, c_ge, c_eq, c_ne, c_is, c_no, isN, bl_bl, in_in, b_len, b_lenT, b_lenS, b_int, b_abs, b_tupL, b_tupT, b_lstT, b_lstL, ixT0, ixT1, ixT2, ixT3, is_n_int, is_n_bool, is_n_str, is_n_tuple, is_n_list, is_b_int, is_b_bool, is_b_str, is_b_tuple, is_b_list, is_i_int, is_i_bool, is_i_str, is_i_tuple, is_i_list, is_s_int, is_s_bool, is_s_str, is_s_tuple, is_s_list, is_t_int, is_t_bool, is_t_str, is_t_tuple, is_t_list, is_l_int, is_l_bool, is_l_str, is_l_tuple, is_l_list, itemsD, wp_s, wp_n, asg1, asgT, asgN, asg0, okb, oko, noxo, List.length_cons, List.length_nil, Nat.reduceAdd, Nat.reduceLT, if_true, if_false, Bool.false_eq_true, Bool.true_eq_false, Bool.not_true, Bool.not_false, decide_true, decide_false, reduceIte] at this
    exact this
  · have := rest (7 * k + ns.length)
    simp only [e_var, e_int, e_str, e_bl, e_non, e_glob, e_op, e_neg, e_not, e_and, e_or, e_cmp, e_chain, e_ife, e_ix, e_sl, e_tup, e_lst, e_call, e_bi, e_isi, es_nil, es_cons, eo_no, eo_so, eS_seq, eS_rng1, eS_rng2, eS_enum, eS_zip, x_set, x_setT, x_setIx, x_aug, x_app, x_ext, x_exp, x_ret, x_retN, x_ife, x_fr, x_wh, x_brk, x_cont, x_pass, xs_nil, xs_cons, at_nx, at_rt, at_bk, at_ct, at_exc, oke, okbe, x_raise, x_tr, tr_nx, tr_rt, fin_exc, sE_comp2, fin_rt, fin_nx, g_zv, g_zo, g_s, o_z, o_s, st_z, st_s, kp_int, kp_non, kp_bl, kp_str, kp_nil, kp_noO, kp_fz, List.cons_append, sE_str, c_eqS, e_find, sd_s, ltk_find, lik_find, ltk_int, ltk_str, ltk_bl, ltk_non, ltk_glob, ltk_op, ltk_neg, ltk_not, ltk_cmp, ltk_chain, ltk_sl, ltk_tup, ltk_lst, ltk_bi, ltk_isi, ltk_comp, ltk_compIf, ltk_comp2, lik_var, lik_int, lik_str, lik_bl, lik_non, lik_glob, lik_neg, lik_not, lik_cmp, lik_chain, lik_isi, fz_noO, ls_d, fr_j, g_rsl, fr_rsl, fz_c, fr_o, fr_v, fr_n, fr_s, kp_lst, no_0, no_n, no_v, fz_nil, lS1, lS2, sE_i, sE_lst, sE_comp, sE_compIf, sE_opl, sE_sl, sE_list, sE_sorted, sE_var, sE_ix, sE_call, sE_non, sE_blv, sE_tp, lt, li, las, lis, ltS, liS, List.append_nil, List.nil_append, ad_int, sb_int, c_lt, c_le, c_gt, c_ge, c_eq, c_ne, c_is, c_no, isN, bl_bl, in_in, b_len, b_lenT, b_lenS, b_int, b_abs, b_tupL, b_tupT, b_lstT, b_lstL, ixT0, ixT1, ixT2, ixT3, is_n_int, is_n_bool, is_n_str, is_n_tuple, is_n_list, is_b_int, is_b_bool, is_b_str, is_b_tuple, is_b_list, is_i_int, is_i_bool, is_i_str, is_i_tuple, is_i_list, is_s_int, is_s_bool, is_s_str, is_s_tuple, is_s_list, is_t_int, is_t_bool, is_t_str, is_t_tuple, is_t_list, is_l_int, is_l_bool, is_l_str, is_l_tuple, is_l_list, itemsD, wp_s, wp_n, asg1, asgT, asgN, asg0, okb, oko, noxo, List.length_cons, List.length_nil, Nat.reduceAdd, Nat.reduceLT, if_true, if_false, Bool.false_eq_true, Bool.true_eq_false, Bool.not_true, Bool.not_false, decide_true, decide_false, reduceIte, ml_int (mulS' (i := 7) (j := k) (by omega)), h]
    simp only [e_var, e_int, e_str, e_bl, e_non, e_glob, e_op, e_neg, e_not, e_and, e_or, e_cmp, e_chain, e_ife, e_ix, e_sl, e_tup, e_lst, e_call, e_bi, e_isi, es_nil, es_cons, eo_no, eo_so, eS_seq, eS_rng1, eS_rng2, eS_enum, eS_zip, x_set, x_setT, x_setIx, x_aug, x_app, x_ext, x_exp, x_ret, x_retN, x_ife, x_fr, x_wh, x_brk, x_cont, x_pass, xs_nil, xs_cons, at_nx, at_rt, at_bk, at_ct, at_exc, oke, okbe, x_raise, x_tr, tr_nx, tr_rt, fin_exc, sE_comp2, fin_rt, fin_nx, g_zv, g_zo, g_s, o_z, o_s, st_z, st_s, kp_int, kp_non, kp_bl, kp_str, kp_nil, kp_noO, kp_fz, List.cons_append, sE_str, c_eqS, e_find, sd_s, ltk_find, lik_find, ltk_int, ltk_str, ltk_bl, ltk_non, ltk_glob, ltk_op, ltk_neg, ltk_not, ltk_cmp, ltk_chain, ltk_sl, ltk_tup, ltk_lst, ltk_bi, ltk_isi, ltk_comp, ltk_compIf, ltk_comp2, lik_var, lik_int, lik_str, lik_bl, lik_non, lik_glob, lik_neg, lik_not, lik_cmp, lik_chain, lik_isi, fz_noO, ls_d, fr_j, g_rsl, fr_rsl, fz_c, fr_o, fr_v, fr_n, fr_s, kp_lst, no_0, no_n, no_v, fz_nil, lS1, lS2, sE_i, sE_lst, sE_comp, sE_compIf, sE_opl, sE_sl, sE_list, sE_sorted, sE_var, sE_ix, sE_call, sE_non, sE_blv, sE_tp, lt, li, las, lis, ltS, liS, List.append_nil, List.nil_append, ad_int, sb_int, c_lt, c_le, c_gt, c_ge, c_eq, c_ne, c_is, c_no, isN, bl_bl, in_in, b_len, b_lenT, b_lenS, b_int, b_abs, b_tupL, b_tupT, b_lstT, b_lstL, ixT0, ixT1, ixT2, ixT3, is_n_int, is_n_bool, is_n_str, is_n_tuple, is_n_list, is_b_int, is_b_bool, is_b_str, is_b_tuple, is_b_list, is_i_int, is_i_bool, is_i_str, is_i_tuple, is_i_list, is_s_int, is_s_bool, is_s_str, is_s_tuple, is_s_list, is_t_int, is_t_bool, is_t_str, is_t_tuple, is_t_list, is_l_int, is_l_bool, is_l_str, is_l_tuple, is_l_list, itemsD, wp_s, wp_n, asg1, asgT, asgN, asg0, okb, oko, noxo, List.length_cons, List.length_nil, Nat.reduceAdd, Nat.reduceLT, if_true, if_false, Bool.false_eq_true, Bool.true_eq_false, Bool.not_true, Bool.not_false, decide_true, decide_false, reduceIte] at this
    exact this
end PyI
namespace K01
open PySem PySem.Spec PyProof.Rows L2 PyI
def top (i : Nat) : Stmt := PySem.Challenge.pw_offerbook_k01_words.main.body.getD i (.Pass ⟨0, 0, 0, 0⟩)
def xs : List (Str × List Str) := [("BadWord", ["word"]), ("BadNumber", ["number", "low", "high"])]
def b_is_word : Ss :=
    .cons (.ife (.or (.not (.isi (.var 0) "str")) (.not (.chain .le .le (.int 1) (.bi .len (.cons (.var 0) .nil)) (.glob "LONGEST_WORD")))) (.cons (.ret (.bl false)) .nil) (.nil)) <|
    .cons (.ret (.bi .all (.cons (.comp (.cmp .in_ (.var 1) (.glob "LETTERS")) (.nm 1) (.seq (.var 0)) [1]) .nil))) .nil
def d_is_word : DDef := ⟨"is_word", ["value"], ["value", "char"], top 10, b_is_word⟩
def b_check_word : Ss :=
    .cons (.ife (.not (.call "is_word" (.cons (.var 0) .nil))) (.cons (.raise "BadWord" (.cons (.var 0) .nil)) .nil) (.nil)) .nil
def d_check_word : DDef := ⟨"check_word", ["value"], ["value"], top 11, b_check_word⟩
def b_is_integer : Ss :=
    .cons (.ret (.and (.isi (.var 0) "int") (.not (.isi (.var 0) "bool")))) .nil
def d_is_integer : DDef := ⟨"is_integer", ["value"], ["value"], top 12, b_is_integer⟩
def b_is_number : Ss :=
    .cons (.ret (.and (.call "is_integer" (.cons (.var 0) .nil)) (.chain .le .le (.var 1) (.var 0) (.var 2)))) .nil
def d_is_number : DDef := ⟨"is_number", ["value", "low", "high"], ["value", "low", "high"], top 13, b_is_number⟩
def b_check_number : Ss :=
    .cons (.ife (.not (.call "is_number" (.cons (.var 0) (.cons (.var 1) (.cons (.var 2) .nil))))) (.cons (.raise "BadNumber" (.cons (.var 0) (.cons (.var 1) (.cons (.var 2) .nil)))) .nil) (.nil)) .nil
def d_check_number : DDef := ⟨"check_number", ["value", "low", "high"], ["value", "low", "high"], top 14, b_check_number⟩
def t3_read_number : Ss := 
    .cons (.ret (.bi .int (.cons (.var 0) .nil))) .nil
def t2_read_number : Ss := 
    .cons (.ife (.and (.cmp .eq (.ix (.var 0) (.int 0)) (.str "0")) (.cmp .gt (.bi .len (.cons (.var 0) .nil)) (.int 1))) (.cons (.ret (.neg (.int 1))) .nil) (.nil)) <|
    t3_read_number
def t1_read_number : Ss := 
    .cons (.ife (.not (.bi .all (.cons (.comp (.cmp .in_ (.var 2) (.glob "DIGITS")) (.nm 2) (.seq (.var 0)) [2]) .nil))) (.cons (.ret (.neg (.int 1))) .nil) (.nil)) <|
    t2_read_number
def b_read_number : Ss :=
    .cons (.ife (.or (.not (.isi (.var 0) "str")) (.not (.chain .le .le (.int 1) (.bi .len (.cons (.var 0) .nil)) (.var 1)))) (.cons (.ret (.neg (.int 1))) .nil) (.nil)) <|
    t1_read_number
def d_read_number : DDef := ⟨"read_number", ["text", "figures"], ["text", "figures", "char"], top 15, b_read_number⟩
def b__law_integer : Ss :=
    .cons (.ret (.and (.isi (.var 0) "int") (.not (.isi (.var 0) "bool")))) .nil
def d__law_integer : DDef := ⟨"_law_integer", ["value"], ["value"], top 38, b__law_integer⟩
def b__law_same : Ss :=
    .cons (.ife (.isi (.var 1) "tuple") (.cons (.ife (.or (.not (.isi (.var 0) "tuple")) (.cmp .ne (.bi .len (.cons (.var 0) .nil)) (.bi .len (.cons (.var 1) .nil)))) (.cons (.ret (.bl false)) .nil) (.nil)) (.cons (.ret (.bi .all (.cons (.comp (.call "_law_same" (.cons (.ix (.var 0) (.var 2)) (.cons (.ix (.var 1) (.var 2)) .nil))) (.nm 2) (.rng1 (.bi .len (.cons (.var 1) .nil))) [2]) .nil))) .nil)) (.nil)) <|
    .cons (.ife (.isi (.var 1) "list") (.cons (.ife (.or (.not (.isi (.var 0) "list")) (.cmp .ne (.bi .len (.cons (.var 0) .nil)) (.bi .len (.cons (.var 1) .nil)))) (.cons (.ret (.bl false)) .nil) (.nil)) (.cons (.ret (.bi .all (.cons (.comp (.call "_law_same" (.cons (.ix (.var 0) (.var 2)) (.cons (.ix (.var 1) (.var 2)) .nil))) (.nm 2) (.rng1 (.bi .len (.cons (.var 1) .nil))) [2]) .nil))) .nil)) (.nil)) <|
    .cons (.ife (.cmp .isN (.var 1) (.non)) (.cons (.ret (.cmp .isN (.var 0) (.non))) .nil) (.nil)) <|
    .cons (.ife (.isi (.var 1) "bool") (.cons (.ret (.and (.isi (.var 0) "bool") (.cmp .eq (.var 0) (.var 1)))) .nil) (.nil)) <|
    .cons (.ife (.isi (.var 1) "int") (.cons (.ret (.and (.call "_law_integer" (.cons (.var 0) .nil)) (.cmp .eq (.var 0) (.var 1)))) .nil) (.nil)) <|
    .cons (.ret (.and (.isi (.var 0) "str") (.cmp .eq (.var 0) (.var 1)))) .nil
def d__law_same : DDef := ⟨"_law_same", ["told", "due"], ["told", "due", "k"], top 39, b__law_same⟩
def l1__law_draws : Ss := .cons (.ife (.cmp .gt (.var 4) (.int 0)) (.cons (.app 6 (.op .mod (.bi .int (.cons (.var 4) .nil)) (.op .pow (.int 10) (.int 6)))) (.cons (.set 4 (.op .fdiv (.var 4) (.op .pow (.int 10) (.int 6)))) .nil)) (.cons (.set 8 (.op .mod (.bi .int (.cons (.op .add (.op .add (.op .add (.op .mul (.var 5) (.int 48271)) (.op .mul (.var 1) (.int 69621))) (.op .mul (.var 7) (.int 40692))) (.int 7)) .nil)) (.int 2147483647))) (.cons (.set 9 (.op .mod (.bi .int (.cons (.op .add (.op .add (.op .mul (.var 8) (.var 8)) (.op .mul (.var 7) (.int 16807))) (.int 3)) .nil)) (.int 2147483399))) (.cons (.set 10 (.op .mod (.bi .int (.cons (.op .add (.op .add (.op .mul (.var 9) (.var 9)) (.var 8)) (.var 1)) .nil)) (.int 2147483647))) (.cons (.app 6 (.op .mod (.op .fdiv (.var 10) (.int 13)) (.op .pow (.int 10) (.int 6)))) .nil))))) .nil
def b__law_draws : Ss :=
    .cons (.set 3 (.int 0)) <|
    .cons (.ife (.cmp .lt (.var 1) (.bi .len (.cons (.var 0) .nil))) (.cons (.set 3 (.bi .int (.cons (.ix (.var 0) (.var 1)) .nil))) .nil) (.nil)) <|
    .cons (.set 4 (.int 0)) <|
    .cons (.ife (.cmp .ge (.bi .abs (.cons (.var 3) .nil)) (.op .pow (.int 10) (.int 18))) (.cons (.set 4 (.op .sub (.bi .abs (.cons (.var 3) .nil)) (.op .pow (.int 10) (.int 18)))) .nil) (.nil)) <|
    .cons (.set 5 (.op .mod (.bi .int (.cons (.var 3) .nil)) (.int 2147483647))) <|
    .cons (.set 6 (.lst (.nil))) <|
    .cons (.fr (.nm 7) (.rng1 (.var 2)) l1__law_draws) <|
    .cons (.ret (.var 6)) .nil
def d__law_draws : DDef := ⟨"_law_draws", ["script", "at", "many"], ["script", "at", "many", "cell", "rest", "seed", "draws", "k", "first", "second", "third"], top 40, b__law_draws⟩
def l1__law_letters : Ss := .cons (.ife (.cmp .eq (.op .mod (.var 5) (.int 4)) (.int 0)) (.cons (.set 4 (.ix (.var 0) (.op .fdiv (.var 5) (.int 4)))) .nil) (.nil)) (.cons (.set 3 (.op .add (.var 3) (.ix (.var 2) (.op .mod (.bi .int (.cons (.var 4) .nil)) (.int 26))))) (.cons (.set 4 (.op .fdiv (.var 4) (.int 26))) .nil))
def b__law_letters : Ss :=
    .cons (.set 2 (.str "abcdefghijklmnopqrstuvwxyz")) <|
    .cons (.set 3 (.str "")) <|
    .cons (.set 4 (.int 0)) <|
    .cons (.fr (.nm 5) (.rng1 (.var 1)) l1__law_letters) <|
    .cons (.ret (.var 3)) .nil
def d__law_letters : DDef := ⟨"_law_letters", ["draws", "many"], ["draws", "many", "letters", "text", "rest", "k"], top 41, b__law_letters⟩
def l1__law_is_word : Ss := .cons (.ife (.cmp .lt (.find (.str "abcdefghijklmnopqrstuvwxyz") (.var 1)) (.int 0)) (.cons (.ret (.bl false)) .nil) (.nil)) .nil
def b__law_is_word : Ss :=
    .cons (.ife (.or (.not (.isi (.var 0) "str")) (.or (.cmp .lt (.bi .len (.cons (.var 0) .nil)) (.int 1)) (.cmp .gt (.bi .len (.cons (.var 0) .nil)) (.int 12)))) (.cons (.ret (.bl false)) .nil) (.nil)) <|
    .cons (.fr (.nm 1) (.seq (.var 0)) l1__law_is_word) <|
    .cons (.ret (.bl true)) .nil
def d__law_is_word : DDef := ⟨"_law_is_word", ["value"], ["value", "char"], top 42, b__law_is_word⟩
def t6__law_value : Ss := 
    .cons (.ret (.ix (.lst (.cons (.str "") (.cons (.var 3) (.cons (.cmp .eq (.op .mod (.bi .int (.cons (.var 3) .nil)) (.int 2)) (.int 0)) (.cons (.non) (.cons (.tup (.cons (.var 0) .nil)) (.cons (.lst (.cons (.var 0) .nil)) (.cons (.op .add (.var 0) (.str " ")) (.cons (.op .add (.str "A") (.sl (.var 0) (.so (.int 1)) .no)) .nil))))))))) (.op .mod (.bi .int (.cons (.var 3) .nil)) (.int 8)))) .nil
def t5__law_value : Ss := 
    .cons (.ife (.cmp .eq (.op .mod (.bi .int (.cons (.var 1) .nil)) (.int 24)) (.int 19)) (.cons (.ret (.sl (.op .add (.var 0) (.str "abcdefghijklm")) .no (.so (.int 13)))) .nil) (.nil)) <|
    t6__law_value
def t4__law_value : Ss := 
    .cons (.ife (.cmp .eq (.op .mod (.bi .int (.cons (.var 1) .nil)) (.int 24)) (.int 18)) (.cons (.ret (.op .add (.var 0) (.str "\n"))) .nil) (.nil)) <|
    t5__law_value
def t3__law_value : Ss := 
    .cons (.ife (.cmp .lt (.op .mod (.bi .int (.cons (.var 1) .nil)) (.int 24)) (.int 18)) (.cons (.ret (.op .add (.op .add (.sl (.var 0) .no (.so (.var 4))) (.ix (.var 5) (.op .mod (.bi .int (.cons (.var 3) .nil)) (.int 12)))) (.sl (.var 0) (.so (.op .add (.var 4) (.int 1))) .no))) .nil) (.nil)) <|
    t4__law_value
def b__law_value : Ss :=
    .cons (.set 4 (.op .mod (.bi .int (.cons (.var 2) .nil)) (.bi .len (.cons (.var 0) .nil)))) <|
    .cons (.set 5 (.lst (.cons (.str "A") (.cons (.str "Z") (.cons (.str "0") (.cons (.str "9") (.cons (.str "{") (.cons (.str "@") (.cons (.str "_") (.cons (.str "-") (.cons (.str " ") (.cons (.str "\n") (.cons (.str "~") (.cons (.str ".") .nil)))))))))))))) <|
    .cons (.ife (.cmp .lt (.op .mod (.bi .int (.cons (.var 1) .nil)) (.int 24)) (.int 12)) (.cons (.ret (.var 0)) .nil) (.nil)) <|
    t3__law_value
def d__law_value : DDef := ⟨"_law_value", ["word", "choice", "place", "letter"], ["word", "choice", "place", "letter", "at", "signs"], top 43, b__law_value⟩
def t3__law_numeral : Ss := 
    .cons (.ret (.ix (.var 4) (.op .sub (.op .mod (.bi .int (.cons (.var 2) .nil)) (.int 14)) (.int 8)))) .nil
def b__law_numeral : Ss :=
    .cons (.set 3 (.lst (.cons (.op .sub (.var 0) (.int 1)) (.cons (.var 0) (.cons (.op .add (.var 0) (.int 1)) (.cons (.op .fdiv (.op .add (.var 0) (.var 1)) (.int 2)) (.cons (.op .sub (.var 1) (.int 1)) (.cons (.var 1) (.cons (.op .add (.var 1) (.int 1)) (.cons (.neg (.var 0)) .nil)))))))))) <|
    .cons (.set 4 (.lst (.cons (.bl true) (.cons (.bl false) (.cons (.non) (.cons (.bi .str (.cons (.var 0) .nil)) (.cons (.tup (.cons (.var 0) .nil)) (.cons (.lst (.cons (.var 0) .nil)) .nil)))))))) <|
    .cons (.ife (.cmp .lt (.op .mod (.bi .int (.cons (.var 2) .nil)) (.int 14)) (.int 8)) (.cons (.ret (.ix (.var 3) (.op .mod (.bi .int (.cons (.var 2) .nil)) (.int 14)))) .nil) (.nil)) <|
    t3__law_numeral
def d__law_numeral : DDef := ⟨"_law_numeral", ["low", "high", "choice"], ["low", "high", "choice", "near", "odd"], top 44, b__law_numeral⟩
def l1__law_digits : Ss := .cons (.ife (.cmp .eq (.op .mod (.var 4) (.int 5)) (.int 0)) (.cons (.set 3 (.ix (.var 0) (.op .fdiv (.var 4) (.int 5)))) .nil) (.nil)) (.cons (.set 2 (.op .add (.var 2) (.ix (.str "0123456789") (.op .mod (.bi .int (.cons (.var 3) .nil)) (.int 10))))) (.cons (.set 3 (.op .fdiv (.var 3) (.int 10))) .nil))
def b__law_digits : Ss :=
    .cons (.set 2 (.str "")) <|
    .cons (.set 3 (.int 0)) <|
    .cons (.fr (.nm 4) (.rng1 (.var 1)) l1__law_digits) <|
    .cons (.ret (.var 2)) .nil
def d__law_digits : DDef := ⟨"_law_digits", ["draws", "size"], ["draws", "size", "text", "rest", "k"], top 45, b__law_digits⟩
def t4__law_read : Ss := 
    .cons (.ret (.var 2)) .nil
def l2__law_read : Ss := .cons (.set 4 (.find (.str "0123456789") (.var 3))) (.cons (.ife (.cmp .lt (.var 4) (.int 0)) (.cons (.ret (.neg (.int 1))) .nil) (.nil)) (.cons (.set 2 (.op .add (.op .mul (.var 2) (.int 10)) (.var 4))) .nil))
def t2__law_read : Ss := 
    .cons (.set 2 (.int 0)) <|
    .cons (.fr (.nm 3) (.seq (.var 0)) l2__law_read) <|
    t4__law_read
def t1__law_read : Ss := 
    .cons (.ife (.and (.cmp .eq (.ix (.var 0) (.int 0)) (.str "0")) (.cmp .gt (.bi .len (.cons (.var 0) .nil)) (.int 1))) (.cons (.ret (.neg (.int 1))) .nil) (.nil)) <|
    t2__law_read
def b__law_read : Ss :=
    .cons (.ife (.or (.cmp .lt (.bi .len (.cons (.var 0) .nil)) (.int 1)) (.cmp .gt (.bi .len (.cons (.var 0) .nil)) (.var 1))) (.cons (.ret (.neg (.int 1))) .nil) (.nil)) <|
    t1__law_read
def d__law_read : DDef := ⟨"_law_read", ["text", "figures"], ["text", "figures", "number", "char", "digit"], top 46, b__law_read⟩
def r1__law_word_refusal : Ss := .cons (.set 2 (.call "check_word" (.cons (.var 0) .nil))) .nil
def b__law_word_refusal : Ss :=
    .cons (.tr r1__law_word_refusal "OfferError" (some 1) xs (.ife (.or (.not (.isi "BadWord")) (.or (.isi "BadNumber") (.or (.isi "BadVector") (.isi "Unknown")))) (.ret (.tup (.cons (.str "another") .nil))) (.ret (.tup (.cons (.str "raised") (.cons (.fld "word") (.cons (.isi "ValueError") .nil))))))) <|
    .cons (.ret (.tup (.cons (.str "told") (.cons (.var 2) .nil)))) .nil
def d__law_word_refusal : DDef := ⟨"_law_word_refusal", ["value"], ["value", "e", "told"], top 47, b__law_word_refusal⟩
def r1__law_number_refusal : Ss := .cons (.set 4 (.call "check_number" (.cons (.var 0) (.cons (.var 1) (.cons (.var 2) .nil))))) .nil
def b__law_number_refusal : Ss :=
    .cons (.tr r1__law_number_refusal "OfferError" (some 3) xs (.ife (.or (.not (.isi "BadNumber")) (.or (.isi "BadWord") (.or (.isi "BadVector") (.isi "Unknown")))) (.ret (.tup (.cons (.str "another") .nil))) (.ret (.tup (.cons (.str "raised") (.cons (.fld "number") (.cons (.fld "low") (.cons (.fld "high") (.cons (.isi "ValueError") .nil))))))))) <|
    .cons (.ret (.tup (.cons (.str "told") (.cons (.var 4) .nil)))) .nil
def d__law_number_refusal : DDef := ⟨"_law_number_refusal", ["value", "low", "high"], ["value", "low", "high", "e", "told"], top 48, b__law_number_refusal⟩
def t4__law_limits : Ss := 
    .cons (.ret (.call "_law_same" (.cons (.tup (.cons (.glob "MOST_POINTS") (.cons (.glob "MOST_VOUCHERS") (.cons (.glob "MOST_DAY") (.cons (.glob "MOST_AMOUNT") .nil))))) (.cons (.tup (.cons (.int 400) (.cons (.int 12) (.cons (.int 9999) (.cons (.op .pow (.int 10) (.int 6)) .nil))))) .nil)))) .nil
def t2__law_limits : Ss := 
    .cons (.set 0 (.tup (.cons (.glob "MOST_HEADS") (.cons (.glob "MOST_TARIFF_HEADS") (.cons (.glob "MOST_FORMS") (.cons (.glob "MOST_HEAD_OFF") (.cons (.glob "MOST_HEAD_COUNT") (.cons (.glob "MOST_FORM_OFF") (.cons (.glob "MOST_CELLS") (.cons (.glob "COVER_CELLS") .nil)))))))))) <|
    .cons (.ife (.not (.call "_law_same" (.cons (.var 0) (.cons (.tup (.cons (.int 200) (.cons (.int 400) (.cons (.int 12) (.cons (.op .pow (.int 10) (.int 8)) (.cons (.int 1000) (.cons (.op .pow (.int 10) (.int 6)) (.cons (.int 2000) (.cons (.int 600) .nil))))))))) .nil)))) (.cons (.ret (.bl false)) .nil) (.nil)) <|
    t4__law_limits
def b__law_limits : Ss :=
    .cons (.set 0 (.tup (.cons (.glob "MOST_GOODS") (.cons (.glob "MOST_PRICE") (.cons (.glob "MOST_COUNT") (.cons (.glob "MOST_UNITS") (.cons (.glob "MOST_CENTS") (.cons (.glob "MOST_SHAPE_FORMS") (.cons (.glob "MOST_STANDING") (.cons (.glob "MOST_SPECIAL") (.cons (.glob "MOST_BONUS") .nil))))))))))) <|
    .cons (.ife (.not (.call "_law_same" (.cons (.var 0) (.cons (.tup (.cons (.int 4) (.cons (.int 9999) (.cons (.op .pow (.int 10) (.int 18)) (.cons (.int 20) (.cons (.int 99999) (.cons (.int 40) (.cons (.int 6) (.cons (.int 5) (.cons (.int 9999) .nil)))))))))) .nil)))) (.cons (.ret (.bl false)) .nil) (.nil)) <|
    t2__law_limits
def d__law_limits : DDef := ⟨"_law_limits", [], ["told"], top 49, b__law_limits⟩
def t7__law_words_right : Ss := 
    .cons (.ret (.and (.call "_law_same" (.cons (.call "_law_word_refusal" (.cons (.var 2) .nil)) (.cons (.var 5) .nil))) (.and (.call "_law_same" (.cons (.call "is_word" (.cons (.var 1) .nil)) (.cons (.bl true) .nil))) (.call "_law_same" (.cons (.var 2) (.cons (.var 3) .nil)))))) .nil
def t5__law_words_right : Ss := 
    .cons (.set 5 (.tup (.cons (.str "raised") (.cons (.var 3) (.cons (.bl true) .nil))))) <|
    .cons (.ife (.var 4) (.cons (.set 5 (.tup (.cons (.str "told") (.cons (.non) .nil)))) .nil) (.nil)) <|
    t7__law_words_right
def b__law_words_right : Ss :=
    .cons (.set 1 (.call "_law_letters" (.cons (.var 0) (.cons (.op .add (.int 1) (.op .mod (.bi .int (.cons (.ix (.var 0) (.int 3)) .nil)) (.int 12))) .nil)))) <|
    .cons (.set 2 (.call "_law_value" (.cons (.var 1) (.cons (.ix (.var 0) (.int 4)) (.cons (.ix (.var 0) (.int 5)) (.cons (.ix (.var 0) (.int 6)) .nil)))))) <|
    .cons (.set 3 (.call "_law_value" (.cons (.var 1) (.cons (.ix (.var 0) (.int 4)) (.cons (.ix (.var 0) (.int 5)) (.cons (.ix (.var 0) (.int 6)) .nil)))))) <|
    .cons (.set 4 (.call "_law_is_word" (.cons (.var 3) .nil))) <|
    .cons (.ife (.not (.call "_law_same" (.cons (.call "is_word" (.cons (.var 2) .nil)) (.cons (.var 4) .nil)))) (.cons (.ret (.bl false)) .nil) (.nil)) <|
    t5__law_words_right
def d__law_words_right : DDef := ⟨"_law_words_right", ["draws"], ["draws", "word", "value", "copy", "due", "expected"], top 50, b__law_words_right⟩
def t10__law_numbers_right : Ss := 
    .cons (.ret (.and (.call "_law_same" (.cons (.call "_law_number_refusal" (.cons (.var 3) (.cons (.var 1) (.cons (.var 2) .nil)))) (.cons (.var 7) .nil))) (.call "_law_same" (.cons (.var 3) (.cons (.var 4) .nil))))) .nil
def t8__law_numbers_right : Ss := 
    .cons (.set 7 (.tup (.cons (.str "raised") (.cons (.var 4) (.cons (.var 1) (.cons (.var 2) (.cons (.bl true) .nil))))))) <|
    .cons (.ife (.var 6) (.cons (.set 7 (.tup (.cons (.str "told") (.cons (.non) .nil)))) .nil) (.nil)) <|
    t10__law_numbers_right
def t2__law_numbers_right : Ss := 
    .cons (.set 2 (.op .add (.var 1) (.ix (.lst (.cons (.int 0) (.cons (.int 1) (.cons (.op .add (.int 1) (.op .mod (.bi .int (.cons (.ix (.var 0) (.int 4)) .nil)) (.int 9))) (.cons (.ix (.var 0) (.int 4)) (.cons (.op .pow (.int 10) (.int 18)) .nil)))))) (.op .mod (.bi .int (.cons (.ix (.var 0) (.int 5)) .nil)) (.int 5))))) <|
    .cons (.set 3 (.call "_law_numeral" (.cons (.var 1) (.cons (.var 2) (.cons (.ix (.var 0) (.int 6)) .nil))))) <|
    .cons (.set 4 (.call "_law_numeral" (.cons (.var 1) (.cons (.var 2) (.cons (.ix (.var 0) (.int 6)) .nil))))) <|
    .cons (.set 5 (.call "_law_integer" (.cons (.var 4) .nil))) <|
    .cons (.set 6 (.and (.var 5) (.and (.cmp .le (.var 1) (.var 4)) (.cmp .le (.var 4) (.var 2))))) <|
    .cons (.ife (.or (.not (.call "_law_same" (.cons (.call "is_integer" (.cons (.var 3) .nil)) (.cons (.var 5) .nil)))) (.not (.call "_law_same" (.cons (.call "is_number" (.cons (.var 3) (.cons (.var 1) (.cons (.var 2) .nil)))) (.cons (.var 6) .nil))))) (.cons (.ret (.bl false)) .nil) (.nil)) <|
    t8__law_numbers_right
def b__law_numbers_right : Ss :=
    .cons (.set 1 (.ix (.lst (.cons (.int 0) (.cons (.int 1) (.cons (.op .mod (.bi .int (.cons (.ix (.var 0) (.int 0)) .nil)) (.int 20)) (.cons (.op .add (.op .mul (.ix (.var 0) (.int 0)) (.op .pow (.int 10) (.int 12))) (.ix (.var 0) (.int 1))) (.cons (.op .add (.op .pow (.int 10) (.int 30)) (.ix (.var 0) (.int 0))) .nil)))))) (.op .mod (.bi .int (.cons (.ix (.var 0) (.int 2)) .nil)) (.int 5)))) <|
    .cons (.ife (.cmp .eq (.op .mod (.bi .int (.cons (.ix (.var 0) (.int 3)) .nil)) (.int 3)) (.int 1)) (.cons (.set 1 (.neg (.var 1))) .nil) (.nil)) <|
    t2__law_numbers_right
def d__law_numbers_right : DDef := ⟨"_law_numbers_right", ["draws"], ["draws", "low", "high", "value", "copy", "whole", "inside", "expected"], top 51, b__law_numbers_right⟩
def t9_law : Ss := 
    .cons (.ret (.call "_law_same" (.cons (.call "read_number" (.cons (.var 4) (.cons (.var 2) .nil))) (.cons (.call "_law_read" (.cons (.var 4) (.cons (.var 2) .nil))) .nil)))) .nil
def t8_law : Ss := 
    .cons (.ife (.and (.cmp .gt (.var 3) (.int 0)) (.cmp .eq (.op .mod (.bi .int (.cons (.ix (.var 1) (.int 4)) .nil)) (.int 4)) (.int 2))) (.cons (.set 4 (.op .add (.op .add (.sl (.var 4) .no (.so (.var 5))) (.ix (.lst (.cons (.str " ") (.cons (.str "-") (.cons (.str "+") (.cons (.str "_") (.cons (.str ".") (.cons (.str "a") (.cons (.str "\n") (.cons (.str ",") .nil))))))))) (.op .mod (.op .fdiv (.ix (.var 1) (.int 4)) (.int 4)) (.int 8)))) (.sl (.var 4) (.so (.op .add (.var 5) (.int 1))) .no))) .nil) (.nil)) <|
    t9_law
def t2_law : Ss := 
    .cons (.set 1 (.call "_law_draws" (.cons (.var 0) (.cons (.int 2) (.cons (.int 26) .nil))))) <|
    .cons (.set 2 (.ix (.lst (.cons (.op .add (.int 1) (.op .mod (.bi .int (.cons (.ix (.var 1) (.int 0)) .nil)) (.int 6))) (.cons (.int 5) (.cons (.int 19) (.cons (.op .add (.int 1) (.op .mod (.bi .int (.cons (.ix (.var 1) (.int 0)) .nil)) (.int 100))) (.cons (.int 100) .nil)))))) (.op .mod (.bi .int (.cons (.ix (.var 1) (.int 1)) .nil)) (.int 5)))) <|
    .cons (.set 3 (.ix (.lst (.cons (.var 2) (.cons (.op .add (.var 2) (.int 1)) (.cons (.bi .max (.cons (.int 0) (.cons (.op .sub (.var 2) (.int 1)) .nil))) (.cons (.op .mod (.bi .int (.cons (.ix (.var 1) (.int 2)) .nil)) (.op .add (.var 2) (.int 1))) .nil))))) (.op .mod (.op .fdiv (.ix (.var 1) (.int 1)) (.int 5)) (.int 4)))) <|
    .cons (.set 4 (.call "_law_digits" (.cons (.sl (.var 1) (.so (.int 5)) .no) (.cons (.var 3) .nil)))) <|
    .cons (.set 5 (.op .mod (.bi .int (.cons (.ix (.var 1) (.int 3)) .nil)) (.bi .max (.cons (.int 1) (.cons (.var 3) .nil))))) <|
    .cons (.ife (.and (.cmp .gt (.var 3) (.int 0)) (.cmp .eq (.op .mod (.bi .int (.cons (.ix (.var 1) (.int 4)) .nil)) (.int 4)) (.int 1))) (.cons (.set 4 (.op .add (.str "0") (.sl (.var 4) (.so (.int 1)) .no))) .nil) (.nil)) <|
    t8_law
def t1_law : Ss := 
    .cons (.ife (.not (.call "_law_numbers_right" (.cons (.call "_law_draws" (.cons (.var 0) (.cons (.int 1) (.cons (.int 7) .nil)))) .nil))) (.cons (.ret (.bl false)) .nil) (.nil)) <|
    t2_law
def b_law : Ss :=
    .cons (.ife (.or (.not (.call "_law_limits" (.nil))) (.not (.call "_law_words_right" (.cons (.call "_law_draws" (.cons (.var 0) (.cons (.int 0) (.cons (.int 7) .nil)))) .nil)))) (.cons (.ret (.bl false)) .nil) (.nil)) <|
    t1_law
def d_law : DDef := ⟨"law", ["script"], ["script", "draws", "figures", "size", "text", "at"], top 52, b_law⟩
def x_BadWord : XDef := ⟨"BadWord", ["word"], ["self", "word"], ["self", "word", "__class__"]⟩
def x_BadNumber : XDef := ⟨"BadNumber", ["number", "low", "high"], ["self", "number", "low", "high"], ["self", "number", "low", "high", "__class__"]⟩
def T : Tbl := ⟨[d_is_word, d_check_word, d_is_integer, d_is_number, d_check_number, d_read_number, d__law_integer, d__law_same, d__law_draws, d__law_letters, d__law_is_word, d__law_value, d__law_numeral, d__law_digits, d__law_read, d__law_word_refusal, d__law_number_refusal, d__law_limits, d__law_words_right, d__law_numbers_right, d_law],
    [("LETTERS", .str "abcdefghijklmnopqrstuvwxyz"), ("DIGITS", .str "0123456789"), ("LONGEST_WORD", .int 12), ("MOST_GOODS", .int 4), ("MOST_PRICE", .int 9999), ("MOST_COUNT", .int 1000000000000000000), ("MOST_UNITS", .int 20), ("MOST_CENTS", .int 99999), ("MOST_SHAPE_FORMS", .int 40), ("MOST_STANDING", .int 6), ("MOST_SPECIAL", .int 5), ("MOST_BONUS", .int 9999), ("MOST_HEADS", .int 200), ("MOST_TARIFF_HEADS", .int 400), ("MOST_FORMS", .int 12), ("MOST_HEAD_OFF", .int 100000000), ("MOST_HEAD_COUNT", .int 1000), ("MOST_FORM_OFF", .int 1000000), ("MOST_CELLS", .int 2000), ("COVER_CELLS", .int 600), ("MOST_POINTS", .int 400), ("MOST_VOUCHERS", .int 12), ("MOST_DAY", .int 9999), ("MOST_AMOUNT", .int 1000000)],
    ["abs", "all", "bool", "int", "isinstance", "len", "list", "max", "range", "str", "super", "tuple"], [], 60,
    [x_BadWord, x_BadNumber], ["BadNumber", "BadVector", "BadWord", "OfferError", "Unknown", "ValueError"], PySem.Challenge.pw_offerbook_k01_words.main.file⟩
theorem xb_BadWord : XBind x_BadWord := by
  intro nm q as body sc cl kV doc pm cdv ct an us ha hl
  match as, ha with
  | [⟨a0, b0, c0⟩, ⟨a1, b1, c1⟩], ha =>
    simp only [x_BadWord, List.map_cons, List.map_nil, List.cons.injEq, and_true] at ha
    obtain ⟨rfl, rfl⟩ := ha
    match us, hl with
    | [_, _], _ => rfl
theorem xb_BadNumber : XBind x_BadNumber := by
  intro nm q as body sc cl kV doc pm cdv ct an us ha hl
  match as, ha with
  | [⟨a0, b0, c0⟩, ⟨a1, b1, c1⟩, ⟨a2, b2, c2⟩, ⟨a3, b3, c3⟩], ha =>
    simp only [x_BadNumber, List.map_cons, List.map_nil, List.cons.injEq, and_true] at ha
    obtain ⟨rfl, rfl, rfl, rfl⟩ := ha
    match us, hl with
    | [_, _, _, _], _ => rfl
theorem xfine : XFine T (PySem.W.OpenLaw.prog PySem.Challenge.rw_offerbook_k01_words) := by
  intro x hx
  unfold T at hx
  simp only [List.mem_cons, List.not_mem_nil, or_false] at hx
  rcases hx with rfl | rfl
  · exact ⟨xb_BadWord, by rfl, by rfl⟩
  · exact ⟨xb_BadNumber, by rfl, by rfl⟩
theorem g_LETTERS : T.prg.G "LETTERS" = some (.str "abcdefghijklmnopqrstuvwxyz") := by rfl
theorem g_DIGITS : T.prg.G "DIGITS" = some (.str "0123456789") := by rfl
theorem g_LONGEST_WORD : T.prg.G "LONGEST_WORD" = some (.int 12) := by rfl
theorem g_MOST_GOODS : T.prg.G "MOST_GOODS" = some (.int 4) := by rfl
theorem g_MOST_PRICE : T.prg.G "MOST_PRICE" = some (.int 9999) := by rfl
theorem g_MOST_COUNT : T.prg.G "MOST_COUNT" = some (.int 1000000000000000000) := by rfl
theorem g_MOST_UNITS : T.prg.G "MOST_UNITS" = some (.int 20) := by rfl
theorem g_MOST_CENTS : T.prg.G "MOST_CENTS" = some (.int 99999) := by rfl
theorem g_MOST_SHAPE_FORMS : T.prg.G "MOST_SHAPE_FORMS" = some (.int 40) := by rfl
theorem g_MOST_STANDING : T.prg.G "MOST_STANDING" = some (.int 6) := by rfl
theorem g_MOST_SPECIAL : T.prg.G "MOST_SPECIAL" = some (.int 5) := by rfl
theorem g_MOST_BONUS : T.prg.G "MOST_BONUS" = some (.int 9999) := by rfl
theorem g_MOST_HEADS : T.prg.G "MOST_HEADS" = some (.int 200) := by rfl
theorem g_MOST_TARIFF_HEADS : T.prg.G "MOST_TARIFF_HEADS" = some (.int 400) := by rfl
theorem g_MOST_FORMS : T.prg.G "MOST_FORMS" = some (.int 12) := by rfl
theorem g_MOST_HEAD_OFF : T.prg.G "MOST_HEAD_OFF" = some (.int 100000000) := by rfl
theorem g_MOST_HEAD_COUNT : T.prg.G "MOST_HEAD_COUNT" = some (.int 1000) := by rfl
theorem g_MOST_FORM_OFF : T.prg.G "MOST_FORM_OFF" = some (.int 1000000) := by rfl
theorem g_MOST_CELLS : T.prg.G "MOST_CELLS" = some (.int 2000) := by rfl
theorem g_COVER_CELLS : T.prg.G "COVER_CELLS" = some (.int 600) := by rfl
theorem g_MOST_POINTS : T.prg.G "MOST_POINTS" = some (.int 400) := by rfl
theorem g_MOST_VOUCHERS : T.prg.G "MOST_VOUCHERS" = some (.int 12) := by rfl
theorem g_MOST_DAY : T.prg.G "MOST_DAY" = some (.int 9999) := by rfl
theorem g_MOST_AMOUNT : T.prg.G "MOST_AMOUNT" = some (.int 1000000) := by rfl
theorem chk_is_word : chkD T d_is_word = true := by decide +kernel
theorem bind_is_word : BindOk d_is_word := fun kV doc pm an cdv ct us hl => match us, hl with | [_], _ => rfl
theorem call_is_word (n : Nat) (x0 : D) : T.prg.call (n + 1) "is_word" [x0] = fin (exL T.prg.G (T.prg.call n) T.prg.fu b_is_word [some (.v x0), none]) := call_of (d := d_is_word) (by rfl) n _ rfl
theorem nd_is_word : findD T.defs d_is_word.name = some d_is_word := by rfl
theorem chk_check_word : chkD T d_check_word = true := by decide +kernel
theorem bind_check_word : BindOk d_check_word := fun kV doc pm an cdv ct us hl => match us, hl with | [_], _ => rfl
theorem call_check_word (n : Nat) (x0 : D) : T.prg.call (n + 1) "check_word" [x0] = fin (exL T.prg.G (T.prg.call n) T.prg.fu b_check_word [some (.v x0)]) := call_of (d := d_check_word) (by rfl) n _ rfl
theorem nd_check_word : findD T.defs d_check_word.name = some d_check_word := by rfl
theorem chk_is_integer : chkD T d_is_integer = true := by decide +kernel
theorem bind_is_integer : BindOk d_is_integer := fun kV doc pm an cdv ct us hl => match us, hl with | [_], _ => rfl
theorem call_is_integer (n : Nat) (x0 : D) : T.prg.call (n + 1) "is_integer" [x0] = fin (exL T.prg.G (T.prg.call n) T.prg.fu b_is_integer [some (.v x0)]) := call_of (d := d_is_integer) (by rfl) n _ rfl
theorem nd_is_integer : findD T.defs d_is_integer.name = some d_is_integer := by rfl
theorem chk_is_number : chkD T d_is_number = true := by decide +kernel
theorem bind_is_number : BindOk d_is_number := fun kV doc pm an cdv ct us hl => match us, hl with | [_, _, _], _ => rfl
theorem call_is_number (n : Nat) (x0 : D) (x1 : D) (x2 : D) : T.prg.call (n + 1) "is_number" [x0, x1, x2] = fin (exL T.prg.G (T.prg.call n) T.prg.fu b_is_number [some (.v x0), some (.v x1), some (.v x2)]) := call_of (d := d_is_number) (by rfl) n _ rfl
theorem nd_is_number : findD T.defs d_is_number.name = some d_is_number := by rfl
theorem chk_check_number : chkD T d_check_number = true := by decide +kernel
theorem bind_check_number : BindOk d_check_number := fun kV doc pm an cdv ct us hl => match us, hl with | [_, _, _], _ => rfl
theorem call_check_number (n : Nat) (x0 : D) (x1 : D) (x2 : D) : T.prg.call (n + 1) "check_number" [x0, x1, x2] = fin (exL T.prg.G (T.prg.call n) T.prg.fu b_check_number [some (.v x0), some (.v x1), some (.v x2)]) := call_of (d := d_check_number) (by rfl) n _ rfl
theorem nd_check_number : findD T.defs d_check_number.name = some d_check_number := by rfl
theorem chk_read_number : chkD T d_read_number = true := by decide +kernel
theorem bind_read_number : BindOk d_read_number := fun kV doc pm an cdv ct us hl => match us, hl with | [_, _], _ => rfl
theorem call_read_number (n : Nat) (x0 : D) (x1 : D) : T.prg.call (n + 1) "read_number" [x0, x1] = fin (exL T.prg.G (T.prg.call n) T.prg.fu b_read_number [some (.v x0), some (.v x1), none]) := call_of (d := d_read_number) (by rfl) n _ rfl
theorem nd_read_number : findD T.defs d_read_number.name = some d_read_number := by rfl
theorem chk__law_integer : chkD T d__law_integer = true := by decide +kernel
theorem bind__law_integer : BindOk d__law_integer := fun kV doc pm an cdv ct us hl => match us, hl with | [_], _ => rfl
theorem call__law_integer (n : Nat) (x0 : D) : T.prg.call (n + 1) "_law_integer" [x0] = fin (exL T.prg.G (T.prg.call n) T.prg.fu b__law_integer [some (.v x0)]) := call_of (d := d__law_integer) (by rfl) n _ rfl
theorem nd__law_integer : findD T.defs d__law_integer.name = some d__law_integer := by rfl
theorem chk__law_same : chkD T d__law_same = true := by decide +kernel
theorem bind__law_same : BindOk d__law_same := fun kV doc pm an cdv ct us hl => match us, hl with | [_, _], _ => rfl
theorem call__law_same (n : Nat) (x0 : D) (x1 : D) : T.prg.call (n + 1) "_law_same" [x0, x1] = fin (exL T.prg.G (T.prg.call n) T.prg.fu b__law_same [some (.v x0), some (.v x1), none]) := call_of (d := d__law_same) (by rfl) n _ rfl
theorem nd__law_same : findD T.defs d__law_same.name = some d__law_same := by rfl
theorem chk__law_draws : chkD T d__law_draws = true := by decide +kernel
theorem bind__law_draws : BindOk d__law_draws := fun kV doc pm an cdv ct us hl => match us, hl with | [_, _, _], _ => rfl
theorem call__law_draws (n : Nat) (x0 : D) (x1 : D) (x2 : D) : T.prg.call (n + 1) "_law_draws" [x0, x1, x2] = fin (exL T.prg.G (T.prg.call n) T.prg.fu b__law_draws [some (.v x0), some (.v x1), some (.v x2), none, none, none, none, none, none, none, none]) := call_of (d := d__law_draws) (by rfl) n _ rfl
theorem nd__law_draws : findD T.defs d__law_draws.name = some d__law_draws := by rfl
theorem chk__law_letters : chkD T d__law_letters = true := by decide +kernel
theorem bind__law_letters : BindOk d__law_letters := fun kV doc pm an cdv ct us hl => match us, hl with | [_, _], _ => rfl
theorem call__law_letters (n : Nat) (x0 : D) (x1 : D) : T.prg.call (n + 1) "_law_letters" [x0, x1] = fin (exL T.prg.G (T.prg.call n) T.prg.fu b__law_letters [some (.v x0), some (.v x1), none, none, none, none]) := call_of (d := d__law_letters) (by rfl) n _ rfl
theorem nd__law_letters : findD T.defs d__law_letters.name = some d__law_letters := by rfl
theorem chk__law_is_word : chkD T d__law_is_word = true := by decide +kernel
theorem bind__law_is_word : BindOk d__law_is_word := fun kV doc pm an cdv ct us hl => match us, hl with | [_], _ => rfl
theorem call__law_is_word (n : Nat) (x0 : D) : T.prg.call (n + 1) "_law_is_word" [x0] = fin (exL T.prg.G (T.prg.call n) T.prg.fu b__law_is_word [some (.v x0), none]) := call_of (d := d__law_is_word) (by rfl) n _ rfl
theorem nd__law_is_word : findD T.defs d__law_is_word.name = some d__law_is_word := by rfl
theorem chk__law_value : chkD T d__law_value = true := by decide +kernel
theorem bind__law_value : BindOk d__law_value := fun kV doc pm an cdv ct us hl => match us, hl with | [_, _, _, _], _ => rfl
theorem call__law_value (n : Nat) (x0 : D) (x1 : D) (x2 : D) (x3 : D) : T.prg.call (n + 1) "_law_value" [x0, x1, x2, x3] = fin (exL T.prg.G (T.prg.call n) T.prg.fu b__law_value [some (.v x0), some (.v x1), some (.v x2), some (.v x3), none, none]) := call_of (d := d__law_value) (by rfl) n _ rfl
theorem nd__law_value : findD T.defs d__law_value.name = some d__law_value := by rfl
theorem chk__law_numeral : chkD T d__law_numeral = true := by decide +kernel
theorem bind__law_numeral : BindOk d__law_numeral := fun kV doc pm an cdv ct us hl => match us, hl with | [_, _, _], _ => rfl
theorem call__law_numeral (n : Nat) (x0 : D) (x1 : D) (x2 : D) : T.prg.call (n + 1) "_law_numeral" [x0, x1, x2] = fin (exL T.prg.G (T.prg.call n) T.prg.fu b__law_numeral [some (.v x0), some (.v x1), some (.v x2), none, none]) := call_of (d := d__law_numeral) (by rfl) n _ rfl
theorem nd__law_numeral : findD T.defs d__law_numeral.name = some d__law_numeral := by rfl
theorem chk__law_digits : chkD T d__law_digits = true := by decide +kernel
theorem bind__law_digits : BindOk d__law_digits := fun kV doc pm an cdv ct us hl => match us, hl with | [_, _], _ => rfl
theorem call__law_digits (n : Nat) (x0 : D) (x1 : D) : T.prg.call (n + 1) "_law_digits" [x0, x1] = fin (exL T.prg.G (T.prg.call n) T.prg.fu b__law_digits [some (.v x0), some (.v x1), none, none, none]) := call_of (d := d__law_digits) (by rfl) n _ rfl
theorem nd__law_digits : findD T.defs d__law_digits.name = some d__law_digits := by rfl
theorem chk__law_read : chkD T d__law_read = true := by decide +kernel
theorem bind__law_read : BindOk d__law_read := fun kV doc pm an cdv ct us hl => match us, hl with | [_, _], _ => rfl
theorem call__law_read (n : Nat) (x0 : D) (x1 : D) : T.prg.call (n + 1) "_law_read" [x0, x1] = fin (exL T.prg.G (T.prg.call n) T.prg.fu b__law_read [some (.v x0), some (.v x1), none, none, none]) := call_of (d := d__law_read) (by rfl) n _ rfl
theorem nd__law_read : findD T.defs d__law_read.name = some d__law_read := by rfl
theorem chk__law_word_refusal : chkD T d__law_word_refusal = true := by decide +kernel
theorem bind__law_word_refusal : BindOk d__law_word_refusal := fun kV doc pm an cdv ct us hl => match us, hl with | [_], _ => rfl
theorem call__law_word_refusal (n : Nat) (x0 : D) : T.prg.call (n + 1) "_law_word_refusal" [x0] = fin (exL T.prg.G (T.prg.call n) T.prg.fu b__law_word_refusal [some (.v x0), none, none]) := call_of (d := d__law_word_refusal) (by rfl) n _ rfl
theorem nd__law_word_refusal : findD T.defs d__law_word_refusal.name = some d__law_word_refusal := by rfl
theorem chk__law_number_refusal : chkD T d__law_number_refusal = true := by decide +kernel
theorem bind__law_number_refusal : BindOk d__law_number_refusal := fun kV doc pm an cdv ct us hl => match us, hl with | [_, _, _], _ => rfl
theorem call__law_number_refusal (n : Nat) (x0 : D) (x1 : D) (x2 : D) : T.prg.call (n + 1) "_law_number_refusal" [x0, x1, x2] = fin (exL T.prg.G (T.prg.call n) T.prg.fu b__law_number_refusal [some (.v x0), some (.v x1), some (.v x2), none, none]) := call_of (d := d__law_number_refusal) (by rfl) n _ rfl
theorem nd__law_number_refusal : findD T.defs d__law_number_refusal.name = some d__law_number_refusal := by rfl
theorem chk__law_limits : chkD T d__law_limits = true := by decide +kernel
theorem bind__law_limits : BindOk d__law_limits := fun kV doc pm an cdv ct us hl => match us, hl with | [], _ => rfl
theorem call__law_limits (n : Nat) : T.prg.call (n + 1) "_law_limits" [] = fin (exL T.prg.G (T.prg.call n) T.prg.fu b__law_limits [none]) := call_of (d := d__law_limits) (by rfl) n _ rfl
theorem nd__law_limits : findD T.defs d__law_limits.name = some d__law_limits := by rfl
theorem chk__law_words_right : chkD T d__law_words_right = true := by decide +kernel
theorem bind__law_words_right : BindOk d__law_words_right := fun kV doc pm an cdv ct us hl => match us, hl with | [_], _ => rfl
theorem call__law_words_right (n : Nat) (x0 : D) : T.prg.call (n + 1) "_law_words_right" [x0] = fin (exL T.prg.G (T.prg.call n) T.prg.fu b__law_words_right [some (.v x0), none, none, none, none, none]) := call_of (d := d__law_words_right) (by rfl) n _ rfl
theorem nd__law_words_right : findD T.defs d__law_words_right.name = some d__law_words_right := by rfl
theorem chk__law_numbers_right : chkD T d__law_numbers_right = true := by decide +kernel
theorem bind__law_numbers_right : BindOk d__law_numbers_right := fun kV doc pm an cdv ct us hl => match us, hl with | [_], _ => rfl
theorem call__law_numbers_right (n : Nat) (x0 : D) : T.prg.call (n + 1) "_law_numbers_right" [x0] = fin (exL T.prg.G (T.prg.call n) T.prg.fu b__law_numbers_right [some (.v x0), none, none, none, none, none, none, none]) := call_of (d := d__law_numbers_right) (by rfl) n _ rfl
theorem nd__law_numbers_right : findD T.defs d__law_numbers_right.name = some d__law_numbers_right := by rfl
theorem chk_law : chkD T d_law = true := by decide +kernel
theorem bind_law : BindOk d_law := fun kV doc pm an cdv ct us hl => match us, hl with | [_], _ => rfl
theorem call_law (n : Nat) (x0 : D) : T.prg.call (n + 1) "law" [x0] = fin (exL T.prg.G (T.prg.call n) T.prg.fu b_law [some (.v x0), none, none, none, none, none]) := call_of (d := d_law) (by rfl) n _ rfl
theorem nd_law : findD T.defs d_law.name = some d_law := by rfl
theorem fine : Fine T where
  chk := by
    intro d hd
    unfold T at hd
    simp only [List.mem_cons, List.not_mem_nil, or_false] at hd
    rcases hd with rfl | rfl | rfl | rfl | rfl | rfl | rfl | rfl | rfl | rfl | rfl | rfl | rfl | rfl | rfl | rfl | rfl | rfl | rfl | rfl | rfl
    · exact chk_is_word
    · exact chk_check_word
    · exact chk_is_integer
    · exact chk_is_number
    · exact chk_check_number
    · exact chk_read_number
    · exact chk__law_integer
    · exact chk__law_same
    · exact chk__law_draws
    · exact chk__law_letters
    · exact chk__law_is_word
    · exact chk__law_value
    · exact chk__law_numeral
    · exact chk__law_digits
    · exact chk__law_read
    · exact chk__law_word_refusal
    · exact chk__law_number_refusal
    · exact chk__law_limits
    · exact chk__law_words_right
    · exact chk__law_numbers_right
    · exact chk_law
  bind := by
    intro d hd
    unfold T at hd
    simp only [List.mem_cons, List.not_mem_nil, or_false] at hd
    rcases hd with rfl | rfl | rfl | rfl | rfl | rfl | rfl | rfl | rfl | rfl | rfl | rfl | rfl | rfl | rfl | rfl | rfl | rfl | rfl | rfl | rfl
    · exact bind_is_word
    · exact bind_check_word
    · exact bind_is_integer
    · exact bind_is_number
    · exact bind_check_number
    · exact bind_read_number
    · exact bind__law_integer
    · exact bind__law_same
    · exact bind__law_draws
    · exact bind__law_letters
    · exact bind__law_is_word
    · exact bind__law_value
    · exact bind__law_numeral
    · exact bind__law_digits
    · exact bind__law_read
    · exact bind__law_word_refusal
    · exact bind__law_number_refusal
    · exact bind__law_limits
    · exact bind__law_words_right
    · exact bind__law_numbers_right
    · exact bind_law
theorem nds : ∀ d ∈ T.defs, findD T.defs d.name = some d := by
  intro d hd
  unfold T at hd
  simp only [List.mem_cons, List.not_mem_nil, or_false] at hd
  rcases hd with rfl | rfl | rfl | rfl | rfl | rfl | rfl | rfl | rfl | rfl | rfl | rfl | rfl | rfl | rfl | rfl | rfl | rfl | rfl | rfl | rfl
  · exact nd_is_word
  · exact nd_check_word
  · exact nd_is_integer
  · exact nd_is_number
  · exact nd_check_number
  · exact nd_read_number
  · exact nd__law_integer
  · exact nd__law_same
  · exact nd__law_draws
  · exact nd__law_letters
  · exact nd__law_is_word
  · exact nd__law_value
  · exact nd__law_numeral
  · exact nd__law_digits
  · exact nd__law_read
  · exact nd__law_word_refusal
  · exact nd__law_number_refusal
  · exact nd__law_limits
  · exact nd__law_words_right
  · exact nd__law_numbers_right
  · exact nd_law
abbrev R : PySem.W.OpenRow := PySem.W.OpenLaw.row PySem.Challenge.rw_offerbook_k01_words
def loose : List Str := (["__name__", "OfferError", "BadWord", "BadNumber", "BadVector", "Unknown", "LETTERS", "DIGITS", "LONGEST_WORD", "is_word", "check_word", "is_integer"] : List Str) ++ (["is_number", "check_number", "read_number", "MOST_GOODS", "MOST_PRICE", "MOST_COUNT", "MOST_UNITS", "MOST_CENTS", "MOST_SHAPE_FORMS", "MOST_STANDING", "MOST_SPECIAL", "MOST_BONUS"] : List Str) ++ (["MOST_HEADS", "MOST_TARIFF_HEADS", "MOST_FORMS", "MOST_HEAD_OFF", "MOST_HEAD_COUNT", "MOST_FORM_OFF", "MOST_CELLS", "COVER_CELLS", "MOST_POINTS", "MOST_VOUCHERS", "MOST_DAY", "MOST_AMOUNT"] : List Str) ++ (["_law_integer", "_law_same", "_law_draws", "_law_letters", "_law_is_word", "_law_value", "_law_numeral", "_law_digits", "_law_read", "_law_word_refusal", "_law_number_refusal", "_law_limits"] : List Str) ++ (["_law_words_right", "_law_numbers_right"] : List Str)
end K01
namespace K01
open PySem PySem.Spec PyProof.Rows L2 PyI
def qv : PySem.Program := PySem.W.view R.prog [52]
theorem run (w : World) : HandSHeadRun.RunEq R qv (T.hk 4) (T.ob 4) 4000 loose w := by
  intro os
  kernel_rfl
end K01
namespace K01
open PySem L2 PyI
/-! ### draws -/
theorem draws_run (ns : List Int) (at_ many n : Nat) (hk : at_ ≤ 1000000) (hm : many ≤ 1000000) : ∃ xs : List Nat,
    T.prg.call (n + 1) "_law_draws" [.scr ns, .int at_, .int many] = .ok (.lst (xs.map nm)) ∧ xs.length = many ∧ ∀ x ∈ xs, x < 1000000 := by
  rw [call__law_draws]
  unfold b__law_draws
  have hp : (10 : Int) ^ (18 : Int).toNat = 1000000000000000000 := by decide
  have hp6 : (10 : Int) ^ (6 : Int).toNat = 1000000 := by decide
  have loop : ∀ cell rest seed : Int, 0 ≤ seed → seed < 2147483647 → ∃ (xs : List Nat) (rest' : Int) (l7 l8 l9 l10 : Option D),
      forL (asg (.nm 7)) (exL T.prg.G (T.prg.call n) T.prg.fu l1__law_draws) ((List.range many).map fun (i : Nat) => D.int i) [some (.v (.scr ns)), some (.v (.int at_)), some (.v (.int many)), some (.v (.int cell)), some (.v (.int rest)), some (.v (.int seed)), some (.o []), none, none, none, none] =
        .nx [some (.v (.scr ns)), some (.v (.int at_)), some (.v (.int many)), some (.v (.int cell)), some (.v (.int rest')), some (.v (.int seed)), some (.o (xs.map nm)), l7.map C.v, l8.map C.v, l9.map C.v, l10.map C.v] ∧ xs.length = many ∧ ∀ x ∈ xs, x < 1000000 := by
    intro cell rest seed s0 s1
    let P : Nat → PyI.Env → Prop := fun i τ => ∃ (rest' : Int) (xs : List Nat) (l7 l8 l9 l10 : Option D), τ = [some (.v (.scr ns)), some (.v (.int at_)), some (.v (.int many)), some (.v (.int cell)), some (.v (.int rest')), some (.v (.int seed)), some (.o (xs.map nm)), l7.map C.v, l8.map C.v, l9.map C.v, l10.map C.v] ∧ xs.length = i ∧ ∀ x ∈ xs, x < 1000000
    have go := forL_go (g := asg (.nm 7)) (f := exL T.prg.G (T.prg.call n) T.prg.fu l1__law_draws) ((List.range many).map fun (i : Nat) => D.int i) P
      [some (.v (.scr ns)), some (.v (.int at_)), some (.v (.int many)), some (.v (.int cell)), some (.v (.int rest)), some (.v (.int seed)), some (.o []), none, none, none, none] ⟨rest, [], none, none, none, none, rfl, rfl, by simp⟩ (by
        rintro i d τ hd ⟨rest', xs, l7, l8, l9, l10, rfl, h1, h2⟩
        obtain ⟨hi, rfl⟩ := rg_get hd
        refine ⟨[some (.v (.scr ns)), some (.v (.int at_)), some (.v (.int many)), some (.v (.int cell)), some (.v (.int rest')), some (.v (.int seed)), some (.o (xs.map nm)), some (.v (.int i)), l8.map C.v, l9.map C.v, l10.map C.v], by simp only [e_var, e_int, e_str, e_bl, e_non, e_glob, e_op, e_neg, e_not, e_and, e_or, e_cmp, e_chain, e_ife, e_ix, e_sl, e_tup, e_lst, e_call, e_bi, e_isi, es_nil, es_cons, eo_no, eo_so, eS_seq, eS_rng1, eS_rng2, eS_enum, eS_zip, x_set, x_setT, x_setIx, x_aug, x_app, x_ext, x_exp, x_ret, x_retN, x_ife, x_fr, x_wh, x_brk, x_cont, x_pass, xs_nil, xs_cons, at_nx, at_rt, at_bk, at_ct, at_exc, oke, okbe, x_raise, x_tr, tr_nx, tr_rt, fin_exc, sE_comp2, fin_rt, fin_nx, g_zv, g_zo, g_s, o_z, o_s, st_z, st_s, kp_int, kp_non, kp_bl, kp_str, kp_nil, kp_noO, kp_fz, List.cons_append, sE_str, c_eqS, e_find, sd_s, ltk_find, lik_find, ltk_int, ltk_str, ltk_bl, ltk_non, ltk_glob, ltk_op, ltk_neg, ltk_not, ltk_cmp, ltk_chain, ltk_sl, ltk_tup, ltk_lst, ltk_bi, ltk_isi, ltk_comp, ltk_compIf, ltk_comp2, lik_var, lik_int, lik_str, lik_bl, lik_non, lik_glob, lik_neg, lik_not, lik_cmp, lik_chain, lik_isi, fz_noO, ls_d, fr_j, g_rsl, fr_rsl, fz_c, fr_o, fr_v, fr_n, fr_s, kp_lst, no_0, no_n, no_v, fz_nil, lS1, lS2, sE_i, sE_lst, sE_comp, sE_compIf, sE_opl, sE_sl, sE_list, sE_sorted, sE_var, sE_ix, sE_call, sE_non, sE_blv, sE_tp, lt, li, las, lis, ltS, liS, List.append_nil, List.nil_append, ad_int, sb_int, c_lt, c_le, c_gt, c_ge, c_eq, c_ne, c_is, c_no, isN, bl_bl, in_in, b_len, b_lenT, b_lenS, b_int, b_abs, b_tupL, b_tupT, b_lstT, b_lstL, ixT0, ixT1, ixT2, ixT3, is_n_int, is_n_bool, is_n_str, is_n_tuple, is_n_list, is_b_int, is_b_bool, is_b_str, is_b_tuple, is_b_list, is_i_int, is_i_bool, is_i_str, is_i_tuple, is_i_list, is_s_int, is_s_bool, is_s_str, is_s_tuple, is_s_list, is_t_int, is_t_bool, is_t_str, is_t_tuple, is_t_list, is_l_int, is_l_bool, is_l_str, is_l_tuple, is_l_list, itemsD, wp_s, wp_n, asg1, asgT, asgN, asg0, okb, oko, noxo, List.length_cons, List.length_nil, Nat.reduceAdd, Nat.reduceLT, if_true, if_false, Bool.false_eq_true, Bool.true_eq_false, Bool.not_true, Bool.not_false, decide_true, decide_false, reduceIte], ?_⟩
        have hl : (xs.map nm).length < sizeLine := by rw [List.length_map]; exact small6 (by omega)
        have snoc : ∀ z : Int, 0 ≤ z → z < 1000000 → ∃ ys : List Nat, xs.map nm ++ [.int z] = ys.map nm ∧ ys.length = i + 1 ∧ ∀ x ∈ ys, x < 1000000 := fun z z0 z1 => ⟨xs ++ [z.toNat], by
          rw [List.map_append, List.map_singleton]; show _ = _ ++ [D.int (z.toNat : Int)]; rw [Int.toNat_of_nonneg z0], by rw [List.length_append, h1]; rfl, fun x hx => by
          rcases List.mem_append.mp hx with hx | hx
          · exact h2 x hx
          · rw [List.mem_singleton.mp hx]; omega⟩
        unfold l1__law_draws
        by_cases hd : 0 < rest'
        · obtain ⟨ys, e1, e2, e3⟩ := snoc (rest' % 1000000) (Int.emod_nonneg _ (by decide)) (Int.emod_lt_of_pos _ (by decide))
          refine ⟨[some (.v (.scr ns)), some (.v (.int at_)), some (.v (.int many)), some (.v (.int cell)), some (.v (.int (rest' / 1000000))), some (.v (.int seed)), some (.o (ys.map nm)), some (.v (.int i)), l8.map C.v, l9.map C.v, l10.map C.v], .inl ?_, rest' / 1000000, ys, some (.int i), l8, l9, l10, rfl, e2, e3⟩
          simp only [e_var, e_int, e_str, e_bl, e_non, e_glob, e_op, e_neg, e_not, e_and, e_or, e_cmp, e_chain, e_ife, e_ix, e_sl, e_tup, e_lst, e_call, e_bi, e_isi, es_nil, es_cons, eo_no, eo_so, eS_seq, eS_rng1, eS_rng2, eS_enum, eS_zip, x_set, x_setT, x_setIx, x_aug, x_app, x_ext, x_exp, x_ret, x_retN, x_ife, x_fr, x_wh, x_brk, x_cont, x_pass, xs_nil, xs_cons, at_nx, at_rt, at_bk, at_ct, at_exc, oke, okbe, x_raise, x_tr, tr_nx, tr_rt, fin_exc, sE_comp2, fin_rt, fin_nx, g_zv, g_zo, g_s, o_z, o_s, st_z, st_s, kp_int, kp_non, kp_bl, kp_str, kp_nil, kp_noO, kp_fz, List.cons_append, sE_str, c_eqS, e_find, sd_s, ltk_find, lik_find, ltk_int, ltk_str, ltk_bl, ltk_non, ltk_glob, ltk_op, ltk_neg, ltk_not, ltk_cmp, ltk_chain, ltk_sl, ltk_tup, ltk_lst, ltk_bi, ltk_isi, ltk_comp, ltk_compIf, ltk_comp2, lik_var, lik_int, lik_str, lik_bl, lik_non, lik_glob, lik_neg, lik_not, lik_cmp, lik_chain, lik_isi, fz_noO, ls_d, fr_j, g_rsl, fr_rsl, fz_c, fr_o, fr_v, fr_n, fr_s, kp_lst, no_0, no_n, no_v, fz_nil, lS1, lS2, sE_i, sE_lst, sE_comp, sE_compIf, sE_opl, sE_sl, sE_list, sE_sorted, sE_var, sE_ix, sE_call, sE_non, sE_blv, sE_tp, lt, li, las, lis, ltS, liS, List.append_nil, List.nil_append, ad_int, sb_int, c_lt, c_le, c_gt, c_ge, c_eq, c_ne, c_is, c_no, isN, bl_bl, in_in, b_len, b_lenT, b_lenS, b_int, b_abs, b_tupL, b_tupT, b_lstT, b_lstL, ixT0, ixT1, ixT2, ixT3, is_n_int, is_n_bool, is_n_str, is_n_tuple, is_n_list, is_b_int, is_b_bool, is_b_str, is_b_tuple, is_b_list, is_i_int, is_i_bool, is_i_str, is_i_tuple, is_i_list, is_s_int, is_s_bool, is_s_str, is_s_tuple, is_s_list, is_t_int, is_t_bool, is_t_str, is_t_tuple, is_t_list, is_l_int, is_l_bool, is_l_str, is_l_tuple, is_l_list, itemsD, wp_s, wp_n, asg1, asgT, asgN, asg0, okb, oko, noxo, List.length_cons, List.length_nil, Nat.reduceAdd, Nat.reduceLT, if_true, if_false, Bool.false_eq_true, Bool.true_eq_false, Bool.not_true, Bool.not_false, decide_true, decide_false, reduceIte, pw_int (i := 10) (j := 6) (by decide), hp6, hd, md_int (i := rest') (j := 1000000) (by decide), fd_int (i := rest') (j := 1000000) (by decide), hl, e1]
        · obtain ⟨a, ha⟩ : ∃ a : Int, (seed * 48271 + (at_ : Int) * 69621 + (i : Int) * 40692 + 7) % 2147483647 = a := ⟨_, rfl⟩
          have a0 : 0 ≤ a := by rw [← ha]; exact Int.emod_nonneg _ (by decide)
          have a1 : a < 2147483647 := by rw [← ha]; exact Int.emod_lt_of_pos _ (by decide)
          obtain ⟨b, hb⟩ : ∃ b : Int, (a * a + (i : Int) * 16807 + 3) % 2147483399 = b := ⟨_, rfl⟩
          have b0 : 0 ≤ b := by rw [← hb]; exact Int.emod_nonneg _ (by decide)
          have b1 : b < 2147483399 := by rw [← hb]; exact Int.emod_lt_of_pos _ (by decide)
          obtain ⟨c, hc⟩ : ∃ c : Int, (b * b + a + (at_ : Int)) % 2147483647 = c := ⟨_, rfl⟩
          obtain ⟨ys, e1, e2, e3⟩ := snoc (c / 13 % 1000000) (Int.emod_nonneg _ (by decide)) (Int.emod_lt_of_pos _ (by decide))
          have q1 : mulOk seed 48271 := mulS (by decide)
          have q2 : mulOk (at_ : Int) 69621 := mulS (by decide)
          have q3 : mulOk (i : Int) 40692 := mulS (by decide)
          have q4 : mulOk a a := mulS (by omega)
          have q5 : mulOk (i : Int) 16807 := mulS (by decide)
          have q6 : mulOk b b := mulS (by omega)
          refine ⟨[some (.v (.scr ns)), some (.v (.int at_)), some (.v (.int many)), some (.v (.int cell)), some (.v (.int rest')), some (.v (.int seed)), some (.o (ys.map nm)), some (.v (.int i)), some (.v (.int a)), some (.v (.int b)), some (.v (.int c))], .inl ?_, rest', ys, some (.int i), some (.int a), some (.int b), some (.int c), rfl, e2, e3⟩
          simp only [e_var, e_int, e_str, e_bl, e_non, e_glob, e_op, e_neg, e_not, e_and, e_or, e_cmp, e_chain, e_ife, e_ix, e_sl, e_tup, e_lst, e_call, e_bi, e_isi, es_nil, es_cons, eo_no, eo_so, eS_seq, eS_rng1, eS_rng2, eS_enum, eS_zip, x_set, x_setT, x_setIx, x_aug, x_app, x_ext, x_exp, x_ret, x_retN, x_ife, x_fr, x_wh, x_brk, x_cont, x_pass, xs_nil, xs_cons, at_nx, at_rt, at_bk, at_ct, at_exc, oke, okbe, x_raise, x_tr, tr_nx, tr_rt, fin_exc, sE_comp2, fin_rt, fin_nx, g_zv, g_zo, g_s, o_z, o_s, st_z, st_s, kp_int, kp_non, kp_bl, kp_str, kp_nil, kp_noO, kp_fz, List.cons_append, sE_str, c_eqS, e_find, sd_s, ltk_find, lik_find, ltk_int, ltk_str, ltk_bl, ltk_non, ltk_glob, ltk_op, ltk_neg, ltk_not, ltk_cmp, ltk_chain, ltk_sl, ltk_tup, ltk_lst, ltk_bi, ltk_isi, ltk_comp, ltk_compIf, ltk_comp2, lik_var, lik_int, lik_str, lik_bl, lik_non, lik_glob, lik_neg, lik_not, lik_cmp, lik_chain, lik_isi, fz_noO, ls_d, fr_j, g_rsl, fr_rsl, fz_c, fr_o, fr_v, fr_n, fr_s, kp_lst, no_0, no_n, no_v, fz_nil, lS1, lS2, sE_i, sE_lst, sE_comp, sE_compIf, sE_opl, sE_sl, sE_list, sE_sorted, sE_var, sE_ix, sE_call, sE_non, sE_blv, sE_tp, lt, li, las, lis, ltS, liS, List.append_nil, List.nil_append, ad_int, sb_int, c_lt, c_le, c_gt, c_ge, c_eq, c_ne, c_is, c_no, isN, bl_bl, in_in, b_len, b_lenT, b_lenS, b_int, b_abs, b_tupL, b_tupT, b_lstT, b_lstL, ixT0, ixT1, ixT2, ixT3, is_n_int, is_n_bool, is_n_str, is_n_tuple, is_n_list, is_b_int, is_b_bool, is_b_str, is_b_tuple, is_b_list, is_i_int, is_i_bool, is_i_str, is_i_tuple, is_i_list, is_s_int, is_s_bool, is_s_str, is_s_tuple, is_s_list, is_t_int, is_t_bool, is_t_str, is_t_tuple, is_t_list, is_l_int, is_l_bool, is_l_str, is_l_tuple, is_l_list, itemsD, wp_s, wp_n, asg1, asgT, asgN, asg0, okb, oko, noxo, List.length_cons, List.length_nil, Nat.reduceAdd, Nat.reduceLT, if_true, if_false, Bool.false_eq_true, Bool.true_eq_false, Bool.not_true, Bool.not_false, decide_true, decide_false, reduceIte, hd, ml_int q1, ml_int q2, ml_int q3, md_int (i := seed * 48271 + (at_ : Int) * 69621 + (i : Int) * 40692 + 7) (j := 2147483647) (by decide), ha, ml_int q4, ml_int q5, md_int (i := a * a + (i : Int) * 16807 + 3) (j := 2147483399) (by decide), hb, ml_int q6, md_int (i := b * b + a + (at_ : Int)) (j := 2147483647) (by decide), hc, fd_int (i := c) (j := 13) (by decide), pw_int (i := 10) (j := 6) (by decide), hp6, md_int (i := c / 13) (j := 1000000) (by decide), hl, e1])
    obtain ⟨τ, e, rest', xs, l7, l8, l9, l10, rfl, h1, h2⟩ := go
    exact ⟨xs, rest', l7, l8, l9, l10, e, by rw [h1, rg_len], h2⟩
  have rest : ∀ cell : Int, ∃ xs : List Nat, fin (exL T.prg.G (T.prg.call n) T.prg.fu (.cons (.set 4 (.int 0)) <|
    .cons (.ife (.cmp .ge (.bi .abs (.cons (.var 3) .nil)) (.op .pow (.int 10) (.int 18))) (.cons (.set 4 (.op .sub (.bi .abs (.cons (.var 3) .nil)) (.op .pow (.int 10) (.int 18)))) .nil) (.nil)) <|
    .cons (.set 5 (.op .mod (.bi .int (.cons (.var 3) .nil)) (.int 2147483647))) <|
    .cons (.set 6 (.lst (.nil))) <|
    .cons (.fr (.nm 7) (.rng1 (.var 2)) l1__law_draws) <|
    .cons (.ret (.var 6)) .nil) [some (.v (.scr ns)), some (.v (.int at_)), some (.v (.int many)), some (.v (.int cell)), none, none, none, none, none, none, none]) = .ok (.lst (xs.map nm)) ∧ xs.length = many ∧ ∀ x ∈ xs, x < 1000000 := by
    intro cell
    obtain ⟨A, hA⟩ : ∃ A : Int, biD .abs [.int cell] = .ok (.int A) := ⟨_, rfl⟩
    have hA2 : (if cell < 0 then -cell else cell) = A := by injection hA with h; injection h
    have r0 := rng0 (m := many) (by omega)
    have s0 := Int.emod_nonneg cell (show (2147483647 : Int) ≠ 0 by decide)
    have s1 := Int.emod_lt_of_pos cell (show (0 : Int) < 2147483647 by decide)
    by_cases hc : 1000000000000000000 ≤ A
    · obtain ⟨xs, rest', l7, l8, l9, l10, e, h1, h2⟩ := loop cell (A - 1000000000000000000) (cell % 2147483647) s0 s1
      refine ⟨xs, ?_, h1, h2⟩
      simp only [e_var, e_int, e_str, e_bl, e_non, e_glob, e_op, e_neg, e_not, e_and, e_or, e_cmp, e_chain, e_ife, e_ix, e_sl, e_tup, e_lst, e_call, e_bi, e_isi, es_nil, es_cons, eo_no, eo_so, eS_seq, eS_rng1, eS_rng2, eS_enum, eS_zip, x_set, x_setT, x_setIx, x_aug, x_app, x_ext, x_exp, x_ret, x_retN, x_ife, x_fr, x_wh, x_brk, x_cont, x_pass, xs_nil, xs_cons, at_nx, at_rt, at_bk, at_ct, at_exc, oke, okbe, x_raise, x_tr, tr_nx, tr_rt, fin_exc, sE_comp2, fin_rt, fin_nx, g_zv, g_zo, g_s, o_z, o_s, st_z, st_s, kp_int, kp_non, kp_bl, kp_str, kp_nil, kp_noO, kp_fz, List.cons_append, sE_str, c_eqS, e_find, sd_s, ltk_find, lik_find, ltk_int, ltk_str, ltk_bl, ltk_non, ltk_glob, ltk_op, ltk_neg, ltk_not, ltk_cmp, ltk_chain, ltk_sl, ltk_tup, ltk_lst, ltk_bi, ltk_isi, ltk_comp, ltk_compIf, ltk_comp2, lik_var, lik_int, lik_str, lik_bl, lik_non, lik_glob, lik_neg, lik_not, lik_cmp, lik_chain, lik_isi, fz_noO, ls_d, fr_j, g_rsl, fr_rsl, fz_c, fr_o, fr_v, fr_n, fr_s, kp_lst, no_0, no_n, no_v, fz_nil, lS1, lS2, sE_i, sE_lst, sE_comp, sE_compIf, sE_opl, sE_sl, sE_list, sE_sorted, sE_var, sE_ix, sE_call, sE_non, sE_blv, sE_tp, lt, li, las, lis, ltS, liS, List.append_nil, List.nil_append, ad_int, sb_int, c_lt, c_le, c_gt, c_ge, c_eq, c_ne, c_is, c_no, isN, bl_bl, in_in, b_len, b_lenT, b_lenS, b_int, b_abs, b_tupL, b_tupT, b_lstT, b_lstL, ixT0, ixT1, ixT2, ixT3, is_n_int, is_n_bool, is_n_str, is_n_tuple, is_n_list, is_b_int, is_b_bool, is_b_str, is_b_tuple, is_b_list, is_i_int, is_i_bool, is_i_str, is_i_tuple, is_i_list, is_s_int, is_s_bool, is_s_str, is_s_tuple, is_s_list, is_t_int, is_t_bool, is_t_str, is_t_tuple, is_t_list, is_l_int, is_l_bool, is_l_str, is_l_tuple, is_l_list, itemsD, wp_s, wp_n, asg1, asgT, asgN, asg0, okb, oko, noxo, List.length_cons, List.length_nil, Nat.reduceAdd, Nat.reduceLT, if_true, if_false, Bool.false_eq_true, Bool.true_eq_false, Bool.not_true, Bool.not_false, decide_true, decide_false, reduceIte, hA2, pw_int (i := 10) (j := 18) (by decide), hp, hc, md_int (i := cell) (j := 2147483647) (by decide), r0, e]
    · obtain ⟨xs, rest', l7, l8, l9, l10, e, h1, h2⟩ := loop cell 0 (cell % 2147483647) s0 s1
      refine ⟨xs, ?_, h1, h2⟩
      simp only [e_var, e_int, e_str, e_bl, e_non, e_glob, e_op, e_neg, e_not, e_and, e_or, e_cmp, e_chain, e_ife, e_ix, e_sl, e_tup, e_lst, e_call, e_bi, e_isi, es_nil, es_cons, eo_no, eo_so, eS_seq, eS_rng1, eS_rng2, eS_enum, eS_zip, x_set, x_setT, x_setIx, x_aug, x_app, x_ext, x_exp, x_ret, x_retN, x_ife, x_fr, x_wh, x_brk, x_cont, x_pass, xs_nil, xs_cons, at_nx, at_rt, at_bk, at_ct, at_exc, oke, okbe, x_raise, x_tr, tr_nx, tr_rt, fin_exc, sE_comp2, fin_rt, fin_nx, g_zv, g_zo, g_s, o_z, o_s, st_z, st_s, kp_int, kp_non, kp_bl, kp_str, kp_nil, kp_noO, kp_fz, List.cons_append, sE_str, c_eqS, e_find, sd_s, ltk_find, lik_find, ltk_int, ltk_str, ltk_bl, ltk_non, ltk_glob, ltk_op, ltk_neg, ltk_not, ltk_cmp, ltk_chain, ltk_sl, ltk_tup, ltk_lst, ltk_bi, ltk_isi, ltk_comp, ltk_compIf, ltk_comp2, lik_var, lik_int, lik_str, lik_bl, lik_non, lik_glob, lik_neg, lik_not, lik_cmp, lik_chain, lik_isi, fz_noO, ls_d, fr_j, g_rsl, fr_rsl, fz_c, fr_o, fr_v, fr_n, fr_s, kp_lst, no_0, no_n, no_v, fz_nil, lS1, lS2, sE_i, sE_lst, sE_comp, sE_compIf, sE_opl, sE_sl, sE_list, sE_sorted, sE_var, sE_ix, sE_call, sE_non, sE_blv, sE_tp, lt, li, las, lis, ltS, liS, List.append_nil, List.nil_append, ad_int, sb_int, c_lt, c_le, c_gt, c_ge, c_eq, c_ne, c_is, c_no, isN, bl_bl, in_in, b_len, b_lenT, b_lenS, b_int, b_abs, b_tupL, b_tupT, b_lstT, b_lstL, ixT0, ixT1, ixT2, ixT3, is_n_int, is_n_bool, is_n_str, is_n_tuple, is_n_list, is_b_int, is_b_bool, is_b_str, is_b_tuple, is_b_list, is_i_int, is_i_bool, is_i_str, is_i_tuple, is_i_list, is_s_int, is_s_bool, is_s_str, is_s_tuple, is_s_list, is_t_int, is_t_bool, is_t_str, is_t_tuple, is_t_list, is_l_int, is_l_bool, is_l_str, is_l_tuple, is_l_list, itemsD, wp_s, wp_n, asg1, asgT, asgN, asg0, okb, oko, noxo, List.length_cons, List.length_nil, Nat.reduceAdd, Nat.reduceLT, if_true, if_false, Bool.false_eq_true, Bool.true_eq_false, Bool.not_true, Bool.not_false, decide_true, decide_false, reduceIte, hA2, pw_int (i := 10) (j := 18) (by decide), hp, hc, md_int (i := cell) (j := 2147483647) (by decide), r0, e]
  by_cases h : (at_ : Int) < (ns.length : Int)
  · obtain ⟨a, ha⟩ : ∃ a, ns[at_]? = some a := ⟨ns[at_]'(by omega), List.getElem?_eq_getElem (by omega)⟩
    obtain ⟨xs, e, h1, h2⟩ := rest a
    refine ⟨xs, ?_, h1, h2⟩
    simp only [e_var, e_int, e_str, e_bl, e_non, e_glob, e_op, e_neg, e_not, e_and, e_or, e_cmp, e_chain, e_ife, e_ix, e_sl, e_tup, e_lst, e_call, e_bi, e_isi, es_nil, es_cons, eo_no, eo_so, eS_seq, eS_rng1, eS_rng2, eS_enum, eS_zip, x_set, x_setT, x_setIx, x_aug, x_app, x_ext, x_exp, x_ret, x_retN, x_ife, x_fr, x_wh, x_brk, x_cont, x_pass, xs_nil, xs_cons, at_nx, at_rt, at_bk, at_ct, at_exc, oke, okbe, x_raise, x_tr, tr_nx, tr_rt, fin_exc, sE_comp2, fin_rt, fin_nx, g_zv, g_zo, g_s, o_z, o_s, st_z, st_s, kp_int, kp_non, kp_bl, kp_str, kp_nil, kp_noO, kp_fz, List.cons_append, sE_str, c_eqS, e_find, sd_s, ltk_find, lik_find, ltk_int, ltk_str, ltk_bl, ltk_non, ltk_glob, ltk_op, ltk_neg, ltk_not, ltk_cmp, ltk_chain, ltk_sl, ltk_tup, ltk_lst, ltk_bi, ltk_isi, ltk_comp, ltk_compIf, ltk_comp2, lik_var, lik_int, lik_str, lik_bl, lik_non, lik_glob, lik_neg, lik_not, lik_cmp, lik_chain, lik_isi, fz_noO, ls_d, fr_j, g_rsl, fr_rsl, fz_c, fr_o, fr_v, fr_n, fr_s, kp_lst, no_0, no_n, no_v, fz_nil, lS1, lS2, sE_i, sE_lst, sE_comp, sE_compIf, sE_opl, sE_sl, sE_list, sE_sorted, sE_var, sE_ix, sE_call, sE_non, sE_blv, sE_tp, lt, li, las, lis, ltS, liS, List.append_nil, List.nil_append, ad_int, sb_int, c_lt, c_le, c_gt, c_ge, c_eq, c_ne, c_is, c_no, isN, bl_bl, in_in, b_len, b_lenT, b_lenS, b_int, b_abs, b_tupL, b_tupT, b_lstT, b_lstL, ixT0, ixT1, ixT2, ixT3, is_n_int, is_n_bool, is_n_str, is_n_tuple, is_n_list, is_b_int, is_b_bool, is_b_str, is_b_tuple, is_b_list, is_i_int, is_i_bool, is_i_str, is_i_tuple, is_i_list, is_s_int, is_s_bool, is_s_str, is_s_tuple, is_s_list, is_t_int, is_t_bool, is_t_str, is_t_tuple, is_t_list, is_l_int, is_l_bool, is_l_str, is_l_tuple, is_l_list, itemsD, wp_s, wp_n, asg1, asgT, asgN, asg0, okb, oko, noxo, List.length_cons, List.length_nil, Nat.reduceAdd, Nat.reduceLT, if_true, if_false, Bool.false_eq_true, Bool.true_eq_false, Bool.not_true, Bool.not_false, decide_true, decide_false, reduceIte, h, ix_scr rfl ha]
    simp only [e_var, e_int, e_str, e_bl, e_non, e_glob, e_op, e_neg, e_not, e_and, e_or, e_cmp, e_chain, e_ife, e_ix, e_sl, e_tup, e_lst, e_call, e_bi, e_isi, es_nil, es_cons, eo_no, eo_so, eS_seq, eS_rng1, eS_rng2, eS_enum, eS_zip, x_set, x_setT, x_setIx, x_aug, x_app, x_ext, x_exp, x_ret, x_retN, x_ife, x_fr, x_wh, x_brk, x_cont, x_pass, xs_nil, xs_cons, at_nx, at_rt, at_bk, at_ct, at_exc, oke, okbe, x_raise, x_tr, tr_nx, tr_rt, fin_exc, sE_comp2, fin_rt, fin_nx, g_zv, g_zo, g_s, o_z, o_s, st_z, st_s, kp_int, kp_non, kp_bl, kp_str, kp_nil, kp_noO, kp_fz, List.cons_append, sE_str, c_eqS, e_find, sd_s, ltk_find, lik_find, ltk_int, ltk_str, ltk_bl, ltk_non, ltk_glob, ltk_op, ltk_neg, ltk_not, ltk_cmp, ltk_chain, ltk_sl, ltk_tup, ltk_lst, ltk_bi, ltk_isi, ltk_comp, ltk_compIf, ltk_comp2, lik_var, lik_int, lik_str, lik_bl, lik_non, lik_glob, lik_neg, lik_not, lik_cmp, lik_chain, lik_isi, fz_noO, ls_d, fr_j, g_rsl, fr_rsl, fz_c, fr_o, fr_v, fr_n, fr_s, kp_lst, no_0, no_n, no_v, fz_nil, lS1, lS2, sE_i, sE_lst, sE_comp, sE_compIf, sE_opl, sE_sl, sE_list, sE_sorted, sE_var, sE_ix, sE_call, sE_non, sE_blv, sE_tp, lt, li, las, lis, ltS, liS, List.append_nil, List.nil_append, ad_int, sb_int, c_lt, c_le, c_gt, c_ge, c_eq, c_ne, c_is, c_no, isN, bl_bl, in_in, b_len, b_lenT, b_lenS, b_int, b_abs, b_tupL, b_tupT, b_lstT, b_lstL, ixT0, ixT1, ixT2, ixT3, is_n_int, is_n_bool, is_n_str, is_n_tuple, is_n_list, is_b_int, is_b_bool, is_b_str, is_b_tuple, is_b_list, is_i_int, is_i_bool, is_i_str, is_i_tuple, is_i_list, is_s_int, is_s_bool, is_s_str, is_s_tuple, is_s_list, is_t_int, is_t_bool, is_t_str, is_t_tuple, is_t_list, is_l_int, is_l_bool, is_l_str, is_l_tuple, is_l_list, itemsD, wp_s, wp_n, asg1, asgT, asgN, asg0, okb, oko, noxo, List.length_cons, List.length_nil, Nat.reduceAdd, Nat.reduceLT, if_true, if_false, Bool.false_eq_true, Bool.true_eq_false, Bool.not_true, Bool.not_false, decide_true, decide_false, reduceIte] at e
    exact e
  · obtain ⟨xs, e, h1, h2⟩ := rest 0
    refine ⟨xs, ?_, h1, h2⟩
    simp only [e_var, e_int, e_str, e_bl, e_non, e_glob, e_op, e_neg, e_not, e_and, e_or, e_cmp, e_chain, e_ife, e_ix, e_sl, e_tup, e_lst, e_call, e_bi, e_isi, es_nil, es_cons, eo_no, eo_so, eS_seq, eS_rng1, eS_rng2, eS_enum, eS_zip, x_set, x_setT, x_setIx, x_aug, x_app, x_ext, x_exp, x_ret, x_retN, x_ife, x_fr, x_wh, x_brk, x_cont, x_pass, xs_nil, xs_cons, at_nx, at_rt, at_bk, at_ct, at_exc, oke, okbe, x_raise, x_tr, tr_nx, tr_rt, fin_exc, sE_comp2, fin_rt, fin_nx, g_zv, g_zo, g_s, o_z, o_s, st_z, st_s, kp_int, kp_non, kp_bl, kp_str, kp_nil, kp_noO, kp_fz, List.cons_append, sE_str, c_eqS, e_find, sd_s, ltk_find, lik_find, ltk_int, ltk_str, ltk_bl, ltk_non, ltk_glob, ltk_op, ltk_neg, ltk_not, ltk_cmp, ltk_chain, ltk_sl, ltk_tup, ltk_lst, ltk_bi, ltk_isi, ltk_comp, ltk_compIf, ltk_comp2, lik_var, lik_int, lik_str, lik_bl, lik_non, lik_glob, lik_neg, lik_not, lik_cmp, lik_chain, lik_isi, fz_noO, ls_d, fr_j, g_rsl, fr_rsl, fz_c, fr_o, fr_v, fr_n, fr_s, kp_lst, no_0, no_n, no_v, fz_nil, lS1, lS2, sE_i, sE_lst, sE_comp, sE_compIf, sE_opl, sE_sl, sE_list, sE_sorted, sE_var, sE_ix, sE_call, sE_non, sE_blv, sE_tp, lt, li, las, lis, ltS, liS, List.append_nil, List.nil_append, ad_int, sb_int, c_lt, c_le, c_gt, c_ge, c_eq, c_ne, c_is, c_no, isN, bl_bl, in_in, b_len, b_lenT, b_lenS, b_int, b_abs, b_tupL, b_tupT, b_lstT, b_lstL, ixT0, ixT1, ixT2, ixT3, is_n_int, is_n_bool, is_n_str, is_n_tuple, is_n_list, is_b_int, is_b_bool, is_b_str, is_b_tuple, is_b_list, is_i_int, is_i_bool, is_i_str, is_i_tuple, is_i_list, is_s_int, is_s_bool, is_s_str, is_s_tuple, is_s_list, is_t_int, is_t_bool, is_t_str, is_t_tuple, is_t_list, is_l_int, is_l_bool, is_l_str, is_l_tuple, is_l_list, itemsD, wp_s, wp_n, asg1, asgT, asgN, asg0, okb, oko, noxo, List.length_cons, List.length_nil, Nat.reduceAdd, Nat.reduceLT, if_true, if_false, Bool.false_eq_true, Bool.true_eq_false, Bool.not_true, Bool.not_false, decide_true, decide_false, reduceIte, h]
    simp only [e_var, e_int, e_str, e_bl, e_non, e_glob, e_op, e_neg, e_not, e_and, e_or, e_cmp, e_chain, e_ife, e_ix, e_sl, e_tup, e_lst, e_call, e_bi, e_isi, es_nil, es_cons, eo_no, eo_so, eS_seq, eS_rng1, eS_rng2, eS_enum, eS_zip, x_set, x_setT, x_setIx, x_aug, x_app, x_ext, x_exp, x_ret, x_retN, x_ife, x_fr, x_wh, x_brk, x_cont, x_pass, xs_nil, xs_cons, at_nx, at_rt, at_bk, at_ct, at_exc, oke, okbe, x_raise, x_tr, tr_nx, tr_rt, fin_exc, sE_comp2, fin_rt, fin_nx, g_zv, g_zo, g_s, o_z, o_s, st_z, st_s, kp_int, kp_non, kp_bl, kp_str, kp_nil, kp_noO, kp_fz, List.cons_append, sE_str, c_eqS, e_find, sd_s, ltk_find, lik_find, ltk_int, ltk_str, ltk_bl, ltk_non, ltk_glob, ltk_op, ltk_neg, ltk_not, ltk_cmp, ltk_chain, ltk_sl, ltk_tup, ltk_lst, ltk_bi, ltk_isi, ltk_comp, ltk_compIf, ltk_comp2, lik_var, lik_int, lik_str, lik_bl, lik_non, lik_glob, lik_neg, lik_not, lik_cmp, lik_chain, lik_isi, fz_noO, ls_d, fr_j, g_rsl, fr_rsl, fz_c, fr_o, fr_v, fr_n, fr_s, kp_lst, no_0, no_n, no_v, fz_nil, lS1, lS2, sE_i, sE_lst, sE_comp, sE_compIf, sE_opl, sE_sl, sE_list, sE_sorted, sE_var, sE_ix, sE_call, sE_non, sE_blv, sE_tp, lt, li, las, lis, ltS, liS, List.append_nil, List.nil_append, ad_int, sb_int, c_lt, c_le, c_gt, c_ge, c_eq, c_ne, c_is, c_no, isN, bl_bl, in_in, b_len, b_lenT, b_lenS, b_int, b_abs, b_tupL, b_tupT, b_lstT, b_lstL, ixT0, ixT1, ixT2, ixT3, is_n_int, is_n_bool, is_n_str, is_n_tuple, is_n_list, is_b_int, is_b_bool, is_b_str, is_b_tuple, is_b_list, is_i_int, is_i_bool, is_i_str, is_i_tuple, is_i_list, is_s_int, is_s_bool, is_s_str, is_s_tuple, is_s_list, is_t_int, is_t_bool, is_t_str, is_t_tuple, is_t_list, is_l_int, is_l_bool, is_l_str, is_l_tuple, is_l_list, itemsD, wp_s, wp_n, asg1, asgT, asgN, asg0, okb, oko, noxo, List.length_cons, List.length_nil, Nat.reduceAdd, Nat.reduceLT, if_true, if_false, Bool.false_eq_true, Bool.true_eq_false, Bool.not_true, Bool.not_false, decide_true, decide_false, reduceIte] at e
    exact e
/-! ### data alike -/
inductive Sd : Nat → D → Prop
  | int (n : Nat) (i : Int) : Sd n (.int i)
  | bl (n : Nat) (b : Bool) : Sd n (.bl b)
  | non (n : Nat) : Sd n .non
  | str (n : Nat) (s : Str) : Sd n (.str s)
  | tup (n : Nat) (xs : List D) (hl : xs.length ≤ 1000000) (h : ∀ x ∈ xs, Sd n x) : Sd (n + 1) (.tup xs)
  | lst (n : Nat) (xs : List D) (hl : xs.length ≤ 1000000) (h : ∀ x ∈ xs, Sd n x) : Sd (n + 1) (.lst xs)
theorem eq_bl (b : Bool) : cmD .eq (.bl b) (.bl b) = .ok (.bl true) := by cases b <;> rfl
theorem eq_str (s : Str) : cmD .eq (.str s) (.str s) = .ok (.bl true) := by
  show Res.ok (D.bl (decide (s = s))) = _
  rw [decide_eq_true rfl]
theorem int_run (n : Nat) (d : D) : T.prg.call (n + 1) "_law_integer" [d] = .ok (.bl (match d with | .int _ => true | _ => false)) := by
  rw [call__law_integer]
  unfold b__law_integer
  cases d <;> simp only [e_var, e_int, e_str, e_bl, e_non, e_glob, e_op, e_neg, e_not, e_and, e_or, e_cmp, e_chain, e_ife, e_ix, e_sl, e_tup, e_lst, e_call, e_bi, e_isi, es_nil, es_cons, eo_no, eo_so, eS_seq, eS_rng1, eS_rng2, eS_enum, eS_zip, x_set, x_setT, x_setIx, x_aug, x_app, x_ext, x_exp, x_ret, x_retN, x_ife, x_fr, x_wh, x_brk, x_cont, x_pass, xs_nil, xs_cons, at_nx, at_rt, at_bk, at_ct, at_exc, oke, okbe, x_raise, x_tr, tr_nx, tr_rt, fin_exc, sE_comp2, fin_rt, fin_nx, g_zv, g_zo, g_s, o_z, o_s, st_z, st_s, kp_int, kp_non, kp_bl, kp_str, kp_nil, kp_noO, kp_fz, List.cons_append, sE_str, c_eqS, e_find, sd_s, ltk_find, lik_find, ltk_int, ltk_str, ltk_bl, ltk_non, ltk_glob, ltk_op, ltk_neg, ltk_not, ltk_cmp, ltk_chain, ltk_sl, ltk_tup, ltk_lst, ltk_bi, ltk_isi, ltk_comp, ltk_compIf, ltk_comp2, lik_var, lik_int, lik_str, lik_bl, lik_non, lik_glob, lik_neg, lik_not, lik_cmp, lik_chain, lik_isi, fz_noO, ls_d, fr_j, g_rsl, fr_rsl, fz_c, fr_o, fr_v, fr_n, fr_s, kp_lst, no_0, no_n, no_v, fz_nil, lS1, lS2, sE_i, sE_lst, sE_comp, sE_compIf, sE_opl, sE_sl, sE_list, sE_sorted, sE_var, sE_ix, sE_call, sE_non, sE_blv, sE_tp, lt, li, las, lis, ltS, liS, List.append_nil, List.nil_append, ad_int, sb_int, c_lt, c_le, c_gt, c_ge, c_eq, c_ne, c_is, c_no, isN, bl_bl, in_in, b_len, b_lenT, b_lenS, b_int, b_abs, b_tupL, b_tupT, b_lstT, b_lstL, ixT0, ixT1, ixT2, ixT3, is_n_int, is_n_bool, is_n_str, is_n_tuple, is_n_list, is_b_int, is_b_bool, is_b_str, is_b_tuple, is_b_list, is_i_int, is_i_bool, is_i_str, is_i_tuple, is_i_list, is_s_int, is_s_bool, is_s_str, is_s_tuple, is_s_list, is_t_int, is_t_bool, is_t_str, is_t_tuple, is_t_list, is_l_int, is_l_bool, is_l_str, is_l_tuple, is_l_list, itemsD, wp_s, wp_n, asg1, asgT, asgN, asg0, okb, oko, noxo, List.length_cons, List.length_nil, Nat.reduceAdd, Nat.reduceLT, if_true, if_false, Bool.false_eq_true, Bool.true_eq_false, Bool.not_true, Bool.not_false, decide_true, decide_false, reduceIte] <;> rfl
theorem bls_true : ∀ m : Nat, D.bls (List.replicate m (.bl true)) = some (List.replicate m true)
  | 0 => rfl
  | m + 1 => by
    rw [List.replicate_succ, List.replicate_succ]
    show (D.bls (List.replicate m (.bl true))).map (true :: ·) = _
    rw [bls_true m]
    rfl
theorem all_true (m : Nat) : biD .all [.lst (List.replicate m (.bl true))] = .ok (.bl true) := by
  show (match D.bls (List.replicate m (.bl true)) with
    | some bs => Res.ok (D.bl (bs.all id))
    | _ => .bad) = _
  rw [bls_true]
  simp
theorem same_run : ∀ (n : Nat) (d : D), Sd n d → ∀ m, T.prg.call (n + m + 2) "_law_same" [d, d] = .ok (.bl true) := by
  intro n d h
  induction h with
  | int n i =>
    intro m
    have q : T.prg.call (n + m + 1) "_law_integer" [.int i] = _ := int_run (n + m) (.int i)
    rw [call__law_same]
    unfold b__law_same
    simp only [e_var, e_int, e_str, e_bl, e_non, e_glob, e_op, e_neg, e_not, e_and, e_or, e_cmp, e_chain, e_ife, e_ix, e_sl, e_tup, e_lst, e_call, e_bi, e_isi, es_nil, es_cons, eo_no, eo_so, eS_seq, eS_rng1, eS_rng2, eS_enum, eS_zip, x_set, x_setT, x_setIx, x_aug, x_app, x_ext, x_exp, x_ret, x_retN, x_ife, x_fr, x_wh, x_brk, x_cont, x_pass, xs_nil, xs_cons, at_nx, at_rt, at_bk, at_ct, at_exc, oke, okbe, x_raise, x_tr, tr_nx, tr_rt, fin_exc, sE_comp2, fin_rt, fin_nx, g_zv, g_zo, g_s, o_z, o_s, st_z, st_s, kp_int, kp_non, kp_bl, kp_str, kp_nil, kp_noO, kp_fz, List.cons_append, sE_str, c_eqS, e_find, sd_s, ltk_find, lik_find, ltk_int, ltk_str, ltk_bl, ltk_non, ltk_glob, ltk_op, ltk_neg, ltk_not, ltk_cmp, ltk_chain, ltk_sl, ltk_tup, ltk_lst, ltk_bi, ltk_isi, ltk_comp, ltk_compIf, ltk_comp2, lik_var, lik_int, lik_str, lik_bl, lik_non, lik_glob, lik_neg, lik_not, lik_cmp, lik_chain, lik_isi, fz_noO, ls_d, fr_j, g_rsl, fr_rsl, fz_c, fr_o, fr_v, fr_n, fr_s, kp_lst, no_0, no_n, no_v, fz_nil, lS1, lS2, sE_i, sE_lst, sE_comp, sE_compIf, sE_opl, sE_sl, sE_list, sE_sorted, sE_var, sE_ix, sE_call, sE_non, sE_blv, sE_tp, lt, li, las, lis, ltS, liS, List.append_nil, List.nil_append, ad_int, sb_int, c_lt, c_le, c_gt, c_ge, c_eq, c_ne, c_is, c_no, isN, bl_bl, in_in, b_len, b_lenT, b_lenS, b_int, b_abs, b_tupL, b_tupT, b_lstT, b_lstL, ixT0, ixT1, ixT2, ixT3, is_n_int, is_n_bool, is_n_str, is_n_tuple, is_n_list, is_b_int, is_b_bool, is_b_str, is_b_tuple, is_b_list, is_i_int, is_i_bool, is_i_str, is_i_tuple, is_i_list, is_s_int, is_s_bool, is_s_str, is_s_tuple, is_s_list, is_t_int, is_t_bool, is_t_str, is_t_tuple, is_t_list, is_l_int, is_l_bool, is_l_str, is_l_tuple, is_l_list, itemsD, wp_s, wp_n, asg1, asgT, asgN, asg0, okb, oko, noxo, List.length_cons, List.length_nil, Nat.reduceAdd, Nat.reduceLT, if_true, if_false, Bool.false_eq_true, Bool.true_eq_false, Bool.not_true, Bool.not_false, decide_true, decide_false, reduceIte, q]
  | bl n b =>
    intro m
    rw [call__law_same]
    unfold b__law_same
    simp only [e_var, e_int, e_str, e_bl, e_non, e_glob, e_op, e_neg, e_not, e_and, e_or, e_cmp, e_chain, e_ife, e_ix, e_sl, e_tup, e_lst, e_call, e_bi, e_isi, es_nil, es_cons, eo_no, eo_so, eS_seq, eS_rng1, eS_rng2, eS_enum, eS_zip, x_set, x_setT, x_setIx, x_aug, x_app, x_ext, x_exp, x_ret, x_retN, x_ife, x_fr, x_wh, x_brk, x_cont, x_pass, xs_nil, xs_cons, at_nx, at_rt, at_bk, at_ct, at_exc, oke, okbe, x_raise, x_tr, tr_nx, tr_rt, fin_exc, sE_comp2, fin_rt, fin_nx, g_zv, g_zo, g_s, o_z, o_s, st_z, st_s, kp_int, kp_non, kp_bl, kp_str, kp_nil, kp_noO, kp_fz, List.cons_append, sE_str, c_eqS, e_find, sd_s, ltk_find, lik_find, ltk_int, ltk_str, ltk_bl, ltk_non, ltk_glob, ltk_op, ltk_neg, ltk_not, ltk_cmp, ltk_chain, ltk_sl, ltk_tup, ltk_lst, ltk_bi, ltk_isi, ltk_comp, ltk_compIf, ltk_comp2, lik_var, lik_int, lik_str, lik_bl, lik_non, lik_glob, lik_neg, lik_not, lik_cmp, lik_chain, lik_isi, fz_noO, ls_d, fr_j, g_rsl, fr_rsl, fz_c, fr_o, fr_v, fr_n, fr_s, kp_lst, no_0, no_n, no_v, fz_nil, lS1, lS2, sE_i, sE_lst, sE_comp, sE_compIf, sE_opl, sE_sl, sE_list, sE_sorted, sE_var, sE_ix, sE_call, sE_non, sE_blv, sE_tp, lt, li, las, lis, ltS, liS, List.append_nil, List.nil_append, ad_int, sb_int, c_lt, c_le, c_gt, c_ge, c_eq, c_ne, c_is, c_no, isN, bl_bl, in_in, b_len, b_lenT, b_lenS, b_int, b_abs, b_tupL, b_tupT, b_lstT, b_lstL, ixT0, ixT1, ixT2, ixT3, is_n_int, is_n_bool, is_n_str, is_n_tuple, is_n_list, is_b_int, is_b_bool, is_b_str, is_b_tuple, is_b_list, is_i_int, is_i_bool, is_i_str, is_i_tuple, is_i_list, is_s_int, is_s_bool, is_s_str, is_s_tuple, is_s_list, is_t_int, is_t_bool, is_t_str, is_t_tuple, is_t_list, is_l_int, is_l_bool, is_l_str, is_l_tuple, is_l_list, itemsD, wp_s, wp_n, asg1, asgT, asgN, asg0, okb, oko, noxo, List.length_cons, List.length_nil, Nat.reduceAdd, Nat.reduceLT, if_true, if_false, Bool.false_eq_true, Bool.true_eq_false, Bool.not_true, Bool.not_false, decide_true, decide_false, reduceIte, eq_bl]
  | non n =>
    intro m
    rw [call__law_same]
    unfold b__law_same
    simp only [e_var, e_int, e_str, e_bl, e_non, e_glob, e_op, e_neg, e_not, e_and, e_or, e_cmp, e_chain, e_ife, e_ix, e_sl, e_tup, e_lst, e_call, e_bi, e_isi, es_nil, es_cons, eo_no, eo_so, eS_seq, eS_rng1, eS_rng2, eS_enum, eS_zip, x_set, x_setT, x_setIx, x_aug, x_app, x_ext, x_exp, x_ret, x_retN, x_ife, x_fr, x_wh, x_brk, x_cont, x_pass, xs_nil, xs_cons, at_nx, at_rt, at_bk, at_ct, at_exc, oke, okbe, x_raise, x_tr, tr_nx, tr_rt, fin_exc, sE_comp2, fin_rt, fin_nx, g_zv, g_zo, g_s, o_z, o_s, st_z, st_s, kp_int, kp_non, kp_bl, kp_str, kp_nil, kp_noO, kp_fz, List.cons_append, sE_str, c_eqS, e_find, sd_s, ltk_find, lik_find, ltk_int, ltk_str, ltk_bl, ltk_non, ltk_glob, ltk_op, ltk_neg, ltk_not, ltk_cmp, ltk_chain, ltk_sl, ltk_tup, ltk_lst, ltk_bi, ltk_isi, ltk_comp, ltk_compIf, ltk_comp2, lik_var, lik_int, lik_str, lik_bl, lik_non, lik_glob, lik_neg, lik_not, lik_cmp, lik_chain, lik_isi, fz_noO, ls_d, fr_j, g_rsl, fr_rsl, fz_c, fr_o, fr_v, fr_n, fr_s, kp_lst, no_0, no_n, no_v, fz_nil, lS1, lS2, sE_i, sE_lst, sE_comp, sE_compIf, sE_opl, sE_sl, sE_list, sE_sorted, sE_var, sE_ix, sE_call, sE_non, sE_blv, sE_tp, lt, li, las, lis, ltS, liS, List.append_nil, List.nil_append, ad_int, sb_int, c_lt, c_le, c_gt, c_ge, c_eq, c_ne, c_is, c_no, isN, bl_bl, in_in, b_len, b_lenT, b_lenS, b_int, b_abs, b_tupL, b_tupT, b_lstT, b_lstL, ixT0, ixT1, ixT2, ixT3, is_n_int, is_n_bool, is_n_str, is_n_tuple, is_n_list, is_b_int, is_b_bool, is_b_str, is_b_tuple, is_b_list, is_i_int, is_i_bool, is_i_str, is_i_tuple, is_i_list, is_s_int, is_s_bool, is_s_str, is_s_tuple, is_s_list, is_t_int, is_t_bool, is_t_str, is_t_tuple, is_t_list, is_l_int, is_l_bool, is_l_str, is_l_tuple, is_l_list, itemsD, wp_s, wp_n, asg1, asgT, asgN, asg0, okb, oko, noxo, List.length_cons, List.length_nil, Nat.reduceAdd, Nat.reduceLT, if_true, if_false, Bool.false_eq_true, Bool.true_eq_false, Bool.not_true, Bool.not_false, decide_true, decide_false, reduceIte]
  | str n s =>
    intro m
    rw [call__law_same]
    unfold b__law_same
    simp only [e_var, e_int, e_str, e_bl, e_non, e_glob, e_op, e_neg, e_not, e_and, e_or, e_cmp, e_chain, e_ife, e_ix, e_sl, e_tup, e_lst, e_call, e_bi, e_isi, es_nil, es_cons, eo_no, eo_so, eS_seq, eS_rng1, eS_rng2, eS_enum, eS_zip, x_set, x_setT, x_setIx, x_aug, x_app, x_ext, x_exp, x_ret, x_retN, x_ife, x_fr, x_wh, x_brk, x_cont, x_pass, xs_nil, xs_cons, at_nx, at_rt, at_bk, at_ct, at_exc, oke, okbe, x_raise, x_tr, tr_nx, tr_rt, fin_exc, sE_comp2, fin_rt, fin_nx, g_zv, g_zo, g_s, o_z, o_s, st_z, st_s, kp_int, kp_non, kp_bl, kp_str, kp_nil, kp_noO, kp_fz, List.cons_append, sE_str, c_eqS, e_find, sd_s, ltk_find, lik_find, ltk_int, ltk_str, ltk_bl, ltk_non, ltk_glob, ltk_op, ltk_neg, ltk_not, ltk_cmp, ltk_chain, ltk_sl, ltk_tup, ltk_lst, ltk_bi, ltk_isi, ltk_comp, ltk_compIf, ltk_comp2, lik_var, lik_int, lik_str, lik_bl, lik_non, lik_glob, lik_neg, lik_not, lik_cmp, lik_chain, lik_isi, fz_noO, ls_d, fr_j, g_rsl, fr_rsl, fz_c, fr_o, fr_v, fr_n, fr_s, kp_lst, no_0, no_n, no_v, fz_nil, lS1, lS2, sE_i, sE_lst, sE_comp, sE_compIf, sE_opl, sE_sl, sE_list, sE_sorted, sE_var, sE_ix, sE_call, sE_non, sE_blv, sE_tp, lt, li, las, lis, ltS, liS, List.append_nil, List.nil_append, ad_int, sb_int, c_lt, c_le, c_gt, c_ge, c_eq, c_ne, c_is, c_no, isN, bl_bl, in_in, b_len, b_lenT, b_lenS, b_int, b_abs, b_tupL, b_tupT, b_lstT, b_lstL, ixT0, ixT1, ixT2, ixT3, is_n_int, is_n_bool, is_n_str, is_n_tuple, is_n_list, is_b_int, is_b_bool, is_b_str, is_b_tuple, is_b_list, is_i_int, is_i_bool, is_i_str, is_i_tuple, is_i_list, is_s_int, is_s_bool, is_s_str, is_s_tuple, is_s_list, is_t_int, is_t_bool, is_t_str, is_t_tuple, is_t_list, is_l_int, is_l_bool, is_l_str, is_l_tuple, is_l_list, itemsD, wp_s, wp_n, asg1, asgT, asgN, asg0, okb, oko, noxo, List.length_cons, List.length_nil, Nat.reduceAdd, Nat.reduceLT, if_true, if_false, Bool.false_eq_true, Bool.true_eq_false, Bool.not_true, Bool.not_false, decide_true, decide_false, reduceIte, eq_str]
  | tup n xs hl h ih =>
    intro m
    rw [call__law_same]
    unfold b__law_same
    have hne : decide ((xs.length : Int) ≠ (xs.length : Int)) = false := by simp
    have cp := comp_rng (G := T.prg.G) (Φ := T.prg.call (n + 1 + m + 1)) (σ := [some (.v (.tup xs)), some (.v (.tup xs)), none]) (elt := .call "_law_same" (.cons (.ix (.var 0) (.var 2)) (.cons (.ix (.var 1) (.var 2)) .nil))) (tg := .nm 2) (src := .rng1 (.bi .len (.cons (.var 1) .nil))) (own := [2]) (m := xs.length) (q := fun j => .int j)
      (by simp only [e_var, e_int, e_str, e_bl, e_non, e_glob, e_op, e_neg, e_not, e_and, e_or, e_cmp, e_chain, e_ife, e_ix, e_sl, e_tup, e_lst, e_call, e_bi, e_isi, es_nil, es_cons, eo_no, eo_so, eS_seq, eS_rng1, eS_rng2, eS_enum, eS_zip, x_set, x_setT, x_setIx, x_aug, x_app, x_ext, x_exp, x_ret, x_retN, x_ife, x_fr, x_wh, x_brk, x_cont, x_pass, xs_nil, xs_cons, at_nx, at_rt, at_bk, at_ct, at_exc, oke, okbe, x_raise, x_tr, tr_nx, tr_rt, fin_exc, sE_comp2, fin_rt, fin_nx, g_zv, g_zo, g_s, o_z, o_s, st_z, st_s, kp_int, kp_non, kp_bl, kp_str, kp_nil, kp_noO, kp_fz, List.cons_append, sE_str, c_eqS, e_find, sd_s, ltk_find, lik_find, ltk_int, ltk_str, ltk_bl, ltk_non, ltk_glob, ltk_op, ltk_neg, ltk_not, ltk_cmp, ltk_chain, ltk_sl, ltk_tup, ltk_lst, ltk_bi, ltk_isi, ltk_comp, ltk_compIf, ltk_comp2, lik_var, lik_int, lik_str, lik_bl, lik_non, lik_glob, lik_neg, lik_not, lik_cmp, lik_chain, lik_isi, fz_noO, ls_d, fr_j, g_rsl, fr_rsl, fz_c, fr_o, fr_v, fr_n, fr_s, kp_lst, no_0, no_n, no_v, fz_nil, lS1, lS2, sE_i, sE_lst, sE_comp, sE_compIf, sE_opl, sE_sl, sE_list, sE_sorted, sE_var, sE_ix, sE_call, sE_non, sE_blv, sE_tp, lt, li, las, lis, ltS, liS, List.append_nil, List.nil_append, ad_int, sb_int, c_lt, c_le, c_gt, c_ge, c_eq, c_ne, c_is, c_no, isN, bl_bl, in_in, b_len, b_lenT, b_lenS, b_int, b_abs, b_tupL, b_tupT, b_lstT, b_lstL, ixT0, ixT1, ixT2, ixT3, is_n_int, is_n_bool, is_n_str, is_n_tuple, is_n_list, is_b_int, is_b_bool, is_b_str, is_b_tuple, is_b_list, is_i_int, is_i_bool, is_i_str, is_i_tuple, is_i_list, is_s_int, is_s_bool, is_s_str, is_s_tuple, is_s_list, is_t_int, is_t_bool, is_t_str, is_t_tuple, is_t_list, is_l_int, is_l_bool, is_l_str, is_l_tuple, is_l_list, itemsD, wp_s, wp_n, asg1, asgT, asgN, asg0, okb, oko, noxo, List.length_cons, List.length_nil, Nat.reduceAdd, Nat.reduceLT, if_true, if_false, Bool.false_eq_true, Bool.true_eq_false, Bool.not_true, Bool.not_false, decide_true, decide_false, reduceIte, rng0 (m := xs.length) (by omega)]) (fun _ => .bl true) (fun i hi => ⟨[some (.v (.tup xs)), some (.v (.tup xs)), some (.v (.int i))], by simp only [e_var, e_int, e_str, e_bl, e_non, e_glob, e_op, e_neg, e_not, e_and, e_or, e_cmp, e_chain, e_ife, e_ix, e_sl, e_tup, e_lst, e_call, e_bi, e_isi, es_nil, es_cons, eo_no, eo_so, eS_seq, eS_rng1, eS_rng2, eS_enum, eS_zip, x_set, x_setT, x_setIx, x_aug, x_app, x_ext, x_exp, x_ret, x_retN, x_ife, x_fr, x_wh, x_brk, x_cont, x_pass, xs_nil, xs_cons, at_nx, at_rt, at_bk, at_ct, at_exc, oke, okbe, x_raise, x_tr, tr_nx, tr_rt, fin_exc, sE_comp2, fin_rt, fin_nx, g_zv, g_zo, g_s, o_z, o_s, st_z, st_s, kp_int, kp_non, kp_bl, kp_str, kp_nil, kp_noO, kp_fz, List.cons_append, sE_str, c_eqS, e_find, sd_s, ltk_find, lik_find, ltk_int, ltk_str, ltk_bl, ltk_non, ltk_glob, ltk_op, ltk_neg, ltk_not, ltk_cmp, ltk_chain, ltk_sl, ltk_tup, ltk_lst, ltk_bi, ltk_isi, ltk_comp, ltk_compIf, ltk_comp2, lik_var, lik_int, lik_str, lik_bl, lik_non, lik_glob, lik_neg, lik_not, lik_cmp, lik_chain, lik_isi, fz_noO, ls_d, fr_j, g_rsl, fr_rsl, fz_c, fr_o, fr_v, fr_n, fr_s, kp_lst, no_0, no_n, no_v, fz_nil, lS1, lS2, sE_i, sE_lst, sE_comp, sE_compIf, sE_opl, sE_sl, sE_list, sE_sorted, sE_var, sE_ix, sE_call, sE_non, sE_blv, sE_tp, lt, li, las, lis, ltS, liS, List.append_nil, List.nil_append, ad_int, sb_int, c_lt, c_le, c_gt, c_ge, c_eq, c_ne, c_is, c_no, isN, bl_bl, in_in, b_len, b_lenT, b_lenS, b_int, b_abs, b_tupL, b_tupT, b_lstT, b_lstL, ixT0, ixT1, ixT2, ixT3, is_n_int, is_n_bool, is_n_str, is_n_tuple, is_n_list, is_b_int, is_b_bool, is_b_str, is_b_tuple, is_b_list, is_i_int, is_i_bool, is_i_str, is_i_tuple, is_i_list, is_s_int, is_s_bool, is_s_str, is_s_tuple, is_s_list, is_t_int, is_t_bool, is_t_str, is_t_tuple, is_t_list, is_l_int, is_l_bool, is_l_str, is_l_tuple, is_l_list, itemsD, wp_s, wp_n, asg1, asgT, asgN, asg0, okb, oko, noxo, List.length_cons, List.length_nil, Nat.reduceAdd, Nat.reduceLT, if_true, if_false, Bool.false_eq_true, Bool.true_eq_false, Bool.not_true, Bool.not_false, decide_true, decide_false, reduceIte], by
        have ix := ix_tup (xs := xs) (i := (i : Int)) (n := i) rfl (List.getElem?_eq_getElem hi)
        have q := ih xs[i] (List.getElem_mem hi) m
        have e : n + m + 2 = n + 1 + m + 1 := by omega
        rw [e] at q
        simp only [e_var, e_int, e_str, e_bl, e_non, e_glob, e_op, e_neg, e_not, e_and, e_or, e_cmp, e_chain, e_ife, e_ix, e_sl, e_tup, e_lst, e_call, e_bi, e_isi, es_nil, es_cons, eo_no, eo_so, eS_seq, eS_rng1, eS_rng2, eS_enum, eS_zip, x_set, x_setT, x_setIx, x_aug, x_app, x_ext, x_exp, x_ret, x_retN, x_ife, x_fr, x_wh, x_brk, x_cont, x_pass, xs_nil, xs_cons, at_nx, at_rt, at_bk, at_ct, at_exc, oke, okbe, x_raise, x_tr, tr_nx, tr_rt, fin_exc, sE_comp2, fin_rt, fin_nx, g_zv, g_zo, g_s, o_z, o_s, st_z, st_s, kp_int, kp_non, kp_bl, kp_str, kp_nil, kp_noO, kp_fz, List.cons_append, sE_str, c_eqS, e_find, sd_s, ltk_find, lik_find, ltk_int, ltk_str, ltk_bl, ltk_non, ltk_glob, ltk_op, ltk_neg, ltk_not, ltk_cmp, ltk_chain, ltk_sl, ltk_tup, ltk_lst, ltk_bi, ltk_isi, ltk_comp, ltk_compIf, ltk_comp2, lik_var, lik_int, lik_str, lik_bl, lik_non, lik_glob, lik_neg, lik_not, lik_cmp, lik_chain, lik_isi, fz_noO, ls_d, fr_j, g_rsl, fr_rsl, fz_c, fr_o, fr_v, fr_n, fr_s, kp_lst, no_0, no_n, no_v, fz_nil, lS1, lS2, sE_i, sE_lst, sE_comp, sE_compIf, sE_opl, sE_sl, sE_list, sE_sorted, sE_var, sE_ix, sE_call, sE_non, sE_blv, sE_tp, lt, li, las, lis, ltS, liS, List.append_nil, List.nil_append, ad_int, sb_int, c_lt, c_le, c_gt, c_ge, c_eq, c_ne, c_is, c_no, isN, bl_bl, in_in, b_len, b_lenT, b_lenS, b_int, b_abs, b_tupL, b_tupT, b_lstT, b_lstL, ixT0, ixT1, ixT2, ixT3, is_n_int, is_n_bool, is_n_str, is_n_tuple, is_n_list, is_b_int, is_b_bool, is_b_str, is_b_tuple, is_b_list, is_i_int, is_i_bool, is_i_str, is_i_tuple, is_i_list, is_s_int, is_s_bool, is_s_str, is_s_tuple, is_s_list, is_t_int, is_t_bool, is_t_str, is_t_tuple, is_t_list, is_l_int, is_l_bool, is_l_str, is_l_tuple, is_l_list, itemsD, wp_s, wp_n, asg1, asgT, asgN, asg0, okb, oko, noxo, List.length_cons, List.length_nil, Nat.reduceAdd, Nat.reduceLT, if_true, if_false, Bool.false_eq_true, Bool.true_eq_false, Bool.not_true, Bool.not_false, decide_true, decide_false, reduceIte, ix, q]⟩) (Nat.le_of_lt (small6 hl))
    have ec : (List.range xs.length).map (fun _ => D.bl true) = List.replicate xs.length (.bl true) := by rw [List.map_const', List.length_range]
    rw [ec] at cp
    simp only [e_var, e_int, e_str, e_bl, e_non, e_glob, e_op, e_neg, e_not, e_and, e_or, e_cmp, e_chain, e_ife, e_ix, e_sl, e_tup, e_lst, e_call, e_bi, e_isi, es_nil, es_cons, eo_no, eo_so, eS_seq, eS_rng1, eS_rng2, eS_enum, eS_zip, x_set, x_setT, x_setIx, x_aug, x_app, x_ext, x_exp, x_ret, x_retN, x_ife, x_fr, x_wh, x_brk, x_cont, x_pass, xs_nil, xs_cons, at_nx, at_rt, at_bk, at_ct, at_exc, oke, okbe, x_raise, x_tr, tr_nx, tr_rt, fin_exc, sE_comp2, fin_rt, fin_nx, g_zv, g_zo, g_s, o_z, o_s, st_z, st_s, kp_int, kp_non, kp_bl, kp_str, kp_nil, kp_noO, kp_fz, List.cons_append, sE_str, c_eqS, e_find, sd_s, ltk_find, lik_find, ltk_int, ltk_str, ltk_bl, ltk_non, ltk_glob, ltk_op, ltk_neg, ltk_not, ltk_cmp, ltk_chain, ltk_sl, ltk_tup, ltk_lst, ltk_bi, ltk_isi, ltk_comp, ltk_compIf, ltk_comp2, lik_var, lik_int, lik_str, lik_bl, lik_non, lik_glob, lik_neg, lik_not, lik_cmp, lik_chain, lik_isi, fz_noO, ls_d, fr_j, g_rsl, fr_rsl, fz_c, fr_o, fr_v, fr_n, fr_s, kp_lst, no_0, no_n, no_v, fz_nil, lS1, lS2, sE_i, sE_lst, sE_comp, sE_compIf, sE_opl, sE_sl, sE_list, sE_sorted, sE_var, sE_ix, sE_call, sE_non, sE_blv, sE_tp, lt, li, las, lis, ltS, liS, List.append_nil, List.nil_append, ad_int, sb_int, c_lt, c_le, c_gt, c_ge, c_eq, c_ne, c_is, c_no, isN, bl_bl, in_in, b_len, b_lenT, b_lenS, b_int, b_abs, b_tupL, b_tupT, b_lstT, b_lstL, ixT0, ixT1, ixT2, ixT3, is_n_int, is_n_bool, is_n_str, is_n_tuple, is_n_list, is_b_int, is_b_bool, is_b_str, is_b_tuple, is_b_list, is_i_int, is_i_bool, is_i_str, is_i_tuple, is_i_list, is_s_int, is_s_bool, is_s_str, is_s_tuple, is_s_list, is_t_int, is_t_bool, is_t_str, is_t_tuple, is_t_list, is_l_int, is_l_bool, is_l_str, is_l_tuple, is_l_list, itemsD, wp_s, wp_n, asg1, asgT, asgN, asg0, okb, oko, noxo, List.length_cons, List.length_nil, Nat.reduceAdd, Nat.reduceLT, if_true, if_false, Bool.false_eq_true, Bool.true_eq_false, Bool.not_true, Bool.not_false, decide_true, decide_false, reduceIte, hne, cp, all_true]
  | lst n xs hl h ih =>
    intro m
    rw [call__law_same]
    unfold b__law_same
    have hne : decide ((xs.length : Int) ≠ (xs.length : Int)) = false := by simp
    have cp := comp_rng (G := T.prg.G) (Φ := T.prg.call (n + 1 + m + 1)) (σ := [some (.v (.lst xs)), some (.v (.lst xs)), none]) (elt := .call "_law_same" (.cons (.ix (.var 0) (.var 2)) (.cons (.ix (.var 1) (.var 2)) .nil))) (tg := .nm 2) (src := .rng1 (.bi .len (.cons (.var 1) .nil))) (own := [2]) (m := xs.length) (q := fun j => .int j)
      (by simp only [e_var, e_int, e_str, e_bl, e_non, e_glob, e_op, e_neg, e_not, e_and, e_or, e_cmp, e_chain, e_ife, e_ix, e_sl, e_tup, e_lst, e_call, e_bi, e_isi, es_nil, es_cons, eo_no, eo_so, eS_seq, eS_rng1, eS_rng2, eS_enum, eS_zip, x_set, x_setT, x_setIx, x_aug, x_app, x_ext, x_exp, x_ret, x_retN, x_ife, x_fr, x_wh, x_brk, x_cont, x_pass, xs_nil, xs_cons, at_nx, at_rt, at_bk, at_ct, at_exc, oke, okbe, x_raise, x_tr, tr_nx, tr_rt, fin_exc, sE_comp2, fin_rt, fin_nx, g_zv, g_zo, g_s, o_z, o_s, st_z, st_s, kp_int, kp_non, kp_bl, kp_str, kp_nil, kp_noO, kp_fz, List.cons_append, sE_str, c_eqS, e_find, sd_s, ltk_find, lik_find, ltk_int, ltk_str, ltk_bl, ltk_non, ltk_glob, ltk_op, ltk_neg, ltk_not, ltk_cmp, ltk_chain, ltk_sl, ltk_tup, ltk_lst, ltk_bi, ltk_isi, ltk_comp, ltk_compIf, ltk_comp2, lik_var, lik_int, lik_str, lik_bl, lik_non, lik_glob, lik_neg, lik_not, lik_cmp, lik_chain, lik_isi, fz_noO, ls_d, fr_j, g_rsl, fr_rsl, fz_c, fr_o, fr_v, fr_n, fr_s, kp_lst, no_0, no_n, no_v, fz_nil, lS1, lS2, sE_i, sE_lst, sE_comp, sE_compIf, sE_opl, sE_sl, sE_list, sE_sorted, sE_var, sE_ix, sE_call, sE_non, sE_blv, sE_tp, lt, li, las, lis, ltS, liS, List.append_nil, List.nil_append, ad_int, sb_int, c_lt, c_le, c_gt, c_ge, c_eq, c_ne, c_is, c_no, isN, bl_bl, in_in, b_len, b_lenT, b_lenS, b_int, b_abs, b_tupL, b_tupT, b_lstT, b_lstL, ixT0, ixT1, ixT2, ixT3, is_n_int, is_n_bool, is_n_str, is_n_tuple, is_n_list, is_b_int, is_b_bool, is_b_str, is_b_tuple, is_b_list, is_i_int, is_i_bool, is_i_str, is_i_tuple, is_i_list, is_s_int, is_s_bool, is_s_str, is_s_tuple, is_s_list, is_t_int, is_t_bool, is_t_str, is_t_tuple, is_t_list, is_l_int, is_l_bool, is_l_str, is_l_tuple, is_l_list, itemsD, wp_s, wp_n, asg1, asgT, asgN, asg0, okb, oko, noxo, List.length_cons, List.length_nil, Nat.reduceAdd, Nat.reduceLT, if_true, if_false, Bool.false_eq_true, Bool.true_eq_false, Bool.not_true, Bool.not_false, decide_true, decide_false, reduceIte, rng0 (m := xs.length) (by omega)]) (fun _ => .bl true) (fun i hi => ⟨[some (.v (.lst xs)), some (.v (.lst xs)), some (.v (.int i))], by simp only [e_var, e_int, e_str, e_bl, e_non, e_glob, e_op, e_neg, e_not, e_and, e_or, e_cmp, e_chain, e_ife, e_ix, e_sl, e_tup, e_lst, e_call, e_bi, e_isi, es_nil, es_cons, eo_no, eo_so, eS_seq, eS_rng1, eS_rng2, eS_enum, eS_zip, x_set, x_setT, x_setIx, x_aug, x_app, x_ext, x_exp, x_ret, x_retN, x_ife, x_fr, x_wh, x_brk, x_cont, x_pass, xs_nil, xs_cons, at_nx, at_rt, at_bk, at_ct, at_exc, oke, okbe, x_raise, x_tr, tr_nx, tr_rt, fin_exc, sE_comp2, fin_rt, fin_nx, g_zv, g_zo, g_s, o_z, o_s, st_z, st_s, kp_int, kp_non, kp_bl, kp_str, kp_nil, kp_noO, kp_fz, List.cons_append, sE_str, c_eqS, e_find, sd_s, ltk_find, lik_find, ltk_int, ltk_str, ltk_bl, ltk_non, ltk_glob, ltk_op, ltk_neg, ltk_not, ltk_cmp, ltk_chain, ltk_sl, ltk_tup, ltk_lst, ltk_bi, ltk_isi, ltk_comp, ltk_compIf, ltk_comp2, lik_var, lik_int, lik_str, lik_bl, lik_non, lik_glob, lik_neg, lik_not, lik_cmp, lik_chain, lik_isi, fz_noO, ls_d, fr_j, g_rsl, fr_rsl, fz_c, fr_o, fr_v, fr_n, fr_s, kp_lst, no_0, no_n, no_v, fz_nil, lS1, lS2, sE_i, sE_lst, sE_comp, sE_compIf, sE_opl, sE_sl, sE_list, sE_sorted, sE_var, sE_ix, sE_call, sE_non, sE_blv, sE_tp, lt, li, las, lis, ltS, liS, List.append_nil, List.nil_append, ad_int, sb_int, c_lt, c_le, c_gt, c_ge, c_eq, c_ne, c_is, c_no, isN, bl_bl, in_in, b_len, b_lenT, b_lenS, b_int, b_abs, b_tupL, b_tupT, b_lstT, b_lstL, ixT0, ixT1, ixT2, ixT3, is_n_int, is_n_bool, is_n_str, is_n_tuple, is_n_list, is_b_int, is_b_bool, is_b_str, is_b_tuple, is_b_list, is_i_int, is_i_bool, is_i_str, is_i_tuple, is_i_list, is_s_int, is_s_bool, is_s_str, is_s_tuple, is_s_list, is_t_int, is_t_bool, is_t_str, is_t_tuple, is_t_list, is_l_int, is_l_bool, is_l_str, is_l_tuple, is_l_list, itemsD, wp_s, wp_n, asg1, asgT, asgN, asg0, okb, oko, noxo, List.length_cons, List.length_nil, Nat.reduceAdd, Nat.reduceLT, if_true, if_false, Bool.false_eq_true, Bool.true_eq_false, Bool.not_true, Bool.not_false, decide_true, decide_false, reduceIte], by
        have ix := ix_lst (xs := xs) (i := (i : Int)) (n := i) rfl (List.getElem?_eq_getElem hi)
        have q := ih xs[i] (List.getElem_mem hi) m
        have e : n + m + 2 = n + 1 + m + 1 := by omega
        rw [e] at q
        simp only [e_var, e_int, e_str, e_bl, e_non, e_glob, e_op, e_neg, e_not, e_and, e_or, e_cmp, e_chain, e_ife, e_ix, e_sl, e_tup, e_lst, e_call, e_bi, e_isi, es_nil, es_cons, eo_no, eo_so, eS_seq, eS_rng1, eS_rng2, eS_enum, eS_zip, x_set, x_setT, x_setIx, x_aug, x_app, x_ext, x_exp, x_ret, x_retN, x_ife, x_fr, x_wh, x_brk, x_cont, x_pass, xs_nil, xs_cons, at_nx, at_rt, at_bk, at_ct, at_exc, oke, okbe, x_raise, x_tr, tr_nx, tr_rt, fin_exc, sE_comp2, fin_rt, fin_nx, g_zv, g_zo, g_s, o_z, o_s, st_z, st_s, kp_int, kp_non, kp_bl, kp_str, kp_nil, kp_noO, kp_fz, List.cons_append, sE_str, c_eqS, e_find, sd_s, ltk_find, lik_find, ltk_int, ltk_str, ltk_bl, ltk_non, ltk_glob, ltk_op, ltk_neg, ltk_not, ltk_cmp, ltk_chain, ltk_sl, ltk_tup, ltk_lst, ltk_bi, ltk_isi, ltk_comp, ltk_compIf, ltk_comp2, lik_var, lik_int, lik_str, lik_bl, lik_non, lik_glob, lik_neg, lik_not, lik_cmp, lik_chain, lik_isi, fz_noO, ls_d, fr_j, g_rsl, fr_rsl, fz_c, fr_o, fr_v, fr_n, fr_s, kp_lst, no_0, no_n, no_v, fz_nil, lS1, lS2, sE_i, sE_lst, sE_comp, sE_compIf, sE_opl, sE_sl, sE_list, sE_sorted, sE_var, sE_ix, sE_call, sE_non, sE_blv, sE_tp, lt, li, las, lis, ltS, liS, List.append_nil, List.nil_append, ad_int, sb_int, c_lt, c_le, c_gt, c_ge, c_eq, c_ne, c_is, c_no, isN, bl_bl, in_in, b_len, b_lenT, b_lenS, b_int, b_abs, b_tupL, b_tupT, b_lstT, b_lstL, ixT0, ixT1, ixT2, ixT3, is_n_int, is_n_bool, is_n_str, is_n_tuple, is_n_list, is_b_int, is_b_bool, is_b_str, is_b_tuple, is_b_list, is_i_int, is_i_bool, is_i_str, is_i_tuple, is_i_list, is_s_int, is_s_bool, is_s_str, is_s_tuple, is_s_list, is_t_int, is_t_bool, is_t_str, is_t_tuple, is_t_list, is_l_int, is_l_bool, is_l_str, is_l_tuple, is_l_list, itemsD, wp_s, wp_n, asg1, asgT, asgN, asg0, okb, oko, noxo, List.length_cons, List.length_nil, Nat.reduceAdd, Nat.reduceLT, if_true, if_false, Bool.false_eq_true, Bool.true_eq_false, Bool.not_true, Bool.not_false, decide_true, decide_false, reduceIte, ix, q]⟩) (Nat.le_of_lt (small6 hl))
    have ec : (List.range xs.length).map (fun _ => D.bl true) = List.replicate xs.length (.bl true) := by rw [List.map_const', List.length_range]
    rw [ec] at cp
    simp only [e_var, e_int, e_str, e_bl, e_non, e_glob, e_op, e_neg, e_not, e_and, e_or, e_cmp, e_chain, e_ife, e_ix, e_sl, e_tup, e_lst, e_call, e_bi, e_isi, es_nil, es_cons, eo_no, eo_so, eS_seq, eS_rng1, eS_rng2, eS_enum, eS_zip, x_set, x_setT, x_setIx, x_aug, x_app, x_ext, x_exp, x_ret, x_retN, x_ife, x_fr, x_wh, x_brk, x_cont, x_pass, xs_nil, xs_cons, at_nx, at_rt, at_bk, at_ct, at_exc, oke, okbe, x_raise, x_tr, tr_nx, tr_rt, fin_exc, sE_comp2, fin_rt, fin_nx, g_zv, g_zo, g_s, o_z, o_s, st_z, st_s, kp_int, kp_non, kp_bl, kp_str, kp_nil, kp_noO, kp_fz, List.cons_append, sE_str, c_eqS, e_find, sd_s, ltk_find, lik_find, ltk_int, ltk_str, ltk_bl, ltk_non, ltk_glob, ltk_op, ltk_neg, ltk_not, ltk_cmp, ltk_chain, ltk_sl, ltk_tup, ltk_lst, ltk_bi, ltk_isi, ltk_comp, ltk_compIf, ltk_comp2, lik_var, lik_int, lik_str, lik_bl, lik_non, lik_glob, lik_neg, lik_not, lik_cmp, lik_chain, lik_isi, fz_noO, ls_d, fr_j, g_rsl, fr_rsl, fz_c, fr_o, fr_v, fr_n, fr_s, kp_lst, no_0, no_n, no_v, fz_nil, lS1, lS2, sE_i, sE_lst, sE_comp, sE_compIf, sE_opl, sE_sl, sE_list, sE_sorted, sE_var, sE_ix, sE_call, sE_non, sE_blv, sE_tp, lt, li, las, lis, ltS, liS, List.append_nil, List.nil_append, ad_int, sb_int, c_lt, c_le, c_gt, c_ge, c_eq, c_ne, c_is, c_no, isN, bl_bl, in_in, b_len, b_lenT, b_lenS, b_int, b_abs, b_tupL, b_tupT, b_lstT, b_lstL, ixT0, ixT1, ixT2, ixT3, is_n_int, is_n_bool, is_n_str, is_n_tuple, is_n_list, is_b_int, is_b_bool, is_b_str, is_b_tuple, is_b_list, is_i_int, is_i_bool, is_i_str, is_i_tuple, is_i_list, is_s_int, is_s_bool, is_s_str, is_s_tuple, is_s_list, is_t_int, is_t_bool, is_t_str, is_t_tuple, is_t_list, is_l_int, is_l_bool, is_l_str, is_l_tuple, is_l_list, itemsD, wp_s, wp_n, asg1, asgT, asgN, asg0, okb, oko, noxo, List.length_cons, List.length_nil, Nat.reduceAdd, Nat.reduceLT, if_true, if_false, Bool.false_eq_true, Bool.true_eq_false, Bool.not_true, Bool.not_false, decide_true, decide_false, reduceIte, hne, cp, all_true]
theorem sameN (N n : Nat) (d : D) (h : Sd n d) (hn : n + 2 ≤ N) : T.prg.call N "_law_same" [d, d] = .ok (.bl true) := by
  have q := same_run n d h (N - n - 2)
  have e : n + (N - n - 2) + 2 = N := by omega
  rw [e] at q
  exact q
end K01
namespace K01
open PySem L2 PyI
/-! ### texts as lists of signs -/
def st (l : List Nat) : Str := ⟨l.toArray⟩
theorem st_tl (l : List Nat) : (st l).cps.toList = l := by simp [st]
theorem st_len (l : List Nat) : (st l).length = l.length := by simp [st, Str.length]
theorem st_eta (z : Str) : st z.cps.toList = z := by
  obtain ⟨c⟩ := z
  simp [st]
theorem st_inj {a b : List Nat} (h : st a = st b) : a = b := by
  rw [← st_tl a, h, st_tl]
theorem st_cat (a b : List Nat) : st a ++ st b = st (a ++ b) := by
  show (⟨_⟩ : Str) = ⟨_⟩
  simp [st]
def ch (c : Nat) : D := .str (st [c])
theorem items_st (l : List Nat) : itemsD (.str (st l)) = .ok (l.map ch) := by
  show Res.ok ((st l).cps.toList.map fun c => D.str ⟨#[c]⟩) = _
  rw [st_tl]
  rfl
theorem len_st {l : List Nat} (h : l.length ≤ 100000) : biD .len [.str (st l)] = .ok (.int l.length) := by
  have e : lenD (.str (st l)) = .ok l.length := by
    show (if (st l).length ≤ sizeLine then Res.ok (st l).length else .bad) = _
    rw [st_len, if_pos (Nat.le_of_lt (small6 (by omega)))]
  show (lenD (.str (st l)) >>= fun n => Res.ok (D.int n)) = _
  rw [e]
  rfl
theorem in_st (c : Nat) (l : List Nat) : cmD .in_ (ch c) (.str (st l)) = .ok (.bl (decide (c ∈ l))) := by
  show (inD (ch c) (.str (st l)) >>= fun r => Res.ok (D.bl r)) = _
  have e : inD (ch c) (.str (st l)) = .ok (decide (c ∈ (st l).cps.toList)) := rfl
  rw [e, st_tl]
  rfl
theorem ix_st {l : List Nat} {i : Int} {n : Nat} {c : Nat} (hl : l.length ≤ 100000) (h : i = n) (e : l[n]? = some c) : ixD (.str (st l)) (.int i) = .ok (ch c) := by
  show (if (st l).length ≤ sizeLine then (match atI (st l).cps.toList i with
    | some c => Res.ok (D.str ⟨#[c]⟩)
    | none => .bad) else .bad) = _
  rw [st_len, if_pos (Nat.le_of_lt (small6 (by omega))), st_tl, at_some h e]
  rfl
theorem ad_st {a b : List Nat} (h : a.length + b.length ≤ 100000) : opD .add (.str (st a)) (.str (st b)) = .ok (.str (st (a ++ b))) := by
  show (if (st a).length + (st b).length ≤ sizeLine then Res.ok (D.str (st a ++ st b)) else .bad) = _
  rw [st_len, st_len, if_pos (Nat.le_of_lt (small6 (by omega))), st_cat]
theorem cut_lo {l : List Nat} {k : Nat} (h : k ≤ l.length) (hl : l.length ≤ 100000) : slD (.str (st l)) none (some (k : Int)) = .ok (.str (st (l.take k))) := by
  show (if (st l).length ≤ sizeLine then Res.ok (D.str (cutS (st l) none (some (k : Int)))) else .bad) = _
  rw [st_len, if_pos (Nat.le_of_lt (small6 (by omega)))]
  unfold cutS
  rw [st_tl, st_len, HT.sIx_nat, HT.sIx_none, Nat.min_eq_left h]
  rfl
theorem cut_hi {l : List Nat} {k : Nat} (h : k ≤ l.length) (hl : l.length ≤ 100000) : slD (.str (st l)) (some (k : Int)) none = .ok (.str (st (l.drop k))) := by
  show (if (st l).length ≤ sizeLine then Res.ok (D.str (cutS (st l) (some (k : Int)) none)) else .bad) = _
  rw [st_len, if_pos (Nat.le_of_lt (small6 (by omega)))]
  unfold cutS
  rw [st_tl, st_len, HT.sIx_nat, HT.sIx_none, Nat.min_eq_left h, List.take_of_length_le (by rw [List.length_drop]; exact Nat.le_refl _)]
  rfl
theorem eq_st (a b : List Nat) : cmD .eq (.str (st a)) (.str (st b)) = .ok (.bl (decide (a = b))) := by
  show Res.ok (D.bl (decide (st a = st b))) = _
  congr 2
  by_cases h : a = b
  · rw [decide_eq_true (by rw [h]), decide_eq_true h]
  · rw [decide_eq_false (fun z => h (st_inj z)), decide_eq_false h]
/-! ### the signs -/
def LT : List Nat := [97, 98, 99, 100, 101, 102, 103, 104, 105, 106, 107, 108, 109, 110, 111, 112, 113, 114, 115, 116, 117, 118, 119, 120, 121, 122]
def DG : List Nat := [48, 49, 50, 51, 52, 53, 54, 55, 56, 57]
theorem s_letters : ("abcdefghijklmnopqrstuvwxyz" : Str) = st LT := by decide
theorem s_digits : ("0123456789" : Str) = st DG := by decide
theorem find_st (l : List Nat) (c : Nat) : 0 ≤ Txt.find (st l) (st [c]) ↔ c ∈ l := by
  have h := StrLaws.found_one (st l) c
  rw [st_tl] at h
  have e : (⟨#[c]⟩ : Str) = st [c] := rfl
  rw [e] at h
  unfold Txt.find
  cases q : Builtin.Str.occurrences (st l) (st [c]) 0 (st l).length 1 with
  | nil =>
    rw [q] at h
    have n : ¬ c ∈ l := fun z => by rw [decide_eq_true z] at h; cases h
    exact ⟨fun z => absurd z (by show ¬ (0 : Int) ≤ -1; decide), fun z => absurd z n⟩
  | cons i r =>
    rw [q] at h
    have n : c ∈ l := of_decide_eq_true h.symm
    exact ⟨fun _ => n, fun _ => Int.natCast_nonneg i⟩
theorem find_neg {l : List Nat} {c : Nat} (h : c ∉ l) : Txt.find (st l) (st [c]) < 0 := by
  have := (find_st l c).mp
  by_cases q : 0 ≤ Txt.find (st l) (st [c])
  · exact absurd (this q) h
  · omega
theorem find_dg (k : Nat) (h : k < 10) : Txt.find (st DG) (st [48 + k]) = (k : Int) := by
  have key : ∀ k : Nat, k < 10 → Txt.find (st DG) (st [48 + k]) = (k : Int) := by
    intro k hk
    have : k = 0 ∨ k = 1 ∨ k = 2 ∨ k = 3 ∨ k = 4 ∨ k = 5 ∨ k = 6 ∨ k = 7 ∨ k = 8 ∨ k = 9 := by omega
    rcases this with rfl | rfl | rfl | rfl | rfl | rfl | rfl | rfl | rfl | rfl <;> decide +kernel
  exact key k h
theorem mem_dg {c : Nat} : c ∈ DG ↔ 48 ≤ c ∧ c ≤ 57 := by
  unfold DG
  simp only [List.mem_cons, List.not_mem_nil, or_false]
  omega
theorem mem_lt {c : Nat} : c ∈ LT ↔ 97 ≤ c ∧ c ≤ 122 := by
  unfold LT
  simp only [List.mem_cons, List.not_mem_nil, or_false]
  omega
end K01
namespace K01
open PySem L2 PyI
theorem Sd.up {n : Nat} {d : D} (h : Sd n d) : Sd (n + 1) d := by
  induction h with
  | int n i => exact .int _ i
  | bl n b => exact .bl _ b
  | non n => exact .non _
  | str n s => exact .str _ s
  | tup n xs hl _ ih => exact .tup _ xs hl ih
  | lst n xs hl _ ih => exact .lst _ xs hl ih
theorem sd_bl (N : Nat) (hn : 2 ≤ N) (b : Bool) : T.prg.call N "_law_same" [.bl b, .bl b] = .ok (.bl true) := sameN N 0 _ (.bl 0 b) hn
theorem sd_int (N : Nat) (hn : 2 ≤ N) (b : Int) : T.prg.call N "_law_same" [.int b, .int b] = .ok (.bl true) := sameN N 0 _ (.int 0 b) hn
theorem comp_mp {α : Type} {G : Str → Option D} {Φ : Str → List D → Res D} {σ : PyI.Env} {elt : E} {tg : Tg} {src : Src} {own : List Nat} {as : List α} {q : α → D} (hs : evS G Φ src σ = .ok (as.map q)) (g : α → D)
    (h : ∀ a ∈ as, ∃ σ2, asg tg (q a) (wipeD σ own) = .ok σ2 ∧ ev G Φ elt σ2 = .ok (g a)) (hl : as.length ≤ 1000000) : ev G Φ (.comp elt tg src own) σ = .ok (.lst (as.map g)) := by
  have key : ∀ l : List α, (∀ a ∈ l, a ∈ as) → mapR (fun x => nox (asg tg x (wipeD σ own) >>= fun σ2 => ev G Φ elt σ2 >>= fun y => .ok (some y))) (l.map q) = .ok (l.map g) := by
    intro l
    induction l with
    | nil => intro _; rfl
    | cons i r ih =>
      intro hm
      obtain ⟨σ2, h1, h2⟩ := h i (hm i List.mem_cons_self)
      show (nox (asg tg (q i) (wipeD σ own) >>= fun σ2 => ev G Φ elt σ2 >>= fun y => Res.ok (some y)) >>= fun o => mapR _ (r.map q) >>= fun ds => match o with
        | some x => Res.ok (x :: ds)
        | none => .ok ds) = _
      rw [ih fun j hj => hm j (List.mem_cons_of_mem _ hj), h1]
      show (nox (ev G Φ elt σ2 >>= fun y => Res.ok (some y)) >>= fun o => _) = _
      rw [h2]
      rfl
  rw [e_comp, hs]
  show (mapR _ (as.map q) >>= fun ds => if ds.length ≤ sizeLine then Res.ok (D.lst ds) else .bad) = _
  rw [key as fun a h => h]
  show (if (as.map g).length ≤ sizeLine then Res.ok (D.lst (as.map g)) else .bad) = _
  rw [List.length_map, if_pos (Nat.le_of_lt (small6 hl))]
theorem bls_mp {α : Type} (as : List α) (f : α → Bool) : D.bls (as.map fun e => .bl (f e)) = some (as.map f) := by
  induction as with
  | nil => rfl
  | cons a r ih =>
    show (D.bls (r.map fun e => .bl (f e))).map (f a :: ·) = _
    rw [ih]
    rfl
theorem all_mp {α : Type} (as : List α) (f : α → Bool) : biD .all [.lst (as.map fun e => .bl (f e))] = .ok (.bl (as.all f)) := by
  show (match D.bls (as.map fun e => .bl (f e)) with
    | some bs => Res.ok (D.bl (bs.all id))
    | _ => .bad) = _
  rw [bls_mp]
  show Res.ok (D.bl ((as.map f).all id)) = _
  rw [List.all_map]
  rfl
theorem forL_nx {g : D → PyI.Env → Res PyI.Env} {f : PyI.Env → Out} {d : D} {r : List D} {σ σ1 σ2 : PyI.Env} (h1 : g d σ = .ok σ1) (h2 : f σ1 = .nx σ2) : forL g f (d :: r) σ = forL g f r σ2 := by
  unfold forL
  rw [h1]
  simp only [ok_out]
  rw [h2]
  cases r <;> rfl
theorem forL_rt {g : D → PyI.Env → Res PyI.Env} {f : PyI.Env → Out} {d : D} {r : List D} {σ σ1 : PyI.Env} {v : D} (h1 : g d σ = .ok σ1) (h2 : f σ1 = .rt v) : forL g f (d :: r) σ = .rt v := by
  unfold forL
  rw [h1]
  simp only [ok_out]
  rw [h2]
/-! ### words -/
def isWl (l : List Nat) : Bool := (decide (1 ≤ l.length) && decide (l.length ≤ 12)) && l.all fun c => decide (c ∈ LT)
def isW : D → Bool
  | .str z => isWl z.cps.toList
  | _ => false
/-- a value that the law makes -/
def Vok : D → Prop
  | .str z => z.length ≤ 1000
  | .scr _ => False
  | _ => True
theorem isword_run (n : Nat) (V : D) (h : Vok V) : T.prg.call (n + 1) "is_word" [V] = .ok (.bl (isW V)) := by
  rw [call_is_word]
  unfold b_is_word
  cases V with
  | str z =>
    obtain ⟨l, rfl⟩ : ∃ l, z = st l := ⟨_, (st_eta z).symm⟩
    have hl : l.length ≤ 1000 := by
      have h : (st l).length ≤ 1000 := h
      rwa [st_len] at h
    have ew : isW (.str (st l)) = isWl l := by
      show isWl (st l).cps.toList = _
      rw [st_tl]
    rw [ew]
    unfold isWl
    have cp := comp_mp (G := T.prg.G) (Φ := T.prg.call n) (σ := [some (.v (.str (st l))), none]) (elt := .cmp .in_ (.var 1) (.glob "LETTERS")) (tg := .nm 1) (src := .seq (.var 0)) (own := [1]) (as := l) (q := ch)
      (by simp only [e_var, e_int, e_str, e_bl, e_non, e_glob, e_op, e_neg, e_not, e_and, e_or, e_cmp, e_chain, e_ife, e_ix, e_sl, e_tup, e_lst, e_call, e_bi, e_isi, es_nil, es_cons, eo_no, eo_so, eS_seq, eS_rng1, eS_rng2, eS_enum, eS_zip, x_set, x_setT, x_setIx, x_aug, x_app, x_ext, x_exp, x_ret, x_retN, x_ife, x_fr, x_wh, x_brk, x_cont, x_pass, xs_nil, xs_cons, at_nx, at_rt, at_bk, at_ct, at_exc, oke, okbe, x_raise, x_tr, tr_nx, tr_rt, fin_exc, sE_comp2, fin_rt, fin_nx, g_zv, g_zo, g_s, o_z, o_s, st_z, st_s, kp_int, kp_non, kp_bl, kp_str, kp_nil, kp_noO, kp_fz, List.cons_append, sE_str, c_eqS, e_find, sd_s, ltk_find, lik_find, ltk_int, ltk_str, ltk_bl, ltk_non, ltk_glob, ltk_op, ltk_neg, ltk_not, ltk_cmp, ltk_chain, ltk_sl, ltk_tup, ltk_lst, ltk_bi, ltk_isi, ltk_comp, ltk_compIf, ltk_comp2, lik_var, lik_int, lik_str, lik_bl, lik_non, lik_glob, lik_neg, lik_not, lik_cmp, lik_chain, lik_isi, fz_noO, ls_d, fr_j, g_rsl, fr_rsl, fz_c, fr_o, fr_v, fr_n, fr_s, kp_lst, no_0, no_n, no_v, fz_nil, lS1, lS2, sE_i, sE_lst, sE_comp, sE_compIf, sE_opl, sE_sl, sE_list, sE_sorted, sE_var, sE_ix, sE_call, sE_non, sE_blv, sE_tp, lt, li, las, lis, ltS, liS, List.append_nil, List.nil_append, ad_int, sb_int, c_lt, c_le, c_gt, c_ge, c_eq, c_ne, c_is, c_no, isN, bl_bl, in_in, b_len, b_lenT, b_lenS, b_int, b_abs, b_tupL, b_tupT, b_lstT, b_lstL, ixT0, ixT1, ixT2, ixT3, is_n_int, is_n_bool, is_n_str, is_n_tuple, is_n_list, is_b_int, is_b_bool, is_b_str, is_b_tuple, is_b_list, is_i_int, is_i_bool, is_i_str, is_i_tuple, is_i_list, is_s_int, is_s_bool, is_s_str, is_s_tuple, is_s_list, is_t_int, is_t_bool, is_t_str, is_t_tuple, is_t_list, is_l_int, is_l_bool, is_l_str, is_l_tuple, is_l_list, itemsD, wp_s, wp_n, asg1, asgT, asgN, asg0, okb, oko, noxo, List.length_cons, List.length_nil, Nat.reduceAdd, Nat.reduceLT, if_true, if_false, Bool.false_eq_true, Bool.true_eq_false, Bool.not_true, Bool.not_false, decide_true, decide_false, reduceIte, items_st]; exact items_st l) (fun c => .bl (decide (c ∈ LT))) (fun c hc => ⟨[some (.v (.str (st l))), some (.v (ch c))], by simp only [e_var, e_int, e_str, e_bl, e_non, e_glob, e_op, e_neg, e_not, e_and, e_or, e_cmp, e_chain, e_ife, e_ix, e_sl, e_tup, e_lst, e_call, e_bi, e_isi, es_nil, es_cons, eo_no, eo_so, eS_seq, eS_rng1, eS_rng2, eS_enum, eS_zip, x_set, x_setT, x_setIx, x_aug, x_app, x_ext, x_exp, x_ret, x_retN, x_ife, x_fr, x_wh, x_brk, x_cont, x_pass, xs_nil, xs_cons, at_nx, at_rt, at_bk, at_ct, at_exc, oke, okbe, x_raise, x_tr, tr_nx, tr_rt, fin_exc, sE_comp2, fin_rt, fin_nx, g_zv, g_zo, g_s, o_z, o_s, st_z, st_s, kp_int, kp_non, kp_bl, kp_str, kp_nil, kp_noO, kp_fz, List.cons_append, sE_str, c_eqS, e_find, sd_s, ltk_find, lik_find, ltk_int, ltk_str, ltk_bl, ltk_non, ltk_glob, ltk_op, ltk_neg, ltk_not, ltk_cmp, ltk_chain, ltk_sl, ltk_tup, ltk_lst, ltk_bi, ltk_isi, ltk_comp, ltk_compIf, ltk_comp2, lik_var, lik_int, lik_str, lik_bl, lik_non, lik_glob, lik_neg, lik_not, lik_cmp, lik_chain, lik_isi, fz_noO, ls_d, fr_j, g_rsl, fr_rsl, fz_c, fr_o, fr_v, fr_n, fr_s, kp_lst, no_0, no_n, no_v, fz_nil, lS1, lS2, sE_i, sE_lst, sE_comp, sE_compIf, sE_opl, sE_sl, sE_list, sE_sorted, sE_var, sE_ix, sE_call, sE_non, sE_blv, sE_tp, lt, li, las, lis, ltS, liS, List.append_nil, List.nil_append, ad_int, sb_int, c_lt, c_le, c_gt, c_ge, c_eq, c_ne, c_is, c_no, isN, bl_bl, in_in, b_len, b_lenT, b_lenS, b_int, b_abs, b_tupL, b_tupT, b_lstT, b_lstL, ixT0, ixT1, ixT2, ixT3, is_n_int, is_n_bool, is_n_str, is_n_tuple, is_n_list, is_b_int, is_b_bool, is_b_str, is_b_tuple, is_b_list, is_i_int, is_i_bool, is_i_str, is_i_tuple, is_i_list, is_s_int, is_s_bool, is_s_str, is_s_tuple, is_s_list, is_t_int, is_t_bool, is_t_str, is_t_tuple, is_t_list, is_l_int, is_l_bool, is_l_str, is_l_tuple, is_l_list, itemsD, wp_s, wp_n, asg1, asgT, asgN, asg0, okb, oko, noxo, List.length_cons, List.length_nil, Nat.reduceAdd, Nat.reduceLT, if_true, if_false, Bool.false_eq_true, Bool.true_eq_false, Bool.not_true, Bool.not_false, decide_true, decide_false, reduceIte], by simp only [e_var, e_int, e_str, e_bl, e_non, e_glob, e_op, e_neg, e_not, e_and, e_or, e_cmp, e_chain, e_ife, e_ix, e_sl, e_tup, e_lst, e_call, e_bi, e_isi, es_nil, es_cons, eo_no, eo_so, eS_seq, eS_rng1, eS_rng2, eS_enum, eS_zip, x_set, x_setT, x_setIx, x_aug, x_app, x_ext, x_exp, x_ret, x_retN, x_ife, x_fr, x_wh, x_brk, x_cont, x_pass, xs_nil, xs_cons, at_nx, at_rt, at_bk, at_ct, at_exc, oke, okbe, x_raise, x_tr, tr_nx, tr_rt, fin_exc, sE_comp2, fin_rt, fin_nx, g_zv, g_zo, g_s, o_z, o_s, st_z, st_s, kp_int, kp_non, kp_bl, kp_str, kp_nil, kp_noO, kp_fz, List.cons_append, sE_str, c_eqS, e_find, sd_s, ltk_find, lik_find, ltk_int, ltk_str, ltk_bl, ltk_non, ltk_glob, ltk_op, ltk_neg, ltk_not, ltk_cmp, ltk_chain, ltk_sl, ltk_tup, ltk_lst, ltk_bi, ltk_isi, ltk_comp, ltk_compIf, ltk_comp2, lik_var, lik_int, lik_str, lik_bl, lik_non, lik_glob, lik_neg, lik_not, lik_cmp, lik_chain, lik_isi, fz_noO, ls_d, fr_j, g_rsl, fr_rsl, fz_c, fr_o, fr_v, fr_n, fr_s, kp_lst, no_0, no_n, no_v, fz_nil, lS1, lS2, sE_i, sE_lst, sE_comp, sE_compIf, sE_opl, sE_sl, sE_list, sE_sorted, sE_var, sE_ix, sE_call, sE_non, sE_blv, sE_tp, lt, li, las, lis, ltS, liS, List.append_nil, List.nil_append, ad_int, sb_int, c_lt, c_le, c_gt, c_ge, c_eq, c_ne, c_is, c_no, isN, bl_bl, in_in, b_len, b_lenT, b_lenS, b_int, b_abs, b_tupL, b_tupT, b_lstT, b_lstL, ixT0, ixT1, ixT2, ixT3, is_n_int, is_n_bool, is_n_str, is_n_tuple, is_n_list, is_b_int, is_b_bool, is_b_str, is_b_tuple, is_b_list, is_i_int, is_i_bool, is_i_str, is_i_tuple, is_i_list, is_s_int, is_s_bool, is_s_str, is_s_tuple, is_s_list, is_t_int, is_t_bool, is_t_str, is_t_tuple, is_t_list, is_l_int, is_l_bool, is_l_str, is_l_tuple, is_l_list, itemsD, wp_s, wp_n, asg1, asgT, asgN, asg0, okb, oko, noxo, List.length_cons, List.length_nil, Nat.reduceAdd, Nat.reduceLT, if_true, if_false, Bool.false_eq_true, Bool.true_eq_false, Bool.not_true, Bool.not_false, decide_true, decide_false, reduceIte, g_LETTERS, s_letters, in_st]⟩) (by omega)
    by_cases h1 : 1 ≤ l.length
    · by_cases h2 : l.length ≤ 12
      · have k1 : (1 : Int) ≤ (l.length : Int) := by omega
        have k2 : (l.length : Int) ≤ 12 := by omega
        simp only [e_var, e_int, e_str, e_bl, e_non, e_glob, e_op, e_neg, e_not, e_and, e_or, e_cmp, e_chain, e_ife, e_ix, e_sl, e_tup, e_lst, e_call, e_bi, e_isi, es_nil, es_cons, eo_no, eo_so, eS_seq, eS_rng1, eS_rng2, eS_enum, eS_zip, x_set, x_setT, x_setIx, x_aug, x_app, x_ext, x_exp, x_ret, x_retN, x_ife, x_fr, x_wh, x_brk, x_cont, x_pass, xs_nil, xs_cons, at_nx, at_rt, at_bk, at_ct, at_exc, oke, okbe, x_raise, x_tr, tr_nx, tr_rt, fin_exc, sE_comp2, fin_rt, fin_nx, g_zv, g_zo, g_s, o_z, o_s, st_z, st_s, kp_int, kp_non, kp_bl, kp_str, kp_nil, kp_noO, kp_fz, List.cons_append, sE_str, c_eqS, e_find, sd_s, ltk_find, lik_find, ltk_int, ltk_str, ltk_bl, ltk_non, ltk_glob, ltk_op, ltk_neg, ltk_not, ltk_cmp, ltk_chain, ltk_sl, ltk_tup, ltk_lst, ltk_bi, ltk_isi, ltk_comp, ltk_compIf, ltk_comp2, lik_var, lik_int, lik_str, lik_bl, lik_non, lik_glob, lik_neg, lik_not, lik_cmp, lik_chain, lik_isi, fz_noO, ls_d, fr_j, g_rsl, fr_rsl, fz_c, fr_o, fr_v, fr_n, fr_s, kp_lst, no_0, no_n, no_v, fz_nil, lS1, lS2, sE_i, sE_lst, sE_comp, sE_compIf, sE_opl, sE_sl, sE_list, sE_sorted, sE_var, sE_ix, sE_call, sE_non, sE_blv, sE_tp, lt, li, las, lis, ltS, liS, List.append_nil, List.nil_append, ad_int, sb_int, c_lt, c_le, c_gt, c_ge, c_eq, c_ne, c_is, c_no, isN, bl_bl, in_in, b_len, b_lenT, b_lenS, b_int, b_abs, b_tupL, b_tupT, b_lstT, b_lstL, ixT0, ixT1, ixT2, ixT3, is_n_int, is_n_bool, is_n_str, is_n_tuple, is_n_list, is_b_int, is_b_bool, is_b_str, is_b_tuple, is_b_list, is_i_int, is_i_bool, is_i_str, is_i_tuple, is_i_list, is_s_int, is_s_bool, is_s_str, is_s_tuple, is_s_list, is_t_int, is_t_bool, is_t_str, is_t_tuple, is_t_list, is_l_int, is_l_bool, is_l_str, is_l_tuple, is_l_list, itemsD, wp_s, wp_n, asg1, asgT, asgN, asg0, okb, oko, noxo, List.length_cons, List.length_nil, Nat.reduceAdd, Nat.reduceLT, if_true, if_false, Bool.false_eq_true, Bool.true_eq_false, Bool.not_true, Bool.not_false, decide_true, decide_false, reduceIte, len_st (l := l) (by omega), g_LONGEST_WORD, k1, k2, cp, all_mp]
        rw [decide_eq_true h1, decide_eq_true h2]
        rfl
      · have k1 : (1 : Int) ≤ (l.length : Int) := by omega
        have k2 : ¬ (l.length : Int) ≤ 12 := by omega
        simp only [e_var, e_int, e_str, e_bl, e_non, e_glob, e_op, e_neg, e_not, e_and, e_or, e_cmp, e_chain, e_ife, e_ix, e_sl, e_tup, e_lst, e_call, e_bi, e_isi, es_nil, es_cons, eo_no, eo_so, eS_seq, eS_rng1, eS_rng2, eS_enum, eS_zip, x_set, x_setT, x_setIx, x_aug, x_app, x_ext, x_exp, x_ret, x_retN, x_ife, x_fr, x_wh, x_brk, x_cont, x_pass, xs_nil, xs_cons, at_nx, at_rt, at_bk, at_ct, at_exc, oke, okbe, x_raise, x_tr, tr_nx, tr_rt, fin_exc, sE_comp2, fin_rt, fin_nx, g_zv, g_zo, g_s, o_z, o_s, st_z, st_s, kp_int, kp_non, kp_bl, kp_str, kp_nil, kp_noO, kp_fz, List.cons_append, sE_str, c_eqS, e_find, sd_s, ltk_find, lik_find, ltk_int, ltk_str, ltk_bl, ltk_non, ltk_glob, ltk_op, ltk_neg, ltk_not, ltk_cmp, ltk_chain, ltk_sl, ltk_tup, ltk_lst, ltk_bi, ltk_isi, ltk_comp, ltk_compIf, ltk_comp2, lik_var, lik_int, lik_str, lik_bl, lik_non, lik_glob, lik_neg, lik_not, lik_cmp, lik_chain, lik_isi, fz_noO, ls_d, fr_j, g_rsl, fr_rsl, fz_c, fr_o, fr_v, fr_n, fr_s, kp_lst, no_0, no_n, no_v, fz_nil, lS1, lS2, sE_i, sE_lst, sE_comp, sE_compIf, sE_opl, sE_sl, sE_list, sE_sorted, sE_var, sE_ix, sE_call, sE_non, sE_blv, sE_tp, lt, li, las, lis, ltS, liS, List.append_nil, List.nil_append, ad_int, sb_int, c_lt, c_le, c_gt, c_ge, c_eq, c_ne, c_is, c_no, isN, bl_bl, in_in, b_len, b_lenT, b_lenS, b_int, b_abs, b_tupL, b_tupT, b_lstT, b_lstL, ixT0, ixT1, ixT2, ixT3, is_n_int, is_n_bool, is_n_str, is_n_tuple, is_n_list, is_b_int, is_b_bool, is_b_str, is_b_tuple, is_b_list, is_i_int, is_i_bool, is_i_str, is_i_tuple, is_i_list, is_s_int, is_s_bool, is_s_str, is_s_tuple, is_s_list, is_t_int, is_t_bool, is_t_str, is_t_tuple, is_t_list, is_l_int, is_l_bool, is_l_str, is_l_tuple, is_l_list, itemsD, wp_s, wp_n, asg1, asgT, asgN, asg0, okb, oko, noxo, List.length_cons, List.length_nil, Nat.reduceAdd, Nat.reduceLT, if_true, if_false, Bool.false_eq_true, Bool.true_eq_false, Bool.not_true, Bool.not_false, decide_true, decide_false, reduceIte, len_st (l := l) (by omega), g_LONGEST_WORD, k1, k2]
        rw [decide_eq_false h2, Bool.and_false]
        rfl
    · have k1 : ¬ (1 : Int) ≤ (l.length : Int) := by omega
      simp only [e_var, e_int, e_str, e_bl, e_non, e_glob, e_op, e_neg, e_not, e_and, e_or, e_cmp, e_chain, e_ife, e_ix, e_sl, e_tup, e_lst, e_call, e_bi, e_isi, es_nil, es_cons, eo_no, eo_so, eS_seq, eS_rng1, eS_rng2, eS_enum, eS_zip, x_set, x_setT, x_setIx, x_aug, x_app, x_ext, x_exp, x_ret, x_retN, x_ife, x_fr, x_wh, x_brk, x_cont, x_pass, xs_nil, xs_cons, at_nx, at_rt, at_bk, at_ct, at_exc, oke, okbe, x_raise, x_tr, tr_nx, tr_rt, fin_exc, sE_comp2, fin_rt, fin_nx, g_zv, g_zo, g_s, o_z, o_s, st_z, st_s, kp_int, kp_non, kp_bl, kp_str, kp_nil, kp_noO, kp_fz, List.cons_append, sE_str, c_eqS, e_find, sd_s, ltk_find, lik_find, ltk_int, ltk_str, ltk_bl, ltk_non, ltk_glob, ltk_op, ltk_neg, ltk_not, ltk_cmp, ltk_chain, ltk_sl, ltk_tup, ltk_lst, ltk_bi, ltk_isi, ltk_comp, ltk_compIf, ltk_comp2, lik_var, lik_int, lik_str, lik_bl, lik_non, lik_glob, lik_neg, lik_not, lik_cmp, lik_chain, lik_isi, fz_noO, ls_d, fr_j, g_rsl, fr_rsl, fz_c, fr_o, fr_v, fr_n, fr_s, kp_lst, no_0, no_n, no_v, fz_nil, lS1, lS2, sE_i, sE_lst, sE_comp, sE_compIf, sE_opl, sE_sl, sE_list, sE_sorted, sE_var, sE_ix, sE_call, sE_non, sE_blv, sE_tp, lt, li, las, lis, ltS, liS, List.append_nil, List.nil_append, ad_int, sb_int, c_lt, c_le, c_gt, c_ge, c_eq, c_ne, c_is, c_no, isN, bl_bl, in_in, b_len, b_lenT, b_lenS, b_int, b_abs, b_tupL, b_tupT, b_lstT, b_lstL, ixT0, ixT1, ixT2, ixT3, is_n_int, is_n_bool, is_n_str, is_n_tuple, is_n_list, is_b_int, is_b_bool, is_b_str, is_b_tuple, is_b_list, is_i_int, is_i_bool, is_i_str, is_i_tuple, is_i_list, is_s_int, is_s_bool, is_s_str, is_s_tuple, is_s_list, is_t_int, is_t_bool, is_t_str, is_t_tuple, is_t_list, is_l_int, is_l_bool, is_l_str, is_l_tuple, is_l_list, itemsD, wp_s, wp_n, asg1, asgT, asgN, asg0, okb, oko, noxo, List.length_cons, List.length_nil, Nat.reduceAdd, Nat.reduceLT, if_true, if_false, Bool.false_eq_true, Bool.true_eq_false, Bool.not_true, Bool.not_false, decide_true, decide_false, reduceIte, len_st (l := l) (by omega), k1]
      rw [decide_eq_false h1]
      rfl
  | scr _ => exact h.elim
  | _ => simp only [e_var, e_int, e_str, e_bl, e_non, e_glob, e_op, e_neg, e_not, e_and, e_or, e_cmp, e_chain, e_ife, e_ix, e_sl, e_tup, e_lst, e_call, e_bi, e_isi, es_nil, es_cons, eo_no, eo_so, eS_seq, eS_rng1, eS_rng2, eS_enum, eS_zip, x_set, x_setT, x_setIx, x_aug, x_app, x_ext, x_exp, x_ret, x_retN, x_ife, x_fr, x_wh, x_brk, x_cont, x_pass, xs_nil, xs_cons, at_nx, at_rt, at_bk, at_ct, at_exc, oke, okbe, x_raise, x_tr, tr_nx, tr_rt, fin_exc, sE_comp2, fin_rt, fin_nx, g_zv, g_zo, g_s, o_z, o_s, st_z, st_s, kp_int, kp_non, kp_bl, kp_str, kp_nil, kp_noO, kp_fz, List.cons_append, sE_str, c_eqS, e_find, sd_s, ltk_find, lik_find, ltk_int, ltk_str, ltk_bl, ltk_non, ltk_glob, ltk_op, ltk_neg, ltk_not, ltk_cmp, ltk_chain, ltk_sl, ltk_tup, ltk_lst, ltk_bi, ltk_isi, ltk_comp, ltk_compIf, ltk_comp2, lik_var, lik_int, lik_str, lik_bl, lik_non, lik_glob, lik_neg, lik_not, lik_cmp, lik_chain, lik_isi, fz_noO, ls_d, fr_j, g_rsl, fr_rsl, fz_c, fr_o, fr_v, fr_n, fr_s, kp_lst, no_0, no_n, no_v, fz_nil, lS1, lS2, sE_i, sE_lst, sE_comp, sE_compIf, sE_opl, sE_sl, sE_list, sE_sorted, sE_var, sE_ix, sE_call, sE_non, sE_blv, sE_tp, lt, li, las, lis, ltS, liS, List.append_nil, List.nil_append, ad_int, sb_int, c_lt, c_le, c_gt, c_ge, c_eq, c_ne, c_is, c_no, isN, bl_bl, in_in, b_len, b_lenT, b_lenS, b_int, b_abs, b_tupL, b_tupT, b_lstT, b_lstL, ixT0, ixT1, ixT2, ixT3, is_n_int, is_n_bool, is_n_str, is_n_tuple, is_n_list, is_b_int, is_b_bool, is_b_str, is_b_tuple, is_b_list, is_i_int, is_i_bool, is_i_str, is_i_tuple, is_i_list, is_s_int, is_s_bool, is_s_str, is_s_tuple, is_s_list, is_t_int, is_t_bool, is_t_str, is_t_tuple, is_t_list, is_l_int, is_l_bool, is_l_str, is_l_tuple, is_l_list, itemsD, wp_s, wp_n, asg1, asgT, asgN, asg0, okb, oko, noxo, List.length_cons, List.length_nil, Nat.reduceAdd, Nat.reduceLT, if_true, if_false, Bool.false_eq_true, Bool.true_eq_false, Bool.not_true, Bool.not_false, decide_true, decide_false, reduceIte] <;> rfl
theorem check_run (n : Nat) (V : D) (h : Vok V) : T.prg.call (n + 2) "check_word" [V] = if isW V = true then .ok .non else .exc "BadWord" [V] := by
  have q : T.prg.call (n + 1) "is_word" [V] = _ := isword_run n V h
  rw [call_check_word]
  unfold b_check_word
  cases e : isW V with
  | true =>
    rw [e] at q
    rw [if_pos rfl]
    simp only [e_var, e_int, e_str, e_bl, e_non, e_glob, e_op, e_neg, e_not, e_and, e_or, e_cmp, e_chain, e_ife, e_ix, e_sl, e_tup, e_lst, e_call, e_bi, e_isi, es_nil, es_cons, eo_no, eo_so, eS_seq, eS_rng1, eS_rng2, eS_enum, eS_zip, x_set, x_setT, x_setIx, x_aug, x_app, x_ext, x_exp, x_ret, x_retN, x_ife, x_fr, x_wh, x_brk, x_cont, x_pass, xs_nil, xs_cons, at_nx, at_rt, at_bk, at_ct, at_exc, oke, okbe, x_raise, x_tr, tr_nx, tr_rt, fin_exc, sE_comp2, fin_rt, fin_nx, g_zv, g_zo, g_s, o_z, o_s, st_z, st_s, kp_int, kp_non, kp_bl, kp_str, kp_nil, kp_noO, kp_fz, List.cons_append, sE_str, c_eqS, e_find, sd_s, ltk_find, lik_find, ltk_int, ltk_str, ltk_bl, ltk_non, ltk_glob, ltk_op, ltk_neg, ltk_not, ltk_cmp, ltk_chain, ltk_sl, ltk_tup, ltk_lst, ltk_bi, ltk_isi, ltk_comp, ltk_compIf, ltk_comp2, lik_var, lik_int, lik_str, lik_bl, lik_non, lik_glob, lik_neg, lik_not, lik_cmp, lik_chain, lik_isi, fz_noO, ls_d, fr_j, g_rsl, fr_rsl, fz_c, fr_o, fr_v, fr_n, fr_s, kp_lst, no_0, no_n, no_v, fz_nil, lS1, lS2, sE_i, sE_lst, sE_comp, sE_compIf, sE_opl, sE_sl, sE_list, sE_sorted, sE_var, sE_ix, sE_call, sE_non, sE_blv, sE_tp, lt, li, las, lis, ltS, liS, List.append_nil, List.nil_append, ad_int, sb_int, c_lt, c_le, c_gt, c_ge, c_eq, c_ne, c_is, c_no, isN, bl_bl, in_in, b_len, b_lenT, b_lenS, b_int, b_abs, b_tupL, b_tupT, b_lstT, b_lstL, ixT0, ixT1, ixT2, ixT3, is_n_int, is_n_bool, is_n_str, is_n_tuple, is_n_list, is_b_int, is_b_bool, is_b_str, is_b_tuple, is_b_list, is_i_int, is_i_bool, is_i_str, is_i_tuple, is_i_list, is_s_int, is_s_bool, is_s_str, is_s_tuple, is_s_list, is_t_int, is_t_bool, is_t_str, is_t_tuple, is_t_list, is_l_int, is_l_bool, is_l_str, is_l_tuple, is_l_list, itemsD, wp_s, wp_n, asg1, asgT, asgN, asg0, okb, oko, noxo, List.length_cons, List.length_nil, Nat.reduceAdd, Nat.reduceLT, if_true, if_false, Bool.false_eq_true, Bool.true_eq_false, Bool.not_true, Bool.not_false, decide_true, decide_false, reduceIte, q]
  | false =>
    rw [e] at q
    rw [if_neg (by decide)]
    simp only [e_var, e_int, e_str, e_bl, e_non, e_glob, e_op, e_neg, e_not, e_and, e_or, e_cmp, e_chain, e_ife, e_ix, e_sl, e_tup, e_lst, e_call, e_bi, e_isi, es_nil, es_cons, eo_no, eo_so, eS_seq, eS_rng1, eS_rng2, eS_enum, eS_zip, x_set, x_setT, x_setIx, x_aug, x_app, x_ext, x_exp, x_ret, x_retN, x_ife, x_fr, x_wh, x_brk, x_cont, x_pass, xs_nil, xs_cons, at_nx, at_rt, at_bk, at_ct, at_exc, oke, okbe, x_raise, x_tr, tr_nx, tr_rt, fin_exc, sE_comp2, fin_rt, fin_nx, g_zv, g_zo, g_s, o_z, o_s, st_z, st_s, kp_int, kp_non, kp_bl, kp_str, kp_nil, kp_noO, kp_fz, List.cons_append, sE_str, c_eqS, e_find, sd_s, ltk_find, lik_find, ltk_int, ltk_str, ltk_bl, ltk_non, ltk_glob, ltk_op, ltk_neg, ltk_not, ltk_cmp, ltk_chain, ltk_sl, ltk_tup, ltk_lst, ltk_bi, ltk_isi, ltk_comp, ltk_compIf, ltk_comp2, lik_var, lik_int, lik_str, lik_bl, lik_non, lik_glob, lik_neg, lik_not, lik_cmp, lik_chain, lik_isi, fz_noO, ls_d, fr_j, g_rsl, fr_rsl, fz_c, fr_o, fr_v, fr_n, fr_s, kp_lst, no_0, no_n, no_v, fz_nil, lS1, lS2, sE_i, sE_lst, sE_comp, sE_compIf, sE_opl, sE_sl, sE_list, sE_sorted, sE_var, sE_ix, sE_call, sE_non, sE_blv, sE_tp, lt, li, las, lis, ltS, liS, List.append_nil, List.nil_append, ad_int, sb_int, c_lt, c_le, c_gt, c_ge, c_eq, c_ne, c_is, c_no, isN, bl_bl, in_in, b_len, b_lenT, b_lenS, b_int, b_abs, b_tupL, b_tupT, b_lstT, b_lstL, ixT0, ixT1, ixT2, ixT3, is_n_int, is_n_bool, is_n_str, is_n_tuple, is_n_list, is_b_int, is_b_bool, is_b_str, is_b_tuple, is_b_list, is_i_int, is_i_bool, is_i_str, is_i_tuple, is_i_list, is_s_int, is_s_bool, is_s_str, is_s_tuple, is_s_list, is_t_int, is_t_bool, is_t_str, is_t_tuple, is_t_list, is_l_int, is_l_bool, is_l_str, is_l_tuple, is_l_list, itemsD, wp_s, wp_n, asg1, asgT, asgN, asg0, okb, oko, noxo, List.length_cons, List.length_nil, Nat.reduceAdd, Nat.reduceLT, if_true, if_false, Bool.false_eq_true, Bool.true_eq_false, Bool.not_true, Bool.not_false, decide_true, decide_false, reduceIte, q]
theorem refusal_run (n : Nat) (V : D) (h : Vok V) : T.prg.call (n + 3) "_law_word_refusal" [V] = .ok (if isW V = true then .tup [.str "told", .non] else .tup [.str "raised", V, .bl true]) := by
  have q : T.prg.call (n + 2) "check_word" [V] = _ := check_run n V h
  rw [call__law_word_refusal]
  unfold b__law_word_refusal r1__law_word_refusal
  cases e : isW V with
  | true =>
    rw [e, if_pos rfl] at q
    rw [if_pos rfl]
    simp only [e_var, e_int, e_str, e_bl, e_non, e_glob, e_op, e_neg, e_not, e_and, e_or, e_cmp, e_chain, e_ife, e_ix, e_sl, e_tup, e_lst, e_call, e_bi, e_isi, es_nil, es_cons, eo_no, eo_so, eS_seq, eS_rng1, eS_rng2, eS_enum, eS_zip, x_set, x_setT, x_setIx, x_aug, x_app, x_ext, x_exp, x_ret, x_retN, x_ife, x_fr, x_wh, x_brk, x_cont, x_pass, xs_nil, xs_cons, at_nx, at_rt, at_bk, at_ct, at_exc, oke, okbe, x_raise, x_tr, tr_nx, tr_rt, fin_exc, sE_comp2, fin_rt, fin_nx, g_zv, g_zo, g_s, o_z, o_s, st_z, st_s, kp_int, kp_non, kp_bl, kp_str, kp_nil, kp_noO, kp_fz, List.cons_append, sE_str, c_eqS, e_find, sd_s, ltk_find, lik_find, ltk_int, ltk_str, ltk_bl, ltk_non, ltk_glob, ltk_op, ltk_neg, ltk_not, ltk_cmp, ltk_chain, ltk_sl, ltk_tup, ltk_lst, ltk_bi, ltk_isi, ltk_comp, ltk_compIf, ltk_comp2, lik_var, lik_int, lik_str, lik_bl, lik_non, lik_glob, lik_neg, lik_not, lik_cmp, lik_chain, lik_isi, fz_noO, ls_d, fr_j, g_rsl, fr_rsl, fz_c, fr_o, fr_v, fr_n, fr_s, kp_lst, no_0, no_n, no_v, fz_nil, lS1, lS2, sE_i, sE_lst, sE_comp, sE_compIf, sE_opl, sE_sl, sE_list, sE_sorted, sE_var, sE_ix, sE_call, sE_non, sE_blv, sE_tp, lt, li, las, lis, ltS, liS, List.append_nil, List.nil_append, ad_int, sb_int, c_lt, c_le, c_gt, c_ge, c_eq, c_ne, c_is, c_no, isN, bl_bl, in_in, b_len, b_lenT, b_lenS, b_int, b_abs, b_tupL, b_tupT, b_lstT, b_lstL, ixT0, ixT1, ixT2, ixT3, is_n_int, is_n_bool, is_n_str, is_n_tuple, is_n_list, is_b_int, is_b_bool, is_b_str, is_b_tuple, is_b_list, is_i_int, is_i_bool, is_i_str, is_i_tuple, is_i_list, is_s_int, is_s_bool, is_s_str, is_s_tuple, is_s_list, is_t_int, is_t_bool, is_t_str, is_t_tuple, is_t_list, is_l_int, is_l_bool, is_l_str, is_l_tuple, is_l_list, itemsD, wp_s, wp_n, asg1, asgT, asgN, asg0, okb, oko, noxo, List.length_cons, List.length_nil, Nat.reduceAdd, Nat.reduceLT, if_true, if_false, Bool.false_eq_true, Bool.true_eq_false, Bool.not_true, Bool.not_false, decide_true, decide_false, reduceIte, q]
  | false =>
    rw [e, if_neg (by decide)] at q
    rw [if_neg (by decide)]
    simp only [e_var, e_int, e_str, e_bl, e_non, e_glob, e_op, e_neg, e_not, e_and, e_or, e_cmp, e_chain, e_ife, e_ix, e_sl, e_tup, e_lst, e_call, e_bi, e_isi, es_nil, es_cons, eo_no, eo_so, eS_seq, eS_rng1, eS_rng2, eS_enum, eS_zip, x_set, x_setT, x_setIx, x_aug, x_app, x_ext, x_exp, x_ret, x_retN, x_ife, x_fr, x_wh, x_brk, x_cont, x_pass, xs_nil, xs_cons, at_nx, at_rt, at_bk, at_ct, at_exc, oke, okbe, x_raise, x_tr, tr_nx, tr_rt, fin_exc, sE_comp2, fin_rt, fin_nx, g_zv, g_zo, g_s, o_z, o_s, st_z, st_s, kp_int, kp_non, kp_bl, kp_str, kp_nil, kp_noO, kp_fz, List.cons_append, sE_str, c_eqS, e_find, sd_s, ltk_find, lik_find, ltk_int, ltk_str, ltk_bl, ltk_non, ltk_glob, ltk_op, ltk_neg, ltk_not, ltk_cmp, ltk_chain, ltk_sl, ltk_tup, ltk_lst, ltk_bi, ltk_isi, ltk_comp, ltk_compIf, ltk_comp2, lik_var, lik_int, lik_str, lik_bl, lik_non, lik_glob, lik_neg, lik_not, lik_cmp, lik_chain, lik_isi, fz_noO, ls_d, fr_j, g_rsl, fr_rsl, fz_c, fr_o, fr_v, fr_n, fr_s, kp_lst, no_0, no_n, no_v, fz_nil, lS1, lS2, sE_i, sE_lst, sE_comp, sE_compIf, sE_opl, sE_sl, sE_list, sE_sorted, sE_var, sE_ix, sE_call, sE_non, sE_blv, sE_tp, lt, li, las, lis, ltS, liS, List.append_nil, List.nil_append, ad_int, sb_int, c_lt, c_le, c_gt, c_ge, c_eq, c_ne, c_is, c_no, isN, bl_bl, in_in, b_len, b_lenT, b_lenS, b_int, b_abs, b_tupL, b_tupT, b_lstT, b_lstL, ixT0, ixT1, ixT2, ixT3, is_n_int, is_n_bool, is_n_str, is_n_tuple, is_n_list, is_b_int, is_b_bool, is_b_str, is_b_tuple, is_b_list, is_i_int, is_i_bool, is_i_str, is_i_tuple, is_i_list, is_s_int, is_s_bool, is_s_str, is_s_tuple, is_s_list, is_t_int, is_t_bool, is_t_str, is_t_tuple, is_t_list, is_l_int, is_l_bool, is_l_str, is_l_tuple, is_l_list, itemsD, wp_s, wp_n, asg1, asgT, asgN, asg0, okb, oko, noxo, List.length_cons, List.length_nil, Nat.reduceAdd, Nat.reduceLT, if_true, if_false, Bool.false_eq_true, Bool.true_eq_false, Bool.not_true, Bool.not_false, decide_true, decide_false, reduceIte, q]
    rfl
theorem sd_ch (c : Nat) : strD (ch c) = .ok (st [c]) := rfl
theorem law_loop (n : Nat) (V : D) : ∀ (l : List Nat) (j : Option D), ∃ j' : Option D, forL (asg (.nm 1)) (exL T.prg.G (T.prg.call n) T.prg.fu l1__law_is_word) (l.map ch) [some (.v V), j.map C.v] = if (l.all fun c => decide (c ∈ LT)) = true then .nx [some (.v V), j'.map C.v] else .rt (.bl false)
  | [], j => ⟨j, rfl⟩
  | c :: l, j => by
    have sa : asg (.nm 1) (ch c) [some (.v V), j.map C.v] = .ok [some (.v V), some (.v (ch c))] := by simp only [e_var, e_int, e_str, e_bl, e_non, e_glob, e_op, e_neg, e_not, e_and, e_or, e_cmp, e_chain, e_ife, e_ix, e_sl, e_tup, e_lst, e_call, e_bi, e_isi, es_nil, es_cons, eo_no, eo_so, eS_seq, eS_rng1, eS_rng2, eS_enum, eS_zip, x_set, x_setT, x_setIx, x_aug, x_app, x_ext, x_exp, x_ret, x_retN, x_ife, x_fr, x_wh, x_brk, x_cont, x_pass, xs_nil, xs_cons, at_nx, at_rt, at_bk, at_ct, at_exc, oke, okbe, x_raise, x_tr, tr_nx, tr_rt, fin_exc, sE_comp2, fin_rt, fin_nx, g_zv, g_zo, g_s, o_z, o_s, st_z, st_s, kp_int, kp_non, kp_bl, kp_str, kp_nil, kp_noO, kp_fz, List.cons_append, sE_str, c_eqS, e_find, sd_s, ltk_find, lik_find, ltk_int, ltk_str, ltk_bl, ltk_non, ltk_glob, ltk_op, ltk_neg, ltk_not, ltk_cmp, ltk_chain, ltk_sl, ltk_tup, ltk_lst, ltk_bi, ltk_isi, ltk_comp, ltk_compIf, ltk_comp2, lik_var, lik_int, lik_str, lik_bl, lik_non, lik_glob, lik_neg, lik_not, lik_cmp, lik_chain, lik_isi, fz_noO, ls_d, fr_j, g_rsl, fr_rsl, fz_c, fr_o, fr_v, fr_n, fr_s, kp_lst, no_0, no_n, no_v, fz_nil, lS1, lS2, sE_i, sE_lst, sE_comp, sE_compIf, sE_opl, sE_sl, sE_list, sE_sorted, sE_var, sE_ix, sE_call, sE_non, sE_blv, sE_tp, lt, li, las, lis, ltS, liS, List.append_nil, List.nil_append, ad_int, sb_int, c_lt, c_le, c_gt, c_ge, c_eq, c_ne, c_is, c_no, isN, bl_bl, in_in, b_len, b_lenT, b_lenS, b_int, b_abs, b_tupL, b_tupT, b_lstT, b_lstL, ixT0, ixT1, ixT2, ixT3, is_n_int, is_n_bool, is_n_str, is_n_tuple, is_n_list, is_b_int, is_b_bool, is_b_str, is_b_tuple, is_b_list, is_i_int, is_i_bool, is_i_str, is_i_tuple, is_i_list, is_s_int, is_s_bool, is_s_str, is_s_tuple, is_s_list, is_t_int, is_t_bool, is_t_str, is_t_tuple, is_t_list, is_l_int, is_l_bool, is_l_str, is_l_tuple, is_l_list, itemsD, wp_s, wp_n, asg1, asgT, asgN, asg0, okb, oko, noxo, List.length_cons, List.length_nil, Nat.reduceAdd, Nat.reduceLT, if_true, if_false, Bool.false_eq_true, Bool.true_eq_false, Bool.not_true, Bool.not_false, decide_true, decide_false, reduceIte]
    by_cases hc : c ∈ LT
    · obtain ⟨j', e⟩ := law_loop n V l (some (ch c))
      refine ⟨j', ?_⟩
      have eb : exL T.prg.G (T.prg.call n) T.prg.fu l1__law_is_word [some (.v V), some (.v (ch c))] = .nx [some (.v V), some (.v (ch c))] := by
        have k : ¬ Txt.find (st LT) (st [c]) < 0 := by
          have := (find_st LT c).mpr hc
          omega
        unfold l1__law_is_word
        simp only [e_var, e_int, e_str, e_bl, e_non, e_glob, e_op, e_neg, e_not, e_and, e_or, e_cmp, e_chain, e_ife, e_ix, e_sl, e_tup, e_lst, e_call, e_bi, e_isi, es_nil, es_cons, eo_no, eo_so, eS_seq, eS_rng1, eS_rng2, eS_enum, eS_zip, x_set, x_setT, x_setIx, x_aug, x_app, x_ext, x_exp, x_ret, x_retN, x_ife, x_fr, x_wh, x_brk, x_cont, x_pass, xs_nil, xs_cons, at_nx, at_rt, at_bk, at_ct, at_exc, oke, okbe, x_raise, x_tr, tr_nx, tr_rt, fin_exc, sE_comp2, fin_rt, fin_nx, g_zv, g_zo, g_s, o_z, o_s, st_z, st_s, kp_int, kp_non, kp_bl, kp_str, kp_nil, kp_noO, kp_fz, List.cons_append, sE_str, c_eqS, e_find, sd_s, ltk_find, lik_find, ltk_int, ltk_str, ltk_bl, ltk_non, ltk_glob, ltk_op, ltk_neg, ltk_not, ltk_cmp, ltk_chain, ltk_sl, ltk_tup, ltk_lst, ltk_bi, ltk_isi, ltk_comp, ltk_compIf, ltk_comp2, lik_var, lik_int, lik_str, lik_bl, lik_non, lik_glob, lik_neg, lik_not, lik_cmp, lik_chain, lik_isi, fz_noO, ls_d, fr_j, g_rsl, fr_rsl, fz_c, fr_o, fr_v, fr_n, fr_s, kp_lst, no_0, no_n, no_v, fz_nil, lS1, lS2, sE_i, sE_lst, sE_comp, sE_compIf, sE_opl, sE_sl, sE_list, sE_sorted, sE_var, sE_ix, sE_call, sE_non, sE_blv, sE_tp, lt, li, las, lis, ltS, liS, List.append_nil, List.nil_append, ad_int, sb_int, c_lt, c_le, c_gt, c_ge, c_eq, c_ne, c_is, c_no, isN, bl_bl, in_in, b_len, b_lenT, b_lenS, b_int, b_abs, b_tupL, b_tupT, b_lstT, b_lstL, ixT0, ixT1, ixT2, ixT3, is_n_int, is_n_bool, is_n_str, is_n_tuple, is_n_list, is_b_int, is_b_bool, is_b_str, is_b_tuple, is_b_list, is_i_int, is_i_bool, is_i_str, is_i_tuple, is_i_list, is_s_int, is_s_bool, is_s_str, is_s_tuple, is_s_list, is_t_int, is_t_bool, is_t_str, is_t_tuple, is_t_list, is_l_int, is_l_bool, is_l_str, is_l_tuple, is_l_list, itemsD, wp_s, wp_n, asg1, asgT, asgN, asg0, okb, oko, noxo, List.length_cons, List.length_nil, Nat.reduceAdd, Nat.reduceLT, if_true, if_false, Bool.false_eq_true, Bool.true_eq_false, Bool.not_true, Bool.not_false, decide_true, decide_false, reduceIte, s_letters, sd_ch, k]
      rw [List.map_cons, forL_nx sa eb, List.all_cons, decide_eq_true hc, Bool.true_and]
      exact e
    · refine ⟨none, ?_⟩
      have eb : exL T.prg.G (T.prg.call n) T.prg.fu l1__law_is_word [some (.v V), some (.v (ch c))] = .rt (.bl false) := by
        have k := find_neg hc
        unfold l1__law_is_word
        simp only [e_var, e_int, e_str, e_bl, e_non, e_glob, e_op, e_neg, e_not, e_and, e_or, e_cmp, e_chain, e_ife, e_ix, e_sl, e_tup, e_lst, e_call, e_bi, e_isi, es_nil, es_cons, eo_no, eo_so, eS_seq, eS_rng1, eS_rng2, eS_enum, eS_zip, x_set, x_setT, x_setIx, x_aug, x_app, x_ext, x_exp, x_ret, x_retN, x_ife, x_fr, x_wh, x_brk, x_cont, x_pass, xs_nil, xs_cons, at_nx, at_rt, at_bk, at_ct, at_exc, oke, okbe, x_raise, x_tr, tr_nx, tr_rt, fin_exc, sE_comp2, fin_rt, fin_nx, g_zv, g_zo, g_s, o_z, o_s, st_z, st_s, kp_int, kp_non, kp_bl, kp_str, kp_nil, kp_noO, kp_fz, List.cons_append, sE_str, c_eqS, e_find, sd_s, ltk_find, lik_find, ltk_int, ltk_str, ltk_bl, ltk_non, ltk_glob, ltk_op, ltk_neg, ltk_not, ltk_cmp, ltk_chain, ltk_sl, ltk_tup, ltk_lst, ltk_bi, ltk_isi, ltk_comp, ltk_compIf, ltk_comp2, lik_var, lik_int, lik_str, lik_bl, lik_non, lik_glob, lik_neg, lik_not, lik_cmp, lik_chain, lik_isi, fz_noO, ls_d, fr_j, g_rsl, fr_rsl, fz_c, fr_o, fr_v, fr_n, fr_s, kp_lst, no_0, no_n, no_v, fz_nil, lS1, lS2, sE_i, sE_lst, sE_comp, sE_compIf, sE_opl, sE_sl, sE_list, sE_sorted, sE_var, sE_ix, sE_call, sE_non, sE_blv, sE_tp, lt, li, las, lis, ltS, liS, List.append_nil, List.nil_append, ad_int, sb_int, c_lt, c_le, c_gt, c_ge, c_eq, c_ne, c_is, c_no, isN, bl_bl, in_in, b_len, b_lenT, b_lenS, b_int, b_abs, b_tupL, b_tupT, b_lstT, b_lstL, ixT0, ixT1, ixT2, ixT3, is_n_int, is_n_bool, is_n_str, is_n_tuple, is_n_list, is_b_int, is_b_bool, is_b_str, is_b_tuple, is_b_list, is_i_int, is_i_bool, is_i_str, is_i_tuple, is_i_list, is_s_int, is_s_bool, is_s_str, is_s_tuple, is_s_list, is_t_int, is_t_bool, is_t_str, is_t_tuple, is_t_list, is_l_int, is_l_bool, is_l_str, is_l_tuple, is_l_list, itemsD, wp_s, wp_n, asg1, asgT, asgN, asg0, okb, oko, noxo, List.length_cons, List.length_nil, Nat.reduceAdd, Nat.reduceLT, if_true, if_false, Bool.false_eq_true, Bool.true_eq_false, Bool.not_true, Bool.not_false, decide_true, decide_false, reduceIte, s_letters, sd_ch, k]
      rw [List.map_cons, forL_rt sa eb, List.all_cons, decide_eq_false hc, Bool.false_and]
      rfl
theorem lawword_run (n : Nat) (V : D) (h : Vok V) : T.prg.call (n + 1) "_law_is_word" [V] = .ok (.bl (isW V)) := by
  rw [call__law_is_word]
  unfold b__law_is_word
  cases V with
  | str z =>
    obtain ⟨l, rfl⟩ : ∃ l, z = st l := ⟨_, (st_eta z).symm⟩
    have hl : l.length ≤ 1000 := by
      have h : (st l).length ≤ 1000 := h
      rwa [st_len] at h
    have ew : isW (.str (st l)) = isWl l := by
      show isWl (st l).cps.toList = _
      rw [st_tl]
    rw [ew]
    unfold isWl
    by_cases h1 : 1 ≤ l.length
    · by_cases h2 : l.length ≤ 12
      · have k1 : ¬ (l.length : Int) < 1 := by omega
        have k2 : ¬ (12 : Int) < (l.length : Int) := by omega
        obtain ⟨j', e⟩ := law_loop n (.str (st l)) l none
        have e : forL (asg (.nm 1)) (exL T.prg.G (T.prg.call n) T.prg.fu l1__law_is_word) (l.map ch) [some (.v (.str (st l))), none] = _ := e
        have it := items_st l
        rw [decide_eq_true h1, decide_eq_true h2, Bool.true_and, Bool.true_and]
        cases q : l.all fun c => decide (c ∈ LT) with
        | true =>
          rw [q, if_pos rfl] at e
          simp only [e_var, e_int, e_not, e_or, e_cmp, e_bi, e_isi, es_nil, es_cons, eS_seq, x_ret, x_ife, x_fr, xs_nil, xs_cons, at_nx, at_rt, fin_rt, fin_nx, g_zv, is_s_str, okb, oko, bl_bl, Bool.not_true, Bool.false_eq_true, if_false, if_true, len_st (l := l) (by omega), c_lt, c_gt, k1, k2, decide_false, it, fz_c, fz_nil, fr_v, ltS, liS, lt, li, List.append_nil, e, e_bl, reduceIte]
        | false =>
          rw [q, if_neg (by decide)] at e
          simp only [e_var, e_int, e_not, e_or, e_cmp, e_bi, e_isi, es_nil, es_cons, eS_seq, x_ret, x_ife, x_fr, xs_nil, xs_cons, at_nx, at_rt, fin_rt, fin_nx, g_zv, is_s_str, okb, oko, bl_bl, Bool.not_true, Bool.false_eq_true, if_false, if_true, len_st (l := l) (by omega), c_lt, c_gt, k1, k2, decide_false, it, fz_c, fz_nil, fr_v, ltS, liS, lt, li, List.append_nil, e, e_bl, reduceIte]
      · have k1 : ¬ (l.length : Int) < 1 := by omega
        have k2 : (12 : Int) < (l.length : Int) := by omega
        simp only [e_var, e_int, e_str, e_bl, e_non, e_glob, e_op, e_neg, e_not, e_and, e_or, e_cmp, e_chain, e_ife, e_ix, e_sl, e_tup, e_lst, e_call, e_bi, e_isi, es_nil, es_cons, eo_no, eo_so, eS_seq, eS_rng1, eS_rng2, eS_enum, eS_zip, x_set, x_setT, x_setIx, x_aug, x_app, x_ext, x_exp, x_ret, x_retN, x_ife, x_fr, x_wh, x_brk, x_cont, x_pass, xs_nil, xs_cons, at_nx, at_rt, at_bk, at_ct, at_exc, oke, okbe, x_raise, x_tr, tr_nx, tr_rt, fin_exc, sE_comp2, fin_rt, fin_nx, g_zv, g_zo, g_s, o_z, o_s, st_z, st_s, kp_int, kp_non, kp_bl, kp_str, kp_nil, kp_noO, kp_fz, List.cons_append, sE_str, c_eqS, e_find, sd_s, ltk_find, lik_find, ltk_int, ltk_str, ltk_bl, ltk_non, ltk_glob, ltk_op, ltk_neg, ltk_not, ltk_cmp, ltk_chain, ltk_sl, ltk_tup, ltk_lst, ltk_bi, ltk_isi, ltk_comp, ltk_compIf, ltk_comp2, lik_var, lik_int, lik_str, lik_bl, lik_non, lik_glob, lik_neg, lik_not, lik_cmp, lik_chain, lik_isi, fz_noO, ls_d, fr_j, g_rsl, fr_rsl, fz_c, fr_o, fr_v, fr_n, fr_s, kp_lst, no_0, no_n, no_v, fz_nil, lS1, lS2, sE_i, sE_lst, sE_comp, sE_compIf, sE_opl, sE_sl, sE_list, sE_sorted, sE_var, sE_ix, sE_call, sE_non, sE_blv, sE_tp, lt, li, las, lis, ltS, liS, List.append_nil, List.nil_append, ad_int, sb_int, c_lt, c_le, c_gt, c_ge, c_eq, c_ne, c_is, c_no, isN, bl_bl, in_in, b_len, b_lenT, b_lenS, b_int, b_abs, b_tupL, b_tupT, b_lstT, b_lstL, ixT0, ixT1, ixT2, ixT3, is_n_int, is_n_bool, is_n_str, is_n_tuple, is_n_list, is_b_int, is_b_bool, is_b_str, is_b_tuple, is_b_list, is_i_int, is_i_bool, is_i_str, is_i_tuple, is_i_list, is_s_int, is_s_bool, is_s_str, is_s_tuple, is_s_list, is_t_int, is_t_bool, is_t_str, is_t_tuple, is_t_list, is_l_int, is_l_bool, is_l_str, is_l_tuple, is_l_list, itemsD, wp_s, wp_n, asg1, asgT, asgN, asg0, okb, oko, noxo, List.length_cons, List.length_nil, Nat.reduceAdd, Nat.reduceLT, if_true, if_false, Bool.false_eq_true, Bool.true_eq_false, Bool.not_true, Bool.not_false, decide_true, decide_false, reduceIte, len_st (l := l) (by omega), k1, k2]
        rw [decide_eq_false h2, Bool.and_false]
        rfl
    · have k1 : (l.length : Int) < 1 := by omega
      simp only [e_var, e_int, e_str, e_bl, e_non, e_glob, e_op, e_neg, e_not, e_and, e_or, e_cmp, e_chain, e_ife, e_ix, e_sl, e_tup, e_lst, e_call, e_bi, e_isi, es_nil, es_cons, eo_no, eo_so, eS_seq, eS_rng1, eS_rng2, eS_enum, eS_zip, x_set, x_setT, x_setIx, x_aug, x_app, x_ext, x_exp, x_ret, x_retN, x_ife, x_fr, x_wh, x_brk, x_cont, x_pass, xs_nil, xs_cons, at_nx, at_rt, at_bk, at_ct, at_exc, oke, okbe, x_raise, x_tr, tr_nx, tr_rt, fin_exc, sE_comp2, fin_rt, fin_nx, g_zv, g_zo, g_s, o_z, o_s, st_z, st_s, kp_int, kp_non, kp_bl, kp_str, kp_nil, kp_noO, kp_fz, List.cons_append, sE_str, c_eqS, e_find, sd_s, ltk_find, lik_find, ltk_int, ltk_str, ltk_bl, ltk_non, ltk_glob, ltk_op, ltk_neg, ltk_not, ltk_cmp, ltk_chain, ltk_sl, ltk_tup, ltk_lst, ltk_bi, ltk_isi, ltk_comp, ltk_compIf, ltk_comp2, lik_var, lik_int, lik_str, lik_bl, lik_non, lik_glob, lik_neg, lik_not, lik_cmp, lik_chain, lik_isi, fz_noO, ls_d, fr_j, g_rsl, fr_rsl, fz_c, fr_o, fr_v, fr_n, fr_s, kp_lst, no_0, no_n, no_v, fz_nil, lS1, lS2, sE_i, sE_lst, sE_comp, sE_compIf, sE_opl, sE_sl, sE_list, sE_sorted, sE_var, sE_ix, sE_call, sE_non, sE_blv, sE_tp, lt, li, las, lis, ltS, liS, List.append_nil, List.nil_append, ad_int, sb_int, c_lt, c_le, c_gt, c_ge, c_eq, c_ne, c_is, c_no, isN, bl_bl, in_in, b_len, b_lenT, b_lenS, b_int, b_abs, b_tupL, b_tupT, b_lstT, b_lstL, ixT0, ixT1, ixT2, ixT3, is_n_int, is_n_bool, is_n_str, is_n_tuple, is_n_list, is_b_int, is_b_bool, is_b_str, is_b_tuple, is_b_list, is_i_int, is_i_bool, is_i_str, is_i_tuple, is_i_list, is_s_int, is_s_bool, is_s_str, is_s_tuple, is_s_list, is_t_int, is_t_bool, is_t_str, is_t_tuple, is_t_list, is_l_int, is_l_bool, is_l_str, is_l_tuple, is_l_list, itemsD, wp_s, wp_n, asg1, asgT, asgN, asg0, okb, oko, noxo, List.length_cons, List.length_nil, Nat.reduceAdd, Nat.reduceLT, if_true, if_false, Bool.false_eq_true, Bool.true_eq_false, Bool.not_true, Bool.not_false, decide_true, decide_false, reduceIte, len_st (l := l) (by omega), k1]
      rw [decide_eq_false h1]
      rfl
  | scr _ => exact h.elim
  | _ => simp only [e_var, e_int, e_str, e_bl, e_non, e_glob, e_op, e_neg, e_not, e_and, e_or, e_cmp, e_chain, e_ife, e_ix, e_sl, e_tup, e_lst, e_call, e_bi, e_isi, es_nil, es_cons, eo_no, eo_so, eS_seq, eS_rng1, eS_rng2, eS_enum, eS_zip, x_set, x_setT, x_setIx, x_aug, x_app, x_ext, x_exp, x_ret, x_retN, x_ife, x_fr, x_wh, x_brk, x_cont, x_pass, xs_nil, xs_cons, at_nx, at_rt, at_bk, at_ct, at_exc, oke, okbe, x_raise, x_tr, tr_nx, tr_rt, fin_exc, sE_comp2, fin_rt, fin_nx, g_zv, g_zo, g_s, o_z, o_s, st_z, st_s, kp_int, kp_non, kp_bl, kp_str, kp_nil, kp_noO, kp_fz, List.cons_append, sE_str, c_eqS, e_find, sd_s, ltk_find, lik_find, ltk_int, ltk_str, ltk_bl, ltk_non, ltk_glob, ltk_op, ltk_neg, ltk_not, ltk_cmp, ltk_chain, ltk_sl, ltk_tup, ltk_lst, ltk_bi, ltk_isi, ltk_comp, ltk_compIf, ltk_comp2, lik_var, lik_int, lik_str, lik_bl, lik_non, lik_glob, lik_neg, lik_not, lik_cmp, lik_chain, lik_isi, fz_noO, ls_d, fr_j, g_rsl, fr_rsl, fz_c, fr_o, fr_v, fr_n, fr_s, kp_lst, no_0, no_n, no_v, fz_nil, lS1, lS2, sE_i, sE_lst, sE_comp, sE_compIf, sE_opl, sE_sl, sE_list, sE_sorted, sE_var, sE_ix, sE_call, sE_non, sE_blv, sE_tp, lt, li, las, lis, ltS, liS, List.append_nil, List.nil_append, ad_int, sb_int, c_lt, c_le, c_gt, c_ge, c_eq, c_ne, c_is, c_no, isN, bl_bl, in_in, b_len, b_lenT, b_lenS, b_int, b_abs, b_tupL, b_tupT, b_lstT, b_lstL, ixT0, ixT1, ixT2, ixT3, is_n_int, is_n_bool, is_n_str, is_n_tuple, is_n_list, is_b_int, is_b_bool, is_b_str, is_b_tuple, is_b_list, is_i_int, is_i_bool, is_i_str, is_i_tuple, is_i_list, is_s_int, is_s_bool, is_s_str, is_s_tuple, is_s_list, is_t_int, is_t_bool, is_t_str, is_t_tuple, is_t_list, is_l_int, is_l_bool, is_l_str, is_l_tuple, is_l_list, itemsD, wp_s, wp_n, asg1, asgT, asgN, asg0, okb, oko, noxo, List.length_cons, List.length_nil, Nat.reduceAdd, Nat.reduceLT, if_true, if_false, Bool.false_eq_true, Bool.true_eq_false, Bool.not_true, Bool.not_false, decide_true, decide_false, reduceIte] <;> rfl
end K01
namespace K01
open PySem L2 PyI
theorem s_empty : ("" : Str) = st [] := by decide
theorem s_nl : ("\n" : Str) = st [10] := by decide
theorem s_sp : (" " : Str) = st [32] := by decide
theorem s_A : ("A" : Str) = st [65] := by decide
def L13 : List Nat := [97, 98, 99, 100, 101, 102, 103, 104, 105, 106, 107, 108, 109]
theorem s_13 : ("abcdefghijklm" : Str) = st L13 := by decide
def SG : List Nat := [65, 90, 48, 57, 123, 64, 95, 45, 32, 10, 126, 46]
theorem s_signs : ([.str "A", .str "Z", .str "0", .str "9", .str "{", .str "@", .str "_", .str "-", .str " ", .str "\n", .str "~", .str "."] : List D) = SG.map ch := by
  have h : (["A", "Z", "0", "9", "{", "@", "_", "-", " ", "\n", "~", "."] : List Str) = SG.map fun c => st [c] := by decide
  have e : ([.str "A", .str "Z", .str "0", .str "9", .str "{", .str "@", .str "_", .str "-", .str " ", .str "\n", .str "~", .str "."] : List D) = (["A", "Z", "0", "9", "{", "@", "_", "-", " ", "\n", "~", "."] : List Str).map D.str := rfl
  rw [e, h, List.map_map]
  rfl
/-- a list of signs, asked for one -/
theorem ix_ch {l : List Nat} {p : Nat} (h : p < l.length) : ixD (.lst (l.map ch)) (.int p) = .ok (ch (l.getD p 0)) := by
  refine ix_lst rfl ?_
  rw [List.getElem?_map, List.getD_eq_getElem?_getD, List.getElem?_eq_getElem h]
  rfl
theorem ch_st (c : Nat) : ch c = .str (st [c]) := rfl
/-! ### the word drawn -/
theorem letters_run (n many : Nat) (xs : List Nat) (hx : xs.length = 7) (h1 : many ≤ 12) : ∃ l : List Nat, l.length = many ∧ (∀ c ∈ l, c ∈ LT) ∧ T.prg.call (n + 1) "_law_letters" [.lst (xs.map nm), .int many] = .ok (.str (st l)) := by
  rw [call__law_letters]
  unfold b__law_letters
  have go := forL_go (g := asg (.nm 5)) (f := exL T.prg.G (T.prg.call n) T.prg.fu l1__law_letters) ((List.range many).map fun (i : Nat) => D.int i)
    (fun i τ => ∃ (l : List Nat) (rest : Nat) (l5 : Option D), τ = [some (.v (.lst (xs.map nm))), some (.v (.int many)), some (.v (.str (st LT))), some (.v (.str (st l))), some (.v (.int rest)), l5.map C.v] ∧ l.length = i ∧ ∀ c ∈ l, c ∈ LT)
    [some (.v (.lst (xs.map nm))), some (.v (.int many)), some (.v (.str (st LT))), some (.v (.str (st []))), some (.v (.int 0)), none] ⟨[], 0, none, rfl, rfl, fun c hc => by cases hc⟩ (by
      rintro i d τ hd ⟨l, rest, l5, rfl, hl, hc⟩
      obtain ⟨hi, rfl⟩ := rg_get hd
      refine ⟨[some (.v (.lst (xs.map nm))), some (.v (.int many)), some (.v (.str (st LT))), some (.v (.str (st l))), some (.v (.int rest)), some (.v (.int i))], by simp only [e_var, e_int, e_str, e_bl, e_non, e_glob, e_op, e_neg, e_not, e_and, e_or, e_cmp, e_chain, e_ife, e_ix, e_sl, e_tup, e_lst, e_call, e_bi, e_isi, es_nil, es_cons, eo_no, eo_so, eS_seq, eS_rng1, eS_rng2, eS_enum, eS_zip, x_set, x_setT, x_setIx, x_aug, x_app, x_ext, x_exp, x_ret, x_retN, x_ife, x_fr, x_wh, x_brk, x_cont, x_pass, xs_nil, xs_cons, at_nx, at_rt, at_bk, at_ct, at_exc, oke, okbe, x_raise, x_tr, tr_nx, tr_rt, fin_exc, sE_comp2, fin_rt, fin_nx, g_zv, g_zo, g_s, o_z, o_s, st_z, st_s, kp_int, kp_non, kp_bl, kp_str, kp_nil, kp_noO, kp_fz, List.cons_append, sE_str, c_eqS, e_find, sd_s, ltk_find, lik_find, ltk_int, ltk_str, ltk_bl, ltk_non, ltk_glob, ltk_op, ltk_neg, ltk_not, ltk_cmp, ltk_chain, ltk_sl, ltk_tup, ltk_lst, ltk_bi, ltk_isi, ltk_comp, ltk_compIf, ltk_comp2, lik_var, lik_int, lik_str, lik_bl, lik_non, lik_glob, lik_neg, lik_not, lik_cmp, lik_chain, lik_isi, fz_noO, ls_d, fr_j, g_rsl, fr_rsl, fz_c, fr_o, fr_v, fr_n, fr_s, kp_lst, no_0, no_n, no_v, fz_nil, lS1, lS2, sE_i, sE_lst, sE_comp, sE_compIf, sE_opl, sE_sl, sE_list, sE_sorted, sE_var, sE_ix, sE_call, sE_non, sE_blv, sE_tp, lt, li, las, lis, ltS, liS, List.append_nil, List.nil_append, ad_int, sb_int, c_lt, c_le, c_gt, c_ge, c_eq, c_ne, c_is, c_no, isN, bl_bl, in_in, b_len, b_lenT, b_lenS, b_int, b_abs, b_tupL, b_tupT, b_lstT, b_lstL, ixT0, ixT1, ixT2, ixT3, is_n_int, is_n_bool, is_n_str, is_n_tuple, is_n_list, is_b_int, is_b_bool, is_b_str, is_b_tuple, is_b_list, is_i_int, is_i_bool, is_i_str, is_i_tuple, is_i_list, is_s_int, is_s_bool, is_s_str, is_s_tuple, is_s_list, is_t_int, is_t_bool, is_t_str, is_t_tuple, is_t_list, is_l_int, is_l_bool, is_l_str, is_l_tuple, is_l_list, itemsD, wp_s, wp_n, asg1, asgT, asgN, asg0, okb, oko, noxo, List.length_cons, List.length_nil, Nat.reduceAdd, Nat.reduceLT, if_true, if_false, Bool.false_eq_true, Bool.true_eq_false, Bool.not_true, Bool.not_false, decide_true, decide_false, reduceIte], ?_⟩
      have body : ∀ r : Nat, ∃ (l' : List Nat) (rest' : Nat), exL T.prg.G (T.prg.call n) T.prg.fu (.cons (.set 3 (.op .add (.var 3) (.ix (.var 2) (.op .mod (.bi .int (.cons (.var 4) .nil)) (.int 26))))) (.cons (.set 4 (.op .fdiv (.var 4) (.int 26))) .nil)) [some (.v (.lst (xs.map nm))), some (.v (.int many)), some (.v (.str (st LT))), some (.v (.str (st l))), some (.v (.int r)), some (.v (.int i))] = .nx [some (.v (.lst (xs.map nm))), some (.v (.int many)), some (.v (.str (st LT))), some (.v (.str (st l'))), some (.v (.int rest')), some (.v (.int i))] ∧ l'.length = i + 1 ∧ ∀ c ∈ l', c ∈ LT := fun r => by
        obtain ⟨q, eq⟩ : ∃ q, r % 26 = q := ⟨_, rfl⟩
        have e1 : (r : Int) % 26 = (q : Int) := by omega
        have e2 : (r : Int) / 26 = ((r / 26 : Nat) : Int) := by omega
        have ql : q < LT.length := by show q < 26; omega
        have ix : ixD (.str (st LT)) (.int (q : Int)) = .ok (ch LT[q]) := ix_st (by decide) rfl (List.getElem?_eq_getElem ql)
        have ad : opD .add (.str (st l)) (ch LT[q]) = .ok (.str (st (l ++ [LT[q]]))) := ad_st (by rw [List.length_singleton]; omega)
        refine ⟨l ++ [LT[q]], r / 26, ?_, by rw [List.length_append, hl]; rfl, fun c hc' => ?_⟩
        · simp only [e_var, e_int, e_str, e_bl, e_non, e_glob, e_op, e_neg, e_not, e_and, e_or, e_cmp, e_chain, e_ife, e_ix, e_sl, e_tup, e_lst, e_call, e_bi, e_isi, es_nil, es_cons, eo_no, eo_so, eS_seq, eS_rng1, eS_rng2, eS_enum, eS_zip, x_set, x_setT, x_setIx, x_aug, x_app, x_ext, x_exp, x_ret, x_retN, x_ife, x_fr, x_wh, x_brk, x_cont, x_pass, xs_nil, xs_cons, at_nx, at_rt, at_bk, at_ct, at_exc, oke, okbe, x_raise, x_tr, tr_nx, tr_rt, fin_exc, sE_comp2, fin_rt, fin_nx, g_zv, g_zo, g_s, o_z, o_s, st_z, st_s, kp_int, kp_non, kp_bl, kp_str, kp_nil, kp_noO, kp_fz, List.cons_append, sE_str, c_eqS, e_find, sd_s, ltk_find, lik_find, ltk_int, ltk_str, ltk_bl, ltk_non, ltk_glob, ltk_op, ltk_neg, ltk_not, ltk_cmp, ltk_chain, ltk_sl, ltk_tup, ltk_lst, ltk_bi, ltk_isi, ltk_comp, ltk_compIf, ltk_comp2, lik_var, lik_int, lik_str, lik_bl, lik_non, lik_glob, lik_neg, lik_not, lik_cmp, lik_chain, lik_isi, fz_noO, ls_d, fr_j, g_rsl, fr_rsl, fz_c, fr_o, fr_v, fr_n, fr_s, kp_lst, no_0, no_n, no_v, fz_nil, lS1, lS2, sE_i, sE_lst, sE_comp, sE_compIf, sE_opl, sE_sl, sE_list, sE_sorted, sE_var, sE_ix, sE_call, sE_non, sE_blv, sE_tp, lt, li, las, lis, ltS, liS, List.append_nil, List.nil_append, ad_int, sb_int, c_lt, c_le, c_gt, c_ge, c_eq, c_ne, c_is, c_no, isN, bl_bl, in_in, b_len, b_lenT, b_lenS, b_int, b_abs, b_tupL, b_tupT, b_lstT, b_lstL, ixT0, ixT1, ixT2, ixT3, is_n_int, is_n_bool, is_n_str, is_n_tuple, is_n_list, is_b_int, is_b_bool, is_b_str, is_b_tuple, is_b_list, is_i_int, is_i_bool, is_i_str, is_i_tuple, is_i_list, is_s_int, is_s_bool, is_s_str, is_s_tuple, is_s_list, is_t_int, is_t_bool, is_t_str, is_t_tuple, is_t_list, is_l_int, is_l_bool, is_l_str, is_l_tuple, is_l_list, itemsD, wp_s, wp_n, asg1, asgT, asgN, asg0, okb, oko, noxo, List.length_cons, List.length_nil, Nat.reduceAdd, Nat.reduceLT, if_true, if_false, Bool.false_eq_true, Bool.true_eq_false, Bool.not_true, Bool.not_false, decide_true, decide_false, reduceIte, md_int (i := (r : Int)) (j := 26) (by decide), e1, ix, ad, fd_int (i := (r : Int)) (j := 26) (by decide), e2]
        · rcases List.mem_append.mp hc' with z | z
          · exact hc c z
          · rw [List.mem_singleton.mp z]; exact List.getElem_mem ql
      by_cases h4 : i % 4 = 0
      · obtain ⟨l', rest', e, hl', hc'⟩ := body (xs.getD (i / 4) 0)
        refine ⟨_, .inl ?_, l', rest', some (.int i), rfl, hl', hc'⟩
        have e4 : (i : Int) % 4 = 0 := by omega
        have e5 : (i : Int) / 4 = ((i / 4 : Nat) : Int) := by omega
        have ix := ix_lst (xs := xs.map nm) (i := ((i / 4 : Nat) : Int)) (n := i / 4) rfl (nget (by omega))
        have e' := e
        unfold l1__law_letters
        rw [xs_cons]
        have st1 : exS T.prg.G (T.prg.call n) T.prg.fu (.ife (.cmp .eq (.op .mod (.var 5) (.int 4)) (.int 0)) (.cons (.set 4 (.ix (.var 0) (.op .fdiv (.var 5) (.int 4)))) .nil) (.nil)) [some (.v (.lst (xs.map nm))), some (.v (.int many)), some (.v (.str (st LT))), some (.v (.str (st l))), some (.v (.int rest)), some (.v (.int i))] = .nx [some (.v (.lst (xs.map nm))), some (.v (.int many)), some (.v (.str (st LT))), some (.v (.str (st l))), some (.v (.int (xs.getD (i / 4) 0 : Nat))), some (.v (.int i))] := by
          simp only [e_var, e_int, e_str, e_bl, e_non, e_glob, e_op, e_neg, e_not, e_and, e_or, e_cmp, e_chain, e_ife, e_ix, e_sl, e_tup, e_lst, e_call, e_bi, e_isi, es_nil, es_cons, eo_no, eo_so, eS_seq, eS_rng1, eS_rng2, eS_enum, eS_zip, x_set, x_setT, x_setIx, x_aug, x_app, x_ext, x_exp, x_ret, x_retN, x_ife, x_fr, x_wh, x_brk, x_cont, x_pass, xs_nil, xs_cons, at_nx, at_rt, at_bk, at_ct, at_exc, oke, okbe, x_raise, x_tr, tr_nx, tr_rt, fin_exc, sE_comp2, fin_rt, fin_nx, g_zv, g_zo, g_s, o_z, o_s, st_z, st_s, kp_int, kp_non, kp_bl, kp_str, kp_nil, kp_noO, kp_fz, List.cons_append, sE_str, c_eqS, e_find, sd_s, ltk_find, lik_find, ltk_int, ltk_str, ltk_bl, ltk_non, ltk_glob, ltk_op, ltk_neg, ltk_not, ltk_cmp, ltk_chain, ltk_sl, ltk_tup, ltk_lst, ltk_bi, ltk_isi, ltk_comp, ltk_compIf, ltk_comp2, lik_var, lik_int, lik_str, lik_bl, lik_non, lik_glob, lik_neg, lik_not, lik_cmp, lik_chain, lik_isi, fz_noO, ls_d, fr_j, g_rsl, fr_rsl, fz_c, fr_o, fr_v, fr_n, fr_s, kp_lst, no_0, no_n, no_v, fz_nil, lS1, lS2, sE_i, sE_lst, sE_comp, sE_compIf, sE_opl, sE_sl, sE_list, sE_sorted, sE_var, sE_ix, sE_call, sE_non, sE_blv, sE_tp, lt, li, las, lis, ltS, liS, List.append_nil, List.nil_append, ad_int, sb_int, c_lt, c_le, c_gt, c_ge, c_eq, c_ne, c_is, c_no, isN, bl_bl, in_in, b_len, b_lenT, b_lenS, b_int, b_abs, b_tupL, b_tupT, b_lstT, b_lstL, ixT0, ixT1, ixT2, ixT3, is_n_int, is_n_bool, is_n_str, is_n_tuple, is_n_list, is_b_int, is_b_bool, is_b_str, is_b_tuple, is_b_list, is_i_int, is_i_bool, is_i_str, is_i_tuple, is_i_list, is_s_int, is_s_bool, is_s_str, is_s_tuple, is_s_list, is_t_int, is_t_bool, is_t_str, is_t_tuple, is_t_list, is_l_int, is_l_bool, is_l_str, is_l_tuple, is_l_list, itemsD, wp_s, wp_n, asg1, asgT, asgN, asg0, okb, oko, noxo, List.length_cons, List.length_nil, Nat.reduceAdd, Nat.reduceLT, if_true, if_false, Bool.false_eq_true, Bool.true_eq_false, Bool.not_true, Bool.not_false, decide_true, decide_false, reduceIte, md_int (i := (i : Int)) (j := 4) (by decide), e4, fd_int (i := (i : Int)) (j := 4) (by decide), e5, ix]
        rw [st1, at_nx]
        exact e
      · obtain ⟨l', rest', e, hl', hc'⟩ := body rest
        refine ⟨_, .inl ?_, l', rest', some (.int i), rfl, hl', hc'⟩
        have e4 : ¬ (i : Int) % 4 = 0 := by omega
        unfold l1__law_letters
        rw [xs_cons]
        have st1 : exS T.prg.G (T.prg.call n) T.prg.fu (.ife (.cmp .eq (.op .mod (.var 5) (.int 4)) (.int 0)) (.cons (.set 4 (.ix (.var 0) (.op .fdiv (.var 5) (.int 4)))) .nil) (.nil)) [some (.v (.lst (xs.map nm))), some (.v (.int many)), some (.v (.str (st LT))), some (.v (.str (st l))), some (.v (.int rest)), some (.v (.int i))] = .nx [some (.v (.lst (xs.map nm))), some (.v (.int many)), some (.v (.str (st LT))), some (.v (.str (st l))), some (.v (.int rest)), some (.v (.int i))] := by
          simp only [e_var, e_int, e_str, e_bl, e_non, e_glob, e_op, e_neg, e_not, e_and, e_or, e_cmp, e_chain, e_ife, e_ix, e_sl, e_tup, e_lst, e_call, e_bi, e_isi, es_nil, es_cons, eo_no, eo_so, eS_seq, eS_rng1, eS_rng2, eS_enum, eS_zip, x_set, x_setT, x_setIx, x_aug, x_app, x_ext, x_exp, x_ret, x_retN, x_ife, x_fr, x_wh, x_brk, x_cont, x_pass, xs_nil, xs_cons, at_nx, at_rt, at_bk, at_ct, at_exc, oke, okbe, x_raise, x_tr, tr_nx, tr_rt, fin_exc, sE_comp2, fin_rt, fin_nx, g_zv, g_zo, g_s, o_z, o_s, st_z, st_s, kp_int, kp_non, kp_bl, kp_str, kp_nil, kp_noO, kp_fz, List.cons_append, sE_str, c_eqS, e_find, sd_s, ltk_find, lik_find, ltk_int, ltk_str, ltk_bl, ltk_non, ltk_glob, ltk_op, ltk_neg, ltk_not, ltk_cmp, ltk_chain, ltk_sl, ltk_tup, ltk_lst, ltk_bi, ltk_isi, ltk_comp, ltk_compIf, ltk_comp2, lik_var, lik_int, lik_str, lik_bl, lik_non, lik_glob, lik_neg, lik_not, lik_cmp, lik_chain, lik_isi, fz_noO, ls_d, fr_j, g_rsl, fr_rsl, fz_c, fr_o, fr_v, fr_n, fr_s, kp_lst, no_0, no_n, no_v, fz_nil, lS1, lS2, sE_i, sE_lst, sE_comp, sE_compIf, sE_opl, sE_sl, sE_list, sE_sorted, sE_var, sE_ix, sE_call, sE_non, sE_blv, sE_tp, lt, li, las, lis, ltS, liS, List.append_nil, List.nil_append, ad_int, sb_int, c_lt, c_le, c_gt, c_ge, c_eq, c_ne, c_is, c_no, isN, bl_bl, in_in, b_len, b_lenT, b_lenS, b_int, b_abs, b_tupL, b_tupT, b_lstT, b_lstL, ixT0, ixT1, ixT2, ixT3, is_n_int, is_n_bool, is_n_str, is_n_tuple, is_n_list, is_b_int, is_b_bool, is_b_str, is_b_tuple, is_b_list, is_i_int, is_i_bool, is_i_str, is_i_tuple, is_i_list, is_s_int, is_s_bool, is_s_str, is_s_tuple, is_s_list, is_t_int, is_t_bool, is_t_str, is_t_tuple, is_t_list, is_l_int, is_l_bool, is_l_str, is_l_tuple, is_l_list, itemsD, wp_s, wp_n, asg1, asgT, asgN, asg0, okb, oko, noxo, List.length_cons, List.length_nil, Nat.reduceAdd, Nat.reduceLT, if_true, if_false, Bool.false_eq_true, Bool.true_eq_false, Bool.not_true, Bool.not_false, decide_true, decide_false, reduceIte, md_int (i := (i : Int)) (j := 4) (by decide), decide_eq_false e4]
        rw [st1, at_nx]
        exact e)
  obtain ⟨τ, e, l, rest, l5, rfl, hl, hc⟩ := go
  rw [rg_len] at hl
  refine ⟨l, hl, hc, ?_⟩
  simp only [e_var, e_int, e_str, e_bl, e_non, e_glob, e_op, e_neg, e_not, e_and, e_or, e_cmp, e_chain, e_ife, e_ix, e_sl, e_tup, e_lst, e_call, e_bi, e_isi, es_nil, es_cons, eo_no, eo_so, eS_seq, eS_rng1, eS_rng2, eS_enum, eS_zip, x_set, x_setT, x_setIx, x_aug, x_app, x_ext, x_exp, x_ret, x_retN, x_ife, x_fr, x_wh, x_brk, x_cont, x_pass, xs_nil, xs_cons, at_nx, at_rt, at_bk, at_ct, at_exc, oke, okbe, x_raise, x_tr, tr_nx, tr_rt, fin_exc, sE_comp2, fin_rt, fin_nx, g_zv, g_zo, g_s, o_z, o_s, st_z, st_s, kp_int, kp_non, kp_bl, kp_str, kp_nil, kp_noO, kp_fz, List.cons_append, sE_str, c_eqS, e_find, sd_s, ltk_find, lik_find, ltk_int, ltk_str, ltk_bl, ltk_non, ltk_glob, ltk_op, ltk_neg, ltk_not, ltk_cmp, ltk_chain, ltk_sl, ltk_tup, ltk_lst, ltk_bi, ltk_isi, ltk_comp, ltk_compIf, ltk_comp2, lik_var, lik_int, lik_str, lik_bl, lik_non, lik_glob, lik_neg, lik_not, lik_cmp, lik_chain, lik_isi, fz_noO, ls_d, fr_j, g_rsl, fr_rsl, fz_c, fr_o, fr_v, fr_n, fr_s, kp_lst, no_0, no_n, no_v, fz_nil, lS1, lS2, sE_i, sE_lst, sE_comp, sE_compIf, sE_opl, sE_sl, sE_list, sE_sorted, sE_var, sE_ix, sE_call, sE_non, sE_blv, sE_tp, lt, li, las, lis, ltS, liS, List.append_nil, List.nil_append, ad_int, sb_int, c_lt, c_le, c_gt, c_ge, c_eq, c_ne, c_is, c_no, isN, bl_bl, in_in, b_len, b_lenT, b_lenS, b_int, b_abs, b_tupL, b_tupT, b_lstT, b_lstL, ixT0, ixT1, ixT2, ixT3, is_n_int, is_n_bool, is_n_str, is_n_tuple, is_n_list, is_b_int, is_b_bool, is_b_str, is_b_tuple, is_b_list, is_i_int, is_i_bool, is_i_str, is_i_tuple, is_i_list, is_s_int, is_s_bool, is_s_str, is_s_tuple, is_s_list, is_t_int, is_t_bool, is_t_str, is_t_tuple, is_t_list, is_l_int, is_l_bool, is_l_str, is_l_tuple, is_l_list, itemsD, wp_s, wp_n, asg1, asgT, asgN, asg0, okb, oko, noxo, List.length_cons, List.length_nil, Nat.reduceAdd, Nat.reduceLT, if_true, if_false, Bool.false_eq_true, Bool.true_eq_false, Bool.not_true, Bool.not_false, decide_true, decide_false, reduceIte, s_letters, s_empty, rng0 (m := many) (by omega), e]
/-! ### the value drawn -/
theorem value_run (n : Nat) (l : List Nat) (l1 : 1 ≤ l.length) (l2 : l.length ≤ 12) (choice place letter : Nat) : ∃ V, Sd 1 V ∧ Vok V ∧ T.prg.call (n + 1) "_law_value" [.str (st l), .int choice, .int place, .int letter] = .ok V := by
  rw [call__law_value]
  unfold b__law_value t3__law_value t4__law_value t5__law_value t6__law_value
  obtain ⟨a, ea⟩ : ∃ a, place % l.length = a := ⟨_, rfl⟩
  have al : a < l.length := by rw [← ea]; exact Nat.mod_lt _ (by omega)
  have e1 : (place : Int) % (l.length : Int) = (a : Int) := by rw [← ea, Int.natCast_emod]
  obtain ⟨c, ec⟩ : ∃ c, choice % 24 = c := ⟨_, rfl⟩
  have e2 : (choice : Int) % 24 = (c : Int) := by omega
  have vst : ∀ k : List Nat, k.length ≤ 1000 → Vok (.str (st k)) := fun k hk => by
    show (st k).length ≤ 1000
    rw [st_len]
    exact hk
  have ln := len_st (l := l) (by omega)
  by_cases h12 : (c : Int) < 12
  · refine ⟨.str (st l), .str _ _, vst l (by omega), ?_⟩
    simp only [e_var, e_int, e_str, e_bl, e_non, e_glob, e_op, e_neg, e_not, e_and, e_or, e_cmp, e_chain, e_ife, e_ix, e_sl, e_tup, e_lst, e_call, e_bi, e_isi, es_nil, es_cons, eo_no, eo_so, eS_seq, eS_rng1, eS_rng2, eS_enum, eS_zip, x_set, x_setT, x_setIx, x_aug, x_app, x_ext, x_exp, x_ret, x_retN, x_ife, x_fr, x_wh, x_brk, x_cont, x_pass, xs_nil, xs_cons, at_nx, at_rt, at_bk, at_ct, at_exc, oke, okbe, x_raise, x_tr, tr_nx, tr_rt, fin_exc, sE_comp2, fin_rt, fin_nx, g_zv, g_zo, g_s, o_z, o_s, st_z, st_s, kp_int, kp_non, kp_bl, kp_str, kp_nil, kp_noO, kp_fz, List.cons_append, sE_str, c_eqS, e_find, sd_s, ltk_find, lik_find, ltk_int, ltk_str, ltk_bl, ltk_non, ltk_glob, ltk_op, ltk_neg, ltk_not, ltk_cmp, ltk_chain, ltk_sl, ltk_tup, ltk_lst, ltk_bi, ltk_isi, ltk_comp, ltk_compIf, ltk_comp2, lik_var, lik_int, lik_str, lik_bl, lik_non, lik_glob, lik_neg, lik_not, lik_cmp, lik_chain, lik_isi, fz_noO, ls_d, fr_j, g_rsl, fr_rsl, fz_c, fr_o, fr_v, fr_n, fr_s, kp_lst, no_0, no_n, no_v, fz_nil, lS1, lS2, sE_i, sE_lst, sE_comp, sE_compIf, sE_opl, sE_sl, sE_list, sE_sorted, sE_var, sE_ix, sE_call, sE_non, sE_blv, sE_tp, lt, li, las, lis, ltS, liS, List.append_nil, List.nil_append, ad_int, sb_int, c_lt, c_le, c_gt, c_ge, c_eq, c_ne, c_is, c_no, isN, bl_bl, in_in, b_len, b_lenT, b_lenS, b_int, b_abs, b_tupL, b_tupT, b_lstT, b_lstL, ixT0, ixT1, ixT2, ixT3, is_n_int, is_n_bool, is_n_str, is_n_tuple, is_n_list, is_b_int, is_b_bool, is_b_str, is_b_tuple, is_b_list, is_i_int, is_i_bool, is_i_str, is_i_tuple, is_i_list, is_s_int, is_s_bool, is_s_str, is_s_tuple, is_s_list, is_t_int, is_t_bool, is_t_str, is_t_tuple, is_t_list, is_l_int, is_l_bool, is_l_str, is_l_tuple, is_l_list, itemsD, wp_s, wp_n, asg1, asgT, asgN, asg0, okb, oko, noxo, List.length_cons, List.length_nil, Nat.reduceAdd, Nat.reduceLT, if_true, if_false, Bool.false_eq_true, Bool.true_eq_false, Bool.not_true, Bool.not_false, decide_true, decide_false, reduceIte, ln, md_int (i := (place : Int)) (j := (l.length : Int)) (by omega), e1, s_signs, md_int (i := (choice : Int)) (j := 24) (by decide), e2, h12]
  · by_cases h18 : (c : Int) < 18
    · obtain ⟨p, ep⟩ : ∃ p, letter % 12 = p := ⟨_, rfl⟩
      have e3 : (letter : Int) % 12 = (p : Int) := by omega
      have ix := ix_ch (l := SG) (p := p) (by show p < 12; omega)
      have c1 := cut_lo (l := l) (k := a) (by omega) (by omega)
      have c2 : slD (.str (st l)) (some ((a : Int) + 1)) none = .ok (.str (st (l.drop (a + 1)))) := cut_hi (l := l) (k := a + 1) (by omega) (by omega)
      have a1 : opD .add (.str (st (l.take a))) (ch (SG.getD p 0)) = .ok (.str (st (l.take a ++ [SG.getD p 0]))) := ad_st (by rw [List.length_take, List.length_singleton]; omega)
      have a2 : opD .add (.str (st (l.take a ++ [SG.getD p 0]))) (.str (st (l.drop (a + 1)))) = .ok (.str (st (l.take a ++ [SG.getD p 0] ++ l.drop (a + 1)))) := ad_st (by rw [List.length_append, List.length_take, List.length_singleton, List.length_drop]; omega)
      refine ⟨_, .str _ _, vst (l.take a ++ [SG.getD p 0] ++ l.drop (a + 1)) (by rw [List.length_append, List.length_append, List.length_take, List.length_singleton, List.length_drop]; omega), ?_⟩
      simp only [e_var, e_int, e_str, e_bl, e_non, e_glob, e_op, e_neg, e_not, e_and, e_or, e_cmp, e_chain, e_ife, e_ix, e_sl, e_tup, e_lst, e_call, e_bi, e_isi, es_nil, es_cons, eo_no, eo_so, eS_seq, eS_rng1, eS_rng2, eS_enum, eS_zip, x_set, x_setT, x_setIx, x_aug, x_app, x_ext, x_exp, x_ret, x_retN, x_ife, x_fr, x_wh, x_brk, x_cont, x_pass, xs_nil, xs_cons, at_nx, at_rt, at_bk, at_ct, at_exc, oke, okbe, x_raise, x_tr, tr_nx, tr_rt, fin_exc, sE_comp2, fin_rt, fin_nx, g_zv, g_zo, g_s, o_z, o_s, st_z, st_s, kp_int, kp_non, kp_bl, kp_str, kp_nil, kp_noO, kp_fz, List.cons_append, sE_str, c_eqS, e_find, sd_s, ltk_find, lik_find, ltk_int, ltk_str, ltk_bl, ltk_non, ltk_glob, ltk_op, ltk_neg, ltk_not, ltk_cmp, ltk_chain, ltk_sl, ltk_tup, ltk_lst, ltk_bi, ltk_isi, ltk_comp, ltk_compIf, ltk_comp2, lik_var, lik_int, lik_str, lik_bl, lik_non, lik_glob, lik_neg, lik_not, lik_cmp, lik_chain, lik_isi, fz_noO, ls_d, fr_j, g_rsl, fr_rsl, fz_c, fr_o, fr_v, fr_n, fr_s, kp_lst, no_0, no_n, no_v, fz_nil, lS1, lS2, sE_i, sE_lst, sE_comp, sE_compIf, sE_opl, sE_sl, sE_list, sE_sorted, sE_var, sE_ix, sE_call, sE_non, sE_blv, sE_tp, lt, li, las, lis, ltS, liS, List.append_nil, List.nil_append, ad_int, sb_int, c_lt, c_le, c_gt, c_ge, c_eq, c_ne, c_is, c_no, isN, bl_bl, in_in, b_len, b_lenT, b_lenS, b_int, b_abs, b_tupL, b_tupT, b_lstT, b_lstL, ixT0, ixT1, ixT2, ixT3, is_n_int, is_n_bool, is_n_str, is_n_tuple, is_n_list, is_b_int, is_b_bool, is_b_str, is_b_tuple, is_b_list, is_i_int, is_i_bool, is_i_str, is_i_tuple, is_i_list, is_s_int, is_s_bool, is_s_str, is_s_tuple, is_s_list, is_t_int, is_t_bool, is_t_str, is_t_tuple, is_t_list, is_l_int, is_l_bool, is_l_str, is_l_tuple, is_l_list, itemsD, wp_s, wp_n, asg1, asgT, asgN, asg0, okb, oko, noxo, List.length_cons, List.length_nil, Nat.reduceAdd, Nat.reduceLT, if_true, if_false, Bool.false_eq_true, Bool.true_eq_false, Bool.not_true, Bool.not_false, decide_true, decide_false, reduceIte, ln, md_int (i := (place : Int)) (j := (l.length : Int)) (by omega), e1, s_signs, md_int (i := (choice : Int)) (j := 24) (by decide), e2, h12, h18, c1, md_int (i := (letter : Int)) (j := 12) (by decide), e3, ix, a1, c2, a2]
    · by_cases g18 : (c : Int) = 18
      · have a1 : opD .add (.str (st l)) (.str (st [10])) = .ok (.str (st (l ++ [10]))) := ad_st (by rw [List.length_singleton]; omega)
        refine ⟨_, .str _ _, vst (l ++ [10]) (by rw [List.length_append, List.length_singleton]; omega), ?_⟩
        simp only [e_var, e_int, e_str, e_bl, e_non, e_glob, e_op, e_neg, e_not, e_and, e_or, e_cmp, e_chain, e_ife, e_ix, e_sl, e_tup, e_lst, e_call, e_bi, e_isi, es_nil, es_cons, eo_no, eo_so, eS_seq, eS_rng1, eS_rng2, eS_enum, eS_zip, x_set, x_setT, x_setIx, x_aug, x_app, x_ext, x_exp, x_ret, x_retN, x_ife, x_fr, x_wh, x_brk, x_cont, x_pass, xs_nil, xs_cons, at_nx, at_rt, at_bk, at_ct, at_exc, oke, okbe, x_raise, x_tr, tr_nx, tr_rt, fin_exc, sE_comp2, fin_rt, fin_nx, g_zv, g_zo, g_s, o_z, o_s, st_z, st_s, kp_int, kp_non, kp_bl, kp_str, kp_nil, kp_noO, kp_fz, List.cons_append, sE_str, c_eqS, e_find, sd_s, ltk_find, lik_find, ltk_int, ltk_str, ltk_bl, ltk_non, ltk_glob, ltk_op, ltk_neg, ltk_not, ltk_cmp, ltk_chain, ltk_sl, ltk_tup, ltk_lst, ltk_bi, ltk_isi, ltk_comp, ltk_compIf, ltk_comp2, lik_var, lik_int, lik_str, lik_bl, lik_non, lik_glob, lik_neg, lik_not, lik_cmp, lik_chain, lik_isi, fz_noO, ls_d, fr_j, g_rsl, fr_rsl, fz_c, fr_o, fr_v, fr_n, fr_s, kp_lst, no_0, no_n, no_v, fz_nil, lS1, lS2, sE_i, sE_lst, sE_comp, sE_compIf, sE_opl, sE_sl, sE_list, sE_sorted, sE_var, sE_ix, sE_call, sE_non, sE_blv, sE_tp, lt, li, las, lis, ltS, liS, List.append_nil, List.nil_append, ad_int, sb_int, c_lt, c_le, c_gt, c_ge, c_eq, c_ne, c_is, c_no, isN, bl_bl, in_in, b_len, b_lenT, b_lenS, b_int, b_abs, b_tupL, b_tupT, b_lstT, b_lstL, ixT0, ixT1, ixT2, ixT3, is_n_int, is_n_bool, is_n_str, is_n_tuple, is_n_list, is_b_int, is_b_bool, is_b_str, is_b_tuple, is_b_list, is_i_int, is_i_bool, is_i_str, is_i_tuple, is_i_list, is_s_int, is_s_bool, is_s_str, is_s_tuple, is_s_list, is_t_int, is_t_bool, is_t_str, is_t_tuple, is_t_list, is_l_int, is_l_bool, is_l_str, is_l_tuple, is_l_list, itemsD, wp_s, wp_n, asg1, asgT, asgN, asg0, okb, oko, noxo, List.length_cons, List.length_nil, Nat.reduceAdd, Nat.reduceLT, if_true, if_false, Bool.false_eq_true, Bool.true_eq_false, Bool.not_true, Bool.not_false, decide_true, decide_false, reduceIte, ln, md_int (i := (place : Int)) (j := (l.length : Int)) (by omega), e1, s_signs, md_int (i := (choice : Int)) (j := 24) (by decide), e2, h12, h18, decide_eq_true g18, s_nl, a1]
      · by_cases g19 : (c : Int) = 19
        · have a1 : opD .add (.str (st l)) (.str (st L13)) = .ok (.str (st (l ++ L13))) := ad_st (by show l.length + 13 ≤ _; omega)
          have c1 : slD (.str (st (l ++ L13))) none (some 13) = .ok (.str (st ((l ++ L13).take 13))) := cut_lo (k := 13) (by rw [List.length_append]; show 13 ≤ l.length + 13; omega) (by rw [List.length_append]; show l.length + 13 ≤ _; omega)
          refine ⟨_, .str _ _, vst ((l ++ L13).take 13) (by rw [List.length_take]; omega), ?_⟩
          simp only [e_var, e_int, e_str, e_bl, e_non, e_glob, e_op, e_neg, e_not, e_and, e_or, e_cmp, e_chain, e_ife, e_ix, e_sl, e_tup, e_lst, e_call, e_bi, e_isi, es_nil, es_cons, eo_no, eo_so, eS_seq, eS_rng1, eS_rng2, eS_enum, eS_zip, x_set, x_setT, x_setIx, x_aug, x_app, x_ext, x_exp, x_ret, x_retN, x_ife, x_fr, x_wh, x_brk, x_cont, x_pass, xs_nil, xs_cons, at_nx, at_rt, at_bk, at_ct, at_exc, oke, okbe, x_raise, x_tr, tr_nx, tr_rt, fin_exc, sE_comp2, fin_rt, fin_nx, g_zv, g_zo, g_s, o_z, o_s, st_z, st_s, kp_int, kp_non, kp_bl, kp_str, kp_nil, kp_noO, kp_fz, List.cons_append, sE_str, c_eqS, e_find, sd_s, ltk_find, lik_find, ltk_int, ltk_str, ltk_bl, ltk_non, ltk_glob, ltk_op, ltk_neg, ltk_not, ltk_cmp, ltk_chain, ltk_sl, ltk_tup, ltk_lst, ltk_bi, ltk_isi, ltk_comp, ltk_compIf, ltk_comp2, lik_var, lik_int, lik_str, lik_bl, lik_non, lik_glob, lik_neg, lik_not, lik_cmp, lik_chain, lik_isi, fz_noO, ls_d, fr_j, g_rsl, fr_rsl, fz_c, fr_o, fr_v, fr_n, fr_s, kp_lst, no_0, no_n, no_v, fz_nil, lS1, lS2, sE_i, sE_lst, sE_comp, sE_compIf, sE_opl, sE_sl, sE_list, sE_sorted, sE_var, sE_ix, sE_call, sE_non, sE_blv, sE_tp, lt, li, las, lis, ltS, liS, List.append_nil, List.nil_append, ad_int, sb_int, c_lt, c_le, c_gt, c_ge, c_eq, c_ne, c_is, c_no, isN, bl_bl, in_in, b_len, b_lenT, b_lenS, b_int, b_abs, b_tupL, b_tupT, b_lstT, b_lstL, ixT0, ixT1, ixT2, ixT3, is_n_int, is_n_bool, is_n_str, is_n_tuple, is_n_list, is_b_int, is_b_bool, is_b_str, is_b_tuple, is_b_list, is_i_int, is_i_bool, is_i_str, is_i_tuple, is_i_list, is_s_int, is_s_bool, is_s_str, is_s_tuple, is_s_list, is_t_int, is_t_bool, is_t_str, is_t_tuple, is_t_list, is_l_int, is_l_bool, is_l_str, is_l_tuple, is_l_list, itemsD, wp_s, wp_n, asg1, asgT, asgN, asg0, okb, oko, noxo, List.length_cons, List.length_nil, Nat.reduceAdd, Nat.reduceLT, if_true, if_false, Bool.false_eq_true, Bool.true_eq_false, Bool.not_true, Bool.not_false, decide_true, decide_false, reduceIte, ln, md_int (i := (place : Int)) (j := (l.length : Int)) (by omega), e1, s_signs, md_int (i := (choice : Int)) (j := 24) (by decide), e2, h12, h18, decide_eq_false g18, decide_eq_true g19, s_13, a1, c1]
        · obtain ⟨p, ep⟩ : ∃ p, letter % 8 = p := ⟨_, rfl⟩
          have e3 : (letter : Int) % 8 = (p : Int) := by omega
          have a1 : opD .add (.str (st l)) (.str (st [32])) = .ok (.str (st (l ++ [32]))) := ad_st (by rw [List.length_singleton]; omega)
          have c1 : slD (.str (st l)) (some 1) none = .ok (.str (st (l.drop 1))) := cut_hi (l := l) (k := 1) l1 (by omega)
          have a2 : opD .add (.str (st [65])) (.str (st (l.drop 1))) = .ok (.str (st (65 :: l.drop 1))) := ad_st (by rw [List.length_singleton, List.length_drop]; omega)
          obtain ⟨V, sV, vV, iV⟩ : ∃ V, Sd 1 V ∧ Vok V ∧ ixD (.lst [.str (st []), .int (letter : Int), .bl (decide ((letter : Int) % 2 = 0)), .non, .tup [.str (st l)], .lst [.str (st l)], .str (st (l ++ [32])), .str (st (65 :: l.drop 1))]) (.int (p : Int)) = .ok V := by
            have pl : p = 0 ∨ p = 1 ∨ p = 2 ∨ p = 3 ∨ p = 4 ∨ p = 5 ∨ p = 6 ∨ p = 7 := by omega
            rcases pl with rfl | rfl | rfl | rfl | rfl | rfl | rfl | rfl
            · exact ⟨_, .str _ _, vst [] (Nat.zero_le _), ix_lst (n := 0) rfl rfl⟩
            · exact ⟨_, .int _ _, trivial, ix_lst (n := 1) rfl rfl⟩
            · exact ⟨_, .bl _ _, trivial, ix_lst (n := 2) rfl rfl⟩
            · exact ⟨_, .non _, trivial, ix_lst (n := 3) rfl rfl⟩
            · exact ⟨_, .tup 0 _ (by show 1 ≤ 1000000; decide) (fun x hx => by rw [List.mem_singleton.mp hx]; exact .str _ _), trivial, ix_lst (n := 4) rfl rfl⟩
            · exact ⟨_, .lst 0 _ (by show 1 ≤ 1000000; decide) (fun x hx => by rw [List.mem_singleton.mp hx]; exact .str _ _), trivial, ix_lst (n := 5) rfl rfl⟩
            · exact ⟨_, .str _ _, vst (l ++ [32]) (by rw [List.length_append, List.length_singleton]; omega), ix_lst (n := 6) rfl rfl⟩
            · exact ⟨_, .str _ _, vst (65 :: l.drop 1) (by rw [List.length_cons, List.length_drop]; omega), ix_lst (n := 7) rfl rfl⟩
          refine ⟨V, sV, vV, ?_⟩
          simp only [e_var, e_int, e_str, e_bl, e_non, e_glob, e_op, e_neg, e_not, e_and, e_or, e_cmp, e_chain, e_ife, e_ix, e_sl, e_tup, e_lst, e_call, e_bi, e_isi, es_nil, es_cons, eo_no, eo_so, eS_seq, eS_rng1, eS_rng2, eS_enum, eS_zip, x_set, x_setT, x_setIx, x_aug, x_app, x_ext, x_exp, x_ret, x_retN, x_ife, x_fr, x_wh, x_brk, x_cont, x_pass, xs_nil, xs_cons, at_nx, at_rt, at_bk, at_ct, at_exc, oke, okbe, x_raise, x_tr, tr_nx, tr_rt, fin_exc, sE_comp2, fin_rt, fin_nx, g_zv, g_zo, g_s, o_z, o_s, st_z, st_s, kp_int, kp_non, kp_bl, kp_str, kp_nil, kp_noO, kp_fz, List.cons_append, sE_str, c_eqS, e_find, sd_s, ltk_find, lik_find, ltk_int, ltk_str, ltk_bl, ltk_non, ltk_glob, ltk_op, ltk_neg, ltk_not, ltk_cmp, ltk_chain, ltk_sl, ltk_tup, ltk_lst, ltk_bi, ltk_isi, ltk_comp, ltk_compIf, ltk_comp2, lik_var, lik_int, lik_str, lik_bl, lik_non, lik_glob, lik_neg, lik_not, lik_cmp, lik_chain, lik_isi, fz_noO, ls_d, fr_j, g_rsl, fr_rsl, fz_c, fr_o, fr_v, fr_n, fr_s, kp_lst, no_0, no_n, no_v, fz_nil, lS1, lS2, sE_i, sE_lst, sE_comp, sE_compIf, sE_opl, sE_sl, sE_list, sE_sorted, sE_var, sE_ix, sE_call, sE_non, sE_blv, sE_tp, lt, li, las, lis, ltS, liS, List.append_nil, List.nil_append, ad_int, sb_int, c_lt, c_le, c_gt, c_ge, c_eq, c_ne, c_is, c_no, isN, bl_bl, in_in, b_len, b_lenT, b_lenS, b_int, b_abs, b_tupL, b_tupT, b_lstT, b_lstL, ixT0, ixT1, ixT2, ixT3, is_n_int, is_n_bool, is_n_str, is_n_tuple, is_n_list, is_b_int, is_b_bool, is_b_str, is_b_tuple, is_b_list, is_i_int, is_i_bool, is_i_str, is_i_tuple, is_i_list, is_s_int, is_s_bool, is_s_str, is_s_tuple, is_s_list, is_t_int, is_t_bool, is_t_str, is_t_tuple, is_t_list, is_l_int, is_l_bool, is_l_str, is_l_tuple, is_l_list, itemsD, wp_s, wp_n, asg1, asgT, asgN, asg0, okb, oko, noxo, List.length_cons, List.length_nil, Nat.reduceAdd, Nat.reduceLT, if_true, if_false, Bool.false_eq_true, Bool.true_eq_false, Bool.not_true, Bool.not_false, decide_true, decide_false, reduceIte, ln, md_int (i := (place : Int)) (j := (l.length : Int)) (by omega), e1, s_signs, md_int (i := (choice : Int)) (j := 24) (by decide), e2, h12, h18, decide_eq_false g18, decide_eq_false g19, s_empty, md_int (i := (letter : Int)) (j := 2) (by decide), s_sp, a1, s_A, c1, a2, md_int (i := (letter : Int)) (j := 8) (by decide), e3, iV]
end K01
namespace K01
open PySem L2 PyI
theorem sm_exp (N : Nat) (hN : 6 ≤ N) (V : D) (h : Sd 1 V) (b : Bool) : T.prg.call N "_law_same" [if b = true then .tup [.str "told", .non] else .tup [.str "raised", V, .bl true], if b = true then .tup [.str "told", .non] else .tup [.str "raised", V, .bl true]] = .ok (.bl true) := by
  cases b with
  | true =>
    rw [if_pos rfl]
    exact sameN _ 2 _ (.tup 1 _ (by show 2 ≤ 1000000; decide) fun x hx => by
      simp only [List.mem_cons, List.not_mem_nil, or_false] at hx
      rcases hx with rfl | rfl
      · exact .str _ _
      · exact .non _) (by omega)
  | false =>
    rw [if_neg (by decide)]
    exact sameN _ 2 _ (.tup 1 _ (by show 3 ≤ 1000000; decide) fun x hx => by
      simp only [List.mem_cons, List.not_mem_nil, or_false] at hx
      rcases hx with rfl | rfl | rfl
      · exact .str _ _
      · exact h
      · exact .bl _ _) (by omega)
section
variable (n : Nat) (xs : List Nat) (hx : xs.length = 7) (h1000 : ∀ x ∈ xs, x < 1000000)
include hx
theorem w7_run (l : List Nat) (l1 : 1 ≤ l.length) (l2 : l.length ≤ 12) (hc : ∀ c ∈ l, c ∈ LT) (V : D) (sV : Sd 1 V) (vV : Vok V) : fin (exL T.prg.G (T.prg.call (n + 6)) T.prg.fu t7__law_words_right [some (.v (.lst (xs.map nm))), some (.v (.str (st l))), some (.v V), some (.v V), some (.v (.bl (isW V))), some (.v (if isW V = true then .tup [.str "told", .non] else .tup [.str "raised", V, .bl true]))]) = .ok (.bl true) := by
  unfold t7__law_words_right
  have r : T.prg.call (n + 6) "_law_word_refusal" [V] = _ := refusal_run (n + 3) V vV
  have w : T.prg.call (n + 6) "is_word" [.str (st l)] = .ok (.bl true) := by
    have q := isword_run (n + 5) (.str (st l)) (by show (st l).length ≤ 1000; rw [st_len]; omega)
    have e : isW (.str (st l)) = true := by
      show isWl (st l).cps.toList = true
      rw [st_tl]
      unfold isWl
      rw [decide_eq_true l1, decide_eq_true l2, Bool.true_and, Bool.true_and, List.all_eq_true]
      exact fun c h => decide_eq_true (hc c h)
    rw [e] at q
    exact q
  have s1 : T.prg.call (n + 6) "_law_same" [V, V] = .ok (.bl true) := sameN _ 1 V sV (by omega)
  simp only [e_var, e_int, e_str, e_bl, e_non, e_glob, e_op, e_neg, e_not, e_and, e_or, e_cmp, e_chain, e_ife, e_ix, e_sl, e_tup, e_lst, e_call, e_bi, e_isi, es_nil, es_cons, eo_no, eo_so, eS_seq, eS_rng1, eS_rng2, eS_enum, eS_zip, x_set, x_setT, x_setIx, x_aug, x_app, x_ext, x_exp, x_ret, x_retN, x_ife, x_fr, x_wh, x_brk, x_cont, x_pass, xs_nil, xs_cons, at_nx, at_rt, at_bk, at_ct, at_exc, oke, okbe, x_raise, x_tr, tr_nx, tr_rt, fin_exc, sE_comp2, fin_rt, fin_nx, g_zv, g_zo, g_s, o_z, o_s, st_z, st_s, kp_int, kp_non, kp_bl, kp_str, kp_nil, kp_noO, kp_fz, List.cons_append, sE_str, c_eqS, e_find, sd_s, ltk_find, lik_find, ltk_int, ltk_str, ltk_bl, ltk_non, ltk_glob, ltk_op, ltk_neg, ltk_not, ltk_cmp, ltk_chain, ltk_sl, ltk_tup, ltk_lst, ltk_bi, ltk_isi, ltk_comp, ltk_compIf, ltk_comp2, lik_var, lik_int, lik_str, lik_bl, lik_non, lik_glob, lik_neg, lik_not, lik_cmp, lik_chain, lik_isi, fz_noO, ls_d, fr_j, g_rsl, fr_rsl, fz_c, fr_o, fr_v, fr_n, fr_s, kp_lst, no_0, no_n, no_v, fz_nil, lS1, lS2, sE_i, sE_lst, sE_comp, sE_compIf, sE_opl, sE_sl, sE_list, sE_sorted, sE_var, sE_ix, sE_call, sE_non, sE_blv, sE_tp, lt, li, las, lis, ltS, liS, List.append_nil, List.nil_append, ad_int, sb_int, c_lt, c_le, c_gt, c_ge, c_eq, c_ne, c_is, c_no, isN, bl_bl, in_in, b_len, b_lenT, b_lenS, b_int, b_abs, b_tupL, b_tupT, b_lstT, b_lstL, ixT0, ixT1, ixT2, ixT3, is_n_int, is_n_bool, is_n_str, is_n_tuple, is_n_list, is_b_int, is_b_bool, is_b_str, is_b_tuple, is_b_list, is_i_int, is_i_bool, is_i_str, is_i_tuple, is_i_list, is_s_int, is_s_bool, is_s_str, is_s_tuple, is_s_list, is_t_int, is_t_bool, is_t_str, is_t_tuple, is_t_list, is_l_int, is_l_bool, is_l_str, is_l_tuple, is_l_list, itemsD, wp_s, wp_n, asg1, asgT, asgN, asg0, okb, oko, noxo, List.length_cons, List.length_nil, Nat.reduceAdd, Nat.reduceLT, if_true, if_false, Bool.false_eq_true, Bool.true_eq_false, Bool.not_true, Bool.not_false, decide_true, decide_false, reduceIte, r, sm_exp (n + 6) (by omega) V sV, w, sd_bl (n + 6) (by omega) true, s1]
theorem words_run : T.prg.call (n + 7) "_law_words_right" [.lst (xs.map nm)] = .ok (.bl true) := by
  rw [call__law_words_right]
  unfold b__law_words_right t5__law_words_right
  have i3 := ix_lst (xs := xs.map nm) (i := 3) (n := 3) rfl (nget (by omega))
  have i4 := ix_lst (xs := xs.map nm) (i := 4) (n := 4) rfl (nget (by omega))
  have i5 := ix_lst (xs := xs.map nm) (i := 5) (n := 5) rfl (nget (by omega))
  have i6 := ix_lst (xs := xs.map nm) (i := 6) (n := 6) rfl (nget (by omega))
  obtain ⟨m, em⟩ : ∃ z : Nat, 1 + xs.getD 3 0 % 12 = z := ⟨_, rfl⟩
  have e1 : (1 : Int) + ((xs.getD 3 0 : Nat) : Int) % 12 = (m : Int) := by omega
  obtain ⟨l, hl, hc, el⟩ := letters_run (n + 5) m xs hx (by omega)
  have el : T.prg.call (n + 6) "_law_letters" [.lst (xs.map nm), .int m] = .ok (.str (st l)) := el
  obtain ⟨V, sV, vV, eV⟩ := value_run (n + 5) l (by omega) (by omega) (xs.getD 4 0) (xs.getD 5 0) (xs.getD 6 0)
  have eV : T.prg.call (n + 6) "_law_value" [.str (st l), .int (xs.getD 4 0 : Nat), .int (xs.getD 5 0 : Nat), .int (xs.getD 6 0 : Nat)] = .ok V := eV
  have w : T.prg.call (n + 6) "is_word" [V] = _ := isword_run (n + 5) V vV
  have w2 : T.prg.call (n + 6) "_law_is_word" [V] = _ := lawword_run (n + 5) V vV
  have s := sd_bl (n + 6) (by omega) (isW V)
  have t := w7_run n xs hx l (by omega) (by omega) hc V sV vV
  cases e : isW V with
  | true =>
    rw [e] at w w2 s t
    rw [if_pos rfl] at t
    simp only [e_var, e_int, e_str, e_bl, e_non, e_glob, e_op, e_neg, e_not, e_and, e_or, e_cmp, e_chain, e_ife, e_ix, e_sl, e_tup, e_lst, e_call, e_bi, e_isi, es_nil, es_cons, eo_no, eo_so, eS_seq, eS_rng1, eS_rng2, eS_enum, eS_zip, x_set, x_setT, x_setIx, x_aug, x_app, x_ext, x_exp, x_ret, x_retN, x_ife, x_fr, x_wh, x_brk, x_cont, x_pass, xs_nil, xs_cons, at_nx, at_rt, at_bk, at_ct, at_exc, oke, okbe, x_raise, x_tr, tr_nx, tr_rt, fin_exc, sE_comp2, fin_rt, fin_nx, g_zv, g_zo, g_s, o_z, o_s, st_z, st_s, kp_int, kp_non, kp_bl, kp_str, kp_nil, kp_noO, kp_fz, List.cons_append, sE_str, c_eqS, e_find, sd_s, ltk_find, lik_find, ltk_int, ltk_str, ltk_bl, ltk_non, ltk_glob, ltk_op, ltk_neg, ltk_not, ltk_cmp, ltk_chain, ltk_sl, ltk_tup, ltk_lst, ltk_bi, ltk_isi, ltk_comp, ltk_compIf, ltk_comp2, lik_var, lik_int, lik_str, lik_bl, lik_non, lik_glob, lik_neg, lik_not, lik_cmp, lik_chain, lik_isi, fz_noO, ls_d, fr_j, g_rsl, fr_rsl, fz_c, fr_o, fr_v, fr_n, fr_s, kp_lst, no_0, no_n, no_v, fz_nil, lS1, lS2, sE_i, sE_lst, sE_comp, sE_compIf, sE_opl, sE_sl, sE_list, sE_sorted, sE_var, sE_ix, sE_call, sE_non, sE_blv, sE_tp, lt, li, las, lis, ltS, liS, List.append_nil, List.nil_append, ad_int, sb_int, c_lt, c_le, c_gt, c_ge, c_eq, c_ne, c_is, c_no, isN, bl_bl, in_in, b_len, b_lenT, b_lenS, b_int, b_abs, b_tupL, b_tupT, b_lstT, b_lstL, ixT0, ixT1, ixT2, ixT3, is_n_int, is_n_bool, is_n_str, is_n_tuple, is_n_list, is_b_int, is_b_bool, is_b_str, is_b_tuple, is_b_list, is_i_int, is_i_bool, is_i_str, is_i_tuple, is_i_list, is_s_int, is_s_bool, is_s_str, is_s_tuple, is_s_list, is_t_int, is_t_bool, is_t_str, is_t_tuple, is_t_list, is_l_int, is_l_bool, is_l_str, is_l_tuple, is_l_list, itemsD, wp_s, wp_n, asg1, asgT, asgN, asg0, okb, oko, noxo, List.length_cons, List.length_nil, Nat.reduceAdd, Nat.reduceLT, if_true, if_false, Bool.false_eq_true, Bool.true_eq_false, Bool.not_true, Bool.not_false, decide_true, decide_false, reduceIte, i3, md_int (i := ((xs.getD 3 0 : Nat) : Int)) (j := 12) (by decide), e1, el, i4, i5, i6, eV, w2, w, s]
    exact t
  | false =>
    rw [e] at w w2 s t
    rw [if_neg (by decide)] at t
    simp only [e_var, e_int, e_str, e_bl, e_non, e_glob, e_op, e_neg, e_not, e_and, e_or, e_cmp, e_chain, e_ife, e_ix, e_sl, e_tup, e_lst, e_call, e_bi, e_isi, es_nil, es_cons, eo_no, eo_so, eS_seq, eS_rng1, eS_rng2, eS_enum, eS_zip, x_set, x_setT, x_setIx, x_aug, x_app, x_ext, x_exp, x_ret, x_retN, x_ife, x_fr, x_wh, x_brk, x_cont, x_pass, xs_nil, xs_cons, at_nx, at_rt, at_bk, at_ct, at_exc, oke, okbe, x_raise, x_tr, tr_nx, tr_rt, fin_exc, sE_comp2, fin_rt, fin_nx, g_zv, g_zo, g_s, o_z, o_s, st_z, st_s, kp_int, kp_non, kp_bl, kp_str, kp_nil, kp_noO, kp_fz, List.cons_append, sE_str, c_eqS, e_find, sd_s, ltk_find, lik_find, ltk_int, ltk_str, ltk_bl, ltk_non, ltk_glob, ltk_op, ltk_neg, ltk_not, ltk_cmp, ltk_chain, ltk_sl, ltk_tup, ltk_lst, ltk_bi, ltk_isi, ltk_comp, ltk_compIf, ltk_comp2, lik_var, lik_int, lik_str, lik_bl, lik_non, lik_glob, lik_neg, lik_not, lik_cmp, lik_chain, lik_isi, fz_noO, ls_d, fr_j, g_rsl, fr_rsl, fz_c, fr_o, fr_v, fr_n, fr_s, kp_lst, no_0, no_n, no_v, fz_nil, lS1, lS2, sE_i, sE_lst, sE_comp, sE_compIf, sE_opl, sE_sl, sE_list, sE_sorted, sE_var, sE_ix, sE_call, sE_non, sE_blv, sE_tp, lt, li, las, lis, ltS, liS, List.append_nil, List.nil_append, ad_int, sb_int, c_lt, c_le, c_gt, c_ge, c_eq, c_ne, c_is, c_no, isN, bl_bl, in_in, b_len, b_lenT, b_lenS, b_int, b_abs, b_tupL, b_tupT, b_lstT, b_lstL, ixT0, ixT1, ixT2, ixT3, is_n_int, is_n_bool, is_n_str, is_n_tuple, is_n_list, is_b_int, is_b_bool, is_b_str, is_b_tuple, is_b_list, is_i_int, is_i_bool, is_i_str, is_i_tuple, is_i_list, is_s_int, is_s_bool, is_s_str, is_s_tuple, is_s_list, is_t_int, is_t_bool, is_t_str, is_t_tuple, is_t_list, is_l_int, is_l_bool, is_l_str, is_l_tuple, is_l_list, itemsD, wp_s, wp_n, asg1, asgT, asgN, asg0, okb, oko, noxo, List.length_cons, List.length_nil, Nat.reduceAdd, Nat.reduceLT, if_true, if_false, Bool.false_eq_true, Bool.true_eq_false, Bool.not_true, Bool.not_false, decide_true, decide_false, reduceIte, i3, md_int (i := ((xs.getD 3 0 : Nat) : Int)) (j := 12) (by decide), e1, el, i4, i5, i6, eV, w2, w, s]
    exact t
end
/-! ### the limits -/
theorem sd_ints (N : Nat) (hN : 3 ≤ N) (is : List Int) (hl : is.length ≤ 1000) : T.prg.call N "_law_same" [.tup (is.map D.int), .tup (is.map D.int)] = .ok (.bl true) := sameN N 1 _ (.tup 0 _ (by rw [List.length_map]; omega) fun x hx => by
  obtain ⟨i, _, rfl⟩ := List.mem_map.mp hx
  exact .int _ _) hN
theorem limits_run (n : Nat) : T.prg.call (n + 4) "_law_limits" [] = .ok (.bl true) := by
  rw [call__law_limits]
  unfold b__law_limits t2__law_limits t4__law_limits
  have p18 : (10 : Int) ^ (18 : Int).toNat = 1000000000000000000 := by decide
  have p8 : (10 : Int) ^ (8 : Int).toNat = 100000000 := by decide
  have p6 : (10 : Int) ^ (6 : Int).toNat = 1000000 := by decide
  have s1 : T.prg.call (n + 3) "_law_same" [.tup [.int 4, .int 9999, .int 1000000000000000000, .int 20, .int 99999, .int 40, .int 6, .int 5, .int 9999], .tup [.int 4, .int 9999, .int 1000000000000000000, .int 20, .int 99999, .int 40, .int 6, .int 5, .int 9999]] = .ok (.bl true) := sd_ints (n + 3) (by omega) [4, 9999, 1000000000000000000, 20, 99999, 40, 6, 5, 9999] (by decide)
  have s2 : T.prg.call (n + 3) "_law_same" [.tup [.int 200, .int 400, .int 12, .int 100000000, .int 1000, .int 1000000, .int 2000, .int 600], .tup [.int 200, .int 400, .int 12, .int 100000000, .int 1000, .int 1000000, .int 2000, .int 600]] = .ok (.bl true) := sd_ints (n + 3) (by omega) [200, 400, 12, 100000000, 1000, 1000000, 2000, 600] (by decide)
  have s3 : T.prg.call (n + 3) "_law_same" [.tup [.int 400, .int 12, .int 9999, .int 1000000], .tup [.int 400, .int 12, .int 9999, .int 1000000]] = .ok (.bl true) := sd_ints (n + 3) (by omega) [400, 12, 9999, 1000000] (by decide)
  simp only [e_var, e_int, e_str, e_bl, e_non, e_glob, e_op, e_neg, e_not, e_and, e_or, e_cmp, e_chain, e_ife, e_ix, e_sl, e_tup, e_lst, e_call, e_bi, e_isi, es_nil, es_cons, eo_no, eo_so, eS_seq, eS_rng1, eS_rng2, eS_enum, eS_zip, x_set, x_setT, x_setIx, x_aug, x_app, x_ext, x_exp, x_ret, x_retN, x_ife, x_fr, x_wh, x_brk, x_cont, x_pass, xs_nil, xs_cons, at_nx, at_rt, at_bk, at_ct, at_exc, oke, okbe, x_raise, x_tr, tr_nx, tr_rt, fin_exc, sE_comp2, fin_rt, fin_nx, g_zv, g_zo, g_s, o_z, o_s, st_z, st_s, kp_int, kp_non, kp_bl, kp_str, kp_nil, kp_noO, kp_fz, List.cons_append, sE_str, c_eqS, e_find, sd_s, ltk_find, lik_find, ltk_int, ltk_str, ltk_bl, ltk_non, ltk_glob, ltk_op, ltk_neg, ltk_not, ltk_cmp, ltk_chain, ltk_sl, ltk_tup, ltk_lst, ltk_bi, ltk_isi, ltk_comp, ltk_compIf, ltk_comp2, lik_var, lik_int, lik_str, lik_bl, lik_non, lik_glob, lik_neg, lik_not, lik_cmp, lik_chain, lik_isi, fz_noO, ls_d, fr_j, g_rsl, fr_rsl, fz_c, fr_o, fr_v, fr_n, fr_s, kp_lst, no_0, no_n, no_v, fz_nil, lS1, lS2, sE_i, sE_lst, sE_comp, sE_compIf, sE_opl, sE_sl, sE_list, sE_sorted, sE_var, sE_ix, sE_call, sE_non, sE_blv, sE_tp, lt, li, las, lis, ltS, liS, List.append_nil, List.nil_append, ad_int, sb_int, c_lt, c_le, c_gt, c_ge, c_eq, c_ne, c_is, c_no, isN, bl_bl, in_in, b_len, b_lenT, b_lenS, b_int, b_abs, b_tupL, b_tupT, b_lstT, b_lstL, ixT0, ixT1, ixT2, ixT3, is_n_int, is_n_bool, is_n_str, is_n_tuple, is_n_list, is_b_int, is_b_bool, is_b_str, is_b_tuple, is_b_list, is_i_int, is_i_bool, is_i_str, is_i_tuple, is_i_list, is_s_int, is_s_bool, is_s_str, is_s_tuple, is_s_list, is_t_int, is_t_bool, is_t_str, is_t_tuple, is_t_list, is_l_int, is_l_bool, is_l_str, is_l_tuple, is_l_list, itemsD, wp_s, wp_n, asg1, asgT, asgN, asg0, okb, oko, noxo, List.length_cons, List.length_nil, Nat.reduceAdd, Nat.reduceLT, if_true, if_false, Bool.false_eq_true, Bool.true_eq_false, Bool.not_true, Bool.not_false, decide_true, decide_false, reduceIte, g_MOST_GOODS, g_MOST_PRICE, g_MOST_COUNT, g_MOST_UNITS, g_MOST_CENTS, g_MOST_SHAPE_FORMS, g_MOST_STANDING, g_MOST_SPECIAL, g_MOST_BONUS, g_MOST_HEADS, g_MOST_TARIFF_HEADS, g_MOST_FORMS, g_MOST_HEAD_OFF, g_MOST_HEAD_COUNT, g_MOST_FORM_OFF, g_MOST_CELLS, g_COVER_CELLS, g_MOST_POINTS, g_MOST_VOUCHERS, g_MOST_DAY, g_MOST_AMOUNT, pw_int (i := 10) (j := 18) (by decide), p18, pw_int (i := 10) (j := 8) (by decide), p8, pw_int (i := 10) (j := 6) (by decide), p6, s1, s2, s3]
end K01
namespace K01
open PySem L2 PyI
def okN : D → Int → Int → Bool
  | .int i, lo, hi => decide (lo ≤ i) && decide (i ≤ hi)
  | _, _, _ => false
def isI : D → Bool
  | .int _ => true
  | _ => false
theorem isint_run (n : Nat) (d : D) : T.prg.call (n + 1) "is_integer" [d] = .ok (.bl (isI d)) := by
  rw [call_is_integer]
  unfold b_is_integer
  cases d <;> simp only [e_var, e_int, e_str, e_bl, e_non, e_glob, e_op, e_neg, e_not, e_and, e_or, e_cmp, e_chain, e_ife, e_ix, e_sl, e_tup, e_lst, e_call, e_bi, e_isi, es_nil, es_cons, eo_no, eo_so, eS_seq, eS_rng1, eS_rng2, eS_enum, eS_zip, x_set, x_setT, x_setIx, x_aug, x_app, x_ext, x_exp, x_ret, x_retN, x_ife, x_fr, x_wh, x_brk, x_cont, x_pass, xs_nil, xs_cons, at_nx, at_rt, at_bk, at_ct, at_exc, oke, okbe, x_raise, x_tr, tr_nx, tr_rt, fin_exc, sE_comp2, fin_rt, fin_nx, g_zv, g_zo, g_s, o_z, o_s, st_z, st_s, kp_int, kp_non, kp_bl, kp_str, kp_nil, kp_noO, kp_fz, List.cons_append, sE_str, c_eqS, e_find, sd_s, ltk_find, lik_find, ltk_int, ltk_str, ltk_bl, ltk_non, ltk_glob, ltk_op, ltk_neg, ltk_not, ltk_cmp, ltk_chain, ltk_sl, ltk_tup, ltk_lst, ltk_bi, ltk_isi, ltk_comp, ltk_compIf, ltk_comp2, lik_var, lik_int, lik_str, lik_bl, lik_non, lik_glob, lik_neg, lik_not, lik_cmp, lik_chain, lik_isi, fz_noO, ls_d, fr_j, g_rsl, fr_rsl, fz_c, fr_o, fr_v, fr_n, fr_s, kp_lst, no_0, no_n, no_v, fz_nil, lS1, lS2, sE_i, sE_lst, sE_comp, sE_compIf, sE_opl, sE_sl, sE_list, sE_sorted, sE_var, sE_ix, sE_call, sE_non, sE_blv, sE_tp, lt, li, las, lis, ltS, liS, List.append_nil, List.nil_append, ad_int, sb_int, c_lt, c_le, c_gt, c_ge, c_eq, c_ne, c_is, c_no, isN, bl_bl, in_in, b_len, b_lenT, b_lenS, b_int, b_abs, b_tupL, b_tupT, b_lstT, b_lstL, ixT0, ixT1, ixT2, ixT3, is_n_int, is_n_bool, is_n_str, is_n_tuple, is_n_list, is_b_int, is_b_bool, is_b_str, is_b_tuple, is_b_list, is_i_int, is_i_bool, is_i_str, is_i_tuple, is_i_list, is_s_int, is_s_bool, is_s_str, is_s_tuple, is_s_list, is_t_int, is_t_bool, is_t_str, is_t_tuple, is_t_list, is_l_int, is_l_bool, is_l_str, is_l_tuple, is_l_list, itemsD, wp_s, wp_n, asg1, asgT, asgN, asg0, okb, oko, noxo, List.length_cons, List.length_nil, Nat.reduceAdd, Nat.reduceLT, if_true, if_false, Bool.false_eq_true, Bool.true_eq_false, Bool.not_true, Bool.not_false, decide_true, decide_false, reduceIte] <;> rfl
theorem lawint_run (n : Nat) (d : D) : T.prg.call (n + 1) "_law_integer" [d] = .ok (.bl (isI d)) := by
  rw [call__law_integer]
  unfold b__law_integer
  cases d <;> simp only [e_var, e_int, e_str, e_bl, e_non, e_glob, e_op, e_neg, e_not, e_and, e_or, e_cmp, e_chain, e_ife, e_ix, e_sl, e_tup, e_lst, e_call, e_bi, e_isi, es_nil, es_cons, eo_no, eo_so, eS_seq, eS_rng1, eS_rng2, eS_enum, eS_zip, x_set, x_setT, x_setIx, x_aug, x_app, x_ext, x_exp, x_ret, x_retN, x_ife, x_fr, x_wh, x_brk, x_cont, x_pass, xs_nil, xs_cons, at_nx, at_rt, at_bk, at_ct, at_exc, oke, okbe, x_raise, x_tr, tr_nx, tr_rt, fin_exc, sE_comp2, fin_rt, fin_nx, g_zv, g_zo, g_s, o_z, o_s, st_z, st_s, kp_int, kp_non, kp_bl, kp_str, kp_nil, kp_noO, kp_fz, List.cons_append, sE_str, c_eqS, e_find, sd_s, ltk_find, lik_find, ltk_int, ltk_str, ltk_bl, ltk_non, ltk_glob, ltk_op, ltk_neg, ltk_not, ltk_cmp, ltk_chain, ltk_sl, ltk_tup, ltk_lst, ltk_bi, ltk_isi, ltk_comp, ltk_compIf, ltk_comp2, lik_var, lik_int, lik_str, lik_bl, lik_non, lik_glob, lik_neg, lik_not, lik_cmp, lik_chain, lik_isi, fz_noO, ls_d, fr_j, g_rsl, fr_rsl, fz_c, fr_o, fr_v, fr_n, fr_s, kp_lst, no_0, no_n, no_v, fz_nil, lS1, lS2, sE_i, sE_lst, sE_comp, sE_compIf, sE_opl, sE_sl, sE_list, sE_sorted, sE_var, sE_ix, sE_call, sE_non, sE_blv, sE_tp, lt, li, las, lis, ltS, liS, List.append_nil, List.nil_append, ad_int, sb_int, c_lt, c_le, c_gt, c_ge, c_eq, c_ne, c_is, c_no, isN, bl_bl, in_in, b_len, b_lenT, b_lenS, b_int, b_abs, b_tupL, b_tupT, b_lstT, b_lstL, ixT0, ixT1, ixT2, ixT3, is_n_int, is_n_bool, is_n_str, is_n_tuple, is_n_list, is_b_int, is_b_bool, is_b_str, is_b_tuple, is_b_list, is_i_int, is_i_bool, is_i_str, is_i_tuple, is_i_list, is_s_int, is_s_bool, is_s_str, is_s_tuple, is_s_list, is_t_int, is_t_bool, is_t_str, is_t_tuple, is_t_list, is_l_int, is_l_bool, is_l_str, is_l_tuple, is_l_list, itemsD, wp_s, wp_n, asg1, asgT, asgN, asg0, okb, oko, noxo, List.length_cons, List.length_nil, Nat.reduceAdd, Nat.reduceLT, if_true, if_false, Bool.false_eq_true, Bool.true_eq_false, Bool.not_true, Bool.not_false, decide_true, decide_false, reduceIte] <;> rfl
theorem isnum_run (n : Nat) (d : D) (lo hi : Int) : T.prg.call (n + 2) "is_number" [d, .int lo, .int hi] = .ok (.bl (okN d lo hi)) := by
  have q : T.prg.call (n + 1) "is_integer" [d] = _ := isint_run n d
  rw [call_is_number]
  unfold b_is_number
  cases d with
  | int i =>
    unfold okN
    have q : T.prg.call (n + 1) "is_integer" [.int i] = .ok (.bl true) := q
    by_cases h : lo ≤ i
    · simp only [e_var, e_int, e_str, e_bl, e_non, e_glob, e_op, e_neg, e_not, e_and, e_or, e_cmp, e_chain, e_ife, e_ix, e_sl, e_tup, e_lst, e_call, e_bi, e_isi, es_nil, es_cons, eo_no, eo_so, eS_seq, eS_rng1, eS_rng2, eS_enum, eS_zip, x_set, x_setT, x_setIx, x_aug, x_app, x_ext, x_exp, x_ret, x_retN, x_ife, x_fr, x_wh, x_brk, x_cont, x_pass, xs_nil, xs_cons, at_nx, at_rt, at_bk, at_ct, at_exc, oke, okbe, x_raise, x_tr, tr_nx, tr_rt, fin_exc, sE_comp2, fin_rt, fin_nx, g_zv, g_zo, g_s, o_z, o_s, st_z, st_s, kp_int, kp_non, kp_bl, kp_str, kp_nil, kp_noO, kp_fz, List.cons_append, sE_str, c_eqS, e_find, sd_s, ltk_find, lik_find, ltk_int, ltk_str, ltk_bl, ltk_non, ltk_glob, ltk_op, ltk_neg, ltk_not, ltk_cmp, ltk_chain, ltk_sl, ltk_tup, ltk_lst, ltk_bi, ltk_isi, ltk_comp, ltk_compIf, ltk_comp2, lik_var, lik_int, lik_str, lik_bl, lik_non, lik_glob, lik_neg, lik_not, lik_cmp, lik_chain, lik_isi, fz_noO, ls_d, fr_j, g_rsl, fr_rsl, fz_c, fr_o, fr_v, fr_n, fr_s, kp_lst, no_0, no_n, no_v, fz_nil, lS1, lS2, sE_i, sE_lst, sE_comp, sE_compIf, sE_opl, sE_sl, sE_list, sE_sorted, sE_var, sE_ix, sE_call, sE_non, sE_blv, sE_tp, lt, li, las, lis, ltS, liS, List.append_nil, List.nil_append, ad_int, sb_int, c_lt, c_le, c_gt, c_ge, c_eq, c_ne, c_is, c_no, isN, bl_bl, in_in, b_len, b_lenT, b_lenS, b_int, b_abs, b_tupL, b_tupT, b_lstT, b_lstL, ixT0, ixT1, ixT2, ixT3, is_n_int, is_n_bool, is_n_str, is_n_tuple, is_n_list, is_b_int, is_b_bool, is_b_str, is_b_tuple, is_b_list, is_i_int, is_i_bool, is_i_str, is_i_tuple, is_i_list, is_s_int, is_s_bool, is_s_str, is_s_tuple, is_s_list, is_t_int, is_t_bool, is_t_str, is_t_tuple, is_t_list, is_l_int, is_l_bool, is_l_str, is_l_tuple, is_l_list, itemsD, wp_s, wp_n, asg1, asgT, asgN, asg0, okb, oko, noxo, List.length_cons, List.length_nil, Nat.reduceAdd, Nat.reduceLT, if_true, if_false, Bool.false_eq_true, Bool.true_eq_false, Bool.not_true, Bool.not_false, decide_true, decide_false, reduceIte, q, decide_eq_true h]
      rw [Bool.true_and]
    · simp only [e_var, e_int, e_str, e_bl, e_non, e_glob, e_op, e_neg, e_not, e_and, e_or, e_cmp, e_chain, e_ife, e_ix, e_sl, e_tup, e_lst, e_call, e_bi, e_isi, es_nil, es_cons, eo_no, eo_so, eS_seq, eS_rng1, eS_rng2, eS_enum, eS_zip, x_set, x_setT, x_setIx, x_aug, x_app, x_ext, x_exp, x_ret, x_retN, x_ife, x_fr, x_wh, x_brk, x_cont, x_pass, xs_nil, xs_cons, at_nx, at_rt, at_bk, at_ct, at_exc, oke, okbe, x_raise, x_tr, tr_nx, tr_rt, fin_exc, sE_comp2, fin_rt, fin_nx, g_zv, g_zo, g_s, o_z, o_s, st_z, st_s, kp_int, kp_non, kp_bl, kp_str, kp_nil, kp_noO, kp_fz, List.cons_append, sE_str, c_eqS, e_find, sd_s, ltk_find, lik_find, ltk_int, ltk_str, ltk_bl, ltk_non, ltk_glob, ltk_op, ltk_neg, ltk_not, ltk_cmp, ltk_chain, ltk_sl, ltk_tup, ltk_lst, ltk_bi, ltk_isi, ltk_comp, ltk_compIf, ltk_comp2, lik_var, lik_int, lik_str, lik_bl, lik_non, lik_glob, lik_neg, lik_not, lik_cmp, lik_chain, lik_isi, fz_noO, ls_d, fr_j, g_rsl, fr_rsl, fz_c, fr_o, fr_v, fr_n, fr_s, kp_lst, no_0, no_n, no_v, fz_nil, lS1, lS2, sE_i, sE_lst, sE_comp, sE_compIf, sE_opl, sE_sl, sE_list, sE_sorted, sE_var, sE_ix, sE_call, sE_non, sE_blv, sE_tp, lt, li, las, lis, ltS, liS, List.append_nil, List.nil_append, ad_int, sb_int, c_lt, c_le, c_gt, c_ge, c_eq, c_ne, c_is, c_no, isN, bl_bl, in_in, b_len, b_lenT, b_lenS, b_int, b_abs, b_tupL, b_tupT, b_lstT, b_lstL, ixT0, ixT1, ixT2, ixT3, is_n_int, is_n_bool, is_n_str, is_n_tuple, is_n_list, is_b_int, is_b_bool, is_b_str, is_b_tuple, is_b_list, is_i_int, is_i_bool, is_i_str, is_i_tuple, is_i_list, is_s_int, is_s_bool, is_s_str, is_s_tuple, is_s_list, is_t_int, is_t_bool, is_t_str, is_t_tuple, is_t_list, is_l_int, is_l_bool, is_l_str, is_l_tuple, is_l_list, itemsD, wp_s, wp_n, asg1, asgT, asgN, asg0, okb, oko, noxo, List.length_cons, List.length_nil, Nat.reduceAdd, Nat.reduceLT, if_true, if_false, Bool.false_eq_true, Bool.true_eq_false, Bool.not_true, Bool.not_false, decide_true, decide_false, reduceIte, q, decide_eq_false h]
      rfl
  | _ =>
    simp only [isI] at q
    simp only [e_var, e_int, e_str, e_bl, e_non, e_glob, e_op, e_neg, e_not, e_and, e_or, e_cmp, e_chain, e_ife, e_ix, e_sl, e_tup, e_lst, e_call, e_bi, e_isi, es_nil, es_cons, eo_no, eo_so, eS_seq, eS_rng1, eS_rng2, eS_enum, eS_zip, x_set, x_setT, x_setIx, x_aug, x_app, x_ext, x_exp, x_ret, x_retN, x_ife, x_fr, x_wh, x_brk, x_cont, x_pass, xs_nil, xs_cons, at_nx, at_rt, at_bk, at_ct, at_exc, oke, okbe, x_raise, x_tr, tr_nx, tr_rt, fin_exc, sE_comp2, fin_rt, fin_nx, g_zv, g_zo, g_s, o_z, o_s, st_z, st_s, kp_int, kp_non, kp_bl, kp_str, kp_nil, kp_noO, kp_fz, List.cons_append, sE_str, c_eqS, e_find, sd_s, ltk_find, lik_find, ltk_int, ltk_str, ltk_bl, ltk_non, ltk_glob, ltk_op, ltk_neg, ltk_not, ltk_cmp, ltk_chain, ltk_sl, ltk_tup, ltk_lst, ltk_bi, ltk_isi, ltk_comp, ltk_compIf, ltk_comp2, lik_var, lik_int, lik_str, lik_bl, lik_non, lik_glob, lik_neg, lik_not, lik_cmp, lik_chain, lik_isi, fz_noO, ls_d, fr_j, g_rsl, fr_rsl, fz_c, fr_o, fr_v, fr_n, fr_s, kp_lst, no_0, no_n, no_v, fz_nil, lS1, lS2, sE_i, sE_lst, sE_comp, sE_compIf, sE_opl, sE_sl, sE_list, sE_sorted, sE_var, sE_ix, sE_call, sE_non, sE_blv, sE_tp, lt, li, las, lis, ltS, liS, List.append_nil, List.nil_append, ad_int, sb_int, c_lt, c_le, c_gt, c_ge, c_eq, c_ne, c_is, c_no, isN, bl_bl, in_in, b_len, b_lenT, b_lenS, b_int, b_abs, b_tupL, b_tupT, b_lstT, b_lstL, ixT0, ixT1, ixT2, ixT3, is_n_int, is_n_bool, is_n_str, is_n_tuple, is_n_list, is_b_int, is_b_bool, is_b_str, is_b_tuple, is_b_list, is_i_int, is_i_bool, is_i_str, is_i_tuple, is_i_list, is_s_int, is_s_bool, is_s_str, is_s_tuple, is_s_list, is_t_int, is_t_bool, is_t_str, is_t_tuple, is_t_list, is_l_int, is_l_bool, is_l_str, is_l_tuple, is_l_list, itemsD, wp_s, wp_n, asg1, asgT, asgN, asg0, okb, oko, noxo, List.length_cons, List.length_nil, Nat.reduceAdd, Nat.reduceLT, if_true, if_false, Bool.false_eq_true, Bool.true_eq_false, Bool.not_true, Bool.not_false, decide_true, decide_false, reduceIte, q] <;> rfl
theorem checkn_run (n : Nat) (V : D) (lo hi : Int) : T.prg.call (n + 3) "check_number" [V, .int lo, .int hi] = if okN V lo hi = true then .ok .non else .exc "BadNumber" [V, .int lo, .int hi] := by
  have q : T.prg.call (n + 2) "is_number" [V, .int lo, .int hi] = _ := isnum_run n V lo hi
  rw [call_check_number]
  unfold b_check_number
  cases e : okN V lo hi with
  | true =>
    rw [e] at q
    rw [if_pos rfl]
    simp only [e_var, e_int, e_str, e_bl, e_non, e_glob, e_op, e_neg, e_not, e_and, e_or, e_cmp, e_chain, e_ife, e_ix, e_sl, e_tup, e_lst, e_call, e_bi, e_isi, es_nil, es_cons, eo_no, eo_so, eS_seq, eS_rng1, eS_rng2, eS_enum, eS_zip, x_set, x_setT, x_setIx, x_aug, x_app, x_ext, x_exp, x_ret, x_retN, x_ife, x_fr, x_wh, x_brk, x_cont, x_pass, xs_nil, xs_cons, at_nx, at_rt, at_bk, at_ct, at_exc, oke, okbe, x_raise, x_tr, tr_nx, tr_rt, fin_exc, sE_comp2, fin_rt, fin_nx, g_zv, g_zo, g_s, o_z, o_s, st_z, st_s, kp_int, kp_non, kp_bl, kp_str, kp_nil, kp_noO, kp_fz, List.cons_append, sE_str, c_eqS, e_find, sd_s, ltk_find, lik_find, ltk_int, ltk_str, ltk_bl, ltk_non, ltk_glob, ltk_op, ltk_neg, ltk_not, ltk_cmp, ltk_chain, ltk_sl, ltk_tup, ltk_lst, ltk_bi, ltk_isi, ltk_comp, ltk_compIf, ltk_comp2, lik_var, lik_int, lik_str, lik_bl, lik_non, lik_glob, lik_neg, lik_not, lik_cmp, lik_chain, lik_isi, fz_noO, ls_d, fr_j, g_rsl, fr_rsl, fz_c, fr_o, fr_v, fr_n, fr_s, kp_lst, no_0, no_n, no_v, fz_nil, lS1, lS2, sE_i, sE_lst, sE_comp, sE_compIf, sE_opl, sE_sl, sE_list, sE_sorted, sE_var, sE_ix, sE_call, sE_non, sE_blv, sE_tp, lt, li, las, lis, ltS, liS, List.append_nil, List.nil_append, ad_int, sb_int, c_lt, c_le, c_gt, c_ge, c_eq, c_ne, c_is, c_no, isN, bl_bl, in_in, b_len, b_lenT, b_lenS, b_int, b_abs, b_tupL, b_tupT, b_lstT, b_lstL, ixT0, ixT1, ixT2, ixT3, is_n_int, is_n_bool, is_n_str, is_n_tuple, is_n_list, is_b_int, is_b_bool, is_b_str, is_b_tuple, is_b_list, is_i_int, is_i_bool, is_i_str, is_i_tuple, is_i_list, is_s_int, is_s_bool, is_s_str, is_s_tuple, is_s_list, is_t_int, is_t_bool, is_t_str, is_t_tuple, is_t_list, is_l_int, is_l_bool, is_l_str, is_l_tuple, is_l_list, itemsD, wp_s, wp_n, asg1, asgT, asgN, asg0, okb, oko, noxo, List.length_cons, List.length_nil, Nat.reduceAdd, Nat.reduceLT, if_true, if_false, Bool.false_eq_true, Bool.true_eq_false, Bool.not_true, Bool.not_false, decide_true, decide_false, reduceIte, q]
  | false =>
    rw [e] at q
    rw [if_neg (by decide)]
    simp only [e_var, e_int, e_str, e_bl, e_non, e_glob, e_op, e_neg, e_not, e_and, e_or, e_cmp, e_chain, e_ife, e_ix, e_sl, e_tup, e_lst, e_call, e_bi, e_isi, es_nil, es_cons, eo_no, eo_so, eS_seq, eS_rng1, eS_rng2, eS_enum, eS_zip, x_set, x_setT, x_setIx, x_aug, x_app, x_ext, x_exp, x_ret, x_retN, x_ife, x_fr, x_wh, x_brk, x_cont, x_pass, xs_nil, xs_cons, at_nx, at_rt, at_bk, at_ct, at_exc, oke, okbe, x_raise, x_tr, tr_nx, tr_rt, fin_exc, sE_comp2, fin_rt, fin_nx, g_zv, g_zo, g_s, o_z, o_s, st_z, st_s, kp_int, kp_non, kp_bl, kp_str, kp_nil, kp_noO, kp_fz, List.cons_append, sE_str, c_eqS, e_find, sd_s, ltk_find, lik_find, ltk_int, ltk_str, ltk_bl, ltk_non, ltk_glob, ltk_op, ltk_neg, ltk_not, ltk_cmp, ltk_chain, ltk_sl, ltk_tup, ltk_lst, ltk_bi, ltk_isi, ltk_comp, ltk_compIf, ltk_comp2, lik_var, lik_int, lik_str, lik_bl, lik_non, lik_glob, lik_neg, lik_not, lik_cmp, lik_chain, lik_isi, fz_noO, ls_d, fr_j, g_rsl, fr_rsl, fz_c, fr_o, fr_v, fr_n, fr_s, kp_lst, no_0, no_n, no_v, fz_nil, lS1, lS2, sE_i, sE_lst, sE_comp, sE_compIf, sE_opl, sE_sl, sE_list, sE_sorted, sE_var, sE_ix, sE_call, sE_non, sE_blv, sE_tp, lt, li, las, lis, ltS, liS, List.append_nil, List.nil_append, ad_int, sb_int, c_lt, c_le, c_gt, c_ge, c_eq, c_ne, c_is, c_no, isN, bl_bl, in_in, b_len, b_lenT, b_lenS, b_int, b_abs, b_tupL, b_tupT, b_lstT, b_lstL, ixT0, ixT1, ixT2, ixT3, is_n_int, is_n_bool, is_n_str, is_n_tuple, is_n_list, is_b_int, is_b_bool, is_b_str, is_b_tuple, is_b_list, is_i_int, is_i_bool, is_i_str, is_i_tuple, is_i_list, is_s_int, is_s_bool, is_s_str, is_s_tuple, is_s_list, is_t_int, is_t_bool, is_t_str, is_t_tuple, is_t_list, is_l_int, is_l_bool, is_l_str, is_l_tuple, is_l_list, itemsD, wp_s, wp_n, asg1, asgT, asgN, asg0, okb, oko, noxo, List.length_cons, List.length_nil, Nat.reduceAdd, Nat.reduceLT, if_true, if_false, Bool.false_eq_true, Bool.true_eq_false, Bool.not_true, Bool.not_false, decide_true, decide_false, reduceIte, q]
theorem refn_run (n : Nat) (V : D) (lo hi : Int) : T.prg.call (n + 4) "_law_number_refusal" [V, .int lo, .int hi] = .ok (if okN V lo hi = true then .tup [.str "told", .non] else .tup [.str "raised", V, .int lo, .int hi, .bl true]) := by
  have q : T.prg.call (n + 3) "check_number" [V, .int lo, .int hi] = _ := checkn_run n V lo hi
  rw [call__law_number_refusal]
  unfold b__law_number_refusal r1__law_number_refusal
  cases e : okN V lo hi with
  | true =>
    rw [e, if_pos rfl] at q
    rw [if_pos rfl]
    simp only [e_var, e_int, e_str, e_bl, e_non, e_glob, e_op, e_neg, e_not, e_and, e_or, e_cmp, e_chain, e_ife, e_ix, e_sl, e_tup, e_lst, e_call, e_bi, e_isi, es_nil, es_cons, eo_no, eo_so, eS_seq, eS_rng1, eS_rng2, eS_enum, eS_zip, x_set, x_setT, x_setIx, x_aug, x_app, x_ext, x_exp, x_ret, x_retN, x_ife, x_fr, x_wh, x_brk, x_cont, x_pass, xs_nil, xs_cons, at_nx, at_rt, at_bk, at_ct, at_exc, oke, okbe, x_raise, x_tr, tr_nx, tr_rt, fin_exc, sE_comp2, fin_rt, fin_nx, g_zv, g_zo, g_s, o_z, o_s, st_z, st_s, kp_int, kp_non, kp_bl, kp_str, kp_nil, kp_noO, kp_fz, List.cons_append, sE_str, c_eqS, e_find, sd_s, ltk_find, lik_find, ltk_int, ltk_str, ltk_bl, ltk_non, ltk_glob, ltk_op, ltk_neg, ltk_not, ltk_cmp, ltk_chain, ltk_sl, ltk_tup, ltk_lst, ltk_bi, ltk_isi, ltk_comp, ltk_compIf, ltk_comp2, lik_var, lik_int, lik_str, lik_bl, lik_non, lik_glob, lik_neg, lik_not, lik_cmp, lik_chain, lik_isi, fz_noO, ls_d, fr_j, g_rsl, fr_rsl, fz_c, fr_o, fr_v, fr_n, fr_s, kp_lst, no_0, no_n, no_v, fz_nil, lS1, lS2, sE_i, sE_lst, sE_comp, sE_compIf, sE_opl, sE_sl, sE_list, sE_sorted, sE_var, sE_ix, sE_call, sE_non, sE_blv, sE_tp, lt, li, las, lis, ltS, liS, List.append_nil, List.nil_append, ad_int, sb_int, c_lt, c_le, c_gt, c_ge, c_eq, c_ne, c_is, c_no, isN, bl_bl, in_in, b_len, b_lenT, b_lenS, b_int, b_abs, b_tupL, b_tupT, b_lstT, b_lstL, ixT0, ixT1, ixT2, ixT3, is_n_int, is_n_bool, is_n_str, is_n_tuple, is_n_list, is_b_int, is_b_bool, is_b_str, is_b_tuple, is_b_list, is_i_int, is_i_bool, is_i_str, is_i_tuple, is_i_list, is_s_int, is_s_bool, is_s_str, is_s_tuple, is_s_list, is_t_int, is_t_bool, is_t_str, is_t_tuple, is_t_list, is_l_int, is_l_bool, is_l_str, is_l_tuple, is_l_list, itemsD, wp_s, wp_n, asg1, asgT, asgN, asg0, okb, oko, noxo, List.length_cons, List.length_nil, Nat.reduceAdd, Nat.reduceLT, if_true, if_false, Bool.false_eq_true, Bool.true_eq_false, Bool.not_true, Bool.not_false, decide_true, decide_false, reduceIte, q]
  | false =>
    rw [e, if_neg (by decide)] at q
    rw [if_neg (by decide)]
    simp only [e_var, e_int, e_str, e_bl, e_non, e_glob, e_op, e_neg, e_not, e_and, e_or, e_cmp, e_chain, e_ife, e_ix, e_sl, e_tup, e_lst, e_call, e_bi, e_isi, es_nil, es_cons, eo_no, eo_so, eS_seq, eS_rng1, eS_rng2, eS_enum, eS_zip, x_set, x_setT, x_setIx, x_aug, x_app, x_ext, x_exp, x_ret, x_retN, x_ife, x_fr, x_wh, x_brk, x_cont, x_pass, xs_nil, xs_cons, at_nx, at_rt, at_bk, at_ct, at_exc, oke, okbe, x_raise, x_tr, tr_nx, tr_rt, fin_exc, sE_comp2, fin_rt, fin_nx, g_zv, g_zo, g_s, o_z, o_s, st_z, st_s, kp_int, kp_non, kp_bl, kp_str, kp_nil, kp_noO, kp_fz, List.cons_append, sE_str, c_eqS, e_find, sd_s, ltk_find, lik_find, ltk_int, ltk_str, ltk_bl, ltk_non, ltk_glob, ltk_op, ltk_neg, ltk_not, ltk_cmp, ltk_chain, ltk_sl, ltk_tup, ltk_lst, ltk_bi, ltk_isi, ltk_comp, ltk_compIf, ltk_comp2, lik_var, lik_int, lik_str, lik_bl, lik_non, lik_glob, lik_neg, lik_not, lik_cmp, lik_chain, lik_isi, fz_noO, ls_d, fr_j, g_rsl, fr_rsl, fz_c, fr_o, fr_v, fr_n, fr_s, kp_lst, no_0, no_n, no_v, fz_nil, lS1, lS2, sE_i, sE_lst, sE_comp, sE_compIf, sE_opl, sE_sl, sE_list, sE_sorted, sE_var, sE_ix, sE_call, sE_non, sE_blv, sE_tp, lt, li, las, lis, ltS, liS, List.append_nil, List.nil_append, ad_int, sb_int, c_lt, c_le, c_gt, c_ge, c_eq, c_ne, c_is, c_no, isN, bl_bl, in_in, b_len, b_lenT, b_lenS, b_int, b_abs, b_tupL, b_tupT, b_lstT, b_lstL, ixT0, ixT1, ixT2, ixT3, is_n_int, is_n_bool, is_n_str, is_n_tuple, is_n_list, is_b_int, is_b_bool, is_b_str, is_b_tuple, is_b_list, is_i_int, is_i_bool, is_i_str, is_i_tuple, is_i_list, is_s_int, is_s_bool, is_s_str, is_s_tuple, is_s_list, is_t_int, is_t_bool, is_t_str, is_t_tuple, is_t_list, is_l_int, is_l_bool, is_l_str, is_l_tuple, is_l_list, itemsD, wp_s, wp_n, asg1, asgT, asgN, asg0, okb, oko, noxo, List.length_cons, List.length_nil, Nat.reduceAdd, Nat.reduceLT, if_true, if_false, Bool.false_eq_true, Bool.true_eq_false, Bool.not_true, Bool.not_false, decide_true, decide_false, reduceIte, q]
    rfl
theorem numeral_run (n : Nat) (lo hi : Int) (hl : lo.natAbs < 2 ^ 400) (choice : Nat) : ∃ V, Sd 1 V ∧ T.prg.call (n + 1) "_law_numeral" [.int lo, .int hi, .int choice] = .ok V := by
  rw [call__law_numeral]
  unfold b__law_numeral t3__law_numeral
  have lg : lo.natAbs.log2 < 1920 := by
    by_cases z : lo.natAbs = 0
    · rw [z]; decide
    · have := (Nat.log2_lt z).mpr hl
      omega
  have bs : biD .str [.int lo] = .ok (.str (Str.ofString (toString lo))) := if_pos lg
  obtain ⟨c, ec⟩ : ∃ c, choice % 14 = c := ⟨_, rfl⟩
  have e2 : (choice : Int) % 14 = (c : Int) := by omega
  obtain ⟨m, em⟩ : ∃ m : Int, (lo + hi) / 2 = m := ⟨_, rfl⟩
  by_cases h : (c : Int) < 8
  · obtain ⟨V, sV, iV⟩ : ∃ V, Sd 1 V ∧ ixD (.lst [.int (lo - 1), .int lo, .int (lo + 1), .int m, .int (hi - 1), .int hi, .int (hi + 1), .int (-lo)]) (.int (c : Int)) = .ok V := by
      have cl : c = 0 ∨ c = 1 ∨ c = 2 ∨ c = 3 ∨ c = 4 ∨ c = 5 ∨ c = 6 ∨ c = 7 := by omega
      rcases cl with rfl | rfl | rfl | rfl | rfl | rfl | rfl | rfl <;> exact ⟨_, .int _ _, ix_lst (n := _) rfl rfl⟩
    refine ⟨V, sV, ?_⟩
    simp only [e_var, e_int, e_str, e_bl, e_non, e_glob, e_op, e_neg, e_not, e_and, e_or, e_cmp, e_chain, e_ife, e_ix, e_sl, e_tup, e_lst, e_call, e_bi, e_isi, es_nil, es_cons, eo_no, eo_so, eS_seq, eS_rng1, eS_rng2, eS_enum, eS_zip, x_set, x_setT, x_setIx, x_aug, x_app, x_ext, x_exp, x_ret, x_retN, x_ife, x_fr, x_wh, x_brk, x_cont, x_pass, xs_nil, xs_cons, at_nx, at_rt, at_bk, at_ct, at_exc, oke, okbe, x_raise, x_tr, tr_nx, tr_rt, fin_exc, sE_comp2, fin_rt, fin_nx, g_zv, g_zo, g_s, o_z, o_s, st_z, st_s, kp_int, kp_non, kp_bl, kp_str, kp_nil, kp_noO, kp_fz, List.cons_append, sE_str, c_eqS, e_find, sd_s, ltk_find, lik_find, ltk_int, ltk_str, ltk_bl, ltk_non, ltk_glob, ltk_op, ltk_neg, ltk_not, ltk_cmp, ltk_chain, ltk_sl, ltk_tup, ltk_lst, ltk_bi, ltk_isi, ltk_comp, ltk_compIf, ltk_comp2, lik_var, lik_int, lik_str, lik_bl, lik_non, lik_glob, lik_neg, lik_not, lik_cmp, lik_chain, lik_isi, fz_noO, ls_d, fr_j, g_rsl, fr_rsl, fz_c, fr_o, fr_v, fr_n, fr_s, kp_lst, no_0, no_n, no_v, fz_nil, lS1, lS2, sE_i, sE_lst, sE_comp, sE_compIf, sE_opl, sE_sl, sE_list, sE_sorted, sE_var, sE_ix, sE_call, sE_non, sE_blv, sE_tp, lt, li, las, lis, ltS, liS, List.append_nil, List.nil_append, ad_int, sb_int, c_lt, c_le, c_gt, c_ge, c_eq, c_ne, c_is, c_no, isN, bl_bl, in_in, b_len, b_lenT, b_lenS, b_int, b_abs, b_tupL, b_tupT, b_lstT, b_lstL, ixT0, ixT1, ixT2, ixT3, is_n_int, is_n_bool, is_n_str, is_n_tuple, is_n_list, is_b_int, is_b_bool, is_b_str, is_b_tuple, is_b_list, is_i_int, is_i_bool, is_i_str, is_i_tuple, is_i_list, is_s_int, is_s_bool, is_s_str, is_s_tuple, is_s_list, is_t_int, is_t_bool, is_t_str, is_t_tuple, is_t_list, is_l_int, is_l_bool, is_l_str, is_l_tuple, is_l_list, itemsD, wp_s, wp_n, asg1, asgT, asgN, asg0, okb, oko, noxo, List.length_cons, List.length_nil, Nat.reduceAdd, Nat.reduceLT, if_true, if_false, Bool.false_eq_true, Bool.true_eq_false, Bool.not_true, Bool.not_false, decide_true, decide_false, reduceIte, fd_int (i := lo + hi) (j := 2) (by decide), em, bs, md_int (i := (choice : Int)) (j := 14) (by decide), e2, h, iV]
  · have e3 : (c : Int) - 8 = ((c - 8 : Nat) : Int) := by omega
    obtain ⟨V, sV, iV⟩ : ∃ V, Sd 1 V ∧ ixD (.lst [.bl true, .bl false, .non, .str (Str.ofString (toString lo)), .tup [.int lo], .lst [.int lo]]) (.int ((c - 8 : Nat) : Int)) = .ok V := by
      have cl : c - 8 = 0 ∨ c - 8 = 1 ∨ c - 8 = 2 ∨ c - 8 = 3 ∨ c - 8 = 4 ∨ c - 8 = 5 := by omega
      rcases cl with q | q | q | q | q | q <;> rw [q]
      · exact ⟨_, .bl _ _, ix_lst (n := 0) rfl rfl⟩
      · exact ⟨_, .bl _ _, ix_lst (n := 1) rfl rfl⟩
      · exact ⟨_, .non _, ix_lst (n := 2) rfl rfl⟩
      · exact ⟨_, .str _ _, ix_lst (n := 3) rfl rfl⟩
      · exact ⟨_, .tup 0 _ (by show 1 ≤ 1000000; decide) (fun x hx => by rw [List.mem_singleton.mp hx]; exact .int _ _), ix_lst (n := 4) rfl rfl⟩
      · exact ⟨_, .lst 0 _ (by show 1 ≤ 1000000; decide) (fun x hx => by rw [List.mem_singleton.mp hx]; exact .int _ _), ix_lst (n := 5) rfl rfl⟩
    refine ⟨V, sV, ?_⟩
    simp only [e_var, e_int, e_str, e_bl, e_non, e_glob, e_op, e_neg, e_not, e_and, e_or, e_cmp, e_chain, e_ife, e_ix, e_sl, e_tup, e_lst, e_call, e_bi, e_isi, es_nil, es_cons, eo_no, eo_so, eS_seq, eS_rng1, eS_rng2, eS_enum, eS_zip, x_set, x_setT, x_setIx, x_aug, x_app, x_ext, x_exp, x_ret, x_retN, x_ife, x_fr, x_wh, x_brk, x_cont, x_pass, xs_nil, xs_cons, at_nx, at_rt, at_bk, at_ct, at_exc, oke, okbe, x_raise, x_tr, tr_nx, tr_rt, fin_exc, sE_comp2, fin_rt, fin_nx, g_zv, g_zo, g_s, o_z, o_s, st_z, st_s, kp_int, kp_non, kp_bl, kp_str, kp_nil, kp_noO, kp_fz, List.cons_append, sE_str, c_eqS, e_find, sd_s, ltk_find, lik_find, ltk_int, ltk_str, ltk_bl, ltk_non, ltk_glob, ltk_op, ltk_neg, ltk_not, ltk_cmp, ltk_chain, ltk_sl, ltk_tup, ltk_lst, ltk_bi, ltk_isi, ltk_comp, ltk_compIf, ltk_comp2, lik_var, lik_int, lik_str, lik_bl, lik_non, lik_glob, lik_neg, lik_not, lik_cmp, lik_chain, lik_isi, fz_noO, ls_d, fr_j, g_rsl, fr_rsl, fz_c, fr_o, fr_v, fr_n, fr_s, kp_lst, no_0, no_n, no_v, fz_nil, lS1, lS2, sE_i, sE_lst, sE_comp, sE_compIf, sE_opl, sE_sl, sE_list, sE_sorted, sE_var, sE_ix, sE_call, sE_non, sE_blv, sE_tp, lt, li, las, lis, ltS, liS, List.append_nil, List.nil_append, ad_int, sb_int, c_lt, c_le, c_gt, c_ge, c_eq, c_ne, c_is, c_no, isN, bl_bl, in_in, b_len, b_lenT, b_lenS, b_int, b_abs, b_tupL, b_tupT, b_lstT, b_lstL, ixT0, ixT1, ixT2, ixT3, is_n_int, is_n_bool, is_n_str, is_n_tuple, is_n_list, is_b_int, is_b_bool, is_b_str, is_b_tuple, is_b_list, is_i_int, is_i_bool, is_i_str, is_i_tuple, is_i_list, is_s_int, is_s_bool, is_s_str, is_s_tuple, is_s_list, is_t_int, is_t_bool, is_t_str, is_t_tuple, is_t_list, is_l_int, is_l_bool, is_l_str, is_l_tuple, is_l_list, itemsD, wp_s, wp_n, asg1, asgT, asgN, asg0, okb, oko, noxo, List.length_cons, List.length_nil, Nat.reduceAdd, Nat.reduceLT, if_true, if_false, Bool.false_eq_true, Bool.true_eq_false, Bool.not_true, Bool.not_false, decide_true, decide_false, reduceIte, fd_int (i := lo + hi) (j := 2) (by decide), em, bs, md_int (i := (choice : Int)) (j := 14) (by decide), e2, h, e3, iV]
theorem smn_exp (N : Nat) (hN : 6 ≤ N) (V : D) (h : Sd 1 V) (lo hi : Int) (b : Bool) : T.prg.call N "_law_same" [if b = true then .tup [.str "told", .non] else .tup [.str "raised", V, .int lo, .int hi, .bl true], if b = true then .tup [.str "told", .non] else .tup [.str "raised", V, .int lo, .int hi, .bl true]] = .ok (.bl true) := by
  cases b with
  | true =>
    rw [if_pos rfl]
    exact sameN _ 2 _ (.tup 1 _ (by show 2 ≤ 1000000; decide) fun x hx => by
      simp only [List.mem_cons, List.not_mem_nil, or_false] at hx
      rcases hx with rfl | rfl
      · exact .str _ _
      · exact .non _) (by omega)
  | false =>
    rw [if_neg (by decide)]
    exact sameN _ 2 _ (.tup 1 _ (by show 5 ≤ 1000000; decide) fun x hx => by
      simp only [List.mem_cons, List.not_mem_nil, or_false] at hx
      rcases hx with rfl | rfl | rfl | rfl | rfl
      · exact .str _ _
      · exact h
      · exact .int _ _
      · exact .int _ _
      · exact .bl _ _) (by omega)
end K01
namespace K01
open PySem L2 PyI
section
variable (n : Nat) (xs : List Nat) (lo hi : Int) (V : D) (sV : Sd 1 V)
theorem inside_ev (s3 s6 s7 : Option C) : ev T.prg.G (T.prg.call (n + 6)) (.and (.var 5) (.and (.cmp .le (.var 1) (.var 4)) (.cmp .le (.var 4) (.var 2)))) [some (.v (.lst (xs.map nm))), some (.v (.int lo)), some (.v (.int hi)), s3, some (.v V), some (.v (.bl (isI V))), s6, s7] = .ok (.bl (okN V lo hi)) := by
  cases V with
  | int i =>
    have e : isI (.int i) = true := rfl
    rw [e]
    unfold okN
    by_cases h : lo ≤ i
    · simp only [e_var, e_int, e_str, e_bl, e_non, e_glob, e_op, e_neg, e_not, e_and, e_or, e_cmp, e_chain, e_ife, e_ix, e_sl, e_tup, e_lst, e_call, e_bi, e_isi, es_nil, es_cons, eo_no, eo_so, eS_seq, eS_rng1, eS_rng2, eS_enum, eS_zip, x_set, x_setT, x_setIx, x_aug, x_app, x_ext, x_exp, x_ret, x_retN, x_ife, x_fr, x_wh, x_brk, x_cont, x_pass, xs_nil, xs_cons, at_nx, at_rt, at_bk, at_ct, at_exc, oke, okbe, x_raise, x_tr, tr_nx, tr_rt, fin_exc, sE_comp2, fin_rt, fin_nx, g_zv, g_zo, g_s, o_z, o_s, st_z, st_s, kp_int, kp_non, kp_bl, kp_str, kp_nil, kp_noO, kp_fz, List.cons_append, sE_str, c_eqS, e_find, sd_s, ltk_find, lik_find, ltk_int, ltk_str, ltk_bl, ltk_non, ltk_glob, ltk_op, ltk_neg, ltk_not, ltk_cmp, ltk_chain, ltk_sl, ltk_tup, ltk_lst, ltk_bi, ltk_isi, ltk_comp, ltk_compIf, ltk_comp2, lik_var, lik_int, lik_str, lik_bl, lik_non, lik_glob, lik_neg, lik_not, lik_cmp, lik_chain, lik_isi, fz_noO, ls_d, fr_j, g_rsl, fr_rsl, fz_c, fr_o, fr_v, fr_n, fr_s, kp_lst, no_0, no_n, no_v, fz_nil, lS1, lS2, sE_i, sE_lst, sE_comp, sE_compIf, sE_opl, sE_sl, sE_list, sE_sorted, sE_var, sE_ix, sE_call, sE_non, sE_blv, sE_tp, lt, li, las, lis, ltS, liS, List.append_nil, List.nil_append, ad_int, sb_int, c_lt, c_le, c_gt, c_ge, c_eq, c_ne, c_is, c_no, isN, bl_bl, in_in, b_len, b_lenT, b_lenS, b_int, b_abs, b_tupL, b_tupT, b_lstT, b_lstL, ixT0, ixT1, ixT2, ixT3, is_n_int, is_n_bool, is_n_str, is_n_tuple, is_n_list, is_b_int, is_b_bool, is_b_str, is_b_tuple, is_b_list, is_i_int, is_i_bool, is_i_str, is_i_tuple, is_i_list, is_s_int, is_s_bool, is_s_str, is_s_tuple, is_s_list, is_t_int, is_t_bool, is_t_str, is_t_tuple, is_t_list, is_l_int, is_l_bool, is_l_str, is_l_tuple, is_l_list, itemsD, wp_s, wp_n, asg1, asgT, asgN, asg0, okb, oko, noxo, List.length_cons, List.length_nil, Nat.reduceAdd, Nat.reduceLT, if_true, if_false, Bool.false_eq_true, Bool.true_eq_false, Bool.not_true, Bool.not_false, decide_true, decide_false, reduceIte, decide_eq_true h]
      rw [Bool.true_and]
    · simp only [e_var, e_int, e_str, e_bl, e_non, e_glob, e_op, e_neg, e_not, e_and, e_or, e_cmp, e_chain, e_ife, e_ix, e_sl, e_tup, e_lst, e_call, e_bi, e_isi, es_nil, es_cons, eo_no, eo_so, eS_seq, eS_rng1, eS_rng2, eS_enum, eS_zip, x_set, x_setT, x_setIx, x_aug, x_app, x_ext, x_exp, x_ret, x_retN, x_ife, x_fr, x_wh, x_brk, x_cont, x_pass, xs_nil, xs_cons, at_nx, at_rt, at_bk, at_ct, at_exc, oke, okbe, x_raise, x_tr, tr_nx, tr_rt, fin_exc, sE_comp2, fin_rt, fin_nx, g_zv, g_zo, g_s, o_z, o_s, st_z, st_s, kp_int, kp_non, kp_bl, kp_str, kp_nil, kp_noO, kp_fz, List.cons_append, sE_str, c_eqS, e_find, sd_s, ltk_find, lik_find, ltk_int, ltk_str, ltk_bl, ltk_non, ltk_glob, ltk_op, ltk_neg, ltk_not, ltk_cmp, ltk_chain, ltk_sl, ltk_tup, ltk_lst, ltk_bi, ltk_isi, ltk_comp, ltk_compIf, ltk_comp2, lik_var, lik_int, lik_str, lik_bl, lik_non, lik_glob, lik_neg, lik_not, lik_cmp, lik_chain, lik_isi, fz_noO, ls_d, fr_j, g_rsl, fr_rsl, fz_c, fr_o, fr_v, fr_n, fr_s, kp_lst, no_0, no_n, no_v, fz_nil, lS1, lS2, sE_i, sE_lst, sE_comp, sE_compIf, sE_opl, sE_sl, sE_list, sE_sorted, sE_var, sE_ix, sE_call, sE_non, sE_blv, sE_tp, lt, li, las, lis, ltS, liS, List.append_nil, List.nil_append, ad_int, sb_int, c_lt, c_le, c_gt, c_ge, c_eq, c_ne, c_is, c_no, isN, bl_bl, in_in, b_len, b_lenT, b_lenS, b_int, b_abs, b_tupL, b_tupT, b_lstT, b_lstL, ixT0, ixT1, ixT2, ixT3, is_n_int, is_n_bool, is_n_str, is_n_tuple, is_n_list, is_b_int, is_b_bool, is_b_str, is_b_tuple, is_b_list, is_i_int, is_i_bool, is_i_str, is_i_tuple, is_i_list, is_s_int, is_s_bool, is_s_str, is_s_tuple, is_s_list, is_t_int, is_t_bool, is_t_str, is_t_tuple, is_t_list, is_l_int, is_l_bool, is_l_str, is_l_tuple, is_l_list, itemsD, wp_s, wp_n, asg1, asgT, asgN, asg0, okb, oko, noxo, List.length_cons, List.length_nil, Nat.reduceAdd, Nat.reduceLT, if_true, if_false, Bool.false_eq_true, Bool.true_eq_false, Bool.not_true, Bool.not_false, decide_true, decide_false, reduceIte, decide_eq_false h]
      rfl
  | _ =>
    simp only [isI]
    simp only [e_var, e_int, e_str, e_bl, e_non, e_glob, e_op, e_neg, e_not, e_and, e_or, e_cmp, e_chain, e_ife, e_ix, e_sl, e_tup, e_lst, e_call, e_bi, e_isi, es_nil, es_cons, eo_no, eo_so, eS_seq, eS_rng1, eS_rng2, eS_enum, eS_zip, x_set, x_setT, x_setIx, x_aug, x_app, x_ext, x_exp, x_ret, x_retN, x_ife, x_fr, x_wh, x_brk, x_cont, x_pass, xs_nil, xs_cons, at_nx, at_rt, at_bk, at_ct, at_exc, oke, okbe, x_raise, x_tr, tr_nx, tr_rt, fin_exc, sE_comp2, fin_rt, fin_nx, g_zv, g_zo, g_s, o_z, o_s, st_z, st_s, kp_int, kp_non, kp_bl, kp_str, kp_nil, kp_noO, kp_fz, List.cons_append, sE_str, c_eqS, e_find, sd_s, ltk_find, lik_find, ltk_int, ltk_str, ltk_bl, ltk_non, ltk_glob, ltk_op, ltk_neg, ltk_not, ltk_cmp, ltk_chain, ltk_sl, ltk_tup, ltk_lst, ltk_bi, ltk_isi, ltk_comp, ltk_compIf, ltk_comp2, lik_var, lik_int, lik_str, lik_bl, lik_non, lik_glob, lik_neg, lik_not, lik_cmp, lik_chain, lik_isi, fz_noO, ls_d, fr_j, g_rsl, fr_rsl, fz_c, fr_o, fr_v, fr_n, fr_s, kp_lst, no_0, no_n, no_v, fz_nil, lS1, lS2, sE_i, sE_lst, sE_comp, sE_compIf, sE_opl, sE_sl, sE_list, sE_sorted, sE_var, sE_ix, sE_call, sE_non, sE_blv, sE_tp, lt, li, las, lis, ltS, liS, List.append_nil, List.nil_append, ad_int, sb_int, c_lt, c_le, c_gt, c_ge, c_eq, c_ne, c_is, c_no, isN, bl_bl, in_in, b_len, b_lenT, b_lenS, b_int, b_abs, b_tupL, b_tupT, b_lstT, b_lstL, ixT0, ixT1, ixT2, ixT3, is_n_int, is_n_bool, is_n_str, is_n_tuple, is_n_list, is_b_int, is_b_bool, is_b_str, is_b_tuple, is_b_list, is_i_int, is_i_bool, is_i_str, is_i_tuple, is_i_list, is_s_int, is_s_bool, is_s_str, is_s_tuple, is_s_list, is_t_int, is_t_bool, is_t_str, is_t_tuple, is_t_list, is_l_int, is_l_bool, is_l_str, is_l_tuple, is_l_list, itemsD, wp_s, wp_n, asg1, asgT, asgN, asg0, okb, oko, noxo, List.length_cons, List.length_nil, Nat.reduceAdd, Nat.reduceLT, if_true, if_false, Bool.false_eq_true, Bool.true_eq_false, Bool.not_true, Bool.not_false, decide_true, decide_false, reduceIte] <;> rfl
include sV
theorem n10_run : fin (exL T.prg.G (T.prg.call (n + 6)) T.prg.fu t10__law_numbers_right [some (.v (.lst (xs.map nm))), some (.v (.int lo)), some (.v (.int hi)), some (.v V), some (.v V), some (.v (.bl (isI V))), some (.v (.bl (okN V lo hi))), some (.v (if okN V lo hi = true then .tup [.str "told", .non] else .tup [.str "raised", V, .int lo, .int hi, .bl true]))]) = .ok (.bl true) := by
  unfold t10__law_numbers_right
  have r : T.prg.call (n + 6) "_law_number_refusal" [V, .int lo, .int hi] = _ := refn_run (n + 2) V lo hi
  have s1 : T.prg.call (n + 6) "_law_same" [V, V] = .ok (.bl true) := sameN _ 1 V sV (by omega)
  simp only [e_var, e_int, e_str, e_bl, e_non, e_glob, e_op, e_neg, e_not, e_and, e_or, e_cmp, e_chain, e_ife, e_ix, e_sl, e_tup, e_lst, e_call, e_bi, e_isi, es_nil, es_cons, eo_no, eo_so, eS_seq, eS_rng1, eS_rng2, eS_enum, eS_zip, x_set, x_setT, x_setIx, x_aug, x_app, x_ext, x_exp, x_ret, x_retN, x_ife, x_fr, x_wh, x_brk, x_cont, x_pass, xs_nil, xs_cons, at_nx, at_rt, at_bk, at_ct, at_exc, oke, okbe, x_raise, x_tr, tr_nx, tr_rt, fin_exc, sE_comp2, fin_rt, fin_nx, g_zv, g_zo, g_s, o_z, o_s, st_z, st_s, kp_int, kp_non, kp_bl, kp_str, kp_nil, kp_noO, kp_fz, List.cons_append, sE_str, c_eqS, e_find, sd_s, ltk_find, lik_find, ltk_int, ltk_str, ltk_bl, ltk_non, ltk_glob, ltk_op, ltk_neg, ltk_not, ltk_cmp, ltk_chain, ltk_sl, ltk_tup, ltk_lst, ltk_bi, ltk_isi, ltk_comp, ltk_compIf, ltk_comp2, lik_var, lik_int, lik_str, lik_bl, lik_non, lik_glob, lik_neg, lik_not, lik_cmp, lik_chain, lik_isi, fz_noO, ls_d, fr_j, g_rsl, fr_rsl, fz_c, fr_o, fr_v, fr_n, fr_s, kp_lst, no_0, no_n, no_v, fz_nil, lS1, lS2, sE_i, sE_lst, sE_comp, sE_compIf, sE_opl, sE_sl, sE_list, sE_sorted, sE_var, sE_ix, sE_call, sE_non, sE_blv, sE_tp, lt, li, las, lis, ltS, liS, List.append_nil, List.nil_append, ad_int, sb_int, c_lt, c_le, c_gt, c_ge, c_eq, c_ne, c_is, c_no, isN, bl_bl, in_in, b_len, b_lenT, b_lenS, b_int, b_abs, b_tupL, b_tupT, b_lstT, b_lstL, ixT0, ixT1, ixT2, ixT3, is_n_int, is_n_bool, is_n_str, is_n_tuple, is_n_list, is_b_int, is_b_bool, is_b_str, is_b_tuple, is_b_list, is_i_int, is_i_bool, is_i_str, is_i_tuple, is_i_list, is_s_int, is_s_bool, is_s_str, is_s_tuple, is_s_list, is_t_int, is_t_bool, is_t_str, is_t_tuple, is_t_list, is_l_int, is_l_bool, is_l_str, is_l_tuple, is_l_list, itemsD, wp_s, wp_n, asg1, asgT, asgN, asg0, okb, oko, noxo, List.length_cons, List.length_nil, Nat.reduceAdd, Nat.reduceLT, if_true, if_false, Bool.false_eq_true, Bool.true_eq_false, Bool.not_true, Bool.not_false, decide_true, decide_false, reduceIte, r, smn_exp (n + 6) (by omega) V sV lo hi, s1]
theorem n8_run : fin (exL T.prg.G (T.prg.call (n + 6)) T.prg.fu t8__law_numbers_right [some (.v (.lst (xs.map nm))), some (.v (.int lo)), some (.v (.int hi)), some (.v V), some (.v V), some (.v (.bl (isI V))), some (.v (.bl (okN V lo hi))), none]) = .ok (.bl true) := by
  unfold t8__law_numbers_right
  have t := n10_run n xs lo hi V sV
  cases e : okN V lo hi with
  | true =>
    rw [e] at t
    rw [if_pos rfl] at t
    simp only [e_var, e_int, e_str, e_bl, e_non, e_glob, e_op, e_neg, e_not, e_and, e_or, e_cmp, e_chain, e_ife, e_ix, e_sl, e_tup, e_lst, e_call, e_bi, e_isi, es_nil, es_cons, eo_no, eo_so, eS_seq, eS_rng1, eS_rng2, eS_enum, eS_zip, x_set, x_setT, x_setIx, x_aug, x_app, x_ext, x_exp, x_ret, x_retN, x_ife, x_fr, x_wh, x_brk, x_cont, x_pass, xs_nil, xs_cons, at_nx, at_rt, at_bk, at_ct, at_exc, oke, okbe, x_raise, x_tr, tr_nx, tr_rt, fin_exc, sE_comp2, fin_rt, fin_nx, g_zv, g_zo, g_s, o_z, o_s, st_z, st_s, kp_int, kp_non, kp_bl, kp_str, kp_nil, kp_noO, kp_fz, List.cons_append, sE_str, c_eqS, e_find, sd_s, ltk_find, lik_find, ltk_int, ltk_str, ltk_bl, ltk_non, ltk_glob, ltk_op, ltk_neg, ltk_not, ltk_cmp, ltk_chain, ltk_sl, ltk_tup, ltk_lst, ltk_bi, ltk_isi, ltk_comp, ltk_compIf, ltk_comp2, lik_var, lik_int, lik_str, lik_bl, lik_non, lik_glob, lik_neg, lik_not, lik_cmp, lik_chain, lik_isi, fz_noO, ls_d, fr_j, g_rsl, fr_rsl, fz_c, fr_o, fr_v, fr_n, fr_s, kp_lst, no_0, no_n, no_v, fz_nil, lS1, lS2, sE_i, sE_lst, sE_comp, sE_compIf, sE_opl, sE_sl, sE_list, sE_sorted, sE_var, sE_ix, sE_call, sE_non, sE_blv, sE_tp, lt, li, las, lis, ltS, liS, List.append_nil, List.nil_append, ad_int, sb_int, c_lt, c_le, c_gt, c_ge, c_eq, c_ne, c_is, c_no, isN, bl_bl, in_in, b_len, b_lenT, b_lenS, b_int, b_abs, b_tupL, b_tupT, b_lstT, b_lstL, ixT0, ixT1, ixT2, ixT3, is_n_int, is_n_bool, is_n_str, is_n_tuple, is_n_list, is_b_int, is_b_bool, is_b_str, is_b_tuple, is_b_list, is_i_int, is_i_bool, is_i_str, is_i_tuple, is_i_list, is_s_int, is_s_bool, is_s_str, is_s_tuple, is_s_list, is_t_int, is_t_bool, is_t_str, is_t_tuple, is_t_list, is_l_int, is_l_bool, is_l_str, is_l_tuple, is_l_list, itemsD, wp_s, wp_n, asg1, asgT, asgN, asg0, okb, oko, noxo, List.length_cons, List.length_nil, Nat.reduceAdd, Nat.reduceLT, if_true, if_false, Bool.false_eq_true, Bool.true_eq_false, Bool.not_true, Bool.not_false, decide_true, decide_false, reduceIte]
    exact t
  | false =>
    rw [e] at t
    rw [if_neg (by decide)] at t
    simp only [e_var, e_int, e_str, e_bl, e_non, e_glob, e_op, e_neg, e_not, e_and, e_or, e_cmp, e_chain, e_ife, e_ix, e_sl, e_tup, e_lst, e_call, e_bi, e_isi, es_nil, es_cons, eo_no, eo_so, eS_seq, eS_rng1, eS_rng2, eS_enum, eS_zip, x_set, x_setT, x_setIx, x_aug, x_app, x_ext, x_exp, x_ret, x_retN, x_ife, x_fr, x_wh, x_brk, x_cont, x_pass, xs_nil, xs_cons, at_nx, at_rt, at_bk, at_ct, at_exc, oke, okbe, x_raise, x_tr, tr_nx, tr_rt, fin_exc, sE_comp2, fin_rt, fin_nx, g_zv, g_zo, g_s, o_z, o_s, st_z, st_s, kp_int, kp_non, kp_bl, kp_str, kp_nil, kp_noO, kp_fz, List.cons_append, sE_str, c_eqS, e_find, sd_s, ltk_find, lik_find, ltk_int, ltk_str, ltk_bl, ltk_non, ltk_glob, ltk_op, ltk_neg, ltk_not, ltk_cmp, ltk_chain, ltk_sl, ltk_tup, ltk_lst, ltk_bi, ltk_isi, ltk_comp, ltk_compIf, ltk_comp2, lik_var, lik_int, lik_str, lik_bl, lik_non, lik_glob, lik_neg, lik_not, lik_cmp, lik_chain, lik_isi, fz_noO, ls_d, fr_j, g_rsl, fr_rsl, fz_c, fr_o, fr_v, fr_n, fr_s, kp_lst, no_0, no_n, no_v, fz_nil, lS1, lS2, sE_i, sE_lst, sE_comp, sE_compIf, sE_opl, sE_sl, sE_list, sE_sorted, sE_var, sE_ix, sE_call, sE_non, sE_blv, sE_tp, lt, li, las, lis, ltS, liS, List.append_nil, List.nil_append, ad_int, sb_int, c_lt, c_le, c_gt, c_ge, c_eq, c_ne, c_is, c_no, isN, bl_bl, in_in, b_len, b_lenT, b_lenS, b_int, b_abs, b_tupL, b_tupT, b_lstT, b_lstL, ixT0, ixT1, ixT2, ixT3, is_n_int, is_n_bool, is_n_str, is_n_tuple, is_n_list, is_b_int, is_b_bool, is_b_str, is_b_tuple, is_b_list, is_i_int, is_i_bool, is_i_str, is_i_tuple, is_i_list, is_s_int, is_s_bool, is_s_str, is_s_tuple, is_s_list, is_t_int, is_t_bool, is_t_str, is_t_tuple, is_t_list, is_l_int, is_l_bool, is_l_str, is_l_tuple, is_l_list, itemsD, wp_s, wp_n, asg1, asgT, asgN, asg0, okb, oko, noxo, List.length_cons, List.length_nil, Nat.reduceAdd, Nat.reduceLT, if_true, if_false, Bool.false_eq_true, Bool.true_eq_false, Bool.not_true, Bool.not_false, decide_true, decide_false, reduceIte]
    exact t
end
theorem n2_run (n : Nat) (xs : List Nat) (hx : xs.length = 7) (h1000 : ∀ x ∈ xs, x < 1000000) (lo : Int) (hl : lo.natAbs < 2 ^ 400) : fin (exL T.prg.G (T.prg.call (n + 6)) T.prg.fu t2__law_numbers_right [some (.v (.lst (xs.map nm))), some (.v (.int lo)), none, none, none, none, none, none]) = .ok (.bl true) := by
  unfold t2__law_numbers_right
  have p18 : (10 : Int) ^ (18 : Int).toNat = 1000000000000000000 := by decide
  have i4 := ix_lst (xs := xs.map nm) (i := 4) (n := 4) rfl (nget (by omega))
  have i5 := ix_lst (xs := xs.map nm) (i := 5) (n := 5) rfl (nget (by omega))
  have i6 := ix_lst (xs := xs.map nm) (i := 6) (n := 6) rfl (nget (by omega))
  obtain ⟨q, eq⟩ : ∃ q, xs.getD 5 0 % 5 = q := ⟨_, rfl⟩
  have e5 : ((xs.getD 5 0 : Nat) : Int) % 5 = (q : Int) := by omega
  obtain ⟨r, er⟩ : ∃ r : Int, (1 : Int) + ((xs.getD 4 0 : Nat) : Int) % 9 = r := ⟨_, rfl⟩
  obtain ⟨w, iw⟩ : ∃ w : Int, ixD (.lst [.int 0, .int 1, .int r, .int ((xs.getD 4 0 : Nat) : Int), .int 1000000000000000000]) (.int (q : Int)) = .ok (.int w) := by
    have ql : q = 0 ∨ q = 1 ∨ q = 2 ∨ q = 3 ∨ q = 4 := by omega
    rcases ql with rfl | rfl | rfl | rfl | rfl <;> exact ⟨_, ix_lst (n := _) rfl rfl⟩
  obtain ⟨V, sV, eV⟩ := numeral_run (n + 5) lo (lo + w) hl (xs.getD 6 0)
  have eV : T.prg.call (n + 6) "_law_numeral" [.int lo, .int (lo + w), .int (xs.getD 6 0 : Nat)] = .ok V := eV
  have a1 : T.prg.call (n + 6) "_law_integer" [V] = _ := lawint_run (n + 5) V
  have a2 : T.prg.call (n + 6) "is_integer" [V] = _ := isint_run (n + 5) V
  have a3 : T.prg.call (n + 6) "is_number" [V, .int lo, .int (lo + w)] = _ := isnum_run (n + 4) V lo (lo + w)
  have t := n8_run n xs lo (lo + w) V sV
  have ie := inside_ev n xs lo (lo + w) V (some (.v V)) none none
  have ie' := ie
  rw [e_and] at ie'
  have x6 : exS T.prg.G (T.prg.call (n + 6)) T.prg.fu (.set 6 (.and (.var 5) (.and (.cmp .le (.var 1) (.var 4)) (.cmp .le (.var 4) (.var 2))))) [some (.v (.lst (xs.map nm))), some (.v (.int lo)), some (.v (.int (lo + w))), some (.v V), some (.v V), some (.v (.bl (isI V))), none, none] = .nx [some (.v (.lst (xs.map nm))), some (.v (.int lo)), some (.v (.int (lo + w))), some (.v V), some (.v V), some (.v (.bl (isI V))), some (.v (.bl (okN V lo (lo + w)))), none] := by
    rw [x_set, ie]
    simp only [e_var, e_int, e_str, e_bl, e_non, e_glob, e_op, e_neg, e_not, e_and, e_or, e_cmp, e_chain, e_ife, e_ix, e_sl, e_tup, e_lst, e_call, e_bi, e_isi, es_nil, es_cons, eo_no, eo_so, eS_seq, eS_rng1, eS_rng2, eS_enum, eS_zip, x_set, x_setT, x_setIx, x_aug, x_app, x_ext, x_exp, x_ret, x_retN, x_ife, x_fr, x_wh, x_brk, x_cont, x_pass, xs_nil, xs_cons, at_nx, at_rt, at_bk, at_ct, at_exc, oke, okbe, x_raise, x_tr, tr_nx, tr_rt, fin_exc, sE_comp2, fin_rt, fin_nx, g_zv, g_zo, g_s, o_z, o_s, st_z, st_s, kp_int, kp_non, kp_bl, kp_str, kp_nil, kp_noO, kp_fz, List.cons_append, sE_str, c_eqS, e_find, sd_s, ltk_find, lik_find, ltk_int, ltk_str, ltk_bl, ltk_non, ltk_glob, ltk_op, ltk_neg, ltk_not, ltk_cmp, ltk_chain, ltk_sl, ltk_tup, ltk_lst, ltk_bi, ltk_isi, ltk_comp, ltk_compIf, ltk_comp2, lik_var, lik_int, lik_str, lik_bl, lik_non, lik_glob, lik_neg, lik_not, lik_cmp, lik_chain, lik_isi, fz_noO, ls_d, fr_j, g_rsl, fr_rsl, fz_c, fr_o, fr_v, fr_n, fr_s, kp_lst, no_0, no_n, no_v, fz_nil, lS1, lS2, sE_i, sE_lst, sE_comp, sE_compIf, sE_opl, sE_sl, sE_list, sE_sorted, sE_var, sE_ix, sE_call, sE_non, sE_blv, sE_tp, lt, li, las, lis, ltS, liS, List.append_nil, List.nil_append, ad_int, sb_int, c_lt, c_le, c_gt, c_ge, c_eq, c_ne, c_is, c_no, isN, bl_bl, in_in, b_len, b_lenT, b_lenS, b_int, b_abs, b_tupL, b_tupT, b_lstT, b_lstL, ixT0, ixT1, ixT2, ixT3, is_n_int, is_n_bool, is_n_str, is_n_tuple, is_n_list, is_b_int, is_b_bool, is_b_str, is_b_tuple, is_b_list, is_i_int, is_i_bool, is_i_str, is_i_tuple, is_i_list, is_s_int, is_s_bool, is_s_str, is_s_tuple, is_s_list, is_t_int, is_t_bool, is_t_str, is_t_tuple, is_t_list, is_l_int, is_l_bool, is_l_str, is_l_tuple, is_l_list, itemsD, wp_s, wp_n, asg1, asgT, asgN, asg0, okb, oko, noxo, List.length_cons, List.length_nil, Nat.reduceAdd, Nat.reduceLT, if_true, if_false, Bool.false_eq_true, Bool.true_eq_false, Bool.not_true, Bool.not_false, decide_true, decide_false, reduceIte]
  have go : ∀ rest, exL T.prg.G (T.prg.call (n + 6)) T.prg.fu (.cons (.set 6 (.and (.var 5) (.and (.cmp .le (.var 1) (.var 4)) (.cmp .le (.var 4) (.var 2))))) rest) [some (.v (.lst (xs.map nm))), some (.v (.int lo)), some (.v (.int (lo + w))), some (.v V), some (.v V), some (.v (.bl (isI V))), none, none] = exL T.prg.G (T.prg.call (n + 6)) T.prg.fu rest [some (.v (.lst (xs.map nm))), some (.v (.int lo)), some (.v (.int (lo + w))), some (.v V), some (.v V), some (.v (.bl (isI V))), some (.v (.bl (okN V lo (lo + w)))), none] := fun rest => by
    rw [xs_cons, x6, at_nx]
  have st5 : ∀ rest, exL T.prg.G (T.prg.call (n + 6)) T.prg.fu (.cons (.set 2 (.op .add (.var 1) (.ix (.lst (.cons (.int 0) (.cons (.int 1) (.cons (.op .add (.int 1) (.op .mod (.bi .int (.cons (.ix (.var 0) (.int 4)) .nil)) (.int 9))) (.cons (.ix (.var 0) (.int 4)) (.cons (.op .pow (.int 10) (.int 18)) .nil)))))) (.op .mod (.bi .int (.cons (.ix (.var 0) (.int 5)) .nil)) (.int 5))))) <|
    .cons (.set 3 (.call "_law_numeral" (.cons (.var 1) (.cons (.var 2) (.cons (.ix (.var 0) (.int 6)) .nil))))) <|
    .cons (.set 4 (.call "_law_numeral" (.cons (.var 1) (.cons (.var 2) (.cons (.ix (.var 0) (.int 6)) .nil))))) <|
    .cons (.set 5 (.call "_law_integer" (.cons (.var 4) .nil))) rest) [some (.v (.lst (xs.map nm))), some (.v (.int lo)), none, none, none, none, none, none] = exL T.prg.G (T.prg.call (n + 6)) T.prg.fu rest [some (.v (.lst (xs.map nm))), some (.v (.int lo)), some (.v (.int (lo + w))), some (.v V), some (.v V), some (.v (.bl (isI V))), none, none] := fun rest => by
    simp only [e_var, e_int, e_str, e_bl, e_non, e_glob, e_op, e_neg, e_not, e_and, e_or, e_cmp, e_chain, e_ife, e_ix, e_sl, e_tup, e_lst, e_call, e_bi, e_isi, es_nil, es_cons, eo_no, eo_so, eS_seq, eS_rng1, eS_rng2, eS_enum, eS_zip, x_set, x_setT, x_setIx, x_aug, x_app, x_ext, x_exp, x_ret, x_retN, x_ife, x_fr, x_wh, x_brk, x_cont, x_pass, xs_nil, xs_cons, at_nx, at_rt, at_bk, at_ct, at_exc, oke, okbe, x_raise, x_tr, tr_nx, tr_rt, fin_exc, sE_comp2, fin_rt, fin_nx, g_zv, g_zo, g_s, o_z, o_s, st_z, st_s, kp_int, kp_non, kp_bl, kp_str, kp_nil, kp_noO, kp_fz, List.cons_append, sE_str, c_eqS, e_find, sd_s, ltk_find, lik_find, ltk_int, ltk_str, ltk_bl, ltk_non, ltk_glob, ltk_op, ltk_neg, ltk_not, ltk_cmp, ltk_chain, ltk_sl, ltk_tup, ltk_lst, ltk_bi, ltk_isi, ltk_comp, ltk_compIf, ltk_comp2, lik_var, lik_int, lik_str, lik_bl, lik_non, lik_glob, lik_neg, lik_not, lik_cmp, lik_chain, lik_isi, fz_noO, ls_d, fr_j, g_rsl, fr_rsl, fz_c, fr_o, fr_v, fr_n, fr_s, kp_lst, no_0, no_n, no_v, fz_nil, lS1, lS2, sE_i, sE_lst, sE_comp, sE_compIf, sE_opl, sE_sl, sE_list, sE_sorted, sE_var, sE_ix, sE_call, sE_non, sE_blv, sE_tp, lt, li, las, lis, ltS, liS, List.append_nil, List.nil_append, ad_int, sb_int, c_lt, c_le, c_gt, c_ge, c_eq, c_ne, c_is, c_no, isN, bl_bl, in_in, b_len, b_lenT, b_lenS, b_int, b_abs, b_tupL, b_tupT, b_lstT, b_lstL, ixT0, ixT1, ixT2, ixT3, is_n_int, is_n_bool, is_n_str, is_n_tuple, is_n_list, is_b_int, is_b_bool, is_b_str, is_b_tuple, is_b_list, is_i_int, is_i_bool, is_i_str, is_i_tuple, is_i_list, is_s_int, is_s_bool, is_s_str, is_s_tuple, is_s_list, is_t_int, is_t_bool, is_t_str, is_t_tuple, is_t_list, is_l_int, is_l_bool, is_l_str, is_l_tuple, is_l_list, itemsD, wp_s, wp_n, asg1, asgT, asgN, asg0, okb, oko, noxo, List.length_cons, List.length_nil, Nat.reduceAdd, Nat.reduceLT, if_true, if_false, Bool.false_eq_true, Bool.true_eq_false, Bool.not_true, Bool.not_false, decide_true, decide_false, reduceIte, i4, md_int (i := ((xs.getD 4 0 : Nat) : Int)) (j := 9) (by decide), er, pw_int (i := 10) (j := 18) (by decide), p18, i5, md_int (i := ((xs.getD 5 0 : Nat) : Int)) (j := 5) (by decide), e5, iw, i6, eV, a1]
  rw [st5, go]
  have s5 := sd_bl (n + 6) (by omega) (isI V)
  have s6 := sd_bl (n + 6) (by omega) (okN V lo (lo + w))
  simp only [e_var, e_int, e_str, e_bl, e_non, e_glob, e_op, e_neg, e_not, e_and, e_or, e_cmp, e_chain, e_ife, e_ix, e_sl, e_tup, e_lst, e_call, e_bi, e_isi, es_nil, es_cons, eo_no, eo_so, eS_seq, eS_rng1, eS_rng2, eS_enum, eS_zip, x_set, x_setT, x_setIx, x_aug, x_app, x_ext, x_exp, x_ret, x_retN, x_ife, x_fr, x_wh, x_brk, x_cont, x_pass, xs_nil, xs_cons, at_nx, at_rt, at_bk, at_ct, at_exc, oke, okbe, x_raise, x_tr, tr_nx, tr_rt, fin_exc, sE_comp2, fin_rt, fin_nx, g_zv, g_zo, g_s, o_z, o_s, st_z, st_s, kp_int, kp_non, kp_bl, kp_str, kp_nil, kp_noO, kp_fz, List.cons_append, sE_str, c_eqS, e_find, sd_s, ltk_find, lik_find, ltk_int, ltk_str, ltk_bl, ltk_non, ltk_glob, ltk_op, ltk_neg, ltk_not, ltk_cmp, ltk_chain, ltk_sl, ltk_tup, ltk_lst, ltk_bi, ltk_isi, ltk_comp, ltk_compIf, ltk_comp2, lik_var, lik_int, lik_str, lik_bl, lik_non, lik_glob, lik_neg, lik_not, lik_cmp, lik_chain, lik_isi, fz_noO, ls_d, fr_j, g_rsl, fr_rsl, fz_c, fr_o, fr_v, fr_n, fr_s, kp_lst, no_0, no_n, no_v, fz_nil, lS1, lS2, sE_i, sE_lst, sE_comp, sE_compIf, sE_opl, sE_sl, sE_list, sE_sorted, sE_var, sE_ix, sE_call, sE_non, sE_blv, sE_tp, lt, li, las, lis, ltS, liS, List.append_nil, List.nil_append, ad_int, sb_int, c_lt, c_le, c_gt, c_ge, c_eq, c_ne, c_is, c_no, isN, bl_bl, in_in, b_len, b_lenT, b_lenS, b_int, b_abs, b_tupL, b_tupT, b_lstT, b_lstL, ixT0, ixT1, ixT2, ixT3, is_n_int, is_n_bool, is_n_str, is_n_tuple, is_n_list, is_b_int, is_b_bool, is_b_str, is_b_tuple, is_b_list, is_i_int, is_i_bool, is_i_str, is_i_tuple, is_i_list, is_s_int, is_s_bool, is_s_str, is_s_tuple, is_s_list, is_t_int, is_t_bool, is_t_str, is_t_tuple, is_t_list, is_l_int, is_l_bool, is_l_str, is_l_tuple, is_l_list, itemsD, wp_s, wp_n, asg1, asgT, asgN, asg0, okb, oko, noxo, List.length_cons, List.length_nil, Nat.reduceAdd, Nat.reduceLT, if_true, if_false, Bool.false_eq_true, Bool.true_eq_false, Bool.not_true, Bool.not_false, decide_true, decide_false, reduceIte, a2, s5, a3, s6]
  exact t
theorem numbers_run (n : Nat) (xs : List Nat) (hx : xs.length = 7) (h1000 : ∀ x ∈ xs, x < 1000000) : T.prg.call (n + 7) "_law_numbers_right" [.lst (xs.map nm)] = .ok (.bl true) := by
  rw [call__law_numbers_right]
  unfold b__law_numbers_right
  have p12 : (10 : Int) ^ (12 : Int).toNat = 1000000000000 := by decide
  have p30 : (10 : Int) ^ (30 : Int).toNat = 1000000000000000000000000000000 := by decide
  have gl : ∀ j, xs.getD j 0 < 1000000 := fun j => by
    rw [List.getD_eq_getElem?_getD]
    cases e : xs[j]? with
    | none => exact (by decide : (0 : Nat) < 1000000)
    | some a => exact h1000 a (List.mem_of_getElem? e)
  have g0 := gl 0
  have g1 := gl 1
  have i0 := ix_lst (xs := xs.map nm) (i := 0) (n := 0) rfl (nget (by omega))
  have i1 := ix_lst (xs := xs.map nm) (i := 1) (n := 1) rfl (nget (by omega))
  have i2 := ix_lst (xs := xs.map nm) (i := 2) (n := 2) rfl (nget (by omega))
  have i3 := ix_lst (xs := xs.map nm) (i := 3) (n := 3) rfl (nget (by omega))
  obtain ⟨q, eq⟩ : ∃ q, xs.getD 2 0 % 5 = q := ⟨_, rfl⟩
  have e2 : ((xs.getD 2 0 : Nat) : Int) % 5 = (q : Int) := by omega
  obtain ⟨r, er⟩ : ∃ r : Int, ((xs.getD 0 0 : Nat) : Int) % 20 = r := ⟨_, rfl⟩
  obtain ⟨m, em⟩ : ∃ m : Int, ((xs.getD 0 0 : Nat) : Int) * 1000000000000 + ((xs.getD 1 0 : Nat) : Int) = m := ⟨_, rfl⟩
  obtain ⟨w, ew⟩ : ∃ w : Int, (1000000000000000000000000000000 : Int) + ((xs.getD 0 0 : Nat) : Int) = w := ⟨_, rfl⟩
  have K : (2000000000000000000000000000000 : Nat) < 2 ^ 400 := by decide
  obtain ⟨lo, il, hl⟩ : ∃ lo : Int, ixD (.lst [.int 0, .int 1, .int r, .int m, .int w]) (.int (q : Int)) = .ok (.int lo) ∧ lo.natAbs ≤ 2000000000000000000000000000000 := by
    have ql : q = 0 ∨ q = 1 ∨ q = 2 ∨ q = 3 ∨ q = 4 := by omega
    rcases ql with rfl | rfl | rfl | rfl | rfl
    · exact ⟨_, ix_lst (n := 0) rfl rfl, by decide⟩
    · exact ⟨_, ix_lst (n := 1) rfl rfl, by decide⟩
    · exact ⟨_, ix_lst (n := 2) rfl rfl, by omega⟩
    · exact ⟨_, ix_lst (n := 3) rfl rfl, by omega⟩
    · exact ⟨_, ix_lst (n := 4) rfl rfl, by omega⟩
  by_cases h : ((xs.getD 3 0 : Nat) : Int) % 3 = 1
  · have t := n2_run n xs hx h1000 (-lo) (by rw [Int.natAbs_neg]; exact Nat.lt_of_le_of_lt hl K)
    simp only [e_var, e_int, e_str, e_bl, e_non, e_glob, e_op, e_neg, e_not, e_and, e_or, e_cmp, e_chain, e_ife, e_ix, e_sl, e_tup, e_lst, e_call, e_bi, e_isi, es_nil, es_cons, eo_no, eo_so, eS_seq, eS_rng1, eS_rng2, eS_enum, eS_zip, x_set, x_setT, x_setIx, x_aug, x_app, x_ext, x_exp, x_ret, x_retN, x_ife, x_fr, x_wh, x_brk, x_cont, x_pass, xs_nil, xs_cons, at_nx, at_rt, at_bk, at_ct, at_exc, oke, okbe, x_raise, x_tr, tr_nx, tr_rt, fin_exc, sE_comp2, fin_rt, fin_nx, g_zv, g_zo, g_s, o_z, o_s, st_z, st_s, kp_int, kp_non, kp_bl, kp_str, kp_nil, kp_noO, kp_fz, List.cons_append, sE_str, c_eqS, e_find, sd_s, ltk_find, lik_find, ltk_int, ltk_str, ltk_bl, ltk_non, ltk_glob, ltk_op, ltk_neg, ltk_not, ltk_cmp, ltk_chain, ltk_sl, ltk_tup, ltk_lst, ltk_bi, ltk_isi, ltk_comp, ltk_compIf, ltk_comp2, lik_var, lik_int, lik_str, lik_bl, lik_non, lik_glob, lik_neg, lik_not, lik_cmp, lik_chain, lik_isi, fz_noO, ls_d, fr_j, g_rsl, fr_rsl, fz_c, fr_o, fr_v, fr_n, fr_s, kp_lst, no_0, no_n, no_v, fz_nil, lS1, lS2, sE_i, sE_lst, sE_comp, sE_compIf, sE_opl, sE_sl, sE_list, sE_sorted, sE_var, sE_ix, sE_call, sE_non, sE_blv, sE_tp, lt, li, las, lis, ltS, liS, List.append_nil, List.nil_append, ad_int, sb_int, c_lt, c_le, c_gt, c_ge, c_eq, c_ne, c_is, c_no, isN, bl_bl, in_in, b_len, b_lenT, b_lenS, b_int, b_abs, b_tupL, b_tupT, b_lstT, b_lstL, ixT0, ixT1, ixT2, ixT3, is_n_int, is_n_bool, is_n_str, is_n_tuple, is_n_list, is_b_int, is_b_bool, is_b_str, is_b_tuple, is_b_list, is_i_int, is_i_bool, is_i_str, is_i_tuple, is_i_list, is_s_int, is_s_bool, is_s_str, is_s_tuple, is_s_list, is_t_int, is_t_bool, is_t_str, is_t_tuple, is_t_list, is_l_int, is_l_bool, is_l_str, is_l_tuple, is_l_list, itemsD, wp_s, wp_n, asg1, asgT, asgN, asg0, okb, oko, noxo, List.length_cons, List.length_nil, Nat.reduceAdd, Nat.reduceLT, if_true, if_false, Bool.false_eq_true, Bool.true_eq_false, Bool.not_true, Bool.not_false, decide_true, decide_false, reduceIte, i0, md_int (i := ((xs.getD 0 0 : Nat) : Int)) (j := 20) (by decide), er, pw_int (i := 10) (j := 12) (by decide), p12, ml_int (mulS (i := ((xs.getD 0 0 : Nat) : Int)) (j := 1000000000000) (by decide)), i1, em, pw_int (i := 10) (j := 30) (by decide), p30, ew, i2, md_int (i := ((xs.getD 2 0 : Nat) : Int)) (j := 5) (by decide), e2, il, i3, md_int (i := ((xs.getD 3 0 : Nat) : Int)) (j := 3) (by decide), h]
    exact t
  · have t := n2_run n xs hx h1000 lo (Nat.lt_of_le_of_lt hl K)
    simp only [e_var, e_int, e_str, e_bl, e_non, e_glob, e_op, e_neg, e_not, e_and, e_or, e_cmp, e_chain, e_ife, e_ix, e_sl, e_tup, e_lst, e_call, e_bi, e_isi, es_nil, es_cons, eo_no, eo_so, eS_seq, eS_rng1, eS_rng2, eS_enum, eS_zip, x_set, x_setT, x_setIx, x_aug, x_app, x_ext, x_exp, x_ret, x_retN, x_ife, x_fr, x_wh, x_brk, x_cont, x_pass, xs_nil, xs_cons, at_nx, at_rt, at_bk, at_ct, at_exc, oke, okbe, x_raise, x_tr, tr_nx, tr_rt, fin_exc, sE_comp2, fin_rt, fin_nx, g_zv, g_zo, g_s, o_z, o_s, st_z, st_s, kp_int, kp_non, kp_bl, kp_str, kp_nil, kp_noO, kp_fz, List.cons_append, sE_str, c_eqS, e_find, sd_s, ltk_find, lik_find, ltk_int, ltk_str, ltk_bl, ltk_non, ltk_glob, ltk_op, ltk_neg, ltk_not, ltk_cmp, ltk_chain, ltk_sl, ltk_tup, ltk_lst, ltk_bi, ltk_isi, ltk_comp, ltk_compIf, ltk_comp2, lik_var, lik_int, lik_str, lik_bl, lik_non, lik_glob, lik_neg, lik_not, lik_cmp, lik_chain, lik_isi, fz_noO, ls_d, fr_j, g_rsl, fr_rsl, fz_c, fr_o, fr_v, fr_n, fr_s, kp_lst, no_0, no_n, no_v, fz_nil, lS1, lS2, sE_i, sE_lst, sE_comp, sE_compIf, sE_opl, sE_sl, sE_list, sE_sorted, sE_var, sE_ix, sE_call, sE_non, sE_blv, sE_tp, lt, li, las, lis, ltS, liS, List.append_nil, List.nil_append, ad_int, sb_int, c_lt, c_le, c_gt, c_ge, c_eq, c_ne, c_is, c_no, isN, bl_bl, in_in, b_len, b_lenT, b_lenS, b_int, b_abs, b_tupL, b_tupT, b_lstT, b_lstL, ixT0, ixT1, ixT2, ixT3, is_n_int, is_n_bool, is_n_str, is_n_tuple, is_n_list, is_b_int, is_b_bool, is_b_str, is_b_tuple, is_b_list, is_i_int, is_i_bool, is_i_str, is_i_tuple, is_i_list, is_s_int, is_s_bool, is_s_str, is_s_tuple, is_s_list, is_t_int, is_t_bool, is_t_str, is_t_tuple, is_t_list, is_l_int, is_l_bool, is_l_str, is_l_tuple, is_l_list, itemsD, wp_s, wp_n, asg1, asgT, asgN, asg0, okb, oko, noxo, List.length_cons, List.length_nil, Nat.reduceAdd, Nat.reduceLT, if_true, if_false, Bool.false_eq_true, Bool.true_eq_false, Bool.not_true, Bool.not_false, decide_true, decide_false, reduceIte, i0, md_int (i := ((xs.getD 0 0 : Nat) : Int)) (j := 20) (by decide), er, pw_int (i := 10) (j := 12) (by decide), p12, ml_int (mulS (i := ((xs.getD 0 0 : Nat) : Int)) (j := 1000000000000) (by decide)), i1, em, pw_int (i := 10) (j := 30) (by decide), p30, ew, i2, md_int (i := ((xs.getD 2 0 : Nat) : Int)) (j := 5) (by decide), e2, il, i3, md_int (i := ((xs.getD 3 0 : Nat) : Int)) (j := 3) (by decide), h]
    exact t
end K01
namespace K01
open PySem L2 PyI
theorem s_0 : ("0" : Str) = st [48] := by decide
theorem digits_run (n size : Nat) (xs : List Nat) (hx : xs.length = 21) (h1 : size ≤ 101) : ∃ l : List Nat, l.length = size ∧ T.prg.call (n + 1) "_law_digits" [.lst (xs.map nm), .int size] = .ok (.str (st l)) := by
  rw [call__law_digits]
  unfold b__law_digits
  have go := forL_go (g := asg (.nm 4)) (f := exL T.prg.G (T.prg.call n) T.prg.fu l1__law_digits) ((List.range size).map fun (i : Nat) => D.int i)
    (fun i τ => ∃ (l : List Nat) (rest : Nat) (l5 : Option D), τ = [some (.v (.lst (xs.map nm))), some (.v (.int size)), some (.v (.str (st l))), some (.v (.int rest)), l5.map C.v] ∧ l.length = i)
    [some (.v (.lst (xs.map nm))), some (.v (.int size)), some (.v (.str (st []))), some (.v (.int 0)), none] ⟨[], 0, none, rfl, rfl⟩ (by
      rintro i d τ hd ⟨l, rest, l5, rfl, hl⟩
      obtain ⟨hi, rfl⟩ := rg_get hd
      refine ⟨[some (.v (.lst (xs.map nm))), some (.v (.int size)), some (.v (.str (st l))), some (.v (.int rest)), some (.v (.int i))], by simp only [e_var, e_int, e_str, e_bl, e_non, e_glob, e_op, e_neg, e_not, e_and, e_or, e_cmp, e_chain, e_ife, e_ix, e_sl, e_tup, e_lst, e_call, e_bi, e_isi, es_nil, es_cons, eo_no, eo_so, eS_seq, eS_rng1, eS_rng2, eS_enum, eS_zip, x_set, x_setT, x_setIx, x_aug, x_app, x_ext, x_exp, x_ret, x_retN, x_ife, x_fr, x_wh, x_brk, x_cont, x_pass, xs_nil, xs_cons, at_nx, at_rt, at_bk, at_ct, at_exc, oke, okbe, x_raise, x_tr, tr_nx, tr_rt, fin_exc, sE_comp2, fin_rt, fin_nx, g_zv, g_zo, g_s, o_z, o_s, st_z, st_s, kp_int, kp_non, kp_bl, kp_str, kp_nil, kp_noO, kp_fz, List.cons_append, sE_str, c_eqS, e_find, sd_s, ltk_find, lik_find, ltk_int, ltk_str, ltk_bl, ltk_non, ltk_glob, ltk_op, ltk_neg, ltk_not, ltk_cmp, ltk_chain, ltk_sl, ltk_tup, ltk_lst, ltk_bi, ltk_isi, ltk_comp, ltk_compIf, ltk_comp2, lik_var, lik_int, lik_str, lik_bl, lik_non, lik_glob, lik_neg, lik_not, lik_cmp, lik_chain, lik_isi, fz_noO, ls_d, fr_j, g_rsl, fr_rsl, fz_c, fr_o, fr_v, fr_n, fr_s, kp_lst, no_0, no_n, no_v, fz_nil, lS1, lS2, sE_i, sE_lst, sE_comp, sE_compIf, sE_opl, sE_sl, sE_list, sE_sorted, sE_var, sE_ix, sE_call, sE_non, sE_blv, sE_tp, lt, li, las, lis, ltS, liS, List.append_nil, List.nil_append, ad_int, sb_int, c_lt, c_le, c_gt, c_ge, c_eq, c_ne, c_is, c_no, isN, bl_bl, in_in, b_len, b_lenT, b_lenS, b_int, b_abs, b_tupL, b_tupT, b_lstT, b_lstL, ixT0, ixT1, ixT2, ixT3, is_n_int, is_n_bool, is_n_str, is_n_tuple, is_n_list, is_b_int, is_b_bool, is_b_str, is_b_tuple, is_b_list, is_i_int, is_i_bool, is_i_str, is_i_tuple, is_i_list, is_s_int, is_s_bool, is_s_str, is_s_tuple, is_s_list, is_t_int, is_t_bool, is_t_str, is_t_tuple, is_t_list, is_l_int, is_l_bool, is_l_str, is_l_tuple, is_l_list, itemsD, wp_s, wp_n, asg1, asgT, asgN, asg0, okb, oko, noxo, List.length_cons, List.length_nil, Nat.reduceAdd, Nat.reduceLT, if_true, if_false, Bool.false_eq_true, Bool.true_eq_false, Bool.not_true, Bool.not_false, decide_true, decide_false, reduceIte], ?_⟩
      have body : ∀ r : Nat, ∃ (l' : List Nat) (rest' : Nat), exL T.prg.G (T.prg.call n) T.prg.fu (.cons (.set 2 (.op .add (.var 2) (.ix (.str "0123456789") (.op .mod (.bi .int (.cons (.var 3) .nil)) (.int 10))))) (.cons (.set 3 (.op .fdiv (.var 3) (.int 10))) .nil)) [some (.v (.lst (xs.map nm))), some (.v (.int size)), some (.v (.str (st l))), some (.v (.int r)), some (.v (.int i))] = .nx [some (.v (.lst (xs.map nm))), some (.v (.int size)), some (.v (.str (st l'))), some (.v (.int rest')), some (.v (.int i))] ∧ l'.length = i + 1 := fun r => by
        obtain ⟨q, eq⟩ : ∃ q, r % 10 = q := ⟨_, rfl⟩
        have e1 : (r : Int) % 10 = (q : Int) := by omega
        have e2 : (r : Int) / 10 = ((r / 10 : Nat) : Int) := by omega
        have ql : q < DG.length := by show q < 10; omega
        have ix : ixD (.str (st DG)) (.int (q : Int)) = .ok (ch DG[q]) := ix_st (by decide) rfl (List.getElem?_eq_getElem ql)
        have ad : opD .add (.str (st l)) (ch DG[q]) = .ok (.str (st (l ++ [DG[q]]))) := ad_st (by rw [List.length_singleton]; omega)
        refine ⟨l ++ [DG[q]], r / 10, ?_, by rw [List.length_append, hl]; rfl⟩
        simp only [e_var, e_int, e_str, e_bl, e_non, e_glob, e_op, e_neg, e_not, e_and, e_or, e_cmp, e_chain, e_ife, e_ix, e_sl, e_tup, e_lst, e_call, e_bi, e_isi, es_nil, es_cons, eo_no, eo_so, eS_seq, eS_rng1, eS_rng2, eS_enum, eS_zip, x_set, x_setT, x_setIx, x_aug, x_app, x_ext, x_exp, x_ret, x_retN, x_ife, x_fr, x_wh, x_brk, x_cont, x_pass, xs_nil, xs_cons, at_nx, at_rt, at_bk, at_ct, at_exc, oke, okbe, x_raise, x_tr, tr_nx, tr_rt, fin_exc, sE_comp2, fin_rt, fin_nx, g_zv, g_zo, g_s, o_z, o_s, st_z, st_s, kp_int, kp_non, kp_bl, kp_str, kp_nil, kp_noO, kp_fz, List.cons_append, sE_str, c_eqS, e_find, sd_s, ltk_find, lik_find, ltk_int, ltk_str, ltk_bl, ltk_non, ltk_glob, ltk_op, ltk_neg, ltk_not, ltk_cmp, ltk_chain, ltk_sl, ltk_tup, ltk_lst, ltk_bi, ltk_isi, ltk_comp, ltk_compIf, ltk_comp2, lik_var, lik_int, lik_str, lik_bl, lik_non, lik_glob, lik_neg, lik_not, lik_cmp, lik_chain, lik_isi, fz_noO, ls_d, fr_j, g_rsl, fr_rsl, fz_c, fr_o, fr_v, fr_n, fr_s, kp_lst, no_0, no_n, no_v, fz_nil, lS1, lS2, sE_i, sE_lst, sE_comp, sE_compIf, sE_opl, sE_sl, sE_list, sE_sorted, sE_var, sE_ix, sE_call, sE_non, sE_blv, sE_tp, lt, li, las, lis, ltS, liS, List.append_nil, List.nil_append, ad_int, sb_int, c_lt, c_le, c_gt, c_ge, c_eq, c_ne, c_is, c_no, isN, bl_bl, in_in, b_len, b_lenT, b_lenS, b_int, b_abs, b_tupL, b_tupT, b_lstT, b_lstL, ixT0, ixT1, ixT2, ixT3, is_n_int, is_n_bool, is_n_str, is_n_tuple, is_n_list, is_b_int, is_b_bool, is_b_str, is_b_tuple, is_b_list, is_i_int, is_i_bool, is_i_str, is_i_tuple, is_i_list, is_s_int, is_s_bool, is_s_str, is_s_tuple, is_s_list, is_t_int, is_t_bool, is_t_str, is_t_tuple, is_t_list, is_l_int, is_l_bool, is_l_str, is_l_tuple, is_l_list, itemsD, wp_s, wp_n, asg1, asgT, asgN, asg0, okb, oko, noxo, List.length_cons, List.length_nil, Nat.reduceAdd, Nat.reduceLT, if_true, if_false, Bool.false_eq_true, Bool.true_eq_false, Bool.not_true, Bool.not_false, decide_true, decide_false, reduceIte, md_int (i := (r : Int)) (j := 10) (by decide), e1, s_digits, ix, ad, fd_int (i := (r : Int)) (j := 10) (by decide), e2]
      by_cases h4 : i % 5 = 0
      · obtain ⟨l', rest', e, hl'⟩ := body (xs.getD (i / 5) 0)
        refine ⟨_, .inl ?_, l', rest', some (.int i), rfl, hl'⟩
        have e4 : (i : Int) % 5 = 0 := by omega
        have e5 : (i : Int) / 5 = ((i / 5 : Nat) : Int) := by omega
        have ix := ix_lst (xs := xs.map nm) (i := ((i / 5 : Nat) : Int)) (n := i / 5) rfl (nget (by omega))
        unfold l1__law_digits
        rw [xs_cons]
        have st1 : exS T.prg.G (T.prg.call n) T.prg.fu (.ife (.cmp .eq (.op .mod (.var 4) (.int 5)) (.int 0)) (.cons (.set 3 (.ix (.var 0) (.op .fdiv (.var 4) (.int 5)))) .nil) (.nil)) [some (.v (.lst (xs.map nm))), some (.v (.int size)), some (.v (.str (st l))), some (.v (.int rest)), some (.v (.int i))] = .nx [some (.v (.lst (xs.map nm))), some (.v (.int size)), some (.v (.str (st l))), some (.v (.int (xs.getD (i / 5) 0 : Nat))), some (.v (.int i))] := by
          simp only [e_var, e_int, e_str, e_bl, e_non, e_glob, e_op, e_neg, e_not, e_and, e_or, e_cmp, e_chain, e_ife, e_ix, e_sl, e_tup, e_lst, e_call, e_bi, e_isi, es_nil, es_cons, eo_no, eo_so, eS_seq, eS_rng1, eS_rng2, eS_enum, eS_zip, x_set, x_setT, x_setIx, x_aug, x_app, x_ext, x_exp, x_ret, x_retN, x_ife, x_fr, x_wh, x_brk, x_cont, x_pass, xs_nil, xs_cons, at_nx, at_rt, at_bk, at_ct, at_exc, oke, okbe, x_raise, x_tr, tr_nx, tr_rt, fin_exc, sE_comp2, fin_rt, fin_nx, g_zv, g_zo, g_s, o_z, o_s, st_z, st_s, kp_int, kp_non, kp_bl, kp_str, kp_nil, kp_noO, kp_fz, List.cons_append, sE_str, c_eqS, e_find, sd_s, ltk_find, lik_find, ltk_int, ltk_str, ltk_bl, ltk_non, ltk_glob, ltk_op, ltk_neg, ltk_not, ltk_cmp, ltk_chain, ltk_sl, ltk_tup, ltk_lst, ltk_bi, ltk_isi, ltk_comp, ltk_compIf, ltk_comp2, lik_var, lik_int, lik_str, lik_bl, lik_non, lik_glob, lik_neg, lik_not, lik_cmp, lik_chain, lik_isi, fz_noO, ls_d, fr_j, g_rsl, fr_rsl, fz_c, fr_o, fr_v, fr_n, fr_s, kp_lst, no_0, no_n, no_v, fz_nil, lS1, lS2, sE_i, sE_lst, sE_comp, sE_compIf, sE_opl, sE_sl, sE_list, sE_sorted, sE_var, sE_ix, sE_call, sE_non, sE_blv, sE_tp, lt, li, las, lis, ltS, liS, List.append_nil, List.nil_append, ad_int, sb_int, c_lt, c_le, c_gt, c_ge, c_eq, c_ne, c_is, c_no, isN, bl_bl, in_in, b_len, b_lenT, b_lenS, b_int, b_abs, b_tupL, b_tupT, b_lstT, b_lstL, ixT0, ixT1, ixT2, ixT3, is_n_int, is_n_bool, is_n_str, is_n_tuple, is_n_list, is_b_int, is_b_bool, is_b_str, is_b_tuple, is_b_list, is_i_int, is_i_bool, is_i_str, is_i_tuple, is_i_list, is_s_int, is_s_bool, is_s_str, is_s_tuple, is_s_list, is_t_int, is_t_bool, is_t_str, is_t_tuple, is_t_list, is_l_int, is_l_bool, is_l_str, is_l_tuple, is_l_list, itemsD, wp_s, wp_n, asg1, asgT, asgN, asg0, okb, oko, noxo, List.length_cons, List.length_nil, Nat.reduceAdd, Nat.reduceLT, if_true, if_false, Bool.false_eq_true, Bool.true_eq_false, Bool.not_true, Bool.not_false, decide_true, decide_false, reduceIte, md_int (i := (i : Int)) (j := 5) (by decide), e4, fd_int (i := (i : Int)) (j := 5) (by decide), e5, ix]
        rw [st1, at_nx]
        exact e
      · obtain ⟨l', rest', e, hl'⟩ := body rest
        refine ⟨_, .inl ?_, l', rest', some (.int i), rfl, hl'⟩
        have e4 : ¬ (i : Int) % 5 = 0 := by omega
        unfold l1__law_digits
        rw [xs_cons]
        have st1 : exS T.prg.G (T.prg.call n) T.prg.fu (.ife (.cmp .eq (.op .mod (.var 4) (.int 5)) (.int 0)) (.cons (.set 3 (.ix (.var 0) (.op .fdiv (.var 4) (.int 5)))) .nil) (.nil)) [some (.v (.lst (xs.map nm))), some (.v (.int size)), some (.v (.str (st l))), some (.v (.int rest)), some (.v (.int i))] = .nx [some (.v (.lst (xs.map nm))), some (.v (.int size)), some (.v (.str (st l))), some (.v (.int rest)), some (.v (.int i))] := by
          simp only [e_var, e_int, e_str, e_bl, e_non, e_glob, e_op, e_neg, e_not, e_and, e_or, e_cmp, e_chain, e_ife, e_ix, e_sl, e_tup, e_lst, e_call, e_bi, e_isi, es_nil, es_cons, eo_no, eo_so, eS_seq, eS_rng1, eS_rng2, eS_enum, eS_zip, x_set, x_setT, x_setIx, x_aug, x_app, x_ext, x_exp, x_ret, x_retN, x_ife, x_fr, x_wh, x_brk, x_cont, x_pass, xs_nil, xs_cons, at_nx, at_rt, at_bk, at_ct, at_exc, oke, okbe, x_raise, x_tr, tr_nx, tr_rt, fin_exc, sE_comp2, fin_rt, fin_nx, g_zv, g_zo, g_s, o_z, o_s, st_z, st_s, kp_int, kp_non, kp_bl, kp_str, kp_nil, kp_noO, kp_fz, List.cons_append, sE_str, c_eqS, e_find, sd_s, ltk_find, lik_find, ltk_int, ltk_str, ltk_bl, ltk_non, ltk_glob, ltk_op, ltk_neg, ltk_not, ltk_cmp, ltk_chain, ltk_sl, ltk_tup, ltk_lst, ltk_bi, ltk_isi, ltk_comp, ltk_compIf, ltk_comp2, lik_var, lik_int, lik_str, lik_bl, lik_non, lik_glob, lik_neg, lik_not, lik_cmp, lik_chain, lik_isi, fz_noO, ls_d, fr_j, g_rsl, fr_rsl, fz_c, fr_o, fr_v, fr_n, fr_s, kp_lst, no_0, no_n, no_v, fz_nil, lS1, lS2, sE_i, sE_lst, sE_comp, sE_compIf, sE_opl, sE_sl, sE_list, sE_sorted, sE_var, sE_ix, sE_call, sE_non, sE_blv, sE_tp, lt, li, las, lis, ltS, liS, List.append_nil, List.nil_append, ad_int, sb_int, c_lt, c_le, c_gt, c_ge, c_eq, c_ne, c_is, c_no, isN, bl_bl, in_in, b_len, b_lenT, b_lenS, b_int, b_abs, b_tupL, b_tupT, b_lstT, b_lstL, ixT0, ixT1, ixT2, ixT3, is_n_int, is_n_bool, is_n_str, is_n_tuple, is_n_list, is_b_int, is_b_bool, is_b_str, is_b_tuple, is_b_list, is_i_int, is_i_bool, is_i_str, is_i_tuple, is_i_list, is_s_int, is_s_bool, is_s_str, is_s_tuple, is_s_list, is_t_int, is_t_bool, is_t_str, is_t_tuple, is_t_list, is_l_int, is_l_bool, is_l_str, is_l_tuple, is_l_list, itemsD, wp_s, wp_n, asg1, asgT, asgN, asg0, okb, oko, noxo, List.length_cons, List.length_nil, Nat.reduceAdd, Nat.reduceLT, if_true, if_false, Bool.false_eq_true, Bool.true_eq_false, Bool.not_true, Bool.not_false, decide_true, decide_false, reduceIte, md_int (i := (i : Int)) (j := 5) (by decide), decide_eq_false e4]
        rw [st1, at_nx]
        exact e)
  obtain ⟨τ, e, l, rest, l5, rfl, hl⟩ := go
  rw [rg_len] at hl
  refine ⟨l, hl, ?_⟩
  simp only [e_var, e_int, e_str, e_bl, e_non, e_glob, e_op, e_neg, e_not, e_and, e_or, e_cmp, e_chain, e_ife, e_ix, e_sl, e_tup, e_lst, e_call, e_bi, e_isi, es_nil, es_cons, eo_no, eo_so, eS_seq, eS_rng1, eS_rng2, eS_enum, eS_zip, x_set, x_setT, x_setIx, x_aug, x_app, x_ext, x_exp, x_ret, x_retN, x_ife, x_fr, x_wh, x_brk, x_cont, x_pass, xs_nil, xs_cons, at_nx, at_rt, at_bk, at_ct, at_exc, oke, okbe, x_raise, x_tr, tr_nx, tr_rt, fin_exc, sE_comp2, fin_rt, fin_nx, g_zv, g_zo, g_s, o_z, o_s, st_z, st_s, kp_int, kp_non, kp_bl, kp_str, kp_nil, kp_noO, kp_fz, List.cons_append, sE_str, c_eqS, e_find, sd_s, ltk_find, lik_find, ltk_int, ltk_str, ltk_bl, ltk_non, ltk_glob, ltk_op, ltk_neg, ltk_not, ltk_cmp, ltk_chain, ltk_sl, ltk_tup, ltk_lst, ltk_bi, ltk_isi, ltk_comp, ltk_compIf, ltk_comp2, lik_var, lik_int, lik_str, lik_bl, lik_non, lik_glob, lik_neg, lik_not, lik_cmp, lik_chain, lik_isi, fz_noO, ls_d, fr_j, g_rsl, fr_rsl, fz_c, fr_o, fr_v, fr_n, fr_s, kp_lst, no_0, no_n, no_v, fz_nil, lS1, lS2, sE_i, sE_lst, sE_comp, sE_compIf, sE_opl, sE_sl, sE_list, sE_sorted, sE_var, sE_ix, sE_call, sE_non, sE_blv, sE_tp, lt, li, las, lis, ltS, liS, List.append_nil, List.nil_append, ad_int, sb_int, c_lt, c_le, c_gt, c_ge, c_eq, c_ne, c_is, c_no, isN, bl_bl, in_in, b_len, b_lenT, b_lenS, b_int, b_abs, b_tupL, b_tupT, b_lstT, b_lstL, ixT0, ixT1, ixT2, ixT3, is_n_int, is_n_bool, is_n_str, is_n_tuple, is_n_list, is_b_int, is_b_bool, is_b_str, is_b_tuple, is_b_list, is_i_int, is_i_bool, is_i_str, is_i_tuple, is_i_list, is_s_int, is_s_bool, is_s_str, is_s_tuple, is_s_list, is_t_int, is_t_bool, is_t_str, is_t_tuple, is_t_list, is_l_int, is_l_bool, is_l_str, is_l_tuple, is_l_list, itemsD, wp_s, wp_n, asg1, asgT, asgN, asg0, okb, oko, noxo, List.length_cons, List.length_nil, Nat.reduceAdd, Nat.reduceLT, if_true, if_false, Bool.false_eq_true, Bool.true_eq_false, Bool.not_true, Bool.not_false, decide_true, decide_false, reduceIte, s_empty, rng0 (m := size) (by omega), e]
/-! ### reading -/
def dv (l : List Nat) : Nat := NumText.digitsVal l
def rdN (l : List Nat) (f : Nat) : Int := if l.length < 1 ∨ f < l.length then -1 else if (l.all fun c => decide (c ∈ DG)) = false then -1 else if l.getD 0 0 = 48 ∧ 1 < l.length then -1 else (dv l : Nat)
theorem int_st {l : List Nat} (h1 : 1 ≤ l.length) (h2 : l.length ≤ 640) (h3 : (l.all fun c => decide (c ∈ DG)) = true) : biD .int [.str (st l)] = .ok (.int (dv l : Nat)) := by
  have e : biD .int [.str (st l)] = if (st l).cps.toList ≠ [] ∧ (st l).length ≤ 640 ∧ ((st l).cps.toList.all fun c => decide (48 ≤ c) && decide (c ≤ 57)) = true then .ok (.int (NumText.digitsVal (st l).cps.toList : Nat)) else .bad := rfl
  rw [e, st_tl, st_len, if_pos]
  · rfl
  · refine ⟨fun z => (by rw [z] at h1; cases h1), h2, ?_⟩
    rw [List.all_eq_true] at h3 ⊢
    intro c hc
    have := mem_dg.mp (of_decide_eq_true (h3 c hc))
    rw [decide_eq_true this.1, decide_eq_true this.2]
    rfl
theorem ix0_st {l : List Nat} (h1 : 1 ≤ l.length) (h2 : l.length ≤ 640) : ixD (.str (st l)) (.int 0) = .ok (ch (l.getD 0 0)) := by
  refine ix_st (by omega) (n := 0) rfl ?_
  rw [List.getD_eq_getElem?_getD, List.getElem?_eq_getElem (by omega)]
  rfl
theorem eq_ch (a b : Nat) : cmD .eq (ch a) (.str (st [b])) = .ok (.bl (decide (a = b))) := by
  rw [ch_st, eq_st]
  congr 2
  by_cases h : a = b
  · rw [h, decide_eq_true rfl, decide_eq_true rfl]
  · rw [decide_eq_false h, decide_eq_false (fun z => h (by injection z))]
theorem read_run (n : Nat) (l : List Nat) (hl : l.length ≤ 640) (f : Nat) : T.prg.call (n + 1) "read_number" [.str (st l), .int f] = .ok (.int (rdN l f)) := by
  rw [call_read_number]
  unfold b_read_number t1_read_number t2_read_number t3_read_number rdN
  have ln := len_st (l := l) (by omega)
  by_cases h1 : 1 ≤ l.length
  · by_cases h2 : l.length ≤ f
    · have k1 : (1 : Int) ≤ (l.length : Int) := by omega
      have k2 : (l.length : Int) ≤ (f : Int) := by omega
      rw [if_neg (by omega)]
      have cp := comp_mp (G := T.prg.G) (Φ := T.prg.call n) (σ := [some (.v (.str (st l))), some (.v (.int f)), none]) (elt := .cmp .in_ (.var 2) (.glob "DIGITS")) (tg := .nm 2) (src := .seq (.var 0)) (own := [2]) (as := l) (q := ch)
        (by simp only [e_var, e_int, e_str, e_bl, e_non, e_glob, e_op, e_neg, e_not, e_and, e_or, e_cmp, e_chain, e_ife, e_ix, e_sl, e_tup, e_lst, e_call, e_bi, e_isi, es_nil, es_cons, eo_no, eo_so, eS_seq, eS_rng1, eS_rng2, eS_enum, eS_zip, x_set, x_setT, x_setIx, x_aug, x_app, x_ext, x_exp, x_ret, x_retN, x_ife, x_fr, x_wh, x_brk, x_cont, x_pass, xs_nil, xs_cons, at_nx, at_rt, at_bk, at_ct, at_exc, oke, okbe, x_raise, x_tr, tr_nx, tr_rt, fin_exc, sE_comp2, fin_rt, fin_nx, g_zv, g_zo, g_s, o_z, o_s, st_z, st_s, kp_int, kp_non, kp_bl, kp_str, kp_nil, kp_noO, kp_fz, List.cons_append, sE_str, c_eqS, e_find, sd_s, ltk_find, lik_find, ltk_int, ltk_str, ltk_bl, ltk_non, ltk_glob, ltk_op, ltk_neg, ltk_not, ltk_cmp, ltk_chain, ltk_sl, ltk_tup, ltk_lst, ltk_bi, ltk_isi, ltk_comp, ltk_compIf, ltk_comp2, lik_var, lik_int, lik_str, lik_bl, lik_non, lik_glob, lik_neg, lik_not, lik_cmp, lik_chain, lik_isi, fz_noO, ls_d, fr_j, g_rsl, fr_rsl, fz_c, fr_o, fr_v, fr_n, fr_s, kp_lst, no_0, no_n, no_v, fz_nil, lS1, lS2, sE_i, sE_lst, sE_comp, sE_compIf, sE_opl, sE_sl, sE_list, sE_sorted, sE_var, sE_ix, sE_call, sE_non, sE_blv, sE_tp, lt, li, las, lis, ltS, liS, List.append_nil, List.nil_append, ad_int, sb_int, c_lt, c_le, c_gt, c_ge, c_eq, c_ne, c_is, c_no, isN, bl_bl, in_in, b_len, b_lenT, b_lenS, b_int, b_abs, b_tupL, b_tupT, b_lstT, b_lstL, ixT0, ixT1, ixT2, ixT3, is_n_int, is_n_bool, is_n_str, is_n_tuple, is_n_list, is_b_int, is_b_bool, is_b_str, is_b_tuple, is_b_list, is_i_int, is_i_bool, is_i_str, is_i_tuple, is_i_list, is_s_int, is_s_bool, is_s_str, is_s_tuple, is_s_list, is_t_int, is_t_bool, is_t_str, is_t_tuple, is_t_list, is_l_int, is_l_bool, is_l_str, is_l_tuple, is_l_list, itemsD, wp_s, wp_n, asg1, asgT, asgN, asg0, okb, oko, noxo, List.length_cons, List.length_nil, Nat.reduceAdd, Nat.reduceLT, if_true, if_false, Bool.false_eq_true, Bool.true_eq_false, Bool.not_true, Bool.not_false, decide_true, decide_false, reduceIte, items_st]; exact items_st l) (fun c => .bl (decide (c ∈ DG))) (fun c hc => ⟨[some (.v (.str (st l))), some (.v (.int f)), some (.v (ch c))], by simp only [e_var, e_int, e_str, e_bl, e_non, e_glob, e_op, e_neg, e_not, e_and, e_or, e_cmp, e_chain, e_ife, e_ix, e_sl, e_tup, e_lst, e_call, e_bi, e_isi, es_nil, es_cons, eo_no, eo_so, eS_seq, eS_rng1, eS_rng2, eS_enum, eS_zip, x_set, x_setT, x_setIx, x_aug, x_app, x_ext, x_exp, x_ret, x_retN, x_ife, x_fr, x_wh, x_brk, x_cont, x_pass, xs_nil, xs_cons, at_nx, at_rt, at_bk, at_ct, at_exc, oke, okbe, x_raise, x_tr, tr_nx, tr_rt, fin_exc, sE_comp2, fin_rt, fin_nx, g_zv, g_zo, g_s, o_z, o_s, st_z, st_s, kp_int, kp_non, kp_bl, kp_str, kp_nil, kp_noO, kp_fz, List.cons_append, sE_str, c_eqS, e_find, sd_s, ltk_find, lik_find, ltk_int, ltk_str, ltk_bl, ltk_non, ltk_glob, ltk_op, ltk_neg, ltk_not, ltk_cmp, ltk_chain, ltk_sl, ltk_tup, ltk_lst, ltk_bi, ltk_isi, ltk_comp, ltk_compIf, ltk_comp2, lik_var, lik_int, lik_str, lik_bl, lik_non, lik_glob, lik_neg, lik_not, lik_cmp, lik_chain, lik_isi, fz_noO, ls_d, fr_j, g_rsl, fr_rsl, fz_c, fr_o, fr_v, fr_n, fr_s, kp_lst, no_0, no_n, no_v, fz_nil, lS1, lS2, sE_i, sE_lst, sE_comp, sE_compIf, sE_opl, sE_sl, sE_list, sE_sorted, sE_var, sE_ix, sE_call, sE_non, sE_blv, sE_tp, lt, li, las, lis, ltS, liS, List.append_nil, List.nil_append, ad_int, sb_int, c_lt, c_le, c_gt, c_ge, c_eq, c_ne, c_is, c_no, isN, bl_bl, in_in, b_len, b_lenT, b_lenS, b_int, b_abs, b_tupL, b_tupT, b_lstT, b_lstL, ixT0, ixT1, ixT2, ixT3, is_n_int, is_n_bool, is_n_str, is_n_tuple, is_n_list, is_b_int, is_b_bool, is_b_str, is_b_tuple, is_b_list, is_i_int, is_i_bool, is_i_str, is_i_tuple, is_i_list, is_s_int, is_s_bool, is_s_str, is_s_tuple, is_s_list, is_t_int, is_t_bool, is_t_str, is_t_tuple, is_t_list, is_l_int, is_l_bool, is_l_str, is_l_tuple, is_l_list, itemsD, wp_s, wp_n, asg1, asgT, asgN, asg0, okb, oko, noxo, List.length_cons, List.length_nil, Nat.reduceAdd, Nat.reduceLT, if_true, if_false, Bool.false_eq_true, Bool.true_eq_false, Bool.not_true, Bool.not_false, decide_true, decide_false, reduceIte], by simp only [e_var, e_int, e_str, e_bl, e_non, e_glob, e_op, e_neg, e_not, e_and, e_or, e_cmp, e_chain, e_ife, e_ix, e_sl, e_tup, e_lst, e_call, e_bi, e_isi, es_nil, es_cons, eo_no, eo_so, eS_seq, eS_rng1, eS_rng2, eS_enum, eS_zip, x_set, x_setT, x_setIx, x_aug, x_app, x_ext, x_exp, x_ret, x_retN, x_ife, x_fr, x_wh, x_brk, x_cont, x_pass, xs_nil, xs_cons, at_nx, at_rt, at_bk, at_ct, at_exc, oke, okbe, x_raise, x_tr, tr_nx, tr_rt, fin_exc, sE_comp2, fin_rt, fin_nx, g_zv, g_zo, g_s, o_z, o_s, st_z, st_s, kp_int, kp_non, kp_bl, kp_str, kp_nil, kp_noO, kp_fz, List.cons_append, sE_str, c_eqS, e_find, sd_s, ltk_find, lik_find, ltk_int, ltk_str, ltk_bl, ltk_non, ltk_glob, ltk_op, ltk_neg, ltk_not, ltk_cmp, ltk_chain, ltk_sl, ltk_tup, ltk_lst, ltk_bi, ltk_isi, ltk_comp, ltk_compIf, ltk_comp2, lik_var, lik_int, lik_str, lik_bl, lik_non, lik_glob, lik_neg, lik_not, lik_cmp, lik_chain, lik_isi, fz_noO, ls_d, fr_j, g_rsl, fr_rsl, fz_c, fr_o, fr_v, fr_n, fr_s, kp_lst, no_0, no_n, no_v, fz_nil, lS1, lS2, sE_i, sE_lst, sE_comp, sE_compIf, sE_opl, sE_sl, sE_list, sE_sorted, sE_var, sE_ix, sE_call, sE_non, sE_blv, sE_tp, lt, li, las, lis, ltS, liS, List.append_nil, List.nil_append, ad_int, sb_int, c_lt, c_le, c_gt, c_ge, c_eq, c_ne, c_is, c_no, isN, bl_bl, in_in, b_len, b_lenT, b_lenS, b_int, b_abs, b_tupL, b_tupT, b_lstT, b_lstL, ixT0, ixT1, ixT2, ixT3, is_n_int, is_n_bool, is_n_str, is_n_tuple, is_n_list, is_b_int, is_b_bool, is_b_str, is_b_tuple, is_b_list, is_i_int, is_i_bool, is_i_str, is_i_tuple, is_i_list, is_s_int, is_s_bool, is_s_str, is_s_tuple, is_s_list, is_t_int, is_t_bool, is_t_str, is_t_tuple, is_t_list, is_l_int, is_l_bool, is_l_str, is_l_tuple, is_l_list, itemsD, wp_s, wp_n, asg1, asgT, asgN, asg0, okb, oko, noxo, List.length_cons, List.length_nil, Nat.reduceAdd, Nat.reduceLT, if_true, if_false, Bool.false_eq_true, Bool.true_eq_false, Bool.not_true, Bool.not_false, decide_true, decide_false, reduceIte, g_DIGITS, s_digits, in_st]⟩) (by omega)
      cases h3 : l.all fun c => decide (c ∈ DG) with
      | false =>
        rw [if_pos rfl]
        simp only [e_var, e_int, e_str, e_bl, e_non, e_glob, e_op, e_neg, e_not, e_and, e_or, e_cmp, e_chain, e_ife, e_ix, e_sl, e_tup, e_lst, e_call, e_bi, e_isi, es_nil, es_cons, eo_no, eo_so, eS_seq, eS_rng1, eS_rng2, eS_enum, eS_zip, x_set, x_setT, x_setIx, x_aug, x_app, x_ext, x_exp, x_ret, x_retN, x_ife, x_fr, x_wh, x_brk, x_cont, x_pass, xs_nil, xs_cons, at_nx, at_rt, at_bk, at_ct, at_exc, oke, okbe, x_raise, x_tr, tr_nx, tr_rt, fin_exc, sE_comp2, fin_rt, fin_nx, g_zv, g_zo, g_s, o_z, o_s, st_z, st_s, kp_int, kp_non, kp_bl, kp_str, kp_nil, kp_noO, kp_fz, List.cons_append, sE_str, c_eqS, e_find, sd_s, ltk_find, lik_find, ltk_int, ltk_str, ltk_bl, ltk_non, ltk_glob, ltk_op, ltk_neg, ltk_not, ltk_cmp, ltk_chain, ltk_sl, ltk_tup, ltk_lst, ltk_bi, ltk_isi, ltk_comp, ltk_compIf, ltk_comp2, lik_var, lik_int, lik_str, lik_bl, lik_non, lik_glob, lik_neg, lik_not, lik_cmp, lik_chain, lik_isi, fz_noO, ls_d, fr_j, g_rsl, fr_rsl, fz_c, fr_o, fr_v, fr_n, fr_s, kp_lst, no_0, no_n, no_v, fz_nil, lS1, lS2, sE_i, sE_lst, sE_comp, sE_compIf, sE_opl, sE_sl, sE_list, sE_sorted, sE_var, sE_ix, sE_call, sE_non, sE_blv, sE_tp, lt, li, las, lis, ltS, liS, List.append_nil, List.nil_append, ad_int, sb_int, c_lt, c_le, c_gt, c_ge, c_eq, c_ne, c_is, c_no, isN, bl_bl, in_in, b_len, b_lenT, b_lenS, b_int, b_abs, b_tupL, b_tupT, b_lstT, b_lstL, ixT0, ixT1, ixT2, ixT3, is_n_int, is_n_bool, is_n_str, is_n_tuple, is_n_list, is_b_int, is_b_bool, is_b_str, is_b_tuple, is_b_list, is_i_int, is_i_bool, is_i_str, is_i_tuple, is_i_list, is_s_int, is_s_bool, is_s_str, is_s_tuple, is_s_list, is_t_int, is_t_bool, is_t_str, is_t_tuple, is_t_list, is_l_int, is_l_bool, is_l_str, is_l_tuple, is_l_list, itemsD, wp_s, wp_n, asg1, asgT, asgN, asg0, okb, oko, noxo, List.length_cons, List.length_nil, Nat.reduceAdd, Nat.reduceLT, if_true, if_false, Bool.false_eq_true, Bool.true_eq_false, Bool.not_true, Bool.not_false, decide_true, decide_false, reduceIte, ln, k1, k2, cp, all_mp, h3]
      | true =>
        rw [if_neg (by decide)]
        have i0 := ix0_st h1 hl
        have iv := int_st h1 hl h3
        by_cases h4 : l.getD 0 0 = 48
        · by_cases h5 : 1 < l.length
          · have k5 : (1 : Int) < (l.length : Int) := by omega
            rw [if_pos ⟨h4, h5⟩]
            simp only [e_var, e_int, e_str, e_bl, e_non, e_glob, e_op, e_neg, e_not, e_and, e_or, e_cmp, e_chain, e_ife, e_ix, e_sl, e_tup, e_lst, e_call, e_bi, e_isi, es_nil, es_cons, eo_no, eo_so, eS_seq, eS_rng1, eS_rng2, eS_enum, eS_zip, x_set, x_setT, x_setIx, x_aug, x_app, x_ext, x_exp, x_ret, x_retN, x_ife, x_fr, x_wh, x_brk, x_cont, x_pass, xs_nil, xs_cons, at_nx, at_rt, at_bk, at_ct, at_exc, oke, okbe, x_raise, x_tr, tr_nx, tr_rt, fin_exc, sE_comp2, fin_rt, fin_nx, g_zv, g_zo, g_s, o_z, o_s, st_z, st_s, kp_int, kp_non, kp_bl, kp_str, kp_nil, kp_noO, kp_fz, List.cons_append, sE_str, c_eqS, e_find, sd_s, ltk_find, lik_find, ltk_int, ltk_str, ltk_bl, ltk_non, ltk_glob, ltk_op, ltk_neg, ltk_not, ltk_cmp, ltk_chain, ltk_sl, ltk_tup, ltk_lst, ltk_bi, ltk_isi, ltk_comp, ltk_compIf, ltk_comp2, lik_var, lik_int, lik_str, lik_bl, lik_non, lik_glob, lik_neg, lik_not, lik_cmp, lik_chain, lik_isi, fz_noO, ls_d, fr_j, g_rsl, fr_rsl, fz_c, fr_o, fr_v, fr_n, fr_s, kp_lst, no_0, no_n, no_v, fz_nil, lS1, lS2, sE_i, sE_lst, sE_comp, sE_compIf, sE_opl, sE_sl, sE_list, sE_sorted, sE_var, sE_ix, sE_call, sE_non, sE_blv, sE_tp, lt, li, las, lis, ltS, liS, List.append_nil, List.nil_append, ad_int, sb_int, c_lt, c_le, c_gt, c_ge, c_eq, c_ne, c_is, c_no, isN, bl_bl, in_in, b_len, b_lenT, b_lenS, b_int, b_abs, b_tupL, b_tupT, b_lstT, b_lstL, ixT0, ixT1, ixT2, ixT3, is_n_int, is_n_bool, is_n_str, is_n_tuple, is_n_list, is_b_int, is_b_bool, is_b_str, is_b_tuple, is_b_list, is_i_int, is_i_bool, is_i_str, is_i_tuple, is_i_list, is_s_int, is_s_bool, is_s_str, is_s_tuple, is_s_list, is_t_int, is_t_bool, is_t_str, is_t_tuple, is_t_list, is_l_int, is_l_bool, is_l_str, is_l_tuple, is_l_list, itemsD, wp_s, wp_n, asg1, asgT, asgN, asg0, okb, oko, noxo, List.length_cons, List.length_nil, Nat.reduceAdd, Nat.reduceLT, if_true, if_false, Bool.false_eq_true, Bool.true_eq_false, Bool.not_true, Bool.not_false, decide_true, decide_false, reduceIte, ln, k1, k2, cp, all_mp, h3, i0, s_0, eq_ch, decide_eq_true h4, k5]
          · have k5 : ¬ (1 : Int) < (l.length : Int) := by omega
            rw [if_neg (fun z => h5 z.2)]
            simp only [e_var, e_int, e_str, e_bl, e_non, e_glob, e_op, e_neg, e_not, e_and, e_or, e_cmp, e_chain, e_ife, e_ix, e_sl, e_tup, e_lst, e_call, e_bi, e_isi, es_nil, es_cons, eo_no, eo_so, eS_seq, eS_rng1, eS_rng2, eS_enum, eS_zip, x_set, x_setT, x_setIx, x_aug, x_app, x_ext, x_exp, x_ret, x_retN, x_ife, x_fr, x_wh, x_brk, x_cont, x_pass, xs_nil, xs_cons, at_nx, at_rt, at_bk, at_ct, at_exc, oke, okbe, x_raise, x_tr, tr_nx, tr_rt, fin_exc, sE_comp2, fin_rt, fin_nx, g_zv, g_zo, g_s, o_z, o_s, st_z, st_s, kp_int, kp_non, kp_bl, kp_str, kp_nil, kp_noO, kp_fz, List.cons_append, sE_str, c_eqS, e_find, sd_s, ltk_find, lik_find, ltk_int, ltk_str, ltk_bl, ltk_non, ltk_glob, ltk_op, ltk_neg, ltk_not, ltk_cmp, ltk_chain, ltk_sl, ltk_tup, ltk_lst, ltk_bi, ltk_isi, ltk_comp, ltk_compIf, ltk_comp2, lik_var, lik_int, lik_str, lik_bl, lik_non, lik_glob, lik_neg, lik_not, lik_cmp, lik_chain, lik_isi, fz_noO, ls_d, fr_j, g_rsl, fr_rsl, fz_c, fr_o, fr_v, fr_n, fr_s, kp_lst, no_0, no_n, no_v, fz_nil, lS1, lS2, sE_i, sE_lst, sE_comp, sE_compIf, sE_opl, sE_sl, sE_list, sE_sorted, sE_var, sE_ix, sE_call, sE_non, sE_blv, sE_tp, lt, li, las, lis, ltS, liS, List.append_nil, List.nil_append, ad_int, sb_int, c_lt, c_le, c_gt, c_ge, c_eq, c_ne, c_is, c_no, isN, bl_bl, in_in, b_len, b_lenT, b_lenS, b_int, b_abs, b_tupL, b_tupT, b_lstT, b_lstL, ixT0, ixT1, ixT2, ixT3, is_n_int, is_n_bool, is_n_str, is_n_tuple, is_n_list, is_b_int, is_b_bool, is_b_str, is_b_tuple, is_b_list, is_i_int, is_i_bool, is_i_str, is_i_tuple, is_i_list, is_s_int, is_s_bool, is_s_str, is_s_tuple, is_s_list, is_t_int, is_t_bool, is_t_str, is_t_tuple, is_t_list, is_l_int, is_l_bool, is_l_str, is_l_tuple, is_l_list, itemsD, wp_s, wp_n, asg1, asgT, asgN, asg0, okb, oko, noxo, List.length_cons, List.length_nil, Nat.reduceAdd, Nat.reduceLT, if_true, if_false, Bool.false_eq_true, Bool.true_eq_false, Bool.not_true, Bool.not_false, decide_true, decide_false, reduceIte, ln, k1, k2, cp, all_mp, h3, i0, s_0, eq_ch, decide_eq_true h4, k5, iv]
        · rw [if_neg (fun z => h4 z.1)]
          simp only [e_var, e_int, e_str, e_bl, e_non, e_glob, e_op, e_neg, e_not, e_and, e_or, e_cmp, e_chain, e_ife, e_ix, e_sl, e_tup, e_lst, e_call, e_bi, e_isi, es_nil, es_cons, eo_no, eo_so, eS_seq, eS_rng1, eS_rng2, eS_enum, eS_zip, x_set, x_setT, x_setIx, x_aug, x_app, x_ext, x_exp, x_ret, x_retN, x_ife, x_fr, x_wh, x_brk, x_cont, x_pass, xs_nil, xs_cons, at_nx, at_rt, at_bk, at_ct, at_exc, oke, okbe, x_raise, x_tr, tr_nx, tr_rt, fin_exc, sE_comp2, fin_rt, fin_nx, g_zv, g_zo, g_s, o_z, o_s, st_z, st_s, kp_int, kp_non, kp_bl, kp_str, kp_nil, kp_noO, kp_fz, List.cons_append, sE_str, c_eqS, e_find, sd_s, ltk_find, lik_find, ltk_int, ltk_str, ltk_bl, ltk_non, ltk_glob, ltk_op, ltk_neg, ltk_not, ltk_cmp, ltk_chain, ltk_sl, ltk_tup, ltk_lst, ltk_bi, ltk_isi, ltk_comp, ltk_compIf, ltk_comp2, lik_var, lik_int, lik_str, lik_bl, lik_non, lik_glob, lik_neg, lik_not, lik_cmp, lik_chain, lik_isi, fz_noO, ls_d, fr_j, g_rsl, fr_rsl, fz_c, fr_o, fr_v, fr_n, fr_s, kp_lst, no_0, no_n, no_v, fz_nil, lS1, lS2, sE_i, sE_lst, sE_comp, sE_compIf, sE_opl, sE_sl, sE_list, sE_sorted, sE_var, sE_ix, sE_call, sE_non, sE_blv, sE_tp, lt, li, las, lis, ltS, liS, List.append_nil, List.nil_append, ad_int, sb_int, c_lt, c_le, c_gt, c_ge, c_eq, c_ne, c_is, c_no, isN, bl_bl, in_in, b_len, b_lenT, b_lenS, b_int, b_abs, b_tupL, b_tupT, b_lstT, b_lstL, ixT0, ixT1, ixT2, ixT3, is_n_int, is_n_bool, is_n_str, is_n_tuple, is_n_list, is_b_int, is_b_bool, is_b_str, is_b_tuple, is_b_list, is_i_int, is_i_bool, is_i_str, is_i_tuple, is_i_list, is_s_int, is_s_bool, is_s_str, is_s_tuple, is_s_list, is_t_int, is_t_bool, is_t_str, is_t_tuple, is_t_list, is_l_int, is_l_bool, is_l_str, is_l_tuple, is_l_list, itemsD, wp_s, wp_n, asg1, asgT, asgN, asg0, okb, oko, noxo, List.length_cons, List.length_nil, Nat.reduceAdd, Nat.reduceLT, if_true, if_false, Bool.false_eq_true, Bool.true_eq_false, Bool.not_true, Bool.not_false, decide_true, decide_false, reduceIte, ln, k1, k2, cp, all_mp, h3, i0, s_0, eq_ch, decide_eq_false h4, iv]
    · have k1 : (1 : Int) ≤ (l.length : Int) := by omega
      have k2 : ¬ (l.length : Int) ≤ (f : Int) := by omega
      rw [if_pos (by omega)]
      simp only [e_var, e_int, e_str, e_bl, e_non, e_glob, e_op, e_neg, e_not, e_and, e_or, e_cmp, e_chain, e_ife, e_ix, e_sl, e_tup, e_lst, e_call, e_bi, e_isi, es_nil, es_cons, eo_no, eo_so, eS_seq, eS_rng1, eS_rng2, eS_enum, eS_zip, x_set, x_setT, x_setIx, x_aug, x_app, x_ext, x_exp, x_ret, x_retN, x_ife, x_fr, x_wh, x_brk, x_cont, x_pass, xs_nil, xs_cons, at_nx, at_rt, at_bk, at_ct, at_exc, oke, okbe, x_raise, x_tr, tr_nx, tr_rt, fin_exc, sE_comp2, fin_rt, fin_nx, g_zv, g_zo, g_s, o_z, o_s, st_z, st_s, kp_int, kp_non, kp_bl, kp_str, kp_nil, kp_noO, kp_fz, List.cons_append, sE_str, c_eqS, e_find, sd_s, ltk_find, lik_find, ltk_int, ltk_str, ltk_bl, ltk_non, ltk_glob, ltk_op, ltk_neg, ltk_not, ltk_cmp, ltk_chain, ltk_sl, ltk_tup, ltk_lst, ltk_bi, ltk_isi, ltk_comp, ltk_compIf, ltk_comp2, lik_var, lik_int, lik_str, lik_bl, lik_non, lik_glob, lik_neg, lik_not, lik_cmp, lik_chain, lik_isi, fz_noO, ls_d, fr_j, g_rsl, fr_rsl, fz_c, fr_o, fr_v, fr_n, fr_s, kp_lst, no_0, no_n, no_v, fz_nil, lS1, lS2, sE_i, sE_lst, sE_comp, sE_compIf, sE_opl, sE_sl, sE_list, sE_sorted, sE_var, sE_ix, sE_call, sE_non, sE_blv, sE_tp, lt, li, las, lis, ltS, liS, List.append_nil, List.nil_append, ad_int, sb_int, c_lt, c_le, c_gt, c_ge, c_eq, c_ne, c_is, c_no, isN, bl_bl, in_in, b_len, b_lenT, b_lenS, b_int, b_abs, b_tupL, b_tupT, b_lstT, b_lstL, ixT0, ixT1, ixT2, ixT3, is_n_int, is_n_bool, is_n_str, is_n_tuple, is_n_list, is_b_int, is_b_bool, is_b_str, is_b_tuple, is_b_list, is_i_int, is_i_bool, is_i_str, is_i_tuple, is_i_list, is_s_int, is_s_bool, is_s_str, is_s_tuple, is_s_list, is_t_int, is_t_bool, is_t_str, is_t_tuple, is_t_list, is_l_int, is_l_bool, is_l_str, is_l_tuple, is_l_list, itemsD, wp_s, wp_n, asg1, asgT, asgN, asg0, okb, oko, noxo, List.length_cons, List.length_nil, Nat.reduceAdd, Nat.reduceLT, if_true, if_false, Bool.false_eq_true, Bool.true_eq_false, Bool.not_true, Bool.not_false, decide_true, decide_false, reduceIte, ln, k1, k2]
  · have k1 : ¬ (1 : Int) ≤ (l.length : Int) := by omega
    rw [if_pos (by omega)]
    simp only [e_var, e_int, e_str, e_bl, e_non, e_glob, e_op, e_neg, e_not, e_and, e_or, e_cmp, e_chain, e_ife, e_ix, e_sl, e_tup, e_lst, e_call, e_bi, e_isi, es_nil, es_cons, eo_no, eo_so, eS_seq, eS_rng1, eS_rng2, eS_enum, eS_zip, x_set, x_setT, x_setIx, x_aug, x_app, x_ext, x_exp, x_ret, x_retN, x_ife, x_fr, x_wh, x_brk, x_cont, x_pass, xs_nil, xs_cons, at_nx, at_rt, at_bk, at_ct, at_exc, oke, okbe, x_raise, x_tr, tr_nx, tr_rt, fin_exc, sE_comp2, fin_rt, fin_nx, g_zv, g_zo, g_s, o_z, o_s, st_z, st_s, kp_int, kp_non, kp_bl, kp_str, kp_nil, kp_noO, kp_fz, List.cons_append, sE_str, c_eqS, e_find, sd_s, ltk_find, lik_find, ltk_int, ltk_str, ltk_bl, ltk_non, ltk_glob, ltk_op, ltk_neg, ltk_not, ltk_cmp, ltk_chain, ltk_sl, ltk_tup, ltk_lst, ltk_bi, ltk_isi, ltk_comp, ltk_compIf, ltk_comp2, lik_var, lik_int, lik_str, lik_bl, lik_non, lik_glob, lik_neg, lik_not, lik_cmp, lik_chain, lik_isi, fz_noO, ls_d, fr_j, g_rsl, fr_rsl, fz_c, fr_o, fr_v, fr_n, fr_s, kp_lst, no_0, no_n, no_v, fz_nil, lS1, lS2, sE_i, sE_lst, sE_comp, sE_compIf, sE_opl, sE_sl, sE_list, sE_sorted, sE_var, sE_ix, sE_call, sE_non, sE_blv, sE_tp, lt, li, las, lis, ltS, liS, List.append_nil, List.nil_append, ad_int, sb_int, c_lt, c_le, c_gt, c_ge, c_eq, c_ne, c_is, c_no, isN, bl_bl, in_in, b_len, b_lenT, b_lenS, b_int, b_abs, b_tupL, b_tupT, b_lstT, b_lstL, ixT0, ixT1, ixT2, ixT3, is_n_int, is_n_bool, is_n_str, is_n_tuple, is_n_list, is_b_int, is_b_bool, is_b_str, is_b_tuple, is_b_list, is_i_int, is_i_bool, is_i_str, is_i_tuple, is_i_list, is_s_int, is_s_bool, is_s_str, is_s_tuple, is_s_list, is_t_int, is_t_bool, is_t_str, is_t_tuple, is_t_list, is_l_int, is_l_bool, is_l_str, is_l_tuple, is_l_list, itemsD, wp_s, wp_n, asg1, asgT, asgN, asg0, okb, oko, noxo, List.length_cons, List.length_nil, Nat.reduceAdd, Nat.reduceLT, if_true, if_false, Bool.false_eq_true, Bool.true_eq_false, Bool.not_true, Bool.not_false, decide_true, decide_false, reduceIte, ln, k1]
theorem read_loop (n : Nat) (A B : D) : ∀ (l : List Nat) (acc : Nat) (j3 j4 : Option D), ∃ j3' j4' : Option D, forL (asg (.nm 3)) (exL T.prg.G (T.prg.call n) T.prg.fu l2__law_read) (l.map ch) [some (.v A), some (.v B), some (.v (.int acc)), j3.map C.v, j4.map C.v] =
    if (l.all fun c => decide (c ∈ DG)) = true then .nx [some (.v A), some (.v B), some (.v (.int (l.foldl (fun acc c => acc * 10 + (c - 48)) acc : Nat))), j3'.map C.v, j4'.map C.v] else .rt (.int (-1))
  | [], acc, j3, j4 => ⟨j3, j4, rfl⟩
  | c :: l, acc, j3, j4 => by
    have sa : asg (.nm 3) (ch c) [some (.v A), some (.v B), some (.v (.int acc)), j3.map C.v, j4.map C.v] = .ok [some (.v A), some (.v B), some (.v (.int acc)), some (.v (ch c)), j4.map C.v] := by simp only [e_var, e_int, e_str, e_bl, e_non, e_glob, e_op, e_neg, e_not, e_and, e_or, e_cmp, e_chain, e_ife, e_ix, e_sl, e_tup, e_lst, e_call, e_bi, e_isi, es_nil, es_cons, eo_no, eo_so, eS_seq, eS_rng1, eS_rng2, eS_enum, eS_zip, x_set, x_setT, x_setIx, x_aug, x_app, x_ext, x_exp, x_ret, x_retN, x_ife, x_fr, x_wh, x_brk, x_cont, x_pass, xs_nil, xs_cons, at_nx, at_rt, at_bk, at_ct, at_exc, oke, okbe, x_raise, x_tr, tr_nx, tr_rt, fin_exc, sE_comp2, fin_rt, fin_nx, g_zv, g_zo, g_s, o_z, o_s, st_z, st_s, kp_int, kp_non, kp_bl, kp_str, kp_nil, kp_noO, kp_fz, List.cons_append, sE_str, c_eqS, e_find, sd_s, ltk_find, lik_find, ltk_int, ltk_str, ltk_bl, ltk_non, ltk_glob, ltk_op, ltk_neg, ltk_not, ltk_cmp, ltk_chain, ltk_sl, ltk_tup, ltk_lst, ltk_bi, ltk_isi, ltk_comp, ltk_compIf, ltk_comp2, lik_var, lik_int, lik_str, lik_bl, lik_non, lik_glob, lik_neg, lik_not, lik_cmp, lik_chain, lik_isi, fz_noO, ls_d, fr_j, g_rsl, fr_rsl, fz_c, fr_o, fr_v, fr_n, fr_s, kp_lst, no_0, no_n, no_v, fz_nil, lS1, lS2, sE_i, sE_lst, sE_comp, sE_compIf, sE_opl, sE_sl, sE_list, sE_sorted, sE_var, sE_ix, sE_call, sE_non, sE_blv, sE_tp, lt, li, las, lis, ltS, liS, List.append_nil, List.nil_append, ad_int, sb_int, c_lt, c_le, c_gt, c_ge, c_eq, c_ne, c_is, c_no, isN, bl_bl, in_in, b_len, b_lenT, b_lenS, b_int, b_abs, b_tupL, b_tupT, b_lstT, b_lstL, ixT0, ixT1, ixT2, ixT3, is_n_int, is_n_bool, is_n_str, is_n_tuple, is_n_list, is_b_int, is_b_bool, is_b_str, is_b_tuple, is_b_list, is_i_int, is_i_bool, is_i_str, is_i_tuple, is_i_list, is_s_int, is_s_bool, is_s_str, is_s_tuple, is_s_list, is_t_int, is_t_bool, is_t_str, is_t_tuple, is_t_list, is_l_int, is_l_bool, is_l_str, is_l_tuple, is_l_list, itemsD, wp_s, wp_n, asg1, asgT, asgN, asg0, okb, oko, noxo, List.length_cons, List.length_nil, Nat.reduceAdd, Nat.reduceLT, if_true, if_false, Bool.false_eq_true, Bool.true_eq_false, Bool.not_true, Bool.not_false, decide_true, decide_false, reduceIte]
    by_cases hc : c ∈ DG
    · obtain ⟨k1, k2⟩ := mem_dg.mp hc
      obtain ⟨k, rfl⟩ : ∃ k, c = 48 + k := ⟨c - 48, by omega⟩
      have fd := find_dg k (by omega)
      obtain ⟨j3', j4', e⟩ := read_loop n A B l (acc * 10 + (48 + k - 48)) (some (ch (48 + k))) (some (.int k))
      refine ⟨j3', j4', ?_⟩
      have eb : exL T.prg.G (T.prg.call n) T.prg.fu l2__law_read [some (.v A), some (.v B), some (.v (.int acc)), some (.v (ch (48 + k))), j4.map C.v] = .nx [some (.v A), some (.v B), some (.v (.int ((acc * 10 + (48 + k - 48) : Nat) : Int))), some (.v (ch (48 + k))), some (.v (.int k))] := by
        have kn : ¬ (k : Int) < 0 := by omega
        have ml : mulOk (acc : Int) 10 := mulS (by decide)
        have ee : (acc : Int) * 10 + (k : Int) = ((acc * 10 + (48 + k - 48) : Nat) : Int) := by omega
        unfold l2__law_read
        simp only [e_var, e_int, e_str, e_bl, e_non, e_glob, e_op, e_neg, e_not, e_and, e_or, e_cmp, e_chain, e_ife, e_ix, e_sl, e_tup, e_lst, e_call, e_bi, e_isi, es_nil, es_cons, eo_no, eo_so, eS_seq, eS_rng1, eS_rng2, eS_enum, eS_zip, x_set, x_setT, x_setIx, x_aug, x_app, x_ext, x_exp, x_ret, x_retN, x_ife, x_fr, x_wh, x_brk, x_cont, x_pass, xs_nil, xs_cons, at_nx, at_rt, at_bk, at_ct, at_exc, oke, okbe, x_raise, x_tr, tr_nx, tr_rt, fin_exc, sE_comp2, fin_rt, fin_nx, g_zv, g_zo, g_s, o_z, o_s, st_z, st_s, kp_int, kp_non, kp_bl, kp_str, kp_nil, kp_noO, kp_fz, List.cons_append, sE_str, c_eqS, e_find, sd_s, ltk_find, lik_find, ltk_int, ltk_str, ltk_bl, ltk_non, ltk_glob, ltk_op, ltk_neg, ltk_not, ltk_cmp, ltk_chain, ltk_sl, ltk_tup, ltk_lst, ltk_bi, ltk_isi, ltk_comp, ltk_compIf, ltk_comp2, lik_var, lik_int, lik_str, lik_bl, lik_non, lik_glob, lik_neg, lik_not, lik_cmp, lik_chain, lik_isi, fz_noO, ls_d, fr_j, g_rsl, fr_rsl, fz_c, fr_o, fr_v, fr_n, fr_s, kp_lst, no_0, no_n, no_v, fz_nil, lS1, lS2, sE_i, sE_lst, sE_comp, sE_compIf, sE_opl, sE_sl, sE_list, sE_sorted, sE_var, sE_ix, sE_call, sE_non, sE_blv, sE_tp, lt, li, las, lis, ltS, liS, List.append_nil, List.nil_append, ad_int, sb_int, c_lt, c_le, c_gt, c_ge, c_eq, c_ne, c_is, c_no, isN, bl_bl, in_in, b_len, b_lenT, b_lenS, b_int, b_abs, b_tupL, b_tupT, b_lstT, b_lstL, ixT0, ixT1, ixT2, ixT3, is_n_int, is_n_bool, is_n_str, is_n_tuple, is_n_list, is_b_int, is_b_bool, is_b_str, is_b_tuple, is_b_list, is_i_int, is_i_bool, is_i_str, is_i_tuple, is_i_list, is_s_int, is_s_bool, is_s_str, is_s_tuple, is_s_list, is_t_int, is_t_bool, is_t_str, is_t_tuple, is_t_list, is_l_int, is_l_bool, is_l_str, is_l_tuple, is_l_list, itemsD, wp_s, wp_n, asg1, asgT, asgN, asg0, okb, oko, noxo, List.length_cons, List.length_nil, Nat.reduceAdd, Nat.reduceLT, if_true, if_false, Bool.false_eq_true, Bool.true_eq_false, Bool.not_true, Bool.not_false, decide_true, decide_false, reduceIte, s_digits, sd_ch, fd, kn, ml_int ml, ee]
      rw [List.map_cons, forL_nx sa eb, List.all_cons, decide_eq_true hc, Bool.true_and, List.foldl_cons]
      exact e
    · refine ⟨none, none, ?_⟩
      have eb : exL T.prg.G (T.prg.call n) T.prg.fu l2__law_read [some (.v A), some (.v B), some (.v (.int acc)), some (.v (ch c)), j4.map C.v] = .rt (.int (-1)) := by
        have k := find_neg hc
        unfold l2__law_read
        simp only [e_var, e_int, e_str, e_bl, e_non, e_glob, e_op, e_neg, e_not, e_and, e_or, e_cmp, e_chain, e_ife, e_ix, e_sl, e_tup, e_lst, e_call, e_bi, e_isi, es_nil, es_cons, eo_no, eo_so, eS_seq, eS_rng1, eS_rng2, eS_enum, eS_zip, x_set, x_setT, x_setIx, x_aug, x_app, x_ext, x_exp, x_ret, x_retN, x_ife, x_fr, x_wh, x_brk, x_cont, x_pass, xs_nil, xs_cons, at_nx, at_rt, at_bk, at_ct, at_exc, oke, okbe, x_raise, x_tr, tr_nx, tr_rt, fin_exc, sE_comp2, fin_rt, fin_nx, g_zv, g_zo, g_s, o_z, o_s, st_z, st_s, kp_int, kp_non, kp_bl, kp_str, kp_nil, kp_noO, kp_fz, List.cons_append, sE_str, c_eqS, e_find, sd_s, ltk_find, lik_find, ltk_int, ltk_str, ltk_bl, ltk_non, ltk_glob, ltk_op, ltk_neg, ltk_not, ltk_cmp, ltk_chain, ltk_sl, ltk_tup, ltk_lst, ltk_bi, ltk_isi, ltk_comp, ltk_compIf, ltk_comp2, lik_var, lik_int, lik_str, lik_bl, lik_non, lik_glob, lik_neg, lik_not, lik_cmp, lik_chain, lik_isi, fz_noO, ls_d, fr_j, g_rsl, fr_rsl, fz_c, fr_o, fr_v, fr_n, fr_s, kp_lst, no_0, no_n, no_v, fz_nil, lS1, lS2, sE_i, sE_lst, sE_comp, sE_compIf, sE_opl, sE_sl, sE_list, sE_sorted, sE_var, sE_ix, sE_call, sE_non, sE_blv, sE_tp, lt, li, las, lis, ltS, liS, List.append_nil, List.nil_append, ad_int, sb_int, c_lt, c_le, c_gt, c_ge, c_eq, c_ne, c_is, c_no, isN, bl_bl, in_in, b_len, b_lenT, b_lenS, b_int, b_abs, b_tupL, b_tupT, b_lstT, b_lstL, ixT0, ixT1, ixT2, ixT3, is_n_int, is_n_bool, is_n_str, is_n_tuple, is_n_list, is_b_int, is_b_bool, is_b_str, is_b_tuple, is_b_list, is_i_int, is_i_bool, is_i_str, is_i_tuple, is_i_list, is_s_int, is_s_bool, is_s_str, is_s_tuple, is_s_list, is_t_int, is_t_bool, is_t_str, is_t_tuple, is_t_list, is_l_int, is_l_bool, is_l_str, is_l_tuple, is_l_list, itemsD, wp_s, wp_n, asg1, asgT, asgN, asg0, okb, oko, noxo, List.length_cons, List.length_nil, Nat.reduceAdd, Nat.reduceLT, if_true, if_false, Bool.false_eq_true, Bool.true_eq_false, Bool.not_true, Bool.not_false, decide_true, decide_false, reduceIte, s_digits, sd_ch, k]
      rw [List.map_cons, forL_rt sa eb, List.all_cons, decide_eq_false hc, Bool.false_and]
      rfl
theorem lawread_run (n : Nat) (l : List Nat) (hl : l.length ≤ 640) (f : Nat) : T.prg.call (n + 1) "_law_read" [.str (st l), .int f] = .ok (.int (rdN l f)) := by
  rw [call__law_read]
  unfold b__law_read t1__law_read t2__law_read t4__law_read rdN
  have ln := len_st (l := l) (by omega)
  by_cases h1 : 1 ≤ l.length
  · by_cases h2 : l.length ≤ f
    · have k1 : ¬ (l.length : Int) < 1 := by omega
      have k2 : ¬ (f : Int) < (l.length : Int) := by omega
      rw [if_neg (by omega)]
      have i0 := ix0_st h1 hl
      obtain ⟨j3, j4, e⟩ := read_loop n (.str (st l)) (.int f) l 0 none none
      have e : forL (asg (.nm 3)) (exL T.prg.G (T.prg.call n) T.prg.fu l2__law_read) (l.map ch) [some (.v (.str (st l))), some (.v (.int f)), some (.v (.int 0)), none, none] = _ := e
      have it := items_st l
      have loop : exS T.prg.G (T.prg.call n) T.prg.fu (.fr (.nm 3) (.seq (.var 0)) l2__law_read) [some (.v (.str (st l))), some (.v (.int f)), some (.v (.int 0)), none, none] = if (l.all fun c => decide (c ∈ DG)) = true then .nx [some (.v (.str (st l))), some (.v (.int f)), some (.v (.int (dv l : Nat))), j3.map C.v, j4.map C.v] else .rt (.int (-1)) := by
        rw [x_fr, eS_seq, e_var, g_zv, okb, it, oko]
        exact e
      by_cases h4 : l.getD 0 0 = 48 ∧ 1 < l.length
      · have k5 : (1 : Int) < (l.length : Int) := by omega
        have er : (if (l.all fun c => decide (c ∈ DG)) = false then (-1 : Int) else if l.getD 0 0 = 48 ∧ 1 < l.length then -1 else (dv l : Nat)) = -1 := by
          by_cases q : (l.all fun c => decide (c ∈ DG)) = false
          · rw [if_pos q]
          · rw [if_neg q, if_pos h4]
        rw [er]
        simp only [e_var, e_int, e_str, e_bl, e_non, e_glob, e_op, e_neg, e_not, e_and, e_or, e_cmp, e_chain, e_ife, e_ix, e_sl, e_tup, e_lst, e_call, e_bi, e_isi, es_nil, es_cons, eo_no, eo_so, eS_seq, eS_rng1, eS_rng2, eS_enum, eS_zip, x_set, x_setT, x_setIx, x_aug, x_app, x_ext, x_exp, x_ret, x_retN, x_ife, x_fr, x_wh, x_brk, x_cont, x_pass, xs_nil, xs_cons, at_nx, at_rt, at_bk, at_ct, at_exc, oke, okbe, x_raise, x_tr, tr_nx, tr_rt, fin_exc, sE_comp2, fin_rt, fin_nx, g_zv, g_zo, g_s, o_z, o_s, st_z, st_s, kp_int, kp_non, kp_bl, kp_str, kp_nil, kp_noO, kp_fz, List.cons_append, sE_str, c_eqS, e_find, sd_s, ltk_find, lik_find, ltk_int, ltk_str, ltk_bl, ltk_non, ltk_glob, ltk_op, ltk_neg, ltk_not, ltk_cmp, ltk_chain, ltk_sl, ltk_tup, ltk_lst, ltk_bi, ltk_isi, ltk_comp, ltk_compIf, ltk_comp2, lik_var, lik_int, lik_str, lik_bl, lik_non, lik_glob, lik_neg, lik_not, lik_cmp, lik_chain, lik_isi, fz_noO, ls_d, fr_j, g_rsl, fr_rsl, fz_c, fr_o, fr_v, fr_n, fr_s, kp_lst, no_0, no_n, no_v, fz_nil, lS1, lS2, sE_i, sE_lst, sE_comp, sE_compIf, sE_opl, sE_sl, sE_list, sE_sorted, sE_var, sE_ix, sE_call, sE_non, sE_blv, sE_tp, lt, li, las, lis, ltS, liS, List.append_nil, List.nil_append, ad_int, sb_int, c_lt, c_le, c_gt, c_ge, c_eq, c_ne, c_is, c_no, isN, bl_bl, in_in, b_len, b_lenT, b_lenS, b_int, b_abs, b_tupL, b_tupT, b_lstT, b_lstL, ixT0, ixT1, ixT2, ixT3, is_n_int, is_n_bool, is_n_str, is_n_tuple, is_n_list, is_b_int, is_b_bool, is_b_str, is_b_tuple, is_b_list, is_i_int, is_i_bool, is_i_str, is_i_tuple, is_i_list, is_s_int, is_s_bool, is_s_str, is_s_tuple, is_s_list, is_t_int, is_t_bool, is_t_str, is_t_tuple, is_t_list, is_l_int, is_l_bool, is_l_str, is_l_tuple, is_l_list, itemsD, wp_s, wp_n, asg1, asgT, asgN, asg0, okb, oko, noxo, List.length_cons, List.length_nil, Nat.reduceAdd, Nat.reduceLT, if_true, if_false, Bool.false_eq_true, Bool.true_eq_false, Bool.not_true, Bool.not_false, decide_true, decide_false, reduceIte, ln, k1, k2, i0, s_0, eq_ch, decide_eq_true h4.1, k5]
      · have pass : exS T.prg.G (T.prg.call n) T.prg.fu (.ife (.and (.cmp .eq (.ix (.var 0) (.int 0)) (.str "0")) (.cmp .gt (.bi .len (.cons (.var 0) .nil)) (.int 1))) (.cons (.ret (.neg (.int 1))) .nil) (.nil)) [some (.v (.str (st l))), some (.v (.int f)), none, none, none] = .nx [some (.v (.str (st l))), some (.v (.int f)), none, none, none] := by
          by_cases h5 : l.getD 0 0 = 48
          · have k5 : ¬ (1 : Int) < (l.length : Int) := fun z => h4 ⟨h5, by omega⟩
            simp only [e_var, e_int, e_str, e_bl, e_non, e_glob, e_op, e_neg, e_not, e_and, e_or, e_cmp, e_chain, e_ife, e_ix, e_sl, e_tup, e_lst, e_call, e_bi, e_isi, es_nil, es_cons, eo_no, eo_so, eS_seq, eS_rng1, eS_rng2, eS_enum, eS_zip, x_set, x_setT, x_setIx, x_aug, x_app, x_ext, x_exp, x_ret, x_retN, x_ife, x_fr, x_wh, x_brk, x_cont, x_pass, xs_nil, xs_cons, at_nx, at_rt, at_bk, at_ct, at_exc, oke, okbe, x_raise, x_tr, tr_nx, tr_rt, fin_exc, sE_comp2, fin_rt, fin_nx, g_zv, g_zo, g_s, o_z, o_s, st_z, st_s, kp_int, kp_non, kp_bl, kp_str, kp_nil, kp_noO, kp_fz, List.cons_append, sE_str, c_eqS, e_find, sd_s, ltk_find, lik_find, ltk_int, ltk_str, ltk_bl, ltk_non, ltk_glob, ltk_op, ltk_neg, ltk_not, ltk_cmp, ltk_chain, ltk_sl, ltk_tup, ltk_lst, ltk_bi, ltk_isi, ltk_comp, ltk_compIf, ltk_comp2, lik_var, lik_int, lik_str, lik_bl, lik_non, lik_glob, lik_neg, lik_not, lik_cmp, lik_chain, lik_isi, fz_noO, ls_d, fr_j, g_rsl, fr_rsl, fz_c, fr_o, fr_v, fr_n, fr_s, kp_lst, no_0, no_n, no_v, fz_nil, lS1, lS2, sE_i, sE_lst, sE_comp, sE_compIf, sE_opl, sE_sl, sE_list, sE_sorted, sE_var, sE_ix, sE_call, sE_non, sE_blv, sE_tp, lt, li, las, lis, ltS, liS, List.append_nil, List.nil_append, ad_int, sb_int, c_lt, c_le, c_gt, c_ge, c_eq, c_ne, c_is, c_no, isN, bl_bl, in_in, b_len, b_lenT, b_lenS, b_int, b_abs, b_tupL, b_tupT, b_lstT, b_lstL, ixT0, ixT1, ixT2, ixT3, is_n_int, is_n_bool, is_n_str, is_n_tuple, is_n_list, is_b_int, is_b_bool, is_b_str, is_b_tuple, is_b_list, is_i_int, is_i_bool, is_i_str, is_i_tuple, is_i_list, is_s_int, is_s_bool, is_s_str, is_s_tuple, is_s_list, is_t_int, is_t_bool, is_t_str, is_t_tuple, is_t_list, is_l_int, is_l_bool, is_l_str, is_l_tuple, is_l_list, itemsD, wp_s, wp_n, asg1, asgT, asgN, asg0, okb, oko, noxo, List.length_cons, List.length_nil, Nat.reduceAdd, Nat.reduceLT, if_true, if_false, Bool.false_eq_true, Bool.true_eq_false, Bool.not_true, Bool.not_false, decide_true, decide_false, reduceIte, i0, s_0, eq_ch, decide_eq_true h5, ln, k5]
          · simp only [e_var, e_int, e_str, e_bl, e_non, e_glob, e_op, e_neg, e_not, e_and, e_or, e_cmp, e_chain, e_ife, e_ix, e_sl, e_tup, e_lst, e_call, e_bi, e_isi, es_nil, es_cons, eo_no, eo_so, eS_seq, eS_rng1, eS_rng2, eS_enum, eS_zip, x_set, x_setT, x_setIx, x_aug, x_app, x_ext, x_exp, x_ret, x_retN, x_ife, x_fr, x_wh, x_brk, x_cont, x_pass, xs_nil, xs_cons, at_nx, at_rt, at_bk, at_ct, at_exc, oke, okbe, x_raise, x_tr, tr_nx, tr_rt, fin_exc, sE_comp2, fin_rt, fin_nx, g_zv, g_zo, g_s, o_z, o_s, st_z, st_s, kp_int, kp_non, kp_bl, kp_str, kp_nil, kp_noO, kp_fz, List.cons_append, sE_str, c_eqS, e_find, sd_s, ltk_find, lik_find, ltk_int, ltk_str, ltk_bl, ltk_non, ltk_glob, ltk_op, ltk_neg, ltk_not, ltk_cmp, ltk_chain, ltk_sl, ltk_tup, ltk_lst, ltk_bi, ltk_isi, ltk_comp, ltk_compIf, ltk_comp2, lik_var, lik_int, lik_str, lik_bl, lik_non, lik_glob, lik_neg, lik_not, lik_cmp, lik_chain, lik_isi, fz_noO, ls_d, fr_j, g_rsl, fr_rsl, fz_c, fr_o, fr_v, fr_n, fr_s, kp_lst, no_0, no_n, no_v, fz_nil, lS1, lS2, sE_i, sE_lst, sE_comp, sE_compIf, sE_opl, sE_sl, sE_list, sE_sorted, sE_var, sE_ix, sE_call, sE_non, sE_blv, sE_tp, lt, li, las, lis, ltS, liS, List.append_nil, List.nil_append, ad_int, sb_int, c_lt, c_le, c_gt, c_ge, c_eq, c_ne, c_is, c_no, isN, bl_bl, in_in, b_len, b_lenT, b_lenS, b_int, b_abs, b_tupL, b_tupT, b_lstT, b_lstL, ixT0, ixT1, ixT2, ixT3, is_n_int, is_n_bool, is_n_str, is_n_tuple, is_n_list, is_b_int, is_b_bool, is_b_str, is_b_tuple, is_b_list, is_i_int, is_i_bool, is_i_str, is_i_tuple, is_i_list, is_s_int, is_s_bool, is_s_str, is_s_tuple, is_s_list, is_t_int, is_t_bool, is_t_str, is_t_tuple, is_t_list, is_l_int, is_l_bool, is_l_str, is_l_tuple, is_l_list, itemsD, wp_s, wp_n, asg1, asgT, asgN, asg0, okb, oko, noxo, List.length_cons, List.length_nil, Nat.reduceAdd, Nat.reduceLT, if_true, if_false, Bool.false_eq_true, Bool.true_eq_false, Bool.not_true, Bool.not_false, decide_true, decide_false, reduceIte, i0, s_0, eq_ch, decide_eq_false h5]
        have first : exS T.prg.G (T.prg.call n) T.prg.fu (.ife (.or (.cmp .lt (.bi .len (.cons (.var 0) .nil)) (.int 1)) (.cmp .gt (.bi .len (.cons (.var 0) .nil)) (.var 1))) (.cons (.ret (.neg (.int 1))) .nil) (.nil)) [some (.v (.str (st l))), some (.v (.int f)), none, none, none] = .nx [some (.v (.str (st l))), some (.v (.int f)), none, none, none] := by
          simp only [e_var, e_int, e_str, e_bl, e_non, e_glob, e_op, e_neg, e_not, e_and, e_or, e_cmp, e_chain, e_ife, e_ix, e_sl, e_tup, e_lst, e_call, e_bi, e_isi, es_nil, es_cons, eo_no, eo_so, eS_seq, eS_rng1, eS_rng2, eS_enum, eS_zip, x_set, x_setT, x_setIx, x_aug, x_app, x_ext, x_exp, x_ret, x_retN, x_ife, x_fr, x_wh, x_brk, x_cont, x_pass, xs_nil, xs_cons, at_nx, at_rt, at_bk, at_ct, at_exc, oke, okbe, x_raise, x_tr, tr_nx, tr_rt, fin_exc, sE_comp2, fin_rt, fin_nx, g_zv, g_zo, g_s, o_z, o_s, st_z, st_s, kp_int, kp_non, kp_bl, kp_str, kp_nil, kp_noO, kp_fz, List.cons_append, sE_str, c_eqS, e_find, sd_s, ltk_find, lik_find, ltk_int, ltk_str, ltk_bl, ltk_non, ltk_glob, ltk_op, ltk_neg, ltk_not, ltk_cmp, ltk_chain, ltk_sl, ltk_tup, ltk_lst, ltk_bi, ltk_isi, ltk_comp, ltk_compIf, ltk_comp2, lik_var, lik_int, lik_str, lik_bl, lik_non, lik_glob, lik_neg, lik_not, lik_cmp, lik_chain, lik_isi, fz_noO, ls_d, fr_j, g_rsl, fr_rsl, fz_c, fr_o, fr_v, fr_n, fr_s, kp_lst, no_0, no_n, no_v, fz_nil, lS1, lS2, sE_i, sE_lst, sE_comp, sE_compIf, sE_opl, sE_sl, sE_list, sE_sorted, sE_var, sE_ix, sE_call, sE_non, sE_blv, sE_tp, lt, li, las, lis, ltS, liS, List.append_nil, List.nil_append, ad_int, sb_int, c_lt, c_le, c_gt, c_ge, c_eq, c_ne, c_is, c_no, isN, bl_bl, in_in, b_len, b_lenT, b_lenS, b_int, b_abs, b_tupL, b_tupT, b_lstT, b_lstL, ixT0, ixT1, ixT2, ixT3, is_n_int, is_n_bool, is_n_str, is_n_tuple, is_n_list, is_b_int, is_b_bool, is_b_str, is_b_tuple, is_b_list, is_i_int, is_i_bool, is_i_str, is_i_tuple, is_i_list, is_s_int, is_s_bool, is_s_str, is_s_tuple, is_s_list, is_t_int, is_t_bool, is_t_str, is_t_tuple, is_t_list, is_l_int, is_l_bool, is_l_str, is_l_tuple, is_l_list, itemsD, wp_s, wp_n, asg1, asgT, asgN, asg0, okb, oko, noxo, List.length_cons, List.length_nil, Nat.reduceAdd, Nat.reduceLT, if_true, if_false, Bool.false_eq_true, Bool.true_eq_false, Bool.not_true, Bool.not_false, decide_true, decide_false, reduceIte, ln, k1, k2]
        have sec : exS T.prg.G (T.prg.call n) T.prg.fu (.set 2 (.int 0)) [some (.v (.str (st l))), some (.v (.int f)), none, none, none] = .nx [some (.v (.str (st l))), some (.v (.int f)), some (.v (.int 0)), none, none] := by simp only [e_var, e_int, e_str, e_bl, e_non, e_glob, e_op, e_neg, e_not, e_and, e_or, e_cmp, e_chain, e_ife, e_ix, e_sl, e_tup, e_lst, e_call, e_bi, e_isi, es_nil, es_cons, eo_no, eo_so, eS_seq, eS_rng1, eS_rng2, eS_enum, eS_zip, x_set, x_setT, x_setIx, x_aug, x_app, x_ext, x_exp, x_ret, x_retN, x_ife, x_fr, x_wh, x_brk, x_cont, x_pass, xs_nil, xs_cons, at_nx, at_rt, at_bk, at_ct, at_exc, oke, okbe, x_raise, x_tr, tr_nx, tr_rt, fin_exc, sE_comp2, fin_rt, fin_nx, g_zv, g_zo, g_s, o_z, o_s, st_z, st_s, kp_int, kp_non, kp_bl, kp_str, kp_nil, kp_noO, kp_fz, List.cons_append, sE_str, c_eqS, e_find, sd_s, ltk_find, lik_find, ltk_int, ltk_str, ltk_bl, ltk_non, ltk_glob, ltk_op, ltk_neg, ltk_not, ltk_cmp, ltk_chain, ltk_sl, ltk_tup, ltk_lst, ltk_bi, ltk_isi, ltk_comp, ltk_compIf, ltk_comp2, lik_var, lik_int, lik_str, lik_bl, lik_non, lik_glob, lik_neg, lik_not, lik_cmp, lik_chain, lik_isi, fz_noO, ls_d, fr_j, g_rsl, fr_rsl, fz_c, fr_o, fr_v, fr_n, fr_s, kp_lst, no_0, no_n, no_v, fz_nil, lS1, lS2, sE_i, sE_lst, sE_comp, sE_compIf, sE_opl, sE_sl, sE_list, sE_sorted, sE_var, sE_ix, sE_call, sE_non, sE_blv, sE_tp, lt, li, las, lis, ltS, liS, List.append_nil, List.nil_append, ad_int, sb_int, c_lt, c_le, c_gt, c_ge, c_eq, c_ne, c_is, c_no, isN, bl_bl, in_in, b_len, b_lenT, b_lenS, b_int, b_abs, b_tupL, b_tupT, b_lstT, b_lstL, ixT0, ixT1, ixT2, ixT3, is_n_int, is_n_bool, is_n_str, is_n_tuple, is_n_list, is_b_int, is_b_bool, is_b_str, is_b_tuple, is_b_list, is_i_int, is_i_bool, is_i_str, is_i_tuple, is_i_list, is_s_int, is_s_bool, is_s_str, is_s_tuple, is_s_list, is_t_int, is_t_bool, is_t_str, is_t_tuple, is_t_list, is_l_int, is_l_bool, is_l_str, is_l_tuple, is_l_list, itemsD, wp_s, wp_n, asg1, asgT, asgN, asg0, okb, oko, noxo, List.length_cons, List.length_nil, Nat.reduceAdd, Nat.reduceLT, if_true, if_false, Bool.false_eq_true, Bool.true_eq_false, Bool.not_true, Bool.not_false, decide_true, decide_false, reduceIte]
        rw [xs_cons, first, at_nx, xs_cons, pass, at_nx, xs_cons, sec, at_nx, xs_cons, loop]
        cases h3 : l.all fun c => decide (c ∈ DG) with
        | false =>
          rw [if_neg (by decide), if_pos rfl]
          rfl
        | true =>
          rw [if_pos rfl, if_neg (by decide), if_neg h4]
          simp only [e_var, e_int, e_str, e_bl, e_non, e_glob, e_op, e_neg, e_not, e_and, e_or, e_cmp, e_chain, e_ife, e_ix, e_sl, e_tup, e_lst, e_call, e_bi, e_isi, es_nil, es_cons, eo_no, eo_so, eS_seq, eS_rng1, eS_rng2, eS_enum, eS_zip, x_set, x_setT, x_setIx, x_aug, x_app, x_ext, x_exp, x_ret, x_retN, x_ife, x_fr, x_wh, x_brk, x_cont, x_pass, xs_nil, xs_cons, at_nx, at_rt, at_bk, at_ct, at_exc, oke, okbe, x_raise, x_tr, tr_nx, tr_rt, fin_exc, sE_comp2, fin_rt, fin_nx, g_zv, g_zo, g_s, o_z, o_s, st_z, st_s, kp_int, kp_non, kp_bl, kp_str, kp_nil, kp_noO, kp_fz, List.cons_append, sE_str, c_eqS, e_find, sd_s, ltk_find, lik_find, ltk_int, ltk_str, ltk_bl, ltk_non, ltk_glob, ltk_op, ltk_neg, ltk_not, ltk_cmp, ltk_chain, ltk_sl, ltk_tup, ltk_lst, ltk_bi, ltk_isi, ltk_comp, ltk_compIf, ltk_comp2, lik_var, lik_int, lik_str, lik_bl, lik_non, lik_glob, lik_neg, lik_not, lik_cmp, lik_chain, lik_isi, fz_noO, ls_d, fr_j, g_rsl, fr_rsl, fz_c, fr_o, fr_v, fr_n, fr_s, kp_lst, no_0, no_n, no_v, fz_nil, lS1, lS2, sE_i, sE_lst, sE_comp, sE_compIf, sE_opl, sE_sl, sE_list, sE_sorted, sE_var, sE_ix, sE_call, sE_non, sE_blv, sE_tp, lt, li, las, lis, ltS, liS, List.append_nil, List.nil_append, ad_int, sb_int, c_lt, c_le, c_gt, c_ge, c_eq, c_ne, c_is, c_no, isN, bl_bl, in_in, b_len, b_lenT, b_lenS, b_int, b_abs, b_tupL, b_tupT, b_lstT, b_lstL, ixT0, ixT1, ixT2, ixT3, is_n_int, is_n_bool, is_n_str, is_n_tuple, is_n_list, is_b_int, is_b_bool, is_b_str, is_b_tuple, is_b_list, is_i_int, is_i_bool, is_i_str, is_i_tuple, is_i_list, is_s_int, is_s_bool, is_s_str, is_s_tuple, is_s_list, is_t_int, is_t_bool, is_t_str, is_t_tuple, is_t_list, is_l_int, is_l_bool, is_l_str, is_l_tuple, is_l_list, itemsD, wp_s, wp_n, asg1, asgT, asgN, asg0, okb, oko, noxo, List.length_cons, List.length_nil, Nat.reduceAdd, Nat.reduceLT, if_true, if_false, Bool.false_eq_true, Bool.true_eq_false, Bool.not_true, Bool.not_false, decide_true, decide_false, reduceIte]
    · have k1 : ¬ (l.length : Int) < 1 := by omega
      have k2 : (f : Int) < (l.length : Int) := by omega
      rw [if_pos (by omega)]
      simp only [e_var, e_int, e_str, e_bl, e_non, e_glob, e_op, e_neg, e_not, e_and, e_or, e_cmp, e_chain, e_ife, e_ix, e_sl, e_tup, e_lst, e_call, e_bi, e_isi, es_nil, es_cons, eo_no, eo_so, eS_seq, eS_rng1, eS_rng2, eS_enum, eS_zip, x_set, x_setT, x_setIx, x_aug, x_app, x_ext, x_exp, x_ret, x_retN, x_ife, x_fr, x_wh, x_brk, x_cont, x_pass, xs_nil, xs_cons, at_nx, at_rt, at_bk, at_ct, at_exc, oke, okbe, x_raise, x_tr, tr_nx, tr_rt, fin_exc, sE_comp2, fin_rt, fin_nx, g_zv, g_zo, g_s, o_z, o_s, st_z, st_s, kp_int, kp_non, kp_bl, kp_str, kp_nil, kp_noO, kp_fz, List.cons_append, sE_str, c_eqS, e_find, sd_s, ltk_find, lik_find, ltk_int, ltk_str, ltk_bl, ltk_non, ltk_glob, ltk_op, ltk_neg, ltk_not, ltk_cmp, ltk_chain, ltk_sl, ltk_tup, ltk_lst, ltk_bi, ltk_isi, ltk_comp, ltk_compIf, ltk_comp2, lik_var, lik_int, lik_str, lik_bl, lik_non, lik_glob, lik_neg, lik_not, lik_cmp, lik_chain, lik_isi, fz_noO, ls_d, fr_j, g_rsl, fr_rsl, fz_c, fr_o, fr_v, fr_n, fr_s, kp_lst, no_0, no_n, no_v, fz_nil, lS1, lS2, sE_i, sE_lst, sE_comp, sE_compIf, sE_opl, sE_sl, sE_list, sE_sorted, sE_var, sE_ix, sE_call, sE_non, sE_blv, sE_tp, lt, li, las, lis, ltS, liS, List.append_nil, List.nil_append, ad_int, sb_int, c_lt, c_le, c_gt, c_ge, c_eq, c_ne, c_is, c_no, isN, bl_bl, in_in, b_len, b_lenT, b_lenS, b_int, b_abs, b_tupL, b_tupT, b_lstT, b_lstL, ixT0, ixT1, ixT2, ixT3, is_n_int, is_n_bool, is_n_str, is_n_tuple, is_n_list, is_b_int, is_b_bool, is_b_str, is_b_tuple, is_b_list, is_i_int, is_i_bool, is_i_str, is_i_tuple, is_i_list, is_s_int, is_s_bool, is_s_str, is_s_tuple, is_s_list, is_t_int, is_t_bool, is_t_str, is_t_tuple, is_t_list, is_l_int, is_l_bool, is_l_str, is_l_tuple, is_l_list, itemsD, wp_s, wp_n, asg1, asgT, asgN, asg0, okb, oko, noxo, List.length_cons, List.length_nil, Nat.reduceAdd, Nat.reduceLT, if_true, if_false, Bool.false_eq_true, Bool.true_eq_false, Bool.not_true, Bool.not_false, decide_true, decide_false, reduceIte, ln, k1, k2]
  · have k1 : (l.length : Int) < 1 := by omega
    rw [if_pos (by omega)]
    simp only [e_var, e_int, e_str, e_bl, e_non, e_glob, e_op, e_neg, e_not, e_and, e_or, e_cmp, e_chain, e_ife, e_ix, e_sl, e_tup, e_lst, e_call, e_bi, e_isi, es_nil, es_cons, eo_no, eo_so, eS_seq, eS_rng1, eS_rng2, eS_enum, eS_zip, x_set, x_setT, x_setIx, x_aug, x_app, x_ext, x_exp, x_ret, x_retN, x_ife, x_fr, x_wh, x_brk, x_cont, x_pass, xs_nil, xs_cons, at_nx, at_rt, at_bk, at_ct, at_exc, oke, okbe, x_raise, x_tr, tr_nx, tr_rt, fin_exc, sE_comp2, fin_rt, fin_nx, g_zv, g_zo, g_s, o_z, o_s, st_z, st_s, kp_int, kp_non, kp_bl, kp_str, kp_nil, kp_noO, kp_fz, List.cons_append, sE_str, c_eqS, e_find, sd_s, ltk_find, lik_find, ltk_int, ltk_str, ltk_bl, ltk_non, ltk_glob, ltk_op, ltk_neg, ltk_not, ltk_cmp, ltk_chain, ltk_sl, ltk_tup, ltk_lst, ltk_bi, ltk_isi, ltk_comp, ltk_compIf, ltk_comp2, lik_var, lik_int, lik_str, lik_bl, lik_non, lik_glob, lik_neg, lik_not, lik_cmp, lik_chain, lik_isi, fz_noO, ls_d, fr_j, g_rsl, fr_rsl, fz_c, fr_o, fr_v, fr_n, fr_s, kp_lst, no_0, no_n, no_v, fz_nil, lS1, lS2, sE_i, sE_lst, sE_comp, sE_compIf, sE_opl, sE_sl, sE_list, sE_sorted, sE_var, sE_ix, sE_call, sE_non, sE_blv, sE_tp, lt, li, las, lis, ltS, liS, List.append_nil, List.nil_append, ad_int, sb_int, c_lt, c_le, c_gt, c_ge, c_eq, c_ne, c_is, c_no, isN, bl_bl, in_in, b_len, b_lenT, b_lenS, b_int, b_abs, b_tupL, b_tupT, b_lstT, b_lstL, ixT0, ixT1, ixT2, ixT3, is_n_int, is_n_bool, is_n_str, is_n_tuple, is_n_list, is_b_int, is_b_bool, is_b_str, is_b_tuple, is_b_list, is_i_int, is_i_bool, is_i_str, is_i_tuple, is_i_list, is_s_int, is_s_bool, is_s_str, is_s_tuple, is_s_list, is_t_int, is_t_bool, is_t_str, is_t_tuple, is_t_list, is_l_int, is_l_bool, is_l_str, is_l_tuple, is_l_list, itemsD, wp_s, wp_n, asg1, asgT, asgN, asg0, okb, oko, noxo, List.length_cons, List.length_nil, Nat.reduceAdd, Nat.reduceLT, if_true, if_false, Bool.false_eq_true, Bool.true_eq_false, Bool.not_true, Bool.not_false, decide_true, decide_false, reduceIte, ln, k1]
end K01
namespace K01
open PySem L2 PyI
def SG2 : List Nat := [32, 45, 43, 95, 46, 97, 10, 44]
theorem s_signs2 : ([.str "\x20", .str "-", .str "+", .str "_", .str ".", .str "a", .str "\n", .str ","] : List D) = SG2.map ch := by
  have h : ([" ", "-", "+", "_", ".", "a", "\n", ","] : List Str) = SG2.map fun c => st [c] := by decide
  have e : ([.str "\x20", .str "-", .str "+", .str "_", .str ".", .str "a", .str "\n", .str ","] : List D) = ([" ", "-", "+", "_", ".", "a", "\n", ","] : List Str).map D.str := rfl
  rw [e, h, List.map_map]
  rfl
section
variable (ns : List Int) (xs : List Nat) (hx : xs.length = 26)
include hx
theorem t9_run (l : List Nat) (hl : l.length ≤ 640) (f : Nat) (s3 s5 : Option C) : fin (exL T.prg.G (T.prg.call 59) T.prg.fu t9_law [some (.v (.scr ns)), some (.v (.lst (xs.map nm))), some (.v (.int f)), s3, some (.v (.str (st l))), s5]) = .ok (.bl true) := by
  unfold t9_law
  have r1 : T.prg.call 59 "read_number" [.str (st l), .int f] = _ := read_run 58 l hl f
  have r2 : T.prg.call 59 "_law_read" [.str (st l), .int f] = _ := lawread_run 58 l hl f
  simp only [e_var, e_int, e_str, e_bl, e_non, e_glob, e_op, e_neg, e_not, e_and, e_or, e_cmp, e_chain, e_ife, e_ix, e_sl, e_tup, e_lst, e_call, e_bi, e_isi, es_nil, es_cons, eo_no, eo_so, eS_seq, eS_rng1, eS_rng2, eS_enum, eS_zip, x_set, x_setT, x_setIx, x_aug, x_app, x_ext, x_exp, x_ret, x_retN, x_ife, x_fr, x_wh, x_brk, x_cont, x_pass, xs_nil, xs_cons, at_nx, at_rt, at_bk, at_ct, at_exc, oke, okbe, x_raise, x_tr, tr_nx, tr_rt, fin_exc, sE_comp2, fin_rt, fin_nx, g_zv, g_zo, g_s, o_z, o_s, st_z, st_s, kp_int, kp_non, kp_bl, kp_str, kp_nil, kp_noO, kp_fz, List.cons_append, sE_str, c_eqS, e_find, sd_s, ltk_find, lik_find, ltk_int, ltk_str, ltk_bl, ltk_non, ltk_glob, ltk_op, ltk_neg, ltk_not, ltk_cmp, ltk_chain, ltk_sl, ltk_tup, ltk_lst, ltk_bi, ltk_isi, ltk_comp, ltk_compIf, ltk_comp2, lik_var, lik_int, lik_str, lik_bl, lik_non, lik_glob, lik_neg, lik_not, lik_cmp, lik_chain, lik_isi, fz_noO, ls_d, fr_j, g_rsl, fr_rsl, fz_c, fr_o, fr_v, fr_n, fr_s, kp_lst, no_0, no_n, no_v, fz_nil, lS1, lS2, sE_i, sE_lst, sE_comp, sE_compIf, sE_opl, sE_sl, sE_list, sE_sorted, sE_var, sE_ix, sE_call, sE_non, sE_blv, sE_tp, lt, li, las, lis, ltS, liS, List.append_nil, List.nil_append, ad_int, sb_int, c_lt, c_le, c_gt, c_ge, c_eq, c_ne, c_is, c_no, isN, bl_bl, in_in, b_len, b_lenT, b_lenS, b_int, b_abs, b_tupL, b_tupT, b_lstT, b_lstL, ixT0, ixT1, ixT2, ixT3, is_n_int, is_n_bool, is_n_str, is_n_tuple, is_n_list, is_b_int, is_b_bool, is_b_str, is_b_tuple, is_b_list, is_i_int, is_i_bool, is_i_str, is_i_tuple, is_i_list, is_s_int, is_s_bool, is_s_str, is_s_tuple, is_s_list, is_t_int, is_t_bool, is_t_str, is_t_tuple, is_t_list, is_l_int, is_l_bool, is_l_str, is_l_tuple, is_l_list, itemsD, wp_s, wp_n, asg1, asgT, asgN, asg0, okb, oko, noxo, List.length_cons, List.length_nil, Nat.reduceAdd, Nat.reduceLT, if_true, if_false, Bool.false_eq_true, Bool.true_eq_false, Bool.not_true, Bool.not_false, decide_true, decide_false, reduceIte, r1, r2, sd_int 59 (by omega) (rdN l f)]
theorem t8_run (l : List Nat) (size : Nat) (hl : l.length = size) (h101 : size ≤ 101) (f a : Nat) (ha : a < max 1 size) : fin (exL T.prg.G (T.prg.call 59) T.prg.fu t8_law [some (.v (.scr ns)), some (.v (.lst (xs.map nm))), some (.v (.int f)), some (.v (.int size)), some (.v (.str (st l))), some (.v (.int a))]) = .ok (.bl true) := by
  unfold t8_law
  have i4 := ix_lst (xs := xs.map nm) (i := 4) (n := 4) rfl (nget (by omega))
  by_cases h0 : 0 < size
  · have k0 : (0 : Int) < (size : Int) := by omega
    by_cases h : ((xs.getD 4 0 : Nat) : Int) % 4 = 2
    · obtain ⟨p, ep⟩ : ∃ p, xs.getD 4 0 / 4 % 8 = p := ⟨_, rfl⟩
      have e3 : ((xs.getD 4 0 : Nat) : Int) / 4 % 8 = (p : Int) := by omega
      have ix := ix_ch (l := SG2) (p := p) (by show p < 8; omega)
      have al : a < l.length := by rw [hl]; omega
      have c1 := cut_lo (l := l) (k := a) (by omega) (by omega)
      have c2 : slD (.str (st l)) (some ((a : Int) + 1)) none = .ok (.str (st (l.drop (a + 1)))) := cut_hi (l := l) (k := a + 1) (by omega) (by omega)
      have a1 : opD .add (.str (st (l.take a))) (ch (SG2.getD p 0)) = .ok (.str (st (l.take a ++ [SG2.getD p 0]))) := ad_st (by rw [List.length_take, List.length_singleton]; omega)
      have a2 : opD .add (.str (st (l.take a ++ [SG2.getD p 0]))) (.str (st (l.drop (a + 1)))) = .ok (.str (st (l.take a ++ [SG2.getD p 0] ++ l.drop (a + 1)))) := ad_st (by rw [List.length_append, List.length_take, List.length_singleton, List.length_drop]; omega)
      have t := t9_run ns xs hx (l.take a ++ [SG2.getD p 0] ++ l.drop (a + 1)) (by rw [List.length_append, List.length_append, List.length_take, List.length_singleton, List.length_drop]; omega) f (some (.v (.int size))) (some (.v (.int a)))
      simp only [e_var, e_int, e_str, e_bl, e_non, e_glob, e_op, e_neg, e_not, e_and, e_or, e_cmp, e_chain, e_ife, e_ix, e_sl, e_tup, e_lst, e_call, e_bi, e_isi, es_nil, es_cons, eo_no, eo_so, eS_seq, eS_rng1, eS_rng2, eS_enum, eS_zip, x_set, x_setT, x_setIx, x_aug, x_app, x_ext, x_exp, x_ret, x_retN, x_ife, x_fr, x_wh, x_brk, x_cont, x_pass, xs_nil, xs_cons, at_nx, at_rt, at_bk, at_ct, at_exc, oke, okbe, x_raise, x_tr, tr_nx, tr_rt, fin_exc, sE_comp2, fin_rt, fin_nx, g_zv, g_zo, g_s, o_z, o_s, st_z, st_s, kp_int, kp_non, kp_bl, kp_str, kp_nil, kp_noO, kp_fz, List.cons_append, sE_str, c_eqS, e_find, sd_s, ltk_find, lik_find, ltk_int, ltk_str, ltk_bl, ltk_non, ltk_glob, ltk_op, ltk_neg, ltk_not, ltk_cmp, ltk_chain, ltk_sl, ltk_tup, ltk_lst, ltk_bi, ltk_isi, ltk_comp, ltk_compIf, ltk_comp2, lik_var, lik_int, lik_str, lik_bl, lik_non, lik_glob, lik_neg, lik_not, lik_cmp, lik_chain, lik_isi, fz_noO, ls_d, fr_j, g_rsl, fr_rsl, fz_c, fr_o, fr_v, fr_n, fr_s, kp_lst, no_0, no_n, no_v, fz_nil, lS1, lS2, sE_i, sE_lst, sE_comp, sE_compIf, sE_opl, sE_sl, sE_list, sE_sorted, sE_var, sE_ix, sE_call, sE_non, sE_blv, sE_tp, lt, li, las, lis, ltS, liS, List.append_nil, List.nil_append, ad_int, sb_int, c_lt, c_le, c_gt, c_ge, c_eq, c_ne, c_is, c_no, isN, bl_bl, in_in, b_len, b_lenT, b_lenS, b_int, b_abs, b_tupL, b_tupT, b_lstT, b_lstL, ixT0, ixT1, ixT2, ixT3, is_n_int, is_n_bool, is_n_str, is_n_tuple, is_n_list, is_b_int, is_b_bool, is_b_str, is_b_tuple, is_b_list, is_i_int, is_i_bool, is_i_str, is_i_tuple, is_i_list, is_s_int, is_s_bool, is_s_str, is_s_tuple, is_s_list, is_t_int, is_t_bool, is_t_str, is_t_tuple, is_t_list, is_l_int, is_l_bool, is_l_str, is_l_tuple, is_l_list, itemsD, wp_s, wp_n, asg1, asgT, asgN, asg0, okb, oko, noxo, List.length_cons, List.length_nil, Nat.reduceAdd, Nat.reduceLT, if_true, if_false, Bool.false_eq_true, Bool.true_eq_false, Bool.not_true, Bool.not_false, decide_true, decide_false, reduceIte, k0, i4, md_int (i := ((xs.getD 4 0 : Nat) : Int)) (j := 4) (by decide), decide_eq_true h, c1, s_signs2, fd_int (i := ((xs.getD 4 0 : Nat) : Int)) (j := 4) (by decide), md_int (i := ((xs.getD 4 0 : Nat) : Int) / 4) (j := 8) (by decide), e3, ix, a1, c2, a2]
      exact t
    · have t := t9_run ns xs hx l (by omega) f (some (.v (.int size))) (some (.v (.int a)))
      simp only [e_var, e_int, e_str, e_bl, e_non, e_glob, e_op, e_neg, e_not, e_and, e_or, e_cmp, e_chain, e_ife, e_ix, e_sl, e_tup, e_lst, e_call, e_bi, e_isi, es_nil, es_cons, eo_no, eo_so, eS_seq, eS_rng1, eS_rng2, eS_enum, eS_zip, x_set, x_setT, x_setIx, x_aug, x_app, x_ext, x_exp, x_ret, x_retN, x_ife, x_fr, x_wh, x_brk, x_cont, x_pass, xs_nil, xs_cons, at_nx, at_rt, at_bk, at_ct, at_exc, oke, okbe, x_raise, x_tr, tr_nx, tr_rt, fin_exc, sE_comp2, fin_rt, fin_nx, g_zv, g_zo, g_s, o_z, o_s, st_z, st_s, kp_int, kp_non, kp_bl, kp_str, kp_nil, kp_noO, kp_fz, List.cons_append, sE_str, c_eqS, e_find, sd_s, ltk_find, lik_find, ltk_int, ltk_str, ltk_bl, ltk_non, ltk_glob, ltk_op, ltk_neg, ltk_not, ltk_cmp, ltk_chain, ltk_sl, ltk_tup, ltk_lst, ltk_bi, ltk_isi, ltk_comp, ltk_compIf, ltk_comp2, lik_var, lik_int, lik_str, lik_bl, lik_non, lik_glob, lik_neg, lik_not, lik_cmp, lik_chain, lik_isi, fz_noO, ls_d, fr_j, g_rsl, fr_rsl, fz_c, fr_o, fr_v, fr_n, fr_s, kp_lst, no_0, no_n, no_v, fz_nil, lS1, lS2, sE_i, sE_lst, sE_comp, sE_compIf, sE_opl, sE_sl, sE_list, sE_sorted, sE_var, sE_ix, sE_call, sE_non, sE_blv, sE_tp, lt, li, las, lis, ltS, liS, List.append_nil, List.nil_append, ad_int, sb_int, c_lt, c_le, c_gt, c_ge, c_eq, c_ne, c_is, c_no, isN, bl_bl, in_in, b_len, b_lenT, b_lenS, b_int, b_abs, b_tupL, b_tupT, b_lstT, b_lstL, ixT0, ixT1, ixT2, ixT3, is_n_int, is_n_bool, is_n_str, is_n_tuple, is_n_list, is_b_int, is_b_bool, is_b_str, is_b_tuple, is_b_list, is_i_int, is_i_bool, is_i_str, is_i_tuple, is_i_list, is_s_int, is_s_bool, is_s_str, is_s_tuple, is_s_list, is_t_int, is_t_bool, is_t_str, is_t_tuple, is_t_list, is_l_int, is_l_bool, is_l_str, is_l_tuple, is_l_list, itemsD, wp_s, wp_n, asg1, asgT, asgN, asg0, okb, oko, noxo, List.length_cons, List.length_nil, Nat.reduceAdd, Nat.reduceLT, if_true, if_false, Bool.false_eq_true, Bool.true_eq_false, Bool.not_true, Bool.not_false, decide_true, decide_false, reduceIte, k0, i4, md_int (i := ((xs.getD 4 0 : Nat) : Int)) (j := 4) (by decide), decide_eq_false h]
      exact t
  · have k0 : ¬ (0 : Int) < (size : Int) := by omega
    have t := t9_run ns xs hx l (by omega) f (some (.v (.int size))) (some (.v (.int a)))
    simp only [e_var, e_int, e_str, e_bl, e_non, e_glob, e_op, e_neg, e_not, e_and, e_or, e_cmp, e_chain, e_ife, e_ix, e_sl, e_tup, e_lst, e_call, e_bi, e_isi, es_nil, es_cons, eo_no, eo_so, eS_seq, eS_rng1, eS_rng2, eS_enum, eS_zip, x_set, x_setT, x_setIx, x_aug, x_app, x_ext, x_exp, x_ret, x_retN, x_ife, x_fr, x_wh, x_brk, x_cont, x_pass, xs_nil, xs_cons, at_nx, at_rt, at_bk, at_ct, at_exc, oke, okbe, x_raise, x_tr, tr_nx, tr_rt, fin_exc, sE_comp2, fin_rt, fin_nx, g_zv, g_zo, g_s, o_z, o_s, st_z, st_s, kp_int, kp_non, kp_bl, kp_str, kp_nil, kp_noO, kp_fz, List.cons_append, sE_str, c_eqS, e_find, sd_s, ltk_find, lik_find, ltk_int, ltk_str, ltk_bl, ltk_non, ltk_glob, ltk_op, ltk_neg, ltk_not, ltk_cmp, ltk_chain, ltk_sl, ltk_tup, ltk_lst, ltk_bi, ltk_isi, ltk_comp, ltk_compIf, ltk_comp2, lik_var, lik_int, lik_str, lik_bl, lik_non, lik_glob, lik_neg, lik_not, lik_cmp, lik_chain, lik_isi, fz_noO, ls_d, fr_j, g_rsl, fr_rsl, fz_c, fr_o, fr_v, fr_n, fr_s, kp_lst, no_0, no_n, no_v, fz_nil, lS1, lS2, sE_i, sE_lst, sE_comp, sE_compIf, sE_opl, sE_sl, sE_list, sE_sorted, sE_var, sE_ix, sE_call, sE_non, sE_blv, sE_tp, lt, li, las, lis, ltS, liS, List.append_nil, List.nil_append, ad_int, sb_int, c_lt, c_le, c_gt, c_ge, c_eq, c_ne, c_is, c_no, isN, bl_bl, in_in, b_len, b_lenT, b_lenS, b_int, b_abs, b_tupL, b_tupT, b_lstT, b_lstL, ixT0, ixT1, ixT2, ixT3, is_n_int, is_n_bool, is_n_str, is_n_tuple, is_n_list, is_b_int, is_b_bool, is_b_str, is_b_tuple, is_b_list, is_i_int, is_i_bool, is_i_str, is_i_tuple, is_i_list, is_s_int, is_s_bool, is_s_str, is_s_tuple, is_s_list, is_t_int, is_t_bool, is_t_str, is_t_tuple, is_t_list, is_l_int, is_l_bool, is_l_str, is_l_tuple, is_l_list, itemsD, wp_s, wp_n, asg1, asgT, asgN, asg0, okb, oko, noxo, List.length_cons, List.length_nil, Nat.reduceAdd, Nat.reduceLT, if_true, if_false, Bool.false_eq_true, Bool.true_eq_false, Bool.not_true, Bool.not_false, decide_true, decide_false, reduceIte, k0]
    exact t
end
theorem mxN (x y : Nat) : biD .max [.int x, .int y] = .ok (.int (max x y : Nat)) := by
  rw [b_max]
  congr 2
  split
  · rw [Nat.max_eq_right (by omega)]
  · rw [Nat.max_eq_left (by omega)]
theorem t2_run (ns : List Int) : fin (exL T.prg.G (T.prg.call 59) T.prg.fu t2_law [some (.v (.scr ns)), none, none, none, none, none]) = .ok (.bl true) := by
  unfold t2_law
  obtain ⟨xs, hc, hx, h1000⟩ := draws_run ns 2 26 58 (by decide) (by decide)
  have hc : T.prg.call 59 "_law_draws" [.scr ns, .int 2, .int 26] = .ok (.lst (xs.map nm)) := hc
  have i0 := ix_lst (xs := xs.map nm) (i := 0) (n := 0) rfl (nget (by omega))
  have i1 := ix_lst (xs := xs.map nm) (i := 1) (n := 1) rfl (nget (by omega))
  have i2 := ix_lst (xs := xs.map nm) (i := 2) (n := 2) rfl (nget (by omega))
  have i3 := ix_lst (xs := xs.map nm) (i := 3) (n := 3) rfl (nget (by omega))
  have i4 := ix_lst (xs := xs.map nm) (i := 4) (n := 4) rfl (nget (by omega))
  obtain ⟨q, eq⟩ : ∃ q, xs.getD 1 0 % 5 = q := ⟨_, rfl⟩
  have e1 : ((xs.getD 1 0 : Nat) : Int) % 5 = (q : Int) := by omega
  obtain ⟨u, eu⟩ : ∃ u : Nat, 1 + xs.getD 0 0 % 6 = u := ⟨_, rfl⟩
  have e2 : (1 : Int) + ((xs.getD 0 0 : Nat) : Int) % 6 = (u : Int) := by omega
  obtain ⟨v, ev⟩ : ∃ v : Nat, 1 + xs.getD 0 0 % 100 = v := ⟨_, rfl⟩
  have e3 : (1 : Int) + ((xs.getD 0 0 : Nat) : Int) % 100 = (v : Int) := by omega
  obtain ⟨f, jf, f1, f2⟩ : ∃ f : Nat, ixD (.lst [.int (u : Int), .int 5, .int 19, .int (v : Int), .int 100]) (.int (q : Int)) = .ok (.int f) ∧ 1 ≤ f ∧ f ≤ 100 := by
    have ql : q = 0 ∨ q = 1 ∨ q = 2 ∨ q = 3 ∨ q = 4 := by omega
    rcases ql with rfl | rfl | rfl | rfl | rfl
    · exact ⟨u, ix_lst (n := 0) rfl rfl, by omega, by omega⟩
    · exact ⟨5, ix_lst (n := 1) rfl rfl, by omega, by omega⟩
    · exact ⟨19, ix_lst (n := 2) rfl rfl, by omega, by omega⟩
    · exact ⟨v, ix_lst (n := 3) rfl rfl, by omega, by omega⟩
    · exact ⟨100, ix_lst (n := 4) rfl rfl, by omega, by omega⟩
  obtain ⟨p, ep⟩ : ∃ p, xs.getD 1 0 / 5 % 4 = p := ⟨_, rfl⟩
  have e4 : ((xs.getD 1 0 : Nat) : Int) / 5 % 4 = (p : Int) := by omega
  obtain ⟨w, ew⟩ : ∃ w, xs.getD 2 0 % (f + 1) = w := ⟨_, rfl⟩
  have wl : w < f + 1 := by rw [← ew]; exact Nat.mod_lt _ (by omega)
  have e5 : ((xs.getD 2 0 : Nat) : Int) % ((f : Int) + 1) = (w : Int) := by rw [← ew, Int.natCast_emod]; rfl
  have m0 : biD .max [.int 0, .int ((f : Int) - 1)] = .ok (.int ((f - 1 : Nat) : Int)) := by
    rw [b_max]
    congr 2
    split <;> omega
  obtain ⟨size, js, s1⟩ : ∃ s : Nat, ixD (.lst [.int (f : Int), .int ((f : Int) + 1), .int ((f - 1 : Nat) : Int), .int (w : Int)]) (.int (p : Int)) = .ok (.int s) ∧ s ≤ 101 := by
    have pl : p = 0 ∨ p = 1 ∨ p = 2 ∨ p = 3 := by omega
    rcases pl with rfl | rfl | rfl | rfl
    · exact ⟨f, ix_lst (n := 0) rfl rfl, by omega⟩
    · exact ⟨f + 1, ix_lst (n := 1) rfl rfl, by omega⟩
    · exact ⟨f - 1, ix_lst (n := 2) rfl rfl, by omega⟩
    · exact ⟨w, ix_lst (n := 3) rfl rfl, by omega⟩
  have sl : slD (.lst (xs.map nm)) (some 5) none = .ok (.lst ((xs.drop 5).map nm)) := by
    show Res.ok (D.lst (cutD (xs.map nm) (some 5) none)) = _
    unfold cutD
    have a1 : HT.sIx (xs.map nm).length 0 (some 5) = 5 := by
      have := HT.sIx_nat (xs.map nm).length 0 5
      rw [List.length_map, hx] at this
      rw [List.length_map, hx]
      exact this
    rw [a1, HT.sIx_none, List.take_of_length_le (by rw [List.length_drop]; exact Nat.le_refl _), List.map_drop]
  obtain ⟨l, hl, el⟩ := digits_run 58 size (xs.drop 5) (by rw [List.length_drop, hx]) s1
  have el : T.prg.call 59 "_law_digits" [.lst ((xs.drop 5).map nm), .int size] = .ok (.str (st l)) := el
  obtain ⟨a, ea⟩ : ∃ a, xs.getD 3 0 % max 1 size = a := ⟨_, rfl⟩
  have al : a < max 1 size := by rw [← ea]; exact Nat.mod_lt _ (by omega)
  have e6 : ((xs.getD 3 0 : Nat) : Int) % ((max 1 size : Nat) : Int) = (a : Int) := by rw [← ea, Int.natCast_emod]
  have m1 : biD .max [.int 1, .int (size : Int)] = .ok (.int (max 1 size : Nat)) := mxN 1 size
  by_cases h0 : 0 < size
  · have k0 : (0 : Int) < (size : Int) := by omega
    by_cases h : ((xs.getD 4 0 : Nat) : Int) % 4 = 1
    · have c1 : slD (.str (st l)) (some 1) none = .ok (.str (st (l.drop 1))) := cut_hi (l := l) (k := 1) (by omega) (by omega)
      have a1 : opD .add (.str (st [48])) (.str (st (l.drop 1))) = .ok (.str (st (48 :: l.drop 1))) := ad_st (by rw [List.length_singleton, List.length_drop]; omega)
      have t := t8_run ns xs hx (48 :: l.drop 1) size (by rw [List.length_cons, List.length_drop]; omega) s1 f a al
      simp only [e_var, e_int, e_str, e_bl, e_non, e_glob, e_op, e_neg, e_not, e_and, e_or, e_cmp, e_chain, e_ife, e_ix, e_sl, e_tup, e_lst, e_call, e_bi, e_isi, es_nil, es_cons, eo_no, eo_so, eS_seq, eS_rng1, eS_rng2, eS_enum, eS_zip, x_set, x_setT, x_setIx, x_aug, x_app, x_ext, x_exp, x_ret, x_retN, x_ife, x_fr, x_wh, x_brk, x_cont, x_pass, xs_nil, xs_cons, at_nx, at_rt, at_bk, at_ct, at_exc, oke, okbe, x_raise, x_tr, tr_nx, tr_rt, fin_exc, sE_comp2, fin_rt, fin_nx, g_zv, g_zo, g_s, o_z, o_s, st_z, st_s, kp_int, kp_non, kp_bl, kp_str, kp_nil, kp_noO, kp_fz, List.cons_append, sE_str, c_eqS, e_find, sd_s, ltk_find, lik_find, ltk_int, ltk_str, ltk_bl, ltk_non, ltk_glob, ltk_op, ltk_neg, ltk_not, ltk_cmp, ltk_chain, ltk_sl, ltk_tup, ltk_lst, ltk_bi, ltk_isi, ltk_comp, ltk_compIf, ltk_comp2, lik_var, lik_int, lik_str, lik_bl, lik_non, lik_glob, lik_neg, lik_not, lik_cmp, lik_chain, lik_isi, fz_noO, ls_d, fr_j, g_rsl, fr_rsl, fz_c, fr_o, fr_v, fr_n, fr_s, kp_lst, no_0, no_n, no_v, fz_nil, lS1, lS2, sE_i, sE_lst, sE_comp, sE_compIf, sE_opl, sE_sl, sE_list, sE_sorted, sE_var, sE_ix, sE_call, sE_non, sE_blv, sE_tp, lt, li, las, lis, ltS, liS, List.append_nil, List.nil_append, ad_int, sb_int, c_lt, c_le, c_gt, c_ge, c_eq, c_ne, c_is, c_no, isN, bl_bl, in_in, b_len, b_lenT, b_lenS, b_int, b_abs, b_tupL, b_tupT, b_lstT, b_lstL, ixT0, ixT1, ixT2, ixT3, is_n_int, is_n_bool, is_n_str, is_n_tuple, is_n_list, is_b_int, is_b_bool, is_b_str, is_b_tuple, is_b_list, is_i_int, is_i_bool, is_i_str, is_i_tuple, is_i_list, is_s_int, is_s_bool, is_s_str, is_s_tuple, is_s_list, is_t_int, is_t_bool, is_t_str, is_t_tuple, is_t_list, is_l_int, is_l_bool, is_l_str, is_l_tuple, is_l_list, itemsD, wp_s, wp_n, asg1, asgT, asgN, asg0, okb, oko, noxo, List.length_cons, List.length_nil, Nat.reduceAdd, Nat.reduceLT, if_true, if_false, Bool.false_eq_true, Bool.true_eq_false, Bool.not_true, Bool.not_false, decide_true, decide_false, reduceIte, hc, i0, md_int (i := ((xs.getD 0 0 : Nat) : Int)) (j := 6) (by decide), e2, md_int (i := ((xs.getD 0 0 : Nat) : Int)) (j := 100) (by decide), e3, i1, md_int (i := ((xs.getD 1 0 : Nat) : Int)) (j := 5) (by decide), e1, jf, m0, i2, md_int (i := ((xs.getD 2 0 : Nat) : Int)) (j := (f : Int) + 1) (by omega), e5, fd_int (i := ((xs.getD 1 0 : Nat) : Int)) (j := 5) (by decide), md_int (i := ((xs.getD 1 0 : Nat) : Int) / 5) (j := 4) (by decide), e4, js, sl, el, i3, m1, md_int (i := ((xs.getD 3 0 : Nat) : Int)) (j := ((max 1 size : Nat) : Int)) (by omega), e6, k0, i4, md_int (i := ((xs.getD 4 0 : Nat) : Int)) (j := 4) (by decide), decide_eq_true h, s_0, c1, a1]
      exact t
    · have t := t8_run ns xs hx l size hl s1 f a al
      simp only [e_var, e_int, e_str, e_bl, e_non, e_glob, e_op, e_neg, e_not, e_and, e_or, e_cmp, e_chain, e_ife, e_ix, e_sl, e_tup, e_lst, e_call, e_bi, e_isi, es_nil, es_cons, eo_no, eo_so, eS_seq, eS_rng1, eS_rng2, eS_enum, eS_zip, x_set, x_setT, x_setIx, x_aug, x_app, x_ext, x_exp, x_ret, x_retN, x_ife, x_fr, x_wh, x_brk, x_cont, x_pass, xs_nil, xs_cons, at_nx, at_rt, at_bk, at_ct, at_exc, oke, okbe, x_raise, x_tr, tr_nx, tr_rt, fin_exc, sE_comp2, fin_rt, fin_nx, g_zv, g_zo, g_s, o_z, o_s, st_z, st_s, kp_int, kp_non, kp_bl, kp_str, kp_nil, kp_noO, kp_fz, List.cons_append, sE_str, c_eqS, e_find, sd_s, ltk_find, lik_find, ltk_int, ltk_str, ltk_bl, ltk_non, ltk_glob, ltk_op, ltk_neg, ltk_not, ltk_cmp, ltk_chain, ltk_sl, ltk_tup, ltk_lst, ltk_bi, ltk_isi, ltk_comp, ltk_compIf, ltk_comp2, lik_var, lik_int, lik_str, lik_bl, lik_non, lik_glob, lik_neg, lik_not, lik_cmp, lik_chain, lik_isi, fz_noO, ls_d, fr_j, g_rsl, fr_rsl, fz_c, fr_o, fr_v, fr_n, fr_s, kp_lst, no_0, no_n, no_v, fz_nil, lS1, lS2, sE_i, sE_lst, sE_comp, sE_compIf, sE_opl, sE_sl, sE_list, sE_sorted, sE_var, sE_ix, sE_call, sE_non, sE_blv, sE_tp, lt, li, las, lis, ltS, liS, List.append_nil, List.nil_append, ad_int, sb_int, c_lt, c_le, c_gt, c_ge, c_eq, c_ne, c_is, c_no, isN, bl_bl, in_in, b_len, b_lenT, b_lenS, b_int, b_abs, b_tupL, b_tupT, b_lstT, b_lstL, ixT0, ixT1, ixT2, ixT3, is_n_int, is_n_bool, is_n_str, is_n_tuple, is_n_list, is_b_int, is_b_bool, is_b_str, is_b_tuple, is_b_list, is_i_int, is_i_bool, is_i_str, is_i_tuple, is_i_list, is_s_int, is_s_bool, is_s_str, is_s_tuple, is_s_list, is_t_int, is_t_bool, is_t_str, is_t_tuple, is_t_list, is_l_int, is_l_bool, is_l_str, is_l_tuple, is_l_list, itemsD, wp_s, wp_n, asg1, asgT, asgN, asg0, okb, oko, noxo, List.length_cons, List.length_nil, Nat.reduceAdd, Nat.reduceLT, if_true, if_false, Bool.false_eq_true, Bool.true_eq_false, Bool.not_true, Bool.not_false, decide_true, decide_false, reduceIte, hc, i0, md_int (i := ((xs.getD 0 0 : Nat) : Int)) (j := 6) (by decide), e2, md_int (i := ((xs.getD 0 0 : Nat) : Int)) (j := 100) (by decide), e3, i1, md_int (i := ((xs.getD 1 0 : Nat) : Int)) (j := 5) (by decide), e1, jf, m0, i2, md_int (i := ((xs.getD 2 0 : Nat) : Int)) (j := (f : Int) + 1) (by omega), e5, fd_int (i := ((xs.getD 1 0 : Nat) : Int)) (j := 5) (by decide), md_int (i := ((xs.getD 1 0 : Nat) : Int) / 5) (j := 4) (by decide), e4, js, sl, el, i3, m1, md_int (i := ((xs.getD 3 0 : Nat) : Int)) (j := ((max 1 size : Nat) : Int)) (by omega), e6, k0, i4, md_int (i := ((xs.getD 4 0 : Nat) : Int)) (j := 4) (by decide), decide_eq_false h]
      exact t
  · have k0 : ¬ (0 : Int) < (size : Int) := by omega
    have t := t8_run ns xs hx l size hl s1 f a al
    simp only [e_var, e_int, e_str, e_bl, e_non, e_glob, e_op, e_neg, e_not, e_and, e_or, e_cmp, e_chain, e_ife, e_ix, e_sl, e_tup, e_lst, e_call, e_bi, e_isi, es_nil, es_cons, eo_no, eo_so, eS_seq, eS_rng1, eS_rng2, eS_enum, eS_zip, x_set, x_setT, x_setIx, x_aug, x_app, x_ext, x_exp, x_ret, x_retN, x_ife, x_fr, x_wh, x_brk, x_cont, x_pass, xs_nil, xs_cons, at_nx, at_rt, at_bk, at_ct, at_exc, oke, okbe, x_raise, x_tr, tr_nx, tr_rt, fin_exc, sE_comp2, fin_rt, fin_nx, g_zv, g_zo, g_s, o_z, o_s, st_z, st_s, kp_int, kp_non, kp_bl, kp_str, kp_nil, kp_noO, kp_fz, List.cons_append, sE_str, c_eqS, e_find, sd_s, ltk_find, lik_find, ltk_int, ltk_str, ltk_bl, ltk_non, ltk_glob, ltk_op, ltk_neg, ltk_not, ltk_cmp, ltk_chain, ltk_sl, ltk_tup, ltk_lst, ltk_bi, ltk_isi, ltk_comp, ltk_compIf, ltk_comp2, lik_var, lik_int, lik_str, lik_bl, lik_non, lik_glob, lik_neg, lik_not, lik_cmp, lik_chain, lik_isi, fz_noO, ls_d, fr_j, g_rsl, fr_rsl, fz_c, fr_o, fr_v, fr_n, fr_s, kp_lst, no_0, no_n, no_v, fz_nil, lS1, lS2, sE_i, sE_lst, sE_comp, sE_compIf, sE_opl, sE_sl, sE_list, sE_sorted, sE_var, sE_ix, sE_call, sE_non, sE_blv, sE_tp, lt, li, las, lis, ltS, liS, List.append_nil, List.nil_append, ad_int, sb_int, c_lt, c_le, c_gt, c_ge, c_eq, c_ne, c_is, c_no, isN, bl_bl, in_in, b_len, b_lenT, b_lenS, b_int, b_abs, b_tupL, b_tupT, b_lstT, b_lstL, ixT0, ixT1, ixT2, ixT3, is_n_int, is_n_bool, is_n_str, is_n_tuple, is_n_list, is_b_int, is_b_bool, is_b_str, is_b_tuple, is_b_list, is_i_int, is_i_bool, is_i_str, is_i_tuple, is_i_list, is_s_int, is_s_bool, is_s_str, is_s_tuple, is_s_list, is_t_int, is_t_bool, is_t_str, is_t_tuple, is_t_list, is_l_int, is_l_bool, is_l_str, is_l_tuple, is_l_list, itemsD, wp_s, wp_n, asg1, asgT, asgN, asg0, okb, oko, noxo, List.length_cons, List.length_nil, Nat.reduceAdd, Nat.reduceLT, if_true, if_false, Bool.false_eq_true, Bool.true_eq_false, Bool.not_true, Bool.not_false, decide_true, decide_false, reduceIte, hc, i0, md_int (i := ((xs.getD 0 0 : Nat) : Int)) (j := 6) (by decide), e2, md_int (i := ((xs.getD 0 0 : Nat) : Int)) (j := 100) (by decide), e3, i1, md_int (i := ((xs.getD 1 0 : Nat) : Int)) (j := 5) (by decide), e1, jf, m0, i2, md_int (i := ((xs.getD 2 0 : Nat) : Int)) (j := (f : Int) + 1) (by omega), e5, fd_int (i := ((xs.getD 1 0 : Nat) : Int)) (j := 5) (by decide), md_int (i := ((xs.getD 1 0 : Nat) : Int) / 5) (j := 4) (by decide), e4, js, sl, el, i3, m1, md_int (i := ((xs.getD 3 0 : Nat) : Int)) (j := ((max 1 size : Nat) : Int)) (by omega), e6, k0]
    exact t
theorem plain (ns : List Int) (h : ns.length ≤ 63) : T.prg.call 60 d_law.name [.scr ns] = .ok (.bl true) := by
  show T.prg.call (59 + 1) "law" [.scr ns] = .ok (.bl true)
  obtain ⟨x0, c0, l0, b0⟩ := draws_run ns 0 7 58 (by decide) (by decide)
  obtain ⟨x1, c1, l1, b1⟩ := draws_run ns 1 7 58 (by decide) (by decide)
  have c0 : T.prg.call 59 "_law_draws" [.scr ns, .int 0, .int 7] = .ok (.lst (x0.map nm)) := c0
  have c1 : T.prg.call 59 "_law_draws" [.scr ns, .int 1, .int 7] = .ok (.lst (x1.map nm)) := c1
  have r0 : T.prg.call 59 "_law_words_right" [.lst (x0.map nm)] = .ok (.bl true) := words_run 52 x0 l0
  have r1 : T.prg.call 59 "_law_numbers_right" [.lst (x1.map nm)] = .ok (.bl true) := numbers_run 52 x1 l1 b1
  have lim : T.prg.call 59 "_law_limits" [] = .ok (.bl true) := limits_run 55
  have t := t2_run ns
  rw [call_law]
  unfold b_law t1_law
  simp only [e_var, e_int, e_str, e_bl, e_non, e_glob, e_op, e_neg, e_not, e_and, e_or, e_cmp, e_chain, e_ife, e_ix, e_sl, e_tup, e_lst, e_call, e_bi, e_isi, es_nil, es_cons, eo_no, eo_so, eS_seq, eS_rng1, eS_rng2, eS_enum, eS_zip, x_set, x_setT, x_setIx, x_aug, x_app, x_ext, x_exp, x_ret, x_retN, x_ife, x_fr, x_wh, x_brk, x_cont, x_pass, xs_nil, xs_cons, at_nx, at_rt, at_bk, at_ct, at_exc, oke, okbe, x_raise, x_tr, tr_nx, tr_rt, fin_exc, sE_comp2, fin_rt, fin_nx, g_zv, g_zo, g_s, o_z, o_s, st_z, st_s, kp_int, kp_non, kp_bl, kp_str, kp_nil, kp_noO, kp_fz, List.cons_append, sE_str, c_eqS, e_find, sd_s, ltk_find, lik_find, ltk_int, ltk_str, ltk_bl, ltk_non, ltk_glob, ltk_op, ltk_neg, ltk_not, ltk_cmp, ltk_chain, ltk_sl, ltk_tup, ltk_lst, ltk_bi, ltk_isi, ltk_comp, ltk_compIf, ltk_comp2, lik_var, lik_int, lik_str, lik_bl, lik_non, lik_glob, lik_neg, lik_not, lik_cmp, lik_chain, lik_isi, fz_noO, ls_d, fr_j, g_rsl, fr_rsl, fz_c, fr_o, fr_v, fr_n, fr_s, kp_lst, no_0, no_n, no_v, fz_nil, lS1, lS2, sE_i, sE_lst, sE_comp, sE_compIf, sE_opl, sE_sl, sE_list, sE_sorted, sE_var, sE_ix, sE_call, sE_non, sE_blv, sE_tp, lt, li, las, lis, ltS, liS, List.append_nil, List.nil_append, ad_int, sb_int, c_lt, c_le, c_gt, c_ge, c_eq, c_ne, c_is, c_no, isN, bl_bl, in_in, b_len, b_lenT, b_lenS, b_int, b_abs, b_tupL, b_tupT, b_lstT, b_lstL, ixT0, ixT1, ixT2, ixT3, is_n_int, is_n_bool, is_n_str, is_n_tuple, is_n_list, is_b_int, is_b_bool, is_b_str, is_b_tuple, is_b_list, is_i_int, is_i_bool, is_i_str, is_i_tuple, is_i_list, is_s_int, is_s_bool, is_s_str, is_s_tuple, is_s_list, is_t_int, is_t_bool, is_t_str, is_t_tuple, is_t_list, is_l_int, is_l_bool, is_l_str, is_l_tuple, is_l_list, itemsD, wp_s, wp_n, asg1, asgT, asgN, asg0, okb, oko, noxo, List.length_cons, List.length_nil, Nat.reduceAdd, Nat.reduceLT, if_true, if_false, Bool.false_eq_true, Bool.true_eq_false, Bool.not_true, Bool.not_false, decide_true, decide_false, reduceIte, lim, c0, c1, r0, r1]
  exact t
end K01
open PySem PySem.W PySem.Calls PyProof.Rows
theorem PySem.Challenge.cw_offerbook_k01_words_holds : PySem.Challenge.rw_offerbook_k01_words.Holds := by
  w_on; o_law
  refine HandSHeadRun.head_any (r := K01.R) (q := K01.qv) (H := K01.T.hk 4) (ob := K01.T.ob 4) (M := 4000) (loose := K01.loose) (d := HandSHeadRun.topDef (K01.R).prog 52) (kwd := []) (K01.T.ob_eq 4)
    (by kernel_rfl) (fun s => by kernel_rfl) K01.run (by kernel_rfl) (by kernel_rfl) (by kernel_rfl) (by rfl) (by first | assumption | decide +kernel) (by decide +kernel) ⟨rfl, rfl, rfl, rfl, rfl, by decide +kernel⟩ ?hw ?hc
  case hw => w_witness2
  case hc =>
    exact PyI.law_walk (l := PySem.Challenge.rw_offerbook_k01_words) (T := K01.T) (n := 60) (m := 4) (dl := K01.d_law) rfl (by kernel_rfl) ⟨by decide, by decide, by decide⟩ K01.xfine K01.fine K01.nds (by unfold K01.T; simp) (by kernel_rfl) rfl K01.plain
