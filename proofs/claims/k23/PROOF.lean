import PyProof.Rows.All
import Wide.All
import OpenK.AllK
import Wide.FinOn
import HandS.ForMost
import HandS.Exc
import HandS.ExcOwn
import HandS.ExcInit
import HandS.Words
import HandS.Deep
import KE.KDictKeyed
import KE.KeyNested
import PySem.Str
import HandS.TupMul
import HandS.Style
import KE.SortData
import HandS.HeadWalk
import HandS.Dict
import HandS.Flow
import HandS.Conv
import HandS.SortInts
import HandS.Star
import PyProof.DictMoreH
import HandS.DictComp
import KE.LtData
import HandS.TupAny
import HandS.More
import HandS.OwnEq
import HandS.Small
import HandS.IsInst
import KE.KDictWalk
import KE.GoesEnum
import KE.GoesMore
import KE.GoesZip
import PyProof.Transfer
import KE.DataMinMax
import HandS.Defaults
import HandS.HeadHook2
import HandS.HeadEnd
import HandS.Head0
import HandS.Head1
import HandS.Head2
import PyProof.TableCode
import PySem.Challenge.RW_bitbundles_k23_question_algebra
section
set_option linter.all false
/-! The pure interpreter: data D, results Res, the resolved syntax E, It, S, and what it computes. -/
namespace BB
abbrev Str := PySem.Str
/-- data, as trees -/
inductive D where
  | non | bl (b : Bool) | int (i : Int) | str (x : Str)
  | tup (l : List D) | lst (l : List D) | dct (l : List (D × D))
  | ins (c : Nat) (fs : List (Nat × D))
  /-- an instance that its __init__ still works at -/
  | me (c : Nat) (fs : List (Nat × D))
  | draw
  deriving Inhabited
abbrev Fs := List (Nat × D)
/-- a result: a value; an exception of a class with its fields; a draw of a number below n; nothing is said -/
inductive Res (α : Type) where
  | ok (a : α) | raise (c : Nat) (fs : Fs) | ask (n : Nat) (k : Nat → Res α) | stuck
namespace Res
def bind {α β : Type} : Res α → (α → Res β) → Res β
  | .ok a, f => f a
  | .raise c x, _ => .raise c x
  | .ask n k, f => .ask n fun i => (k i).bind f
  | .stuck, _ => .stuck
instance : Monad Res where
  pure := .ok
  bind := Res.bind
/-- all ends fulfil Q, all exceptions R -/
def wp {α : Type} : Res α → (α → Prop) → (Nat → Fs → Prop) → Prop
  | .ok a, Q, _ => Q a
  | .raise c x, _, R => R c x
  | .ask n k, Q, R => 0 < n ∧ ∀ i, i < n → (k i).wp Q R
  | .stuck, _, _ => False
/-- the same, by trying all draws -/
def every {α : Type} (p : α → Bool) : Res α → Bool
  | .ok a => p a
  | .ask n k => Nat.blt 0 n && Nat.all n fun i _ => (k i).every p
  | _ => false
def ofOpt {α : Type} : Option α → Res α
  | some a => .ok a
  | none => .stuck
end Res
/-! ### what data are worth -/
def b2i (b : Bool) : Int := if b then 1 else 0
def lookBy (f : D → Bool) : List (D × D) → Option D
  | [] => none
  | (k, v) :: m => if f k then some v else lookBy f m
mutual
/-- == -/
def eqv : D → D → Bool
  | .non, .non => true
  | .bl a, .bl b => a == b
  | .bl a, .int j => b2i a == j
  | .int i, .bl b => i == b2i b
  | .int i, .int j => i == j
  | .str x, .str y => x == y
  | .tup l, .tup m => eqvs l m
  | .lst l, .lst m => eqvs l m
  | .dct l, .dct m => l.length == m.length && eqvd l m
  | _, _ => false
def eqvs : List D → List D → Bool
  | [], [] => true
  | a :: l, b :: m => eqv a b && eqvs l m
  | _, _ => false
def eqvd : List (D × D) → List (D × D) → Bool
  | [], _ => true
  | (k, v) :: l, m => (match lookBy (fun q => eqv k q) m with | some x => eqv v x | none => false) && eqvd l m
end
mutual
/-- nothing but None, truths, numbers, texts, tuples and lists, not too deep -/
def pdn : Nat → D → Bool
  | _, .non => true
  | _, .bl _ => true
  | _, .int _ => true
  | _, .str x => x.cps.all (fun c => Nat.blt c 1114112) && Nat.ble x.cps.size 16777216
  | n + 1, .tup l => pdns n l
  | n + 1, .lst l => pdns n l
  | _, _ => false
def pdns : Nat → List D → Bool
  | _, [] => true
  | n, d :: l => pdn n d && pdns n l
end
def plain (d : D) : Bool := pdn 60 d
def plains (l : List D) : Bool := pdns 59 l
/-- text order -/
def strLt (x y : Str) : Bool := decide (x.cps.toList < y.cps.toList)
mutual
/-- the two can be compared, place by place -/
def alikeD : D → D → Bool
  | .non, .non => true
  | .bl _, .bl _ => true
  | .int _, .int _ => true
  | .str _, .str _ => true
  | .lst l, .lst m => alikeDs l m
  | .tup l, .tup m => alikeDs l m
  | _, _ => false
def alikeDs : List D → List D → Bool
  | a :: l, b :: m => alikeD a b && alikeDs l m
  | [], _ => true
  | _ :: _, [] => true
end
mutual
/-- < of such -/
def ltB : D → D → Bool
  | .int i, .int j => decide (i < j)
  | .bl a, .bl b => !a && b
  | .str x, .str y => strLt x y
  | .tup l, .tup m => ltBs l m
  | .lst l, .lst m => ltBs l m
  | _, _ => false
def ltBs : List D → List D → Bool
  | [], [] => false
  | [], _ :: _ => true
  | _ :: _, [] => false
  | a :: l, b :: m => if eqv a b then ltBs l m else ltB a b
end
def isNon : D → Bool
  | .non => true
  | _ => false
/-- <; none where Python raises, or nothing is said -/
def lt (a b : D) : Option Bool := if alikeD a b && plain a && plain b && !isNon a then some (ltB a b) else none
def big : Nat := 16777216
def truth : D → Option Bool
  | .non => some false
  | .bl b => some b
  | .int i => some (i != 0)
  | .str x => if Nat.ble x.cps.size big then some (x.cps.size != 0) else none
  | .tup l => some (!l.isEmpty)
  | .lst l => some (!l.isEmpty)
  | .dct l => some (!l.isEmpty)
  | _ => none
/-- dicts -/
def dget : List (D × D) → D → Option D
  | [], _ => none
  | (k, v) :: l, q => if eqv k q then some v else dget l q
def dput : List (D × D) → D → D → List (D × D)
  | [], q, x => [(q, x)]
  | (k, v) :: l, q, x => if eqv k q then (k, x) :: l else (k, v) :: dput l q x
def puts (l : List (D × D)) (m : List (D × D)) : List (D × D) := m.foldl (fun a p => dput a p.1 p.2) l
/-- what may be a key -/
def atomKey : D → Bool
  | .int _ => true
  | .str _ => true
  | _ => false
mutual
def deepKey : Nat → D → Bool
  | _, .non => true
  | _, .bl _ => true
  | _, .int _ => true
  | _, .str _ => true
  | 0, .tup _ => false
  | n + 1, .tup l => deepKeys n l
  | _, _ => false
def deepKeys : Nat → List D → Bool
  | _, [] => true
  | n, d :: l => deepKey n d && deepKeys n l
end
def tupKey : D → Bool
  | .tup l => deepKeys 7 l
  | _ => false
/-- all keys are intsD and texts, or all are tuples -/
def keysOk (l : List (D × D)) : Bool := l.all (fun p => atomKey p.1) || l.all (fun p => tupKey p.1)
def kinOk (l : List (D × D)) (q : D) : Bool := match l with
  | [] => atomKey q || tupKey q
  | (k, _) :: _ => if atomKey k then atomKey q else tupKey q
/-! ### the resolved syntax -/
inductive Bop where
  | add | sub | mul | fdiv | mod | pow
inductive Cop where
  | eq | ne | lt | le | gt | ge | isN | notN | isin | notin
inductive Ty where
  | int | bool | str | lst | tup | dct | cls (c : Nat)
/-- built-ins of one or two values -/
inductive Bi where
  | len | bool | int | min2 | max2
/-- methods of built-in data that leave it as it is -/
inductive Bm where
  | index | count | get1 | get2
/-- built-ins of what is walked -/
inductive Bw where
  | list | tuple | sorted | sum | min | max | all | any | dict
inductive Pat where
  | nm (i : Nat) | tup (l : List Pat)
mutual
inductive E where
  | bad
  | var (i : Nat) | cst (d : D)
  | tup (es : Es) | lst (es : Es) | dct (kvs : Ks)
  | bin (op : Bop) (a b : E) | neg (a : E) | not (a : E) | and (a b : E) | or (a b : E) | ite (c a b : E)
  | cmp (op : Cop) (a b : E) | cmp2 (op op2 : Cop) (a b c : E)
  | idx (a i : E) | slc (a : E) (lo hi : Oe) | rev (a : E)
  | att (a : E) (f : Nat)
  | call (f : Nat) (as : Es) | mk (c : Nat) (as : Es) | meth (a : E) (m : Nat) (as : Es)
  | bm (m : Bm) (a : E) (as : Es)
  | bi (b : Bi) (as : Es) | bw (b : Bw) (it : It) | isi (a : E) (ts : List Ty)
  | lc (e : E) (p : Pat) (it : It) (cs : Es)
  | lc2 (e : E) (p : Pat) (it : It) (cs : Es) (p2 : Pat) (it2 : It) (cs2 : Es)
  | dc (k v : E) (p : Pat) (it : It) (cs : Es)
  | take (a n : E)
inductive Es where
  | nil | cons (star : Bool) (e : E) (es : Es)
inductive Ks where
  | nil | cons (k v : E) (r : Ks)
inductive Oe where
  | none | some (e : E)
inductive It where
  | val (e : E) | rng1 (a : E) | rng2 (a b : E) | rng3 (a b c : E) | enum (it : It) | zip2 (a b : It) | zip3 (a b c : It) | items (e : E) | values (e : E)
end
mutual
inductive S where
  | bad
  | asg (i : Nat) (own : Bool) (e : E) | asgP (p : Pat) (e : E) | par (is : List (Nat × Bool)) (es : Es)
  | aug (i : Nat) (op : Bop) (e : E)
  | setI (i : Nat) (k e : E) | augI (i : Nat) (k : E) (op : Bop) (e : E) | setS (i : Nat) (lo hi : Oe) (e : E)
  | app (i : Nat) (e : E) | upd (i : Nat) (e : E)
  | setF (i : Nat) (f : Nat) (e : E)
  | expr (e : E) | ret (e : E) | retN | pass | brk | cont
  | ite (c : E) (a b : Ss) | for_ (p : Pat) (it : It) (body : Ss) | while_ (c : E) (body : Ss)
  | raise (c : Nat) (as : Es)
  | try_ (body : Ss) (hs : Hs)
inductive Ss where
  | nil | cons (s : S) (r : Ss)
inductive Hs where
  | nil | cons (cs : List Nat) (nm : Option Nat) (body : Ss) (r : Hs)
end
/-! ### which owned names an expression hands on -/
mutual
def lk : E → List Nat
  | .var i => [i]
  | .bad => [] | .cst _ => []
  | .tup es => lks es | .lst es => lks es | .dct kvs => lkK kvs
  | .bin _ a b => lkB a ++ lkB b | .neg a => lkB a | .not a => lkB a | .and a b => lk a ++ lk b | .or a b => lk a ++ lk b | .ite c a b => lkB c ++ lk a ++ lk b
  | .cmp _ a b => lkB a ++ lkB b | .cmp2 _ _ a b c => lkB a ++ lkB b ++ lkB c
  | .idx a i => lkB a ++ lkB i | .slc a lo hi => lkB a ++ lkO lo ++ lkO hi | .rev a => lkB a
  | .att a _ => lkB a
  | .call _ as => lks as | .mk _ as => lks as | .meth a _ as => lk a ++ lks as
  | .bm m a as => lkB a ++ (match m with | .get2 => lks as | _ => lksB as)
  | .bi b as => match b with
    | .min2 => lks as | .max2 => lks as | _ => lksB as
  | .bw _ it => lkI it | .isi a _ => lkB a
  | .lc e _ it cs => lk e ++ lkI it ++ lksB cs
  | .lc2 e _ it cs _ it2 cs2 => lk e ++ lkI it ++ lksB cs ++ lkF it2 ++ lksB cs2
  | .dc k v _ it cs => lk k ++ lk v ++ lkI it ++ lksB cs
  | .take a n => lk a ++ lkB n
def lkB : E → List Nat
  | .var _ => []
  | .bad => [] | .cst _ => []
  | .tup es => lks es | .lst es => lks es | .dct kvs => lkK kvs
  | .bin _ a b => lkB a ++ lkB b | .neg a => lkB a | .not a => lkB a | .and a b => lkB a ++ lkB b | .or a b => lkB a ++ lkB b | .ite c a b => lkB c ++ lkB a ++ lkB b
  | .cmp _ a b => lkB a ++ lkB b | .cmp2 _ _ a b c => lkB a ++ lkB b ++ lkB c
  | .idx a i => lkB a ++ lkB i | .slc a lo hi => lkB a ++ lkO lo ++ lkO hi | .rev a => lkB a
  | .att a _ => lkB a
  | .call _ as => lks as | .mk _ as => lks as | .meth a _ as => lk a ++ lks as
  | .bm m a as => lkB a ++ (match m with | .get2 => lks as | _ => lksB as)
  | .bi b as => match b with
    | .min2 => lks as | .max2 => lks as | _ => lksB as
  | .bw _ it => lkI it | .isi a _ => lkB a
  | .lc e _ it cs => lk e ++ lkI it ++ lksB cs
  | .lc2 e _ it cs _ it2 cs2 => lk e ++ lkI it ++ lksB cs ++ lkF it2 ++ lksB cs2
  | .dc k v _ it cs => lk k ++ lk v ++ lkI it ++ lksB cs
  | .take a n => lk a ++ lkB n
def lks : Es → List Nat
  | .nil => []
  | .cons s e es => (if s then lkB e else lk e) ++ lks es
def lksB : Es → List Nat
  | .nil => []
  | .cons _ e es => lkB e ++ lksB es
def lkK : Ks → List Nat
  | .nil => []
  | .cons k v r => lk k ++ lk v ++ lkK r
def lkO : Oe → List Nat
  | .none => []
  | .some e => lkB e
def lkI : It → List Nat
  | .val e => lkB e | .rng1 a => lkB a | .rng2 a b => lkB a ++ lkB b | .rng3 a b c => lkB a ++ lkB b ++ lkB c
  | .enum it => lkI it | .zip2 a b => lkI a ++ lkI b | .zip3 a b c => lkI a ++ lkI b ++ lkI c | .items e => lkB e | .values e => lkB e
/-- what a for walks is held while it runs -/
def lkF : It → List Nat
  | .val e => lk e | .rng1 a => lkB a | .rng2 a b => lkB a ++ lkB b | .rng3 a b c => lkB a ++ lkB b ++ lkB c
  | .enum it => lkF it | .zip2 a b => lkF a ++ lkF b | .zip3 a b c => lkF a ++ lkF b ++ lkF c | .items e => lk e | .values e => lk e
end

/-- what a statement hands on -/
def lkS : S → List Nat
  | .asg _ _ e => lk e | .asgP _ e => lk e | .par _ es => lks es
  | .aug _ _ e => lkB e | .setI _ k e => lk e ++ lk k | .augI _ k _ e => lk k ++ lk e | .setS _ lo hi e => lkB e ++ lkO lo ++ lkO hi
  | .app _ e => lk e | .upd _ e => lk e | .setF _ _ e => lk e | .expr e => lk e | .ret e => lk e
  | .ite c _ _ => lkB c | .for_ _ it _ => lkF it | .while_ c _ => lkB c | .raise _ as => lks as
  | .bad => [] | .retN => [] | .pass => [] | .brk => [] | .cont => [] | .try_ _ _ => []
/-! ### operators -/
def smallI (i : Int) : Bool := decide (i.natAbs < 18446744073709551616)
def rep (l : List D) : Nat → List D
  | 0 => []
  | n + 1 => l ++ rep l n
def binop : Bop → D → D → Res D
  | .add, .int i, .int j => .ok (.int (i + j))
  | .add, .lst l, .lst m => if l.length + m.length ≤ big then .ok (.lst (l ++ m)) else .stuck
  | .add, .tup l, .tup m => if l.length + m.length ≤ big then .ok (.tup (l ++ m)) else .stuck
  | .sub, .int i, .int j => .ok (.int (i - j))
  | .mul, .int i, .int j => if smallI i || smallI j then .ok (.int (i * j)) else .stuck
  | .mul, .lst l, .int j => if j.natAbs ≤ big ∧ l.length * j.toNat ≤ big then .ok (.lst (rep l j.toNat)) else .stuck
  | .mul, .tup l, .int j => if 2 ≤ j ∧ j ≤ 1000 ∧ l.length ≤ 1000 ∧ l.length ≠ 0 then .ok (.tup (rep l j.toNat)) else .stuck
  | .fdiv, .int i, .int j => if j ≠ 0 ∧ j.natAbs < 1073741824 then .ok (.int (i.fdiv j)) else .stuck
  | .mod, .int i, .int j => if j ≠ 0 then .ok (.int (i.fmod j)) else .stuck
  | .pow, .int i, .int j => if 0 ≤ j ∧ j ≤ 1000000 ∧ i.natAbs < 18446744073709551616 then .ok (.int (i ^ j.toNat)) else .stuck
  | _, _, _ => .stuck
def clampI (n : Nat) (i : Int) : Nat := if i < 0 then (i + n).toNat else min i.toNat n
def smallIx (i : Int) : Bool := decide (i.natAbs < 4611686018427387904)
def cutL (l : List D) (lo hi : Option Int) : List D :=
  (l.take (match hi with | some j => clampI l.length j | none => l.length)).drop (match lo with | some i => clampI l.length i | none => 0)
def getI (l : List D) (i : Int) : Option D := if 0 ≤ i then l[i.toNat]? else if -(l.length : Int) ≤ i then l[(i + l.length).toNat]? else none
def oneSign (x : Str) (i : Nat) : Option Str := (x.cps[i]?).map fun c => ⟨#[c]⟩
def index : D → D → Res D
  | .lst l, .int i => Res.ofOpt (getI l i)
  | .tup l, .int i => Res.ofOpt (getI l i)
  | .dct l, k => if kinOk l k then Res.ofOpt (dget l k) else .stuck
  | .str x, .int i => if 0 ≤ i ∧ x.cps.size ≤ big then Res.ofOpt ((oneSign x i.toNat).map .str) else .stuck
  | _, _ => .stuck
def sliceI : D → Option Int → Option Int → Res D
  | .lst l, a, b => .ok (.lst (cutL l a b))
  | .tup l, a, b => .ok (.tup (cutL l a b))
  | _, _, _ => .stuck
def revd : D → Res D
  | .lst l => .ok (.lst l.reverse)
  | _ => .stuck
def isin (d : D) : D → Res Bool
  | .lst l => if plain d && plains l then .ok (l.any fun z => eqv z d) else .stuck
  | .tup l => if plain d && plains l then .ok (l.any fun z => eqv z d) else .stuck
  | .dct l => if kinOk l d then .ok (dget l d).isSome else .stuck
  | .str y => match d with
    | .str x => if x.cps.size == 1 then .ok (y.cps.toList.any fun c => c == x.cps.getD 0 0) else .stuck
    | _ => .stuck
  | _ => .stuck
def isTy : Ty → D → Bool
  | .int, .int _ => true | .int, .bl _ => true
  | .bool, .bl _ => true
  | .str, .str _ => true
  | .lst, .lst _ => true
  | .tup, .tup _ => true
  | .dct, .dct _ => true
  | .cls c, .ins k _ => c == k
  | _, _ => false
def ofB (o : Option Bool) : Res D := match o with | some b => .ok (.bl b) | none => .stuck
def cmpop : Cop → D → D → Res D
  | .eq, a, b => if plain a && plain b then .ok (.bl (eqv a b)) else .stuck
  | .ne, a, b => if plain a && plain b then .ok (.bl (!eqv a b)) else .stuck
  | .lt, a, b => ofB (lt a b)
  | .gt, .int i, .int j => .ok (.bl (decide (j < i)))
  | .le, .int i, .int j => .ok (.bl (decide (i ≤ j)))
  | .ge, .int i, .int j => .ok (.bl (decide (j ≤ i)))
  | .isN, a, .non => .ok (.bl (match a with | .non => true | _ => false))
  | .notN, a, .non => .ok (.bl (match a with | .non => false | _ => true))
  | .isin, a, b => (isin a b).bind fun x => .ok (.bl x)
  | .notin, a, b => (isin a b).bind fun x => .ok (.bl !x)
  | _, _, _ => .stuck
def lenD : D → Option Nat
  | .lst l => some l.length | .tup l => some l.length | .dct l => some l.length | .str x => if Nat.ble x.cps.size big then some x.cps.size else none
  | _ => none
def intsD : List D → Option (List Int)
  | [] => some []
  | .int i :: l => (intsD l).map (i :: ·)
  | _ => none
def bls : List D → Option (List Bool)
  | [] => some []
  | .bl b :: l => (bls l).map (b :: ·)
  | _ => none
/-- the least, the first of equal ones -/
def leastD : D → List D → D
  | a, [] => a
  | a, b :: l => if ltB b a then leastD b l else leastD a l
def mostD : D → List D → D
  | a, [] => a
  | a, b :: l => if ltB a b then mostD b l else mostD a l
/-- stable insertion, from the right -/
def insD (a : D) : List D → List D
  | [] => [a]
  | b :: l => if ltB b a then b :: insD a l else a :: b :: l
def sortD : List D → List D
  | [] => []
  | a :: l => insD a (sortD l)
def isTup1 : D → Bool
  | .tup (_ :: _) => true
  | _ => false
def isTup : D → Bool
  | .tup _ => true
  | _ => false
/-- what can be sorted: any two alike -/
def sortable (l : List D) : Bool := l.all (fun a => plain a && l.all fun b => alikeD a b) && (l.all isTup1 || l.all fun d => !isNon d && !isTup d)
def pairsD : List D → Option (List (D × D))
  | [] => some []
  | .tup [a, b] :: l => (pairsD l).map ((a, b) :: ·)
  | _ => none
def walkD : Bw → List D → Res D
  | .list, l => .ok (.lst l)
  | .tuple, l => .ok (.tup l)
  | .sorted, l => if sortable l then .ok (.lst (sortD l)) else .stuck
  | .sum, l => match intsD l with | some ns => .ok (.int ns.sum) | none => .stuck
  | .min, a :: l => if sortable (a :: l) then .ok (leastD a l) else .stuck
  | .max, a :: l => if sortable (a :: l) then .ok (mostD a l) else .stuck
  | .all, l => match bls l with | some bs => .ok (.bl (bs.all id)) | none => .stuck
  | .any, l => match bls l with | some bs => .ok (.bl (bs.any id)) | none => .stuck
  | .dict, l => match pairsD l with | some ps => if ps.all (fun p => atomKey p.1) then .ok (.dct (puts [] ps)) else .stuck | none => .stuck
  | _, _ => .stuck
/-- what they walk -/
def bwD : Bw → D → Option (List D)
  | .list, .lst l => some l
  | .list, .tup l => some l
  | .list, .dct l => some (l.map (·.1))
  | .tuple, .lst l => some l
  | .tuple, .tup l => some l
  | .sorted, .lst l => some l
  | .sorted, .dct l => some (l.map (·.1))
  | .sum, .lst l => some l
  | .min, .lst l => some l
  | .max, .lst l => some l
  | .all, .lst l => some l
  | .any, .lst l => some l
  | .dict, .lst l => some l
  | _, _ => none
def bwIt : Bw → It → Bool
  | .list, .rng1 _ => true
  | .list, .rng2 _ _ => true
  | .tuple, .rng1 _ => true
  | .tuple, .rng2 _ _ => true
  | _, _ => false
def biop : Bi → List D → Res D
  | .len, [a] => match lenD a with | some n => .ok (.int n) | none => .stuck
  | .bool, [.int i] => .ok (.bl (i != 0))
  | .bool, [.bl b] => .ok (.bl b)
  | .bool, [.lst l] => .ok (.bl (!l.isEmpty))
  | .int, [.int i] => .ok (.int i)
  | .int, [.bl b] => .ok (.int (b2i b))
  | .min2, [.int i, .int j] => .ok (.int (if j < i then j else i))
  | .max2, [.int i, .int j] => .ok (.int (if j > i then j else i))
  | _, _ => .stuck
def firstAt (d : D) : List D → Nat → Option Nat
  | [], _ => none
  | a :: l, n => if eqv a d then some n else firstAt d l (n + 1)
def bmop : Bm → D → List D → Res D
  | .index, .lst l, [d] => if plain d && plains l then Res.ofOpt ((firstAt d l 0).map fun n => .int n) else .stuck
  | .index, .tup l, [d] => if plain d && plains l then Res.ofOpt ((firstAt d l 0).map fun n => .int n) else .stuck
  | .count, .lst l, [d] => if plain d && plains l then .ok (.int ((l.filter fun z => eqv z d).length)) else .stuck
  | .get1, .dct l, [k] => if kinOk l k then .ok ((dget l k).getD .non) else .stuck
  | .get2, .dct l, [k, d] => if kinOk l k then .ok ((dget l k).getD d) else .stuck
  | _, _, _ => .stuck
def bmChk : Bm → D → Bool
  | .index, .lst _ => true
  | .get1, .dct _ => true
  | .get2, .dct _ => true
  | _, _ => false
def items : D → Option (List D)
  | .lst l => some l
  | .tup l => some l
  | .dct l => some (l.map (·.1))
  | .str x => some (x.cps.toList.map fun c => .str ⟨#[c]⟩)
  | _ => none
/-- what enumerate and zip draw from -/
def srcD : D → Option (List D)
  | .lst l => some l
  | .tup l => some l
  | _ => none
def rng (lo : Int) : Nat → List D
  | 0 => []
  | n + 1 => .int lo :: rng (lo + 1) n
def rngS (lo st : Int) : Nat → List D
  | 0 => []
  | n + 1 => .int lo :: rngS (lo + st) st n
def enumD : Int → List D → List D
  | _, [] => []
  | i, d :: l => .tup [.int i, d] :: enumD (i + 1) l
def zipD : List D → List D → List D
  | a :: l, b :: m => .tup [a, b] :: zipD l m
  | _, _ => []
def zipD3 : List D → List D → List D → List D
  | a :: l, b :: m, c :: n => .tup [a, b, c] :: zipD3 l m n
  | _, _, _ => []
abbrev Env := List (Option D)
/-- some slots forgotten -/
def wipeE : List Nat → Env → Env
  | [], ρ => ρ
  | v :: vs, ρ => (wipeE vs ρ).set v none
mutual
def Pat.bind : Pat → D → Env → Option Env
  | .nm i, d, ρ => if i < ρ.length then some (ρ.set i (some d)) else none
  | .tup ps, .tup ds, ρ => Pat.binds ps ds ρ
  | .tup _, _, _ => none
def Pat.binds : List Pat → List D → Env → Option Env
  | [], [], ρ => some ρ
  | p :: ps, d :: ds, ρ => match Pat.bind p d ρ with | some ρ' => Pat.binds ps ds ρ' | none => none
  | _, _, _ => none
end
mutual
def Pat.names : Pat → List Nat
  | .nm i => [i]
  | .tup ps => Pat.namess ps
def Pat.namess : List Pat → List Nat
  | [] => []
  | p :: ps => p.names ++ Pat.namess ps
end
/-! ### the interpreter -/
structure Cl where
  init : Nat
  ms : List (Nat × Nat)
  eq : Option Nat := none
  bool : Option Nat := none
  deriving Inhabited
structure Fn where
  np : Nat
  ns : Nat
  body : Ss
  dfl : List D := []
/-- the arguments, with those that are left out -/
def Fn.fill (F : Fn) (as : List D) : List D := as ++ F.dfl.drop (F.dfl.length - (F.np - as.length))
structure Tb where
  fns : List Fn
  cls : List Cl
/-- f is no method of the class c -/
def Tb.noMeth (T : Tb) (c f : Nat) : Bool := match T.cls[c]? with
  | some C => (C.ms.lookup f).isNone
  | none => false
/-- one behind another, what each gives joined -/
def lcs : List D → (D → Res (List D)) → Res (List D)
  | [], _ => .ok []
  | d :: r, f => (f d).bind fun a => (lcs r f).bind fun b => .ok (a ++ b)
def kvOf : List D → List (D × D)
  | .tup [a, b] :: l => (a, b) :: kvOf l
  | _ => []
def Res.all? {α : Type} (r : Res α) : Res α := match r with | .raise _ _ => .stuck | x => x
/-- a raise within a comprehension is not told -/
def calm {α : Type} : Res α → Res α
  | .ok a => .ok a
  | .raise _ _ => .stuck
  | .ask n k => .ask n fun i => calm (k i)
  | .stuck => .stuck
abbrev Cal := Nat → List D → Res D
abbrev Mak := Nat → List D → Res D
section
variable (T : Tb) (cl : Cal) (mk : Mak)
/-- isinstance is told -/
def isiOk (a : D) : Bool := match a with
  | .draw => false
  | .ins c _ => Nat.blt c T.cls.length
  | .me _ _ => false
  | _ => true
/-- == of anything -/
def eqR (a b : D) : Res Bool :=
  if plain a && plain b then .ok (eqv a b) else
    match a, b with
    | .ins c _, .ins c2 _ => match (T.cls[c]?).bind Cl.eq with
      | some f => if Nat.blt c2 T.cls.length then match cl f [a, b] with | .ok (.bl x) => .ok x | _ => .stuck else .stuck
      | none => .stuck
    | _, _ => .stuck
def cmpR (op : Cop) (a b : D) : Res D := match op with
  | .eq => (eqR T cl a b).bind fun x => .ok (.bl x)
  | .ne => (eqR T cl a b).bind fun x => .ok (.bl !x)
  | _ => cmpop op a b
/-- the truth of a value -/
def truR (a : D) : Res Bool := match a with
  | .ins c _ => match T.cls[c]? with
    | none => .stuck
    | some k => match k.bool with
      | some f => match cl f [a] with | .ok (.bl x) => .ok x | _ => .stuck
      | none => .ok true
  | _ => Res.ofOpt (truth a)
def methR (a : D) (m : Nat) : Res Nat := match a with
  | .ins c _ => match ((T.cls[c]?).map Cl.ms).bind (List.lookup m) with
    | some f => .ok f
    | none => .stuck
  | _ => .stuck
def biR (b : Bi) (as : List D) : Res D := biop b as
def starR (st : Bool) (x : D) : Res (List D) := if st then (match x with | .lst m => .ok m | .tup m => .ok m | _ => .stuck) else .ok [x]
mutual
def ev : E → Env → Res D
  | .bad, _ => .stuck
  | .var i, ρ => match ρ[i]? with | some (some d) => .ok d | _ => .stuck
  | .cst d, _ => .ok d
  | .tup es, ρ => (evs es ρ).bind fun l => if l.length ≤ big then .ok (.tup l) else .stuck
  | .lst es, ρ => (evs es ρ).bind fun l => if l.length ≤ big then .ok (.lst l) else .stuck
  | .dct kvs, ρ => (evkv kvs ρ).bind fun ps => if keysOk ps && decide (ps.length ≤ 15) then .ok (.dct (puts [] ps)) else .stuck
  | .bin op a b, ρ => (ev a ρ).bind fun x => (ev b ρ).bind fun y => binop op x y
  | .neg a, ρ => (ev a ρ).bind fun x => match x with | .int i => .ok (.int (-i)) | _ => .stuck
  | .not a, ρ => (ev a ρ).bind fun x => (truR T cl x).bind fun b => .ok (.bl !b)
  | .and a b, ρ => (ev a ρ).bind fun x => (truR T cl x).bind fun t => if t then ev b ρ else .ok x
  | .or a b, ρ => (ev a ρ).bind fun x => (truR T cl x).bind fun t => if t then .ok x else ev b ρ
  | .ite c a b, ρ => (ev c ρ).bind fun x => (truR T cl x).bind fun t => if t then ev a ρ else ev b ρ
  | .cmp op a b, ρ => (ev a ρ).bind fun x => (ev b ρ).bind fun y => cmpR T cl op x y
  | .cmp2 op op2 a b c, ρ => (ev a ρ).bind fun x => (ev b ρ).bind fun y => (cmpR T cl op x y).bind fun r => match r with
    | .bl true => (ev c ρ).bind fun z => cmpR T cl op2 y z
    | .bl false => .ok (.bl false)
    | _ => .stuck
  | .idx a i, ρ => (ev a ρ).bind fun x => (ev i ρ).bind fun y => index x y
  | .slc a lo hi, ρ => (ev a ρ).bind fun x => (evO lo ρ).bind fun l => (evO hi ρ).bind fun h => sliceI x l h
  | .rev a, ρ => (ev a ρ).bind revd
  | .att a f, ρ => (ev a ρ).bind fun x => match x with | .ins c fs => if T.noMeth c f then Res.ofOpt (fs.lookup f) else .stuck | .me c fs => if T.noMeth c f then Res.ofOpt (fs.lookup f) else .stuck | _ => .stuck
  | .call f as, ρ => (evs as ρ).bind fun l => cl f l
  | .mk c as, ρ => (evs as ρ).bind fun l => mk c l
  | .meth a m as, ρ => (ev a ρ).bind fun x => (methR T x m).bind fun f => (evs as ρ).bind fun l => cl f (x :: l)
  | .bm m a as, ρ => (ev a ρ).bind fun x => if bmChk m x then (evs as ρ).bind fun l => bmop m x l else .stuck
  | .bi b as, ρ => (evs as ρ).bind fun l => biR b l
  | .bw b (.val e), ρ => (ev e ρ).bind fun x => (Res.ofOpt (bwD b x)).bind fun l => walkD b l
  | .bw b it, ρ => if bwIt b it then (evI it ρ).bind fun l => if l.length ≤ big then walkD b l else .stuck else .stuck
  | .isi a ts, ρ => (ev a ρ).bind fun x => if isiOk T x then .ok (.bl (ts.any fun t => isTy t x)) else .stuck
  | .lc e p it cs, ρ => (evI it ρ).bind fun l => (calm (lcs l fun d => match p.bind d (wipeE p.names ρ) with
    | none => .stuck
    | some ρ' => (evT cs ρ').bind fun t => if t then (ev e ρ').bind fun x => .ok [x] else .ok [])).bind fun l => if l.length ≤ big then .ok (.lst l) else .stuck
  | .lc2 e p it cs p2 it2 cs2, ρ => (evI it ρ).bind fun l => (calm (lcs l fun d => match p.bind d (wipeE (p.names ++ p2.names) ρ) with
    | none => .stuck
    | some ρ' => (evT cs ρ').bind fun t => if t then (evI it2 ρ').bind fun l2 => lcs l2 fun d2 => match p2.bind d2 (wipeE p2.names ρ') with
        | none => .stuck
        | some ρ2 => (evT cs2 ρ2).bind fun t => if t then (ev e ρ2).bind fun x => .ok [x] else .ok []
      else .ok [])).bind fun l => if l.length ≤ big then .ok (.lst l) else .stuck
  | .dc k v p it cs, ρ => (evI it ρ).bind fun l => (calm (lcs l fun d => match p.bind d (wipeE p.names ρ) with
    | none => .stuck
    | some ρ' => (evT cs ρ').bind fun t => if t then (ev k ρ').bind fun x => (ev v ρ').bind fun y => .ok [.tup [x, y]] else .ok [])).bind fun l =>
      if keysOk (kvOf l) && Nat.ble l.length big then .ok (.dct (puts [] (kvOf l))) else .stuck
  | .take a n, ρ => (ev a ρ).bind fun x => (ev n ρ).bind fun y => match x, y with
    | .draw, .int j => if 0 < j then .ask j.toNat fun i => .ok (.int i) else .stuck
    | _, _ => .stuck
def evs : Es → Env → Res (List D)
  | .nil, _ => .ok []
  | .cons st e es, ρ => (ev e ρ).bind fun x => (starR st x).bind fun m => (evs es ρ).bind fun l => .ok (m ++ l)
/-- tests, one behind the other -/
def evT : Es → Env → Res Bool
  | .nil, _ => .ok true
  | .cons _ e es, ρ => (ev e ρ).bind fun x => (truR T cl x).bind fun t => if t then evT es ρ else .ok false
def evkv : Ks → Env → Res (List (D × D))
  | .nil, _ => .ok []
  | .cons k v r, ρ => (ev k ρ).bind fun x => (ev v ρ).bind fun y => (evkv r ρ).bind fun l => .ok ((x, y) :: l)
def evO : Oe → Env → Res (Option Int)
  | .none, _ => .ok none
  | .some e, ρ => (ev e ρ).bind fun x => match x with | .int i => if smallIx i then .ok (some i) else .stuck | _ => .stuck
def evI : It → Env → Res (List D)
  | .val e, ρ => (ev e ρ).bind fun x => Res.ofOpt (items x)
  | .rng1 a, ρ => (ev a ρ).bind fun x => match x with
    | .int j => if j ≤ big ∧ -(big : Int) ≤ j then .ok (rng 0 j.toNat) else .stuck
    | _ => .stuck
  | .rng2 a b, ρ => (ev a ρ).bind fun x => (ev b ρ).bind fun y => match x, y with
    | .int i, .int j => if j ≤ big ∧ -(big : Int) ≤ j ∧ i ≤ big ∧ -(big : Int) ≤ i then .ok (rng i (j - i).toNat) else .stuck
    | _, _ => .stuck
  | .rng3 a b c, ρ => (ev a ρ).bind fun x => (ev b ρ).bind fun y => (ev c ρ).bind fun z => match x, y, z with
    | .int i, .int j, .int s => if j ≤ big ∧ -(big : Int) ≤ j ∧ i ≤ big ∧ -(big : Int) ≤ i ∧ 0 < s ∧ s ≤ big then .ok (rngS i s ((j - i + s - 1) / s).toNat)
      else if j ≤ big ∧ -(big : Int) ≤ j ∧ i ≤ big ∧ -(big : Int) ≤ i ∧ s = -1 then .ok (rngS i (-1) (i - j).toNat) else .stuck
    | _, _, _ => .stuck
  | .enum (.val e), ρ => (ev e ρ).bind fun x => (Res.ofOpt (srcD x)).bind fun l => .ok (enumD 0 l)
  | .zip2 (.val a) (.val b), ρ => (ev a ρ).bind fun x => (ev b ρ).bind fun y => (Res.ofOpt (srcD x)).bind fun l => (Res.ofOpt (srcD y)).bind fun m => .ok (zipD l m)
  | .items e, ρ => (ev e ρ).bind fun x => match x with | .dct l => .ok (l.map fun p => .tup [p.1, p.2]) | _ => .stuck
  | .values e, ρ => (ev e ρ).bind fun x => match x with | .dct l => .ok (l.map (·.2)) | _ => .stuck
  | _, _ => .stuck
end
/-- none of them is an instance at work -/
def okLk (ρ : Env) (l : List Nat) : Bool := l.all fun i => match ρ[i]? with | some (some (.me _ _)) => false | _ => true
/-! statements: the slots, which of them are owned -/
abbrev Own := List Nat
inductive Fl where
  | nx (ρ : Env) (ω : Own) | rt (d : D) (ρ : Env) (ω : Own) | bk (ρ : Env) (ω : Own) | ct (ρ : Env) (ω : Own)
def minus (ω l : List Nat) : List Nat := ω.filter fun i => !l.contains i
def fresh : E → Bool
  | .lst _ => true | .dct .. => true | .lc .. => true | .lc2 .. => true | .dc .. => true
  | .bw .list _ => true | .bw .sorted _ => true | .bw .dict _ => true | .bin .add _ _ => true | .bin .mul _ _ => true
  | _ => false
def canOwn : D → Bool
  | .lst _ => true | .dct _ => true | _ => false
def putF (f : Nat) (v : D) : Fs → Fs
  | [] => [(f, v)]
  | (g, x) :: r => if g == f then (g, v) :: r else (g, x) :: putF f v r
def setItem : D → D → D → Res D
  | .lst l, .int i, x => if 0 ≤ i then (if i.toNat < l.length then .ok (.lst (l.set i.toNat x)) else .stuck)
      else if -(l.length : Int) ≤ i then .ok (.lst (l.set (i + l.length).toNat x)) else .stuck
  | .dct l, k, x => if kinOk l k && decide (l.length < big) then .ok (.dct (dput l k x)) else .stuck
  | _, _, _ => .stuck
def setAll : List (Nat × Bool) → List D → Env → Option Env
  | [], [], ρ => some ρ
  | i :: is, d :: ds, ρ => if i.1 < ρ.length && (!i.2 || canOwn d) then setAll is ds (ρ.set i.1 (some d)) else none
  | _, _, _ => none
def freshs : List (Nat × Bool) → Es → Bool
  | [], .nil => true
  | i :: is, .cons false e es => (!i.2 || fresh e) && freshs is es
  | _, _ => false
def ownOf (is : List (Nat × Bool)) : List Nat := (is.filter fun i => i.2).map (·.1)
def forGo (f : Env → Own → D → Res Fl) : List D → Env → Own → Res Fl
  | [], ρ, ω => .ok (.nx ρ ω)
  | d :: r, ρ, ω => (f ρ ω d).bind fun fl => match fl with
    | .nx ρ' ω' => forGo f r ρ' ω'
    | .ct ρ' ω' => forGo f r ρ' ω'
    | .bk ρ' ω' => .ok (.nx ρ' ω')
    | .rt d ρ' ω' => .ok (.rt d ρ' ω')
def whileGo (l : List Nat) (c : Env → Res Bool) (f : Env → Own → Res Fl) : Nat → Env → Own → Res Fl
  | 0, _, _ => .stuck
  | n + 1, ρ, ω => if okLk ρ l then (c ρ).bind fun t => if t then (f ρ (minus ω l)).bind fun fl => match fl with
      | .nx ρ' ω' => whileGo l c f n ρ' ω'
      | .ct ρ' ω' => whileGo l c f n ρ' ω'
      | .bk ρ' ω' => .ok (.nx ρ' ω')
      | .rt d ρ' ω' => .ok (.rt d ρ' ω')
    else .ok (.nx ρ (minus ω l)) else .stuck
mutual
def ex : S → Env → Own → Res Fl
  | .bad, _, _ => .stuck
  | .pass, ρ, ω => .ok (.nx ρ ω)
  | .brk, ρ, ω => .ok (.bk ρ ω)
  | .cont, ρ, ω => .ok (.ct ρ ω)
  | .asg i own e, ρ, ω => (ev T cl mk e ρ).bind fun d => if i < ρ.length then
      (if own then (if fresh e && canOwn d then .ok (.nx (ρ.set i (some d)) (i :: minus ω (i :: lk e))) else .stuck) else .ok (.nx (ρ.set i (some d)) (minus ω (i :: lk e))))
    else .stuck
  | .asgP p e, ρ, ω => (ev T cl mk e ρ).bind fun d => match p.bind d ρ with
    | some ρ' => .ok (.nx ρ' (minus ω (p.names ++ lk e)))
    | none => .stuck
  | .par is es, ρ, ω => (evs T cl mk es ρ).bind fun ds => match setAll is ds ρ with
    | some ρ' => if freshs is es then .ok (.nx ρ' (ownOf is ++ minus ω (is.map (·.1) ++ lks es))) else .stuck
    | none => .stuck
  | .aug i op e, ρ, ω => match ρ[i]? with
    | some (some x) => (ev T cl mk e ρ).bind fun y => (binop op x y).bind fun z => match x with
      | .lst _ => if ω.contains i && !(lkB e).contains i then .ok (.nx (ρ.set i (some z)) (minus ω (lkB e))) else .stuck
      | _ => .ok (.nx (ρ.set i (some z)) (minus ω (i :: lkB e)))
    | _ => .stuck
  | .setI i k e, ρ, ω => match ρ[i]? with
    | some (some x) => (ev T cl mk e ρ).bind fun y => (ev T cl mk k ρ).bind fun q => (setItem x q y).bind fun z =>
      if ω.contains i && !(lk e ++ lk k).contains i then .ok (.nx (ρ.set i (some z)) (minus ω (lk e ++ lk k))) else .stuck
    | _ => .stuck
  | .augI i k op e, ρ, ω => match ρ[i]? with
    | some (some x) => (ev T cl mk k ρ).bind fun q => (index x q).bind fun u => (ev T cl mk e ρ).bind fun y => (binop op u y).bind fun v => (setItem x q v).bind fun z =>
      if ω.contains i && !(lk k ++ lk e).contains i then .ok (.nx (ρ.set i (some z)) (minus ω (lk k ++ lk e))) else .stuck
    | _ => .stuck
  | .setS i lo hi e, ρ, ω => match ρ[i]? with
    | some (some (.lst l)) => (ev T cl mk e ρ).bind fun y => (evO T cl mk lo ρ).bind fun a => (evO T cl mk hi ρ).bind fun b => match y, a, b with
      | .lst m, some a, some b => if 0 ≤ a ∧ a ≤ b ∧ b ≤ l.length ∧ l.length + m.length ≤ big ∧ ω.contains i = true ∧ ((lkB e ++ lkO lo ++ lkO hi).contains i) = false
        then .ok (.nx (ρ.set i (some (.lst (l.take a.toNat ++ m ++ l.drop b.toNat)))) (minus ω (lkB e ++ lkO lo ++ lkO hi))) else .stuck
      | _, _, _ => .stuck
    | _ => .stuck
  | .app i e, ρ, ω => match ρ[i]? with
    | some (some (.lst l)) => (ev T cl mk e ρ).bind fun y => if ω.contains i && !(lk e).contains i && decide (l.length < big) then .ok (.nx (ρ.set i (some (.lst (l ++ [y])))) (minus ω (lk e))) else .stuck
    | _ => .stuck
  | .upd i e, ρ, ω => match ρ[i]? with
    | some (some (.dct l)) => (ev T cl mk e ρ).bind fun y => match y with
      | .dct m => if ω.contains i && !(lk e).contains i && keysOk (l ++ m) && decide (l.length + m.length < big) then .ok (.nx (ρ.set i (some (.dct (puts l m)))) (minus ω (lk e))) else .stuck
      | _ => .stuck
    | _ => .stuck
  | .setF i f e, ρ, ω => (ev T cl mk e ρ).bind fun y => match ρ[i]? with
    | some (some (.me c fs)) => if ω.contains i && !(lk e).contains i && decide (fs.length < 100) && T.noMeth c f then .ok (.nx (ρ.set i (some (.me c (putF f y fs)))) (minus ω (lk e))) else .stuck
    | _ => .stuck
  | .expr e, ρ, ω => (ev T cl mk e ρ).bind fun _ => .ok (.nx ρ (minus ω (lk e)))
  | .ret e, ρ, ω => (ev T cl mk e ρ).bind fun d => .ok (.rt d ρ (minus ω (lk e)))
  | .retN, ρ, ω => .ok (.rt .non ρ ω)
  | .ite c a b, ρ, ω => (ev T cl mk c ρ).bind fun x => (truR T cl x).bind fun t => if t then exs a ρ (minus ω (lkB c)) else exs b ρ (minus ω (lkB c))
  | .for_ p it body, ρ, ω => (evI T cl mk it ρ).bind fun l => forGo (fun ρ ω d => match p.bind d ρ with
    | some ρ' => exs body ρ' (minus ω p.names)
    | none => .stuck) l ρ (minus ω (lkF it))
  | .while_ c body, ρ, ω => whileGo (lkB c) (fun ρ => (ev T cl mk c ρ).bind fun x => truR T cl x) (fun ρ ω => exs body ρ ω) 100000 ρ ω
  | .raise c as, ρ, _ => (evs T cl mk as ρ).bind fun l => (mk c l).bind fun d => match d with | .ins c fs => .raise c fs | _ => .stuck
  | .try_ _ _, _, _ => .stuck
def exs : Ss → Env → Own → Res Fl
  | .nil, ρ, ω => .ok (.nx ρ ω)
  | .cons s r, ρ, ω => if okLk ρ (lkS s) then (ex s ρ ω).bind fun fl => match fl with
    | .nx ρ' ω' => exs r ρ' ω'
    | fl => .ok fl
  else .stuck
end
/-- a def, a class: by so many levels -/
def callF (F : Fn) (as : List D) : Res D :=
  if (F.fill as).length = F.np ∧ F.np ≤ F.ns then (exs T cl mk F.body ((F.fill as).map some ++ List.replicate (F.ns - F.np) none) []).bind fun fl => match fl with
    | .rt d _ _ => .ok d
    | .nx _ _ => .ok .non
    | _ => .stuck
  else .stuck
def makF (c : Nat) (F : Fn) (as : List D) : Res D :=
  if as.length + 1 = F.np ∧ F.np ≤ F.ns then (exs T cl mk F.body (some (.me c []) :: as.map some ++ List.replicate (F.ns - F.np) none) [0]).bind fun fl => match fl with
    | .rt .non ρ ω => if ω.contains 0 then (match ρ[0]? with | some (some (D.me k fs)) => .ok (D.ins k fs) | _ => .stuck) else .stuck
    | .nx ρ ω => if ω.contains 0 then (match ρ[0]? with | some (some (D.me k fs)) => .ok (D.ins k fs) | _ => .stuck) else .stuck
    | _ => .stuck
  else .stuck
end
def callM (T : Tb) : Nat → Cal × Mak
  | 0 => (fun _ _ => .stuck, fun _ _ => .stuck)
  | n + 1 => (fun f as => match T.fns[f]? with | some F => callF T (callM T n).1 (callM T n).2 F as | none => .stuck,
      fun c as => match T.cls[c]? with
        | some C => match T.fns[C.init]? with | some F => makF T (callM T n).1 (callM T n).2 c F as | none => .stuck
        | none => .stuck)
abbrev call (T : Tb) (n : Nat) : Cal := (callM T n).1
abbrev make (T : Tb) (n : Nat) : Mak := (callM T n).2
end BB
end
section
set_option Elab.async false
set_option linter.all false
set_option maxRecDepth 100000
set_option maxHeartbeats 1000000
/-! What data are in an abstract heap. -/
namespace BB
open PySem PySem.Spec PyProof.Rows L2
/-- the fixed things of a law -/
structure Gc where
  P : Program
  w : World
  K : PySem.W.Frag
  mg : Str → Option Value
  base : Heap
  nm : List Str
  cad : Nat → Addr
  fad : Nat → Addr
  dr : Addr
  sa : Addr
  T : Tb
mutual
def nk : D → NestedKey
  | .non => .none
  | .bl b => .num (b2i b)
  | .int i => .num i
  | .str x => .text x
  | .tup l => .tup (nks l)
  | .lst _ => .none
  | .dct _ => .none
  | .ins _ _ => .none
  | .me _ _ => .none
  | .draw => .none
def nks : List D → List NestedKey
  | [] => []
  | d :: l => nk d :: nks l
end
/-- a dict's object, entry by entry -/
abbrev DicO (a : Addr) (es : List DictEntry) (ep : Nat) : HO := .ext fun h => ∃ o, h.get? a = some o ∧ o.ExactDict ∧ o.data = .dict es.toArray ep
def noTwice : List (D × D) → Bool
  | [] => true
  | (k, _) :: l => l.all (fun p => !eqv p.1 k) && noTwice l
def name (G : Gc) (f : Nat) : Str := (G.nm[f]?).getD ⟨#[]⟩
/-- no field bears a method's name -/
def fsOk (G : Gc) (c : Nat) (fs : List (Nat × D)) : Bool := fs.all fun p => G.T.noMeth c p.1
mutual
/-- the value v is the data d -/
def Den (G : Gc) (H : Hp) : D → V → Prop
  | .non, v => v = .non
  | .bl b, v => v = .bl b
  | .int i, v => v = .int i
  | .str x, v => v = .str x
  | .tup l, v => ∃ a vs, v = .ref a ∧ SqT G.K H a vs ∧ DenL G H l vs
  | .lst l, v => ∃ a vs, v = .ref a ∧ Rd H a (.lst vs) ∧ DenL G H l vs
  | .dct l, v => ∃ a es ep, v = .ref a ∧ H a = some (DicO a es ep) ∧ (a == sysModules) = false ∧ (keysOk l = true ∧ noTwice l = true ∧ l.length ≤ big) ∧ DenE G H l es
  | .ins c fs, v => fsOk G c fs = true ∧ ∃ a dx gs, v = .ref a ∧ H a = some (.ins (G.cad c) dx gs) ∧ DenF G H fs gs
  | .me _ _, _ => False
  | .draw, v => v = .ref G.dr
def DenL (G : Gc) (H : Hp) : List D → List V → Prop
  | [], vs => vs = []
  | d :: l, vs => ∃ v r, vs = v :: r ∧ Den G H d v ∧ DenL G H l r
def DenE (G : Gc) (H : Hp) : List (D × D) → List DictEntry → Prop
  | [], es => es = []
  | (k, d) :: l, es => ∃ e r, es = e :: r ∧ (∃ kv, RelV kv e.key ∧ Den G H k kv) ∧ e.hash = (nk k).hash G.w ∧ (∃ vv, RelV vv e.val ∧ Den G H d vv) ∧ DenE G H l r
def DenF (G : Gc) (H : Hp) : List (Nat × D) → List (Str × V) → Prop
  | [], gs => gs = []
  | (f, d) :: l, gs => ∃ v r, gs = (name G f, v) :: r ∧ Den G H d v ∧ DenF G H l r
end
variable {G : Gc} {H H' : Hp} {O O' : List Addr}
theorem rd_mono {a : Addr} {u : HO} (e : Same H H') (h : Rd H a u) : Rd H' a u := by
  rcases h with h | ⟨o, h⟩
  · exact .inl (e _ _ h)
  · exact .inr ⟨o, e _ _ h⟩
theorem SqL.mono {K : PySem.W.Frag} {a : Addr} {xs : List V} (e : Same H H') (h : SqL K H a xs) : SqL K H' a xs := e.seq h
theorem SqT.mono {K : PySem.W.Frag} {a : Addr} {xs : List V} (e : Same H H') (h : SqT K H a xs) : SqT K H' a xs := by
  rcases h with (h | ⟨o, h⟩) | h
  · exact .inl (.inl (e _ _ h))
  · exact .inl (.inr ⟨o, e _ _ h⟩)
  · exact .inr h
mutual
theorem Den.mono (e : Same H H') : ∀ {d : D} {v : V}, Den G H d v → Den G H' d v
  | .non, _, h => h
  | .bl _, _, h => h
  | .int _, _, h => h
  | .str _, _, h => h
  | .tup l, _, h => by
    obtain ⟨a, vs, h1, h2, h3⟩ := h
    exact ⟨a, vs, h1, SqT.mono e h2, DenL.mono e h3⟩
  | .lst l, _, h => by
    obtain ⟨a, vs, h1, h2, h3⟩ := h
    exact ⟨a, vs, h1, rd_mono e h2, DenL.mono e h3⟩
  | .dct l, _, h => by
    obtain ⟨a, es, ep, h1, h2, h3, h4, h5⟩ := h
    exact ⟨a, es, ep, h1, e _ _ h2, h3, h4, DenE.mono e h5⟩
  | .ins c fs, _, h => by
    obtain ⟨h0, a, dx, gs, h1, h2, h3⟩ := h
    exact ⟨h0, a, dx, gs, h1, e _ _ h2, DenF.mono e h3⟩
  | .me _ _, _, h => h.elim
  | .draw, _, h => h
theorem DenL.mono (e : Same H H') : ∀ {l : List D} {vs : List V}, DenL G H l vs → DenL G H' l vs
  | [], _, h => h
  | d :: l, _, h => by
    obtain ⟨v, r, h1, h2, h3⟩ := h
    exact ⟨v, r, h1, Den.mono e h2, DenL.mono e h3⟩
theorem DenE.mono (e : Same H H') : ∀ {l : List (D × D)} {es : List DictEntry}, DenE G H l es → DenE G H' l es
  | [], _, h => h
  | (k, d) :: l, _, h => by
    obtain ⟨x, r, h1, ⟨kv, h2, h3⟩, h4, ⟨vv, h5, h6⟩, h7⟩ := h
    exact ⟨x, r, h1, ⟨kv, h2, Den.mono e h3⟩, h4, ⟨vv, h5, Den.mono e h6⟩, DenE.mono e h7⟩
theorem DenF.mono (e : Same H H') : ∀ {l : List (Nat × D)} {gs : List (Str × V)}, DenF G H l gs → DenF G H' l gs
  | [], _, h => h
  | (f, d) :: l, _, h => by
    obtain ⟨v, r, h1, h2, h3⟩ := h
    exact ⟨v, r, h1, Den.mono e h2, DenF.mono e h3⟩
end
/-! lists of data -/
theorem DenL.length : ∀ {l : List D} {vs : List V}, DenL G H l vs → vs.length = l.length
  | [], _, h => by rw [show _ = _ from h]; rfl
  | d :: l, _, h => by
    obtain ⟨v, r, h1, _, h3⟩ := h
    rw [h1, List.length_cons, List.length_cons, h3.length]
theorem DenL.app : ∀ {l m : List D} {vs us : List V}, DenL G H l vs → DenL G H m us → DenL G H (l ++ m) (vs ++ us)
  | [], _, _, _, h, k => by rw [show _ = _ from h]; exact k
  | d :: l, _, _, _, h, k => by
    obtain ⟨v, r, h1, h2, h3⟩ := h
    subst h1
    exact ⟨v, r ++ _, rfl, h2, h3.app k⟩
theorem DenL.get : ∀ {l : List D} {vs : List V} {i : Nat} {d : D}, DenL G H l vs → l[i]? = some d → ∃ v, vs[i]? = some v ∧ Den G H d v
  | [], _, _, _, _, e => by simp at e
  | d :: l, _, i, _, h, e => by
    obtain ⟨v, r, h1, h2, h3⟩ := h
    subst h1
    cases i with
    | zero => simp at e; subst e; exact ⟨v, rfl, h2⟩
    | succ i =>
      obtain ⟨w, e1, e2⟩ := h3.get (i := i) (by simpa using e)
      exact ⟨w, by simpa using e1, e2⟩
theorem DenL.getV : ∀ {l : List D} {vs : List V} {i : Nat} {v : V}, DenL G H l vs → vs[i]? = some v → ∃ d, l[i]? = some d ∧ Den G H d v
  | [], _, _, _, h, e => by rw [show _ = _ from h] at e; simp at e
  | d :: l, _, i, _, h, e => by
    obtain ⟨v, r, h1, h2, h3⟩ := h
    subst h1
    cases i with
    | zero => simp at e; subst e; exact ⟨d, rfl, h2⟩
    | succ i =>
      obtain ⟨w, e1, e2⟩ := h3.getV (i := i) (by simpa using e)
      exact ⟨w, by simpa using e1, e2⟩
theorem DenL.take : ∀ {l : List D} {vs : List V} (n : Nat), DenL G H l vs → DenL G H (l.take n) (vs.take n)
  | [], _, n, h => by rw [show _ = _ from h]; simp; exact rfl
  | d :: l, _, 0, h => by simp; exact rfl
  | d :: l, _, n + 1, h => by
    obtain ⟨v, r, h1, h2, h3⟩ := h
    subst h1
    exact ⟨v, _, rfl, h2, h3.take n⟩
theorem DenL.drop : ∀ {l : List D} {vs : List V} (n : Nat), DenL G H l vs → DenL G H (l.drop n) (vs.drop n)
  | [], _, n, h => by rw [show _ = _ from h]; simp; exact rfl
  | d :: l, _, 0, h => h
  | d :: l, _, n + 1, h => by
    obtain ⟨v, r, h1, h2, h3⟩ := h
    subst h1
    exact h3.drop n
theorem DenL.set {d' : D} {v' : V} : ∀ {l : List D} {vs : List V} (n : Nat), DenL G H l vs → Den G H d' v' → DenL G H (l.set n d') (vs.set n v')
  | [], _, n, h, _ => by rw [show _ = _ from h]; simp; exact rfl
  | d :: l, _, 0, h, k => by
    obtain ⟨v, r, h1, h2, h3⟩ := h
    subst h1
    exact ⟨v', _, rfl, k, h3⟩
  | d :: l, _, n + 1, h, k => by
    obtain ⟨v, r, h1, h2, h3⟩ := h
    subst h1
    exact ⟨v, _, rfl, h2, h3.set n k⟩
theorem DenL.one {d : D} {v : V} (h : Den G H d v) : DenL G H [d] [v] := ⟨v, [], rfl, h, rfl⟩
theorem DenL.rev : ∀ {l : List D} {vs : List V}, DenL G H l vs → DenL G H l.reverse vs.reverse
  | [], _, h => by rw [show _ = _ from h]; simp; exact rfl
  | d :: l, _, h => by
    obtain ⟨v, r, h1, h2, h3⟩ := h
    subst h1
    rw [List.reverse_cons, List.reverse_cons]
    exact h3.rev.app (.one h2)
theorem DenF.lookup {f : Nat} : ∀ {fs : List (Nat × D)} {gs : List (Str × V)} {d : D}, (∀ g, g ∈ fs.map (·.1) → name G g = name G f → g = f) → DenF G H fs gs → fs.lookup f = some d → ∃ v, gs.lookup (name G f) = some v ∧ Den G H d v
  | [], _, _, _, _, e => by simp at e
  | (g, x) :: l, _, d, inj, h, e => by
    obtain ⟨v, r, h1, h2, h3⟩ := h
    subst h1
    rw [List.lookup_cons] at e
    cases hg : f == g with
    | true =>
      rw [hg] at e
      cases e
      have : f = g := by simpa using hg
      subst this
      exact ⟨v, by simp [List.lookup_cons], h2⟩
    | false =>
      rw [hg] at e
      have hne : f ≠ g := by simpa using hg
      obtain ⟨u, e1, e2⟩ := h3.lookup (fun g' hg' => inj g' (List.mem_cons_of_mem _ hg')) e
      refine ⟨u, ?_, e2⟩
      rw [List.lookup_cons]
      have : (name G f == name G g) = false := by
        cases q : name G f == name G g with
        | false => rfl
        | true =>
          exact absurd (inj g List.mem_cons_self (by have : name G f = name G g := by simpa using q
                                                     exact this.symm)).symm hne
      rw [this]
      exact e1
/-! ### the heap without what is owned -/
def hid (O : List Addr) (H : Hp) : Hp := fun a => if a ∈ O then none else H a
theorem hid_in {a : Addr} (h : a ∈ O) : hid O H a = none := by unfold hid; rw [if_pos h]
theorem hid_out {a : Addr} (h : a ∉ O) : hid O H a = H a := by unfold hid; rw [if_neg h]
theorem hid_some {a : Addr} {o : HO} (h : hid O H a = some o) : a ∉ O ∧ H a = some o := by
  unfold hid at h
  by_cases e : a ∈ O
  · rw [if_pos e] at h; cases h
  · rw [if_neg e] at h; exact ⟨e, h⟩
theorem hid_le : Same (hid O H) H := fun a o h => (hid_some h).2
theorem hid_mono (s : ∀ a ∈ O', a ∈ O) : Same (hid O H) (hid O' H) := fun a o h => by
  obtain ⟨h1, h2⟩ := hid_some h
  rw [hid_out fun z => h1 (s a z)]
  exact h2
/-- all but the draws' list stays -/
def Grow (G : Gc) (H H' : Hp) : Prop := ∀ a o, a ≠ G.dr → H a = some o → H' a = some o
theorem Grow.refl (H : Hp) : Grow G H H := fun _ _ _ h => h
theorem Grow.trans {H1 H2 H3 : Hp} (a : Grow G H1 H2) (b : Grow G H2 H3) : Grow G H1 H3 := fun x o n h => b x o n (a x o n h)
theorem Grow.of (e : Same H H') : Grow G H H' := fun a o _ h => e a o h
theorem Grow.new {p : Addr} {o : HO} (h : H p = none) : Grow G H (upd H p o) := fun a u _ e => by rw [upd_ne (ne_of_none e h)]; exact e
theorem Grow.hid (e : Grow G H H') (d : G.dr ∈ O) : Same (hid O H) (hid O H') := fun a o h => by
  obtain ⟨h1, h2⟩ := hid_some h
  rw [hid_out h1]
  exact e a o (fun z => h1 (z ▸ d)) h2
/-- the list [script, how many draws] -/
def Dr (G : Gc) (H : Hp) : Prop := ∃ k : Int, 0 ≤ k ∧ H G.dr = some (.lst [.ref G.sa, .int k]) ∧ ∃ (o : Obj) (ns : List Int), H G.sa = some (.frz o (.lst (ns.map V.int))) ∧ ns.length ≤ 63 ∧ G.sa ≠ G.dr
theorem Dr.ext (d : Dr G H) (e : Same H H') : Dr G H' := by
  obtain ⟨k, h0, h1, o, ns, h2, h3, h4⟩ := d
  exact ⟨k, h0, e _ _ h1, o, ns, e _ _ h2, h3, h4⟩
/-! ### data seen from outside: what is owned too -/
/-- the top of the data d stands in o -/
def Top (G : Gc) (Hv : Hp) (p : Addr) (o : Option HO) : D → Prop
  | .lst l => ∃ vs, o = some (.lst vs) ∧ DenL G Hv l vs
  | .dct l => ∃ es ep, o = some (DicO p es ep) ∧ (p == sysModules) = false ∧ (keysOk l = true ∧ noTwice l = true ∧ l.length ≤ big) ∧ DenE G Hv l es
  | .me c fs => fsOk G c fs = true ∧ ∃ dx gs, o = some (.ins (G.cad c) dx gs) ∧ DenF G Hv fs gs
  | _ => False
theorem Top.mono {Hv Hv' : Hp} {p : Addr} {o : Option HO} {d : D} (e : Same Hv Hv') (h : Top G Hv p o d) : Top G Hv' p o d := by
  cases d with
  | lst l => obtain ⟨vs, h1, h2⟩ := h; exact ⟨vs, h1, h2.mono e⟩
  | dct l => obtain ⟨es, ep, h1, h2, h3, h4⟩ := h; exact ⟨es, ep, h1, h2, h3, h4.mono e⟩
  | me c fs => obtain ⟨h0, dx, gs, h1, h2⟩ := h; exact ⟨h0, dx, gs, h1, h2.mono e⟩
  | _ => exact h
/-- the instance is done -/
def fin : D → D
  | .me c fs => .ins c fs
  | d => d
theorem Top.den {Hv : Hp} {p : Addr} {d : D} (h : Top G Hv p (Hv p) d) : Den G Hv (fin d) (.ref p) := by
  cases d with
  | lst l => obtain ⟨vs, h1, h2⟩ := h; exact ⟨p, vs, rfl, .inl h1, h2⟩
  | dct l => obtain ⟨es, ep, h1, h2, h3, h4⟩ := h; exact ⟨p, es, ep, rfl, h1, h2, h3, h4⟩
  | me c fs => obtain ⟨h0, dx, gs, h1, h2⟩ := h; exact ⟨h0, p, dx, gs, rfl, h1, h2⟩
  | _ => exact h.elim
/-- to be looked at: data, or an owned thing -/
def Vw (G : Gc) (O : List Addr) (H : Hp) (d : D) (v : V) : Prop := Den G (hid O H) d v ∨ ∃ p, v = .ref p ∧ (p ∈ O ∧ p ≠ G.dr) ∧ Top G (hid O H) p (H p) d
theorem Vw.of {d : D} {v : V} (h : Den G (hid O H) d v) : Vw G O H d v := .inl h
theorem Vw.lst {l : List D} {v : V} (h : Vw G O H (.lst l) v) : ∃ a vs, v = .ref a ∧ Rd H a (.lst vs) ∧ DenL G (hid O H) l vs := by
  rcases h with ⟨a, vs, h1, h2, h3⟩ | ⟨p, h1, _, vs, h2, h3⟩
  · exact ⟨a, vs, h1, rd_mono hid_le h2, h3⟩
  · exact ⟨p, vs, h1, .inl h2, h3⟩
theorem Vw.tup {l : List D} {v : V} (h : Vw G O H (.tup l) v) : ∃ a vs, v = .ref a ∧ SqT G.K H a vs ∧ DenL G (hid O H) l vs := by
  rcases h with ⟨a, vs, h1, h2, h3⟩ | ⟨p, h1, _, h2⟩
  · exact ⟨a, vs, h1, SqT.mono hid_le h2, h3⟩
  · exact h2.elim
theorem Vw.dct {l : List (D × D)} {v : V} (h : Vw G O H (.dct l) v) : ∃ a es ep, v = .ref a ∧ H a = some (DicO a es ep) ∧ (a == sysModules) = false ∧ (keysOk l = true ∧ noTwice l = true ∧ l.length ≤ big) ∧ DenE G (hid O H) l es := by
  rcases h with ⟨a, es, ep, h1, h2, h3, h4, h5⟩ | ⟨p, h1, _, es, ep, h2, h3, h4, h5⟩
  · exact ⟨a, es, ep, h1, (hid_some h2).2, h3, h4, h5⟩
  · exact ⟨p, es, ep, h1, h2, h3, h4, h5⟩
theorem Vw.ins {c : Nat} {fs : List (Nat × D)} {v : V} (h : Vw G O H (.ins c fs) v) : Den G (hid O H) (.ins c fs) v := by
  rcases h with h | ⟨p, _, _, h⟩
  · exact h
  · exact h.elim
theorem Vw.ins' {c : Nat} {fs : List (Nat × D)} {v : V} (h : Vw G O H (.ins c fs) v) : fsOk G c fs = true ∧ ∃ a dx gs, v = .ref a ∧ H a = some (.ins (G.cad c) dx gs) ∧ DenF G (hid O H) fs gs := by
  obtain ⟨h0, a, dx, gs, h1, h2, h3⟩ := h.ins
  exact ⟨h0, a, dx, gs, h1, (hid_some h2).2, h3⟩
theorem Vw.me {c : Nat} {fs : List (Nat × D)} {v : V} (h : Vw G O H (.me c fs) v) : fsOk G c fs = true ∧ ∃ a dx gs, v = .ref a ∧ H a = some (.ins (G.cad c) dx gs) ∧ DenF G (hid O H) fs gs := by
  rcases h with h | ⟨p, h1, _, h0, dx, gs, h2, h3⟩
  · exact h.elim
  · exact ⟨h0, p, dx, gs, h1, h2, h3⟩
theorem Vw.int {i : Int} {v : V} (h : Vw G O H (.int i) v) : v = .int i := by
  rcases h with h | ⟨p, _, _, h⟩
  · exact h
  · exact h.elim
theorem Vw.str {x : Str} {v : V} (h : Vw G O H (.str x) v) : v = .str x := by
  rcases h with h | ⟨p, _, _, h⟩
  · exact h
  · exact h.elim
theorem Vw.bl {b : Bool} {v : V} (h : Vw G O H (.bl b) v) : v = .bl b := by
  rcases h with h | ⟨p, _, _, h⟩
  · exact h
  · exact h.elim
theorem Vw.non {v : V} (h : Vw G O H .non v) : v = .non := by
  rcases h with h | ⟨p, _, _, h⟩
  · exact h
  · exact h.elim
theorem Vw.draw {v : V} (h : Vw G O H .draw v) : v = .ref G.dr := by
  rcases h with h | ⟨p, _, _, h⟩
  · exact h
  · exact h.elim
theorem Vw.grow {d : D} {v : V} (h : Vw G O H d v) (g : Grow G H H') (dr : G.dr ∈ O) : Vw G O H' d v := by
  rcases h with h | ⟨p, h1, ⟨h2, h4⟩, h3⟩
  · exact .inl (h.mono (g.hid dr))
  · refine .inr ⟨p, h1, ⟨h2, h4⟩, ?_⟩
    have e : H' p = H p := by
      cases q : H p with
      | none =>
        rw [q] at h3
        cases d with
        | lst l => obtain ⟨_, e, _⟩ := h3; cases e
        | dct l => obtain ⟨_, _, e, _⟩ := h3; cases e
        | me c fs => obtain ⟨_, _, _, e, _⟩ := h3; cases e
        | _ => exact h3.elim
      | some o => exact g p o h4 q
    rw [e]
    exact h3.mono (g.hid dr)
end BB
end
section
set_option Elab.async false
set_option linter.all false
set_option maxRecDepth 100000
set_option maxHeartbeats 1000000
/-! What is wanted of results. -/
namespace BB
/-! ### results -/
namespace Res
variable {α β : Type} {R R' : Nat → Fs → Prop}
theorem wp_bind {f : α → Res β} {Q : β → Prop} : ∀ {r : Res α}, (r.bind f).wp Q R ↔ r.wp (fun a => (f a).wp Q R) R
  | .ok a => Iff.rfl
  | .raise c x => Iff.rfl
  | .stuck => Iff.rfl
  | .ask n k => by
    show (0 < n ∧ ∀ i, i < n → ((k i).bind f).wp Q R) ↔ (0 < n ∧ ∀ i, i < n → (k i).wp _ R)
    constructor
    · exact fun h => ⟨h.1, fun i hi => wp_bind.mp (h.2 i hi)⟩
    · exact fun h => ⟨h.1, fun i hi => wp_bind.mpr (h.2 i hi)⟩
theorem wp_mono {Q Q' : α → Prop} (hq : ∀ a, Q a → Q' a) (hr : ∀ c x, R c x → R' c x) : ∀ {r : Res α}, r.wp Q R → r.wp Q' R'
  | .ok a, h => hq a h
  | .raise c x, h => hr c x h
  | .stuck, h => h
  | .ask n k, h => ⟨h.1, fun i hi => wp_mono hq hr (h.2 i hi)⟩
theorem wp_ofOpt {o : Option α} {Q : α → Prop} (h : (ofOpt o).wp Q R) : ∃ a, o = some a ∧ Q a := by
  cases o with
  | none => exact h.elim
  | some a => exact ⟨a, rfl, h⟩
end Res
/-- a def's slots, as it begins -/
def begin_ (F : Fn) (ds : List D) : Env := ds.map some ++ List.replicate (F.ns - F.np) none
end BB
end
section
set_option Elab.async false
set_option linter.all false
set_option maxRecDepth 100000
set_option maxHeartbeats 1000000
/-! The slots; what is wanted behind a step. -/
namespace BB
open PySem PySem.Spec PyProof.Rows L2
/-! ### the slots -/
structure Fr where
  H0 : Hp
  O0 : List Addr
  O : List Addr
  ω : List Nat
  ρ : Env
  /-- self, while __init__ runs -/
  me : Option Addr := none
structure Rel (G : Gc) (Γ : Fr) (σ : L2.St) (H : Hp) : Prop where
  gr : Grow G Γ.H0 H
  dr : Dr G H
  drO : G.dr ∈ Γ.O
  sub : ∀ a ∈ Γ.O0, a ∈ Γ.O
  low : ∀ a ∈ Γ.O0, ∃ o, Γ.H0 a = some o
  new : ∀ a ∈ Γ.O, a ∈ Γ.O0 ∨ Γ.H0 a = none
  live : ∀ a ∈ Γ.O, ∃ o, H a = some o
  len : Γ.ρ.length = σ.length
  val : ∀ i d, i ∉ Γ.ω → Γ.ρ[i]? = some (some d) → ∃ v, σ[i]? = some (some v) ∧ Den G (hid Γ.O H) d v
  own : ∀ i ∈ Γ.ω, ∃ d p, Γ.ρ[i]? = some (some d) ∧ σ[i]? = some (some (.ref p)) ∧ p ∈ Γ.O ∧ p ≠ G.dr ∧ Γ.H0 p = none ∧ Top G (hid Γ.O H) p (H p) d
  inj : ∀ i ∈ Γ.ω, ∀ j ∈ Γ.ω, σ[i]? = σ[j]? → i = j
  self : ∀ a c fs, Γ.me = some a → 0 ∈ Γ.ω → Γ.ρ[0]? = some (some (.me c fs)) → σ[0]? = some (some (.ref a))
variable {G : Gc} {Γ : Fr} {σ : L2.St} {H H' : Hp}
theorem Rel.grow (r : Rel G Γ σ H) (g : Grow G H H') (d : Dr G H') : Rel G Γ σ H' where
  gr := r.gr.trans g
  dr := d
  drO := r.drO
  sub := r.sub
  low := r.low
  new := r.new
  live := fun a ha => by
    obtain ⟨o, e⟩ := r.live a ha
    by_cases h : a = G.dr
    · obtain ⟨k, _, e', _⟩ := d
      exact ⟨_, h ▸ e'⟩
    · exact ⟨o, g a o h e⟩
  len := r.len
  val := fun i d h1 h2 => by
    obtain ⟨v, e1, e2⟩ := r.val i d h1 h2
    exact ⟨v, e1, e2.mono (g.hid r.drO)⟩
  own := fun i hi => by
    obtain ⟨d, p, e1, e2, e3, e4, e5, e6⟩ := r.own i hi
    refine ⟨d, p, e1, e2, e3, e4, e5, ?_⟩
    have hp : H' p = H p := by
      obtain ⟨o, e⟩ := r.live p e3
      rw [e]; exact g p o e4 e
    rw [hp]
    exact e6.mono (g.hid r.drO)
  inj := r.inj
  self := r.self
/-- the slot i, to be looked at -/
theorem Rel.look (r : Rel G Γ σ H) {i : Nat} {d : D} (e : Γ.ρ[i]? = some (some d)) : ∃ v, σ[i]? = some (some v) ∧ Vw G Γ.O H d v ∧ (i ∉ Γ.ω → Den G (hid Γ.O H) d v) := by
  by_cases h : i ∈ Γ.ω
  · obtain ⟨d', p, e1, e2, e3, e4, _, e6⟩ := r.own i h
    rw [e] at e1; cases e1
    exact ⟨_, e2, .inr ⟨p, rfl, ⟨e3, e4⟩, e6⟩, fun z => absurd h z⟩
  · obtain ⟨v, e1, e2⟩ := r.val i d h e
    exact ⟨v, e1, .inl e2, fun _ => e2⟩
theorem Rel.fresh (r : Rel G Γ σ H) {p : Addr} (h : H p = none) : p ∉ Γ.O := fun z => by
  obtain ⟨o, e⟩ := r.live p z
  rw [h] at e; cases e
/-! ### what is wanted -/
/-- behind an expression: data (or, in the mode true, what may be looked at) -/
def Sees (G : Gc) (O : List Addr) (H : Hp) (m : Bool) (d : D) (v : V) : Prop := if m then Vw G O H d v else Den G (hid O H) d v
theorem Sees.vw {O : List Addr} {m : Bool} {d : D} {v : V} (h : Sees G O H m d v) : Vw G O H d v := by
  cases m with
  | true => exact h
  | false => exact .inl h
theorem Sees.of {O : List Addr} {m : Bool} {d : D} {v : V} (h : Den G (hid O H) d v) : Sees G O H m d v := by
  cases m with
  | true => exact .inl h
  | false => exact h
theorem Sees.grow {O : List Addr} {m : Bool} {d : D} {v : V} (h : Sees G O H m d v) (g : Grow G H H') (dr : G.dr ∈ O) : Sees G O H' m d v := by
  cases m with
  | true => exact Vw.grow h g dr
  | false => exact Den.mono (g.hid dr) h
/-- an exception's way out -/
def Rst (G : Gc) (O : List Addr) (H : Hp) (W : XK) (c : Nat) (fs : Fs) : Prop :=
  ∀ d H' gs, Grow G H H' → Dr G H' → H' d = some (.xd gs) → DenF G (hid O H') fs gs → W (.ref (G.cad c)) (some d) H'
theorem Rst.grow {O : List Addr} {W : XK} {c : Nat} {fs : Fs} (g : Grow G H H') (h : Rst G O H W c fs) : Rst G O H' W c fs := fun d H2 gs a b e f => h d H2 gs (g.trans a) b e f
def lkM (m : Bool) (e : E) : List Nat := if m then lkB e else lk e
/-- a frame's wish about exceptions -/
abbrev WS := L2.St → XK
section
variable (G) (cl : Cal) (mk : Mak) (W : WS)
/-- an expression's reading -/
def tE (m : Bool) (e : E) : TE := fun σ H Q => ∃ Γ, Rel G Γ σ H ∧ (∀ i ∈ lkM m e, i ∉ Γ.ω) ∧
  (ev G.T cl mk e Γ.ρ).wp (fun d => ∀ v H', Grow G H H' → Dr G H' → Sees G Γ.O H' m d v → Q v H') (Rst G Γ.O H (W σ))
/-- a test's -/
def tB (e : E) : TT := fun σ H Q => ∃ Γ, Rel G Γ σ H ∧ (∀ i ∈ lkB e, i ∉ Γ.ω) ∧
  ((ev G.T cl mk e Γ.ρ).bind (truR G.T cl)).wp (fun b => ∀ H', Grow G H H' → Dr G H' → Q b H') (Rst G Γ.O H (W σ))
end
/-! ### operators by values: r for what is asked -/
section
variable {X : Cx}
/-- the outcome of an operator on data -/
def Out (G : Gc) (O : List Addr) (H : Hp) (W : XK) (r : Res D) (Q : VK) : Prop :=
  G.dr ∈ O ∧ (∀ a ∈ O, ∃ o, H a = some o) ∧ Dr G H ∧ r.wp (fun d => ∀ v H', Grow G H H' → Dr G H' → Den G (hid O H') d v → Q v H') (Rst G O H W)
theorem Out.ok {O : List Addr} {W : XK} {d : D} {v : V} {Q : VK} (h : Out G O H W (.ok d) Q) (e : Den G (hid O H) d v) : Q v H := h.2.2.2 v H (Grow.refl H) h.2.2.1 e
theorem dr_new {p : Addr} {o : HO} (d : Dr G H) (h : H p = none) : Dr G (upd H p o) := d.ext fun b u e => by rw [upd_ne (ne_of_none e h)]; exact e
theorem hid_new {O : List Addr} {p : Addr} {o : HO} (l : ∀ a ∈ O, ∃ o, H a = some o) (h : H p = none) : hid O (upd H p o) p = some o := by
  rw [hid_out, upd_same]
  intro z
  obtain ⟨u, e⟩ := l p z
  rw [h] at e; cases e
theorem same_new {O : List Addr} {p : Addr} {o : HO} (h : H p = none) : Same (hid O H) (hid O (upd H p o)) := fun b u e => by
  obtain ⟨h1, h2⟩ := hid_some e
  rw [hid_out h1, upd_ne (ne_of_none h2 h)]
  exact h2
theorem Out.newLst {O : List Addr} {W : XK} {l : List D} {vs : List V} {Q : VK} (h : Out G O H W (.ok (.lst l)) Q) (e : DenL G (hid O H) l vs) {p : Addr} (hp : H p = none) : Q (.ref p) (upd H p (.lst vs)) :=
  h.2.2.2 _ _ (Grow.new hp) (dr_new h.2.2.1 hp) ⟨p, vs, rfl, .inl (hid_new h.2.1 hp), e.mono (same_new hp)⟩
theorem Out.newTup {O : List Addr} {W : XK} {l : List D} {vs : List V} {Q : VK} (h : Out G O H W (.ok (.tup l)) Q) (e : DenL G (hid O H) l vs) {p : Addr} (hp : H p = none) : Q (.ref p) (upd H p (.tup vs)) :=
  h.2.2.2 _ _ (Grow.new hp) (dr_new h.2.2.1 hp) ⟨p, vs, rfl, .inl (.inl (hid_new h.2.1 hp)), e.mono (same_new hp)⟩
theorem Rel.out {Γ : Fr} {σ : L2.St} {W : XK} {r : Res D} {Q : VK} (R : Rel G Γ σ H) (h : r.wp (fun d => ∀ v H', Grow G H H' → Dr G H' → Den G (hid Γ.O H') d v → Q v H') (Rst G Γ.O H W)) : Out G Γ.O H W r Q := ⟨R.drO, R.live, R.dr, h⟩
/-- the wanted end: a new thing at p, that nobody else has -/
abbrev Wn (G : Gc) (O : List Addr) (H : Hp) (Q : VK) : D → Prop := fun d => canOwn d = true ∧ ∀ p H', H p = none → p ∉ O → Grow G H H' → Dr G H' → Top G (hid (p :: O) H') p (H' p) d → Q (.ref p) H'
def OutF (G : Gc) (O : List Addr) (H : Hp) (W : XK) (r : Res D) (Q : VK) : Prop := G.dr ∈ O ∧ (∀ a ∈ O, ∃ o, H a = some o) ∧ Dr G H ∧ r.wp (Wn G O H Q) (Rst G O H W)
theorem big_line : big = sizeLine := by rw [sizeLine_eq]; rfl
end
end BB
end
section
set_option Elab.async false
set_option linter.all false
set_option maxRecDepth 100000
set_option maxHeartbeats 1000000
/-! Operators by values. -/
namespace BB
open PySem PySem.Spec PyProof.Rows L2
variable {G : Gc} {X : Cx} {H : Hp} {O : List Addr} {W : XK} {Q : VK}
/-- the empty tuple ahead: the other one itself -/
theorem cat_tup0 {prog : Program} {w : World} {A : Around} {E : Value → Shared → Prop} {s : Shared} {t b : Addr} {ws : List Value} {Q : Value → Shared → Prop} (ht : IsTup s.heap t #[]) (hb : IsTup s.heap b ws.toArray) (h1 : Q (.ref b) s) : wpAny (model prog w) A (binaryOp .Add (.ref t) (.ref b)) Q E s := by
  obtain ⟨⟨cls, dd, data, sl⟩, ho, hc, n, hd⟩ := id ht
  obtain ⟨⟨cls2, dd2, data2, sl2⟩, ho2, hc2, n2, hd2⟩ := id hb
  simp only at hc hd hc2 hd2
  subst hc hd hc2 hd2
  exact concat_meets ⟨_, ho, rfl⟩ ⟨_, ho2, rfl⟩ noFill_tuple_add seq_tuple_add PySem.F.slot_tuple_add PySem.F.entry_tuple_add (PySem.F.args_tuple_add_2 _ _)
      (tuple_addW0 t b #[] ws.toArray n n2 dd dd2 sl sl2 rfl) ⟨ho, ho2, h1⟩
theorem DenL.nilV {H : Hp} {l : List D} (h : DenL G H l []) : l = [] := by
  have := h.length
  cases l with
  | nil => rfl
  | cons _ _ => simp at this
def opOf : Bop → Operator
  | .add => .Add | .sub => .Sub | .mul => .Mult | .fdiv => .FloorDiv | .mod => .Mod | .pow => .Pow
theorem rep_flat (l : List D) : ∀ n, rep l n = (List.replicate n l).flatten
  | 0 => rfl
  | n + 1 => by rw [rep, rep_flat l n, List.replicate_succ, List.flatten_cons]
theorem DenL.rep {l : List D} {vs : List V} (h : DenL G H l vs) : ∀ n, DenL G H (rep l n) (List.replicate n vs).flatten
  | 0 => rfl
  | n + 1 => by rw [BB.rep, List.replicate_succ, List.flatten_cons]; exact h.app (h.rep n)
abbrev rBin (G : Gc) (op : Bop) : R2 := fun x y H Q => ∃ O W a b, Vw G O H a x ∧ Vw G O H b y ∧ Out G O H W (binop op a b) Q
theorem small_int {i : Int} (h : smallI i = true) : -(2 ^ 64) < i ∧ i < 2 ^ 64 := by
  have := of_decide_eq_true h
  omega
theorem Out.cond {c : Prop} [Decidable c] {r : Res D} (h : Out G O H W (if c then r else .stuck) Q) : c ∧ Out G O H W r Q := by
  by_cases e : c
  · rw [if_pos e] at h; exact ⟨e, h⟩
  · rw [if_neg e] at h; exact h.2.2.2.elim
theorem Out.no (h : Out G O H W .stuck Q) : False := h.2.2.2
theorem inv_lstR {pins : List (Addr × Obj)} {σ : L2.St} {s : Shared} {l : Addr} {xs : List V} (I : Inv X pins σ H s) (h : Rd H l (.lst xs)) : xs.length ≤ sizeLine ∧ ∃ (its : List Value) (n : Nat), Vals xs its ∧ xs.length = its.length ∧ s.heap.get? l = some { cls := .type "list", data := .seq its.toArray n } := by
  obtain ⟨z, its, n, r, e⟩ := rd_of I.hok h
  exact ⟨z, its, n, r, r.length, e⟩
/-- a list and a list, read -/
theorem op_cat' : OpR X (binaryOp .Add) (fun x y H Q => ∃ l b xs zs, x = .ref l ∧ y = .ref b ∧ Rd H l (.lst xs) ∧ Rd H b (.lst zs) ∧ xs.length + zs.length ≤ sizeLine ∧ ∀ p, H p = none → Q (.ref p) (upd H p (.lst (xs ++ zs)))) := by
  intro pins s σ H x y v u Q I rx ry ⟨l, b, xs, zs, ex, ey, h1, h2, hz, q⟩
  subst ex ey
  obtain rfl : v = Value.ref l := rx
  obtain rfl : u = Value.ref b := ry
  obtain ⟨_, its, n, r, hl, e⟩ := inv_lstR I h1
  obtain ⟨_, its2, n2, r2, hl2, e2⟩ := inv_lstR I h2
  refine PySem.P.add_list e e2 ?_ (by simp only [List.size_toArray]; omega)
  rw [show its.toArray ++ its2.toArray = (its ++ its2).toArray by simp]
  exact ⟨.ref _, _, I.lnew (t' := s.toks) (r.append r2) (by rw [List.length_append]; omega), rfl, q _ I.fresh⟩
/-- a list read, times an int -/
theorem op_rep' : OpR X (binaryOp .Mult) (fun x y H Q => ∃ l k xs, x = .ref l ∧ y = .int k ∧ Rd H l (.lst xs) ∧ -(2 ^ 63) ≤ k ∧ k < 2 ^ 63 ∧ xs.length * k.toNat ≤ sizeLine ∧ ∀ p, H p = none → Q (.ref p) (upd H p (.lst (List.replicate k.toNat xs).flatten))) := by
  intro pins s σ H x y v u Q I rx ry ⟨l, k, xs, ex, ey, h1, low, high, hz, q⟩
  subst ex ey
  obtain rfl : v = Value.ref l := rx
  obtain ⟨t, rfl⟩ : ∃ t, u = Value.int k t := ry
  obtain ⟨_, its, n, r, hl, e⟩ := inv_lstR I h1
  have size : its.toArray.size * k.toNat ≤ sizeLine := by rw [List.size_toArray, ← hl]; exact hz
  have cap : ¬ its.toArray.size * k.toNat > (2 ^ 63 - 1) / 8 := fun z => by
    have : (sizeLine : Nat) ≤ (2 ^ 63 - 1) / 8 := by decide
    omega
  have fit : ¬ (!Builtin.List.listFitsIndex k) = true := by rw [fitsIndex_both low high]; decide
  have long : ¬ Builtin.List.listTooLong (its.toArray.size * k.toNat) = true := by rw [notLongL size]; decide
  have made : List.foldl (fun x1 x2 => x1 ++ x2) #[] (List.replicate (if its.toArray.isEmpty = true then 0 else k.toNat) its.toArray) = (List.replicate k.toNat its).flatten.toArray := by
    have each : ∀ m : Nat, List.foldl (fun x1 x2 => x1 ++ x2) #[] (List.replicate m its.toArray) = (List.replicate m its).flatten.toArray := fun m => by
      have := foldl_rep its m []
      rwa [List.nil_append] at this
    rw [each]
    cases its with
    | nil => simp
    | cons a l => rw [if_neg (by simp)]
  have isl : s.TypeIs (.ref l) "list" := ⟨_, e, rfl⟩
  refine wpAny_binaryOp_repeat_ref (U := "int") (T := "list") (by decide) isl (fun s' => typeIs_int s' k t) noFill_list_mul F.fills_int_mul PySem.F.slot_int_rmul repeat_list PySem.F.slot_int_index.lookup
    (call_meets PySem.F.slot_int_rmul (typeIs_int s k t) PySem.F.entry_int_rmul (PySem.F.args_int_rmul_2 _ _) (int___rmul___int_list k t l its.toArray n) ⟨e, rfl, isl, ?_⟩)
  refine call_meets PySem.F.slot_list_mul isl PySem.F.entry_list_mul (PySem.F.args_list_mul_2 _ _) (AutoListH.list___mul___list_int_3 l its.toArray n k t fit cap long) ⟨e, ?_⟩
  rw [made]
  exact ⟨.ref _, _, I.lnew (t' := s.toks) (r.rep k.toNat) (by rw [PyProof.Rows.lm_len_rep_flat, Nat.mul_comm]; exact hz), rfl, q _ I.fresh⟩
theorem op_bin (hK : X.K = G.K) (op : Bop) : OpR X (binaryOp (opOf op)) (rBin G op) := by
  intro pins s σ H x y v u Q I rx ry h
  obtain ⟨O, W, a, b, ha, hb, h⟩ := h
  have bl := big_line
  cases op with
  | add =>
    cases a <;> cases b <;> first | exact h.no.elim | skip
    · have e1 := ha.int; have e2 := hb.int
      exact op_add pins s σ H x y v u Q I rx ry ⟨_, _, e1, e2, h.ok rfl⟩
    · obtain ⟨t, vs, e1, q1, d1⟩ := ha.tup
      obtain ⟨t2, vs2, e2, q2, d2⟩ := hb.tup
      obtain ⟨hc, h⟩ := h.cond
      have l1 := d1.length; have l2 := d2.length
      subst e1 e2
      rw [← hK] at q1 q2
      cases vs with
      | nil =>
        cases rx; cases ry
        obtain ⟨its, r1, p1, _⟩ := I.tuple q1
        obtain ⟨its2, r2, p2, _⟩ := I.tuple q2
        cases r1
        refine cat_tup0 p1 p2 ⟨.ref t2, H, I, rfl, ?_⟩
        have hl := d1.nilV
        subst hl
        rcases hb with hb | ⟨p, _, _, hb⟩
        · exact h.ok hb
        · exact hb.elim
      | cons v1 vr =>
        refine op_catT pins s σ H _ _ v u Q I rx ry ⟨t, t2, _, _, rfl, rfl, q1, q2, by simp, by omega, fun e => ?_, fun _ p hp => h.newTup (d1.app d2) hp⟩
        subst e
        have hm := d2.nilV
        subst hm
        rcases ha with ha | ⟨p, _, _, ha⟩
        · exact h.ok (by rw [List.append_nil]; exact ha)
        · exact ha.elim
    · obtain ⟨t, vs, e1, q1, d1⟩ := ha.lst
      obtain ⟨t2, vs2, e2, q2, d2⟩ := hb.lst
      obtain ⟨hc, h⟩ := h.cond
      have l1 := d1.length; have l2 := d2.length
      exact op_cat' pins s σ H x y v u Q I rx ry ⟨t, t2, vs, vs2, e1, e2, q1, q2, by omega, fun p hp => h.newLst (d1.app d2) hp⟩
  | sub =>
    cases a <;> cases b <;> first | exact h.no.elim | skip
    have e1 := ha.int; have e2 := hb.int
    exact op_sub pins s σ H x y v u Q I rx ry ⟨_, _, e1, e2, h.ok rfl⟩
  | mul =>
    cases a <;> cases b <;> first | exact h.no.elim | skip
    · have e1 := ha.int; have e2 := hb.int
      obtain ⟨hc, h⟩ := h.cond
      refine op_mul pins s σ H x y v u Q I rx ry ⟨_, _, e1, e2, ?_, h.ok rfl⟩
      rcases Bool.or_eq_true_iff.mp hc with c | c
      · exact .inl (small_int c)
      · exact .inr (small_int c)
    · obtain ⟨t, vs, e1, q1, d1⟩ := ha.tup
      have e2 := hb.int
      obtain ⟨⟨hc1, hc2, hc3, hc4⟩, h⟩ := h.cond
      have l1 := d1.length
      rw [← hK] at q1
      refine op_repT pins s σ H x y v u Q I rx ry ⟨t, _, vs, e1, e2, q1, fun e => ?_, hc1, hc2, by omega, fun p hp => h.newTup (d1.rep _) hp⟩
      subst e
      simp at l1
      omega
    · obtain ⟨t, vs, e1, q1, d1⟩ := ha.lst
      have e2 := hb.int
      obtain ⟨⟨hc1, hc2⟩, h⟩ := h.cond
      have l1 := d1.length
      have : big = 16777216 := rfl
      exact op_rep' pins s σ H x y v u Q I rx ry ⟨t, _, vs, e1, e2, q1, by omega, by omega, by rw [l1]; omega, fun p hp => h.newLst (d1.rep _) hp⟩
  | fdiv =>
    cases a <;> cases b <;> first | exact h.no.elim | skip
    have e1 := ha.int; have e2 := hb.int
    obtain ⟨hc, h⟩ := h.cond
    exact op_fdivN pins s σ H x y v u Q I rx ry ⟨_, _, e1, e2, hc, h.ok rfl⟩
  | mod =>
    cases a <;> cases b <;> first | exact h.no.elim | skip
    have e1 := ha.int; have e2 := hb.int
    obtain ⟨hc, h⟩ := h.cond
    exact op_modN pins s σ H x y v u Q I rx ry ⟨_, _, e1, e2, hc, h.ok rfl⟩
  | pow =>
    cases a <;> cases b <;> first | exact h.no.elim | skip
    have e1 := ha.int; have e2 := hb.int
    obtain ⟨⟨hc1, hc2, hc3⟩, h⟩ := h.cond
    exact op_pow pins s σ H x y v u Q I rx ry ⟨_, _, e1, e2, ⟨hc1, hc2, hc3⟩, h.ok rfl⟩
end BB
end
section
set_option Elab.async false
set_option linter.all false
set_option maxRecDepth 100000
set_option maxHeartbeats 1000000
/-! Plain data, ==, <, in. -/
namespace BB
open PySem PySem.Spec PyProof.Rows L2
mutual
def py : D → PyData
  | .non => .none
  | .bl b => .bool b
  | .int i => .int i
  | .str x => .str x
  | .tup l => .tuple (pys l)
  | .lst l => .list (pys l)
  | .dct _ => .none
  | .ins _ _ => .none
  | .me _ _ => .none
  | .draw => .none
def pys : List D → List PyData
  | [] => []
  | d :: l => py d :: pys l
end
theorem pys_map : ∀ l, pys l = l.map py
  | [] => rfl
  | d :: l => by rw [pys, pys_map l]; rfl
mutual
theorem pdn_py : ∀ {d : D} {n : Nat}, pdn n d = true → (py d).canLay0 = true ∧ (py d).depth ≤ n
  | .non, _, _ => by simp [py, PyData.canLay0, PyData.depth]
  | .bl _, _, _ => by simp [py, PyData.canLay0, PyData.depth]
  | .int _, _, _ => by simp [py, PyData.canLay0, PyData.depth]
  | .str x, _, h => by
    have h1 : (x.cps.all (fun c => Nat.blt c 1114112)) = true := by
      unfold pdn at h
      exact (Bool.and_eq_true_iff.mp h).1
    refine ⟨?_, by simp [py, PyData.depth]⟩
    show PyData.strOk x = true
    unfold PyData.strOk
    rw [Array.all_eq_true] at h1 ⊢
    intro i hi
    have := h1 i hi
    simp only [Nat.blt_eq] at this
    exact decide_eq_true this
  | .tup l, n, h => by
    cases n with
    | zero => unfold pdn at h; cases h
    | succ n =>
      obtain ⟨h1, h2⟩ := pdns_py (l := l) (n := n) (by unfold pdn at h; exact h)
      exact ⟨by simp [py, PyData.canLay0, h1], by simp [py, PyData.depth]; omega⟩
  | .lst l, n, h => by
    cases n with
    | zero => unfold pdn at h; cases h
    | succ n =>
      obtain ⟨h1, h2⟩ := pdns_py (l := l) (n := n) (by unfold pdn at h; exact h)
      exact ⟨by simp [py, PyData.canLay0, h1], by simp [py, PyData.depth]; omega⟩
  | .dct _, n, h => by cases n <;> (unfold pdn at h; cases h)
  | .ins _ _, n, h => by cases n <;> (unfold pdn at h; cases h)
  | .draw, n, h => by cases n <;> (unfold pdn at h; cases h)
theorem pdns_py : ∀ {l : List D} {n : Nat}, pdns n l = true → PyData.canLayAll0 (pys l) = true ∧ PyData.depthAll (pys l) ≤ n
  | [], _, _ => by simp [pys, PyData.canLayAll0, PyData.depthAll]
  | d :: l, n, h => by
    unfold pdns at h
    obtain ⟨h1, h2⟩ := Bool.and_eq_true_iff.mp h
    obtain ⟨a1, a2⟩ := pdn_py h1
    obtain ⟨b1, b2⟩ := pdns_py h2
    exact ⟨by simp [pys, PyData.canLayAll0, a1, b1], by simp [pys, PyData.depthAll]; omega⟩
end
theorem plain_shaped {d : D} (h : plain d = true) : SeqAt.shaped (py d) = true := by
  obtain ⟨h1, h2⟩ := pdn_py h
  unfold SeqAt.shaped
  rw [h1, Bool.true_and]
  exact decide_eq_true (by omega)
theorem plains_shaped {l : List D} (h : plains l = true) : SeqAt.shaped (.list (pys l)) = true := by
  obtain ⟨h1, h2⟩ := pdns_py h
  unfold SeqAt.shaped
  simp only [PyData.canLay0, h1, Bool.true_and, PyData.depth]
  exact decide_eq_true (by omega)
theorem pdns_mem {n : Nat} : ∀ {l : List D}, pdns n l = true → ∀ d ∈ l, pdn n d = true
  | d :: l, h, x, hx => by
    unfold pdns at h
    obtain ⟨h1, h2⟩ := Bool.and_eq_true_iff.mp h
    rcases List.mem_cons.mp hx with rfl | hx
    · exact h1
    · exact pdns_mem h2 x hx
mutual
/-- == is the library's -/
theorem eqv_py : ∀ {a b : D} {n m : Nat}, pdn n a = true → pdn m b = true → PyData.eqv (py a) (py b) = eqv a b
  | .tup l, b, n, m, h, k => by
    cases b with
    | tup r =>
      cases n with
      | zero => unfold pdn at h; cases h
      | succ n =>
        cases m with
        | zero => unfold pdn at k; cases k
        | succ m => simp only [py, PyData.eqv, eqv]; exact eqvs_py (n := n) (m := m) (by unfold pdn at h; exact h) (by unfold pdn at k; exact k)
    | dct _ => cases m <;> (unfold pdn at k; cases k)
    | ins _ _ => cases m <;> (unfold pdn at k; cases k)
    | me _ _ => cases m <;> (unfold pdn at k; cases k)
    | draw => cases m <;> (unfold pdn at k; cases k)
    | _ => simp [py, PyData.eqv, eqv]
  | .lst l, b, n, m, h, k => by
    cases b with
    | lst r =>
      cases n with
      | zero => unfold pdn at h; cases h
      | succ n =>
        cases m with
        | zero => unfold pdn at k; cases k
        | succ m => simp only [py, PyData.eqv, eqv]; exact eqvs_py (n := n) (m := m) (by unfold pdn at h; exact h) (by unfold pdn at k; exact k)
    | dct _ => cases m <;> (unfold pdn at k; cases k)
    | ins _ _ => cases m <;> (unfold pdn at k; cases k)
    | me _ _ => cases m <;> (unfold pdn at k; cases k)
    | draw => cases m <;> (unfold pdn at k; cases k)
    | _ => simp [py, PyData.eqv, eqv]
  | .non, b, n, m, h, k => by
    cases b with
    | dct _ => cases m <;> (unfold pdn at k; cases k)
    | ins _ _ => cases m <;> (unfold pdn at k; cases k)
    | me _ _ => cases m <;> (unfold pdn at k; cases k)
    | draw => cases m <;> (unfold pdn at k; cases k)
    | _ => simp [py, PyData.eqv, eqv]
  | .bl _, b, n, m, h, k => by
    cases b with
    | dct _ => cases m <;> (unfold pdn at k; cases k)
    | ins _ _ => cases m <;> (unfold pdn at k; cases k)
    | me _ _ => cases m <;> (unfold pdn at k; cases k)
    | draw => cases m <;> (unfold pdn at k; cases k)
    | _ => simp [py, PyData.eqv, eqv, b2i]
  | .int _, b, n, m, h, k => by
    cases b with
    | dct _ => cases m <;> (unfold pdn at k; cases k)
    | ins _ _ => cases m <;> (unfold pdn at k; cases k)
    | me _ _ => cases m <;> (unfold pdn at k; cases k)
    | draw => cases m <;> (unfold pdn at k; cases k)
    | _ => simp [py, PyData.eqv, eqv, b2i]
  | .str _, b, n, m, h, k => by
    cases b with
    | dct _ => cases m <;> (unfold pdn at k; cases k)
    | ins _ _ => cases m <;> (unfold pdn at k; cases k)
    | me _ _ => cases m <;> (unfold pdn at k; cases k)
    | draw => cases m <;> (unfold pdn at k; cases k)
    | _ => simp [py, PyData.eqv, eqv]
  | .dct _, _, n, _, h, _ => by cases n <;> (unfold pdn at h; cases h)
  | .ins _ _, _, n, _, h, _ => by cases n <;> (unfold pdn at h; cases h)
  | .me _ _, _, n, _, h, _ => by cases n <;> (unfold pdn at h; cases h)
  | .draw, _, n, _, h, _ => by cases n <;> (unfold pdn at h; cases h)
theorem eqvs_py : ∀ {l r : List D} {n m : Nat}, pdns n l = true → pdns m r = true → PyData.eqvAll (pys l) (pys r) = eqvs l r
  | [], [], _, _, _, _ => by simp [pys, PyData.eqvAll, eqvs]
  | [], _ :: _, _, _, _, _ => by simp [pys, PyData.eqvAll, eqvs]
  | _ :: _, [], _, _, _, _ => by simp [pys, PyData.eqvAll, eqvs]
  | a :: l, b :: r, n, m, h, k => by
    unfold pdns at h k
    obtain ⟨h1, h2⟩ := Bool.and_eq_true_iff.mp h
    obtain ⟨k1, k2⟩ := Bool.and_eq_true_iff.mp k
    simp only [pys, PyData.eqvAll, eqvs]
    rw [eqv_py h1 k1, eqvs_py h2 k2]
end
mutual
/-- alike is the library's -/
theorem alike_py : ∀ {a b : D}, alikeD a b = true → PySem.W.alike (py a) (py b) = true
  | .non, b, h => by cases b <;> first | (unfold alikeD at h; cases h; done) | rfl
  | .bl _, b, h => by cases b <;> first | (unfold alikeD at h; cases h; done) | rfl
  | .int _, b, h => by cases b <;> first | (unfold alikeD at h; cases h; done) | rfl
  | .str _, b, h => by cases b <;> first | (unfold alikeD at h; cases h; done) | rfl
  | .tup l, b, h => by
    cases b with
    | tup r => simp only [py, PySem.W.alike]; exact alikes_py (by unfold alikeD at h; exact h)
    | _ => unfold alikeD at h; cases h
  | .lst l, b, h => by
    cases b with
    | lst r => simp only [py, PySem.W.alike]; exact alikes_py (by unfold alikeD at h; exact h)
    | _ => unfold alikeD at h; cases h
  | .dct _, b, h => by cases b <;> (unfold alikeD at h; cases h)
  | .ins _ _, b, h => by cases b <;> (unfold alikeD at h; cases h)
  | .me _ _, b, h => by cases b <;> (unfold alikeD at h; cases h)
  | .draw, b, h => by cases b <;> (unfold alikeD at h; cases h)
theorem alikes_py : ∀ {l r : List D}, alikeDs l r = true → PySem.W.alikeAll (pys l) (pys r) = true
  | [], _, _ => by unfold pys; unfold PySem.W.alikeAll; rfl
  | _ :: _, [], _ => by simp [pys, PySem.W.alikeAll]
  | a :: l, b :: r, h => by
    unfold alikeDs at h
    obtain ⟨h1, h2⟩ := Bool.and_eq_true_iff.mp h
    simp only [pys, PySem.W.alikeAll]
    rw [alike_py h1, alikes_py h2]
    rfl
end
mutual
/-- < is the library's -/
theorem lt_py : ∀ {a b : D} {n m : Nat}, alikeD a b = true → pdn n a = true → pdn m b = true → PySem.W.dataLt (py a) (py b) = ltB a b
  | .non, b, n, m, h, _, _ => by cases b <;> first | (unfold alikeD at h; cases h; done) | rfl
  | .bl x, b, n, m, h, _, _ => by
    cases b with
    | bl y => simp only [py, ltB]; rw [PySem.W.dataLt_bool]; cases x <;> cases y <;> rfl
    | _ => unfold alikeD at h; cases h
  | .int _, b, n, m, h, _, _ => by
    cases b with
    | int y => simp only [py, ltB]; exact PySem.W.dataLt_int _ _
    | _ => unfold alikeD at h; cases h
  | .str _, b, n, m, h, _, _ => by
    cases b with
    | str y => simp only [py, ltB]; exact PySem.W.dataLt_str _ _
    | _ => unfold alikeD at h; cases h
  | .tup l, b, n, m, h, h1, h2 => by
    cases b with
    | tup r =>
      cases n with
      | zero => unfold pdn at h1; cases h1
      | succ n =>
        cases m with
        | zero => unfold pdn at h2; cases h2
        | succ m =>
          simp only [py, ltB]
          rw [PySem.W.dataLt_tuple]
          exact lts_py (n := n) (m := m) (by unfold alikeD at h; exact h) (by unfold pdn at h1; exact h1) (by unfold pdn at h2; exact h2)
    | _ => unfold alikeD at h; cases h
  | .lst l, b, n, m, h, h1, h2 => by
    cases b with
    | lst r =>
      cases n with
      | zero => unfold pdn at h1; cases h1
      | succ n =>
        cases m with
        | zero => unfold pdn at h2; cases h2
        | succ m =>
          simp only [py, ltB]
          rw [PySem.W.dataLt_list]
          exact lts_py (n := n) (m := m) (by unfold alikeD at h; exact h) (by unfold pdn at h1; exact h1) (by unfold pdn at h2; exact h2)
    | _ => unfold alikeD at h; cases h
  | .dct _, b, n, m, h, _, _ => by cases b <;> (unfold alikeD at h; cases h)
  | .ins _ _, b, n, m, h, _, _ => by cases b <;> (unfold alikeD at h; cases h)
  | .me _ _, b, n, m, h, _, _ => by cases b <;> (unfold alikeD at h; cases h)
  | .draw, b, n, m, h, _, _ => by cases b <;> (unfold alikeD at h; cases h)
theorem lts_py : ∀ {l r : List D} {n m : Nat}, alikeDs l r = true → pdns n l = true → pdns m r = true → PyProof.Rows.lexLt PyProof.Rows.itemOrd (PySem.W.keyToksAll (pys l)) (PySem.W.keyToksAll (pys r)) = ltBs l r
  | [], [], _, _, _, _, _ => by simp only [pys, ltBs]; unfold PySem.W.keyToksAll; decide
  | [], _ :: _, _, _, _, _, _ => by
    simp only [pys, ltBs]
    rw [PySem.W.toks_all_cons]
    unfold PySem.W.keyToksAll
    rfl
  | _ :: _, [], _, _, _, _, _ => by
    simp only [pys, ltBs]
    rw [PySem.W.toks_all_cons]
    unfold PySem.W.keyToksAll
    rfl
  | a :: l, b :: r, n, m, h, h1, h2 => by
    unfold alikeDs at h
    obtain ⟨e1, e2⟩ := Bool.and_eq_true_iff.mp h
    unfold pdns at h1 h2
    obtain ⟨p1, p2⟩ := Bool.and_eq_true_iff.mp h1
    obtain ⟨q1, q2⟩ := Bool.and_eq_true_iff.mp h2
    simp only [pys, ltBs]
    rw [PySem.W.dataLt_cons (alike_py e1), eqv_py p1 q1, lts_py e2 p2 q2, lt_py e1 p1 q1]
end
end BB
end
section
set_option Elab.async false
set_option linter.all false
set_option maxRecDepth 100000
set_option maxHeartbeats 1000000
/-! Rows of the text: stars, calls. -/
namespace BB
open PySem PySem.Spec PyProof.Rows L2
abbrev Ex := PySem.Expr
abbrev St1 := PySem.Stmt
def isStar : Ex → Bool
  | .Starred _ _ => true
  | _ => false
theorem star_cons {e : Ex} {es : List Ex} {env : PySem.Env} (h : isStar e = false) : starEach (e :: es) env = (false, eval e env) :: starEach es env := by
  cases e <;> first | rfl | (cases h; done)
theorem star_all {env : PySem.Env} : ∀ {es : List Ex}, es.any isStar = false → (starEach es env).any (·.1) = false
  | [], _ => rfl
  | e :: es, h => by
    rw [List.any_cons, Bool.or_eq_false_iff] at h
    rw [star_cons h.1, List.any_cons, star_all h.2]
    rfl
theorem back_any {pos : Pos} {l : List (Bool × Sem Value)} (h : l.any (·.1) = false) : (backTo pos l).any (·.1) = false := by
  unfold backTo
  rw [List.any_map]
  exact h
theorem star_len {env : PySem.Env} : ∀ {es : List Ex}, (starEach es env).length = es.length
  | [] => rfl
  | e :: es => by cases e <;> (show _ + 1 = _ + 1; rw [star_len])
/-- what asks nothing of its base but the object -/
def attOk : Ex → Bool
  | .Call (.Name id _) [] [] _ => id != ("super" : Str)
  | _ => true
theorem att_base {e : Ex} {f : Str} {env : PySem.Env} (h : attOk e = true) : attributeBase e f env (eval e env) = eval e env := by
  unfold attributeBase
  split
  · rename_i id p pos
    have h' : (id != ("super" : Str)) = true := h
    rw [if_pos (by simp only [h', Bool.true_or])]
  · rfl
/-- a method's call on one line -/
theorem meth_line {o : Ex} {m : Str} {apos pos : Pos} {args : List Ex} {env : PySem.Env} (hb : attOk o = true) (hl : (apos.endLine == pos.line) = true) (hs : args.any isStar = false) (hf : args.length < 20) :
    eval (.Call (.Attribute o m apos) args [] pos) env = (do
      let ov ← eval o env
      standAt apos.atName
      let (f, first) ← holding [ov] (getMethod ov m (plainOf o env))
      callWith pos f first (backTo pos (starEach args env)) (backToKw pos (keywordEach [] env))) := by
  have hm : methodCallForm (args.length + 0) (backTo pos (starEach args env)) (backToKw pos (keywordEach [] env)) = true := by
    unfold methodCallForm
    have h1 : (backTo pos (starEach args env)).all (fun x => !x.1) = true := by
      have := back_any (pos := pos) (star_all (env := env) hs)
      rw [List.any_eq_false] at this
      rw [List.all_eq_true]
      intro x hx
      have := this x hx
      simpa using this
    rw [h1]
    simp [backToKw, keywordEach]
    omega
  rw [arm_eval_Call, att_base hb]
  refine congrArg (fun k => eval o env >>= k) (funext fun ov => congrArg (fun k => standAt apos.atName >>= k) (funext fun _ => ?_))
  exact mcall_line hm hl
end BB
end
section
set_option Elab.async false
set_option linter.all false
set_option maxRecDepth 100000
set_option maxHeartbeats 1000000
/-! Targets. -/
namespace BB
open PySem PySem.Spec PyProof.Rows L2
/-- the slots behind a target -/
def Fr.bind (Γ : Fr) (p : Pat) (ρ' : Env) : Fr := { Γ with ρ := ρ', ω := minus Γ.ω p.names }
def Fr.bindL (Γ : Fr) (ns : List Nat) (ρ' : Env) : Fr := { Γ with ρ := ρ', ω := minus Γ.ω ns }
variable {G : Gc} {Γ : Fr} {σ : L2.St} {H : Hp}
theorem mem_minus {ω l : List Nat} {i : Nat} : i ∈ minus ω l ↔ i ∈ ω ∧ i ∉ l := by
  unfold minus
  rw [List.mem_filter]
  simp
theorem minus_minus (ω l m : List Nat) : minus (minus ω l) m = minus ω (l ++ m) := by
  unfold minus
  rw [List.filter_filter]
  congr 1
  funext i
  simp [Bool.and_comm]
/-- some are forgotten to be owned -/
theorem Rel.free (r : Rel G Γ σ H) : Rel G { Γ with ω := [] } σ H ∨ True := .inr trivial
/-- a slot is stored -/
theorem Rel.put (r : Rel G Γ σ H) {i : Nat} {d : D} {v : V} (hi : i < Γ.ρ.length) (hd : Den G (hid Γ.O H) d v) : Rel G (Γ.bindL [i] (Γ.ρ.set i (some d))) (σ.set i (some v)) H where
  gr := r.gr
  dr := r.dr
  drO := r.drO
  sub := r.sub
  low := r.low
  new := r.new
  live := r.live
  len := by show (Γ.ρ.set i (some d)).length = _; rw [List.length_set, List.length_set]; exact r.len
  val := fun j e h1 h2 => by
    have h2 : (Γ.ρ.set i (some d))[j]? = some (some e) := h2
    by_cases hj : i = j
    · subst hj
      rw [List.getElem?_set_self hi] at h2
      cases h2
      exact ⟨v, List.getElem?_set_self (by rw [← r.len]; exact hi), hd⟩
    · rw [List.getElem?_set_ne hj] at h2 ⊢
      refine r.val j e (fun z => h1 (mem_minus.mpr ⟨z, by simpa using fun q => hj q.symm⟩)) h2
  own := fun j hj => by
    obtain ⟨h1, h2⟩ := mem_minus.mp hj
    have hne : i ≠ j := fun q => h2 (by simp [q])
    obtain ⟨e, p, e1, e2, e3⟩ := r.own j h1
    exact ⟨e, p, (List.getElem?_set_ne hne).trans e1, (List.getElem?_set_ne hne).trans e2, e3⟩
  inj := fun j hj k hk e => by
    obtain ⟨h1, h2⟩ := mem_minus.mp hj
    obtain ⟨h3, h4⟩ := mem_minus.mp hk
    have hne : i ≠ j := fun q => h2 (by simp [q])
    have hne' : i ≠ k := fun q => h4 (by simp [q])
    rw [List.getElem?_set_ne hne, List.getElem?_set_ne hne'] at e
    exact r.inj j h1 k h3 e
  self := fun a c fs ha h0 e => by
    obtain ⟨h1, h2⟩ := mem_minus.mp h0
    have hne : i ≠ 0 := fun q => h2 (by simp [q])
    rw [List.getElem?_set_ne hne]
    exact r.self a c fs ha h1 ((List.getElem?_set_ne hne).symm.trans e)
theorem Rel.sub_own (r : Rel G Γ σ H) {l : List Nat} (hl : ∀ i ∈ l, i ∈ Γ.ω) (hv : ∀ i d, i ∈ Γ.ω → i ∉ l → Γ.ρ[i]? = some (some d) → ∃ v, σ[i]? = some (some v) ∧ Den G (hid Γ.O H) d v) : Rel G { Γ with ω := l } σ H where
  gr := r.gr
  dr := r.dr
  drO := r.drO
  sub := r.sub
  low := r.low
  new := r.new
  live := r.live
  len := r.len
  val := fun i d h1 h2 => by
    by_cases h : i ∈ Γ.ω
    · exact hv i d h h1 h2
    · exact r.val i d h h2
  own := fun i hi => r.own i (hl i hi)
  inj := fun i hi j hj e => r.inj i (hl i hi) j (hl j hj) e
  self := fun a c fs ha h0 e => r.self a c fs ha (hl 0 h0) e
/-- a target's reading -/
def gP (G : Gc) (p : Pat) : TG := fun v σ H Q => ∃ Γ d ρ', Rel G Γ σ H ∧ Den G (hid Γ.O H) d v ∧ p.bind d Γ.ρ = some ρ' ∧
  ∀ σ', Rel G (Γ.bind p ρ') σ' H → (∀ j, j ∉ p.names → σ'[j]? = σ[j]?) → σ'.length = σ.length → Q σ' H
def gPs (G : Gc) (ps : List Pat) : TGs := fun vs σ H Q => ∃ Γ ds ρ', Rel G Γ σ H ∧ DenL G (hid Γ.O H) ds vs ∧ Pat.binds ps ds Γ.ρ = some ρ' ∧
  ∀ σ', Rel G (Γ.bindL (Pat.namess ps) ρ') σ' H → (∀ j, j ∉ Pat.namess ps → σ'[j]? = σ[j]?) → σ'.length = σ.length → Q σ' H
mutual
def chkP (N : List Str) : Pat → Ex → Bool
  | .nm i, .Name x _ => decide (N[i]? = some x)
  | .tup ps, .Tuple es _ _ => chkPs N ps es
  | _, _ => false
def chkPs (N : List Str) : List Pat → List Ex → Bool
  | [], [] => true
  | p :: ps, e :: es => chkP N p e && chkPs N ps es
  | _, _ => false
end
theorem asg_cons {e : Ex} {es : List Ex} {env : PySem.Env} (h : isStar e = false) : assignEach (e :: es) env = (false, assign e env) :: assignEach es env := by
  cases e <;> first | rfl | (cases h; done)
theorem chkP_star {N : List Str} {p : Pat} {e : Ex} (h : chkP N p e = true) : isStar e = false := by
  cases e <;> first | rfl | skip
  cases p <;> (unfold chkP at h; cases h)
theorem asg_each {N : List Str} {env : PySem.Env} : ∀ {ps : List Pat} {es : List Ex}, chkPs N ps es = true → (assignEach es env).length = ps.length ∧ (assignEach es env).findIdx? (·.1) = none
  | [], [], _ => ⟨rfl, rfl⟩
  | p :: ps, e :: es, h => by
    unfold chkPs at h
    obtain ⟨h1, h2⟩ := Bool.and_eq_true_iff.mp h
    obtain ⟨a1, a2⟩ := asg_each (env := env) h2
    rw [asg_cons (chkP_star h1)]
    exact ⟨by rw [List.length_cons, List.length_cons, a1], by rw [List.findIdx?_cons]; simp [a2]⟩
  | [], _ :: _, h => by unfold chkPs at h; cases h
  | _ :: _, [], h => by unfold chkPs at h; cases h
variable {X : Cx}
theorem _root_.L2.PG.imp {e : Ex} {t t' : TG} (h : PG X e t) (w : ∀ v σ H Q, t' v σ H Q → t v σ H Q) : PG X e t' := ⟨fun pins s σ H v u Q I r hw => h.run pins s σ H v u Q I r (w v σ H Q hw)⟩
theorem _root_.L2.PGs.imp {e : List Ex} {t t' : TGs} (h : PGs X e t) (w : ∀ v σ H Q, t' v σ H Q → t v σ H Q) : PGs X e t' := ⟨fun pins s σ H v u Q I r hw => h.run pins s σ H v u Q I r (w v σ H Q hw)⟩
theorem minus_nil (ω : List Nat) : minus ω [] = ω := by unfold minus; simp
/-- the names of a target are the frame's -/
def MayPut (X : Cx) (i : Nat) : Prop := ∀ x, X.N[i]? = some x → Loc X.env.scope x ∧ (X.fn x = true ∨ X.env.scope.names.lookup x = some .local)
mutual
theorem pg_pat (hK : X.K = G.K) (hc : X.calm = true) (hN : X.N.Nodup) : ∀ (p : Pat) (e : Ex), chkP X.N p e = true → (∀ i ∈ p.names, MayPut X i) → PG X e (gP G p)
  | .nm i, e, h, hp => by
    cases e <;> first | (unfold chkP at h; cases h; done) | skip
    rename_i x pos
    have hx : X.N[i]? = some x := of_decide_eq_true (by unfold chkP at h; exact h)
    obtain ⟨h1, h2⟩ := hp i (by simp [Pat.names]) x hx
    refine (pg_name hN hx h1 h2).imp fun v σ H Q hq => ?_
    obtain ⟨Γ, d, ρ', R, hd, hb, hQ⟩ := hq
    unfold Pat.bind at hb
    split at hb
    · rename_i hi
      cases hb
      exact hQ _ (R.put hi hd) (fun j hj => List.getElem?_set_ne (by simp [Pat.names] at hj; exact fun z => hj z.symm)) (List.length_set ..)
    · cases hb
  | .tup ps, e, h, hp => by
    cases e <;> first | (unfold chkP at h; cases h; done) | skip
    rename_i es k pos
    have hx : chkPs X.N ps es = true := by unfold chkP at h; exact h
    obtain ⟨a1, a2⟩ := asg_each (env := X.env) hx
    refine (pg_tup hc (pg_pats hK hc hN ps es hx (fun i hi => hp i (by simpa [Pat.names] using hi))) a1 a2).imp fun v σ H Q hq => ?_
    obtain ⟨Γ, d, ρ', R, hd, hb, hQ⟩ := hq
    cases d <;> first | (unfold Pat.bind at hb; cases hb; done) | skip
    rename_i ds
    have hb : Pat.binds ps ds Γ.ρ = some ρ' := by unfold Pat.bind at hb; exact hb
    obtain ⟨a, vs, e3, q, dl⟩ := hd
    have hlen : ∀ {ps : List Pat} {ds : List D} {ρ ρ' : Env}, Pat.binds ps ds ρ = some ρ' → ds.length = ps.length := by
      intro ps
      induction ps with
      | nil => intro ds ρ ρ' hb; cases ds <;> first | rfl | (unfold Pat.binds at hb; cases hb)
      | cons p ps ih =>
        intro ds ρ ρ' hb
        cases ds with
        | nil => unfold Pat.binds at hb; cases hb
        | cons d ds =>
          unfold Pat.binds at hb
          split at hb
          · rw [List.length_cons, List.length_cons, ih hb]
          · cases hb
    refine ⟨a, vs, e3, by rw [hK]; exact SqT.mono hid_le q, by rw [dl.length, hlen hb], Γ, ds, ρ', R, dl, hb, fun σ' r' h1 h2 => hQ σ' ?_ (fun j hj => h1 j (by simpa [Pat.names] using hj)) h2⟩
    simpa [Fr.bind, Fr.bindL, Pat.names] using r'
theorem pg_pats (hK : X.K = G.K) (hc : X.calm = true) (hN : X.N.Nodup) : ∀ (ps : List Pat) (es : List Ex), chkPs X.N ps es = true → (∀ i ∈ Pat.namess ps, MayPut X i) → PGs X es (gPs G ps)
  | [], [], _, _ => by
    refine pgs_nil.imp fun vs σ H Q hq => ?_
    obtain ⟨Γ, ds, ρ', R, hd, hb, hQ⟩ := hq
    cases ds with
    | nil =>
      unfold Pat.binds at hb
      cases hb
      exact ⟨hd, hQ σ (by simpa [Fr.bindL, Pat.namess, minus_nil] using R) (fun _ _ => rfl) rfl⟩
    | cons _ _ => unfold Pat.binds at hb; cases hb
  | p :: ps, e :: es, h, hp => by
    unfold chkPs at h
    obtain ⟨h1, h2⟩ := Bool.and_eq_true_iff.mp h
    refine (pgs_cons (pg_pat hK hc hN p e h1 (fun i hi => hp i (by simp [Pat.namess, hi]))) (pg_pats hK hc hN ps es h2 (fun i hi => hp i (by simp [Pat.namess, hi])))
      (by rw [asg_cons (chkP_star h1)]; rfl)).imp fun vs σ H Q hq => ?_
    obtain ⟨Γ, ds, ρ', R, hd, hb, hQ⟩ := hq
    cases ds with
    | nil => unfold Pat.binds at hb; cases hb
    | cons d ds =>
      obtain ⟨v, r, e1, hv, hr⟩ := hd
      subst e1
      unfold Pat.binds at hb
      split at hb
      · rename_i ρ1 hb1
        refine ⟨v, r, rfl, Γ, d, ρ1, R, hv, hb1, fun σ1 R1 k1 l1 => ?_⟩
        refine ⟨Γ.bind p ρ1, ds, ρ', R1, hr, hb, fun σ2 R2 k2 l2 => hQ σ2 ?_ (fun j hj => ?_) (l2.trans l1)⟩
        · simpa [Fr.bind, Fr.bindL, Pat.namess, minus_minus] using R2
        · simp only [Pat.namess, List.mem_append, not_or] at hj
          exact (k2 j hj.2).trans (k1 j hj.1)
      · cases hb
  | [], _ :: _, h, _ => by unfold chkPs at h; cases h
  | _ :: _, [], h, _ => by unfold chkPs at h; cases h
end
end BB
end
section
set_option Elab.async false
set_option linter.all false
set_option maxRecDepth 100000
set_option maxHeartbeats 1000000
/-! The checker of expressions; what is asked by values. -/
namespace BB
open PySem PySem.Spec PyProof.Rows L2
/-- what the names of the text stand for -/
structure Ck where
  N : List Str
  nm : List Str
  fns : List (Str × Nat)
  cls : List (Str × Nat)
  cons : List (Str × D)
  free : List Str
  /-- whether _law_take may be called -/
  tk : Bool := true
abbrev bNames (b : Bi) : Str := match b with | .len => "len" | .bool => "bool" | .int => "int" | .min2 => "min" | .max2 => "max"
abbrev wNames (b : Bw) : Str := match b with | .list => "list" | .tuple => "tuple" | .sorted => "sorted" | .sum => "sum" | .min => "min" | .max => "max" | .all => "all" | .any => "any" | .dict => "dict"
abbrev mNames (b : Bm) : Str := match b with | .index => "index" | .count => "count" | .get1 => "get" | .get2 => "get"
def visB (sc : Scope) (x : Str) : Bool := match sc.names.lookup x with | some .local => true | some .cell => true | some .free => true | _ => false
def glB (sc : Scope) (x : Str) : Bool := match sc.names.lookup x with | some .globalImplicit => true | _ => false
def okName (x : Str) : Bool := !(x == ("__debug__" : Str)) && !(x == ("__classdict__" : Str)) && !(x == ("__name__" : Str))
def constB : D → Const → Bool
  | .int i, .int j => i == j
  | .str x, .str y => x == y
  | .bl a, .bool b => a == b
  | .non, .none => true
  | _, _ => false
def sameC : Option D → D → Bool
  | some (.int i), .int j => i == j
  | some (.str x), .str y => x == y
  | _, _ => false
def bopB : Bop → Operator → Bool
  | .add, .Add => true | .sub, .Sub => true | .mul, .Mult => true | .fdiv, .FloorDiv => true | .mod, .Mod => true | .pow, .Pow => true
  | _, _ => false
def copB : Cop → CmpOp → Bool
  | .eq, .Eq => true | .ne, .NotEq => true | .lt, .Lt => true | .le, .LtE => true | .gt, .Gt => true | .ge, .GtE => true
  | .isN, .Is => true | .notN, .IsNot => true | .isin, .In => true | .notin, .NotIn => true
  | _, _ => false
def notSl : Ex → Bool
  | .Slice .. => false
  | _ => true
def tyB (C : Ck) (sc : Scope) : Ty → Ex → Bool
  | .int, .Name x _ => x == ("int" : Str) && glB sc x && C.free.contains x
  | .bool, .Name x _ => x == ("bool" : Str) && glB sc x && C.free.contains x
  | .str, .Name x _ => x == ("str" : Str) && glB sc x && C.free.contains x
  | .lst, .Name x _ => x == ("list" : Str) && glB sc x && C.free.contains x
  | .tup, .Name x _ => x == ("tuple" : Str) && glB sc x && C.free.contains x
  | .dct, .Name x _ => x == ("dict" : Str) && glB sc x && C.free.contains x
  | .cls c, .Name x _ => glB sc x && okName x && decide (C.cls.lookup x = some c)
  | _, _ => false
def tysB (C : Ck) (sc : Scope) : List Ty → Ex → Bool
  | [t], .Name x p => tyB C sc t (.Name x p)
  | [t, u], .Tuple [a, b] _ _ => tyB C sc t a && tyB C sc u b
  | _, _ => false
def ownOfP (C : Ck) (ns : List Nat) : List (Str × Nat) := ns.map fun i => ((C.N[i]?).getD ⟨#[]⟩, i)
def mayB (N : List Str) (sc : Scope) (i : Nat) : Bool := match N[i]? with
  | some x => (match sc.names.lookup x with | some .local => true | some .cell => true | _ => false)
  | none => false
def oneLine (a b : Pos) : Bool := a.endLine == b.line
/-- a comprehension of a list or a dict -/
def isComp : Ex → Bool
  | .ListComp .. => true
  | .DictComp .. => true
  | _ => false
/-- pairs go to a tuple of names -/
def tgOk : It → Ex → Bool
  | .enum _, .Tuple .. => true
  | .enum _, _ => false
  | .zip2 _ _, .Tuple .. => true
  | .zip2 _ _, _ => false
  | .zip3 _ _ _, .Tuple .. => true
  | .zip3 _ _ _, _ => false
  | .items _, .Tuple .. => true
  | .items _, _ => false
  | _, _ => true
mutual
/-- the expression e is E, in the scope sc -/
def chk (C : Ck) : Scope → E → Ex → Bool
  | sc, .var i, .Name x _ => decide (C.N[i]? = some x) && visB sc x && okName x
  | sc, .cst d, .Constant c _ _ => constB d c
  | sc, .cst d, .Name x _ => glB sc x && okName x && sameC (C.cons.lookup x) d
  | sc, .tup es, .Tuple l _ _ => chks C sc es l
  | sc, .lst es, .List l _ => chks C sc es l
  | sc, .dct kvs, .Dict ks vs _ => chkd C sc kvs ks vs && Nat.ble ks.length 15
  | sc, .bin op a b, .BinOp l o r _ => bopB op o && chk C sc a l && chk C sc b r
  | sc, .neg a, .UnaryOp .USub x _ => chk C sc a x
  | sc, .not a, .UnaryOp .Not x _ => chk C sc a x
  | sc, .and a b, .BoolOp .And (x :: y :: r) p => chk C sc a x && (match r with | [] => chk C sc b y | _ => chk C sc b (.BoolOp .And (y :: r) p))
  | sc, .or a b, .BoolOp .Or (x :: y :: r) p => chk C sc a x && (match r with | [] => chk C sc b y | _ => chk C sc b (.BoolOp .Or (y :: r) p))
  | sc, .ite c a b, .IfExp t x y _ => chk C sc c t && chk C sc a x && chk C sc b y
  | sc, .cmp op a b, .Compare l [o] [r] _ => copB op o && chk C sc a l && chk C sc b r && !(behindInMarks o r)
  | sc, .cmp2 op op2 a b c, .Compare l [o, o2] [m, r] _ => copB op o && copB op2 o2 && chk C sc a l && chk C sc b m && chk C sc c r && !(behindInMarks o m) && !(behindInMarks o2 r)
  | sc, .idx a i, .Subscript v s _ => chk C sc a v && chk C sc i s && notSl s
  | sc, .slc a lo hi, .Subscript v (.Slice l h none _) _ => chk C sc a v && chkO C sc lo l && chkO C sc hi h
  | sc, .rev a, .Subscript v (.Slice none none (some (.UnaryOp .USub (.Constant (.int j) _ _) _)) _) _ => chk C sc a v && j == 1
  | sc, .att a f, .Attribute v x _ => chk C sc a v && attOk v && decide (C.nm[f]? = some x)
  | sc, .call f as, .Call (.Name x _) l [] _ => glB sc x && okName x && decide (C.fns.lookup x = some f) && chks C sc as l && !l.any isStar
  | sc, .mk c as, .Call (.Name x _) l [] _ => glB sc x && okName x && decide (C.cls.lookup x = some c) && chks C sc as l && !l.any isStar
  | sc, .meth a m as, .Call (.Attribute v x ap) l [] p => chk C sc a v && attOk v && decide (C.nm[m]? = some x) && chks C sc as l && !l.any isStar && oneLine ap p && Nat.blt l.length 20
  | sc, .bm m a as, .Call (.Attribute v x ap) l [] p => chk C sc a v && attOk v && x == mNames m && chks C sc as l && !l.any isStar && oneLine ap p && Nat.blt l.length 20 && !l.isEmpty
  | sc, .bi b as, .Call (.Name x _) l [] _ => x == bNames b && glB sc x && C.free.contains x && chks C sc as l && !l.any isStar && !l.isEmpty
  | sc, .bw b it, .Call (.Name x _) [a] [] _ => x == wNames b && glB sc x && C.free.contains x && chkI C sc it a && !isStar a
  | sc, .isi a ts, .Call (.Name x _) [v, t] [] _ => x == ("isinstance" : Str) && glB sc x && C.free.contains x && chk C sc a v && tysB C sc ts t && !isStar v
  | sc, .lc e p it cs, .ListComp el [⟨tg, src, ifs, 0⟩] scope _ => (tgOk it tg && chkI C sc it src) && chkP C.N p tg && p.names.all (mayB C.N scope) && blkC C.N sc scope (ownOfP C p.names) && Nat.ble ifs.length 1 && chks C (relS scope sc) cs ifs && chk C (relS scope sc) e el && !ifs.any isStar
  | sc, .dc k v p it cs, .DictComp ek el [⟨tg, src, ifs, 0⟩] scope _ => (tgOk it tg && chkI C sc it src) && chkP C.N p tg && p.names.all (mayB C.N scope) && blkC C.N sc scope (ownOfP C p.names) && Nat.ble ifs.length 1 && chks C (relS scope sc) cs ifs && chk C (relS scope sc) k ek && chk C (relS scope sc) v el && !ifs.any isStar
  | sc, .lc2 e p it cs p2 it2 cs2, .ListComp el [⟨tg, src, ifs, 0⟩, ⟨tg2, src2, ifs2, 0⟩] scope _ => (tgOk it tg && chkI C sc it src) && chkP C.N p tg && chkP C.N p2 tg2 && (p.names ++ p2.names).all (mayB C.N scope) && blkC C.N sc scope (ownOfP C (p.names ++ p2.names)) &&
      Nat.ble ifs.length 1 && chks C (relS scope sc) cs ifs && (tgOk it2 tg2 && chkI C (relS scope sc) it2 src2) && Nat.ble ifs2.length 1 && chks C (relS scope sc) cs2 ifs2 && chk C (relS scope sc) e el && !ifs.any isStar && !ifs2.any isStar
  | sc, .take a n, .Call (.Name x _) [u, v] [] _ => x == ("_law_take" : Str) && glB sc x && chk C sc a u && chk C sc n v && !isStar u && !isStar v && C.tk
  | _, _, _ => false
def chks (C : Ck) : Scope → Es → List Ex → Bool
  | _, .nil, [] => true
  | sc, .cons true e es, .Starred x _ :: l => chk C sc e x && chks C sc es l
  | sc, .cons false e es, x :: l => !isStar x && chk C sc e x && chks C sc es l
  | _, _, _ => false
def chkd (C : Ck) : Scope → Ks → List (Option Ex) → List Ex → Bool
  | _, .nil, [], [] => true
  | sc, .cons k v r, some x :: ks, y :: vs => chk C sc k x && chk C sc v y && chkd C sc r ks vs
  | _, _, _, _ => false
def chkO (C : Ck) : Scope → Oe → Option Ex → Bool
  | _, .none, none => true
  | sc, .some e, some x => chk C sc e x
  | _, _, _ => false
def chkI (C : Ck) : Scope → It → Ex → Bool
  | sc, .val e, x => chk C sc e x && (match x with | .Set .. => false | _ => true)
  | sc, .rng1 a, .Call (.Name x _) [u] [] _ => x == ("range" : Str) && glB sc x && C.free.contains x && chk C sc a u && !isStar u
  | sc, .rng2 a b, .Call (.Name x _) [u, v] [] _ => x == ("range" : Str) && glB sc x && C.free.contains x && chk C sc a u && chk C sc b v && !isStar u && !isStar v
  | sc, .rng3 a b c, .Call (.Name x _) [u, v, t] [] _ => x == ("range" : Str) && glB sc x && C.free.contains x && chk C sc a u && chk C sc b v && chk C sc c t && !isStar u && !isStar v && !isStar t
  | sc, .enum it, .Call (.Name x _) [u] [] _ => x == ("enumerate" : Str) && glB sc x && C.free.contains x && chkI C sc it u && !isStar u
  | sc, .zip2 a b, .Call (.Name x _) [u, v] [] _ => x == ("zip" : Str) && glB sc x && C.free.contains x && chkI C sc a u && chkI C sc b v && !isStar u && !isStar v
  | sc, .zip3 a b c, .Call (.Name x _) [u, v, t] [] _ => x == ("zip" : Str) && glB sc x && C.free.contains x && chkI C sc a u && chkI C sc b v && chkI C sc c t && !isStar u && !isStar v && !isStar t
  | sc, .items e, .Call (.Attribute v x ap) [] [] p => x == ("items" : Str) && chk C sc e v && attOk v && oneLine ap p
  | sc, .values e, .Call (.Attribute v x ap) [] [] p => x == ("values" : Str) && chk C sc e v && attOk v && oneLine ap p
  | _, _, _ => false
end
end BB
end
section
set_option Elab.async false
set_option linter.all false
set_option maxRecDepth 100000
set_option maxHeartbeats 2000000
/-! Expressions. -/
namespace BB
open PySem PySem.Spec PyProof.Rows L2
def VwL (G : Gc) (O : List Addr) (H : Hp) : List D → List V → Prop
  | [], vs => vs = []
  | d :: l, vs => ∃ v r, vs = v :: r ∧ Vw G O H d v ∧ VwL G O H l r
def SeesL (G : Gc) (O : List Addr) (H : Hp) (m : Bool) (l : List D) (vs : List V) : Prop := if m then VwL G O H l vs else DenL G (hid O H) l vs
def lksM (m : Bool) (es : Es) : List Nat := if m then lksB es else lks es
def bmMode : Bm → Bool
  | .get2 => false
  | _ => true
def biMode : Bi → Bool
  | .min2 => false
  | .max2 => false
  | _ => true
/-- what walks l, as long as what it leans on stands -/
def Wk (G : Gc) (m : Bool) (O : List Addr) (H : Hp) (l : List D) (J : L2.It) : Prop :=
  ∀ i O2 H2, Same (hid O H) (hid O2 H2) → (m = true → ∀ a ∈ O, a ≠ G.dr → H2 a = H a) → (∀ a ∈ O2, ∃ o, H2 a = some o) → Dr G H2 →
   (l.length ≤ i → J.stop i H2) ∧ ∀ d, l[i]? = some d → J.go i H2 ∧ ∀ x H3, J.yld i H2 x H3 → Same H2 H3 ∧ Den G (hid O2 H3) d x
def lkIM (m : Bool) (it : It) : List Nat := if m then lkI it else lkF it
section
variable (G : Gc) (cl : Cal) (mk : Mak) (W : WS)
def tA (m : Bool) (es : Es) : TA := fun σ H Q => ∃ Γ, Rel G Γ σ H ∧ (∀ i ∈ lksM m es, i ∉ Γ.ω) ∧
  (evs G.T cl mk es Γ.ρ).wp (fun l => ∀ vs H', Grow G H H' → Dr G H' → SeesL G Γ.O H' m l vs → Q vs H') (Rst G Γ.O H (W σ))
/-- tests, one behind the other -/
def tTs (es : Es) : TT := fun σ H Q => ∃ Γ, Rel G Γ σ H ∧ (∀ i ∈ lksB es, i ∉ Γ.ω) ∧
  (evT G.T cl mk es Γ.ρ).wp (fun b => ∀ H', Grow G H H' → Dr G H' → Q b H') (Rst G Γ.O H (W σ))
def tI (m : Bool) (it : It) : TI := fun σ H R => ∃ Γ, Rel G Γ σ H ∧ (∀ i ∈ lkIM m it, i ∉ Γ.ω) ∧
  (evI G.T cl mk it Γ.ρ).wp (fun l => ∀ J H', Grow G H H' → Dr G H' → Wk G m Γ.O H' l J → R J H') (Rst G Γ.O H (W σ))
/-- a new list or dict -/
def tF (e : E) : TE := fun σ H Q => ∃ Γ, Rel G Γ σ H ∧ (∀ i ∈ BB.lk e, i ∉ Γ.ω) ∧ (ev G.T cl mk e Γ.ρ).wp (Wn G Γ.O H Q) (Rst G Γ.O H (W σ))
def tO (o : Oe) : TO := fun σ H Q => ∃ Γ, Rel G Γ σ H ∧ (∀ i ∈ lkO o, i ∉ Γ.ω) ∧
  (evO G.T cl mk o Γ.ρ).wp (fun oi => ∀ H', Grow G H H' → Dr G H' → Q oi H') (Rst G Γ.O H (W σ))
/-! by values -/
abbrev rCmp (op : Cop) : R2 := fun x y H Q => ∃ O W a b, Vw G O H a x ∧ Vw G O H b y ∧ Out G O H W (cmpR G.T cl op a b) Q
abbrev rIdx : R2 := fun x y H Q => ∃ O W a b, Vw G O H a x ∧ Vw G O H b y ∧ Out G O H W (index a b) Q
abbrev rSlc : V → Option Int → Option Int → Hp → VK → Prop := fun x lo hi H Q => ∃ O W a, Vw G O H a x ∧ Out G O H W (sliceI a lo hi) Q
abbrev rTru : V → Hp → (Bool → Hp → Prop) → Prop := fun x H Q => ∃ O W a, Vw G O H a x ∧ G.dr ∈ O ∧ (∀ a ∈ O, ∃ o, H a = some o) ∧ Dr G H ∧ (truR G.T cl a).wp (fun b => ∀ H', Grow G H H' → Dr G H' → Q b H') (Rst G O H W)
abbrev rBinF (G : Gc) (op : Bop) : R2 := fun x y H Q => ∃ O W a b, Vw G O H a x ∧ Vw G O H b y ∧ OutF G O H W (binop op a b) Q
def copOf : Cop → CmpOp
  | .eq => .Eq | .ne => .NotEq | .lt => .Lt | .le => .LtE | .gt => .Gt | .ge => .GtE | .isN => .Is | .notN => .IsNot | .isin => .In | .notin => .NotIn
/-- a call by values; r is the result on data -/
def VCall (X : Cx) (W : WS) (f : Value) (r : List D → Res D) : Prop :=
  ∀ (pins : List (Addr × Obj)) (s : Shared) (σ : L2.St) (H : Hp) (vs : List V) (us : List Value) (Q : VK), Inv X pins σ H s → Vals vs us →
    (∃ O ds, DenL G (hid O H) ds vs ∧ Out G O H (W σ) (r ds) Q) → wpAny (model X.prog X.w) X.A (PySem.call f us) (EP X pins σ Q) X.xe s
abbrev rBi (b : Bi) : List V → Hp → VK → Prop := fun vs H Q => ∃ O W ds, VwL G O H ds vs ∧ Out G O H W (biR b ds) Q
abbrev rBm (m : Bm) (a : D) : V → List V → Hp → VK → Prop := fun x vs H Q => ∃ O W ds, Vw G O H a x ∧ VwL G O H ds vs ∧ (m = .get2 → DenL G (hid O H) ds vs) ∧ Out G O H W (bmop m a ds) Q
/-- _law_take: some number below -/
def takeR : List D → Res D
  | [.draw, .int j] => if 0 < j then .ask j.toNat fun i => .ok (.int i) else .stuck
  | _ => .stuck
/-- the leaves of what is walked do what the interpreter says -/
def Lf (W : WS) (X : Cx) : It → Ex → Prop
  | .val e, x => ∀ m, PE X x (tE G cl mk W m e)
  | .rng1 a, .Call _ [u] _ _ => ∀ m, PE X u (tE G cl mk W m a)
  | .rng2 a b, .Call _ [u, v] _ _ => ∀ m, PE X u (tE G cl mk W m a) ∧ PE X v (tE G cl mk W m b)
  | .rng3 a b c, .Call _ [u, v, t] _ _ => ∀ m, PE X u (tE G cl mk W m a) ∧ PE X v (tE G cl mk W m b) ∧ PE X t (tE G cl mk W m c)
  | .enum i, .Call _ [u] _ _ => Lf W X i u
  | .zip2 a b, .Call _ [u, v] _ _ => Lf W X a u ∧ Lf W X b v
  | .zip3 a b c, .Call _ [u, v, t] _ _ => Lf W X a u ∧ Lf W X b v ∧ Lf W X c t
  | .items e, .Call (.Attribute x _ _) _ _ _ => ∀ m, PE X x (tE G cl mk W m e)
  | .values e, .Call (.Attribute x _ _) _ _ _ => ∀ m, PE X x (tE G cl mk W m e)
  | _, _ => False
structure Rl (C : Ck) (X : Cx) : Prop where
  N : X.N = C.N
  K : X.K = G.K
  calm : X.calm = true
  w : X.w = G.w
  room : X.A.units + 100 < cLine
  nd : X.N.Nodup
  kind : X.env.scope.kind = .function
  free : ∀ x, C.free.contains x = true → X.mg x = none
  nm : G.nm = C.nm
  inj : C.nm.Nodup
  cons : ∀ x d, C.cons.lookup x = some d → (∃ i t, d = .int i ∧ X.mg x = some (.int i t)) ∨ (∃ y t, d = .str y ∧ X.mg x = some (.str y t)) ∨ ((∀ i, d ≠ .int i) ∧ ∀ y, d ≠ .str y)
  bin : ∀ op, OpR X (binaryOp (opOf op)) (rBin G op)
  binF : ∀ op, (op = .add ∨ op = .mul) → OpR X (binaryOp (opOf op)) (rBinF G op)
  cmp : ∀ op, OpR X (compareOp (copOf op)) (rCmp G cl op)
  idx : IxR X (rIdx G)
  slc : SlR X (rSlc G)
  tru : TruR X (rTru G cl)
  bi : ∀ b, (∃ id, bootBuiltins (bNames b) = some (.builtin id) ∧ CallR X (.builtin id) (rBi G b)) ∨ (∃ t, bootBuiltins (bNames b) = some (.type t) ∧ CallR X (.type t) (rBi G b))
  cls : ∀ x c, C.cls.lookup x = some c → X.mg x = some (.ref (G.cad c)) ∧ PySem.W.keepIn X.K (.ref (G.cad c)) = true
  ins : ∀ c, c < G.T.cls.length → Cls X.K (G.cad c)
  noat : ∀ c f, G.T.noMeth c f = true → NoAttr X.K (G.cad c) (name G f)
  cad : ∀ c d, c < G.T.cls.length → d < G.T.cls.length → G.cad c = G.cad d → c = d
  nmne : ∀ (f : Nat) (x : PySem.Str), C.nm[f]? = some x → x ≠ (⟨#[]⟩ : PySem.Str)
  bm : ∀ (m : Bm) (o : Ex) (l : List Ex) (ap p : Pos) (to : TE) (ta : TA), PE X o to → PA X l ta → attOk o = true → oneLine ap p = true → l.any isStar = false → l.length < 20 → l ≠ [] →
    PE X (.Call (.Attribute o (mNames m) ap) l [] p) (fun σ H Q => to σ H fun x H1 => ∃ O a, Vw G O H1 a x ∧ bmChk m a = true ∧ ta σ H1 fun vs H2 => rBm G m a x vs H2 Q)
  isi : ∀ (ts : List Ty) (v t : Ex) (p1 p : Pos) (tv : TE) (sc : Scope), X.env.scope = sc → PE X v tv → tysB C sc ts t = true → glB sc "isinstance" = true → C.free.contains "isinstance" = true → isStar v = false →
    PE X (.Call (.Name "isinstance" p1) [v, t] [] p) (fun σ H Q => tv σ H fun x H1 => ∃ O a, G.dr ∈ O ∧ Vw G O H1 a x ∧ isiOk G.T a = true ∧ Dr G H1 ∧ ∀ H2, Grow G H1 H2 → Dr G H2 → Q (.bl (ts.any fun t => isTy t a)) H2)
structure RlW (C : Ck) (W : WS) (X : Cx) : Prop where
  it : ∀ (i : It) (src tg : Ex) (sc : Scope) (m : Bool), tgOk i tg = true → chkI C sc i src = true → X.env.scope = sc → Lf G cl mk W X i src → PI X tg src (tI G cl mk W m i)
  bw : ∀ (b : Bw) (i : It) (a : Ex) (p1 p : Pos) (sc : Scope) (m : Bool), chkI C sc i a = true → X.env.scope = sc → glB sc (wNames b) = true → C.free.contains (wNames b) = true → isStar a = false → Lf G cl mk W X i a →
    PE X (.Call (.Name (wNames b) p1) [a] [] p) (tE G cl mk W m (.bw b i))
  bwF : ∀ (b : Bw) (i : It) (a : Ex) (p1 p : Pos) (sc : Scope), chkI C sc i a = true → X.env.scope = sc → glB sc (wNames b) = true → C.free.contains (wNames b) = true → isStar a = false → Lf G cl mk W X i a → fresh (.bw b i) = true →
    PE X (.Call (.Name (wNames b) p1) [a] [] p) (tF G cl mk W (.bw b i))
  fn : ∀ x f, C.fns.lookup x = some f → X.mg x = some (.ref (G.fad f)) ∧ PySem.W.keepIn X.K (.ref (G.fad f)) = true
  call : ∀ f, VCall G X W (.ref (G.fad f)) (cl f)
  make : ∀ c, VCall G X W (.ref (G.cad c)) (mk c)
  meth : ∀ c m k, ((G.T.cls[c]?).map Cl.ms).bind (List.lookup m) = some k → Meth X.K (G.cad c) (name G m) (G.fad k) ∧ ∃ x, C.nm[m]? = some x
  take : C.tk = true → ∀ (u v : Ex) (p1 p : Pos) (tu tv : TE), PE X u tu → PE X v tv → glB X.env.scope "_law_take" = true → isStar u = false → isStar v = false →
    PE X (.Call (.Name "_law_take" p1) [u, v] [] p) (fun σ H Q => tu σ H fun x H1 => tv σ H1 fun y H2 => ∃ O ds, DenL G (hid O H2) ds [x, y] ∧ Out G O H2 (W σ) (takeR ds) Q)
end
end BB
end
section
set_option Elab.async false
set_option linter.all false
set_option maxRecDepth 100000
set_option maxHeartbeats 4000000
/-! What the walk through expressions leans on. -/
namespace BB
open PySem PySem.Spec PyProof.Rows L2
theorem _root_.L2.PE.imp {X : Cx} {e : Ex} {t t' : TE} (h : PE X e t) (w : ∀ σ H Q, t' σ H Q → t σ H Q) : PE X e t' := ⟨fun pins s σ H Q I hw => h.run pins s σ H Q I (w σ H Q hw)⟩
theorem _root_.L2.PT.imp {X : Cx} {e : Ex} {t t' : TT} (h : PT X e t) (w : ∀ σ H Q, t' σ H Q → t σ H Q) : PT X e t' := ⟨fun pins s σ H Q I hw => h.run pins s σ H Q I (w σ H Q hw)⟩
theorem _root_.L2.PW.imp {X : Cx} {e : Ex} {t t' : TT} (h : PW X e t) (w : ∀ σ H Q, t' σ H Q → t σ H Q) : PW X e t' := ⟨fun wh pins s σ H Q I hw => h.run wh pins s σ H Q I (w σ H Q hw)⟩
theorem _root_.L2.PA.imp {X : Cx} {e : List Ex} {t t' : TA} (h : PA X e t) (w : ∀ σ H Q, t' σ H Q → t σ H Q) : PA X e t' := ⟨fun p pins s σ H Q I hw => h.run p pins s σ H Q I (w σ H Q hw)⟩
theorem _root_.L2.PI.imp {X : Cx} {tg e : Ex} {t t' : TI} (h : PI X tg e t) (w : ∀ σ H Q, t' σ H Q → t σ H Q) : PI X tg e t' := ⟨fun pins s σ H Q I hw => h.run pins s σ H Q I (w σ H Q hw)⟩
theorem _root_.L2.PTs.imp {X : Cx} {e : List Ex} {t t' : TT} (h : PTs X e t) (w : ∀ σ H Q, t' σ H Q → t σ H Q) : PTs X e t' := ⟨fun pins s σ H Q I hw => h.run pins s σ H Q I (w σ H Q hw)⟩
variable {G : Gc} {C : Ck} {cl : Cal} {mk : Mak} {W : WS} {X : Cx} {Γ : Fr} {σ : L2.St} {H : Hp} {Q : VK}
/-- the wanted end -/
abbrev Wt (G : Gc) (O : List Addr) (H : Hp) (m : Bool) (Q : VK) : D → Prop := fun d => ∀ v H', Grow G H H' → Dr G H' → Sees G O H' m d v → Q v H'
theorem Rel.res {m : Bool} (R : Rel G Γ σ H) {r : Res D} {H1 : Hp} (g : Grow G H H1) (d : Dr G H1) (h : r.wp (Wt G Γ.O H m Q) (Rst G Γ.O H (W σ))) : Out G Γ.O H1 (W σ) r Q :=
  (R.grow g d).out (Res.wp_mono (fun d k v H' a b c => k v H' (g.trans a) b (Sees.of c)) (fun c x k => k.grow g) h)
theorem lk_l {ω a b : List Nat} (h : ∀ i ∈ a ++ b, i ∉ ω) : ∀ i ∈ a, i ∉ ω := fun i hi => h i (List.mem_append_left _ hi)
theorem lk_r {ω a b : List Nat} (h : ∀ i ∈ a ++ b, i ∉ ω) : ∀ i ∈ b, i ∉ ω := fun i hi => h i (List.mem_append_right _ hi)
/-- an expression's reading, from what follows it -/
theorem one_tE {m : Bool} {a : E} (R : Rel G Γ σ H) (lk : ∀ i ∈ lkM m a, i ∉ Γ.ω) {β : Type} {k : D → Res β} {P : VK} {S : β → Prop} {RR : Nat → Fs → Prop}
    (h : ((ev G.T cl mk a Γ.ρ).bind k).wp S (Rst G Γ.O H (W σ))) (f : ∀ d v H', Grow G H H' → Dr G H' → Sees G Γ.O H' m d v → (k d).wp S (Rst G Γ.O H (W σ)) → P v H') : tE G cl mk W m a σ H P :=
  ⟨Γ, R, lk, Res.wp_mono (fun d q v H' g dr s => f d v H' g dr s q) (fun _ _ q => q) (Res.wp_bind.mp h)⟩
theorem two_tE {m1 m2 : Bool} {a b : E} (R : Rel G Γ σ H) (la : ∀ i ∈ lkM m1 a, i ∉ Γ.ω) (lb : ∀ i ∈ lkM m2 b, i ∉ Γ.ω) {β : Type} {k : D → D → Res β} {P : V → V → Hp → Prop} {S : β → Prop}
    (h : ((ev G.T cl mk a Γ.ρ).bind fun x => (ev G.T cl mk b Γ.ρ).bind (k x)).wp S (Rst G Γ.O H (W σ)))
    (f : ∀ d e v u H', Grow G H H' → Dr G H' → Sees G Γ.O H' m1 d v → Sees G Γ.O H' m2 e u → (k d e).wp S (Rst G Γ.O H (W σ)) → P v u H') :
    tE G cl mk W m1 a σ H fun x H1 => tE G cl mk W m2 b σ H1 fun y H2 => P x y H2 :=
  one_tE (RR := fun _ _ => True) R la h fun d v H1 g1 d1 s1 q => ⟨Γ, R.grow g1 d1, lb, Res.wp_mono (fun e q v2 H2 g2 d2 s2 => f d e v v2 H2 (g1.trans g2) d2 (s1.grow g2 R.drO) s2 q) (fun _ _ q => q.grow g1) (Res.wp_bind.mp q)⟩
theorem opOf_of {op : Bop} {o : Operator} (h : bopB op o = true) : o = opOf op := by cases op <;> cases o <;> first | rfl | exact absurd h (show ¬ (false = true) from Bool.noConfusion)
theorem copOf_of {op : Cop} {o : CmpOp} (h : copB op o = true) : o = copOf op := by cases op <;> cases o <;> first | rfl | exact absurd h (show ¬ (false = true) from Bool.noConfusion)
theorem vis_of {sc : Scope} {x : Str} (h : visB sc x = true) : sc.names.lookup x = some .local ∨ sc.names.lookup x = some .cell ∨ sc.names.lookup x = some .free := by
  unfold visB at h
  split at h
  · rename_i e; exact .inl e
  · rename_i e; exact .inr (.inl e)
  · rename_i e; exact .inr (.inr e)
  · cases h
theorem gl_of {x : Str} (h : glB X.env.scope x = true) : Gl X x := by
  unfold glB at h
  split at h
  · rename_i e; exact e
  · cases h
theorem name_of {x : Str} (h : okName x = true) : (x == ("__debug__" : Str)) = false ∧ (x == ("__classdict__" : Str)) = false ∧ x ≠ "__name__" := by
  unfold okName at h
  simp only [Bool.and_eq_true, Bool.not_eq_true'] at h
  exact ⟨h.1.1, h.1.2, fun e => by rw [e] at h; exact absurd h.2 (by decide)⟩
theorem ands {a b : Bool} (h : (a && b) = true) : a = true ∧ b = true := Bool.and_eq_true_iff.mp h
theorem notB {a : Bool} (h : (!a) = true) : a = false := by simpa using h
theorem VwL.of {O : List Addr} : ∀ {l : List D} {vs : List V}, DenL G (hid O H) l vs → VwL G O H l vs
  | [], _, h => h
  | d :: l, _, h => by
    obtain ⟨v, r, h1, h2, h3⟩ := h
    exact ⟨v, r, h1, .inl h2, VwL.of h3⟩
theorem VwL.grow {O : List Addr} {H' : Hp} (g : Grow G H H') (dr : G.dr ∈ O) : ∀ {l : List D} {vs : List V}, VwL G O H l vs → VwL G O H' l vs
  | [], _, h => h
  | d :: l, _, h => by
    obtain ⟨v, r, h1, h2, h3⟩ := h
    exact ⟨v, r, h1, h2.grow g dr, h3.grow g dr⟩
theorem SeesL.vw {O : List Addr} {m : Bool} {l : List D} {vs : List V} (h : SeesL G O H m l vs) : VwL G O H l vs := by
  cases m with
  | true => exact h
  | false => exact VwL.of h
theorem SeesL.grow {O : List Addr} {H' : Hp} {m : Bool} {l : List D} {vs : List V} (h : SeesL G O H m l vs) (g : Grow G H H') (dr : G.dr ∈ O) : SeesL G O H' m l vs := by
  cases m with
  | true => exact VwL.grow g dr h
  | false => exact DenL.mono (g.hid dr) h
theorem SeesL.cons {O : List Addr} {m : Bool} {d : D} {l : List D} {v : V} {vs : List V} (h : Sees G O H m d v) (k : SeesL G O H m l vs) : SeesL G O H m (d :: l) (v :: vs) := by
  cases m with
  | true => exact ⟨v, vs, rfl, h, k⟩
  | false => exact ⟨v, vs, rfl, h, k⟩
theorem args_tA {m : Bool} {es : Es} (R : Rel G Γ σ H) (lk : ∀ i ∈ lksM m es, i ∉ Γ.ω) {β : Type} {k : List D → Res β} {P : List V → Hp → Prop} {S : β → Prop}
    (h : ((evs G.T cl mk es Γ.ρ).bind k).wp S (Rst G Γ.O H (W σ))) (f : ∀ l vs H', Grow G H H' → Dr G H' → SeesL G Γ.O H' m l vs → (k l).wp S (Rst G Γ.O H (W σ)) → P vs H') : tA G cl mk W m es σ H P :=
  ⟨Γ, R, lk, Res.wp_mono (fun l q vs H' g dr s => f l vs H' g dr s q) (fun _ _ q => q) (Res.wp_bind.mp h)⟩
theorem wp_if {c : Prop} [Decidable c] {β : Type} {r : Res β} {S : β → Prop} {R : Nat → Fs → Prop} (h : (if c then r else .stuck : Res β).wp S R) : c ∧ r.wp S R := by
  by_cases e : c
  · rw [if_pos e] at h; exact ⟨e, h⟩
  · rw [if_neg e] at h; exact h.elim
theorem isStar_ne {e : Ex} (h : isStar e = false) : ∀ x p, e ≠ .Starred x p := fun x p z => by rw [z] at h; cases h

theorem wp_assoc {α β γ : Type} {r : Res α} {f : α → Res β} {g : β → Res γ} {S : γ → Prop} {R : Nat → Fs → Prop} (h : (r.bind fun x => (f x).bind g).wp S R) : (r.bind f).wp (fun y => (g y).wp S R) R :=
  Res.wp_bind.mpr (Res.wp_mono (fun _ q => Res.wp_bind.mp q) (fun _ _ q => q) (Res.wp_bind.mp h))
theorem Rel.tru_of (R : Rel G Γ σ H) {H1 : Hp} (g : Grow G H H1) (dr : Dr G H1) {d : D} {v : V} (s : Vw G Γ.O H1 d v) {β : Type} {k : Bool → Res β} {S : β → Prop} {P : Bool → Hp → Prop}
    (q : ((truR G.T cl d).bind k).wp S (Rst G Γ.O H (W σ))) (f : ∀ b H2, Grow G H1 H2 → Dr G H2 → (k b).wp S (Rst G Γ.O H (W σ)) → P b H2) : rTru G cl v H1 P :=
  ⟨Γ.O, W σ, d, s, R.drO, (R.grow g dr).live, dr, Res.wp_mono (fun b k H2 g2 d2 => f b H2 g2 d2 k) (fun _ _ k => k.grow g) (Res.wp_bind.mp q)⟩
theorem Rel.out' (R : Rel G Γ σ H) {H1 : Hp} (g : Grow G H H1) (dr : Dr G H1) {r : Res D} {Q : VK} (h : r.wp (fun d => ∀ v H', Grow G H H' → Dr G H' → Den G (hid Γ.O H') d v → Q v H') (Rst G Γ.O H (W σ))) : Out G Γ.O H1 (W σ) r Q :=
  (R.grow g dr).out (Res.wp_mono (fun d k v H' a b c => k v H' (g.trans a) b c) (fun c x k => k.grow g) h)
theorem pe_notR {r : V → Hp → (Bool → Hp → Prop) → Prop} {a : Ex} {ta : TE} {pos : Pos} (T : TruR X r) (ha : PE X a ta) : PE X (.UnaryOp .Not a pos) (fun σ H Q => ta σ H fun x H1 => r x H1 fun b H2 => Q (.bl (!b)) H2) := by
  refine ⟨fun pins s σ H Q I h => ?_⟩
  refine UnaryOp_ (thn (ha.run pins s σ H _ I h) fun v s1 ⟨x, H1, I1, r1, q1⟩ => ?_)
  exact PyProof.Rows.not_of (thn (T pins s1 σ H1 x v _ I1 r1 q1) fun b s2 ⟨H2, I2, q2⟩ => ⟨.bl (!b), H2, I2, rfl, q2⟩)
theorem pe_andR {r : V → Hp → (Bool → Hp → Prop) → Prop} {a b : Ex} {rest : List Ex} {ta tb : TE} {pos : Pos} (T : TruR X r) (ha : PE X a ta) (hb : PE X (.BoolOp .And (b :: rest) pos) tb) :
    PE X (.BoolOp .And (a :: b :: rest) pos) (fun σ H Q => ta σ H fun x H1 => r x H1 fun c H2 => if c = true then tb σ H2 Q else Q x H2) := by
  refine ⟨fun pins s σ H Q I h => ?_⟩
  refine BoolOp_and (thn (ha.run pins s σ H _ I h) fun v s1 ⟨x, H1, I1, r1, q1⟩ => thn (T pins s1 σ H1 x v _ I1 r1 q1) fun c s2 ⟨H2, I2, q2⟩ => ?_)
  cases c with
  | true => exact hb.run pins s2 σ H2 Q I2 q2
  | false => exact ⟨x, H2, I2, r1, q2⟩
theorem pe_orR {r : V → Hp → (Bool → Hp → Prop) → Prop} {a b : Ex} {rest : List Ex} {ta tb : TE} {pos : Pos} (T : TruR X r) (ha : PE X a ta) (hb : PE X (.BoolOp .Or (b :: rest) pos) tb) :
    PE X (.BoolOp .Or (a :: b :: rest) pos) (fun σ H Q => ta σ H fun x H1 => r x H1 fun c H2 => if c = true then Q x H2 else tb σ H2 Q) := by
  refine ⟨fun pins s σ H Q I h => ?_⟩
  refine BoolOp_or (thn (ha.run pins s σ H _ I h) fun v s1 ⟨x, H1, I1, r1, q1⟩ => thn (T pins s1 σ H1 x v _ I1 r1 q1) fun c s2 ⟨H2, I2, q2⟩ => ?_)
  cases c with
  | true => exact ⟨x, H2, I2, r1, q2⟩
  | false => exact hb.run pins s2 σ H2 Q I2 q2
theorem pt_R {r : V → Hp → (Bool → Hp → Prop) → Prop} {a : Ex} {ta : TE} (T : TruR X r) (ha : PE X a ta) (he : ∀ whole, isTrue a X.env whole = (do let v ← whole; standAt a.pos; holding [v] (truthy v))) : PT X a (fun σ H Q => ta σ H fun x H1 => r x H1 Q) := by
  refine ⟨fun pins s σ H Q I h => ?_⟩
  exact isTrue_plain (thn (ha.run pins s σ H _ I h) fun v s1 ⟨x, H1, I1, r1, q1⟩ => T pins s1 σ H1 x v Q I1 r1 q1) (he _)
theorem pt_if {c a b : Ex} {tc ta tb : TT} {pos : Pos} (hc : PT X c tc) (ha : PT X a ta) (hb : PT X b tb) : PT X (.IfExp c a b pos) (fun σ H Q => tc σ H fun t H1 => if t = true then ta σ H1 Q else tb σ H1 Q) := by
  refine ⟨fun pins s σ H Q I h => ?_⟩
  refine PyProof.Rows.isTrue_IfExp (thn (hc.run pins s σ H _ I h) fun t s1 ⟨H1, I1, q1⟩ => ?_)
  cases t with
  | true => exact ha.run pins s1 σ H1 Q I1 q1
  | false => exact hb.run pins s1 σ H1 Q I1 q1
theorem lastm {o o2 : CmpOp} {a b : Ex} (h : behindInMarks o a = false) (k : behindInMarks o2 b = false) : lastMarks [o, o2] [a, b] = false := by
  show lastMarks [o2] [b] = false
  exact k
theorem cmpR_bl {op : Cop} {a b : D} {S : D → Prop} {R : Nat → Fs → Prop} (h : (cmpR G.T cl op a b).wp S R) : (cmpR G.T cl op a b).wp (fun d => (∃ k, d = .bl k) ∧ S d) R := by
  have key : ∀ {α : Type} {r : Res α} {f : α → Bool}, (r.bind fun x => .ok (.bl (f x)) : Res D).wp S R → (r.bind fun x => .ok (.bl (f x)) : Res D).wp (fun d => (∃ k, d = .bl k) ∧ S d) R := fun h =>
    Res.wp_bind.mpr (Res.wp_mono (fun x q => ⟨⟨_, rfl⟩, q⟩) (fun _ _ q => q) (Res.wp_bind.mp h))
  have ofb : ∀ {o : Option Bool}, (ofB o).wp S R → (ofB o).wp (fun d => (∃ k, d = .bl k) ∧ S d) R := fun {o} h => by
    cases o with
    | none => exact h
    | some b => exact ⟨⟨_, rfl⟩, h⟩
  cases op with
  | eq => exact key h
  | ne => exact key (f := fun x => !x) h
  | lt => exact ofb h
  | gt => cases a <;> cases b <;> first | exact ⟨⟨_, rfl⟩, h⟩ | exact h
  | le => cases a <;> cases b <;> first | exact ⟨⟨_, rfl⟩, h⟩ | exact h
  | ge => cases a <;> cases b <;> first | exact ⟨⟨_, rfl⟩, h⟩ | exact h
  | isN => cases b <;> first | exact ⟨⟨_, rfl⟩, h⟩ | exact h
  | notN => cases b <;> first | exact ⟨⟨_, rfl⟩, h⟩ | exact h
  | isin => exact key (f := fun x => x) h
  | notin => exact key (f := fun x => !x) h
theorem _root_.L2.PO.imp {X : Cx} {e : Option Ex} {t t' : TO} (h : PO X e t) (w : ∀ σ H Q, t' σ H Q → t σ H Q) : PO X e t' := ⟨fun pins s σ H Q I hw => h.run pins s σ H Q I (w σ H Q hw)⟩
theorem SeesL.of {O : List Addr} {m : Bool} {l : List D} {vs : List V} (h : DenL G (hid O H) l vs) : SeesL G O H m l vs := by
  cases m with
  | true => exact VwL.of h
  | false => exact h
theorem VwL.app {O : List Addr} : ∀ {l r : List D} {vs us : List V}, VwL G O H l vs → VwL G O H r us → VwL G O H (l ++ r) (vs ++ us)
  | [], _, _, _, h, k => by rw [show _ = _ from h]; exact k
  | d :: l, _, _, _, h, k => by
    obtain ⟨v, r, h1, h2, h3⟩ := h
    subst h1
    exact ⟨v, r ++ _, rfl, h2, h3.app k⟩
theorem SeesL.app {O : List Addr} {m : Bool} {l r : List D} {vs us : List V} (h : SeesL G O H m l vs) (k : SeesL G O H m r us) : SeesL G O H m (l ++ r) (vs ++ us) := by
  cases m with
  | true => exact VwL.app h k
  | false => exact DenL.app h k
theorem ix_plain {b : Ex} (h : notSl b = true) : PlainIx b := by
  intro o i
  cases b <;> first | rfl | exact absurd h (show ¬ (false = true) from Bool.noConfusion)
theorem cls_lt {T : Tb} {c f : Nat} (h : T.noMeth c f = true) : c < T.cls.length := by
  unfold Tb.noMeth at h
  split at h
  · rename_i e
    exact (List.getElem?_eq_some_iff.mp e).1
  · cases h
theorem pe_callV {x : PySem.Str} {f : Value} {r : List D → Res D} {l : List Ex} {t : TA} {p pos : Pos} (V1 : VCall G X W f r) (hg : Gl X x) (hm : X.mg x = some f) (hk : PySem.W.keepIn X.K f = true) (ha : PA X l t) (hd : (x == ("__debug__" : Str)) = false) (hst : l.any isStar = false) (hn : ∀ σ H P, l = [] → t σ H P → P [] H) :
    PE X (.Call (.Name x p) l [] pos) (fun σ H Q => t σ H fun vs H1 => ∃ O ds, DenL G (hid O H1) ds vs ∧ Out G O H1 (W σ) (r ds) Q) := by
  refine ⟨fun pins s σ H Q I h => ?_⟩
  refine wpAny_Call_Name_kw (ld_glob I hg hm ?_ hd)
  cases l with
  | nil => exact PySem.W.callWith_K0 I.kIn hk (V1 pins s σ H [] [] Q I .nil (hn σ H _ rfl h))
  | cons e es =>
    rw [List.any_cons, Bool.or_eq_false_iff] at hst
    refine PySem.W.callWith_K (h₀ := X.base) I.ok.mod.kin hk (thn (ha.run pos pins s σ H _ I h) fun us s1 ⟨vs, H1, I1, r1, q⟩ => ⟨I1.kIn, ?_⟩) (star_cons hst.1) (back_any (star_all hst.2))
    exact V1 pins s1 σ H1 vs us Q I1 r1 q
theorem tA_nil {m : Bool} {es : Es} {l : List Ex} {sc : Scope} (h : chks C sc es l = true) : ∀ σ H P, l = [] → tA G cl mk W m es σ H P → P [] H := fun σ H P e q => by
  subst e
  cases es with
  | nil =>
    obtain ⟨Γ, R, lk, w⟩ := q
    exact w [] H (Grow.refl H) R.dr (by cases m <;> exact rfl)
  | cons st e es => cases st <;> exact absurd h (show ¬ (false = true) from Bool.noConfusion)
theorem noField {Hv : Hp} {c mm : Nat} (RL : Rl G cl C X) : ∀ {fs : List (Nat × D)} {gs : List (PySem.Str × V)}, fsOk G c fs = true → DenF G Hv fs gs → (∃ x, C.nm[mm]? = some x) → G.T.noMeth c mm = false → gs.lookup (name G mm) = none
  | [], _, _, h, _, _ => by rw [show _ = _ from h]; rfl
  | (f, d) :: fs, _, hf, h, hx, hm => by
    obtain ⟨v, r, e, _, h3⟩ := h
    subst e
    unfold fsOk at hf
    rw [List.all_cons, Bool.and_eq_true] at hf
    obtain ⟨x, hx'⟩ := hx
    have hne : (name G mm == name G f) = false := by
      cases q : name G mm == name G f with
      | false => rfl
      | true =>
        have q : name G mm = name G f := by simpa using q
        have : mm = f := by
          unfold name at q
          rw [RL.nm, hx'] at q
          cases hg : C.nm[f]? with
          | none => rw [hg] at q; exact absurd q (RL.nmne mm x hx')
          | some y =>
            rw [hg] at q
            have q : x = y := q
            subst q
            exact nodup_ix RL.inj hx' hg
        rw [this] at hm
        rw [hm] at hf
        exact absurd hf.1 (show ¬ (false = true) from Bool.noConfusion)
    rw [List.lookup_cons, hne]
    exact noField RL hf.2 h3 ⟨x, hx'⟩ hm
theorem methR_eq {T : Tb} {c m : Nat} {fs : List (Nat × D)} : methR T (.ins c fs) m = Res.ofOpt (((T.cls[c]?).map Cl.ms).bind (List.lookup m)) := by
  unfold methR
  cases e : ((T.cls[c]?).map Cl.ms).bind (List.lookup m) <;> simp only [e] <;> rfl
theorem pe_methV {mm : Nat} {x : PySem.Str} {o : Ex} {l : List Ex} {to : TE} {t : TA} {ap pos : Pos} (RL : Rl G cl C X) (RW : RlW G cl mk C W X) (ex : name G mm = x) (ho : PE X o to) (ha : PA X l t)
    (h2 : attOk o = true) (h6 : oneLine ap pos = true) (hst : l.any isStar = false) (hf : l.length < 20) (hn : ∀ σ H P, l = [] → t σ H P → P [] H) :
    PE X (.Call (.Attribute o x ap) l [] pos) (fun σ H Q => to σ H fun u H1 => ∃ O c fs k, Den G (hid O H1) (.ins c fs) u ∧ ((G.T.cls[c]?).map Cl.ms).bind (List.lookup mm) = some k ∧
      t σ H1 fun vs H2 => ∃ O ds, Den G (hid O H2) (.ins c fs) u ∧ DenL G (hid O H2) ds vs ∧ Out G O H2 (W σ) (cl k (.ins c fs :: ds)) Q) := by
  subst ex
  refine ⟨fun pins s σ H Q I h => ?_⟩
  refine PySem.W.methodCall_KW (pl := plainOf o X.env) (thn (ho.run pins s σ H _ I h) fun u s1 ⟨v, H1, I1, rx, O, c, fs, k, hd, hk, q⟩ => ?_) (meth_line h2 h6 hst hf)
  obtain ⟨hfs, a, dx, gs, e1, e2, e3⟩ := hd
  subst e1
  obtain rfl : u = Value.ref a := rx
  have hc : c < G.T.cls.length := by
    cases e : G.T.cls[c]? with
    | none => rw [e] at hk; cases hk
    | some _ => exact (List.getElem?_eq_some_iff.mp e).1
  have hl : gs.lookup (name G mm) = none := by
    have hm : G.T.noMeth c mm = false := by
      unfold Tb.noMeth
      cases e : G.T.cls[c]? with
      | none => rfl
      | some k' =>
        rw [e] at hk
        have hk : k'.ms.lookup mm = some k := hk
        simp only [hk, Option.isNone_some]
    exact noField RL hfs e3 (RW.meth c mm k hk).2 hm
  refine getmeth_ok I1 (hid_some e2).2 (RL.ins c hc) (RW.meth c mm k hk).1 hl ?_
  have hkp := (RW.meth c mm k hk).1.kp
  cases l with
  | nil =>
    refine PySem.W.callWith_K0 (first := [.ref a]) I1.kIn hkp ?_
    obtain ⟨O2, ds, d1, d2, q2⟩ := hn σ H1 _ rfl q
    exact RW.call k pins s1 σ H1 [.ref a] [.ref a] Q I1 (.cons rfl .nil) ⟨O2, .ins c fs :: ds, ⟨_, _, rfl, d1, d2⟩, q2⟩
  | cons e es =>
    rw [List.any_cons, Bool.or_eq_false_iff] at hst
    refine PySem.W.callWith_K (first := [.ref a]) (h₀ := X.base) I.ok.mod.kin hkp (thn (ha.run pos pins s1 σ H1 _ I1 q) fun us s2 ⟨vs, H2, I2, r2, O2, ds, d1, d2, q2⟩ => ⟨I2.kIn, ?_⟩) (star_cons hst.1) (back_any (star_all hst.2))
    exact RW.call k pins s2 σ H2 (.ref a :: vs) (.ref a :: us) Q I2 (.cons rfl r2) ⟨O2, .ins c fs :: ds, ⟨_, _, rfl, d1, d2⟩, q2⟩
end BB
end
section
set_option Elab.async false
set_option linter.all false
set_option maxRecDepth 100000
set_option maxHeartbeats 4000000
/-! Comprehensions: what the interpreter says is what the rules ask. -/
namespace BB
open PySem PySem.Spec PyProof.Rows L2
variable {G : Gc} {C : Ck} {cl : Cal} {mk : Mak} {W : WS} {X : Cx} {Γ : Fr} {σ : L2.St} {H H' : Hp} {Q : VK}
namespace Res
variable {α β : Type} {R R' : Nat → Fs → Prop}
theorem wp_ex {Q : α → Prop} : ∀ {r : Res α}, r.wp Q (fun _ _ => False) → ∃ a, Q a
  | .ok a, h => ⟨a, h⟩
  | .raise _ _, h => h.elim
  | .stuck, h => h.elim
  | .ask n k, h => wp_ex (h.2 0 h.1)
theorem wp_calm {Q : α → Prop} : ∀ {r : Res α}, (calm r).wp Q R → r.wp Q (fun _ _ => False)
  | .ok a, h => h
  | .raise _ _, h => h.elim
  | .stuck, h => h.elim
  | .ask n k, h => ⟨h.1, fun i hi => wp_calm (h.2 i hi)⟩
end Res
/-! slots forgotten -/
theorem wipe_get (σ : L2.St) (i : Nat) : ∀ vs : List Nat, (wipe σ vs)[i]? = if i ∈ vs then (if i < σ.length then some none else none) else σ[i]?
  | [] => by simp [wipe]
  | v :: vs => by
    unfold wipe
    by_cases e : v = i
    · subst e
      rw [List.getElem?_set_self', wipe_get σ v vs]
      by_cases h : v < σ.length
      · by_cases k : v ∈ vs
        · rw [if_pos k, if_pos h, if_pos List.mem_cons_self]; rfl
        · rw [if_neg k, if_pos List.mem_cons_self, List.getElem?_eq_getElem h, if_pos h]; rfl
      · by_cases k : v ∈ vs
        · rw [if_pos k, if_neg h, if_pos List.mem_cons_self]; rfl
        · rw [if_neg k, if_pos List.mem_cons_self, List.getElem?_eq_none (by omega), if_neg h]; rfl
    · rw [List.getElem?_set_ne e, wipe_get σ i vs]
      by_cases k : i ∈ vs
      · rw [if_pos k, if_pos (List.mem_cons_of_mem _ k)]
      · rw [if_neg k, if_neg (by rw [List.mem_cons, not_or]; exact ⟨fun z => e z.symm, k⟩)]
theorem wipeE_get (ρ : Env) (i : Nat) : ∀ vs : List Nat, (wipeE vs ρ)[i]? = if i ∈ vs then (if i < ρ.length then some none else none) else ρ[i]?
  | [] => by simp [wipeE]
  | v :: vs => by
    unfold wipeE
    by_cases e : v = i
    · subst e
      rw [List.getElem?_set_self', wipeE_get ρ v vs]
      by_cases h : v < ρ.length
      · by_cases k : v ∈ vs
        · rw [if_pos k, if_pos h, if_pos List.mem_cons_self]; rfl
        · rw [if_neg k, if_pos List.mem_cons_self, List.getElem?_eq_getElem h, if_pos h]; rfl
      · by_cases k : v ∈ vs
        · rw [if_pos k, if_neg h, if_pos List.mem_cons_self]; rfl
        · rw [if_neg k, if_pos List.mem_cons_self, List.getElem?_eq_none (by omega), if_neg h]; rfl
    · rw [List.getElem?_set_ne e, wipeE_get ρ i vs]
      by_cases k : i ∈ vs
      · rw [if_pos k, if_pos (List.mem_cons_of_mem _ k)]
      · rw [if_neg k, if_neg (by rw [List.mem_cons, not_or]; exact ⟨fun z => e z.symm, k⟩)]
theorem wipeE_length (ρ : Env) : ∀ vs : List Nat, (wipeE vs ρ).length = ρ.length
  | [] => rfl
  | v :: vs => by unfold wipeE; rw [List.length_set, wipeE_length ρ vs]
theorem wipe_eq {σ τ : L2.St} {vs : List Nat} (h : ∀ j, j ∉ vs → τ[j]? = (wipe σ vs)[j]?) (l : τ.length = (wipe σ vs).length) : wipe τ vs = wipe σ vs := by
  apply List.ext_getElem?
  intro i
  rw [wipe_get τ, wipe_get σ]
  rw [wipe_length] at l
  by_cases k : i ∈ vs
  · rw [if_pos k, if_pos k, l]
  · rw [if_neg k, if_neg k, h i k, wipe_get, if_neg k]
/-! a new thing of the block's -/
/-- all but the draws and A stays -/
def GrowD (G : Gc) (A : Addr) (H H' : Hp) : Prop := ∀ a o, a ≠ G.dr → a ≠ A → H a = some o → H' a = some o
theorem GrowD.of {A : Addr} (g : Grow G H H') : GrowD G A H H' := fun a o h _ e => g a o h e
theorem GrowD.refl {A : Addr} (H : Hp) : GrowD G A H H := fun _ _ _ _ e => e
theorem GrowD.trans {A : Addr} {H1 H2 H3 : Hp} (a : GrowD G A H1 H2) (b : GrowD G A H2 H3) : GrowD G A H1 H3 := fun x o n m h => b x o n m (a x o n m h)
theorem GrowD.upd {A : Addr} {o : HO} (H : Hp) : GrowD G A H (upd H A o) := fun a u _ m e => by rw [upd_ne m]; exact e
theorem GrowD.grow {A : Addr} (g : GrowD G A H H') (h : H A = none) : Grow G H H' := fun a o n e => g a o n (ne_of_none e h) e
theorem GrowD.hid {A : Addr} {O : List Addr} (g : GrowD G A H H') (d : G.dr ∈ O) (m : A ∈ O) : Same (hid O H) (hid O H') := fun a o h => by
  obtain ⟨h1, h2⟩ := hid_some h
  rw [hid_out h1]
  exact g a o (fun z => h1 (z ▸ d)) (fun z => h1 (z ▸ m)) h2
/-- no owned slot leads to A -/
def Clear (Γ : Fr) (σ : L2.St) (A : Addr) : Prop := ∀ i ∈ Γ.ω, σ[i]? ≠ some (some (.ref A))
theorem Rel.growD {A : Addr} (r : Rel G Γ σ H) (c : Clear Γ σ A) (h0 : Γ.H0 A = none) (g : GrowD G A H H') (m : A ∈ Γ.O) (hd : ∃ o, H' A = some o) (d : Dr G H') : Rel G Γ σ H' where
  gr := fun a o n e => g a o n (ne_of_none e h0) (r.gr a o n e)
  dr := d
  drO := r.drO
  sub := r.sub
  low := r.low
  new := r.new
  live := fun a ha => by
    obtain ⟨o, e⟩ := r.live a ha
    by_cases h : a = G.dr
    · obtain ⟨k, _, e', _⟩ := d
      exact ⟨_, h ▸ e'⟩
    · by_cases h2 : a = A
      · subst h2; exact hd
      · exact ⟨o, g a o h h2 e⟩
  len := r.len
  val := fun i d h1 h2 => by
    obtain ⟨v, e1, e2⟩ := r.val i d h1 h2
    exact ⟨v, e1, e2.mono (g.hid r.drO m)⟩
  own := fun i hi => by
    obtain ⟨d, p, e1, e2, e3, e4, e5, e6⟩ := r.own i hi
    refine ⟨d, p, e1, e2, e3, e4, e5, ?_⟩
    have hne : p ≠ A := fun z => c i hi (z ▸ e2)
    have hp : H' p = H p := by
      obtain ⟨o, e⟩ := r.live p e3
      rw [e]; exact g p o e4 hne e
    rw [hp]
    exact e6.mono (g.hid r.drO m)
  inj := r.inj
  self := r.self
/-- the frame within a block that builds A -/
def Fr.blk (Γ : Fr) (A : Addr) (vs : List Nat) : Fr := { Γ with O := A :: Γ.O, ρ := wipeE vs Γ.ρ, ω := minus Γ.ω vs }
theorem Dr.dne (d : Dr G H) {A : Addr} (h : H A = none) : G.dr ≠ A ∧ G.sa ≠ A := by
  obtain ⟨k, _, e, o, ns, e2, _⟩ := d
  exact ⟨ne_of_none e h, ne_of_none e2 h⟩
theorem Dr.upd {A : Addr} {o : HO} (d : Dr G H) (h : G.dr ≠ A ∧ G.sa ≠ A) : Dr G (upd H A o) := by
  obtain ⟨k, h0, e, o, ns, e2, r⟩ := d
  exact ⟨k, h0, by rw [upd_ne h.1]; exact e, o, ns, by rw [upd_ne h.2]; exact e2, r⟩
theorem hid_upd {A : Addr} {O : List Addr} {o : HO} (H : Hp) : hid (A :: O) (upd H A o) = hid (A :: O) H := by
  funext a
  unfold hid
  by_cases h : a ∈ A :: O
  · rw [if_pos h, if_pos h]
  · rw [if_neg h, if_neg h, upd_ne (fun z => h (by rw [z]; exact List.mem_cons_self))]
theorem hid_cons {A : Addr} {O : List Addr} (h : H A = none) : Same (hid O H) (hid (A :: O) H) := fun a o e => by
  obtain ⟨h1, h2⟩ := hid_some e
  rw [hid_out (by rw [List.mem_cons, not_or]; exact ⟨ne_of_none h2 h, h1⟩)]
  exact h2
theorem Rel.block {H1 : Hp} {A : Addr} {o : HO} (vs : List Nat) (R : Rel G Γ σ H) (g : Grow G H H1) (d : Dr G H1) (h : H1 A = none) : Rel G (Γ.blk A vs) (wipe σ vs) (upd H1 A o) ∧ Clear (Γ.blk A vs) (wipe σ vs) A ∧ Γ.H0 A = none := by
  have R1 := R.grow g d
  have hn := R1.fresh h
  have h0 : Γ.H0 A = none := by
    cases e : Γ.H0 A with
    | none => rfl
    | some u => exact absurd ((R1.gr A u (d.dne h).1.symm e).symm.trans h) (by simp)
  have key : ∀ i, i ∉ vs → (wipe σ vs)[i]? = σ[i]? ∧ (wipeE vs Γ.ρ)[i]? = Γ.ρ[i]? := fun i hi => ⟨by rw [wipe_get, if_neg hi], by rw [wipeE_get, if_neg hi]⟩
  have sm : Same (hid Γ.O H1) (hid (A :: Γ.O) (L2.upd H1 A o)) := by rw [hid_upd]; exact hid_cons h
  refine ⟨?_, ?_, h0⟩
  · refine ⟨?_, d.upd (d.dne h), List.mem_cons_of_mem _ R.drO, fun a ha => List.mem_cons_of_mem _ (R.sub a ha), R.low, (fun a ha => by
      rcases List.mem_cons.mp ha with q | q
      · exact .inr (q ▸ h0)
      · exact R.new a q), ?_, ?_, ?_, ?_, ?_, ?_⟩
    · exact fun a u n e => by rw [upd_ne (ne_of_none e h0)]; exact R1.gr a u n e
    · intro a ha
      by_cases z : a = A
      · subst z; exact ⟨o, upd_same⟩
      · rw [upd_ne z]
        rcases List.mem_cons.mp ha with q | q
        · exact absurd q z
        · exact R1.live a q
    · show (wipeE vs Γ.ρ).length = (wipe σ vs).length
      rw [wipeE_length, wipe_length]; exact R.len
    · intro i d' h1 h2
      have h2 : (wipeE vs Γ.ρ)[i]? = some (some d') := h2
      have hi : i ∉ vs := fun z => by
        rw [wipeE_get, if_pos z] at h2
        split at h2 <;> cases h2
      rw [(key i hi).2] at h2
      obtain ⟨v, e1, e2⟩ := R1.val i d' (fun z => h1 (mem_minus.mpr ⟨z, hi⟩)) h2
      exact ⟨v, (key i hi).1.trans e1, e2.mono sm⟩
    · intro i hi
      obtain ⟨h1, h2⟩ := mem_minus.mp hi
      obtain ⟨d', p, e1, e2, e3, e4, e5, e6⟩ := R1.own i h1
      refine ⟨d', p, (key i h2).2.trans e1, (key i h2).1.trans e2, List.mem_cons_of_mem _ e3, e4, e5, ?_⟩
      rw [upd_ne (fun z => hn (by rw [← z]; exact e3))]
      exact e6.mono sm
    · intro i hi j hj e
      obtain ⟨h1, h2⟩ := mem_minus.mp hi
      obtain ⟨h3, h4⟩ := mem_minus.mp hj
      rw [(key i h2).1, (key j h4).1] at e
      exact R1.inj i h1 j h3 e
    · intro a c fs ha hz e
      obtain ⟨h1, h2⟩ := mem_minus.mp hz
      rw [(key 0 h2).1]
      exact R1.self a c fs ha h1 ((key 0 h2).2.symm.trans e)
  · intro i hi z
    obtain ⟨h1, h2⟩ := mem_minus.mp hi
    obtain ⟨d', p, e1, e2, e3, _⟩ := R1.own i h1
    rw [(key i h2).1, e2] at z
    cases z
    exact hn e3
theorem Clear.bind {A : Addr} {p : Pat} {ρ' : Env} {τ : L2.St} (c : Clear Γ σ A) (h : ∀ j, j ∉ p.names → τ[j]? = σ[j]?) : Clear (Γ.bind p ρ') τ A := fun i hi => by
  obtain ⟨h1, h2⟩ := mem_minus.mp (show i ∈ minus Γ.ω p.names from hi)
  rw [h i h2]
  exact c i h1
/-- one behind another: what is wanted of the rest -/
def Rest (f : D → Res (List D)) (K : List D → Prop) (acc l : List D) : Prop := (lcs l f).wp (fun r => K (acc ++ r)) (fun _ _ => False)
theorem Rest.nil {f : D → Res (List D)} {K : List D → Prop} {acc : List D} (h : Rest f K acc []) : K acc := by
  have h : K (acc ++ []) := h
  rwa [List.append_nil] at h
theorem Rest.cons {f : D → Res (List D)} {K : List D → Prop} {acc l : List D} {d : D} (h : Rest f K acc (d :: l)) : (f d).wp (fun a => Rest f K (acc ++ a) l) (fun _ _ => False) := by
  have h := Res.wp_bind.mp (show ((f d).bind fun a => (lcs l f).bind fun b => .ok (a ++ b)).wp _ _ from h)
  refine Res.wp_mono (fun a q => ?_) (fun _ _ q => q) h
  refine Res.wp_mono (fun b q => ?_) (fun _ _ q => q) (Res.wp_bind.mp q)
  rw [List.append_assoc]
  exact q
theorem Rest.lt {f : D → Res (List D)} {K : List D → Prop} {acc l : List D} {d : D} (hK : ∀ l, K l → l.length ≤ big) (h : Rest f K (acc ++ [d]) l) : acc.length < big := by
  obtain ⟨r, k⟩ := Res.wp_ex h
  have := hK _ k
  rw [List.length_append, List.length_append, List.length_cons, List.length_nil] at this
  omega
theorem drop_cons {α : Type} {l : List α} {i : Nat} {d : α} (h : l[i]? = some d) : l.drop i = d :: l.drop (i + 1) := by
  obtain ⟨hl, e⟩ := List.getElem?_eq_some_iff.mp h
  rw [List.drop_eq_getElem_cons hl, e]
/-- the turns so far -/
def Turns (G : Gc) (O : List Addr) (A : Addr) (H1 : Hp) (f : D → Res (List D)) (K : List D → Prop) (l : List D) (i : Nat) (H : Hp) : Prop :=
  GrowD G A H1 H ∧ Dr G H ∧ ∃ vs acc, H A = some (.lst vs) ∧ DenL G (hid (A :: O) H) acc vs ∧ Rest f K acc (l.drop i)
theorem Turns.app {O : List Addr} {A : Addr} {H1 H2 H4 : Hp} {f : D → Res (List D)} {K : List D → Prop} {l acc : List D} {i : Nat} {vs : List V} {d : D} {v : V} (hK : ∀ l, K l → l.length ≤ big) (hdo : G.dr ∈ A :: O) (hsa : G.dr ≠ A ∧ G.sa ≠ A)
    (g1 : GrowD G A H1 H2) (e : H2 A = some (.lst vs)) (dl : DenL G (hid (A :: O) H2) acc vs) (g : Grow G H2 H4) (dr : Dr G H4) (s : Den G (hid (A :: O) H4) d v) (r : Rest f K (acc ++ [d]) (l.drop i)) :
    ∃ a, H4 A = some (.lst a) ∧ a.length < sizeLine ∧ Turns G O A H1 f K l i (upd H4 A (.lst (a ++ [v]))) :=
  ⟨vs, g A _ hsa.1.symm e, by rw [dl.length, ← big_line]; exact r.lt hK,
    (g1.trans (.of g)).trans (.upd H4), dr.upd hsa, vs ++ [v], acc ++ [d], upd_same, by rw [hid_upd]; exact (dl.mono (g.hid hdo)).app (.one s), r⟩
theorem Turns.skip {O : List Addr} {A : Addr} {H1 H2 H4 : Hp} {f : D → Res (List D)} {K : List D → Prop} {l acc : List D} {i : Nat} {vs : List V} (hdo : G.dr ∈ A :: O) (hsa : G.dr ≠ A ∧ G.sa ≠ A)
    (g1 : GrowD G A H1 H2) (e : H2 A = some (.lst vs)) (dl : DenL G (hid (A :: O) H2) acc vs) (g : Grow G H2 H4) (dr : Dr G H4) (r : Rest f K (acc ++ []) (l.drop i)) : Turns G O A H1 f K l i H4 :=
  ⟨g1.trans (.of g), dr, vs, acc, g A _ hsa.1.symm e, dl.mono (g.hid hdo), by rw [List.append_nil] at r; exact r⟩
abbrev W0 : WS := fun _ _ _ _ => False
theorem rst_of {O : List Addr} {c : Nat} {fs : Fs} (h : False) : Rst G O H (W0 σ) c fs := h.elim
theorem lk_minus {ω l n : List Nat} (h : ∀ i ∈ l, i ∉ ω) : ∀ i ∈ l, i ∉ minus ω n := fun i hi z => h i hi (mem_minus.mp z).1
/-- from the turns to the wish, whatever it is -/
theorem lc_gen {m : Bool} {e : E} {p : Pat} {it : It} {cs : Es} {K : List BB.D → Prop} (R : Rel G Γ σ H) (lk : ∀ j ∈ BB.lk e ++ lkI it ++ lksB cs, j ∉ Γ.ω)
    (w : (evI G.T cl mk it Γ.ρ).wp (fun l => Rest (fun d => match p.bind d (wipeE p.names Γ.ρ) with
      | none => Res.stuck
      | some ρ' => (evT G.T cl mk cs ρ').bind fun t => if t then (ev G.T cl mk e ρ').bind fun x => Res.ok [x] else Res.ok []) K [] l) (Rst G Γ.O H (W σ))) (hKb : ∀ l, K l → l.length ≤ big)
    (hfin : ∀ r A vs H2, K r → H A = none → A ∉ Γ.O → Grow G H H2 → Dr G H2 → H2 A = some (.lst vs) → DenL G (hid (A :: Γ.O) H2) r vs → Q (.ref A) H2) :
    tLc (tI G cl mk W true it) (gP G p) (tTs G cl mk W0 cs) (tE G cl mk W0 false e) p.names σ H Q := by
  have hle : ∀ j ∈ BB.lk e, j ∉ Γ.ω := lk_l (lk_l lk)
  have hli : ∀ j ∈ lkI it, j ∉ Γ.ω := lk_r (lk_l lk)
  have hlc : ∀ j ∈ lksB cs, j ∉ Γ.ω := lk_r lk
  refine ⟨Γ, R, hli, Res.wp_mono (fun l q1 J H1 g1 d1 wk A hD => ?_) (fun _ _ q => q) w⟩
  generalize hf : (fun d : BB.D => match p.bind d (wipeE p.names Γ.ρ) with
    | none => Res.stuck
    | some ρ' => (evT G.T cl mk cs ρ').bind fun t => if t then (ev G.T cl mk e ρ').bind fun x => Res.ok [x] else Res.ok []) = f at q1
  obtain ⟨Rb, cb, h0⟩ := R.block (o := .lst []) p.names g1 d1 hD
  have hsa := d1.dne hD
  have R1 := R.grow g1 d1
  have hdo : G.dr ∈ A :: Γ.O := List.mem_cons_of_mem _ R.drO
  have live : ∀ {H2 : Hp}, GrowD G A H1 H2 → Dr G H2 → (∃ o, H2 A = some o) → ∀ a ∈ A :: Γ.O, ∃ o, H2 a = some o := fun {H2} g d hd a ha => by
    by_cases z : a = G.dr
    · obtain ⟨k, _, e', _⟩ := d
      exact ⟨_, z ▸ e'⟩
    · rcases List.mem_cons.mp ha with r | r
      · subst r; exact hd
      · obtain ⟨o, e⟩ := R1.live a r
        exact ⟨o, g a o z (ne_of_none e hD) e⟩
  refine ⟨fun i k H2 => k = l.length - i ∧ i ≤ l.length ∧ Turns G Γ.O A H1 f K l i H2, ⟨l.length, by omega, Nat.zero_le _, ?_⟩, ?_⟩
  · exact ⟨.upd H1, d1.upd hsa, [], [], upd_same, rfl, by rw [List.drop_zero]; exact q1⟩
  · rintro i k H2 ⟨rfl, hi, gd, d2, vs, acc, hDl, dl, rs⟩
    have gg : Grow G H1 H2 := gd.grow hD
    have wk2 := wk i (A :: Γ.O) H2 ((hid_cons hD).trans (gd.hid hdo List.mem_cons_self)) (fun _ a ha hn => by
      obtain ⟨o, e⟩ := R1.live a ha
      rw [e]; exact gg a o hn e) (live gd d2 ⟨_, hDl⟩) d2
    by_cases hlt : i < l.length
    · have hd := List.getElem?_eq_getElem hlt
      obtain ⟨hgo, hy⟩ := wk2.2 _ hd
      rw [drop_cons hd] at rs
      have hx := rs.cons
      refine .inr ⟨hgo, Turns G Γ.O A H1 f K l (i + 1), fun H' t => ⟨l.length - (i + 1), by omega, rfl, hlt, t⟩, fun x H' y => ?_⟩
      obtain ⟨s1, dx⟩ := hy x H' y
      have d2' : Dr G H' := d2.ext s1
      have Rt := Rb.growD cb h0 ((GrowD.of (H' := H') (fun a o _ e => s1 a o e)) |> (fun z => (show GrowD G A (L2.upd H1 A (.lst [])) H2 from fun a o n1 n2 e => by rw [upd_ne n2] at e; exact gd a o n1 n2 e).trans z)) List.mem_cons_self ⟨_, s1 _ _ hDl⟩ d2'
      subst hf
      simp only at hx
      cases hb : p.bind l[i] (wipeE p.names Γ.ρ) with
      | none => rw [hb] at hx; exact hx.elim
      | some ρ' =>
        rw [hb] at hx
        refine ⟨Γ.blk A p.names, l[i], ρ', Rt, dx, hb, fun σ2 R2 f2 l2 => ⟨wipe_eq f2 l2, ?_⟩⟩
        have g2 : Grow G H2 H' := fun a o _ e => s1 a o e
        refine ⟨(Γ.blk A p.names).bind p ρ', R2, lk_minus (lk_minus hlc), Res.wp_mono (fun t q H3 g3 d3 => ?_) (fun _ _ q => q.elim) (Res.wp_bind.mp hx)⟩
        cases t with
        | true =>
          show tE G cl mk W0 false e σ2 H3 _
          refine ⟨(Γ.blk A p.names).bind p ρ', R2.grow g3 d3, lk_minus (lk_minus hle), ?_⟩
          refine Res.wp_mono (fun z q v H4 g4 d4 s4 => ?_) (fun _ _ q => q.elim) (Res.wp_bind.mp q)
          exact Turns.app hKb hdo hsa gd hDl dl ((g2.trans g3).trans g4) d4 s4 q
        | false => exact Turns.skip hdo hsa gd hDl dl (g2.trans g3) d3 q
    · have e : i = l.length := by omega
      subst e
      refine .inl ⟨wk2.1 (Nat.le_refl _), ?_⟩
      rw [List.drop_length] at rs
      have hA0 : H A = none := by
        cases z : H A with
        | none => rfl
        | some u => exact absurd ((g1 A u hsa.1.symm z).symm.trans hD) (by simp)
      exact hfin acc A vs H2 rs.nil hA0 (R1.fresh hD) (g1.trans gg) d2 hDl dl
theorem lc_imp {m : Bool} {e : E} {p : Pat} {it : It} {cs : Es} (h : tE G cl mk W m (.lc e p it cs) σ H Q) :
    tLc (tI G cl mk W true it) (gP G p) (tTs G cl mk W0 cs) (tE G cl mk W0 false e) p.names σ H Q := by
  obtain ⟨Γ, R, lk, w⟩ := h
  have lk : ∀ j ∈ BB.lk e ++ lkI it ++ lksB cs, j ∉ Γ.ω := by cases m <;> exact lk
  refine lc_gen (m := m) (K := fun r => r.length ≤ big ∧ Wt G Γ.O H m Q (.lst r)) R lk (Res.wp_mono (fun l q => ?_) (fun _ _ q => q) (Res.wp_bind.mp w)) (fun _ h => h.1) fun r A vs H2 k hA ho g d e dl => ?_
  · exact Res.wp_mono (fun r h => wp_if h) (fun _ _ q => q) (Res.wp_calm (Res.wp_bind.mp q))
  · exact k.2 (.ref A) H2 g d (Sees.of ⟨A, vs, rfl, .inl ((hid_out ho).trans e), dl.mono (hid_mono fun a ha => List.mem_cons_of_mem _ ha)⟩)
/-- the frame with slots forgotten -/
def Fr.wip (Γ : Fr) (vs : List Nat) : Fr := { Γ with ρ := wipeE vs Γ.ρ, ω := minus Γ.ω vs }
theorem Rel.wip (R : Rel G Γ σ H) (vs : List Nat) : Rel G (Γ.wip vs) (wipe σ vs) H := by
  have key : ∀ i, i ∉ vs → (wipe σ vs)[i]? = σ[i]? ∧ (wipeE vs Γ.ρ)[i]? = Γ.ρ[i]? := fun i hi => ⟨by rw [wipe_get, if_neg hi], by rw [wipeE_get, if_neg hi]⟩
  refine ⟨R.gr, R.dr, R.drO, R.sub, R.low, R.new, R.live, ?_, ?_, ?_, ?_, ?_⟩
  · show (wipeE vs Γ.ρ).length = (wipe σ vs).length
    rw [wipeE_length, wipe_length]; exact R.len
  · intro i d' h1 h2
    have h2 : (wipeE vs Γ.ρ)[i]? = some (some d') := h2
    have hi : i ∉ vs := fun z => by
      rw [wipeE_get, if_pos z] at h2
      split at h2 <;> cases h2
    rw [(key i hi).2] at h2
    obtain ⟨v, e1, e2⟩ := R.val i d' (fun z => h1 (mem_minus.mpr ⟨z, hi⟩)) h2
    exact ⟨v, (key i hi).1.trans e1, e2⟩
  · intro i hi
    obtain ⟨h1, h2⟩ := mem_minus.mp hi
    obtain ⟨d', p, e1, e2, e3⟩ := R.own i h1
    exact ⟨d', p, (key i h2).2.trans e1, (key i h2).1.trans e2, e3⟩
  · intro i hi j hj e
    obtain ⟨h1, h2⟩ := mem_minus.mp hi
    obtain ⟨h3, h4⟩ := mem_minus.mp hj
    rw [(key i h2).1, (key j h4).1] at e
    exact R.inj i h1 j h3 e
  · intro a c fs ha hz e
    obtain ⟨h1, h2⟩ := mem_minus.mp hz
    rw [(key 0 h2).1]
    exact R.self a c fs ha h1 ((key 0 h2).2.symm.trans e)
theorem Clear.wip {A : Addr} (c : Clear Γ σ A) (vs : List Nat) : Clear (Γ.wip vs) (wipe σ vs) A := fun i hi => by
  obtain ⟨h1, h2⟩ := mem_minus.mp hi
  rw [wipe_get, if_neg h2]
  exact c i h1
theorem blk_live {A : Addr} {H1 H2 : Hp} (R1 : Rel G Γ σ H1) (hA : H1 A = none) (g : GrowD G A H1 H2) (d : Dr G H2) (hd : ∃ o, H2 A = some o) : ∀ a ∈ A :: Γ.O, ∃ o, H2 a = some o := fun a ha => by
  by_cases z : a = G.dr
  · obtain ⟨k, _, e', _⟩ := d
    exact ⟨_, z ▸ e'⟩
  · rcases List.mem_cons.mp ha with r | r
    · subst r; exact hd
    · obtain ⟨o, e⟩ := R1.live a r
      exact ⟨o, g a o z (ne_of_none e hA) e⟩
theorem lc2_gen {m : Bool} {e : E} {p p2 : Pat} {it it2 : It} {cs cs2 : Es} {K : List BB.D → Prop} (R : Rel G Γ σ H) (lk : ∀ j ∈ BB.lk e ++ lkI it ++ lksB cs ++ lkF it2 ++ lksB cs2, j ∉ Γ.ω) {f2 : Env → BB.D → Res (List BB.D)} {f : BB.D → Res (List BB.D)}
    (hf2' : ∀ ρ' d2, f2 ρ' d2 = match p2.bind d2 (wipeE p2.names ρ') with
      | none => Res.stuck
      | some ρ2 => (evT G.T cl mk cs2 ρ2).bind fun t => if t then (ev G.T cl mk e ρ2).bind fun x => Res.ok [x] else Res.ok []) (hf : ∀ d, f d = match p.bind d (wipeE (p.names ++ p2.names) Γ.ρ) with
      | none => Res.stuck
      | some ρ' => (evT G.T cl mk cs ρ').bind fun t => if t then (evI G.T cl mk it2 ρ').bind fun l2 => lcs l2 (f2 ρ') else Res.ok [])
    (w : (evI G.T cl mk it Γ.ρ).wp (fun l => Rest f K [] l) (Rst G Γ.O H (W σ))) (hKb : ∀ l, K l → l.length ≤ big)
    (hfin : ∀ r A vs H2, K r → H A = none → A ∉ Γ.O → Grow G H H2 → Dr G H2 → H2 A = some (.lst vs) → DenL G (hid (A :: Γ.O) H2) r vs → Q (.ref A) H2) :
    tLc2 (tI G cl mk W true it) (gP G p) (tTs G cl mk W0 cs) (tI G cl mk W0 false it2) (gP G p2) (tTs G cl mk W0 cs2) (tE G cl mk W0 false e) (p.names ++ p2.names) p2.names σ H Q := by
  have hle : ∀ j ∈ BB.lk e, j ∉ Γ.ω := lk_l (lk_l (lk_l (lk_l lk)))
  have hli : ∀ j ∈ lkI it, j ∉ Γ.ω := lk_r (lk_l (lk_l (lk_l lk)))
  have hlc : ∀ j ∈ lksB cs, j ∉ Γ.ω := lk_r (lk_l (lk_l lk))
  have hli2 : ∀ j ∈ lkF it2, j ∉ Γ.ω := lk_r (lk_l lk)
  have hlc2 : ∀ j ∈ lksB cs2, j ∉ Γ.ω := lk_r lk
  refine ⟨Γ, R, hli, Res.wp_mono (fun l q1 J H1 g1 d1 wk A hA => ?_) (fun _ _ q => q) w⟩
  obtain ⟨Rb, cb, h0⟩ := R.block (o := .lst []) (p.names ++ p2.names) g1 d1 hA
  have hsa := d1.dne hA
  have R1 := R.grow g1 d1
  have hdo : G.dr ∈ A :: Γ.O := List.mem_cons_of_mem _ R.drO
  have mem : A ∈ A :: Γ.O := List.mem_cons_self
  have up : ∀ {H2 : Hp}, GrowD G A H1 H2 → GrowD G A (L2.upd H1 A (.lst [])) H2 := fun {H2} gd a o n1 n2 e => by rw [upd_ne n2] at e; exact gd a o n1 n2 e
  refine ⟨fun i k H2 => k = l.length - i ∧ i ≤ l.length ∧ Turns G Γ.O A H1 f K l i H2, ⟨l.length, by omega, Nat.zero_le _, ?_⟩, ?_⟩
  · exact ⟨.upd H1, d1.upd hsa, [], [], upd_same, rfl, by rw [List.drop_zero]; exact q1⟩
  · rintro i k H2 ⟨rfl, hi, gd, d2, vs, acc, hDl, dl, rs⟩
    have gg : Grow G H1 H2 := gd.grow hA
    have wk2 := wk i (A :: Γ.O) H2 ((hid_cons hA).trans (gd.hid hdo mem)) (fun _ a ha hn => by
      obtain ⟨o, e⟩ := R1.live a ha
      rw [e]; exact gg a o hn e) (blk_live R1 hA gd d2 ⟨_, hDl⟩) d2
    by_cases hlt : i < l.length
    · have hd := List.getElem?_eq_getElem hlt
      obtain ⟨hgo, hy⟩ := wk2.2 _ hd
      rw [drop_cons hd] at rs
      have hx := rs.cons
      refine .inr ⟨hgo, Turns G Γ.O A H1 f K l (i + 1), fun H' t => ⟨l.length - (i + 1), by omega, rfl, hlt, t⟩, fun x H' y => ?_⟩
      obtain ⟨s1, dx⟩ := hy x H' y
      have d2' : Dr G H' := d2.ext s1
      have g2 : Grow G H2 H' := fun a o _ e => s1 a o e
      have gd' : GrowD G A H1 H' := gd.trans (.of g2)
      have hDl' := s1 _ _ hDl
      have dl' : DenL G (hid (A :: Γ.O) H') acc vs := dl.mono (g2.hid hdo)
      have Rt := Rb.growD cb h0 (up gd') mem ⟨_, hDl'⟩ d2'
      rw [hf] at hx
      cases hb : p.bind l[i] (wipeE (p.names ++ p2.names) Γ.ρ) with
      | none => rw [hb] at hx; exact hx.elim
      | some ρ' =>
        rw [hb] at hx
        refine ⟨Γ.blk A (p.names ++ p2.names), l[i], ρ', Rt, dx, hb, fun σ2 R2 k2 l2 => ⟨wipe_eq (fun j hj => k2 j fun z => hj (List.mem_append_left _ z)) l2, ?_⟩⟩
        have c2 : Clear ((Γ.blk A (p.names ++ p2.names)).bind p ρ') σ2 A := cb.bind k2
        generalize hΓ1 : (Γ.blk A (p.names ++ p2.names)).bind p ρ' = Γ1 at R2 c2
        have eO : Γ1.O = A :: Γ.O := by rw [← hΓ1]; rfl
        have eρ : Γ1.ρ = ρ' := by rw [← hΓ1]; rfl
        have e0 : Γ1.H0 A = none := by rw [← hΓ1]; exact h0
        have eω : ∀ i, i ∈ Γ1.ω → i ∈ Γ.ω := fun i hi => by
          rw [← hΓ1] at hi
          exact (mem_minus.mp (mem_minus.mp hi).1).1
        clear hΓ1
        refine ⟨Γ1, R2, fun j hj z => hlc j hj (eω j z), ?_⟩
        rw [eρ]
        refine Res.wp_mono (fun t q H3 g3 d3 => ?_) (fun _ _ q => q.elim) (Res.wp_bind.mp hx)
        cases t with
        | false => exact Turns.skip hdo hsa gd' hDl' dl' g3 d3 q
        | true =>
          show tI G cl mk W0 false it2 σ2 H3 _
          refine ⟨Γ1, R2.grow g3 d3, fun j hj z => hli2 j hj (eω j z), ?_⟩
          rw [eρ]
          refine Res.wp_mono (fun ls q J1 H4 g4 d4 wk1 => ?_) (fun _ _ q => q.elim) (Res.wp_bind.mp q)
          rw [eO] at wk1
          generalize hK2 : (fun full : List BB.D => Rest f K full (l.drop (i + 1))) = K2
          have hK2' : ∀ r, K2 r → Rest f K r (l.drop (i + 1)) := fun r h => by rw [← hK2] at h; exact h
          have hK2b : ∀ r, K2 r → r.length ≤ big := fun r h => by
            obtain ⟨r2, k⟩ := Res.wp_ex (hK2' r h)
            have := hKb _ k
            rw [List.length_append] at this
            omega
          have q2 : Rest (f2 ρ') K2 acc ls := by rw [← hK2]; exact q
          have g24 := g3.trans g4
          have R4 := R2.grow g24 d4
          refine ⟨fun j k Hn => k = ls.length - j ∧ j ≤ ls.length ∧ GrowD G A H4 Hn ∧ Turns G Γ.O A H1 (f2 ρ') K2 ls j Hn, ⟨ls.length, by omega, Nat.zero_le _, .refl H4, gd'.trans (.of g24), d4, vs, acc, g24 A _ hsa.1.symm hDl', dl'.mono (g24.hid hdo), by rw [List.drop_zero]; exact q2⟩, ?_⟩
          rintro j k Hn ⟨rfl, hj, g4n, gn, dn, vsn, an, hDn, dln, rsn⟩
          have wk3 := wk1 j (A :: Γ.O) Hn (g4n.hid hdo mem) (fun z => by cases z) (blk_live R1 hA gn dn ⟨_, hDn⟩) dn
          by_cases hlt2 : j < ls.length
          · have hd2 := List.getElem?_eq_getElem hlt2
            obtain ⟨hgo2, hy2⟩ := wk3.2 _ hd2
            rw [drop_cons hd2] at rsn
            have hx2 := rsn.cons
            refine .inr ⟨hgo2, fun H' => GrowD G A H4 H' ∧ Turns G Γ.O A H1 (f2 ρ') K2 ls (j + 1) H', fun H' t => ⟨ls.length - (j + 1), by omega, rfl, hlt2, t⟩, fun x2 H5 y2 => ?_⟩
            obtain ⟨s5, dx2⟩ := hy2 x2 H5 y2
            have g5 : Grow G Hn H5 := fun a o _ e => s5 a o e
            have d5 : Dr G H5 := dn.ext s5
            have R5 := (R4.growD c2 e0 (g4n.trans (.of g5)) (by rw [eO]; exact mem) ⟨_, s5 _ _ hDn⟩ d5).wip p2.names
            rw [hf2'] at hx2
            cases hb2 : p2.bind ls[j] (wipeE p2.names ρ') with
            | none => rw [hb2] at hx2; exact hx2.elim
            | some ρ2 =>
              rw [hb2] at hx2
              refine ⟨Γ1.wip p2.names, ls[j], ρ2, R5, (show Den G (hid Γ1.O H5) ls[j] x2 by rw [eO]; exact dx2), (by show p2.bind ls[j] (wipeE p2.names Γ1.ρ) = _; rw [eρ]; exact hb2), fun σ3 R3 k3 l3 => ⟨wipe_eq k3 l3, ?_⟩⟩
              have ew : ∀ i, i ∈ ((Γ1.wip p2.names).bind p2 ρ2).ω → i ∈ Γ.ω := fun i hi => eω i (mem_minus.mp (mem_minus.mp hi).1).1
              refine ⟨(Γ1.wip p2.names).bind p2 ρ2, R3, fun j hj z => hlc2 j hj (ew j z), Res.wp_mono (fun t q H6 g6 d6 => ?_) (fun _ _ q => q.elim) (Res.wp_bind.mp hx2)⟩
              cases t with
              | false => exact ⟨g4n.trans (.of (g5.trans g6)), Turns.skip hdo hsa gn hDn dln (g5.trans g6) d6 q⟩
              | true =>
                show tE G cl mk W0 false e σ3 H6 _
                refine ⟨(Γ1.wip p2.names).bind p2 ρ2, R3.grow g6 d6, fun j hj z => hle j hj (ew j z), ?_⟩
                refine Res.wp_mono (fun z q v H7 g7 d7 s7 => ?_) (fun _ _ q => q.elim) (Res.wp_bind.mp q)
                obtain ⟨a, h1, h2, h3⟩ := Turns.app (O := Γ.O) hK2b hdo hsa gn hDn dln ((g5.trans g6).trans g7) d7 (by have s7 : Den G (hid Γ1.O H7) z v := s7; rw [eO] at s7; exact s7) q
                exact ⟨a, h1, h2, (g4n.trans (.of ((g5.trans g6).trans g7))).trans (.upd H7), h3⟩
          · have e : j = ls.length := by omega
            subst e
            refine .inl ⟨wk3.1 (Nat.le_refl _), gn, dn, vsn, an, hDn, dln, ?_⟩
            rw [List.drop_length] at rsn
            exact hK2' _ rsn.nil
    · have e : i = l.length := by omega
      subst e
      refine .inl ⟨wk2.1 (Nat.le_refl _), ?_⟩
      rw [List.drop_length] at rs
      have hA0 : H A = none := by
        cases z : H A with
        | none => rfl
        | some u => exact absurd ((g1 A u hsa.1.symm z).symm.trans hA) (by simp)
      exact hfin acc A vs H2 rs.nil hA0 (R1.fresh hA) (g1.trans gg) d2 hDl dl
theorem lc2_imp {m : Bool} {e : E} {p p2 : Pat} {it it2 : It} {cs cs2 : Es} (h : tE G cl mk W m (.lc2 e p it cs p2 it2 cs2) σ H Q) :
    tLc2 (tI G cl mk W true it) (gP G p) (tTs G cl mk W0 cs) (tI G cl mk W0 false it2) (gP G p2) (tTs G cl mk W0 cs2) (tE G cl mk W0 false e) (p.names ++ p2.names) p2.names σ H Q := by
  obtain ⟨Γ, R, lk, w⟩ := h
  have lk : ∀ j ∈ BB.lk e ++ lkI it ++ lksB cs ++ lkF it2 ++ lksB cs2, j ∉ Γ.ω := by cases m <;> exact lk
  refine lc2_gen (m := m) (K := fun r => r.length ≤ big ∧ Wt G Γ.O H m Q (.lst r)) R lk (f2 := fun ρ' d2 => match p2.bind d2 (wipeE p2.names ρ') with
      | none => Res.stuck
      | some ρ2 => (evT G.T cl mk cs2 ρ2).bind fun t => if t then (ev G.T cl mk e ρ2).bind fun x => Res.ok [x] else Res.ok []) (fun _ _ => rfl) (fun _ => rfl) (Res.wp_mono (fun l q => ?_) (fun _ _ q => q) (Res.wp_bind.mp w)) (fun _ h => h.1) fun r A vs H2 k hA ho g d e dl => ?_
  · exact Res.wp_mono (fun r h => wp_if h) (fun _ _ q => q) (Res.wp_calm (Res.wp_bind.mp q))
  · exact k.2 (.ref A) H2 g d (Sees.of ⟨A, vs, rfl, .inl ((hid_out ho).trans e), dl.mono (hid_mono fun a ha => List.mem_cons_of_mem _ ha)⟩)
end BB
end
section
set_option Elab.async false
set_option linter.all false
set_option maxRecDepth 100000
set_option maxHeartbeats 4000000
/-! Tests. -/
namespace BB
open PySem PySem.Spec PyProof.Rows L2
variable {G : Gc} {C : Ck} {cl : Cal} {mk : Mak} {W : WS} {X : Cx} {Γ : Fr} {σ : L2.St} {H : Hp} {Q : VK}
/-- a comprehension that goes to a name on its line -/
structure Cmp (G : Gc) (cl : Cal) (mk : Mak) (W : WS) (X : Cx) (a : E) (e : Ex) : Prop where
  pa : ∀ m (i : Nat) (y : PySem.Str) (py spos : Pos), X.N[i]? = some y → X.env.scope.names.lookup y = some .local → swapsWith e (some (.Name y py)) spos.line X.env = pure true → PS X (.Assign [.Name y py] e spos) (tAsg (tE G cl mk W m a) (gName i))
  pf : fresh a = true → ∀ (i : Nat) (y : PySem.Str) (py spos : Pos), X.N[i]? = some y → X.env.scope.names.lookup y = some .local → swapsWith e (some (.Name y py)) spos.line X.env = pure true → PS X (.Assign [.Name y py] e spos) (tAsg (tF G cl mk W a) (gName i))
structure Bth (G : Gc) (cl : Cal) (mk : Mak) (W : WS) (X : Cx) (a : E) (e : Ex) : Prop where
  pe : ∀ m, PE X e (tE G cl mk W m a)
  pt : PT X e (BB.tB G cl mk W a)
  pw : (∃ op l p, e = .BoolOp op l p) → PW X e (BB.tB G cl mk W a)
  pf : fresh a = true → PE X e (tF G cl mk W a)
  cp : isComp e = true → Cmp G cl mk W X a e
theorem Bth.mk1 {a : E} {e : Ex} (h : PT X e (BB.tB G cl mk W a)) (n : ¬∃ op l p, e = .BoolOp op l p) (k : ∀ m, PE X e (tE G cl mk W m a)) (nf : fresh a = false := by rfl) (nc : isComp e = false := by rfl) : Bth G cl mk W X a e := ⟨k, h, fun z => absurd z n, (fun z => by rw [nf] at z; cases z), fun z => by rw [nc] at z; cases z⟩
theorem Bth.mk2 {a : E} {e : Ex} (h : PW X e (BB.tB G cl mk W a)) (k : ∀ m, PE X e (tE G cl mk W m a)) (nf : fresh a = false := by rfl) (nc : isComp e = false := by rfl) : Bth G cl mk W X a e := ⟨k, h.pt, fun _ => h, (fun z => by rw [nf] at z; cases z), fun z => by rw [nc] at z; cases z⟩
theorem tB_ex {a : E} {P : Bool → Hp → Prop} (h : BB.tB G cl mk W a σ H P) {m : Bool} (hl : lkM m a = lkB a ∨ m = true) : tE G cl mk W true a σ H fun x H1 => rTru G cl x H1 P := by
  obtain ⟨Γ, R, lk, w⟩ := h
  refine ⟨Γ, R, lk, Res.wp_mono (fun d q v H1 g dr s => ?_) (fun _ _ q => q) (Res.wp_bind.mp w)⟩
  exact ⟨Γ.O, W σ, d, s.vw, R.drO, (R.grow g dr).live, dr, Res.wp_mono (fun b k H2 g2 d2 => k H2 (g.trans g2) d2) (fun _ _ k => k.grow g) q⟩
theorem Bth.plain {a : E} {e : Ex} (T : TruR X (rTru G cl)) (he : ∀ whole, isTrue e X.env whole = (do let v ← whole; standAt e.pos; holding [v] (truthy v))) (n : ¬∃ op l p, e = .BoolOp op l p) (k : ∀ m, PE X e (tE G cl mk W m a)) (nf : fresh a = false := by rfl) (nc : isComp e = false := by rfl) : Bth G cl mk W X a e :=
  Bth.mk1 ((pt_R T (k true) he).imp fun σ H Q h => tB_ex h (.inr rfl)) n k nf nc
theorem Bth.plainF {a : E} {e : Ex} (T : TruR X (rTru G cl)) (he : ∀ whole, isTrue e X.env whole = (do let v ← whole; standAt e.pos; holding [v] (truthy v))) (n : ¬∃ op l p, e = .BoolOp op l p) (kf : fresh a = true → PE X e (tF G cl mk W a)) (k : ∀ m, PE X e (tE G cl mk W m a)) (nc : isComp e = false := by rfl) : Bth G cl mk W X a e :=
  ⟨k, (pt_R T (k true) he).imp fun σ H Q h => tB_ex h (.inr rfl), fun z => absurd z n, kf, fun z => by rw [nc] at z; cases z⟩
theorem Bth.comp {a : E} {e : Ex} (T : TruR X (rTru G cl)) (he : ∀ whole, isTrue e X.env whole = (do let v ← whole; standAt e.pos; holding [v] (truthy v))) (n : ¬∃ op l p, e = .BoolOp op l p) (kf : fresh a = true → PE X e (tF G cl mk W a)) (k : ∀ m, PE X e (tE G cl mk W m a)) (c : Cmp G cl mk W X a e) : Bth G cl mk W X a e :=
  ⟨k, (pt_R T (k true) he).imp fun σ H Q h => tB_ex h (.inr rfl), fun z => absurd z n, kf, fun _ => c⟩
theorem _root_.L2.PS.imp {X : Cx} {st : PySem.Stmt} {t t' : TS} (h : PS X st t) (w : ∀ D σ H, t' D σ H → t D σ H) : PS X st t' := ⟨fun pins s σ H D I hw => h.run pins s σ H D I (w D σ H hw)⟩
theorem _root_.L2.PSs.imp {X : Cx} {st : List PySem.Stmt} {t t' : TS} (h : PSs X st t) (w : ∀ D σ H, t' D σ H → t D σ H) : PSs X st t' := ⟨fun pins s σ H D I hw => h.run pins s σ H D I (w D σ H hw)⟩
theorem bad_tE {m : Bool} (h : tE G cl mk W m .bad σ H Q) : False := by obtain ⟨Γ, R, lk, w⟩ := h; exact w.elim
theorem bad_tB {Q : Bool → Hp → Prop} (h : BB.tB G cl mk W .bad σ H Q) : False := by obtain ⟨Γ, R, lk, w⟩ := h; exact w.elim
theorem Bth.bad {e : Ex} : Bth G cl mk W X .bad e := ⟨fun m => ⟨fun _ _ _ _ _ _ hq => (bad_tE hq).elim⟩, ⟨fun _ _ _ _ _ _ hq => (bad_tB hq).elim⟩, fun _ => ⟨fun _ _ _ _ _ _ _ hq => (bad_tB hq).elim⟩, (fun z => by cases z), fun _ => ⟨fun _ _ _ _ _ _ _ _ => ⟨fun _ _ _ _ _ _ hq => (bad_tE (m := _) hq).elim⟩, fun z => by cases z⟩⟩
/-- the truth of a value is told at once -/
theorem truR_ok (T : Tb) (cl : Cal) (a : D) : truR T cl a = .stuck ∨ ∃ b, truR T cl a = .ok b := by
  have opt : ∀ o : Option Bool, Res.ofOpt o = .stuck ∨ ∃ b, Res.ofOpt o = .ok b := fun o => by
    cases o with
    | none => exact .inl rfl
    | some b => exact .inr ⟨b, rfl⟩
  match a with
  | .non => exact opt (some false)
  | .bl b => exact opt (some b)
  | .int i => exact opt (some (i != 0))
  | .str x => exact opt (if Nat.ble x.cps.size big then some (x.cps.size != 0) else none)
  | .tup l => exact opt (some (!l.isEmpty))
  | .lst l => exact opt (some (!l.isEmpty))
  | .dct l => exact opt (some (!l.isEmpty))
  | .me _ _ => exact opt none
  | .draw => exact opt none
  | .ins c fs =>
  unfold truR
  simp only
  split
  · exact .inl rfl
  · split
    · split
      · exact .inr ⟨_, rfl⟩
      · exact .inl rfl
    · exact .inr ⟨_, rfl⟩
theorem wp_truR {a : D} {β : Type} {k : Bool → Res β} {S : β → Prop} {R : Nat → Fs → Prop} (h : ((truR G.T cl a).bind k).wp S R) : ∃ b, truR G.T cl a = .ok b ∧ (k b).wp S R := by
  rcases truR_ok G.T cl a with e | ⟨b, e⟩
  · rw [e] at h; exact h.elim
  · rw [e] at h; exact ⟨b, e, h⟩
/-- from a test of several: the first's own -/
theorem tB_of {a : E} (R : Rel G Γ σ H) (lk : ∀ i ∈ lkB a, i ∉ Γ.ω) {β : Type} {k : D → Res β} {S : β → Prop} {P : Bool → Hp → Prop} (h : ((ev G.T cl mk a Γ.ρ).bind k).wp S (Rst G Γ.O H (W σ)))
    (f : ∀ d b H', Grow G H H' → Dr G H' → truR G.T cl d = .ok b → (k d).wp S (Rst G Γ.O H (W σ)) → P b H') (z : ∀ d, (k d).wp S (Rst G Γ.O H (W σ)) → ∃ b, truR G.T cl d = .ok b) : BB.tB G cl mk W a σ H P := by
  refine ⟨Γ, R, lk, Res.wp_bind.mpr (Res.wp_mono (fun d q => ?_) (fun _ _ q => q) (Res.wp_bind.mp h))⟩
  obtain ⟨b, e⟩ := z d q
  rw [e]
  exact fun H' g dr => f d b H' g dr e q
theorem assoc {α β γ : Type} {r : Res α} {f : α → Res β} {g : β → Res γ} : (r.bind f).bind g = r.bind fun x => (f x).bind g := by
  induction r with
  | ok a => rfl
  | raise c x => rfl
  | stuck => rfl
  | ask n k ih => exact congrArg (Res.ask n) (funext fun i => ih i)
theorem ite_bind {c : Bool} {α β : Type} {a b : Res α} {f : α → Res β} : (if c = true then a else b : Res α).bind f = if c = true then a.bind f else b.bind f := by cases c <;> rfl
theorem tB_not {a : E} {x : Ex} {pos : Pos} (h : PT X x (BB.tB G cl mk W a)) : PT X (.UnaryOp .Not x pos) (BB.tB G cl mk W (.not a)) :=
  (pt_not h).imp fun σ H Q hq => by
    obtain ⟨Γ, R, lk, w⟩ := hq
    have w : (((ev G.T cl mk a Γ.ρ).bind fun x => (truR G.T cl x).bind fun b => .ok (.bl !b)).bind (truR G.T cl)).wp _ _ := w
    rw [assoc] at w
    refine tB_of (a := a) R lk w (fun d b H' g dr e q => ?_) (fun d q => ?_)
    · rw [e] at q
      exact q H' g dr
    · rw [assoc] at q
      obtain ⟨b, e, _⟩ := wp_truR q
      exact ⟨b, e⟩
theorem tB_and {a b : E} {x y : Ex} {r : List Ex} {pos : Pos} (h : PT X x (BB.tB G cl mk W a)) (k : PW X (.BoolOp .And (y :: r) pos) (BB.tB G cl mk W b)) : PW X (.BoolOp .And (x :: y :: r) pos) (BB.tB G cl mk W (.and a b)) :=
  (pw_and h k).imp fun σ H Q hq => by
    obtain ⟨Γ, R, lk, w⟩ := hq
    have lk : ∀ i ∈ lkB a ++ lkB b, i ∉ Γ.ω := lk
    have w : (((ev G.T cl mk a Γ.ρ).bind fun x => (truR G.T cl x).bind fun t => if t then ev G.T cl mk b Γ.ρ else .ok x).bind (truR G.T cl)).wp _ _ := w
    rw [assoc] at w
    refine tB_of (a := a) R (lk_l lk) w (fun d t H' g dr e q => ?_) (fun d q => ?_)
    · rw [e] at q
      cases t with
      | true => exact ⟨Γ, R.grow g dr, lk_r lk, Res.wp_mono (fun b k H2 g2 d2 => k H2 (g.trans g2) d2) (fun _ _ k => k.grow g) q⟩
      | false =>
        have q : (truR G.T cl d).wp _ _ := q
        rw [e] at q
        exact q H' g dr
    · rw [assoc] at q
      obtain ⟨b, e, _⟩ := wp_truR q
      exact ⟨b, e⟩
theorem tB_or {a b : E} {x y : Ex} {r : List Ex} {pos : Pos} (h : PT X x (BB.tB G cl mk W a)) (k : PW X (.BoolOp .Or (y :: r) pos) (BB.tB G cl mk W b)) : PW X (.BoolOp .Or (x :: y :: r) pos) (BB.tB G cl mk W (.or a b)) :=
  (pw_or h k).imp fun σ H Q hq => by
    obtain ⟨Γ, R, lk, w⟩ := hq
    have lk : ∀ i ∈ lkB a ++ lkB b, i ∉ Γ.ω := lk
    have w : (((ev G.T cl mk a Γ.ρ).bind fun x => (truR G.T cl x).bind fun t => if t then .ok x else ev G.T cl mk b Γ.ρ).bind (truR G.T cl)).wp _ _ := w
    rw [assoc] at w
    refine tB_of (a := a) R (lk_l lk) w (fun d t H' g dr e q => ?_) (fun d q => ?_)
    · rw [e] at q
      cases t with
      | false => exact ⟨Γ, R.grow g dr, lk_r lk, Res.wp_mono (fun b k H2 g2 d2 => k H2 (g.trans g2) d2) (fun _ _ k => k.grow g) q⟩
      | true =>
        have q : (truR G.T cl d).wp _ _ := q
        rw [e] at q
        exact q H' g dr
    · rw [assoc] at q
      obtain ⟨b, e, _⟩ := wp_truR q
      exact ⟨b, e⟩
theorem tB_ite {c a b : E} {t x y : Ex} {pos : Pos} (hc : PT X t (BB.tB G cl mk W c)) (ha : PT X x (BB.tB G cl mk W a)) (hb : PT X y (BB.tB G cl mk W b)) : PT X (.IfExp t x y pos) (BB.tB G cl mk W (.ite c a b)) :=
  (pt_if hc ha hb).imp fun σ H Q hq => by
    obtain ⟨Γ, R, lk, w⟩ := hq
    have lk : ∀ i ∈ lkB c ++ lkB a ++ lkB b, i ∉ Γ.ω := lk
    have w : (((ev G.T cl mk c Γ.ρ).bind fun x => (truR G.T cl x).bind fun t => if t then ev G.T cl mk a Γ.ρ else ev G.T cl mk b Γ.ρ).bind (truR G.T cl)).wp _ _ := w
    rw [assoc] at w
    refine tB_of (a := c) R (lk_l (lk_l lk)) w (fun d t H' g dr e q => ?_) (fun d q => ?_)
    · rw [e] at q
      cases t with
      | true => exact ⟨Γ, R.grow g dr, lk_r (lk_l lk), Res.wp_mono (fun b k H2 g2 d2 => k H2 (g.trans g2) d2) (fun _ _ k => k.grow g) q⟩
      | false => exact ⟨Γ, R.grow g dr, lk_r lk, Res.wp_mono (fun b k H2 g2 d2 => k H2 (g.trans g2) d2) (fun _ _ k => k.grow g) q⟩
    · rw [assoc] at q
      obtain ⟨b, e, _⟩ := wp_truR q
      exact ⟨b, e⟩
theorem tB_cmp {op : Cop} {a b : E} {x y : Ex} {pos : Pos} (ho : OpR X (compareOp (copOf op)) (rCmp G cl op)) (ha : PE X x (tE G cl mk W true a)) (hb : PE X y (tE G cl mk W true b)) (hm : behindInMarks (copOf op) y = false) :
    PT X (.Compare x [copOf op] [y] pos) (BB.tB G cl mk W (.cmp op a b)) :=
  (pt_cmpR ho ha hb hm).imp fun σ H Q hq => by
    obtain ⟨Γ, R, lk, w⟩ := hq
    have lk : ∀ i ∈ lkB a ++ lkB b, i ∉ Γ.ω := lk
    have w : (((ev G.T cl mk a Γ.ρ).bind fun x => (ev G.T cl mk b Γ.ρ).bind fun y => cmpR G.T cl op x y).bind (truR G.T cl)).wp _ _ := w
    rw [assoc] at w
    have w2 : ((ev G.T cl mk a Γ.ρ).bind fun x => (ev G.T cl mk b Γ.ρ).bind fun y => (cmpR G.T cl op x y).bind (truR G.T cl)).wp (fun b => ∀ H', Grow G H H' → Dr G H' → Q b H') (Rst G Γ.O H (W σ)) := by
      refine Res.wp_bind.mpr (Res.wp_mono (fun d q => ?_) (fun _ _ q => q) (Res.wp_bind.mp w))
      rw [assoc] at q
      exact q
    refine two_tE (m1 := true) (m2 := true) (a := a) (b := b) R (lk_l lk) (lk_r lk) w2 fun d e v u H1 g dr s1 s2 q => ?_
    refine ⟨Γ.O, W σ, d, e, s1.vw, s2.vw, (R.grow g dr).out (Res.wp_mono (fun z q2 v2 H2 g2 d2 s3 => ?_) (fun _ _ k => k.grow g) (cmpR_bl (Res.wp_bind.mp q)))⟩
    obtain ⟨⟨t, ht⟩, q2⟩ := q2
    subst ht
    exact ⟨t, s3, q2 H2 (g.trans g2) d2⟩
theorem tB_cmp2 {op op2 : Cop} {a b c : E} {x y z : Ex} {pos : Pos} (ho : OpR X (compareOp (copOf op)) (rCmp G cl op)) (ho2 : OpR X (compareOp (copOf op2)) (rCmp G cl op2)) (ha : PE X x (tE G cl mk W true a)) (hb : PE X y (tE G cl mk W true b)) (hc : PE X z (tE G cl mk W true c)) (hm : lastMarks [copOf op, copOf op2] [y, z] = false) :
    PT X (.Compare x [copOf op, copOf op2] [y, z] pos) (BB.tB G cl mk W (.cmp2 op op2 a b c)) :=
  (pt_chain ho ho2 ha hb hc hm).imp fun σ H Q hq => by
    obtain ⟨Γ, R, lk, w⟩ := hq
    have lk : ∀ i ∈ lkB a ++ lkB b ++ lkB c, i ∉ Γ.ω := lk
    have w2 : ((ev G.T cl mk a Γ.ρ).bind fun x => (ev G.T cl mk b Γ.ρ).bind fun y => (cmpR G.T cl op x y).bind fun r => ((match r with
        | .bl true => (ev G.T cl mk c Γ.ρ).bind fun z => cmpR G.T cl op2 y z
        | .bl false => .ok (.bl false)
        | _ => .stuck) : Res D).bind (truR G.T cl)).wp (fun b => ∀ H', Grow G H H' → Dr G H' → Q b H') (Rst G Γ.O H (W σ)) := by
      have w : (((ev G.T cl mk a Γ.ρ).bind fun x => (ev G.T cl mk b Γ.ρ).bind fun y => (cmpR G.T cl op x y).bind fun r => (match r with
        | .bl true => (ev G.T cl mk c Γ.ρ).bind fun z => cmpR G.T cl op2 y z
        | .bl false => .ok (.bl false)
        | _ => .stuck : Res D)).bind (truR G.T cl)).wp _ _ := w
      rw [assoc] at w
      refine Res.wp_bind.mpr (Res.wp_mono (fun d q => ?_) (fun _ _ q => q) (Res.wp_bind.mp w))
      rw [assoc] at q
      refine Res.wp_bind.mpr (Res.wp_mono (fun d q => ?_) (fun _ _ q => q) (Res.wp_bind.mp q))
      rw [assoc] at q
      exact q
    refine two_tE (m1 := true) (m2 := true) (a := a) (b := b) R (lk_l (lk_l lk)) (lk_r (lk_l lk)) w2 fun d e v u H1 g dr s1 s2 q => ?_
    refine ⟨Γ.O, W σ, d, e, s1.vw, s2.vw, (R.grow g dr).out (Res.wp_mono (fun z q2 v2 H2 g2 d2 s3 => ?_) (fun _ _ k => k.grow g) (cmpR_bl (Res.wp_bind.mp q)))⟩
    obtain ⟨⟨t, ht⟩, q2⟩ := q2
    subst ht
    refine ⟨t, s3, ?_⟩
    cases t with
    | true =>
      simp only at q2
      rw [assoc] at q2
      refine one_tE (RR := fun _ _ => True) (m := true) (a := c) (R.grow (g.trans g2) d2) (lk_r lk) (Res.wp_mono (fun _ k => k) (fun _ _ k => k.grow (g.trans g2)) q2) fun y v3 H3 g3 d3 s4 q3 => ?_
      refine ⟨Γ.O, W σ, e, y, (s2.grow (g2.trans g3) R.drO).vw, s4.vw, ((R.grow (g.trans g2) d2).grow g3 d3).out (Res.wp_mono (fun z k v4 H4 g4 d4 s5 => ?_) (fun _ _ k => k.grow g3) (cmpR_bl (Res.wp_bind.mp q3)))⟩
      obtain ⟨⟨t, ht⟩, k⟩ := k
      subst ht
      exact ⟨t, s5, k H4 ((g.trans g2).trans (g3.trans g4)) d4⟩
    | false => exact ⟨false, rfl, q2 H2 (g.trans g2) d2⟩
end BB
end
section
set_option Elab.async false
set_option linter.all false
set_option maxRecDepth 100000
set_option maxHeartbeats 4000000
/-! Dicts: one described object, read and written by two kinds of keys. -/
namespace BB
open PySem PySem.Spec PyProof.Rows L2
variable {G : Gc} {X : Cx} {pins : List (Addr × Obj)} {σ : L2.St} {H Hv : Hp} {s : Shared} {A : Around} {E : Value → Shared → Prop}
def kk : D → Key
  | .int i => .inl i
  | .str x => .inr x
  | _ => .inl 0
theorem kk_v {d : D} {v : V} (h : atomKey d = true) (e : Den G H d v) : v = kV (kk d) := by
  cases d <;> first | exact e | (exact absurd h (show ¬ (false = true) from Bool.noConfusion))
theorem eqv_kk {a b : D} (ha : atomKey a = true) (hb : atomKey b = true) : eqv a b = decide (kk a = kk b) := by
  cases a <;> (first | exact absurd ha (show ¬ (false = true) from Bool.noConfusion) | skip) <;> cases b <;> (first | exact absurd hb (show ¬ (false = true) from Bool.noConfusion) | skip)
  · rename_i i j
    show (i == j) = _
    rw [show kk (.int i) = Sum.inl i from rfl, show kk (.int j) = Sum.inl j from rfl, key_ll]
  · exact (key_lr _ _).symm
  · exact (key_rl _ _).symm
  · rename_i x y
    show (x == y) = _
    rw [show kk (.str x) = Sum.inr x from rfl, show kk (.str y) = Sum.inr y from rfl, key_rr, Bool.beq_eq_decide_eq]
theorem hash_kk {w : World} {d : D} (h : atomKey d = true) : (nk d).hash w = keyH w (kk d) := by
  cases d <;> first | rfl | (exact absurd h (show ¬ (false = true) from Bool.noConfusion))
mutual
theorem eqv_nk : ∀ (n m : Nat) (a b : D), deepKey n a = true → deepKey m b = true → eqv a b = decide (nk a = nk b)
  | n, m, .tup l, .tup r, ha, hb => by
    cases n with
    | zero => exact absurd ha (show ¬ (false = true) from Bool.noConfusion)
    | succ n =>
      cases m with
      | zero => exact absurd hb (show ¬ (false = true) from Bool.noConfusion)
      | succ m =>
        rw [NestedKey.decide_eq]
        show eqvs l r = NestedKey.beqAll (nks l) (nks r)
        exact eqvs_nk n m l r ha hb
  | _, m, .non, b, _, hb => by
    match b, hb with
    | .non, _ =>
      rw [NestedKey.decide_eq]
      rfl
    | .bl j, _ =>
      rw [NestedKey.decide_eq]
      rfl
    | .int j, _ =>
      rw [NestedKey.decide_eq]
      rfl
    | .str y, _ =>
      rw [NestedKey.decide_eq]
      rfl
    | .tup r, _ =>
      rw [NestedKey.decide_eq]
      rfl
    | .lst _, hb => exact absurd hb (by cases m <;> exact Bool.noConfusion)
    | .dct _, hb => exact absurd hb (by cases m <;> exact Bool.noConfusion)
    | .ins _ _, hb => exact absurd hb (by cases m <;> exact Bool.noConfusion)
    | .me _ _, hb => exact absurd hb (by cases m <;> exact Bool.noConfusion)
    | .draw, hb => exact absurd hb (by cases m <;> exact Bool.noConfusion)
  | _, m, .bl i, b, _, hb => by
    match b, hb with
    | .non, _ =>
      rw [NestedKey.decide_eq]
      rfl
    | .bl j, _ =>
      rw [NestedKey.decide_eq]
      show (i == j) = decide (b2i i = b2i j)
      cases i <;> cases j <;> decide
    | .int j, _ =>
      rw [NestedKey.decide_eq]
      show (b2i i == j) = decide (b2i i = j)
      rw [Bool.beq_eq_decide_eq]
    | .str y, _ =>
      rw [NestedKey.decide_eq]
      rfl
    | .tup r, _ =>
      rw [NestedKey.decide_eq]
      rfl
    | .lst _, hb => exact absurd hb (by cases m <;> exact Bool.noConfusion)
    | .dct _, hb => exact absurd hb (by cases m <;> exact Bool.noConfusion)
    | .ins _ _, hb => exact absurd hb (by cases m <;> exact Bool.noConfusion)
    | .me _ _, hb => exact absurd hb (by cases m <;> exact Bool.noConfusion)
    | .draw, hb => exact absurd hb (by cases m <;> exact Bool.noConfusion)
  | _, m, .int i, b, _, hb => by
    match b, hb with
    | .non, _ =>
      rw [NestedKey.decide_eq]
      rfl
    | .bl j, _ =>
      rw [NestedKey.decide_eq]
      show (i == b2i j) = decide (i = b2i j)
      rw [Bool.beq_eq_decide_eq]
    | .int j, _ =>
      rw [NestedKey.decide_eq]
      show (i == j) = decide (i = j)
      rw [Bool.beq_eq_decide_eq]
    | .str y, _ =>
      rw [NestedKey.decide_eq]
      rfl
    | .tup r, _ =>
      rw [NestedKey.decide_eq]
      rfl
    | .lst _, hb => exact absurd hb (by cases m <;> exact Bool.noConfusion)
    | .dct _, hb => exact absurd hb (by cases m <;> exact Bool.noConfusion)
    | .ins _ _, hb => exact absurd hb (by cases m <;> exact Bool.noConfusion)
    | .me _ _, hb => exact absurd hb (by cases m <;> exact Bool.noConfusion)
    | .draw, hb => exact absurd hb (by cases m <;> exact Bool.noConfusion)
  | _, m, .str x, b, _, hb => by
    match b, hb with
    | .non, _ =>
      rw [NestedKey.decide_eq]
      rfl
    | .bl j, _ =>
      rw [NestedKey.decide_eq]
      rfl
    | .int j, _ =>
      rw [NestedKey.decide_eq]
      rfl
    | .str y, _ =>
      rw [NestedKey.decide_eq]
      show (x == y) = decide (x = y)
      rw [Bool.beq_eq_decide_eq]
    | .tup r, _ =>
      rw [NestedKey.decide_eq]
      rfl
    | .lst _, hb => exact absurd hb (by cases m <;> exact Bool.noConfusion)
    | .dct _, hb => exact absurd hb (by cases m <;> exact Bool.noConfusion)
    | .ins _ _, hb => exact absurd hb (by cases m <;> exact Bool.noConfusion)
    | .me _ _, hb => exact absurd hb (by cases m <;> exact Bool.noConfusion)
    | .draw, hb => exact absurd hb (by cases m <;> exact Bool.noConfusion)
  | _, _, .tup l, .non, _, _ => by rw [NestedKey.decide_eq]; rfl
  | _, _, .tup l, .bl _, _, _ => by rw [NestedKey.decide_eq]; rfl
  | _, _, .tup l, .int _, _, _ => by rw [NestedKey.decide_eq]; rfl
  | _, _, .tup l, .str _, _, _ => by rw [NestedKey.decide_eq]; rfl
  | _, m, .tup l, .lst _, _, hb => absurd hb (by cases m <;> exact Bool.noConfusion)
  | _, m, .tup l, .dct _, _, hb => absurd hb (by cases m <;> exact Bool.noConfusion)
  | _, m, .tup l, .ins _ _, _, hb => absurd hb (by cases m <;> exact Bool.noConfusion)
  | _, m, .tup l, .me _ _, _, hb => absurd hb (by cases m <;> exact Bool.noConfusion)
  | _, m, .tup l, .draw, _, hb => absurd hb (by cases m <;> exact Bool.noConfusion)
  | n, _, .lst _, _, ha, _ => absurd ha (by cases n <;> exact Bool.noConfusion)
  | n, _, .dct _, _, ha, _ => absurd ha (by cases n <;> exact Bool.noConfusion)
  | n, _, .ins _ _, _, ha, _ => absurd ha (by cases n <;> exact Bool.noConfusion)
  | n, _, .me _ _, _, ha, _ => absurd ha (by cases n <;> exact Bool.noConfusion)
  | n, _, .draw, _, ha, _ => absurd ha (by cases n <;> exact Bool.noConfusion)
theorem eqvs_nk : ∀ (n m : Nat) (a b : List D), deepKeys n a = true → deepKeys m b = true → eqvs a b = NestedKey.beqAll (nks a) (nks b)
  | _, _, [], [], _, _ => rfl
  | _, _, [], _ :: _, _, _ => rfl
  | _, _, _ :: _, [], _, _ => rfl
  | n, m, a :: l, b :: r, ha, hb => by
    obtain ⟨a1, a2⟩ := ands (show (deepKey n a && deepKeys n l) = true from ha)
    obtain ⟨b1, b2⟩ := ands (show (deepKey m b && deepKeys m r) = true from hb)
    show (eqv a b && eqvs l r) = (NestedKey.beq (nk a) (nk b) && NestedKey.beqAll (nks l) (nks r))
    rw [eqv_nk n m a b a1 b1, eqvs_nk n m l r a2 b2, NestedKey.decide_eq]
end
theorem tupKey_deep {d : D} (h : tupKey d = true) : deepKey 8 d = true ∧ ∃ l, d = .tup l := by
  cases d <;> first | exact ⟨h, _, rfl⟩ | (exact absurd h (show ¬ (false = true) from Bool.noConfusion))
mutual
theorem depth_nk : ∀ (n : Nat) (a : D), deepKey n a = true → (nk a).depth ≤ n
  | 0, .tup _, h => absurd h (show ¬ (false = true) from Bool.noConfusion)
  | n + 1, .tup l, h => by
    show NestedKey.depthAll (nks l) + 1 ≤ n + 1
    have := depths_nk n l h
    omega
  | n, .non, _ => Nat.zero_le _ | n, .bl _, _ => Nat.zero_le _ | n, .int _, _ => Nat.zero_le _ | n, .str _, _ => Nat.zero_le _
  | n, .lst _, h => absurd h (by cases n <;> exact Bool.noConfusion)
  | n, .dct _, h => absurd h (by cases n <;> exact Bool.noConfusion)
  | n, .ins _ _, h => absurd h (by cases n <;> exact Bool.noConfusion)
  | n, .me _ _, h => absurd h (by cases n <;> exact Bool.noConfusion)
  | n, .draw, h => absurd h (by cases n <;> exact Bool.noConfusion)
theorem depths_nk : ∀ (n : Nat) (a : List D), deepKeys n a = true → NestedKey.depthAll (nks a) ≤ n
  | _, [], _ => Nat.zero_le _
  | n, a :: l, h => by
    obtain ⟨a1, a2⟩ := ands (show (deepKey n a && deepKeys n l) = true from h)
    show max _ _ ≤ n
    exact Nat.max_le.mpr ⟨depth_nk n a a1, depths_nk n l a2⟩
end
mutual
theorem nested_of (hK : X.K = G.K) (I : Inv X pins σ H s) (e : Same Hv H) : ∀ (n : Nat) (d : D) (v : V) (u : Value), deepKey n d = true → Den G Hv d v → RelV v u → NestedIs s.heap (nk d) u
  | 0, .tup _, _, _, h, _, _ => absurd h (show ¬ (false = true) from Bool.noConfusion)
  | n + 1, .tup l, v, u, h, hd, r => by
    obtain ⟨a, vs, h1, h2, h3⟩ := hd
    subst h1
    obtain rfl : u = Value.ref a := r
    obtain ⟨its, rv, ⟨ob, ho, hc, k, hdat⟩, _⟩ := I.tuple (X := X) (by rw [hK]; exact SqT.mono e h2)
    exact .tup ho hc hdat (by rw [List.toList_toArray]; exact nesteds_of hK I e n l vs its h h3 rv)
  | n, .non, v, u, h, hd, r => by
    obtain rfl := hd
    obtain rfl : u = Value.none := r
    exact .none
  | n, .bl b, v, u, h, hd, r => by
    obtain rfl := hd
    cases r
    exact .bool (by cases b <;> rfl)
  | n, .int i, v, u, h, hd, r => by
    obtain rfl := hd
    obtain ⟨t, rfl⟩ : ∃ t, u = Value.int i t := r
    exact .int i t
  | n, .str x, v, u, h, hd, r => by
    obtain rfl := hd
    obtain ⟨t, rfl⟩ : ∃ t, u = Value.str x t := r
    exact .text x t
  | n, .lst _, _, _, h, _, _ => absurd h (by cases n <;> exact Bool.noConfusion)
  | n, .dct _, _, _, h, _, _ => absurd h (by cases n <;> exact Bool.noConfusion)
  | n, .ins _ _, _, _, h, _, _ => absurd h (by cases n <;> exact Bool.noConfusion)
  | n, .me _ _, _, _, h, _, _ => absurd h (by cases n <;> exact Bool.noConfusion)
  | n, .draw, _, _, h, _, _ => absurd h (by cases n <;> exact Bool.noConfusion)
theorem nesteds_of (hK : X.K = G.K) (I : Inv X pins σ H s) (e : Same Hv H) : ∀ (n : Nat) (l : List D) (vs : List V) (us : List Value), deepKeys n l = true → DenL G Hv l vs → Vals vs us → NestedAll s.heap (nks l) us
  | _, [], _, _, _, hd, r => by
    obtain rfl := hd
    cases r
    exact .nil
  | n, d :: l, _, _, h, hd, r => by
    obtain ⟨v, vr, rfl, h2, h3⟩ := hd
    obtain ⟨a1, a2⟩ := ands (show (deepKey n d && deepKeys n l) = true from h)
    cases r with
    | cons r1 r2 => exact .cons (nested_of hK I e n d v _ a1 h2 r1) (nesteds_of hK I e n l vr _ a2 h3 r2)
end

/-! the two tellings -/
/-- keys ints and texts -/
def KA (G : Gc) (Hv : Hp) : List (D × D) → List (Key × Value) → Prop := Paired fun p q => atomKey p.1 = true ∧ q.1 = kk p.1 ∧ ∃ v, RelV v q.2 ∧ Den G Hv p.2 v
/-- keys tuples -/
def KT2 (G : Gc) (Hv : Hp) : List (D × D) → List (NestedKey × Addr × Value) → Prop := Paired fun p q => tupKey p.1 = true ∧ q.1 = nk p.1 ∧ Den G Hv p.1 (.ref q.2.1) ∧ ∃ v, RelV v q.2.2 ∧ Den G Hv p.2 v
theorem KA.any {l : List (D × D)} {kvs : List (Key × Value)} {q : D} (h : KA G Hv l kvs) (hq : atomKey q = true) :
    (dget l q = none → valueAt kvs (kk q) = none) ∧ (∀ d, dget l q = some d → ∃ u v, valueAt kvs (kk q) = some u ∧ RelV v u ∧ Den G Hv d v) := by
  induction h with
  | nil => exact ⟨fun _ => rfl, fun d e => (by cases e)⟩
  | @cons p kv l kvs r t ih =>
    obtain ⟨k, d⟩ := p
    obtain ⟨k', u⟩ := kv
    obtain ⟨a1, a2, v, a3, a4⟩ := r
    have a2 : k' = kk k := a2
    subst a2
    have eq := eqv_kk a1 hq
    have va : valueAt ((kk k, u) :: kvs) (kk q) = if kk k = kk q then some u else valueAt kvs (kk q) := by
      unfold valueAt
      rw [List.find?_cons]
      by_cases z : kk k = kk q
      · rw [if_pos z]; simp [z]
      · rw [if_neg z]; simp [z]
    have dg : dget ((k, d) :: l) q = if eqv k q then some d else dget l q := rfl
    rw [va, dg, show eqv k q = decide (kk k = kk q) from eq]
    by_cases z : kk k = kk q
    · rw [if_pos z, decide_eq_true z, if_pos rfl]
      exact ⟨fun e => (by cases e), fun d' e => by cases e; exact ⟨u, v, rfl, a3, a4⟩⟩
    · rw [if_neg z, decide_eq_false z]
      exact ih
theorem KT2.any {l : List (D × D)} {xs : List (NestedKey × Addr × Value)} {q : D} (h : KT2 G Hv l xs) (hq : tupKey q = true) :
    (dget l q = none → atKey xs (nk q) = none) ∧ (∀ d, dget l q = some d → ∃ p v, atKey xs (nk q) = some p ∧ RelV v p.2 ∧ Den G Hv d v) := by
  induction h with
  | nil => exact ⟨fun _ => rfl, fun d e => (by cases e)⟩
  | @cons p kv l kvs r t ih =>
    obtain ⟨k, d⟩ := p
    obtain ⟨k', a, u⟩ := kv
    obtain ⟨a1, a2, _, v, a3, a4⟩ := r
    have a2 : k' = nk k := a2
    subst a2
    have eq := eqv_nk 8 8 k q (tupKey_deep a1).1 (tupKey_deep hq).1
    have va : atKey ((nk k, a, u) :: kvs) (nk q) = if nk k = nk q then some (a, u) else atKey kvs (nk q) := by
      unfold atKey
      rw [List.find?_cons]
      by_cases z : nk k = nk q
      · rw [if_pos z]; simp [z]
      · rw [if_neg z]; simp [z]
    have dg : dget ((k, d) :: l) q = if eqv k q then some d else dget l q := rfl
    rw [va, dg, show eqv k q = decide (nk k = nk q) from eq]
    by_cases z : nk k = nk q
    · rw [if_pos z, decide_eq_true z, if_pos rfl]
      exact ⟨fun e => (by cases e), fun d' e => by cases e; exact ⟨(a, u), v, rfl, a3, a4⟩⟩
    · rw [if_neg z, decide_eq_false z]
      exact ih
theorem noTwice_A {l : List (D × D)} (h : l.all (fun p => atomKey p.1) = true) : noTwice l = true ↔ (l.map fun p => kk p.1).Nodup := by
  induction l with
  | nil => exact ⟨fun _ => List.nodup_nil, fun _ => rfl⟩
  | cons p l ih =>
    obtain ⟨k, d⟩ := p
    rw [List.all_cons, Bool.and_eq_true] at h
    rw [List.map_cons, List.nodup_cons, ← ih h.2]
    show (l.all (fun p => !eqv p.1 k) && noTwice l) = true ↔ _
    rw [Bool.and_eq_true, List.all_eq_true]
    refine and_congr_left fun _ => ⟨fun z m => ?_, fun z p hp => ?_⟩
    · obtain ⟨p, hp, e⟩ := List.mem_map.mp m
      have := z p hp
      rw [eqv_kk (List.all_eq_true.mp h.2 p hp) h.1, decide_eq_true e] at this
      exact absurd this (by decide)
    · rw [eqv_kk (List.all_eq_true.mp h.2 p hp) h.1, decide_eq_false fun e => z (List.mem_map.mpr ⟨p, hp, e⟩)]
      rfl
theorem noTwice_T {l : List (D × D)} (h : l.all (fun p => tupKey p.1) = true) : noTwice l = true ↔ (l.map fun p => nk p.1).Nodup := by
  induction l with
  | nil => exact ⟨fun _ => List.nodup_nil, fun _ => rfl⟩
  | cons p l ih =>
    obtain ⟨k, d⟩ := p
    rw [List.all_cons, Bool.and_eq_true] at h
    rw [List.map_cons, List.nodup_cons, ← ih h.2]
    show (l.all (fun p => !eqv p.1 k) && noTwice l) = true ↔ _
    rw [Bool.and_eq_true, List.all_eq_true]
    have hk := (tupKey_deep h.1).1
    refine and_congr_left fun _ => ⟨fun z m => ?_, fun z p hp => ?_⟩
    · obtain ⟨p, hp, e⟩ := List.mem_map.mp m
      have := z p hp
      rw [eqv_nk 8 8 _ _ (tupKey_deep (List.all_eq_true.mp h.2 p hp)).1 hk, decide_eq_true e] at this
      exact absurd this (by decide)
    · rw [eqv_nk 8 8 _ _ (tupKey_deep (List.all_eq_true.mp h.2 p hp)).1 hk, decide_eq_false fun e => z (List.mem_map.mpr ⟨p, hp, e⟩)]
      rfl
theorem KA.keys {l : List (D × D)} {kvs : List (Key × Value)} (h : KA G Hv l kvs) : kvs.map (·.1) = l.map (fun p => kk p.1) ∧ l.all (fun p => atomKey p.1) = true := by
  induction h with
  | nil => exact ⟨rfl, rfl⟩
  | cons r t ih =>
    rw [List.map_cons, List.map_cons, List.all_cons, ih.1, ih.2, r.1, r.2.1]
    exact ⟨rfl, rfl⟩
theorem KT2.keys {l : List (D × D)} {kvs : List (NestedKey × Addr × Value)} (h : KT2 G Hv l kvs) : kvs.map (·.1) = l.map (fun p => nk p.1) ∧ l.all (fun p => tupKey p.1) = true := by
  induction h with
  | nil => exact ⟨rfl, rfl⟩
  | cons r t ih =>
    rw [List.map_cons, List.map_cons, List.all_cons, ih.1, ih.2, r.1, r.2.1]
    exact ⟨rfl, rfl⟩
theorem KA.put {l : List (D × D)} {kvs : List (Key × Value)} {q x : D} {v : V} {u : Value} (h : KA G Hv l kvs) (hn : (kvs.map (·.1)).Nodup) (hq : atomKey q = true) (r : RelV v u) (dx : Den G Hv x v) : KA G Hv (dput l q x) (stored kvs (kk q) u) := by
  induction h with
  | nil => exact .cons ⟨hq, rfl, v, r, dx⟩ .nil
  | @cons p kv l kvs r1 t ih =>
    obtain ⟨k, d⟩ := p
    obtain ⟨k', u'⟩ := kv
    obtain ⟨a1, a2, w, a3, a4⟩ := r1
    have a2 : k' = kk k := a2
    subst a2
    rw [List.map_cons, List.nodup_cons] at hn
    show KA G Hv (if eqv k q then (k, x) :: l else (k, d) :: dput l q x) _
    rw [eqv_kk a1 hq]
    by_cases z : kk k = kk q
    · rw [decide_eq_true z, if_pos rfl]
      have e : stored ((kk k, u') :: kvs) (kk q) u = (kk k, u) :: kvs := by
        unfold stored
        rw [List.any_cons, decide_eq_true z, Bool.true_or, if_pos rfl, List.map_cons, if_pos z, map_store_of_not_mem kvs (kk q) u (by rw [← z]; exact hn.1)]
      rw [e]
      exact .cons ⟨a1, rfl, v, r, dx⟩ t
    · rw [decide_eq_false z, if_neg Bool.noConfusion]
      have e : stored ((kk k, u') :: kvs) (kk q) u = (kk k, u') :: stored kvs (kk q) u := by
        unfold stored
        rw [List.any_cons, decide_eq_false z, Bool.false_or]
        by_cases y : (kvs.any fun kv => decide (kv.1 = kk q)) = true
        · rw [if_pos y, if_pos y, List.map_cons, if_neg z]
        · rw [if_neg y, if_neg y]; rfl
      rw [e]
      exact .cons ⟨a1, rfl, w, a3, a4⟩ (ih hn.2)
theorem KT2.put {l : List (D × D)} {kvs : List (NestedKey × Addr × Value)} {q x : D} {b : Addr} {v : V} {u : Value} (h : KT2 G Hv l kvs) (hn : (kvs.map (·.1)).Nodup) (hq : tupKey q = true) (dq : Den G Hv q (.ref b)) (r : RelV v u) (dx : Den G Hv x v) : KT2 G Hv (dput l q x) (storedH kvs (nk q) b u) := by
  induction h with
  | nil => exact .cons ⟨hq, rfl, dq, v, r, dx⟩ .nil
  | @cons p kv l kvs r1 t ih =>
    obtain ⟨k, d⟩ := p
    obtain ⟨k', a, u'⟩ := kv
    obtain ⟨a1, a2, a5, w, a3, a4⟩ := r1
    have a2 : k' = nk k := a2
    subst a2
    rw [List.map_cons, List.nodup_cons] at hn
    show KT2 G Hv (if eqv k q then (k, x) :: l else (k, d) :: dput l q x) _
    rw [eqv_nk 8 8 k q (tupKey_deep a1).1 (tupKey_deep hq).1]
    have va : atKey ((nk k, a, u') :: kvs) (nk q) = if nk k = nk q then some (a, u') else atKey kvs (nk q) := by
      unfold atKey
      rw [List.find?_cons]
      by_cases z : nk k = nk q
      · rw [if_pos z]; simp [z]
      · rw [if_neg z]; simp [z]
    by_cases z : nk k = nk q
    · rw [decide_eq_true z, if_pos rfl]
      have e : storedH ((nk k, a, u') :: kvs) (nk q) b u = (nk k, a, u) :: kvs := by
        unfold storedH
        rw [va, if_pos z, Option.isSome_some, if_pos rfl, List.map_cons, map_putAt_of_not_mem kvs (nk q) u (by rw [← z]; exact hn.1)]
        unfold putAt
        rw [if_pos z]
      rw [e]
      exact .cons ⟨a1, rfl, a5, v, r, dx⟩ t
    · rw [decide_eq_false z, if_neg Bool.noConfusion]
      have e : storedH ((nk k, a, u') :: kvs) (nk q) b u = (nk k, a, u') :: storedH kvs (nk q) b u := by
        unfold storedH
        rw [va, if_neg z]
        by_cases y : (atKey kvs (nk q)).isSome = true
        · rw [if_pos y, if_pos y, List.map_cons]
          congr 1
          unfold putAt
          rw [if_neg z]
        · rw [if_neg y, if_neg y]; rfl
      rw [e]
      exact .cons ⟨a1, rfl, a5, w, a3, a4⟩ (ih hn.2)
theorem dict_A {P : Program} {w : World} (hw : w = G.w) {h : Heap} {o : Obj} {a : Addr} {es : Array DictEntry} {ep : Nat} {l : List (D × D)} (h1 : h.get? a = some o) (h2 : o.ExactDict) (h3 : o.data = .dict es ep) (dl : DenE G Hv l es.toList)
    (ha : l.all (fun p => atomKey p.1) = true) (hn : noTwice l = true) : ∃ kvs, KA G Hv l kvs ∧ h.DictOf (mixKind P w) a kvs := by
  subst hw
  have key : ∀ {l : List (D × D)} {es : List DictEntry}, DenE G Hv l es → l.all (fun p => atomKey p.1) = true → ∃ kvs, KA G Hv l kvs ∧ Pairs (mixKind P G.w) es kvs ∧ ∀ e ∈ es, ∃ k, (mixKind P G.w).is k e.key = true ∧ e.hash = (mixKind P G.w).hash k := by
    intro l
    induction l with
    | nil =>
      intro es dl _
      obtain rfl := dl
      exact ⟨[], .nil, .nil, fun _ z => by cases z⟩
    | cons p l ih =>
      intro es dl ha
      obtain ⟨k, d⟩ := p
      obtain ⟨e, r, rfl, ⟨kv, h1, h2⟩, h3, ⟨vv, h4, h5⟩, h6⟩ := dl
      rw [List.all_cons, Bool.and_eq_true] at ha
      obtain ⟨kvs, k1, k2, k3⟩ := ih h6 ha.2
      have hk := kk_v ha.1 h2
      subst hk
      have is := kV_is (P := P) (w := G.w) h1
      refine ⟨(kk k, e.val) :: kvs, .cons ⟨ha.1, rfl, vv, h4, h5⟩ k1, .cons is rfl k2, fun e' he => ?_⟩
      rcases List.mem_cons.mp he with z | z
      · subst z; exact ⟨kk k, is, by rw [h3]; exact hash_kk ha.1⟩
      · exact k3 e' z
  obtain ⟨kvs, k1, k2, k3⟩ := key dl ha
  exact ⟨kvs, k1, o, es, ep, h1, h2, h3, fun e he => k3 e (by simpa using he), k2, by rw [k1.keys.1]; exact (noTwice_A ha).mp hn⟩
theorem dict_T (hK : X.K = G.K) (I : Inv X pins σ H s) (hs : Same Hv H) (hw : X.w = G.w) {o : Obj} {a : Addr} {es : Array DictEntry} {ep : Nat} {l : List (D × D)} (h1 : s.heap.get? a = some o) (h2 : o.ExactDict) (h3 : o.data = .dict es ep) (dl : DenE G Hv l es.toList)
    (ha : l.all (fun p => tupKey p.1) = true) (hn : noTwice l = true) : ∃ xs, KT2 G Hv l xs ∧ s.heap.DictOfH (nestedKind X.prog X.w) a xs := by
  have key : ∀ {l : List (D × D)} {es : List DictEntry}, DenE G Hv l es → l.all (fun p => tupKey p.1) = true → ∃ xs, KT2 G Hv l xs ∧ es = xs.map (entryOfKey (nestedKind X.prog X.w)) ∧ ∀ x ∈ xs, (nestedKind X.prog X.w).is s.heap x.1 x.2.1 := by
    intro l
    induction l with
    | nil =>
      intro es dl _
      obtain rfl := dl
      exact ⟨[], .nil, rfl, fun _ z => by cases z⟩
    | cons p l ih =>
      intro es dl ha
      obtain ⟨k, d⟩ := p
      obtain ⟨e, r, rfl, ⟨kv, h1, h2⟩, h3, ⟨vv, h4, h5⟩, h6⟩ := dl
      rw [List.all_cons, Bool.and_eq_true] at ha
      obtain ⟨kvs, k1, k2, k3⟩ := ih h6 ha.2
      obtain ⟨hd, lk, ek⟩ := tupKey_deep ha.1
      have hnest := nested_of hK I hs 8 k kv e.key hd h2 h1
      have ek : k = .tup lk := ek
      have h2' := h2
      rw [ek] at h2'
      obtain ⟨b, vs, e1, _⟩ := h2'
      subst e1
      have e2 : e.key = Value.ref b := h1
      refine ⟨(nk k, b, e.val) :: kvs, .cons ⟨ha.1, rfl, h2, vv, h4, h5⟩ k1, ?_, fun x hx => ?_⟩
      · rw [List.map_cons, ← k2]
        congr 1
        show e = ⟨(nk k).hash X.w, .ref b, e.val⟩
        rw [← e2, hw, ← h3]
      · rcases List.mem_cons.mp hx with z | z
        · subst z
          rw [e2] at hnest
          exact ⟨hnest, depth_nk 8 k hd⟩
        · exact k3 x z
  obtain ⟨xs, k1, k2, k3⟩ := key dl ha
  exact ⟨xs, k1, o, es, ep, h1, h2, h3, k2, k3, by rw [k1.keys.1]; exact (noTwice_T ha).mp hn⟩
theorem den_A {P : Program} {w : World} (hw : w = G.w) {l : List (D × D)} {es : List DictEntry} {kvs : List (Key × Value)} (k : KA G Hv l kvs) (p : Pairs (mixKind P w) es kvs) (hh : ∀ e ∈ es, ∃ k, (mixKind P w).is k e.key = true ∧ e.hash = (mixKind P w).hash k) : DenE G Hv l es := by
  subst hw
  induction k generalizing es with
  | nil => cases p; rfl
  | @cons q kv l kvs r t ih =>
    cases p with
    | @cons e _ es _ p1 p2 p3 =>
      obtain ⟨k, d⟩ := q
      obtain ⟨k', u⟩ := kv
      obtain ⟨a1, a2, v, a3, a4⟩ := r
      have a2 : k' = kk k := a2
      subst a2
      have p2 : e.val = u := p2
      have p1 : (mixKind P G.w).is (kk k) e.key = true := p1
      refine ⟨e, es, rfl, ⟨kV (kk k), ?_, ?_⟩, ?_, ⟨v, by rw [p2]; exact a3, a4⟩, ih p3 fun e' he => hh e' (List.mem_cons_of_mem _ he)⟩
      · rcases keyIs_shape p1 with ⟨i, t, e1, e2⟩ | ⟨x, t, e1, e2⟩
        · rw [e1, e2]; exact ⟨t, rfl⟩
        · rw [e1, e2]; exact ⟨t, rfl⟩
      · cases k <;> first | exact rfl | (exact absurd a1 (show ¬ (false = true) from Bool.noConfusion))
      · obtain ⟨k2, i2, e2⟩ := hh e List.mem_cons_self
        rw [e2, (mixKind P G.w).inj _ _ _ i2 p1]
        exact (hash_kk a1).symm
theorem den_T (hw : X.w = G.w) {l : List (D × D)} {xs : List (NestedKey × Addr × Value)} (k : KT2 G Hv l xs) : DenE G Hv l (xs.map (entryOfKey (nestedKind X.prog X.w))) := by
  induction k with
  | nil => exact rfl
  | @cons q kv l kvs r t ih =>
    obtain ⟨k, d⟩ := q
    obtain ⟨k', a, u⟩ := kv
    obtain ⟨a1, a2, a5, v, a3, a4⟩ := r
    have a2 : k' = nk k := a2
    subst a2
    exact ⟨_, _, rfl, ⟨.ref a, rfl, a5⟩, by rw [← hw]; rfl, ⟨v, a3, a4⟩, ih⟩
end BB
end
section
set_option Elab.async false
set_option linter.all false
set_option maxRecDepth 100000
set_option maxHeartbeats 4000000
/-! What is done with dicts. -/
namespace BB
open PySem PySem.Spec PyProof.Rows L2
variable {G : Gc} {X : Cx} {pins : List (Addr × Obj)} {σ : L2.St} {H Hv : Hp} {s : Shared} {A : Around} {E : Value → Shared → Prop} {a : Addr} {l : List (D × D)} {q x : D} {y v : V} {u r : Value}
/-- at a stands the dict l, what it holds seen in Hv -/
def Dct (G : Gc) (Hv H : Hp) (a : Addr) (l : List (D × D)) : Prop := ∃ es ep, H a = some (DicO a es ep) ∧ (a == sysModules) = false ∧ (keysOk l = true ∧ noTwice l = true ∧ l.length ≤ big) ∧ DenE G Hv l es
theorem Vw.dct' {O : List Addr} {v : V} (h : Vw G O H (.dct l) v) : ∃ a, v = .ref a ∧ Dct G (hid O H) H a l := by
  obtain ⟨a, es, ep, h1, h2⟩ := h.dct
  exact ⟨a, h1, es, ep, h2⟩
theorem kin_cases (h : keysOk l = true) (k : kinOk l q = true) : (l.all (fun p => atomKey p.1) = true ∧ atomKey q = true) ∨ (l.all (fun p => tupKey p.1) = true ∧ tupKey q = true) := by
  cases l with
  | nil =>
    rcases Bool.or_eq_true_iff.mp (show (atomKey q || tupKey q) = true from k) with z | z
    · exact .inl ⟨rfl, z⟩
    · exact .inr ⟨rfl, z⟩
  | cons p l =>
    obtain ⟨k0, d⟩ := p
    have k : (if atomKey k0 then atomKey q else tupKey q) = true := k
    unfold keysOk at h
    cases e : atomKey k0 with
    | true =>
      rw [e, if_pos rfl] at k
      refine .inl ⟨?_, k⟩
      rcases Bool.or_eq_true_iff.mp h with z | z
      · exact z
      · rw [List.all_cons] at z
        cases k0 <;> first | exact absurd (ands z).1 (show ¬ (false = true) from Bool.noConfusion) | exact absurd e (show ¬ (false = true) from Bool.noConfusion)
    | false =>
      rw [e, if_neg Bool.noConfusion] at k
      refine .inr ⟨?_, k⟩
      rcases Bool.or_eq_true_iff.mp h with z | z
      · rw [List.all_cons, e] at z
        exact absurd (ands z).1 Bool.noConfusion
      · exact z
/-- the two ways a dict stands there -/
inductive DV (G : Gc) (X : Cx) (Hv : Hp) (s : Shared) (a : Addr) (l : List (D × D)) : Prop
  | A (ha : l.all (fun p => atomKey p.1) = true) (kvs : List (Key × Value)) (k : KA G Hv l kvs) (d : s.heap.DictOf (mixKind X.prog X.w) a kvs)
  | T (ha : l.all (fun p => tupKey p.1) = true) (xs : List (NestedKey × Addr × Value)) (k : KT2 G Hv l xs) (d : s.heap.DictOfH (nestedKind X.prog X.w) a xs)
theorem Dct.obj (I : Inv X pins σ H s) (d : Dct G Hv H a l) : ∃ o es ep, s.heap.get? a = some o ∧ o.ExactDict ∧ o.data = .dict es ep ∧ DenE G Hv l es.toList := by
  obtain ⟨es, ep, e, _, _, dl⟩ := d
  obtain ⟨⟨o, h1, h2, h3⟩, _⟩ := I.hok a _ e
  exact ⟨o, es.toArray, ep, h1, h2, h3, by rw [List.toList_toArray]; exact dl⟩
theorem Dct.atoms (hw : X.w = G.w) (I : Inv X pins σ H s) (d : Dct G Hv H a l) (ha : l.all (fun p => atomKey p.1) = true) : ∃ kvs, KA G Hv l kvs ∧ s.heap.DictOf (mixKind X.prog X.w) a kvs := by
  obtain ⟨o, es, ep, h1, h2, h3, dl⟩ := d.obj I
  obtain ⟨_, _, _, _, kq, _⟩ := d
  exact dict_A hw h1 h2 h3 dl ha kq.2.1
theorem Dct.tups (hK : X.K = G.K) (hw : X.w = G.w) (hs : Same Hv H) (I : Inv X pins σ H s) (d : Dct G Hv H a l) (ha : l.all (fun p => tupKey p.1) = true) : ∃ xs, KT2 G Hv l xs ∧ s.heap.DictOfH (nestedKind X.prog X.w) a xs := by
  obtain ⟨o, es, ep, h1, h2, h3, dl⟩ := d.obj I
  obtain ⟨_, _, _, _, kq, _⟩ := d
  exact dict_T hK I hs hw h1 h2 h3 dl ha kq.2.1
theorem Dct.sys (d : Dct G Hv H a l) : (a == sysModules) = false := by obtain ⟨_, _, _, h, _⟩ := d; exact h
theorem Dct.ok (d : Dct G Hv H a l) : keysOk l = true ∧ noTwice l = true ∧ l.length ≤ big := by obtain ⟨_, _, _, _, h, _⟩ := d; exact h
theorem Dct.typeIs (I : Inv X pins σ H s) (d : Dct G Hv H a l) : s.TypeIs (.ref a) "dict" := by
  obtain ⟨o, es, ep, h1, h2, h3, dl⟩ := d.obj I
  exact ⟨o, h1, h2.1⟩
theorem nest_key (hK : X.K = G.K) (hs : Same Hv H) (I : Inv X pins σ H s) (hq : tupKey q = true) (dq : Den G Hv q y) (ry : RelV y u) : ∃ b, u = .ref b ∧ y = .ref b ∧ (nestedKind X.prog X.w).is s.heap (nk q) b := by
  obtain ⟨hd, lk, ek⟩ := tupKey_deep hq
  have n := nested_of hK I hs 8 q y u hd dq ry
  have d2 := dq
  rw [ek] at d2
  obtain ⟨b, vs, e1, _⟩ := d2
  subst e1
  obtain rfl : u = Value.ref b := ry
  exact ⟨b, rfl, rfl, n, depth_nk 8 q hd⟩
section
variable (hK : X.K = G.K) (hw : X.w = G.w) (hu : A.units + 9 < cLine) (hs : Same Hv H) (I : Inv X pins σ H s) (d : Dct G Hv H a l) (kin : kinOk l q = true) (dq : Den G Hv q y) (ry : RelV y u)
include hK hw hu hs I d kin dq ry
theorem dd_getItem {dd : D} {Q : Value → Shared → Prop} (e : dget l q = some dd) (h : ∀ w' vv s', Inv X pins σ H s' → RelV vv w' → Den G Hv dd vv → Q w' s') : wpAny (model X.prog X.w) A (getItem (.ref a) u) Q E s := by
  rcases kin_cases d.ok.1 kin with ⟨ha, hq⟩ | ⟨ha, hq⟩
  · obtain ⟨kvs, k, dd⟩ := d.atoms hw I ha
    obtain ⟨u', v', e1, e2, e3⟩ := (k.any hq).2 _ e
    rw [kk_v hq dq] at ry
    exact wpAny_getItem_of (kV_is ry) dd.mapOf e1 (h u' v' _ (I.tok _) e2 e3)
  · obtain ⟨xs, k, dd⟩ := d.tups hK hw hs I ha
    obtain ⟨p, v', e1, e2, e3⟩ := (k.any hq).2 _ e
    obtain ⟨b, rfl, rfl, n⟩ := nest_key hK hs I hq dq ry
    exact wpAny_getItem_heap (by show A.units + 1 + 8 < cLine; omega) n dd e1 (h p.2 v' _ (I.tok _) e2 e3)
theorem dd_in {Q : Value → Shared → Prop} (h : ∀ s', Inv X pins σ H s' → Q (.bool (dget l q).isSome) s') : wpAny (model X.prog X.w) A (compareOp .In u (.ref a)) Q E s := by
  rcases kin_cases d.ok.1 kin with ⟨ha, hq⟩ | ⟨ha, hq⟩
  · obtain ⟨kvs, k, dd⟩ := d.atoms hw I ha
    have e : (valueAt kvs (kk q)).isSome = (dget l q).isSome := by
      cases z : dget l q with
      | none => rw [(k.any hq).1 z]; rfl
      | some d' => obtain ⟨u', v', e1, _⟩ := (k.any hq).2 _ z; rw [e1]; rfl
    rw [kk_v hq dq] at ry
    exact wpAny_in_of (kV_is ry) d.sys dd.mapOf (by rw [e]; exact h _ (I.tok _))
  · obtain ⟨xs, k, dd⟩ := d.tups hK hw hs I ha
    have e : (atKey xs (nk q)).isSome = (dget l q).isSome := by
      cases z : dget l q with
      | none => rw [(k.any hq).1 z]; rfl
      | some d' => obtain ⟨u', v', e1, _⟩ := (k.any hq).2 _ z; rw [e1]; rfl
    obtain ⟨b, rfl, rfl, n⟩ := nest_key hK hs I hq dq ry
    exact wpAny_in_heap (by show A.units + 1 + 8 < cLine; omega) n d.sys dd (by rw [e]; exact h _ (I.tok _))
theorem dd_notIn {Q : Value → Shared → Prop} (h : ∀ s', Inv X pins σ H s' → Q (.bool (!(dget l q).isSome)) s') : wpAny (model X.prog X.w) A (compareOp .NotIn u (.ref a)) Q E s := by
  rcases kin_cases d.ok.1 kin with ⟨ha, hq⟩ | ⟨ha, hq⟩
  · obtain ⟨kvs, k, dd⟩ := d.atoms hw I ha
    have e : (valueAt kvs (kk q)).isSome = (dget l q).isSome := by
      cases z : dget l q with
      | none => rw [(k.any hq).1 z]; rfl
      | some d' => obtain ⟨u', v', e1, _⟩ := (k.any hq).2 _ z; rw [e1]; rfl
    rw [kk_v hq dq] at ry
    exact wpAny_notIn_of (kV_is ry) d.sys dd.mapOf (by rw [e]; exact h _ (I.tok _))
  · obtain ⟨xs, k, dd⟩ := d.tups hK hw hs I ha
    have e : (atKey xs (nk q)).isSome = (dget l q).isSome := by
      cases z : dget l q with
      | none => rw [(k.any hq).1 z]; rfl
      | some d' => obtain ⟨u', v', e1, _⟩ := (k.any hq).2 _ z; rw [e1]; rfl
    obtain ⟨b, rfl, rfl, n⟩ := nest_key hK hs I hq dq ry
    exact wpAny_notIn_heap (by show A.units + 1 + 8 < cLine; omega) n d.sys dd (by rw [e]; exact h _ (I.tok _))
theorem dd_get1 {Q : Value → Shared → Prop} (h : ∀ w' vv s', Inv X pins σ H s' → RelV vv w' → Den G Hv ((dget l q).getD .non) vv → Q w' s') : wpAny (model X.prog X.w) A (PySem.call (.builtin "dict.get") [.ref a, u]) Q E s := by
  rcases kin_cases d.ok.1 kin with ⟨ha, hq⟩ | ⟨ha, hq⟩
  · obtain ⟨kvs, k, dd⟩ := d.atoms hw I ha
    rw [kk_v hq dq] at ry
    refine call_meetsIn PySem.F.slot_dict_get dd.typeIs PySem.F.entry_dict_get (PySem.F.args_dict_get_2 _ _) (meets_dict_get (mixKind X.prog X.w) a (kV_is ry) d.sys) ⟨_, dd.mapOf, ?_⟩
    cases z : dget l q with
    | none => rw [(k.any hq).1 z]; exact h _ .non _ (I.tok _) rfl (by rw [z]; exact rfl)
    | some d' => obtain ⟨u', v', e1, e2, e3⟩ := (k.any hq).2 _ z; rw [e1]; exact h _ v' _ (I.tok _) e2 (by rw [z]; exact e3)
  · obtain ⟨xs, k, dd⟩ := d.tups hK hw hs I ha
    obtain ⟨b, rfl, rfl, n⟩ := nest_key hK hs I hq dq ry
    refine call_meetsIn PySem.F.slot_dict_get dd.typeIs PySem.F.entry_dict_get (PySem.F.args_dict_get_2 _ _) (meetsH_dict_get (nestedKind X.prog X.w) a b d.sys) ⟨by show A.units + 1 + 8 < cLine; omega, nk q, xs, n, dd, ?_⟩
    cases z : dget l q with
    | none => rw [(k.any hq).1 z]; exact h _ .non _ (I.tok _) rfl (by rw [z]; exact rfl)
    | some d' => obtain ⟨u', v', e1, e2, e3⟩ := (k.any hq).2 _ z; rw [e1]; exact h _ v' _ (I.tok _) e2 (by rw [z]; exact e3)
theorem dd_get2 {z0 : D} {yv : V} {ru : Value} {Q : Value → Shared → Prop} (rz : RelV yv ru) (dz : Den G Hv z0 yv) (h : ∀ w' vv s', Inv X pins σ H s' → RelV vv w' → Den G Hv ((dget l q).getD z0) vv → Q w' s') : wpAny (model X.prog X.w) A (PySem.call (.builtin "dict.get") [.ref a, u, ru]) Q E s := by
  rcases kin_cases d.ok.1 kin with ⟨ha, hq⟩ | ⟨ha, hq⟩
  · obtain ⟨kvs, k, dd⟩ := d.atoms hw I ha
    rw [kk_v hq dq] at ry
    refine call_meetsIn PySem.F.slot_dict_get dd.typeIs PySem.F.entry_dict_get (PySem.F.args_dict_get_3 _ _ _) (meets_dict_get_default (mixKind X.prog X.w) a (kV_is ry) d.sys ru) ⟨_, dd.mapOf, ?_⟩
    cases z : dget l q with
    | none => rw [(k.any hq).1 z]; exact h _ yv _ (I.tok _) rz (by rw [z]; exact dz)
    | some d' => obtain ⟨u', v', e1, e2, e3⟩ := (k.any hq).2 _ z; rw [e1]; exact h _ v' _ (I.tok _) e2 (by rw [z]; exact e3)
  · obtain ⟨xs, k, dd⟩ := d.tups hK hw hs I ha
    obtain ⟨b, rfl, rfl, n⟩ := nest_key hK hs I hq dq ry
    refine call_meetsIn PySem.F.slot_dict_get dd.typeIs PySem.F.entry_dict_get (PySem.F.args_dict_get_3 _ _ _) (meetsH_dict_get_default (nestedKind X.prog X.w) a b d.sys ru) ⟨by show A.units + 1 + 8 < cLine; omega, nk q, xs, n, dd, ?_⟩
    cases z : dget l q with
    | none => rw [(k.any hq).1 z]; exact h _ yv _ (I.tok _) rz (by rw [z]; exact dz)
    | some d' => obtain ⟨u', v', e1, e2, e3⟩ := (k.any hq).2 _ z; rw [e1]; exact h _ v' _ (I.tok _) e2 (by rw [z]; exact e3)
end
theorem dput_all (f : D → Bool) (h : l.all (fun p => f p.1) = true) (k : f q = true) : (dput l q x).all (fun p => f p.1) = true := by
  induction l with
  | nil => rw [show dput [] q x = [(q, x)] from rfl, List.all_cons, k]; rfl
  | cons p l ih =>
    obtain ⟨k0, d⟩ := p
    rw [List.all_cons, Bool.and_eq_true] at h
    show (if eqv k0 q then (k0, x) :: l else (k0, d) :: dput l q x).all _ = true
    split
    · rw [List.all_cons, h.1, h.2]; rfl
    · rw [List.all_cons, h.1, ih h.2]; rfl
theorem dput_length : ∀ l : List (D × D), (dput l q x).length ≤ l.length + 1
  | [] => Nat.le_refl _
  | (k, d) :: l => by
    show (if eqv k q then (k, x) :: l else (k, d) :: dput l q x).length ≤ _
    split
    · rw [List.length_cons, List.length_cons]; omega
    · have := dput_length l
      rw [List.length_cons, List.length_cons]; omega
theorem dico_ok {P : Program} {w : World} {H' : Hp} {h : Heap} {o : Obj} {es : Array DictEntry} {ep : Nat} (h1 : h.get? a = some o) (h2 : o.ExactDict) (h3 : o.data = .dict es ep) : ObjOk P w H' h a (DicO a es.toList ep) :=
  ⟨⟨o, h1, h2, by rw [h3]⟩, ⟨o, h1⟩, fun h1 h2 ⟨o, e, r⟩ k => ⟨o, k o e, r⟩⟩
section
variable (hK : X.K = G.K) (hw : X.w = G.w) (hu : A.units + 9 < cLine) (hs : Same Hv H) (I : Inv X pins σ H s) (d : Dct G Hv H a l) (hl : l.length < big) (kin : kinOk l q = true) (dq : Den G Hv q y) (ry : RelV y u) (dx : Den G Hv x v) (rv : RelV v r)
include hK hw hu hs I d hl kin dq ry dx rv
/-- the two ways of storing; t the term, as the rules tell it -/
theorem dd_store {t : Sem Unit} {Q : Unit → Shared → Prop}
    (tA : ∀ (k : Key) (kvs : List (Key × Value)), (mixKind X.prog X.w).is k u = true → s.heap.DictOf (mixKind X.prog X.w) a kvs → kvs.length ≤ sizeLine → (∀ h', h'.DictOf (mixKind X.prog X.w) a (stored kvs k r) → Heap.SameBut a s.heap h' → Q () { s with heap := h', toks := s.toks + 1 }) → wpAny (model X.prog X.w) A t Q E s)
    (tT : ∀ (k : NestedKey) (b : Addr) (xs : List (NestedKey × Addr × Value)), u = .ref b → (nestedKind X.prog X.w).is s.heap k b → s.heap.DictOfH (nestedKind X.prog X.w) a xs → xs.length ≤ sizeLine → (∀ h', h'.DictOfH (nestedKind X.prog X.w) a (storedH xs k b r) → Heap.SameBut a s.heap h' → Q () { s with heap := h', toks := s.toks + k.draws }) → wpAny (model X.prog X.w) A t Q E s)
    (h : ∀ es ep s', Inv X pins σ (upd H a (DicO a es ep)) s' → (a == sysModules) = false → (keysOk (dput l q x) = true ∧ noTwice (dput l q x) = true ∧ (dput l q x).length ≤ big) → DenE G Hv (dput l q x) es → Q () s') : wpAny (model X.prog X.w) A t Q E s := by
  have mu : Mut (H a) := by obtain ⟨es, ep, e, _⟩ := d; rw [e]; exact True.intro
  have hl2 : (dput l q x).length ≤ big := by have := dput_length (q := q) (x := x) l; omega
  rcases kin_cases d.ok.1 kin with ⟨ha, hq⟩ | ⟨ha, hq⟩
  · obtain ⟨kvs, k, dd⟩ := d.atoms hw I ha
    rw [kk_v hq dq] at ry
    have hn : (kvs.map (·.1)).Nodup := by rw [k.keys.1]; exact (noTwice_A ha).mp d.ok.2.1
    refine tA (kk q) kvs (kV_is ry) dd (by rw [← Paired.length k, ← big_line]; omega) fun h' dd' sb => ?_
    have ha' := dput_all (x := x) atomKey ha hq
    have k' := k.put hn hq rv dx
    obtain ⟨o', es', ep', h1, h2, h3, h4, h5, h6⟩ := dd'
    refine h es'.toList ep' _ (d_write I mu sb ⟨_, h1⟩ (dico_ok h1 h2 h3)) d.sys ⟨by unfold keysOk; rw [ha']; rfl, (noTwice_A ha').mpr (by rw [← k'.keys.1]; exact h6), hl2⟩ ?_
    exact den_A hw k' h5 fun e he => h4 e (by simpa using he)
  · obtain ⟨xs, k, dd⟩ := d.tups hK hw hs I ha
    have hn : (xs.map (·.1)).Nodup := by rw [k.keys.1]; exact (noTwice_T ha).mp d.ok.2.1
    obtain ⟨b, rfl, rfl, n⟩ := nest_key hK hs I hq dq ry
    refine tT (nk q) b xs rfl n dd (by rw [← Paired.length k, ← big_line]; omega) fun h' dd' sb => ?_
    have ha' := dput_all (x := x) tupKey ha hq
    have k' := k.put hn hq dq rv dx
    obtain ⟨o', es', ep', h1, h2, h3, h4, h5, h6⟩ := dd'
    refine h es'.toList ep' _ (d_write I mu sb ⟨_, h1⟩ (dico_ok h1 h2 h3)) d.sys ⟨by unfold keysOk; rw [ha', Bool.or_true], (noTwice_T ha').mpr (by rw [← k'.keys.1]; exact h6), hl2⟩ ?_
    rw [h4]
    exact den_T hw k'
theorem dd_setItem {Q : Unit → Shared → Prop} (h : ∀ es ep s', Inv X pins σ (upd H a (DicO a es ep)) s' → (a == sysModules) = false → (keysOk (dput l q x) = true ∧ noTwice (dput l q x) = true ∧ (dput l q x).length ≤ big) → DenE G Hv (dput l q x) es → Q () s') : wpAny (model X.prog X.w) A (PySem.setItem (.ref a) u r) Q E s :=
  dd_store hK hw hu hs I d hl kin dq ry dx rv (fun k kvs h1 h2 h3 h4 => wpAny_setItem_pairs (hsz := h3) h1 h2 h4) (fun k b xs e h1 h2 h3 h4 => by subst e; exact wpAny_setItem_heap (hsz := h3) (by show A.units + 1 + 8 < cLine; omega) h1 h2 h4) h
theorem dd_dictSet {Q : Unit → Shared → Prop} (h : ∀ es ep s', Inv X pins σ (upd H a (DicO a es ep)) s' → (a == sysModules) = false → (keysOk (dput l q x) = true ∧ noTwice (dput l q x) = true ∧ (dput l q x).length ≤ big) → DenE G Hv (dput l q x) es → Q () s') : wpAny (model X.prog X.w) A (dictSet a u r) Q E s :=
  dd_store hK hw hu hs I d hl kin dq ry dx rv (fun k kvs h1 h2 h3 h4 => wpAny_dictSet_pairs (hsz := h3) h1 h2 h4) (fun k b xs e h1 h2 h3 h4 => by subst e; exact wpAny_dictSet_heap (hsz := h3) (by show A.units + 8 < cLine; omega) h1 h2 h4) h
end
end BB
end
section
set_option Elab.async false
set_option linter.all false
set_option maxRecDepth 100000
set_option maxHeartbeats 4000000
/-! Dict comprehensions whose keys are of either kind. -/
namespace BB
open PySem PySem.Spec PyProof.Rows L2
variable {G : Gc} {X : Cx}
/-- what a store into the dict at A asks -/
def DSet (G : Gc) (A : Addr) (y z : V) (H5 : Hp) (Nx : Hp → Prop) : Prop :=
  ∃ Hv l k x, Same Hv H5 ∧ Dct G Hv H5 A l ∧ l.length < big ∧ kinOk l k = true ∧ Den G Hv k y ∧ Den G Hv x z ∧
    ∀ es ep, (A == sysModules) = false → (keysOk (dput l k x) = true ∧ noTwice (dput l k x) = true ∧ (dput l k x).length ≤ big) → DenE G Hv (dput l k x) es → Nx (upd H5 A (DicO A es ep))
/-- {k: v for tg in iter if ..} -/
def tGd (G : Gc) (wi : TI) (g : TG) (tt : TT) (tk tv : TE) (vs : List Nat) : TE := fun σ H Q =>
  wi σ H fun J H1 => ∀ A, H1 A = none → (A == sysModules) = false → ∃ W : Nat → Nat → Hp → Prop, (∃ m, W 0 m (upd H1 A (DicO A [] 0))) ∧ ∀ i m H, W i m H →
    (J.stop i H ∧ Q (.ref A) H) ∨
    (J.go i H ∧ ∃ Nx : Hp → Prop, (∀ H', Nx H' → ∃ m', m' < m ∧ W (i + 1) m' H') ∧ ∀ x H', J.yld i H x H' →
      g x (wipe σ vs) H' fun σ2 H2 => wipe σ2 vs = wipe σ vs ∧ tt σ2 H2 fun b H3 => if b = true then tk σ2 H3 fun y H4 => tv σ2 H4 fun z H5 => DSet G A y z H5 Nx else Nx H3)
abbrev CellsOf (h : Heap) (scope : Scope) (env : PySem.Env) : List (PySem.Str × Addr) := cellsFrom (h.objs.size + 1) scope.names (cloFrom env.cells scope.names [])
abbrev OnBlk (X : Cx) (scope : Scope) (p : Cx → Prop) : Prop := ∀ (t : Shared) (Ht : Hp) (c : Addr) (cells : List (PySem.Str × Addr)) (fp : List Addr), p (X.blk t Ht scope (compEnvC scope cells c X.env) fp)
section
variable {kx vx tg iter : Ex} {ifs : List Ex} {scope : Scope} {own : List (PySem.Str × Nat)} {pos : Pos} {wi : TI} {g : TG} {tt : TT} {tk tv : TE}
theorem gd_core {pins : List (Addr × Obj)} {s : Shared} {σ : L2.St} {H : Hp} {Q : VK} {pos' : Pos} {use : Option (Value → Sem Unit)} {Qf : Value → Shared → Prop} (hK : X.K = G.K) (hw : X.w = G.w) (hu : X.A.units + 9 < cLine) (hc : X.calm = true) (hN : X.N.Nodup) (I : Inv X pins σ H s) (hi : PI X tg iter wi) (ok : BlkOk X.N X.env.scope scope own)
    (hg : OnBlk X scope fun Y => PG Y tg g) (ht : OnBlk X scope fun Y => PTs Y ifs tt) (hk : OnBlk X scope fun Y => PE Y kx tk) (he : OnBlk X scope fun Y => PE Y vx tv) (hs : ∀ x, foldedSetIterable iter X.env x = pure x)
    (h : tGd G wi g tt tk tv (own.map (·.2)) σ H Q)
    (done' : ∀ D C t m Hz, Inv X pins σ Hz t → Q (.ref D) Hz → t.heap.Ns C m → FpOk X pins Hz C → compPost (model X.prog X.w) X.A X.xe use Qf (.ref D) C (.ok .next) t) :
    wpAny (model X.prog X.w) X.A (comprehension (.DictComp kx vx [⟨tg, iter, ifs, 0⟩] scope pos) scope X.env pos' newDict false (eval iter X.env) use) Qf X.xe s := by
  have cellsThere : ∀ y ∈ scope.names, y.2 = .free → ∃ c, X.env.cells.lookup y.1 = some c := fun y hy e =>
    (ok.free y hy e).elim (fun k => I.ok.has _ (.inl k)) (fun k => I.ok.has _ (.inr k))
  refine wpAny_comprehension_free (use := use) rfl hs (closure_ok cellsThere) ok.kind (fun y hy e => by rw [ok.uniq y hy, e]) (thn (hi.run pins s σ H _ I h) fun xv t1 hx => thn hx fun itv t2 ⟨it, fp, tn, J, Ha, e, Ia, T, sta, fa, q⟩ => ?_)
  subst e
  refine wpAny_newObj_type (newEnv_comp ?_)
  generalize hA : t2.heap.objs.size = A
  have nA : Ha A = none := Ia.hok.fresh (Nat.le_of_eq hA)
  have bigA : (A == sysModules) = false := by
    have := Ia.big
    rw [hA] at this
    exact beq_false_of_ne (Nat.ne_of_gt this)
  obtain ⟨W, ⟨m0, w0⟩, turn⟩ := q A nA bigA
  generalize ht3 : ({ t2 with heap := t2.heap.push { cls := .type "dict", data := .dict #[] } } : Shared) = t3
  have Ib : Inv X pins σ (upd Ha A (DicO A [] 0)) t3 := by
    subst ht3
    refine Ia.laid (t' := t2.toks) (fun b o z => Heap.get?_push_of_some _ z) (Nat.le_of_eq hA) ?_
    rw [← hA]
    exact dico_ok (es := #[]) (Heap.get?_push_size _ rfl) ⟨rfl, rfl, rfl⟩ rfl
  have heap3 : t3.heap = t2.heap.push { cls := .type "dict", data := .dict #[] } := by rw [← ht3]
  have small : ∀ b ∈ fp, b < t2.heap.objs.size := fun b hb => let ⟨_, z, _⟩ := T.obj _ _ sta b hb; Heap.lt_size z
  have fb : ∀ b ∈ fp, FpOk X pins (upd Ha A (DicO A [] 0)) b ∧ b < t3.heap.objs.size := fun b hb =>
    ⟨⟨(upd_ne (by rw [← hA]; exact Nat.ne_of_lt (small b hb))).trans (fa b hb).1, (fa b hb).2⟩, by rw [heap3, Heap.size_push]; exact Nat.lt_succ_of_lt (small b hb)⟩
  have stb : tn 0 t3.heap := T.keep _ _ _ sta fun b _ o z => by rw [heap3]; exact Heap.get?_push_of_some _ z
  have Ic := block_start Ib ok hN fb
  have pg := hg t3 (upd Ha A (DicO A [] 0)) t3.heap.objs.size (CellsOf t3.heap scope X.env) fp
  have pt := ht t3 (upd Ha A (DicO A [] 0)) t3.heap.objs.size (CellsOf t3.heap scope X.env) fp
  have pk := hk t3 (upd Ha A (DicO A [] 0)) t3.heap.objs.size (CellsOf t3.heap scope X.env) fp
  have pv := he t3 (upd Ha A (DicO A [] 0)) t3.heap.objs.size (CellsOf t3.heap scope X.env) fp
  show codeAny _ _ (.compStart (.DictComp kx vx [⟨tg, iter, ifs, 0⟩] scope pos) 0 (.ref it) (.ref A) (compEnvC scope (CellsOf t3.heap scope X.env) t3.heap.objs.size X.env))
    (compPost (model X.prog X.w) X.A X.xe use Qf (.ref A) t3.heap.objs.size) { t3 with heap := pushCells (t3.heap.push { cls := .type "dict", data := .dict #[] }) scope.names }
  have noneb : ∀ b ∈ fp, (upd Ha A (DicO A [] 0)) b = none := fun b hb => (fb b hb).1.1
  generalize hce : compEnvC scope (CellsOf t3.heap scope X.env) t3.heap.objs.size X.env = ce at Ic pg pt pk pv ⊢
  have locs : ce.locals = t3.heap.objs.size := by subst hce; rfl
  generalize hHb : upd Ha A (DicO A [] 0) = Hb at Ib Ic pg pt pk pv w0 noneb fb
  generalize ht4 : ({ t3 with heap := pushCells (t3.heap.push { cls := .type "dict", data := .dict #[] }) scope.names } : Shared) = t4 at Ic ⊢
  have stc : tn 0 t4.heap := T.keep _ _ _ stb fun b _ o z => by rw [← ht4]; exact pushCells_keeps _ _ _ _ (Heap.get?_push_of_some _ z)
  have stat : ∀ {τ : L2.St} {Hn : Hp} {t : Shared}, Inv (X.blk t3 Hb scope ce fp) [] τ Hn t → (∀ b ∈ fp, Hn b = none) → ∀ b ∈ fp, FpOk (X.blk t3 Hb scope ce fp) [] Hn b := fun {τ Hn t} J n b hb =>
    ⟨n b hb, (J.ok.exf b hb).1, J.ok.exfs b hb, .inl hb, fun x c z => (J.ok.exf b hb).2 x c z, fun p hp => absurd (show p ∈ ([] : List (Addr × Obj)) ++ [] from hp) (by simp)⟩
  have loop : codeAny (model X.prog X.w) X.A (.compLoop (.DictComp kx vx [⟨tg, iter, ifs, 0⟩] scope pos) 0 (.ref it) (.ref A) ce) (compPost (model X.prog X.w) X.A X.xe use Qf (.ref A) t3.heap.objs.size) t4 := by
    refine compLoop_anyD (fun n t => ∃ i Hn, Inv (X.blk t3 Hb scope ce fp) [] (wipe σ (own.map (·.2))) Hn t ∧ tn i t.heap ∧ (∀ b ∈ fp, Hn b = none) ∧ W i n Hn) ?_ m0 ⟨0, Hb, Ic, stc, noneb, w0⟩
    rintro n t5 ⟨i, Hd, Id, std, noned, wd⟩
    rcases turn i n Hd wd with ⟨stop, done⟩ | ⟨go, Nx, hNx, step⟩
    · refine thnF (T.done (X.blk t3 Hb scope ce fp) rfl rfl rfl hc i [] t5 _ Hd (fun _ _ => False) Id (stat Id noned) std stop) fun r t6 ⟨hr, Ie⟩ => ?_
      subst hr
      have If : Inv X pins σ Hd t6 := Ib.call' (ch := fp) Ie.os Ie.base Ie.hok Ie.bare fun b hb =>
        let f := (fb b hb).1
        ⟨f.2.2.2.1, f.2.1, f.2.2.2.2.1, f.2.2.2.2.2⟩
      have nC : Hd t3.heap.objs.size = none := locs ▸ (show Hd ce.locals = none from Ie.free)
      obtain ⟨m, hn, _⟩ := Ie.loc
      have hn : t6.heap.Ns ce.locals m := hn
      rw [locs] at hn
      exact done' A _ t6 m Hd If done hn (Ib.fpOk (Nat.le_refl _) nC)
    · refine thnF (T.item (X.blk t3 Hb scope ce fp) rfl rfl rfl hc i [] t5 _ Hd (fun _ _ => False) Id (stat Id noned) std go) fun r t6 ⟨u, hr, hy⟩ => ?_
      subst hr
      refine thnF hy fun _ t7 ⟨x, He, Ie, re, ye, ste, nonee⟩ => ?_
      have Ie' := Ie.pinned (stat Ie nonee) (T.obj _ _ ste)
      refine thnF (pg.run _ t7 _ He x u _ Ie' re (step x He ye)) fun _ t8 ⟨τ, Hf, If, wf, qf⟩ => ?_
      refine thnF (pt.run _ t8 τ Hf _ If qf) fun b t9 ⟨Hg, Ig, qg⟩ => ?_
      have fin : ∀ {t : Shared} {Hn : Hp}, Inv (X.blk t3 Hb scope ce fp) ([] ++ pinsAt fp t7.heap) τ Hn t → Nx Hn →
          ∃ m, m < n ∧ ∃ i Hn, Inv (X.blk t3 Hb scope ce fp) [] (wipe σ (own.map (·.2))) Hn t ∧ tn i t.heap ∧ (∀ b ∈ fp, Hn b = none) ∧ W i m Hn := fun {t Hn} Jn nx => by
        obtain ⟨m', hm, w'⟩ := hNx Hn nx
        have pinned : ∀ b ∈ fp, ∀ o, t7.heap.get? b = some o → t.heap.get? b = some o ∧ Hn b = none := fun b hb o z =>
          let ⟨z1, z2, _⟩ := Jn.pin (b, o) (List.mem_append_right _ (List.mem_append_right _ (mem_pinsAt hb z)))
          ⟨z1, z2⟩
        have len : (wipe σ (own.map (·.2))).length = τ.length := by rw [← wf, wipe_length]
        refine ⟨m', hm, i + 1, Hn, (Jn.unpinned (pins := [])).weak len (fun j v z => (wipe_some (wf ▸ z)).1), T.keep _ _ _ ste fun b hb o z => (pinned b hb o z).1, fun b hb => ?_, w'⟩
        obtain ⟨o, z, _⟩ := T.obj _ _ ste b hb
        exact (pinned b hb o z).2
      cases b with
      | false =>
        simp only [Bool.false_eq_true, if_false] at qg ⊢
        exact fin Ig qg
      | true =>
        simp only [if_true] at qg ⊢
        refine thnF (pk.run _ t9 τ Hg _ Ig qg) fun kv t10 ⟨yk, Hh, Ih, rh, qh⟩ => ?_
        refine thnF (pv.run _ t10 τ Hh _ Ih qh) fun vv t11 ⟨yv, Hj, Ij, rj, Hv, l, k, x, sm, dct, lt, kin, dk, dx, nx⟩ => ?_
        exact dd_dictSet (X := X.blk t3 Hb scope ce fp) hK hw hu sm Ij dct lt kin dk rh dx rj fun es ep t12 In sys good den => fin In (nx es ep sys good den)
  exact codeAny_compStart_dict loop (T.self X.A 0 _ _ _ stc loop)
theorem pe_gdc (hK : X.K = G.K) (hw : X.w = G.w) (hu : X.A.units + 9 < cLine) (hc : X.calm = true) (hN : X.N.Nodup) (hi : PI X tg iter wi) (ok : BlkOk X.N X.env.scope scope own)
    (hg : OnBlk X scope fun Y => PG Y tg g) (ht : OnBlk X scope fun Y => PTs Y ifs tt) (hk : OnBlk X scope fun Y => PE Y kx tk) (he : OnBlk X scope fun Y => PE Y vx tv) (hs : ∀ x, foldedSetIterable iter X.env x = pure x) :
    PE X (.DictComp kx vx [⟨tg, iter, ifs, 0⟩] scope pos) (tGd G wi g tt tk tv (own.map (·.2))) := by
  refine ⟨fun pins s σ H Q I h => ?_⟩
  rw [arm_eval_DictComp]
  refine gd_core hK hw hu hc hN I hi ok hg ht hk he hs h fun D C t m Hz If q hn f => ⟨m, hn, fun h'' sb => ?_⟩
  obtain ⟨f0, f1, f2, f3, f4, f5⟩ := f
  exact ⟨.ref D, Hz, If.turned (t' := t.toks) (fun b o hb z => (sb.2 b hb).trans z) f0 f1 f3 f4 f5, rfl, q⟩
/-- name = {..} on one line, the name a local -/
theorem ps_setDc {i : Nat} {y : Str} {py spos : Pos} (hK : X.K = G.K) (hw : X.w = G.w) (hu : X.A.units + 9 < cLine) (hc : X.calm = true) (hN : X.N.Nodup) (hy : X.N[i]? = some y) (hyl : X.env.scope.names.lookup y = some .local)
    (hsw : swapsWith (.DictComp kx vx [⟨tg, iter, ifs, 0⟩] scope pos) (some (.Name y py)) spos.line X.env = pure true) (hi : PI X tg iter wi) (ok : BlkOk X.N X.env.scope scope own)
    (hg : OnBlk X scope fun Y => PG Y tg g) (ht : OnBlk X scope fun Y => PTs Y ifs tt) (hk : OnBlk X scope fun Y => PE Y kx tk) (he : OnBlk X scope fun Y => PE Y vx tv) (hs : ∀ x, foldedSetIterable iter X.env x = pure x) :
    PS X (.Assign [.Name y py] (.DictComp kx vx [⟨tg, iter, ifs, 0⟩] scope pos) spos) (tAsg (tGd G wi g tt tk tv (own.map (·.2))) (gName i)) := by
  refine ⟨fun pins s σ H D I h => ?_⟩
  rw [exec_Assign_Name_used (hs := hsw)]
  refine wpAny_bind (wpAny_standAt (wpAny_bind ?_))
  show wpAny _ X.A (do let _ ← comprehension (.DictComp kx vx [⟨tg, iter, ifs, 0⟩] scope pos) scope X.env (firstIterPos [⟨tg, iter, ifs, 0⟩] pos) newDict false (eval iter X.env) (some (assign (.Name y py) X.env))) _ _ s
  have h : tGd G wi g tt tk tv (own.map (·.2)) σ H (fun x H1 => gName i x σ H1 D.nx) := h
  refine wpAny_bind (thn (gd_core (Qf := fun _ t => SP X pins D .next t) hK hw hu hc hN I hi ok hg ht hk he hs h fun L C t m Hz If q hn f => ?_) fun _ t hq => wpAny_pure (wpAny_pure hq))
  show wpAny _ _ (assign (.Name y py) X.env (.ref L)) _ _ _
  refine wpAny_assign_Name (store_ok2 (v := V.ref L) If hN hy (.inl hyl) rfl (fun s2 I2 ⟨a, sb, ha⟩ => ?_) (.inr hyl))
  obtain ⟨f0, f1, f2, f3, f4, f5⟩ := f
  have ne : C ≠ a := by
    rcases ha with z | z
    · exact z ▸ f1
    · exact fun e => f4 y a z e.symm
  refine ⟨m, hn.sameBut sb ne, fun h3 sb3 => ?_⟩
  exact ⟨_, Hz, I2.turned (t' := s2.toks) (fun b o hb e => (sb3.2 b hb).trans e) f0 f1 f3 f4 f5, q⟩
end
end BB
end
section
set_option Elab.async false
set_option linter.all false
set_option maxRecDepth 100000
set_option maxHeartbeats 4000000
/-! A dict comprehension does what the interpreter says. -/
namespace BB
open PySem PySem.Spec PyProof.Rows L2
variable {G : Gc} {C : Ck} {cl : Cal} {mk : Mak} {W : WS} {X : Cx} {Γ : Fr} {σ : L2.St} {H H' : Hp} {Q : VK}
theorem DenE.app : ∀ {l m : List (D × D)} {es fs : List DictEntry}, DenE G H l es → DenE G H m fs → DenE G H (l ++ m) (es ++ fs)
  | [], _, _, _, h, k => by rw [show _ = _ from h]; exact k
  | (k0, d) :: l, _, _, _, h, k => by
    obtain ⟨e, r, rfl, h2, h3, h4, h5⟩ := h
    exact ⟨e, r ++ _, rfl, h2, h3, h4, h5.app k⟩
def tp (p : D × D) : D := .tup [p.1, p.2]
theorem kvOf_tp : ∀ (ps : List (D × D)) (r : List D), kvOf (ps.map tp ++ r) = ps ++ kvOf r
  | [], _ => rfl
  | p :: ps, r => by
    show (p.1, p.2) :: kvOf (ps.map tp ++ r) = _
    rw [kvOf_tp ps r]; rfl
theorem puts_snoc (l ps : List (D × D)) (x y : D) : puts l (ps ++ [(x, y)]) = dput (puts l ps) x y := by unfold puts; rw [List.foldl_append]; rfl
theorem puts_all (f : D → Bool) : ∀ (ps l : List (D × D)), l.all (fun p => f p.1) = true → ps.all (fun p => f p.1) = true → (puts l ps).all (fun p => f p.1) = true
  | [], l, h, _ => h
  | p :: ps, l, h, k => by
    rw [List.all_cons, Bool.and_eq_true] at k
    exact puts_all f ps (dput l p.1 p.2) (dput_all f h k.1) k.2
theorem puts_length : ∀ (ps l : List (D × D)), (puts l ps).length ≤ l.length + ps.length
  | [], l => Nat.le_refl _
  | p :: ps, l => by
    have h := puts_length ps (dput l p.1 p.2)
    have := dput_length (q := p.1) (x := p.2) l
    show (puts (dput l p.1 p.2) ps).length ≤ _
    rw [List.length_cons]
    omega
theorem keysOk_split {ps r : List (D × D)} (h : keysOk (ps ++ r) = true) : (ps.all (fun p => atomKey p.1) = true ∧ r.all (fun p => atomKey p.1) = true) ∨ (ps.all (fun p => tupKey p.1) = true ∧ r.all (fun p => tupKey p.1) = true) := by
  rcases Bool.or_eq_true_iff.mp (show ((ps ++ r).all (fun p => atomKey p.1) || (ps ++ r).all (fun p => tupKey p.1)) = true from h) with z | z
  · rw [List.all_append] at z; exact .inl (ands z)
  · rw [List.all_append] at z; exact .inr (ands z)
theorem tup_not_atom {k : D} (h : tupKey k = true) : atomKey k = false := by cases k <;> first | rfl | exact absurd h (show ¬ (false = true) from Bool.noConfusion)
theorem kin_of {ps r l : List (D × D)} {x y : D} (h : keysOk (l ++ ps ++ (x, y) :: r) = true) : kinOk (puts l ps) x = true := by
  rcases keysOk_split h with ⟨a, b⟩ | ⟨a, b⟩
  · rw [List.all_append] at a
    have q := puts_all atomKey ps l (ands a).1 (ands a).2
    rw [List.all_cons] at b
    cases e : puts l ps with
    | nil => show (atomKey x || tupKey x) = true; rw [(ands b).1]; rfl
    | cons p m =>
      rw [e, List.all_cons] at q
      obtain ⟨k0, d⟩ := p
      show (if atomKey k0 then atomKey x else tupKey x) = true
      rw [(ands q).1, if_pos rfl]
      exact (ands b).1
  · rw [List.all_append] at a
    have q := puts_all tupKey ps l (ands a).1 (ands a).2
    rw [List.all_cons] at b
    cases e : puts l ps with
    | nil => show (atomKey x || tupKey x) = true; rw [(ands b).1, Bool.or_true]
    | cons p m =>
      rw [e, List.all_cons] at q
      obtain ⟨k0, d⟩ := p
      show (if atomKey k0 then atomKey x else tupKey x) = true
      rw [tup_not_atom (ands q).1, if_neg Bool.noConfusion]
      exact (ands b).1
/-- the turns so far -/
def TurnsD (G : Gc) (O : List Addr) (A : Addr) (H1 : Hp) (f : D → Res (List D)) (K : List D → Prop) (l : List D) (i : Nat) (H : Hp) : Prop :=
  GrowD G A H1 H ∧ Dr G H ∧ ∃ es ep ps, H A = some (DicO A es ep) ∧ (A == sysModules) = false ∧ (keysOk (puts [] ps) = true ∧ noTwice (puts [] ps) = true ∧ (puts [] ps).length ≤ big) ∧ DenE G (hid (A :: O) H) (puts [] ps) es ∧ Rest f K (ps.map tp) (l.drop i)
theorem TurnsD.skip {O : List Addr} {A : Addr} {H1 H2 H4 : Hp} {f : D → Res (List D)} {K : List D → Prop} {l : List D} {ps : List (D × D)} {i : Nat} {es : List DictEntry} {ep : Nat} (hdo : G.dr ∈ A :: O) (hsa : G.dr ≠ A ∧ G.sa ≠ A)
    (g1 : GrowD G A H1 H2) (e : H2 A = some (DicO A es ep)) (sys : (A == sysModules) = false) (good : keysOk (puts [] ps) = true ∧ noTwice (puts [] ps) = true ∧ (puts [] ps).length ≤ big) (dl : DenE G (hid (A :: O) H2) (puts [] ps) es) (g : Grow G H2 H4) (dr : Dr G H4) (r : Rest f K (ps.map tp ++ []) (l.drop i)) : TurnsD G O A H1 f K l i H4 :=
  ⟨g1.trans (.of g), dr, es, ep, ps, g A _ hsa.1.symm e, sys, good, dl.mono (g.hid hdo), by rw [List.append_nil] at r; exact r⟩
theorem TurnsD.put {O : List Addr} {A : Addr} {H1 H2 H4 : Hp} {f : D → Res (List D)} {K : List D → Prop} {l : List D} {ps : List (D × D)} {i : Nat} {es : List DictEntry} {ep : Nat} {x y : D} {vx vy : V} (hK : ∀ r, K r → keysOk (kvOf r) = true ∧ r.length ≤ big) (hdo : G.dr ∈ A :: O) (hsa : G.dr ≠ A ∧ G.sa ≠ A)
    (g1 : GrowD G A H1 H2) (e : H2 A = some (DicO A es ep)) (sys : (A == sysModules) = false) (good : keysOk (puts [] ps) = true ∧ noTwice (puts [] ps) = true ∧ (puts [] ps).length ≤ big) (dl : DenE G (hid (A :: O) H2) (puts [] ps) es) (g : Grow G H2 H4) (dr : Dr G H4)
    (sx : Den G (hid (A :: O) H4) x vx) (sy : Den G (hid (A :: O) H4) y vy) (r : Rest f K (ps.map tp ++ [.tup [x, y]]) (l.drop i)) : DSet G A vx vy H4 (TurnsD G O A H1 f K l i) := by
  obtain ⟨rr, k⟩ := Res.wp_ex r
  obtain ⟨k1, k2⟩ := hK _ k
  rw [List.append_assoc, kvOf_tp] at k1
  rw [List.length_append, List.length_append, List.length_map] at k2
  have k2 : ps.length + 1 + rr.length ≤ big := k2
  refine ⟨hid (A :: O) H4, puts [] ps, x, y, hid_le, ⟨es, ep, g A _ hsa.1.symm e, sys, good, dl.mono (g.hid hdo)⟩, ?_, kin_of (l := []) (y := y) (r := kvOf rr) k1, sx, sy, fun es' ep' sys' good' dl' => ?_⟩
  · have := puts_length ps []
    rw [List.length_nil] at this
    omega
  · refine ⟨(g1.trans (.of g)).trans (.upd H4), dr.upd hsa, es', ep', ps ++ [(x, y)], upd_same, sys', by rw [puts_snoc]; exact good', ?_, ?_⟩
    · rw [hid_upd, puts_snoc]; exact dl'
    · rw [List.map_append]; exact r
theorem dc_gen {m : Bool} {k v : E} {p : Pat} {it : It} {cs : Es} {K : List BB.D → Prop} (R : Rel G Γ σ H) (lk : ∀ j ∈ BB.lk k ++ BB.lk v ++ lkI it ++ lksB cs, j ∉ Γ.ω) {f : BB.D → Res (List BB.D)}
    (hf : ∀ d, f d = match p.bind d (wipeE p.names Γ.ρ) with
      | none => Res.stuck
      | some ρ' => (evT G.T cl mk cs ρ').bind fun t => if t then (ev G.T cl mk k ρ').bind fun x => (ev G.T cl mk v ρ').bind fun y => Res.ok [.tup [x, y]] else Res.ok [])
    (w : (evI G.T cl mk it Γ.ρ).wp (fun l => Rest f K [] l) (Rst G Γ.O H (W σ))) (hKb : ∀ r, K r → keysOk (kvOf r) = true ∧ r.length ≤ big)
    (hfin : ∀ (ps : List (BB.D × BB.D)) A es ep H2, K (ps.map tp) → H A = none → A ∉ Γ.O → Grow G H H2 → Dr G H2 → H2 A = some (DicO A es ep) → (A == sysModules) = false → (keysOk (puts [] ps) = true ∧ noTwice (puts [] ps) = true ∧ (puts [] ps).length ≤ big) → DenE G (hid (A :: Γ.O) H2) (puts [] ps) es → Q (.ref A) H2) :
    tGd G (tI G cl mk W true it) (gP G p) (tTs G cl mk W0 cs) (tE G cl mk W0 false k) (tE G cl mk W0 false v) p.names σ H Q := by
  have hlk : ∀ j ∈ BB.lk k, j ∉ Γ.ω := lk_l (lk_l (lk_l lk))
  have hlv : ∀ j ∈ BB.lk v, j ∉ Γ.ω := lk_r (lk_l (lk_l lk))
  have hli : ∀ j ∈ lkI it, j ∉ Γ.ω := lk_r (lk_l lk)
  have hlc : ∀ j ∈ lksB cs, j ∉ Γ.ω := lk_r lk
  refine ⟨Γ, R, hli, Res.wp_mono (fun l q1 J H1 g1 d1 wk A hA sys => ?_) (fun _ _ q => q) w⟩
  obtain ⟨Rb, cb, h0⟩ := R.block (o := DicO A [] 0) p.names g1 d1 hA
  have hsa := d1.dne hA
  have R1 := R.grow g1 d1
  have hdo : G.dr ∈ A :: Γ.O := List.mem_cons_of_mem _ R.drO
  have mem : A ∈ A :: Γ.O := List.mem_cons_self
  have up : ∀ {H2 : Hp}, GrowD G A H1 H2 → GrowD G A (L2.upd H1 A (DicO A [] 0)) H2 := fun {H2} gd a o n1 n2 e => by rw [upd_ne n2] at e; exact gd a o n1 n2 e
  refine ⟨fun i k H2 => k = l.length - i ∧ i ≤ l.length ∧ TurnsD G Γ.O A H1 f K l i H2, ⟨l.length, by omega, Nat.zero_le _, ?_⟩, ?_⟩
  · exact ⟨.upd H1, d1.upd hsa, [], 0, [], upd_same, sys, ⟨rfl, rfl, Nat.zero_le _⟩, rfl, by rw [List.drop_zero]; exact q1⟩
  · rintro i k H2 ⟨rfl, hi, gd, d2, es, ep, ps, hDl, sys, good, dl, rs⟩
    have gg : Grow G H1 H2 := gd.grow hA
    have wk2 := wk i (A :: Γ.O) H2 ((hid_cons hA).trans (gd.hid hdo mem)) (fun _ a ha hn => by
      obtain ⟨o, e⟩ := R1.live a ha
      rw [e]; exact gg a o hn e) (blk_live R1 hA gd d2 ⟨_, hDl⟩) d2
    by_cases hlt : i < l.length
    · have hd := List.getElem?_eq_getElem hlt
      obtain ⟨hgo, hy⟩ := wk2.2 _ hd
      rw [drop_cons hd] at rs
      have hx := rs.cons
      refine .inr ⟨hgo, TurnsD G Γ.O A H1 f K l (i + 1), fun H' t => ⟨l.length - (i + 1), by omega, rfl, hlt, t⟩, fun x H' y => ?_⟩
      obtain ⟨s1, dx⟩ := hy x H' y
      have d2' : Dr G H' := d2.ext s1
      have g2 : Grow G H2 H' := fun a o _ e => s1 a o e
      have gd' : GrowD G A H1 H' := gd.trans (.of g2)
      have hDl' := s1 _ _ hDl
      have dl' : DenE G (hid (A :: Γ.O) H') (puts [] ps) es := dl.mono (g2.hid hdo)
      have Rt := Rb.growD cb h0 (up gd') mem ⟨_, hDl'⟩ d2'
      rw [hf] at hx
      cases hb : p.bind l[i] (wipeE p.names Γ.ρ) with
      | none => rw [hb] at hx; exact hx.elim
      | some ρ' =>
        rw [hb] at hx
        refine ⟨Γ.blk A p.names, l[i], ρ', Rt, dx, hb, fun σ2 R2 k2 l2 => ⟨wipe_eq k2 l2, ?_⟩⟩
        refine ⟨(Γ.blk A p.names).bind p ρ', R2, lk_minus (lk_minus hlc), Res.wp_mono (fun t q H3 g3 d3 => ?_) (fun _ _ q => q.elim) (Res.wp_bind.mp hx)⟩
        cases t with
        | false => exact TurnsD.skip hdo hsa gd' hDl' sys good dl' g3 d3 q
        | true =>
          show tE G cl mk W0 false _ σ2 H3 _
          refine ⟨(Γ.blk A p.names).bind p ρ', R2.grow g3 d3, lk_minus (lk_minus hlk), ?_⟩
          refine Res.wp_mono (fun z q vz H4 g4 d4 s4 => ?_) (fun _ _ q => q.elim) (Res.wp_bind.mp q)
          refine ⟨(Γ.blk A p.names).bind p ρ', R2.grow (g3.trans g4) d4, lk_minus (lk_minus hlv), ?_⟩
          refine Res.wp_mono (fun z2 q vz2 H5 g5 d5 s5 => ?_) (fun _ _ q => q.elim) (Res.wp_bind.mp q)
          exact TurnsD.put hKb hdo hsa gd' hDl' sys good dl' ((g3.trans g4).trans g5) d5 (Den.mono (g5.hid hdo) s4) s5 q
    · have e : i = l.length := by omega
      subst e
      refine .inl ⟨wk2.1 (Nat.le_refl _), ?_⟩
      rw [List.drop_length] at rs
      have hA0 : H A = none := by
        cases z : H A with
        | none => rfl
        | some u => exact absurd ((g1 A u hsa.1.symm z).symm.trans hA) (by simp)
      exact hfin ps A es ep H2 rs.nil hA0 (R1.fresh hA) (g1.trans gg) d2 hDl sys good dl
theorem kvOf_map (ps : List (BB.D × BB.D)) : kvOf (ps.map tp) = ps := by
  have := kvOf_tp ps []
  rwa [List.append_nil, show kvOf [] = [] from rfl, List.append_nil] at this
theorem dc_imp {m : Bool} {k v : E} {p : Pat} {it : It} {cs : Es} (h : tE G cl mk W m (.dc k v p it cs) σ H Q) :
    tGd G (tI G cl mk W true it) (gP G p) (tTs G cl mk W0 cs) (tE G cl mk W0 false k) (tE G cl mk W0 false v) p.names σ H Q := by
  obtain ⟨Γ, R, lk, w⟩ := h
  have lk : ∀ j ∈ BB.lk k ++ BB.lk v ++ lkI it ++ lksB cs, j ∉ Γ.ω := by cases m <;> exact lk
  refine dc_gen (m := m) (K := fun r => (keysOk (kvOf r) = true ∧ r.length ≤ big) ∧ Wt G Γ.O H m Q (.dct (puts [] (kvOf r)))) R lk (fun _ => rfl) (Res.wp_mono (fun l q => ?_) (fun _ _ q => q) (Res.wp_bind.mp w)) (fun _ h => h.1) fun ps A es ep H2 k hA ho g d e sys good dl => ?_
  · exact Res.wp_mono (fun r h => by
      obtain ⟨h1, h2⟩ := wp_if h
      obtain ⟨h1, h3⟩ := ands h1
      exact ⟨⟨h1, Nat.le_of_ble_eq_true h3⟩, h2⟩) (fun _ _ q => q) (Res.wp_calm (Res.wp_bind.mp q))
  · have hq := k.2
    rw [kvOf_map] at hq
    exact hq (.ref A) H2 g d (Sees.of ⟨A, es, ep, rfl, (hid_out ho).trans e, sys, good, dl.mono (hid_mono fun a ha => List.mem_cons_of_mem _ ha)⟩)
end BB
end
section
set_option Elab.async false
set_option linter.all false
set_option maxRecDepth 100000
set_option maxHeartbeats 4000000
/-! Dict displays. -/
namespace BB
open PySem PySem.Spec PyProof.Rows L2
variable {G : Gc} {C : Ck} {cl : Cal} {mk : Mak} {W : WS} {X : Cx} {Γ : Fr} {σ : L2.St} {H H' Hv : Hp} {Q : VK} {pins : List (Addr × Obj)} {s : Shared}
/-- pairs of data -/
def DenP (G : Gc) (Hv : Hp) : List (D × D) → List (V × V) → Prop := Paired fun p q => Den G Hv p.1 q.1 ∧ Den G Hv p.2 q.2
theorem DenP.mono {ps : List (D × D)} {us : List (V × V)} (e : Same Hv H) (h : DenP G Hv ps us) : DenP G H ps us := Paired.mapP h fun _ _ r => ⟨Den.mono e r.1, Den.mono e r.2⟩
/-- the pairs are stored, from the left -/
theorem storeD (hK : X.K = G.K) (hw : X.w = G.w) (hu : X.A.units + 9 < cLine) {A : Addr} (hv : Hv A = none) {P : PUnit → Shared → Prop} {E : Value → Shared → Prop} : ∀ {ps l : List (D × D)} {us : List (V × V)} {ws : List (Value × Value)} {s : Shared} {H : Hp}, DenP G Hv ps us → VV us ws → Same Hv H → Inv X pins σ H s → Dct G Hv H A l → l.length + ps.length ≤ big → keysOk (l ++ ps) = true →
    (∀ es ep s', Inv X pins σ (upd H A (DicO A es ep)) s' → (A == sysModules) = false → (keysOk (puts l ps) = true ∧ noTwice (puts l ps) = true ∧ (puts l ps).length ≤ big) → DenE G Hv (puts l ps) es → P PUnit.unit s') →
    wpAny (model X.prog X.w) X.A (forIn ws PUnit.unit fun (kv : Value × Value) (_ : PUnit) => (do dictSet A kv.1 kv.2; pure (ForInStep.yield PUnit.unit) : Sem (ForInStep PUnit))) P E s
  | [], l, _, _, s, H, d, v, sm, I, dct, _, _, k => by
    cases d
    cases v
    rw [List.forIn_nil]
    obtain ⟨es, ep, e, sys, good, dl⟩ := dct
    refine wpAny_pure (k es ep s ?_ sys good dl)
    have : upd H A (DicO A es ep) = H := by
      funext b
      by_cases z : b = A
      · subst z; rw [upd_same, e]
      · rw [upd_ne z]
    rw [this]
    exact I
  | p :: ps, l, _, _, s, H, d, v, sm, I, dct, hl, hk, k => by
    cases d with
    | @cons _ q _ us d1 d2 =>
      cases v with
      | @cons _ u _ ws v1 v2 =>
        rw [List.length_cons] at hl
        rw [List.forIn_cons]
        refine wpAny_bind (wpAny_bind (dd_dictSet (q := p.1) (x := p.2) hK hw hu sm I dct (by omega) ?_ d1.1 v1.1 d1.2 v1.2 fun es ep s' I' sys good dl => wpAny_pure ?_))
        · exact kin_of (ps := []) (l := l) (y := p.2) (r := ps) (by rw [List.append_nil]; exact hk)
        · have sm' : Same Hv (upd H A (DicO A es ep)) := fun b o e => by rw [upd_ne (ne_of_none e hv)]; exact sm b o e
          have hl' := dput_length (q := p.1) (x := p.2) l
          refine storeD hK hw hu hv d2 v2 sm' I' ⟨es, ep, upd_same, sys, good, dl⟩ (by omega) ?_ fun es' ep' s2 I2 => ?_
          · rcases keysOk_split hk with ⟨a, b⟩ | ⟨a, b⟩
            · rw [List.all_cons] at b
              unfold keysOk
              rw [List.all_append, dput_all atomKey a (ands b).1, (ands b).2]; rfl
            · rw [List.all_cons] at b
              unfold keysOk
              rw [Bool.or_eq_true_iff]
              exact .inr (by rw [List.all_append, dput_all tupKey a (ands b).1, (ands b).2]; rfl)
          · rw [upd_upd] at I2
            exact k es' ep' s2 I2
/-- {k: v, ..} -/
def tGdisp (G : Gc) (trs : List (TE × TE)) : TE := fun σ H Q => ∀ p, H p = none → (p == sysModules) = false → tPairs trs σ (upd H p (DicO p [] 0)) fun us H2 => H2 p = some (DicO p [] 0) ∧ ∃ Hv ps, Same Hv H2 ∧ Hv p = none ∧ DenP G Hv ps us ∧ keysOk ps = true ∧ ps.length ≤ 15 ∧
  ∀ es ep, (keysOk (puts [] ps) = true ∧ noTwice (puts [] ps) = true ∧ (puts [] ps).length ≤ big) → DenE G Hv (puts [] ps) es → Q (.ref p) (upd H2 p (DicO p es ep))
theorem pe_gdisp {pos : Pos} {keys : List (Option Ex)} {values : List Ex} {trs : List (TE × TE)} (hK : X.K = G.K) (hw : X.w = G.w) (hu : X.A.units + 9 < cLine) (h : PPs X pos keys values trs) (hall : keys.all (·.isSome) = true) (hl : keys.length = values.length) (h0 : keys ≠ [])
    (h15 : keys.length ≤ 15) : PE X (.Dict keys values pos) (tGdisp G trs) := by
  refine ⟨fun pins s σ H Q I q => ?_⟩
  have hn := pairTrees_length keys values X.env pos hall hl
  have ne : pairTrees keys values X.env pos ≠ [] := fun e => by
    rw [e] at hn
    exact h0 (List.length_eq_zero_iff.mp hn.symm)
  rw [arm_eval_Dict, zip_pairTrees keys values X.env pos hall hl, dictDisplay_pairs _ ne (by omega)]
  refine wpAny_bind (wpAny_standAt (wpAny_bind ?_))
  unfold subDict
  refine wpAny_bind (wpAny_alloc (wpAny_bind (wpAny_holding ?_)))
  rw [if_pos (by omega)]
  generalize hA : s.heap.objs.size = A
  have nA : H A = none := I.hok.fresh (Nat.le_of_eq hA)
  have sys : (A == sysModules) = false := by
    have := I.big
    rw [hA] at this
    exact beq_false_of_ne (Nat.ne_of_gt this)
  have I1 : Inv X pins σ (upd H A (DicO A [] 0)) { s with heap := s.heap.push { cls := .type "dict", data := .dict #[] } } := by
    refine I.laid (t' := s.toks) (fun _ _ z => Heap.get?_push_of_some _ z) (Nat.le_of_eq hA) ?_
    rw [← hA]
    exact dico_ok (es := #[]) (Heap.get?_push_size _ rfl) ⟨rfl, rfl, rfl⟩ rfl
  refine wpAny_bind (thn (h.run pins _ σ _ _ I1 (q A nA sys)) fun ws s2 ⟨us, H2, I2, rel, e, Hv, ps, sm, hv, dp, kq, l15, k⟩ => wpAny_holding ?_)
  refine wpAny_bind (storeD hK hw hu hv dp rel sm I2 (l := []) ⟨[], 0, e, sys, ⟨rfl, rfl, Nat.zero_le _⟩, rfl⟩ (by show 0 + ps.length ≤ 16777216; omega) kq fun es ep s3 I3 _ good dl => ?_)
  exact wpAny_pure (wpAny_pure (wpAny_pure ⟨.ref A, _, I3, rfl, k es ep good dl⟩))
/-- {} -/
theorem pe_gnew {pos : Pos} : PE X (.Dict [] [] pos) (fun _ H Q => ∀ p, H p = none → (p == sysModules) = false → Q (.ref p) (upd H p (DicO p [] 0))) := ⟨fun pins s σ H Q I h => by
  have sys : (s.heap.objs.size == sysModules) = false := beq_false_of_ne (Nat.ne_of_gt I.big)
  exact wpAny_Dict_empty ⟨.ref s.heap.objs.size, _, I.laid (a := s.heap.objs.size) (o := DicO s.heap.objs.size [] 0) (t' := s.toks) (fun _ _ z => Heap.get?_push_of_some _ z) (Nat.le_refl _) (dico_ok (es := #[]) (Heap.get?_push_size _ rfl) ⟨rfl, rfl, rfl⟩ rfl), rfl, h _ (I.hok.fresh (Nat.le_refl _)) sys⟩⟩
/-- the pairs of a display, as the interpreter tells them -/
def tK (G : Gc) (cl : Cal) (mk : Mak) (W : WS) (kvs : Ks) : L2.St → Hp → (List (V × V) → Hp → Prop) → Prop := fun σ H Q => ∃ Γ, Rel G Γ σ H ∧ (∀ i ∈ lkK kvs, i ∉ Γ.ω) ∧
  (evkv G.T cl mk kvs Γ.ρ).wp (fun ps => ∀ us H', Grow G H H' → Dr G H' → DenP G (hid Γ.O H') ps us → Q us H') (Rst G Γ.O H (W σ))
theorem Rst.block {O : List Addr} {A : Addr} {o : HO} {c : Nat} {fs : Fs} {W : XK} (h : H A = none) (r : Rst G O H W c fs) : Rst G (A :: O) (upd H A o) W c fs := fun d H' gs g dr e f =>
  r d H' gs (fun a u n z => g a u n (by rw [upd_ne (ne_of_none z h)]; exact z)) dr e (f.mono (hid_mono fun a ha => List.mem_cons_of_mem _ ha))
theorem evkv_len : ∀ {kvs : Ks} {ρ : Env} {S : List (D × D) → Prop} {R : Nat → Fs → Prop}, (evkv G.T cl mk kvs ρ).wp S R → (evkv G.T cl mk kvs ρ).wp S R := fun h => h
theorem dct_imp {m : Bool} {kvs : Ks} {trs : List (TE × TE)} (ht : ∀ σ H Q, tK G cl mk W kvs σ H Q → tPairs trs σ H Q) (h : tE G cl mk W m (.dct kvs) σ H Q) : tGdisp G trs σ H Q := by
  obtain ⟨Γ, R, lk, w⟩ := h
  have lk : ∀ j ∈ lkK kvs, j ∉ Γ.ω := by cases m <;> exact lk
  intro p hp sys
  obtain ⟨Rb, cb, h0⟩ := R.block (o := DicO p [] 0) [] (Grow.refl H) R.dr hp
  have ew : wipe σ [] = σ := rfl
  rw [ew] at Rb
  refine ht σ _ _ ⟨Γ.blk p [], Rb, lk_minus lk, Res.wp_mono (fun ps q us H' g dr dp => ?_) (fun c x q => q.block hp) (Res.wp_bind.mp w)⟩
  have dp : DenP G (hid (p :: Γ.O) H') ps us := dp
  have hsa := R.dr.dne hp
  obtain ⟨k1, q⟩ := wp_if q
  obtain ⟨k1, k2⟩ := ands k1
  refine ⟨g p _ hsa.1.symm upd_same, hid (p :: Γ.O) H', ps, hid_le, hid_in List.mem_cons_self, dp, k1, of_decide_eq_true k2, fun es ep good dl => ?_⟩
  refine q (.ref p) _ (fun a o n e => by rw [upd_ne (ne_of_none e hp)]; exact g a o n (by rw [upd_ne (ne_of_none e hp)]; exact e)) (dr.upd hsa) (Sees.of ⟨p, es, ep, rfl, ?_, sys, good, dl.mono fun a o e => ?_⟩)
  · rw [hid_out (R.fresh hp), upd_same]
  · obtain ⟨h1, h2⟩ := hid_some e
    have hne : a ≠ p := fun z => h1 (by rw [z]; exact List.mem_cons_self)
    rw [hid_out (fun z => h1 (List.mem_cons_of_mem _ z)), upd_ne hne]
    exact h2
theorem dct_nil {m : Bool} (h : tE G cl mk W m (.dct .nil) σ H Q) : ∀ p, H p = none → (p == sysModules) = false → Q (.ref p) (upd H p (DicO p [] 0)) := by
  obtain ⟨Γ, R, lk, w⟩ := h
  intro p hp sys
  refine w (.ref p) _ (Grow.new hp) (dr_new R.dr hp) (Sees.of ⟨p, [], 0, rfl, hid_new R.live hp, sys, ⟨rfl, rfl, Nat.zero_le _⟩, rfl⟩)
theorem tK_cons {k v : E} {r : Ks} {trs : List (TE × TE)} (ih : ∀ σ H Q, tK G cl mk W r σ H Q → tPairs trs σ H Q) : ∀ σ H Q, tK G cl mk W (.cons k v r) σ H Q → tPairs ((tE G cl mk W false k, tE G cl mk W false v) :: trs) σ H Q := by
  intro σ H Q h
  obtain ⟨Γ, R, lk, w⟩ := h
  have lk : ∀ j ∈ BB.lk k ++ BB.lk v ++ lkK r, j ∉ Γ.ω := lk
  refine two_tE (m1 := false) (m2 := false) (a := k) (b := v) R (lk_l (lk_l lk)) (lk_r (lk_l lk)) w fun d e x y H1 g dr s1 s2 q => ?_
  refine ih σ H1 _ ⟨Γ, R.grow g dr, lk_r lk, Res.wp_mono (fun ps q us H2 g2 d2 dp => ?_) (fun _ _ q => q.grow g) (Res.wp_bind.mp q)⟩
  exact q ((x, y) :: us) H2 (g.trans g2) d2 (.cons ⟨Den.mono (g2.hid R.drO) s1, Den.mono (g2.hid R.drO) s2⟩ dp)
theorem tK_nil : ∀ σ H Q, tK G cl mk W .nil σ H Q → tPairs [] σ H Q := by
  intro σ H Q h
  obtain ⟨Γ, R, lk, w⟩ := h
  exact w [] H (Grow.refl H) R.dr .nil
end BB
end
section
set_option Elab.async false
set_option linter.all false
set_option maxRecDepth 100000
set_option maxHeartbeats 4000000
/-! Reading by values: subscripts, slices, truth, comparisons. -/
namespace BB
open PySem PySem.Spec PyProof.Rows L2
variable {G : Gc} {C : Ck} {cl : Cal} {mk : Mak} {W : WS} {X : Cx} {Γ : Fr} {σ : L2.St} {H H' Hv : Hp} {Q : VK} {O : List Addr}
theorem DenL.atI {l : List D} {vs : List V} {i : Int} {d : D} (h : DenL G Hv l vs) (e : getI l i = some d) : ∃ v, L2.atI vs i = some v ∧ Den G Hv d v := by
  unfold getI at e
  have hl := h.length
  by_cases h0 : 0 ≤ i
  · rw [if_pos h0] at e
    obtain ⟨v, e1, e2⟩ := h.get e
    have hlt := (List.getElem?_eq_some_iff.mp e1).1
    refine ⟨v, ?_, e2⟩
    unfold L2.atI ixN
    rw [if_pos h0, if_pos (by omega)]
    exact e1
  · rw [if_neg h0] at e
    by_cases h1 : -(l.length : Int) ≤ i
    · rw [if_pos h1] at e
      obtain ⟨v, e1, e2⟩ := h.get e
      refine ⟨v, ?_, e2⟩
      unfold L2.atI ixN
      rw [if_neg h0, if_pos (by omega)]
      rw [hl]
      have : (i + (l.length : Int)).toNat = ((l.length : Int) + i).toNat := by rw [Int.add_comm]
      first | exact e1 | (rw [← this]; exact e1)
    · rw [if_neg h1] at e; cases e
theorem DenL.cutV {l : List D} {vs : List V} (h : DenL G Hv l vs) (lo hi : Option Int) : DenL G Hv (cutL l lo hi) (L2.cutV vs lo hi) := by
  have hl := h.length
  have e : L2.cutV vs lo hi = (vs.take (match hi with | some j => clampI l.length j | none => l.length)).drop (match lo with | some i => clampI l.length i | none => 0) := by
    unfold L2.cutV
    rw [List.drop_take, hl]
    cases lo <;> cases hi <;> rfl
  rw [e]
  exact (h.take _).drop _
theorem SeqT.sql {K : PySem.W.Frag} {a : Addr} {vs : List V} (e : H a = some (.lst vs)) : SqL K H a vs := SqL.of e
theorem ix_rule (RK : X.K = G.K) (hw : X.w = G.w) (hu : X.A.units + 100 < cLine) : IxR X (rIdx G) := by
  intro value slice pins s σ H x y v u Q I rx ry q hs
  obtain ⟨O, W, a, b, va, vb, h⟩ := q
  cases a <;> (first | exact h.no.elim | skip)
  · cases b <;> (first | exact h.no.elim | skip)
    rename_i z i
    obtain ⟨⟨h0, h1⟩, h⟩ := h.cond
    have e1 := va.str; have e2 := vb.int
    cases e : oneSign z i.toNat with
    | none => rw [e] at h; exact h.no.elim
    | some c =>
      rw [e] at h
      unfold oneSign at e
      obtain ⟨c0, k1, k2⟩ := Option.map_eq_some_iff.mp e
      subst k2
      have k1' : z.cps.toList[i.toNat]? = some c0 := by rw [Array.getElem?_toList]; exact k1
      have := L2.atI_nat (xs := z.cps.toList) (j := i.toNat) k1'
      rw [show ((i.toNat : Nat) : Int) = i by omega] at this
      exact ix_str value slice pins s σ H x y v u Q I rx ry ⟨z, i, c0, e1, e2, by rw [← big_line]; exact h1, this, h.ok rfl⟩ hs
  · cases b <;> (first | exact h.no.elim | skip)
    rename_i l i
    obtain ⟨t, vs, e1, q1, d1⟩ := va.tup
    have e2 := vb.int
    cases e : getI l i with
    | none => exact (show False by have h' : Out G O H W (Res.ofOpt (getI l i)) Q := h; rw [e] at h'; exact h'.no).elim
    | some d =>
      have h : Out G O H W (Res.ofOpt (getI l i)) Q := h
      rw [e] at h
      obtain ⟨w, k1, k2⟩ := d1.atI e
      exact ix_tup value slice pins s σ H x y v u Q I rx ry ⟨t, vs, i, w, e1, e2, by rw [RK]; exact q1, k1, h.ok k2⟩ hs
  · cases b <;> (first | exact h.no.elim | skip)
    rename_i l i
    obtain ⟨t, vs, e1, q1, d1⟩ := va.lst
    have e2 := vb.int
    cases e : getI l i with
    | none => exact (show False by have h' : Out G O H W (Res.ofOpt (getI l i)) Q := h; rw [e] at h'; exact h'.no).elim
    | some d =>
      have h : Out G O H W (Res.ofOpt (getI l i)) Q := h
      rw [e] at h
      obtain ⟨w, k1, k2⟩ := d1.atI e
      exact ix_list value slice pins s σ H x y v u Q I rx ry ⟨t, vs, i, w, e1, e2, (.inl q1), k1, h.ok k2⟩ hs
  · rename_i l
    have h : Out G O H W (if kinOk l b = true then Res.ofOpt (dget l b) else .stuck) Q := by cases b <;> exact h
    obtain ⟨kin, h⟩ := h.cond
    obtain ⟨a, e1, dct⟩ := va.dct'
    subst e1
    obtain rfl : v = Value.ref a := rx
    cases e : dget l b with
    | none => rw [e] at h; exact h.no.elim
    | some d =>
      rw [e] at h
      have db : Den G (hid O H) b y := by
        rcases vb with k | ⟨p, _, _, k⟩
        · exact k
        · rcases kin_cases dct.ok.1 kin with ⟨_, z⟩ | ⟨_, z⟩ <;> (cases b <;> first | exact k.elim | exact absurd z (show ¬ (false = true) from Bool.noConfusion))
      exact tail_any (dct.typeIs I) PySem.F.slot_dict_getitem.lookup (dd_getItem RK hw (by omega) hid_le I dct kin db ry e fun w' vv s' I' r' d' => ⟨vv, H, I', r', h.ok d'⟩) hs
theorem sl_rule (RK : X.K = G.K) : SlR X (rSlc G) := by
  intro pins s σ H x v vl vu lo hi sl Q I rx hs pl pu q
  obtain ⟨O, W, a, va, h⟩ := q
  cases a <;> (first | exact h.no.elim | skip)
  · rename_i l
    obtain ⟨t, vs, e1, q1, d1⟩ := va.tup
    have hlen := d1.length
    rw [← RK] at q1
    refine sl_tupA pins s σ H x v vl vu lo hi sl Q I rx hs pl pu ⟨t, vs, e1, q1, fun ⟨w1, w2⟩ => ?_, fun _ p hp => h.newTup (d1.cutV lo hi) hp⟩
    have : L2.cutV vs lo hi = vs := by
      unfold L2.cutV
      rw [w1, w2, List.drop_zero]
      exact List.take_of_length_le (by omega)
    have dc := d1.cutV lo hi
    rw [this] at dc
    rcases va with k | ⟨p, _, _, k⟩
    · obtain ⟨t2, vs2, e3, q3, d3⟩ := k
      rw [e1] at e3
      cases e3
      have : vs2 = vs := I.tuple_inj (by rw [RK]; exact SqT.mono hid_le q3) q1
      subst this
      exact h.ok ⟨t, vs2, rfl, q3, dc⟩
    · exact k.elim
  · rename_i l
    obtain ⟨t, vs, e1, q1, d1⟩ := va.lst
    exact sl_list pins s σ H x v vl vu lo hi sl Q I rx hs pl pu ⟨t, vs, e1, (.inl q1), fun p hp => h.newLst (d1.cutV lo hi) hp⟩
end BB
end
section
set_option Elab.async false
set_option linter.all false
set_option maxRecDepth 100000
set_option maxHeartbeats 4000000
/-! Truth and == of anything. -/
namespace BB
open PySem PySem.Spec PyProof.Rows L2
variable {G : Gc} {C : Ck} {cl : Cal} {mk : Mak} {W : WS} {X : Cx} {Γ : Fr} {σ : L2.St} {H H' Hv : Hp} {Q : VK} {O : List Addr} {pins : List (Addr × Obj)} {s : Shared}
/-- what a def promises: r, on data -/
def spC (G : Gc) (r : List D → Res D) : Sp := fun vs H Q E => ∃ O ds, DenL G (hid O H) ds vs ∧ Out G O H E (r ds) Q
/-- the classes' own special methods -/
structure Sps (G : Gc) (K : PySem.W.Frag) : Prop where
  bool0 : ∀ c k, G.T.cls[c]? = some k → k.bool = none → PySem.W.findIn K (.ref (G.cad c)) "__bool__" = some none ∧ PySem.W.findIn K (.ref (G.cad c)) "__len__" = some none
  bool1 : ∀ c k f, G.T.cls[c]? = some k → k.bool = some f → PySem.W.findIn K (.ref (G.cad c)) "__bool__" = some (some (.ref (G.fad f))) ∧ PySem.W.isFn K (.ref (G.fad f)) = true
  eq1 : ∀ c k f, G.T.cls[c]? = some k → k.eq = some f → PySem.W.findIn K (.ref (G.cad c)) "__eq__" = some (some (.ref (G.fad f))) ∧ PySem.W.isFn K (.ref (G.fad f)) = true ∧
    PySem.W.findIn K (.ref (G.cad c)) "__ne__" = some (some (.builtin "object.__ne__")) ∧ PySem.W.mroIn K (G.cad c) (.type "object") = some true
  nf : ∀ c d, c < G.T.cls.length → d < G.T.cls.length → PySem.W.notFirst K (G.cad c) (.ref (G.cad d)) = true
abbrev FnC (G : Gc) (X : Cx) (k : Nat) (f : Nat) (r : List D → Res D) : Prop := FnR X.prog X.w X.K X.mg X.base (L2.CX X.prog X.w) k (G.fad f) (spC G r)
/-- a def that ends well, at once -/
theorem runD {f k : Nat} {r : List D → Res D} {ds : List D} {d : D} {vs : List V} {us : List Value} {A : Around} {E : Value → Shared → Prop} (F : FnC G X k f r) (hfr : A.frames = X.A.frames) (hr : Room k A) (I : Inv X pins σ H s) (rv : Vals vs us)
    (dl : DenL G (hid O H) ds vs) (ho : G.dr ∈ O) (hl : ∀ a ∈ O, ∃ o, H a = some o) (dr : Dr G H) (e : r ds = .ok d) (h : ∀ v H', Grow G H H' → Dr G H' → Den G (hid O H') d v → Q v H') : wpAny (model X.prog X.w) A (PySem.call (.ref (G.fad f)) us) (EP X pins σ Q) E s := by
  have en := I.env0
  refine wpAny_call (codeAny_mono (F A X.stack s H us vs Q (fun _ _ _ => False) hr ⟨hfr.trans en.frames, en.mod, en.bs, en.bsz, en.funs, en.frf, en.hok, en.bare⟩ rv ⟨O, ds, dl, ho, hl, dr, by rw [e]; exact h⟩) fun r s' hq => ?_)
  cases r with
  | error e =>
    obtain ⟨_, _, _, _, _, _, _, _, _, _, _, _, z⟩ := hq
    exact z.elim
  | ok fl =>
    cases fl with
    | ret u => exact I.after hq
    | next => exact False.elim hq
    | brk => exact False.elim hq
    | cont => exact False.elim hq
theorem ins_at (I : Inv X pins σ H s) {c : Nat} {fs : List (Nat × D)} {v : V} {u : Value} (h : Den G (hid O H) (.ins c fs) v) (rx : RelV v u) : ∃ a ox od, u = .ref a ∧ v = .ref a ∧ PySem.W.InstAt s.heap a ox (G.cad c) od := by
  obtain ⟨_, a, dx, gs, rfl, h2, _⟩ := h
  obtain rfl : u = Value.ref a := rx
  obtain ⟨mA, J, _⟩ := ins_get I.hok (hid_some h2).2
  obtain ⟨od, J, _⟩ := J.look
  exact ⟨a, _, _, rfl, rfl, J⟩
/-! len and truth of a dict, whatever its keys -/
theorem len_body_raw {prog : Program} {w : World} {A : Around} {E : Value → Shared → Prop} {s : Shared} {a : Addr} {es : Array DictEntry} {ep : Nat} {Q : Value → Shared → Prop} (sys : (a == sysModules) = false) (dd : s.heap.DictRaw a es ep) (fit : (es.size : Int) < 2 ^ 63)
    (h : Q (.int es.size (s.toks + 1)) { s with toks := s.toks + 1 + 1 }) : wpAny (model prog w) A (Builtin.«len» ⟨[.ref a], []⟩) (fun f s' => ∃ r, f = .done (.ret r) ∧ Q r s') E s := by
  unfold Builtin.«len»
  refine wpAny_bind (m := oneArg "len" _) (wpAny_pure ?_)
  refine wpAny_bind (m := callSpecial? (.ref a) (Str.ofString "__len__")) (wpAny_callSpecial?_slot (name := Str.ofString "__len__") dd.typeIs F.slot_dict_len (call_len_raw sys dd ?_))
  show wpAny _ _ _ _ _ { s with toks := s.toks + 1 }
  refine wpAny_bind (wpAny_holding (wpAny_pure ?_))
  refine wpAny_bind (wpAny_letGo ?_)
  show wpAny _ _ (if ((es.size : Nat) : Int) < 0 then _ else _) _ _ _
  rw [if_neg (by omega)]
  show wpAny _ _ (if ((es.size : Nat) : Int) ≥ 2 ^ 63 then _ else _) _ _ _
  rw [if_neg (by omega)]
  exact wpAny_bind (wpAny_mkInt (wpAny_pure ⟨_, rfl, h⟩))
theorem truthy_raw {prog : Program} {w : World} {A : Around} {E : Value → Shared → Prop} {s : Shared} {a : Addr} {es : Array DictEntry} {ep : Nat} {Q : Bool → Shared → Prop} (sys : (a == sysModules) = false) (dd : s.heap.DictRaw a es ep) (fit : (es.size : Int) < 2 ^ 63)
    (h : Q (es.size != 0) { s with toks := s.toks + 1 + 1 }) : wpAny (model prog w) A (truthy (.ref a)) Q E s := by
  have hne : ((es.size : Int) != 0) = (es.size != 0) := by cases es.size <;> rfl
  have key : wpAny (model prog w) A (runValue (.builtin "len" ⟨[.ref a], []⟩)) (fun r s' => r = .int es.size (s.toks + 1) ∧ Q (es.size != 0) s') E s := by
    refine wpAny_runValue (codeAny_builtin entry_len ?_)
    rw [Around.under_plainId plain_len _]
    exact wpAny_mono (len_body_raw (Q := fun r s' => r = .int es.size (s.toks + 1) ∧ Q (es.size != 0) s') sys dd fit ⟨rfl, h⟩) (fun f s' h' => by obtain ⟨r, rfl, hq⟩ := h'; exact hq) fun _ _ e => e
  unfold truthy
  first
    | refine wpAny_bind (wpAny_callSpecial?_none (name := Str.ofString "__bool__") dd.typeIs noBool_dict ?_)
    | refine wpAny_bind (wpAny_pure (wpAny_bind (wpAny_callSpecial?_none (name := Str.ofString "__bool__") dd.typeIs noBool_dict ?_)))
  first
    | refine wpAny_bind (wpAny_specialOf (name := Str.ofString "__len__") dd.typeIs F.slot_dict_len.lookup ?_)
    | refine wpAny_bind (wpAny_pure (wpAny_bind (wpAny_specialOf (name := Str.ofString "__len__") dd.typeIs F.slot_dict_len.lookup ?_)))
  first
    | exact wpAny_bind (wpAny_mono key (fun r s' h' => by obtain ⟨rfl, hq⟩ := h'; exact wpAny_pure (hne ▸ hq)) fun _ _ e => e)
    | exact wpAny_bind (wpAny_pure (wpAny_bind (wpAny_mono key (fun r s' h' => by obtain ⟨rfl, hq⟩ := h'; exact wpAny_pure (hne ▸ hq)) fun _ _ e => e)))
theorem DenE.length : ∀ {l : List (D × D)} {es : List DictEntry}, DenE G Hv l es → es.length = l.length
  | [], _, h => by rw [show _ = _ from h]; rfl
  | (k, d) :: l, _, h => by
    obtain ⟨e, r, rfl, _, _, _, h⟩ := h
    rw [List.length_cons, List.length_cons, h.length]
theorem Dct.raw {a : Addr} {l : List (D × D)} (I : Inv X pins σ H s) (d : Dct G Hv H a l) : ∃ es ep, s.heap.DictRaw a es ep ∧ es.size = l.length ∧ (es.size : Int) < 2 ^ 63 ∧ DenE G Hv l es.toList := by
  obtain ⟨o, es, ep, h1, h2, h3, dl⟩ := d.obj I
  have hl := dl.length
  have hb := d.ok.2.2
  have e : es.size = l.length := by rw [← hl, Array.length_toList]
  refine ⟨es, ep, ⟨o, h1, h2, h3⟩, e, ?_, dl⟩
  have : big = 16777216 := rfl
  omega
theorem tru_rule (S : Sps G X.K) (RK : X.K = G.K) {k : Nat} (hr : Room k X.A) (F : ∀ f, FnC G X k f (cl f)) : TruR X (rTru G cl) := by
  intro pins s σ H x v Q I rx q
  obtain ⟨O, W, a, va, ho, hl, dr, h⟩ := q
  have ok : ∀ (t : Option Bool) (b : Bool), (Res.ofOpt t).wp (fun b => ∀ H', Grow G H H' → Dr G H' → Q b H') (Rst G O H W) → t = some b → Q b H := fun t b h e => by subst e; exact h H (Grow.refl H) dr
  cases a with
  | non => have e := va.non; exact tru_ok pins s σ H x v Q I rx ⟨false, by subst e; exact rfl, ok (some false) _ h rfl⟩
  | bl b => have e := va.bl; exact tru_ok pins s σ H x v Q I rx ⟨b, by subst e; exact rfl, ok (some b) _ h rfl⟩
  | int i => have e := va.int; exact tru_ok pins s σ H x v Q I rx ⟨i != 0, by subst e; exact rfl, ok (some (i != 0)) _ h rfl⟩
  | str y =>
    have e := va.str
    have h : (Res.ofOpt (if Nat.ble y.cps.size big then some (y.cps.size != 0) else none)).wp (fun b => ∀ H', Grow G H H' → Dr G H' → Q b H') (Rst G O H W) := h
    cases z : Nat.ble y.cps.size big with
    | false => rw [z] at h; exact h.elim
    | true =>
      refine tru_ok pins s σ H x v Q I rx ⟨y.cps.size != 0, ?_, ok _ _ h (by rw [z]; rfl)⟩
      subst e
      refine ⟨by rw [← big_line]; exact Nat.le_of_ble_eq_true z, ?_⟩
      show (y.cps.size != 0) = ((y.cps.size : Int) != 0)
      cases y.cps.size <;> rfl
  | tup l =>
    obtain ⟨t, vs, e1, q1, d1⟩ := va.tup
    have hlen := d1.length
    refine tru_ok pins s σ H x v Q I rx ⟨!l.isEmpty, ?_, ok (some (!l.isEmpty)) _ h rfl⟩
    subst e1
    refine .inr (.inl ⟨vs, by rw [RK]; exact q1, ?_⟩)
    cases l <;> cases vs <;> first | rfl | (simp at hlen)
  | lst l =>
    obtain ⟨t, vs, e1, q1, d1⟩ := va.lst
    have hlen := d1.length
    refine tru_ok pins s σ H x v Q I rx ⟨!l.isEmpty, ?_, ok (some (!l.isEmpty)) _ h rfl⟩
    subst e1
    refine .inl ⟨vs, .inl q1, ?_⟩
    cases l <;> cases vs <;> first | rfl | (simp at hlen)
  | dct l =>
    obtain ⟨a, e1, dct⟩ := va.dct'
    subst e1
    obtain rfl : v = Value.ref a := rx
    have hq := ok (some (!l.isEmpty)) _ h rfl
    obtain ⟨es, ep, raw, hl, fit, _⟩ := dct.raw I
    refine truthy_raw dct.sys raw fit ⟨H, I.tok _, ?_⟩
    have : (es.size != 0) = !l.isEmpty := by
      rw [hl]
      cases l <;> rfl
    rw [this]
    exact hq
  | ins c fs =>
    have d := va.ins
    have hc : (truR G.T cl (.ins c fs)).wp (fun b => ∀ H', Grow G H H' → Dr G H' → Q b H') (Rst G O H W) := h
    obtain ⟨a, ox, od, rfl, rfl, J⟩ := ins_at I d rx
    obtain ⟨m, hF⟩ := I.fr
    cases e : G.T.cls[c]? with
    | none =>
      unfold truR at hc
      simp only [e] at hc
      exact hc.elim
    | some k' =>
      cases eb : k'.bool with
      | none =>
        obtain ⟨h1, h2⟩ := S.bool0 c k' e eb
        refine PySem.W.truthy_K0 hF I.ok.mod.kin J h1 h2 ⟨H, I, ?_⟩
        unfold truR at hc
        simp only [e, eb] at hc
        exact hc H (Grow.refl H) dr
      | some f =>
        obtain ⟨h1, h2⟩ := S.bool1 c k' f e eb
        unfold truR at hc
        simp only [e, eb] at hc
        cases er : cl f [.ins c fs] with
        | ok d' =>
          rw [er] at hc
          cases d' <;> (first | exact hc.elim | skip)
          rename_i b
          refine PySem.W.truthy_K hF I.ok.mod.kin J h1 h2 (wpAny_mono (runD (Q := fun v H' => v = .bl b ∧ Q b H') (F f) rfl hr I (vs := [.ref a]) (.cons rfl .nil) (.one d) ho hl dr er fun v H' g d2 dv => ⟨dv, hc H' g d2⟩) (fun r s' q => ?_) fun _ _ z => z)
          obtain ⟨w, H2, I2, r2, e2, q2⟩ := q
          subst e2
          cases r2
          exact ⟨H2, I2, q2⟩
        | raise _ _ => rw [er] at hc; exact hc.elim
        | ask _ _ => rw [er] at hc; exact hc.elim
        | stuck => rw [er] at hc; exact hc.elim
  | me c fs => exact h.elim
  | draw => exact h.elim

/-! ### plain data -/
mutual
theorem den_dp (e : Same Hv H) : ∀ {d : D} {v : V} {n : Nat}, pdn n d = true → Den G Hv d v → Dp G.K H v (py d)
  | .non, _, _, _, h => by rw [show _ = _ from h]; unfold py; exact .non
  | .bl b, _, _, _, h => by rw [show _ = _ from h]; unfold py; exact .bl b
  | .int i, _, _, _, h => by rw [show _ = _ from h]; unfold py; exact .int i
  | .str x, _, _, _, h => by rw [show _ = _ from h]; unfold py; exact .str x
  | .tup l, _, n, k, h => by
    obtain ⟨a, vs, rfl, h2, h3⟩ := h
    unfold py
    cases n with
    | zero => exact absurd k (show ¬ (false = true) from Bool.noConfusion)
    | succ n => exact .tup (SqT.mono e h2) (dens_dp e (n := n) k h3)
  | .lst l, _, n, k, h => by
    obtain ⟨a, vs, rfl, h2, h3⟩ := h
    unfold py
    cases n with
    | zero => exact absurd k (show ¬ (false = true) from Bool.noConfusion)
    | succ n => exact .lst (.inl (rd_mono e h2)) (dens_dp e (n := n) k h3)
  | .dct _, _, n, k, _ => absurd k (by cases n <;> exact Bool.noConfusion)
  | .ins _ _, _, n, k, _ => absurd k (by cases n <;> exact Bool.noConfusion)
  | .me _ _, _, n, k, _ => absurd k (by cases n <;> exact Bool.noConfusion)
  | .draw, _, n, k, _ => absurd k (by cases n <;> exact Bool.noConfusion)
theorem dens_dp (e : Same Hv H) : ∀ {l : List D} {vs : List V} {n : Nat}, pdns n l = true → DenL G Hv l vs → DpAll G.K H vs (pys l)
  | [], _, _, _, h => by rw [show _ = _ from h]; unfold pys; exact .nil
  | d :: l, _, n, k, h => by
    obtain ⟨v, r, rfl, h2, h3⟩ := h
    obtain ⟨k1, k2⟩ := ands (show (pdn n d && pdns n l) = true from k)
    unfold pys
    exact .cons (den_dp e k1 h2) (dens_dp e k2 h3)
end
theorem vw_dp {d : D} {v : V} (h : plain d = true) (k : Vw G O H d v) : Dp G.K H v (py d) := by
  rcases k with k | ⟨p, e, _, k⟩
  · exact den_dp hid_le h k
  · cases d <;> (first | exact k.elim | exact absurd h (show ¬ (false = true) from Bool.noConfusion) | skip)
    subst e
    obtain ⟨vs, h1, h2⟩ := k
    unfold py
    exact .lst (SqL.of h1) (dens_dp hid_le (n := 59) h h2)
theorem vw_non {d : D} {v : V} (k : Vw G O H d v) : decide (v = .non) = isNon d := by
  cases d with
  | non => rw [k.non]; rfl
  | bl b => rw [k.bl]; rfl
  | int i => rw [k.int]; rfl
  | str x => rw [k.str]; rfl
  | tup l => obtain ⟨a, vs, e, _⟩ := k.tup; rw [e]; rfl
  | lst l => obtain ⟨a, vs, e, _⟩ := k.lst; rw [e]; rfl
  | dct l => obtain ⟨a, es, ep, e, _⟩ := k.dct; rw [e]; rfl
  | ins c fs => obtain ⟨_, a, dx, gs, e, _⟩ := k.ins'; rw [e]; rfl
  | me c fs => obtain ⟨_, a, dx, gs, e, _⟩ := k.me; rw [e]; rfl
  | draw => rw [k.draw]; rfl
theorem any_py {d : D} (hd : plain d = true) : ∀ {l : List D}, plains l = true → ((pys l).any fun z => PyData.eqv z (py d)) = l.any fun z => eqv z d
  | [], _ => by unfold pys; rfl
  | a :: l, h => by
    obtain ⟨k1, k2⟩ := ands (show (pdn 59 a && pdns 59 l) = true from h)
    unfold pys
    rw [List.any_cons, List.any_cons, eqv_py (n := 59) (m := 60) k1 hd, any_py hd k2]
/-- !=, by the class's own == -/
theorem ne_ins {prog : Program} {w : World} {A : Around} {E : Value → Shared → Prop} {s : Shared} {K : PySem.W.Frag} {x Cx L f : Addr} {h₀ : Heap} {m : PySem.Str → Option Value} {ox : Obj} {od : Option Obj} {b tb : Value} {Q : Value → Shared → Prop} (hu : A.units + 1 < cLine) (Fh : PyProof.Rows.Fr h₀ L s.heap m) (X₀ : K.In h₀) (I : PySem.W.InstAt s.heap x ox Cx od)
    (hb : PySem.W.Looks (model prog w) s.heap (typeOf b) tb) (hn : PySem.W.notFirst K Cx tb = true) (hs : PySem.W.findIn K (.ref Cx) "__eq__" = some (some (.ref f))) (hf : PySem.W.isFn K (.ref f) = true) (hne : PySem.W.findIn K (.ref Cx) "__ne__" = some (some (.builtin "object.__ne__")))
    (hm : PySem.W.mroIn K Cx (.type "object") = some true) (h : wpAny (model prog w) A.in1 (PySem.call (.ref f) [.ref x, b]) (fun v s' => ∃ c, v = .bool c ∧ Q (.bool (!c)) s') E s) : wpAny (model prog w) A (richCompare .NotEq (.ref x) b) Q E s := by
  have Xs := X₀.keeps Fh.keep
  have inner : wpAny (model prog w) A.in1 (Builtin.«object.__ne__» ⟨[.ref x, b], []⟩) (fun fin s' => ∃ c, fin = .done (.ret (.bool c)) ∧ Q (.bool c) s') E s := by
    unfold Builtin.«object.__ne__»
    repeat (first
      | with_reducible refine wpAny_cRoomFor (show A.in1.units < cLine from hu) ?_
      | (refine wpAny_bind (m := callSpecialIfBound? (.ref x) (Str.ofString "__eq__") [b])
          (PySem.W.ifBound_K Xs I hs hf (wpAny_mono h (fun r s' hr => by
            obtain ⟨c, rfl, hq⟩ := hr
            repeat (first | exact ⟨_, rfl, hq⟩ | exact wpAny_pure ⟨_, rfl, hq⟩ | (refine wpAny_bind (m := truthy (.bool _)) (wpAny_truthy_bool ?_)) | wp_step)) fun _ _ e => e)))
      | wp_step)
  have call_ne : wpAny (model prog w) A (PySem.call (.builtin "object.__ne__") [.ref x, b]) (fun v s' => ∃ c, v = .bool c ∧ Q (.bool c) s') E s := by
    refine wpAny_call (codeAny_call_builtin PySem.F.cmp_object.ne.plain PySem.F.cmpEntry_ne (PySem.W.check_slot PySem.F.cmpKind_ne PySem.F.cmpSplit_ne (I.type.andThen (PySem.W.looks_mroIn Xs hm)) (PySem.F.cmpArgs_ne _ _) (wpAny_mono inner (fun fin s' z => ?_) fun _ _ z => z)))
    obtain ⟨c, rfl, q⟩ := z
    exact ⟨c, rfl, q⟩
  have bound : wpAny (model prog w) A (callSpecialIfBound? (.ref x) (Str.ofString "__ne__") [b]) (fun r s' => ∃ c, r = some (.bool c) ∧ Q (.bool c) s') E s := by
    simp only [callSpecialIfBound?, bindSpecialIfBound?]
    refine wpAny_holding (wpAny_bind (wpAny_bind (wpAny_bind (I.type.here ((PySem.W.looks_findIn Xs hne).here ?_)))))
    simp only [PySem.F.cmp_object.ne.bind]
    refine wpAny_bind (wpAny_askSetting (wpAny_ite ?_))
    have fin : wpAny (model prog w) A (PySem.call (.builtin "object.__ne__") ([.ref x] ++ [b]) >>= fun v => pure (some v)) (fun r s' => ∃ c, r = some (.bool c) ∧ Q (.bool c) s') E s :=
      wpAny_bind (wpAny_mono call_ne (fun v s' z => by obtain ⟨c, rfl, q⟩ := z; exact wpAny_pure ⟨c, rfl, q⟩) fun _ _ z => z)
    split
    · exact wpAny_bind (wpAny_pure (wpAny_pure fin))
    · exact wpAny_tryCatch (wpAny_bind (wpAny_pure (wpAny_pure fin)))
  have one : wpAny (model prog w) A (tryCompare (.ref x) (cmpInfo .NotEq).2.1 b) (fun r s' => ∃ c, r = some (.bool c) ∧ Q (.bool c) s') E s := by
    unfold tryCompare
    refine wpAny_bind (wpAny_mono bound (fun r s' z => ?_) fun _ _ z => z)
    obtain ⟨c, rfl, q⟩ := z
    exact wpAny_pure ⟨c, rfl, q⟩
  unfold richCompare
  simp only [oneThing_ref]
  refine wpAny_holding (wpAny_bind (wpAny_cRoomFor (by omega) ?_))
  refine wpAny_bind (I.type.here (wpAny_bind (hb.here ?_)))
  have last : ∀ {k : Option Value → Sem Value}, (∀ c, k (some (.bool c)) = pure (.bool c)) → wpAny (model prog w) A (tryCompare (.ref x) (cmpInfo .NotEq).2.1 b >>= k) Q E s := fun {k} hk =>
    wpAny_bind (wpAny_mono one (fun r s' z => by obtain ⟨c, rfl, q⟩ := z; rw [hk]; exact wpAny_pure q) fun _ _ z => z)
  by_cases q : (Value.ref Cx != tb) = true
  · rw [if_pos q]
    have e : PySem.W.subIn K tb (.ref Cx) = some false := by
      rcases Bool.or_eq_true_iff.mp hn with e | e
      · rw [beq_iff_eq.mp e] at q; simp at q
      · exact beq_iff_eq.mp e
    refine wpAny_bind ((PySem.W.looks_subIn Xs e).here ?_)
    simp only [Bool.false_eq_true, if_false]
    exact last fun c => rfl
  · rw [if_neg q]
    refine wpAny_bind (wpAny_pure ?_)
    simp only [Bool.false_eq_true, if_false]
    exact last fun c => rfl
end BB
end
section
set_option Elab.async false
set_option linter.all false
set_option maxRecDepth 100000
set_option maxHeartbeats 4000000
/-! Comparisons. -/
namespace BB
open PySem PySem.Spec PyProof.Rows L2
variable {G : Gc} {C : Ck} {cl : Cal} {mk : Mak} {W : WS} {X : Cx} {Γ : Fr} {σ : L2.St} {H H' Hv : Hp} {Q : VK} {O : List Addr} {pins : List (Addr × Obj)} {s : Shared}
theorem Out.bindB {Wk : XK} {r : Res Bool} {f : Bool → Bool} (h : Out G O H Wk (r.bind fun x => .ok (.bl (f x))) Q) : r.wp (fun x => ∀ H', Grow G H H' → Dr G H' → Q (.bl (f x)) H') (Rst G O H Wk) :=
  Res.wp_mono (fun x q H' g d => q _ H' g d rfl) (fun _ _ q => q) (Res.wp_bind.mp h.2.2.2)
/-- == of two instances -/
theorem eq_inst (S : Sps G X.K) {k : Nat} (hr : Room (k + 1) X.A) (F : ∀ f, FnC G X k f (cl f)) {neg : Bool} {c c2 : Nat} {fs fs2 : List (Nat × D)} {x y : V} {v u : Value} (I : Inv X pins σ H s) (rx : RelV x v) (ry : RelV y u) (dx : Den G (hid O H) (.ins c fs) x) (dy : Den G (hid O H) (.ins c2 fs2) y)
    (hc2 : c2 < G.T.cls.length) {kc : Cl} (hk : G.T.cls[c]? = some kc) {f : Nat} (hf : kc.eq = some f) {b : Bool} (e : cl f [.ins c fs, .ins c2 fs2] = .ok (.bl b)) (ho : G.dr ∈ O) (hl : ∀ a ∈ O, ∃ o, H a = some o) (dr : Dr G H)
    (q : ∀ H', Grow G H H' → Dr G H' → Q (.bl (b != neg)) H') : wpAny (model X.prog X.w) X.A (compareOp (if neg then .NotEq else .Eq) v u) (EP X pins σ Q) X.xe s := by
  obtain ⟨a, ox, od, rfl, rfl, J⟩ := ins_at I dx rx
  obtain ⟨a2, ox2, od2, rfl, rfl, J2⟩ := ins_at I dy ry
  obtain ⟨m, hF⟩ := I.fr
  obtain ⟨h1, h2, h3, h4⟩ := S.eq1 c kc f hk hf
  have hc : c < G.T.cls.length := (List.getElem?_eq_some_iff.mp hk).1
  have rv : Vals [V.ref a, V.ref a2] [Value.ref a, Value.ref a2] := .cons rfl (.cons rfl .nil)
  have dl : DenL G (hid O H) [.ins c fs, .ins c2 fs2] [V.ref a, V.ref a2] := ⟨_, _, rfl, dx, .one dy⟩
  have un : X.A.units + 1 < cLine := by have := hr.un; omega
  cases neg with
  | false =>
    refine PySem.W.cmp_ofEq (PySem.W.cmp_K (op := .Eq) (by omega) hF I.ok.mod.kin J J2.type (S.nf c c2 hc hc2) h1 h2 (wpAny_mono (runD (Q := fun v H' => v = .bl b ∧ Q (.bl (b != false)) H') (F f) rfl (hr.mono (Nat.le_succ k)) I rv dl ho hl dr e fun v H' g d2 dv => ⟨dv, q H' g d2⟩) (fun r s' z => ?_) fun _ _ z => z))
    obtain ⟨w, H2, I2, r2, e2, q2⟩ := z
    subst e2
    cases r2
    exact ⟨.bl b, H2, I2, rfl, by rw [Bool.bne_false] at q2; exact q2⟩
  | true =>
    refine PySem.W.cmp_ofNotEq (ne_ins un hF I.ok.mod.kin J J2.type (S.nf c c2 hc hc2) h1 h2 h3 h4 (wpAny_mono (runD (Q := fun v H' => v = .bl b ∧ Q (.bl (b != true)) H') (A := X.A.in1) (F f) rfl hr.in1 I rv dl ho hl dr e fun v H' g d2 dv => ⟨dv, q H' g d2⟩) (fun r s' z => ?_) fun _ _ z => z))
    obtain ⟨w, H2, I2, r2, e2, q2⟩ := z
    subst e2
    cases r2
    exact ⟨b, rfl, .bl (!b), H2, I2, rfl, by rw [Bool.bne_true] at q2; exact q2⟩
theorem eqR_cases {T : Tb} {a b : D} {S : Bool → Prop} {R : Nat → Fs → Prop} (h : (eqR T cl a b).wp S R) :
    (plain a = true ∧ plain b = true ∧ S (eqv a b)) ∨ ∃ (c : Nat) (fs : Fs) (c2 : Nat) (fs2 : Fs) (kc : Cl) (f : Nat) (r : Bool), a = .ins c fs ∧ b = .ins c2 fs2 ∧ c2 < T.cls.length ∧ T.cls[c]? = some kc ∧ kc.eq = some f ∧ cl f [a, b] = .ok (.bl r) ∧ S r := by
  unfold eqR at h
  split at h
  · rename_i z
    exact .inl ⟨(ands z).1, (ands z).2, h⟩
  · split at h
    · rename_i c fs c2 fs2 _
      split at h
      · rename_i f e
        obtain ⟨kc, e1, e2⟩ := Option.bind_eq_some_iff.mp e
        split at h
        · rename_i hc
          split at h
          · rename_i r er
            exact .inr ⟨c, fs, c2, fs2, kc, f, r, rfl, rfl, by simpa using hc, e1, e2, er, h⟩
          · exact h.elim
        · exact h.elim
      · exact h.elim
    · exact h.elim
/-- a key is data -/
theorem kin_den {l : List (D × D)} {b : D} {y : V} (hk : keysOk l = true) (kin : kinOk l b = true) (vb : Vw G O H b y) : Den G (hid O H) b y := by
  rcases vb with k | ⟨p, _, _, k⟩
  · exact k
  · rcases kin_cases hk kin with ⟨_, z⟩ | ⟨_, z⟩ <;> (cases b <;> first | exact k.elim | exact absurd z (show ¬ (false = true) from Bool.noConfusion))
/-- in, not in -/
theorem in_any (RK : X.K = G.K) (hw : X.w = G.w) (hu : X.A.units + 100 < cLine) {a b : D} {x y : V} {v u : Value} (I : Inv X pins σ H s) (rx : RelV x v) (ry : RelV y u) (va : Vw G O H a x) (vb : Vw G O H b y) {neg : Bool} {R : Nat → Fs → Prop} (h : (isin a b).wp (fun t => Q (.bl (t != neg)) H) R) :
    wpAny (model X.prog X.w) X.A (compareOp (if neg then .NotIn else .In) v u) (EP X pins σ Q) X.xe s := by
  cases b <;> (first | exact h.elim | skip)
  · rename_i z
    cases a <;> (first | exact h.elim | skip)
    rename_i w
    have h : (if (w.cps.size == 1) = true then (.ok (z.cps.toList.any fun c => c == w.cps.getD 0 0) : Res Bool) else .stuck).wp (fun t => Q (.bl (t != neg)) H) R := h
    obtain ⟨hz, h⟩ := wp_if h
    have hz : w.cps.size = 1 := by simpa using hz
    obtain ⟨c, hc⟩ : ∃ c, w = ⟨#[c]⟩ := by
      obtain ⟨cps⟩ := w
      obtain ⟨l⟩ := cps
      match l, hz with
      | [c], _ => exact ⟨c, rfl⟩
    have e : (z.cps.toList.any fun c => c == w.cps.getD 0 0) = decide (c ∈ z.cps.toList) := by
      rw [hc]
      show (z.cps.toList.any fun d => d == c) = _
      induction z.cps.toList with
      | nil => rfl
      | cons d l ih =>
        rw [List.any_cons, ih]
        by_cases q : d = c
        · subst q; simp
        · have : ¬ c = d := fun e => q e.symm
          simp [q, this]
    have h : Q (.bl ((z.cps.toList.any fun c => c == w.cps.getD 0 0) != neg)) H := h
    rw [e] at h
    cases neg with
    | false => exact op_in_sign pins s σ H x y v u Q I rx ry ⟨c, z, by rw [va.str, hc], vb.str, by rw [Bool.bne_false] at h; exact h⟩
    | true => exact op_notIn_sign pins s σ H x y v u Q I rx ry ⟨c, z, by rw [va.str, hc], vb.str, by rw [Bool.bne_true] at h; exact h⟩
  · rename_i l
    have h : (if (plain a && plains l) = true then (.ok (l.any fun z => eqv z a) : Res Bool) else .stuck).wp (fun t => Q (.bl (t != neg)) H) R := h
    obtain ⟨hz, h⟩ := wp_if h
    obtain ⟨pa, pl⟩ := ands hz
    have da := vw_dp pa va
    have db := vw_dp (d := .tup l) pl vb
    rw [← RK] at da db
    obtain ⟨as, r1⟩ := Dp.reads I _ x v da rx
    obtain ⟨bs, r2⟩ := Dp.reads I _ y u db ry
    have h : Q (.bl ((l.any fun z => eqv z a) != neg)) H := h
    rw [← any_py pa pl] at h
    have ept : py (.tup l) = .tuple (pys l) := by unfold py; rfl
    rw [ept] at r2
    have sh := plains_shaped pl
    cases neg with
    | false => exact SeqAt.in_tuple_reads r2 r1 (SeqAt.canLay_of_shaped sh) (SeqAt.canLay_of_shaped (plain_shaped pa)) (room_in_shaped (plain_shaped pa) (by omega)) ⟨.bl _, H, I, rfl, by rw [Bool.bne_false] at h; exact h⟩
    | true => exact SeqAt.notIn_tuple_reads r2 r1 (SeqAt.canLay_of_shaped sh) (SeqAt.canLay_of_shaped (plain_shaped pa)) (room_in_shaped (plain_shaped pa) (by omega)) ⟨.bl _, H, I, rfl, by rw [Bool.bne_true] at h; exact h⟩
  · rename_i l
    have h : (if (plain a && plains l) = true then (.ok (l.any fun z => eqv z a) : Res Bool) else .stuck).wp (fun t => Q (.bl (t != neg)) H) R := h
    obtain ⟨hz, h⟩ := wp_if h
    obtain ⟨pa, pl⟩ := ands hz
    have da := vw_dp pa va
    have db := vw_dp (d := .lst l) pl vb
    rw [← RK] at da db
    have h : Q (.bl ((l.any fun z => eqv z a) != neg)) H := h
    rw [← any_py pa pl] at h
    have ept : py (.lst l) = .list (pys l) := by unfold py; rfl
    rw [ept] at db
    cases neg with
    | false => exact op_inD (by omega) pins s σ H x y v u Q I rx ry ⟨py a, pys l, da, db, plain_shaped pa, plains_shaped pl, by rw [Bool.bne_false] at h; exact h⟩
    | true => exact op_notInD (by omega) pins s σ H x y v u Q I rx ry ⟨py a, pys l, da, db, plain_shaped pa, plains_shaped pl, by rw [Bool.bne_true] at h; exact h⟩
  · rename_i l
    have h : (if kinOk l a = true then (.ok (dget l a).isSome : Res Bool) else .stuck).wp (fun t => Q (.bl (t != neg)) H) R := h
    obtain ⟨kin, h⟩ := wp_if h
    obtain ⟨d, rfl, dct⟩ := vb.dct'
    obtain rfl : u = Value.ref d := ry
    have h : Q (.bl ((dget l a).isSome != neg)) H := h
    have da := kin_den dct.ok.1 kin va
    cases neg with
    | false => exact dd_in RK hw (by omega) hid_le I dct kin da rx fun s' I' => ⟨.bl _, H, I', rfl, by rw [Bool.bne_false] at h; exact h⟩
    | true => exact dd_notIn RK hw (by omega) hid_le I dct kin da rx fun s' I' => ⟨.bl _, H, I', rfl, by rw [Bool.bne_true] at h; exact h⟩
theorem cmp_rule (S : Sps G X.K) (RK : X.K = G.K) (hw : X.w = G.w) {k : Nat} (hr : Room (k + 1) X.A) (F : ∀ f, FnC G X k f (cl f)) (op : Cop) : OpR X (compareOp (copOf op)) (rCmp G cl op) := by
  have hu : X.A.units + 100 < cLine := by have := hr.un; omega
  intro pins s σ H x y v u Q I rx ry q
  obtain ⟨O, W, a, b, va, vb, h⟩ := q
  cases op with
  | eq =>
    have w := h.bindB (r := eqR G.T cl a b) (f := fun x => x)
    rcases eqR_cases w with ⟨pa, pb, q⟩ | ⟨c, fs, c2, fs2, kc, f, r, rfl, rfl, hc2, e1, e2, er, q⟩
    · exact op_eqD (by omega) pins s σ H x y v u Q I rx ry ⟨py a, py b, by rw [RK]; exact vw_dp pa va, by rw [RK]; exact vw_dp pb vb, plain_shaped pa, plain_shaped pb, by rw [eqv_py (n := 60) (m := 60) pa pb]; exact q H (Grow.refl H) h.2.2.1⟩
    · exact eq_inst (neg := false) S hr F I rx ry va.ins vb.ins hc2 e1 e2 er h.1 h.2.1 h.2.2.1 fun H' g d => by rw [Bool.bne_false]; exact q H' g d
  | ne =>
    have w := h.bindB (r := eqR G.T cl a b) (f := fun x => !x)
    rcases eqR_cases w with ⟨pa, pb, q⟩ | ⟨c, fs, c2, fs2, kc, f, r, rfl, rfl, hc2, e1, e2, er, q⟩
    · exact op_neD (by omega) pins s σ H x y v u Q I rx ry ⟨py a, py b, by rw [RK]; exact vw_dp pa va, by rw [RK]; exact vw_dp pb vb, plain_shaped pa, plain_shaped pb, by rw [eqv_py (n := 60) (m := 60) pa pb]; exact q H (Grow.refl H) h.2.2.1⟩
    · exact eq_inst (neg := true) S hr F I rx ry va.ins vb.ins hc2 e1 e2 er h.1 h.2.1 h.2.2.1 fun H' g d => by rw [Bool.bne_true]; exact q H' g d
  | lt =>
    have h : Out G O H W (ofB (lt a b)) Q := h
    unfold lt at h
    by_cases z : (alikeD a b && plain a && plain b && !isNon a) = true
    · rw [if_pos z] at h
      obtain ⟨z, z4⟩ := ands z
      obtain ⟨z, pb⟩ := ands z
      obtain ⟨z1, pa⟩ := ands z
      have da := vw_dp pa va
      have db := vw_dp pb vb
      rw [← RK] at da db
      obtain ⟨as, r1⟩ := Dp.reads I _ x v da rx
      obtain ⟨bs, r2⟩ := Dp.reads I _ y u db ry
      have dep := (pdn_py (n := 60) pa).2
      have rc := PySem.W.rcLt_alike (py a) (py b) X.A s v u as bs r1 r2 (alike_py z1) (fun e => by cases a <;> first | exact absurd z4 (show ¬ (false = true) from Bool.noConfusion) | exact absurd pa (show ¬ (false = true) from Bool.noConfusion) | (unfold py at e; cases e)) (by have := Nat.min_le_left (py a).depth (py b).depth; omega)
      rw [lt_py (n := 60) (m := 60) z1 pa pb] at rc
      exact rc X.prog X.w X.xe _ ⟨.bl _, H, I, rfl, h.ok rfl⟩
    · rw [if_neg z] at h; exact h.no.elim
  | gt =>
    cases a <;> cases b <;> (first | exact h.no.elim | skip)
    exact op_gt pins s σ H x y v u Q I rx ry ⟨_, _, va.int, vb.int, h.ok rfl⟩
  | le =>
    cases a <;> cases b <;> (first | exact h.no.elim | skip)
    exact op_le pins s σ H x y v u Q I rx ry ⟨_, _, va.int, vb.int, h.ok rfl⟩
  | ge =>
    cases a <;> cases b <;> (first | exact h.no.elim | skip)
    exact op_ge pins s σ H x y v u Q I rx ry ⟨_, _, va.int, vb.int, h.ok rfl⟩
  | isN =>
    cases b <;> (first | exact h.no.elim | skip)
    refine op_isN pins s σ H x y v u Q I rx ry ⟨vb.non, ?_⟩
    rw [vw_non va]
    have h : Out G O H W (.ok (.bl (isNon a))) Q := by cases a <;> exact h
    exact h.ok rfl
  | notN =>
    cases b <;> (first | exact h.no.elim | skip)
    refine op_notN pins s σ H x y v u Q I rx ry ⟨vb.non, ?_⟩
    rw [vw_non va]
    have h : Out G O H W (.ok (.bl (!isNon a))) Q := by cases a <;> exact h
    exact h.ok rfl
  | isin =>
    have w := h.bindB (r := isin a b) (f := fun x => x)
    exact in_any RK hw hu I rx ry va vb (neg := false) (Res.wp_mono (fun x q => by rw [Bool.bne_false]; exact q H (Grow.refl H) h.2.2.1) (fun _ _ q => q) w)
  | notin =>
    have w := h.bindB (r := isin a b) (f := fun x => !x)
    exact in_any RK hw hu I rx ry va vb (neg := true) (Res.wp_mono (fun x q => by rw [Bool.bne_true]; exact q H (Grow.refl H) h.2.2.1) (fun _ _ q => q) w)
end BB
end
section
set_option Elab.async false
set_option linter.all false
set_option maxRecDepth 100000
set_option maxHeartbeats 4000000
/-! Built-ins of one or two values. -/
namespace BB
open PySem PySem.Spec PyProof.Rows L2
variable {G : Gc} {C : Ck} {cl : Cal} {mk : Mak} {W : WS} {X : Cx} {Γ : Fr} {σ : L2.St} {H H' Hv : Hp} {Q : VK} {O : List Addr} {pins : List (Addr × Obj)} {s : Shared}
theorem VwL.one {l : List D} {vs : List V} {d : D} (h : VwL G O H [d] vs) : ∃ v, vs = [v] ∧ Vw G O H d v := by
  obtain ⟨v, r, rfl, h1, h2⟩ := h
  exact ⟨v, by rw [show r = [] from h2], h1⟩
theorem VwL.two {vs : List V} {d e : D} (h : VwL G O H [d, e] vs) : ∃ v u, vs = [v, u] ∧ Vw G O H d v ∧ Vw G O H e u := by
  obtain ⟨v, r, rfl, h1, h2⟩ := h
  obtain ⟨u, rfl, h3⟩ := VwL.one (l := []) h2
  exact ⟨v, u, rfl, h1, h3⟩
theorem biop_len {b : Bi} {ds : List D} {S : D → Prop} {R : Nat → Fs → Prop} (h : (biop b ds).wp S R) : (∃ a, ds = [a]) ∨ ∃ a c, ds = [a, c] := by
  match ds, h with
  | [], h => cases b <;> exact h.elim
  | [a], _ => exact .inl ⟨a, rfl⟩
  | [a, c], _ => exact .inr ⟨a, c, rfl⟩
  | a :: c :: d :: r, h => cases b <;> cases a <;> first | exact h.elim | (cases c <;> exact h.elim)
theorem len_rule (RK : X.K = G.K) : CallR X (.builtin "len") (rBi G .len) := by
  intro pins s σ H xs us Q I r h
  obtain ⟨O, W, ds, vw, h⟩ := h
  rcases biop_len h.2.2.2 with ⟨a, rfl⟩ | ⟨a, c, rfl⟩
  · obtain ⟨x, rfl, va⟩ := VwL.one (l := []) vw
    change Out G O H W (match lenD a with | some n => .ok (.int n) | none => .stuck) Q at h
    cases a with
    | str z =>
      change Out G O H W (match (if Nat.ble z.cps.size big then some z.cps.size else none) with | some n => .ok (.int n) | none => .stuck) Q at h
      cases e : Nat.ble z.cps.size big with
      | false => rw [e] at h; exact h.no.elim
      | true =>
        rw [e] at h
        exact call_len_str pins s σ H [x] us Q I r ⟨z, by rw [va.str], by rw [← big_line]; exact Nat.le_of_ble_eq_true e, h.ok rfl⟩
    | tup l =>
      obtain ⟨t, vs, rfl, q1, d1⟩ := va.tup
      rw [← RK] at q1
      exact call_len_seq pins s σ H _ us Q I r ⟨t, vs, rfl, .inr q1, by rw [d1.length]; exact h.ok rfl⟩
    | lst l =>
      obtain ⟨t, vs, rfl, q1, d1⟩ := va.lst
      exact call_len_seq pins s σ H _ us Q I r ⟨t, vs, rfl, .inl ((.inl q1)), by rw [d1.length]; exact h.ok rfl⟩
    | dct l =>
      obtain ⟨t, rfl, dct⟩ := va.dct'
      obtain ⟨u, rfl, rx⟩ := vals1 r
      obtain rfl : u = Value.ref t := rx
      obtain ⟨es, ep, raw, hl, fit, _⟩ := dct.raw I
      exact Calls.call_function_entry kind_len plain_len entry_len (args_len1 _) (len_body_raw dct.sys raw fit ⟨.int l.length, H, I.tok _, ⟨_, by rw [hl]⟩, h.ok rfl⟩)
    | _ => exact h.no.elim
  · exact h.no.elim
theorem bool_rule : CallR X (.type "bool") (rBi G .bool) := by
  intro pins s σ H xs us Q I r h
  obtain ⟨O, W, ds, vw, h⟩ := h
  rcases biop_len h.2.2.2 with ⟨a, rfl⟩ | ⟨a, c, rfl⟩
  · obtain ⟨x, rfl, va⟩ := VwL.one (l := []) vw
    cases a with
    | int i => exact call_bool1 pins s σ H _ us Q I r (.inl ⟨i, by rw [va.int], h.ok rfl⟩)
    | bl b => exact call_bool1 pins s σ H _ us Q I r (.inr ⟨b, by rw [va.bl], h.ok rfl⟩)
    | lst l =>
      obtain ⟨t, vs, rfl, q1, d1⟩ := va.lst
      have e : (!l.isEmpty) = !vs.isEmpty := by
        have := d1.length
        cases l <;> cases vs <;> first | rfl | (simp at this)
      refine call_boolL pins s σ H _ us Q I r ⟨t, vs, rfl, (.inl q1), ?_⟩
      rw [← e]
      exact h.ok rfl
    | _ => exact h.no.elim
  · exact (show False by cases a <;> exact h.no).elim
theorem int_rule : CallR X (.type "int") (rBi G .int) := by
  intro pins s σ H xs us Q I r h
  obtain ⟨O, W, ds, vw, h⟩ := h
  rcases biop_len h.2.2.2 with ⟨a, rfl⟩ | ⟨a, c, rfl⟩
  · obtain ⟨x, rfl, va⟩ := VwL.one (l := []) vw
    cases a with
    | int i => exact call_int1 pins s σ H _ us Q I r (.inl ⟨i, by rw [va.int], h.ok rfl⟩)
    | bl b => exact call_int1 pins s σ H _ us Q I r (.inr ⟨b, by rw [va.bl], h.ok rfl⟩)
    | _ => exact h.no.elim
  · exact (show False by cases a <;> exact h.no).elim
theorem min2_rule (hc : X.calm = true) : CallR X (.builtin "min") (rBi G .min2) := by
  intro pins s σ H xs us Q I r h
  obtain ⟨O, W, ds, vw, h⟩ := h
  rcases biop_len h.2.2.2 with ⟨a, rfl⟩ | ⟨a, c, rfl⟩
  · exact (show False by cases a <;> exact h.no).elim
  · obtain ⟨x, y, rfl, va, vb⟩ := VwL.two vw
    cases a <;> cases c <;> (first | exact h.no.elim | skip)
    exact call_min2 hc pins s σ H _ us Q I r ⟨_, _, by rw [va.int, vb.int], h.ok rfl⟩
theorem max2_rule (hc : X.calm = true) : CallR X (.builtin "max") (rBi G .max2) := by
  intro pins s σ H xs us Q I r h
  obtain ⟨O, W, ds, vw, h⟩ := h
  rcases biop_len h.2.2.2 with ⟨a, rfl⟩ | ⟨a, c, rfl⟩
  · exact (show False by cases a <;> exact h.no).elim
  · obtain ⟨x, y, rfl, va, vb⟩ := VwL.two vw
    cases a <;> cases c <;> (first | exact h.no.elim | skip)
    exact call_max2 hc pins s σ H _ us Q I r ⟨_, _, by rw [va.int, vb.int], h.ok rfl⟩
theorem bi_rule (RK : X.K = G.K) (hc : X.calm = true) (b : Bi) : (∃ id, bootBuiltins (bNames b) = some (.builtin id) ∧ CallR X (.builtin id) (rBi G b)) ∨ (∃ t, bootBuiltins (bNames b) = some (.type t) ∧ CallR X (.type t) (rBi G b)) := by
  cases b with
  | len => exact .inl ⟨"len", by kernel_rfl, len_rule RK⟩
  | bool => exact .inr ⟨"bool", by kernel_rfl, bool_rule⟩
  | int => exact .inr ⟨"int", by kernel_rfl, int_rule⟩
  | min2 => exact .inl ⟨"min", by kernel_rfl, min2_rule hc⟩
  | max2 => exact .inl ⟨"max", by kernel_rfl, max2_rule hc⟩
end BB
end
section
set_option Elab.async false
set_option linter.all false
set_option maxRecDepth 100000
set_option maxHeartbeats 4000000
/-! isinstance. -/
namespace BB
open PySem PySem.Spec PyProof.Rows L2
variable {G : Gc} {C : Ck} {cl : Cal} {mk : Mak} {W : WS} {X : Cx} {Γ : Fr} {σ : L2.St} {H H' Hv : Hp} {Q : VK} {O : List Addr} {pins : List (Addr × Obj)} {s : Shared}
def tyD (G : Gc) : D → Value
  | .non => .type "NoneType" | .bl _ => .type "bool" | .int _ => .type "int" | .str _ => .type "str" | .tup _ => .type "tuple" | .lst _ => .type "list" | .dct _ => .type "dict"
  | .ins c _ => .ref (G.cad c) | .me c _ => .ref (G.cad c) | .draw => .type "list"
def tyV (G : Gc) : Ty → Value
  | .int => .type "int" | .bool => .type "bool" | .str => .type "str" | .lst => .type "list" | .tup => .type "tuple" | .dct => .type "dict" | .cls c => .ref (G.cad c)
def tyW (G : Gc) : Ty → V
  | .int => .ty "int" | .bool => .ty "bool" | .str => .ty "str" | .lst => .ty "list" | .tup => .ty "tuple" | .dct => .ty "dict" | .cls c => .ref (G.cad c)
/-- the text's classes, as isinstance sees them -/
structure Isi (G : Gc) (C : Ck) (K : PySem.W.Frag) (mg : PySem.Str → Option Value) : Prop where
  lt : ∀ x c, C.cls.lookup x = some c → c < G.T.cls.length
  cls : ∀ x c, C.cls.lookup x = some c → mg x = some (.ref (G.cad c))
  free : ∀ x, C.free.contains x = true → mg x = none
  own : ∀ c, c < G.T.cls.length → Cls K (G.cad c) ∧ PySem.W.findIn K (.ref (G.cad c)) "__class__" = some (some (.builtin "object.__class__")) ∧ PySem.W.specialIn K (.builtin "object.__class__") "__get__" = some (some (.builtin "getset_descriptor.__get__")) ∧
    PySem.W.takesIn K (.builtin "object.__class__") = some true ∧ PySem.W.mroIn K (G.cad c) (.type "object") = some true
  one : ∀ (a : D) (t : Ty), isiOk G.T a = true → (∀ c, t = .cls c → c < G.T.cls.length) → PySem.W.kitOne K (tyD G a) (tyV G t) = some (isTy t a)
theorem kit_D (S : Isi G C X.K X.mg) (RK : X.K = G.K) {a : D} {x : V} {u : Value} (I : Inv X pins σ H s) (rx : RelV x u) (va : Vw G O H a x) (ok : isiOk G.T a = true) : ∃ P : Heap → Prop, PySem.W.KitX X.K u (tyD G a) P ∧ P s.heap ∧ u ≠ .builtin "__main__.__loader__#opaque" := by
  have inst : ∀ {c : Nat} {b dx : Addr} {gs : List (PySem.Str × V)}, c < G.T.cls.length → H b = some (.ins (G.cad c) dx gs) → ∃ P : Heap → Prop, PySem.W.KitX X.K (.ref b) (.ref (G.cad c)) P ∧ P s.heap ∧ Value.ref b ≠ .builtin "__main__.__loader__#opaque" := fun {c b dx gs} hc e => by
    obtain ⟨k, ha, hn, htk, hm⟩ := S.own c hc
    obtain ⟨mA, J, _⟩ := ins_get I.hok e
    obtain ⟨od, J, _⟩ := J.look
    exact ⟨_, PySem.W.kitx_own (k.get _) k.hd ha hn htk hm, J, fun z => nomatch z⟩
  cases a with
  | non => rw [va.non] at rx; obtain rfl : u = Value.none := rx; exact ⟨_, PySem.W.kitx_none, True.intro, fun z => nomatch z⟩
  | bl b => rw [va.bl] at rx; obtain rfl : u = Value.bool b := rx; exact ⟨_, PySem.W.kitx_bool, True.intro, fun z => nomatch z⟩
  | int i => rw [va.int] at rx; obtain ⟨t, rfl⟩ : ∃ t, u = Value.int i t := rx; exact ⟨_, PySem.W.kitx_int, True.intro, fun z => nomatch z⟩
  | str y => rw [va.str] at rx; obtain ⟨t, rfl⟩ : ∃ t, u = Value.str y t := rx; exact ⟨_, PySem.W.kitx_str, True.intro, fun z => nomatch z⟩
  | tup l =>
    obtain ⟨t, vs, rfl, q1, d1⟩ := va.tup
    obtain rfl : u = Value.ref t := rx
    rw [← RK] at q1
    obtain ⟨its, r, ⟨o, h1, h2, n, h3⟩, _⟩ := I.tuple q1
    exact ⟨_, PySem.W.kitx_tuple, ⟨o, h1, h2⟩, fun z => nomatch z⟩
  | lst l =>
    obtain ⟨t, vs, rfl, q1, d1⟩ := va.lst
    obtain rfl : u = Value.ref t := rx
    obtain ⟨its, r, ⟨o, n, h1, h2, h3⟩, _⟩ := I.list (.inl q1)
    exact ⟨_, PySem.W.kitx_list, ⟨o, h1, h2⟩, fun z => nomatch z⟩
  | dct l =>
    obtain ⟨t, rfl, dct⟩ := va.dct'
    obtain rfl : u = Value.ref t := rx
    obtain ⟨o, es, ep, h1, h2, h3, _⟩ := dct.obj I
    exact ⟨_, PySem.W.kitx_dict, ⟨o, h1, h2.1⟩, fun z => nomatch z⟩
  | ins c fs =>
    obtain ⟨_, b, dx, gs, rfl, e, _⟩ := va.ins'
    obtain rfl : u = Value.ref b := rx
    exact inst (by simpa [isiOk] using ok) e
  | me c fs => exact absurd ok (show ¬ (false = true) from Bool.noConfusion)
  | draw => exact absurd ok (show ¬ (false = true) from Bool.noConfusion)
theorem tyB_name {sc : Scope} {t : Ty} {e : Ex} (h : tyB C sc t e = true) : ∃ x p, e = .Name x p := by
  cases e <;> first | exact ⟨_, _, rfl⟩ | (cases t <;> exact absurd h (show ¬ (false = true) from Bool.noConfusion))
/-- the name of a type -/
theorem pe_tyB (S : Isi G C X.K X.mg) {t : Ty} {e : Ex} {sc : Scope} (hs : X.env.scope = sc) (h : tyB C sc t e = true) : PE X e (fun _ H Q => Q (tyW G t) H) ∧ (∀ c, t = .cls c → c < G.T.cls.length) ∧ isStar e = false := by
  obtain ⟨x, p, rfl⟩ := tyB_name h
  subst hs
  have bt : ∀ {x : PySem.Str} {n : String} {c : PySem.Str}, (x == c && glB X.env.scope x && C.free.contains x) = true → bootBuiltins c = some (.type n) → c ≠ "__name__" → (c == ("__debug__" : PySem.Str)) = false → PE X (.Name x p) (fun _ H Q => Q (.ty n) H) := fun {x n c} h hb hn hd => by
    obtain ⟨h1, h3⟩ := ands h
    obtain ⟨h1, h2⟩ := ands h1
    have ex : x = c := by simpa using h1
    subst ex
    exact pe_bltn (gl_of h2) (S.free _ h3) hb rfl hn hd
  cases t with
  | int => exact ⟨bt (c := "int") h (by kernel_rfl) (by decide) (by decide), fun c e => (by cases e), rfl⟩
  | bool => exact ⟨bt (c := "bool") h (by kernel_rfl) (by decide) (by decide), fun c e => (by cases e), rfl⟩
  | str => exact ⟨bt (c := "str") h (by kernel_rfl) (by decide) (by decide), fun c e => (by cases e), rfl⟩
  | lst => exact ⟨bt (c := "list") h (by kernel_rfl) (by decide) (by decide), fun c e => (by cases e), rfl⟩
  | tup => exact ⟨bt (c := "tuple") h (by kernel_rfl) (by decide) (by decide), fun c e => (by cases e), rfl⟩
  | dct => exact ⟨bt (c := "dict") h (by kernel_rfl) (by decide) (by decide), fun c e => (by cases e), rfl⟩
  | cls c =>
    obtain ⟨h1, h3⟩ := ands (show (glB X.env.scope x && okName x && decide (C.cls.lookup x = some c)) = true from h)
    obtain ⟨h1, h2⟩ := ands h1
    have hc := of_decide_eq_true h3
    exact ⟨pe_glob (v := .ref (G.cad c)) (gl_of h1) (S.cls x c hc) rfl (name_of h2).1, fun d e => (by cases e; exact S.lt x c hc), rfl⟩
theorem tyW_is (t : Ty) : ClsV (tyW G t) (tyV G t) := by cases t <;> first | exact .ty _ | exact .own _
/-- a reading made monotone -/
def up (t : TE) : TE := fun σ H Q => ∃ K : VK, t σ H K ∧ ∀ x H1, K x H1 → Q x H1
theorem pe_up {e : Ex} {t : TE} (h : PE X e t) : PE X e (up t) := ⟨fun pins s σ H Q I ⟨K, hk, hq⟩ => thn (h.run pins s σ H K I hk) fun v s1 ⟨x, H1, I1, r, q⟩ => ⟨x, H1, I1, r, hq x H1 q⟩⟩
theorem isi_rule (S : Isi G C X.K X.mg) (RK : X.K = G.K) (ts : List Ty) (v t : Ex) (p1 p : Pos) (tv : TE) (sc : Scope) (hs : X.env.scope = sc) (hv : PE X v tv) (ht : tysB C sc ts t = true) (hg : glB sc "isinstance" = true) (hf : C.free.contains "isinstance" = true) (hst : isStar v = false) :
    PE X (.Call (.Name "isinstance" p1) [v, t] [] p) (fun σ H Q => tv σ H fun x H1 => ∃ O a, G.dr ∈ O ∧ Vw G O H1 a x ∧ isiOk G.T a = true ∧ Dr G H1 ∧ ∀ H2, Grow G H1 H2 → Dr G H2 → Q (.bl (ts.any fun t => isTy t a)) H2) := by
  have hm := S.free _ hf
  have hgl : Gl X "isinstance" := gl_of (by rw [hs]; exact hg)
  have rel : CallR X (.builtin "isinstance") (fun xs H Q => ∃ x c, xs = [x, c] ∧ ∃ O a, Vw G O H a x ∧ isiOk G.T a = true ∧ ((∃ t, ts = [t] ∧ (∀ c, t = .cls c → c < G.T.cls.length) ∧ c = tyW G t) ∨ ∃ t1 t2 tp, ts = [t1, t2] ∧ (∀ c, t1 = .cls c → c < G.T.cls.length) ∧ (∀ c, t2 = .cls c → c < G.T.cls.length) ∧ c = .ref tp ∧ H tp = some (.tup [tyW G t1, tyW G t2])) ∧ Q (.bl (ts.any fun t => isTy t a)) H) := by
    intro pins s σ H xs us Q I r h
    obtain ⟨x, c, rfl, O, a, va, ok, hc, q⟩ := h
    obtain ⟨u1, u2, rfl, r1, r2⟩ := vals2 r
    obtain ⟨P, Z, pp, hx⟩ := kit_D S RK I r1 va ok
    rcases hc with ⟨t, rfl, lt, rfl⟩ | ⟨t1, t2, tp, rfl, l1, l2, rfl, hT⟩
    · have e2 := (tyW_is t).eq r2
      subst e2
      refine PySem.W.kia_one Z I.kIn pp (S.one a t ok lt) hx fun tk => ⟨.bl _, H, I.tok tk, ?_, q⟩
      simp only [List.any_cons, List.any_nil, Bool.or_false]
      rfl
    · obtain rfl : u2 = Value.ref tp := r2
      obtain ⟨_, its, rv, o, h1, h2, n, h3⟩ := (show ObjOk X.prog X.w H s.heap tp (.tup [tyW G t1, tyW G t2]) from I.hok tp _ hT)
      have e3 := ClsV.all (.cons (tyW_is t1) (.cons (tyW_is t2) .nil)) rv
      subst e3
      obtain ⟨oc, od, dt, sl⟩ := o
      simp only at h2 h3
      subst h2 h3
      have ka : PySem.W.kitAny X.K (tyD G a) [tyV G t1, tyV G t2] = some ([t1, t2].any fun t => isTy t a) := by
        have k2 : PySem.W.kitAny X.K (tyD G a) [tyV G t2] = some (isTy t2 a) := by
          unfold PySem.W.kitAny
          rw [S.one a t2 ok l2]
          cases isTy t2 a <;> rfl
        unfold PySem.W.kitAny
        rw [S.one a t1 ok l1]
        cases h1 : isTy t1 a with
        | true => simp [h1]
        | false =>
          show PySem.W.kitAny X.K (tyD G a) [tyV G t2] = _
          rw [k2]
          simp [h1]
      exact PySem.W.kia_tup Z I.kIn pp h1 ka hx fun tk => ⟨.bl _, H, I.tok tk, rfl, q⟩
  match ts, t, ht with
  | [t0], .Name x p2, ht =>
    obtain ⟨h1, h2, h3⟩ := pe_tyB S hs (show tyB C sc t0 (.Name x p2) = true from ht)
    refine (pe_callB rel hgl hm (by kernel_rfl) (pa_cons (pe_up hv) (pa_cons h1 pa_nil (star_cons h3)) (star_cons hst)) (by decide) (by decide) (star_cons hst) (back_any (star_all (by rw [List.any_cons, h3]; rfl)))).imp fun σ H Q q => ?_
    refine ⟨_, q, fun x H1 ⟨O, a, ho, va, ok, dr, q⟩ => ?_⟩
    exact ⟨x, _, rfl, O, a, va, ok, .inl ⟨t0, rfl, h2, rfl⟩, q H1 (Grow.refl H1) dr⟩
  | [t1, t2], .Tuple [a, b] k p2, ht =>
    obtain ⟨hta, htb⟩ := ands (show (tyB C sc t1 a && tyB C sc t2 b) = true from ht)
    obtain ⟨h1, l1, s1⟩ := pe_tyB S hs hta
    obtain ⟨h2, l2, s2⟩ := pe_tyB S hs htb
    have ptup := pe_tup (x1 := k) (pos := p2) (pa_cons h1 (pa_cons h2 pa_nil (star_cons s2)) (star_cons s1))
    refine (pe_callB rel hgl hm (by kernel_rfl) (pa_cons (pe_up hv) (pa_cons ptup pa_nil rfl) (star_cons hst)) (by decide) (by decide) (star_cons hst) (back_any rfl)).imp fun σ H Q q => ?_
    refine ⟨_, q, fun x H1 ⟨O, a, ho, va, ok, dr, q⟩ => ?_⟩
    refine ⟨by rw [sizeLine_eq]; exact (by decide : 2 ≤ 16777216), fun tp hp => ?_⟩
    exact ⟨x, .ref tp, rfl, O, a, va.grow (Grow.new hp) ho, ok, .inr ⟨t1, t2, tp, rfl, l1, l2, rfl, upd_same⟩, q _ (Grow.new hp) (dr_new dr hp)⟩
end BB
end
section
set_option Elab.async false
set_option linter.all false
set_option maxRecDepth 100000
set_option maxHeartbeats 4000000
/-! Methods of lists and dicts that change nothing. -/
namespace BB
open PySem PySem.Spec PyProof.Rows L2
variable {G : Gc} {C : Ck} {cl : Cal} {mk : Mak} {W : WS} {X : Cx} {Γ : Fr} {σ : L2.St} {H H' Hv : Hp} {Q : VK} {O : List Addr} {pins : List (Addr × Obj)} {s : Shared}
theorem firstAt_py {d : D} (hd : plain d = true) : ∀ {l : List D} {n k : Nat}, plains l = true → firstAt d l n = some k → ∃ j z, k = n + j ∧ (pys l)[j]? = some z ∧ PyData.eqv z (py d) = true ∧ ∀ m z', m < j → (pys l)[m]? = some z' → PyData.eqv z' (py d) = false
  | [], _, _, _, e => by cases e
  | a :: l, n, k, h, e => by
    obtain ⟨h1, h2⟩ := ands (show (pdn 59 a && pdns 59 l) = true from h)
    have ev := eqv_py (n := 59) (m := 60) h1 hd
    have e : (if eqv a d then some n else firstAt d l (n + 1)) = some k := e
    have ep : pys (a :: l) = py a :: pys l := by simp only [pys]
    rw [ep]
    cases q : eqv a d with
    | true =>
      rw [q, if_pos rfl] at e
      cases e
      exact ⟨0, py a, rfl, rfl, by rw [ev, q], fun m z' hm => absurd hm (Nat.not_lt_zero m)⟩
    | false =>
      rw [q, if_neg Bool.noConfusion] at e
      obtain ⟨j, z, e1, e2, e3, e4⟩ := firstAt_py hd h2 e
      refine ⟨j + 1, z, by omega, e2, e3, fun m z' hm hz => ?_⟩
      cases m with
      | zero => cases hz; rw [ev, q]
      | succ m => exact e4 m z' (by omega) hz
theorem bmop_one {m : Bm} {a : D} {ds : List D} {S : D → Prop} {R : Nat → Fs → Prop} (hc : bmChk m a = true) (h : (bmop m a ds).wp S R) : (∃ d, ds = [d]) ∨ ∃ d e, ds = [d, e] := by
  match ds with
  | [d] => exact .inl ⟨d, rfl⟩
  | [d, e] => exact .inr ⟨d, e, rfl⟩
  | [] => cases m <;> cases a <;> exact h.elim
  | _ :: _ :: _ :: _ => cases m <;> cases a <;> exact h.elim
/-- the method by values -/
theorem bm_val (RK : X.K = G.K) (hw : X.w = G.w) (hu : X.A.units + 100 < cLine) {m : Bm} {a : D} {x : V} {v : Value} {vs : List V} {us : List Value} (I : Inv X pins σ H s) (rx : RelV x v) (rv : Vals vs us) (h : rBm G m a x vs H Q) (hc2 : bmChk m a = true) :
    wpAny (model X.prog X.w) X.A (PySem.call (.builtin (match m with | .index => "list.index" | .count => "list.count" | .get1 => "dict.get" | .get2 => "dict.get")) (v :: us)) (EP X pins σ Q) X.xe s := by
  obtain ⟨O, W, ds, va, vw, hd, h⟩ := h
  rcases bmop_one hc2 h.2.2.2 with ⟨d, rfl⟩ | ⟨d, e, rfl⟩
  · obtain ⟨y, rfl, vd⟩ := VwL.one (l := []) vw
    obtain ⟨u, rfl, ry⟩ := vals1 rv
    cases m with
    | index =>
      cases a <;> (first | exact absurd hc2 (show ¬ (false = true) from Bool.noConfusion) | skip)
      rename_i l
      change Out G O H W (if plain d && plains l then Res.ofOpt ((firstAt d l 0).map fun n => .int n) else .stuck) Q at h
      obtain ⟨hp, h⟩ := h.cond
      obtain ⟨pd, pl⟩ := ands hp
      cases e : firstAt d l 0 with
      | none => rw [e] at h; exact h.no.elim
      | some k =>
        rw [e] at h
        obtain ⟨j, z, e1, e2, e3, e4⟩ := firstAt_py pd pl e
        obtain ⟨t, xs, rfl, q1, d1⟩ := va.lst
        have dl := vw_dp (d := .lst l) pl va
        have dd := vw_dp pd vd
        have ept : py (.lst l) = .list (pys l) := by unfold py; rfl
        rw [ept] at dl
        rw [← RK] at dl dd
        refine mt_indexD (by omega) pins s σ H _ _ v _ Q I rx (.cons ry .nil) ⟨t, y, py d, pys l, j, z, rfl, rfl, dl, dd, plains_shaped pl, plain_shaped pd, e2, e3, e4, ?_⟩
        have : k = j := by omega
        rw [← this]
        exact h.ok rfl
    | count => cases a <;> exact absurd hc2 (show ¬ (false = true) from Bool.noConfusion)
    | get1 =>
      cases a <;> (first | exact absurd hc2 (show ¬ (false = true) from Bool.noConfusion) | skip)
      rename_i l
      change Out G O H W (if kinOk l d then .ok ((dget l d).getD .non) else .stuck) Q at h
      obtain ⟨kin, h⟩ := h.cond
      obtain ⟨t, rfl, dct⟩ := va.dct'
      obtain rfl : v = Value.ref t := rx
      exact dd_get1 RK hw (by omega) hid_le I dct kin (kin_den dct.ok.1 kin vd) ry fun w' vv s' I' r' d' => ⟨vv, H, I', r', h.ok d'⟩
    | get2 => cases a <;> exact h.no.elim
  · obtain ⟨y, z, rfl, vd, ve⟩ := VwL.two vw
    obtain ⟨u, u2, rfl, ry, rz⟩ := vals2 rv
    cases m with
    | get2 =>
      cases a <;> (first | exact absurd hc2 (show ¬ (false = true) from Bool.noConfusion) | skip)
      rename_i l
      change Out G O H W (if kinOk l d then .ok ((dget l d).getD e) else .stuck) Q at h
      obtain ⟨kin, h⟩ := h.cond
      obtain ⟨t, rfl, dct⟩ := va.dct'
      obtain rfl : v = Value.ref t := rx
      obtain ⟨y', r1, e1, dy, y2, r2, e2, dz, e3⟩ := hd rfl
      cases e1
      cases e2
      exact dd_get2 RK hw (by omega) hid_le I dct kin dy ry rz dz fun w' vv s' I' r' d' => ⟨vv, H, I', r', h.ok d'⟩
    | _ => cases a <;> exact h.no.elim
theorem few_of {es : List Ex} {env : PySem.Env} {cpos : Pos} (hs : es.any isStar = false) (hl : es.length < 20) : ((backTo cpos (starEach es env)).all (fun x => !x.1) && (backToKw cpos (keywordEach [] env)).all (fun x => x.1.isSome) && decide (es.length + ([] : List Keyword).length + (if ([] : List Keyword).isEmpty then 0 else 1) < 30)) = true := by
  have h1 : (backTo cpos (starEach es env)).all (fun x => !x.1) = true := by
    have := back_any (pos := cpos) (star_all (env := env) hs)
    rw [List.any_eq_false] at this
    rw [List.all_eq_true]
    intro x hx
    have := this x hx
    simpa using this
  rw [h1]
  simp [backToKw, keywordEach]
  omega
theorem bm_rule (RK : X.K = G.K) (hw : X.w = G.w) (hu : X.A.units + 100 < cLine) (m : Bm) (o : Ex) (l : List Ex) (ap p : Pos) (to : TE) (ta : TA) (ho : PE X o to) (hta : PA X l ta) (hat : attOk o = true) (h6 : oneLine ap p = true) (hst : l.any isStar = false) (hl : l.length < 20) (hne : l ≠ []) :
    PE X (.Call (.Attribute o (mNames m) ap) l [] p) (fun σ H Q => to σ H fun x H1 => ∃ O a, Vw G O H1 a x ∧ bmChk m a = true ∧ ta σ H1 fun vs H2 => rBm G m a x vs H2 Q) := by
  cases l with
  | nil => exact absurd rfl hne
  | cons e es =>
    have hst' := hst
    rw [List.any_cons, Bool.or_eq_false_iff] at hst'
    refine ⟨fun pins s σ H Q I h => ?_⟩
    refine wpAny_Call_method_late (att_base hat) (few_of hst hl) h6 rfl (thn (ho.run pins s σ H _ I h) fun v s1 ⟨x, H1, I1, r1, O, a, va, hc, q1⟩ => ?_)
    have hA := hta.run p pins s1 σ H1 _ I1 q1
    rw [star_cons hst'.1] at hA ⊢
    have fin : ∀ id, (∀ us s2 vs H2, Inv X pins σ H2 s2 → Vals vs us → rBm G m a x vs H2 Q → wpAny (model X.prog X.w) X.A (PySem.call (.builtin id) (v :: us)) (EP X pins σ Q) X.xe s2) → wpAny (model X.prog X.w) X.A (callWith p (.builtin id) [v] (backTo p ((false, eval e X.env) :: starEach es X.env)) (backToKw p (keywordEach [] X.env))) (EP X pins σ Q) X.xe s1 := fun id k =>
      Calls.callWith_builtin (by show (false || (backTo p (starEach es X.env)).any (·.1)) = false; rw [back_any (star_all hst'.2)]; rfl) (Calls.evalArgs_plain (thn hA fun us s2 ⟨vs, H2, I2, r2, q2⟩ => k us s2 vs H2 I2 r2 q2))
    have dty : ∀ {l : List (D × D)}, a = .dct l → s1.TypeIs v "dict" ∧ ∀ b, v = .ref b → ∃ ob, s1.heap.get? b = some ob ∧ ob.dict = none := fun {l} e => by
      subst e
      obtain ⟨t, rfl, dct⟩ := va.dct'
      obtain rfl : v = Value.ref t := r1
      refine ⟨dct.typeIs I1, fun b z => ?_⟩
      cases z
      obtain ⟨ob, es, ep, h1, h2, _⟩ := dct.obj I1
      exact ⟨ob, h1, h2.2.1⟩
    cases m with
    | index =>
      cases a <;> (first | exact absurd hc (show ¬ (false = true) from Bool.noConfusion) | skip)
      rename_i l
      obtain ⟨t, xs, ex, q2, d1⟩ := va.lst
      subst ex
      obtain rfl : v = Value.ref t := r1
      obtain ⟨its, r', pl, _⟩ := I1.list (.inl q2)
      refine ⟨"list", "list.index", PySem.F.plainAttrs_list, PySem.F.slot_list_index, by kernel_rfl, pl.isList.typeIs, fun b z => ?_, fin "list.index" fun us s2 vs H2 I2 r2 q3 => bm_val (m := .index) RK hw hu I2 (show RelV (V.ref t) (Value.ref t) from rfl) r2 q3 hc⟩
      cases z
      obtain ⟨ob, n, e1, c1, hd1, _⟩ := pl
      exact ⟨ob, e1, hd1⟩
    | count => cases a <;> exact absurd hc (show ¬ (false = true) from Bool.noConfusion)
    | get1 =>
      cases a <;> (first | exact absurd hc (show ¬ (false = true) from Bool.noConfusion) | skip)
      obtain ⟨t1, t2⟩ := dty rfl
      exact ⟨"dict", "dict.get", PySem.F.plainAttrs_dict, PySem.F.slot_dict_get, by kernel_rfl, t1, t2, fin "dict.get" fun us s2 vs H2 I2 r2 q3 => bm_val (m := .get1) RK hw hu I2 r1 r2 q3 hc⟩
    | get2 =>
      cases a <;> (first | exact absurd hc (show ¬ (false = true) from Bool.noConfusion) | skip)
      obtain ⟨t1, t2⟩ := dty rfl
      exact ⟨"dict", "dict.get", PySem.F.plainAttrs_dict, PySem.F.slot_dict_get, by kernel_rfl, t1, t2, fin "dict.get" fun us s2 vs H2 I2 r2 q3 => bm_val (m := .get2) RK hw hu I2 r1 r2 q3 hc⟩
end BB
end
section
set_option Elab.async false
set_option linter.all false
set_option maxRecDepth 100000
set_option maxHeartbeats 4000000
/-! What is walked: lists, tuples, dicts, texts, ranges. -/
namespace BB
open PySem PySem.Spec PyProof.Rows L2
variable {G : Gc} {C : Ck} {cl : Cal} {mk : Mak} {W : WS} {X : Cx} {Γ : Fr} {σ : L2.St} {H H' Hv : Hp} {Q : VK} {O : List Addr} {pins : List (Addr × Obj)} {s : Shared}
/-- what a walk leans on stands -/
def Stay (G : Gc) (m : Bool) (O : List Addr) (H : Hp) (O2 : List Addr) (H2 : Hp) : Prop := Same (hid O H) (hid O2 H2) ∧ (m = true → ∀ a ∈ O, a ≠ G.dr → H2 a = H a)
theorem wk_of {m : Bool} {l : List D} {J : L2.It} (h : ∀ i O2 H2, Stay G m O H O2 H2 → (l.length ≤ i → J.stop i H2) ∧ ∀ d, l[i]? = some d → J.go i H2 ∧ ∀ x H3, J.yld i H2 x H3 → Same H2 H3 ∧ Den G (hid O2 H3) d x) : Wk G m O H l J :=
  fun i O2 H2 s1 s2 _ _ => h i O2 H2 ⟨s1, s2⟩
theorem Sees.lst {m : Bool} {l : List D} {v : V} (h : Sees G O H m (.lst l) v) : ∃ a vs, v = .ref a ∧ Rd H a (.lst vs) ∧ DenL G (hid O H) l vs ∧ ∀ O2 H2, Stay G m O H O2 H2 → Rd H2 a (.lst vs) := by
  cases m with
  | false =>
    obtain ⟨a, vs, rfl, h2, h3⟩ := h
    exact ⟨a, vs, rfl, rd_mono hid_le h2, h3, fun O2 H2 st => rd_mono hid_le (rd_mono st.1 h2)⟩
  | true =>
    rcases h with ⟨a, vs, rfl, h2, h3⟩ | ⟨p, rfl, ⟨hp, hn⟩, vs, h2, h3⟩
    · exact ⟨a, vs, rfl, rd_mono hid_le h2, h3, fun O2 H2 st => rd_mono hid_le (rd_mono st.1 h2)⟩
    · exact ⟨p, vs, rfl, .inl h2, h3, fun O2 H2 st => .inl ((st.2 rfl p hp hn).trans h2)⟩
theorem Sees.tup {m : Bool} {l : List D} {v : V} (h : Sees G O H m (.tup l) v) : ∃ a vs, v = .ref a ∧ SqT G.K H a vs ∧ DenL G (hid O H) l vs ∧ ∀ O2 H2, Stay G m O H O2 H2 → SqT G.K H2 a vs := by
  have k : Den G (hid O H) (.tup l) v := by
    cases m with
    | false => exact h
    | true =>
      rcases h with h | ⟨p, _, _, h⟩
      · exact h
      · exact h.elim
  obtain ⟨a, vs, rfl, h2, h3⟩ := k
  exact ⟨a, vs, rfl, SqT.mono hid_le h2, h3, fun O2 H2 st => SqT.mono hid_le (SqT.mono st.1 h2)⟩
theorem Sees.dct {m : Bool} {l : List (D × D)} {v : V} (h : Sees G O H m (.dct l) v) : ∃ a es ep, v = .ref a ∧ H a = some (DicO a es ep) ∧ (a == sysModules) = false ∧ DenE G (hid O H) l es ∧ ∀ O2 H2, Stay G m O H O2 H2 → H2 a = some (DicO a es ep) := by
  cases m with
  | false =>
    obtain ⟨a, es, ep, rfl, h2, h3, h4, h5⟩ := h
    exact ⟨a, es, ep, rfl, hid_le _ _ h2, h3, h5, fun O2 H2 st => hid_le _ _ (st.1 _ _ h2)⟩
  | true =>
    rcases h with ⟨a, es, ep, rfl, h2, h3, h4, h5⟩ | ⟨p, rfl, ⟨hp, hn⟩, es, ep, h2, h3, h4, h5⟩
    · exact ⟨a, es, ep, rfl, hid_le _ _ h2, h3, h5, fun O2 H2 st => hid_le _ _ (st.1 _ _ h2)⟩
    · exact ⟨p, es, ep, rfl, h2, h3, h5, fun O2 H2 st => (st.2 rfl p hp hn).trans h2⟩
theorem DenE.get : ∀ {l : List (D × D)} {es : List DictEntry} {i : Nat} {p : D × D}, DenE G Hv l es → l[i]? = some p → ∃ e, es[i]? = some e ∧ (∃ kv, RelV kv e.key ∧ Den G Hv p.1 kv) ∧ ∃ vv, RelV vv e.val ∧ Den G Hv p.2 vv
  | [], _, _, _, _, h => by cases h
  | (k, d) :: l, _, i, p, h, e => by
    obtain ⟨x, r, rfl, h1, _, h2, h3⟩ := h
    cases i with
    | zero => cases e; exact ⟨x, rfl, h1, h2⟩
    | succ i => exact h3.get (i := i) e
theorem relV_fun {x y : V} {u : Value} (a : RelV x u) (b : RelV y u) : x = y := Option.some.inj (a.abs.symm.trans b.abs)
/-- the dict at d, key by key -/
def Itdk (d : Addr) (es : List DictEntry) (ep : Nat) (w : DictEntry → Value) : L2.It :=
  ⟨fun i H => H d = some (DicO d es ep) ∧ ∃ e x, es[i]? = some e ∧ RelV x (w e), fun i H x H' => H' = H ∧ ∃ e, es[i]? = some e ∧ RelV x (w e), fun i H => H d = some (DicO d es ep) ∧ es.length ≤ i⟩
theorem raw_at {P : Program} {w : World} {h : Heap} {a : Addr} {es : List DictEntry} {ep : Nat} (ok : HOk P w H h) (e : H a = some (DicO a es ep)) : h.DictRaw a es.toArray ep := (ok a _ e).1
theorem turn_dkeys {P : Program} {w : World} {K : PySem.W.Frag} {tg : Ex} (d it : Addr) (es : List DictEntry) (ep : Nat) : Turn P w K tg (Itdk d es ep (·.key)) [it] it (fun i h => h.IsKeyIter it d i es.length ep) where
  mem := by simp
  obj := fun i h st b hb => by
    have e : b = it := by simpa using hb
    subst e
    obtain ⟨o, e, c, dd⟩ := st
    exact ⟨o, e, fun v z => by rw [dd] at z; cases z⟩
  keep := fun i h h' st k => st.at fun o e => k it (by simp) o e
  item := by
    intro X hP hw hK hc i pins s σ H E I hf st hg
    subst hP hw hK
    obtain ⟨hd, e, x, he, rx⟩ := hg
    obtain ⟨f0, f1, f2, f3, f4, f5⟩ := hf it (by simp)
    have hr := raw_at I.hok hd
    have hi : i < es.length := (List.getElem?_eq_some_iff.mp he).1
    have hi' : i < es.toArray.size := by simpa using hi
    refine wpAny_pyNext_keys_item_raw (es := es.toArray) (by simpa using st) hr hi' fun h' st' sb => ?_
    have I1 : Inv X pins σ H { s with heap := h' } := I.turned (t' := s.toks) (fun b o hb e => (sb.2 b hb).trans e) f0 f1 f3 f4 f5
    have ek : es.toArray[i].key = e.key := by
      have := (List.getElem?_eq_some_iff.mp he).2
      simp [this]
    obtain ⟨oi, e1, c, dd⟩ := id st'
    exact ⟨_, rfl, go_of (s := { s with heap := h' }) e1 c dd (by decide) ⟨x, H, I1, by rw [ek]; exact rx, ⟨rfl, e, he, rx⟩, by simpa using st', fun b hb => (hf b hb).1⟩⟩
  done := by
    intro X hP hw hK hc i pins s σ H E I hf st hg
    subst hP hw hK
    obtain ⟨hd, hi⟩ := hg
    obtain ⟨f0, f1, f2, f3, f4, f5⟩ := hf it (by simp)
    exact wpAny_pyNext_keys_end_raw (es := es.toArray) (I.ok.hd hc) (by simpa using st) (raw_at I.hok hd) (by simpa using hi) fun h' eb => ⟨rfl, I.turned (t' := s.toks) (fun b o hb e => eb b o hb e) f0 f1 f3 f4 f5⟩
  self := fun _ _ _ _ _ st h => wpAny_pyIter_keyiter st h
/-- for x in e -/
theorem it_val {tg src : Ex} (RK : X.K = G.K) {e : E} {m : Bool} (he : PE X src (tE G cl mk W m e)) : PI X tg src (tI G cl mk W m (.val e)) := by
  refine ⟨fun pins s σ H R I h => ?_⟩
  obtain ⟨Γ, Rr, lk, w⟩ := h
  have lk : ∀ i ∈ lkM m e, i ∉ Γ.ω := by cases m <;> exact lk
  have hq : tE G cl mk W m e σ H (fun v H1 => ∃ d l, Grow G H H1 ∧ Dr G H1 ∧ Sees G Γ.O H1 m d v ∧ items d = some l ∧ ∀ J H2, Grow G H1 H2 → Dr G H2 → Wk G m Γ.O H2 l J → R J H2) :=
    one_tE (RR := fun _ _ => True) (m := m) (a := e) Rr lk w fun d v H1 g dr s q => by
      obtain ⟨l, e1, q⟩ := Res.wp_ofOpt q
      exact ⟨d, l, g, dr, s, e1, fun J H2 g2 d2 k => q J H2 (g.trans g2) d2 k⟩
  refine thn (he.run pins s σ H _ I hq) fun v s1 ⟨x, H1, I1, rx, d, l, g, dr, sees, el, k⟩ => ?_
  cases d with
  | lst l' =>
    cases el
    obtain ⟨a, vs, rfl, h1, h2, h3⟩ := sees.lst
    obtain rfl : v = Value.ref a := rx
    obtain ⟨its, rv, p, hz⟩ := I1.list (.inl h1)
    have hl := h2.length
    refine wpAny_pyIter_list p.isList (pi_one (tk := s1.toks) I1 _ (turn_list a _) ⟨_, Heap.get?_push_size _ rfl, rfl, rfl⟩ (k _ H1 (Grow.refl H1) dr (wk_of fun i O2 H2 st => ?_)))
    have e2 := h3 O2 H2 st
    refine ⟨fun hi => ⟨vs, .inl e2, by omega⟩, fun d hd => ?_⟩
    obtain ⟨y, hy, dy⟩ := h2.get hd
    refine ⟨⟨vs, y, .inl e2, hy⟩, fun x H3 ⟨e3, e4⟩ => ?_⟩
    subst e3
    have := e4 vs (.inl e2)
    rw [hy] at this
    cases this
    exact ⟨fun _ _ z => z, Den.mono st.1 dy⟩
  | tup l' =>
    cases el
    obtain ⟨a, vs, rfl, h1, h2, h3⟩ := sees.tup
    obtain rfl : v = Value.ref a := rx
    obtain ⟨its, rv, p, hz⟩ := I1.tuple (by rw [RK]; exact h1)
    have hl := h2.length
    refine wpAny_pyIter_tuple (show s1.heap.IsTuple a its.toArray from p) (pi_one (tk := s1.toks) I1 _ (turn_tuple a _) ⟨_, Heap.get?_push_size _ rfl, rfl, rfl⟩ (k _ H1 (Grow.refl H1) dr (wk_of fun i O2 H2 st => ?_)))
    have e2 := h3 O2 H2 st
    rw [← RK] at e2
    refine ⟨fun hi => ⟨vs, e2, by omega⟩, fun d hd => ?_⟩
    obtain ⟨y, hy, dy⟩ := h2.get hd
    refine ⟨⟨vs, y, e2, hy⟩, fun x H3 ⟨e3, e4⟩ => ?_⟩
    subst e3
    have := e4 vs e2
    rw [hy] at this
    cases this
    exact ⟨fun _ _ z => z, Den.mono st.1 dy⟩
  | dct l' =>
    cases el
    obtain ⟨a, es, ep, rfl, h1, sys, h2, h3⟩ := sees.dct
    obtain rfl : v = Value.ref a := rx
    have hl := h2.length
    refine wpAny_pyIter_dict_raw sys (raw_at I1.hok h1) (pi_one (tk := s1.toks) I1 _ (turn_dkeys a _ es ep) ⟨_, Heap.get?_push_size _ rfl, rfl, by simp⟩ (k _ H1 (Grow.refl H1) dr (wk_of fun i O2 H2 st => ?_)))
    have e2 := h3 O2 H2 st
    refine ⟨fun hi => ⟨e2, by rw [List.length_map] at hi; omega⟩, fun d hd => ?_⟩
    rw [List.getElem?_map] at hd
    obtain ⟨p, hp, rfl⟩ := Option.map_eq_some_iff.mp hd
    obtain ⟨e, he1, ⟨kv, r1, d1⟩, _⟩ := h2.get hp
    refine ⟨⟨e2, e, kv, he1, r1⟩, fun x H3 ⟨e3, e', he2, r2⟩ => ?_⟩
    subst e3
    rw [he1] at he2
    cases he2
    have := relV_fun r2 r1
    subst this
    exact ⟨fun _ _ z => z, Den.mono st.1 d1⟩
  | str z =>
    cases el
    have e1 := sees.vw.str
    subst e1
    obtain ⟨t, rfl⟩ : ∃ t, v = Value.str z t := rx
    have stop : Wk G m Γ.O H1 (z.cps.toList.map fun c => .str ⟨#[c]⟩) (Its z) := wk_of fun i O2 H2 st => by
      refine ⟨fun hi => by rw [List.length_map, Array.length_toList] at hi; exact hi, fun d hd => ?_⟩
      rw [List.getElem?_map] at hd
      obtain ⟨c, hc, rfl⟩ := Option.map_eq_some_iff.mp hd
      rw [Array.getElem?_toList] at hc
      refine ⟨(Array.getElem?_eq_some_iff.mp hc).1, fun x H3 ⟨e3, c', hc', ex⟩ => ?_⟩
      subst e3
      rw [hc] at hc'
      cases hc'
      exact ⟨fun _ _ z => z, ex⟩
    have q := k _ H1 (Grow.refl H1) dr stop
    cases ha : z.cps.all (· < 128) with
    | false => exact wpAny_pyIter_wide ha (pi_one (tk := s1.toks) I1 _ (turn_str _ z t "str_iterator" (.inr rfl)) ⟨_, Heap.get?_push_size _ rfl, rfl, rfl⟩ q)
    | true => exact wpAny_pyIter_ascii ha (pi_one (tk := s1.toks) I1 _ (turn_str _ z t "str_ascii_iterator" (.inl rfl)) ⟨_, Heap.get?_push_size _ rfl, rfl, rfl⟩ q)
  | _ => cases el
theorem rng_get (lo : Int) : ∀ (n i : Nat), (rng lo n)[i]? = if i < n then some (.int (lo + i)) else none
  | 0, i => by rw [if_neg (Nat.not_lt_zero i)]; rfl
  | n + 1, 0 => by rw [if_pos (Nat.succ_pos n)]; simp [rng]
  | n + 1, i + 1 => by
    show (rng (lo + 1) n)[i]? = _
    rw [rng_get (lo + 1) n i]
    have : lo + 1 + (i : Int) = lo + ((i + 1 : Nat) : Int) := by omega
    rw [this]
    by_cases h : i < n
    · rw [if_pos h, if_pos (by omega)]
    · rw [if_neg h, if_neg (by omega)]
theorem rng_length (lo : Int) : ∀ n : Nat, (rng lo n).length = n
  | 0 => rfl
  | n + 1 => by show (rng (lo + 1) n).length + 1 = n + 1; rw [rng_length]
theorem rngS_get (s : Int) : ∀ (lo : Int) (n i : Nat), (rngS lo s n)[i]? = if i < n then some (.int (lo + i * s)) else none
  | lo, 0, i => by rw [if_neg (Nat.not_lt_zero i)]; rfl
  | lo, n + 1, 0 => by rw [if_pos (Nat.succ_pos n)]; simp [rngS]
  | lo, n + 1, i + 1 => by
    show (rngS (lo + s) s n)[i]? = _
    rw [rngS_get s (lo + s) n i]
    have : lo + s + (i : Int) * s = lo + ((i + 1 : Nat) : Int) * s := by rw [Int.natCast_add, Int.add_mul]; omega
    rw [this]
    by_cases h : i < n
    · rw [if_pos h, if_pos (by omega)]
    · rw [if_neg h, if_neg (by omega)]
theorem rngS_length (s : Int) : ∀ (lo : Int) (n : Nat), (rngS lo s n).length = n
  | _, 0 => rfl
  | lo, n + 1 => by show (rngS (lo + s) s n).length + 1 = n + 1; rw [rngS_length]
theorem wk_rng {m : Bool} {lo : Int} {n : Nat} : Wk G m O H (rng lo n) (Itr lo n) := wk_of fun i O2 H2 st => by
  refine ⟨fun hi => by rw [rng_length] at hi; exact hi, fun d hd => ?_⟩
  rw [rng_get] at hd
  by_cases h : i < n
  · rw [if_pos h] at hd
    cases hd
    exact ⟨h, fun x H3 ⟨e1, e2⟩ => by subst e1; exact ⟨fun _ _ z => z, e2⟩⟩
  · rw [if_neg h] at hd; cases hd
theorem wk_rngS {m : Bool} {lo s : Int} {n : Nat} : Wk G m O H (rngS lo s n) (Itc lo s n) := wk_of fun i O2 H2 st => by
  refine ⟨fun hi => by rw [rngS_length] at hi; exact hi, fun d hd => ?_⟩
  rw [rngS_get] at hd
  by_cases h : i < n
  · rw [if_pos h] at hd
    cases hd
    exact ⟨h, fun x H3 ⟨e1, e2⟩ => by subst e1; exact ⟨fun _ _ z => z, e2⟩⟩
  · rw [if_neg h] at hd; cases hd
/-- range(a) -/
theorem it_rng1 {tg u : Ex} {p pos : Pos} {a : E} {m : Bool} (hg : Gl X "range") (hm : X.mg "range" = none) (hst : isStar u = false) (hu : PE X u (tE G cl mk W true a)) : PI X tg (.Call (.Name "range" p) [u] [] pos) (tI G cl mk W m (.rng1 a)) := by
  have e1 := star_cons (es := []) (env := X.env) hst
  refine (pi_range1 hg hm (pa_cons hu pa_nil e1) (by rw [e1]; rfl)).imp fun σ H R h => ?_
  obtain ⟨Γ, Rr, lk, w⟩ := h
  have lk : ∀ i ∈ lkB a, i ∉ Γ.ω := by cases m <;> exact lk
  refine one_tE (RR := fun _ _ => True) (m := true) (a := a) Rr lk w fun d v H1 g dr s q => ?_
  cases d <;> (first | exact q.elim | skip)
  rename_i j
  obtain ⟨⟨h1, h2⟩, q⟩ := wp_if q
  have hb : big = 16777216 := rfl
  exact ⟨j, by rw [s.vw.int], by omega, by omega, q _ H1 g dr wk_rng⟩
theorem it_rng2 {tg u v : Ex} {p pos : Pos} {a b : E} {m : Bool} (hg : Gl X "range") (hm : X.mg "range" = none) (hst : isStar u = false) (hst2 : isStar v = false) (hu : PE X u (tE G cl mk W true a)) (hv : PE X v (tE G cl mk W true b)) : PI X tg (.Call (.Name "range" p) [u, v] [] pos) (tI G cl mk W m (.rng2 a b)) := by
  have e1 := star_cons (es := [v]) (env := X.env) hst
  have e2 := star_cons (es := []) (env := X.env) hst2
  refine (pi_range2 hg hm (pa_cons hu (pa_cons hv pa_nil e2) e1) (by rw [e1, e2]; rfl) (by rw [e2]; rfl)).imp fun σ H R h => ?_
  obtain ⟨Γ, Rr, lk, w⟩ := h
  have lk : ∀ i ∈ lkB a ++ lkB b, i ∉ Γ.ω := by cases m <;> exact lk
  refine two_tE (m1 := true) (m2 := true) (a := a) (b := b) Rr (lk_l lk) (lk_r lk) w fun d e v u H1 g dr s1 s2 q => ?_
  cases d <;> (first | exact q.elim | skip)
  cases e <;> (first | exact q.elim | skip)
  rename_i i j
  obtain ⟨⟨h1, h2, h3, h4⟩, q⟩ := wp_if q
  have hb : big = 16777216 := rfl
  exact ⟨i, j, by rw [s1.vw.int, s2.vw.int], ⟨by omega, by omega, by omega, by omega⟩, q _ H1 g dr wk_rng⟩
/-- an upward step -/
theorem rgc_pos {i j s : Int} (h1 : j ≤ big) (h2 : -(big : Int) ≤ j) (h3 : i ≤ big) (h4 : -(big : Int) ≤ i) (h5 : 0 < s) (h6 : s ≤ big) : RgC i j s ((j - i + s - 1) / s).toNat := by
  have hb : big = 16777216 := rfl
  have size : Builtin.Range.rangeSize i j s = (((j - i + s - 1) / s).toNat : Int) := by
    unfold Builtin.Range.rangeSize
    rw [if_pos h5]
    by_cases h : i < j
    · rw [if_pos h]
      have e : j - i + s - 1 = (j - i - 1) + 1 * s := by omega
      rw [e, Int.add_mul_ediv_right _ _ (by omega)]
      have : 0 ≤ (j - i - 1) / s := Int.ediv_nonneg (by omega) (by omega)
      omega
    · rw [if_neg h]
      have : (j - i + s - 1) / s ≤ 0 := by
        have : (j - i + s - 1) / s < 1 := Int.ediv_lt_of_lt_mul h5 (by omega)
        omega
      omega
  refine ⟨by omega, by omega, ?_, size⟩
  unfold Builtin.Range.small
  rw [size]
  have h7 : ((j - i + s - 1) / s).toNat ≤ 100000000 := by
    have : (j - i + s - 1) / s ≤ 100000000 := by
      have := Int.ediv_le_of_le_mul (a := j - i + s - 1) (b := 100000000) h5 (by omega)
      exact this
    omega
  simp only [Builtin.Range.rangeFitsLong, Bool.and_eq_true, Bool.or_eq_true, decide_eq_true_eq, beq_iff_eq]
  rw [if_pos (by omega)]
  simp only [Bool.and_eq_true, decide_eq_true_eq]
  refine ⟨⟨⟨⟨⟨by omega, by omega⟩, ⟨by omega, by omega⟩⟩, ⟨by omega, by omega⟩⟩, ⟨by omega, by omega⟩⟩, .inr ⟨by omega, by omega⟩⟩
theorem it_rng3 {tg u v t : Ex} {p pos : Pos} {a b c : E} {m : Bool} (hg : Gl X "range") (hm : X.mg "range" = none) (hst : isStar u = false) (hst2 : isStar v = false) (hst3 : isStar t = false) (hu : PE X u (tE G cl mk W true a)) (hv : PE X v (tE G cl mk W true b)) (ht : PE X t (tE G cl mk W true c)) :
    PI X tg (.Call (.Name "range" p) [u, v, t] [] pos) (tI G cl mk W m (.rng3 a b c)) := by
  have e1 := star_cons (es := [v, t]) (env := X.env) hst
  have e2 := star_cons (es := [t]) (env := X.env) hst2
  have e3 := star_cons (es := []) (env := X.env) hst3
  refine (pi_range3 hg hm (pa_cons hu (pa_cons hv (pa_cons ht pa_nil e3) e2) e1) e1 (back_any (star_all (by rw [List.any_cons, List.any_cons, hst2, hst3]; rfl)))).imp fun σ H R h => ?_
  obtain ⟨Γ, Rr, lk, w⟩ := h
  have lk : ∀ i ∈ lkB a ++ lkB b ++ lkB c, i ∉ Γ.ω := by cases m <;> exact lk
  refine two_tE (m1 := true) (m2 := true) (a := a) (b := b) Rr (lk_l (lk_l lk)) (lk_r (lk_l lk)) w fun d e v u H1 g dr s1 s2 q => ?_
  refine one_tE (RR := fun _ _ => True) (m := true) (a := c) (Rr.grow g dr) (lk_r lk) (Res.wp_mono (fun _ k => k) (fun _ _ k => k.grow g) q) fun f v3 H2 g2 d2 s3 q => ?_
  cases d <;> (first | exact q.elim | skip)
  cases e <;> (first | exact q.elim | skip)
  cases f <;> (first | exact q.elim | skip)
  rename_i i j _ s
  have i1 := s1.vw.int
  have i2 := s2.vw.int
  have i3 := s3.vw.int
  subst i1 i2 i3
  have hb : big = 16777216 := rfl
  change (if j ≤ big ∧ -(big : Int) ≤ j ∧ i ≤ big ∧ -(big : Int) ≤ i ∧ 0 < s ∧ s ≤ big then Res.ok (rngS i s ((j - i + s - 1) / s).toNat)
      else if j ≤ big ∧ -(big : Int) ≤ j ∧ i ≤ big ∧ -(big : Int) ≤ i ∧ s = -1 then .ok (rngS i (-1) (i - j).toNat) else .stuck).wp _ _ at q
  by_cases h : j ≤ big ∧ -(big : Int) ≤ j ∧ i ≤ big ∧ -(big : Int) ≤ i ∧ 0 < s ∧ s ≤ big
  · rw [if_pos h] at q
    obtain ⟨h1, h2, h3, h4, h5, h6⟩ := h
    exact ⟨i, j, s, _, rfl, rgc_pos h1 h2 h3 h4 h5 h6, q _ H2 (g.trans g2) d2 wk_rngS⟩
  · rw [if_neg h] at q
    obtain ⟨⟨h1, h2, h3, h4, h5⟩, q2⟩ := wp_if q
    subst h5
    exact ⟨i, j, -1, _, rfl, RgC.neg (by omega) (by omega) (by omega) (by omega), q2 _ H2 (g.trans g2) d2 wk_rngS⟩
end BB
end
section
set_option Elab.async false
set_option linter.all false
set_option maxRecDepth 100000
set_option maxHeartbeats 4000000
/-! What is walked: a dict's values, its pairs. -/
namespace BB
open PySem PySem.Spec PyProof.Rows L2
variable {G : Gc} {C : Ck} {cl : Cal} {mk : Mak} {W : WS} {X : Cx} {Γ : Fr} {σ : L2.St} {H H' Hv : Hp} {Q : VK} {O : List Addr} {pins : List (Addr × Obj)} {s : Shared}
theorem turn_dvals {P : Program} {w : World} {K : PySem.W.Frag} {tg : Ex} (d it : Addr) (es : List DictEntry) (ep : Nat) : Turn P w K tg (Itdk d es ep (·.val)) [it] it (fun i h => h.IsValIter it d i es.length ep) where
  mem := by simp
  obj := fun i h st b hb => by
    have e : b = it := by simpa using hb
    subst e
    obtain ⟨o, e, c, dd⟩ := st
    exact ⟨o, e, fun v z => by rw [dd] at z; cases z⟩
  keep := fun i h h' st k => st.at fun o e => k it (by simp) o e
  item := by
    intro X hP hw hK hc i pins s σ H E I hf st hg
    subst hP hw hK
    obtain ⟨hd, e, x, he, rx⟩ := hg
    obtain ⟨f0, f1, f2, f3, f4, f5⟩ := hf it (by simp)
    have hr := raw_at I.hok hd
    have hi : i < es.length := (List.getElem?_eq_some_iff.mp he).1
    have hi' : i < es.toArray.size := by simpa using hi
    refine wpAny_pyNext_values_item_raw (es := es.toArray) (by simpa using st) hr hi' fun h' st' sb => ?_
    have I1 : Inv X pins σ H { s with heap := h' } := I.turned (t' := s.toks) (fun b o hb e => (sb.2 b hb).trans e) f0 f1 f3 f4 f5
    have ek : es.toArray[i].val = e.val := by
      have := (List.getElem?_eq_some_iff.mp he).2
      simp [this]
    obtain ⟨oi, e1, c, dd⟩ := id st'
    exact ⟨_, rfl, go_of (s := { s with heap := h' }) e1 c dd (by decide) ⟨x, H, I1, by rw [ek]; exact rx, ⟨rfl, e, he, rx⟩, by simpa using st', fun b hb => (hf b hb).1⟩⟩
  done := by
    intro X hP hw hK hc i pins s σ H E I hf st hg
    subst hP hw hK
    obtain ⟨hd, hi⟩ := hg
    obtain ⟨f0, f1, f2, f3, f4, f5⟩ := hf it (by simp)
    exact wpAny_pyNext_values_end_raw (es := es.toArray) (I.ok.hd hc) (by simpa using st) (raw_at I.hok hd) (by simpa using hi) fun h' eb => ⟨rfl, I.turned (t' := s.toks) (fun b o hb e => eb b o hb e) f0 f1 f3 f4 f5⟩
  self := fun _ _ _ _ _ st h => wpAny_pyIter_valiter st h
/-- the dict at d, pair by pair -/
def Itdi (d : Addr) (es : List DictEntry) (ep : Nat) : L2.It :=
  ⟨fun i H => H d = some (DicO d es ep) ∧ ∃ e x y, es[i]? = some e ∧ RelV x e.key ∧ RelV y e.val, fun i H v H' => ∃ T e x y, v = .ref T ∧ H T = none ∧ H' = upd H T (.tup [x, y]) ∧ es[i]? = some e ∧ RelV x e.key ∧ RelV y e.val,
    fun i H => H d = some (DicO d es ep) ∧ es.length ≤ i⟩
theorem turn_ditems {P : Program} {w : World} {K : PySem.W.Frag} {elts : List Ex} {kk : Nat} {tpos : Pos} (d it : Addr) (es : List DictEntry) (ep : Nat) :
    Turn P w K (.Tuple elts kk tpos) (Itdi d es ep) [it] it (fun i h => ∃ ok ov, IsItemIter h it d i es.length ep ok ov) where
  mem := by simp
  obj := fun i h st b hb => by
    have e : b = it := by simpa using hb
    subst e
    obtain ⟨ok, ov, e⟩ := st
    exact ⟨_, e, fun v z => nomatch z⟩
  keep := fun i h h' st k => let ⟨ok, ov, e⟩ := st; ⟨ok, ov, k it (by simp) _ e⟩
  item := by
    intro X hP hw hK hc i pins s σ H E I hf st hg
    subst hP hw hK
    obtain ⟨hd, e, x, y, he, rx, ry⟩ := hg
    have hr := raw_at I.hok hd
    have hi : i < es.length := (List.getElem?_eq_some_iff.mp he).1
    have hi' : i < es.toArray.size := by simpa using hi
    have ee : es.toArray[i] = e := by
      have := (List.getElem?_eq_some_iff.mp he).2
      simpa using this
    obtain ⟨ok, ov, hit⟩ := st
    have below : it < s.heap.objs.size := Heap.lt_size hit
    refine wpAny_pyNext_items_item_raw (es := es.toArray) (by simpa using hit) hr hi' fun h' out tup size keep => ?_
    rw [ee] at out tup
    refine ⟨_, rfl, wpAny_letOwnedTupleGo_items (s := { s with heap := h' }) out fun h'' back sb => ?_⟩
    have tup2 : h''.get? s.heap.objs.size = some { cls := .type "tuple", data := .seq #[e.key, e.val] } := (sb.2 _ (Nat.ne_of_gt below)).trans tup
    have new : ObjOk X.prog X.w (upd H s.heap.objs.size (.tup [x, y])) h'' s.heap.objs.size (.tup [x, y]) :=
      ⟨by show 2 ≤ sizeLine; decide, [e.key, e.val], .cons rx (.cons ry .nil), ⟨_, tup2, rfl, _, rfl⟩⟩
    have I1 : Inv X pins σ (upd H s.heap.objs.size (.tup [x, y])) { s with heap := h'' } :=
      I.turnedNew (ch := [it]) (t' := s.toks) (fun b ob hb z => (sb.2 b (by simpa using hb)).trans (keep b ob (by simpa using hb) z)) hf (Nat.le_refl _) new
    refine ⟨.ref s.heap.objs.size, _, I1, rfl, ⟨_, e, x, y, rfl, I.hok.fresh (Nat.le_refl _), rfl, he, rx, ry⟩, ⟨e.key, e.val, by simpa using back⟩, fun b hb => ?_⟩
    have eb : b = it := by simpa using hb
    subst eb
    rw [upd_ne (Nat.ne_of_lt below)]
    exact (hf b hb).1
  done := by
    intro X hP hw hK hc i pins s σ H E I hf st hg
    subst hP hw hK
    obtain ⟨hd, hi⟩ := hg
    obtain ⟨f0, f1, f2, f3, f4, f5⟩ := hf it (by simp)
    obtain ⟨ok, ov, hit⟩ := st
    exact wpAny_pyNext_items_end_raw (es := es.toArray) (I.ok.hd hc) (by simpa using hit) (raw_at I.hok hd) (by simpa using hi) fun h' eb => ⟨rfl, I.turned (t' := s.toks) (fun b o hb e => eb b o hb e) f0 f1 f3 f4 f5⟩
  self := fun _ _ _ _ _ st h => let ⟨_, _, e⟩ := st; wpAny_pyIter_itemiter e h
theorem dct_read {m : Bool} {e : E} {σ : L2.St} {H : Hp} {R : List D → Hp → Prop} {f : List (D × D) → List D} {S : List D → Prop} (Rr : Rel G Γ σ H) (lk : ∀ i ∈ lkM m e, i ∉ Γ.ω) (w : ((ev G.T cl mk e Γ.ρ).bind fun x => match x with | .dct l => .ok (f l) | _ => .stuck).wp S (Rst G Γ.O H (W σ))) :
    tE G cl mk W m e σ H (fun v H1 => ∃ l, Grow G H H1 ∧ Dr G H1 ∧ Sees G Γ.O H1 m (.dct l) v ∧ S (f l)) :=
  one_tE (RR := fun _ _ => True) (m := m) (a := e) Rr lk w fun d v H1 g dr s q => by
    cases d <;> (first | exact q.elim | skip)
    exact ⟨_, g, dr, s, q⟩
/-- for x in e.values() -/
theorem it_values {tg v : Ex} {ap p : Pos} {e : E} {m : Bool} (hat : attOk v = true) (h6 : oneLine ap p = true) (he : PE X v (tE G cl mk W m e)) : PI X tg (.Call (.Attribute v "values" ap) [] [] p) (tI G cl mk W m (.values e)) := by
  refine ⟨fun pins s σ H R I h => ?_⟩
  obtain ⟨Γ, Rr, lk, w⟩ := h
  have lk : ∀ i ∈ lkM m e, i ∉ Γ.ω := by cases m <;> exact lk
  refine wpAny_Call_method (T := "dict") (id := "dict.values") (att_base hat) rfl h6 F.plainAttrs_dict F.slot_dict_values F.type_dict_values (thn (he.run pins s σ H _ I (dct_read (R := fun _ _ => True) Rr lk w)) fun u s1 ⟨x, H1, I1, rx, l, g, dr, sees, k⟩ => ?_)
  obtain ⟨a, es, ep, rfl, h1, sys, h2, h3⟩ := sees.dct
  obtain rfl : u = Value.ref a := rx
  have hr := raw_at I1.hok h1
  obtain ⟨o, ho, hc, hd⟩ := id hr
  have hl := h2.length
  refine ⟨hr.typeIs, fun b z => by cases z; exact ⟨o, ho, hc.2.1⟩, ?_⟩
  have I2 : Inv X pins σ H1 { s1 with heap := s1.heap.push { cls := .type "dict_values", data := .fields #[.ref a] } } := I1.kept (t' := s1.toks) fun b ob q => Heap.get?_push_of_some _ q
  have fin : wpAny (model X.prog X.w) X.A (pyIter (.ref s1.heap.objs.size)) (PIE X pins σ tg R) X.xe { s1 with heap := s1.heap.push { cls := .type "dict_values", data := .fields #[.ref a] } } := by
    refine wpAny_pyIter_values_raw (d := a) ⟨_, Heap.get?_push_size _ rfl, rfl, rfl⟩ (hr.at fun _ z => Heap.get?_push_of_some _ z) (pi_one (tk := s1.toks) I2 _ (turn_dvals a _ es ep) ⟨_, Heap.get?_push_size _ rfl, rfl, by simp⟩ (k _ H1 g dr (wk_of fun i O2 H2 st => ?_)))
    have e2 := h3 O2 H2 st
    refine ⟨fun hi => ⟨e2, by rw [List.length_map] at hi; omega⟩, fun d hd => ?_⟩
    rw [List.getElem?_map] at hd
    obtain ⟨p, hp, rfl⟩ := Option.map_eq_some_iff.mp hd
    obtain ⟨e, he1, _, ⟨vv, r1, d1⟩⟩ := h2.get hp
    refine ⟨⟨e2, e, vv, he1, r1⟩, fun x H3 ⟨e3, e', he2, r2⟩ => ?_⟩
    subst e3
    rw [he1] at he2
    cases he2
    have := relV_fun r2 r1
    subst this
    exact ⟨fun _ _ z => z, Den.mono st.1 d1⟩
  show wpAny _ _ (callWith p (.builtin "dict.values") [.ref a] [] []) _ X.xe s1
  exact method_meetsIn F.slot_dict_values F.entry_dict_values rfl (PySem.evalArgs_none ⟨rfl, hr.typeIs, F.args_dict_values_1 _, _, meets_dict_values_raw a sys, ⟨_, _, hr⟩, fin⟩)
/-- for k, x in e.items() -/
theorem it_items {v : Ex} {ap p : Pos} {e : E} {m : Bool} {elts : List Ex} {kk : Nat} {tpos : Pos} (hat : attOk v = true) (h6 : oneLine ap p = true) (he : PE X v (tE G cl mk W m e)) : PI X (.Tuple elts kk tpos) (.Call (.Attribute v "items" ap) [] [] p) (tI G cl mk W m (.items e)) := by
  refine ⟨fun pins s σ H R I h => ?_⟩
  obtain ⟨Γ, Rr, lk, w⟩ := h
  have lk : ∀ i ∈ lkM m e, i ∉ Γ.ω := by cases m <;> exact lk
  refine wpAny_Call_method (T := "dict") (id := "dict.items") (att_base hat) rfl h6 F.plainAttrs_dict F.slot_dict_items F.type_dict_items (thn (he.run pins s σ H _ I (dct_read (R := fun _ _ => True) Rr lk w)) fun u s1 ⟨x, H1, I1, rx, l, g, dr, sees, k⟩ => ?_)
  obtain ⟨a, es, ep, rfl, h1, sys, h2, h3⟩ := sees.dct
  obtain rfl : u = Value.ref a := rx
  have hr := raw_at I1.hok h1
  obtain ⟨o, ho, hc, hd⟩ := id hr
  have hl := h2.length
  refine ⟨hr.typeIs, fun b z => by cases z; exact ⟨o, ho, hc.2.1⟩, ?_⟩
  have I2 : Inv X pins σ H1 { s1 with heap := s1.heap.push { cls := .type "dict_items", data := .fields #[.ref a] } } := I1.kept (t' := s1.toks) fun b ob q => Heap.get?_push_of_some _ q
  have fin : wpAny (model X.prog X.w) X.A (pyIter (.ref s1.heap.objs.size)) (PIE X pins σ (.Tuple elts kk tpos) R) X.xe { s1 with heap := s1.heap.push { cls := .type "dict_items", data := .fields #[.ref a] } } := by
    refine wpAny_pyIter_items_raw (d := a) ⟨_, Heap.get?_push_size _ rfl, rfl, rfl⟩ (hr.at fun _ z => Heap.get?_push_of_some _ z) (pi_one (tk := s1.toks) I2 _ (turn_ditems a _ es ep) ⟨.none, .none, by
      have := Heap.get?_push_size (s1.heap.push { cls := .type "dict_items", data := .fields #[.ref a] }) (o := { cls := .type "dict_itemiterator", data := .fields #[.none, .bool false, .ref a, .int 0 0, .int es.toArray.size 0, .int ep 0, .none, .none] }) rfl
      simp only [List.size_toArray] at this ⊢
      exact this⟩ (k _ H1 g dr fun i O2 H2 s1 s2 lv dr2 => ?_))
    have st : Stay G m Γ.O H1 O2 H2 := ⟨s1, s2⟩
    have e2 := h3 O2 H2 st
    refine ⟨fun hi => ⟨e2, by rw [List.length_map] at hi; omega⟩, fun d hd => ?_⟩
    rw [List.getElem?_map] at hd
    obtain ⟨p, hp, rfl⟩ := Option.map_eq_some_iff.mp hd
    obtain ⟨e, he1, ⟨kv, r1, d1⟩, ⟨vv, r2, d2⟩⟩ := h2.get hp
    refine ⟨⟨e2, e, kv, vv, he1, r1, r2⟩, fun x H3 ⟨T, e', x', y', ex, hT, eH, he2, r3, r4⟩ => ?_⟩
    subst ex eH
    rw [he1] at he2
    cases he2
    have q1 := relV_fun r3 r1
    have q2 := relV_fun r4 r2
    subst q1 q2
    refine ⟨fun b o z => by rw [upd_ne (ne_of_none z hT)]; exact z, T, [x', y'], rfl, SqT.of (hid_new lv hT), ?_⟩
    exact DenL.mono (same_new hT) ⟨_, _, rfl, Den.mono st.1 d1, .one (Den.mono st.1 d2)⟩
  show wpAny _ _ (callWith p (.builtin "dict.items") [.ref a] [] []) _ X.xe s1
  exact method_meetsIn F.slot_dict_items F.entry_dict_items rfl (PySem.evalArgs_none ⟨rfl, hr.typeIs, F.args_dict_items_1 _, _, meets_dict_items_raw a sys, ⟨_, _, hr⟩, fin⟩)
end BB
end
section
set_option Elab.async false
set_option linter.all false
set_option maxRecDepth 100000
set_option maxHeartbeats 4000000
/-! New lists by + and *. -/
namespace BB
open PySem PySem.Spec PyProof.Rows L2
variable {G : Gc} {C : Ck} {cl : Cal} {mk : Mak} {W : WS} {X : Cx} {Γ : Fr} {σ : L2.St} {H H' Hv : Hp} {Q : VK} {O : List Addr}
theorem OutF.cond {Wk : XK} {c : Prop} [Decidable c] {r : Res D} (h : OutF G O H Wk (if c then r else .stuck) Q) : c ∧ OutF G O H Wk r Q := by
  by_cases e : c
  · rw [if_pos e] at h; exact ⟨e, h⟩
  · rw [if_neg e] at h; exact h.2.2.2.elim
theorem OutF.newL {Wk : XK} {l : List D} {vs : List V} (h : OutF G O H Wk (.ok (.lst l)) Q) (e : DenL G (hid O H) l vs) {p : Addr} (hp : H p = none) : Q (.ref p) (upd H p (.lst vs)) := by
  refine h.2.2.2.2 p _ hp (fun z => ?_) (Grow.new hp) (dr_new h.2.2.1 hp) ⟨vs, upd_same, by rw [hid_upd]; exact e.mono (hid_cons hp)⟩
  obtain ⟨o, q⟩ := h.2.1 p z
  rw [hp] at q; cases q
theorem op_binF (hK : X.K = G.K) (op : Bop) (ho : op = .add ∨ op = .mul) : OpR X (binaryOp (opOf op)) (rBinF G op) := by
  intro pins s σ H x y v u Q I rx ry h
  obtain ⟨O, W, a, b, ha, hb, h⟩ := h
  have bl := big_line
  have no : ∀ {d : D}, OutF G O H W (.ok d) Q → canOwn d = true := fun h => h.2.2.2.1
  rcases ho with rfl | rfl
  · cases a <;> cases b <;> (first | exact h.2.2.2.elim | exact absurd (no h) (show ¬ (false = true) from Bool.noConfusion) | exact absurd (no h.cond.2) (show ¬ (false = true) from Bool.noConfusion) | skip)
    obtain ⟨t, vs, e1, q1, d1⟩ := ha.lst
    obtain ⟨t2, vs2, e2, q2, d2⟩ := hb.lst
    obtain ⟨hc, h⟩ := h.cond
    have l1 := d1.length
    have l2 := d2.length
    exact op_cat' pins s σ H x y v u Q I rx ry ⟨t, t2, vs, vs2, e1, e2, q1, q2, by omega, fun p hp => h.newL (d1.app d2) hp⟩
  · cases a <;> cases b <;> (first | exact h.2.2.2.elim | exact absurd (no h.cond.2) (show ¬ (false = true) from Bool.noConfusion) | skip)
    obtain ⟨t, vs, e1, q1, d1⟩ := ha.lst
    have e2 := hb.int
    obtain ⟨⟨hc1, hc2⟩, h⟩ := h.cond
    have l1 := d1.length
    have : big = 16777216 := rfl
    exact op_rep' pins s σ H x y v u Q I rx ry ⟨t, _, vs, e1, e2, q1, by omega, by omega, by rw [l1]; omega, fun p hp => h.newL (d1.rep _) hp⟩
end BB
end
section
set_option Elab.async false
set_option linter.all false
set_option maxRecDepth 100000
set_option maxHeartbeats 4000000
/-! Statements: readings, and what they lean on. -/
namespace BB
open PySem PySem.Spec PyProof.Rows L2
variable {G : Gc} {C : Ck} {cl : Cal} {mk : Mak} {W : WS} {X : Cx} {Γ : Fr} {σ : L2.St} {H H' Hv : Hp} {Q : VK} {O : List Addr}
/-- the frame further on -/
def Fr.on (Γ : Fr) (O : List Addr) (ω : List Nat) (ρ : Env) : Fr := { Γ with O := O, ω := ω, ρ := ρ }
/-- what is wanted behind a statement that ends so -/
def Fin (G : Gc) (Γ : Fr) (D : Ends) : Fl → Prop
  | .nx ρ ω => ∀ O σ' H', Rel G (Γ.on O ω ρ) σ' H' → D.nx σ' H'
  | .ct ρ ω => ∀ O σ' H', Rel G (Γ.on O ω ρ) σ' H' → D.ct σ' H'
  | .bk ρ ω => ∀ O σ' H', Rel G (Γ.on O ω ρ) σ' H' → D.bk σ' H'
  | .rt d ρ ω => ∀ O σ' H' v, Rel G (Γ.on O ω ρ) σ' H' → Den G (hid O H') d v → D.rt v H'
/-- an exception's way out of the frame -/
def RstF (G : Gc) (Γ : Fr) (E : XK) (c : Nat) (fs : Fs) : Prop := ∀ d H' gs, Grow G Γ.H0 H' → Dr G H' → H' d = some (.xd gs) → DenF G (hid Γ.O0 H') fs gs → E (.ref (G.cad c)) (some d) H'
theorem RstF.rst (R : Rel G Γ σ H) {E : XK} {c : Nat} {fs : Fs} (h : RstF G Γ E c fs) : Rst G Γ.O H E c fs := fun d H' gs g dr e f => h d H' gs (R.gr.trans g) dr e (f.mono (hid_mono R.sub))
/-- a statement's reading; E is the same at all slots -/
def tS (G : Gc) (cl : Cal) (mk : Mak) (E : XK) (s : S) : TS := fun D σ H => ∃ Γ, Rel G Γ σ H ∧ (ex G.T cl mk s Γ.ρ Γ.ω).wp (Fin G Γ D) (RstF G Γ E)
def tSs (G : Gc) (cl : Cal) (mk : Mak) (E : XK) (s : Ss) : TS := fun D σ H => ∃ Γ, Rel G Γ σ H ∧ (exs G.T cl mk s Γ.ρ Γ.ω).wp (Fin G Γ D) (RstF G Γ E)
/-- one owned thing is let go: it is data from now on -/
theorem Rel.release1 (r : Rel G Γ σ H) {i : Nat} (hi : i ∈ Γ.ω) (hm : ∀ d, Γ.ρ[i]? = some (some d) → fin d = d) : ∃ O', (∀ a ∈ O', a ∈ Γ.O) ∧ Rel G (Γ.on O' (minus Γ.ω [i]) Γ.ρ) σ H := by
  obtain ⟨d, p, e1, e2, e3, e4, e5, e6⟩ := r.own i hi
  have sub : ∀ a ∈ Γ.O.filter (fun a => a != p), a ∈ Γ.O := fun a ha => (List.mem_filter.mp ha).1
  have keep : ∀ a ∈ Γ.O, a ≠ p → a ∈ Γ.O.filter (fun a => a != p) := fun a ha hn => List.mem_filter.mpr ⟨ha, by simpa using hn⟩
  have gone : p ∉ Γ.O.filter (fun a => a != p) := fun z => by simpa using (List.mem_filter.mp z).2
  have up : Same (hid Γ.O H) (hid (Γ.O.filter (fun a => a != p)) H) := hid_mono sub
  refine ⟨Γ.O.filter (fun a => a != p), sub, ?_⟩
  refine ⟨r.gr, r.dr, keep _ r.drO e4.symm, fun a ha => keep a (r.sub a ha) (fun z => ?_), r.low, fun a ha => r.new a (sub a ha), fun a ha => r.live a (sub a ha), r.len, ?_, ?_, ?_, ?_⟩
  · subst z
    obtain ⟨o, q⟩ := r.low a ha
    rw [e5] at q; cases q
  · intro j d' h1 h2
    by_cases hj : j ∈ Γ.ω
    · have ej : j = i := by
        by_cases z : j = i
        · exact z
        · exact absurd (mem_minus.mpr ⟨hj, by simpa using z⟩) h1
      subst ej
      have h2 : Γ.ρ[j]? = some (some d') := h2
      have ed : d' = d := by rw [e1] at h2; cases h2; rfl
      subst ed
      refine ⟨_, e2, ?_⟩
      have t := (e6.mono up)
      have hh : hid (Γ.O.filter (fun a => a != p)) H p = H p := hid_out gone
      rw [← hh] at t
      have k := t.den
      rw [hm d' e1] at k
      exact k
    · obtain ⟨v, q1, q2⟩ := r.val j d' hj h2
      exact ⟨v, q1, q2.mono up⟩
  · intro j hj
    obtain ⟨h1, h2⟩ := mem_minus.mp (show j ∈ minus Γ.ω [i] from hj)
    obtain ⟨d', p', q1, q2, q3, q4, q5, q6⟩ := r.own j h1
    refine ⟨d', p', q1, q2, keep p' q3 (fun z => ?_), q4, q5, q6.mono up⟩
    subst z
    exact h2 (by simp [r.inj j h1 i hi (q2.trans e2.symm)])
  · intro j hj k hk e
    exact r.inj j (mem_minus.mp (show j ∈ minus Γ.ω [i] from hj)).1 k (mem_minus.mp (show k ∈ minus Γ.ω [i] from hk)).1 e
  · intro a c fs ha h0 e
    exact r.self a c fs ha (mem_minus.mp (show 0 ∈ minus Γ.ω [i] from h0)).1 e
end BB
end
section
set_option Elab.async false
set_option linter.all false
set_option maxRecDepth 100000
set_option maxHeartbeats 4000000
/-! Statements: names let go; slots stored. -/
namespace BB
open PySem PySem.Spec PyProof.Rows L2
variable {G : Gc} {C : Ck} {cl : Cal} {mk : Mak} {W : WS} {X : Cx} {Γ : Fr} {σ : L2.St} {H H' Hv : Hp} {Q : VK} {O : List Addr}
theorem minus_out {ω : List Nat} {i : Nat} (h : i ∉ ω) : minus ω [i] = ω := by
  unfold minus
  rw [List.filter_eq_self]
  intro j hj
  have : j ≠ i := fun z => h (z ▸ hj)
  simp [this]
theorem fin_of {ρ : Env} {i : Nat} {l : List Nat} (h : okLk ρ (i :: l) = true) : (∀ d, ρ[i]? = some (some d) → fin d = d) ∧ okLk ρ l = true := by
  unfold okLk at h ⊢
  rw [List.all_cons, Bool.and_eq_true] at h
  refine ⟨fun d e => ?_, h.2⟩
  have h1 := h.1
  rw [e] at h1
  cases d <;> first | rfl | exact absurd h1 (show ¬ (false = true) from Bool.noConfusion)
/-- all of these are let go -/
theorem Rel.release : ∀ (l : List Nat) {Γ : Fr}, Rel G Γ σ H → okLk Γ.ρ l = true → ∃ O', (∀ a ∈ O', a ∈ Γ.O) ∧ Rel G (Γ.on O' (minus Γ.ω l) Γ.ρ) σ H
  | [], Γ, r, _ => ⟨Γ.O, fun _ h => h, by rw [minus_nil]; exact r⟩
  | i :: l, Γ, r, ok => by
    obtain ⟨h1, h2⟩ := fin_of ok
    by_cases hi : i ∈ Γ.ω
    · obtain ⟨O1, s1, r1⟩ := r.release1 hi h1
      obtain ⟨O2, s2, r2⟩ := Rel.release l r1 h2
      refine ⟨O2, fun a ha => s1 a (s2 a ha), ?_⟩
      have e : minus (minus Γ.ω [i]) l = minus Γ.ω (i :: l) := minus_minus Γ.ω [i] l
      have r2 : Rel G (Γ.on O2 (minus (minus Γ.ω [i]) l) Γ.ρ) σ H := r2
      rwa [e] at r2
    · obtain ⟨O2, s2, r2⟩ := Rel.release l r h2
      refine ⟨O2, s2, ?_⟩
      have e : minus Γ.ω l = minus Γ.ω (i :: l) := by
        have := minus_minus Γ.ω [i] l
        rw [minus_out hi] at this
        exact this
      rwa [e] at r2
end BB
end
section
set_option Elab.async false
set_option linter.all false
set_option maxRecDepth 100000
set_option maxHeartbeats 4000000
/-! A slot gets a new thing; an owned thing is changed. -/
namespace BB
open PySem PySem.Spec PyProof.Rows L2
variable {G : Gc} {C : Ck} {cl : Cal} {mk : Mak} {W : WS} {X : Cx} {Γ : Fr} {σ : L2.St} {H H' Hv : Hp} {Q : VK} {O : List Addr}
theorem minus_congr {ω l m : List Nat} (h : ∀ j, j ∈ l ↔ j ∈ m) : minus ω l = minus ω m := by
  unfold minus
  congr 1
  funext j
  have : l.contains j = m.contains j := by
    rw [Bool.eq_iff_iff, List.contains_iff_mem, List.contains_iff_mem]
    exact h j
  rw [this]
/-- the slot i gets the new thing p -/
theorem Rel.putOwn (r : Rel G Γ σ H) {H1 : Hp} (g : Grow G H H1) (dr : Dr G H1) {i : Nat} {p : Addr} {d : D} (hi : i < Γ.ρ.length) (h0 : H p = none) (t : Top G (hid (p :: Γ.O) H1) p (H1 p) d) (hd : canOwn d = true) :
    Rel G (Γ.on (p :: Γ.O) (i :: minus Γ.ω [i]) (Γ.ρ.set i (some d))) (σ.set i (some (.ref p))) H1 := by
  have hn := r.fresh h0
  have hdr : p ≠ G.dr := (r.dr.dne h0).1.symm
  have z0 : Γ.H0 p = none := by
    cases e : Γ.H0 p with
    | none => rfl
    | some u => exact absurd ((r.gr p u hdr e).symm.trans h0) (by simp)
  have sm : Same (hid Γ.O H) (hid (p :: Γ.O) H1) := fun a o e => by
    obtain ⟨h1, h2⟩ := hid_some e
    have ne : a ≠ p := ne_of_none h2 h0
    rw [hid_out (by rw [List.mem_cons, not_or]; exact ⟨ne, h1⟩)]
    exact g a o (fun z => h1 (z ▸ r.drO)) h2
  have live1 : ∃ o, H1 p = some o := by
    cases e : H1 p with
    | some o => exact ⟨o, rfl⟩
    | none =>
      rw [e] at t
      cases d with
      | lst l => obtain ⟨_, e, _⟩ := t; cases e
      | dct l => obtain ⟨_, _, e, _⟩ := t; cases e
      | me c fs => obtain ⟨_, _, _, e, _⟩ := t; cases e
      | _ => exact t.elim
  have hiσ : i < σ.length := by rw [← r.len]; exact hi
  have other : ∀ j, i ≠ j → (Γ.ρ.set i (some d))[j]? = Γ.ρ[j]? ∧ (σ.set i (some (.ref p)))[j]? = σ[j]? := fun j hj => ⟨List.getElem?_set_ne hj, List.getElem?_set_ne hj⟩
  refine ⟨r.gr.trans g, dr, List.mem_cons_of_mem _ r.drO, fun a ha => List.mem_cons_of_mem _ (r.sub a ha), r.low, (fun a ha => by
    rcases List.mem_cons.mp (show a ∈ p :: Γ.O from ha) with q | q
    · exact .inr (q ▸ z0)
    · exact r.new a q), ?_, ?_, ?_, ?_, ?_, ?_⟩
  · intro a ha
    rcases List.mem_cons.mp (show a ∈ p :: Γ.O from ha) with z | z
    · subst z; exact live1
    · obtain ⟨o, e⟩ := (r.grow g dr).live a z
      exact ⟨o, e⟩
  · show (Γ.ρ.set i (some d)).length = _
    rw [List.length_set, List.length_set]; exact r.len
  · intro j d' h1 h2
    have h1 : j ∉ i :: minus Γ.ω [i] := h1
    rw [List.mem_cons, not_or] at h1
    have hj : i ≠ j := fun z => h1.1 z.symm
    have h2 : (Γ.ρ.set i (some d))[j]? = some (some d') := h2
    rw [(other j hj).1] at h2
    obtain ⟨v, e1, e2⟩ := r.val j d' (fun z => h1.2 (mem_minus.mpr ⟨z, by simpa using h1.1⟩)) h2
    exact ⟨v, (other j hj).2.trans e1, e2.mono sm⟩
  · intro j hj
    rcases List.mem_cons.mp (show j ∈ i :: minus Γ.ω [i] from hj) with z | z
    · subst z
      exact ⟨d, p, List.getElem?_set_self hi, List.getElem?_set_self hiσ, List.mem_cons_self, hdr, z0, t⟩
    · obtain ⟨h1, h2⟩ := mem_minus.mp z
      have hj : i ≠ j := fun q => h2 (by simp [q])
      obtain ⟨d', p', e1, e2, e3, e4, e5, e6⟩ := r.own j h1
      refine ⟨d', p', (other j hj).1.trans e1, (other j hj).2.trans e2, List.mem_cons_of_mem _ e3, e4, e5, ?_⟩
      obtain ⟨o, q⟩ := r.live p' e3
      rw [g p' o e4 q, ← q]
      exact e6.mono sm
  · intro j hj k hk e
    have own : ∀ j, j ∈ minus Γ.ω [i] → (σ.set i (some (.ref p)))[j]? ≠ some (some (.ref p)) := fun j hj e => by
      obtain ⟨h1, h2⟩ := mem_minus.mp hj
      have hj : i ≠ j := fun q => h2 (by simp [q])
      obtain ⟨d', p', e1, e2, e3, _⟩ := r.own j h1
      rw [(other j hj).2, e2] at e
      cases e
      exact hn e3
    rcases List.mem_cons.mp (show j ∈ i :: minus Γ.ω [i] from hj) with z | z <;> rcases List.mem_cons.mp (show k ∈ i :: minus Γ.ω [i] from hk) with y | y
    · rw [z, y]
    · subst z
      rw [List.getElem?_set_self hiσ] at e
      exact absurd e.symm (own k y)
    · subst y
      rw [List.getElem?_set_self hiσ] at e
      exact absurd e (own j z)
    · obtain ⟨h1, h2⟩ := mem_minus.mp z
      obtain ⟨h3, h4⟩ := mem_minus.mp y
      rw [(other j fun q => h2 (by simp [q])).2, (other k fun q => h4 (by simp [q])).2] at e
      exact r.inj j h1 k h3 e
  · intro a c fs ha hz e
    have e : (Γ.ρ.set i (some d))[0]? = some (some (.me c fs)) := e
    by_cases z : i = 0
    · subst z
      rw [List.getElem?_set_self hi] at e
      cases e
      exact absurd hd (show ¬ (false = true) from Bool.noConfusion)
    · rw [(other 0 z).1] at e
      rw [(other 0 z).2]
      rcases List.mem_cons.mp (show 0 ∈ i :: minus Γ.ω [i] from hz) with q | q
      · exact absurd q.symm z
      · exact r.self a c fs ha (mem_minus.mp q).1 e
/-- the owned thing behind slot i is changed -/
theorem Rel.write (r : Rel G Γ σ H) {i : Nat} {p : Addr} {d d' : D} {o : HO} (hi : i ∈ Γ.ω) (e1 : Γ.ρ[i]? = some (some d)) (e2 : σ[i]? = some (some (.ref p))) (t : Top G (hid Γ.O H) p (some o) d') (hm : ∀ c fs, d' = .me c fs → ∃ c0 fs0, d = .me c0 fs0) :
    Rel G (Γ.on Γ.O Γ.ω (Γ.ρ.set i (some d'))) σ (upd H p o) := by
  obtain ⟨d0, p0, q1, q2, q3, q4, q5, q6⟩ := r.own i hi
  rw [e1] at q1
  cases q1
  rw [e2] at q2
  cases q2
  have hiρ : i < Γ.ρ.length := (List.getElem?_eq_some_iff.mp e1).1
  have hv : hid Γ.O (upd H p o) = hid Γ.O H := by
    funext a
    unfold hid
    by_cases h : a ∈ Γ.O
    · rw [if_pos h, if_pos h]
    · rw [if_neg h, if_neg h, upd_ne (fun z => h (by rw [z]; exact q3))]
  have hsa : G.sa ≠ p := fun z => by
    obtain ⟨_, _, _, ob, ns, e, _⟩ := r.dr
    rw [z] at e
    rw [e] at q6
    cases d with
    | lst l => obtain ⟨_, e, _⟩ := q6; cases e
    | dct l => obtain ⟨_, _, e, _⟩ := q6; cases e
    | me c fs => obtain ⟨_, _, _, e, _⟩ := q6; cases e
    | _ => exact q6.elim
  refine ⟨fun a u n e => by rw [upd_ne (ne_of_none e q5)]; exact r.gr a u n e, r.dr.upd ⟨q4.symm, hsa⟩, r.drO, r.sub, r.low, r.new, ?_, ?_, ?_, ?_, r.inj, ?_⟩
  · intro a ha
    by_cases z : a = p
    · subst z; exact ⟨o, upd_same⟩
    · rw [upd_ne z]; exact r.live a ha
  · show (Γ.ρ.set i (some d')).length = _
    rw [List.length_set]; exact r.len
  · intro j d2 h1 h2
    have hj : i ≠ j := fun z => h1 (by rw [← z]; exact hi)
    have h2 : (Γ.ρ.set i (some d'))[j]? = some (some d2) := h2
    rw [List.getElem?_set_ne hj] at h2
    obtain ⟨v, k1, k2⟩ := r.val j d2 h1 h2
    refine ⟨v, k1, ?_⟩
    show Den G (hid Γ.O (upd H p o)) d2 v
    rw [hv]; exact k2
  · intro j hj
    by_cases z : i = j
    · subst z
      refine ⟨d', p, List.getElem?_set_self hiρ, e2, q3, q4, q5, ?_⟩
      show Top G (hid Γ.O (upd H p o)) p (upd H p o p) d'
      rw [hv, upd_same]; exact t
    · obtain ⟨d2, p2, k1, k2, k3, k4, k5, k6⟩ := r.own j hj
      refine ⟨d2, p2, (List.getElem?_set_ne z).trans k1, k2, k3, k4, k5, ?_⟩
      have ne : p2 ≠ p := fun q => z (r.inj i hi j hj (by rw [e2, k2, q]))
      show Top G (hid Γ.O (upd H p o)) p2 (upd H p o p2) d2
      rw [hv, upd_ne ne]; exact k6
  · intro a c fs ha hz e
    have e : (Γ.ρ.set i (some d'))[0]? = some (some (.me c fs)) := e
    by_cases z : i = 0
    · subst z
      rw [List.getElem?_set_self hiρ] at e
      cases e
      obtain ⟨c0, fs0, e0⟩ := hm c fs rfl
      exact r.self a c0 fs0 ha hz (by rw [e1, e0])
    · rw [List.getElem?_set_ne z] at e
      exact r.self a c fs ha hz e
end BB
end
section
set_option Elab.async false
set_option linter.all false
set_option maxRecDepth 100000
set_option maxHeartbeats 4000000
/-! The checker of statements; a frame told anew. -/
namespace BB
open PySem PySem.Spec PyProof.Rows L2
variable {G : Gc} {C : Ck} {cl : Cal} {mk : Mak} {W : WS} {X : Cx} {Γ : Fr} {σ : L2.St} {H H' Hv : Hp} {Q : VK} {O : List Addr}
/-- name = v is stored ahead of the block's end -/
def swB (sc : Scope) (x : PySem.Str) (p : Pos) : Ex → Bool
  | .ListComp _ _ s q => sc.names.lookup x == some .local && p.line == q.line && !(s.names.any fun (n, k) => n == x && (k == .local || k == .cell))
  | .SetComp _ _ s q => sc.names.lookup x == some .local && p.line == q.line && !(s.names.any fun (n, k) => n == x && (k == .local || k == .cell))
  | .DictComp _ _ _ s q => sc.names.lookup x == some .local && p.line == q.line && !(s.names.any fun (n, k) => n == x && (k == .local || k == .cell))
  | _ => false
theorem block_fun {env : PySem.Env} (hk : env.scope.kind = .function) : env.blockKind = .function := by unfold Env.blockKind; rw [hk]; rfl
theorem sw_name {env : PySem.Env} (hk : env.scope.kind = .function) (x : PySem.Str) (p : Pos) (v : Ex) (l : Nat) : swapsWith v (some (.Name x p)) l env = pure (swB env.scope x p v) := by
  have hb := block_fun hk
  unfold swapsWith swB
  cases v <;> first
    | rfl
    | (simp only [hb, Expr.pos]
       rfl)
theorem sw_none {env : PySem.Env} {v : Ex} (h : isComp v = false) (hs : ∀ a b c d, v ≠ .SetComp a b c d) (l : Nat) : swapsWith v none l env = pure false := by
  unfold swapsWith
  cases v <;> first
    | rfl
    | exact absurd h (show ¬ (true = false) from Bool.noConfusion)
    | exact absurd rfl (hs _ _ _ _)
theorem sw_att {env : PySem.Env} {v : Ex} {o : Ex} {f : PySem.Str} {p : Pos} (l : Nat) : swapsWith v (some (.Attribute o f p)) l env = pure false := by
  unfold swapsWith
  cases v <;> rfl
theorem sw_tup {env : PySem.Env} {v : Ex} {es : List Ex} {k : Nat} {p : Pos} (l : Nat) : swapsWith v (some (.Tuple es k p)) l env = pure false := by
  unfold swapsWith
  cases v <;> rfl
/-- no pair is stored from the right -/
def noSw : Ex → Ex → Bool
  | .Tuple ts _ _, .Tuple vs _ _ => !(ts.length == 2 || ts.length == 3) || (vs.all (foldedForSure 8) && !vs.any isStar)
  | .Tuple _ _ _, _ => true
  | _, _ => false
theorem noSw_ok {env : PySem.Env} {tg v : Ex} (h : noSw tg v = true) : swappedStores [tg] v env = pure none := by
  unfold noSw at h
  split at h
  · rename_i ts a b vs c d
    unfold swappedStores
    dsimp only
    rcases Bool.or_eq_true_iff.mp h with h | h
    · rw [h]; rfl
    · obtain ⟨h1, h2⟩ := ands h
      split
      · rfl
      · split
        · rfl
        · split
          · rfl
          · first | rfl | (rw [h1]; rfl)
  · rename_i hv
    unfold swappedStores
    cases v <;> first | rfl | exact (hv _ _ _ rfl).elim
  · cases h
def nmB (C : Ck) (sc : Scope) (i : Nat) (x : PySem.Str) : Bool := decide (C.N[i]? = some x) && mayB C.N sc i
def locB (sc : Scope) (x : PySem.Str) : Bool := sc.names.lookup x == some .local
/-- the pair is stored from the right -/
def swp2 (sc : Scope) (x : PySem.Str) (px : Pos) (y : PySem.Str) (py : Pos) (a b : Ex) : Bool :=
  locB sc x && locB sc y && py.line == px.line && !(x == y) && !isStar a && !isStar b && ![a, b].all (foldedForSure 8) && ![a, b].all (constantsAlone 8)
def swp3 (sc : Scope) (x : PySem.Str) (px : Pos) (y : PySem.Str) (py : Pos) (z : PySem.Str) (pz : Pos) (a b c : Ex) : Bool :=
  locB sc x && locB sc y && locB sc z && py.line == px.line && pz.line == px.line && !(x == y) && !(x == z) && !(y == z) && !isStar a && !isStar b && !isStar c && ![a, b, c].all (foldedForSure 8) && ![a, b, c].all (constantsAlone 8)
mutual
/-- the statement is S, in the scope sc -/
def chkS (C : Ck) (sc : Scope) : S → St1 → Bool
  | .pass, .Pass _ => true
  | .brk, .Break _ => true
  | .cont, .Continue _ => true
  | .asg i own e, .Assign [.Name x _] v _ => nmB C sc i x && chk C sc e v
  | .asgP p e, .Assign [.Tuple es k q] v _ => chkP C.N p (.Tuple es k q) && p.names.all (mayB C.N sc) && chk C sc e v && noSw (.Tuple es k q) v
  | .par [(i, false), (j, false)] es, .Assign [.Tuple [.Name x px, .Name y py] _ _] (.Tuple [a, b] _ _) _ => decide (C.N[i]? = some x) && decide (C.N[j]? = some y) && chks C sc es [a, b] && swp2 sc x px y py a b
  | .par [(i, false), (j, false), (l, false)] es, .Assign [.Tuple [.Name x px, .Name y py, .Name z pz] _ _] (.Tuple [a, b, c] _ _) _ => decide (C.N[i]? = some x) && decide (C.N[j]? = some y) && decide (C.N[l]? = some z) && chks C sc es [a, b, c] && swp3 sc x px y py z pz a b c
  | .setF i f e, .Assign [.Attribute (.Name x p) y _] v _ => decide (C.N[i]? = some x) && visB sc x && okName x && decide (C.nm[f]? = some y) && chk C sc e v
  | .expr e, .Expr v _ => chk C sc e v && !isComp v
  | .ret e, .Return (some v) _ => chk C sc e v
  | .retN, .Return none _ => true
  | .ite c a b, .If t p q _ => chk C sc c t && chkSs C sc a p && chkSs C sc b q
  | .for_ p it body, .For tg src suite [] _ => chkP C.N p tg && p.names.all (mayB C.N sc) && tgOk it tg && chkI C sc it src && chkSs C sc body suite
  | .while_ c body, .While t suite [] _ => chk C sc c t && chkSs C sc body suite
  | .bad, _ => true
  | _, _ => false
def chkSs (C : Ck) (sc : Scope) : Ss → List St1 → Bool
  | .nil, [] => true
  | .cons s r, x :: l => chkS C sc s x && chkSs C sc r l
  | _, _ => false
end
/-! ### a frame told anew: what stands now -/
def refOf : Option (Option V) → Option Addr
  | some (some (V.ref p)) => some p
  | _ => none
theorem refOf_eq {o : Option (Option V)} {p : Addr} : refOf o = some p ↔ o = some (some (V.ref p)) := by
  constructor
  · intro h
    unfold refOf at h
    split at h
    · cases h; rfl
    · cases h
  · rintro rfl; rfl
def ownL (σ : L2.St) (ω : List Nat) : List Addr := ω.filterMap fun i => refOf σ[i]?
theorem mem_ownL {ω : List Nat} {p : Addr} : p ∈ ownL σ ω ↔ ∃ i ∈ ω, σ[i]? = some (some (.ref p)) := by
  unfold ownL
  rw [List.mem_filterMap]
  constructor
  · rintro ⟨i, hi, e⟩
    exact ⟨i, hi, refOf_eq.mp e⟩
  · rintro ⟨i, hi, e⟩
    exact ⟨i, hi, refOf_eq.mpr e⟩
def Fr.base (Γ : Fr) (σ : L2.St) (H : Hp) : Fr := { Γ with H0 := hid (ownL σ Γ.ω) H, O0 := Γ.O.filter fun a => !(ownL σ Γ.ω).contains a }
theorem mem_base {a : Addr} {L : List Addr} {O : List Addr} : a ∈ O.filter (fun a => !L.contains a) ↔ a ∈ O ∧ a ∉ L := by
  rw [List.mem_filter]
  simp
theorem Rel.ownIn (r : Rel G Γ σ H) {p : Addr} (h : p ∈ ownL σ Γ.ω) : p ∈ Γ.O ∧ p ≠ G.dr ∧ Γ.H0 p = none := by
  obtain ⟨i, hi, e⟩ := mem_ownL.mp h
  obtain ⟨d, q, _, e2, e3, e4, e5, _⟩ := r.own i hi
  rw [e] at e2
  cases e2
  exact ⟨e3, e4, e5⟩
theorem Rel.base (r : Rel G Γ σ H) : Rel G (Γ.base σ H) σ H where
  gr := fun a o _ e => (hid_some e).2
  dr := r.dr
  drO := r.drO
  sub := fun a ha => (mem_base.mp ha).1
  low := fun a ha => by
    obtain ⟨h1, h2⟩ := mem_base.mp ha
    obtain ⟨o, e⟩ := r.live a h1
    exact ⟨o, (hid_out h2).trans e⟩
  new := fun a ha => by
    by_cases h : a ∈ ownL σ Γ.ω
    · exact .inr (hid_in h)
    · exact .inl (mem_base.mpr ⟨ha, h⟩)
  live := r.live
  len := r.len
  val := r.val
  own := fun i hi => by
    obtain ⟨d, p, e1, e2, e3, e4, e5, e6⟩ := r.own i hi
    exact ⟨d, p, e1, e2, e3, e4, hid_in (mem_ownL.mpr ⟨i, hi, e2⟩), e6⟩
  inj := r.inj
  self := r.self
/-- and back -/
theorem Rel.unbase (r : Rel G Γ σ H) {O : List Addr} {ω : List Nat} {ρ : Env} {σ' : L2.St} (k : Rel G ((Γ.base σ H).on O ω ρ) σ' H') : Rel G (Γ.on O ω ρ) σ' H' := by
  have low : ∀ a o, Γ.H0 a = some o → a ∉ ownL σ Γ.ω := fun a o e z => by
    obtain ⟨_, _, h⟩ := r.ownIn z
    rw [e] at h; cases h
  have back : ∀ a, a ≠ G.dr → (Γ.base σ H).H0 a = none → Γ.H0 a = none := fun a n e => by
    cases q : Γ.H0 a with
    | none => rfl
    | some o =>
      have : hid (ownL σ Γ.ω) H a = some o := (hid_out (low a o q)).trans (r.gr a o n q)
      rw [show hid (ownL σ Γ.ω) H a = none from e] at this
      cases this
  refine ⟨fun a o n e => k.gr a o n ((hid_out (low a o e)).trans (r.gr a o n e)), k.dr, k.drO, fun a ha => k.sub a (mem_base.mpr ⟨r.sub a ha, ?_⟩), r.low, fun a ha => ?_, k.live, k.len, k.val, fun i hi => ?_, k.inj, k.self⟩
  · obtain ⟨o, e⟩ := r.low a ha
    exact low a o e
  · by_cases z : a = G.dr
    · subst z; exact r.new _ r.drO
    · rcases k.new a ha with h | h
      · exact r.new a (mem_base.mp h).1
      · exact .inr (back a z h)
  · obtain ⟨d, p, e1, e2, e3, e4, e5, e6⟩ := k.own i hi
    exact ⟨d, p, e1, e2, e3, e4, back p e4 e5, e6⟩
theorem Fin.base (r : Rel G Γ σ H) {D : Ends} {fl : Fl} (h : Fin G Γ D fl) : Fin G (Γ.base σ H) D fl := by
  cases fl with
  | nx ρ ω => exact fun O σ' H' k => h O σ' H' (r.unbase k)
  | ct ρ ω => exact fun O σ' H' k => h O σ' H' (r.unbase k)
  | bk ρ ω => exact fun O σ' H' k => h O σ' H' (r.unbase k)
  | rt d ρ ω => exact fun O σ' H' v k => h O σ' H' v (r.unbase k)
theorem RstF.base (r : Rel G Γ σ H) {E : XK} {c : Nat} {fs : Fs} (h : RstF G Γ E c fs) : RstF G (Γ.base σ H) E c fs := fun d H' gs g dr e f => by
  have low : ∀ a o, Γ.H0 a = some o → a ∉ ownL σ Γ.ω := fun a o e z => by
    obtain ⟨_, _, h⟩ := r.ownIn z
    rw [e] at h; cases h
  refine h d H' gs (fun a o n e => g a o n ((hid_out (low a o e)).trans (r.gr a o n e))) dr e (f.mono (hid_mono fun a ha => mem_base.mpr ⟨r.sub a ha, ?_⟩))
  obtain ⟨o, e⟩ := r.low a ha
  exact low a o e
/-- what is seen at the start is seen on -/
theorem Rel.still (r : Rel G Γ σ H) {O : List Addr} {ω : List Nat} {ρ : Env} {σ' : L2.St} (k : Rel G ((Γ.base σ H).on O ω ρ) σ' H') : Same (hid Γ.O H) (hid O H') := fun a o e => by
  obtain ⟨h1, h2⟩ := hid_some e
  have n : a ≠ G.dr := fun z => h1 (z ▸ r.drO)
  have nl : a ∉ ownL σ Γ.ω := fun z => h1 (r.ownIn z).1
  have e0 : (Γ.base σ H).H0 a = some o := (hid_out nl).trans h2
  have no : a ∉ O := fun z => by
    rcases k.new a z with q | q
    · exact h1 (mem_base.mp q).1
    · have q : (Γ.base σ H).H0 a = none := q
      rw [e0] at q; cases q
  rw [hid_out no]
  exact k.gr a o n e0
end BB
end
section
set_option Elab.async false
set_option linter.all false
set_option maxRecDepth 100000
set_option maxHeartbeats 4000000
/-! Expressions that make a new list or dict: nobody else has it. -/
namespace BB
open PySem PySem.Spec PyProof.Rows L2
variable {G : Gc} {C : Ck} {cl : Cal} {mk : Mak} {W : WS} {X : Cx} {Γ : Fr} {σ : L2.St} {H H' Hv : Hp} {Q : VK} {O : List Addr}
theorem lcF_imp {e : E} {p : Pat} {it : It} {cs : Es} (h : tF G cl mk W (.lc e p it cs) σ H Q) :
    tLc (tI G cl mk W true it) (gP G p) (tTs G cl mk W0 cs) (tE G cl mk W0 false e) p.names σ H Q := by
  obtain ⟨Γ, R, lk, w⟩ := h
  have lk : ∀ j ∈ BB.lk e ++ lkI it ++ lksB cs, j ∉ Γ.ω := lk
  refine lc_gen (m := true) (K := fun r => r.length ≤ big ∧ Wn G Γ.O H Q (.lst r)) R lk (Res.wp_mono (fun l q => ?_) (fun _ _ q => q) (Res.wp_bind.mp w)) (fun _ h => h.1) fun r A vs H2 k hA ho g d e dl => ?_
  · exact Res.wp_mono (fun r h => wp_if h) (fun _ _ q => q) (Res.wp_calm (Res.wp_bind.mp q))
  · exact k.2.2 A H2 hA ho g d ⟨vs, e, dl⟩
theorem lc2F_imp {e : E} {p p2 : Pat} {it it2 : It} {cs cs2 : Es} (h : tF G cl mk W (.lc2 e p it cs p2 it2 cs2) σ H Q) :
    tLc2 (tI G cl mk W true it) (gP G p) (tTs G cl mk W0 cs) (tI G cl mk W0 false it2) (gP G p2) (tTs G cl mk W0 cs2) (tE G cl mk W0 false e) (p.names ++ p2.names) p2.names σ H Q := by
  obtain ⟨Γ, R, lk, w⟩ := h
  have lk : ∀ j ∈ BB.lk e ++ lkI it ++ lksB cs ++ lkF it2 ++ lksB cs2, j ∉ Γ.ω := lk
  refine lc2_gen (m := true) (K := fun r => r.length ≤ big ∧ Wn G Γ.O H Q (.lst r)) R lk (f2 := fun ρ' d2 => match p2.bind d2 (wipeE p2.names ρ') with
      | none => Res.stuck
      | some ρ2 => (evT G.T cl mk cs2 ρ2).bind fun t => if t then (ev G.T cl mk e ρ2).bind fun x => Res.ok [x] else Res.ok []) (fun _ _ => rfl) (fun _ => rfl) (Res.wp_mono (fun l q => ?_) (fun _ _ q => q) (Res.wp_bind.mp w)) (fun _ h => h.1) fun r A vs H2 k hA ho g d e dl => ?_
  · exact Res.wp_mono (fun r h => wp_if h) (fun _ _ q => q) (Res.wp_calm (Res.wp_bind.mp q))
  · exact k.2.2 A H2 hA ho g d ⟨vs, e, dl⟩
theorem dcF_imp {k v : E} {p : Pat} {it : It} {cs : Es} (h : tF G cl mk W (.dc k v p it cs) σ H Q) :
    tGd G (tI G cl mk W true it) (gP G p) (tTs G cl mk W0 cs) (tE G cl mk W0 false k) (tE G cl mk W0 false v) p.names σ H Q := by
  obtain ⟨Γ, R, lk, w⟩ := h
  have lk : ∀ j ∈ BB.lk k ++ BB.lk v ++ lkI it ++ lksB cs, j ∉ Γ.ω := lk
  refine dc_gen (m := true) (K := fun r => (keysOk (kvOf r) = true ∧ r.length ≤ big) ∧ Wn G Γ.O H Q (.dct (puts [] (kvOf r)))) R lk (fun _ => rfl) (Res.wp_mono (fun l q => ?_) (fun _ _ q => q) (Res.wp_bind.mp w)) (fun _ h => h.1) fun ps A es ep H2 k hA ho g d e sys good dl => ?_
  · exact Res.wp_mono (fun r h => by
      obtain ⟨h1, h2⟩ := wp_if h
      obtain ⟨h1, h3⟩ := ands h1
      exact ⟨⟨h1, Nat.le_of_ble_eq_true h3⟩, h2⟩) (fun _ _ q => q) (Res.wp_calm (Res.wp_bind.mp q))
  · have hq := k.2
    rw [kvOf_map] at hq
    exact hq.2 A H2 hA ho g d ⟨es, ep, e, sys, good, dl⟩
/-- a new list just laid -/
theorem newF {Γ : Fr} {σ : L2.St} (R : Rel G Γ σ H) {H1 : Hp} (g : Grow G H H1) (dr : Dr G H1) {l : List D} {vs : List V} (h : Wn G Γ.O H Q (.lst l)) (e : DenL G (hid Γ.O H1) l vs) {p : Addr} (hp : H1 p = none) : Q (.ref p) (upd H1 p (.lst vs)) := by
  have R1 := R.grow g dr
  have h0 : H p = none := by
    cases z : H p with
    | none => rfl
    | some u => exact absurd ((g p u (dr.dne hp).1.symm z).symm.trans hp) (by simp)
  exact h.2 p _ h0 (R1.fresh hp) (g.trans (Grow.new hp)) (dr_new dr hp) ⟨vs, upd_same, by rw [hid_upd]; exact e.mono (hid_cons hp)⟩
theorem lstF_imp {es : Es} (h : tF G cl mk W (.lst es) σ H Q) : tA G cl mk W false es σ H fun vs H1 => vs.length ≤ sizeLine ∧ ∀ p, H1 p = none → Q (.ref p) (upd H1 p (.lst vs)) := by
  obtain ⟨Γ, R, lk, w⟩ := h
  refine args_tA (m := false) (es := es) R lk w fun ds vs H1 g d s q => ?_
  obtain ⟨c, q⟩ := wp_if q
  have s : DenL G (hid Γ.O H1) ds vs := s
  exact ⟨by rw [s.length, ← big_line]; exact c, fun p hp => newF R g d q s hp⟩
theorem dctF_imp {kvs : Ks} {trs : List (TE × TE)} (ht : ∀ σ H Q, tK G cl mk W kvs σ H Q → tPairs trs σ H Q) (h : tF G cl mk W (.dct kvs) σ H Q) : tGdisp G trs σ H Q := by
  obtain ⟨Γ, R, lk, w⟩ := h
  have lk : ∀ j ∈ lkK kvs, j ∉ Γ.ω := lk
  intro p hp sys
  obtain ⟨Rb, cb, h0⟩ := R.block (o := DicO p [] 0) [] (Grow.refl H) R.dr hp
  have ew : wipe σ [] = σ := rfl
  rw [ew] at Rb
  refine ht σ _ _ ⟨Γ.blk p [], Rb, lk_minus lk, Res.wp_mono (fun ps q us H' g dr dp => ?_) (fun c x q => q.block hp) (Res.wp_bind.mp w)⟩
  have dp : DenP G (hid (p :: Γ.O) H') ps us := dp
  have hsa := R.dr.dne hp
  obtain ⟨k1, q⟩ := wp_if q
  obtain ⟨k1, k2⟩ := ands k1
  refine ⟨g p _ hsa.1.symm upd_same, hid (p :: Γ.O) H', ps, hid_le, hid_in List.mem_cons_self, dp, k1, of_decide_eq_true k2, fun es ep good dl => ?_⟩
  exact q.2 p _ hp (R.fresh hp) (fun a o n e => by rw [upd_ne (ne_of_none e hp)]; exact g a o n (by rw [upd_ne (ne_of_none e hp)]; exact e)) (dr.upd hsa) ⟨es, ep, upd_same, sys, good, by rw [hid_upd]; exact dl⟩
theorem dctF_nil (h : tF G cl mk W (.dct .nil) σ H Q) : ∀ p, H p = none → (p == sysModules) = false → Q (.ref p) (upd H p (DicO p [] 0)) := by
  obtain ⟨Γ, R, lk, w⟩ := h
  intro p hp sys
  exact w.2 p _ hp (R.fresh hp) (Grow.new hp) (dr_new R.dr hp) ⟨[], 0, upd_same, sys, ⟨rfl, rfl, Nat.zero_le _⟩, rfl⟩
end BB
end
section
set_option Elab.async false
set_option linter.all false
set_option maxRecDepth 100000
set_option maxHeartbeats 4000000
/-! Every checked expression does what the interpreter says. -/
namespace BB
open PySem PySem.Spec PyProof.Rows L2
variable {G : Gc} {C : Ck} {cl : Cal} {mk : Mak} {W : WS} {X : Cx} {Γ : Fr} {σ : L2.St} {H : Hp} {Q : VK}
theorem pg_of {p : Pat} {tg : Ex} (RL : Rl G cl C X) (h : chkP X.N p tg = true) (k : ∀ i ∈ p.names, MayPut X i) : PG X tg (gP G p) := pg_pat RL.K RL.calm RL.nd p tg h k
theorem ownOfP_snd (ns : List Nat) : (ownOfP C ns).map (·.2) = ns := by unfold ownOfP; rw [List.map_map]; exact List.map_id ns
theorem mayB_of {ns : List Nat} {sc scope : Scope} (hN : X.N = C.N) (hs : X.env.scope = relS scope sc) (hf : ∀ x, X.fn x = (scope.names.lookup x == some .cell)) (h : ns.all (mayB C.N scope) = true) : ∀ i ∈ ns, MayPut X i := fun i hi x hx => by
  have h := List.all_eq_true.mp h i hi
  rw [hN] at hx
  unfold mayB at h
  rw [hx] at h
  have h : (match scope.names.lookup x with | some .local => true | some .cell => true | _ => false) = true := h
  rw [hf, hs]
  split at h
  · rename_i e
    have k := lookup_relS_keep (sc := sc) (by simp) e
    exact ⟨.inl k, .inr k⟩
  · rename_i e
    have k := lookup_relS_keep (sc := sc) (by simp) e
    exact ⟨.inr k, .inl (by rw [e]; rfl)⟩
  · cases h
theorem set_of {it : It} {src : Ex} {sc : Scope} {env : PySem.Env} (h : chkI C sc it src = true) : ∀ x, foldedSetIterable src env x = pure x := by
  intro x
  cases src <;> first | rfl | skip
  cases it <;> first | exact absurd h (show ¬ (false = true) from Bool.noConfusion) | skip
  exact absurd (ands (show (_ && false) = true from h)).2 Bool.noConfusion
theorem chkd_len {sc : Scope} : ∀ {kvs : Ks} {ks : List (Option Ex)} {vs : List Ex}, chkd C sc kvs ks vs = true → ks.length = vs.length ∧ ks.all (·.isSome) = true
  | .nil, [], [], _ => ⟨rfl, rfl⟩
  | .cons k v r, some x :: ks, y :: vs, h => by
    obtain ⟨h1, h3⟩ := ands (show (chk C sc k x && chk C sc v y && chkd C sc r ks vs) = true from h)
    obtain ⟨l1, l2⟩ := chkd_len h3
    exact ⟨by rw [List.length_cons, List.length_cons, l1], by rw [List.all_cons, l2]; rfl⟩
  | .nil, _ :: _, _, h => absurd h (show ¬ (false = true) from Bool.noConfusion)
  | .nil, [], _ :: _, h => absurd h (show ¬ (false = true) from Bool.noConfusion)
  | .cons _ _ _, [], _, h => absurd h (show ¬ (false = true) from Bool.noConfusion)
  | .cons _ _ _, none :: _, _, h => absurd h (show ¬ (false = true) from Bool.noConfusion)
  | .cons _ _ _, some _ :: _, [], h => absurd h (show ¬ (false = true) from Bool.noConfusion)
theorem bin_F {op : Bop} {a b : E} (h : tF G cl mk W (.bin op a b) σ H Q) : tOp (rBinF G op) (tE G cl mk W true a) (tE G cl mk W true b) σ H Q := by
  obtain ⟨Γ, R, lk, w⟩ := h
  have lk : ∀ i ∈ lkB a ++ lkB b, i ∉ Γ.ω := lk
  refine two_tE (m1 := true) (m2 := true) (a := a) (b := b) R (lk_l lk) (lk_r lk) w fun d e v u H1 g dr s1 s2 q => ?_
  refine ⟨Γ.O, W σ, d, e, s1.vw, s2.vw, R.drO, (R.grow g dr).live, dr, Res.wp_mono (fun z k => ⟨k.1, fun p H' hp ho g2 d2 t => ?_⟩) (fun _ _ k => k.grow g) q⟩
  have h0 : H p = none := by
    cases z : H p with
    | none => rfl
    | some u => exact absurd ((g p u (dr.dne hp).1.symm z).symm.trans hp) (by simp)
  exact k.2 p H' h0 ho (g.trans g2) d2 t
section
variable (cx : Cx → WS → Prop)
  (hb : ∀ X W s H scope cells D fp own, cx X W → BlkOk X.N X.env.scope scope own → cx (X.blk s H scope (compEnvC scope cells D X.env) fp) (fun _ _ _ _ => False))
  (R1 : ∀ X W, cx X W → Rl G cl C X) (R2 : ∀ X W, cx X W → RlW G cl mk C W X)
include hb R1 R2
mutual
theorem sE : ∀ (a : E) (e : Ex) (sc : Scope), chk C sc a e = true → ∀ (X : Cx) (W : WS), cx X W → X.env.scope = sc → Bth G cl mk W X a e
  | .bad, e, sc, h, X, W, hx, hs => Bth.bad
  | .var i, e, sc, h, X, W, hx, hs => by
    cases e <;> (first | exact absurd h (show ¬ (false = true) from Bool.noConfusion) | skip)
    rename_i x pos
    refine Bth.plain (R1 X W hx).tru (fun _ => rfl) (fun ⟨_, _, _, z⟩ => by cases z) fun m => ?_
    replace h : (decide (C.N[i]? = some x) && visB sc x && okName x) = true := h
    obtain ⟨h4, h3⟩ := ands h
    obtain ⟨h1, h2⟩ := ands h4
    subst hs
    have RL := R1 X W hx
    refine (pe_var (i := i) (by rw [RL.N]; exact of_decide_eq_true h1) (vis_of h2) (name_of h3).1 (name_of h3).2.1).imp fun σ H Q hq => ?_
    obtain ⟨Γ, R, lk, w⟩ := hq
    unfold ev at w
    split at w
    · rename_i d hd
      obtain ⟨v, e1, e2, e3⟩ := R.look hd
      refine ⟨v, e1, w v H (Grow.refl H) R.dr ?_⟩
      cases m with
      | true => exact e2
      | false => exact e3 (lk i (by simp [lkM, BB.lk]))
    · exact w.elim
  | .cst d, e, sc, h, X, W, hx, hs => by
    cases e <;> (first | exact absurd h (show ¬ (false = true) from Bool.noConfusion) | skip)
    · rename_i c k pos
      refine Bth.plain (R1 X W hx).tru (fun _ => rfl) (fun ⟨_, _, _, z⟩ => by cases z) fun m => ?_
      replace h : constB d c = true := h
      cases d <;> cases c <;> (first | exact absurd h (show ¬ (false = true) from Bool.noConfusion) | skip)
      · exact pe_non.imp fun σ H Q hq => by obtain ⟨Γ, R, lk, w⟩ := hq; exact w _ H (Grow.refl H) R.dr (Sees.of rfl)
      · rename_i a b
        replace h : a = b := by simpa [constB] using h
        subst h
        exact pe_bl.imp fun σ H Q hq => by obtain ⟨Γ, R, lk, w⟩ := hq; exact w _ H (Grow.refl H) R.dr (Sees.of rfl)
      · rename_i a b
        replace h : a = b := by simpa [constB] using h
        subst h
        exact pe_int.imp fun σ H Q hq => by obtain ⟨Γ, R, lk, w⟩ := hq; exact w _ H (Grow.refl H) R.dr (Sees.of rfl)
      · rename_i a b
        replace h : a = b := by simpa [constB] using h
        subst h
        exact pe_str.imp fun σ H Q hq => by obtain ⟨Γ, R, lk, w⟩ := hq; exact w _ H (Grow.refl H) R.dr (Sees.of rfl)
    · rename_i x pos
      refine Bth.plain (R1 X W hx).tru (fun _ => rfl) (fun ⟨_, _, _, z⟩ => by cases z) fun m => ?_
      replace h : (glB sc x && okName x && sameC (C.cons.lookup x) d) = true := h
      obtain ⟨h1, h3⟩ := ands h
      obtain ⟨h4, h2⟩ := ands h1
      subst hs
      have RL := R1 X W hx
      cases hc : C.cons.lookup x with
      | none => rw [hc] at h3; exact absurd h3 (show ¬ (false = true) from Bool.noConfusion)
      | some d0 =>
        rw [hc] at h3
        cases d0 <;> (first | exact absurd h3 (show ¬ (false = true) from Bool.noConfusion) | skip)
        · cases d <;> (first | exact absurd h3 (show ¬ (false = true) from Bool.noConfusion) | skip)
          rename_i i j
          replace h3 : i = j := by simpa [sameC] using h3
          subst h3
          rcases RL.cons x _ hc with ⟨j, t, e, hm⟩ | ⟨y, t, e, hm⟩ | ⟨n, _⟩
          · cases e
            exact (pe_glob (v := .int i) (gl_of h4) hm ⟨t, rfl⟩ (name_of h2).1).imp fun σ H Q hq => by obtain ⟨Γ, R, lk, w⟩ := hq; exact w _ H (Grow.refl H) R.dr (Sees.of rfl)
          · cases e
          · exact absurd rfl (n _)
        · cases d <;> (first | exact absurd h3 (show ¬ (false = true) from Bool.noConfusion) | skip)
          rename_i y z
          replace h3 : y = z := by simpa [sameC] using h3
          subst h3
          rcases RL.cons x _ hc with ⟨j, t, e, hm⟩ | ⟨y, t, e, hm⟩ | ⟨_, n⟩
          · cases e
          · cases e
            exact (pe_glob (v := .str y) (gl_of h4) hm ⟨t, rfl⟩ (name_of h2).1).imp fun σ H Q hq => by obtain ⟨Γ, R, lk, w⟩ := hq; exact w _ H (Grow.refl H) R.dr (Sees.of rfl)
          · exact absurd rfl (n _)
  | .tup es, e, sc, h, X, W, hx, hs => by
    cases e <;> (first | exact absurd h (show ¬ (false = true) from Bool.noConfusion) | skip)
    rename_i l k pos
    refine Bth.plain (R1 X W hx).tru (fun _ => rfl) (fun ⟨_, _, _, z⟩ => by cases z) fun m => ?_
    refine (pe_tup (sAs es l sc h X W hx hs false)).imp fun σ H Q hq => ?_
    obtain ⟨Γ, R, lk, w⟩ := hq
    refine args_tA (m := false) (es := es) R (fun i hi => lk i (by cases m <;> simpa [lkM, BB.lk, lkB, lksM] using hi)) w fun ds vs H1 g d s q => ?_
    obtain ⟨c, q⟩ := wp_if q
    have s : DenL G (hid Γ.O H1) ds vs := s
    exact ⟨by rw [s.length, ← big_line]; exact c, fun p hp => (R.res (m := m) g d q).newTup s hp⟩
  | .lst es, e, sc, h, X, W, hx, hs => by
    cases e <;> (first | exact absurd h (show ¬ (false = true) from Bool.noConfusion) | skip)
    rename_i l pos
    refine Bth.plainF (R1 X W hx).tru (fun _ => rfl) (fun ⟨_, _, _, z⟩ => by cases z) (fun _ => (pe_lst (sAs es l sc h X W hx hs false)).imp fun σ H Q hq => lstF_imp hq) fun m => ?_
    refine (pe_lst (sAs es l sc h X W hx hs false)).imp fun σ H Q hq => ?_
    obtain ⟨Γ, R, lk, w⟩ := hq
    refine args_tA (m := false) (es := es) R (fun i hi => lk i (by cases m <;> simpa [lkM, BB.lk, lkB, lksM] using hi)) w fun ds vs H1 g d s q => ?_
    obtain ⟨c, q⟩ := wp_if q
    have s : DenL G (hid Γ.O H1) ds vs := s
    exact ⟨by rw [s.length, ← big_line]; exact c, fun p hp => (R.res (m := m) g d q).newLst s hp⟩
  | .bin op a b, e, sc, h, X, W, hx, hs => by
    cases e <;> (first | exact absurd h (show ¬ (false = true) from Bool.noConfusion) | skip)
    rename_i l o r pos
    obtain ⟨h1, h3⟩ := ands (show (bopB op o && chk C sc a l && chk C sc b r) = true from h)
    obtain ⟨h1, h2⟩ := ands h1
    have eo := opOf_of h1
    subst eo
    refine Bth.plainF (R1 X W hx).tru (fun _ => rfl) (fun ⟨_, _, _, z⟩ => by cases z) (fun hf => (pe_op ((R1 X W hx).binF op (by cases op <;> first | exact .inl rfl | exact .inr rfl | exact absurd hf (show ¬ (false = true) from Bool.noConfusion))) ((sE a l sc h2 X W hx hs).pe true) ((sE b r sc h3 X W hx hs).pe true)).imp fun σ H Q hq => bin_F hq) fun m => ?_
    refine (pe_op ((R1 X W hx).bin op) ((sE a l sc h2 X W hx hs).pe true) ((sE b r sc h3 X W hx hs).pe true)).imp fun σ H Q hq => ?_
    obtain ⟨Γ, R, lk, w⟩ := hq
    have lk : ∀ i ∈ lkB a ++ lkB b, i ∉ Γ.ω := by cases m <;> simpa [lkM, BB.lk, lkB] using lk
    exact two_tE (m1 := true) (m2 := true) (a := a) (b := b) R (lk_l lk) (lk_r lk) w fun d e v u H1 g dr s1 s2 q => ⟨Γ.O, W σ, d, e, s1.vw, s2.vw, R.res g dr q⟩
  | .neg a, e, sc, h, X, W, hx, hs => by
    cases e <;> (first | exact absurd h (show ¬ (false = true) from Bool.noConfusion) | skip)
    rename_i o x pos
    cases o <;> (first | exact absurd h (show ¬ (false = true) from Bool.noConfusion) | skip)
    refine Bth.plain (R1 X W hx).tru (fun _ => rfl) (fun ⟨_, _, _, z⟩ => by cases z) fun m => ?_
    refine (pe_un un_neg ((sE a x sc h X W hx hs).pe true)).imp fun σ H Q hq => ?_
    obtain ⟨Γ, R, lk, w⟩ := hq
    have lk : ∀ i ∈ lkB a, i ∉ Γ.ω := by cases m <;> simpa [lkM, BB.lk, lkB] using lk
    refine one_tE (RR := fun _ _ => True) (m := true) (a := a) R lk w fun d v H1 g dr s q => ?_
    cases d <;> (first | exact q.elim | skip)
    exact ⟨_, s.vw.int, (R.res (m := m) g dr q).ok rfl⟩
  | .not a, e, sc, h, X, W, hx, hs => by
    cases e <;> (first | exact absurd h (show ¬ (false = true) from Bool.noConfusion) | skip)
    rename_i o x pos
    cases o <;> (first | exact absurd h (show ¬ (false = true) from Bool.noConfusion) | skip)
    refine Bth.mk1 (tB_not (sE a x sc h X W hx hs).pt) (fun ⟨_, _, _, z⟩ => by cases z) fun m => ?_
    refine (pe_notR (R1 X W hx).tru ((sE a x sc h X W hx hs).pe true)).imp fun σ H Q hq => ?_
    obtain ⟨Γ, R, lk, w⟩ := hq
    have lk : ∀ i ∈ lkB a, i ∉ Γ.ω := by cases m <;> simpa [lkM, BB.lk, lkB] using lk
    refine one_tE (RR := fun _ _ => True) (m := true) (a := a) R lk w fun d v H1 g dr s q => ?_
    refine R.tru_of g dr s.vw q fun b H2 g2 d2 q2 => ?_
    exact q2 _ H2 (g.trans g2) d2 (Sees.of rfl)
  | .and a b, e, sc, h, X, W, hx, hs => by
    cases e <;> (first | exact absurd h (show ¬ (false = true) from Bool.noConfusion) | skip)
    rename_i o l pos
    cases o <;> (first | exact absurd h (show ¬ (false = true) from Bool.noConfusion) | skip)
    cases l with
    | nil => exact absurd h (show ¬ (false = true) from Bool.noConfusion)
    | cons x l =>
      cases l with
      | nil => exact absurd h (show ¬ (false = true) from Bool.noConfusion)
      | cons y r =>
        obtain ⟨h1, h2⟩ := ands (show (chk C sc a x && (match (generalizing := false) r with | [] => chk C sc b y | _ => chk C sc b (.BoolOp .And (y :: r) pos))) = true from h)
        have hW : PW X (.BoolOp .And (y :: r) pos) (BB.tB G cl mk W b) := by
          cases r with
          | nil => exact pw_and1 (sE b y sc h2 X W hx hs).pt
          | cons z r => exact (sE b _ sc h2 X W hx hs).pw ⟨_, _, _, rfl⟩
        refine Bth.mk2 (tB_and (sE a x sc h1 X W hx hs).pt hW) fun m => ?_
        have hB : PE X (.BoolOp .And (y :: r) pos) (tE G cl mk W m b) := by
          cases r with
          | nil => exact pe_one ((sE b y sc h2 X W hx hs).pe m)
          | cons z r => exact (sE b _ sc h2 X W hx hs).pe m
        refine (pe_andR (R1 X W hx).tru ((sE a x sc h1 X W hx hs).pe m) hB).imp fun σ H Q hq => ?_
        obtain ⟨Γ, R, lk, w⟩ := hq
        have lk : ∀ i ∈ lkM m a ++ lkM m b, i ∉ Γ.ω := by cases m <;> simpa [lkM, BB.lk, lkB] using lk
        refine one_tE (RR := fun _ _ => True) (m := m) (a := a) R (lk_l lk) w fun d v H1 g dr s q => ?_
        refine R.tru_of g dr s.vw q fun t H2 g2 d2 q2 => ?_
        cases t with
        | true => exact ⟨Γ, R.grow (g.trans g2) d2, lk_r lk, Res.wp_mono (fun e k v2 H3 g3 d3 s3 => k v2 H3 ((g.trans g2).trans g3) d3 s3) (fun _ _ k => k.grow (g.trans g2)) q2⟩
        | false => exact q2 v H2 (g.trans g2) d2 (s.grow g2 R.drO)
  | .or a b, e, sc, h, X, W, hx, hs => by
    cases e <;> (first | exact absurd h (show ¬ (false = true) from Bool.noConfusion) | skip)
    rename_i o l pos
    cases o <;> (first | exact absurd h (show ¬ (false = true) from Bool.noConfusion) | skip)
    cases l with
    | nil => exact absurd h (show ¬ (false = true) from Bool.noConfusion)
    | cons x l =>
      cases l with
      | nil => exact absurd h (show ¬ (false = true) from Bool.noConfusion)
      | cons y r =>
        obtain ⟨h1, h2⟩ := ands (show (chk C sc a x && (match (generalizing := false) r with | [] => chk C sc b y | _ => chk C sc b (.BoolOp .Or (y :: r) pos))) = true from h)
        have hW : PW X (.BoolOp .Or (y :: r) pos) (BB.tB G cl mk W b) := by
          cases r with
          | nil => exact pw_or1 (sE b y sc h2 X W hx hs).pt
          | cons z r => exact (sE b _ sc h2 X W hx hs).pw ⟨_, _, _, rfl⟩
        refine Bth.mk2 (tB_or (sE a x sc h1 X W hx hs).pt hW) fun m => ?_
        have hB : PE X (.BoolOp .Or (y :: r) pos) (tE G cl mk W m b) := by
          cases r with
          | nil => exact pe_one ((sE b y sc h2 X W hx hs).pe m)
          | cons z r => exact (sE b _ sc h2 X W hx hs).pe m
        refine (pe_orR (R1 X W hx).tru ((sE a x sc h1 X W hx hs).pe m) hB).imp fun σ H Q hq => ?_
        obtain ⟨Γ, R, lk, w⟩ := hq
        have lk : ∀ i ∈ lkM m a ++ lkM m b, i ∉ Γ.ω := by cases m <;> simpa [lkM, BB.lk, lkB] using lk
        refine one_tE (RR := fun _ _ => True) (m := m) (a := a) R (lk_l lk) w fun d v H1 g dr s q => ?_
        refine R.tru_of g dr s.vw q fun t H2 g2 d2 q2 => ?_
        cases t with
        | false => exact ⟨Γ, R.grow (g.trans g2) d2, lk_r lk, Res.wp_mono (fun e k v2 H3 g3 d3 s3 => k v2 H3 ((g.trans g2).trans g3) d3 s3) (fun _ _ k => k.grow (g.trans g2)) q2⟩
        | true => exact q2 v H2 (g.trans g2) d2 (s.grow g2 R.drO)
  | .ite c a b, e, sc, h, X, W, hx, hs => by
    cases e <;> (first | exact absurd h (show ¬ (false = true) from Bool.noConfusion) | skip)
    rename_i t x y pos
    obtain ⟨h1, h3⟩ := ands (show (chk C sc c t && chk C sc a x && chk C sc b y) = true from h)
    obtain ⟨h1, h2⟩ := ands h1
    refine Bth.mk1 (tB_ite (sE c t sc h1 X W hx hs).pt (sE a x sc h2 X W hx hs).pt (sE b y sc h3 X W hx hs).pt) (fun ⟨_, _, _, z⟩ => by cases z) fun m => ?_
    refine (pe_ifExp (sE c t sc h1 X W hx hs).pt ((sE a x sc h2 X W hx hs).pe m) ((sE b y sc h3 X W hx hs).pe m)).imp fun σ H Q hq => ?_
    obtain ⟨Γ, R, lk, w⟩ := hq
    have lk : ∀ i ∈ lkB c ++ (lkM m a ++ lkM m b), i ∉ Γ.ω := by cases m <;> simpa [lkM, BB.lk, lkB] using lk
    refine ⟨Γ, R, lk_l lk, Res.wp_mono (fun t q H1 g dr => ?_) (fun _ _ k => k) (wp_assoc w)⟩
    cases t with
    | true => exact ⟨Γ, R.grow g dr, lk_l (lk_r lk), Res.wp_mono (fun e k v2 H3 g3 d3 s3 => k v2 H3 (g.trans g3) d3 s3) (fun _ _ k => k.grow g) q⟩
    | false => exact ⟨Γ, R.grow g dr, lk_r (lk_r lk), Res.wp_mono (fun e k v2 H3 g3 d3 s3 => k v2 H3 (g.trans g3) d3 s3) (fun _ _ k => k.grow g) q⟩
  | .cmp op a b, e, sc, h, X, W, hx, hs => by
    cases e <;> (first | exact absurd h (show ¬ (false = true) from Bool.noConfusion) | skip)
    rename_i l os rs pos
    match os, rs, h with
    | [], _, h => exact absurd h (show ¬ (false = true) from Bool.noConfusion)
    | [o], [], h => exact absurd h (show ¬ (false = true) from Bool.noConfusion)
    | [o], _ :: _ :: _, h => exact absurd h (show ¬ (false = true) from Bool.noConfusion)
    | _ :: _ :: _, _, h => exact absurd h (show ¬ (false = true) from Bool.noConfusion)
    | [o], [r], h =>
    obtain ⟨h1, h4⟩ := ands (show (copB op o && chk C sc a l && chk C sc b r && !(behindInMarks o r)) = true from h)
    obtain ⟨h1, h3⟩ := ands h1
    obtain ⟨h1, h2⟩ := ands h1
    have eo := copOf_of h1
    subst eo
    refine Bth.mk1 (tB_cmp ((R1 X W hx).cmp op) ((sE a l sc h2 X W hx hs).pe true) ((sE b r sc h3 X W hx hs).pe true) (notB h4)) (fun ⟨_, _, _, z⟩ => by cases z) fun m => ?_
    refine (pe_cmpR ((R1 X W hx).cmp op) ((sE a l sc h2 X W hx hs).pe true) ((sE b r sc h3 X W hx hs).pe true) (notB h4)).imp fun σ H Q hq => ?_
    obtain ⟨Γ, R, lk, w⟩ := hq
    have lk : ∀ i ∈ lkB a ++ lkB b, i ∉ Γ.ω := by cases m <;> simpa [lkM, BB.lk, lkB] using lk
    exact two_tE (m1 := true) (m2 := true) (a := a) (b := b) R (lk_l lk) (lk_r lk) w fun d e v u H1 g dr s1 s2 q => ⟨Γ.O, W σ, d, e, s1.vw, s2.vw, R.res g dr q⟩
  | .cmp2 op op2 a b c, e, sc, h, X, W, hx, hs => by
    cases e <;> (first | exact absurd h (show ¬ (false = true) from Bool.noConfusion) | skip)
    rename_i l os rs pos
    match os, rs, h with
    | [], _, h => exact absurd h (show ¬ (false = true) from Bool.noConfusion)
    | [o], _, h => exact absurd h (show ¬ (false = true) from Bool.noConfusion)
    | _ :: _ :: _ :: _, _, h => exact absurd h (show ¬ (false = true) from Bool.noConfusion)
    | [o, o2], [], h => exact absurd h (show ¬ (false = true) from Bool.noConfusion)
    | [o, o2], [_], h => exact absurd h (show ¬ (false = true) from Bool.noConfusion)
    | [o, o2], _ :: _ :: _ :: _, h => exact absurd h (show ¬ (false = true) from Bool.noConfusion)
    | [o, o2], [k, r], h =>
    obtain ⟨h1, h7⟩ := ands (show (copB op o && copB op2 o2 && chk C sc a l && chk C sc b k && chk C sc c r && !(behindInMarks o k) && !(behindInMarks o2 r)) = true from h)
    obtain ⟨h1, h6⟩ := ands h1
    obtain ⟨h1, h5⟩ := ands h1
    obtain ⟨h1, h4⟩ := ands h1
    obtain ⟨h1, h3⟩ := ands h1
    obtain ⟨h1, h2⟩ := ands h1
    have eo := copOf_of h1
    subst eo
    have eo := copOf_of h2
    subst eo
    refine Bth.mk1 (tB_cmp2 ((R1 X W hx).cmp op) ((R1 X W hx).cmp op2) ((sE a l sc h3 X W hx hs).pe true) ((sE b k sc h4 X W hx hs).pe true) ((sE c r sc h5 X W hx hs).pe true) (lastm (notB h6) (notB h7))) (fun ⟨_, _, _, z⟩ => by cases z) fun m => ?_
    refine (pe_chain ((R1 X W hx).cmp op) ((R1 X W hx).cmp op2) ((sE a l sc h3 X W hx hs).pe true) ((sE b k sc h4 X W hx hs).pe true) ((sE c r sc h5 X W hx hs).pe true) (lastm (notB h6) (notB h7))).imp fun σ H Q hq => ?_
    obtain ⟨Γ, R, lk, w⟩ := hq
    have lk : ∀ i ∈ lkB a ++ (lkB b ++ lkB c), i ∉ Γ.ω := by cases m <;> simpa [lkM, BB.lk, lkB] using lk
    refine two_tE (m1 := true) (m2 := true) (a := a) (b := b) R (lk_l lk) (lk_l (lk_r lk)) w fun d e v u H1 g dr s1 s2 q => ?_
    refine ⟨Γ.O, W σ, d, e, s1.vw, s2.vw, (R.grow g dr).out (Res.wp_mono (fun z q2 v2 H2 g2 d2 s3 => ?_) (fun _ _ k => k.grow g) (cmpR_bl (Res.wp_bind.mp q)))⟩
    obtain ⟨⟨t, ht⟩, q2⟩ := q2
    subst ht
    refine ⟨t, s3, ?_⟩
    cases t with
    | true =>
      refine one_tE (RR := fun _ _ => True) (m := true) (a := c) (R.grow (g.trans g2) d2) (lk_r (lk_r lk)) (Res.wp_mono (fun _ k => k) (fun _ _ k => k.grow (g.trans g2)) q2) fun y v3 H3 g3 d3 s4 q3 => ?_
      exact ⟨Γ.O, W σ, e, y, (s2.grow (g2.trans g3) R.drO).vw, s4.vw, ((R.grow (g.trans g2) d2).grow g3 d3).out (Res.wp_mono (fun z k v4 H4 g4 d4 s5 => k v4 H4 ((g.trans g2).trans (g3.trans g4)) d4 (Sees.of s5)) (fun _ _ k => k.grow g3) q3)⟩
    | false => exact q2 _ H2 (g.trans g2) d2 (Sees.of rfl)
  | .idx a i, e, sc, h, X, W, hx, hs => by
    cases e <;> (first | exact absurd h (show ¬ (false = true) from Bool.noConfusion) | skip)
    rename_i v s pos
    refine Bth.plain (R1 X W hx).tru (fun _ => rfl) (fun ⟨_, _, _, z⟩ => by cases z) fun m => ?_
    obtain ⟨h1, h3⟩ := ands (show (chk C sc a v && chk C sc i s && notSl s) = true from h)
    obtain ⟨h1, h2⟩ := ands h1
    refine (pe_ix (R1 X W hx).idx ((sE a v sc h1 X W hx hs).pe true) ((sE i s sc h2 X W hx hs).pe true) (ix_plain h3)).imp fun σ H Q hq => ?_
    obtain ⟨Γ, R, lk, w⟩ := hq
    have lk : ∀ j ∈ lkB a ++ lkB i, j ∉ Γ.ω := by cases m <;> simpa [lkM, BB.lk, lkB] using lk
    exact two_tE (m1 := true) (m2 := true) (a := a) (b := i) R (lk_l lk) (lk_r lk) w fun d e v u H1 g dr s1 s2 q => ⟨Γ.O, W σ, d, e, s1.vw, s2.vw, R.res g dr q⟩
  | .slc a lo hi, e, sc, h, X, W, hx, hs => by
    cases e <;> (first | exact absurd h (show ¬ (false = true) from Bool.noConfusion) | skip)
    rename_i v s pos
    refine Bth.plain (R1 X W hx).tru (fun _ => rfl) (fun ⟨_, _, _, z⟩ => by cases z) fun m => ?_
    cases s <;> (first | exact absurd h (show ¬ (false = true) from Bool.noConfusion) | skip)
    rename_i l u st p2
    cases st <;> (first | exact absurd h (show ¬ (false = true) from Bool.noConfusion) | skip)
    obtain ⟨h1, h3⟩ := ands (show (chk C sc a v && chkO C sc lo l && chkO C sc hi u) = true from h)
    obtain ⟨h1, h2⟩ := ands h1
    refine (pe_slice (R1 X W hx).slc ((sE a v sc h1 X W hx hs).pe true) (sO lo l sc h2 X W hx hs) (sO hi u sc h3 X W hx hs)).imp fun σ H Q hq => ?_
    obtain ⟨Γ, R, lk, w⟩ := hq
    have lk : ∀ j ∈ lkB a ++ (lkO lo ++ lkO hi), j ∉ Γ.ω := by cases m <;> simpa [lkM, BB.lk, lkB] using lk
    refine one_tE (RR := fun _ _ => True) (m := true) (a := a) R (lk_l lk) w fun d x H1 g dr s q => ?_
    refine ⟨Γ, R.grow g dr, lk_l (lk_r lk), Res.wp_mono (fun ol q2 => ?_) (fun _ _ k => k.grow g) (Res.wp_bind.mp q)⟩
    intro H2 g2 d2
    refine ⟨Γ, R.grow (g.trans g2) d2, lk_r (lk_r lk), Res.wp_mono (fun oh q3 => ?_) (fun _ _ k => k.grow (g.trans g2)) (Res.wp_bind.mp q2)⟩
    intro H3 g3 d3
    exact ⟨Γ.O, W σ, d, (s.grow (g2.trans g3) R.drO).vw, R.res (m := m) ((g.trans g2).trans g3) d3 q3⟩
  | .rev a, e, sc, h, X, W, hx, hs => by
    cases e <;> (first | exact absurd h (show ¬ (false = true) from Bool.noConfusion) | skip)
    rename_i v s pos
    refine Bth.plain (R1 X W hx).tru (fun _ => rfl) (fun ⟨_, _, _, z⟩ => by cases z) fun m => ?_
    match s, h with
    | .Slice none none (some (.UnaryOp .USub (.Constant (.int j) _ _) _)) _, h =>
      obtain ⟨h1, h2⟩ := ands (show (chk C sc a v && j == 1) = true from h)
      have ej : j = 1 := by simpa using h2
      subst ej
      refine (pe_revL ((sE a v sc h1 X W hx hs).pe true)).imp fun σ H Q hq => ?_
      obtain ⟨Γ, R, lk, w⟩ := hq
      have lk : ∀ j ∈ lkB a, j ∉ Γ.ω := by cases m <;> simpa [lkM, BB.lk, lkB] using lk
      refine one_tE (RR := fun _ _ => True) (m := true) (a := a) R lk w fun d x H1 g dr s q => ?_
      cases d <;> (first | exact q.elim | skip)
      obtain ⟨b, vs, e1, e2, e3⟩ := s.vw.lst
      exact ⟨b, vs, e1, (.inl e2), fun p hp => (R.res (m := m) g dr q).newLst e3.rev hp⟩
  | .att a f, e, sc, h, X, W, hx, hs => by
    cases e <;> (first | exact absurd h (show ¬ (false = true) from Bool.noConfusion) | skip)
    rename_i v x pos
    refine Bth.plain (R1 X W hx).tru (fun _ => rfl) (fun ⟨_, _, _, z⟩ => by cases z) fun m => ?_
    obtain ⟨h1, h3⟩ := ands (show (chk C sc a v && attOk v && decide (C.nm[f]? = some x)) = true from h)
    obtain ⟨h1, h2⟩ := ands h1
    have hn := of_decide_eq_true h3
    have RL := R1 X W hx
    refine (pe_fld ((sE a v sc h1 X W hx hs).pe true) (att_base h2)).imp fun σ H Q hq => ?_
    obtain ⟨Γ, R, lk, w⟩ := hq
    have lk : ∀ j ∈ lkB a, j ∉ Γ.ω := by cases m <;> simpa [lkM, BB.lk, lkB] using lk
    refine one_tE (RR := fun _ _ => True) (m := true) (a := a) R lk w fun d u H1 g dr s q => ?_
    obtain ⟨c, fs, hm, dd, hd, q, ⟨_, b, dx, gs, e1, e2, e3⟩⟩ : ∃ c fs, G.T.noMeth c f = true ∧ ∃ dd, fs.lookup f = some dd ∧ (∀ v H', Grow G H H' → Dr G H' → Sees G Γ.O H' m dd v → Q v H') ∧ fsOk G c fs = true ∧ ∃ a dx gs, u = .ref a ∧ H1 a = some (.ins (G.cad c) dx gs) ∧ DenF G (hid Γ.O H1) fs gs := by
      cases d <;> (first | exact q.elim | skip)
      · rename_i c fs
        obtain ⟨hm, q⟩ := wp_if q
        obtain ⟨dd, hd, q⟩ := Res.wp_ofOpt q
        exact ⟨c, fs, hm, dd, hd, q, s.vw.ins'⟩
      · rename_i c fs
        obtain ⟨hm, q⟩ := wp_if q
        obtain ⟨dd, hd, q⟩ := Res.wp_ofOpt q
        exact ⟨c, fs, hm, dd, hd, q, s.vw.me⟩
    have ex : name G f = x := by unfold name; rw [RL.nm, hn]; rfl
    have inj : ∀ g', g' ∈ fs.map (·.1) → name G g' = name G f → g' = f := fun g' _ e => by
      rw [ex] at e
      unfold name at e
      rw [RL.nm] at e
      cases hg : C.nm[g']? with
      | none => rw [hg] at e; exact absurd e.symm (RL.nmne f x hn)
      | some y =>
        rw [hg] at e
        have e : y = x := e
        subst e
        exact nodup_ix RL.inj hg hn
    obtain ⟨v2, l2, dv⟩ := e3.lookup inj hd
    rw [ex] at l2
    exact ⟨b, _, dx, gs, v2, e1, e2, RL.ins c (cls_lt hm), by rw [← ex]; exact RL.noat c f hm, l2, q v2 H1 g dr (Sees.of dv)⟩
  | .call f as, e, sc, h, X, W, hx, hs => by
    cases e <;> (first | exact absurd h (show ¬ (false = true) from Bool.noConfusion) | skip)
    rename_i fn l kws pos
    refine Bth.plain (R1 X W hx).tru (fun _ => rfl) (fun ⟨_, _, _, z⟩ => by cases z) fun m => ?_
    match fn, kws, h with
    | .Name x p1, [], h =>
    obtain ⟨h1, h5⟩ := ands (show (glB sc x && okName x && decide (C.fns.lookup x = some f) && chks C sc as l && !l.any isStar) = true from h)
    obtain ⟨h1, h4⟩ := ands h1
    obtain ⟨h1, h3⟩ := ands h1
    obtain ⟨h1, h2⟩ := ands h1
    have hn := (R2 X W hx).fn x f (of_decide_eq_true h3)
    subst hs
    refine (pe_callV ((R2 X W hx).call f) (gl_of h1) hn.1 hn.2 (sAs as l _ h4 X W hx rfl false) (name_of h2).1 (notB h5) (tA_nil h4)).imp fun σ H Q hq => ?_
    obtain ⟨Γ, R, lk, w⟩ := hq
    have lk : ∀ j ∈ lks as, j ∉ Γ.ω := by cases m <;> simpa [lkM, BB.lk, lkB] using lk
    exact args_tA (m := false) (es := as) R lk w fun ds vs H1 g dr s q => ⟨Γ.O, ds, s, (R.res (m := m) g dr q)⟩
  | .mk c as, e, sc, h, X, W, hx, hs => by
    cases e <;> (first | exact absurd h (show ¬ (false = true) from Bool.noConfusion) | skip)
    rename_i fn l kws pos
    refine Bth.plain (R1 X W hx).tru (fun _ => rfl) (fun ⟨_, _, _, z⟩ => by cases z) fun m => ?_
    match fn, kws, h with
    | .Name x p1, [], h =>
    obtain ⟨h1, h5⟩ := ands (show (glB sc x && okName x && decide (C.cls.lookup x = some c) && chks C sc as l && !l.any isStar) = true from h)
    obtain ⟨h1, h4⟩ := ands h1
    obtain ⟨h1, h3⟩ := ands h1
    obtain ⟨h1, h2⟩ := ands h1
    have hn := (R1 X W hx).cls x c (of_decide_eq_true h3)
    subst hs
    refine (pe_callV ((R2 X W hx).make c) (gl_of h1) hn.1 hn.2 (sAs as l _ h4 X W hx rfl false) (name_of h2).1 (notB h5) (tA_nil h4)).imp fun σ H Q hq => ?_
    obtain ⟨Γ, R, lk, w⟩ := hq
    have lk : ∀ j ∈ lks as, j ∉ Γ.ω := by cases m <;> simpa [lkM, BB.lk, lkB] using lk
    exact args_tA (m := false) (es := as) R lk w fun ds vs H1 g dr s q => ⟨Γ.O, ds, s, (R.res (m := m) g dr q)⟩
  | .meth a mm as, e, sc, h, X, W, hx, hs => by
    cases e <;> (first | exact absurd h (show ¬ (false = true) from Bool.noConfusion) | skip)
    rename_i fn l kws pos
    refine Bth.plain (R1 X W hx).tru (fun _ => rfl) (fun ⟨_, _, _, z⟩ => by cases z) fun m => ?_
    match fn, kws, h with
    | .Attribute v x ap, [], h =>
    obtain ⟨h1, h7⟩ := ands (show (chk C sc a v && attOk v && decide (C.nm[mm]? = some x) && chks C sc as l && !l.any isStar && oneLine ap pos && Nat.blt l.length 20) = true from h)
    obtain ⟨h1, h6⟩ := ands h1
    obtain ⟨h1, h5⟩ := ands h1
    obtain ⟨h1, h4⟩ := ands h1
    obtain ⟨h1, h3⟩ := ands h1
    obtain ⟨h1, h2⟩ := ands h1
    have hn := of_decide_eq_true h3
    have ex : name G mm = x := by unfold name; rw [(R1 X W hx).nm, hn]; rfl
    refine (pe_methV (C := C) (R1 X W hx) (R2 X W hx) ex ((sE a v sc h1 X W hx hs).pe false) (sAs as l sc h4 X W hx hs false) h2 h6 (notB h5) (by simpa using h7) (tA_nil h4)).imp fun σ H Q hq => ?_
    obtain ⟨Γ, R, lk, w⟩ := hq
    have lk : ∀ j ∈ BB.lk a ++ lks as, j ∉ Γ.ω := by cases m <;> simpa [lkM, BB.lk, lkB] using lk
    refine one_tE (RR := fun _ _ => True) (m := false) (a := a) R (lk_l lk) w fun d u H1 g dr s q => ?_
    cases d <;> (first | exact q.elim | skip)
    rename_i c fs
    have q : ((methR G.T (.ins c fs) mm).bind fun f => (evs G.T cl mk as Γ.ρ).bind fun l => cl f (.ins c fs :: l)).wp _ _ := q
    rw [methR_eq] at q
    cases hk : ((G.T.cls[c]?).map Cl.ms).bind (List.lookup mm) with
    | none => rw [hk] at q; exact q.elim
    | some k =>
      rw [hk] at q
      refine ⟨Γ.O, c, fs, k, s, hk, ?_⟩
      refine args_tA (m := false) (es := as) (R.grow g dr) (lk_r lk) (Res.wp_mono (fun _ k => k) (fun _ _ k => k.grow g) q) fun ds vs H2 g2 d2 s2 q2 => ?_
      exact ⟨Γ.O, ds, Den.mono (g2.hid R.drO) s, s2, (R.grow g dr).out' g2 d2 (Res.wp_mono (fun z k v3 H3 g3 d3 s3 => k v3 H3 (g.trans g3) d3 (Sees.of s3)) (fun _ _ k => k) q2)⟩
  | .bm mm a as, e, sc, h, X, W, hx, hs => by
    cases e <;> (first | exact absurd h (show ¬ (false = true) from Bool.noConfusion) | skip)
    rename_i fn l kws pos
    refine Bth.plain (R1 X W hx).tru (fun _ => rfl) (fun ⟨_, _, _, z⟩ => by cases z) fun m => ?_
    match fn, kws, h with
    | .Attribute v x ap, [], h =>
    obtain ⟨k1, h8⟩ := ands (show (chk C sc a v && attOk v && x == mNames mm && chks C sc as l && !l.any isStar && oneLine ap pos && Nat.blt l.length 20 && !l.isEmpty) = true from h)
    obtain ⟨k2, h7⟩ := ands k1
    obtain ⟨k3, h6⟩ := ands k2
    obtain ⟨k4, h5⟩ := ands k3
    obtain ⟨k5, h4⟩ := ands k4
    obtain ⟨k6, h3⟩ := ands k5
    obtain ⟨h1, h2⟩ := ands k6
    have ex : x = mNames mm := by simpa using h3
    subst ex
    have hne : l ≠ [] := fun e => by rw [e] at h8; exact absurd h8 (show ¬ (false = true) from Bool.noConfusion)
    refine ((R1 X W hx).bm mm v l ap pos _ _ ((sE a v sc h1 X W hx hs).pe true) (sAs as l sc h4 X W hx hs (bmMode mm)) h2 h6 (notB h5) (by simpa using h7) hne).imp fun σ H Q hq => ?_
    obtain ⟨Γ, R, lk, w⟩ := hq
    have lk : ∀ j ∈ lkB a ++ lksM (bmMode mm) as, j ∉ Γ.ω := by cases m <;> cases mm <;> simpa [lkM, BB.lk, lkB, lksM, bmMode] using lk
    refine one_tE (RR := fun _ _ => True) (m := true) (a := a) R (lk_l lk) w fun d u H1 g dr s q => ?_
    obtain ⟨hc, q⟩ := wp_if q
    refine ⟨Γ.O, d, s.vw, hc, ?_⟩
    refine args_tA (m := bmMode mm) (es := as) (R.grow g dr) (lk_r lk) (Res.wp_mono (fun _ k => k) (fun _ _ k => k.grow g) q) fun ds vs H2 g2 d2 s2 q2 => ?_
    exact ⟨Γ.O, W σ, ds, (s.grow g2 R.drO).vw, s2.vw, fun e => by subst e; exact s2, (R.grow g dr).out' g2 d2 (Res.wp_mono (fun z k v3 H3 g3 d3 s3 => k v3 H3 (g.trans g3) d3 (Sees.of s3)) (fun _ _ k => k) q2)⟩
  | .bi b as, e, sc, h, X, W, hx, hs => by
    cases e <;> (first | exact absurd h (show ¬ (false = true) from Bool.noConfusion) | skip)
    rename_i fn l kws pos
    refine Bth.plain (R1 X W hx).tru (fun _ => rfl) (fun ⟨_, _, _, z⟩ => by cases z) fun m => ?_
    match fn, kws, h with
    | .Name x p1, [], h =>
    obtain ⟨h1, h6⟩ := ands (show (x == bNames b && glB sc x && C.free.contains x && chks C sc as l && !l.any isStar && !l.isEmpty) = true from h)
    obtain ⟨h1, h5⟩ := ands h1
    obtain ⟨h1, h4⟩ := ands h1
    obtain ⟨h1, h3⟩ := ands h1
    obtain ⟨h1, h2⟩ := ands h1
    have ex : x = bNames b := by simpa using h1
    subst ex
    subst hs
    have hm := (R1 X W hx).free _ h3
    cases l with
    | nil => exact absurd h6 (show ¬ (false = true) from Bool.noConfusion)
    | cons e es =>
      have hst := notB h5
      rw [List.any_cons, Bool.or_eq_false_iff] at hst
      have hq : ∀ σ H Q, tE G cl mk W m (.bi b as) σ H Q → tCB (rBi G b) (tA G cl mk W (biMode b) as) σ H Q := fun σ H Q hq => by
        obtain ⟨Γ, R, lk, w⟩ := hq
        have lk : ∀ j ∈ lksM (biMode b) as, j ∉ Γ.ω := by cases m <;> cases b <;> simpa [lkM, BB.lk, lkB, lksM, biMode] using lk
        exact args_tA (m := biMode b) (es := as) R lk w fun ds vs H1 g dr s q => ⟨Γ.O, W σ, ds, s.vw, R.res (m := m) g dr q⟩
      rcases (R1 X W hx).bi b with ⟨id, e1, e2⟩ | ⟨t, e1, e2⟩
      · exact (pe_callB e2 (gl_of h2) hm e1 (sAs as _ _ h4 X W hx rfl _) (by cases b <;> decide) (by cases b <;> decide) (star_cons hst.1) (back_any (star_all hst.2))).imp hq
      · exact (pe_callTy e2 (gl_of h2) hm e1 (sAs as _ _ h4 X W hx rfl _) (by cases b <;> decide) (by cases b <;> decide) (star_cons hst.1) (back_any (star_all hst.2))).imp hq
  | .bw b it, e, sc, h, X, W, hx, hs => by
    cases e <;> (first | exact absurd h (show ¬ (false = true) from Bool.noConfusion) | skip)
    rename_i fn l kws pos
    match fn, l, kws, h with
    | .Name x p1, [a], [], h =>
    obtain ⟨h1, h5⟩ := ands (show (x == wNames b && glB sc x && C.free.contains x && chkI C sc it a && !isStar a) = true from h)
    obtain ⟨h1, h4⟩ := ands h1
    obtain ⟨h1, h3⟩ := ands h1
    obtain ⟨h1, h2⟩ := ands h1
    have ex : x = wNames b := by simpa using h1
    subst ex
    exact Bth.plainF (R1 X W hx).tru (fun _ => rfl) (fun ⟨_, _, _, z⟩ => by cases z) (fun hf => (R2 X W hx).bwF b it a p1 pos sc h4 hs h2 h3 (notB h5) (sL it a sc h4 X W hx hs) hf) fun m => (R2 X W hx).bw b it a p1 pos sc m h4 hs h2 h3 (notB h5) (sL it a sc h4 X W hx hs)
  | .isi a ts, e, sc, h, X, W, hx, hs => by
    cases e <;> (first | exact absurd h (show ¬ (false = true) from Bool.noConfusion) | skip)
    rename_i fn l kws pos
    refine Bth.plain (R1 X W hx).tru (fun _ => rfl) (fun ⟨_, _, _, z⟩ => by cases z) fun m => ?_
    match fn, l, kws, h with
    | .Name x p1, [v, t], [], h =>
    obtain ⟨h1, h6⟩ := ands (show (x == ("isinstance" : PySem.Str) && glB sc x && C.free.contains x && chk C sc a v && tysB C sc ts t && !isStar v) = true from h)
    obtain ⟨h1, h5⟩ := ands h1
    obtain ⟨h1, h4⟩ := ands h1
    obtain ⟨h1, h3⟩ := ands h1
    obtain ⟨h1, h2⟩ := ands h1
    have ex : x = ("isinstance" : PySem.Str) := by simpa using h1
    subst ex
    refine ((R1 X W hx).isi ts v t p1 pos _ sc hs ((sE a v sc h4 X W hx hs).pe true) h5 h2 h3 (notB h6)).imp fun σ H Q hq => ?_
    obtain ⟨Γ, R, lk, w⟩ := hq
    have lk : ∀ j ∈ lkB a, j ∉ Γ.ω := by cases m <;> simpa [lkM, BB.lk, lkB] using lk
    refine one_tE (RR := fun _ _ => True) (m := true) (a := a) R lk w fun d u H1 g dr s q => ?_
    obtain ⟨hi, q⟩ := wp_if q
    exact ⟨Γ.O, d, R.drO, s.vw, hi, dr, fun H2 g2 d2 => q _ H2 (g.trans g2) d2 (Sees.of rfl)⟩
  | .take a n, e, sc, h, X, W, hx, hs => by
    cases e <;> (first | exact absurd h (show ¬ (false = true) from Bool.noConfusion) | skip)
    rename_i fn l kws pos
    refine Bth.plain (R1 X W hx).tru (fun _ => rfl) (fun ⟨_, _, _, z⟩ => by cases z) fun m => ?_
    match fn, l, kws, h with
    | .Name x p1, [u, v], [], h =>
    obtain ⟨h1, h7⟩ := ands (show (x == ("_law_take" : PySem.Str) && glB sc x && chk C sc a u && chk C sc n v && !isStar u && !isStar v && C.tk) = true from h)
    obtain ⟨h1, h6⟩ := ands h1
    obtain ⟨h1, h5⟩ := ands h1
    obtain ⟨h1, h4⟩ := ands h1
    obtain ⟨h1, h3⟩ := ands h1
    obtain ⟨h1, h2⟩ := ands h1
    have ex : x = ("_law_take" : PySem.Str) := by simpa using h1
    subst ex
    refine ((R2 X W hx).take h7 u v p1 pos _ _ ((sE a u sc h3 X W hx hs).pe false) ((sE n v sc h4 X W hx hs).pe true) (by rw [hs]; exact h2) (notB h5) (notB h6)).imp fun σ H Q hq => ?_
    obtain ⟨Γ, R, lk, w⟩ := hq
    have lk : ∀ j ∈ BB.lk a ++ lkB n, j ∉ Γ.ω := by cases m <;> simpa [lkM, BB.lk, lkB] using lk
    refine two_tE (m1 := false) (m2 := true) (a := a) (b := n) R (lk_l lk) (lk_r lk) w fun d e v1 u1 H1 g dr s1 s2 q => ?_
    cases d <;> (first | exact q.elim | skip)
    cases e <;> (first | exact q.elim | skip)
    rename_i j
    obtain ⟨hj, q⟩ := wp_if q
    refine ⟨Γ.O, [.draw, .int j], ⟨_, _, rfl, s1.vw.draw, _, _, rfl, s2.vw.int, rfl⟩, R.drO, (R.grow g dr).live, dr, ?_⟩
    show (if 0 < j then (.ask j.toNat fun i => .ok (.int i) : Res BB.D) else .stuck).wp _ _
    rw [if_pos hj]
    exact ⟨q.1, fun i hi v H3 g3 d3 e3 => by rw [show v = V.int i from e3]; exact q.2 i hi _ H3 (g.trans g3) d3 (Sees.of rfl)⟩
  | .lc e p it cs, ex, sc, h, X, W, hx, hs => by
    cases ex <;> (first | exact absurd h (show ¬ (false = true) from Bool.noConfusion) | skip)
    rename_i el gs scope pos
    match gs, h with
    | [⟨tg, src, ifs, 0⟩], h =>
    obtain ⟨k1, h9⟩ := ands (show ((tgOk it tg && chkI C sc it src) && chkP C.N p tg && p.names.all (mayB C.N scope) && blkC C.N sc scope (ownOfP C p.names) && Nat.ble ifs.length 1 && chks C (relS scope sc) cs ifs && chk C (relS scope sc) e el && !ifs.any isStar) = true from h)
    obtain ⟨k2, h8⟩ := ands k1
    obtain ⟨k3, h7⟩ := ands k2
    obtain ⟨k4, h6⟩ := ands k3
    obtain ⟨k5, h5⟩ := ands k4
    obtain ⟨k6, h4⟩ := ands k5
    obtain ⟨h1, h3⟩ := ands k6
    subst hs
    have RL := R1 X W hx
    have ok := blkOk_by h5
    have hN : X.N = C.N := RL.N
    rw [← hN] at ok
    have B : ∀ s H A cl' fp, cx (X.blk s H scope (compEnvC scope cl' A X.env) fp) W0 := fun s H A cl' fp => hb X W s H scope cl' A fp _ hx ok
    have P := pe_lc (pos := pos) RL.calm RL.nd ((R2 X W hx).it it src tg _ true (ands h1).1 (ands h1).2 rfl (sL it src _ (ands h1).2 X W hx rfl)) ok
      (fun s H A cl' fp => pg_of (R1 _ _ (B s H A cl' fp)) (by rw [← (R1 _ _ (B s H A cl' fp)).N] at h3; exact h3) (mayB_of (R1 _ _ (B s H A cl' fp)).N rfl (fun _ => rfl) h4))
      (fun s H A cl' fp => sTs cs ifs _ h7 _ _ (B s H A cl' fp) rfl (by simpa using h6) (notB h9))
      (fun s H A cl' fp => (sE e el _ h8 _ _ (B s H A cl' fp) rfl).pe false) (set_of (ands h1).2)
    refine Bth.comp (R1 X W hx).tru (fun _ => rfl) (fun ⟨_, _, _, z⟩ => by cases z) (fun _ => P.imp fun σ H Q hq => by rw [ownOfP_snd]; exact lcF_imp hq) (fun m => P.imp fun σ H Q hq => by rw [ownOfP_snd]; exact lc_imp hq) ?_
    have U := fun (i : Nat) (y : PySem.Str) (py spos : Pos) hy hl hsw => ps_setLc (i := i) (y := y) (py := py) (spos := spos) (pos := pos) RL.calm RL.nd hy hl hsw ((R2 X W hx).it it src tg _ true (ands h1).1 (ands h1).2 rfl (sL it src _ (ands h1).2 X W hx rfl)) ok
      (fun s H A cl' fp => pg_of (R1 _ _ (B s H A cl' fp)) (by rw [← (R1 _ _ (B s H A cl' fp)).N] at h3; exact h3) (mayB_of (R1 _ _ (B s H A cl' fp)).N rfl (fun _ => rfl) h4))
      (fun s H A cl' fp => sTs cs ifs _ h7 _ _ (B s H A cl' fp) rfl (by simpa using h6) (notB h9))
      (fun s H A cl' fp => (sE e el _ h8 _ _ (B s H A cl' fp) rfl).pe false) (set_of (ands h1).2)
    exact ⟨fun m i y py spos hy hl hsw => (U i y py spos hy hl hsw).imp fun D σ H hq => by rw [ownOfP_snd]; exact lc_imp (Q := fun x H1 => gName i x σ H1 D.nx) hq, fun _ i y py spos hy hl hsw => (U i y py spos hy hl hsw).imp fun D σ H hq => by rw [ownOfP_snd]; exact lcF_imp (Q := fun x H1 => gName i x σ H1 D.nx) hq⟩
  | .lc2 e p it cs p2 it2 cs2, ex, sc, h, X, W, hx, hs => by
    cases ex <;> (first | exact absurd h (show ¬ (false = true) from Bool.noConfusion) | skip)
    rename_i el gs scope pos
    match gs, h with
    | [⟨tg, src, ifs, 0⟩, ⟨tg2, src2, ifs2, 0⟩], h =>
    obtain ⟨k1, h13⟩ := ands (show ((tgOk it tg && chkI C sc it src) && chkP C.N p tg && chkP C.N p2 tg2 && (p.names ++ p2.names).all (mayB C.N scope) && blkC C.N sc scope (ownOfP C (p.names ++ p2.names)) &&
      Nat.ble ifs.length 1 && chks C (relS scope sc) cs ifs && (tgOk it2 tg2 && chkI C (relS scope sc) it2 src2) && Nat.ble ifs2.length 1 && chks C (relS scope sc) cs2 ifs2 && chk C (relS scope sc) e el && !ifs.any isStar && !ifs2.any isStar) = true from h)
    obtain ⟨k2, h12⟩ := ands k1
    obtain ⟨k3, h11⟩ := ands k2
    obtain ⟨k4, h10⟩ := ands k3
    obtain ⟨k5, h9⟩ := ands k4
    obtain ⟨k6, h8⟩ := ands k5
    obtain ⟨k7, h7⟩ := ands k6
    obtain ⟨k8, h6⟩ := ands k7
    obtain ⟨k9, h5⟩ := ands k8
    obtain ⟨k10, h4⟩ := ands k9
    obtain ⟨k11, h3⟩ := ands k10
    obtain ⟨h1, h2⟩ := ands k11
    subst hs
    have RL := R1 X W hx
    have ok := blkOk_by h5
    have hN : X.N = C.N := RL.N
    rw [← hN] at ok
    have B : ∀ s H A cl' fp, cx (X.blk s H scope (compEnvC scope cl' A X.env) fp) W0 := fun s H A cl' fp => hb X W s H scope cl' A fp _ hx ok
    have mA := List.all_append (f := mayB C.N scope) (xs := p.names) (ys := p2.names)
    rw [mA] at h4
    obtain ⟨h4a, h4b⟩ := ands h4
    have P := pe_lc2 (pos := pos) (vs1 := p2.names) RL.calm RL.nd ((R2 X W hx).it it src tg _ true (ands h1).1 (ands h1).2 rfl (sL it src _ (ands h1).2 X W hx rfl)) ok (fun i hi => by rw [ownOfP_snd]; exact List.mem_append_right _ hi)
      (fun s H A cl' fp => pg_of (R1 _ _ (B s H A cl' fp)) (by rw [← (R1 _ _ (B s H A cl' fp)).N] at h2; exact h2) (mayB_of (R1 _ _ (B s H A cl' fp)).N rfl (fun _ => rfl) h4a))
      (fun s H A cl' fp => sTs cs ifs _ h7 _ _ (B s H A cl' fp) rfl (by simpa using h6) (notB h12))
      (fun s H A cl' fp => (R2 _ _ (B s H A cl' fp)).it it2 src2 tg2 _ false (ands h8).1 (ands h8).2 rfl (sL it2 src2 _ (ands h8).2 _ _ (B s H A cl' fp) rfl))
      (fun s H A cl' fp => pg_of (R1 _ _ (B s H A cl' fp)) (by rw [← (R1 _ _ (B s H A cl' fp)).N] at h3; exact h3) (mayB_of (R1 _ _ (B s H A cl' fp)).N rfl (fun _ => rfl) h4b))
      (fun s H A cl' fp => sTs cs2 ifs2 _ h10 _ _ (B s H A cl' fp) rfl (by simpa using h9) (notB h13))
      (fun s H A cl' fp => (sE e el _ h11 _ _ (B s H A cl' fp) rfl).pe false) (set_of (ands h1).2) (fun env => set_of (C := C) (ands h8).2)
    refine Bth.comp (R1 X W hx).tru (fun _ => rfl) (fun ⟨_, _, _, z⟩ => by cases z) (fun _ => P.imp fun σ H Q hq => by rw [ownOfP_snd]; exact lc2F_imp hq) (fun m => P.imp fun σ H Q hq => by rw [ownOfP_snd]; exact lc2_imp hq) ?_
    have U := fun (i : Nat) (y : PySem.Str) (py spos : Pos) hy hl hsw => ps_setLc2 (i := i) (y := y) (py := py) (spos := spos) (pos := pos) (vs1 := p2.names) RL.calm RL.nd hy hl hsw ((R2 X W hx).it it src tg _ true (ands h1).1 (ands h1).2 rfl (sL it src _ (ands h1).2 X W hx rfl)) ok (fun i hi => by rw [ownOfP_snd]; exact List.mem_append_right _ hi)
      (fun s H A cl' fp => pg_of (R1 _ _ (B s H A cl' fp)) (by rw [← (R1 _ _ (B s H A cl' fp)).N] at h2; exact h2) (mayB_of (R1 _ _ (B s H A cl' fp)).N rfl (fun _ => rfl) h4a))
      (fun s H A cl' fp => sTs cs ifs _ h7 _ _ (B s H A cl' fp) rfl (by simpa using h6) (notB h12))
      (fun s H A cl' fp => (R2 _ _ (B s H A cl' fp)).it it2 src2 tg2 _ false (ands h8).1 (ands h8).2 rfl (sL it2 src2 _ (ands h8).2 _ _ (B s H A cl' fp) rfl))
      (fun s H A cl' fp => pg_of (R1 _ _ (B s H A cl' fp)) (by rw [← (R1 _ _ (B s H A cl' fp)).N] at h3; exact h3) (mayB_of (R1 _ _ (B s H A cl' fp)).N rfl (fun _ => rfl) h4b))
      (fun s H A cl' fp => sTs cs2 ifs2 _ h10 _ _ (B s H A cl' fp) rfl (by simpa using h9) (notB h13))
      (fun s H A cl' fp => (sE e el _ h11 _ _ (B s H A cl' fp) rfl).pe false) (set_of (ands h1).2) (fun env => set_of (C := C) (ands h8).2)
    exact ⟨fun m i y py spos hy hl hsw => (U i y py spos hy hl hsw).imp fun D σ H hq => by rw [ownOfP_snd]; exact lc2_imp (Q := fun x H1 => gName i x σ H1 D.nx) hq, fun _ i y py spos hy hl hsw => (U i y py spos hy hl hsw).imp fun D σ H hq => by rw [ownOfP_snd]; exact lc2F_imp (Q := fun x H1 => gName i x σ H1 D.nx) hq⟩
  | .dct kvs, ex, sc, h, X, W, hx, hs => by
    cases ex <;> (first | exact absurd h (show ¬ (false = true) from Bool.noConfusion) | skip)
    rename_i ks vs pos
    obtain ⟨h1, h2⟩ := ands (show (chkd C sc kvs ks vs && Nat.ble ks.length 15) = true from h)
    have RL := R1 X W hx
    obtain ⟨l1, l2⟩ := chkd_len h1
    cases kvs with
    | nil =>
      match ks, vs, h1 with
      | [], [], _ => exact Bth.plainF (R1 X W hx).tru (fun _ => rfl) (fun ⟨_, _, _, z⟩ => by cases z) (fun _ => pe_gnew.imp fun σ H Q hq => dctF_nil hq) fun m => pe_gnew.imp fun σ H Q hq => dct_nil hq
    | cons k v r =>
      obtain ⟨trs, pp, tk⟩ := sKs (.cons k v r) ks vs sc h1 X W hx hs pos
      have hne : ks ≠ [] := fun z => by rw [z] at h1; exact absurd h1 (by cases vs <;> exact Bool.noConfusion)
      have P := pe_gdisp RL.K RL.w (by have := RL.room; omega) pp l2 l1 hne (Nat.le_of_ble_eq_true h2)
      exact Bth.plainF (R1 X W hx).tru (fun _ => rfl) (fun ⟨_, _, _, z⟩ => by cases z) (fun _ => P.imp fun σ H Q hq => dctF_imp tk hq) fun m => P.imp fun σ H Q hq => dct_imp tk hq
  | .dc k v p it cs, ex, sc, h, X, W, hx, hs => by
    cases ex <;> (first | exact absurd h (show ¬ (false = true) from Bool.noConfusion) | skip)
    rename_i ek el gs scope pos
    match gs, h with
    | [⟨tg, src, ifs, 0⟩], h =>
    obtain ⟨k1, h9⟩ := ands (show ((tgOk it tg && chkI C sc it src) && chkP C.N p tg && p.names.all (mayB C.N scope) && blkC C.N sc scope (ownOfP C p.names) && Nat.ble ifs.length 1 && chks C (relS scope sc) cs ifs && chk C (relS scope sc) k ek && chk C (relS scope sc) v el && !ifs.any isStar) = true from h)
    obtain ⟨k2, h8⟩ := ands k1
    obtain ⟨k3, h10⟩ := ands k2
    obtain ⟨k4, h7⟩ := ands k3
    obtain ⟨k5, h6⟩ := ands k4
    obtain ⟨k6, h5⟩ := ands k5
    obtain ⟨k7, h4⟩ := ands k6
    obtain ⟨h1, h3⟩ := ands k7
    subst hs
    have RL := R1 X W hx
    have ok := blkOk_by h5
    have hN : X.N = C.N := RL.N
    rw [← hN] at ok
    have B : ∀ s H A cl' fp, cx (X.blk s H scope (compEnvC scope cl' A X.env) fp) W0 := fun s H A cl' fp => hb X W s H scope cl' A fp _ hx ok
    have P := pe_gdc (pos := pos) RL.K RL.w (by have := RL.room; omega) RL.calm RL.nd ((R2 X W hx).it it src tg _ true (ands h1).1 (ands h1).2 rfl (sL it src _ (ands h1).2 X W hx rfl)) ok
      (fun s H A cl' fp => pg_of (R1 _ _ (B s H A cl' fp)) (by rw [← (R1 _ _ (B s H A cl' fp)).N] at h3; exact h3) (mayB_of (R1 _ _ (B s H A cl' fp)).N rfl (fun _ => rfl) h4))
      (fun s H A cl' fp => sTs cs ifs _ h7 _ _ (B s H A cl' fp) rfl (by simpa using h6) (notB h9))
      (fun s H A cl' fp => (sE k ek _ h10 _ _ (B s H A cl' fp) rfl).pe false)
      (fun s H A cl' fp => (sE v el _ h8 _ _ (B s H A cl' fp) rfl).pe false) (set_of (ands h1).2)
    refine Bth.comp (R1 X W hx).tru (fun _ => rfl) (fun ⟨_, _, _, z⟩ => by cases z) (fun _ => P.imp fun σ H Q hq => by rw [ownOfP_snd]; exact dcF_imp hq) (fun m => P.imp fun σ H Q hq => by rw [ownOfP_snd]; exact dc_imp hq) ?_
    have U := fun (i : Nat) (y : PySem.Str) (py spos : Pos) hy hl hsw => ps_setDc (i := i) (y := y) (py := py) (spos := spos) (pos := pos) RL.K RL.w (by have := RL.room; omega) RL.calm RL.nd hy hl hsw ((R2 X W hx).it it src tg _ true (ands h1).1 (ands h1).2 rfl (sL it src _ (ands h1).2 X W hx rfl)) ok
      (fun s H A cl' fp => pg_of (R1 _ _ (B s H A cl' fp)) (by rw [← (R1 _ _ (B s H A cl' fp)).N] at h3; exact h3) (mayB_of (R1 _ _ (B s H A cl' fp)).N rfl (fun _ => rfl) h4))
      (fun s H A cl' fp => sTs cs ifs _ h7 _ _ (B s H A cl' fp) rfl (by simpa using h6) (notB h9))
      (fun s H A cl' fp => (sE k ek _ h10 _ _ (B s H A cl' fp) rfl).pe false)
      (fun s H A cl' fp => (sE v el _ h8 _ _ (B s H A cl' fp) rfl).pe false) (set_of (ands h1).2)
    exact ⟨fun m i y py spos hy hl hsw => (U i y py spos hy hl hsw).imp fun D σ H hq => by rw [ownOfP_snd]; exact dc_imp (Q := fun x H1 => gName i x σ H1 D.nx) hq, fun _ i y py spos hy hl hsw => (U i y py spos hy hl hsw).imp fun D σ H hq => by rw [ownOfP_snd]; exact dcF_imp (Q := fun x H1 => gName i x σ H1 D.nx) hq⟩
theorem sKs : ∀ (kvs : Ks) (ks : List (Option Ex)) (vs : List Ex) (sc : Scope), chkd C sc kvs ks vs = true → ∀ (X : Cx) (W : WS), cx X W → X.env.scope = sc → ∀ pos, ∃ trs, PPs X pos ks vs trs ∧ ∀ σ H Q, tK G cl mk W kvs σ H Q → tPairs trs σ H Q
  | .nil, [], [], _, _, X, W, hx, hs, pos => ⟨[], pps_nil, tK_nil⟩
  | .cons k v r, some x :: ks, y :: vs, sc, h, X, W, hx, hs, pos => by
    obtain ⟨h1, h3⟩ := ands (show (chk C sc k x && chk C sc v y && chkd C sc r ks vs) = true from h)
    obtain ⟨h1, h2⟩ := ands h1
    obtain ⟨trs, pp, ih⟩ := sKs r ks vs sc h3 X W hx hs pos
    exact ⟨_, pps_cons ((sE k x sc h1 X W hx hs).pe false) ((sE v y sc h2 X W hx hs).pe false) pp, tK_cons ih⟩
  | .nil, _ :: _, _, _, h, _, _, _, _, _ => absurd h (show ¬ (false = true) from Bool.noConfusion)
  | .nil, [], _ :: _, _, h, _, _, _, _, _ => absurd h (show ¬ (false = true) from Bool.noConfusion)
  | .cons _ _ _, [], _, _, h, _, _, _, _, _ => absurd h (show ¬ (false = true) from Bool.noConfusion)
  | .cons _ _ _, none :: _, _, _, h, _, _, _, _, _ => absurd h (show ¬ (false = true) from Bool.noConfusion)
  | .cons _ _ _, some _ :: _, [], _, h, _, _, _, _, _ => absurd h (show ¬ (false = true) from Bool.noConfusion)
theorem sTs : ∀ (cs : Es) (l : List Ex) (sc : Scope), chks C sc cs l = true → ∀ (X : Cx) (W : WS), cx X W → X.env.scope = sc → l.length ≤ 1 → l.any isStar = false → PTs X l (tTs G cl mk W cs)
  | .nil, [], sc, h, X, W, hx, hs, _, _ => pts_nil.imp fun σ H Q hq => by
    obtain ⟨Γ, R, lk, w⟩ := hq
    exact w H (Grow.refl H) R.dr
  | .cons false c .nil, [x], sc, h, X, W, hx, hs, _, _ => (pts_one (sE c x sc (ands (ands (show (!isStar x && chk C sc c x && true) = true from h)).1).2 X W hx hs).pt).imp fun σ H Q hq => by
    obtain ⟨Γ, R, lk, w⟩ := hq
    refine ⟨Γ, R, fun i hi => lk i (List.mem_append_left _ hi), ?_⟩
    have w : ((ev G.T cl mk c Γ.ρ).bind fun x => (truR G.T cl x).bind fun t => if t then (.ok true : Res Bool) else .ok false).wp _ _ := w
    refine Res.wp_bind.mpr (Res.wp_mono (fun d q => ?_) (fun _ _ q => q) (Res.wp_bind.mp w))
    refine Res.wp_mono (fun b q => ?_) (fun _ _ q => q) (Res.wp_bind.mp q)
    cases b <;> exact q
  | .cons true c r, l, sc, h, X, W, hx, hs, hl, hn => by
    match l, h with
    | .Starred _ _ :: _, h => exact absurd hn (by simp [isStar])
  | .cons false c (.cons st e2 r2), l, sc, h, X, W, hx, hs, hl, hn => by
    match l, h with
    | [x], h => cases st <;> exact absurd (ands (show (!isStar x && chk C sc c x && false) = true from h)).2 Bool.noConfusion
    | _ :: _ :: _, h => exact absurd hl (by simp)
  | .nil, _ :: _, _, h, _, _, _, _, _, _ => absurd h (show ¬ (false = true) from Bool.noConfusion)
  | .cons false c .nil, [], _, h, _, _, _, _, _, _ => absurd h (show ¬ (false = true) from Bool.noConfusion)
  | .cons false c .nil, x :: y :: l, _, h, _, _, _, _, hl, _ => absurd hl (by simp)
theorem sO : ∀ (o : Oe) (e : Option Ex) (sc : Scope), chkO C sc o e = true → ∀ (X : Cx) (W : WS), cx X W → X.env.scope = sc → PO X e (tO G cl mk W o)
  | .none, none, sc, h, X, W, hx, hs => po_none.imp fun σ H Q hq => by
    obtain ⟨Γ, R, lk, w⟩ := hq
    exact w H (Grow.refl H) R.dr
  | .some a, some e, sc, h, X, W, hx, hs => by
    refine (po_some ((sE a e sc h X W hx hs).pe true)).imp fun σ H Q hq => ?_
    obtain ⟨Γ, R, lk, w⟩ := hq
    have lk : ∀ j ∈ lkB a, j ∉ Γ.ω := by simpa [lkO] using lk
    refine one_tE (RR := fun _ _ => True) (m := true) (a := a) R lk w fun d u H1 g dr s q => ?_
    cases d <;> (first | exact q.elim | skip)
    obtain ⟨_, q⟩ := wp_if q
    exact ⟨_, s.vw.int, q H1 g dr⟩
  | .none, some _, _, h, _, _, _, _ => absurd h (show ¬ (false = true) from Bool.noConfusion)
  | .some _, none, _, h, _, _, _, _ => absurd h (show ¬ (false = true) from Bool.noConfusion)
theorem sL : ∀ (i : It) (e : Ex) (sc : Scope), chkI C sc i e = true → ∀ (X : Cx) (W : WS), cx X W → X.env.scope = sc → Lf G cl mk W X i e
  | .val a, e, sc, h, X, W, hx, hs => fun m => (sE a e sc (ands h).1 X W hx hs).pe m
  | .rng1 a, e, sc, h, X, W, hx, hs => by
    match e, h with
    | .Call (.Name x _) [u] [] _, h =>
    obtain ⟨h1, _⟩ := ands (show (x == ("range" : PySem.Str) && glB sc x && C.free.contains x && chk C sc a u && !isStar u) = true from h)
    exact fun m => (sE a u sc (ands h1).2 X W hx hs).pe m
  | .rng2 a b, e, sc, h, X, W, hx, hs => by
    match e, h with
    | .Call (.Name x _) [u, v] [] _, h =>
    obtain ⟨h1, _⟩ := ands (show (x == ("range" : PySem.Str) && glB sc x && C.free.contains x && chk C sc a u && chk C sc b v && !isStar u && !isStar v) = true from h)
    obtain ⟨h1, _⟩ := ands h1
    obtain ⟨h1, h2⟩ := ands h1
    exact fun m => ⟨(sE a u sc (ands h1).2 X W hx hs).pe m, (sE b v sc h2 X W hx hs).pe m⟩
  | .rng3 a b c, e, sc, h, X, W, hx, hs => by
    match e, h with
    | .Call (.Name x _) [u, v, t] [] _, h =>
    obtain ⟨h1, _⟩ := ands (show (x == ("range" : PySem.Str) && glB sc x && C.free.contains x && chk C sc a u && chk C sc b v && chk C sc c t && !isStar u && !isStar v && !isStar t) = true from h)
    obtain ⟨h1, _⟩ := ands h1
    obtain ⟨h1, _⟩ := ands h1
    obtain ⟨h1, h3⟩ := ands h1
    obtain ⟨h1, h2⟩ := ands h1
    exact fun m => ⟨(sE a u sc (ands h1).2 X W hx hs).pe m, (sE b v sc h2 X W hx hs).pe m, (sE c t sc h3 X W hx hs).pe m⟩
  | .enum i, e, sc, h, X, W, hx, hs => by
    match e, h with
    | .Call (.Name x _) [u] [] _, h =>
    obtain ⟨h1, _⟩ := ands (show (x == ("enumerate" : PySem.Str) && glB sc x && C.free.contains x && chkI C sc i u && !isStar u) = true from h)
    exact sL i u sc (ands h1).2 X W hx hs
  | .zip2 a b, e, sc, h, X, W, hx, hs => by
    match e, h with
    | .Call (.Name x _) [u, v] [] _, h =>
    obtain ⟨h1, _⟩ := ands (show (x == ("zip" : PySem.Str) && glB sc x && C.free.contains x && chkI C sc a u && chkI C sc b v && !isStar u && !isStar v) = true from h)
    obtain ⟨h1, _⟩ := ands h1
    obtain ⟨h1, h2⟩ := ands h1
    exact ⟨sL a u sc (ands h1).2 X W hx hs, sL b v sc h2 X W hx hs⟩
  | .zip3 a b c, e, sc, h, X, W, hx, hs => by
    match e, h with
    | .Call (.Name x _) [u, v, t] [] _, h =>
    obtain ⟨h1, _⟩ := ands (show (x == ("zip" : PySem.Str) && glB sc x && C.free.contains x && chkI C sc a u && chkI C sc b v && chkI C sc c t && !isStar u && !isStar v && !isStar t) = true from h)
    obtain ⟨h1, _⟩ := ands h1
    obtain ⟨h1, _⟩ := ands h1
    obtain ⟨h1, h3⟩ := ands h1
    obtain ⟨h1, h2⟩ := ands h1
    exact ⟨sL a u sc (ands h1).2 X W hx hs, sL b v sc h2 X W hx hs, sL c t sc h3 X W hx hs⟩
  | .items a, e, sc, h, X, W, hx, hs => by
    match e, h with
    | .Call (.Attribute v x ap) [] [] p, h =>
    obtain ⟨h1, _⟩ := ands (show (x == ("items" : PySem.Str) && chk C sc a v && attOk v && oneLine ap p) = true from h)
    obtain ⟨h1, _⟩ := ands h1
    exact fun m => (sE a v sc (ands h1).2 X W hx hs).pe m
  | .values a, e, sc, h, X, W, hx, hs => by
    match e, h with
    | .Call (.Attribute v x ap) [] [] p, h =>
    obtain ⟨h1, _⟩ := ands (show (x == ("values" : PySem.Str) && chk C sc a v && attOk v && oneLine ap p) = true from h)
    obtain ⟨h1, _⟩ := ands h1
    exact fun m => (sE a v sc (ands h1).2 X W hx hs).pe m
theorem sAs : ∀ (es : Es) (l : List Ex) (sc : Scope), chks C sc es l = true → ∀ (X : Cx) (W : WS), cx X W → X.env.scope = sc → ∀ m, PA X l (tA G cl mk W m es)
  | .nil, l, sc, h, X, W, hx, hs, m => by
    cases l with
    | nil =>
      refine pa_nil.imp fun σ H Q hq => ?_
      obtain ⟨Γ, R, lk, w⟩ := hq
      exact w [] H (Grow.refl H) R.dr (by cases m <;> exact rfl)
    | cons _ _ => exact absurd h (show ¬ (false = true) from Bool.noConfusion)
  | .cons true a es, l, sc, h, X, W, hx, hs, m => by
    match l, h with
    | .Starred x p :: l, h =>
    obtain ⟨h1, h2⟩ := ands (show (chk C sc a x && chks C sc es l) = true from h)
    refine (StX.pa_star ((sE a x sc h1 X W hx hs).pe true) (sAs es l sc h2 X W hx hs m) rfl).imp fun σ H Q hq => ?_
    obtain ⟨Γ, R, lk, w⟩ := hq
    have lk : ∀ i ∈ lkB a ++ lksM m es, i ∉ Γ.ω := by cases m <;> simpa [lksM, lks, lksB] using lk
    refine one_tE (RR := fun _ _ => True) (m := true) (a := a) R (lk_l lk) w fun d v H1 g dr s q => ?_
    have fin : ∀ (ds : List D) (vs : List V), DenL G (hid Γ.O H1) ds vs → ((Res.ok ds : Res (List D)).bind fun m => (evs G.T cl mk es Γ.ρ).bind fun l => .ok (m ++ l)).wp (fun l => ∀ vs H', Grow G H H' → Dr G H' → SeesL G Γ.O H' m l vs → Q vs H') (Rst G Γ.O H (W σ)) →
        tA G cl mk W m es σ H1 fun us H2 => Q (vs ++ us) H2 := fun ds vs dl q => by
      refine args_tA (m := m) (es := es) (R.grow g dr) (lk_r lk) (Res.wp_mono (fun _ k => k) (fun _ _ k => k.grow g) q) fun l us H2 g2 d2 s2 q2 => ?_
      exact q2 (vs ++ us) H2 (g.trans g2) d2 (SeesL.app (SeesL.of (dl.mono (g2.hid R.drO))) s2)
    cases d <;> (first | exact q.elim | skip)
    · obtain ⟨b, vs, e1, e2, e3⟩ := s.vw.tup
      rw [← (R1 X W hx).K] at e2
      exact ⟨b, vs, e1, .inl e2, fin _ vs e3 q⟩
    · obtain ⟨b, vs, e1, e2, e3⟩ := s.vw.lst
      exact ⟨b, vs, e1, .inr ((.inl e2)), fin _ vs e3 q⟩
  | .cons false a es, l, sc, h, X, W, hx, hs, m => by
    cases l with
    | nil => exact absurd h (show ¬ (false = true) from Bool.noConfusion)
    | cons x l =>
      obtain ⟨h1, h2⟩ := ands (show (!isStar x && chk C sc a x && chks C sc es l) = true from h)
      obtain ⟨h0, h1⟩ := ands h1
      refine (pa_cons ((sE a x sc h1 X W hx hs).pe m) (sAs es l sc h2 X W hx hs m) (star_cons (notB h0))).imp fun σ H Q hq => ?_
      obtain ⟨Γ, R, lk, w⟩ := hq
      have lk : ∀ i ∈ lkM m a ++ lksM m es, i ∉ Γ.ω := by cases m <;> simpa [lkM, lksM, lks, lksB] using lk
      refine one_tE (RR := fun _ _ => True) (m := m) (a := a) R (lk_l lk) w fun d v H1 g dr s q => ?_
      refine args_tA (m := m) (es := es) (R.grow g dr) (lk_r lk) (Res.wp_mono (fun _ k => k) (fun _ _ k => k.grow g) q) fun l us H2 g2 d2 s2 q2 => ?_
      exact q2 (v :: us) H2 (g.trans g2) d2 (SeesL.cons (s.grow g2 R.drO) s2)
end
end
end BB
end
section
set_option Elab.async false
set_option linter.all false
set_option maxRecDepth 100000
set_option maxHeartbeats 4000000
/-! Statements, one by one. -/
namespace BB
open PySem PySem.Spec PyProof.Rows L2
variable {G : Gc} {C : Ck} {cl : Cal} {mk : Mak} {W : WS} {X : Cx} {Γ : Fr} {σ : L2.St} {H H' Hv : Hp} {Q : VK} {O : List Addr} {Ek : XK} {D : Ends}
abbrev KE (Ek : XK) : WS := fun _ => Ek
/-- a statement's reading, behind the look at what it hands on -/
def tS1 (G : Gc) (cl : Cal) (mk : Mak) (Ek : XK) (s : S) : TS := fun D σ H => ∃ Γ, Rel G Γ σ H ∧ okLk Γ.ρ (lkS s) = true ∧ (ex G.T cl mk s Γ.ρ Γ.ω).wp (Fin G Γ D) (RstF G Γ Ek)
theorem ps_stuck {st : St1} {t : TS} (h : ∀ D σ H, t D σ H → False) : PS X st t := ⟨fun _ _ _ _ _ _ q => (h _ _ _ q).elim⟩
theorem rel_eq {O : List Addr} {a b : List Nat} {ρ : Env} (h : a = b) (k : Rel G (Γ.on O a ρ) σ H) : Rel G (Γ.on O b ρ) σ H := h ▸ k
/-- the names of an expression let go, then the expression -/
theorem letGo {l : List Nat} {e : E} {m : Bool} (R : Rel G Γ σ H) (ok : okLk Γ.ρ l = true) (hl : ∀ j ∈ lkM m e, j ∈ l) {β : Type} {k : BB.D → Res β} {S : β → Prop} (w : ((ev G.T cl mk e Γ.ρ).bind k).wp S (RstF G Γ Ek))
    {P : VK} (f : ∀ O', (∀ a ∈ O', a ∈ Γ.O) → Rel G (Γ.on O' (minus Γ.ω l) Γ.ρ) σ H → ∀ d v H1, Grow G H H1 → Dr G H1 → Sees G O' H1 m d v → Rel G (Γ.on O' (minus Γ.ω l) Γ.ρ) σ H1 → (k d).wp S (RstF G Γ Ek) → P v H1) : tE G cl mk (KE Ek) m e σ H P := by
  obtain ⟨O', sub, R'⟩ := R.release l ok
  refine ⟨Γ.on O' (minus Γ.ω l) Γ.ρ, R', fun j hj z => (mem_minus.mp z).2 (hl j hj), Res.wp_mono (fun d q v H1 g dr s => f O' sub R' d v H1 g dr s (R'.grow g dr) q) (fun c fs q => RstF.rst R' q) (Res.wp_bind.mp w)⟩
theorem asg_imp {i : Nat} {e : E} (h : tS1 G cl mk Ek (.asg i false e) D σ H) : tAsg (tE G cl mk (KE Ek) false e) (gName i) D σ H := by
  obtain ⟨Γ, R, ok, w⟩ := h
  have w : ((ev G.T cl mk e Γ.ρ).bind fun d => if i < Γ.ρ.length then .ok (.nx (Γ.ρ.set i (some d)) (minus Γ.ω (i :: lk e))) else .stuck).wp (Fin G Γ D) (RstF G Γ Ek) := w
  refine letGo (l := lk e) (e := e) (m := false) R ok (fun j hj => hj) w fun O' sub R' d v H1 g dr s R1 q => ?_
  obtain ⟨hi, q⟩ := wp_if q
  have k := R1.put (i := i) (d := d) (v := v) hi s
  exact q O' _ _ (rel_eq (Γ := Γ) (by
    show minus (minus Γ.ω (lk e)) [i] = minus Γ.ω (i :: lk e)
    rw [minus_minus]
    exact minus_congr fun j => by simp [or_comm]) k)
theorem asgF_imp {i : Nat} {e : E} (h : tS1 G cl mk Ek (.asg i true e) D σ H) : tAsg (tF G cl mk (KE Ek) e) (gName i) D σ H := by
  obtain ⟨Γ, R, ok, w⟩ := h
  have w : ((ev G.T cl mk e Γ.ρ).bind fun d => if i < Γ.ρ.length then (if fresh e && canOwn d then .ok (.nx (Γ.ρ.set i (some d)) (i :: minus Γ.ω (i :: lk e))) else .stuck) else .stuck).wp (Fin G Γ D) (RstF G Γ Ek) := by
    refine Res.wp_bind.mpr (Res.wp_mono (fun d q => ?_) (fun _ _ q => q) (Res.wp_bind.mp (show ((ev G.T cl mk e Γ.ρ).bind _).wp _ _ from w)))
    exact q
  obtain ⟨O', sub, R'⟩ := R.release (lk e) ok
  refine ⟨Γ.on O' (minus Γ.ω (lk e)) Γ.ρ, R', fun j hj z => (mem_minus.mp z).2 hj, Res.wp_mono (fun d q => ?_) (fun c fs q => RstF.rst R' q) (Res.wp_bind.mp w)⟩
  obtain ⟨hi, q⟩ := wp_if q
  obtain ⟨hf, q⟩ := wp_if q
  have hd := (ands hf).2
  refine ⟨hd, fun p H1 hp hn g dr t => ?_⟩
  have k := R'.putOwn (i := i) g dr hi hp t hd
  refine q (p :: O') _ _ (rel_eq (Γ := Γ) ?_ k)
  show i :: minus (minus Γ.ω (lk e)) [i] = i :: minus Γ.ω (i :: lk e)
  rw [minus_minus]
  congr 1
  exact minus_congr fun j => by simp [or_comm]
theorem asgF_fresh {i : Nat} {e : E} (nf : fresh e = false) (h : tS1 G cl mk Ek (.asg i true e) D σ H) : tAsg (tE G cl mk (KE Ek) false e) (gName i) D σ H := by
  obtain ⟨Γ, R, ok, w⟩ := h
  have w : ((ev G.T cl mk e Γ.ρ).bind fun d => if i < Γ.ρ.length then (if fresh e && canOwn d then .ok (.nx (Γ.ρ.set i (some d)) (i :: minus Γ.ω (i :: lk e))) else .stuck) else .stuck).wp (Fin G Γ D) (RstF G Γ Ek) := w
  refine letGo (l := lk e) (e := e) (m := false) R ok (fun j hj => hj) w fun O' sub R' d v H1 g dr s R1 q => ?_
  obtain ⟨hi, q⟩ := wp_if q
  obtain ⟨hf, q⟩ := wp_if q
  rw [nf] at hf
  cases hf
theorem asgP_imp {p : Pat} {e : E} (h : tS1 G cl mk Ek (.asgP p e) D σ H) : tAsg (tE G cl mk (KE Ek) false e) (gP G p) D σ H := by
  obtain ⟨Γ, R, ok, w⟩ := h
  have w : ((ev G.T cl mk e Γ.ρ).bind fun d => match p.bind d Γ.ρ with
    | some ρ' => .ok (.nx ρ' (minus Γ.ω (p.names ++ lk e)))
    | none => .stuck).wp (Fin G Γ D) (RstF G Γ Ek) := w
  refine letGo (l := lk e) (e := e) (m := false) R ok (fun j hj => hj) w fun O' sub R' d v H1 g dr s R1 q => ?_
  split at q
  · rename_i ρ' hb
    refine ⟨_, d, ρ', R1, s, hb, fun σ' k _ _ => q O' _ _ (rel_eq (Γ := Γ) ?_ k)⟩
    show minus (minus Γ.ω (lk e)) p.names = minus Γ.ω (p.names ++ lk e)
    rw [minus_minus]
    exact minus_congr fun j => by simp [or_comm]
  · exact q.elim
theorem expr_imp {e : E} (h : tS1 G cl mk Ek (.expr e) D σ H) : tDrop (tE G cl mk (KE Ek) false e) D σ H := by
  obtain ⟨Γ, R, ok, w⟩ := h
  have w : ((ev G.T cl mk e Γ.ρ).bind fun _ => .ok (.nx Γ.ρ (minus Γ.ω (lk e)))).wp (Fin G Γ D) (RstF G Γ Ek) := w
  exact letGo (l := lk e) (e := e) (m := false) R ok (fun j hj => hj) w fun O' sub R' d v H1 g dr s R1 q => q O' _ _ R1
theorem ret_imp {e : E} (h : tS1 G cl mk Ek (.ret e) D σ H) : tRet (tE G cl mk (KE Ek) false e) D σ H := by
  obtain ⟨Γ, R, ok, w⟩ := h
  have w : ((ev G.T cl mk e Γ.ρ).bind fun d => .ok (.rt d Γ.ρ (minus Γ.ω (lk e)))).wp (Fin G Γ D) (RstF G Γ Ek) := w
  exact letGo (l := lk e) (e := e) (m := false) R ok (fun j hj => hj) w fun O' sub R' d v H1 g dr s R1 q => q O' _ _ v R1 s
theorem retN_imp (h : tS1 G cl mk Ek .retN D σ H) : tRetN D σ H := by
  obtain ⟨Γ, R, ok, w⟩ := h
  exact w Γ.O σ H .non R rfl
theorem pass_imp (h : tS1 G cl mk Ek .pass D σ H) : tNext D σ H := by
  obtain ⟨Γ, R, ok, w⟩ := h
  exact w Γ.O σ H R
theorem brk_imp (h : tS1 G cl mk Ek .brk D σ H) : tBreak D σ H := by
  obtain ⟨Γ, R, ok, w⟩ := h
  exact w Γ.O σ H R
theorem cont_imp (h : tS1 G cl mk Ek .cont D σ H) : tCont D σ H := by
  obtain ⟨Γ, R, ok, w⟩ := h
  exact w Γ.O σ H R
/-- the test of an if, a while -/
theorem test_imp {c : E} {β : Type} {k : Bool → Res β} {S : β → Prop} (R : Rel G Γ σ H) (ok : okLk Γ.ρ (lkB c) = true) (w : ((ev G.T cl mk c Γ.ρ).bind fun x => (truR G.T cl x).bind k).wp S (RstF G Γ Ek)) {P : Bool → Hp → Prop}
    (f : ∀ O', (∀ a ∈ O', a ∈ Γ.O) → ∀ b H1, Rel G (Γ.on O' (minus Γ.ω (lkB c)) Γ.ρ) σ H1 → (k b).wp S (RstF G Γ Ek) → P b H1) : BB.tB G cl mk (KE Ek) c σ H P := by
  obtain ⟨O', sub, R'⟩ := R.release (lkB c) ok
  rw [← assoc] at w
  exact ⟨Γ.on O' (minus Γ.ω (lkB c)) Γ.ρ, R', fun j hj z => (mem_minus.mp z).2 hj, Res.wp_mono (fun b q H1 g dr => f O' sub b H1 (R'.grow g dr) q) (fun c fs q => RstF.rst R' q) (Res.wp_bind.mp w)⟩
theorem ite_imp {c : E} {a b : Ss} (h : tS1 G cl mk Ek (.ite c a b) D σ H) : tIfS (BB.tB G cl mk (KE Ek) c) (tSs G cl mk Ek a) (tSs G cl mk Ek b) D σ H := by
  obtain ⟨Γ, R, ok, w⟩ := h
  have w : ((ev G.T cl mk c Γ.ρ).bind fun x => (truR G.T cl x).bind fun t => if t then exs G.T cl mk a Γ.ρ (minus Γ.ω (lkB c)) else exs G.T cl mk b Γ.ρ (minus Γ.ω (lkB c))).wp (Fin G Γ D) (RstF G Γ Ek) := w
  refine test_imp R ok w fun O' sub t H1 R1 q => ?_
  cases t with
  | true => exact ⟨_, R1, q⟩
  | false => exact ⟨_, R1, q⟩
theorem nil_imp (h : tSs G cl mk Ek .nil D σ H) : tNext D σ H := by
  obtain ⟨Γ, R, w⟩ := h
  exact w Γ.O σ H R
theorem cons_imp {s : S} {r : Ss} (h : tSs G cl mk Ek (.cons s r) D σ H) : tSeq (tS1 G cl mk Ek s) (tSs G cl mk Ek r) D σ H := by
  obtain ⟨Γ, R, w⟩ := h
  have w : (if okLk Γ.ρ (lkS s) then (ex G.T cl mk s Γ.ρ Γ.ω).bind fun fl => match fl with
    | .nx ρ' ω' => exs G.T cl mk r ρ' ω'
    | fl => .ok fl
  else .stuck).wp (Fin G Γ D) (RstF G Γ Ek) := w
  obtain ⟨ok, w⟩ := wp_if w
  refine ⟨Γ, R, ok, Res.wp_mono (fun fl q => ?_) (fun _ _ q => q) (Res.wp_bind.mp w)⟩
  cases fl with
  | nx ρ' ω' => exact fun O σ' H' k => ⟨_, k, q⟩
  | rt d ρ' ω' => exact q
  | bk ρ' ω' => exact q
  | ct ρ' ω' => exact q
theorem while_imp {c : E} {body : Ss} (h : tS1 G cl mk Ek (.while_ c body) D σ H) : tWhile (BB.tB G cl mk (KE Ek) c) (tSs G cl mk Ek body) D σ H := by
  obtain ⟨Γ, R, ok, w⟩ := h
  have w : (whileGo (lkB c) (fun ρ => (ev G.T cl mk c ρ).bind fun x => truR G.T cl x) (fun ρ ω => exs G.T cl mk body ρ ω) 100000 Γ.ρ Γ.ω).wp (Fin G Γ D) (RstF G Γ Ek) := w
  refine ⟨fun m σ H => ∃ O ω ρ, Rel G (Γ.on O ω ρ) σ H ∧ (whileGo (lkB c) (fun ρ => (ev G.T cl mk c ρ).bind fun x => truR G.T cl x) (fun ρ ω => exs G.T cl mk body ρ ω) m ρ ω).wp (Fin G Γ D) (RstF G Γ Ek), ⟨100000, Γ.O, Γ.ω, Γ.ρ, R, w⟩, ?_⟩
  rintro m σ1 H1 ⟨O1, ω1, ρ1, R1, w1⟩
  cases m with
  | zero => exact w1.elim
  | succ m =>
    obtain ⟨ok1, w1⟩ := wp_if w1
    rw [assoc] at w1
    refine test_imp (Γ := Γ.on O1 ω1 ρ1) R1 ok1 w1 fun O' sub b H2 R2 q => ?_
    cases b with
    | false => exact q O' _ _ R2
    | true =>
      rw [if_pos rfl]
      refine ⟨fun σ' H' => ∃ O ω ρ, Rel G (Γ.on O ω ρ) σ' H' ∧ (whileGo (lkB c) (fun ρ => (ev G.T cl mk c ρ).bind fun x => truR G.T cl x) (fun ρ ω => exs G.T cl mk body ρ ω) m ρ ω).wp (Fin G Γ D) (RstF G Γ Ek), fun σ' H' k => ⟨m, Nat.lt_succ_self m, k⟩, ?_⟩
      refine ⟨_, R2, Res.wp_mono (fun fl q => ?_) (fun _ _ q => q) (Res.wp_bind.mp q)⟩
      cases fl with
      | nx ρ' ω' => exact fun O σ' H' k => ⟨O, ω', ρ', k, q⟩
      | ct ρ' ω' => exact fun O σ' H' k => ⟨O, ω', ρ', k, q⟩
      | bk ρ' ω' => exact q
      | rt d ρ' ω' => exact q
/-- for -/
theorem for_imp {p : Pat} {it : It} {body : Ss} (h : tS1 G cl mk Ek (.for_ p it body) D σ H) : tFor (tI G cl mk (KE Ek) false it) (gP G p) (tSs G cl mk Ek body) D σ H := by
  obtain ⟨Γ, R, ok, w⟩ := h
  have w : ((evI G.T cl mk it Γ.ρ).bind fun l => forGo (fun ρ ω d => match p.bind d ρ with
    | some ρ' => exs G.T cl mk body ρ' (minus ω p.names)
    | none => .stuck) l Γ.ρ (minus Γ.ω (lkF it))).wp (Fin G Γ D) (RstF G Γ Ek) := w
  obtain ⟨O', sub, R'⟩ := R.release (lkF it) ok
  refine ⟨Γ.on O' (minus Γ.ω (lkF it)) Γ.ρ, R', fun j hj z => (mem_minus.mp z).2 hj, Res.wp_mono (fun l q J H1 g dr wk => ?_) (fun c fs q => RstF.rst R' q) (Res.wp_bind.mp w)⟩
  have R1 := R'.grow g dr
  let Γb := (Γ.on O' (minus Γ.ω (lkF it)) Γ.ρ).base σ H1
  have fin : ∀ fl, Fin G Γ D fl → Fin G Γb D fl := fun fl k => Fin.base (Γ := Γ.on O' (minus Γ.ω (lkF it)) Γ.ρ) R1 (by cases fl <;> exact k)
  have q : (forGo (fun ρ ω d => match p.bind d ρ with
    | some ρ' => exs G.T cl mk body ρ' (minus ω p.names)
    | none => .stuck) (l.drop 0) Γ.ρ (minus Γ.ω (lkF it))).wp (Fin G Γb D) (RstF G Γb Ek) := Res.wp_mono fin (fun c fs k => RstF.base R1 k) q
  refine ⟨fun i m σ2 H2 => m = l.length - i ∧ ∃ O2 ω2 ρ2, Rel G (Γb.on O2 ω2 ρ2) σ2 H2 ∧ (forGo (fun ρ ω d => match p.bind d ρ with
    | some ρ' => exs G.T cl mk body ρ' (minus ω p.names)
    | none => .stuck) (l.drop i) ρ2 ω2).wp (Fin G Γb D) (RstF G Γb Ek), ⟨_, rfl, O', minus Γ.ω (lkF it), Γ.ρ, R1.base, q⟩, ?_⟩
  rintro i m σ2 H2 ⟨em, O2, ω2, ρ2, R2, w2⟩
  have same := R1.still R2
  obtain ⟨w3, w4⟩ := wk i O2 H2 same (fun z => by cases z) R2.live R2.dr
  cases hd : l[i]? with
  | none =>
    have hl := List.getElem?_eq_none_iff.mp hd
    rw [List.drop_of_length_le hl] at w2
    exact .inl ⟨w3 hl, w2 O2 _ _ R2⟩
  | some d =>
    have hl := (List.getElem?_eq_some_iff.mp hd).1
    obtain ⟨go, yl⟩ := w4 d hd
    rw [drop_cons hd] at w2
    refine .inr ⟨go, fun σ' H' => ∃ O2 ω2 ρ2, Rel G (Γb.on O2 ω2 ρ2) σ' H' ∧ (forGo (fun ρ ω d => match p.bind d ρ with
      | some ρ' => exs G.T cl mk body ρ' (minus ω p.names)
      | none => .stuck) (l.drop (i + 1)) ρ2 ω2).wp (Fin G Γb D) (RstF G Γb Ek), fun σ' H' k => ⟨l.length - (i + 1), by omega, rfl, k⟩, fun x H3 y => ?_⟩
    obtain ⟨s3, d3⟩ := yl x H3 y
    have R3 := R2.grow (Grow.of s3) (R2.dr.ext s3)
    have w2 : ((match p.bind d ρ2 with
      | some ρ' => exs G.T cl mk body ρ' (minus ω2 p.names)
      | none => .stuck : Res Fl).bind fun fl => match fl with
      | .nx ρ' ω' => forGo (fun ρ ω d => match p.bind d ρ with
        | some ρ' => exs G.T cl mk body ρ' (minus ω p.names)
        | none => .stuck) (l.drop (i + 1)) ρ' ω'
      | .ct ρ' ω' => forGo (fun ρ ω d => match p.bind d ρ with
        | some ρ' => exs G.T cl mk body ρ' (minus ω p.names)
        | none => .stuck) (l.drop (i + 1)) ρ' ω'
      | .bk ρ' ω' => .ok (.nx ρ' ω')
      | .rt d ρ' ω' => .ok (.rt d ρ' ω')).wp (Fin G Γb D) (RstF G Γb Ek) := w2
    cases hb : p.bind d ρ2 with
    | none => rw [hb] at w2; exact w2.elim
    | some ρ' =>
      rw [hb] at w2
      refine ⟨_, d, ρ', R3, d3, hb, fun σ' k _ _ => ⟨_, k, Res.wp_mono (fun fl q => ?_) (fun _ _ q => q) (Res.wp_bind.mp w2)⟩⟩
      cases fl with
      | nx ρ' ω' => exact fun O σ' H' k => ⟨O, ω', ρ', k, q⟩
      | ct ρ' ω' => exact fun O σ' H' k => ⟨O, ω', ρ', k, q⟩
      | bk ρ' ω' => exact fun O σ' H' k => q O σ' H' k
      | rt d ρ' ω' => exact fun O σ' H' v k => q O σ' H' v k
end BB
end
section
set_option Elab.async false
set_option linter.all false
set_option maxRecDepth 100000
set_option maxHeartbeats 4000000
/-! Statements: fields, several at once. -/
namespace BB
open PySem PySem.Spec PyProof.Rows L2
variable {G : Gc} {C : Ck} {cl : Cal} {mk : Mak} {W : WS} {X : Cx} {Γ : Fr} {σ : L2.St} {H H' Hv : Hp} {Q : VK} {O : List Addr} {Ek : XK} {D : Ends}
theorem loc_of {sc : Scope} {x : PySem.Str} (h : locB sc x = true) : sc.names.lookup x = some .local := by unfold locB at h; simpa using h
theorem star_any2 {a b : Ex} (h1 : isStar a = false) (h2 : isStar b = false) : ([a, b].any fun | .Starred .. => true | _ => false) = false := by
  cases a <;> cases b <;> first | rfl | exact absurd h1 (show ¬ (true = false) from Bool.noConfusion) | exact absurd h2 (show ¬ (true = false) from Bool.noConfusion)
theorem swp2_ok {env : PySem.Env} (hk : env.scope.kind = .function) {x y : PySem.Str} {px py pt p2 : Pos} {a b : Ex} {k k2 : Nat} (h : swp2 env.scope x px y py a b = true) :
    swappedStores [.Tuple [.Name x px, .Name y py] k pt] (.Tuple [a, b] k2 p2) env = pure (some [x, y]) := by
  unfold swp2 at h
  obtain ⟨h, h8⟩ := ands h
  obtain ⟨h, h7⟩ := ands h
  obtain ⟨h, h6⟩ := ands h
  obtain ⟨h, h5⟩ := ands h
  obtain ⟨h, h4⟩ := ands h
  obtain ⟨h, h3⟩ := ands h
  obtain ⟨h1, h2⟩ := ands h
  have kx : env.kindOf x = some .local := loc_of h1
  have ky : env.kindOf y = some .local := loc_of h2
  have el : py.line = px.line := by simpa using h3
  have ne : x ≠ y := by simpa using h4
  have hb := block_fun hk
  have st := star_any2 (notB h5) (notB h6)
  have nf := notB h7
  have nc := notB h8
  have ed : ([x, y] : List PySem.Str).eraseDups = [x, y] := by
    rw [List.eraseDups_cons, List.filter_cons]
    have : (y == x) = false := by simpa using fun z : y = x => ne z.symm
    rw [this]
    rfl
  unfold swappedStores
  dsimp only
  refine (if_neg (by rw [hb]; exact Bool.noConfusion)).trans ?_
  refine (if_neg fun z => Bool.noConfusion (st.symm.trans z)).trans ?_
  simp only [List.filterMap_cons, List.filterMap_nil, kx, ky, Expr.pos, List.head?_cons, Option.map_some, Option.getD_some, el, BEq.rfl, Bool.and_self, if_true, ed]
  refine (if_neg Bool.noConfusion).trans ?_
  refine (if_neg (by rw [nf]; exact Bool.noConfusion)).trans ?_
  exact if_neg (by rw [nc]; exact Bool.noConfusion)
theorem star_any3 {a b c : Ex} (h1 : isStar a = false) (h2 : isStar b = false) (h3 : isStar c = false) : ([a, b, c].any fun | .Starred .. => true | _ => false) = false := by
  have h := star_any2 h1 h2
  cases c <;> first
    | exact absurd h3 (show ¬ (true = false) from Bool.noConfusion)
    | (simp only [List.any_cons, List.any_nil, Bool.or_false] at h ⊢; exact h)
theorem swp3_ok {env : PySem.Env} (hk : env.scope.kind = .function) {x y z : PySem.Str} {px py pz pt p2 : Pos} {a b c : Ex} {k k2 : Nat} (h : swp3 env.scope x px y py z pz a b c = true) :
    swappedStores [.Tuple [.Name x px, .Name y py, .Name z pz] k pt] (.Tuple [a, b, c] k2 p2) env = pure (some [x, y, z]) ∧ x ≠ y ∧ x ≠ z ∧ y ≠ z := by
  unfold swp3 at h
  obtain ⟨h, h13⟩ := ands h
  obtain ⟨h, h12⟩ := ands h
  obtain ⟨h, h11⟩ := ands h
  obtain ⟨h, h10⟩ := ands h
  obtain ⟨h, h9⟩ := ands h
  obtain ⟨h, h8⟩ := ands h
  obtain ⟨h, h7⟩ := ands h
  obtain ⟨h, h6⟩ := ands h
  obtain ⟨h, h5⟩ := ands h
  obtain ⟨h, h4⟩ := ands h
  obtain ⟨h, h3⟩ := ands h
  obtain ⟨h1, h2⟩ := ands h
  have kx : env.kindOf x = some .local := loc_of h1
  have ky : env.kindOf y = some .local := loc_of h2
  have kz : env.kindOf z = some .local := loc_of h3
  have el : py.line = px.line := by simpa using h4
  have el2 : pz.line = px.line := by simpa using h5
  have n1 : x ≠ y := by simpa using h6
  have n2 : x ≠ z := by simpa using h7
  have n3 : y ≠ z := by simpa using h8
  have hb := block_fun hk
  have st := star_any3 (notB h9) (notB h10) (notB h11)
  have nf := notB h12
  have nc := notB h13
  have ed : ([x, y, z] : List PySem.Str).eraseDups = [x, y, z] := by
    have e1 : (y == x) = false := by simpa using fun q : y = x => n1 q.symm
    have e2 : (z == x) = false := by simpa using fun q : z = x => n2 q.symm
    have e3 : (z == y) = false := by simpa using fun q : z = y => n3 q.symm
    simp [List.eraseDups_cons, e1, e2, e3]
  refine ⟨?_, n1, n2, n3⟩
  unfold swappedStores
  dsimp only
  refine (if_neg (by rw [hb]; exact Bool.noConfusion)).trans ?_
  refine (if_neg fun z => Bool.noConfusion (st.symm.trans z)).trans ?_
  simp only [List.filterMap_cons, List.filterMap_nil, kx, ky, kz, Expr.pos, List.head?_cons, Option.map_some, Option.getD_some, el, el2, BEq.rfl, Bool.and_self, if_true, ed]
  refine (if_neg Bool.noConfusion).trans ?_
  refine (if_neg (by rw [nf]; exact Bool.noConfusion)).trans ?_
  exact if_neg (by rw [nc]; exact Bool.noConfusion)
theorem swp2_ne {sc : Scope} {x y : PySem.Str} {px py : Pos} {a b : Ex} (h : swp2 sc x px y py a b = true) : locB sc x = true ∧ locB sc y = true ∧ x ≠ y := by
  unfold swp2 at h
  obtain ⟨h, _⟩ := ands h
  obtain ⟨h, _⟩ := ands h
  obtain ⟨h, _⟩ := ands h
  obtain ⟨h, _⟩ := ands h
  obtain ⟨h, h4⟩ := ands h
  obtain ⟨h, h3⟩ := ands h
  obtain ⟨h1, h2⟩ := ands h
  exact ⟨h1, h2, by simpa using h4⟩
theorem swp3_loc {sc : Scope} {x y z : PySem.Str} {px py pz : Pos} {a b c : Ex} (h : swp3 sc x px y py z pz a b c = true) : locB sc x = true ∧ locB sc y = true ∧ locB sc z = true := by
  unfold swp3 at h
  obtain ⟨h, _⟩ := ands h
  obtain ⟨h, _⟩ := ands h
  obtain ⟨h, _⟩ := ands h
  obtain ⟨h, _⟩ := ands h
  obtain ⟨h, _⟩ := ands h
  obtain ⟨h, _⟩ := ands h
  obtain ⟨h, _⟩ := ands h
  obtain ⟨h, _⟩ := ands h
  obtain ⟨h, _⟩ := ands h
  obtain ⟨h, _⟩ := ands h
  obtain ⟨h, h3⟩ := ands h
  obtain ⟨h1, h2⟩ := ands h
  exact ⟨h1, h2, h3⟩
/-- several expressions, their names let go -/
theorem letGos {l : List Nat} {es : Es} (R : Rel G Γ σ H) (ok : okLk Γ.ρ l = true) (hl : ∀ j ∈ lksM false es, j ∈ l) {β : Type} {k : List BB.D → Res β} {S : β → Prop} (w : ((evs G.T cl mk es Γ.ρ).bind k).wp S (RstF G Γ Ek))
    {P : List V → Hp → Prop} (f : ∀ O', (∀ a ∈ O', a ∈ Γ.O) → ∀ ds vs H1, DenL G (hid O' H1) ds vs → Rel G (Γ.on O' (minus Γ.ω l) Γ.ρ) σ H1 → (k ds).wp S (RstF G Γ Ek) → P vs H1) : tA G cl mk (KE Ek) false es σ H P := by
  obtain ⟨O', sub, R'⟩ := R.release l ok
  refine ⟨Γ.on O' (minus Γ.ω l) Γ.ρ, R', fun j hj z => (mem_minus.mp z).2 (hl j hj), Res.wp_mono (fun d q v H1 g dr s => f O' sub d v H1 s (R'.grow g dr) q) (fun c fs q => RstF.rst R' q) (Res.wp_bind.mp w)⟩
theorem setAll_len : ∀ {is : List (Nat × Bool)} {ds : List BB.D} {ρ ρ' : Env}, setAll is ds ρ = some ρ' → ds.length = is.length
  | [], [], _, _, _ => rfl
  | [], _ :: _, _, _, h => by cases h
  | _ :: _, [], _, _, h => by cases h
  | i :: is, d :: ds, ρ, ρ', h => by
    unfold setAll at h
    split at h
    · rw [List.length_cons, List.length_cons, setAll_len h]
    · cases h
theorem par2_imp {i j : Nat} {es : Es} (h : tS1 G cl mk Ek (.par [(i, false), (j, false)] es) D σ H) : tPar i j (tA G cl mk (KE Ek) false es) D σ H := by
  obtain ⟨Γ, R, ok, w⟩ := h
  have w : ((evs G.T cl mk es Γ.ρ).bind fun ds => match setAll [(i, false), (j, false)] ds Γ.ρ with
    | some ρ' => if freshs [(i, false), (j, false)] es then .ok (.nx ρ' (ownOf [(i, false), (j, false)] ++ minus Γ.ω ([(i, false), (j, false)].map (·.1) ++ lks es))) else .stuck
    | none => .stuck).wp (Fin G Γ D) (RstF G Γ Ek) := w
  refine letGos (l := lks es) R ok (fun _ h => h) w fun O' sub ds vs H1 dl R1 q => ?_
  split at q
  · rename_i ρ' hs
    obtain ⟨_, q⟩ := wp_if q
    have len := setAll_len hs
    obtain ⟨d1, d2, rfl⟩ : ∃ d1 d2, ds = [d1, d2] := match ds, len with | [d1, d2], _ => ⟨d1, d2, rfl⟩
    · obtain ⟨v1, r, rfl, x1, v2, r2, rfl, x2, z⟩ := dl
      rw [show r2 = [] from z]
      refine ⟨v1, v2, rfl, ?_⟩
      unfold setAll at hs
      split at hs
      · rename_i h1
        unfold setAll at hs
        split at hs
        · rename_i h2
          unfold setAll at hs
          cases hs
          have h1 : i < Γ.ρ.length := of_decide_eq_true (ands h1).1
          have h2 : j < (Γ.ρ.set i (some d1)).length := of_decide_eq_true (ands h2).1
          have k1 := R1.put (i := i) (d := d1) (v := v1) h1 x1
          have k2 := k1.put (i := j) (d := d2) (v := v2) h2 x2
          refine q O' _ _ (rel_eq (Γ := Γ) ?_ k2)
          show minus (minus (minus Γ.ω (lks es)) [i]) [j] = minus Γ.ω ([i, j] ++ lks es)
          rw [minus_minus, minus_minus]
          exact minus_congr fun n => by simp [or_comm, or_assoc, or_left_comm]
        · cases hs
      · cases hs
  · exact q.elim
theorem par3_imp {i j l : Nat} {es : Es} (h : tS1 G cl mk Ek (.par [(i, false), (j, false), (l, false)] es) D σ H) : tPar3 i j l (tA G cl mk (KE Ek) false es) D σ H := by
  obtain ⟨Γ, R, ok, w⟩ := h
  have w : ((evs G.T cl mk es Γ.ρ).bind fun ds => match setAll [(i, false), (j, false), (l, false)] ds Γ.ρ with
    | some ρ' => if freshs [(i, false), (j, false), (l, false)] es then .ok (.nx ρ' (ownOf [(i, false), (j, false), (l, false)] ++ minus Γ.ω ([(i, false), (j, false), (l, false)].map (·.1) ++ lks es))) else .stuck
    | none => .stuck).wp (Fin G Γ D) (RstF G Γ Ek) := w
  refine letGos (l := lks es) R ok (fun _ h => h) w fun O' sub ds vs H1 dl R1 q => ?_
  split at q
  · rename_i ρ' hs
    obtain ⟨_, q⟩ := wp_if q
    have len := setAll_len hs
    obtain ⟨d1, d2, d3, rfl⟩ : ∃ d1 d2 d3, ds = [d1, d2, d3] := match ds, len with | [d1, d2, d3], _ => ⟨d1, d2, d3, rfl⟩
    · obtain ⟨v1, r, rfl, x1, v2, r2, rfl, x2, v3, r3, rfl, x3, z⟩ := dl
      rw [show r3 = [] from z]
      refine ⟨v1, v2, v3, rfl, ?_⟩
      unfold setAll at hs
      split at hs
      · rename_i h1
        unfold setAll at hs
        split at hs
        · rename_i h2
          unfold setAll at hs
          split at hs
          · rename_i h3
            unfold setAll at hs
            cases hs
            have h1 : i < Γ.ρ.length := of_decide_eq_true (ands h1).1
            have h2 : j < (Γ.ρ.set i (some d1)).length := of_decide_eq_true (ands h2).1
            have h3 : l < ((Γ.ρ.set i (some d1)).set j (some d2)).length := of_decide_eq_true (ands h3).1
            have k1 := R1.put (i := i) (d := d1) (v := v1) h1 x1
            have k2 := k1.put (i := j) (d := d2) (v := v2) h2 x2
            have k3 := k2.put (i := l) (d := d3) (v := v3) h3 x3
            refine q O' _ _ (rel_eq (Γ := Γ) ?_ k3)
            show minus (minus (minus (minus Γ.ω (lks es)) [i]) [j]) [l] = minus Γ.ω ([i, j, l] ++ lks es)
            rw [minus_minus, minus_minus, minus_minus]
            exact minus_congr fun n => by simp [or_comm, or_assoc, or_left_comm]
          · cases hs
        · cases hs
      · cases hs
  · exact q.elim
/-! fields -/
theorem name_inj (RL : Rl G cl C X) {f g : Nat} {y : PySem.Str} (h : C.nm[f]? = some y) (e : name G g = name G f) : g = f := by
  have nf : name G f = y := by unfold name; rw [RL.nm, h]; rfl
  rw [nf] at e
  unfold name at e
  rw [RL.nm] at e
  cases q : C.nm[g]? with
  | none =>
    rw [q] at e
    exact absurd e.symm (RL.nmne f y h)
  | some z =>
    rw [q] at e
    have e : z = y := e
    subst e
    obtain ⟨h1, h2⟩ := List.getElem?_eq_some_iff.mp q
    obtain ⟨h3, h4⟩ := List.getElem?_eq_some_iff.mp h
    exact (List.getElem?_inj h1 RL.inj).mp (q.trans h.symm)
theorem DenF.put (RL : Rl G cl C X) {f : Nat} {y : PySem.Str} (hf : C.nm[f]? = some y) {d : BB.D} {v : V} (dv : Den G Hv d v) : ∀ {fs : Fs} {gs : List (PySem.Str × V)}, DenF G Hv fs gs → DenF G Hv (BB.putF f d fs) (L2.putF (name G f) v gs)
  | [], _, h => by
    rw [show _ = _ from h]
    exact ⟨v, [], rfl, dv, rfl⟩
  | (g, x) :: fs, _, h => by
    obtain ⟨u, r, rfl, h1, h2⟩ := h
    unfold BB.putF L2.putF
    by_cases e : g = f
    · subst e
      rw [if_pos (by simp), if_pos rfl]
      exact ⟨v, r, rfl, dv, h2⟩
    · rw [if_neg (by simpa using e), if_neg fun z => e (name_inj RL hf z)]
      exact ⟨u, _, rfl, h1, DenF.put RL hf dv h2⟩
theorem DenF.length : ∀ {fs : Fs} {gs : List (PySem.Str × V)}, DenF G Hv fs gs → gs.length = fs.length
  | [], _, h => by rw [show _ = _ from h]; rfl
  | (g, x) :: fs, _, h => by
    obtain ⟨u, r, rfl, h1, h2⟩ := h
    rw [List.length_cons, List.length_cons, DenF.length h2]
theorem fsOk_put {c f : Nat} {d : BB.D} (h : G.T.noMeth c f = true) : ∀ {fs : Fs}, fsOk G c fs = true → fsOk G c (BB.putF f d fs) = true
  | [], _ => by show (G.T.noMeth c f && true) = true; rw [h]; rfl
  | (g, x) :: fs, k => by
    obtain ⟨k1, k2⟩ := ands (show (G.T.noMeth c g && fsOk G c fs) = true from k)
    unfold BB.putF
    split
    · exact k
    · show (G.T.noMeth c g && fsOk G c (BB.putF f d fs)) = true
      rw [k1, fsOk_put h k2]; rfl
theorem setF_imp (RL : Rl G cl C X) {i f : Nat} {y : PySem.Str} (hf : C.nm[f]? = some y) {e : E} (h : tS1 G cl mk Ek (.setF i f e) D σ H) : sFld X.K (tVar i) (tE G cl mk (KE Ek) false e) y D σ H := by
  obtain ⟨Γ, R, ok, w⟩ := h
  have w : ((ev G.T cl mk e Γ.ρ).bind fun y => match Γ.ρ[i]? with
    | some (some (.me c fs)) => if Γ.ω.contains i && !(lk e).contains i && decide (fs.length < 100) && G.T.noMeth c f then .ok (.nx (Γ.ρ.set i (some (.me c (BB.putF f y fs)))) (minus Γ.ω (lk e))) else .stuck
    | _ => .stuck).wp (Fin G Γ D) (RstF G Γ Ek) := w
  have ny : name G f = y := by unfold name; rw [RL.nm, hf]; rfl
  refine letGo (l := lk e) (e := e) (m := false) R ok (fun j hj => hj) w fun O' sub R' d v H1 g dr s R1 q => ?_
  split at q
  · rename_i c fs hi
    obtain ⟨hc, q⟩ := wp_if q
    obtain ⟨hc, h4⟩ := ands hc
    obtain ⟨hc, h3⟩ := ands hc
    obtain ⟨h1, h2⟩ := ands hc
    have im : i ∈ minus Γ.ω (lk e) := mem_minus.mpr ⟨by simpa using h1, by simpa using notB h2⟩
    obtain ⟨d0, p, e1, e2, e3, e4, e5, e6⟩ := R1.own i im
    have e1 : Γ.ρ[i]? = some (some d0) := e1
    rw [hi] at e1
    cases e1
    obtain ⟨fo, dx, gs, eo, dg⟩ := e6
    have len := dg.length
    have h3 : fs.length < 100 := of_decide_eq_true h3
    refine ⟨.ref p, e2, p, G.cad c, dx, gs, rfl, eo, RL.ins c (cls_lt h4), by rw [← ny]; exact RL.noat c f h4, by omega, ?_⟩
    have k := R1.write (i := i) (p := p) (d := .me c fs) (d' := .me c (BB.putF f d fs)) (o := .ins (G.cad c) dx (L2.putF y v gs)) im hi e2 ⟨fsOk_put h4 fo, dx, _, rfl, by rw [← ny]; exact dg.put RL hf s⟩ (fun c' fs' z => ⟨c, fs, rfl⟩)
    exact q O' _ _ k
  · exact q.elim
end BB
end
section
set_option Elab.async false
set_option linter.all false
set_option maxRecDepth 100000
set_option maxHeartbeats 4000000
/-! Every checked statement does what the interpreter says. -/
namespace BB
open PySem PySem.Spec PyProof.Rows L2
variable {G : Gc} {C : Ck} {cl : Cal} {mk : Mak} {Ek : XK}
theorem chk_noset {sc : Scope} {e : E} {a : List Ex} {p : Pos} : chk C sc e (.SetComp x y z p) = false := by cases e <;> rfl
theorem mayB_put {X : Cx} {ns : List Nat} {sc : Scope} (hN : X.N = C.N) (hs : X.env.scope = sc) (hf : ∀ x, sc.names.lookup x = some .cell → X.fn x = true) (h : ns.all (mayB C.N sc) = true) : ∀ i ∈ ns, MayPut X i := fun i hi x hx => by
  have h1 := List.all_eq_true.mp h i hi
  rw [hN] at hx
  unfold mayB at h1
  rw [hx] at h1
  subst hs
  dsimp only at h1
  split at h1
  · rename_i e; exact ⟨.inl e, .inr e⟩
  · rename_i e; exact ⟨.inr e, .inl (hf x e)⟩
  · cases h1
/-- a frame in which statements run -/
structure FrX (C : Ck) (X : Cx) (sc : Scope) : Prop where
  at_ : X.env.scope = sc
  fn : ∀ x, sc.names.lookup x = some .cell → X.fn x = true
  own : PassesOwn (model X.prog X.w) X.A X.env X.xe
theorem sole_tup {es : List Ex} {k : Nat} {p : Pos} {v : Ex} {l : Nat} {env : PySem.Env} : swapsWithSole [.Tuple es k p] v l env = pure false := sw_tup (env := env) (v := v) (es := es) (k := k) (p := p) l
theorem par_of {sc : Scope} {is : List (Nat × Bool)} {es : Es} {st : St1} (h : chkS C sc (.par is es) st = true) :
    (∃ i j x px y py k q a b k2 q2 pos, is = [(i, false), (j, false)] ∧ st = .Assign [.Tuple [.Name x px, .Name y py] k q] (.Tuple [a, b] k2 q2) pos ∧ (decide (C.N[i]? = some x) && decide (C.N[j]? = some y) && chks C sc es [a, b] && swp2 sc x px y py a b) = true) ∨
    (∃ i j l x px y py z pz k q a b c k2 q2 pos, is = [(i, false), (j, false), (l, false)] ∧ st = .Assign [.Tuple [.Name x px, .Name y py, .Name z pz] k q] (.Tuple [a, b, c] k2 q2) pos ∧
      (decide (C.N[i]? = some x) && decide (C.N[j]? = some y) && decide (C.N[l]? = some z) && chks C sc es [a, b, c] && swp3 sc x px y py z pz a b c) = true) := by
  unfold chkS at h
  split at h <;> first
    | exact absurd h (show ¬ (false = true) from Bool.noConfusion)
    | (rename_i q _; cases q; done)
    | (rename_i q; cases q; done)
    | skip
  · rename_i e
    cases e
    exact .inl ⟨_, _, _, _, _, _, _, _, _, _, _, _, _, rfl, rfl, h⟩
  · rename_i e
    cases e
    exact .inr ⟨_, _, _, _, _, _, _, _, _, _, _, _, _, _, _, _, _, rfl, rfl, h⟩
section
variable (cx : Cx → WS → Prop)
  (hb : ∀ X W s H scope cells D fp own, cx X W → BlkOk X.N X.env.scope scope own → cx (X.blk s H scope (compEnvC scope cells D X.env) fp) (fun _ _ _ _ => False))
  (R1 : ∀ X W, cx X W → Rl G cl C X) (R2 : ∀ X W, cx X W → RlW G cl mk C W X)
include hb R1 R2
theorem s_asg {X : Cx} (hx : cx X (KE Ek)) {sc : Scope} (F : FrX C X sc) {i : Nat} {own : Bool} {e : E} {x : PySem.Str} {p pos : Pos} {v : Ex} (hn : nmB C sc i x = true) (hv : chk C sc e v = true) :
    PS X (.Assign [.Name x p] v pos) (tS1 G cl mk Ek (.asg i own e)) := by
  have RL := R1 X _ hx
  have B := sE cx hb R1 R2 e v sc hv X _ hx F.at_
  obtain ⟨h1, h2⟩ := ands hn
  have hi : X.N[i]? = some x := by rw [RL.N]; exact of_decide_eq_true h1
  obtain ⟨loc, fx⟩ := mayB_put RL.N F.at_ F.fn (show [i].all (mayB C.N sc) = true by rw [List.all_cons, h2]; rfl) i List.mem_cons_self x hi
  have sw := sw_name RL.kind x p v pos.line
  cases hs : swB X.env.scope x p v with
  | true =>
    rw [hs] at sw
    have hl : X.env.scope.names.lookup x = some .local ∧ isComp v = true := by
      cases v <;> first
        | exact absurd hs (show ¬ (false = true) from Bool.noConfusion)
        | exact ⟨by have := (ands (ands hs).1).1; simpa using this, rfl⟩
        | exact absurd hv (by cases e <;> exact Bool.noConfusion)
    have K := B.cp hl.2
    cases own with
    | false => exact (K.pa false i x p pos hi hl.1 sw).imp fun D σ H h => asg_imp h
    | true =>
      cases hf : fresh e with
      | true => exact (K.pf hf i x p pos hi hl.1 sw).imp fun D σ H h => asgF_imp h
      | false => exact (K.pa false i x p pos hi hl.1 sw).imp fun D σ H h => asgF_fresh hf h
  | false =>
    rw [hs] at sw
    cases own with
    | false => exact (ps_set RL.nd hi loc (B.pe false) sw fx).imp fun D σ H h => asg_imp h
    | true =>
      cases hf : fresh e with
      | true => exact (ps_set RL.nd hi loc (B.pf hf) sw fx).imp fun D σ H h => asgF_imp h
      | false => exact (ps_set RL.nd hi loc (B.pe false) sw fx).imp fun D σ H h => asgF_fresh hf h
mutual
theorem sS : ∀ (s : S) (st : St1) (sc : Scope), chkS C sc s st = true → ∀ (X : Cx), cx X (KE Ek) → FrX C X sc → PS X st (tS1 G cl mk Ek s)
  | .bad, st, sc, h, X, hx, F => ps_stuck fun D σ H ⟨Γ, R, ok, w⟩ => by unfold ex at w; exact w
  | .pass, st, sc, h, X, hx, F => by
    cases st <;> (first | exact absurd h (show ¬ (false = true) from Bool.noConfusion) | skip)
    exact ps_pass.imp fun D σ H h => pass_imp h
  | .brk, st, sc, h, X, hx, F => by
    cases st <;> (first | exact absurd h (show ¬ (false = true) from Bool.noConfusion) | skip)
    exact ps_break.imp fun D σ H h => brk_imp h
  | .cont, st, sc, h, X, hx, F => by
    cases st <;> (first | exact absurd h (show ¬ (false = true) from Bool.noConfusion) | skip)
    exact ps_continue.imp fun D σ H h => cont_imp h
  | .asg i own e, st, sc, h, X, hx, F => by
    cases st <;> (first | exact absurd h (show ¬ (false = true) from Bool.noConfusion) | skip)
    rename_i tgs v pos
    match tgs, h with
    | [.Name x p], h =>
      obtain ⟨h1, h2⟩ := ands (show (nmB C sc i x && chk C sc e v) = true from h)
      exact s_asg cx hb R1 R2 hx F h1 h2
  | .asgP p e, st, sc, h, X, hx, F => by
    cases st <;> (first | exact absurd h (show ¬ (false = true) from Bool.noConfusion) | skip)
    rename_i tgs v pos
    match tgs, h with
    | [.Tuple es k q], h =>
      obtain ⟨h1, h4⟩ := ands (show (chkP C.N p (.Tuple es k q) && p.names.all (mayB C.N sc) && chk C sc e v && noSw (.Tuple es k q) v) = true from h)
      obtain ⟨h1, h3⟩ := ands h1
      obtain ⟨h1, h2⟩ := ands h1
      have RL := R1 X _ hx
      exact (ps_asg ((sE cx hb R1 R2 e v sc h3 X _ hx F.at_).pe false) (pg_of RL (by rw [RL.N]; exact h1) (mayB_put RL.N F.at_ F.fn h2)) sole_tup (noSw_ok h4)).imp fun D σ H h => asgP_imp h
  | .par is es, st, sc, h, X, hx, F => by
    have hp := par_of h
    clear h
    rcases hp with ⟨i, j, x, px, y, py, k, q, a, b, k2, q2, pos, rfl, rfl, h⟩ | ⟨i, j, l, x, px, y, py, z, pz, k, q, a, b, c, k2, q2, pos, rfl, rfl, h⟩
    · obtain ⟨h1, h4⟩ := ands h
      obtain ⟨h1, h3⟩ := ands h1
      obtain ⟨h1, h2⟩ := ands h1
      have RL := R1 X _ hx
      obtain ⟨lx, ly, ne⟩ := swp2_ne h4
      have hi : X.N[i]? = some x := by rw [RL.N]; exact of_decide_eq_true h1
      have hj : X.N[j]? = some y := by rw [RL.N]; exact of_decide_eq_true h2
      have es' := F.at_
      exact (ps_par (X := X) RL.calm RL.nd hi hj (fun z => ne (Option.some.inj (by rw [← hi, ← hj, z]))) (by rw [es']; exact loc_of lx) (by rw [es']; exact loc_of ly) (sAs cx hb R1 R2 es [a, b] sc h3 X _ hx F.at_ false) (swp2_ok RL.kind (by rw [es']; exact h4)) sole_tup).imp fun D σ H h => par2_imp h
    · obtain ⟨h1, h5⟩ := ands h
      obtain ⟨h1, h4⟩ := ands h1
      obtain ⟨h1, h3⟩ := ands h1
      obtain ⟨h1, h2⟩ := ands h1
      have RL := R1 X _ hx
      obtain ⟨lx, ly, lz⟩ := swp3_loc h5
      have es' := F.at_
      obtain ⟨sw, n1, n2, n3⟩ := swp3_ok (env := X.env) RL.kind (k := k) (k2 := k2) (pt := q) (p2 := q2) (by rw [es']; exact h5)
      have hi : X.N[i]? = some x := by rw [RL.N]; exact of_decide_eq_true h1
      have hj : X.N[j]? = some y := by rw [RL.N]; exact of_decide_eq_true h2
      have hl : X.N[l]? = some z := by rw [RL.N]; exact of_decide_eq_true h3
      exact (ps_par3 (X := X) RL.calm RL.nd hi hj hl (fun z => n1 (Option.some.inj (by rw [← hi, ← hj, z]))) (fun z => n2 (Option.some.inj (by rw [← hi, ← hl, z]))) (fun z => n3 (Option.some.inj (by rw [← hj, ← hl, z]))) (by rw [es']; exact loc_of lx) (by rw [es']; exact loc_of ly) (by rw [es']; exact loc_of lz)
        (sAs cx hb R1 R2 es [a, b, c] sc h4 X _ hx F.at_ false) sw sole_tup).imp fun D σ H h => par3_imp h
  | .setF i f e, st, sc, h, X, hx, F => by
    cases st <;> (first | exact absurd h (show ¬ (false = true) from Bool.noConfusion) | skip)
    rename_i tgs v pos
    match tgs, h with
    | [.Attribute (.Name x p) y ap], h =>
      obtain ⟨h1, h5⟩ := ands (show (decide (C.N[i]? = some x) && visB sc x && okName x && decide (C.nm[f]? = some y) && chk C sc e v) = true from h)
      obtain ⟨h1, h4⟩ := ands h1
      obtain ⟨h1, h3⟩ := ands h1
      obtain ⟨h1, h2⟩ := ands h1
      have RL := R1 X _ hx
      have es' := F.at_
      exact (ps_fld (pe_var (i := i) (by rw [RL.N]; exact of_decide_eq_true h1) (vis_of (by rw [es']; exact h2)) (name_of h3).1 (name_of h3).2.1) ((sE cx hb R1 R2 e v sc h5 X _ hx F.at_).pe false) (sw_att _)).imp fun D σ H h => setF_imp RL (of_decide_eq_true h4) h
  | .expr e, st, sc, h, X, hx, F => by
    cases st <;> (first | exact absurd h (show ¬ (false = true) from Bool.noConfusion) | skip)
    rename_i v pos
    obtain ⟨h1, h2⟩ := ands (show (chk C sc e v && !isComp v) = true from h)
    exact (ps_expr ((sE cx hb R1 R2 e v sc h1 X _ hx F.at_).pe false) (sw_none (notB h2) (fun a b c d z => by rw [z] at h1; exact absurd h1 (by cases e <;> exact Bool.noConfusion)) _)).imp fun D σ H h => expr_imp h
  | .ret e, st, sc, h, X, hx, F => by
    cases st <;> (first | exact absurd h (show ¬ (false = true) from Bool.noConfusion) | skip)
    rename_i v pos
    match v, h with
    | some v, h => exact (ps_ret ((sE cx hb R1 R2 e v sc h X _ hx F.at_).pe false)).imp fun D σ H h => ret_imp h
  | .retN, st, sc, h, X, hx, F => by
    cases st <;> (first | exact absurd h (show ¬ (false = true) from Bool.noConfusion) | skip)
    rename_i v pos
    match v, h with
    | none, h => exact ps_retN.imp fun D σ H h => retN_imp h
  | .ite c a b, st, sc, h, X, hx, F => by
    cases st <;> (first | exact absurd h (show ¬ (false = true) from Bool.noConfusion) | skip)
    rename_i t p q pos
    obtain ⟨h1, h3⟩ := ands (show (chk C sc c t && chkSs C sc a p && chkSs C sc b q) = true from h)
    obtain ⟨h1, h2⟩ := ands h1
    exact (ps_if (sE cx hb R1 R2 c t sc h1 X _ hx F.at_).pt (sSs a p sc h2 X hx F) (sSs b q sc h3 X hx F)).imp fun D σ H h => ite_imp h
  | .for_ p it body, st, sc, h, X, hx, F => by
    cases st <;> (first | exact absurd h (show ¬ (false = true) from Bool.noConfusion) | skip)
    rename_i tg src suite orelse pos
    match orelse, h with
    | [], h =>
      obtain ⟨h1, h5⟩ := ands (show (chkP C.N p tg && p.names.all (mayB C.N sc) && tgOk it tg && chkI C sc it src && chkSs C sc body suite) = true from h)
      obtain ⟨h1, h4⟩ := ands h1
      obtain ⟨h1, h3⟩ := ands h1
      obtain ⟨h1, h2⟩ := ands h1
      have RL := R1 X _ hx
      exact (ps_for F.own RL.calm ((R2 X _ hx).it it src tg sc false h3 h4 F.at_ (sL cx hb R1 R2 it src sc h4 X _ hx F.at_)) (pg_of RL (by rw [RL.N]; exact h1) (mayB_put RL.N F.at_ F.fn h2)) (sSs body suite sc h5 X hx F) (set_of h4)).imp fun D σ H h => for_imp h
  | .while_ c body, st, sc, h, X, hx, F => by
    cases st <;> (first | exact absurd h (show ¬ (false = true) from Bool.noConfusion) | skip)
    rename_i t suite orelse pos
    match orelse, h with
    | [], h =>
      obtain ⟨h1, h2⟩ := ands (show (chk C sc c t && chkSs C sc body suite) = true from h)
      exact (ps_while F.own (sE cx hb R1 R2 c t sc h1 X _ hx F.at_).pt (sSs body suite sc h2 X hx F)).imp fun D σ H h => while_imp h
  | .raise c as, st, sc, h, X, hx, F => absurd h (by cases st <;> exact Bool.noConfusion)
  | .aug _ _ _, st, sc, h, X, hx, F => absurd h (by cases st <;> exact Bool.noConfusion)
  | .setI _ _ _, st, sc, h, X, hx, F => absurd h (by cases st <;> exact Bool.noConfusion)
  | .augI _ _ _ _, st, sc, h, X, hx, F => absurd h (by cases st <;> exact Bool.noConfusion)
  | .setS _ _ _ _, st, sc, h, X, hx, F => absurd h (by cases st <;> exact Bool.noConfusion)
  | .app _ _, st, sc, h, X, hx, F => absurd h (by cases st <;> exact Bool.noConfusion)
  | .upd _ _, st, sc, h, X, hx, F => absurd h (by cases st <;> exact Bool.noConfusion)
  | .try_ _ _, st, sc, h, X, hx, F => absurd h (by cases st <;> exact Bool.noConfusion)
theorem sSs : ∀ (s : Ss) (l : List St1) (sc : Scope), chkSs C sc s l = true → ∀ (X : Cx), cx X (KE Ek) → FrX C X sc → PSs X l (tSs G cl mk Ek s)
  | .nil, l, sc, h, X, hx, F => by
    match l, h with
    | [], h => exact pss_nil.imp fun D σ H h => nil_imp h
  | .cons s r, l, sc, h, X, hx, F => by
    match l, h with
    | x :: l, h =>
      obtain ⟨h1, h2⟩ := ands (show (chkS C sc s x && chkSs C sc r l) = true from h)
      exact (pss_cons (sS s x sc h1 X hx F) (sSs r l sc h2 X hx F)).imp fun D σ H h => cons_imp h
end
end
end BB
end
section
set_option Elab.async false
set_option linter.all false
set_option maxRecDepth 100000
set_option maxHeartbeats 4000000
/-! enumerate and zip over what is drawn. -/
namespace BB
open PySem PySem.Spec PyProof.Rows L2
/-- what enumerate and zip draw from -/
structure Src (P : Program) (w : World) (K : PySem.W.Frag) where
  std : Hp → List V → Prop
  a : Addr
  o : Obj
  itr : Addr → Nat → Heap → Prop
  has : List Value → Heap → Prop
  conc : ∀ {X : Cx} {pins : List (Addr × Obj)} {s : Shared} {σ : L2.St} {H : Hp} {vs : List V}, X.prog = P → X.w = w → X.K = K → Inv X pins σ H s → std H vs → ∃ xs : List Value, Vals vs xs ∧ has xs s.heap ∧ a < s.heap.objs.size
  draws : ∀ {A : Around} (it : Addr) (xs : List Value), A.handled = none → a ≠ it → Draws P w A it [it, a] xs.length (fun i v => xs[i]? = some v) (fun i h => itr it i h ∧ has xs h)
  begins : ∀ xs, Begins (.ref a) o (has xs)
  init : ∀ (it : Addr) (h : Heap), h.get? it = some o → itr it 0 h
  obj : ∀ (it : Addr) (i : Nat) (h : Heap), itr it i h → ∃ o, h.get? it = some o ∧ ∀ v, o.data ≠ .cell v
  keep : ∀ (it : Addr) (i : Nat) (h h' : Heap), itr it i h → (∀ o, h.get? it = some o → h'.get? it = some o) → itr it i h'
  inj : ∀ {X : Cx} {pins : List (Addr × Obj)} {s : Shared} {σ : L2.St} {H : Hp} {vs ws : List V}, X.K = K → Inv X pins σ H s → std H vs → std H ws → vs = ws
variable {P : Program} {w : World} {K : PySem.W.Frag}
def srcL (P : Program) (w : World) (K : PySem.W.Frag) (a : Addr) : Src P w K where
  std := fun H vs => SqL K H a vs
  a := a
  o := { cls := .type "list_iterator", data := .fields #[.ref a, .int 0 0] }
  itr := fun it i h => h.IsListIter it a i
  has := fun xs h => h.IsList a xs.toArray
  conc := fun {X pins s σ H vs} h1 h2 h3 I q => by
    subst h1 h2 h3
    obtain ⟨its, rv, p, hz⟩ := I.list q
    exact ⟨its, rv, p.isList, p.lt⟩
  draws := fun it xs hh hne => by
    have := Draws.list (prog := P) (w := w) hh it a hne xs.toArray
    simpa using this
  begins := fun xs => begins_list a xs.toArray
  init := fun it h e => ⟨_, e, rfl, rfl⟩
  obj := fun it i h st => by
    obtain ⟨o, ho, hc, hd⟩ := st
    exact ⟨o, ho, fun v q => by rw [hd] at q; cases q⟩
  keep := fun it i h h' st k => st.at k
  inj := fun {X pins s σ H vs ws} h3 I q r => by
    subst h3
    exact I.list_inj q r
def srcT (P : Program) (w : World) (K : PySem.W.Frag) (a : Addr) : Src P w K where
  std := fun H vs => SqT K H a vs
  a := a
  o := { cls := .type "tuple_iterator", data := .fields #[.ref a, .int 0 0] }
  itr := fun it i h => h.IsTupleIter it a i
  has := fun xs h => h.IsTuple a xs.toArray
  conc := fun {X pins s σ H vs} h1 h2 h3 I q => by
    subst h1 h2 h3
    obtain ⟨its, rv, p, hz⟩ := I.tuple q
    exact ⟨its, rv, p, let ⟨_, e, _⟩ := p; Heap.lt_size e⟩
  draws := fun it xs hh hne => by
    have := Draws.tuple (prog := P) (w := w) hh it a hne xs.toArray
    simpa using this
  begins := fun xs => begins_tuple a xs.toArray
  init := fun it h e => ⟨_, e, rfl, rfl⟩
  obj := fun it i h st => by
    obtain ⟨o, ho, hc, hd⟩ := st
    exact ⟨o, ho, fun v q => by rw [hd] at q; cases q⟩
  keep := fun it i h h' st k => st.at k
  inj := fun {X pins s σ H vs ws} h3 I q r => by
    subst h3
    exact I.tuple_inj q r
end BB
end
section
set_option Elab.async false
set_option linter.all false
set_option maxRecDepth 100000
set_option maxHeartbeats 4000000
/-! for over enumerate and zip. -/
namespace BB
open PySem PySem.Spec PyProof.Rows L2
variable {P : Program} {w : World} {K : PySem.W.Frag}
/-- each item with its number -/
def Itn1 (S : Src P w K) (n : Nat) : L2.It :=
  ⟨fun i H => ∃ vs x, S.std H vs ∧ vs.length = n ∧ vs[i]? = some x, fun i H v H' => ∃ T x, v = .ref T ∧ H T = none ∧ H' = upd H T (.tup [.int (i : Nat), x]) ∧ ∀ vs, S.std H vs → vs[i]? = some x, fun i H => ∃ vs, S.std H vs ∧ vs.length = n ∧ n ≤ i⟩
/-- what an enumerate's cells are like -/
def TnE (S : Src P w K) (n : Nat) (e it : Addr) (i : Nat) (h : Heap) : Prop := i ≤ n ∧ (∃ old, IsEnum h e it ((i : Nat) : Int) old) ∧ S.itr it i h ∧ e ≠ it ∧ S.a ≠ it ∧ S.a ≠ e
theorem in2 {b e it : Addr} (h : b ∈ [e, it]) : b = e ∨ b = it := by simpa using h
theorem turn_enumS (S : Src P w K) {elts : List Ex} {kk : Nat} {tpos : Pos} (n : Nat) (e it : Addr) : Turn P w K (.Tuple elts kk tpos) (Itn1 S n) [e, it] e (TnE S n e it) where
  mem := by simp
  obj := fun i h st b hb => by
    obtain ⟨_, ⟨old, he⟩, hi, _⟩ := st
    rcases in2 hb with z | z
    · rw [z]; exact ⟨_, he, fun v q => nomatch q⟩
    · rw [z]; exact S.obj it i h hi
  keep := fun i h h' ⟨q0, ⟨old, he⟩, hi, r⟩ k => ⟨q0, ⟨old, k e (by simp) _ he⟩, S.keep it i h h' hi fun o q => k it (by simp) o q, r⟩
  item := by
    intro X hP hw hK hc i pins s σ H E I hf ⟨hin, ⟨old, he⟩, hit, hne, hai, hae⟩ ⟨vs, x, hq, hn, hx⟩
    subst hP hw hK
    obtain ⟨xs, rv, hh, al⟩ := S.conc rfl rfl rfl I hq
    obtain ⟨u, hu, ru⟩ := rv.get hx
    have hel : e < s.heap.objs.size := Heap.lt_size he
    have hil : it < s.heap.objs.size := by obtain ⟨_, q, _⟩ := S.obj it i _ hit; exact Heap.lt_size q
    have hlt : i < xs.length := (List.getElem?_eq_some_iff.mp hu).1
    refine wpAny_pyNext_enum_itemD (S.draws (A := X.A.in1) it xs (I.ok.hd hc) hai) he ⟨hit, hh⟩ hlt hne (by simp only [List.mem_cons, List.not_mem_nil, or_false, not_or]; exact ⟨hne, hae.symm⟩) fun y h' tk hy ho st' hT hsz hk => ?_
    rw [hu] at hy
    cases hy
    refine ⟨_, rfl, wpAny_letOwnedTupleGo_enum (s := { s with heap := h', toks := tk + 1 }) ho fun h'' he' sb => ?_⟩
    have hT2 : h''.get? s.heap.objs.size = some { cls := .type "tuple", data := .seq #[.int i tk, u] } := (sb.2 _ (Nat.ne_of_gt hel)).trans hT
    have new : ObjOk X.prog X.w (upd H s.heap.objs.size (.tup [.int (i : Nat), x])) h'' s.heap.objs.size (.tup [.int (i : Nat), x]) :=
      ⟨by show 2 ≤ sizeLine; decide, [.int i tk, u], .cons ⟨_, rfl⟩ (.cons ru .nil), ⟨_, hT2, rfl, _, rfl⟩⟩
    have I1 : Inv X pins σ (upd H s.heap.objs.size (.tup [.int (i : Nat), x])) { s with heap := h'', toks := tk + 1 } :=
      I.turnedNew (ch := [e, it]) (fun b ob hb q => (sb.2 b (fun z => hb (by simp [z]))).trans (hk b ob (fun z => hb (by simp [z])) (fun z => hb (by simp [z])) q)) hf (Nat.le_refl _) new
    refine ⟨.ref s.heap.objs.size, _, I1, rfl, ⟨_, x, rfl, I.hok.fresh (Nat.le_refl _), rfl, fun ys hy => by rw [S.inj rfl I hy hq]; exact hx⟩, ⟨by have := rv.length; omega, ⟨u, ?_⟩, S.keep it _ h' h'' st'.1 (fun o q => (sb.2 it (Ne.symm hne)).trans q), hne, hai, hae⟩, fun b hb => ?_⟩
    · have e1 : ((i + 1 : Nat) : Int) = (i : Int) + 1 := by omega
      rw [e1]; exact he'
    · have hb' : b < s.heap.objs.size := by
        rcases in2 hb with z | z
        · rw [z]; exact hel
        · rw [z]; exact hil
      rw [upd_ne (Nat.ne_of_lt hb')]
      exact (hf b hb).1
  done := by
    intro X hP hw hK hc i pins s σ H E I hf ⟨hin, ⟨old, he⟩, hit, hne, hai, hae⟩ ⟨vs, hq, hn, hx⟩
    subst hP hw hK
    obtain ⟨xs, rv, hh, al⟩ := S.conc rfl rfl rfl I hq
    obtain ⟨f0, f1, f2, f3, f4, f5⟩ := hf it (by simp)
    have hl := rv.length
    have ei : i = xs.length := by omega
    exact wpAny_pyNext_enum_endD (S.draws (A := X.A.in1) it xs (I.ok.hd hc) hai) he (by rw [← ei]; exact ⟨hit, hh⟩) fun h' eb => ⟨rfl, I.turned (t' := s.toks) (fun b o hb q => eb b o hb q) f0 f1 f3 f4 f5⟩
  self := fun A i s Q E st h => let ⟨_, ⟨_, he⟩, _⟩ := st; wpAny_pyIter_enum he h
end BB
end
section
set_option Elab.async false
set_option linter.all false
set_option maxRecDepth 100000
set_option maxHeartbeats 4000000
/-! for over zip. -/
namespace BB
open PySem PySem.Spec PyProof.Rows L2
variable {P : Program} {w : World} {K : PySem.W.Frag}
/-- the items of two, in new pairs -/
def Itn2 (S1 S2 : Src P w K) (n1 n2 : Nat) : L2.It :=
  ⟨fun i H => ∃ vs us x y, S1.std H vs ∧ S2.std H us ∧ vs.length = n1 ∧ us.length = n2 ∧ vs[i]? = some x ∧ us[i]? = some y,
   fun i H v H' => ∃ T x y, v = .ref T ∧ H T = none ∧ H' = upd H T (.tup [x, y]) ∧ (∀ vs, S1.std H vs → vs[i]? = some x) ∧ ∀ us, S2.std H us → us[i]? = some y,
   fun i H => ∃ vs us, S1.std H vs ∧ S2.std H us ∧ vs.length = n1 ∧ us.length = n2 ∧ (n1 ≤ i ∨ n2 ≤ i)⟩
def TnZ (S1 S2 : Src P w K) (n1 n2 : Nat) (z TI TO i1 i2 : Addr) (i : Nat) (h : Heap) : Prop :=
  i ≤ n1 ∧ i ≤ n2 ∧ IsZip h z TI TO .none ∧ IsTupOf2 h TI (.ref i1) (.ref i2) ∧ (∃ x y, IsTupOf2 h TO x y) ∧ S1.itr i1 i h ∧ S2.itr i2 i h
theorem in5 {c z TI TO i1 i2 : Addr} (h : c ∈ [z, TI, TO, i1, i2]) : c = z ∨ c = TI ∨ c = TO ∨ c = i1 ∨ c = i2 := by simpa using h
theorem TnZ.live {S1 S2 : Src P w K} {n1 n2 : Nat} {z TI TO i1 i2 : Addr} {i : Nat} {h : Heap} (st : TnZ S1 S2 n1 n2 z TI TO i1 i2 i h) {c : Addr} (hc : c ∈ [z, TI, TO, i1, i2]) : ∃ o, h.get? c = some o ∧ ∀ v, o.data ≠ .cell v := by
  obtain ⟨_, _, hz, hTI, ⟨x, y, hTO⟩, h1, h2⟩ := st
  rcases in5 hc with q | q | q | q | q
  · rw [q]; exact ⟨_, hz, fun v q => nomatch q⟩
  · rw [q]; exact ⟨_, hTI, fun v q => nomatch q⟩
  · rw [q]; exact ⟨_, hTO, fun v q => nomatch q⟩
  · rw [q]; exact S1.obj _ _ _ h1
  · rw [q]; exact S2.obj _ _ _ h2
theorem turn_zipS (S1 S2 : Src P w K) {elts : List Ex} {kk : Nat} {tpos : Pos} (n1 n2 : Nat) {z TI TO i1 i2 : Addr} (D : ZipSep2 z TI TO i1 i2 [i1, S1.a] [i2, S2.a]) (a1 : S1.a ≠ i1) (a2 : S2.a ≠ i2) :
    Turn P w K (.Tuple elts kk tpos) (Itn2 S1 S2 n1 n2) [z, TI, TO, i1, i2] z (TnZ S1 S2 n1 n2 z TI TO i1 i2) where
  mem := by simp
  obj := fun i h st c hc => st.live hc
  keep := fun i h h' ⟨q1, q2, hz, hTI, ⟨x, y, hTO⟩, h1, h2⟩ k =>
    ⟨q1, q2, k z (by simp) _ hz, k TI (by simp) _ hTI, ⟨x, y, k TO (by simp) _ hTO⟩, S1.keep _ _ _ _ h1 fun o q => k i1 (by simp) o q, S2.keep _ _ _ _ h2 fun o q => k i2 (by simp) o q⟩
  item := by
    intro X hP hw hK hc i pins s σ H E I hf st ⟨vs, us, x, y, hq, hr, l1, l2, hx, hy⟩
    have live := fun {c} hc => st.live (c := c) hc
    obtain ⟨q1, q2, hz, hTI, ⟨x0, y0, hTO⟩, h1, h2⟩ := st
    subst hP hw hK
    obtain ⟨xs, rv, hh, al⟩ := S1.conc rfl rfl rfl I hq
    obtain ⟨ys, rv2, hh2, al2⟩ := S2.conc rfl rfl rfl I hr
    obtain ⟨u, hu, ru⟩ := rv.get hx
    obtain ⟨u2, hu2, ru2⟩ := rv2.get hy
    have t1 : i < xs.length := (List.getElem?_eq_some_iff.mp hu).1
    have t2 : i < ys.length := (List.getElem?_eq_some_iff.mp hu2).1
    have len1 := rv.length
    have len2 := rv2.length
    have hzl : z < s.heap.objs.size := Heap.lt_size hz
    refine wpAny_pyNext_zipD2_item D (S1.draws (A := X.A.in1) i1 xs (I.ok.hd hc) a1) (S2.draws (A := X.A.in1) i2 ys (I.ok.hd hc) a2) hz hTI hTO ⟨h1, hh⟩ ⟨h2, hh2⟩ t1 t2 fun r1 r2 h' tk e1 e2 z' TO' s1' s2' hT hsz hk => ?_
    rw [hu] at e1
    rw [hu2] at e2
    cases e1
    cases e2
    refine ⟨_, rfl, wpAny_letOwnedTupleGo_zip (s := { s with heap := h', toks := tk }) z' fun h'' z'' sb => ?_⟩
    have hT2 : h''.get? s.heap.objs.size = some { cls := .type "tuple", data := .seq #[u, u2] } := (sb.2 _ (Nat.ne_of_gt hzl)).trans hT
    have new : ObjOk X.prog X.w (upd H s.heap.objs.size (.tup [x, y])) h'' s.heap.objs.size (.tup [x, y]) :=
      ⟨by show 2 ≤ sizeLine; decide, [u, u2], .cons ru (.cons ru2 .nil), ⟨_, hT2, rfl, _, rfl⟩⟩
    have I1 : Inv X pins σ (upd H s.heap.objs.size (.tup [x, y])) { s with heap := h'', toks := tk } :=
      I.turnedNew (t' := tk) (ch := [z, TI, TO, i1, i2]) (fun c o hb q => (sb.2 c (fun q' => hb (by simp [q']))).trans (hk c o (fun q' => hb (by simp [q'])) (fun q' => hb (by simp [q'])) (fun q' => hb (by simp [q'])) (fun q' => hb (by simp [q'])) q)) hf (Nat.le_refl _) new
    refine ⟨.ref s.heap.objs.size, _, I1, rfl, ⟨_, x, y, rfl, I.hok.fresh (Nat.le_refl _), rfl, fun l hl => by rw [S1.inj rfl I hl hq]; exact hx, fun l hl => by rw [S2.inj rfl I hl hr]; exact hy⟩,
      ⟨by omega, by omega, z'', ?_, ⟨u, u2, ?_⟩, S1.keep _ _ h' h'' s1'.1 fun o q => (sb.2 _ D.zi1.symm).trans q, S2.keep _ _ h' h'' s2'.1 fun o q => (sb.2 _ D.zi2.symm).trans q⟩, fun c hcm => ?_⟩
    · exact (sb.2 _ D.TIz).trans (hk _ _ D.TIz D.TITO D.TIi1 D.TIi2 hTI)
    · exact (sb.2 _ D.TOz).trans TO'
    · obtain ⟨o, e, _⟩ := live hcm
      rw [upd_ne (Nat.ne_of_lt (Heap.lt_size e))]
      exact (hf c hcm).1
  done := by
    intro X hP hw hK hc i pins s σ H E I hf ⟨q1, q2, hz, hTI, ⟨x0, y0, hTO⟩, h1, h2⟩ ⟨vs, us, hq, hr, l1, l2, hend⟩
    subst hP hw hK
    obtain ⟨xs, rv, hh, al⟩ := S1.conc rfl rfl rfl I hq
    obtain ⟨ys, rv2, hh2, al2⟩ := S2.conc rfl rfl rfl I hr
    have len1 := rv.length
    have len2 := rv2.length
    exact wpAny_pyNext_zipD2_end D (S1.draws (A := X.A.in1) i1 xs (I.ok.hd hc) a1) (S2.draws (A := X.A.in1) i2 ys (I.ok.hd hc) a2) hz hTI hTO ⟨h1, hh⟩ ⟨h2, hh2⟩ (by omega) (by omega) (by omega) fun h' tk hk => ⟨rfl, I.turnedL (t' := tk) (ch := [z, TI, TO, i1, i2]) (fun c o hb q =>
      hk c o (fun q' => hb (by simp [q'])) (fun q' => hb (by simp [q'])) (fun q' => hb (by simp [q'])) (fun q' => hb (by simp [q'])) q) hf⟩
  self := fun A i s Q E st h => wpAny_pyIter_zip st.2.2.1 h
/-- the items of three -/
def Itn3 (S1 S2 S3 : Src P w K) (n1 n2 n3 : Nat) : L2.It :=
  ⟨fun i H => ∃ vs us ts x y t, (S1.std H vs ∧ S2.std H us ∧ S3.std H ts) ∧ (vs.length = n1 ∧ us.length = n2 ∧ ts.length = n3) ∧ vs[i]? = some x ∧ us[i]? = some y ∧ ts[i]? = some t,
   fun i H v H' => ∃ T x y t, v = .ref T ∧ H T = none ∧ H' = upd H T (.tup [x, y, t]) ∧ (∀ vs, S1.std H vs → vs[i]? = some x) ∧ (∀ us, S2.std H us → us[i]? = some y) ∧ ∀ ts, S3.std H ts → ts[i]? = some t,
   fun i H => ∃ vs us ts, (S1.std H vs ∧ S2.std H us ∧ S3.std H ts) ∧ (vs.length = n1 ∧ us.length = n2 ∧ ts.length = n3) ∧ (n1 ≤ i ∨ n2 ≤ i ∨ n3 ≤ i)⟩
end BB
end
section
set_option Elab.async false
set_option linter.all false
set_option maxRecDepth 100000
set_option maxHeartbeats 4000000
/-! enumerate(e), zip(a, b) do what the interpreter says. -/
namespace BB
open PySem PySem.Spec PyProof.Rows L2
set_option maxHeartbeats 1000000 in
theorem meets_enumB {v : Value} {o : Obj} {Hh : Heap → Prop} (B : Begins v o Hh) :
    Meets (Builtin.«enumerate.__new__» ⟨[.type "enumerate", v], []⟩) (fun _ R s => Hh s.heap ∧
      R (.ok (.ret (.ref (s.heap.push o).objs.size))) { s with heap := (s.heap.push o).push { cls := .type "enumerate", data := .fields #[.none, .bool false, .ref s.heap.objs.size, rawInt 0, .none, .none] } }) :=
  .of_wp fun prog w A R s h => by
    obtain ⟨hp, g, d, tk, os⟩ := s
    obtain ⟨there, h⟩ := h
    have hsub := sub_enumerate
    have beg : ∀ {A' : Around} {E : Value → Shared → Prop} {Q : Value → Shared → Prop}, Q (.ref hp.objs.size) ⟨hp.push o, g, d, tk, os⟩ → wpAny (model prog w) A' (pyIter v) Q E ⟨hp, g, d, tk, os⟩ :=
      fun q => B.iter prog w _ _ ⟨hp, g, d, tk, os⟩ _ there q
    wp_walk using beg
    refine wpAny_stack_any fun st => wpAny_pure ?_
    split
    · rename_i c _ _ _ _ _
      cases (c == Value.type "enumerate")
      · wp_walk using beg
        exact ⟨_, rfl, h⟩
      · wp_walk using beg
        exact ⟨_, rfl, h⟩
    · wp_walk using beg
      exact ⟨_, rfl, h⟩
theorem call_enumB {prog : Program} {w : World} {A : Around} {E : Value → Shared → Prop} {s : Shared} {v : Value} {o : Obj} {Hh : Heap → Prop} {Q : Value → Shared → Prop} (B : Begins v o Hh) (there : Hh s.heap)
    (h : ∀ h', IsEnum h' (s.heap.objs.size + 1) s.heap.objs.size 0 .none → h'.get? s.heap.objs.size = some o → (∀ b ob, s.heap.get? b = some ob → h'.get? b = some ob) → Q (.ref (s.heap.objs.size + 1)) { s with heap := h' }) :
    wpAny (model prog w) A (PySem.call (.type "enumerate") [v]) Q E s := by
  refine callType_new F.called_enumerate (by decide) (F.typeCall_enumerate_1 _) (F.newCall_enumerate_1 _) (fun obj => F.args_object_init_2 obj _) F.entry_enumerate_new (meets_enumB B) ⟨there, ?_⟩
  have sz : (s.heap.push o).objs.size = s.heap.objs.size + 1 := Heap.size_push ..
  show _ ∧ _
  rw [sz]
  have cell : IsEnum ((s.heap.push o).push { cls := .type "enumerate", data := .fields #[.none, .bool false, .ref s.heap.objs.size, rawInt 0, .none, .none] }) (s.heap.objs.size + 1) s.heap.objs.size 0 .none := by
    have := Heap.get?_push_size (s.heap.push o) (o := { cls := .type "enumerate", data := .fields #[.none, .bool false, .ref s.heap.objs.size, rawInt 0, .none, .none] }) rfl
    rw [sz] at this; exact this
  exact ⟨⟨_, cell, rfl⟩, h _ cell (Heap.get?_push_of_some _ (Heap.get?_push_size _ B.free)) fun b ob x => Heap.get?_push_of_some _ (Heap.get?_push_of_some _ x)⟩
section
variable {X : Cx}
/-- the two cells of an enumerate -/
theorem new2 {pins : List (Addr × Obj)} {s : Shared} {σ : L2.St} {H : Hp} (I : Inv X pins σ H s) : ∀ b ∈ [s.heap.objs.size + 1, s.heap.objs.size], FpOk X pins H b := fun b hb => by
  have le : s.heap.objs.size ≤ b := by
    rcases in2 hb with z | z
    · rw [z]; exact Nat.le_add_right _ _
    · rw [z]; exact Nat.le_refl _
  exact I.fpOk le (I.hok.fresh le)
abbrev one1 (K : V → Hp → Prop) : List V → Hp → Prop := fun vs H => match vs with
  | [v] => K v H
  | _ => False
abbrev two1 (K : V → V → Hp → Prop) : List V → Hp → Prop := fun vs H => match vs with
  | [v, u] => K v u H
  | _ => False
theorem pi_enumS {u : Ex} {tu : TE} {p pos tpos : Pos} {elts : List Ex} {kk : Nat} (hg : Gl X "enumerate") (hm : X.mg "enumerate" = none) (hst : isStar u = false) (hu : PE X u tu) :
    PI X (.Tuple elts kk tpos) (.Call (.Name "enumerate" p) [u] [] pos) (fun σ H R => tu σ H fun v H1 => ∃ (S : Src X.prog X.w X.K) (vs : List V), v = .ref S.a ∧ S.std H1 vs ∧ R (Itn1 S vs.length) H1) := by
  refine ⟨fun pins s σ H R I h => ?_⟩
  have e1 := star_cons (es := []) (env := X.env) hst
  have ha := pa_cons hu pa_nil e1
  have h : tCons tu tNil σ H (one1 fun v H1 => ∃ (S : Src X.prog X.w X.K) (vs : List V), v = .ref S.a ∧ S.std H1 vs ∧ R (Itn1 S vs.length) H1) := h
  refine Call_ (ld_blt I hg hm boot_enumerate (PyProof.Rows.callWith_type1 (thn (ha.run pos pins s σ H _ I h) fun us s1 ⟨vs, H1, I1, r1, q1⟩ => ?_) e1 rfl))
  cases r1 with
  | nil => exact q1.elim
  | cons r rr =>
    cases rr with
    | cons _ _ => exact q1.elim
    | nil =>
      obtain ⟨S, ws, rfl, hq, q⟩ := q1
      cases r
      obtain ⟨xs, rv, hh, al⟩ := S.conc rfl rfl rfl I1 hq
      refine call_enumB (S.begins xs) hh fun h' he ho hk => wpAny_pyIter_enum he ?_
      exact ⟨s1.heap.objs.size + 1, [s1.heap.objs.size + 1, s1.heap.objs.size], _, _, H1, rfl, I1.kept (t' := s1.toks) hk, turn_enumS S ws.length (s1.heap.objs.size + 1) s1.heap.objs.size,
        ⟨Nat.zero_le _, ⟨.none, he⟩, S.init _ _ ho, Nat.succ_ne_self _, Nat.ne_of_lt al, Nat.ne_of_lt (Nat.lt_succ_of_lt al)⟩, new2 I1, q⟩
theorem pi_zipS {u v : Ex} {tu tv : TE} {p pos tpos : Pos} {elts : List Ex} {kk : Nat} (hg : Gl X "zip") (hm : X.mg "zip" = none) (hst : isStar u = false) (hst2 : isStar v = false) (hu : PE X u tu) (hv : PE X v tv) :
    PI X (.Tuple elts kk tpos) (.Call (.Name "zip" p) [u, v] [] pos) (fun σ H R => tu σ H fun x H1 => tv σ H1 fun y H2 => ∃ (S1 S2 : Src X.prog X.w X.K) (vs us : List V), x = .ref S1.a ∧ y = .ref S2.a ∧ S1.std H2 vs ∧ S2.std H2 us ∧ R (Itn2 S1 S2 vs.length us.length) H2) := by
  refine ⟨fun pins s σ H R I h => ?_⟩
  have e1 := star_cons (es := [v]) (env := X.env) hst
  have e2 := star_cons (es := []) (env := X.env) hst2
  have ha := pa_cons hu (pa_cons hv pa_nil e2) e1
  have h : tCons tu (tCons tv tNil) σ H (two1 fun x y H2 => ∃ (S1 S2 : Src X.prog X.w X.K) (vs us : List V), x = .ref S1.a ∧ y = .ref S2.a ∧ S1.std H2 vs ∧ S2.std H2 us ∧ R (Itn2 S1 S2 vs.length us.length) H2) := h
  refine Call_ (ld_blt I hg hm PyProof.Rows.boot_zip (PyProof.Rows.callWith_type1 (thn (ha.run pos pins s σ H _ I h) fun us s1 ⟨vs, H1, I1, r1, q1⟩ => ?_) e1 (by rw [e2]; rfl)))
  cases r1 with
  | nil => exact q1.elim
  | cons r rr =>
    cases rr with
    | nil => exact q1.elim
    | cons r' rr =>
      cases rr with
      | cons _ _ => exact q1.elim
      | nil =>
        obtain ⟨S1, S2, ws, zs, rfl, rfl, hq, hr, q⟩ := q1
        cases r
        cases r'
        obtain ⟨xs, rv, hh, al⟩ := S1.conc rfl rfl rfl I1 hq
        obtain ⟨ys, rv2, hh2, al2⟩ := S2.conc rfl rfl rfl I1 hr
        refine zip_begins2 (S1.begins xs) (S2.begins ys) hh hh2 fun h' hz hTI hTO h1 h2 hsz hk => wpAny_pyIter_zip hz ?_
        have sep := zip_sep2 (N := s1.heap.objs.size) (fp1 := [S1.a]) (fp2 := [S2.a]) (fun b hb => by rw [List.mem_singleton.mp hb]; exact al) (fun b hb => by rw [List.mem_singleton.mp hb]; exact al2)
        refine ⟨s1.heap.objs.size + 4, [s1.heap.objs.size + 4, s1.heap.objs.size + 2, s1.heap.objs.size + 3, s1.heap.objs.size, s1.heap.objs.size + 1], _, _, H1, rfl, I1.kept (t' := s1.toks) hk, turn_zipS S1 S2 ws.length zs.length sep (Nat.ne_of_lt al) (Nat.ne_of_lt (Nat.lt_succ_of_lt al2)),
          ⟨Nat.zero_le _, Nat.zero_le _, hz, hTI, ⟨_, _, hTO⟩, S1.init _ _ h1, S2.init _ _ h2⟩, fun c hc => ?_, q⟩
        have le : s1.heap.objs.size ≤ c := by
          rcases in5 hc with z | z | z | z | z <;> rw [z] <;> first | exact Nat.le_add_right _ _ | exact Nat.le_refl _
        exact I1.fpOk le (I1.hok.fresh le)
end
variable {G : Gc} {C : Ck} {cl : Cal} {mk : Mak} {W : WS} {X : Cx} {Γ : Fr} {σ : L2.St} {H H' Hv : Hp} {Q : VK} {O : List Addr}
theorem Sees.src {P : Program} {w : World} {K : PySem.W.Frag} (hK : K = G.K) {m : Bool} {d : D} {l : List D} {v : V} (h : Sees G O H m d v) (e : srcD d = some l) : ∃ S : Src P w K, v = .ref S.a ∧ ∃ vs, DenL G (hid O H) l vs ∧ S.std H vs ∧ ∀ O2 H2, Stay G m O H O2 H2 → S.std H2 vs := by
  subst hK
  cases d <;> (first | (cases e; done) | skip)
  · cases e
    obtain ⟨a, vs, rfl, h1, h2, h3⟩ := h.tup
    exact ⟨srcT P w G.K a, rfl, vs, h2, h1, fun O2 H2 st => h3 O2 H2 st⟩
  · cases e
    obtain ⟨a, vs, rfl, h1, h2, h3⟩ := h.lst
    exact ⟨srcL P w G.K a, rfl, vs, h2, .inl h1, fun O2 H2 st => .inl (h3 O2 H2 st)⟩
theorem enumD_get : ∀ (l : List D) (k : Int) (i : Nat), (enumD k l)[i]? = (l[i]?).map fun d => .tup [.int (k + i), d]
  | [], _, _ => rfl
  | d :: l, k, 0 => by simp [enumD]
  | d :: l, k, i + 1 => by
    show (enumD (k + 1) l)[i]? = _
    rw [enumD_get l (k + 1) i, List.getElem?_cons_succ]
    have : k + 1 + (i : Int) = k + ((i + 1 : Nat) : Int) := by omega
    rw [this]
theorem enumD_length : ∀ (l : List D) (k : Int), (enumD k l).length = l.length
  | [], _ => rfl
  | d :: l, k => by show (enumD (k + 1) l).length + 1 = _; rw [enumD_length l]; rfl
theorem zipD_get : ∀ (l m : List D) (i : Nat), (zipD l m)[i]? = match l[i]?, m[i]? with | some a, some b => some (.tup [a, b]) | _, _ => none
  | [], _, i => by cases i <;> rfl
  | a :: l, [], i => by cases i <;> simp [zipD] <;> cases (a :: l)[_]? <;> rfl
  | a :: l, b :: m, 0 => rfl
  | a :: l, b :: m, i + 1 => zipD_get l m i
theorem zipD_length : ∀ (l m : List D), (zipD l m).length = min l.length m.length
  | [], _ => by simp [zipD]
  | a :: l, [] => by simp [zipD]
  | a :: l, b :: m => by simp [zipD, zipD_length l m]
/-- a new tuple of data -/
theorem den_new {O2 : List Addr} {H2 : Hp} {T : Addr} {xs : List V} {l : List D} (live : ∀ a ∈ O2, ∃ o, H2 a = some o) (hT : H2 T = none) (d : DenL G (hid O2 H2) l xs) : Same H2 (upd H2 T (.tup xs)) ∧ Den G (hid O2 (upd H2 T (.tup xs))) (.tup l) (.ref T) :=
  ⟨fun b o z => by rw [upd_ne (ne_of_none z hT)]; exact z, T, xs, rfl, SqT.of (hid_new live hT), d.mono (same_new hT)⟩
theorem it_enum {u : Ex} {p pos tpos : Pos} {elts : List Ex} {kk : Nat} {e : E} {m : Bool} (RK : X.K = G.K) (hg : Gl X "enumerate") (hm : X.mg "enumerate" = none) (hst : isStar u = false) (hu : PE X u (tE G cl mk W m e)) :
    PI X (.Tuple elts kk tpos) (.Call (.Name "enumerate" p) [u] [] pos) (tI G cl mk W m (.enum (.val e))) := by
  refine (pi_enumS hg hm hst hu).imp fun σ H R h => ?_
  obtain ⟨Γ, Rr, lk, w⟩ := h
  have lk : ∀ i ∈ lkM m e, i ∉ Γ.ω := by cases m <;> exact lk
  refine one_tE (RR := fun _ _ => True) (m := m) (a := e) Rr lk w fun d v H1 g dr s q => ?_
  obtain ⟨l, e1, q⟩ := Res.wp_ofOpt (Res.wp_bind.mp q)
  obtain ⟨S, rfl, vs, h2, h1, h3⟩ := s.src (P := X.prog) (w := X.w) RK e1
  refine ⟨S, vs, rfl, h1, q _ H1 g dr fun i O2 H2 s1 s2 lv dr2 => ?_⟩
  have e2 := h3 O2 H2 ⟨s1, s2⟩
  have hl := h2.length
  refine ⟨fun hi => ⟨vs, e2, rfl, by rw [enumD_length] at hi; omega⟩, fun d hd => ?_⟩
  rw [enumD_get] at hd
  obtain ⟨p, hp, rfl⟩ := Option.map_eq_some_iff.mp hd
  obtain ⟨y, hy, dy⟩ := h2.get hp
  refine ⟨⟨vs, y, e2, rfl, hy⟩, fun x H3 ⟨T, y', ex, hT, eH, e4⟩ => ?_⟩
  subst ex eH
  have := e4 vs e2
  rw [hy] at this
  cases this
  refine den_new lv hT ⟨_, _, rfl, ?_, .one (dy.mono s1)⟩
  show V.int _ = V.int _
  rw [Int.zero_add]
theorem it_zip2 {u v : Ex} {p pos tpos : Pos} {elts : List Ex} {kk : Nat} {a b : E} {m : Bool} (RK : X.K = G.K) (hg : Gl X "zip") (hm : X.mg "zip" = none) (hst : isStar u = false) (hst2 : isStar v = false) (hu : PE X u (tE G cl mk W m a)) (hv : PE X v (tE G cl mk W m b)) :
    PI X (.Tuple elts kk tpos) (.Call (.Name "zip" p) [u, v] [] pos) (tI G cl mk W m (.zip2 (.val a) (.val b))) := by
  refine (pi_zipS hg hm hst hst2 hu hv).imp fun σ H R h => ?_
  obtain ⟨Γ, Rr, lk, w⟩ := h
  have lk : ∀ i ∈ lkM m a ++ lkM m b, i ∉ Γ.ω := by cases m <;> exact lk
  refine two_tE (m1 := m) (m2 := m) (a := a) (b := b) Rr (lk_l lk) (lk_r lk) w fun d e v u H1 g dr s1 s2 q => ?_
  obtain ⟨l, e1, q⟩ := Res.wp_ofOpt (Res.wp_bind.mp q)
  obtain ⟨l2, e2, q⟩ := Res.wp_ofOpt (Res.wp_bind.mp q)
  obtain ⟨S1, rfl, vs, d1, st1, k1⟩ := s1.src (P := X.prog) (w := X.w) RK e1
  obtain ⟨S2, rfl, us, d2, st2, k2⟩ := s2.src (P := X.prog) (w := X.w) RK e2
  refine ⟨S1, S2, vs, us, rfl, rfl, st1, st2, q _ H1 g dr fun i O2 H2 s1 s2 lv dr2 => ?_⟩
  have t1 := k1 O2 H2 ⟨s1, s2⟩
  have t2 := k2 O2 H2 ⟨s1, s2⟩
  have l1 := d1.length
  have l2 := d2.length
  refine ⟨fun hi => ⟨vs, us, t1, t2, rfl, rfl, by rw [zipD_length] at hi; omega⟩, fun d hd => ?_⟩
  rw [zipD_get] at hd
  split at hd
  · rename_i x y hx hy
    cases hd
    obtain ⟨xv, hxv, dx⟩ := d1.get hx
    obtain ⟨yv, hyv, dy⟩ := d2.get hy
    refine ⟨⟨vs, us, xv, yv, t1, t2, rfl, rfl, hxv, hyv⟩, fun z H3 ⟨T, x', y', ex, hT, eH, e4, e5⟩ => ?_⟩
    subst ex eH
    have r1 := e4 vs t1
    have r2 := e5 us t2
    rw [hxv] at r1
    rw [hyv] at r2
    cases r1
    cases r2
    exact den_new lv hT ⟨_, _, rfl, dx.mono s1, .one (dy.mono s1)⟩
  · cases hd
end BB
end
section
set_option Elab.async false
set_option linter.all false
set_option maxRecDepth 100000
set_option maxHeartbeats 4000000
/-! list, tuple, sorted, sum, all, any, dict. -/
namespace BB
open PySem PySem.Spec PyProof.Rows L2
/-! ### sorting as a plain function -/
theorem insD_mid {a : D} {l2 : List D} (h2 : ∀ b r, l2 = b :: r → ltB b a = false) : ∀ (l1 : List D), (∀ b ∈ l1, ltB b a = true) → insD a (l1 ++ l2) = l1 ++ a :: l2
  | [], _ => by
    cases l2 with
    | nil => rfl
    | cons b r =>
      show (if ltB b a then b :: insD a r else a :: b :: r) = _
      rw [h2 b r rfl]; rfl
  | b :: l1, h => by
    show (if ltB b a then b :: insD a (l1 ++ l2) else a :: b :: (l1 ++ l2)) = _
    rw [h b List.mem_cons_self, if_pos rfl, insD_mid h2 l1 fun c hc => h c (List.mem_cons_of_mem _ hc)]
    rfl
theorem dataLe_D (a b : D) : PySem.W.dataLe false py a b = !PySem.W.dataLt (py b) (py a) := rfl
theorem plain_pdn {a : D} (h : plain a = true) : pdn 60 a = true := h
theorem sortD_merge : ∀ l : List D, (∀ a ∈ l, plain a = true) → (∀ a ∈ l, ∀ b ∈ l, alikeD a b = true) → sortD l = l.mergeSort (PySem.W.dataLe false py)
  | [], _, _ => by simp [sortD]
  | a :: l, h1, h2 => by
    have T := PySem.W.sortLe_total (listOrd itemOrd) false fun b : D => PySem.W.keyToks (py b)
    have tot : ∀ a b : D, (PySem.W.dataLe false py a b || PySem.W.dataLe false py b a) = true := fun a b => by
      rcases T.total a b with h | h
      · rw [show PySem.W.dataLe false py a b = true from h]; rfl
      · rw [show PySem.W.dataLe false py b a = true from h, Bool.or_true]
    obtain ⟨l1, l2, e1, e2, hb⟩ := List.mergeSort_cons (le := PySem.W.dataLe false py) (fun a b c h k => T.trans a b c h k) tot a l
    have pw := List.pairwise_mergeSort (le := PySem.W.dataLe false py) (fun a b c h k => T.trans a b c h k) tot (a :: l)
    rw [e1] at pw
    have mem : ∀ b ∈ l1 ++ l2, b ∈ l := fun b hb' => (List.mergeSort_perm l (PySem.W.dataLe false py)).mem_iff.mp (by rw [e2]; exact hb')
    have lt : ∀ b ∈ l1 ++ l2, PySem.W.dataLt (py b) (py a) = ltB b a := fun b hb' => lt_py (h2 b (List.mem_cons_of_mem _ (mem b hb')) a List.mem_cons_self) (plain_pdn (h1 b (List.mem_cons_of_mem _ (mem b hb')))) (plain_pdn (h1 a List.mem_cons_self))
    show insD a (sortD l) = _
    rw [sortD_merge l (fun b hb' => h1 b (List.mem_cons_of_mem _ hb')) (fun b hb' c hc => h2 b (List.mem_cons_of_mem _ hb') c (List.mem_cons_of_mem _ hc)), e1, e2]
    refine insD_mid (fun b r eb => ?_) l1 fun b hb' => ?_
    · have q := (List.pairwise_append.mp pw).2.1
      have q := (List.pairwise_cons.mp q).1 b (by rw [eb]; exact List.mem_cons_self)
      rw [dataLe_D, lt b (List.mem_append_right _ (by rw [eb]; exact List.mem_cons_self))] at q
      simpa using q
    · have q := hb b hb'
      rw [dataLe_D, lt b (List.mem_append_left _ hb')] at q
      simpa using q
theorem sortable_parts {l : List D} (h : sortable l = true) : (∀ a ∈ l, plain a = true) ∧ (∀ a ∈ l, ∀ b ∈ l, alikeD a b = true) ∧ PySem.W.Sortable (l.map py) := by
  obtain ⟨h1, h2⟩ := ands h
  have h1 : ∀ a ∈ l, plain a = true ∧ ∀ b ∈ l, alikeD a b = true := fun a ha => by
    obtain ⟨q1, q2⟩ := ands (List.all_eq_true.mp h1 a ha)
    exact ⟨q1, fun b hb => List.all_eq_true.mp q2 b hb⟩
  refine ⟨fun a ha => (h1 a ha).1, fun a ha => (h1 a ha).2, ?_⟩
  rcases Bool.or_eq_true_iff.mp h2 with k | k
  · refine .inl fun d hd => ?_
    obtain ⟨a, ha, rfl⟩ := List.mem_map.mp hd
    have := List.all_eq_true.mp k a ha
    match a, this with
    | .tup (x :: r), _ => exact ⟨py x, pys r, rfl⟩
  · refine .inr fun d hd => ?_
    obtain ⟨a, ha, rfl⟩ := List.mem_map.mp hd
    obtain ⟨k1, k2⟩ := ands (List.all_eq_true.mp k a ha)
    have hp := (h1 a ha).1
    cases a <;> first
      | exact absurd k1 (show ¬ (false = true) from Bool.noConfusion)
      | exact absurd k2 (show ¬ (false = true) from Bool.noConfusion)
      | exact absurd hp (show ¬ (false = true) from Bool.noConfusion)
      | exact ⟨fun z => (by cases z), fun xs z => (by cases z)⟩
theorem sortable_alike {l : List D} (h : sortable l = true) : PySem.W.AllAlike (l.map py) := by
  obtain ⟨_, h2, _⟩ := sortable_parts h
  intro d hd e he
  obtain ⟨a, ha, rfl⟩ := List.mem_map.mp hd
  obtain ⟨b, hb, rfl⟩ := List.mem_map.mp he
  exact alike_py (h2 a ha b hb)
variable {G : Gc} {C : Ck} {cl : Cal} {mk : Mak} {W : WS} {X : Cx} {Γ : Fr} {σ : L2.St} {H H' Hv : Hp} {Q : VK} {O : List Addr} {pins : List (Addr × Obj)} {s : Shared}
/-- the values us are the data l -/
def EachD (G : Gc) (Hv : Hp) (us : List Value) (l : List D) : Prop := PySem.W.EachIs (fun u d => ∃ x, RelV x u ∧ Den G Hv d x) us l
theorem EachD.of : ∀ {l : List D} {vs : List V} {us : List Value}, DenL G Hv l vs → Vals vs us → EachD G Hv us l
  | [], _, _, h, r => by
    rw [show _ = _ from h] at r
    cases r
    exact .nil
  | d :: l, _, _, h, r => by
    obtain ⟨v, w, rfl, h1, h2⟩ := h
    cases r with
    | cons r1 r2 => exact .cons ⟨v, r1, h1⟩ (EachD.of h2 r2)
theorem EachD.back : ∀ {l : List D} {us : List Value}, EachD G Hv us l → ∃ vs, DenL G Hv l vs ∧ Vals vs us
  | _, _, .nil => ⟨[], rfl, .nil⟩
  | _, _, .cons ⟨x, r, d⟩ t => by
    obtain ⟨vs, h1, h2⟩ := EachD.back t
    exact ⟨x :: vs, ⟨x, vs, rfl, d, h1⟩, .cons r h2⟩
theorem EachD.len {l : List D} {us : List Value} (h : EachD G Hv us l) : us.length = l.length := PySem.W.EachIs.length h
theorem EachD.reads (RK : X.K = G.K) (I : Inv X pins σ H s) (e : Same Hv H) : ∀ {l : List D} {us : List Value}, (∀ a ∈ l, plain a = true) → EachD G Hv us l → PySem.W.EachIs (fun u d => ∃ as, Reads s.heap u (py d) as) us l
  | _, _, _, .nil => .nil
  | _, _, hp, .cons ⟨x, r, d⟩ t => by
    refine .cons ?_ (EachD.reads RK I e (fun a ha => hp a (List.mem_cons_of_mem _ ha)) t)
    exact Dp.reads I _ x _ (by rw [RK]; exact den_dp e (plain_pdn (hp _ List.mem_cons_self)) d) r
/-- sorted of a list -/
theorem sorted_lst (RK : X.K = G.K) (hu : X.A.units + 100 < cLine) (I : Inv X pins σ H s) {a : Addr} {vs : List V} {l : List D} (hq : SqL X.K H a vs) (d : DenL G (hid O H) l vs) (hs : sortable l = true)
    (h : ∀ p ws, H p = none → DenL G (hid O H) (sortD l) ws → Q (.ref p) (upd H p (.lst ws))) : wpAny (model X.prog X.w) X.A (PySem.call (.builtin "sorted") [.ref a]) (EP X pins σ Q) X.xe s := by
  obtain ⟨its, rv, pl, hz⟩ := I.list hq
  obtain ⟨h1, h2, h3⟩ := sortable_parts hs
  have ed := EachD.of d rv
  have hl := d.length
  have hlen : l.length ≤ sizeLine := by omega
  refine PySem.W.sorted_data (enc := py) pl.isList ed (ed.reads RK I hid_le h1) (sortable_alike hs) h3 hlen (fun b hb => ?_) fun out ho eo => ?_
  · have := (pdn_py (plain_pdn (h1 b hb))).2
    omega
  · rw [← sortD_merge l h1 h2] at eo
    obtain ⟨ws, dw, rw'⟩ := EachD.back eo
    obtain ⟨n, e⟩ := sortedAll_at s.heap its out.toArray
    have fr : s.heap.objs.size ≤ s.heap.objs.size + 1 := Nat.le_succ _
    exact ⟨.ref (s.heap.objs.size + 1), _, I.laid (t' := s.toks) (o := .lst ws) (fun b o z => sortedAll_old z) fr ⟨by rw [rw'.length, ho]; exact hlen, out, n, rw', e⟩, rfl, h _ ws (I.hok.fresh fr) dw⟩
/-- the keys of a dict -/
theorem keys_each : ∀ {l : List (D × D)} {es : List DictEntry}, DenE G Hv l es → EachD G Hv (es.map (·.key)) (l.map (·.1))
  | [], _, h => by rw [show _ = _ from h]; exact .nil
  | (k, d) :: l, _, h => by
    obtain ⟨e, r, rfl, ⟨kv, h2, h3⟩, _, _, h7⟩ := h
    exact .cons ⟨kv, h2, h3⟩ (keys_each h7)
theorem items_eq {es : Array DictEntry} {acc : Array Value} (h : ItemsOf (fun i v => ∃ en : DictEntry, es[i]? = some en ∧ v = en.key) acc es.size) : acc.toList = es.toList.map (·.key) := by
  apply List.ext_getElem?
  intro j
  rw [List.getElem?_map, Array.getElem?_toList, Array.getElem?_toList]
  cases hj : acc[j]? with
  | none =>
    have h1 := Array.getElem?_eq_none_iff.mp hj
    have h2 : es[j]? = none := Array.getElem?_eq_none_iff.mpr (by rw [← h.1]; exact h1)
    rw [h2]; rfl
  | some v =>
    obtain ⟨en, hen, rfl⟩ := h.2 j v hj
    rw [hen]; rfl
theorem sorted_dct (RK : X.K = G.K) (hc : X.calm = true) (hu : X.A.units + 100 < cLine) (I : Inv X pins σ H s) {a : Addr} {l : List (D × D)} (dct : Dct G (hid O H) H a l) (hs : sortable (l.map (·.1)) = true)
    (h : ∀ p ws, H p = none → DenL G (hid O H) (sortD (l.map (·.1))) ws → Q (.ref p) (upd H p (.lst ws))) : wpAny (model X.prog X.w) X.A (PySem.call (.builtin "sorted") [.ref a]) (EP X pins σ Q) X.xe s := by
  obtain ⟨o, es, ep, ho, hx, hd, den⟩ := dct.obj I
  have hl := den.length
  have hb := dct.ok.2.2
  have bl := big_line
  have hn : es.size ≤ sizeLine := by rw [← Array.length_toList]; omega
  obtain ⟨h1, h2, h3⟩ := sortable_parts hs
  refine Calls.call_function_entry PyProof.Rows.kind_sorted PyProof.Rows.plain_sorted PyProof.Rows.entry_sorted (PyProof.Rows.args_sorted1 _) ?_
  unfold Builtin.«sorted»
  refine wpAny_bind (m := checkCount "sorted" 1 1 _) (wpAny_pure ?_)
  refine wpAny_bind (PySem.W.kdu_collect (A := X.A.in1) (kdl_raw dct.sys hx hd) (I.ok.hd hc) ho hn fun h1' tk acc hk hacc => ?_)
  rw [items_eq hacc]
  have ed := keys_each den
  have I1 : Inv X pins σ H { s with heap := h1', toks := tk } := I.kept hk
  have len := ed.len
  rw [List.length_map, List.length_map] at len
  refine wpAny_bind (wpAny_newList ?_ (by rw [List.length_map]; omega))
  have there : (h1'.push (seqObj "list" (es.toList.map (·.key)).toArray 0)).get? h1'.objs.size = some (seqObj "list" (es.toList.map (·.key)).toArray 0) := Heap.get?_push_size _ rfl
  have rd := ed.reads RK I1 hid_le h1
  have rd2 : PySem.W.EachIs (fun u d => ∃ as, Reads (h1'.push (seqObj "list" (es.toList.map (·.key)).toArray 0)) u (py d) as ∧ h1'.objs.size ∉ as) (es.toList.map (·.key)) (l.map (·.1)) := rd.mono fun u d ⟨as, r⟩ => ⟨as, PyProof.Rows.Reads.keeps (fun b ob z => Heap.get?_push_of_some _ z) r, fun z => by
    obtain ⟨ob, q⟩ := PyProof.On.reads_mem_get r _ z
    exact absurd (Heap.lt_size q) (Nat.lt_irrefl _)⟩
  have dep : ∀ b, b ∈ l.map (·.1) → X.A.in1.units + 1 + (py b).depth < cLine := fun b hb => by
    have := (pdn_py (plain_pdn (h1 b hb))).2
    show X.A.units + 1 + 1 + _ < cLine
    omega
  show wpAny _ _ _ _ _ { s with heap := h1'.push (seqObj "list" (es.toList.map (·.key)).toArray 0), toks := tk }
  refine wpAny_bind (wpAny_holding (PySem.W.list_sort_data (A := X.A.in1) (s := { s with heap := h1'.push (seqObj "list" (es.toList.map (·.key)).toArray 0), toks := tk }) (enc := py) there ed rd2 (sortable_alike hs) h3 (by rw [List.length_map]; omega) dep fun out ho' eo => ?_))
  · rw [← sortD_merge _ h1 h2] at eo
    obtain ⟨ws, dw, rw'⟩ := EachD.back eo
    obtain ⟨n, e⟩ := sortedHeap_at (vs := es.toList.map (·.key)) (out := out.toArray) there
    refine wpAny_pure ⟨_, rfl, .ref h1'.objs.size, _, I1.laid (t' := tk) (o := .lst ws) (fun b ob z => ?_) (Nat.le_refl _) ⟨by rw [rw'.length, ho', List.length_map]; omega, out, n, rw', e⟩, rfl, h _ ws (I1.hok.fresh (Nat.le_refl _)) dw⟩
    have lt : b < h1'.objs.size := Heap.lt_size z
    rw [sortedHeap_old (Nat.ne_of_lt lt) (by rw [Heap.size_push]; exact Nat.lt_succ_of_lt lt)]
    exact Heap.get?_push_of_some _ z
end BB
end
section
set_option Elab.async false
set_option linter.all false
set_option maxRecDepth 100000
set_option maxHeartbeats 4000000
/-! list, tuple, sum, all, any, min, max, dict of a value. -/
namespace BB
open PySem PySem.Spec PyProof.Rows L2
variable {G : Gc} {C : Ck} {cl : Cal} {mk : Mak} {W : WS} {X : Cx} {Γ : Fr} {σ : L2.St} {H H' Hv : Hp} {Q : VK} {O : List Addr} {pins : List (Addr × Obj)} {s : Shared}
/-! plain data are told by what they read as -/
mutual
theorem py_inj : ∀ (a b : D) (n m : Nat), pdn n a = true → pdn m b = true → py a = py b → a = b
  | .non, b, n, m, h, k, e => by cases b <;> first | rfl | (simp [py] at e; done) | exact absurd k (by cases m <;> exact Bool.noConfusion)
  | .bl x, b, n, m, h, k, e => by cases b <;> first | (simp [py] at e; rw [e]; done) | (simp [py] at e; done) | exact absurd k (by cases m <;> exact Bool.noConfusion)
  | .int x, b, n, m, h, k, e => by cases b <;> first | (simp [py] at e; rw [e]; done) | (simp [py] at e; done) | exact absurd k (by cases m <;> exact Bool.noConfusion)
  | .str x, b, n, m, h, k, e => by cases b <;> first | (simp [py] at e; rw [e]; done) | (simp [py] at e; done) | exact absurd k (by cases m <;> exact Bool.noConfusion)
  | .tup l, b, n, m, h, k, e => by
    cases b <;> first | (simp [py] at e; done) | (exfalso; cases m <;> exact Bool.noConfusion (show false = true from k)) | skip
    rename_i r
    cases n with
    | zero => exact absurd h (by unfold pdn; exact Bool.noConfusion)
    | succ n =>
      cases m with
      | zero => exact absurd k (by unfold pdn; exact Bool.noConfusion)
      | succ m =>
        rw [pys_inj l r n m (by unfold pdn at h; exact h) (by unfold pdn at k; exact k) (by simpa [py] using e)]
  | .lst l, b, n, m, h, k, e => by
    cases b <;> first | (simp [py] at e; done) | (exfalso; cases m <;> exact Bool.noConfusion (show false = true from k)) | skip
    rename_i r
    cases n with
    | zero => exact absurd h (by unfold pdn; exact Bool.noConfusion)
    | succ n =>
      cases m with
      | zero => exact absurd k (by unfold pdn; exact Bool.noConfusion)
      | succ m =>
        rw [pys_inj l r n m (by unfold pdn at h; exact h) (by unfold pdn at k; exact k) (by simpa [py] using e)]
  | .dct _, _, n, _, h, _, _ => absurd h (by cases n <;> exact Bool.noConfusion)
  | .ins _ _, _, n, _, h, _, _ => absurd h (by cases n <;> exact Bool.noConfusion)
  | .me _ _, _, n, _, h, _, _ => absurd h (by cases n <;> exact Bool.noConfusion)
  | .draw, _, n, _, h, _, _ => absurd h (by cases n <;> exact Bool.noConfusion)
theorem pys_inj : ∀ (l r : List D) (n m : Nat), pdns n l = true → pdns m r = true → pys l = pys r → l = r
  | [], [], _, _, _, _, _ => rfl
  | [], _ :: _, _, _, _, _, e => by simp [pys] at e
  | _ :: _, [], _, _, _, _, e => by simp [pys] at e
  | a :: l, b :: r, n, m, h, k, e => by
    unfold pdns at h k
    simp only [pys, List.cons.injEq] at e
    rw [py_inj a b n m (ands h).1 (ands k).1 e.1, pys_inj l r n m (ands h).2 (ands k).2 e.2]
end
theorem leastD_mem : ∀ (l : List D) (a : D), leastD a l ∈ a :: l
  | [], a => List.mem_cons_self
  | b :: l, a => by
    unfold leastD
    split
    · exact List.mem_cons_of_mem _ (leastD_mem l b)
    · rcases List.mem_cons.mp (leastD_mem l a) with h | h
      · rw [h]; exact List.mem_cons_self
      · exact List.mem_cons_of_mem _ (List.mem_cons_of_mem _ h)
theorem mostD_mem : ∀ (l : List D) (a : D), mostD a l ∈ a :: l
  | [], a => List.mem_cons_self
  | b :: l, a => by
    unfold mostD
    split
    · exact List.mem_cons_of_mem _ (mostD_mem l b)
    · rcases List.mem_cons.mp (mostD_mem l a) with h | h
      · rw [h]; exact List.mem_cons_self
      · exact List.mem_cons_of_mem _ (List.mem_cons_of_mem _ h)
theorem least_py {k : List D} (h1 : ∀ a ∈ k, plain a = true) (h2 : ∀ a ∈ k, ∀ b ∈ k, alikeD a b = true) : ∀ (l : List D) (a : D), (∀ b ∈ a :: l, b ∈ k) → py (leastD a l) = PySem.W.minD (py a) (l.map py)
  | [], a, _ => rfl
  | b :: l, a, h => by
    have ha := h a List.mem_cons_self
    have hb := h b (List.mem_cons_of_mem _ List.mem_cons_self)
    have e := lt_py (h2 b hb a ha) (plain_pdn (h1 b hb)) (plain_pdn (h1 a ha))
    unfold leastD PySem.W.minD
    rw [List.map_cons, List.foldl_cons]
    rw [e]
    split
    · exact least_py h1 h2 l b fun c hc => h c (List.mem_cons_of_mem _ hc)
    · exact least_py h1 h2 l a fun c hc => by
        rcases List.mem_cons.mp hc with z | z
        · rw [z]; exact ha
        · exact h c (List.mem_cons_of_mem _ (List.mem_cons_of_mem _ z))
theorem most_py {k : List D} (h1 : ∀ a ∈ k, plain a = true) (h2 : ∀ a ∈ k, ∀ b ∈ k, alikeD a b = true) : ∀ (l : List D) (a : D), (∀ b ∈ a :: l, b ∈ k) → py (mostD a l) = PySem.W.maxD (py a) (l.map py)
  | [], a, _ => rfl
  | b :: l, a, h => by
    have ha := h a List.mem_cons_self
    have hb := h b (List.mem_cons_of_mem _ List.mem_cons_self)
    have e := lt_py (h2 a ha b hb) (plain_pdn (h1 a ha)) (plain_pdn (h1 b hb))
    unfold mostD PySem.W.maxD
    rw [List.map_cons, List.foldl_cons]
    rw [e]
    split
    · exact most_py h1 h2 l b fun c hc => h c (List.mem_cons_of_mem _ hc)
    · exact most_py h1 h2 l a fun c hc => by
        rcases List.mem_cons.mp hc with z | z
        · rw [z]; exact ha
        · exact h c (List.mem_cons_of_mem _ (List.mem_cons_of_mem _ z))
theorem sortable_none {l : List D} (h : sortable l = true) : ∀ x ∈ l.map py, x ≠ PyData.none := fun x hx => by
  obtain ⟨_, _, h3⟩ := sortable_parts h
  rcases h3 with k | k
  · obtain ⟨y, r, e⟩ := k x hx
    rw [e]; exact fun z => by cases z
  · exact (k x hx).1
/-- an item that reads as the datum d of the list is that datum -/
theorem item_is (RK : X.K = G.K) (I : Inv X pins σ H s) {l : List D} {vs : List V} {its : List Value} {i : Nat} {u : Value} {d0 : D} {h' : Heap} {bs : List Addr} (hp : ∀ a ∈ l, plain a = true) (d : DenL G (hid O H) l vs) (rv : Vals vs its) (hu : its[i]? = some u) (h0 : plain d0 = true) (hk : ∀ b o, s.heap.get? b = some o → h'.get? b = some o) (rd : Reads h' u (py d0) bs) :
    ∃ v, RelV v u ∧ Den G (hid O H) d0 v := by
  have hi : i < its.length := (List.getElem?_eq_some_iff.mp hu).1
  have l1 := rv.length
  have l2 := d.length
  obtain ⟨dd, hdd⟩ : ∃ dd, l[i]? = some dd := ⟨l[i]'(by omega), List.getElem?_eq_getElem _⟩
  obtain ⟨v, hv, dv⟩ := d.get hdd
  obtain ⟨u', hu', ru⟩ := rv.get hv
  rw [hu] at hu'
  cases hu'
  have pd := hp dd (List.mem_of_getElem? hdd)
  obtain ⟨as, r2⟩ := Dp.reads I _ v u (by rw [RK]; exact den_dp hid_le (plain_pdn pd) dv) ru
  have e := PySem.SeqAt.Reads.unique _ _ u bs as (pdn_py (plain_pdn h0)).1 rd (PyProof.Rows.Reads.keeps hk r2)
  have : d0 = dd := py_inj d0 dd _ _ (plain_pdn h0) (plain_pdn pd) e
  subst this
  exact ⟨v, ru, dv⟩
theorem depthAll_le {n : Nat} : ∀ {l : List D}, (∀ a ∈ l, pdn n a = true) → PyData.depthAll (l.map py) ≤ n
  | [], _ => by simp [PyData.depthAll]
  | a :: l, h => by
    rw [List.map_cons, PyData.depthAll]
    exact Nat.max_le.mpr ⟨(pdn_py (h a List.mem_cons_self)).2, depthAll_le fun b hb => h b (List.mem_cons_of_mem _ hb)⟩
theorem min_lst (RK : X.K = G.K) (hc : X.calm = true) (hu : X.A.units + 100 < cLine) (I : Inv X pins σ H s) {a : Addr} {vs : List V} {x : D} {l : List D} (hq : SqL X.K H a vs) (d : DenL G (hid O H) (x :: l) vs) (hs : sortable (x :: l) = true)
    (h : ∀ v, Den G (hid O H) (leastD x l) v → Q v H) : wpAny (model X.prog X.w) X.A (PySem.call (.builtin "min") [.ref a]) (EP X pins σ Q) X.xe s := by
  obtain ⟨its, rv, pl, hz⟩ := I.list hq
  obtain ⟨h1, h2, h3⟩ := sortable_parts hs
  have ed := EachD.of d rv
  obtain ⟨as, ra⟩ := PySem.W.each_readsAll py (ed.reads RK I hid_le h1)
  refine PySem.W.min_list_data (x := py x) (xs := l.map py) (I.ok.hd hc) pl.isList (by simpa using ra) ⟨sortable_alike hs, sortable_none hs⟩ ?_ fun i v h' tk bs hv rd hk => ?_
  · have := depthAll_le (n := 60) (l := x :: l) fun a ha => plain_pdn (h1 a ha)
    rw [List.map_cons] at this
    omega
  · rw [← least_py h1 h2 l x fun b hb => hb] at rd
    obtain ⟨w, rw', dw⟩ := item_is RK I h1 d rv (by simpa using hv) (h1 _ (leastD_mem l x)) hk rd
    exact ⟨w, H, I.kept hk, rw', h w dw⟩
theorem max_lst (RK : X.K = G.K) (hc : X.calm = true) (hu : X.A.units + 100 < cLine) (I : Inv X pins σ H s) {a : Addr} {vs : List V} {x : D} {l : List D} (hq : SqL X.K H a vs) (d : DenL G (hid O H) (x :: l) vs) (hs : sortable (x :: l) = true)
    (h : ∀ v, Den G (hid O H) (mostD x l) v → Q v H) : wpAny (model X.prog X.w) X.A (PySem.call (.builtin "max") [.ref a]) (EP X pins σ Q) X.xe s := by
  obtain ⟨its, rv, pl, hz⟩ := I.list hq
  obtain ⟨h1, h2, h3⟩ := sortable_parts hs
  have ed := EachD.of d rv
  obtain ⟨as, ra⟩ := PySem.W.each_readsAll py (ed.reads RK I hid_le h1)
  refine PySem.W.max_list_data (x := py x) (xs := l.map py) (I.ok.hd hc) pl.isList (by simpa using ra) ⟨sortable_alike hs, sortable_none hs⟩ ?_ fun i v h' tk bs hv rd hk => ?_
  · have := depthAll_le (n := 60) (l := x :: l) fun a ha => plain_pdn (h1 a ha)
    rw [List.map_cons] at this
    omega
  · rw [← most_py h1 h2 l x fun b hb => hb] at rd
    obtain ⟨w, rw', dw⟩ := item_is RK I h1 d rv (by simpa using hv) (h1 _ (mostD_mem l x)) hk rd
    exact ⟨w, H, I.kept hk, rw', h w dw⟩
theorem list_dct (hc : X.calm = true) (I : Inv X pins σ H s) {a : Addr} {l : List (D × D)} (dct : Dct G (hid O H) H a l)
    (h : ∀ p ws, H p = none → DenL G (hid O H) (l.map (·.1)) ws → Q (.ref p) (upd H p (.lst ws))) : wpAny (model X.prog X.w) X.A (PySem.call (.type "list") [.ref a]) (EP X pins σ Q) X.xe s := by
  obtain ⟨o, es, ep, ho, hx, hd, den⟩ := dct.obj I
  have hl := den.length
  have hb := dct.ok.2.2
  have bl := big_line
  have hn : es.size ≤ sizeLine := by rw [← Array.length_toList]; omega
  refine PySem.W.kdl_call (kdl_raw dct.sys hx hd) (I.ok.hd hc) ho hn fun h' tk acc c' kp e it => ?_
  obtain ⟨ws, dw, rw'⟩ := EachD.back (by rw [items_eq it]; exact keys_each den : EachD G (hid O H) acc.toList (l.map (·.1)))
  have l2 := dw.length
  rw [List.length_map] at l2
  exact ⟨.ref s.heap.objs.size, _, I.laid (t' := tk) (o := .lst ws) kp (Nat.le_refl _) ⟨by omega, acc.toList, c', rw', by rw [Array.toArray_toList]; exact e⟩, rfl, h _ ws (I.hok.fresh (Nat.le_refl _)) dw⟩
end BB
end
section
set_option Elab.async false
set_option linter.all false
set_option maxRecDepth 100000
set_option maxHeartbeats 4000000
/-! dict of a list of pairs; all of them together. -/
namespace BB
open PySem PySem.Spec PyProof.Rows L2
variable {G : Gc} {C : Ck} {cl : Cal} {mk : Mak} {W : WS} {X : Cx} {Γ : Fr} {σ : L2.St} {H H' Hv : Hp} {Q : VK} {O : List Addr} {pins : List (Addr × Obj)} {s : Shared}
theorem dput_kk {q x : D} : ∀ {l : List (D × D)}, l.all (fun p => atomKey p.1) = true → atomKey q = true → (kk q ∈ l.map (fun p => kk p.1) ∧ (dput l q x).map (fun p => kk p.1) = l.map (fun p => kk p.1)) ∨ (kk q ∉ l.map (fun p => kk p.1) ∧ (dput l q x).map (fun p => kk p.1) = l.map (fun p => kk p.1) ++ [kk q])
  | [], _, _ => .inr ⟨by simp, rfl⟩
  | (k, v) :: l, h, hq => by
    rw [List.all_cons] at h
    obtain ⟨h1, h2⟩ := ands h
    have ih := dput_kk (q := q) (x := x) h2 hq
    unfold dput
    rw [eqv_kk h1 hq]
    by_cases e : kk k = kk q
    · rw [if_pos (by simpa using e)]
      exact .inl ⟨by simp [e], rfl⟩
    · rw [if_neg (by simpa using e), List.map_cons, List.map_cons]
      rcases ih with ⟨m, ih⟩ | ⟨m, ih⟩
      · exact .inl ⟨List.mem_cons_of_mem _ m, by rw [ih]⟩
      · refine .inr ⟨fun z => ?_, by rw [ih]; rfl⟩
        rcases List.mem_cons.mp z with z | z
        · exact e z.symm
        · exact m z
theorem dput_nodup {q x : D} {l : List (D × D)} (h : l.all (fun p => atomKey p.1) = true) (hq : atomKey q = true) (n : (l.map fun p => kk p.1).Nodup) : ((dput l q x).map fun p => kk p.1).Nodup := by
  rcases dput_kk (x := x) h hq with ⟨_, e⟩ | ⟨m, e⟩
  · rw [e]; exact n
  · rw [e, List.nodup_append]
    exact ⟨n, by simp, fun a ha b hb => by rw [List.mem_singleton.mp hb]; exact fun z => m (z ▸ ha)⟩
theorem KA.mergeAll : ∀ {ps : List (D × D)} {prs : List (Key × Value)} {l : List (D × D)} {kvs : List (Key × Value)}, KA G Hv ps prs → KA G Hv l kvs → (l.map fun p => kk p.1).Nodup → KA G Hv (puts l ps) (merged kvs prs) ∧ ((puts l ps).map fun p => kk p.1).Nodup := by
  intro ps prs l kvs r
  unfold KA at r
  induction r generalizing l kvs with
  | nil => exact fun k n => ⟨k, n⟩
  | @cons p q ps qs h t ih =>
    intro k n
    obtain ⟨h1, h2, v, h3, h4⟩ := h
    have n2 : (kvs.map (·.1)).Nodup := by rw [k.keys.1]; exact n
    have k2 := KA.put (q := p.1) (x := p.2) k n2 h1 h3 h4
    have := ih k2 (dput_nodup k.keys.2 h1 n)
    rw [← h2] at this
    exact this
theorem pairsD_len : ∀ {l : List D} {ps : List (D × D)}, pairsD l = some ps → ps.length = l.length
  | [], _, e => by cases e; rfl
  | d :: l, ps, e => by
    match d, e with
    | .tup [a, b], e =>
      obtain ⟨qs, h, rfl⟩ := Option.map_eq_some_iff.mp (show (pairsD l).map ((a, b) :: ·) = some ps from e)
      rw [List.length_cons, List.length_cons, pairsD_len h]
/-- the pairs, where they stand -/
theorem pairs_at (RK : X.K = G.K) (I : Inv X pins σ H s) (e : Same Hv H) : ∀ {l : List D} {ps : List (D × D)} {vs : List V} {us : List Value}, pairsD l = some ps → ps.all (fun p => atomKey p.1) = true → DenL G Hv l vs → Vals vs us →
    ∃ prs : List (Key × Value), KA G Hv ps prs ∧ prs.length = us.length ∧ ∀ (j : Nat) (q : Key × Value), prs[j]? = some q → ∃ (b : Addr) (u : Value), us[j]? = some (.ref b) ∧ IsTup s.heap b #[u, q.2] ∧ keyIs q.1 u = true
  | [], _, _, _, h, _, d, r => by
    cases h
    rw [show _ = _ from d] at r
    cases r
    exact ⟨[], .nil, rfl, fun j q z => by simp at z⟩
  | d :: l, ps, vs, us, h, ha, dl, r => by
    match d, h with
    | .tup [a, b], h =>
      obtain ⟨qs, hq, rfl⟩ := Option.map_eq_some_iff.mp (show (pairsD l).map ((a, b) :: ·) = some ps from h)
      rw [List.all_cons] at ha
      obtain ⟨ha1, ha2⟩ := ands ha
      obtain ⟨v, ws, rfl, h1, h2⟩ := dl
      obtain ⟨T, xs, rfl, st, x1, ys, rfl, da, x2, zs, rfl, db, hz⟩ := h1
      rw [show zs = [] from hz] at st
      cases r with
      | cons r1 r2 =>
        obtain ⟨prs, k, len, at_⟩ := pairs_at RK I e hq ha2 h2 r2
        have st := SqT.mono e st
        rw [← RK] at st
        obtain ⟨its, rv, tp, _⟩ := I.tuple st
        obtain ⟨u1, u2, rfl, q1, q2⟩ := rv.two
        cases r1
        refine ⟨(kk a, u2) :: prs, .cons ⟨ha1, rfl, x2, q2, db⟩ k, by rw [List.length_cons, List.length_cons, len], fun j q hj => ?_⟩
        cases j with
        | zero =>
          cases hj
          rw [kk_v ha1 da] at q1
          exact ⟨T, u1, rfl, tp, @kV_is X.prog X.w _ _ q1⟩
        | succ j =>
          obtain ⟨b', u', e1, e2, e3⟩ := at_ j q hj
          exact ⟨b', u', e1, e2, e3⟩
theorem dict_lst (RK : X.K = G.K) (hw : X.w = G.w) (hc : X.calm = true) (I : Inv X pins σ H s) {a : Addr} {vs : List V} {l : List D} {ps : List (D × D)} (hq : SqL X.K H a vs) (d : DenL G (hid O H) l vs) (hp : pairsD l = some ps) (ha : ps.all (fun p => atomKey p.1) = true)
    (h : ∀ p es ep, H p = none → (p == sysModules) = false → (keysOk (puts [] ps) = true ∧ noTwice (puts [] ps) = true ∧ (puts [] ps).length ≤ big) → DenE G (hid O H) (puts [] ps) es → Q (.ref p) (upd H p (DicO p es ep))) : wpAny (model X.prog X.w) X.A (PySem.call (.type "dict") [.ref a]) (EP X pins σ Q) X.xe s := by
  obtain ⟨its, rv, ⟨o, n, ho, h1, h2, h3⟩, hz⟩ := I.list hq
  obtain ⟨prs, k, len, hpr⟩ := pairs_at RK I hid_le hp ha d rv
  have l1 := rv.length
  have l2 := d.length
  have l3 := pairsD_len hp
  have bl := big_line
  obtain ⟨km, nm⟩ := KA.mergeAll (l := []) (kvs := []) k .nil List.nodup_nil
  refine call_dict_pairs (prs := prs) (I.ok.hd hc) ho h1 h2 h3 (by simp [len]) (by omega) (fun j q e => ?_) fun h' tk hd' kp => ?_
  · obtain ⟨b, u, e1, e2, e3⟩ := hpr j q e
    exact ⟨b, u, by simpa using e1, e2, e3⟩
  · obtain ⟨ob, es, ep, g1, g2, g3, g4, g5, g6⟩ := hd'
    have sys : (s.heap.objs.size == sysModules) = false := beq_eq_false_iff_ne.mpr (Nat.ne_of_gt I.big)
    have all := km.keys.2
    have lp := puts_length ps []
    refine ⟨.ref s.heap.objs.size, _, I.laid (t' := tk) (o := DicO s.heap.objs.size es.toList ep) kp (Nat.le_refl _) (dico_ok g1 g2 g3), rfl, h _ es.toList ep (I.hok.fresh (Nat.le_refl _)) sys ⟨by unfold keysOk; rw [all]; rfl, (noTwice_A all).mpr nm, by rw [List.length_nil] at lp; omega⟩ ?_⟩
    exact den_A hw km g5 fun e he => g4 e (by simpa using he)
end BB
end
section
set_option Elab.async false
set_option linter.all false
set_option maxRecDepth 100000
set_option maxHeartbeats 4000000
/-! Built-ins of what is walked. -/
namespace BB
open PySem PySem.Spec PyProof.Rows L2
variable {G : Gc} {C : Ck} {cl : Cal} {mk : Mak} {W : WS} {X : Cx} {Γ : Fr} {σ : L2.St} {H H' Hv : Hp} {Q : VK} {O : List Addr} {pins : List (Addr × Obj)} {s : Shared}
def isNewB : Bw → Bool
  | .list => true | .sorted => true | .dict => true | _ => false
/-- what follows for each result that S allows -/
structure Snk (G : Gc) (O : List Addr) (H : Hp) (Q : VK) (b : Bw) (S : D → Prop) : Prop where
  lst : ∀ l, S (.lst l) → ∀ p ws, H p = none → DenL G (hid O H) l ws → Q (.ref p) (upd H p (.lst ws))
  dct : ∀ l, S (.dct l) → ∀ p es ep, H p = none → (p == sysModules) = false → (keysOk l = true ∧ noTwice l = true ∧ l.length ≤ big) → DenE G (hid O H) l es → Q (.ref p) (upd H p (DicO p es ep))
  tup : ∀ l, isNewB b = false → S (.tup l) → ∀ p ws, H p = none → DenL G (hid O H) l ws → Q (.ref p) (upd H p (.tup ws))
  dat : ∀ d v, isNewB b = false → S d → Den G (hid O H) d v → Q v H
def wCal : Bw → Value
  | .list => .type "list" | .tuple => .type "tuple" | .dict => .type "dict"
  | .sorted => .builtin "sorted" | .sum => .builtin "sum" | .min => .builtin "min" | .max => .builtin "max" | .all => .builtin "all" | .any => .builtin "any"
theorem wBoot (b : Bw) : bootBuiltins (wNames b) = some (wCal b) := by cases b <;> decide +kernel
theorem ints_map : ∀ {l : List D} {ns : List Int}, intsD l = some ns → l = ns.map D.int
  | [], _, e => by cases e; rfl
  | d :: l, ns, e => by
    match d, e with
    | .int i, e =>
      obtain ⟨ms, h, rfl⟩ := Option.map_eq_some_iff.mp (show (intsD l).map (i :: ·) = some ns from e)
      rw [ints_map h]; rfl
theorem bls_map : ∀ {l : List D} {ns : List Bool}, bls l = some ns → l = ns.map D.bl
  | [], _, e => by cases e; rfl
  | d :: l, ns, e => by
    match d, e with
    | .bl i, e =>
      obtain ⟨ms, h, rfl⟩ := Option.map_eq_some_iff.mp (show (bls l).map (i :: ·) = some ns from e)
      rw [bls_map h]; rfl
theorem den_ints : ∀ {ns : List Int} {vs : List V}, DenL G Hv (ns.map D.int) vs → vs = ns.map V.int
  | [], _, h => h
  | n :: ns, _, h => by
    obtain ⟨v, r, rfl, h1, h2⟩ := h
    rw [show v = V.int n from h1, den_ints h2]; rfl
theorem den_bls : ∀ {ns : List Bool} {vs : List V}, DenL G Hv (ns.map D.bl) vs → vs = ns.map V.bl
  | [], _, h => h
  | n :: ns, _, h => by
    obtain ⟨v, r, rfl, h1, h2⟩ := h
    rw [show v = V.bl n from h1, den_bls h2]; rfl
theorem fa_int (n : Int) : ∀ v : V, v = .int n → Den G Hv (.int n) v := fun _ h => h
abbrev rW (G : Gc) (b : Bw) : List V → Hp → VK → Prop := fun vs H Q => one1 (fun x H => ∃ O d l S, Vw G O H d x ∧ bwD b d = some l ∧ Snk G O H Q b S ∧ (walkD b l).wp S (fun _ _ => True)) vs H
theorem wp_if2 {c : Prop} [Decidable c] {β : Type} {r : Res β} {S : β → Prop} {R : Nat → Fs → Prop} (h : (if c then r else .stuck : Res β).wp S R) : c ∧ r.wp S R := by
  by_cases e : c
  · rw [if_pos e] at h; exact ⟨e, h⟩
  · rw [if_neg e] at h; exact h.elim
theorem rule_list (RK : X.K = G.K) (hc : X.calm = true) : CallR X (.type "list") (rW G .list) := by
  intro pins s σ H vs us Q I r h
  cases r with
  | nil => exact h.elim
  | cons r rr =>
    cases rr with
    | cons _ _ => exact h.elim
    | nil =>
      obtain ⟨O, d, l, S, vw, e, k, w⟩ := h
      have w : S (.lst l) := w
      cases d <;> (first | (cases e; done) | skip) <;> cases e
      · obtain ⟨a, ws, rfl, h1, h2⟩ := vw.tup
        rw [← RK] at h1
        exact call_list_of pins s σ H [.ref a] _ Q I (.cons r .nil) ⟨a, ws, rfl, .inr h1, fun p hp => k.lst _ w p ws hp h2⟩
      · obtain ⟨a, ws, rfl, h1, h2⟩ := vw.lst
        exact call_list_of pins s σ H [.ref a] _ Q I (.cons r .nil) ⟨a, ws, rfl, .inl (.inl h1), fun p hp => k.lst _ w p ws hp h2⟩
      · obtain ⟨a, rfl, dct⟩ := vw.dct'
        cases r
        exact list_dct hc I dct fun p ws hp d => k.lst _ w p ws hp d
theorem rule_tuple (RK : X.K = G.K) : CallR X (.type "tuple") (rW G .tuple) := by
  intro pins s σ H vs us Q I r h
  cases r with
  | nil => exact h.elim
  | cons r rr =>
    cases rr with
    | cons _ _ => exact h.elim
    | nil =>
      obtain ⟨O, d, l, S, vw, e, k, w⟩ := h
      have w : S (.tup l) := w
      cases d <;> (first | (cases e; done) | skip) <;> cases e
      · have dd : Den G (hid O H) (.tup _) _ := vw.elim id fun ⟨p, _, _, z⟩ => z.elim
        obtain ⟨a, ws, rfl, h1, h2⟩ := vw.tup
        rw [← RK] at h1
        exact call_tuple_of pins s σ H [.ref a] _ Q I (.cons r .nil) ⟨a, ws, rfl, .inr ⟨h1, k.dat _ _ rfl w dd⟩⟩
      · obtain ⟨a, ws, rfl, h1, h2⟩ := vw.lst
        exact call_tuple_of pins s σ H [.ref a] _ Q I (.cons r .nil) ⟨a, ws, rfl, .inl ⟨.inl h1, fun p hp => k.tup _ rfl w p ws hp h2⟩⟩
theorem rule_sorted (RK : X.K = G.K) (hc : X.calm = true) (hu : X.A.units + 100 < cLine) : CallR X (.builtin "sorted") (rW G .sorted) := by
  intro pins s σ H vs us Q I r h
  cases r with
  | nil => exact h.elim
  | cons r rr =>
    cases rr with
    | cons _ _ => exact h.elim
    | nil =>
      obtain ⟨O, d, l, S, vw, e, k, w⟩ := h
      obtain ⟨w1, w⟩ := wp_if2 w
      have w : S (.lst (sortD l)) := w
      cases d <;> (first | (cases e; done) | skip) <;> cases e
      · obtain ⟨a, ws, rfl, h1, h2⟩ := vw.lst
        cases r
        exact sorted_lst RK hu I (.inl h1) h2 w1 fun p us hp d => k.lst _ w p us hp d
      · obtain ⟨a, rfl, dct⟩ := vw.dct'
        cases r
        exact sorted_dct RK hc hu I dct w1 fun p ws hp d => k.lst _ w p ws hp d
theorem rule_sum (hc : X.calm = true) : CallR X (.builtin "sum") (rW G .sum) := by
  intro pins s σ H vs us Q I r h
  cases r with
  | nil => exact h.elim
  | cons r rr =>
    cases rr with
    | cons _ _ => exact h.elim
    | nil =>
      obtain ⟨O, d, l, S, vw, e, k, w⟩ := h
      cases d <;> (first | (cases e; done) | skip) <;> cases e
      obtain ⟨a, ws, rfl, h1, h2⟩ := vw.lst
      have w : (match intsD _ with | some ns => .ok (.int ns.sum) | none => .stuck : Res D).wp S (fun _ _ => True) := w
      split at w
      · rename_i ns hn
        rw [ints_map hn] at h2
        have := den_ints h2
        subst this
        exact cr_sum hc pins s σ H [.ref a] _ Q I (.cons r .nil) ⟨a, ns, rfl, .inl h1, k.dat _ _ rfl w rfl⟩
      · exact w.elim
theorem rule_all (hc : X.calm = true) : CallR X (.builtin "all") (rW G .all) := by
  intro pins s σ H vs us Q I r h
  cases r with
  | nil => exact h.elim
  | cons r rr =>
    cases rr with
    | cons _ _ => exact h.elim
    | nil =>
      obtain ⟨O, d, l, S, vw, e, k, w⟩ := h
      cases d <;> (first | (cases e; done) | skip) <;> cases e
      obtain ⟨a, ws, rfl, h1, h2⟩ := vw.lst
      have w : (match bls _ with | some bs => .ok (.bl (bs.all id)) | none => .stuck : Res D).wp S (fun _ _ => True) := w
      split at w
      · rename_i ns hn
        rw [bls_map hn] at h2
        have := den_bls h2
        subst this
        exact cr_all hc pins s σ H [.ref a] _ Q I (.cons r .nil) ⟨a, ns, rfl, .inl h1, k.dat _ _ rfl w rfl⟩
      · exact w.elim
theorem rule_any (hc : X.calm = true) : CallR X (.builtin "any") (rW G .any) := by
  intro pins s σ H vs us Q I r h
  cases r with
  | nil => exact h.elim
  | cons r rr =>
    cases rr with
    | cons _ _ => exact h.elim
    | nil =>
      obtain ⟨O, d, l, S, vw, e, k, w⟩ := h
      cases d <;> (first | (cases e; done) | skip) <;> cases e
      obtain ⟨a, ws, rfl, h1, h2⟩ := vw.lst
      have w : (match bls _ with | some bs => .ok (.bl (bs.any id)) | none => .stuck : Res D).wp S (fun _ _ => True) := w
      split at w
      · rename_i ns hn
        rw [bls_map hn] at h2
        have := den_bls h2
        subst this
        exact cr_any hc pins s σ H [.ref a] _ Q I (.cons r .nil) ⟨a, ns, rfl, .inl h1, k.dat _ _ rfl w rfl⟩
      · exact w.elim
theorem rule_min (RK : X.K = G.K) (hc : X.calm = true) (hu : X.A.units + 100 < cLine) : CallR X (.builtin "min") (rW G .min) := by
  intro pins s σ H vs us Q I r h
  cases r with
  | nil => exact h.elim
  | cons r rr =>
    cases rr with
    | cons _ _ => exact h.elim
    | nil =>
      obtain ⟨O, d, l, S, vw, e, k, w⟩ := h
      cases d <;> (first | (cases e; done) | skip) <;> cases e
      obtain ⟨a, ws, rfl, h1, h2⟩ := vw.lst
      cases r
      cases l with
      | nil => exact w.elim
      | cons x l =>
        obtain ⟨w1, w⟩ := wp_if2 w
        exact min_lst RK hc hu I (.inl h1) h2 w1 fun v d => k.dat _ v rfl w d
theorem rule_max (RK : X.K = G.K) (hc : X.calm = true) (hu : X.A.units + 100 < cLine) : CallR X (.builtin "max") (rW G .max) := by
  intro pins s σ H vs us Q I r h
  cases r with
  | nil => exact h.elim
  | cons r rr =>
    cases rr with
    | cons _ _ => exact h.elim
    | nil =>
      obtain ⟨O, d, l, S, vw, e, k, w⟩ := h
      cases d <;> (first | (cases e; done) | skip) <;> cases e
      obtain ⟨a, ws, rfl, h1, h2⟩ := vw.lst
      cases r
      cases l with
      | nil => exact w.elim
      | cons x l =>
        obtain ⟨w1, w⟩ := wp_if2 w
        exact max_lst RK hc hu I (.inl h1) h2 w1 fun v d => k.dat _ v rfl w d
theorem rule_dict (RK : X.K = G.K) (hw : X.w = G.w) (hc : X.calm = true) : CallR X (.type "dict") (rW G .dict) := by
  intro pins s σ H vs us Q I r h
  cases r with
  | nil => exact h.elim
  | cons r rr =>
    cases rr with
    | cons _ _ => exact h.elim
    | nil =>
      obtain ⟨O, d, l, S, vw, e, k, w⟩ := h
      cases d <;> (first | (cases e; done) | skip) <;> cases e
      obtain ⟨a, ws, rfl, h1, h2⟩ := vw.lst
      cases r
      have w : (match pairsD _ with | some ps => if ps.all (fun p => atomKey p.1) then .ok (.dct (puts [] ps)) else .stuck | none => .stuck : Res D).wp S (fun _ _ => True) := w
      split at w
      · rename_i ps hp
        obtain ⟨w1, w⟩ := wp_if2 w
        exact dict_lst RK hw hc I (.inl h1) h2 hp w1 fun p es ep hp' sys good den => k.dct _ w p es ep hp' sys good den
      · exact w.elim
theorem rule_w (RK : X.K = G.K) (hw : X.w = G.w) (hc : X.calm = true) (hu : X.A.units + 100 < cLine) (b : Bw) : CallR X (wCal b) (rW G b) := by
  cases b with
  | list => exact rule_list RK hc
  | tuple => exact rule_tuple RK
  | sorted => exact rule_sorted RK hc hu
  | sum => exact rule_sum hc
  | min => exact rule_min RK hc hu
  | max => exact rule_max RK hc hu
  | all => exact rule_all hc
  | any => exact rule_any hc
  | dict => exact rule_dict RK hw hc
end BB
end
section
set_option Elab.async false
set_option linter.all false
set_option maxRecDepth 100000
set_option maxHeartbeats 4000000
/-! Built-ins of what is walked, called by name. -/
namespace BB
open PySem PySem.Spec PyProof.Rows L2
variable {G : Gc} {C : Ck} {cl : Cal} {mk : Mak} {W : WS} {X : Cx} {Γ : Fr} {σ : L2.St} {H H' Hv : Hp} {Q : VK} {O : List Addr} {pins : List (Addr × Obj)} {s : Shared}
theorem DenL.of_get : ∀ {l : List D} {vs : List V}, l.length = vs.length → (∀ (i : Nat) (d : D) (v : V), l[i]? = some d → vs[i]? = some v → Den G Hv d v) → DenL G Hv l vs
  | [], [], _, _ => rfl
  | [], _ :: _, h, _ => by simp at h
  | _ :: _, [], h, _ => by simp at h
  | d :: l, v :: vs, h, f => ⟨v, vs, rfl, f 0 d v rfl rfl, DenL.of_get (by simpa using h) fun i d v h1 h2 => f (i + 1) d v (by simpa using h1) (by simpa using h2)⟩
theorem den_rg (a b : Int) : DenL G Hv (rng a (b - a).toNat) (rgV a b) := by
  refine DenL.of_get (by rw [rng_length, rgV_length]) fun i d v h1 h2 => ?_
  rw [rng_get] at h1
  unfold rgV at h2
  rw [List.getElem?_map] at h2
  split at h1
  · rename_i hi
    cases h1
    rw [List.getElem?_range hi] at h2
    cases h2
    rfl
  · cases h1
/-- the result goes on as data -/
theorem Out.snk {Wk : XK} {b : Bw} {r : Res D} (h : Out G O H Wk r Q) : Snk G O H Q b (fun d => ∀ v H', Grow G H H' → Dr G H' → Den G (hid O H') d v → Q v H') where
  lst := fun l S p ws hp d => S _ _ (Grow.new hp) (dr_new h.2.2.1 hp) ⟨p, ws, rfl, .inl (hid_new h.2.1 hp), d.mono (same_new hp)⟩
  dct := fun l S p es ep hp sys good d => S _ _ (Grow.new hp) (dr_new h.2.2.1 hp) ⟨p, es, ep, rfl, hid_new h.2.1 hp, sys, good, d.mono (same_new hp)⟩
  tup := fun l _ S p ws hp d => S _ _ (Grow.new hp) (dr_new h.2.2.1 hp) ⟨p, ws, rfl, .inl (.inl (hid_new h.2.1 hp)), d.mono (same_new hp)⟩
  dat := fun d v _ S dv => S v H (Grow.refl H) h.2.2.1 dv
theorem OutF.snk {Wk : XK} {b : Bw} {r : Res D} (hb : isNewB b = true) (h : OutF G O H Wk r Q) : Snk G O H Q b (Wn G O H Q) where
  lst := fun l S p ws hp d => S.2 p _ hp (fun z => let ⟨_, q⟩ := h.2.1 p z; by rw [hp] at q; cases q) (Grow.new hp) (dr_new h.2.2.1 hp) ⟨ws, upd_same, by rw [hid_upd]; exact d.mono (hid_cons hp)⟩
  dct := fun l S p es ep hp sys good d => S.2 p _ hp (fun z => let ⟨_, q⟩ := h.2.1 p z; by rw [hp] at q; cases q) (Grow.new hp) (dr_new h.2.2.1 hp) ⟨es, ep, upd_same, sys, good, by rw [hid_upd]; exact d.mono (hid_cons hp)⟩
  tup := fun l hb' => by rw [hb] at hb'; cases hb'
  dat := fun d v hb' => by rw [hb] at hb'; cases hb'
/-- no draws, no exceptions -/
theorem walkD_wp {b : Bw} {l : List D} {S : D → Prop} {R R' : Nat → Fs → Prop} (h : (walkD b l).wp S R) : (walkD b l).wp S R' := by
  have : walkD b l = .stuck ∨ ∃ d, walkD b l = .ok d := by
    cases b <;> first
      | exact .inr ⟨_, rfl⟩
      | (simp only [walkD]; split <;> first | exact .inr ⟨_, rfl⟩ | exact .inl rfl | (split <;> first | exact .inr ⟨_, rfl⟩ | exact .inl rfl))
      | (cases l <;> first | exact .inl rfl | (simp only [walkD]; split <;> first | exact .inr ⟨_, rfl⟩ | exact .inl rfl))
  rcases this with e | ⟨d, e⟩
  · rw [e] at h; exact h.elim
  · rw [e] at h ⊢; exact h
theorem pe_wcall {r : List V → Hp → VK → Prop} {b : Bw} {a : Ex} {t : TE} {p1 p : Pos} (hr : CallR X (wCal b) r) (hg : Gl X (wNames b)) (hm : X.mg (wNames b) = none) (hst : isStar a = false) (ha : PE X a t) : PE X (.Call (.Name (wNames b) p1) [a] [] p) (tCB r (tCons t tNil)) := by
  have e1 := star_cons (es := []) (env := X.env) hst
  have bt := wBoot b
  have hn : wNames b ≠ "__name__" := by cases b <;> decide
  have hd : (wNames b == ("__debug__" : PySem.Str)) = false := by cases b <;> decide
  cases b <;> first
    | exact pe_callTy hr hg hm bt (pa_cons ha pa_nil e1) hn hd e1 rfl
    | exact pe_callB hr hg hm bt (pa_cons ha pa_nil e1) hn hd e1 rfl
theorem lk_val {m : Bool} {b : Bw} {e : E} {ω : List Nat} (h : ∀ i ∈ lkM m (.bw b (.val e)), i ∉ ω) : ∀ i ∈ lkM true e, i ∉ ω := by
  cases m <;> exact h
theorem lk_it {m : Bool} {b : Bw} {i : It} {ω : List Nat} (h : ∀ j ∈ lkM m (.bw b i), j ∉ ω) : ∀ j ∈ lkI i, j ∉ ω := by
  cases m <;> exact h
theorem bw_bad {b : Bw} {i : It} (hv : ∀ e, i ≠ .val e) (h : bwIt b i = false) (ρ : Env) : ev G.T cl mk (.bw b i) ρ = .stuck := by
  cases i <;> first
    | exact absurd rfl (hv _)
    | (simp only [ev]; rw [h]; rfl)
theorem bw_good {b : Bw} {i : It} (hv : ∀ e, i ≠ .val e) (h : bwIt b i = true) (ρ : Env) : ev G.T cl mk (.bw b i) ρ = (evI G.T cl mk i ρ).bind fun l => if l.length ≤ big then walkD b l else .stuck := by
  cases i <;> first
    | exact absurd rfl (hv _)
    | (simp only [ev]; rw [h]; rfl)
/-- a range's list or tuple, from what follows -/
theorem rng1_imp {b : Bw} {u : E} {S : D → Prop} (R : Rel G Γ σ H) (lk : ∀ j ∈ lkB u, j ∉ Γ.ω) {P : Int → Int → Hp → Prop}
    (w : ((evI G.T cl mk (.rng1 u) Γ.ρ).bind fun l => if l.length ≤ big then walkD b l else .stuck).wp S (Rst G Γ.O H (W σ)))
    (f : ∀ a c H1, Grow G H H1 → Dr G H1 → RgOk a c → (walkD b (rng a (c - a).toNat)).wp S (Rst G Γ.O H (W σ)) → P a c H1) : tRg1 (tE G cl mk W true u) σ H P := by
  have w : (((ev G.T cl mk u Γ.ρ).bind fun x => match x with
    | .int j => if j ≤ big ∧ -(big : Int) ≤ j then .ok (rng 0 j.toNat) else .stuck
    | _ => .stuck).bind fun l => if l.length ≤ big then walkD b l else .stuck).wp S (Rst G Γ.O H (W σ)) := w
  rw [assoc] at w
  refine one_tE (RR := fun _ _ => True) (m := true) (a := u) R lk w fun d v H1 g dr s q => ?_
  cases d <;> (first | exact q.elim | skip)
  rename_i j
  obtain ⟨⟨h1, h2⟩, q⟩ := wp_if (Res.wp_bind.mp q)
  have q : (if (rng 0 j.toNat).length ≤ big then walkD b (rng 0 j.toNat) else .stuck).wp S (Rst G Γ.O H (W σ)) := q
  obtain ⟨h3, q⟩ := wp_if q
  have hb : big = 16777216 := rfl
  refine ⟨j, s.vw.int, f 0 j H1 g dr ⟨by omega, by omega, by omega, by omega, by omega⟩ ?_⟩
  rw [Int.sub_zero]
  exact q
theorem rng2_imp {b : Bw} {u v : E} {S : D → Prop} (R : Rel G Γ σ H) (lk : ∀ j ∈ lkB u ++ lkB v, j ∉ Γ.ω) {P : Int → Int → Hp → Prop}
    (w : ((evI G.T cl mk (.rng2 u v) Γ.ρ).bind fun l => if l.length ≤ big then walkD b l else .stuck).wp S (Rst G Γ.O H (W σ)))
    (f : ∀ a c H1, Grow G H H1 → Dr G H1 → RgOk a c → (walkD b (rng a (c - a).toNat)).wp S (Rst G Γ.O H (W σ)) → P a c H1) : tRg2 (tE G cl mk W true u) (tE G cl mk W true v) σ H P := by
  have w : (((ev G.T cl mk u Γ.ρ).bind fun x => (ev G.T cl mk v Γ.ρ).bind fun y => match x, y with
    | .int i, .int j => if j ≤ big ∧ -(big : Int) ≤ j ∧ i ≤ big ∧ -(big : Int) ≤ i then .ok (rng i (j - i).toNat) else .stuck
    | _, _ => .stuck).bind fun l => if l.length ≤ big then walkD b l else .stuck).wp S (Rst G Γ.O H (W σ)) := w
  rw [assoc] at w
  have w : ((ev G.T cl mk u Γ.ρ).bind fun x => (ev G.T cl mk v Γ.ρ).bind fun y => (match x, y with
    | .int i, .int j => if j ≤ big ∧ -(big : Int) ≤ j ∧ i ≤ big ∧ -(big : Int) ≤ i then .ok (rng i (j - i).toNat) else .stuck
    | _, _ => .stuck : Res (List D)).bind fun l => if l.length ≤ big then walkD b l else .stuck).wp S (Rst G Γ.O H (W σ)) := by
    have e : (fun x : D => ((ev G.T cl mk v Γ.ρ).bind fun y => match x, y with
      | .int i, .int j => if j ≤ big ∧ -(big : Int) ≤ j ∧ i ≤ big ∧ -(big : Int) ≤ i then .ok (rng i (j - i).toNat) else .stuck
      | _, _ => .stuck).bind fun l => if l.length ≤ big then walkD b l else .stuck) = fun x => (ev G.T cl mk v Γ.ρ).bind fun y => (match x, y with
      | .int i, .int j => if j ≤ big ∧ -(big : Int) ≤ j ∧ i ≤ big ∧ -(big : Int) ≤ i then .ok (rng i (j - i).toNat) else .stuck
      | _, _ => .stuck : Res (List D)).bind fun l => if l.length ≤ big then walkD b l else .stuck := funext fun x => assoc
    rw [← e]; exact w
  refine two_tE (m1 := true) (m2 := true) (a := u) (b := v) R (lk_l lk) (lk_r lk) w fun d e v u H1 g dr s1 s2 q => ?_
  cases d <;> (first | exact q.elim | skip)
  cases e <;> (first | exact q.elim | skip)
  rename_i i j
  obtain ⟨⟨h1, h2, h3, h4⟩, q⟩ := wp_if (Res.wp_bind.mp q)
  have q : (if (rng i (j - i).toNat).length ≤ big then walkD b (rng i (j - i).toNat) else .stuck).wp S (Rst G Γ.O H (W σ)) := q
  obtain ⟨h5, q⟩ := wp_if q
  have hb : big = 16777216 := rfl
  rw [rng_length] at h5
  exact ⟨i, j, s1.vw.int, s2.vw.int, f i j H1 g dr ⟨by omega, by omega, by omega, by omega, by omega⟩ q⟩
theorem pe_stuck {e : Ex} {t : TE} (h : ∀ σ H Q, t σ H Q → False) : PE X e t := ⟨fun _ _ _ _ _ _ q => (h _ _ _ q).elim⟩
theorem not_set {e : Ex} {env : PySem.Env} (h : isStar e = false) : starEach [e] env = [(false, eval e env)] := star_cons (es := []) h
/-- what they do with a value -/
theorem bw_main (C : Ck) (RK : X.K = G.K) (hw : X.w = G.w) (hc : X.calm = true) (hu : X.A.units + 100 < cLine) (free : ∀ x, C.free.contains x = true → X.mg x = none) (b : Bw) (i : It) (a : Ex) (p1 p : Pos) (sc : Scope) (m : Bool)
    (hk : chkI C sc i a = true) (hs : X.env.scope = sc) (hg : glB sc (wNames b) = true) (hf : C.free.contains (wNames b) = true) (hst : isStar a = false) (L : Lf G cl mk W X i a) : PE X (.Call (.Name (wNames b) p1) [a] [] p) (tE G cl mk W m (.bw b i)) := by
  subst hs
  have gl := gl_of hg
  have hm := free _ hf
  by_cases hv : ∃ e, i = .val e
  · obtain ⟨e, rfl⟩ := hv
    refine (pe_wcall (rule_w RK hw hc hu b) gl hm hst (L true)).imp fun σ H Q hq => ?_
    obtain ⟨Γ, R, lk, w⟩ := hq
    refine one_tE (RR := fun _ _ => True) (m := true) (a := e) R (lk_val lk) w fun d v H1 g dr s q => ?_
    obtain ⟨l, e1, q⟩ := Res.wp_ofOpt (Res.wp_bind.mp q)
    have o := R.out' g dr (Q := Q) (r := walkD b l) (Res.wp_mono (fun d k v H' g' d' s => k v H' g' d' (.of s)) (fun _ _ k => k) q)
    exact ⟨Γ.O, d, l, _, s.vw, e1, o.snk, walkD_wp o.2.2.2⟩
  · replace hv : ∀ e, i ≠ .val e := fun e z => hv ⟨e, z⟩
    cases hb : bwIt b i with
    | false => exact pe_stuck fun σ H Q ⟨Γ, R, lk, w⟩ => by rw [bw_bad hv hb] at w; exact w
    | true =>
      have key : ∀ {σ : L2.St} {H : Hp} {Q : VK}, tE G cl mk W m (.bw b i) σ H Q → ∃ Γ, Rel G Γ σ H ∧ (∀ j ∈ lkI i, j ∉ Γ.ω) ∧ ((evI G.T cl mk i Γ.ρ).bind fun l => if l.length ≤ big then walkD b l else .stuck).wp (Wt G Γ.O H m Q) (Rst G Γ.O H (W σ)) := fun ⟨Γ, R, lk, w⟩ => ⟨Γ, R, lk_it lk, by rw [bw_good hv hb] at w; exact w⟩
      have fin : ∀ {σ : L2.St} {H : Hp} {Q : VK} {Γ : Fr} {H1 : Hp} {l : List D}, Rel G Γ σ H → Grow G H H1 → Dr G H1 → (walkD b l).wp (Wt G Γ.O H m Q) (Rst G Γ.O H (W σ)) → Out G Γ.O H1 (W σ) (walkD b l) Q := fun R g dr q => R.out' g dr (Res.wp_mono (fun d k v H' g' d' s => k v H' g' d' (.of s)) (fun _ _ k => k) q)
      cases b <;> cases i <;> (first | exact absurd hb (show ¬ (false = true) from Bool.noConfusion) | skip) <;> clear hv
      · rename_i u
        cases a <;> (first | exact L.elim | skip)
        rename_i fn l kws pos
        match fn, l, kws, L, hk with
        | .Name x pn, [u'], [], L, hk =>
          obtain ⟨k1, k5⟩ := ands (show (x == ("range" : PySem.Str) && glB X.env.scope x && C.free.contains x && chk C X.env.scope u u' && !isStar u') = true from hk)
          obtain ⟨k1, k4⟩ := ands k1
          obtain ⟨k1, k3⟩ := ands k1
          obtain ⟨k1, k2⟩ := ands k1
          have ex : x = "range" := by simpa using k1
          subst ex
          refine (pe_listRg hc gl hm (prg_1 (gl_of k2) (free _ k3) (L true) (not_set (notB k5))) (not_set hst)).imp fun σ H Q hq => ?_
          obtain ⟨Γ, R, lk, w⟩ := key hq
          exact rng1_imp R lk w fun a c H1 g dr ok q => ⟨ok, fun p hp => (fin R g dr q).newLst (den_rg a c) hp⟩
      · rename_i u v
        cases a <;> (first | exact L.elim | skip)
        rename_i fn l kws pos
        match fn, l, kws, L, hk with
        | .Name x pn, [u', v'], [], L, hk =>
          obtain ⟨k1, k7⟩ := ands (show (x == ("range" : PySem.Str) && glB X.env.scope x && C.free.contains x && chk C X.env.scope u u' && chk C X.env.scope v v' && !isStar u' && !isStar v') = true from hk)
          obtain ⟨k1, k6⟩ := ands k1
          obtain ⟨k1, k5⟩ := ands k1
          obtain ⟨k1, k4⟩ := ands k1
          obtain ⟨k1, k3⟩ := ands k1
          obtain ⟨k1, k2⟩ := ands k1
          have ex : x = "range" := by simpa using k1
          subst ex
          have s1 := star_cons (es := [v']) (env := X.env) (notB k6)
          have s2 := not_set (env := X.env) (notB k7)
          refine (pe_listRg hc gl hm (prg_2 (gl_of k2) (free _ k3) (L true).1 (L true).2 s1 s2 (by rw [s2]; rfl)) (not_set hst)).imp fun σ H Q hq => ?_
          obtain ⟨Γ, R, lk, w⟩ := key hq
          exact rng2_imp R lk w fun a c H1 g dr ok q => ⟨ok, fun p hp => (fin R g dr q).newLst (den_rg a c) hp⟩
      · rename_i u
        cases a <;> (first | exact L.elim | skip)
        rename_i fn l kws pos
        match fn, l, kws, L, hk with
        | .Name x pn, [u'], [], L, hk =>
          obtain ⟨k1, k5⟩ := ands (show (x == ("range" : PySem.Str) && glB X.env.scope x && C.free.contains x && chk C X.env.scope u u' && !isStar u') = true from hk)
          obtain ⟨k1, k4⟩ := ands k1
          obtain ⟨k1, k3⟩ := ands k1
          obtain ⟨k1, k2⟩ := ands k1
          have ex : x = "range" := by simpa using k1
          subst ex
          refine (pe_tupRg hc gl hm (prg_1 (gl_of k2) (free _ k3) (L true) (not_set (notB k5))) (not_set hst)).imp fun σ H Q hq => ?_
          obtain ⟨Γ, R, lk, w⟩ := key hq
          exact rng1_imp R lk w fun a c H1 g dr ok q => ⟨ok, fun p hp => (fin R g dr q).newTup (den_rg a c) hp⟩
      · rename_i u v
        cases a <;> (first | exact L.elim | skip)
        rename_i fn l kws pos
        match fn, l, kws, L, hk with
        | .Name x pn, [u', v'], [], L, hk =>
          obtain ⟨k1, k7⟩ := ands (show (x == ("range" : PySem.Str) && glB X.env.scope x && C.free.contains x && chk C X.env.scope u u' && chk C X.env.scope v v' && !isStar u' && !isStar v') = true from hk)
          obtain ⟨k1, k6⟩ := ands k1
          obtain ⟨k1, k5⟩ := ands k1
          obtain ⟨k1, k4⟩ := ands k1
          obtain ⟨k1, k3⟩ := ands k1
          obtain ⟨k1, k2⟩ := ands k1
          have ex : x = "range" := by simpa using k1
          subst ex
          have s1 := star_cons (es := [v']) (env := X.env) (notB k6)
          have s2 := not_set (env := X.env) (notB k7)
          refine (pe_tupRg hc gl hm (prg_2 (gl_of k2) (free _ k3) (L true).1 (L true).2 s1 s2 (by rw [s2]; rfl)) (not_set hst)).imp fun σ H Q hq => ?_
          obtain ⟨Γ, R, lk, w⟩ := key hq
          exact rng2_imp R lk w fun a c H1 g dr ok q => ⟨ok, fun p hp => (fin R g dr q).newTup (den_rg a c) hp⟩
theorem none_back (g : Grow G H H') (dr : Dr G H') {p : Addr} (h : H' p = none) : H p = none := by
  cases e : H p with
  | none => rfl
  | some o =>
    by_cases z : p = G.dr
    · obtain ⟨k, _, q, _⟩ := dr
      rw [z, q] at h; cases h
    · rw [g p o z e] at h; cases h
theorem Wn.grow {d : D} (g : Grow G H H') (dr : Dr G H') (h : Wn G O H Q d) : Wn G O H' Q d := ⟨h.1, fun p H2 hp ho g2 d2 t => h.2 p H2 (none_back g dr hp) ho (g.trans g2) d2 t⟩
theorem Rel.outF (R : Rel G Γ σ H) {H1 : Hp} (g : Grow G H H1) (dr : Dr G H1) {r : Res D} {Q : VK} (h : r.wp (Wn G Γ.O H Q) (Rst G Γ.O H (W σ))) : OutF G Γ.O H1 (W σ) r Q :=
  ⟨R.drO, (R.grow g dr).live, dr, Res.wp_mono (fun d k => Wn.grow g dr k) (fun _ _ k => k.grow g) h⟩
theorem bwF_main (C : Ck) (RK : X.K = G.K) (hw : X.w = G.w) (hc : X.calm = true) (hu : X.A.units + 100 < cLine) (free : ∀ x, C.free.contains x = true → X.mg x = none) (b : Bw) (i : It) (a : Ex) (p1 p : Pos) (sc : Scope) (fr : fresh (.bw b i) = true)
    (hk : chkI C sc i a = true) (hs : X.env.scope = sc) (hg : glB sc (wNames b) = true) (hf : C.free.contains (wNames b) = true) (hst : isStar a = false) (L : Lf G cl mk W X i a) : PE X (.Call (.Name (wNames b) p1) [a] [] p) (tF G cl mk W (.bw b i)) := by
  have hn : isNewB b = true := by cases b <;> first | rfl | exact fr
  subst hs
  have gl := gl_of hg
  have hm := free _ hf
  by_cases hv : ∃ e, i = .val e
  · obtain ⟨e, rfl⟩ := hv
    refine (pe_wcall (rule_w RK hw hc hu b) gl hm hst (L true)).imp fun σ H Q hq => ?_
    obtain ⟨Γ, R, lk, w⟩ := hq
    refine one_tE (RR := fun _ _ => True) (m := true) (a := e) R (lk_val (m := false) (b := b) lk) w fun d v H1 g dr s q => ?_
    obtain ⟨l, e1, q⟩ := Res.wp_ofOpt (Res.wp_bind.mp q)
    have o := R.outF g dr (Q := Q) (r := walkD b l) q
    exact ⟨Γ.O, d, l, _, s.vw, e1, o.snk hn, walkD_wp o.2.2.2⟩
  · replace hv : ∀ e, i ≠ .val e := fun e z => hv ⟨e, z⟩
    cases hb : bwIt b i with
    | false => exact pe_stuck fun σ H Q ⟨Γ, R, lk, w⟩ => by rw [bw_bad hv hb] at w; exact w
    | true =>
      have key : ∀ {σ : L2.St} {H : Hp} {Q : VK}, tF G cl mk W (.bw b i) σ H Q → ∃ Γ, Rel G Γ σ H ∧ (∀ j ∈ lkI i, j ∉ Γ.ω) ∧ ((evI G.T cl mk i Γ.ρ).bind fun l => if l.length ≤ big then walkD b l else .stuck).wp (Wn G Γ.O H Q) (Rst G Γ.O H (W σ)) := fun ⟨Γ, R, lk, w⟩ => ⟨Γ, R, lk_it (m := false) (b := b) lk, by rw [bw_good hv hb] at w; exact w⟩
      have fin : ∀ {σ : L2.St} {H : Hp} {Q : VK} {Γ : Fr} {H1 : Hp} {l : List D}, Rel G Γ σ H → Grow G H H1 → Dr G H1 → (walkD b l).wp (Wn G Γ.O H Q) (Rst G Γ.O H (W σ)) → OutF G Γ.O H1 (W σ) (walkD b l) Q := fun R g dr q => R.outF g dr q
      cases b <;> cases i <;> (first | exact absurd hb (show ¬ (false = true) from Bool.noConfusion) | exact absurd fr (show ¬ (false = true) from Bool.noConfusion) | skip) <;> clear hv
      · rename_i u
        cases a <;> (first | exact L.elim | skip)
        rename_i fn l kws pos
        match fn, l, kws, L, hk with
        | .Name x pn, [u'], [], L, hk =>
          obtain ⟨k1, k5⟩ := ands (show (x == ("range" : PySem.Str) && glB X.env.scope x && C.free.contains x && chk C X.env.scope u u' && !isStar u') = true from hk)
          obtain ⟨k1, k4⟩ := ands k1
          obtain ⟨k1, k3⟩ := ands k1
          obtain ⟨k1, k2⟩ := ands k1
          have ex : x = "range" := by simpa using k1
          subst ex
          refine (pe_listRg hc gl hm (prg_1 (gl_of k2) (free _ k3) (L true) (not_set (notB k5))) (not_set hst)).imp fun σ H Q hq => ?_
          obtain ⟨Γ, R, lk, w⟩ := key hq
          exact rng1_imp R lk w fun a c H1 g dr ok q => ⟨ok, fun p hp => ((fin R g dr q).snk hn).lst _ (fin R g dr q).2.2.2 p _ hp (den_rg a c)⟩
      · rename_i u v
        cases a <;> (first | exact L.elim | skip)
        rename_i fn l kws pos
        match fn, l, kws, L, hk with
        | .Name x pn, [u', v'], [], L, hk =>
          obtain ⟨k1, k7⟩ := ands (show (x == ("range" : PySem.Str) && glB X.env.scope x && C.free.contains x && chk C X.env.scope u u' && chk C X.env.scope v v' && !isStar u' && !isStar v') = true from hk)
          obtain ⟨k1, k6⟩ := ands k1
          obtain ⟨k1, k5⟩ := ands k1
          obtain ⟨k1, k4⟩ := ands k1
          obtain ⟨k1, k3⟩ := ands k1
          obtain ⟨k1, k2⟩ := ands k1
          have ex : x = "range" := by simpa using k1
          subst ex
          have s1 := star_cons (es := [v']) (env := X.env) (notB k6)
          have s2 := not_set (env := X.env) (notB k7)
          refine (pe_listRg hc gl hm (prg_2 (gl_of k2) (free _ k3) (L true).1 (L true).2 s1 s2 (by rw [s2]; rfl)) (not_set hst)).imp fun σ H Q hq => ?_
          obtain ⟨Γ, R, lk, w⟩ := key hq
          exact rng2_imp R lk w fun a c H1 g dr ok q => ⟨ok, fun p hp => ((fin R g dr q).snk hn).lst _ (fin R g dr q).2.2.2 p _ hp (den_rg a c)⟩
end BB
end
section
set_option Elab.async false
set_option linter.all false
set_option maxRecDepth 100000
set_option maxHeartbeats 4000000
/-! What is walked, all of it. -/
namespace BB
open PySem PySem.Spec PyProof.Rows L2
variable {G : Gc} {C : Ck} {cl : Cal} {mk : Mak} {W : WS} {X : Cx} {Γ : Fr} {σ : L2.St} {H H' Hv : Hp} {Q : VK} {O : List Addr} {pins : List (Addr × Obj)} {s : Shared}
theorem pi_stuck {tg e : Ex} {t : TI} (h : ∀ σ H R, t σ H R → False) : PI X tg e t := ⟨fun _ _ _ _ _ _ q => (h _ _ _ q).elim⟩
theorem tgOk_tup {i : It} {tg : Ex} (h : tgOk i tg = true) (k : ∀ t, tgOk i t = true → ∃ es n p, t = .Tuple es n p) : ∃ es n p, tg = .Tuple es n p := k tg h
theorem tg_enum {i : It} {tg : Ex} (h : tgOk (.enum i) tg = true) : ∃ es n p, tg = .Tuple es n p := by
  cases tg <;> first | exact ⟨_, _, _, rfl⟩ | exact absurd h (show ¬ (false = true) from Bool.noConfusion)
theorem tg_zip2 {i j : It} {tg : Ex} (h : tgOk (.zip2 i j) tg = true) : ∃ es n p, tg = .Tuple es n p := by
  cases tg <;> first | exact ⟨_, _, _, rfl⟩ | exact absurd h (show ¬ (false = true) from Bool.noConfusion)
theorem tg_items {e : E} {tg : Ex} (h : tgOk (.items e) tg = true) : ∃ es n p, tg = .Tuple es n p := by
  cases tg <;> first | exact ⟨_, _, _, rfl⟩ | exact absurd h (show ¬ (false = true) from Bool.noConfusion)
theorem it_main (C : Ck) (RK : X.K = G.K) (free : ∀ x, C.free.contains x = true → X.mg x = none) (i : It) (src tg : Ex) (sc : Scope) (m : Bool) (ht : tgOk i tg = true) (hk : chkI C sc i src = true) (hs : X.env.scope = sc) (L : Lf G cl mk W X i src) : PI X tg src (tI G cl mk W m i) := by
  subst hs
  cases i with
  | val e => exact it_val RK (L m)
  | rng1 a =>
    cases src <;> (first | exact L.elim | skip)
    rename_i fn l kws pos
    match fn, l, kws, L, hk with
    | .Name x pn, [u], [], L, hk =>
      obtain ⟨k1, k5⟩ := ands (show (x == ("range" : PySem.Str) && glB X.env.scope x && C.free.contains x && chk C X.env.scope a u && !isStar u) = true from hk)
      obtain ⟨k1, k4⟩ := ands k1
      obtain ⟨k1, k3⟩ := ands k1
      obtain ⟨k1, k2⟩ := ands k1
      have ex : x = "range" := by simpa using k1
      subst ex
      exact it_rng1 (gl_of k2) (free _ k3) (notB k5) (L true)
  | rng2 a b =>
    cases src <;> (first | exact L.elim | skip)
    rename_i fn l kws pos
    match fn, l, kws, L, hk with
    | .Name x pn, [u, v], [], L, hk =>
      obtain ⟨k1, k7⟩ := ands (show (x == ("range" : PySem.Str) && glB X.env.scope x && C.free.contains x && chk C X.env.scope a u && chk C X.env.scope b v && !isStar u && !isStar v) = true from hk)
      obtain ⟨k1, k6⟩ := ands k1
      obtain ⟨k1, k5⟩ := ands k1
      obtain ⟨k1, k4⟩ := ands k1
      obtain ⟨k1, k3⟩ := ands k1
      obtain ⟨k1, k2⟩ := ands k1
      have ex : x = "range" := by simpa using k1
      subst ex
      exact it_rng2 (gl_of k2) (free _ k3) (notB k6) (notB k7) (L true).1 (L true).2
  | rng3 a b c =>
    cases src <;> (first | exact L.elim | skip)
    rename_i fn l kws pos
    match fn, l, kws, L, hk with
    | .Name x pn, [u, v, t], [], L, hk =>
      obtain ⟨k1, k9⟩ := ands (show (x == ("range" : PySem.Str) && glB X.env.scope x && C.free.contains x && chk C X.env.scope a u && chk C X.env.scope b v && chk C X.env.scope c t && !isStar u && !isStar v && !isStar t) = true from hk)
      obtain ⟨k1, k8⟩ := ands k1
      obtain ⟨k1, k7⟩ := ands k1
      obtain ⟨k1, k6⟩ := ands k1
      obtain ⟨k1, k5⟩ := ands k1
      obtain ⟨k1, k4⟩ := ands k1
      obtain ⟨k1, k3⟩ := ands k1
      obtain ⟨k1, k2⟩ := ands k1
      have ex : x = "range" := by simpa using k1
      subst ex
      exact it_rng3 (gl_of k2) (free _ k3) (notB k7) (notB k8) (notB k9) (L true).1 (L true).2.1 (L true).2.2
  | enum j =>
    cases src <;> (first | exact L.elim | skip)
    rename_i fn l kws pos
    obtain ⟨es, n, tp, rfl⟩ := tg_enum ht
    match fn, l, kws, L, hk with
    | .Name x pn, [u], [], L, hk =>
      obtain ⟨k1, k5⟩ := ands (show (x == ("enumerate" : PySem.Str) && glB X.env.scope x && C.free.contains x && chkI C X.env.scope j u && !isStar u) = true from hk)
      obtain ⟨k1, k4⟩ := ands k1
      obtain ⟨k1, k3⟩ := ands k1
      obtain ⟨k1, k2⟩ := ands k1
      have ex : x = "enumerate" := by simpa using k1
      subst ex
      cases j with
      | val e => exact it_enum RK (gl_of k2) (free _ k3) (notB k5) (L m)
      | _ => exact pi_stuck fun σ H R ⟨Γ, R, lk, w⟩ => by simp only [evI] at w; exact w
  | zip2 i j =>
    cases src <;> (first | exact L.elim | skip)
    rename_i fn l kws pos
    obtain ⟨es, n, tp, rfl⟩ := tg_zip2 ht
    match fn, l, kws, L, hk with
    | .Name x pn, [u, v], [], L, hk =>
      obtain ⟨k1, k7⟩ := ands (show (x == ("zip" : PySem.Str) && glB X.env.scope x && C.free.contains x && chkI C X.env.scope i u && chkI C X.env.scope j v && !isStar u && !isStar v) = true from hk)
      obtain ⟨k1, k6⟩ := ands k1
      obtain ⟨k1, k5⟩ := ands k1
      obtain ⟨k1, k4⟩ := ands k1
      obtain ⟨k1, k3⟩ := ands k1
      obtain ⟨k1, k2⟩ := ands k1
      have ex : x = "zip" := by simpa using k1
      subst ex
      cases i with
      | val a =>
        cases j with
        | val b => exact it_zip2 RK (gl_of k2) (free _ k3) (notB k6) (notB k7) (L.1 m) (L.2 m)
        | _ => exact pi_stuck fun σ H R ⟨Γ, R, lk, w⟩ => by simp only [evI] at w; exact w
      | _ => exact pi_stuck fun σ H R ⟨Γ, R, lk, w⟩ => by simp only [evI] at w; exact w
  | zip3 i j k => exact pi_stuck fun σ H R ⟨Γ, R, lk, w⟩ => by simp only [evI] at w; exact w
  | items e =>
    cases src <;> (first | exact L.elim | skip)
    rename_i fn l kws pos
    obtain ⟨es, n, tp, rfl⟩ := tg_items ht
    match fn, l, kws, L, hk with
    | .Attribute v x ap, [], [], L, hk =>
      obtain ⟨k1, k4⟩ := ands (show (x == ("items" : PySem.Str) && chk C X.env.scope e v && attOk v && oneLine ap pos) = true from hk)
      obtain ⟨k1, k3⟩ := ands k1
      obtain ⟨k1, k2⟩ := ands k1
      have ex : x = "items" := by simpa using k1
      subst ex
      exact it_items k3 k4 (L m)
  | values e =>
    cases src <;> (first | exact L.elim | skip)
    rename_i fn l kws pos
    match fn, l, kws, L, hk with
    | .Attribute v x ap, [], [], L, hk =>
      obtain ⟨k1, k4⟩ := ands (show (x == ("values" : PySem.Str) && chk C X.env.scope e v && attOk v && oneLine ap pos) = true from hk)
      obtain ⟨k1, k3⟩ := ands k1
      obtain ⟨k1, k2⟩ := ands k1
      have ex : x = "values" := by simpa using k1
      subst ex
      exact it_values k3 k4 (L m)
end BB
end
section
set_option Elab.async false
set_option linter.all false
set_option maxRecDepth 100000
set_option maxHeartbeats 4000000
/-! What a program's facts give: all rules, in every frame. -/
namespace BB
open PySem PySem.Spec PyProof.Rows L2
variable {G : Gc} {C : Ck} {cl : Cal} {mk : Mak}
/-- the facts of a program's top -/
structure Pg (G : Gc) (C : Ck) : Prop where
  nm : G.nm = C.nm
  inj : C.nm.Nodup
  nmne : ∀ (f : Nat) (x : PySem.Str), C.nm[f]? = some x → x ≠ (⟨#[]⟩ : PySem.Str)
  free : ∀ x, C.free.contains x = true → G.mg x = none
  cons : ∀ x d, C.cons.lookup x = some d → (∃ i t, d = .int i ∧ G.mg x = some (.int i t)) ∨ (∃ y t, d = .str y ∧ G.mg x = some (.str y t)) ∨ ((∀ i, d ≠ .int i) ∧ ∀ y, d ≠ .str y)
  cls : ∀ x c, C.cls.lookup x = some c → G.mg x = some (.ref (G.cad c)) ∧ PySem.W.keepIn G.K (.ref (G.cad c)) = true
  fn : ∀ x f, C.fns.lookup x = some f → G.mg x = some (.ref (G.fad f)) ∧ PySem.W.keepIn G.K (.ref (G.fad f)) = true
  ins : ∀ c, c < G.T.cls.length → Cls G.K (G.cad c)
  noat : ∀ c f, G.T.noMeth c f = true → NoAttr G.K (G.cad c) (name G f)
  cad : ∀ c d, c < G.T.cls.length → d < G.T.cls.length → G.cad c = G.cad d → c = d
  sps : Sps G G.K
  isi : Isi G C G.K G.mg
  meth : ∀ c m k, ((G.T.cls[c]?).map Cl.ms).bind (List.lookup m) = some k → Meth G.K (G.cad c) (name G m) (G.fad k) ∧ ∃ x, C.nm[m]? = some x
  tmg : ∃ a, G.mg "_law_take" = some (.ref a) ∧ PySem.W.keepIn G.K (.ref a) = true
/-- a frame over the program's top, k calls deep at most from here -/
structure CxB (G : Gc) (k : Nat) (X : Cx) : Prop where
  prog : X.prog = G.P
  w : X.w = G.w
  K : X.K = G.K
  mg : X.mg = G.mg
  base : X.base = G.base
  calm : X.calm = true
  room : Room k X.A
  nd : X.N.Nodup
  kind : X.env.scope.kind = .function
/-- what becomes of exceptions -/
def Exc (X : Cx) (W : WS) : Prop := (∀ σ c d H, ¬ W σ c d H) ∨ ∃ Ek : XK, W = KE Ek ∧ Takes X (fun c d _ H => Ek c d H)
structure CxO (G : Gc) (N : List PySem.Str) (k : Nat) (X : Cx) (W : WS) : Prop where
  b : CxB G k X
  N : X.N = N
  exc : Exc X W
abbrev FnG (G : Gc) (k : Nat) (f : Addr) (r : List D → Res D) : Prop := FnR G.P G.w G.K G.mg G.base (L2.CX G.P G.w) k f (spC G r)
/-- a class makes its instances -/
def MkG (G : Gc) (k : Nat) (c : Nat) (r : List D → Res D) : Prop := ∀ X W, CxB G k X → Exc X W → VCall G X W (.ref (G.cad c)) r
theorem exc_pass {X : Cx} {W : WS} {σ : L2.St} (h : Exc X W) : Passes (L2.CX X.prog X.w) X (W σ) := by
  rcases h with h | ⟨Ek, rfl, tk⟩
  · rintro pins σ' H s e s' I ⟨_, _, _, _, _, _, _, _, _, _, _, _, z⟩
    exact (h _ _ _ _ z).elim
  · exact passes_call tk fun _ _ _ _ z => z
theorem vcall_of {k : Nat} {f : Addr} {r : List D → Res D} {X : Cx} {W : WS} (F : FnG G k f r) (b : CxB G k X) (e : Exc X W) : VCall G X W (.ref f) r := by
  have F : FnR X.prog X.w X.K X.mg X.base (L2.CX X.prog X.w) k f (spC G r) := by rw [b.prog, b.w, b.K, b.mg, b.base]; exact F
  intro pins s σ H vs us Q I rv h
  refine wpAny_call (codeAny_mono (run_fnR F b.room (exc_pass (σ := σ) e) I rv h) fun r s' hq => ?_)
  cases r with
  | error e => exact hq
  | ok fl => cases fl <;> first | exact hq | exact hq.elim
theorem rl_of (P : Pg G C) {k : Nat} {X : Cx} {W : WS} (h : CxO G C.N (k + 1) X W) (F : ∀ f, FnG G k (G.fad f) (cl f)) : Rl G cl C X := by
  have b := h.b
  have hr : Room (k + 1) X.A := b.room
  have hu : X.A.units + 100 < cLine := by have := hr.un; omega
  have S : Sps G X.K := by rw [b.K]; exact P.sps
  have FC : ∀ f, FnC G X k f (cl f) := fun f => by
    show FnR X.prog X.w X.K X.mg X.base (L2.CX X.prog X.w) k (G.fad f) (spC G (cl f))
    rw [b.prog, b.w, b.K, b.mg, b.base]; exact F f
  have Is : Isi G C X.K X.mg := by rw [b.K, b.mg]; exact P.isi
  exact {
    N := h.N, K := b.K, calm := b.calm, w := b.w, room := hu, nd := b.nd, kind := b.kind
    free := fun x hx => by rw [b.mg]; exact P.free x hx
    nm := P.nm, inj := P.inj
    cons := fun x d hx => by rw [b.mg]; exact P.cons x d hx
    bin := fun op => op_bin b.K op
    binF := fun op ho => op_binF b.K op ho
    cmp := fun op => cmp_rule S b.K b.w hr FC op
    idx := ix_rule b.K b.w hu
    slc := sl_rule b.K
    tru := tru_rule S b.K (hr.mono (Nat.le_succ k)) FC
    bi := fun bb => bi_rule b.K b.calm bb
    cls := fun x c hx => by rw [b.mg, b.K]; exact P.cls x c hx
    ins := fun c hc => by rw [b.K]; exact P.ins c hc
    noat := fun c f hf => by rw [b.K]; exact P.noat c f hf
    cad := P.cad
    nmne := P.nmne
    bm := fun m o l ap p to ta h1 h2 h3 h4 h5 h6 h7 => bm_rule b.K b.w hu m o l ap p to ta h1 h2 h3 h4 h5 h6 h7
    isi := fun ts v t p1 p tv sc h1 h2 h3 h4 h5 h6 => isi_rule Is b.K ts v t p1 p tv sc h1 h2 h3 h4 h5 h6 }
theorem rlW_of (P : Pg G C) {k : Nat} {X : Cx} {W : WS} (h : CxO G C.N (k + 1) X W) (F : ∀ f, FnG G k (G.fad f) (cl f)) (M : ∀ c, MkG G (k + 1) c (mk c)) (ta : Addr) (hta : G.mg "_law_take" = some (.ref ta) ∧ PySem.W.keepIn G.K (.ref ta) = true) (Tk : C.tk = true → FnG G k ta takeR) : RlW G cl mk C W X := by
  have b := h.b
  have hr : Room (k + 1) X.A := b.room
  have hu : X.A.units + 100 < cLine := by have := hr.un; omega
  have fr : ∀ x, C.free.contains x = true → X.mg x = none := fun x hx => by rw [b.mg]; exact P.free x hx
  have bk : CxB G k X := ⟨b.prog, b.w, b.K, b.mg, b.base, b.calm, hr.mono (Nat.le_succ k), b.nd, b.kind⟩
  exact {
    it := fun i src tg sc m h1 h2 h3 h4 => it_main C b.K fr i src tg sc m h1 h2 h3 h4
    bw := fun bb i a p1 p sc m h1 h2 h3 h4 h5 h6 => bw_main C b.K b.w b.calm hu fr bb i a p1 p sc m h1 h2 h3 h4 h5 h6
    bwF := fun bb i a p1 p sc h1 h2 h3 h4 h5 h6 h7 => bwF_main C b.K b.w b.calm hu fr bb i a p1 p sc h7 h1 h2 h3 h4 h5 h6
    fn := fun x f hx => by rw [b.mg, b.K]; exact P.fn x f hx
    call := fun f => vcall_of (F f) bk h.exc
    make := fun c => M c X W b h.exc
    meth := fun c m kk hm => by rw [b.K]; exact P.meth c m kk hm
    take := fun ck u v p1 p tu tv hu' hv hg h1 h2 => by
      have V := vcall_of (Tk ck) bk h.exc
      have s1 := star_cons (es := [v]) (env := X.env) h1
      have s2 := star_cons (es := []) (env := X.env) h2
      refine (pe_callV (x := "_law_take") V (gl_of hg) (by rw [b.mg]; exact hta.1) (by rw [b.K]; exact hta.2) (pa_cons hu' (pa_cons hv pa_nil s2) s1) (by decide) (by rw [List.any_cons, List.any_cons, h1, h2]; rfl) (fun _ _ _ z => by cases z)).imp fun σ H Q hq => ?_
      exact hq }
end BB
end
section
set_option Elab.async false
set_option linter.all false
set_option maxRecDepth 100000
set_option maxHeartbeats 4000000
/-! Defs keep what the interpreter says of them. -/
namespace BB
open PySem PySem.Spec PyProof.Rows L2
variable {G : Gc} {C : Ck} {cl : Cal} {mk : Mak}
/-- the def at a is F -/
structure Def (G : Gc) (C : Ck) (a : Addr) (F : Fn) : Prop where
  ex : ∃ (x qual : PySem.Str) (params : Arguments) (body : List Stmt) (scope : Scope) (dvs : List V) (kws : List (PySem.Str × V)) (fd : FuncData) (N ps : List PySem.Str),
    FunD G.K x qual params body scope dvs kws a fd ∧ FnScope N ps scope ∧ ps.length = F.np ∧ N.length = F.ns ∧ chkSs { C with N := N } scope F.body body = true ∧
    Binds G.K fd ps [] ∧ (F.dfl = [] ∨ (F.dfl.length = 1 ∧ (∀ Hv, DenL G Hv F.dfl dvs) ∧ ∃ ds, Vals dvs ds ∧ Binds G.K fd ps ds))
theorem Pg.on (P : Pg G C) (N : List PySem.Str) : Pg G { C with N := N } := ⟨P.nm, P.inj, P.nmne, P.free, P.cons, P.cls, P.fn, P.ins, P.noat, P.cad, P.sps, ⟨P.isi.lt, P.isi.cls, P.isi.free, P.isi.own, P.isi.one⟩, P.meth, P.tmg⟩
/-- a def with all its arguments -/
def bodyR (T : Tb) (cl : Cal) (mk : Mak) (F : Fn) (ds : List D) : Res D :=
  if ds.length = F.np ∧ F.np ≤ F.ns then (exs T cl mk F.body (begin_ F ds) []).bind fun fl => match fl with
    | .rt d _ _ => .ok d
    | .nx _ _ => .ok .non
    | _ => .stuck
  else .stuck
theorem callF_eq (T : Tb) (F : Fn) (as : List D) : callF T cl mk F as = bodyR T cl mk F (F.fill as) := rfl
theorem cx_blk {k : Nat} {N : List PySem.Str} : ∀ (X : Cx) (W : WS) s H scope cells D fp own, CxO G N k X W → BlkOk X.N X.env.scope scope own → CxO G N k (X.blk s H scope (compEnvC scope cells D X.env) fp) (fun _ _ _ _ => False) := fun X W s H scope cells D fp own hx ok =>
  ⟨⟨hx.b.prog, hx.b.w, hx.b.K, hx.b.mg, hx.b.base, hx.b.calm, hx.b.room, hx.b.nd, ok.kind⟩, hx.N, .inl fun _ _ _ _ z => z⟩
theorem wp_bindF {α β : Type} {f : α → Res β} {Q : β → Prop} {R : Nat → Fs → Prop} {S : α → Prop} {r : Res α} (h : (r.bind f).wp Q R) (i : ∀ a, (f a).wp Q R → S a) : r.wp S R := Res.wp_mono i (fun _ _ z => z) (Res.wp_bind.mp h)
/-- the frame as a def begins -/
theorem rel_begin {H : Hp} {O : List Addr} {ds : List D} {vs : List V} {F : Fn} {N : List PySem.Str} (dl : DenL G (hid O H) ds vs) (ho : G.dr ∈ O) (hl : ∀ a ∈ O, ∃ o, H a = some o) (dr : Dr G H) (h1 : ds.length = F.np) (h2 : F.np ≤ F.ns) (hN : N.length = F.ns) :
    Rel G { H0 := H, O0 := O, O := O, ω := [], ρ := begin_ F ds } (L2.start N vs) H where
  gr := Grow.refl H
  dr := dr
  drO := ho
  sub := fun _ h => h
  low := hl
  new := fun _ h => .inl h
  live := hl
  len := by
    have := dl.length
    unfold begin_ L2.start
    rw [List.length_append, List.length_append, List.length_map, List.length_map, List.length_replicate, List.length_replicate]
    omega
  val := fun i d _ e => by
    unfold begin_ at e
    have hi : i < ds.length := by
      by_cases hi : i < ds.length
      · exact hi
      · rw [List.getElem?_append_right (by simpa using hi), List.getElem?_replicate] at e
        split at e <;> cases e
    rw [List.getElem?_append_left (by simpa using hi), List.getElem?_map] at e
    obtain ⟨d', e1, e2⟩ := Option.map_eq_some_iff.mp e
    cases e2
    obtain ⟨v, k1, k2⟩ := dl.get e1
    refine ⟨v, ?_, k2⟩
    unfold L2.start
    rw [List.getElem?_append_left (by rw [List.length_map, dl.length]; exact hi), List.getElem?_map, k1]
    rfl
  own := fun i hi => by cases hi
  inj := fun i hi => by cases hi
  self := fun a c fs e => by cases e
theorem def_body (P : Pg G C) {k : Nat} (Fc : ∀ f, FnG G k (G.fad f) (cl f)) (M : ∀ c, MkG G (k + 1) c (mk c)) (ta : Addr) (hta : G.mg "_law_take" = some (.ref ta) ∧ PySem.W.keepIn G.K (.ref ta) = true) (Tk : C.tk = true → FnG G k ta takeR)
    {N ps : List PySem.Str} {scope : Scope} {F : Fn} {body : List Stmt} (S : FnScope N ps scope) (hc : chkSs { C with N := N } scope F.body body = true) {X : Cx} {E : XK} (b : CxB G (k + 1) X) (hN : X.N = N) (hs : X.env.scope = scope) (hf : ∀ x, X.fn x = true) (tk : Takes X (fun c d _ H => E c d H)) (own : PassesOwn (model X.prog X.w) X.A X.env X.xe) : PSs X body (tSs G cl mk E F.body) := by
  have hx : CxO G N (k + 1) X (KE E) := ⟨b, hN, .inr ⟨E, rfl, tk⟩⟩
  exact sSs (C := { C with N := N }) (Ek := E) (CxO G N (k + 1)) (fun X W s H scope cells D fp own hx ok => cx_blk X W s H scope cells D fp own hx ok) (fun X W hx => rl_of (C := { C with N := N }) (P.on N) hx Fc) (fun X W hx => rlW_of (C := { C with N := N }) (P.on N) hx Fc M ta hta Tk) F.body body scope hc X hx
    ⟨hs, fun x _ => hf x, own⟩
theorem fn_full (P : Pg G C) {k : Nat} (Fc : ∀ f, FnG G k (G.fad f) (cl f)) (M : ∀ c, MkG G (k + 1) c (mk c)) (ta : Addr) (hta : G.mg "_law_take" = some (.ref ta) ∧ PySem.W.keepIn G.K (.ref ta) = true) (Tk : C.tk = true → FnG G k ta takeR)
    {x qual : PySem.Str} {params : Arguments} {body : List Stmt} {scope : Scope} {dvs : List V} {kws : List (PySem.Str × V)} {a : Addr} {fd : FuncData} {N ps : List PySem.Str} {F : Fn} (FD : FunD G.K x qual params body scope dvs kws a fd) (S : FnScope N ps scope) (h1 : ps.length = F.np) (h2 : N.length = F.ns)
    (hc : chkSs { C with N := N } scope F.body body = true) : FnOk G.P G.w G.K G.mg G.base (L2.CX G.P G.w) (k + 2) a fd ps (fun vs H Q E => vs.length = ps.length ∧ ∃ O ds, DenL G (hid O H) ds vs ∧ Out G O H E (bodyR G.T cl mk F ds) Q) := by
  refine FD.ok S (fun vs H Q E h => h.1) fun cdv A outer s H vs Q E hr ⟨hl, O, ds, dl, ho, hlv, dr, w⟩ => ?_
  refine ⟨tSs G cl mk E F.body, def_body P Fc M ta hta Tk S hc ⟨rfl, rfl, rfl, rfl, rfl, rfl, hr, S.nd, S.kind⟩ rfl rfl (fun _ => rfl) (takes_of rfl rfl rfl rfl) (passes_of rfl), ?_⟩
  unfold bodyR at w
  split at w
  · rename_i hlen
    refine ⟨_, rel_begin dl ho hlv dr hlen.1 hlen.2 h2, Res.wp_mono (fun fl h => ?_) (fun c fs h => h) (Res.wp_bind.mp w)⟩
    cases fl with
    | nx ρ ω => exact fun O' σ' H' R => h .non H' R.gr R.dr rfl
    | rt d ρ ω => exact fun O' σ' H' v R dv => h v H' R.gr R.dr (dv.mono (hid_mono R.sub))
    | bk ρ ω => exact h.elim
    | ct ρ ω => exact h.elim
  · exact w.elim
theorem fn_step (P : Pg G C) {k : Nat} (Fc : ∀ f, FnG G k (G.fad f) (cl f)) (M : ∀ c, MkG G (k + 1) c (mk c)) (ta : Addr) (hta : G.mg "_law_take" = some (.ref ta) ∧ PySem.W.keepIn G.K (.ref ta) = true) (Tk : C.tk = true → FnG G k ta takeR)
    {a : Addr} {F : Fn} (DF : Def G C a F) : FnG G (k + 2) a (callF G.T cl mk F) := by
  obtain ⟨x, qual, params, body, scope, dvs, kws, fd, N, ps, FD, S, h1, h2, hc, b0, hd⟩ := DF.ex
  have FO := fn_full P Fc M ta hta Tk FD S h1 h2 hc
  intro A outer s H us vs Q E hr e0 r ⟨O, ds, dl, o1, o2, o3, w⟩
  rw [callF_eq] at w
  have hlen : (F.fill ds).length = F.np := by
    unfold bodyR at w
    split at w
    · rename_i h; exact h.1
    · exact w.elim
  have all : ∀ {us2 : List Value} {vs2 : List V}, F.fill ds = ds → codeAny (model G.P G.w) A (.call (.ref a) ⟨us, []⟩) (CR (L2.CX G.P G.w) outer G.P G.w H s Q E) s := fun e => by
    rw [e] at w hlen
    refine FO.raw b0 .nil A outer s H us vs Q E hr e0 r ?_
    dsimp only
    rw [List.append_nil]
    exact ⟨by rw [dl.length, h1]; exact hlen, O, ds, dl, o1, o2, o3, w⟩
  rcases hd with h | ⟨l1, dd, ds2, vd, bd⟩
  · refine all (us2 := us) (vs2 := vs) ?_
    unfold Fn.fill
    rw [h, List.drop_nil, List.append_nil]
  · by_cases hq : F.np ≤ ds.length
    · refine all (us2 := us) (vs2 := vs) ?_
      unfold Fn.fill
      rw [List.drop_eq_nil_of_le (by omega), List.append_nil]
    · have e : F.fill ds = ds ++ F.dfl := by
        unfold Fn.fill
        rw [show F.dfl.length - (F.np - ds.length) = 0 from by omega, List.drop_zero]
      rw [e] at w hlen
      refine FO.raw bd vd A outer s H us vs Q E hr e0 r ?_
      have da := dl.app (dd (hid O H))
      exact ⟨by rw [da.length, h1]; exact hlen, O, ds ++ F.dfl, da, o1, o2, o3, w⟩
/-! classes -/
/-- an instance's frame as __init__ begins -/
theorem rel_me {H1 : Hp} {O : List Addr} {ds : List D} {vs : List V} {F : Fn} {N : List PySem.Str} {x dx : Addr} {c : Nat} (dl : DenL G (hid O H1) ds vs) (ho : G.dr ∈ O) (hl : ∀ a ∈ O, ∃ o, H1 a = some o) (dr : Dr G H1) (hx : H1 x = none) (h1 : ds.length + 1 = F.np) (h2 : F.np ≤ F.ns) (hN : N.length = F.ns) :
    Rel G { H0 := H1, O0 := O, O := x :: O, ω := [0], ρ := some (.me c []) :: ds.map some ++ List.replicate (F.ns - F.np) none, me := some x } (L2.start N (.ref x :: vs)) (upd H1 x (.ins (G.cad c) dx [])) where
  gr := Grow.new hx
  dr := dr_new dr hx
  drO := List.mem_cons_of_mem _ ho
  sub := fun _ h => List.mem_cons_of_mem _ h
  low := hl
  new := fun a h => by
    rcases List.mem_cons.mp (show a ∈ x :: O from h) with e | e
    · exact .inr (e ▸ hx)
    · exact .inl e
  live := fun a h => by
    by_cases e : a = x
    · subst e; exact ⟨_, upd_same⟩
    · rcases List.mem_cons.mp (show a ∈ x :: O from h) with q | q
      · exact absurd q e
      · rw [upd_ne e]; exact hl a q
  len := by
    have := dl.length
    unfold L2.start
    show (some (D.me c []) :: ds.map some ++ List.replicate (F.ns - F.np) none).length = _
    simp only [List.length_append, List.length_cons, List.length_map, List.length_replicate, List.map_cons, List.cons_append]
    omega
  val := fun i d hi e => by
    have hi : i ≠ 0 := fun z => hi (by rw [z]; exact List.mem_singleton.mpr rfl)
    obtain ⟨j, rfl⟩ : ∃ j, i = j + 1 := ⟨i - 1, by omega⟩
    have e : (ds.map some ++ List.replicate (F.ns - F.np) none)[j]? = some (some d) := e
    have hj : j < ds.length := by
      by_cases hj : j < ds.length
      · exact hj
      · rw [List.getElem?_append_right (by simpa using hj), List.getElem?_replicate] at e
        split at e <;> cases e
    rw [List.getElem?_append_left (by simpa using hj), List.getElem?_map] at e
    obtain ⟨d', e1, e2⟩ := Option.map_eq_some_iff.mp e
    cases e2
    obtain ⟨v, k1, k2⟩ := dl.get e1
    refine ⟨v, ?_, ?_⟩
    · unfold L2.start
      show (vs.map some ++ _)[j]? = _
      rw [List.getElem?_append_left (by rw [List.length_map, dl.length]; exact hj), List.getElem?_map, k1]
      rfl
    · show Den G (hid (x :: O) (upd H1 x _)) d v
      rw [hid_upd]
      exact k2.mono (hid_cons hx)
  own := fun i hi => by
    obtain rfl : i = 0 := List.mem_singleton.mp hi
    refine ⟨.me c [], x, rfl, rfl, List.mem_cons_self, fun z => ?_, hx, ?_⟩
    · obtain ⟨o, q⟩ := hl _ ho
      rw [← z, hx] at q
      cases q
    · rw [upd_same]
      exact ⟨rfl, dx, [], rfl, rfl⟩
  inj := fun i hi j hj _ => by
    obtain rfl : i = 0 := List.mem_singleton.mp hi
    obtain rfl : j = 0 := List.mem_singleton.mp hj
    rfl
  self := fun a c' fs e _ _ => by
    cases e
    rfl
/-- behind __init__: the instance -/
theorem me_end {H1 H' : Hp} {O O' : List Addr} {x : Addr} {ω : List Nat} {ρ ρ0 : Env} {ω0 : List Nat} {O1 : List Addr} {σ' : L2.St} {k : Nat} {fs : Fs} (hl : ∀ a ∈ O, ∃ o, H1 a = some o) (hx : H1 x = none)
    (R : Rel G (({ H0 := H1, O0 := O, O := O1, ω := ω0, ρ := ρ0, me := some x } : Fr).on O' ω ρ) σ' H') (h0 : ω.contains 0 = true) (hρ : ρ[0]? = some (some (.me k fs))) : Den G (hid O H') (.ins k fs) (.ref x) := by
  have h0 : 0 ∈ ω := by simpa using h0
  have s := R.self x k fs rfl h0 hρ
  obtain ⟨d, p, e1, e2, e3, e4, e5, e6⟩ := R.own 0 h0
  have e1 : ρ[0]? = some (some d) := e1
  rw [hρ] at e1
  cases e1
  rw [s] at e2
  cases e2
  have nx : x ∉ O := fun z => by
    obtain ⟨o, q⟩ := hl x z
    rw [hx] at q; cases q
  have t := e6.mono (hid_mono (H := H') (O' := O) R.sub)
  rw [show H' x = hid O H' x from (hid_out nx).symm] at t
  exact t.den
def spM (G : Gc) (cl : Cal) (mk : Mak) (ps : List PySem.Str) (c : Nat) (F : Fn) : Sp := fun vs H Q E => vs.length = ps.length ∧ ∃ O ds y dy H1 vs', vs = .ref y :: vs' ∧ H = upd H1 y (.ins (G.cad c) dy []) ∧ H1 y = none ∧ DenL G (hid O H1) ds vs' ∧
      G.dr ∈ O ∧ (∀ a ∈ O, ∃ o, H1 a = some o) ∧ Dr G H1 ∧ (makF G.T cl mk c F ds).wp (fun d => ∀ H', Grow G H1 H' → Dr G H' → Den G (hid O H') d (.ref y) → Q .non H') (Rst G O H1 E)
theorem init_ok (P : Pg G C) {k : Nat} (Fc : ∀ f, FnG G k (G.fad f) (cl f)) (M : ∀ c, MkG G (k + 1) c (mk c)) (ta : Addr) (hta : G.mg "_law_take" = some (.ref ta) ∧ PySem.W.keepIn G.K (.ref ta) = true) (Tk : C.tk = true → FnG G k ta takeR)
    {x qual : PySem.Str} {params : Arguments} {body : List Stmt} {scope : Scope} {dvs : List V} {kws : List (PySem.Str × V)} {a : Addr} {fd : FuncData} {N ps : List PySem.Str} {F : Fn} (FD : FunD G.K x qual params body scope dvs kws a fd) (S : FnScope N ps scope) (h1 : ps.length = F.np) (h2 : N.length = F.ns)
    (hc : chkSs { C with N := N } scope F.body body = true) (c : Nat) : FnOk G.P G.w G.K G.mg G.base (L2.CX G.P G.w) (k + 2) a fd ps (spM G cl mk ps c F) := by
  refine FD.ok S (fun vs H Q E h => h.1) fun cdv A outer s H vs Q E hr ⟨hl, O, ds, y, dy, H1, vs', e1, e2, hy, dl, ho, hlv, dr, w⟩ => ?_
  refine ⟨tSs G cl mk E F.body, def_body P Fc M ta hta Tk S hc ⟨rfl, rfl, rfl, rfl, rfl, rfl, hr, S.nd, S.kind⟩ rfl rfl (fun _ => rfl) (takes_of rfl rfl rfl rfl) (passes_of rfl), ?_⟩
  subst e1
  subst e2
  unfold makF at w
  split at w
  · rename_i hlen
    refine ⟨_, rel_me dl ho hlv dr hy hlen.1 hlen.2 h2, Res.wp_mono (fun fl h => ?_) (fun c fs h => h) (Res.wp_bind.mp w)⟩
    cases fl with
    | nx ρ ω =>
      intro O' σ' H' R
      have h := h
      dsimp only at h
      split at h
      · rename_i h0
        split at h
        · rename_i k fs hρ
          exact h H' R.gr R.dr (me_end hlv hy R h0 hρ)
        · exact h.elim
      · exact h.elim
    | rt d ρ ω =>
      intro O' σ' H' v R dv
      cases d <;> first | exact h.elim | skip
      have h := h
      dsimp only at h
      split at h
      · rename_i h0
        split at h
        · rename_i k fs hρ
          have e : v = .non := dv
          subst e
          exact h H' R.gr R.dr (me_end hlv hy R h0 hρ)
        · exact h.elim
      · exact h.elim
    | bk ρ ω => exact h.elim
    | ct ρ ω => exact h.elim
  · exact w.elim
theorem mk_step (P : Pg G C) {k : Nat} (Fc : ∀ f, FnG G k (G.fad f) (cl f)) (M : ∀ c, MkG G (k + 1) c (mk c)) (ta : Addr) (hta : G.mg "_law_take" = some (.ref ta) ∧ PySem.W.keepIn G.K (.ref ta) = true) (Tk : C.tk = true → FnG G k ta takeR)
    {a : Addr} {F : Fn} (DF : Def G C a F) {c : Nat} (MK : Mk G.K (G.cad c) a) : MkG G (k + 3) c (makF G.T cl mk c F) := by
  obtain ⟨x, qual, params, body, scope, dvs, kws, fd, N, ps, FD, S, h1, h2, hc, b0, hd⟩ := DF.ex
  have FO := init_ok P Fc M ta hta Tk FD S h1 h2 hc c
  intro X W b ex pins s σ H vs us Q I rv ⟨O, ds, dl, o1, o2, o3, w⟩
  have MK : Mk X.K (G.cad c) a := by rw [b.K]; exact MK
  have FO : FnOk X.prog X.w X.K X.mg X.base (L2.CX X.prog X.w) (k + 2) a fd ps (spM G cl mk ps c F) := by rw [b.prog, b.w, b.K, b.mg, b.base]; exact FO
  refine run_make MK FO b.room (by rw [b.K]; exact b0) .nil (exc_pass (σ := σ) ex) I rv fun y dy hy hdy ne => ?_
  rw [List.append_nil]
  have hlen : ds.length + 1 = F.np := by
    unfold makF at w
    split at w
    · rename_i h; exact h.1
    · exact w.elim
  have hy1 : upd H dy (.own y) y = none := by rw [upd_ne ne.symm]; exact hy
  have g1 : Grow G H (upd H dy (.own y)) := Grow.new hdy
  refine ⟨by rw [List.length_cons, dl.length, h1]; exact hlen, O, ds, y, dy, upd H dy (.own y), vs, rfl, rfl, hy1, dl.mono (same_new hdy), o1, fun a ha => ?_, dr_new o3 hdy, ?_⟩
  · obtain ⟨o, e⟩ := o2 a ha
    exact ⟨o, by rw [upd_ne (ne_of_none e hdy)]; exact e⟩
  · exact Res.wp_mono (fun d h H' g dr dv => ⟨rfl, h _ H' (g1.trans g) dr dv⟩) (fun c fs h => Rst.grow g1 h) w
/-- the program's top, all of it -/
structure Prog (G : Gc) (C : Ck) : Prop where
  pg : Pg G C
  defs : ∀ f F, G.T.fns[f]? = some F → Def G C (G.fad f) F
  mks : ∀ c k, G.T.cls[c]? = some k → Mk G.K (G.cad c) (G.fad k.init)
theorem calls (P : Prog G C) {ta : Addr} (hta : G.mg "_law_take" = some (.ref ta) ∧ PySem.W.keepIn G.K (.ref ta) = true) {j : Nat} (Tk : C.tk = true → FnG G j ta takeR) : ∀ n, (∀ f, FnG G (2 * n + j) (G.fad f) (call G.T n f)) ∧ (∀ c, MkG G (2 * n + j + 1) c (make G.T n c))
  | 0 => ⟨fun f A outer s H us vs Q E hr e0 r ⟨O, ds, dl, o1, o2, o3, w⟩ => w.elim, fun c X W b ex pins s σ H vs us Q I rv ⟨O, ds, dl, o1, o2, o3, w⟩ => w.elim⟩
  | n + 1 => by
    obtain ⟨F1, M1⟩ := calls P hta Tk n
    have T1 : C.tk = true → FnG G (2 * n + j) ta takeR := fun h => FnR.mono (Tk h) (by omega)
    refine ⟨fun f => ?_, fun c => ?_⟩
    · show FnG G (2 * (n + 1) + j) (G.fad f) (fun as => match G.T.fns[f]? with | some F => callF G.T (callM G.T n).1 (callM G.T n).2 F as | none => .stuck)
      rw [show 2 * (n + 1) + j = 2 * n + j + 2 from by omega]
      cases e : G.T.fns[f]? with
      | none => exact fun A outer s H us vs Q E hr e0 r ⟨O, ds, dl, o1, o2, o3, w⟩ => w.elim
      | some F => exact fn_step P.pg F1 M1 ta hta T1 (P.defs f F e)
    · show MkG G (2 * (n + 1) + j + 1) c (fun as => match G.T.cls[c]? with
        | some C => match G.T.fns[C.init]? with | some F => makF G.T (callM G.T n).1 (callM G.T n).2 c F as | none => .stuck
        | none => .stuck)
      rw [show 2 * (n + 1) + j + 1 = 2 * n + j + 3 from by omega]
      cases e : G.T.cls[c]? with
      | none => exact fun X W b ex pins s σ H vs us Q I rv ⟨O, ds, dl, o1, o2, o3, w⟩ => w.elim
      | some k =>
        cases e2 : G.T.fns[k.init]? with
        | none =>
          intro X W b ex pins s σ H vs us Q I rv h
          obtain ⟨O, ds, dl, o1, o2, o3, w⟩ := h
          dsimp only at w
          rw [e2] at w
          exact w.elim
        | some F =>
          have := mk_step P.pg F1 M1 ta hta T1 (P.defs _ F e2) (P.mks c k e)
          intro X W b ex pins s σ H vs us Q I rv h
          refine this X W b ex pins s σ H vs us Q I rv ?_
          dsimp only at h
          rw [e2] at h
          exact h
end BB
end
section
set_option Elab.async false
set_option linter.all false
set_option maxRecDepth 100000
set_option maxHeartbeats 4000000
/-! _law_take: any number below. -/
namespace BB
open PySem PySem.Spec PyProof.Rows L2
variable {G : Gc} {C : Ck} {cl : Cal} {mk : Mak} {X : Cx}
/-- a list's item, by values -/
theorem get_list : PGet X (rIxL X.K) := by
  intro pins s σ H x y v u Q I rx ry h
  obtain ⟨p, xs, i, z, rfl, rfl, hq, he, q⟩ := h
  cases rx
  obtain ⟨t, rfl⟩ := ry
  obtain ⟨its, r, pl, hz⟩ := I.list hq
  obtain ⟨j, h1, h2, h3, h4, h5⟩ := atI_get he
  obtain ⟨w, ew, rw'⟩ := r.get h2
  have hl := r.length
  have hn := line63
  have fin : EP X pins σ Q w s := ⟨z, H, I, rw', q⟩
  by_cases h0 : 0 ≤ i
  · have hj : i.toNat = j := by
      rw [seqIndex_of h0 h5] at h1
      exact Option.some.inj h1
    exact wpAny_getItem_list pl.isList h0 (by omega) (by rw [hj]; simpa using ew) fin
  · have hj : (i + (its.toArray.size : Int)).toNat = j := by
      rw [seqIndex_neg (by omega) h4] at h1
      rw [List.size_toArray, ← hl]
      exact Option.some.inj h1
    exact wpAny_getItem_list_neg pl.isList (by omega) (by rw [List.size_toArray] <;> omega) (by omega) (by rw [hj]; simpa using ew) fin
def takeB : List Stmt → Bool
  | [.AugAssign (.Subscript (.Name x1 _) (.Constant (.int a) _ _) _) .Add (.Constant (.int b) _ _) _, .Return (some (.BinOp (.Call (.Name f1 _) [.Call (.Name g1 _) [.Subscript (.Name x2 _) (.Constant (.int c) _ _) _, .Call (.Name f2 _) [.Subscript (.Name x3 _) (.Constant (.int d) _ _) _] [] _] [] _] [] _) .Mod (.Name m _) _)) _] =>
    x1 == ("draw" : PySem.Str) && x2 == ("draw" : PySem.Str) && x3 == ("draw" : PySem.Str) && f1 == ("int" : PySem.Str) && f2 == ("int" : PySem.Str) && g1 == ("_law_number" : PySem.Str) && m == ("many" : PySem.Str) && a == 1 && b == 1 && c == 0 && d == 1
  | _ => false
theorem takeR_in {ds : List D} {W : XK} {H : Hp} {O : List Addr} {Q : VK} (h : Out G O H W (takeR ds) Q) : ∃ j : Int, ds = [.draw, .int j] ∧ 0 < j ∧ ∀ i : Nat, i < j.toNat → ∀ H', Grow G H H' → Dr G H' → Q (.int i) H' := by
  obtain ⟨_, _, _, h⟩ := h
  unfold takeR at h
  split at h
  · rename_i j
    obtain ⟨hj, h⟩ := wp_if h
    exact ⟨j, rfl, hj, fun i hi H' g d => h.2 i hi _ H' g d rfl⟩
  · exact h.elim
theorem ints_den {Hv : Hp} : ∀ ns : List Int, DenL G Hv (ns.map D.int) (ns.map V.int)
  | [] => rfl
  | n :: ns => ⟨_, _, rfl, rfl, ints_den ns⟩
theorem take_ok {k : Nat} {nf : Addr} {r : List D → Res D} (Fn : FnG G k nf r) (hr : ∀ (ns : List Int) (j : Int), ns.length ≤ 63 → 0 ≤ j → ∃ i : Int, r [.lst (ns.map D.int), .int j] = .ok (.int i))
    {x qual : PySem.Str} {params : Arguments} {body : List Stmt} {scope : Scope} {kws : List (PySem.Str × V)} {a : Addr} {fd : FuncData} (FD : FunD G.K x qual params body scope [] kws a fd) (S : FnScope ["draw", "many"] ["draw", "many"] scope) (hb : takeB body = true)
    (g1 : glB scope "int" = true) (g2 : glB scope "_law_number" = true) (m1 : G.mg "int" = none) (m2 : G.mg "_law_number" = some (.ref nf)) (kp : PySem.W.keepIn G.K (.ref nf) = true) (v1 : Vis scope "draw") (v2 : Vis scope "many") (bd : Binds G.K fd ["draw", "many"] []) : FnG G (k + 1) a takeR := by
  have FO : FnOk G.P G.w G.K G.mg G.base (L2.CX G.P G.w) (k + 1) a fd ["draw", "many"] (fun vs H Q E => vs.length = 2 ∧ spC G takeR vs H Q E) := by
    refine FD.ok S (fun vs H Q E h => h.1) fun cdv A outer s H vs Q E hrm ⟨hl, O, ds, dl, w⟩ => ?_
    unfold takeB at hb
    split at hb
    · rename_i x1 p1 c1 k1 p2 p3 c2 k2 p4 p5 f1 p6 gn p7 x2 p8 c3 k3 p9 p10 f2 p11 x3 p12 c4 k4 p13 p14 p15 p16 p17 mm p18 p19 p20
      simp only [Bool.and_eq_true, beq_iff_eq] at hb
      obtain ⟨⟨⟨⟨⟨⟨⟨⟨⟨⟨rfl, rfl⟩, rfl⟩, rfl⟩, rfl⟩, rfl⟩, rfl⟩, rfl⟩, rfl⟩, rfl⟩, rfl⟩ := hb
      generalize hX : cxOf (L2.CX G.P G.w) G.P G.w G.K G.mg G.base ["draw", "many"] qual scope a cdv A outer s H E = X
      have b : CxB G k X := by subst hX; exact ⟨rfl, rfl, rfl, rfl, rfl, rfl, hrm, S.nd, S.kind⟩
      have hN : X.N = (["draw", "many"] : List PySem.Str) := by subst hX; rfl
      have hs : X.env.scope = scope := by subst hX; rfl
      have V1 : VCall G X (fun _ _ _ _ => False) (.ref nf) r := vcall_of Fn b (.inl fun _ _ _ _ z => z)
      have pd : ∀ {p : Pos}, PE X (.Name "draw" p) (tVar 0) := pe_var (by rw [hN]; rfl) (by rw [hs]; exact v1)
      have pm : ∀ {p : Pos}, PE X (.Name "many" p) (tVar 1) := pe_var (by rw [hN]; rfl) (by rw [hs]; exact v2)
      have gi : Gl X "int" := gl_of (by rw [hs]; exact g1)
      have gn : Gl X "_law_number" := gl_of (by rw [hs]; exact g2)
      have mi : X.mg "int" = none := by rw [b.mg]; exact m1
      have mn : X.mg "_law_number" = some (.ref nf) := by rw [b.mg]; exact m2
      have kn : PySem.W.keepIn X.K (.ref nf) = true := by rw [b.K]; exact kp
      have s1 : PS X _ _ := ps_augS (X := X) (pos := p5) (tpos := p3) (pd (p := p1)) (pe_int (X := X) (i := 1) (j := k1) (pos := p2)) get_list (pe_int (X := X) (i := 1) (j := k2) (pos := p4)) ip_add set_list
      have e1 : PE X _ _ := pe_ix (pos := p10) ix_list (pd (p := p8)) (pe_int (X := X) (i := 0) (j := k3) (pos := p9)) (fun _ _ => rfl)
      have e2 : PE X _ _ := pe_ix (pos := p14) ix_list (pd (p := p12)) (pe_int (X := X) (i := 1) (j := k4) (pos := p13)) (fun _ _ => rfl)
      have e3 : PE X _ _ := pe_callTy (x := "int") (p := p11) (pos := p15) call_int1 gi mi rfl (pa_cons e2 pa_nil)
      have e4 : PE X _ _ := pe_callV (x := "_law_number") (p := p7) (pos := p16) V1 gn mn kn (pa_cons e1 (pa_cons e3 pa_nil)) (by decide) rfl (fun _ _ _ z => by cases z)
      have e5 : PE X _ _ := pe_callTy (x := "int") (p := p6) (pos := p17) call_int1 gi mi rfl (pa_cons e4 pa_nil)
      have s2 : PS X _ _ := ps_ret (pos := p20) (pe_op (pos := p19) op_modN e5 (pm (p := p18)))
      refine ⟨_, pss_cons s1 (pss_one s2), ?_⟩
      obtain ⟨ho, hlv, dr, _⟩ := id w
      obtain ⟨j, rfl, hj, hq⟩ := takeR_in w
      obtain ⟨u1, r1, rfl, d1, u2, r2, rfl, d2, z⟩ := dl
      rw [show r2 = [] from z]
      have d1 : u1 = .ref G.dr := d1
      have d2 : u2 = .int j := d2
      subst d1 d2
      obtain ⟨n, hn, hd, o, ns, hsa, hns, hne⟩ := dr
      have hsa2 : upd H G.dr (.lst [.ref G.sa, .int (n + 1)]) G.sa = some (.frz o (.lst (ns.map V.int))) := by rw [upd_ne hne]; exact hsa
      have dr1 : Dr G (upd H G.dr (.lst [.ref G.sa, .int (n + 1)])) := ⟨n + 1, by omega, upd_same, o, ns, hsa2, hns, hne⟩
      have g1 : Grow G H (upd H G.dr (.lst [.ref G.sa, .int (n + 1)])) := fun b u hb e => by rw [upd_ne hb]; exact e
      obtain ⟨i, hi⟩ := hr ns (n + 1) hns (by omega)
      refine ⟨_, rfl, G.dr, _, 1, _, rfl, rfl, .inl (.inl hd), rfl, n, 1, rfl, rfl, G.dr, _, 1, 1, rfl, rfl, hd, rfl, ?_⟩
      refine ⟨_, rfl, G.dr, _, 0, _, rfl, rfl, .inl (.inl upd_same), rfl, _, rfl, G.dr, _, 1, _, rfl, rfl, .inl (.inl upd_same), rfl, .inl ⟨_, rfl, [G.dr], [.lst (ns.map D.int), .int (n + 1)], ?_, ?_⟩⟩
      · refine ⟨_, _, rfl, ⟨G.sa, ns.map V.int, rfl, .inr ⟨o, ?_⟩, ints_den ns⟩, _, _, rfl, rfl, rfl⟩
        rw [hid_out (by simpa using hne)]
        exact hsa2
      · refine ⟨List.mem_singleton.mpr rfl, fun b hb => ?_, dr1, ?_⟩
        · rw [List.mem_singleton.mp hb]; exact ⟨_, upd_same⟩
        · rw [hi]
          intro v H' g d dv
          have dv : v = .int i := dv
          subst dv
          refine .inl ⟨i, rfl, ?_⟩
          refine ⟨_, rfl, i, j, rfl, rfl, by omega, ?_⟩
          have h1 : 0 ≤ i.fmod j := Int.fmod_nonneg_of_pos i hj
          have h2 : i.fmod j < j := Int.fmod_lt_of_pos i hj
          have := hq (i.fmod j).toNat (by omega) H' (g1.trans g) d
          rw [show (((i.fmod j).toNat : Nat) : Int) = i.fmod j from by omega] at this
          exact this
    · cases hb
  intro A outer s H us vs Q E hrm e0 rv h
  refine FO.raw bd .nil A outer s H us vs Q E hrm e0 rv ?_
  dsimp only
  rw [List.append_nil]
  refine ⟨?_, h⟩
  obtain ⟨O, ds, dl, w⟩ := h
  obtain ⟨j, rfl, _⟩ := takeR_in w
  rw [dl.length]; rfl
end BB
end
section
set_option Elab.async false
set_option linter.all false
set_option maxRecDepth 100000
set_option maxHeartbeats 4000000
/-! Binding, for any names. -/
namespace BB
open PySem PySem.Spec PyProof.Rows L2
/-- nothing but plain parameters -/
def plainArgs (p : Arguments) : Bool := p.posonlyargs.isEmpty && p.kwonlyargs.isEmpty && p.vararg.isNone && p.kwarg.isNone
theorem look_zip {α : Type} {x : PySem.Str} : ∀ {ps : List PySem.Str} {us : List α}, us.length = ps.length → x ∈ ps → ((ps.zip us).lookup x).isSome = true
  | [], _, _, h => by cases h
  | p :: ps, [], l, _ => by cases l
  | p :: ps, u :: us, l, h => by
    rw [List.zip_cons_cons, List.lookup_cons]
    by_cases e : x = p
    · subst e; simp
    · have : (x == p) = false := by simpa using e
      rw [this]
      exact look_zip (by simpa using l) ((List.mem_cons.mp h).resolve_left e)
theorem fm_congr {α β : Type} {f g : α → Option β} : ∀ {l : List α}, (∀ x ∈ l, f x = g x) → l.filterMap f = l.filterMap g
  | [], _ => rfl
  | a :: l, h => by rw [List.filterMap_cons, List.filterMap_cons, h a List.mem_cons_self, fm_congr fun x hx => h x (List.mem_cons_of_mem _ hx)]
theorem zip_again {α : Type} : ∀ {ps : List PySem.Str} {us : List α}, us.length = ps.length → ps.Nodup → (ps.filterMap fun n => ((ps.zip us).lookup n).map fun z => (n, z)) = ps.zip us
  | [], us, l, _ => by simp
  | p :: ps, [], l, _ => by cases l
  | p :: ps, u :: us, l, nd => by
    obtain ⟨h1, h2⟩ := List.nodup_cons.mp nd
    have ih := zip_again (ps := ps) (us := us) (by simpa using l) h2
    rw [List.zip_cons_cons, List.filterMap_cons, List.lookup_cons]
    have e : (p == p) = true := by simp
    rw [e]
    show (p, u) :: _ = (p, u) :: _
    congr 1
    refine Eq.trans ?_ ih
    refine fm_congr fun n hn => ?_
    have : (n == p) = false := by
      have : n ≠ p := fun z => h1 (z ▸ hn)
      simpa using this
    rw [List.lookup_cons, this]
theorem filter_look {α : Type} {ps : List PySem.Str} {us : List α} {l : List PySem.Str} (h : us.length = ps.length) (hl : ∀ x ∈ l, x ∈ ps) : (l.filter fun n => ((ps.zip us).lookup n).isNone) = [] := by
  rw [List.filter_eq_nil_iff]
  intro x hx
  have := look_zip h (hl x hx)
  cases e : (ps.zip us).lookup x with
  | none => rw [e] at this; cases this
  | some _ => simp
theorem fi_nil {l : List (PySem.Str × Value)} {b : List (PySem.Str × Value)} (h : l = []) : (forIn' l b fun a m b => if (List.lookup a.fst b).isNone = true then pure (ForInStep.yield (b ++ [(a.fst, a.snd)])) else pure (ForInStep.yield b) : Sem (List (PySem.Str × Value))) = pure b := by subst h; rfl
theorem fi_one {l : List (PySem.Str × Value)} {b : List (PySem.Str × Value)} {q : PySem.Str × Value} (h : l = [q]) (n : b.lookup q.1 = none) : (forIn' l b fun a m b => if (List.lookup a.fst b).isNone = true then pure (ForInStep.yield (b ++ [(a.fst, a.snd)])) else pure (ForInStep.yield b) : Sem (List (PySem.Str × Value))) = pure (b ++ [q]) := by
  subst h
  rw [List.forIn'_cons]
  simp only [n, Option.isNone_none, if_true, pure_bind]
  rfl
theorem bind_all {x qual : PySem.Str} {params : Arguments} {body : List Stmt} {scope : Scope} {kV doc pm : Value} {an : Option Addr} {cdv ct : Value} {us : List Value} (hp : plainArgs params = true) (nd : (params.args.map (·.arg)).Nodup) (hl : us.length = (params.args.map (·.arg)).length) :
    bindArgs (PySem.W.fnOf x qual params body scope .none kV doc pm an cdv ct) ⟨us, []⟩ = pure ((params.args.map (·.arg)).zip us) := by
  obtain ⟨po, ar, va, ko, kd, kw, df⟩ := params
  unfold plainArgs at hp
  simp only [Bool.and_eq_true, List.isEmpty_iff, Option.isNone_iff_eq_none] at hp
  obtain ⟨⟨⟨rfl, rfl⟩, rfl⟩, rfl⟩ := hp
  simp only at nd hl
  have e0 : seqItems? Value.none = pure none := rfl
  unfold bindArgs PySem.W.fnOf
  simp only [List.map_nil, List.nil_append, List.append_nil, forIn, ForIn.forIn, List.forIn'_nil, e0, pure_bind]
  generalize ar.map (fun z => z.arg) = ps at nd hl ⊢
  have h1 : (decide (us.length > ps.length) && (none : Option Arg).isNone) = false := by simp; omega
  have h2 : ps.length - (List.drop (((none : Option (Array Value)).getD #[]).toList.length - ps.length) ((none : Option (Array Value)).getD #[]).toList).length = ps.length := by simp
  have h3 : (List.drop (((none : Option (Array Value)).getD #[]).toList.length - ps.length) ((none : Option (Array Value)).getD #[]).toList) = [] := by simp
  simp only [h1, h2, List.take_length, filter_look hl fun _ h => h, List.isEmpty_nil, Bool.not_true, Bool.false_eq_true, if_false]
  rw [fi_nil (by rw [h3, List.zip_nil_right])]
  simp only [pure_bind, zip_again hl nd]
/-- the same where defaults stand, and fill up or not -/
theorem bind_dfl {x qual : PySem.Str} {params : Arguments} {body : List Stmt} {scope : Scope} {T : Addr} {kV doc pm : Value} {an : Option Addr} {cdv ct : Value} {us : List Value} {its : List Value} (hp : plainArgs params = true) (nd : (params.args.map (·.arg)).Nodup)
    (hl : us.length = (params.args.map (·.arg)).length) (hi : its.length ≤ us.length) :
    ∃ k, bindArgs (PySem.W.fnOf x qual params body scope (.ref T) kV doc pm an cdv ct) ⟨us, []⟩ = seqItems? (.ref T) >>= k ∧ k (some its.toArray) = pure ((params.args.map (·.arg)).zip us) := by
  obtain ⟨po, ar, va, ko, kd, kw, df⟩ := params
  unfold plainArgs at hp
  simp only [Bool.and_eq_true, List.isEmpty_iff, Option.isNone_iff_eq_none] at hp
  obtain ⟨⟨⟨rfl, rfl⟩, rfl⟩, rfl⟩ := hp
  simp only at nd hl
  unfold bindArgs PySem.W.fnOf
  simp only [List.map_nil, List.nil_append, List.append_nil, forIn, ForIn.forIn, List.forIn'_nil, pure_bind]
  refine ⟨_, rfl, ?_⟩
  generalize ar.map (fun z => z.arg) = ps at nd hl ⊢
  have h1 : (decide (us.length > ps.length) && (none : Option Arg).isNone) = false := by simp; omega
  have h2 : ((some its.toArray : Option (Array Value)).getD #[]).toList = its := by simp
  have h3 : List.drop (its.length - ps.length) its = its := by rw [show its.length - ps.length = 0 from by omega]; rfl
  have h4 : ps.zip us = ps.zip us := rfl
  have h5 : ∀ l : List (PySem.Str × Value), (∀ q ∈ l, q.1 ∈ ps) → (forIn' l (ps.zip us) fun a m b => if (List.lookup a.fst b).isNone = true then pure (ForInStep.yield (b ++ [(a.fst, a.snd)])) else pure (ForInStep.yield b) : Sem (List (PySem.Str × Value))) = pure (ps.zip us) := by
    intro l hq
    induction l with
    | nil => rfl
    | cons q l ih =>
      have := look_zip hl (hq q List.mem_cons_self)
      have e : ((ps.zip us).lookup q.1).isNone = false := by
        cases z : (ps.zip us).lookup q.1 with
        | none => rw [z] at this; cases this
        | some _ => rfl
      rw [List.forIn'_cons]
      simp only [e, Bool.false_eq_true, if_false, pure_bind]
      exact ih fun z hz => hq z (List.mem_cons_of_mem _ hz)
  simp only [h1, h2, h3, filter_look hl fun _ h => List.mem_of_mem_take h, List.isEmpty_nil, Bool.not_true, Bool.false_eq_true, if_false]
  rw [h5 _ fun q hq => List.mem_of_mem_drop (List.of_mem_zip hq).1]
  simp only [pure_bind, List.isEmpty_nil, Bool.not_true, Bool.false_eq_true, if_false, zip_again hl nd]
  try rfl
theorem zip_last {α : Type} {y : PySem.Str} {d : α} : ∀ {qs : List PySem.Str} {us : List α}, us.length = qs.length → (qs ++ [y]).zip us = qs.zip us ∧ (qs ++ [y]).zip (us ++ [d]) = qs.zip us ++ [(y, d)]
  | [], [], _ => ⟨rfl, rfl⟩
  | [], _ :: _, h => by cases h
  | _ :: _, [], h => by cases h
  | q :: qs, u :: us, h => by
    obtain ⟨h1, h2⟩ := zip_last (y := y) (d := d) (qs := qs) (us := us) (by simpa using h)
    exact ⟨by rw [List.cons_append, List.zip_cons_cons, List.zip_cons_cons, h1], by rw [List.cons_append, List.cons_append, List.zip_cons_cons, List.zip_cons_cons, h2]; rfl⟩
theorem look_out {α : Type} {y : PySem.Str} : ∀ {qs : List PySem.Str} {us : List α}, y ∉ qs → (qs.zip us).lookup y = none
  | [], _, _ => by simp
  | _ :: _, [], _ => by simp
  | q :: qs, u :: us, h => by
    rw [List.mem_cons, not_or] at h
    rw [List.zip_cons_cons, List.lookup_cons]
    have : (y == q) = false := by simpa using h.1
    rw [this]
    exact look_out h.2
/-- one default fills up -/
theorem bind_dfl1 {x qual : PySem.Str} {params : Arguments} {body : List Stmt} {scope : Scope} {T : Addr} {kV doc pm : Value} {an : Option Addr} {cdv ct : Value} {us : List Value} {its : List Value} (hp : plainArgs params = true) (nd : (params.args.map (·.arg)).Nodup)
    (hl : us.length + 1 = (params.args.map (·.arg)).length) (hi : its.length = 1) :
    ∃ k, bindArgs (PySem.W.fnOf x qual params body scope (.ref T) kV doc pm an cdv ct) ⟨us, []⟩ = seqItems? (.ref T) >>= k ∧ k (some its.toArray) = pure ((params.args.map (·.arg)).zip (us ++ its)) := by
  obtain ⟨po, ar, va, ko, kd, kw, df⟩ := params
  unfold plainArgs at hp
  simp only [Bool.and_eq_true, List.isEmpty_iff, Option.isNone_iff_eq_none] at hp
  obtain ⟨⟨⟨rfl, rfl⟩, rfl⟩, rfl⟩ := hp
  simp only at nd hl
  unfold bindArgs PySem.W.fnOf
  simp only [List.map_nil, List.nil_append, List.append_nil, forIn, ForIn.forIn, List.forIn'_nil, pure_bind]
  refine ⟨_, rfl, ?_⟩
  generalize ar.map (fun z => z.arg) = ps at nd hl ⊢
  obtain ⟨d, rfl⟩ : ∃ d, its = [d] := match its, hi with | [d], _ => ⟨d, rfl⟩
  obtain ⟨qs, y, rfl⟩ : ∃ qs y, ps = qs ++ [y] := ⟨ps.dropLast, ps.getLast (by intro z; rw [z] at hl; cases hl), (List.dropLast_concat_getLast _).symm⟩
  have hl2 : us.length = qs.length := by simpa using hl
  obtain ⟨z1, z2⟩ := zip_last (y := y) (d := d) hl2
  have ny : y ∉ qs := fun z => (List.nodup_append.mp nd).2.2 y z y (List.mem_singleton.mpr rfl) rfl
  have nq : qs.Nodup := (List.nodup_append.mp nd).1
  have h1 : (decide (us.length > (qs ++ [y]).length) && (none : Option Arg).isNone) = false := by simp; omega
  have h2 : ((some [d].toArray : Option (Array Value)).getD #[]).toList = [d] := by simp
  have h3 : List.drop ([d].length - (qs ++ [y]).length) [d] = [d] := by rw [show [d].length - (qs ++ [y]).length = 0 from by simp]; rfl
  have h4 : (qs ++ [y]).length - [d].length = qs.length := by simp
  have h5 : (qs ++ [y]).take qs.length = qs := by simp
  have h6 : (qs ++ [y]).drop qs.length = [y] := by simp
  have h7 := look_out (us := us) ny
  simp only [h1, h2, h3, h4, h5, z1, filter_look hl2 fun _ h => h, List.isEmpty_nil, Bool.not_true, Bool.false_eq_true, if_false]
  rw [fi_one (q := (y, d)) (by rw [h6]; rfl) h7]
  simp only [pure_bind, List.isEmpty_nil, Bool.not_true, Bool.false_eq_true, if_false]
  rw [z2.symm, zip_again (by simpa using hl2) nd]
  try rfl
end BB
end
section
set_option Elab.async false
set_option linter.all false
set_option maxRecDepth 100000
set_option maxHeartbeats 4000000
/-! A program's top, by what can be computed. -/
namespace BB
open PySem PySem.Spec PyProof.Rows L2
theorem nodup_of {α : Type} [DecidableEq α] {l : List α} (h : decide l.Nodup = true) : l.Nodup := of_decide_eq_true h
/-- what is told of a program -/
structure Top1 where
  prog : Program
  T : Tb
  nm : List PySem.Str
  clsN : List PySem.Str
  paths : List (PySem.Str × Option PySem.Str)
  ns : List (List PySem.Str)
  cons : List (PySem.Str × D)
  free : List PySem.Str
def fnsL (l : List (PySem.Str × Option PySem.Str)) : List (PySem.Str × Nat) := l.zipIdx.filterMap fun p => match p.1.2 with | none => some (p.1.1, p.2) | some _ => none
namespace Top1
variable (t : Top1)
def C : Ck := { N := [], nm := t.nm, fns := fnsL t.paths, cls := t.clsN.zipIdx, cons := t.cons, free := t.free }
def clN (c : Nat) : PySem.Str := (t.clsN[c]?).getD ⟨#[]⟩
def pth (f : Nat) : PySem.Str × Option PySem.Str := (t.paths[f]?).getD (⟨#[]⟩, none)
def G (w : World) (K : PySem.W.Frag) (mg : PySem.Str → Option Value) (base : Heap) (dr sa : Addr) : Gc where
  P := t.prog
  w := w
  K := K
  mg := mg
  base := base
  nm := t.nm
  cad := fun c => He.ga K (t.clN c)
  fad := fun f => He.fAd K (t.pth f)
  dr := dr
  sa := sa
  T := t.T
end Top1
variable {G : Gc} {C : Ck} {cl : Cal} {mk : Mak}
/-! the defs of the text -/
def isFnNamed (x : PySem.Str) : Stmt → Bool
  | .FunctionDef y _ _ _ _ _ _ _ _ _ => decide (y = x)
  | _ => false
def clsBody (x : PySem.Str) : List Stmt → List Stmt
  | .ClassDef y _ _ b _ _ _ _ _ _ _ :: r => if y = x then b else clsBody x r
  | _ :: r => clsBody x r
  | [] => []
def findFn (x : PySem.Str) (l : List Stmt) : Stmt := (l.find? (isFnNamed x)).getD (.Pass ⟨0, 0, 0, 0⟩)
def dvOf : D → He.Dv
  | .int i => .int i
  | .str x => .str x
  | .bl b => .bl b
  | _ => .non
def plainDfl : D → Bool
  | .int _ => true
  | .str _ => true
  | .bl _ => true
  | .non => true
  | _ => false
def defD (l : List Stmt) (p : PySem.Str × Option PySem.Str) (dfl : List D) : He.DefD := match p.2 with
  | none => let s := findFn p.1 l; ⟨p, p.1, p.1, defArgs s, defBody s, defScope s, dfl.map dvOf, []⟩
  | some m => let s := findFn m (clsBody p.1 l); ⟨p, m, ⟨p.1.cps ++ #[46] ++ m.cps⟩, defArgs s, defBody s, defScope s, dfl.map dvOf, []⟩
def scopeB (N ps : List PySem.Str) (sc : Scope) : Bool :=
  decide (sc.kind = .function) && !sc.isCoroutine && !sc.isGenerator && decide N.Nodup && decide (N.take ps.length = ps) && ps.all (fun x => decide (sc.names.lookup x = some .local) || decide (sc.names.lookup x = some .cell)) && sc.names.all fun y => !decide (y.2 = .free)
theorem scope_of {N ps : List PySem.Str} {sc : Scope} (h : scopeB N ps sc = true) : FnScope N ps sc := by
  unfold scopeB at h
  obtain ⟨h, h7⟩ := ands h
  obtain ⟨h, h6⟩ := ands h
  obtain ⟨h, h5⟩ := ands h
  obtain ⟨h, h4⟩ := ands h
  obtain ⟨h, h3⟩ := ands h
  obtain ⟨h1, h2⟩ := ands h
  refine ⟨of_decide_eq_true h1, notB h2, notB h3, of_decide_eq_true h4, of_decide_eq_true h5, fun x hx => ?_, fun y hy z => ?_⟩
  · rcases Bool.or_eq_true_iff.mp (List.all_eq_true.mp h6 x hx) with k | k
    · exact .inl (of_decide_eq_true k)
    · exact .inr (of_decide_eq_true k)
  · have := notB (List.all_eq_true.mp h7 y hy)
    rw [decide_eq_false_iff_not] at this
    exact this z
def argN (d : He.DefD) : List PySem.Str := d.params.args.map (·.arg)
def fnB (C : Ck) (d : He.DefD) (F : Fn) (N : List PySem.Str) : Bool :=
  plainArgs d.params && scopeB N (argN d) d.scope && (argN d).length == F.np && N.length == F.ns && chkSs { C with N := N } d.scope F.body d.body && d.kwd.isEmpty && F.dfl.all plainDfl && (match F.dfl with | [] => true | [_] => true | _ => false) && Nat.ble F.dfl.length F.np
theorem den_dfl {K : PySem.W.Frag} {Hv : Hp} : ∀ {l : List D}, l.all plainDfl = true → DenL G Hv l ((l.map dvOf).map (He.Dv.v K))
  | [], _ => rfl
  | d :: l, h => by
    obtain ⟨h1, h2⟩ := ands (show (plainDfl d && l.all plainDfl) = true from h)
    refine ⟨_, _, rfl, ?_, den_dfl h2⟩
    cases d <;> first | rfl | exact absurd h1 (show ¬ (false = true) from Bool.noConfusion)
theorem def_of {d : He.DefD} {a : Addr} {fd : FuncData} {F : Fn} {N : List PySem.Str} (FD : FunD G.K d.name d.qual d.params d.body d.scope (d.dvs G.K) (d.kws G.K) a fd) (hd : d.dfl = F.dfl.map dvOf) (h : fnB C d F N = true) : Def G C a F := by
  unfold fnB at h
  obtain ⟨h, h9⟩ := ands h
  obtain ⟨h, h8⟩ := ands h
  obtain ⟨h, h7⟩ := ands h
  obtain ⟨h, h6⟩ := ands h
  obtain ⟨h, h5⟩ := ands h
  obtain ⟨h, h4⟩ := ands h
  obtain ⟨h, h3⟩ := ands h
  obtain ⟨h1, h2⟩ := ands h
  have S := scope_of h2
  have nd : (argN d).Nodup := by rw [← S.pre]; exact S.nd.sublist (List.take_sublist _ _)
  have hnp : (argN d).length = F.np := by simpa using h3
  have hns : N.length = F.ns := by simpa using h4
  have hdv : d.dvs G.K = (F.dfl.map dvOf).map (He.Dv.v G.K) := by unfold He.DefD.dvs; rw [hd]
  have hdl : (d.dvs G.K).length = F.dfl.length := by rw [hdv, List.length_map, List.length_map]
  have hle : F.dfl.length ≤ F.np := Nat.le_of_ble_eq_true h9
  refine ⟨_, _, _, _, _, _, _, _, N, argN d, FD, S, hnp, hns, h5, ?_, ?_⟩
  · cases e : F.dfl with
    | nil =>
      have e0 : d.dvs G.K = [] := by rw [hdv, e]; rfl
      rw [e0] at FD
      exact FD.bindsN fun kV doc pm an cdv ct us hl => bind_all h1 nd hl
    | cons v l =>
      have ne : d.dvs G.K ≠ [] := by rw [hdv, e]; exact List.cons_ne_nil _ _
      obtain ⟨ds, vd, bd⟩ := FD.binds1 (ps := argN d) F.np (d.dvs G.K).length ne (by omega) fun T kV doc pm an cdv ct us its hl hi => by
        obtain ⟨k, k1, k2⟩ := bind_dfl (its := its) (T := T) (x := d.name) (qual := d.qual) (body := d.body) (scope := d.scope) (kV := kV) (doc := doc) (pm := pm) (an := an) (cdv := cdv) (ct := ct) h1 nd (us := us) (by rw [hl]; exact hnp.symm) (by omega)
        refine ⟨k, k1, ?_⟩
        rw [show its.drop (d.dvs G.K).length = [] from List.drop_eq_nil_of_le (by omega), List.append_nil]
        exact k2
      rw [List.drop_length] at vd
      cases vd
      exact bd
  · cases e : F.dfl with
    | nil => exact .inl rfl
    | cons v l =>
      have l1 : F.dfl.length = 1 := by
        rw [e] at h8 ⊢
        cases l with
        | nil => rfl
        | cons _ _ => cases h8
      have ne : d.dvs G.K ≠ [] := by rw [hdv, e]; exact List.cons_ne_nil _ _
      refine .inr ⟨by rw [← e]; exact l1, fun Hv => by rw [← e, hdv]; exact den_dfl h7, ?_⟩
      obtain ⟨ds, vd, bd⟩ := FD.binds1 (ps := argN d) (F.np - 1) 0 ne (by omega) fun T kV doc pm an cdv ct us its hl hi => by
        rw [List.drop_zero]
        exact bind_dfl1 h1 nd (by show us.length + 1 = (argN d).length; omega) (by omega)
      rw [List.drop_zero] at vd
      exact ⟨ds, vd, bd⟩
/-! facts -/
def tysK (t : Top1) (K : PySem.W.Frag) : List (Value × Ty) := [(.type "int", .int), (.type "bool", .bool), (.type "str", .str), (.type "list", .lst), (.type "tuple", .tup), (.type "dict", .dct)] ++ t.clsN.zipIdx.map fun p => (.ref (He.ga K p.1), .cls p.2)
def valsK (t : Top1) (K : PySem.W.Frag) : List (Value × D) := [(.type "NoneType", .non), (.type "bool", .bl true), (.type "int", .int 0), (.type "str", .str ⟨#[]⟩), (.type "tuple", .tup []), (.type "list", .lst []), (.type "dict", .dct [])] ++ t.clsN.zipIdx.map fun p => (.ref (He.ga K p.1), .ins p.2 [])
def consB (K : PySem.W.Frag) : PySem.Str × D → Bool
  | (x, .int i) => (He.Fa.int x i).ok K
  | (x, .str y) => (He.Fa.str x y).ok K
  | _ => true
def spB (t : Top1) (K : PySem.W.Frag) (x : PySem.Str) (k : Cl) : Bool :=
  (match k.bool with
    | none => He.eqO (PySem.W.findIn K (.ref (He.ga K x)) "__bool__") (some none) && He.eqO (PySem.W.findIn K (.ref (He.ga K x)) "__len__") (some none)
    | some f => He.eqO (PySem.W.findIn K (.ref (He.ga K x)) "__bool__") (some (some (.ref (He.fAd K (t.pth f))))) && PySem.W.isFn K (.ref (He.fAd K (t.pth f)))) &&
  (match k.eq with
    | none => true
    | some f => He.eqO (PySem.W.findIn K (.ref (He.ga K x)) "__eq__") (some (some (.ref (He.fAd K (t.pth f))))) && PySem.W.isFn K (.ref (He.fAd K (t.pth f))) &&
      He.eqO (PySem.W.findIn K (.ref (He.ga K x)) "__ne__") (some (some (.builtin "object.__ne__"))))
def msB (t : Top1) (K : PySem.W.Frag) (x : PySem.Str) (k : Cl) : Bool := k.ms.all fun q => match t.nm[q.1]? with
  | some y => decide (t.paths[q.2]? = some (x, some y)) && (He.Fa.meth x y).ok K
  | none => false
def clB (t : Top1) (K : PySem.W.Frag) (x : PySem.Str) (k : Cl) : Bool :=
  (He.Fa.glo x).ok K && (He.Fa.keep x).ok K && (He.Fa.cls x).ok K && (He.Fa.mkr x).ok K && decide (t.paths[k.init]? = some (x, some ("__init__" : PySem.Str))) && spB t K x k && msB t K x k &&
  He.eqO (PySem.W.findIn K (.ref (He.ga K x)) "__class__") (some (some (.builtin "object.__class__"))) && decide (PySem.W.mroIn K (He.ga K x) (.type "object") = some true) &&
  He.eqO (PySem.W.findIn K (.ref (He.ga K x)) ⟨#[]⟩) (some none) && (t.nm.zipIdx.all fun q => (k.ms.lookup q.2).isSome || He.eqO (PySem.W.findIn K (.ref (He.ga K x)) q.1) (some none))
def topK (t : Top1) (K : PySem.W.Frag) : Bool :=
  (t.free.all fun x => (He.Fa.free x).ok K) && t.cons.all (consB K) && (t.clsN.zip t.T.cls).all (fun p => clB t K p.1 p.2) && t.paths.all (fun p => p.2.isSome || ((He.Fa.glo p.1).ok K && (He.Fa.keep p.1).ok K)) &&
  (t.clsN.all fun x => t.clsN.all fun y => decide (x = y) || !decide (He.ga K x = He.ga K y)) && (t.clsN.all fun x => t.clsN.all fun y => PySem.W.notFirst K (He.ga K x) (.ref (He.ga K y))) &&
  ((valsK t K).all fun a => (tysK t K).all fun b => decide (PySem.W.kitOne K a.1 b.1 = some (isTy b.2 a.2))) &&
  He.eqO (PySem.W.specialIn K (.builtin "object.__class__") "__get__") (some (some (.builtin "getset_descriptor.__get__"))) && decide (PySem.W.takesIn K (.builtin "object.__class__") = some true) &&
  (He.Fa.glo "_law_take").ok K && (He.Fa.keep "_law_take").ok K && K.all (fun p => match p.2.cls with | .type c => !decide (c = "list") | _ => true)
/-- what needs no heap -/
def topS (t : Top1) : Bool := decide t.nm.Nodup && t.nm.all (fun x => !decide (x = ⟨#[]⟩)) && decide t.clsN.Nodup && t.clsN.length == t.T.cls.length && t.paths.length == t.T.fns.length && t.ns.length == t.T.fns.length
def defs (t : Top1) : List He.DefD := (t.paths.zip t.T.fns).map fun p => defD t.prog.main.body p.1 p.2.dfl
def fnsB (t : Top1) : Bool := ((defs t).zip (t.T.fns.zip t.ns)).all fun p => fnB t.C p.1 p.2.1 p.2.2
/-! what is told -/
theorem get_zip {α β : Type} : ∀ {l : List α} {m : List β} {i : Nat} {a : α} {b : β}, l[i]? = some a → m[i]? = some b → (a, b) ∈ l.zip m
  | [], _, i, _, _, h, _ => by simp at h
  | _ :: _, [], i, _, _, _, h => by simp at h
  | x :: l, y :: m, 0, a, b, h1, h2 => by cases h1; cases h2; exact List.mem_cons_self
  | x :: l, y :: m, i + 1, a, b, h1, h2 => List.mem_cons_of_mem _ (get_zip (l := l) (m := m) (i := i) h1 h2)
theorem look_idx {x : PySem.Str} {c : Nat} {l : List PySem.Str} (h : l.zipIdx.lookup x = some c) : l[c]? = some x := by
  have := mem_of_lookup h
  rw [List.mem_zipIdx_iff_getElem?] at this
  exact this
theorem look_fns {x : PySem.Str} {f : Nat} {l : List (PySem.Str × Option PySem.Str)} (h : (fnsL l).lookup x = some f) : l[f]? = some (x, none) := by
  have h := mem_of_lookup h
  unfold fnsL at h
  obtain ⟨⟨⟨y, o⟩, i⟩, h1, h2⟩ := List.mem_filterMap.mp h
  rw [List.mem_zipIdx_iff_getElem?] at h1
  cases o with
  | none => cases h2; exact h1
  | some _ => cases h2
section
variable {t : Top1} {K : PySem.W.Frag} {h : Heap} {mg : PySem.Str → Option Value}
structure TopS (t : Top1) : Prop where
  nm : t.nm.Nodup
  ne : ∀ x ∈ t.nm, x ≠ ⟨#[]⟩
  nd : t.clsN.Nodup
  cl : t.clsN.length = t.T.cls.length
  pl : t.paths.length = t.T.fns.length
  nl : t.ns.length = t.T.fns.length
theorem topS_of (e : topS t = true) : TopS t := by
  unfold topS at e
  obtain ⟨e, e6⟩ := ands e
  obtain ⟨e, e5⟩ := ands e
  obtain ⟨e, e4⟩ := ands e
  obtain ⟨e, e3⟩ := ands e
  obtain ⟨e1, e2⟩ := ands e
  refine ⟨of_decide_eq_true e1, fun x hx z => ?_, of_decide_eq_true e3, by simpa using e4, by simpa using e5, by simpa using e6⟩
  have := notB (List.all_eq_true.mp e2 x hx)
  rw [decide_eq_false_iff_not] at this
  exact this z
structure TopK (t : Top1) (K : PySem.W.Frag) : Prop where
  free : ∀ x ∈ t.free, (He.Fa.free x).ok K = true
  cons : ∀ p ∈ t.cons, consB K p = true
  cls : ∀ (c : Nat) (x : PySem.Str) (k : Cl), t.clsN[c]? = some x → t.T.cls[c]? = some k → clB t K x k = true
  fns : ∀ (f : Nat) (x : PySem.Str), t.paths[f]? = some (x, none) → (He.Fa.glo x).ok K = true ∧ (He.Fa.keep x).ok K = true
  inj : ∀ x ∈ t.clsN, ∀ y ∈ t.clsN, He.ga K x = He.ga K y → x = y
  nf : ∀ x ∈ t.clsN, ∀ y ∈ t.clsN, PySem.W.notFirst K (He.ga K x) (.ref (He.ga K y)) = true
  kit : ∀ a ∈ valsK t K, ∀ b ∈ tysK t K, PySem.W.kitOne K a.1 b.1 = some (isTy b.2 a.2)
  gc : PySem.W.specialIn K (.builtin "object.__class__") "__get__" = some (some (.builtin "getset_descriptor.__get__"))
  tk : PySem.W.takesIn K (.builtin "object.__class__") = some true
  ta : (He.Fa.glo "_law_take").ok K = true ∧ (He.Fa.keep "_law_take").ok K = true
  nol : ∀ p ∈ K, p.2.cls ≠ .type "list"
theorem topK_of (e : topK t K = true) : TopK t K := by
  unfold topK at e
  obtain ⟨e, e12⟩ := ands e
  obtain ⟨e, e11⟩ := ands e
  obtain ⟨e, e10⟩ := ands e
  obtain ⟨e, e9⟩ := ands e
  obtain ⟨e, e8⟩ := ands e
  obtain ⟨e, e7⟩ := ands e
  obtain ⟨e, e6⟩ := ands e
  obtain ⟨e, e5⟩ := ands e
  obtain ⟨e, e4⟩ := ands e
  obtain ⟨e, e3⟩ := ands e
  obtain ⟨e1, e2⟩ := ands e
  refine ⟨List.all_eq_true.mp e1, List.all_eq_true.mp e2, fun c x k h1 h2 => ?_, fun f x h1 => ?_, fun x hx y hy e => ?_, fun x hx y hy => ?_, fun a ha b hb => ?_, He.eqO_ok e8, of_decide_eq_true e9, ⟨e10, e11⟩, fun p hp z => ?_⟩
  · exact List.all_eq_true.mp e3 (x, k) (get_zip h1 h2)
  · have := List.all_eq_true.mp e4 _ (List.mem_of_getElem? h1)
    exact ands (by simpa using this)
  · have := List.all_eq_true.mp (List.all_eq_true.mp e5 x hx) y hy
    rcases Bool.or_eq_true_iff.mp this with k | k
    · exact of_decide_eq_true k
    · have k := notB k
      rw [decide_eq_false_iff_not] at k
      exact (k e).elim
  · exact List.all_eq_true.mp (List.all_eq_true.mp e6 x hx) y hy
  · exact of_decide_eq_true (List.all_eq_true.mp (List.all_eq_true.mp e7 a ha) b hb)
  · have := List.all_eq_true.mp e12 p hp
    rw [z] at this
    simp at this
structure ClK (t : Top1) (K : PySem.W.Frag) (x : PySem.Str) (k : Cl) : Prop where
  glo : (He.Fa.glo x).ok K = true
  keep : (He.Fa.keep x).ok K = true
  cls : (He.Fa.cls x).ok K = true
  mkr : (He.Fa.mkr x).ok K = true
  init : t.paths[k.init]? = some (x, some ("__init__" : PySem.Str))
  sp : spB t K x k = true
  ms : msB t K x k = true
  own : PySem.W.findIn K (.ref (He.ga K x)) "__class__" = some (some (.builtin "object.__class__"))
  mro : PySem.W.mroIn K (He.ga K x) (.type "object") = some true
  no0 : PySem.W.findIn K (.ref (He.ga K x)) ⟨#[]⟩ = some none
  no : ∀ (f : Nat) (y : PySem.Str), t.nm[f]? = some y → (k.ms.lookup f).isNone = true → PySem.W.findIn K (.ref (He.ga K x)) y = some none
theorem clK_of {x : PySem.Str} {k : Cl} (e : clB t K x k = true) : ClK t K x k := by
  unfold clB at e
  obtain ⟨e, e11⟩ := ands e
  obtain ⟨e, e10⟩ := ands e
  obtain ⟨e, e9⟩ := ands e
  obtain ⟨e, e8⟩ := ands e
  obtain ⟨e, e7⟩ := ands e
  obtain ⟨e, e6⟩ := ands e
  obtain ⟨e, e5⟩ := ands e
  obtain ⟨e, e4⟩ := ands e
  obtain ⟨e, e3⟩ := ands e
  obtain ⟨e1, e2⟩ := ands e
  refine ⟨e1, e2, e3, e4, of_decide_eq_true e5, e6, e7, He.eqO_ok e8, of_decide_eq_true e9, He.eqO_ok e10, fun f y h1 h2 => ?_⟩
  have := List.all_eq_true.mp e11 (y, f) (List.mem_zipIdx_iff_getElem?.mpr h1)
  rcases Bool.or_eq_true_iff.mp this with k | k
  · have k : (_ : Option Nat).isSome = true := k
    rw [Option.isNone_iff_eq_none] at h2
    simp only at k
    rw [h2] at k
    cases k
  · exact He.eqO_ok k
end
end BB
end
section
set_option Elab.async false
set_option linter.all false
set_option maxRecDepth 100000
set_option maxHeartbeats 4000000
/-! A program's top is as computed. -/
namespace BB
open PySem PySem.Spec PyProof.Rows L2
variable {t : Top1} {K : PySem.W.Frag} {h : Heap} {mg : PySem.Str → Option Value} {w : World} {base : Heap} {dr sa : Addr}
theorem clN_at {c : Nat} {x : PySem.Str} (e : t.clsN[c]? = some x) : t.clN c = x := by unfold Top1.clN; rw [e]; rfl
theorem pth_at {f : Nat} {p : PySem.Str × Option PySem.Str} (e : t.paths[f]? = some p) : t.pth f = p := by unfold Top1.pth; rw [e]; rfl
theorem TopS.at (S : TopS t) {c : Nat} (hc : c < t.T.cls.length) : ∃ x k, t.clsN[c]? = some x ∧ t.T.cls[c]? = some k ∧ t.clN c = x ∧ x ∈ t.clsN := by
  have h1 : c < t.clsN.length := by rw [S.cl]; exact hc
  exact ⟨_, _, List.getElem?_eq_getElem h1, List.getElem?_eq_getElem hc, clN_at (List.getElem?_eq_getElem h1), List.getElem_mem h1⟩
theorem TopS.at2 (S : TopS t) {c : Nat} {k : Cl} (hc : t.T.cls[c]? = some k) : ∃ x, t.clsN[c]? = some x ∧ t.clN c = x ∧ x ∈ t.clsN := by
  obtain ⟨x, k', h1, h2, h3, h4⟩ := S.at (List.getElem?_eq_some_iff.mp hc).1
  exact ⟨x, h1, h3, h4⟩
theorem lookup_mem {α β : Type} [BEq α] [LawfulBEq α] {x : α} {y : β} : ∀ {l : List (α × β)}, l.lookup x = some y → (x, y) ∈ l
  | [], h => by cases h
  | (a, b) :: l, h => by
    rw [List.lookup_cons] at h
    split at h
    · rename_i e
      cases h
      rw [show x = a from by simpa using e]
      exact List.mem_cons_self
    · exact List.mem_cons_of_mem _ (lookup_mem h)
theorem top_pg (S : TopS t) (TK : TopK t K) (X : K.In h) (N : h.Ns mainGlobals mg) : Pg (t.G w K mg base dr sa) t.C := by
  have CL : ∀ {c x k}, t.clsN[c]? = some x → t.T.cls[c]? = some k → ClK t K x k := fun h1 h2 => clK_of (TK.cls _ _ _ h1 h2)
  have clsF : ∀ x c, t.C.cls.lookup x = some c → c < t.T.cls.length ∧ t.clN c = x ∧ ∃ k, ClK t K x k := fun x c hx => by
    have e := look_idx (show t.clsN.zipIdx.lookup x = some c from hx)
    have hc : c < t.T.cls.length := by rw [← S.cl]; exact (List.getElem?_eq_some_iff.mp e).1
    exact ⟨hc, clN_at e, _, CL e (List.getElem?_eq_getElem hc)⟩
  have own : ∀ c, c < t.T.cls.length → ∃ k, ClK t K (t.clN c) k ∧ t.T.cls[c]? = some k ∧ t.clN c ∈ t.clsN := fun c hc => by
    obtain ⟨x, k, h1, h2, h3, h4⟩ := S.at hc
    rw [h3]
    exact ⟨k, CL h1 h2, h2, h4⟩
  have free : ∀ x, t.C.free.contains x = true → mg x = none := fun x hx => He.free_ok X N (TK.free x (by simpa [Top1.C] using hx))
  have clsG : ∀ x c, t.C.cls.lookup x = some c → mg x = some (.ref (He.ga K (t.clN c))) := fun x c hx => by
    obtain ⟨_, e, k, ck⟩ := clsF x c hx
    rw [e]
    exact He.glo_ok X N ck.glo
  have kit : ∀ (a : D) (ty : Ty), isiOk t.T a = true → (∀ c, ty = .cls c → c < t.T.cls.length) → PySem.W.kitOne K (tyD (t.G w K mg base dr sa) a) (tyV (t.G w K mg base dr sa) ty) = some (isTy ty a) := by
    intro a ty ha ht
    have mt : (tyV (t.G w K mg base dr sa) ty, ty) ∈ tysK t K := by
      unfold tysK
      cases ty with
      | cls c =>
        refine List.mem_append_right _ (List.mem_map.mpr ?_)
        obtain ⟨x, k, h1, h2, h3, h4⟩ := S.at (ht c rfl)
        refine ⟨(x, c), List.mem_zipIdx_iff_getElem?.mpr h1, ?_⟩
        show (Value.ref (He.ga K x), Ty.cls c) = (Value.ref (He.ga K (t.clN c)), _)
        rw [h3]
      | _ => exact List.mem_append_left _ (by simp [tyV])
    have ins : ∀ (c : Nat) (fs : Fs), c < t.T.cls.length → (Value.ref (He.ga K (t.clN c)), D.ins c []) ∈ valsK t K := fun c fs hc => by
      unfold valsK
      refine List.mem_append_right _ (List.mem_map.mpr ?_)
      obtain ⟨x, k, h1, h2, h3, h4⟩ := S.at hc
      refine ⟨(x, c), List.mem_zipIdx_iff_getElem?.mpr h1, ?_⟩
      rw [h3]
    have base' : ∀ v d, (v, d) ∈ ([(.type "NoneType", .non), (.type "bool", .bl true), (.type "int", .int 0), (.type "str", .str ⟨#[]⟩), (.type "tuple", .tup []), (.type "list", .lst []), (.type "dict", .dct [])] : List (Value × D)) → PySem.W.kitOne K v (tyV (t.G w K mg base dr sa) ty) = some (isTy ty d) := fun v d hm => TK.kit (v, d) (List.mem_append_left _ hm) _ mt
    have ins' : ∀ c, c < t.T.cls.length → PySem.W.kitOne K (.ref (He.ga K (t.clN c))) (tyV (t.G w K mg base dr sa) ty) = some (isTy ty (.ins c [])) := fun c hc => TK.kit (_, _) (ins c [] hc) _ mt
    cases a with
    | non => rw [show isTy ty D.non = isTy ty D.non from rfl]; exact base' (.type "NoneType") .non (by simp)
    | bl b => rw [show isTy ty (D.bl b) = isTy ty (D.bl true) from by cases ty <;> rfl]; exact base' (.type "bool") (.bl true) (by simp)
    | int i => rw [show isTy ty (D.int i) = isTy ty (D.int 0) from by cases ty <;> rfl]; exact base' (.type "int") (.int 0) (by simp)
    | str x => rw [show isTy ty (D.str x) = isTy ty (D.str ⟨#[]⟩) from by cases ty <;> rfl]; exact base' (.type "str") (.str ⟨#[]⟩) (by simp)
    | tup l => rw [show isTy ty (D.tup l) = isTy ty (D.tup []) from by cases ty <;> rfl]; exact base' (.type "tuple") (.tup []) (by simp)
    | lst l => rw [show isTy ty (D.lst l) = isTy ty (D.lst []) from by cases ty <;> rfl]; exact base' (.type "list") (.lst []) (by simp)
    | dct l => rw [show isTy ty (D.dct l) = isTy ty (D.dct []) from by cases ty <;> rfl]; exact base' (.type "dict") (.dct []) (by simp)
    | ins c fs => rw [show isTy ty (D.ins c fs) = isTy ty (D.ins c []) from by cases ty <;> rfl]; exact ins' c (Nat.le_of_ble_eq_true ha)
    | me c fs => cases ha
    | draw => cases ha
  exact {
    nm := rfl
    inj := S.nm
    nmne := fun f x hx => S.ne x (List.mem_of_getElem? hx)
    free := free
    cons := fun x d hx => by
      have hm := TK.cons _ (mem_of_lookup (show t.cons.lookup x = some d from hx))
      cases d with
      | int i => obtain ⟨s, e⟩ := He.int_ok X N hm; exact .inl ⟨i, s, rfl, e⟩
      | str y => obtain ⟨s, e⟩ := He.str_ok X N hm; exact .inr (.inl ⟨y, s, rfl, e⟩)
      | _ => exact .inr (.inr ⟨fun _ z => (by cases z), fun _ z => (by cases z)⟩)
    cls := fun x c hx => by
      obtain ⟨_, e, k, ck⟩ := clsF x c hx
      refine ⟨clsG x c hx, ?_⟩
      show PySem.W.keepIn K (.ref (He.ga K (t.clN c))) = true
      rw [e]
      exact ck.keep
    fn := fun x f hx => by
      have e := look_fns (show (fnsL t.paths).lookup x = some f from hx)
      obtain ⟨h1, h2⟩ := TK.fns f x e
      show mg x = some (.ref (He.fAd K (t.pth f))) ∧ PySem.W.keepIn K (.ref (He.fAd K (t.pth f))) = true
      rw [pth_at e]
      exact ⟨He.glo_ok X N h1, h2⟩
    ins := fun c hc => by
      obtain ⟨k, ck, _, _⟩ := own c hc
      exact He.cls_ok ck.cls
    noat := fun c f hf => by
      have hc : c < t.T.cls.length := cls_lt hf
      obtain ⟨k, ck, hk, _⟩ := own c hc
      have hn : (k.ms.lookup f).isNone = true := by
        have : (match t.T.cls[c]? with | some C => (C.ms.lookup f).isNone | none => false) = true := hf
        rw [hk] at this
        exact this
      show PySem.W.findIn K (.ref (He.ga K (t.clN c))) ((t.nm[f]?).getD ⟨#[]⟩) = some none
      cases e : t.nm[f]? with
      | none => exact ck.no0
      | some y => exact ck.no f y e hn
    cad := fun c d hc hd e => by
      obtain ⟨x, k, h1, h2, h3, h4⟩ := S.at hc
      obtain ⟨y, k', g1, g2, g3, g4⟩ := S.at hd
      have e : He.ga K (t.clN c) = He.ga K (t.clN d) := e
      rw [h3, g3] at e
      have := TK.inj x h4 y g4 e
      subst this
      exact (List.getElem?_inj (List.getElem?_eq_some_iff.mp h1).1 S.nd).mp (h1.trans g1.symm)
    sps := {
      bool0 := fun c k hk hb => by
        obtain ⟨x, h1, h3, _⟩ := S.at2 hk
        have sp := (CL h1 hk).sp
        unfold spB at sp
        rw [hb] at sp
        obtain ⟨a, b⟩ := ands (ands sp).1
        show PySem.W.findIn K (.ref (He.ga K (t.clN c))) _ = _ ∧ PySem.W.findIn K (.ref (He.ga K (t.clN c))) _ = _
        rw [h3]
        exact ⟨He.eqO_ok a, He.eqO_ok b⟩
      bool1 := fun c k f hk hb => by
        obtain ⟨x, h1, h3, _⟩ := S.at2 hk
        have sp := (CL h1 hk).sp
        unfold spB at sp
        rw [hb] at sp
        obtain ⟨a, b⟩ := ands (ands sp).1
        show PySem.W.findIn K (.ref (He.ga K (t.clN c))) _ = _ ∧ _
        rw [h3]
        exact ⟨He.eqO_ok a, b⟩
      eq1 := fun c k f hk hb => by
        obtain ⟨x, h1, h3, _⟩ := S.at2 hk
        have ck := CL h1 hk
        have sp := ck.sp
        unfold spB at sp
        rw [hb] at sp
        obtain ⟨a, d⟩ := ands (ands sp).2
        obtain ⟨a, b⟩ := ands a
        show PySem.W.findIn K (.ref (He.ga K (t.clN c))) _ = _ ∧ _ ∧ PySem.W.findIn K (.ref (He.ga K (t.clN c))) _ = _ ∧ PySem.W.mroIn K (He.ga K (t.clN c)) _ = _
        rw [h3]
        exact ⟨He.eqO_ok a, b, He.eqO_ok d, ck.mro⟩
      nf := fun c d hc hd => by
        obtain ⟨x, k, h1, h2, h3, h4⟩ := S.at hc
        obtain ⟨y, k', g1, g2, g3, g4⟩ := S.at hd
        show PySem.W.notFirst K (He.ga K (t.clN c)) (.ref (He.ga K (t.clN d))) = true
        rw [h3, g3]
        exact TK.nf x h4 y g4 }
    isi := {
      lt := fun x c hx => (clsF x c hx).1
      cls := clsG
      free := free
      own := fun c hc => by
        obtain ⟨k, ck, _, _⟩ := own c hc
        exact ⟨He.cls_ok ck.cls, ck.own, TK.gc, TK.tk, ck.mro⟩
      one := kit }
    meth := fun c m k hm => by
      cases e : t.T.cls[c]? with
      | none =>
        have hm : ((t.T.cls[c]?).map Cl.ms).bind (List.lookup m) = some k := hm
        rw [e] at hm
        cases hm
      | some q =>
        obtain ⟨x, h1, h3, _⟩ := S.at2 e
        have ms := (CL h1 e).ms
        have hm : ((t.T.cls[c]?).map Cl.ms).bind (List.lookup m) = some k := hm
        rw [e] at hm
        have hm : q.ms.lookup m = some k := hm
        have := List.all_eq_true.mp ms (m, k) (lookup_mem hm)
        simp only at this
        cases ey : t.nm[m]? with
        | none => rw [ey] at this; cases this
        | some y =>
          rw [ey] at this
          obtain ⟨a, b⟩ := ands this
          have a := of_decide_eq_true a
          refine ⟨?_, y, ey⟩
          show Meth K (He.ga K (t.clN c)) ((t.nm[m]?).getD ⟨#[]⟩) (He.fAd K (t.pth k))
          rw [h3, ey, pth_at a]
          exact He.meth_ok b
    tmg := ⟨_, He.glo_ok X N TK.ta.1, TK.ta.2⟩ }
theorem prog_of (S : TopS t) (TK : TopK t K) (fb : fnsB t = true) (X : K.In h) (N : h.Ns mainGlobals mg) (sd : ∀ d ∈ defs t, ∃ fd, FunD K d.name d.qual d.params d.body d.scope (d.dvs K) (d.kws K) (He.fAd K d.at_) fd) : Prog (t.G w K mg base dr sa) t.C := by
  refine ⟨top_pg S TK X N, fun f F hf => ?_, fun c k hk => ?_⟩
  · have hl := (List.getElem?_eq_some_iff.mp hf).1
    have e1 : t.paths[f]? = some (t.paths[f]'(by rw [S.pl]; exact hl)) := List.getElem?_eq_getElem _
    have e2 : t.ns[f]? = some (t.ns[f]'(by rw [S.nl]; exact hl)) := List.getElem?_eq_getElem _
    generalize t.paths[f]'(by rw [S.pl]; exact hl) = p at e1
    generalize t.ns[f]'(by rw [S.nl]; exact hl) = N' at e2
    have ez : (t.T.fns.zip t.ns)[f]? = some (F, N') := by rw [List.getElem?_zip_eq_some]; exact ⟨hf, e2⟩
    have ed : (defs t)[f]? = some (defD t.prog.main.body p F.dfl) := by
      unfold defs
      rw [List.getElem?_map, show (t.paths.zip t.T.fns)[f]? = some (p, F) from by rw [List.getElem?_zip_eq_some]; exact ⟨e1, hf⟩]
      rfl
    have hb := List.all_eq_true.mp fb _ (get_zip ed ez)
    obtain ⟨fd, FD⟩ := sd _ (List.mem_of_getElem? ed)
    have ea : (defD t.prog.main.body p F.dfl).at_ = p := by unfold defD; split <;> rfl
    have edf : (defD t.prog.main.body p F.dfl).dfl = F.dfl.map dvOf := by unfold defD; split <;> rfl
    rw [ea] at FD
    show Def (t.G w K mg base dr sa) t.C (He.fAd K (t.pth f)) F
    rw [pth_at e1]
    exact def_of (G := t.G w K mg base dr sa) FD edf hb
  · obtain ⟨x, h1, h3, _⟩ := S.at2 hk
    have ck := clK_of (TK.cls _ _ _ h1 hk)
    show Mk K (He.ga K (t.clN c)) (He.fAd K (t.pth k.init))
    rw [h3, pth_at ck.init]
    exact He.mkr_ok ck.mkr
end BB
end
section
set_option Elab.async false
set_option linter.all false
set_option maxRecDepth 100000
set_option maxHeartbeats 4000000
/-! A law: from its draws to its promise. -/
namespace BB
open PySem PySem.Spec PyProof.Rows L2
variable {t : Top1} {K : PySem.W.Frag} {h : Heap} {mg : PySem.Str → Option Value} {w : World} {base : Heap} {dr sa : Addr}
abbrev noCal : Cal := fun _ _ => .stuck
abbrev noMak : Mak := fun _ _ => .stuck
theorem Pg.noTk {G : Gc} {C : Ck} (P : Pg G C) : Pg G { C with tk := false } := ⟨P.nm, P.inj, P.nmne, P.free, P.cons, P.cls, P.fn, P.ins, P.noat, P.cad, P.sps, ⟨P.isi.lt, P.isi.cls, P.isi.free, P.isi.own, P.isi.one⟩, P.meth, P.tmg⟩
/-- what a number of the script is drawn by: some number -/
def NumOk (T : Tb) (F : Fn) : Prop := ∀ (ns : List Int) (j : Int), ns.length ≤ 63 → 0 ≤ j → ∃ i : Int, callF T noCal noMak F [.lst (ns.map D.int), .int j] = .ok (.int i)
/-- a law's own text -/
structure LawT where
  num : Nat
  numF : Fn
  N : List PySem.Str
  B : Ss
def takeD (t : Top1) : He.DefD := defD t.prog.main.body ("_law_take", none) []
def lawD (t : Top1) : He.DefD := defD t.prog.main.body ("law", none) []
def numD (t : Top1) (L : LawT) : He.DefD := defD t.prog.main.body (t.pth L.num) L.numF.dfl
def allD (t : Top1) : List He.DefD := takeD t :: lawD t :: defs t
def headB : List Stmt → Bool
  | .Assign [.Name x _] (.List [.Name y _, .Constant (.int a) _ _] _) _ :: _ => x == ("draw" : PySem.Str) && y == ("script" : PySem.Str) && a == 0
  | _ => false
/-- the law's text is as told -/
def lawS (t : Top1) (L : LawT) : Bool :=
  headB (lawD t).body && chkSs { t.C with N := L.N } (lawD t).scope L.B ((lawD t).body.drop 1) && plainArgs (lawD t).params && decide (argN (lawD t) = ([("script" : PySem.Str)] : List PySem.Str)) && scopeB L.N ["script"] (lawD t).scope && decide (L.N[0]? = some ("script" : PySem.Str)) && decide (L.N[1]? = some ("draw" : PySem.Str)) && mayB L.N (lawD t).scope 1 && visB (lawD t).scope "script" &&
  takeB (takeD t).body && plainArgs (takeD t).params && decide (argN (takeD t) = ([("draw" : PySem.Str), ("many" : PySem.Str)] : List PySem.Str)) && scopeB ["draw", "many"] ["draw", "many"] (takeD t).scope && glB (takeD t).scope "int" && glB (takeD t).scope "_law_number" && visB (takeD t).scope "draw" && visB (takeD t).scope "many" &&
  t.free.contains "int" && decide (t.paths[L.num]? = some (("_law_number" : PySem.Str), none)) && (match t.ns[L.num]? with | some N => fnB { t.C with tk := false } (numD t L) L.numF N | none => false)
theorem vis_of2 {sc : Scope} {x : PySem.Str} (h : visB sc x = true) : Vis sc x := vis_of h
abbrev spLaw : Sp := fun vs H Q E => ∃ (a : Addr) (ns : List Int) (o : Obj), vs = [.ref a] ∧ ns.length ≤ 63 ∧ H a = some (.frz o (.lst (ns.map V.int))) ∧ ∀ H', Q (.bl true) H'
/-- at all draws the law tells True -/
def LawOk (t : Top1) (n : Nat) (L : LawT) : Prop := (exs t.T (call t.T n) (make t.T n) L.B (none :: some .draw :: List.replicate (L.N.length - 2) none) []).wp (fun fl => match fl with | .rt (.bl true) _ _ => True | _ => False) (fun _ _ => False)
theorem takeFn (P : Prog (t.G w K mg base dr sa) t.C) (TK : TopK t K) (X : K.In h) (Nn : h.Ns mainGlobals mg) {L : LawT} (hL : lawS t L = true) (hn : NumOk t.T L.numF) (sd : ∀ d ∈ allD t, ∃ fd, FunD K d.name d.qual d.params d.body d.scope (d.dvs K) (d.kws K) (He.fAd K d.at_) fd)
    (hnum : numD t L ∈ allD t) : FnG (t.G w K mg base dr sa) 3 (He.ga K "_law_take") takeR := by
  unfold lawS at hL
  obtain ⟨e, e20⟩ := ands hL
  obtain ⟨e, e19⟩ := ands e
  obtain ⟨e, e18⟩ := ands e
  obtain ⟨e, e17⟩ := ands e
  obtain ⟨e, e16⟩ := ands e
  obtain ⟨e, e15⟩ := ands e
  obtain ⟨e, e14⟩ := ands e
  obtain ⟨e, e13⟩ := ands e
  obtain ⟨e, e12⟩ := ands e
  obtain ⟨e, e11⟩ := ands e
  obtain ⟨e, e10⟩ := ands e
  have e19 := of_decide_eq_true e19
  obtain ⟨fdn, FN⟩ := sd _ hnum
  obtain ⟨fdt, FT⟩ := sd (takeD t) (List.mem_cons_self)
  have ea : (numD t L).at_ = (("_law_number" : PySem.Str), none) := by unfold numD; rw [pth_at e19]; rfl
  have edf : (numD t L).dfl = L.numF.dfl.map dvOf := by unfold numD; rw [pth_at e19]; rfl
  rw [ea] at FN
  have DN : Def (t.G w K mg base dr sa) { t.C with tk := false } (He.fAd K (("_law_number" : PySem.Str), none)) L.numF := by
    split at e20
    · exact def_of (G := t.G w K mg base dr sa) FN edf e20
    · cases e20
  have F2 : FnG (t.G w K mg base dr sa) 2 (He.fAd K (("_law_number" : PySem.Str), none)) (callF t.T noCal noMak L.numF) :=
    fn_step (k := 0) (G := t.G w K mg base dr sa) (C := { t.C with tk := false }) (cl := noCal) (mk := noMak) P.pg.noTk (fun f A outer s H us vs Q E hr e0 r ⟨O, ds, dl, o1, o2, o3, w⟩ => w.elim) (fun c X W b ex pins s σ H vs us Q I rv ⟨O, ds, dl, o1, o2, o3, w⟩ => w.elim) _ ⟨He.glo_ok X Nn TK.ta.1, TK.ta.2⟩ (fun z => by cases z) DN
  have hp := TK.fns L.num _ e19
  have S := scope_of e13
  have hargs := of_decide_eq_true e12
  refine take_ok (G := t.G w K mg base dr sa) F2 hn (a := He.ga K "_law_take") (show FunD K (takeD t).name (takeD t).qual (takeD t).params (takeD t).body (takeD t).scope [] ((takeD t).kws K) (He.ga K "_law_take") fdt from FT) S e10 e14 e15 (He.free_ok X Nn (TK.free _ (by simpa using e18))) (He.glo_ok X Nn hp.1) hp.2 (vis_of e16) (vis_of e17) ?_
  refine FunD.bindsN (show FunD K (takeD t).name (takeD t).qual (takeD t).params (takeD t).body (takeD t).scope [] ((takeD t).kws K) (He.ga K "_law_take") fdt from FT) fun kV doc pm an cdv ct us hl => ?_
  have nd : (argN (takeD t)).Nodup := by rw [hargs]; exact S.nd
  have := bind_all (x := (takeD t).name) (qual := (takeD t).qual) (body := (takeD t).body) (scope := (takeD t).scope) (kV := kV) (doc := doc) (pm := pm) (an := an) (cdv := cdv) (ct := ct) (us := us) e11 nd (by show us.length = (argN (takeD t)).length; rw [hargs]; exact hl)
  rw [this, show (takeD t).params.args.map (·.arg) = argN (takeD t) from rfl, hargs]
/-- the promise that any of many keeps -/
def tAny (T : Addr → Addr → TS) : TS := fun D σ H => ∃ a b, T a b D σ H
theorem pss_any {X : Cx} {l : List Stmt} {T : Addr → Addr → TS} (h : ∀ a b, PSs X l (T a b)) : PSs X l (tAny T) := ⟨fun pins s σ H D I ⟨a, b, q⟩ => (h a b).run pins s σ H D I q⟩
theorem law_fn (P : ∀ base dr sa, K.In base → base.Ns mainGlobals mg → Prog (t.G w K mg base dr sa) t.C) (TK : TopK t K) (X : K.In h) (Nn : h.Ns mainGlobals mg) {L : LawT} (hL : lawS t L = true) (hn : NumOk t.T L.numF)
    (sd : ∀ d ∈ allD t, ∃ fd, FunD K d.name d.qual d.params d.body d.scope (d.dvs K) (d.kws K) (He.fAd K d.at_) fd) (hnum : numD t L ∈ allD t) {n : Nat} (hok : LawOk t n L) :
    ∃ fd : FuncData, (∀ (s : Shared) (v : Value), BindsTo s fd ⟨[v], []⟩ [("script", v)]) ∧ ∀ base : Heap, K.In base → base.Ns mainGlobals mg → FnOk t.prog w K mg base CX0 (2 * n + 5) (He.ga K "law") fd ["script"] spLaw := by
  have hL' := hL
  unfold lawS at hL
  obtain ⟨e, e20⟩ := ands hL
  obtain ⟨e, e19⟩ := ands e
  obtain ⟨e, e18⟩ := ands e
  obtain ⟨e, e17⟩ := ands e
  obtain ⟨e, e16⟩ := ands e
  obtain ⟨e, e15⟩ := ands e
  obtain ⟨e, e14⟩ := ands e
  obtain ⟨e, e13⟩ := ands e
  obtain ⟨e, e12⟩ := ands e
  obtain ⟨e, e11⟩ := ands e
  obtain ⟨e, e10⟩ := ands e
  obtain ⟨e, e9⟩ := ands e
  obtain ⟨e, e8⟩ := ands e
  obtain ⟨e, e7⟩ := ands e
  obtain ⟨e, e6⟩ := ands e
  obtain ⟨e, e5⟩ := ands e
  obtain ⟨e, e4⟩ := ands e
  obtain ⟨e, e3⟩ := ands e
  obtain ⟨e1, e2⟩ := ands e
  have hargs := of_decide_eq_true e4
  have S := scope_of e5
  obtain ⟨fd, FT⟩ := sd (lawD t) (List.mem_cons_of_mem _ List.mem_cons_self)
  have FD : FunD K (lawD t).name (lawD t).qual (lawD t).params (lawD t).body (lawD t).scope [] ((lawD t).kws K) (He.ga K "law") fd := FT
  have nd : (argN (lawD t)).Nodup := by rw [hargs]; decide
  refine ⟨fd, fun s v => ?_, fun base hKb hNb => ?_⟩
  · have := FunD.bindsA (ps := ["script"]) FD (fun kV doc pm an cdv ct us hl => by
      have := bind_all (x := (lawD t).name) (qual := (lawD t).qual) (body := (lawD t).body) (scope := (lawD t).scope) (kV := kV) (doc := doc) (pm := pm) (an := an) (cdv := cdv) (ct := ct) (us := us) e3 nd (by show us.length = (argN (lawD t)).length; rw [hargs]; exact hl)
      rw [this, show (lawD t).params.args.map (·.arg) = argN (lawD t) from rfl, hargs]) s [v] rfl
    exact this
  · refine FD.ok S (fun vs H Q E ⟨a, ns, o, h, _⟩ => by rw [h]; rfl) fun cdv A outer s H vs Q E hr hsp => ?_
    have TK3 : ∀ dr sa, FnG (t.G w K mg base dr sa) 3 (He.ga K "_law_take") takeR := fun dr sa => takeFn (P base dr sa hKb hNb) TK X Nn hL' hn sd hnum
    have hta : ∀ dr sa, (t.G w K mg base dr sa).mg "_law_take" = some (.ref (He.ga K "_law_take")) ∧ PySem.W.keepIn (t.G w K mg base dr sa).K (.ref (He.ga K "_law_take")) = true := fun dr sa => ⟨He.glo_ok X Nn TK.ta.1, TK.ta.2⟩
    have CA : ∀ dr sa, (∀ f, FnG (t.G w K mg base dr sa) (2 * n + 3) ((t.G w K mg base dr sa).fad f) (call t.T n f)) ∧ (∀ c, MkG (t.G w K mg base dr sa) (2 * n + 3 + 1) c (make t.T n c)) := fun dr sa => calls (P base dr sa hKb hNb) (hta dr sa) (fun _ => TK3 dr sa) n
    generalize hB : (lawD t).body = bd at e1 e2 ⊢
    unfold headB at e1
    split at e1
    · rename_i x p1 y p2 c k p3 p4 p5 rest
      obtain ⟨e1, k3⟩ := ands e1
      obtain ⟨k1, k2⟩ := ands e1
      have k1 : x = ("draw" : PySem.Str) := by simpa using k1
      have k2 : y = ("script" : PySem.Str) := by simpa using k2
      have k3 : c = 0 := by simpa using k3
      subst k1 k2 k3
      generalize hX : cxOf CX0 t.prog w K mg base L.N (lawD t).qual (lawD t).scope (He.ga K "law") cdv A outer s H E = Y
      have b : ∀ dr sa, CxB (t.G w K mg base dr sa) (2 * n + 4) Y := fun dr sa => by subst hX; exact ⟨rfl, rfl, rfl, rfl, rfl, rfl, hr, S.nd, S.kind⟩
      have hN : Y.N = L.N := by subst hX; rfl
      have hs : Y.env.scope = (lawD t).scope := by subst hX; rfl
      have hf : ∀ x, Y.fn x = true := by subst hX; exact fun _ => rfl
      have own : PassesOwn (model Y.prog Y.w) Y.A Y.env Y.xe := by subst hX; exact passes_of rfl
      have cx : ∀ dr sa, CxO (t.G w K mg base dr sa) L.N (2 * n + 4) Y (KE E0) := fun dr sa => ⟨b dr sa, hN, .inl fun _ _ _ _ z => z⟩
      have rest1 : ∀ dr sa, PSs Y rest (tSs (t.G w K mg base dr sa) (call t.T n) (make t.T n) E0 L.B) := fun dr sa =>
        sSs (C := { t.C with N := L.N }) (Ek := E0) (CxO (t.G w K mg base dr sa) L.N (2 * n + 4)) (fun X W s H scope cells D fp own hx ok => cx_blk X W s H scope cells D fp own hx ok)
          (fun X W hx => rl_of (C := { t.C with N := L.N }) ((P base dr sa hKb hNb).pg.on L.N) hx (CA dr sa).1) (fun X W hx => rlW_of (C := { t.C with N := L.N }) ((P base dr sa hKb hNb).pg.on L.N) hx (CA dr sa).1 (CA dr sa).2 _ (hta dr sa) fun _ => FnR.mono (TK3 dr sa) (by omega))
          L.B rest (lawD t).scope e2 Y (cx dr sa) ⟨hs, fun x _ => hf x, own⟩
      have h0 : Y.N[0]? = some ("script" : PySem.Str) := by rw [hN]; exact of_decide_eq_true e6
      have h1 : Y.N[1]? = some ("draw" : PySem.Str) := by rw [hN]; exact of_decide_eq_true e7
      have ndY : Y.N.Nodup := by rw [hN]; exact S.nd
      obtain ⟨loc, fx⟩ := mayB_put (X := Y) (C := { t.C with N := L.N }) (ns := [1]) hN hs (fun x _ => hf x) (by rw [List.all_cons]; exact (Bool.and_eq_true _ _).mpr ⟨e8, rfl⟩) 1 List.mem_cons_self _ h1
      have s1 : PS Y _ _ := ps_set (X := Y) (pos' := p1) (pos := p5) ndY h1 loc (pe_lst (pos := p4) (pa_cons (pe_var (pos := p2) h0 (by rw [hs]; exact vis_of e9)) (pa_cons (pe_int (i := 0) (j := k) (pos := p3)) pa_nil))) (sw_name (b 0 0).kind _ _ _ _) fx
      refine ⟨_, pss_cons s1 (pss_any rest1), ?_⟩
      obtain ⟨a, ns, o, rfl, hns, hfr, hq⟩ := hsp
      refine ⟨_, rfl, (by rw [sizeLine_eq]; exact (by decide : 2 ≤ 16777216)), fun p hp => ?_⟩
      have ne : a ≠ p := fun z => by rw [z, hp] at hfr; cases hfr
      have ha : upd H p (.lst [.ref a, .int 0]) a = some (.frz o (.lst (ns.map V.int))) := by rw [upd_ne ne]; exact hfr
      have hlen : 2 ≤ L.N.length := by
        have := (List.getElem?_eq_some_iff.mp (of_decide_eq_true e7)).1
        omega
      refine ⟨p, a, { H0 := upd H p (.lst [.ref a, .int 0]), O0 := [p], O := [p], ω := [], ρ := none :: some .draw :: List.replicate (L.N.length - 2) none }, ?_, ?_⟩
      · exact {
          gr := Grow.refl _
          dr := ⟨0, Int.le_refl _, upd_same, o, ns, ha, hns, ne⟩
          drO := List.mem_singleton.mpr rfl
          sub := fun _ h => h
          low := fun b hb => by rw [List.mem_singleton.mp hb]; exact ⟨_, upd_same⟩
          new := fun _ h => .inl h
          live := fun b hb => by rw [List.mem_singleton.mp hb]; exact ⟨_, upd_same⟩
          len := by
            unfold L2.start
            rw [List.length_set]
            simp only [List.length_append, List.length_cons, List.length_map, List.length_replicate, List.length_nil]
            omega
          val := fun i d _ hi => by
            match i, hi with
            | 0, hi => cases hi
            | 1, hi =>
              cases hi
              refine ⟨.ref p, ?_, rfl⟩
              refine List.getElem?_set_self ?_
              unfold L2.start
              rw [List.length_append, List.length_map, List.length_replicate]
              show 1 < 1 + (L.N.length - 1)
              omega
            | i + 2, hi =>
              have hi : (List.replicate (L.N.length - 2) none)[i]? = some (some d) := hi
              rw [List.getElem?_replicate] at hi
              split at hi <;> cases hi
          own := fun i hi => by cases hi
          inj := fun i hi => by cases hi
          self := fun a c fs e => by cases e }
      · refine Res.wp_mono (fun fl hfl => ?_) (fun c fs z => z.elim) hok
        match fl, hfl with
        | .rt (.bl true) ρ ω, _ =>
          intro O' σ' H' v R dv
          have e : v = .bl true := dv
          subst e
          exact hq H'
    · cases e1
end BB
end
section
set_option Elab.async false
set_option linter.all false
set_option maxRecDepth 100000
set_option maxHeartbeats 4000000
/-! The head's hook: one test of all that is asked. -/
namespace BB
open PySem PySem.Spec PyProof.Rows L2
def obsB (b : PySem.W.Frag → Bool) (fn : List He.DefD) (K : PySem.W.Frag) : He.AlD := (b K && fn.all fun d => d.ok K, fn.map fun d => He.fnW K d.at_)
def obsBG (n : Nat) (b : PySem.W.Frag → Bool) (fn : List He.DefD) (g : Addr → Option Obj) : He.AlD := obsB b fn (He.frG g (He.asD g n))
def hookB (n : Nat) (b : PySem.W.Frag → Bool) (fn : List He.DefD) : PySem.W.Hook where
  α := He.AlD
  obs := fun s => obsBG n b fn s.heap.get?
  val := fun _ => He.valD fn
  says := fun _ h => ∃ K : PySem.W.Frag, K.In h ∧ obsB b fn K = He.valD fn
  of := fun _ _ e => ⟨_, He.frG_in, e⟩
  keeps := fun _ _ _ ⟨K, hK, c⟩ k => ⟨K, PySem.W.Frag.In.keeps hK k, c⟩
theorem obsBG_eq {n : Nat} {b : PySem.W.Frag → Bool} {fn : List He.DefD} {g : Addr → Option Obj} {s : Shared} (h : ∀ a, g a = s.heap.get? a) : obsBG n b fn g = (hookB n b fn).obs s := by
  have e : g = s.heap.get? := funext h
  rw [e] <;> rfl
theorem saysB_b {b : PySem.W.Frag → Bool} {fn : List He.DefD} {K : PySem.W.Frag} (c : obsB b fn K = He.valD fn) : b K = true := (ands (show (b K && fn.all fun d => d.ok K) = true from congrArg (fun z : He.AlD => z.1) c)).1
theorem saysB_def {b : PySem.W.Frag → Bool} {fn : List He.DefD} {K : PySem.W.Frag} (c : obsB b fn K = He.valD fn) : ∀ d ∈ fn, ∃ fd, FunD K d.name d.qual d.params d.body d.scope (d.dvs K) (d.kws K) (He.fAd K d.at_) fd := by
  intro d hd
  have c2 := (ands (show (b K && fn.all fun d => d.ok K) = true from congrArg (fun z : He.AlD => z.1) c)).2
  have e : fn.map (fun d => He.fnW K d.at_) = fn.map He.DefD.val := congrArg (fun z : He.AlD => z.2) c
  obtain ⟨i, hi⟩ := List.mem_iff_getElem?.mp hd
  have e2 : (fn.map fun d => He.fnW K d.at_)[i]? = (fn.map He.DefD.val)[i]? := by rw [e]
  rw [List.getElem?_map, List.getElem?_map, hi] at e2
  exact He.DefD.funD (Option.some.inj e2) (List.all_eq_true.mp c2 d hd)
theorem num_mem {t : Top1} {L : LawT} {p : PySem.Str × Option PySem.Str} (h1 : t.paths[L.num]? = some p) (h2 : t.T.fns[L.num]? = some L.numF) : numD t L ∈ allD t := by
  refine List.mem_cons_of_mem _ (List.mem_cons_of_mem _ ?_)
  unfold defs numD
  rw [pth_at h1]
  have : (t.paths.zip t.T.fns)[L.num]? = some (p, L.numF) := by rw [List.getElem?_zip_eq_some]; exact ⟨h1, h2⟩
  exact List.mem_map.mpr ⟨_, List.mem_of_getElem? this, rfl⟩
theorem law_facts {t : Top1} {K : PySem.W.Frag} {h : Heap} {mg : PySem.Str → Option Value} {w : World} {L : LawT} {n : Nat} {f : Addr} (S : topS t = true) (fb : fnsB t = true) (hL : lawS t L = true) (hn : NumOk t.T L.numF) (h2 : t.T.fns[L.num]? = some L.numF) (hok : LawOk t n L)
    (X : K.In h) (N : h.Ns mainGlobals mg) (c : obsB (fun K => topK t K && (He.Fa.glo "law").ok K) (allD t) K = He.valD (allD t)) (hfa : mg ("law" : PySem.Str) = some (.ref f)) :
    ∃ fd : FuncData, (∀ (s : Shared) (v : Value), BindsTo s fd ⟨[v], []⟩ [("script", v)]) ∧ ∀ base : Heap, K.In base → base.Ns mainGlobals mg → FnOk t.prog w K mg base CX0 (2 * n + 5) f fd ["script"] spLaw := by
  obtain ⟨b1, b2⟩ := ands (saysB_b c)
  have TK := topK_of b1
  have sd := saysB_def c
  have h1 : t.paths[L.num]? = some (("_law_number" : PySem.Str), none) := by
    unfold lawS at hL
    obtain ⟨e, e20⟩ := ands hL
    exact of_decide_eq_true (ands e).2
  have e := hfa.symm.trans (He.glo_ok X N b2)
  cases e
  exact law_fn (fun base dr sa hk hb => prog_of (topS_of S) TK fb hk hb fun d hd => sd d (List.mem_cons_of_mem _ (List.mem_cons_of_mem _ hd))) TK X N hL hn sd (num_mem h1 h2) hok
theorem nol_script {t : Top1} {K : PySem.W.Frag} {H : Hp} {a : Addr} {ns : List Int} (TK : TopK t K) (hO : Only H) (hS : SqL K H a (ns.map V.int)) : ∃ o, H a = some (.frz o (.lst (ns.map V.int))) := by
  rcases hS with (h | h) | ⟨o, its, m, lk, hc, _⟩
  · rcases hO a with z | ⟨o, xs, z⟩
    · rw [h] at z; cases z
    · rw [h] at z; cases z
  · exact h
  · exact (TK.nol (a, o) (lookup_mem lk) hc).elim
end BB
end
section
set_option Elab.async false
set_option linter.all false
set_option maxRecDepth 100000
set_option maxHeartbeats 4000000
/-! The interpreter, step by step. -/
namespace BB
section
variable {T : Tb} {cl : Cal} {mk : Mak} {α β : Type}
theorem b_ok (a : α) (f : α → Res β) : (Res.ok a).bind f = f a := rfl
theorem b_st (f : α → Res β) : (Res.stuck : Res α).bind f = .stuck := rfl
theorem b_ra (c : Nat) (x : Fs) (f : α → Res β) : (Res.raise c x : Res α).bind f = .raise c x := rfl
theorem b_as (n : Nat) (k : Nat → Res α) (f : α → Res β) : (Res.ask n k).bind f = .ask n fun i => (k i).bind f := rfl
theorem o_some (a : α) : Res.ofOpt (some a) = .ok a := rfl
theorem t_bl (b : Bool) : truR T cl (.bl b) = .ok b := rfl
theorem t_int (i : Int) : truR T cl (.int i) = .ok (i != 0) := rfl
theorem t_non : truR T cl .non = .ok false := rfl
theorem t_lst (l : List D) : truR T cl (.lst l) = .ok (!l.isEmpty) := rfl
theorem t_tup (l : List D) : truR T cl (.tup l) = .ok (!l.isEmpty) := rfl
theorem t_dct (l : List (D × D)) : truR T cl (.dct l) = .ok (!l.isEmpty) := rfl
theorem s_no (x : D) : starR false x = .ok [x] := rfl
theorem s_l (x : List D) : starR true (.lst x) = .ok x := rfl
theorem s_t (x : List D) : starR true (.tup x) = .ok x := rfl
theorem bi_lenL (l : List D) : biR .len [.lst l] = .ok (.int l.length) := rfl
theorem bi_lenT (l : List D) : biR .len [.tup l] = .ok (.int l.length) := rfl
theorem bi_lenD (l : List (D × D)) : biR .len [.dct l] = .ok (.int l.length) := rfl
theorem bi_int (i : Int) : biR .int [.int i] = .ok (.int i) := rfl
theorem op_addI (i j : Int) : binop .add (.int i) (.int j) = .ok (.int (i + j)) := rfl
theorem op_subI (i j : Int) : binop .sub (.int i) (.int j) = .ok (.int (i - j)) := rfl
theorem op_mulI (i j : Int) : binop .mul (.int i) (.int j) = if smallI i || smallI j then .ok (.int (i * j)) else .stuck := rfl
theorem op_fdivI (i j : Int) : binop .fdiv (.int i) (.int j) = if j ≠ 0 ∧ j.natAbs < 1073741824 then .ok (.int (i.fdiv j)) else .stuck := rfl
theorem op_modI (i j : Int) : binop .mod (.int i) (.int j) = if j ≠ 0 then .ok (.int (i.fmod j)) else .stuck := rfl
theorem op_powI (i j : Int) : binop .pow (.int i) (.int j) = if 0 ≤ j ∧ j ≤ 1000000 ∧ i.natAbs < 18446744073709551616 then .ok (.int (i ^ j.toNat)) else .stuck := rfl
theorem op_addL (l m : List D) : binop .add (.lst l) (.lst m) = if l.length + m.length ≤ big then .ok (.lst (l ++ m)) else .stuck := rfl
theorem ix_L (l : List D) (i : Int) : index (.lst l) (.int i) = Res.ofOpt (getI l i) := rfl
theorem ix_T (l : List D) (i : Int) : index (.tup l) (.int i) = Res.ofOpt (getI l i) := rfl
theorem c_gtI (i j : Int) : cmpR T cl .gt (.int i) (.int j) = .ok (.bl (decide (j < i))) := rfl
theorem c_leI (i j : Int) : cmpR T cl .le (.int i) (.int j) = .ok (.bl (decide (i ≤ j))) := rfl
theorem c_geI (i j : Int) : cmpR T cl .ge (.int i) (.int j) = .ok (.bl (decide (j ≤ i))) := rfl
theorem c_ltI (i j : Int) : cmpR T cl .lt (.int i) (.int j) = .ok (.bl (decide (i < j))) := rfl
theorem c_eqI (i j : Int) : cmpR T cl .eq (.int i) (.int j) = .ok (.bl (i == j)) := rfl
theorem c_neI (i j : Int) : cmpR T cl .ne (.int i) (.int j) = .ok (.bl (!(i == j))) := rfl
theorem p_nm (i : Nat) (d : D) (ρ : Env) : (Pat.nm i).bind d ρ = if i < ρ.length then some (ρ.set i (some d)) else none := rfl
theorem p_tup (ps : List Pat) (ds : List D) (ρ : Env) : (Pat.tup ps).bind (.tup ds) ρ = Pat.binds ps ds ρ := rfl
theorem p_nil (ρ : Env) : Pat.binds [] [] ρ = some ρ := rfl
theorem p_cons (p : Pat) (ps : List Pat) (d : D) (ds : List D) (ρ : Env) : Pat.binds (p :: ps) (d :: ds) ρ = match p.bind d ρ with | some ρ' => Pat.binds ps ds ρ' | none => none := rfl
theorem e_bl (a : Bool) : cmpR T cl .eq (.bl a) (.bl true) = .ok (.bl (a == true)) := rfl
theorem exs_step {s : S} {r : Ss} {ρ ρ' : Env} {ω ω' : Own} {z : Res Fl} (ok : okLk ρ (lkS s) = true) (e : ex T cl mk s ρ ω = .ok (.nx ρ' ω')) (h : exs T cl mk r ρ' ω' = z) : exs T cl mk (.cons s r) ρ ω = z := by
  show (if okLk ρ (lkS s) then _ else _) = _
  rw [if_pos ok, e]
  exact h
theorem exs_end {s : S} {r : Ss} {ρ ρ' : Env} {ω ω' : Own} {d : D} (ok : okLk ρ (lkS s) = true) (e : ex T cl mk s ρ ω = .ok (.rt d ρ' ω')) : exs T cl mk (.cons s r) ρ ω = .ok (.rt d ρ' ω') := by
  show (if okLk ρ (lkS s) then _ else _) = _
  rw [if_pos ok, e]
  rfl
theorem exs_fin {ρ : Env} {ω : Own} : exs T cl mk .nil ρ ω = .ok (.nx ρ ω) := rfl
/-- a for whose turns all go on -/
theorem for_inv {p : Pat} {it : It} {body : Ss} {ρ : Env} {ω : Own} {l : List D} (I : Env → Prop) (e : evI T cl mk it ρ = .ok l) (h0 : minus ω (lkF it) = ω) (i0 : I ρ)
    (h : ∀ d ∈ l, ∀ ρ, I ρ → ∃ ρ1 ρ2, p.bind d ρ = some ρ1 ∧ exs T cl mk body ρ1 (minus ω p.names) = .ok (.nx ρ2 ω) ∧ I ρ2) : ∃ ρ2, ex T cl mk (.for_ p it body) ρ ω = .ok (.nx ρ2 ω) ∧ I ρ2 := by
  have go : ∀ (l' : List D), (∀ d ∈ l', d ∈ l) → ∀ ρ, I ρ → ∃ ρ2, forGo (fun ρ ω d => match p.bind d ρ with
    | some ρ' => exs T cl mk body ρ' (minus ω p.names)
    | none => .stuck) l' ρ ω = .ok (.nx ρ2 ω) ∧ I ρ2 := by
    intro l'
    induction l' with
    | nil => exact fun _ ρ i => ⟨ρ, rfl, i⟩
    | cons d l' ih =>
      intro hl ρ i
      obtain ⟨ρ1, ρ2, e1, e2, i2⟩ := h d (hl d List.mem_cons_self) ρ i
      obtain ⟨ρ3, e3, i3⟩ := ih (fun d hd => hl d (List.mem_cons_of_mem _ hd)) ρ2 i2
      refine ⟨ρ3, ?_, i3⟩
      unfold forGo
      simp only [e1, e2, b_ok]
      exact e3
  obtain ⟨ρ2, e2, i2⟩ := go l (fun _ h => h) ρ i0
  refine ⟨ρ2, ?_, i2⟩
  show (evI T cl mk it ρ).bind _ = _
  rw [e, b_ok, h0]
  exact e2
/-! by the text -/
section
variable {ρ : Env} {a b c e : E} {es : Es} {x y z d : D} {l m : List D} {r : Res D} {t : Bool}
theorem v_var {i : Nat} (h : ρ[i]? = some (some d) := by rfl) : ev T cl mk (.var i) ρ = .ok d := by show (match ρ[i]? with | some (some d) => Res.ok d | _ => .stuck) = _; rw [h]
theorem v_cst : ev T cl mk (.cst d) ρ = .ok d := rfl
theorem s_nil : evs T cl mk .nil ρ = .ok [] := rfl
theorem s_cons (h1 : ev T cl mk e ρ = .ok d) (h2 : evs T cl mk es ρ = .ok l) : evs T cl mk (.cons false e es) ρ = .ok (d :: l) := by show (ev T cl mk e ρ).bind _ = _; rw [h1, b_ok, s_no, b_ok, h2]; rfl
theorem s_starL (h1 : ev T cl mk e ρ = .ok (.lst m)) (h2 : evs T cl mk es ρ = .ok l) : evs T cl mk (.cons true e es) ρ = .ok (m ++ l) := by show (ev T cl mk e ρ).bind _ = _; rw [h1, b_ok, s_l, b_ok, h2]; rfl
theorem s_starT (h1 : ev T cl mk e ρ = .ok (.tup m)) (h2 : evs T cl mk es ρ = .ok l) : evs T cl mk (.cons true e es) ρ = .ok (m ++ l) := by show (ev T cl mk e ρ).bind _ = _; rw [h1, b_ok, s_t, b_ok, h2]; rfl
theorem v_mk {c : Nat} (h : evs T cl mk es ρ = .ok l) (k : mk c l = r) : ev T cl mk (.mk c es) ρ = r := by show (evs T cl mk es ρ).bind _ = _; rw [h]; exact k
theorem v_call {c : Nat} (h : evs T cl mk es ρ = .ok l) (k : cl c l = r) : ev T cl mk (.call c es) ρ = r := by show (evs T cl mk es ρ).bind _ = _; rw [h]; exact k
theorem v_meth {n f : Nat} (h1 : ev T cl mk a ρ = .ok x) (h2 : evs T cl mk es ρ = .ok l) (k : cl f (x :: l) = r) (hm : methR T x n = .ok f := by rfl) : ev T cl mk (.meth a n es) ρ = r := by show (ev T cl mk a ρ).bind _ = _; rw [h1, b_ok, hm, b_ok, h2, b_ok]; exact k
theorem v_att {c f : Nat} {fs : Fs} (h1 : ev T cl mk a ρ = .ok (.ins c fs)) (h2 : fs.lookup f = some d := by rfl) (h3 : T.noMeth c f = true := by rfl) : ev T cl mk (.att a f) ρ = .ok d := by show (ev T cl mk a ρ).bind _ = _; rw [h1, b_ok]; show (if T.noMeth c f then _ else _) = _; rw [if_pos h3, h2]; rfl
theorem v_bin {op : Bop} (h1 : ev T cl mk a ρ = .ok x) (h2 : ev T cl mk b ρ = .ok y) (k : binop op x y = r) : ev T cl mk (.bin op a b) ρ = r := by show (ev T cl mk a ρ).bind _ = _; rw [h1, b_ok, h2, b_ok]; exact k
theorem v_cmp {op : Cop} (h1 : ev T cl mk a ρ = .ok x) (h2 : ev T cl mk b ρ = .ok y) (k : cmpR T cl op x y = r) : ev T cl mk (.cmp op a b) ρ = r := by show (ev T cl mk a ρ).bind _ = _; rw [h1, b_ok, h2, b_ok]; exact k
theorem v_cmp2 {op op2 : Cop} (h1 : ev T cl mk a ρ = .ok x) (h2 : ev T cl mk b ρ = .ok y) (h3 : ev T cl mk c ρ = .ok z) (k1 : cmpR T cl op x y = .ok (.bl true)) (k2 : cmpR T cl op2 y z = r) : ev T cl mk (.cmp2 op op2 a b c) ρ = r := by show (ev T cl mk a ρ).bind _ = _; rw [h1, b_ok, h2, b_ok, k1, b_ok]; show (ev T cl mk c ρ).bind _ = _; rw [h3, b_ok]; exact k2
theorem v_idx (h1 : ev T cl mk a ρ = .ok x) (h2 : ev T cl mk b ρ = .ok y) (k : index x y = r) : ev T cl mk (.idx a b) ρ = r := by show (ev T cl mk a ρ).bind _ = _; rw [h1, b_ok, h2, b_ok]; exact k
theorem v_not (h1 : ev T cl mk a ρ = .ok x) (h2 : truR T cl x = .ok t := by rfl) : ev T cl mk (.not a) ρ = .ok (.bl !t) := by show (ev T cl mk a ρ).bind _ = _; rw [h1, b_ok, h2]; rfl
theorem v_nt (h1 : ev T cl mk a ρ = .ok x) (h2 : truR T cl x = .ok true := by rfl) : ev T cl mk (.not a) ρ = .ok (.bl false) := v_not h1 h2
theorem v_nf (h1 : ev T cl mk a ρ = .ok x) (h2 : truR T cl x = .ok false := by rfl) : ev T cl mk (.not a) ρ = .ok (.bl true) := v_not h1 h2
theorem v_andT (h1 : ev T cl mk a ρ = .ok x) (k : ev T cl mk b ρ = r) (h2 : truR T cl x = .ok true := by rfl) : ev T cl mk (.and a b) ρ = r := by show (ev T cl mk a ρ).bind _ = _; rw [h1, b_ok, h2, b_ok, if_pos rfl]; exact k
theorem v_andF (h1 : ev T cl mk a ρ = .ok x) (h2 : truR T cl x = .ok false := by rfl) : ev T cl mk (.and a b) ρ = .ok x := by show (ev T cl mk a ρ).bind _ = _; rw [h1, b_ok, h2, b_ok, if_neg (by decide)]
theorem v_orF (h1 : ev T cl mk a ρ = .ok x) (k : ev T cl mk b ρ = r) (h2 : truR T cl x = .ok false := by rfl) : ev T cl mk (.or a b) ρ = r := by show (ev T cl mk a ρ).bind _ = _; rw [h1, b_ok, h2, b_ok, if_neg (by decide)]; exact k
theorem v_orT (h1 : ev T cl mk a ρ = .ok x) (h2 : truR T cl x = .ok true := by rfl) : ev T cl mk (.or a b) ρ = .ok x := by show (ev T cl mk a ρ).bind _ = _; rw [h1, b_ok, h2, b_ok, if_pos rfl]
theorem v_iteT (h1 : ev T cl mk c ρ = .ok x) (k : ev T cl mk a ρ = r) (h2 : truR T cl x = .ok true := by rfl) : ev T cl mk (.ite c a b) ρ = r := by show (ev T cl mk c ρ).bind _ = _; rw [h1, b_ok, h2, b_ok, if_pos rfl]; exact k
theorem v_iteF (h1 : ev T cl mk c ρ = .ok x) (k : ev T cl mk b ρ = r) (h2 : truR T cl x = .ok false := by rfl) : ev T cl mk (.ite c a b) ρ = r := by show (ev T cl mk c ρ).bind _ = _; rw [h1, b_ok, h2, b_ok, if_neg (by decide)]; exact k
theorem v_tup (h : evs T cl mk es ρ = .ok l) (hl : l.length ≤ big := by exact Nat.le_of_ble_eq_true rfl) : ev T cl mk (.tup es) ρ = .ok (.tup l) := by show (evs T cl mk es ρ).bind _ = _; rw [h, b_ok, if_pos hl]
theorem v_lst (h : evs T cl mk es ρ = .ok l) (hl : l.length ≤ big := by exact Nat.le_of_ble_eq_true rfl) : ev T cl mk (.lst es) ρ = .ok (.lst l) := by show (evs T cl mk es ρ).bind _ = _; rw [h, b_ok, if_pos hl]
theorem v_bi {bb : Bi} (h : evs T cl mk es ρ = .ok l) (k : biR bb l = r) : ev T cl mk (.bi bb es) ρ = r := by show (evs T cl mk es ρ).bind _ = _; rw [h]; exact k
theorem v_isi {ts : List Ty} (h : ev T cl mk a ρ = .ok x) (hk : isiOk T x = true := by rfl) : ev T cl mk (.isi a ts) ρ = .ok (.bl (ts.any fun t => isTy t x)) := by show (ev T cl mk a ρ).bind _ = _; rw [h, b_ok, if_pos hk]
theorem v_isiT {ts : List Ty} (h : ev T cl mk a ρ = .ok x) (hk : isiOk T x = true := by rfl) (ht : (ts.any fun t => isTy t x) = true := by rfl) : ev T cl mk (.isi a ts) ρ = .ok (.bl true) := by rw [v_isi h hk, ht]
theorem v_bm {mm : Bm} (h1 : ev T cl mk a ρ = .ok x) (h2 : evs T cl mk es ρ = .ok l) (k : bmop mm x l = r) (hc : bmChk mm x = true := by rfl) : ev T cl mk (.bm mm a es) ρ = r := by show (ev T cl mk a ρ).bind _ = _; rw [h1, b_ok, if_pos hc, h2, b_ok]; exact k
theorem v_bw {bb : Bw} (h1 : ev T cl mk a ρ = .ok x) (h2 : bwD bb x = some l) (k : walkD bb l = r) : ev T cl mk (.bw bb (.val a)) ρ = r := by show (ev T cl mk a ρ).bind _ = _; rw [h1, b_ok, h2]; exact k
theorem i_val (h : ev T cl mk a ρ = .ok x) (hl : items x = some l := by rfl) : evI T cl mk (.val a) ρ = .ok l := by show (ev T cl mk a ρ).bind _ = _; rw [h, b_ok, hl]; rfl
theorem i_rng1 {i : Int} (h : ev T cl mk a ρ = .ok (.int i)) (hi : i ≤ big ∧ -(big : Int) ≤ i) : evI T cl mk (.rng1 a) ρ = .ok (rng 0 i.toNat) := by show (ev T cl mk a ρ).bind _ = _; rw [h, b_ok]; show (if i ≤ big ∧ -(big : Int) ≤ i then _ else _) = _; rw [if_pos hi]
theorem i_rng2 {i j : Int} (h : ev T cl mk a ρ = .ok (.int i)) (h2 : ev T cl mk b ρ = .ok (.int j)) (hi : j ≤ big ∧ -(big : Int) ≤ j ∧ i ≤ big ∧ -(big : Int) ≤ i) : evI T cl mk (.rng2 a b) ρ = .ok (rng i (j - i).toNat) := by show (ev T cl mk a ρ).bind _ = _; rw [h, b_ok, h2, b_ok]; show (if j ≤ big ∧ -(big : Int) ≤ j ∧ i ≤ big ∧ -(big : Int) ≤ i then _ else _) = _; rw [if_pos hi]
theorem i_enum (h : ev T cl mk a ρ = .ok x) (hl : srcD x = some l := by rfl) : evI T cl mk (.enum (.val a)) ρ = .ok (enumD 0 l) := by show (ev T cl mk a ρ).bind _ = _; rw [h, b_ok, hl]; rfl
theorem i_zip (h : ev T cl mk a ρ = .ok x) (h2 : ev T cl mk b ρ = .ok y) (hl : srcD x = some l := by rfl) (hm : srcD y = some m := by rfl) : evI T cl mk (.zip2 (.val a) (.val b)) ρ = .ok (zipD l m) := by show (ev T cl mk a ρ).bind _ = _; rw [h, b_ok, h2, b_ok, hl, o_some, b_ok, hm]; rfl
theorem i_items {q : List (D × D)} (h : ev T cl mk a ρ = .ok (.dct q)) : evI T cl mk (.items a) ρ = .ok (q.map fun p => .tup [p.1, p.2]) := by show (ev T cl mk a ρ).bind _ = _; rw [h]; rfl
/-- a comprehension whose turns each give one -/
theorem v_lc {p : Pat} {it : It} {cs : Es} {g : D → List D} (h : evI T cl mk it ρ = .ok l)
    (k : ∀ d ∈ l, ∃ ρ', p.bind d (wipeE p.names ρ) = some ρ' ∧ ((evT T cl mk cs ρ').bind fun t => if t then (ev T cl mk e ρ').bind fun x => .ok [x] else .ok []) = .ok (g d)) (hb : (l.flatMap g).length ≤ big) : ev T cl mk (.lc e p it cs) ρ = .ok (.lst (l.flatMap g)) := by
  show (evI T cl mk it ρ).bind _ = _
  rw [h, b_ok]
  show (calm (lcs l _)).bind _ = _
  have : ∀ {f : D → Res (List D)}, (∀ d ∈ l, f d = .ok (g d)) → (calm (lcs l f)).bind (fun l => if l.length ≤ big then .ok (.lst l) else .stuck) = .ok (D.lst (l.flatMap g)) := fun hf => by
    have e : ∀ {l : List D} {f : D → Res (List D)}, (∀ d ∈ l, f d = .ok (g d)) → lcs l f = .ok (l.flatMap g) := fun {l f} hf => by
      induction l with
      | nil => rfl
      | cons d l ih =>
        show (f d).bind _ = _
        rw [hf d List.mem_cons_self, b_ok, ih fun x hx => hf x (List.mem_cons_of_mem _ hx)]
        rfl
    rw [e hf]
    show (if (l.flatMap g).length ≤ big then _ else _) = _
    rw [if_pos hb]
  refine this fun d hd => ?_
  obtain ⟨ρ', e1, e2⟩ := k d hd
  rw [e1]
  exact e2
theorem v_dc {kx vx : E} {p : Pat} {it : It} {cs : Es} {g : D → List D} (h : evI T cl mk it ρ = .ok l)
    (k : ∀ d ∈ l, ∃ ρ', p.bind d (wipeE p.names ρ) = some ρ' ∧ ((evT T cl mk cs ρ').bind fun t => if t then (ev T cl mk kx ρ').bind fun x => (ev T cl mk vx ρ').bind fun y => .ok [.tup [x, y]] else .ok []) = .ok (g d)) (hb : (keysOk (kvOf (l.flatMap g)) && Nat.ble (l.flatMap g).length big) = true) : ev T cl mk (.dc kx vx p it cs) ρ = .ok (.dct (puts [] (kvOf (l.flatMap g)))) := by
  show (evI T cl mk it ρ).bind _ = _
  rw [h, b_ok]
  show (calm (lcs l _)).bind _ = _
  have : ∀ {f : D → Res (List D)}, (∀ d ∈ l, f d = .ok (g d)) → (calm (lcs l f)).bind (fun l => if keysOk (kvOf l) && Nat.ble l.length big then .ok (.dct (puts [] (kvOf l))) else .stuck) = .ok (D.dct (puts [] (kvOf (l.flatMap g)))) := fun hf => by
    have e : ∀ {l : List D} {f : D → Res (List D)}, (∀ d ∈ l, f d = .ok (g d)) → lcs l f = .ok (l.flatMap g) := fun {l f} hf => by
      induction l with
      | nil => rfl
      | cons d l ih =>
        show (f d).bind _ = _
        rw [hf d List.mem_cons_self, b_ok, ih fun x hx => hf x (List.mem_cons_of_mem _ hx)]
        rfl
    rw [e hf]
    show (if keysOk (kvOf (l.flatMap g)) && Nat.ble (l.flatMap g).length big then _ else _) = _
    rw [if_pos hb]
  refine this fun d hd => ?_
  obtain ⟨ρ', e1, e2⟩ := k d hd
  rw [e1]
  exact e2
/-- a comprehension of two clauses -/
theorem v_lc2 {p p2 : Pat} {it it2 : It} {l2 : D → List D} {g : D → D → D} (h : evI T cl mk it ρ = .ok l)
    (k : ∀ d ∈ l, ∃ ρ', p.bind d (wipeE (p.names ++ p2.names) ρ) = some ρ' ∧ evI T cl mk it2 ρ' = .ok (l2 d) ∧ ∀ d2 ∈ l2 d, ∃ ρ2, p2.bind d2 (wipeE p2.names ρ') = some ρ2 ∧ ev T cl mk e ρ2 = .ok (g d d2)) (hb : (l.flatMap fun d => (l2 d).map (g d)).length ≤ big) :
    ev T cl mk (.lc2 e p it .nil p2 it2 .nil) ρ = .ok (.lst (l.flatMap fun d => (l2 d).map (g d))) := by
  show (evI T cl mk it ρ).bind _ = _
  rw [h, b_ok]
  show (calm (lcs l _)).bind _ = _
  have e1 : ∀ {l : List D} {f : D → Res (List D)} {g : D → List D}, (∀ d ∈ l, f d = .ok (g d)) → lcs l f = .ok (l.flatMap g) := fun {l f g} hf => by
    induction l with
    | nil => rfl
    | cons d l ih =>
      show (f d).bind _ = _
      rw [hf d List.mem_cons_self, b_ok, ih fun x hx => hf x (List.mem_cons_of_mem _ hx)]
      rfl
  have : ∀ {f : D → Res (List D)}, (∀ d ∈ l, f d = .ok ((l2 d).map (g d))) → (calm (lcs l f)).bind (fun l => if l.length ≤ big then .ok (.lst l) else .stuck) = .ok (D.lst (l.flatMap fun d => (l2 d).map (g d))) := fun hf => by
    rw [e1 hf]
    show (if (l.flatMap fun d => (l2 d).map (g d)).length ≤ big then _ else _) = _
    rw [if_pos hb]
  refine this fun d hd => ?_
  obtain ⟨ρ', h1, h2, h3⟩ := k d hd
  rw [h1]
  show (Res.ok true).bind _ = _
  rw [b_ok, if_pos rfl, h2, b_ok]
  have : ∀ m : List D, m.map (g d) = m.flatMap fun x => [g d x] := fun m => by
    induction m with
    | nil => rfl
    | cons x m ih => rw [List.map_cons, List.flatMap_cons, ih]; rfl
  rw [this]
  refine e1 fun x hx => ?_
  obtain ⟨ρ2, h4, h5⟩ := h3 x hx
  rw [h4]
  show (Res.ok true).bind _ = _
  rw [b_ok, if_pos rfl, h5]
  rfl
theorem lc_one {cs : Es} (h1 : evT T cl mk cs ρ = .ok true) (h2 : ev T cl mk e ρ = .ok d) : ((evT T cl mk cs ρ).bind fun t => if t then (ev T cl mk e ρ).bind fun x => .ok [x] else .ok []) = .ok [d] := by rw [h1, b_ok, if_pos rfl, h2]; rfl
theorem dc_one {kx vx : E} {cs : Es} (h1 : evT T cl mk cs ρ = .ok true) (h2 : ev T cl mk kx ρ = .ok x) (h3 : ev T cl mk vx ρ = .ok y) : ((evT T cl mk cs ρ).bind fun t => if t then (ev T cl mk kx ρ).bind fun x => (ev T cl mk vx ρ).bind fun y => .ok [D.tup [x, y]] else .ok []) = .ok [D.tup [x, y]] := by rw [h1, b_ok, if_pos rfl, h2, b_ok, h3]; rfl
end
/-- a suite ends so -/
def Ends (T : Tb) (cl : Cal) (mk : Mak) (s : Ss) (ρ : Env) (ω : Own) (P : Fl → Prop) : Prop := ∃ fl, exs T cl mk s ρ ω = .ok fl ∧ P fl
theorem en_step {s : S} {r : Ss} {ρ ρ' : Env} {ω ω' : Own} {P : Fl → Prop} (ok : okLk ρ (lkS s) = true) (e : ex T cl mk s ρ ω = .ok (.nx ρ' ω')) (h : Ends T cl mk r ρ' ω' P) : Ends T cl mk (.cons s r) ρ ω P := by
  obtain ⟨fl, h1, h2⟩ := h
  exact ⟨fl, exs_step ok e h1, h2⟩
theorem en_rt {s : S} {r : Ss} {ρ ρ' : Env} {ω ω' : Own} {d : D} {P : Fl → Prop} (ok : okLk ρ (lkS s) = true) (e : ex T cl mk s ρ ω = .ok (.rt d ρ' ω')) (h : P (.rt d ρ' ω')) : Ends T cl mk (.cons s r) ρ ω P := ⟨_, exs_end ok e, h⟩
theorem en_nil {ρ : Env} {ω : Own} {P : Fl → Prop} (h : P (.nx ρ ω)) : Ends T cl mk .nil ρ ω P := ⟨_, rfl, h⟩
theorem en_for {p : Pat} {it : It} {body r : Ss} {ρ : Env} {ω : Own} {l : List D} {P : Fl → Prop} (I : Env → Prop) (ok : okLk ρ (lkF it) = true) (e : evI T cl mk it ρ = .ok l) (h0 : minus ω (lkF it) = ω) (i0 : I ρ)
    (h : ∀ d ∈ l, ∀ ρ, I ρ → ∃ ρ1 ρ2, p.bind d ρ = some ρ1 ∧ exs T cl mk body ρ1 (minus ω p.names) = .ok (.nx ρ2 ω) ∧ I ρ2) (k : ∀ ρ2, I ρ2 → Ends T cl mk r ρ2 ω P) : Ends T cl mk (.cons (.for_ p it body) r) ρ ω P := by
  obtain ⟨ρ2, e2, i2⟩ := for_inv I e h0 i0 h
  exact en_step ok e2 (k ρ2 i2)
theorem en_ret {e : E} {r : Ss} {ρ : Env} {ω : Own} {d : D} {P : Fl → Prop} (h : ev T cl mk e ρ = .ok d) (p : ∀ ω, P (.rt d ρ ω)) (ok : okLk ρ (lk e) = true := by rfl) : Ends T cl mk (.cons (.ret e) r) ρ ω P :=
  en_rt (ω' := minus ω (lk e)) (ρ' := ρ) ok (by show (ev T cl mk e ρ).bind _ = _; rw [h]; rfl) (p _)
theorem en_asg {i : Nat} {e : E} {r : Ss} {ρ : Env} {ω : Own} {d : D} {P : Fl → Prop} (h : ev T cl mk e ρ = .ok d) (k : Ends T cl mk r (ρ.set i (some d)) ω P) (hi : i < ρ.length := by exact Nat.le_of_ble_eq_true rfl) (hω : minus ω (i :: lk e) = ω := by rfl) (ok : okLk ρ (lk e) = true := by rfl) : Ends T cl mk (.cons (.asg i false e) r) ρ ω P :=
  en_step (ρ' := ρ.set i (some d)) (ω' := ω) ok (by show (ev T cl mk e ρ).bind _ = _; rw [h, b_ok, if_pos hi, hω]; rfl) k
theorem en_skip {c : E} {a r : Ss} {ρ : Env} {ω : Own} {P : Fl → Prop} (h : ev T cl mk c ρ = .ok (.bl false)) (k : Ends T cl mk r ρ ω P) (hω : minus ω (lkB c) = ω := by rfl) (ok : okLk ρ (lkB c) = true := by rfl) : Ends T cl mk (.cons (.ite c a .nil) r) ρ ω P :=
  en_step (ρ' := ρ) (ω' := ω) ok (by show (ev T cl mk c ρ).bind _ = _; rw [h, b_ok, t_bl, b_ok, hω]; rfl) k
theorem en_expr {e : E} {r : Ss} {ρ : Env} {ω : Own} {d : D} {P : Fl → Prop} (h : ev T cl mk e ρ = .ok d) (k : Ends T cl mk r ρ ω P) (hω : minus ω (lk e) = ω := by rfl) (ok : okLk ρ (lk e) = true := by rfl) : Ends T cl mk (.cons (.expr e) r) ρ ω P :=
  en_step (ρ' := ρ) (ω' := ω) ok (by show (ev T cl mk e ρ).bind _ = _; rw [h, b_ok, hω]) k
/-- the test fails or holds, with a return -/
theorem en_then {c : E} {a b r : Ss} {ρ : Env} {ω : Own} {P : Fl → Prop} (h : ev T cl mk c ρ = .ok (.bl true)) (k : Ends T cl mk a ρ ω fun fl => match fl with | .nx ρ' ω' => Ends T cl mk r ρ' ω' P | fl => P fl) (hω : minus ω (lkB c) = ω := by rfl) (ok : okLk ρ (lkB c) = true := by rfl) : Ends T cl mk (.cons (.ite c a b) r) ρ ω P := by
  obtain ⟨fl, h1, h2⟩ := k
  have e : ex T cl mk (.ite c a b) ρ ω = .ok fl := by show (ev T cl mk c ρ).bind _ = _; rw [h, b_ok, t_bl, b_ok, hω]; exact h1
  cases fl with
  | nx ρ' ω' => exact en_step ok e h2
  | rt d ρ' ω' => exact en_rt ok e h2
  | bk ρ' ω' => exact ⟨_, by show (if okLk ρ (lkS (.ite c a b)) then _ else _) = _; rw [if_pos (by exact ok), e]; rfl, h2⟩
  | ct ρ' ω' => exact ⟨_, by show (if okLk ρ (lkS (.ite c a b)) then _ else _) = _; rw [if_pos (by exact ok), e]; rfl, h2⟩
theorem en_else {c : E} {a b r : Ss} {ρ : Env} {ω : Own} {P : Fl → Prop} (h : ev T cl mk c ρ = .ok (.bl false)) (k : Ends T cl mk b ρ ω fun fl => match fl with | .nx ρ' ω' => Ends T cl mk r ρ' ω' P | fl => P fl) (hω : minus ω (lkB c) = ω := by rfl) (ok : okLk ρ (lkB c) = true := by rfl) : Ends T cl mk (.cons (.ite c a b) r) ρ ω P := by
  obtain ⟨fl, h1, h2⟩ := k
  have e : ex T cl mk (.ite c a b) ρ ω = .ok fl := by show (ev T cl mk c ρ).bind _ = _; rw [h, b_ok, t_bl, b_ok, hω]; exact h1
  cases fl with
  | nx ρ' ω' => exact en_step ok e h2
  | rt d ρ' ω' => exact en_rt ok e h2
  | bk ρ' ω' => exact ⟨_, by show (if okLk ρ (lkS (.ite c a b)) then _ else _) = _; rw [if_pos (by exact ok), e]; rfl, h2⟩
  | ct ρ' ω' => exact ⟨_, by show (if okLk ρ (lkS (.ite c a b)) then _ else _) = _; rw [if_pos (by exact ok), e]; rfl, h2⟩
theorem en_setF {i f c : Nat} {e : E} {r : Ss} {ρ : Env} {ω : Own} {d : D} {fs : Fs} {P : Fl → Prop} (h : ev T cl mk e ρ = .ok d) (hρ : ρ[i]? = some (some (.me c fs))) (k : Ends T cl mk r (ρ.set i (some (.me c (putF f d fs)))) ω P) (hω : minus ω (lk e) = ω := by rfl)
    (hc : (ω.contains i && !(lk e).contains i && decide (fs.length < 100) && T.noMeth c f) = true := by rfl) (ok : okLk ρ (lk e) = true := by rfl) : Ends T cl mk (.cons (.setF i f e) r) ρ ω P :=
  en_step (ρ' := ρ.set i (some (.me c (putF f d fs)))) (ω' := ω) ok (by show (ev T cl mk e ρ).bind _ = _; rw [h, b_ok]; simp only [hρ, hc, if_true, hω]) k
theorem en_retN {r : Ss} {ρ : Env} {ω : Own} {P : Fl → Prop} (p : P (.rt .non ρ ω)) : Ends T cl mk (.cons .retN r) ρ ω P := en_rt (ω' := ω) (ρ' := ρ) rfl rfl p
theorem en_par {is : List (Nat × Bool)} {es : Es} {r : Ss} {ρ ρ' : Env} {ω : Own} {ds : List D} {P : Fl → Prop} (h : evs T cl mk es ρ = .ok ds) (hs : setAll is ds ρ = some ρ') (k : Ends T cl mk r ρ' ω P) (hf : freshs is es = true := by rfl) (hω : ownOf is ++ minus ω (is.map (·.1) ++ lks es) = ω := by rfl) (ok : okLk ρ (lks es) = true := by rfl) : Ends T cl mk (.cons (.par is es) r) ρ ω P :=
  en_step (ρ' := ρ') (ω' := ω) ok (by show (evs T cl mk es ρ).bind _ = _; rw [h, b_ok]; simp only [hs, hf, if_true, hω]) k
theorem x_expr {e : E} {ρ : Env} {ω : Own} {d : D} (h : ev T cl mk e ρ = .ok d) (ok : okLk ρ (lk e) = true) (hω : minus ω (lk e) = ω := by rfl) : exs T cl mk (.cons (.expr e) .nil) ρ ω = .ok (.nx ρ ω) := exs_step ok (by show (ev T cl mk e ρ).bind _ = _; rw [h, b_ok, hω]) rfl
theorem x_asg {i : Nat} {e : E} {ρ : Env} {ω : Own} {d : D} (h : ev T cl mk e ρ = .ok d) (ok : okLk ρ (lk e) = true := by rfl) (hi : i < ρ.length := by exact Nat.le_of_ble_eq_true rfl) (hω : minus ω (i :: lk e) = ω := by rfl) : exs T cl mk (.cons (.asg i false e) .nil) ρ ω = .ok (.nx (ρ.set i (some d)) ω) := exs_step ok (by show (ev T cl mk e ρ).bind _ = _; rw [h, b_ok, if_pos hi, hω]; rfl) rfl
/-- a for, turn by turn -/
theorem en_forI {p : Pat} {it : It} {body r : Ss} {ρ : Env} {ω : Own} {l : List D} {P : Fl → Prop} (I : Nat → Env → Prop) (ok : okLk ρ (lkF it) = true) (e : evI T cl mk it ρ = .ok l) (h0 : minus ω (lkF it) = ω) (i0 : I 0 ρ)
    (h : ∀ j d, l[j]? = some d → ∀ ρ, I j ρ → ∃ ρ1 ρ2, p.bind d ρ = some ρ1 ∧ exs T cl mk body ρ1 (minus ω p.names) = .ok (.nx ρ2 ω) ∧ I (j + 1) ρ2) (k : ∀ ρ2, I l.length ρ2 → Ends T cl mk r ρ2 ω P) : Ends T cl mk (.cons (.for_ p it body) r) ρ ω P := by
  have go : ∀ (l' : List D) (j : Nat), (∀ i, l'[i]? = l[j + i]?) → j + l'.length = l.length → ∀ ρ, I j ρ → ∃ ρ2, forGo (fun ρ ω d => match p.bind d ρ with
    | some ρ' => exs T cl mk body ρ' (minus ω p.names)
    | none => .stuck) l' ρ ω = .ok (.nx ρ2 ω) ∧ I l.length ρ2 := by
    intro l'
    induction l' with
    | nil => exact fun j _ hj ρ i => ⟨ρ, rfl, by rw [← hj]; exact i⟩
    | cons d l' ih =>
      intro j hl hj ρ i
      obtain ⟨ρ1, ρ2, e1, e2, i2⟩ := h j d (by rw [← Nat.add_zero j, ← hl 0]; rfl) ρ i
      obtain ⟨ρ3, e3, i3⟩ := ih (j + 1) (fun i => by rw [show j + 1 + i = j + (i + 1) from by omega, ← hl (i + 1)]; rfl) (by rw [List.length_cons] at hj; omega) ρ2 i2
      refine ⟨ρ3, ?_, i3⟩
      unfold forGo
      simp only [e1, e2, b_ok]
      exact e3
  obtain ⟨ρ2, e2, i2⟩ := go l 0 (fun i => by rw [Nat.zero_add]) (by omega) ρ i0
  refine en_step ok ?_ (k ρ2 i2)
  show (evI T cl mk it ρ).bind _ = _
  rw [e, b_ok, h0]
  exact e2
def Gives (d : D) : Fl → Prop
  | .rt x _ _ => x = d
  | .nx _ _ => d = .non
  | _ => False
def Made (c : Nat) (fs : Fs) : Fl → Prop
  | .nx ρ ω => ω.contains 0 = true ∧ ρ[0]? = some (some (.me c fs))
  | _ => False
theorem lcs_ok {f : D → Res (List D)} {g : D → List D} : ∀ {l : List D}, (∀ d ∈ l, f d = .ok (g d)) → lcs l f = .ok (l.flatMap g)
  | [], _ => rfl
  | d :: l, h => by
    show (f d).bind _ = _
    rw [h d List.mem_cons_self, b_ok, lcs_ok fun x hx => h x (List.mem_cons_of_mem _ hx)]
    rfl
theorem calm_ok (a : α) : calm (.ok a) = .ok a := rfl
end
end BB
end
section
set_option Elab.async false
set_option linter.all false
set_option maxRecDepth 100000
set_option maxHeartbeats 4000000
/-! _law_number gives a number. -/
namespace BB
theorem forGo_nx (I : Env → Prop) (f : Env → Own → D → Res Fl) (h : ∀ ρ d, I ρ → ∃ ρ', f ρ [] d = .ok (.nx ρ' []) ∧ I ρ') : ∀ l ρ, I ρ → ∃ ρ', forGo f l ρ [] = .ok (.nx ρ' []) ∧ I ρ'
  | [], ρ, i => ⟨ρ, rfl, i⟩
  | d :: l, ρ, i => by
    obtain ⟨ρ1, e1, i1⟩ := h ρ d i
    obtain ⟨ρ2, e2, i2⟩ := forGo_nx I f h l ρ1 i1
    refine ⟨ρ2, ?_, i2⟩
    unfold forGo
    rw [e1, b_ok]
    exact e2
def numS1 : S := (.asgP (.tup [(.nm 2), (.nm 3)]) (.ite (.cmp .ne (.var 0) (.lst .nil)) (.tup (.cons false (.idx (.var 0) (.bin .mod (.var 1) (.bi .len (.cons false (.var 0) .nil)))) (.cons false (.bin .fdiv (.var 1) (.bi .len (.cons false (.var 0) .nil))) .nil))) (.tup (.cons false (.cst (.int 12345)) (.cons false (.cst (.int 0)) .nil)))))
def numS2 : S := (.asg 4 false (.ite (.cmp .lt (.var 3) (.cst (.int 60))) (.bin .sub (.var 2) (.bin .pow (.cst (.int 10)) (.cst (.int 18)))) (.cst (.int 0))))
def numS3 : S := (.for_ (.nm 5) (.rng1 (.bin .mod (.bi .int (.cons false (.var 3) .nil)) (.cst (.int 60))))
  (.cons (.asg 4 false (.bin .fdiv (.var 4) (.cst (.int 1009))))
 .nil))
def numS4 : S := (.ite (.cmp .gt (.var 4) (.cst (.int 0)))
  (.cons (.ret (.bin .mod (.bi .int (.cons false (.var 4) .nil)) (.cst (.int 1009))))
 .nil)
  .nil)
def numS5 : S := (.asg 6 false (.bin .mod (.bin .add (.bin .mul (.bi .int (.cons false (.bin .add (.var 2) (.bin .mul (.cst (.int 977)) (.var 1))) .nil)) (.cst (.int 48271))) (.bin .mul (.cst (.int 31)) (.bi .len (.cons false (.var 0) .nil)))) (.cst (.int 2147483647))))
def numS6 : S := (.asg 6 false (.bin .mod (.bin .add (.bin .mul (.var 6) (.var 6)) (.bin .mul (.cst (.int 40503)) (.var 1))) (.cst (.int 2147483629))))
def numS7 : S := (.ret (.bi .int (.cons false (.bin .mod (.bin .add (.bin .mul (.var 6) (.cst (.int 69621))) (.bin .fdiv (.var 6) (.cst (.int 977)))) (.cst (.int 2147483587))) .nil)))
def numB : Ss := .cons numS1 (.cons numS2 (.cons numS3 (.cons numS4 (.cons numS5 (.cons numS6 (.cons numS7 .nil))))))
theorem pdns_ints (k : Nat) : ∀ ns : List Int, pdns (k + 1) (ns.map D.int) = true
  | [] => rfl
  | n :: ns => by show (pdn (k + 1) (D.int n) && pdns (k + 1) (ns.map D.int)) = true; rw [pdns_ints k ns]; rfl
theorem plain_ints (ns : List Int) : plain (.lst (ns.map D.int)) = true := pdns_ints 58 ns
theorem ne_nil (T : Tb) (cl : Cal) (n : Int) (ns : List Int) : cmpR T cl .ne (.lst ((n :: ns).map D.int)) (.lst []) = .ok (.bl true) := by
  unfold cmpR eqR
  rw [plain_ints (n :: ns)]
  rfl
section
variable (T : Tb) (cl : Cal) (mk : Mak)
abbrev slots (ns : List Int) (j c k r s b : Option D) : Env := [some (.lst (ns.map D.int)), j, c, k, r, s, b]
theorem num1 (ns : List Int) (j : Int) (h1 : ns.length ≤ 63) (h2 : 0 ≤ j) : ∃ c k : Int, 0 ≤ k ∧ ex T cl mk numS1 (slots ns (some (.int j)) none none none none none) [] = .ok (.nx (slots ns (some (.int j)) (some (.int c)) (some (.int k)) none none none) []) := by
  by_cases hns : ns = []
  · subst hns
    exact ⟨12345, 0, by omega, rfl⟩
  · have hp : (0 : Int) < (ns.length : Nat) := by have := List.length_pos_iff.mpr hns; omega
    have a1 : 0 ≤ j.fmod (ns.length : Nat) := Int.fmod_nonneg_of_pos j hp
    have a2 : j.fmod (ns.length : Nat) < (ns.length : Nat) := Int.fmod_lt_of_pos j hp
    have a3 : (j.fmod (ns.length : Nat)).toNat < ns.length := by omega
    have e0 : cmpR T cl .ne (.lst (ns.map D.int)) (.lst []) = .ok (.bl true) := by
      cases ns with
      | nil => exact absurd rfl hns
      | cons n ns => exact ne_nil T cl n ns
    have e1 : getI (ns.map D.int) (j.fmod (ns.length : Nat)) = some (.int (ns[(j.fmod (ns.length : Nat)).toNat])) := by
      unfold getI
      rw [if_pos a1, List.getElem?_map, List.getElem?_eq_getElem a3]
      rfl
    have a4 : ¬ ((ns.length : Nat) : Int) = 0 := by omega
    have a5 : ((ns.length : Nat) : Int).natAbs < 1073741824 := by omega
    refine ⟨ns[(j.fmod (ns.length : Nat)).toNat], j.fdiv (ns.length : Nat), Int.fdiv_nonneg h2 (by omega), ?_⟩
    simp only [numS1, ex, ev, evs, slots, List.getElem?_cons_zero, List.getElem?_cons_succ, b_ok, List.length_nil, show (0 : Nat) ≤ big from Nat.zero_le _, if_true, e0, t_bl, s_no, List.append_nil, List.nil_append, List.cons_append, bi_lenL, List.length_map, op_modI, op_fdivI, ix_L, e1, a4, a5, ne_eq, not_false_eq_true, and_self, o_some,
      List.length_cons, show (2 : Nat) ≤ big from by decide, p_tup, p_cons, p_nm, p_nil, show (2 : Nat) < 7 from by decide, show (3 : Nat) < 7 from by decide, List.set_cons_succ, List.set_cons_zero]
    simp [big, minus]
theorem num2 (ns : List Int) (j c k : Int) : ∃ r : Int, ex T cl mk numS2 (slots ns (some (.int j)) (some (.int c)) (some (.int k)) none none none) [] = .ok (.nx (slots ns (some (.int j)) (some (.int c)) (some (.int k)) (some (.int r)) none none) []) := by
  by_cases h : k < 60
  · refine ⟨c - 1000000000000000000, ?_⟩
    simp [numS2, ex, ev, b_ok, c_ltI, h, t_bl, op_powI, op_subI, minus]
  · refine ⟨0, ?_⟩
    simp [numS2, ex, ev, b_ok, c_ltI, h, t_bl, minus]
theorem num3 (ns : List Int) (j c k r : Int) : ∃ (r' : Int) (s : Option D), ex T cl mk numS3 (slots ns (some (.int j)) (some (.int c)) (some (.int k)) (some (.int r)) none none) [] = .ok (.nx (slots ns (some (.int j)) (some (.int c)) (some (.int k)) (some (.int r')) s none) []) := by
  obtain ⟨ρ', e, r', s', hρ⟩ := forGo_nx (fun ρ => ∃ (r' : Int) (s : Option D), ρ = slots ns (some (.int j)) (some (.int c)) (some (.int k)) (some (.int r')) s none) (fun ρ ω d => match (Pat.nm 5).bind d ρ with
    | some ρ' => exs T cl mk (.cons (.asg 4 false (.bin .fdiv (.var 4) (.cst (.int 1009)))) .nil) ρ' (minus ω (Pat.nm 5).names)
    | none => .stuck) (fun ρ d ⟨r, s, e⟩ => ⟨slots ns (some (.int j)) (some (.int c)) (some (.int k)) (some (.int (r.fdiv 1009))) (some d) none, by
      subst e
      simp [p_nm, exs, ex, ev, b_ok, op_fdivI, minus, okLk, lkS, lk, lkB], _, _, rfl⟩) (rng 0 (k.fmod 60).toNat) (slots ns (some (.int j)) (some (.int c)) (some (.int k)) (some (.int r)) none none) ⟨r, none, rfl⟩
  refine ⟨r', s', ?_⟩
  have h1 : 0 ≤ k.fmod 60 := Int.fmod_nonneg_of_pos k (by omega)
  have h2 : k.fmod 60 < 60 := Int.fmod_lt_of_pos k (by omega)
  have h3 : k.fmod 60 ≤ big ∧ -(big : Int) ≤ k.fmod 60 := by have : (big : Int) = 16777216 := rfl; omega
  rw [← hρ, ← e]
  unfold numS3
  simp [ex, evI, ev, evs, b_ok, bi_int, op_modI, s_no, h3, minus, lkF, lkB, lksB]
  try rfl
theorem num4 (ns : List Int) (j c k r : Int) (s : Option D) : (∃ i : Int, ex T cl mk numS4 (slots ns (some (.int j)) (some (.int c)) (some (.int k)) (some (.int r)) s none) [] = .ok (.rt (.int i) (slots ns (some (.int j)) (some (.int c)) (some (.int k)) (some (.int r)) s none) [])) ∨
    ex T cl mk numS4 (slots ns (some (.int j)) (some (.int c)) (some (.int k)) (some (.int r)) s none) [] = .ok (.nx (slots ns (some (.int j)) (some (.int c)) (some (.int k)) (some (.int r)) s none) []) := by
  by_cases h : 0 < r
  · refine .inl ⟨r.fmod 1009, ?_⟩
    simp [numS4, ex, exs, ev, evs, b_ok, c_gtI, h, t_bl, s_no, bi_int, op_modI, minus, okLk, lkS, lk, lks, lkB, lksB]
  · refine .inr ?_
    simp [numS4, ex, exs, ev, b_ok, c_gtI, h, t_bl, minus]
theorem num5 (ns : List Int) (j c k r : Int) (s : Option D) : ∃ x : Int, 0 ≤ x ∧ x < 2147483647 ∧ ex T cl mk numS5 (slots ns (some (.int j)) (some (.int c)) (some (.int k)) (some (.int r)) s none) [] = .ok (.nx (slots ns (some (.int j)) (some (.int c)) (some (.int k)) (some (.int r)) s (some (.int x))) []) := by
  refine ⟨((c + 977 * j) * 48271 + 31 * ns.length).fmod 2147483647, Int.fmod_nonneg_of_pos _ (by omega), Int.fmod_lt_of_pos _ (by omega), ?_⟩
  simp [numS5, ex, ev, evs, b_ok, op_addI, op_mulI, op_modI, s_no, bi_int, bi_lenL, smallI, minus, lk, lkB]
theorem small_of {x : Int} (h1 : 0 ≤ x) (h2 : x < 2147483647) : smallI x = true := decide_eq_true (by omega)
theorem num6 (ns : List Int) (j c k r x : Int) (s : Option D) (h1 : 0 ≤ x) (h2 : x < 2147483647) : ∃ y : Int, 0 ≤ y ∧ y < 2147483629 ∧ ex T cl mk numS6 (slots ns (some (.int j)) (some (.int c)) (some (.int k)) (some (.int r)) s (some (.int x))) [] = .ok (.nx (slots ns (some (.int j)) (some (.int c)) (some (.int k)) (some (.int r)) s (some (.int y))) []) := by
  refine ⟨(x * x + 40503 * j).fmod 2147483629, Int.fmod_nonneg_of_pos _ (by omega), Int.fmod_lt_of_pos _ (by omega), ?_⟩
  have sx := small_of h1 h2
  have s2 : smallI 40503 = true := rfl
  simp [numS6, ex, ev, evs, b_ok, op_addI, op_mulI, op_modI, sx, s2, minus, lk, lkB]
theorem num7 (ns : List Int) (j c k r x : Int) (s : Option D) (h1 : 0 ≤ x) (h2 : x < 2147483629) : ∃ (y : Int), ex T cl mk numS7 (slots ns (some (.int j)) (some (.int c)) (some (.int k)) (some (.int r)) s (some (.int x))) [] = .ok (.rt (.int y) (slots ns (some (.int j)) (some (.int c)) (some (.int k)) (some (.int r)) s (some (.int x))) []) := by
  refine ⟨(x * 69621 + x.fdiv 977).fmod 2147483587, ?_⟩
  have sx := small_of h1 (by omega)
  simp [numS7, ex, ev, evs, b_ok, op_addI, op_mulI, op_modI, op_fdivI, sx, s_no, bi_int, minus, lk, lkB, lks]
end
theorem exs_nx {T : Tb} {cl : Cal} {mk : Mak} {s : S} {r : Ss} {ρ ρ' : Env} {ω ω' : Own} (ok : okLk ρ (lkS s) = true) (e : ex T cl mk s ρ ω = .ok (.nx ρ' ω')) : exs T cl mk (.cons s r) ρ ω = exs T cl mk r ρ' ω' := by
  show (if okLk ρ (lkS s) then _ else _) = _
  rw [if_pos ok, e]
  rfl
theorem exs_rt {T : Tb} {cl : Cal} {mk : Mak} {s : S} {r : Ss} {ρ ρ' : Env} {ω ω' : Own} {d : D} (ok : okLk ρ (lkS s) = true) (e : ex T cl mk s ρ ω = .ok (.rt d ρ' ω')) : exs T cl mk (.cons s r) ρ ω = .ok (.rt d ρ' ω') := by
  show (if okLk ρ (lkS s) then _ else _) = _
  rw [if_pos ok, e]
  rfl
def numF : Fn := ⟨2, 7, numB, []⟩
theorem ok_of {ρ : Env} {l : List Nat} (h : ∀ i, i ∈ l → ∀ c fs, ρ[i]? ≠ some (some (.me c fs))) : okLk ρ l = true := by
  refine List.all_eq_true.mpr fun i hi => ?_
  have := h i hi
  split
  · rename_i c fs e; exact absurd e (this c fs)
  · rfl
theorem num_ok (T : Tb) (cl : Cal) (mk : Mak) (ns : List Int) (j : Int) (h1 : ns.length ≤ 63) (h2 : 0 ≤ j) : ∃ i : Int, callF T cl mk numF [.lst (ns.map D.int), .int j] = .ok (.int i) := by
  obtain ⟨c, k, hk, e1⟩ := num1 T cl mk ns j h1 h2
  obtain ⟨r, e2⟩ := num2 T cl mk ns j c k
  obtain ⟨r', s, e3⟩ := num3 T cl mk ns j c k r
  have fin : ∀ i, exs T cl mk numB (slots ns (some (.int j)) none none none none none) [] = .ok (.rt (.int i) (slots ns (some (.int j)) (some (.int c)) (some (.int k)) (some (.int r')) s none) []) → True := fun _ _ => trivial
  have go : ∃ i ρ ω, exs T cl mk numB (slots ns (some (.int j)) none none none none none) [] = .ok (.rt (.int i) ρ ω) := by
    unfold numB
    rw [exs_nx rfl e1, exs_nx rfl e2, exs_nx rfl e3]
    rcases num4 T cl mk ns j c k r' s with ⟨i, e4⟩ | e4
    · exact ⟨i, _, _, exs_rt rfl e4⟩
    · obtain ⟨x, x1, x2, e5⟩ := num5 T cl mk ns j c k r' s
      obtain ⟨y, y1, y2, e6⟩ := num6 T cl mk ns j c k r' x s x1 x2
      obtain ⟨z, e7⟩ := num7 T cl mk ns j c k r' y s y1 y2
      rw [exs_nx rfl e4, exs_nx rfl e5, exs_nx rfl e6]
      exact ⟨z, _, _, exs_rt rfl e7⟩
  obtain ⟨i, ρ, ω, e⟩ := go
  refine ⟨i, ?_⟩
  unfold callF
  rw [if_pos (by exact ⟨rfl, by decide⟩)]
  have e : exs T cl mk numF.body ((numF.fill [.lst (ns.map D.int), .int j]).map some ++ List.replicate (numF.ns - numF.np) none) [] = .ok (.rt (.int i) ρ ω) := e
  rw [e]
  rfl
end BB
end
section
set_option maxRecDepth 100000
set_option linter.all false
namespace K23
open BB
/-- 0: is_row(thing) slots 0:thing -/
def b_is_row : Ss := (.cons (.ret (.isi (.var 0) [.lst, .tup]))
 .nil)
/-- 1: is_number(thing) slots 0:thing -/
def b_is_number : Ss := (.cons (.ret (.and (.isi (.var 0) [.int]) (.and (.not (.isi (.var 0) [.bool])) (.cmp .ge (.var 0) (.cst (.int 0))))))
 .nil)
/-- 2: is_below(thing, bound) slots 0:thing 1:bound -/
def b_is_below : Ss := (.cons (.ret (.and (.call 1 (.cons false (.var 0) .nil)) (.cmp .lt (.var 0) (.var 1))))
 .nil)
/-- 3: is_name(thing) slots 0:thing 1:sign -/
def b_is_name : Ss := (.cons (.ite (.or (.not (.isi (.var 0) [.str])) (.or (.not (.cmp2 .le .le (.cst (.int 1)) (.bi .len (.cons false (.var 0) .nil)) (.cst (.int 8)))) (.cmp .notin (.idx (.var 0) (.cst (.int 0))) (.cst (.str ⟨#[97, 98, 99, 100, 101, 102, 103, 104, 105, 106, 107, 108, 109, 110, 111, 112, 113, 114, 115, 116, 117, 118, 119, 120, 121, 122]⟩)))))
  (.cons (.ret (.cst (.bl false)))
 .nil)
  .nil)
 (.cons (.ret (.bw .all (.val (.lc (.or (.cmp .isin (.var 1) (.cst (.str ⟨#[97, 98, 99, 100, 101, 102, 103, 104, 105, 106, 107, 108, 109, 110, 111, 112, 113, 114, 115, 116, 117, 118, 119, 120, 121, 122]⟩))) (.cmp .isin (.var 1) (.cst (.str ⟨#[48, 49, 50, 51, 52, 53, 54, 55, 56, 57]⟩)))) (.nm 1) (.val (.var 0)) .nil))))
 .nil))
/-- 4: Bits_init(self, many, rows) slots 0:self 1:many 2:rows 3:number 4:row -/
def b_Bits_init : Ss := (.cons (.ite (.or (.not (.call 1 (.cons false (.var 1) .nil))) (.cmp .gt (.var 1) (.cst (.int 256))))
  (.cons .bad
 .nil)
  .nil)
 (.cons (.ite (.not (.call 0 (.cons false (.var 2) .nil)))
  (.cons .bad
 .nil)
  .nil)
 (.cons (.for_ (.tup [(.nm 3), (.nm 4)]) (.enum (.val (.var 2)))
  (.cons (.ite (.not (.call 2 (.cons false (.var 4) (.cons false (.var 1) .nil))))
  (.cons .bad
 .nil)
  .nil)
 .nil))
 (.cons (.setF 0 1 (.var 1))
 (.cons (.setF 0 0 (.bw .tuple (.val (.bw .sorted (.val (.dc (.var 4) (.cst (.bl true)) (.nm 4) (.val (.var 2)) .nil))))))
 .nil)))))
/-- 5: Bits_eq(self, other) slots 0:self 1:other -/
def b_Bits_eq : Ss := (.cons (.ret (.and (.isi (.var 1) [(.cls 0)]) (.cmp .eq (.tup (.cons false (.att (.var 0) 1) (.cons false (.att (.var 0) 0) .nil))) (.tup (.cons false (.att (.var 1) 1) (.cons false (.att (.var 1) 0) .nil))))))
 .nil)
/-- 6: Bits_both(self, other) slots 0:self 1:other 2:known 3:row -/
def b_Bits_both : Ss := (.cons (.expr (.call 16 (.cons false (.var 0) (.cons false (.var 1) .nil))))
 (.cons (.asg 2 false (.dc (.var 3) (.cst (.bl true)) (.nm 3) (.val (.att (.var 1) 0)) .nil))
 (.cons (.ret (.mk 0 (.cons false (.att (.var 0) 1) (.cons false (.lc (.var 3) (.nm 3) (.val (.att (.var 0) 0)) (.cons false (.cmp .isin (.var 3) (.var 2)) .nil)) .nil))))
 .nil)))
/-- 7: Bits_either(self, other) slots 0:self 1:other -/
def b_Bits_either : Ss := (.cons (.expr (.call 16 (.cons false (.var 0) (.cons false (.var 1) .nil))))
 (.cons (.ret (.mk 0 (.cons false (.att (.var 0) 1) (.cons false (.lst (.cons true (.att (.var 0) 0) (.cons true (.att (.var 1) 0) .nil))) .nil))))
 .nil))
/-- 8: Bits_without(self, other) slots 0:self 1:other 2:known 3:row -/
def b_Bits_without : Ss := (.cons (.expr (.call 16 (.cons false (.var 0) (.cons false (.var 1) .nil))))
 (.cons (.asg 2 false (.dc (.var 3) (.cst (.bl true)) (.nm 3) (.val (.att (.var 1) 0)) .nil))
 (.cons (.ret (.mk 0 (.cons false (.att (.var 0) 1) (.cons false (.lc (.var 3) (.nm 3) (.val (.att (.var 0) 0)) (.cons false (.cmp .notin (.var 3) (.var 2)) .nil)) .nil))))
 .nil)))
/-- 9: Bits_others(self) slots 0:self 1:known 2:row -/
def b_Bits_others : Ss := (.cons (.asg 1 false (.dc (.var 2) (.cst (.bl true)) (.nm 2) (.val (.att (.var 0) 0)) .nil))
 (.cons (.ret (.mk 0 (.cons false (.att (.var 0) 1) (.cons false (.lc (.var 2) (.nm 2) (.rng1 (.att (.var 0) 1)) (.cons false (.cmp .notin (.var 2) (.var 1)) .nil)) .nil))))
 .nil))
/-- 10: Bits_count(self) slots 0:self -/
def b_Bits_count : Ss := (.cons (.ret (.bi .len (.cons false (.att (.var 0) 0) .nil)))
 .nil)
/-- 11: Bits_has(self, row) slots 0:self 1:row -/
def b_Bits_has : Ss := (.cons (.ite (.not (.call 2 (.cons false (.var 1) (.cons false (.att (.var 0) 1) .nil))))
  (.cons .bad
 .nil)
  .nil)
 (.cons (.ret (.cmp .isin (.var 1) (.att (.var 0) 0)))
 .nil))
/-- 12: Bits_rank(self, row) slots 0:self 1:row 2:one -/
def b_Bits_rank : Ss := (.cons (.ite (.not (.call 2 (.cons false (.var 1) (.cons false (.bin .add (.att (.var 0) 1) (.cst (.int 1))) .nil))))
  (.cons .bad
 .nil)
  .nil)
 (.cons (.ret (.bi .len (.cons false (.lc (.var 2) (.nm 2) (.val (.att (.var 0) 0)) (.cons false (.cmp .lt (.var 2) (.var 1)) .nil)) .nil)))
 .nil))
/-- 13: Bits_at(self, rank) slots 0:self 1:rank -/
def b_Bits_at : Ss := (.cons (.ite (.not (.call 2 (.cons false (.var 1) (.cons false (.bi .len (.cons false (.att (.var 0) 0) .nil)) .nil))))
  (.cons .bad
 .nil)
  .nil)
 (.cons (.ret (.idx (.att (.var 0) 0) (.var 1)))
 .nil))
/-- 14: Bits_runs(self) slots 0:self -/
def b_Bits_runs : Ss := (.cons .bad
 .nil)
/-- 15: Bits_part(self, first, last) slots 0:self 1:first 2:last 3:row -/
def b_Bits_part : Ss := (.cons (.ite (.not (.call 2 (.cons false (.var 1) (.cons false (.bin .add (.att (.var 0) 1) (.cst (.int 1))) .nil))))
  (.cons .bad
 .nil)
  .nil)
 (.cons (.ite (.or (.not (.call 2 (.cons false (.var 2) (.cons false (.bin .add (.att (.var 0) 1) (.cst (.int 1))) .nil)))) (.cmp .lt (.var 2) (.var 1)))
  (.cons .bad
 .nil)
  .nil)
 (.cons (.ret (.mk 0 (.cons false (.bin .sub (.var 2) (.var 1)) (.cons false (.lc (.bin .sub (.var 3) (.var 1)) (.nm 3) (.val (.att (.var 0) 0)) (.cons false (.cmp2 .le .lt (.var 1) (.var 3) (.var 2)) .nil)) .nil))))
 .nil)))
/-- 16: check_same(one, other) slots 0:one 1:other -/
def b_check_same : Ss := (.cons (.ite (.or (.not (.isi (.var 1) [(.cls 0)])) (.cmp .ne (.att (.var 1) 1) (.att (.var 0) 1)))
  (.cons .bad
 .nil)
  .nil)
 .nil)
/-- 17: Table_init(self, columns, rows) slots 0:self 1:columns 2:rows 3:name 4:many 5:sizes 6:number 7:row 8:value 9:size -/
def b_Table_init : Ss := (.cons (.ite (.or (.not (.isi (.var 1) [.dct])) (.not (.cmp2 .le .le (.cst (.int 1)) (.bi .len (.cons false (.var 1) .nil)) (.cst (.int 4)))))
  (.cons .bad
 .nil)
  .nil)
 (.cons (.for_ (.tup [(.nm 3), (.nm 4)]) (.items (.var 1))
  (.cons (.ite (.or (.not (.call 3 (.cons false (.var 3) .nil))) (.or (.not (.call 1 (.cons false (.var 4) .nil))) (.not (.cmp2 .le .le (.cst (.int 1)) (.var 4) (.cst (.int 6))))))
  (.cons .bad
 .nil)
  .nil)
 .nil))
 (.cons (.ite (.or (.not (.call 0 (.cons false (.var 2) .nil))) (.cmp .gt (.bi .len (.cons false (.var 2) .nil)) (.cst (.int 64))))
  (.cons .bad
 .nil)
  .nil)
 (.cons (.asg 5 false (.lc (.idx (.var 1) (.var 3)) (.nm 3) (.val (.bw .sorted (.val (.var 1)))) .nil))
 (.cons (.for_ (.tup [(.nm 6), (.nm 7)]) (.enum (.val (.var 2)))
  (.cons (.ite (.or (.not (.call 0 (.cons false (.var 7) .nil))) (.cmp .ne (.bi .len (.cons false (.var 7) .nil)) (.bi .len (.cons false (.var 5) .nil))))
  (.cons .bad
 .nil)
  .nil)
 (.cons (.ite (.not (.bw .all (.val (.lc (.call 2 (.cons false (.var 8) (.cons false (.var 9) .nil))) (.tup [(.nm 8), (.nm 9)]) (.zip2 (.val (.var 7)) (.val (.var 5))) .nil))))
  (.cons .bad
 .nil)
  .nil)
 .nil)))
 (.cons (.setF 0 2 (.dc (.var 3) (.idx (.var 1) (.var 3)) (.nm 3) (.val (.bw .sorted (.val (.var 1)))) .nil))
 (.cons (.setF 0 0 (.bw .tuple (.val (.lc (.bw .tuple (.val (.var 7))) (.nm 7) (.val (.var 2)) .nil))))
 .nil)))))))
/-- 18: Table_eq(self, other) slots 0:self 1:other -/
def b_Table_eq : Ss := (.cons (.ret (.and (.isi (.var 1) [(.cls 1)]) (.cmp .eq (.tup (.cons false (.att (.var 0) 2) (.cons false (.att (.var 0) 0) .nil))) (.tup (.cons false (.att (.var 1) 2) (.cons false (.att (.var 1) 0) .nil))))))
 .nil)
/-- 19: Table_place(self, name) slots 0:self 1:name -/
def b_Table_place : Ss := (.cons (.ite (.or (.not (.isi (.var 1) [.str])) (.cmp .notin (.var 1) (.att (.var 0) 2)))
  (.cons .bad
 .nil)
  .nil)
 (.cons (.ret (.bm .index (.bw .list (.val (.att (.var 0) 2))) (.cons false (.var 1) .nil)))
 .nil))
/-- 20: Table_bits(self, name, value) slots 0:self 1:name 2:value 3:at 4:number 5:row -/
def b_Table_bits : Ss := (.cons (.asg 3 false (.meth (.var 0) 3 (.cons false (.var 1) .nil)))
 (.cons (.ite (.not (.call 2 (.cons false (.var 2) (.cons false (.idx (.att (.var 0) 2) (.var 1)) .nil))))
  (.cons .bad
 .nil)
  .nil)
 (.cons (.ret (.mk 0 (.cons false (.bi .len (.cons false (.att (.var 0) 0) .nil)) (.cons false (.lc (.var 4) (.tup [(.nm 4), (.nm 5)]) (.enum (.val (.att (.var 0) 0))) (.cons false (.cmp .eq (.idx (.var 5) (.var 3)) (.var 2)) .nil)) .nil))))
 .nil)))
/-- 21: Table_kinds(self) slots 0:self -/
def b_Table_kinds : Ss := (.cons .bad
 .nil)
/-- 22: check_table(table) slots 0:table -/
def b_check_table : Ss := (.cons (.ite (.not (.isi (.var 0) [(.cls 1)]))
  (.cons .bad
 .nil)
  .nil)
 .nil)
/-- 23: check_question(columns, question, deep) slots 0:columns 1:question 2:deep 3:word 4:part -/
def b_check_question : Ss := (.cons (.ite (.or (.cmp .eq (.var 2) (.cst (.int 0))) (.or (.not (.isi (.var 1) [.tup])) (.or (.cmp .eq (.var 1) (.tup .nil)) (.not (.isi (.idx (.var 1) (.cst (.int 0))) [.str])))))
  (.cons .bad
 .nil)
  .nil)
 (.cons (.asg 3 false (.idx (.var 1) (.cst (.int 0))))
 (.cons (.ite (.and (.cmp .eq (.var 3) (.cst (.str ⟨#[97, 110, 121]⟩))) (.cmp .eq (.bi .len (.cons false (.var 1) .nil)) (.cst (.int 1))))
  (.cons .retN
 .nil)
  .nil)
 (.cons (.ite (.and (.cmp .isin (.var 3) (.tup (.cons false (.cst (.str ⟨#[105, 115]⟩)) (.cons false (.cst (.str ⟨#[102, 114, 111, 109]⟩)) (.cons false (.cst (.str ⟨#[116, 111]⟩)) .nil))))) (.and (.cmp .eq (.bi .len (.cons false (.var 1) .nil)) (.cst (.int 3))) (.isi (.idx (.var 1) (.cst (.int 1))) [.str])))
  (.cons (.ite (.and (.cmp .isin (.idx (.var 1) (.cst (.int 1))) (.var 0)) (.call 2 (.cons false (.idx (.var 1) (.cst (.int 2))) (.cons false (.idx (.var 0) (.idx (.var 1) (.cst (.int 1)))) .nil))))
  (.cons .retN
 .nil)
  .nil)
 .nil)
  (.cons (.ite (.or (.and (.cmp .isin (.var 3) (.tup (.cons false (.cst (.str ⟨#[97, 110, 100]⟩)) (.cons false (.cst (.str ⟨#[111, 114]⟩)) .nil)))) (.cmp .eq (.bi .len (.cons false (.var 1) .nil)) (.cst (.int 3)))) (.and (.cmp .eq (.var 3) (.cst (.str ⟨#[110, 111, 116]⟩))) (.cmp .eq (.bi .len (.cons false (.var 1) .nil)) (.cst (.int 2)))))
  (.cons (.for_ (.nm 4) (.val (.slc (.var 1) (.some (.cst (.int 1))) .none))
  (.cons (.expr (.call 23 (.cons false (.var 0) (.cons false (.var 4) (.cons false (.bin .sub (.var 2) (.cst (.int 1))) .nil)))))
 .nil))
 (.cons .retN
 .nil))
  .nil)
 .nil))
 (.cons .bad
 .nil)))))
/-- 24: fulfils(names, row, question) slots 0:names 1:row 2:question 3:word 4:value 5:told -/
def b_fulfils : Ss := (.cons (.asg 3 false (.idx (.var 2) (.cst (.int 0))))
 (.cons (.ite (.cmp .eq (.var 3) (.cst (.str ⟨#[97, 110, 121]⟩)))
  (.cons (.ret (.cst (.bl true)))
 .nil)
  .nil)
 (.cons (.ite (.cmp .isin (.var 3) (.tup (.cons false (.cst (.str ⟨#[105, 115]⟩)) (.cons false (.cst (.str ⟨#[102, 114, 111, 109]⟩)) (.cons false (.cst (.str ⟨#[116, 111]⟩)) .nil)))))
  (.cons (.asg 4 false (.idx (.var 1) (.bm .index (.var 0) (.cons false (.idx (.var 2) (.cst (.int 1))) .nil))))
 (.cons (.ite (.cmp .eq (.var 3) (.cst (.str ⟨#[105, 115]⟩)))
  (.cons (.ret (.cmp .eq (.var 4) (.idx (.var 2) (.cst (.int 2)))))
 .nil)
  .nil)
 (.cons (.ret (.ite (.cmp .eq (.var 3) (.cst (.str ⟨#[102, 114, 111, 109]⟩))) (.cmp .ge (.var 4) (.idx (.var 2) (.cst (.int 2)))) (.cmp .le (.var 4) (.idx (.var 2) (.cst (.int 2))))))
 .nil)))
  .nil)
 (.cons (.ite (.cmp .eq (.var 3) (.cst (.str ⟨#[110, 111, 116]⟩)))
  (.cons (.ret (.not (.call 24 (.cons false (.var 0) (.cons false (.var 1) (.cons false (.idx (.var 2) (.cst (.int 1))) .nil))))))
 .nil)
  .nil)
 (.cons (.asg 5 false (.call 24 (.cons false (.var 0) (.cons false (.var 1) (.cons false (.idx (.var 2) (.cst (.int 1))) .nil)))))
 (.cons (.ite (.cmp .eq (.var 3) (.cst (.str ⟨#[97, 110, 100]⟩)))
  (.cons (.ret (.and (.var 5) (.call 24 (.cons false (.var 0) (.cons false (.var 1) (.cons false (.idx (.var 2) (.cst (.int 2))) .nil))))))
 .nil)
  .nil)
 (.cons (.ret (.or (.var 5) (.call 24 (.cons false (.var 0) (.cons false (.var 1) (.cons false (.idx (.var 2) (.cst (.int 2))) .nil))))))
 .nil)))))))
/-- 25: answer(table, question) slots 0:table 1:question -/
def b_answer : Ss := (.cons (.expr (.call 22 (.cons false (.var 0) .nil)))
 (.cons (.expr (.call 23 (.cons false (.att (.var 0) 2) (.cons false (.var 1) .nil))))
 (.cons (.ret (.call 26 (.cons false (.var 0) (.cons false (.var 1) .nil))))
 .nil)))
/-- 26: answered(table, question) slots 0:table 1:question 2:word 3:size 4:first 5:last 6:found 7:value 8:one 9:other -/
def b_answered : Ss := (.cons (.asg 2 false (.idx (.var 1) (.cst (.int 0))))
 (.cons (.ite (.cmp .eq (.var 2) (.cst (.str ⟨#[97, 110, 121]⟩)))
  (.cons (.ret (.mk 0 (.cons false (.bi .len (.cons false (.att (.var 0) 0) .nil)) (.cons false (.bw .list (.rng1 (.bi .len (.cons false (.att (.var 0) 0) .nil)))) .nil))))
 .nil)
  .nil)
 (.cons (.ite (.cmp .isin (.var 2) (.tup (.cons false (.cst (.str ⟨#[105, 115]⟩)) (.cons false (.cst (.str ⟨#[102, 114, 111, 109]⟩)) (.cons false (.cst (.str ⟨#[116, 111]⟩)) .nil)))))
  (.cons (.asg 3 false (.idx (.att (.var 0) 2) (.idx (.var 1) (.cst (.int 1)))))
 (.cons (.asg 4 false (.ite (.cmp .isin (.var 2) (.tup (.cons false (.cst (.str ⟨#[105, 115]⟩)) (.cons false (.cst (.str ⟨#[102, 114, 111, 109]⟩)) .nil)))) (.idx (.var 1) (.cst (.int 2))) (.cst (.int 0))))
 (.cons (.asg 5 false (.ite (.cmp .isin (.var 2) (.tup (.cons false (.cst (.str ⟨#[105, 115]⟩)) (.cons false (.cst (.str ⟨#[116, 111]⟩)) .nil)))) (.idx (.var 1) (.cst (.int 2))) (.bin .sub (.var 3) (.cst (.int 1)))))
 (.cons (.asg 6 false (.mk 0 (.cons false (.bi .len (.cons false (.att (.var 0) 0) .nil)) (.cons false (.lst .nil) .nil))))
 (.cons (.for_ (.nm 7) (.rng2 (.var 4) (.bin .add (.var 5) (.cst (.int 1))))
  (.cons (.asg 6 false (.meth (.var 6) 5 (.cons false (.meth (.var 0) 7 (.cons false (.idx (.var 1) (.cst (.int 1))) (.cons false (.var 7) .nil))) .nil)))
 .nil))
 (.cons (.ret (.var 6))
 .nil))))))
  .nil)
 (.cons (.ite (.cmp .eq (.var 2) (.cst (.str ⟨#[110, 111, 116]⟩)))
  (.cons (.ret (.meth (.call 26 (.cons false (.var 0) (.cons false (.idx (.var 1) (.cst (.int 1))) .nil))) 6 .nil))
 .nil)
  .nil)
 (.cons (.par [(8, false), (9, false)] (.cons false (.call 26 (.cons false (.var 0) (.cons false (.idx (.var 1) (.cst (.int 1))) .nil))) (.cons false (.call 26 (.cons false (.var 0) (.cons false (.idx (.var 1) (.cst (.int 2))) .nil))) .nil)))
 (.cons (.ret (.ite (.cmp .eq (.var 2) (.cst (.str ⟨#[97, 110, 100]⟩))) (.meth (.var 8) 4 (.cons false (.var 9) .nil)) (.meth (.var 8) 5 (.cons false (.var 9) .nil))))
 .nil))))))
/-- 27: count(table, question) slots 0:table 1:question -/
def b_count : Ss := (.cons (.ret (.meth (.call 25 (.cons false (.var 0) (.cons false (.var 1) .nil))) 8 .nil))
 .nil)
/-- 28: all_rows(columns) slots 0:columns 1:found 2:name 3:row 4:value -/
def b_all_rows : Ss := (.cons (.expr (.mk 1 (.cons false (.var 0) (.cons false (.lst .nil) .nil))))
 (.cons (.asg 1 false (.lst (.cons false (.tup .nil) .nil)))
 (.cons (.for_ (.nm 2) (.val (.bw .sorted (.val (.var 0))))
  (.cons (.asg 1 false (.lc2 (.tup (.cons true (.var 3) (.cons false (.var 4) .nil))) (.nm 3) (.val (.var 1)) .nil (.nm 4) (.rng1 (.idx (.var 0) (.var 2))) .nil))
 .nil))
 (.cons (.ret (.var 1))
 .nil))))
/-- 29: Same_init(self, many) slots 0:self 1:many -/
def b_Same_init : Ss := (.cons (.setF 0 1 (.var 1))
 .nil)
/-- 30: Same_bool(self) slots 0:self -/
def b_Same_bool : Ss := (.cons (.ret (.cst (.bl true)))
 .nil)
/-- 31: Same_eq(self, other) slots 0:self 1:other -/
def b_Same_eq : Ss := (.cons (.ret (.and (.isi (.var 1) [(.cls 2)]) (.cmp .eq (.att (.var 0) 1) (.att (.var 1) 1))))
 .nil)
/-- 32: Same_shows(self, columns, one, other) slots 0:self 1:columns 2:one 3:other -/
def b_Same_shows : Ss := (.cons .bad
 .nil)
/-- 33: Parts_init(self, row) slots 0:self 1:row -/
def b_Parts_init : Ss := (.cons (.setF 0 9 (.bw .tuple (.val (.var 1))))
 .nil)
/-- 34: Parts_bool(self) slots 0:self -/
def b_Parts_bool : Ss := (.cons (.ret (.cst (.bl false)))
 .nil)
/-- 35: Parts_eq(self, other) slots 0:self 1:other -/
def b_Parts_eq : Ss := (.cons (.ret (.and (.isi (.var 1) [(.cls 3)]) (.cmp .eq (.att (.var 0) 9) (.att (.var 1) 9))))
 .nil)
/-- 36: Parts_shows(self, columns, one, other) slots 0:self 1:columns 2:one 3:other -/
def b_Parts_shows : Ss := (.cons .bad
 .nil)
/-- 37: check_both(columns, one, other) slots 0:columns 1:one 2:other -/
def b_check_both : Ss := (.cons (.expr (.mk 1 (.cons false (.var 0) (.cons false (.lst .nil) .nil))))
 (.cons (.expr (.call 23 (.cons false (.var 0) (.cons false (.var 1) .nil))))
 (.cons (.expr (.call 23 (.cons false (.var 0) (.cons false (.var 2) .nil))))
 .nil)))
/-- 38: judge_same(columns, one, other) slots 0:columns 1:one 2:other 3:names 4:rows 5:row -/
def b_judge_same : Ss := (.cons (.expr (.call 37 (.cons false (.var 0) (.cons false (.var 1) (.cons false (.var 2) .nil)))))
 (.cons (.par [(3, false), (4, false)] (.cons false (.bw .sorted (.val (.var 0))) (.cons false (.call 28 (.cons false (.var 0) .nil)) .nil)))
 (.cons (.for_ (.nm 5) (.val (.var 4))
  (.cons (.ite (.cmp .ne (.call 24 (.cons false (.var 3) (.cons false (.var 5) (.cons false (.var 1) .nil)))) (.call 24 (.cons false (.var 3) (.cons false (.var 5) (.cons false (.var 2) .nil)))))
  (.cons (.ret (.mk 3 (.cons false (.var 5) .nil)))
 .nil)
  .nil)
 .nil))
 (.cons (.ret (.mk 2 (.cons false (.bi .len (.cons false (.var 4) .nil)) .nil)))
 .nil))))
/-- 39: _law_number(script, index) slots 0:script 1:index 2:cell 3:turn 4:rest 5:step 6:blend -/
def b__law_number : Ss := (.cons (.asgP (.tup [(.nm 2), (.nm 3)]) (.ite (.cmp .ne (.var 0) (.lst .nil)) (.tup (.cons false (.idx (.var 0) (.bin .mod (.var 1) (.bi .len (.cons false (.var 0) .nil)))) (.cons false (.bin .fdiv (.var 1) (.bi .len (.cons false (.var 0) .nil))) .nil))) (.tup (.cons false (.cst (.int 12345)) (.cons false (.cst (.int 0)) .nil)))))
 (.cons (.asg 4 false (.ite (.cmp .lt (.var 3) (.cst (.int 60))) (.bin .sub (.var 2) (.bin .pow (.cst (.int 10)) (.cst (.int 18)))) (.cst (.int 0))))
 (.cons (.for_ (.nm 5) (.rng1 (.bin .mod (.bi .int (.cons false (.var 3) .nil)) (.cst (.int 60))))
  (.cons (.asg 4 false (.bin .fdiv (.var 4) (.cst (.int 1009))))
 .nil))
 (.cons (.ite (.cmp .gt (.var 4) (.cst (.int 0)))
  (.cons (.ret (.bin .mod (.bi .int (.cons false (.var 4) .nil)) (.cst (.int 1009))))
 .nil)
  .nil)
 (.cons (.asg 6 false (.bin .mod (.bin .add (.bin .mul (.bi .int (.cons false (.bin .add (.var 2) (.bin .mul (.cst (.int 977)) (.var 1))) .nil)) (.cst (.int 48271))) (.bin .mul (.cst (.int 31)) (.bi .len (.cons false (.var 0) .nil)))) (.cst (.int 2147483647))))
 (.cons (.asg 6 false (.bin .mod (.bin .add (.bin .mul (.var 6) (.var 6)) (.bin .mul (.cst (.int 40503)) (.var 1))) (.cst (.int 2147483629))))
 (.cons (.ret (.bi .int (.cons false (.bin .mod (.bin .add (.bin .mul (.var 6) (.cst (.int 69621))) (.bin .fdiv (.var 6) (.cst (.int 977)))) (.cst (.int 2147483587))) .nil)))
 .nil)))))))
/-- 40: _law_pick(draw, items) slots 0:draw 1:items -/
def b__law_pick : Ss := (.cons (.ret (.idx (.var 1) (.take (.var 0) (.bi .len (.cons false (.var 1) .nil)))))
 .nil)
/-- 41: _law_columns(draw) slots 0:draw 1:name -/
def b__law_columns : Ss := (.cons (.ret (.bw .dict (.val (.lc (.tup (.cons false (.var 1) (.cons false (.bin .add (.cst (.int 1)) (.take (.var 0) (.cst (.int 4)))) .nil))) (.nm 1) (.val (.slc (.lst (.cons false (.cst (.str ⟨#[97]⟩)) (.cons false (.cst (.str ⟨#[98]⟩)) (.cons false (.cst (.str ⟨#[99]⟩)) .nil)))) .none (.some (.bin .add (.cst (.int 1)) (.take (.var 0) (.cst (.int 3))))))) .nil))))
 .nil)
/-- 42: _law_rows(draw, columns, most) slots 0:draw 1:columns 2:most 3:name 4:turn -/
def b__law_rows : Ss := (.cons (.ret (.lc (.bw .tuple (.val (.lc (.take (.var 0) (.idx (.var 1) (.var 3))) (.nm 3) (.val (.bw .sorted (.val (.var 1)))) .nil))) (.nm 4) (.rng1 (.take (.var 0) (.var 2))) .nil))
 .nil)
/-- 43: _law_question(draw, columns, deep) slots 0:draw 1:columns 2:deep 3:kind 4:name -/
def b__law_question : Ss := (.cons (.asg 3 false (.take (.var 0) (.cst (.int 8))))
 (.cons (.ite (.or (.cmp .eq (.var 2) (.cst (.int 0))) (.cmp .lt (.var 3) (.cst (.int 4))))
  (.cons (.asg 4 false (.call 40 (.cons false (.var 0) (.cons false (.bw .sorted (.val (.var 1))) .nil))))
 (.cons (.ret (.ite (.or (.cmp .gt (.var 3) (.cst (.int 0))) (.cmp .gt (.var 2) (.cst (.int 0)))) (.tup (.cons false (.call 40 (.cons false (.var 0) (.cons false (.lst (.cons false (.cst (.str ⟨#[105, 115]⟩)) (.cons false (.cst (.str ⟨#[105, 115]⟩)) (.cons false (.cst (.str ⟨#[102, 114, 111, 109]⟩)) (.cons false (.cst (.str ⟨#[116, 111]⟩)) .nil))))) .nil))) (.cons false (.var 4) (.cons false (.take (.var 0) (.idx (.var 1) (.var 4))) .nil)))) (.tup (.cons false (.cst (.str ⟨#[97, 110, 121]⟩)) .nil))))
 .nil))
  .nil)
 (.cons (.ite (.cmp .eq (.var 3) (.cst (.int 7)))
  (.cons (.ret (.tup (.cons false (.cst (.str ⟨#[110, 111, 116]⟩)) (.cons false (.call 43 (.cons false (.var 0) (.cons false (.var 1) (.cons false (.bin .sub (.var 2) (.cst (.int 1))) .nil)))) .nil))))
 .nil)
  .nil)
 (.cons (.ret (.tup (.cons false (.call 40 (.cons false (.var 0) (.cons false (.lst (.cons false (.cst (.str ⟨#[97, 110, 100]⟩)) (.cons false (.cst (.str ⟨#[111, 114]⟩)) .nil))) .nil))) (.cons false (.call 43 (.cons false (.var 0) (.cons false (.var 1) (.cons false (.bin .sub (.var 2) (.cst (.int 1))) .nil)))) (.cons false (.call 43 (.cons false (.var 0) (.cons false (.var 1) (.cons false (.bin .sub (.var 2) (.cst (.int 1))) .nil)))) .nil)))))
 .nil))))
/-- 44: law(script, draw) slots 0:script 1:draw 2:columns 3:one 4:other 5:third 6:rows 7:name 8:value 9:left 10:right 11:table 12:many 13:three 14:due 15:late 16:first 17:last 18:row -/
def b_law_20 : Ss := .nil
def b_law_19 : Ss := (.cons (.ret (.and (.cmp .eq (.bin .add (.call 27 (.cons false (.var 16) (.cons false (.var 3) .nil))) (.call 27 (.cons false (.var 17) (.cons false (.var 3) .nil)))) (.call 27 (.cons false (.var 11) (.cons false (.var 3) .nil)))) (.cmp .eq (.lc (.bin .add (.var 18) (.bin .fdiv (.var 12) (.cst (.int 2)))) (.nm 18) (.val (.att (.call 25 (.cons false (.var 17) (.cons false (.var 3) .nil))) 0)) .nil) (.lc (.var 18) (.nm 18) (.val (.att (.call 25 (.cons false (.var 11) (.cons false (.var 3) .nil))) 0)) (.cons false (.cmp .ge (.var 18) (.bin .fdiv (.var 12) (.cst (.int 2)))) .nil)))))
 b_law_20)
def b_law_18 : Ss := (.cons (.par [(16, false), (17, false)] (.cons false (.mk 1 (.cons false (.var 2) (.cons false (.slc (.att (.var 11) 0) .none (.some (.bin .fdiv (.var 12) (.cst (.int 2))))) .nil))) (.cons false (.mk 1 (.cons false (.var 2) (.cons false (.slc (.att (.var 11) 0) (.some (.bin .fdiv (.var 12) (.cst (.int 2)))) .none) .nil))) .nil)))
 b_law_19)
def b_law_17 : Ss := (.cons (.ite (.or (.cmp .ne (.bw .sum (.val (.lc (.call 27 (.cons false (.var 11) (.cons false (.tup (.cons false (.cst (.str ⟨#[105, 115]⟩)) (.cons false (.var 7) (.cons false (.var 15) .nil)))) .nil))) (.nm 15) (.rng1 (.idx (.var 2) (.var 7))) .nil))) (.var 12)) (.cmp .ne (.call 25 (.cons false (.var 11) (.cons false (.tup (.cons false (.cst (.str ⟨#[97, 110, 100]⟩)) (.cons false (.var 3) (.cons false (.var 4) .nil)))) .nil))) (.meth (.call 25 (.cons false (.var 11) (.cons false (.var 3) .nil))) 4 (.cons false (.call 25 (.cons false (.var 11) (.cons false (.var 4) .nil))) .nil))))
  (.cons (.ret (.cst (.bl false)))
 .nil)
  .nil)
 b_law_18)
def b_law_16 : Ss := (.cons (.ite (.cmp .ne (.call 27 (.cons false (.var 11) (.cons false (.var 13) .nil))) (.bin .add (.var 14) (.call 27 (.cons false (.var 11) (.cons false (.tup (.cons false (.cst (.str ⟨#[97, 110, 100]⟩)) (.cons false (.var 3) (.cons false (.tup (.cons false (.cst (.str ⟨#[97, 110, 100]⟩)) (.cons false (.var 4) (.cons false (.var 5) .nil)))) .nil)))) .nil)))))
  (.cons (.ret (.cst (.bl false)))
 .nil)
  .nil)
 b_law_17)
def b_law_15 : Ss := (.cons (.asg 14 false (.bin .sub (.bin .sub (.bin .sub (.bin .add (.bin .add (.call 27 (.cons false (.var 11) (.cons false (.var 3) .nil))) (.call 27 (.cons false (.var 11) (.cons false (.var 4) .nil)))) (.call 27 (.cons false (.var 11) (.cons false (.var 5) .nil)))) (.call 27 (.cons false (.var 11) (.cons false (.tup (.cons false (.cst (.str ⟨#[97, 110, 100]⟩)) (.cons false (.var 3) (.cons false (.var 4) .nil)))) .nil)))) (.call 27 (.cons false (.var 11) (.cons false (.tup (.cons false (.cst (.str ⟨#[97, 110, 100]⟩)) (.cons false (.var 3) (.cons false (.var 5) .nil)))) .nil)))) (.call 27 (.cons false (.var 11) (.cons false (.tup (.cons false (.cst (.str ⟨#[97, 110, 100]⟩)) (.cons false (.var 4) (.cons false (.var 5) .nil)))) .nil)))))
 b_law_16)
def b_law_14 : Ss := (.cons (.asg 13 false (.tup (.cons false (.cst (.str ⟨#[111, 114]⟩)) (.cons false (.var 3) (.cons false (.tup (.cons false (.cst (.str ⟨#[111, 114]⟩)) (.cons false (.var 4) (.cons false (.var 5) .nil)))) .nil)))))
 b_law_15)
def b_law_13 : Ss := (.cons (.ite (.or (.cmp .ne (.bin .add (.call 27 (.cons false (.var 11) (.cons false (.tup (.cons false (.cst (.str ⟨#[111, 114]⟩)) (.cons false (.var 3) (.cons false (.var 4) .nil)))) .nil))) (.call 27 (.cons false (.var 11) (.cons false (.tup (.cons false (.cst (.str ⟨#[97, 110, 100]⟩)) (.cons false (.var 3) (.cons false (.var 4) .nil)))) .nil)))) (.bin .add (.call 27 (.cons false (.var 11) (.cons false (.var 3) .nil))) (.call 27 (.cons false (.var 11) (.cons false (.var 4) .nil))))) (.cmp .ne (.call 27 (.cons false (.var 11) (.cons false (.tup (.cons false (.cst (.str ⟨#[110, 111, 116]⟩)) (.cons false (.var 3) .nil))) .nil))) (.bin .sub (.var 12) (.call 27 (.cons false (.var 11) (.cons false (.var 3) .nil))))))
  (.cons (.ret (.cst (.bl false)))
 .nil)
  .nil)
 b_law_14)
def b_law_12 : Ss := (.cons (.asg 12 false (.bi .len (.cons false (.att (.var 11) 0) .nil)))
 b_law_13)
def b_law_11 : Ss := (.cons (.asg 11 false (.mk 1 (.cons false (.var 2) (.cons false (.call 42 (.cons false (.var 1) (.cons false (.var 2) (.cons false (.cst (.int 12)) .nil)))) .nil))))
 b_law_12)
def b_law_10 : Ss := (.cons (.for_ (.tup [(.nm 9), (.nm 10)]) (.val (.var 6))
  (.cons (.ite (.not (.call 38 (.cons false (.var 2) (.cons false (.var 9) (.cons false (.var 10) .nil)))))
  (.cons (.ret (.cst (.bl false)))
 .nil)
  .nil)
 .nil))
 b_law_11)
def b_law_9 : Ss := (.cons (.ite (.cmp .gt (.var 8) (.cst (.int 0)))
  (.cons (.asg 6 false (.bin .add (.var 6) (.lst (.cons false (.tup (.cons false (.tup (.cons false (.cst (.str ⟨#[110, 111, 116]⟩)) (.cons false (.tup (.cons false (.cst (.str ⟨#[102, 114, 111, 109]⟩)) (.cons false (.var 7) (.cons false (.var 8) .nil)))) .nil))) (.cons false (.tup (.cons false (.cst (.str ⟨#[116, 111]⟩)) (.cons false (.var 7) (.cons false (.bin .sub (.var 8) (.cst (.int 1))) .nil)))) .nil))) (.cons false (.tup (.cons false (.tup (.cons false (.cst (.str ⟨#[97, 110, 100]⟩)) (.cons false (.tup (.cons false (.cst (.str ⟨#[105, 115]⟩)) (.cons false (.var 7) (.cons false (.var 8) .nil)))) (.cons false (.tup (.cons false (.cst (.str ⟨#[105, 115]⟩)) (.cons false (.var 7) (.cons false (.cst (.int 0)) .nil)))) .nil)))) (.cons false (.tup (.cons false (.cst (.str ⟨#[110, 111, 116]⟩)) (.cons false (.tup (.cons false (.cst (.str ⟨#[97, 110, 121]⟩)) .nil)) .nil))) .nil))) .nil)))))
 .nil)
  .nil)
 b_law_10)
def b_law_8 : Ss := (.cons (.asg 6 false (.bin .add (.var 6) (.lst (.cons false (.tup (.cons false (.tup (.cons false (.cst (.str ⟨#[116, 111]⟩)) (.cons false (.var 7) (.cons false (.bin .sub (.idx (.var 2) (.var 7)) (.cst (.int 1))) .nil)))) (.cons false (.tup (.cons false (.cst (.str ⟨#[97, 110, 121]⟩)) .nil)) .nil))) (.cons false (.tup (.cons false (.tup (.cons false (.cst (.str ⟨#[111, 114]⟩)) (.cons false (.tup (.cons false (.cst (.str ⟨#[102, 114, 111, 109]⟩)) (.cons false (.var 7) (.cons false (.var 8) .nil)))) (.cons false (.tup (.cons false (.cst (.str ⟨#[116, 111]⟩)) (.cons false (.var 7) (.cons false (.var 8) .nil)))) .nil)))) (.cons false (.tup (.cons false (.cst (.str ⟨#[97, 110, 121]⟩)) .nil)) .nil))) .nil)))))
 b_law_9)
def b_law_7 : Ss := (.cons (.asg 6 false (.bin .add (.var 6) (.lst (.cons false (.tup (.cons false (.tup (.cons false (.cst (.str ⟨#[97, 110, 100]⟩)) (.cons false (.tup (.cons false (.cst (.str ⟨#[102, 114, 111, 109]⟩)) (.cons false (.var 7) (.cons false (.var 8) .nil)))) (.cons false (.tup (.cons false (.cst (.str ⟨#[116, 111]⟩)) (.cons false (.var 7) (.cons false (.var 8) .nil)))) .nil)))) (.cons false (.tup (.cons false (.cst (.str ⟨#[105, 115]⟩)) (.cons false (.var 7) (.cons false (.var 8) .nil)))) .nil))) (.cons false (.tup (.cons false (.tup (.cons false (.cst (.str ⟨#[102, 114, 111, 109]⟩)) (.cons false (.var 7) (.cons false (.cst (.int 0)) .nil)))) (.cons false (.tup (.cons false (.cst (.str ⟨#[97, 110, 121]⟩)) .nil)) .nil))) .nil)))))
 b_law_8)
def b_law_6 : Ss := (.cons (.asg 8 false (.take (.var 1) (.idx (.var 2) (.var 7))))
 b_law_7)
def b_law_5 : Ss := (.cons (.asg 7 false (.call 40 (.cons false (.var 1) (.cons false (.bw .sorted (.val (.var 2))) .nil))))
 b_law_6)
def b_law_4 : Ss := (.cons (.asg 6 false (.bin .add (.var 6) (.lst (.cons false (.tup (.cons false (.tup (.cons false (.cst (.str ⟨#[97, 110, 100]⟩)) (.cons false (.var 3) (.cons false (.var 3) .nil)))) (.cons false (.var 3) .nil))) (.cons false (.tup (.cons false (.tup (.cons false (.cst (.str ⟨#[111, 114]⟩)) (.cons false (.var 3) (.cons false (.tup (.cons false (.cst (.str ⟨#[110, 111, 116]⟩)) (.cons false (.var 3) .nil))) .nil)))) (.cons false (.tup (.cons false (.cst (.str ⟨#[97, 110, 121]⟩)) .nil)) .nil))) .nil)))))
 b_law_5)
def b_law_3 : Ss := (.cons (.asg 6 false (.bin .add (.var 6) (.lst (.cons false (.tup (.cons false (.tup (.cons false (.cst (.str ⟨#[97, 110, 100]⟩)) (.cons false (.var 3) (.cons false (.tup (.cons false (.cst (.str ⟨#[111, 114]⟩)) (.cons false (.var 4) (.cons false (.var 5) .nil)))) .nil)))) (.cons false (.tup (.cons false (.cst (.str ⟨#[111, 114]⟩)) (.cons false (.tup (.cons false (.cst (.str ⟨#[97, 110, 100]⟩)) (.cons false (.var 3) (.cons false (.var 4) .nil)))) (.cons false (.tup (.cons false (.cst (.str ⟨#[97, 110, 100]⟩)) (.cons false (.var 3) (.cons false (.var 5) .nil)))) .nil)))) .nil))) (.cons false (.tup (.cons false (.tup (.cons false (.cst (.str ⟨#[111, 114]⟩)) (.cons false (.var 3) (.cons false (.tup (.cons false (.cst (.str ⟨#[97, 110, 100]⟩)) (.cons false (.var 3) (.cons false (.var 4) .nil)))) .nil)))) (.cons false (.var 3) .nil))) .nil)))))
 b_law_4)
def b_law_2 : Ss := (.cons (.asg 6 false (.lst (.cons false (.tup (.cons false (.tup (.cons false (.cst (.str ⟨#[110, 111, 116]⟩)) (.cons false (.tup (.cons false (.cst (.str ⟨#[97, 110, 100]⟩)) (.cons false (.var 3) (.cons false (.var 4) .nil)))) .nil))) (.cons false (.tup (.cons false (.cst (.str ⟨#[111, 114]⟩)) (.cons false (.tup (.cons false (.cst (.str ⟨#[110, 111, 116]⟩)) (.cons false (.var 3) .nil))) (.cons false (.tup (.cons false (.cst (.str ⟨#[110, 111, 116]⟩)) (.cons false (.var 4) .nil))) .nil)))) .nil))) (.cons false (.tup (.cons false (.tup (.cons false (.cst (.str ⟨#[110, 111, 116]⟩)) (.cons false (.tup (.cons false (.cst (.str ⟨#[111, 114]⟩)) (.cons false (.var 3) (.cons false (.var 4) .nil)))) .nil))) (.cons false (.tup (.cons false (.cst (.str ⟨#[97, 110, 100]⟩)) (.cons false (.tup (.cons false (.cst (.str ⟨#[110, 111, 116]⟩)) (.cons false (.var 3) .nil))) (.cons false (.tup (.cons false (.cst (.str ⟨#[110, 111, 116]⟩)) (.cons false (.var 4) .nil))) .nil)))) .nil))) .nil))))
 b_law_3)
def b_law_1 : Ss := (.cons (.par [(3, false), (4, false), (5, false)] (.cons false (.call 43 (.cons false (.var 1) (.cons false (.var 2) (.cons false (.cst (.int 1)) .nil)))) (.cons false (.call 43 (.cons false (.var 1) (.cons false (.var 2) (.cons false (.cst (.int 1)) .nil)))) (.cons false (.call 43 (.cons false (.var 1) (.cons false (.var 2) (.cons false (.cst (.int 1)) .nil)))) .nil))))
 b_law_2)
def b_law_0 : Ss := (.cons (.asg 2 false (.call 41 (.cons false (.var 1) .nil)))
 b_law_1)
def b_law : Ss := b_law_0
def T : Tb := Tb.mk [⟨1, 1, b_is_row, []⟩,
    ⟨1, 1, b_is_number, []⟩,
    ⟨2, 2, b_is_below, []⟩,
    ⟨1, 2, b_is_name, []⟩,
    ⟨3, 5, b_Bits_init, []⟩,
    ⟨2, 2, b_Bits_eq, []⟩,
    ⟨2, 4, b_Bits_both, []⟩,
    ⟨2, 2, b_Bits_either, []⟩,
    ⟨2, 4, b_Bits_without, []⟩,
    ⟨1, 3, b_Bits_others, []⟩,
    ⟨1, 1, b_Bits_count, []⟩,
    ⟨2, 2, b_Bits_has, []⟩,
    ⟨2, 3, b_Bits_rank, []⟩,
    ⟨2, 2, b_Bits_at, []⟩,
    ⟨1, 1, b_Bits_runs, []⟩,
    ⟨3, 4, b_Bits_part, []⟩,
    ⟨2, 2, b_check_same, []⟩,
    ⟨3, 10, b_Table_init, []⟩,
    ⟨2, 2, b_Table_eq, []⟩,
    ⟨2, 2, b_Table_place, []⟩,
    ⟨3, 6, b_Table_bits, []⟩,
    ⟨1, 1, b_Table_kinds, []⟩,
    ⟨1, 1, b_check_table, []⟩,
    ⟨3, 5, b_check_question, [(.int 8)]⟩,
    ⟨3, 6, b_fulfils, []⟩,
    ⟨2, 2, b_answer, []⟩,
    ⟨2, 10, b_answered, []⟩,
    ⟨2, 2, b_count, []⟩,
    ⟨1, 5, b_all_rows, []⟩,
    ⟨2, 2, b_Same_init, []⟩,
    ⟨1, 1, b_Same_bool, []⟩,
    ⟨2, 2, b_Same_eq, []⟩,
    ⟨4, 4, b_Same_shows, []⟩,
    ⟨2, 2, b_Parts_init, []⟩,
    ⟨1, 1, b_Parts_bool, []⟩,
    ⟨2, 2, b_Parts_eq, []⟩,
    ⟨4, 4, b_Parts_shows, []⟩,
    ⟨3, 3, b_check_both, []⟩,
    ⟨3, 6, b_judge_same, []⟩,
    ⟨2, 7, b__law_number, []⟩,
    ⟨2, 2, b__law_pick, []⟩,
    ⟨1, 2, b__law_columns, []⟩,
    ⟨3, 5, b__law_rows, []⟩,
    ⟨3, 5, b__law_question, []⟩]
  [⟨4, [(4, 6), (5, 7), (10, 8), (6, 9), (8, 10), (11, 11), (12, 12), (13, 13), (14, 14), (15, 15)], some 5, none⟩,
    ⟨17, [(3, 19), (7, 20), (16, 21)], some 18, none⟩,
    ⟨29, [(17, 32)], some 31, some 30⟩,
    ⟨33, [(17, 36)], some 35, some 34⟩]
abbrev f_is_row : Nat := 0
abbrev F_is_row : Fn := ⟨1, 1, b_is_row, []⟩
abbrev f_is_number : Nat := 1
abbrev F_is_number : Fn := ⟨1, 1, b_is_number, []⟩
abbrev f_is_below : Nat := 2
abbrev F_is_below : Fn := ⟨2, 2, b_is_below, []⟩
abbrev f_is_name : Nat := 3
abbrev F_is_name : Fn := ⟨1, 2, b_is_name, []⟩
abbrev f_Bits_init : Nat := 4
abbrev F_Bits_init : Fn := ⟨3, 5, b_Bits_init, []⟩
abbrev f_Bits_eq : Nat := 5
abbrev F_Bits_eq : Fn := ⟨2, 2, b_Bits_eq, []⟩
abbrev f_Bits_both : Nat := 6
abbrev F_Bits_both : Fn := ⟨2, 4, b_Bits_both, []⟩
abbrev f_Bits_either : Nat := 7
abbrev F_Bits_either : Fn := ⟨2, 2, b_Bits_either, []⟩
abbrev f_Bits_without : Nat := 8
abbrev F_Bits_without : Fn := ⟨2, 4, b_Bits_without, []⟩
abbrev f_Bits_others : Nat := 9
abbrev F_Bits_others : Fn := ⟨1, 3, b_Bits_others, []⟩
abbrev f_Bits_count : Nat := 10
abbrev F_Bits_count : Fn := ⟨1, 1, b_Bits_count, []⟩
abbrev f_Bits_has : Nat := 11
abbrev F_Bits_has : Fn := ⟨2, 2, b_Bits_has, []⟩
abbrev f_Bits_rank : Nat := 12
abbrev F_Bits_rank : Fn := ⟨2, 3, b_Bits_rank, []⟩
abbrev f_Bits_at : Nat := 13
abbrev F_Bits_at : Fn := ⟨2, 2, b_Bits_at, []⟩
abbrev f_Bits_runs : Nat := 14
abbrev F_Bits_runs : Fn := ⟨1, 1, b_Bits_runs, []⟩
abbrev f_Bits_part : Nat := 15
abbrev F_Bits_part : Fn := ⟨3, 4, b_Bits_part, []⟩
abbrev f_check_same : Nat := 16
abbrev F_check_same : Fn := ⟨2, 2, b_check_same, []⟩
abbrev f_Table_init : Nat := 17
abbrev F_Table_init : Fn := ⟨3, 10, b_Table_init, []⟩
abbrev f_Table_eq : Nat := 18
abbrev F_Table_eq : Fn := ⟨2, 2, b_Table_eq, []⟩
abbrev f_Table_place : Nat := 19
abbrev F_Table_place : Fn := ⟨2, 2, b_Table_place, []⟩
abbrev f_Table_bits : Nat := 20
abbrev F_Table_bits : Fn := ⟨3, 6, b_Table_bits, []⟩
abbrev f_Table_kinds : Nat := 21
abbrev F_Table_kinds : Fn := ⟨1, 1, b_Table_kinds, []⟩
abbrev f_check_table : Nat := 22
abbrev F_check_table : Fn := ⟨1, 1, b_check_table, []⟩
abbrev f_check_question : Nat := 23
abbrev F_check_question : Fn := ⟨3, 5, b_check_question, [(.int 8)]⟩
abbrev f_fulfils : Nat := 24
abbrev F_fulfils : Fn := ⟨3, 6, b_fulfils, []⟩
abbrev f_answer : Nat := 25
abbrev F_answer : Fn := ⟨2, 2, b_answer, []⟩
abbrev f_answered : Nat := 26
abbrev F_answered : Fn := ⟨2, 10, b_answered, []⟩
abbrev f_count : Nat := 27
abbrev F_count : Fn := ⟨2, 2, b_count, []⟩
abbrev f_all_rows : Nat := 28
abbrev F_all_rows : Fn := ⟨1, 5, b_all_rows, []⟩
abbrev f_Same_init : Nat := 29
abbrev F_Same_init : Fn := ⟨2, 2, b_Same_init, []⟩
abbrev f_Same_bool : Nat := 30
abbrev F_Same_bool : Fn := ⟨1, 1, b_Same_bool, []⟩
abbrev f_Same_eq : Nat := 31
abbrev F_Same_eq : Fn := ⟨2, 2, b_Same_eq, []⟩
abbrev f_Same_shows : Nat := 32
abbrev F_Same_shows : Fn := ⟨4, 4, b_Same_shows, []⟩
abbrev f_Parts_init : Nat := 33
abbrev F_Parts_init : Fn := ⟨2, 2, b_Parts_init, []⟩
abbrev f_Parts_bool : Nat := 34
abbrev F_Parts_bool : Fn := ⟨1, 1, b_Parts_bool, []⟩
abbrev f_Parts_eq : Nat := 35
abbrev F_Parts_eq : Fn := ⟨2, 2, b_Parts_eq, []⟩
abbrev f_Parts_shows : Nat := 36
abbrev F_Parts_shows : Fn := ⟨4, 4, b_Parts_shows, []⟩
abbrev f_check_both : Nat := 37
abbrev F_check_both : Fn := ⟨3, 3, b_check_both, []⟩
abbrev f_judge_same : Nat := 38
abbrev F_judge_same : Fn := ⟨3, 6, b_judge_same, []⟩
abbrev f__law_number : Nat := 39
abbrev F__law_number : Fn := ⟨2, 7, b__law_number, []⟩
abbrev f__law_pick : Nat := 40
abbrev F__law_pick : Fn := ⟨2, 2, b__law_pick, []⟩
abbrev f__law_columns : Nat := 41
abbrev F__law_columns : Fn := ⟨1, 2, b__law_columns, []⟩
abbrev f__law_rows : Nat := 42
abbrev F__law_rows : Fn := ⟨3, 5, b__law_rows, []⟩
abbrev f__law_question : Nat := 43
abbrev F__law_question : Fn := ⟨3, 5, b__law_question, []⟩
abbrev n_rows : Nat := 0
abbrev n_many : Nat := 1
abbrev n_columns : Nat := 2
abbrev n_place : Nat := 3
abbrev n_both : Nat := 4
abbrev n_either : Nat := 5
abbrev n_others : Nat := 6
abbrev n_bits : Nat := 7
abbrev n_count : Nat := 8
abbrev n_row : Nat := 9
abbrev n_without : Nat := 10
abbrev n_has : Nat := 11
abbrev n_rank : Nat := 12
abbrev n_at : Nat := 13
abbrev n_runs : Nat := 14
abbrev n_part : Nat := 15
abbrev n_kinds : Nat := 16
abbrev n_shows : Nat := 17
abbrev c_Bits : Nat := 0
abbrev c_Table : Nat := 1
abbrev c_Same : Nat := 2
abbrev c_Parts : Nat := 3
/-- rows many columns place both either others bits count row without has rank at runs part kinds shows -/
def nm : List PySem.Str := [⟨#[114, 111, 119, 115]⟩, ⟨#[109, 97, 110, 121]⟩, ⟨#[99, 111, 108, 117, 109, 110, 115]⟩, ⟨#[112, 108, 97, 99, 101]⟩, ⟨#[98, 111, 116, 104]⟩, ⟨#[101, 105, 116, 104, 101, 114]⟩, ⟨#[111, 116, 104, 101, 114, 115]⟩, ⟨#[98, 105, 116, 115]⟩, ⟨#[99, 111, 117, 110, 116]⟩, ⟨#[114, 111, 119]⟩, ⟨#[119, 105, 116, 104, 111, 117, 116]⟩, ⟨#[104, 97, 115]⟩, ⟨#[114, 97, 110, 107]⟩, ⟨#[97, 116]⟩, ⟨#[114, 117, 110, 115]⟩, ⟨#[112, 97, 114, 116]⟩, ⟨#[107, 105, 110, 100, 115]⟩, ⟨#[115, 104, 111, 119, 115]⟩]
def clsN : List PySem.Str := [⟨#[66, 105, 116, 115]⟩, ⟨#[84, 97, 98, 108, 101]⟩, ⟨#[83, 97, 109, 101]⟩, ⟨#[80, 97, 114, 116, 115]⟩]
def paths : List (PySem.Str × Option PySem.Str) := [(⟨#[105, 115, 95, 114, 111, 119]⟩, none), (⟨#[105, 115, 95, 110, 117, 109, 98, 101, 114]⟩, none), (⟨#[105, 115, 95, 98, 101, 108, 111, 119]⟩, none), (⟨#[105, 115, 95, 110, 97, 109, 101]⟩, none), (⟨#[66, 105, 116, 115]⟩, some ⟨#[95, 95, 105, 110, 105, 116, 95, 95]⟩), (⟨#[66, 105, 116, 115]⟩, some ⟨#[95, 95, 101, 113, 95, 95]⟩), (⟨#[66, 105, 116, 115]⟩, some ⟨#[98, 111, 116, 104]⟩), (⟨#[66, 105, 116, 115]⟩, some ⟨#[101, 105, 116, 104, 101, 114]⟩), (⟨#[66, 105, 116, 115]⟩, some ⟨#[119, 105, 116, 104, 111, 117, 116]⟩), (⟨#[66, 105, 116, 115]⟩, some ⟨#[111, 116, 104, 101, 114, 115]⟩), (⟨#[66, 105, 116, 115]⟩, some ⟨#[99, 111, 117, 110, 116]⟩), (⟨#[66, 105, 116, 115]⟩, some ⟨#[104, 97, 115]⟩), (⟨#[66, 105, 116, 115]⟩, some ⟨#[114, 97, 110, 107]⟩), (⟨#[66, 105, 116, 115]⟩, some ⟨#[97, 116]⟩), (⟨#[66, 105, 116, 115]⟩, some ⟨#[114, 117, 110, 115]⟩), (⟨#[66, 105, 116, 115]⟩, some ⟨#[112, 97, 114, 116]⟩), (⟨#[99, 104, 101, 99, 107, 95, 115, 97, 109, 101]⟩, none), (⟨#[84, 97, 98, 108, 101]⟩, some ⟨#[95, 95, 105, 110, 105, 116, 95, 95]⟩), (⟨#[84, 97, 98, 108, 101]⟩, some ⟨#[95, 95, 101, 113, 95, 95]⟩), (⟨#[84, 97, 98, 108, 101]⟩, some ⟨#[112, 108, 97, 99, 101]⟩), (⟨#[84, 97, 98, 108, 101]⟩, some ⟨#[98, 105, 116, 115]⟩), (⟨#[84, 97, 98, 108, 101]⟩, some ⟨#[107, 105, 110, 100, 115]⟩), (⟨#[99, 104, 101, 99, 107, 95, 116, 97, 98, 108, 101]⟩, none), (⟨#[99, 104, 101, 99, 107, 95, 113, 117, 101, 115, 116, 105, 111, 110]⟩, none), (⟨#[102, 117, 108, 102, 105, 108, 115]⟩, none), (⟨#[97, 110, 115, 119, 101, 114]⟩, none), (⟨#[97, 110, 115, 119, 101, 114, 101, 100]⟩, none), (⟨#[99, 111, 117, 110, 116]⟩, none), (⟨#[97, 108, 108, 95, 114, 111, 119, 115]⟩, none), (⟨#[83, 97, 109, 101]⟩, some ⟨#[95, 95, 105, 110, 105, 116, 95, 95]⟩), (⟨#[83, 97, 109, 101]⟩, some ⟨#[95, 95, 98, 111, 111, 108, 95, 95]⟩), (⟨#[83, 97, 109, 101]⟩, some ⟨#[95, 95, 101, 113, 95, 95]⟩), (⟨#[83, 97, 109, 101]⟩, some ⟨#[115, 104, 111, 119, 115]⟩), (⟨#[80, 97, 114, 116, 115]⟩, some ⟨#[95, 95, 105, 110, 105, 116, 95, 95]⟩), (⟨#[80, 97, 114, 116, 115]⟩, some ⟨#[95, 95, 98, 111, 111, 108, 95, 95]⟩), (⟨#[80, 97, 114, 116, 115]⟩, some ⟨#[95, 95, 101, 113, 95, 95]⟩), (⟨#[80, 97, 114, 116, 115]⟩, some ⟨#[115, 104, 111, 119, 115]⟩), (⟨#[99, 104, 101, 99, 107, 95, 98, 111, 116, 104]⟩, none), (⟨#[106, 117, 100, 103, 101, 95, 115, 97, 109, 101]⟩, none), (⟨#[95, 108, 97, 119, 95, 110, 117, 109, 98, 101, 114]⟩, none), (⟨#[95, 108, 97, 119, 95, 112, 105, 99, 107]⟩, none), (⟨#[95, 108, 97, 119, 95, 99, 111, 108, 117, 109, 110, 115]⟩, none), (⟨#[95, 108, 97, 119, 95, 114, 111, 119, 115]⟩, none), (⟨#[95, 108, 97, 119, 95, 113, 117, 101, 115, 116, 105, 111, 110]⟩, none)]
def ns : List (List PySem.Str) := [[⟨#[116, 104, 105, 110, 103]⟩],
  [⟨#[116, 104, 105, 110, 103]⟩],
  [⟨#[116, 104, 105, 110, 103]⟩, ⟨#[98, 111, 117, 110, 100]⟩],
  [⟨#[116, 104, 105, 110, 103]⟩, ⟨#[115, 105, 103, 110]⟩],
  [⟨#[115, 101, 108, 102]⟩, ⟨#[109, 97, 110, 121]⟩, ⟨#[114, 111, 119, 115]⟩, ⟨#[110, 117, 109, 98, 101, 114]⟩, ⟨#[114, 111, 119]⟩],
  [⟨#[115, 101, 108, 102]⟩, ⟨#[111, 116, 104, 101, 114]⟩],
  [⟨#[115, 101, 108, 102]⟩, ⟨#[111, 116, 104, 101, 114]⟩, ⟨#[107, 110, 111, 119, 110]⟩, ⟨#[114, 111, 119]⟩],
  [⟨#[115, 101, 108, 102]⟩, ⟨#[111, 116, 104, 101, 114]⟩],
  [⟨#[115, 101, 108, 102]⟩, ⟨#[111, 116, 104, 101, 114]⟩, ⟨#[107, 110, 111, 119, 110]⟩, ⟨#[114, 111, 119]⟩],
  [⟨#[115, 101, 108, 102]⟩, ⟨#[107, 110, 111, 119, 110]⟩, ⟨#[114, 111, 119]⟩],
  [⟨#[115, 101, 108, 102]⟩],
  [⟨#[115, 101, 108, 102]⟩, ⟨#[114, 111, 119]⟩],
  [⟨#[115, 101, 108, 102]⟩, ⟨#[114, 111, 119]⟩, ⟨#[111, 110, 101]⟩],
  [⟨#[115, 101, 108, 102]⟩, ⟨#[114, 97, 110, 107]⟩],
  [⟨#[115, 101, 108, 102]⟩],
  [⟨#[115, 101, 108, 102]⟩, ⟨#[102, 105, 114, 115, 116]⟩, ⟨#[108, 97, 115, 116]⟩, ⟨#[114, 111, 119]⟩],
  [⟨#[111, 110, 101]⟩, ⟨#[111, 116, 104, 101, 114]⟩],
  [⟨#[115, 101, 108, 102]⟩, ⟨#[99, 111, 108, 117, 109, 110, 115]⟩, ⟨#[114, 111, 119, 115]⟩, ⟨#[110, 97, 109, 101]⟩, ⟨#[109, 97, 110, 121]⟩, ⟨#[115, 105, 122, 101, 115]⟩, ⟨#[110, 117, 109, 98, 101, 114]⟩, ⟨#[114, 111, 119]⟩, ⟨#[118, 97, 108, 117, 101]⟩, ⟨#[115, 105, 122, 101]⟩],
  [⟨#[115, 101, 108, 102]⟩, ⟨#[111, 116, 104, 101, 114]⟩],
  [⟨#[115, 101, 108, 102]⟩, ⟨#[110, 97, 109, 101]⟩],
  [⟨#[115, 101, 108, 102]⟩, ⟨#[110, 97, 109, 101]⟩, ⟨#[118, 97, 108, 117, 101]⟩, ⟨#[97, 116]⟩, ⟨#[110, 117, 109, 98, 101, 114]⟩, ⟨#[114, 111, 119]⟩],
  [⟨#[115, 101, 108, 102]⟩],
  [⟨#[116, 97, 98, 108, 101]⟩],
  [⟨#[99, 111, 108, 117, 109, 110, 115]⟩, ⟨#[113, 117, 101, 115, 116, 105, 111, 110]⟩, ⟨#[100, 101, 101, 112]⟩, ⟨#[119, 111, 114, 100]⟩, ⟨#[112, 97, 114, 116]⟩],
  [⟨#[110, 97, 109, 101, 115]⟩, ⟨#[114, 111, 119]⟩, ⟨#[113, 117, 101, 115, 116, 105, 111, 110]⟩, ⟨#[119, 111, 114, 100]⟩, ⟨#[118, 97, 108, 117, 101]⟩, ⟨#[116, 111, 108, 100]⟩],
  [⟨#[116, 97, 98, 108, 101]⟩, ⟨#[113, 117, 101, 115, 116, 105, 111, 110]⟩],
  [⟨#[116, 97, 98, 108, 101]⟩, ⟨#[113, 117, 101, 115, 116, 105, 111, 110]⟩, ⟨#[119, 111, 114, 100]⟩, ⟨#[115, 105, 122, 101]⟩, ⟨#[102, 105, 114, 115, 116]⟩, ⟨#[108, 97, 115, 116]⟩, ⟨#[102, 111, 117, 110, 100]⟩, ⟨#[118, 97, 108, 117, 101]⟩, ⟨#[111, 110, 101]⟩, ⟨#[111, 116, 104, 101, 114]⟩],
  [⟨#[116, 97, 98, 108, 101]⟩, ⟨#[113, 117, 101, 115, 116, 105, 111, 110]⟩],
  [⟨#[99, 111, 108, 117, 109, 110, 115]⟩, ⟨#[102, 111, 117, 110, 100]⟩, ⟨#[110, 97, 109, 101]⟩, ⟨#[114, 111, 119]⟩, ⟨#[118, 97, 108, 117, 101]⟩],
  [⟨#[115, 101, 108, 102]⟩, ⟨#[109, 97, 110, 121]⟩],
  [⟨#[115, 101, 108, 102]⟩],
  [⟨#[115, 101, 108, 102]⟩, ⟨#[111, 116, 104, 101, 114]⟩],
  [⟨#[115, 101, 108, 102]⟩, ⟨#[99, 111, 108, 117, 109, 110, 115]⟩, ⟨#[111, 110, 101]⟩, ⟨#[111, 116, 104, 101, 114]⟩],
  [⟨#[115, 101, 108, 102]⟩, ⟨#[114, 111, 119]⟩],
  [⟨#[115, 101, 108, 102]⟩],
  [⟨#[115, 101, 108, 102]⟩, ⟨#[111, 116, 104, 101, 114]⟩],
  [⟨#[115, 101, 108, 102]⟩, ⟨#[99, 111, 108, 117, 109, 110, 115]⟩, ⟨#[111, 110, 101]⟩, ⟨#[111, 116, 104, 101, 114]⟩],
  [⟨#[99, 111, 108, 117, 109, 110, 115]⟩, ⟨#[111, 110, 101]⟩, ⟨#[111, 116, 104, 101, 114]⟩],
  [⟨#[99, 111, 108, 117, 109, 110, 115]⟩, ⟨#[111, 110, 101]⟩, ⟨#[111, 116, 104, 101, 114]⟩, ⟨#[110, 97, 109, 101, 115]⟩, ⟨#[114, 111, 119, 115]⟩, ⟨#[114, 111, 119]⟩],
  [⟨#[115, 99, 114, 105, 112, 116]⟩, ⟨#[105, 110, 100, 101, 120]⟩, ⟨#[99, 101, 108, 108]⟩, ⟨#[116, 117, 114, 110]⟩, ⟨#[114, 101, 115, 116]⟩, ⟨#[115, 116, 101, 112]⟩, ⟨#[98, 108, 101, 110, 100]⟩],
  [⟨#[100, 114, 97, 119]⟩, ⟨#[105, 116, 101, 109, 115]⟩],
  [⟨#[100, 114, 97, 119]⟩, ⟨#[110, 97, 109, 101]⟩],
  [⟨#[100, 114, 97, 119]⟩, ⟨#[99, 111, 108, 117, 109, 110, 115]⟩, ⟨#[109, 111, 115, 116]⟩, ⟨#[110, 97, 109, 101]⟩, ⟨#[116, 117, 114, 110]⟩],
  [⟨#[100, 114, 97, 119]⟩, ⟨#[99, 111, 108, 117, 109, 110, 115]⟩, ⟨#[100, 101, 101, 112]⟩, ⟨#[107, 105, 110, 100]⟩, ⟨#[110, 97, 109, 101]⟩]]
def cons : List (PySem.Str × D) := [(⟨#[76, 69, 84, 84, 69, 82, 83]⟩, (.str ⟨#[97, 98, 99, 100, 101, 102, 103, 104, 105, 106, 107, 108, 109, 110, 111, 112, 113, 114, 115, 116, 117, 118, 119, 120, 121, 122]⟩)), (⟨#[70, 73, 71, 85, 82, 69, 83]⟩, (.str ⟨#[48, 49, 50, 51, 52, 53, 54, 55, 56, 57]⟩)), (⟨#[77, 79, 83, 84, 95, 77, 65, 78, 89]⟩, (.int 256)), (⟨#[77, 79, 83, 84, 95, 67, 79, 76, 85, 77, 78, 83]⟩, (.int 4)), (⟨#[77, 79, 83, 84, 95, 86, 65, 76, 85, 69, 83]⟩, (.int 6)), (⟨#[77, 79, 83, 84, 95, 82, 79, 87, 83]⟩, (.int 64)), (⟨#[77, 79, 83, 84, 95, 68, 69, 69, 80]⟩, (.int 8))]
def free : List PySem.Str := [⟨#[97, 108, 108]⟩, ⟨#[97, 110, 121]⟩, ⟨#[98, 111, 111, 108]⟩, ⟨#[100, 105, 99, 116]⟩, ⟨#[101, 110, 117, 109, 101, 114, 97, 116, 101]⟩, ⟨#[105, 110, 116]⟩, ⟨#[105, 115, 105, 110, 115, 116, 97, 110, 99, 101]⟩, ⟨#[108, 101, 110]⟩, ⟨#[108, 105, 115, 116]⟩, ⟨#[109, 97, 120]⟩, ⟨#[109, 105, 110]⟩, ⟨#[114, 97, 110, 103, 101]⟩, ⟨#[115, 101, 116]⟩, ⟨#[115, 111, 114, 116, 101, 100]⟩, ⟨#[115, 116, 114]⟩, ⟨#[115, 117, 109]⟩, ⟨#[116, 117, 112, 108, 101]⟩, ⟨#[122, 105, 112]⟩]
abbrev numF : Nat := 39
def lawN : List PySem.Str := [⟨#[115, 99, 114, 105, 112, 116]⟩, ⟨#[100, 114, 97, 119]⟩, ⟨#[99, 111, 108, 117, 109, 110, 115]⟩, ⟨#[111, 110, 101]⟩, ⟨#[111, 116, 104, 101, 114]⟩, ⟨#[116, 104, 105, 114, 100]⟩, ⟨#[114, 111, 119, 115]⟩, ⟨#[110, 97, 109, 101]⟩, ⟨#[118, 97, 108, 117, 101]⟩, ⟨#[108, 101, 102, 116]⟩, ⟨#[114, 105, 103, 104, 116]⟩, ⟨#[116, 97, 98, 108, 101]⟩, ⟨#[109, 97, 110, 121]⟩, ⟨#[116, 104, 114, 101, 101]⟩, ⟨#[100, 117, 101]⟩, ⟨#[108, 97, 116, 101]⟩, ⟨#[102, 105, 114, 115, 116]⟩, ⟨#[108, 97, 115, 116]⟩, ⟨#[114, 111, 119]⟩]
end K23
end
section
set_option Elab.async false
set_option linter.all false
set_option maxRecDepth 100000
set_option maxHeartbeats 0
namespace K23
open BB PySem PySem.Spec PyProof.Rows L2
abbrev rw23 := PySem.Challenge.rw_bitbundles_k23_question_algebra
def t : Top1 := ⟨rw23.prog, T, nm, clsN, paths, ns, cons, free⟩
def numFn : Fn := ⟨2, 7, b__law_number, []⟩
def L : LawT := ⟨numF, numFn, lawN, b_law⟩
theorem numAt : t.T.fns[L.num]? = some L.numF := rfl
abbrev R : PySem.W.OpenRow := PySem.W.OpenLaw.row rw23
def factB (K : PySem.W.Frag) : Bool := topK t K && (He.Fa.glo "law").ok K
theorem sS : topS t = true := by kernel_rfl
end K23
end
section
set_option Elab.async false
set_option linter.all false
set_option maxRecDepth 100000
set_option maxHeartbeats 0
namespace K23
open BB PySem PySem.Spec PyProof.Rows L2
theorem sF : fnsB t = true := by kernel_rfl
end K23
end
section
set_option Elab.async false
set_option linter.all false
set_option maxRecDepth 100000
set_option maxHeartbeats 0
namespace K23
open BB PySem PySem.Spec PyProof.Rows L2
theorem sL : lawS t L = true := by kernel_rfl
end K23
end
section
set_option Elab.async false
set_option linter.all false
set_option maxRecDepth 100000
set_option maxHeartbeats 0
namespace K23
open BB PySem PySem.Spec PyProof.Rows L2
abbrev hk : PySem.W.Hook := hookB 5 factB (allD t)
def ob (s : PySem.W.SharedT) : He.AlD := obsBG 5 factB (allD t) (HandSHeadRun.getT s)
theorem ob_eq (s : PySem.W.SharedT) : ob s = hk.obs s.abs := obsBG_eq (HandSHeadRun.getT_eq s)
def lawAt : Nat := R.prog.main.body.length - 1
def loose : List PySem.Str := R.prog.main.scope.names.map (·.1) |>.filter (· != "law")
theorem headRun (w : World) : HandSHeadRun.RunEq R (PySem.W.view R.prog [lawAt]) hk ob 20000 loose w := by
  intro os
  kernel_rfl
end K23
end
section
set_option Elab.async false
set_option linter.all false
set_option maxRecDepth 100000
set_option maxHeartbeats 0
namespace K23
open BB PySem PySem.Spec PyProof.Rows L2
theorem numOk : NumOk t.T L.numF := fun ns j h1 h2 => num_ok t.T noCal noMak ns j h1 h2
end K23
open PySem PySem.W PySem.Calls PyProof.Rows
theorem k23_holds {n : Nat} (hr : L2.Room (2 * n + 5) callerA) (hok : BB.LawOk K23.t n K23.L) : PySem.Challenge.rw_bitbundles_k23_question_algebra.Holds := by
  w_on; o_law
  refine HandSHeadRun.head_any (r := OpenLaw.row PySem.Challenge.rw_bitbundles_k23_question_algebra) (q := view (OpenLaw.row PySem.Challenge.rw_bitbundles_k23_question_algebra).prog [K23.lawAt]) (H := K23.hk) (ob := K23.ob) (M := 20000) (loose := K23.loose) (d := HandSHeadRun.topDef (OpenLaw.row PySem.Challenge.rw_bitbundles_k23_question_algebra).prog K23.lawAt) (kwd := []) K23.ob_eq
    (by kernel_rfl) (fun s => by kernel_rfl) K23.headRun (by kernel_rfl) (by kernel_rfl) (by kernel_rfl) (by rfl) (by first | assumption | decide +kernel) (by decide +kernel) ⟨rfl, rfl, rfl, rfl, rfl, by decide +kernel⟩ ?hw ?hc
  case hw => w_witness2
  case hc =>
    refine L2.walk_ofE (l := PySem.Challenge.rw_bitbundles_k23_question_algebra) (n := 63) (k := 2 * n + 5) (x := "script") (CX := L2.CX0) rfl (by decide) (by kernel_rfl) hr ?F (fun _ _ _ _ z => z)
    intro w mg fa h Y G hmg0
    obtain ⟨K, KX, c⟩ := Y
    have hmg : mg ("law" : PySem.Str) = some (.ref fa) := by
      have e : (HandSHeadRun.topDef (OpenLaw.row PySem.Challenge.rw_bitbundles_k23_question_algebra).prog K23.lawAt).name = ("law" : PySem.Str) := by kernel_rfl
      rw [← e]
      exact hmg0
    obtain ⟨fd, hb, hF⟩ := BB.law_facts (w := w) K23.sS K23.sF K23.sL K23.numOk K23.numAt hok KX G c hmg
    have TK := BB.topK_of (BB.ands (BB.saysB_b c)).1
    refine ⟨K, fd, BB.spLaw, KX, hb, fun H a ns hl hO hS => ?_, hF⟩
    obtain ⟨o, ho⟩ := BB.nol_script TK hO hS
    exact ⟨a, ns, o, rfl, hl, ho, fun _ => rfl⟩
end
section
set_option Elab.async false
set_option linter.all false
set_option maxRecDepth 100000
set_option maxHeartbeats 4000000
/-! Plain lists of numbers, as data. -/
namespace BB
abbrev nI (n : Nat) : D := .int (n : Int)
abbrev nL (l : List Nat) : List D := l.map nI
theorem eqv_nI (a b : Nat) : eqv (nI a) (nI b) = decide (a = b) := by
  show ((a : Int) == (b : Int)) = _
  by_cases h : a = b
  · subst h; simp
  · have : ¬ (a : Int) = b := by omega
    simp [h, this]
theorem ltB_nI (a b : Nat) : ltB (nI a) (nI b) = decide (a < b) := by
  show decide ((a : Int) < (b : Int)) = _
  by_cases h : a < b
  · have : (a : Int) < b := by omega
    simp [h, this]
  · have : ¬ (a : Int) < b := by omega
    simp [h, this]
theorem pdns_nL (k : Nat) : ∀ ns : List Nat, pdns (k + 1) (nL ns) = true
  | [] => rfl
  | n :: ns => by show (pdn (k + 1) (nI n) && pdns (k + 1) (nL ns)) = true; rw [pdns_nL k ns]; rfl
theorem plain_nL (l : List Nat) : plain (.lst (nL l)) = true := pdns_nL 58 l
theorem plain_nT (l : List Nat) : plain (.tup (nL l)) = true := pdns_nL 58 l
theorem plains_nL (l : List Nat) : plains (nL l) = true := pdns_nL 58 l
theorem eqvs_nL : ∀ a b : List Nat, eqvs (nL a) (nL b) = decide (a = b)
  | [], [] => rfl
  | [], b :: bs => by simp [eqvs]
  | a :: as, [] => by simp [eqvs]
  | a :: as, b :: bs => by
    show (eqv (nI a) (nI b) && eqvs (nL as) (nL bs)) = _
    rw [eqv_nI, eqvs_nL as bs]
    by_cases h1 : a = b <;> by_cases h2 : as = bs <;> simp [h1, h2]
/-! one behind the other, none twice -/
def dd1 (U : List Nat) (x : Nat) : List Nat := if x ∈ U then U else U ++ [x]
def dd (U L : List Nat) : List Nat := L.foldl dd1 U
abbrev ky (v : D) (x : Nat) : D × D := (nI x, v)
theorem dput_ky (v : D) (x : Nat) : ∀ U : List Nat, dput (U.map (ky v)) (nI x) v = (dd1 U x).map (ky v)
  | [] => rfl
  | u :: U => by
    show (if eqv (nI u) (nI x) then _ else _) = _
    rw [eqv_nI]
    by_cases h : u = x
    · subst h; simp [dd1]
    · have ih := dput_ky v x U
      have hx : x ≠ u := fun z => h z.symm
      unfold dd1 at ih ⊢
      by_cases h2 : x ∈ U
      · simp [h, h2] at ih ⊢; exact ih
      · simp [h, h2, hx] at ih ⊢; exact ih
theorem puts_ky (v : D) : ∀ (L U : List Nat), puts (U.map (ky v)) (L.map (ky v)) = (dd U L).map (ky v)
  | [], U => rfl
  | x :: L, U => by
    show puts (dput (U.map (ky v)) (nI x) v) (L.map (ky v)) = _
    rw [dput_ky, puts_ky v L]
    rfl
theorem mem_dd : ∀ (L U : List Nat) (x : Nat), x ∈ dd U L ↔ x ∈ U ∨ x ∈ L
  | [], U, x => by simp [dd]
  | y :: L, U, x => by
    show x ∈ dd (dd1 U y) L ↔ _
    rw [mem_dd L (dd1 U y) x]
    unfold dd1
    by_cases h : y ∈ U
    · rw [if_pos h]
      constructor
      · rintro (k | k)
        · exact .inl k
        · exact .inr (List.mem_cons_of_mem _ k)
      · rintro (k | k)
        · exact .inl k
        · rcases List.mem_cons.mp k with e | e
          · exact .inl (e ▸ h)
          · exact .inr e
    · rw [if_neg h]
      simp [or_assoc]
theorem nodup_dd : ∀ (L U : List Nat), U.Nodup → (dd U L).Nodup
  | [], U, h => h
  | y :: L, U, h => by
    refine nodup_dd L (dd1 U y) ?_
    unfold dd1
    by_cases k : y ∈ U
    · rw [if_pos k]; exact h
    · rw [if_neg k]
      refine List.nodup_append.mpr ⟨h, by simp, fun a ha b hb e => ?_⟩
      rw [List.mem_singleton.mp hb] at e
      exact k (e ▸ ha)
theorem len_dd : ∀ (L U : List Nat), (dd U L).length ≤ U.length + L.length
  | [], U => Nat.le_refl _
  | y :: L, U => by
    have := len_dd L (dd1 U y)
    have h2 : (dd1 U y).length ≤ U.length + 1 := by
      unfold dd1; split
      · omega
      · rw [List.length_append]; exact Nat.le_refl _
    show (dd (dd1 U y) L).length ≤ _
    rw [List.length_cons]
    omega
/-! sorting -/
def insN (a : Nat) : List Nat → List Nat
  | [] => [a]
  | b :: l => if b < a then b :: insN a l else a :: b :: l
def sortN : List Nat → List Nat
  | [] => []
  | a :: l => insN a (sortN l)
theorem insD_nL (a : Nat) : ∀ l : List Nat, insD (nI a) (nL l) = nL (insN a l)
  | [] => rfl
  | b :: l => by
    show (if ltB (nI b) (nI a) then _ else _) = nL (if b < a then _ else _)
    rw [ltB_nI]
    by_cases h : b < a
    · rw [if_pos (decide_eq_true h), if_pos h]
      show nI b :: insD (nI a) (nL l) = _
      rw [insD_nL a l]
      rfl
    · rw [if_neg (by simpa using h), if_neg h]
      rfl
theorem sortD_nL : ∀ l : List Nat, sortD (nL l) = nL (sortN l)
  | [] => rfl
  | a :: l => by
    show insD (nI a) (sortD (nL l)) = _
    rw [sortD_nL l, insD_nL]
    rfl
theorem mem_insN (a x : Nat) : ∀ l : List Nat, x ∈ insN a l ↔ x = a ∨ x ∈ l
  | [] => by simp [insN]
  | b :: l => by
    unfold insN
    by_cases h : b < a
    · rw [if_pos h, List.mem_cons, mem_insN a x l, List.mem_cons]
      constructor
      · rintro (k | k | k) <;> simp [k]
      · rintro (k | k | k) <;> simp [k]
    · rw [if_neg h, List.mem_cons]
theorem mem_sortN (x : Nat) : ∀ l : List Nat, x ∈ sortN l ↔ x ∈ l
  | [] => Iff.rfl
  | a :: l => by
    show x ∈ insN a (sortN l) ↔ _
    rw [mem_insN, mem_sortN x l, List.mem_cons]
theorem asc_insN (a : Nat) : ∀ l : List Nat, l.Pairwise (· < ·) → a ∉ l → (insN a l).Pairwise (· < ·)
  | [], _, _ => by simp [insN]
  | b :: l, h, hn => by
    obtain ⟨h1, h2⟩ := List.pairwise_cons.mp h
    rw [List.mem_cons, not_or] at hn
    unfold insN
    by_cases k : b < a
    · rw [if_pos k]
      refine List.pairwise_cons.mpr ⟨fun x hx => ?_, asc_insN a l h2 hn.2⟩
      rcases (mem_insN a x l).mp hx with e | e
      · rw [e]; exact k
      · exact h1 x e
    · rw [if_neg k]
      refine List.pairwise_cons.mpr ⟨fun x hx => ?_, h⟩
      rcases List.mem_cons.mp hx with e | e
      · subst e; omega
      · have := h1 x e; omega
theorem asc_sortN : ∀ l : List Nat, l.Nodup → (sortN l).Pairwise (· < ·)
  | [], _ => List.Pairwise.nil
  | a :: l, h => by
    obtain ⟨h1, h2⟩ := List.nodup_cons.mp h
    exact asc_insN a _ (asc_sortN l h2) (fun z => h1 ((mem_sortN a l).mp z))
theorem asc_eq : ∀ {a b : List Nat}, a.Pairwise (· < ·) → b.Pairwise (· < ·) → (∀ x, x ∈ a ↔ x ∈ b) → a = b
  | [], [], _, _, _ => rfl
  | [], y :: b, _, _, h => by have := (h y).mpr List.mem_cons_self; cases this
  | x :: a, [], _, _, h => by have := (h x).mp List.mem_cons_self; cases this
  | x :: a, y :: b, ha, hb, h => by
    obtain ⟨a1, a2⟩ := List.pairwise_cons.mp ha
    obtain ⟨b1, b2⟩ := List.pairwise_cons.mp hb
    have e : x = y := by
      rcases List.mem_cons.mp ((h x).mp List.mem_cons_self) with k | k
      · exact k
      · rcases List.mem_cons.mp ((h y).mpr List.mem_cons_self) with q | q
        · exact q.symm
        · have := b1 x k; have := a1 y q; omega
    subst e
    congr 1
    refine asc_eq a2 b2 fun z => ⟨fun hz => ?_, fun hz => ?_⟩
    · rcases List.mem_cons.mp ((h z).mp (List.mem_cons_of_mem _ hz)) with k | k
      · subst k; have := a1 z hz; omega
      · exact k
    · rcases List.mem_cons.mp ((h z).mpr (List.mem_cons_of_mem _ hz)) with k | k
      · subst k; have := b1 z hz; omega
      · exact k
/-- the numbers below m that fulfil p -/
def below (m : Nat) (p : Nat → Bool) : List Nat := (List.range m).filter p
theorem asc_below (m : Nat) (p : Nat → Bool) : (below m p).Pairwise (· < ·) := List.Pairwise.filter _ List.pairwise_lt_range
theorem mem_below {m : Nat} {p : Nat → Bool} {x : Nat} : x ∈ below m p ↔ x < m ∧ p x = true := by unfold below; rw [List.mem_filter, List.mem_range]
theorem below_congr {m : Nat} {p q : Nat → Bool} (h : ∀ x, x < m → p x = q x) : below m p = below m q := List.filter_congr fun x hx => h x (List.mem_range.mp hx)
/-- the keys of a dict of numbers, sorted -/
theorem sort_keys {m : Nat} {L : List Nat} (h : ∀ x ∈ L, x < m) : sortN (dd [] L) = below m fun x => decide (x ∈ L) := by
  refine asc_eq (asc_sortN _ (nodup_dd L [] List.nodup_nil)) (asc_below m _) fun x => ?_
  rw [mem_sortN, mem_dd, mem_below]
  constructor
  · rintro (k | k)
    · cases k
    · exact ⟨h x k, decide_eq_true k⟩
  · exact fun k => .inr (of_decide_eq_true k.2)
theorem len_below (m : Nat) (p : Nat → Bool) : (below m p).length ≤ m := by
  have := List.length_filter_le p (List.range m)
  rw [List.length_range] at this
  exact this
end BB
namespace BB
section
variable {T : Tb} {cl : Cal} {mk : Mak}
theorem alike_nI (a b : Nat) : alikeD (nI a) (nI b) = true := rfl
theorem sortable_nL (l : List Nat) : sortable (nL l) = true := by
  unfold sortable
  rw [Bool.and_eq_true]
  refine ⟨List.all_eq_true.mpr fun d hd => ?_, ?_⟩
  · obtain ⟨x, _, rfl⟩ := List.mem_map.mp hd
    rw [Bool.and_eq_true]
    refine ⟨rfl, List.all_eq_true.mpr fun e he => ?_⟩
    obtain ⟨y, _, rfl⟩ := List.mem_map.mp he
    rfl
  · rw [Bool.or_eq_true]
    refine .inr (List.all_eq_true.mpr fun d hd => ?_)
    obtain ⟨x, _, rfl⟩ := List.mem_map.mp hd
    rfl
theorem walk_sorted (l : List Nat) : walkD .sorted (nL l) = .ok (.lst (nL (sortN l))) := by
  show (if sortable (nL l) then _ else _) = _
  rw [sortable_nL, sortD_nL]
  rfl
/-- a dict whose keys are these numbers -/
abbrev setD (L : List Nat) : D := .dct ((dd [] L).map (ky (.bl true)))
theorem kv_map (v : D) : ∀ L : List Nat, kvOf (L.map fun x => .tup [nI x, v]) = L.map (ky v)
  | [] => rfl
  | x :: L => by show (nI x, v) :: kvOf _ = _; rw [kv_map v L]; rfl
theorem keys_atom (v : D) (L : List Nat) : keysOk (L.map (ky v)) = true := by
  unfold keysOk
  rw [Bool.or_eq_true]
  refine .inl (List.all_eq_true.mpr fun p hp => ?_)
  obtain ⟨x, _, rfl⟩ := List.mem_map.mp hp
  rfl
theorem flat1 (f : D → D) : ∀ l : List D, l.flatMap (fun d => [f d]) = l.map f
  | [] => rfl
  | d :: l => by rw [List.flatMap_cons, flat1 f l]; rfl
/-- {x: True for x in xs} -/
theorem ev_set {i : Nat} {it : It} {ρ : Env} {L : List Nat} (e : evI T cl mk it ρ = .ok (nL L)) (hb : L.length ≤ big) (hi : i < ρ.length) : ev T cl mk (.dc (.var i) (.cst (.bl true)) (.nm i) it .nil) ρ = .ok (setD L) := by
  have hw : i < (wipeE (Pat.nm i).names ρ).length := by show i < ((wipeE [] ρ).set i none).length; rw [List.length_set]; exact hi
  show (evI T cl mk it ρ).bind _ = _
  rw [e, b_ok]
  show (calm (lcs (nL L) _)).bind _ = _
  rw [lcs_ok (g := fun d => [.tup [d, .bl true]]), calm_ok, b_ok, flat1, List.map_map]
  · show (if keysOk (kvOf (L.map fun x => .tup [nI x, .bl true])) && Nat.ble (L.map fun x => D.tup [nI x, .bl true]).length big then _ else _) = _
    have hk : Nat.ble (L.map fun x => D.tup [nI x, .bl true]).length big = true := by rw [List.length_map]; exact Nat.ble_eq_true_of_le hb
    rw [kv_map, keys_atom, hk]
    show Res.ok (D.dct (puts ((([] : List Nat)).map (ky (.bl true))) (kvOf (L.map fun x => .tup [nI x, .bl true])))) = _
    rw [kv_map, puts_ky]
  · intro d hd
    rw [p_nm, if_pos hw]
    simp only [evT, ev, b_ok, if_true]
    rw [List.getElem?_set_self hw]
    rfl
theorem ev_sorted {e : E} {ρ : Env} {L : List Nat} (h : ev T cl mk e ρ = .ok (setD L)) : ev T cl mk (.bw .sorted (.val e)) ρ = .ok (.lst (nL (sortN (dd [] L)))) := by
  show (ev T cl mk e ρ).bind _ = _
  rw [h, b_ok]
  show walkD .sorted (((dd [] L).map (ky (.bl true))).map (·.1)) = _
  rw [List.map_map]
  exact walk_sorted _
theorem ev_tuple {e : E} {ρ : Env} {l : List D} (h : ev T cl mk e ρ = .ok (.lst l)) : ev T cl mk (.bw .tuple (.val e)) ρ = .ok (.tup l) := by
  show (ev T cl mk e ρ).bind _ = _
  rw [h]; rfl
theorem evI_val {e : E} {ρ : Env} {d : D} {l : List D} (h : ev T cl mk e ρ = .ok d) (hl : items d = some l) : evI T cl mk (.val e) ρ = .ok l := by
  show (ev T cl mk e ρ).bind _ = _
  rw [h, b_ok, hl]; rfl
theorem get_set : ∀ (U : List Nat) (x : Nat), (dget (U.map (ky (.bl true))) (nI x)).isSome = decide (x ∈ U)
  | [], x => by simp [dget]
  | u :: U, x => by
    show (if eqv (nI u) (nI x) then _ else _ : Option D).isSome = _
    rw [eqv_nI]
    by_cases h : u = x
    · subst h; simp
    · have hx : ¬ x = u := fun z => h z.symm
      have ih := get_set U x
      simp [h, hx] at ih ⊢
      exact ih
theorem in_set (L : List Nat) (x : Nat) : cmpR T cl .isin (nI x) (setD L) = .ok (.bl (decide (x ∈ L))) := by
  show (isin (nI x) (setD L)).bind _ = _
  have hk : kinOk ((dd [] L).map (ky (.bl true))) (nI x) = true := by cases dd [] L <;> rfl
  show (if kinOk ((dd [] L).map (ky (.bl true))) (nI x) then _ else _ : Res Bool).bind _ = _
  rw [hk]
  show Res.ok (D.bl (dget ((dd [] L).map (ky (.bl true))) (nI x)).isSome) = _
  rw [get_set]
  simp [mem_dd]
theorem notin_set (L : List Nat) (x : Nat) : cmpR T cl .notin (nI x) (setD L) = .ok (.bl (!decide (x ∈ L))) := by
  show (isin (nI x) (setD L)).bind _ = _
  have hk : kinOk ((dd [] L).map (ky (.bl true))) (nI x) = true := by cases dd [] L <;> rfl
  show (if kinOk ((dd [] L).map (ky (.bl true))) (nI x) then _ else _ : Res Bool).bind _ = _
  rw [hk]
  show Res.ok (D.bl (!(dget ((dd [] L).map (ky (.bl true))) (nI x)).isSome)) = _
  rw [get_set]
  simp [mem_dd]
/-- [x for x in xs if test] -/
theorem ev_filter {i : Nat} {it : It} {c : E} {ρ : Env} {L : List Nat} {p : Nat → Bool} (e : evI T cl mk it ρ = .ok (nL L)) (hb : L.length ≤ big) (hi : i < ρ.length) (h : ∀ x ∈ L, ev T cl mk c ((wipeE [i] ρ).set i (some (nI x))) = .ok (.bl (p x))) :
    ev T cl mk (.lc (.var i) (.nm i) it (.cons false c .nil)) ρ = .ok (.lst (nL (L.filter p))) := by
  have hw : i < (wipeE (Pat.nm i).names ρ).length := by show i < ((wipeE [] ρ).set i none).length; rw [List.length_set]; exact hi
  show (evI T cl mk it ρ).bind _ = _
  rw [e, b_ok]
  show (calm (lcs (nL L) _)).bind _ = _
  rw [lcs_ok (g := fun d => match d with | .int x => if p x.toNat then [d] else [] | _ => []), calm_ok, b_ok]
  · have e2 : (nL L).flatMap (fun d => match d with | .int x => if p x.toNat then [d] else [] | _ => []) = nL (L.filter p) := by
      clear e hb h
      induction L with
      | nil => rfl
      | cons x L ih =>
        show (nI x :: nL L).flatMap _ = _
        rw [List.flatMap_cons, ih, List.filter_cons]
        show (if p ((x : Int).toNat) then [nI x] else []) ++ _ = _
        rw [Int.toNat_natCast]
        cases p x <;> rfl
    rw [e2]
    have : (nL (L.filter p)).length ≤ big := by
      rw [List.length_map]
      exact Nat.le_trans (List.length_filter_le p L) hb
    rw [if_pos this]
  · intro d hd
    obtain ⟨x, hx, rfl⟩ := List.mem_map.mp hd
    rw [p_nm, if_pos hw]
    show ((ev T cl mk c ((wipeE [i] ρ).set i (some (nI x)))).bind _ |>.bind _) = Res.ok (if p ((x : Int).toNat) then [nI x] else [])
    rw [h x hx, b_ok, t_bl, b_ok, Int.toNat_natCast]
    cases p x with
    | false => rfl
    | true =>
      simp only [if_true, evT, b_ok, ev]
      rw [List.getElem?_set_self hw]
      rfl
end
end BB
end
section
set_option Elab.async false
set_option linter.all false
set_option maxRecDepth 100000
set_option maxHeartbeats 4000000
namespace K23
open BB
theorem run {n f : Nat} {as : List D} {F : Fn} (ρ0 : Env) {d : D} (h : T.fns[f]? = some F) (hs : begin_ F (F.fill as) = ρ0) (hl : (F.fill as).length = F.np ∧ F.np ≤ F.ns) (e : Ends T (call T n) (make T n) F.body ρ0 [] (Gives d)) : call T (n + 1) f as = .ok d := by
  obtain ⟨fl, e, hd⟩ := e
  show (match T.fns[f]? with | some F => callF T (callM T n).1 (callM T n).2 F as | none => .stuck) = _
  rw [h]
  show callF T (call T n) (make T n) F as = _
  subst hs
  unfold callF
  rw [if_pos hl]
  have e : exs T (call T n) (make T n) F.body ((F.fill as).map some ++ List.replicate (F.ns - F.np) none) [] = .ok fl := e
  rw [e]
  cases fl with
  | nx ρ ω => have hd : d = .non := hd; subst hd; rfl
  | rt x ρ ω => have hd : x = d := hd; subst hd; rfl
  | bk ρ ω => exact hd.elim
  | ct ρ ω => exact hd.elim
theorem run_mk {n c : Nat} {as : List D} {F : Fn} {k : Cl} (ρ0 : Env) {fs : Fs} {c' : Nat} (hc : T.cls[c]? = some k) (h : T.fns[k.init]? = some F) (hs : some (.me c []) :: as.map some ++ List.replicate (F.ns - F.np) none = ρ0) (hl : as.length + 1 = F.np ∧ F.np ≤ F.ns)
    (e : Ends T (call T n) (make T n) F.body ρ0 [0] (Made c' fs)) : make T (n + 1) c as = .ok (.ins c' fs) := by
  obtain ⟨fl, e, hd⟩ := e
  show (match T.cls[c]? with
    | some C => match T.fns[C.init]? with | some F => makF T (callM T n).1 (callM T n).2 c F as | none => .stuck
    | none => .stuck) = _
  rw [hc]
  dsimp only
  rw [h]
  show makF T (call T n) (make T n) c F as = _
  subst hs
  unfold makF
  rw [if_pos hl, e, b_ok]
  cases fl with
  | nx ρ ω =>
    obtain ⟨h0, hρ⟩ := hd
    simp only [h0, if_true, hρ]
  | rt x ρ ω => exact hd.elim
  | bk ρ ω => exact hd.elim
  | ct ρ ω => exact hd.elim
/-! numbers -/
theorem is_number_int (n : Nat) (i : Int) : call T (n + 1) f_is_number [.int i] = .ok (.bl (decide (0 ≤ i))) := rfl
theorem is_number_nat (n m : Nat) : call T (n + 1) f_is_number [nI m] = .ok (.bl true) := rfl
theorem is_row_lst (n : Nat) (l : List D) : call T (n + 1) f_is_row [.lst l] = .ok (.bl true) := rfl
theorem is_row_tup (n : Nat) (l : List D) : call T (n + 1) f_is_row [.tup l] = .ok (.bl true) := rfl
theorem is_below_int (n : Nat) (i b : Int) (h : 0 ≤ i) : call T (n + 2) f_is_below [.int i, .int b] = .ok (.bl (decide (i < b))) := by
  refine run (F := F_is_below) [some (.int i), some (.int b)] rfl rfl ⟨rfl, by decide⟩ (en_ret ?_ fun _ => rfl)
  simp [exs, ex, ev, evs, evT, evO, evI, evkv, b_ok, b_st, b_as, b_ra, o_some, t_bl, t_int, t_non, t_lst, t_tup, t_dct, s_no, s_l, s_t, bi_lenL, bi_lenT, bi_lenD, bi_int, op_addI, op_subI, op_mulI, op_fdivI, op_modI, ix_L, ix_T, c_gtI, c_leI, c_geI, c_ltI, c_eqI, c_neI, p_nm, p_tup, p_nil, p_cons, calm_ok, okLk, minus, Pat.names, Pat.namess, lkS, lk, lkB, lks, lksB, lkK, lkO, lkI, lkF, is_number_int, h]
theorem is_below_nat (n a b : Nat) : call T (n + 2) f_is_below [nI a, nI b] = .ok (.bl (decide (a < b))) := by
  rw [is_below_int n a b (by omega)]
  simp
/-! Bits -/
abbrev bitsD (m : Nat) (l : List Nat) : D := .ins c_Bits [(n_many, nI m), (n_rows, .tup (nL l))]
theorem enum_mem {d : D} : ∀ {l : List D} {i : Int}, d ∈ enumD i l → ∃ j x, d = .tup [.int j, x] ∧ x ∈ l
  | [], _, h => by cases h
  | a :: l, i, h => by
    rcases List.mem_cons.mp h with e | e
    · exact ⟨i, a, e, List.mem_cons_self⟩
    · obtain ⟨j, x, h1, h2⟩ := enum_mem e
      exact ⟨j, x, h1, List.mem_cons_of_mem _ h2⟩
theorem mk_bits (n m : Nat) (L : List Nat) (hm : m ≤ 256) (hL : ∀ x ∈ L, x < m) (hb : L.length ≤ big) : make T (n + 3) c_Bits [nI m, .lst (nL L)] = .ok (bitsD m (below m fun x => decide (x ∈ L))) := by
  refine run_mk (F := F_Bits_init) (k := ⟨f_Bits_init, (T.cls[c_Bits]).ms, some f_Bits_eq, none⟩) [some (.me c_Bits []), some (nI m), some (.lst (nL L)), none, none] rfl rfl rfl ⟨rfl, by decide⟩ ?_
  have hm1 : decide ((256 : Int) < (m : Int)) = false := by simp; omega
  refine en_skip (by simp [exs, ex, ev, evs, evT, evO, evI, evkv, b_ok, b_st, b_as, b_ra, o_some, t_bl, t_int, t_non, t_lst, t_tup, t_dct, s_no, s_l, s_t, bi_lenL, bi_lenT, bi_lenD, bi_int, op_addI, op_subI, op_mulI, op_fdivI, op_modI, ix_L, ix_T, c_gtI, c_leI, c_geI, c_ltI, c_eqI, c_neI, p_nm, p_tup, p_nil, p_cons, calm_ok, okLk, minus, Pat.names, Pat.namess, lkS, lk, lkB, lks, lksB, lkK, lkO, lkI, lkF, is_number_nat, hm1]) ?_
  refine en_skip (by simp [exs, ex, ev, evs, evT, evO, evI, evkv, b_ok, b_st, b_as, b_ra, o_some, t_bl, t_int, t_non, t_lst, t_tup, t_dct, s_no, s_l, s_t, bi_lenL, bi_lenT, bi_lenD, bi_int, op_addI, op_subI, op_mulI, op_fdivI, op_modI, ix_L, ix_T, c_gtI, c_leI, c_geI, c_ltI, c_eqI, c_neI, p_nm, p_tup, p_nil, p_cons, calm_ok, okLk, minus, Pat.names, Pat.namess, lkS, lk, lkB, lks, lksB, lkK, lkO, lkI, lkF, is_row_lst]) ?_
  refine en_for (l := enumD 0 (nL L)) (fun ρ => ∃ (a : Option D) (b : Option Nat), ρ = [some (.me c_Bits []), some (nI m), some (.lst (nL L)), a, b.map nI]) rfl rfl rfl ⟨none, none, rfl⟩ (fun d hd ρ hρ => ?_) (fun ρ2 hρ => ?_)
  · obtain ⟨a, b, rfl⟩ := hρ
    obtain ⟨j, x, rfl, hx⟩ := enum_mem hd
    obtain ⟨y, hy, rfl⟩ := List.mem_map.mp hx
    refine ⟨[some (.me c_Bits []), some (nI m), some (.lst (nL L)), some (.int j), some (nI y)], [some (.me c_Bits []), some (nI m), some (.lst (nL L)), some (.int j), some (nI y)], rfl, ?_, some (.int j), some y, rfl⟩
    have := hL y hy
    refine exs_step rfl (by simp [exs, ex, ev, evs, evT, evO, evI, evkv, b_ok, b_st, b_as, b_ra, o_some, t_bl, t_int, t_non, t_lst, t_tup, t_dct, s_no, s_l, s_t, bi_lenL, bi_lenT, bi_lenD, bi_int, op_addI, op_subI, op_mulI, op_fdivI, op_modI, ix_L, ix_T, c_gtI, c_leI, c_geI, c_ltI, c_eqI, c_neI, p_nm, p_tup, p_nil, p_cons, calm_ok, okLk, minus, Pat.names, Pat.namess, lkS, lk, lkB, lks, lksB, lkK, lkO, lkI, lkF, is_below_nat, this]) rfl
  · obtain ⟨a, b, rfl⟩ := hρ
    refine en_setF (d := nI m) (c := c_Bits) (fs := []) rfl rfl ?_
    refine en_setF (d := .tup (nL (below m fun x => decide (x ∈ L)))) (c := c_Bits) (fs := [(n_many, nI m)]) ?_ rfl (en_nil ⟨rfl, rfl⟩) rfl rfl (by cases b <;> rfl)
    rw [← sort_keys hL]
    exact ev_tuple (ev_sorted (ev_set (evI_val (d := .lst (nL L)) rfl rfl) hb (Nat.le_of_ble_eq_true rfl)))
theorem mem_bits {m : Nat} {L : List Nat} {p : Nat → Bool} (h : ∀ x, x < m → (x ∈ L ↔ p x = true)) : (below m fun x => decide (x ∈ L)) = below m p := below_congr fun x hx => by
  rw [Bool.eq_iff_iff, decide_eq_true_iff]
  exact h x hx
theorem nm_many : T.noMeth c_Bits n_many = true := rfl
theorem nm_rows : T.noMeth c_Bits n_rows = true := rfl
theorem isi_bits {m : Nat} {l : List Nat} : isiOk T (bitsD m l) = true := rfl
theorem ne_self (n m : Nat) : cmpR T (call T n) .ne (nI m) (nI m) = .ok (.bl false) := by
  show Res.ok (D.bl (!((m : Int) == (m : Int)))) = _
  simp
theorem check_same_ok (n m : Nat) (a b : List Nat) : call T (n + 1) f_check_same [bitsD m a, bitsD m b] = .ok .non := by
  refine run (F := F_check_same) [some (bitsD m a), some (bitsD m b)] rfl rfl ⟨rfl, by decide⟩ (en_skip ?_ (en_nil rfl))
  exact v_orF (v_not (v_isi v_var)) (v_cmp (v_att v_var) (v_att v_var) (ne_self n m))
theorem below_le {m : Nat} {p : Nat → Bool} (hm : m ≤ 256) : (below m p).length ≤ big := Nat.le_trans (len_below m p) (by unfold big; omega)
theorem mk_bits' (n m : Nat) (L : List Nat) (p : Nat → Bool) (hm : m ≤ 256) (hL : ∀ x ∈ L, x < m) (hb : L.length ≤ big) (h : ∀ x, x < m → (x ∈ L ↔ p x = true)) : make T (n + 3) c_Bits [nI m, .lst (nL L)] = .ok (bitsD m (below m p)) := by
  rw [mk_bits n m L hm hL hb, mem_bits h]
theorem bits_both (n m : Nat) (p q : Nat → Bool) (hm : m ≤ 256) : call T (n + 4) f_Bits_both [bitsD m (below m p), bitsD m (below m q)] = .ok (bitsD m (below m fun x => p x && q x)) := by
  refine run (F := F_Bits_both) [some (bitsD m (below m p)), some (bitsD m (below m q)), none, none] rfl rfl ⟨rfl, by decide⟩ ?_
  refine en_expr (v_call (s_cons v_var (s_cons v_var s_nil)) (check_same_ok (n + 2) m _ _)) ?_
  refine en_asg (ev_set (L := below m q) (i_val (v_att v_var)) (below_le hm) (Nat.le_of_ble_eq_true rfl)) ?_
  refine en_ret (v_mk (s_cons (v_att v_var) (s_cons (ev_filter (L := below m p) (p := fun x => decide (x ∈ below m q)) (i_val (v_att v_var)) (below_le hm) (Nat.le_of_ble_eq_true rfl) fun x hx => v_cmp v_var v_var (in_set _ x)) s_nil)) (mk_bits' n m _ _ hm (fun x hx => (mem_below.mp (List.mem_filter.mp hx).1).1) (Nat.le_trans (List.length_filter_le _ _) (below_le hm)) fun x hx => ?_)) (fun _ => rfl)
  simp [mem_below, List.mem_filter, hx]
theorem bits_either (n m : Nat) (p q : Nat → Bool) (hm : m ≤ 256) : call T (n + 4) f_Bits_either [bitsD m (below m p), bitsD m (below m q)] = .ok (bitsD m (below m fun x => p x || q x)) := by
  have e : nL (below m p) ++ (nL (below m q) ++ []) = nL (below m p ++ below m q) := by rw [List.append_nil]; exact List.map_append.symm
  have hb : (below m p ++ below m q).length ≤ big := by
    have h1 := len_below m p
    have h2 := len_below m q
    have : big = 16777216 := rfl
    rw [List.length_append]; omega
  refine run (F := F_Bits_either) [some (bitsD m (below m p)), some (bitsD m (below m q))] rfl rfl ⟨rfl, by decide⟩ ?_
  refine en_expr (v_call (s_cons v_var (s_cons v_var s_nil)) (check_same_ok (n + 2) m _ _)) ?_
  refine en_ret (v_mk (s_cons (v_att v_var) (s_cons (v_lst (s_starT (v_att v_var) (s_starT (v_att v_var) s_nil)) (by rw [e, List.length_map]; exact hb)) s_nil)) ?_) (fun _ => rfl)
  rw [e]
  refine mk_bits' n m _ _ hm (fun x hx => ?_) hb fun x hx => ?_
  · rcases List.mem_append.mp hx with h | h <;> exact (mem_below.mp h).1
  · simp [mem_below, hx]
theorem rng_nL : ∀ (k a : Nat), rng (a : Int) k = nL (List.range' a k)
  | 0, a => rfl
  | k + 1, a => by
    show D.int a :: rng ((a : Int) + 1) k = _
    rw [show ((a : Int) + 1) = ((a + 1 : Nat) : Int) from by omega, rng_nL k (a + 1)]
    rfl
theorem rng0 (m : Nat) : rng 0 m = nL (List.range m) := by rw [List.range_eq_range']; exact rng_nL m 0
theorem bits_others (n m : Nat) (p : Nat → Bool) (hm : m ≤ 256) : call T (n + 4) f_Bits_others [bitsD m (below m p)] = .ok (bitsD m (below m fun x => !p x)) := by
  have hr : (List.range m).length ≤ big := by rw [List.length_range]; unfold big; omega
  refine run (F := F_Bits_others) [some (bitsD m (below m p)), none, none] rfl rfl ⟨rfl, by decide⟩ ?_
  refine en_asg (ev_set (L := below m p) (i_val (v_att v_var)) (below_le hm) (Nat.le_of_ble_eq_true rfl)) ?_
  refine en_ret (v_mk (s_cons (v_att v_var) (s_cons (ev_filter (L := List.range m) (p := fun x => !decide (x ∈ below m p)) ?_ hr (Nat.le_of_ble_eq_true rfl) fun x hx => v_cmp v_var v_var (notin_set _ x)) s_nil)) (mk_bits' n m _ _ hm (fun x hx => ?_) (Nat.le_trans (List.length_filter_le _ _) hr) fun x hx => ?_)) (fun _ => rfl)
  · rw [← rng0]
    have := i_rng1 (T := T) (cl := call T (n + 3)) (mk := make T (n + 3)) (a := .att (.var 0) n_many) (ρ := [some (bitsD m (below m p)), some (setD (below m p)), none]) (i := (m : Int)) (v_att v_var) (by unfold big; omega)
    rw [Int.toNat_natCast] at this
    exact this
  · exact List.mem_range.mp (List.mem_filter.mp hx).1
  · simp [mem_below, List.mem_filter, hx]
theorem bits_count (n m : Nat) (l : List Nat) : call T (n + 1) f_Bits_count [bitsD m l] = .ok (nI l.length) := by
  refine run (F := F_Bits_count) [some (bitsD m l)] rfl rfl ⟨rfl, by decide⟩ (en_ret (v_bi (s_cons (v_att v_var) s_nil) ?_) fun _ => rfl)
  rw [bi_lenT, List.length_map]
theorem bits_eq (n m : Nat) (a b : List Nat) : call T (n + 1) f_Bits_eq [bitsD m a, bitsD m b] = .ok (.bl (decide (a = b))) := by
  refine run (F := F_Bits_eq) [some (bitsD m a), some (bitsD m b)] rfl rfl ⟨rfl, by decide⟩ (en_ret (v_andT (v_isi v_var) (v_cmp (v_tup (s_cons (v_att v_var) (s_cons (v_att v_var) s_nil))) (v_tup (s_cons (v_att v_var) (s_cons (v_att v_var) s_nil))) ?_)) fun _ => rfl)
  have p1 : ∀ c : List Nat, plain (.tup [nI m, .tup (nL c)]) = true := fun c => by
    show (pdn 59 (nI m) && (pdn 59 (.tup (nL c)) && true)) = true
    show (true && (pdns 58 (nL c) && true)) = true
    rw [pdns_nL 57 c]; rfl
  show (eqR T (call T n) _ _).bind _ = _
  unfold eqR
  rw [p1, p1]
  show Res.ok (D.bl (eqv (nI m) (nI m) && (eqvs (nL a) (nL b) && true))) = _
  rw [eqv_nI, eqvs_nL]
  simp
end K23
end
section
set_option Elab.async false
set_option linter.all false
set_option maxRecDepth 100000
set_option maxHeartbeats 4000000
namespace K23
open BB
/-! columns -/
abbrev sA : Str := ⟨#[97]⟩
abbrev sB : Str := ⟨#[98]⟩
abbrev sC : Str := ⟨#[99]⟩
abbrev Cols := List (Str × Nat)
def Shape (cs : Cols) : Prop := (∃ x, cs = [(sA, x)] ∧ (1 ≤ x ∧ x ≤ 4)) ∨ (∃ x y, cs = [(sA, x), (sB, y)] ∧ (1 ≤ x ∧ x ≤ 4) ∧ (1 ≤ y ∧ y ≤ 4)) ∨ (∃ x y z, cs = [(sA, x), (sB, y), (sC, z)] ∧ (1 ≤ x ∧ x ≤ 4) ∧ (1 ≤ y ∧ y ≤ 4) ∧ (1 ≤ z ∧ z ≤ 4))
abbrev colsD (cs : Cols) : D := .dct (cs.map fun p => (.str p.1, nI p.2))
abbrev namesD (cs : Cols) : D := .lst (cs.map fun p => .str p.1)
abbrev sizes (cs : Cols) : List Nat := cs.map (·.2)
abbrev rowsD (rows : List (List Nat)) : List D := rows.map fun r => .tup (nL r)
abbrev tableD (cs : Cols) (rows : List (List Nat)) : D := .ins c_Table [(n_columns, colsD cs), (n_rows, .tup (rowsD rows))]
/-- a row of such a table -/
def RowOk (cs : Cols) (r : List Nat) : Prop := r.length = cs.length ∧ ∀ (i a s : Nat), r[i]? = some a → (sizes cs)[i]? = some s → a < s
variable {cs : Cols}
theorem shape_len (h : Shape cs) : 1 ≤ cs.length ∧ cs.length ≤ 3 := by
  rcases h with ⟨x, rfl, _⟩ | ⟨x, y, rfl, _⟩ | ⟨x, y, z, rfl, _⟩ <;> simp
theorem is_name_ok (n : Nat) : call T (n + 1) f_is_name [.str sA] = .ok (.bl true) ∧ call T (n + 1) f_is_name [.str sB] = .ok (.bl true) ∧ call T (n + 1) f_is_name [.str sC] = .ok (.bl true) := ⟨by kernel_rfl, by kernel_rfl, by kernel_rfl⟩
theorem pd_abc : pdn 1 (.str sA) = true ∧ pdn 1 (.str sB) = true ∧ pdn 1 (.str sC) = true := ⟨by kernel_rfl, by kernel_rfl, by kernel_rfl⟩
theorem shape_item (h : Shape cs) {x : Str} {s : Nat} (hm : (x, s) ∈ cs) : (∀ n, call T (n + 1) f_is_name [.str x] = .ok (.bl true)) ∧ 1 ≤ s ∧ s ≤ 4 ∧ index (colsD cs) (.str x) = .ok (nI s) ∧ isin (.str x) (colsD cs) = .ok true ∧ pdn 1 (.str x) = true := by
  rcases h with ⟨a, rfl, ha⟩ | ⟨a, b, rfl, ha, hb⟩ | ⟨a, b, c, rfl, ha, hb, hc⟩
  · simp only [List.mem_cons, Prod.mk.injEq, List.not_mem_nil, or_false] at hm
    obtain ⟨rfl, rfl⟩ := hm
    exact ⟨fun n => (is_name_ok n).1, ha.1, ha.2, rfl, rfl, pd_abc.1⟩
  · simp only [List.mem_cons, Prod.mk.injEq, List.not_mem_nil, or_false] at hm
    rcases hm with ⟨rfl, rfl⟩ | ⟨rfl, rfl⟩
    · exact ⟨fun n => (is_name_ok n).1, ha.1, ha.2, rfl, rfl, pd_abc.1⟩
    · exact ⟨fun n => (is_name_ok n).2.1, hb.1, hb.2, rfl, rfl, pd_abc.2.1⟩
  · simp only [List.mem_cons, Prod.mk.injEq, List.not_mem_nil, or_false] at hm
    rcases hm with ⟨rfl, rfl⟩ | ⟨rfl, rfl⟩ | ⟨rfl, rfl⟩
    · exact ⟨fun n => (is_name_ok n).1, ha.1, ha.2, rfl, rfl, pd_abc.1⟩
    · exact ⟨fun n => (is_name_ok n).2.1, hb.1, hb.2, rfl, rfl, pd_abc.2.1⟩
    · exact ⟨fun n => (is_name_ok n).2.2, hc.1, hc.2, rfl, rfl, pd_abc.2.2⟩
theorem sort_cols (h : Shape cs) : walkD .sorted ((cs.map fun p => (D.str p.1, nI p.2)).map (·.1)) = .ok (namesD cs) := by
  rcases h with ⟨a, rfl, ha⟩ | ⟨a, b, rfl, ha, hb⟩ | ⟨a, b, c, rfl, ha, hb, hc⟩ <;> kernel_rfl
def ofCol (cs : Cols) (d : D) : List D := match index (colsD cs) d with | .ok v => [v] | _ => []
def ofCol2 (cs : Cols) (d : D) : List D := match index (colsD cs) d with | .ok v => [.tup [d, v]] | _ => []
theorem cols_sizes (h : Shape cs) : (cs.map fun p => D.str p.1).flatMap (ofCol cs) = nL (sizes cs) := by
  rcases h with ⟨a, rfl, ha⟩ | ⟨a, b, rfl, ha, hb⟩ | ⟨a, b, c, rfl, ha, hb, hc⟩ <;> rfl
theorem cols_again (h : Shape cs) : D.dct (puts [] (kvOf ((cs.map fun p => D.str p.1).flatMap (ofCol2 cs)))) = colsD cs ∧ (keysOk (kvOf ((cs.map fun p => D.str p.1).flatMap (ofCol2 cs))) && Nat.ble ((cs.map fun p => D.str p.1).flatMap (ofCol2 cs)).length big) = true := by
  rcases h with ⟨a, rfl, ha⟩ | ⟨a, b, rfl, ha, hb⟩ | ⟨a, b, c, rfl, ha, hb, hc⟩ <;> exact ⟨rfl, rfl⟩
theorem v_sortC {T' : Tb} {cl : Cal} {mk : Mak} {e : E} {ρ : Env} (h : Shape cs) (e1 : ev T' cl mk e ρ = .ok (colsD cs)) : ev T' cl mk (.bw .sorted (.val e)) ρ = .ok (namesD cs) := v_bw e1 rfl (sort_cols h)
theorem all_true (l : List D) : walkD .all (l.flatMap fun _ => [.bl true]) = .ok (.bl true) := by
  have e : ∀ l : List D, bls (l.flatMap fun _ => [.bl true]) = some (l.map fun _ => true) := fun l => by
    induction l with
    | nil => rfl
    | cons d l ih => show (bls (l.flatMap fun _ => [.bl true])).map (true :: ·) = _; rw [ih]; rfl
  show (match bls _ with | some bs => Res.ok (D.bl (bs.all id)) | none => .stuck) = _
  rw [e l]
  show Res.ok (D.bl _) = _
  have : (l.map fun _ => true).all id = true := List.all_eq_true.mpr fun b hb => by
    obtain ⟨_, _, rfl⟩ := List.mem_map.mp hb
    rfl
  rw [this]
theorem zip_mem {d : D} : ∀ {l m : List Nat}, d ∈ zipD (nL l) (nL m) → ∃ i a b : Nat, d = .tup [nI a, nI b] ∧ l[i]? = some a ∧ m[i]? = some b
  | [], _, h => by simp [zipD] at h
  | _ :: _, [], h => by simp [zipD] at h
  | x :: l, y :: m, h => by
    rcases List.mem_cons.mp (show d ∈ .tup [nI x, nI y] :: zipD (nL l) (nL m) from h) with e | e
    · exact ⟨0, x, y, e, rfl, rfl⟩
    · obtain ⟨i, a, b, h1, h2, h3⟩ := zip_mem e
      exact ⟨i + 1, a, b, h1, h2, h3⟩
theorem zip_len : ∀ (l m : List D), (zipD l m).length ≤ l.length
  | [], _ => by simp [zipD]
  | _ :: _, [] => by simp [zipD]
  | x :: l, y :: m => by simp only [zipD, List.length_cons]; have := zip_len l m; omega
theorem flat_len (l : List D) (x : D) : (l.flatMap fun _ => [x]).length = l.length := by
  induction l with
  | nil => rfl
  | cons d l ih => rw [List.flatMap_cons, List.length_append, ih, List.length_cons]; simp; omega
theorem flat_map (f : D → D) (l : List D) : l.flatMap (fun d => [f d]) = l.map f := flat1 f l
/-- Table(columns, rows) -/
theorem mk_table (n : Nat) (h : Shape cs) (rows : List (List Nat)) (rd : D) (hrd : rd = .lst (rowsD rows) ∨ rd = .tup (rowsD rows)) (hl : rows.length ≤ 64) (hr : ∀ r ∈ rows, RowOk cs r) : make T (n + 4) c_Table [colsD cs, rd] = .ok (tableD cs rows) := by
  obtain ⟨l1, l3⟩ := shape_len h
  have isr : ∀ k, call T (k + 1) f_is_row [rd] = .ok (.bl true) := fun k => by rcases hrd with rfl | rfl <;> rfl
  have len : biR .len [rd] = .ok (nI rows.length) := by
    rcases hrd with rfl | rfl
    · rw [bi_lenL, List.length_map]
    · rw [bi_lenT, List.length_map]
  have src : srcD rd = some (rowsD rows) := by rcases hrd with rfl | rfl <;> rfl
  have its : items rd = some (rowsD rows) := by rcases hrd with rfl | rfl <;> rfl
  have nme : ∀ c fs, rd ≠ .me c fs := fun c fs z => by rcases hrd with rfl | rfl <;> cases z
  have okr : ∀ {a b c d e f : Option D} {x : D}, (∀ c fs, x ≠ .me c fs) → okLk [some x, some (colsD cs), some rd, a, b, c, d, e, f, none] [2] = true := fun _ => by rcases hrd with rfl | rfl <;> rfl
  refine run_mk (F := F_Table_init) (k := (T.cls[c_Table])) [some (.me c_Table []), some (colsD cs), some rd, none, none, none, none, none, none, none] rfl rfl rfl ⟨rfl, by decide⟩ ?_
  have lc : ∀ {n : Nat} {ρ : Env}, ρ[1]? = some (some (colsD cs)) → ev T (call T n) (make T n) (.bi .len (.cons false (.var 1) .nil)) ρ = .ok (nI cs.length) := fun hρ => v_bi (s_cons (v_var hρ) s_nil) (by rw [bi_lenD, List.length_map])
  have c1 : ∀ n, cmpR T (call T n) .le (.int 1) (nI cs.length) = .ok (.bl true) := fun n => by rw [c_leI, decide_eq_true (by omega)]
  have c4 : ∀ n, cmpR T (call T n) .le (nI cs.length) (.int 4) = .ok (.bl true) := fun n => by rw [c_leI, decide_eq_true (by omega)]
  refine en_skip (v_orF (v_not (v_isi v_var)) (v_not (v_cmp2 v_cst (lc rfl) v_cst (c1 _) (c4 _)))) ?_
  refine en_for (l := (cs.map fun p => (D.str p.1, nI p.2)).map fun p => .tup [p.1, p.2]) (fun ρ => ∃ (a : Option Str) (b : Option Nat), ρ = [some (.me c_Table []), some (colsD cs), some rd, a.map .str, b.map nI, none, none, none, none, none]) rfl (i_items v_var) rfl ⟨none, none, rfl⟩ (fun d hd ρ hρ => ?_) (fun ρ2 hρ => ?_)
  · obtain ⟨a, b, rfl⟩ := hρ
    obtain ⟨q, hq, rfl⟩ := List.mem_map.mp hd
    obtain ⟨⟨x, s⟩, hp, rfl⟩ := List.mem_map.mp hq
    obtain ⟨k1, k2, k3, _⟩ := shape_item h hp
    refine ⟨[some (.me c_Table []), some (colsD cs), some rd, some (.str x), some (nI s), none, none, none, none, none], [some (.me c_Table []), some (colsD cs), some rd, some (.str x), some (nI s), none, none, none, none, none], rfl, ?_, some x, some s, rfl⟩
    have d1 : cmpR T (call T (n + 3)) .le (.int 1) (nI s) = .ok (.bl true) := by rw [c_leI, decide_eq_true (by omega)]
    have d4 : cmpR T (call T (n + 3)) .le (nI s) (.int 6) = .ok (.bl true) := by rw [c_leI, decide_eq_true (by omega)]
    have g : Ends T (call T (n + 3)) (make T (n + 3)) (.cons (.ite (.or (.not (.call f_is_name (.cons false (.var 3) .nil))) (.or (.not (.call f_is_number (.cons false (.var 4) .nil))) (.not (.cmp2 .le .le (.cst (.int 1)) (.var 4) (.cst (.int 6)))))) (.cons .bad .nil) .nil) .nil)
        [some (.me c_Table []), some (colsD cs), some rd, some (.str x), some (nI s), none, none, none, none, none] [0] (fun fl => fl = .nx [some (.me c_Table []), some (colsD cs), some rd, some (.str x), some (nI s), none, none, none, none, none] [0]) :=
by
      refine en_skip ?_ (en_nil rfl)
      refine v_orF (x := .bl false) (v_not (x := .bl true) ?_) (v_orF (x := .bl false) (v_not (x := .bl true) ?_) (v_not (x := .bl true) ?_))
      · exact v_call (s_cons v_var s_nil) (k1 (n + 2))
      · exact v_call (s_cons v_var s_nil) (is_number_nat (n + 2) s)
      · exact v_cmp2 v_cst v_var v_cst d1 d4
    obtain ⟨fl, g1, rfl⟩ := g
    exact g1
  obtain ⟨a, b, rfl⟩ := hρ
  have lr : ∀ {n : Nat} {ρ : Env}, ρ[2]? = some (some rd) → ev T (call T n) (make T n) (.bi .len (.cons false (.var 2) .nil)) ρ = .ok (nI rows.length) := fun hρ => v_bi (s_cons (v_var hρ) s_nil) len
  have e64 : ∀ n, cmpR T (call T n) .gt (nI rows.length) (.int 64) = .ok (.bl false) := fun n => by rw [c_gtI, decide_eq_false (by omega)]
  have okd : ∀ {l : List Nat} {a b c d e f g : Option D}, (∀ i ∈ l, i = 2 ∨ i = 1) → okLk [some (.me c_Table []), some (colsD cs), some rd, a, b, c, d, e, f, g] l = true := fun {l} {a b c d e f g} hl => List.all_eq_true.mpr fun i hi => by
    rcases hl i hi with rfl | rfl
    · rcases hrd with rfl | rfl <;> rfl
    · rfl
  refine en_skip (v_orF (v_not (v_call (s_cons v_var s_nil) (isr _))) (v_cmp (lr rfl) v_cst (e64 _))) ?_ rfl (okd (by intro i hi; simp [lkB, lks, lk, lksB] at hi; exact .inl hi))
  have col : ∀ {n : Nat} {d : D} {ρ : Env}, d ∈ cs.map (fun p => D.str p.1) → ρ[1]? = some (some (colsD cs)) → ρ[3]? = some (some d) → ∃ v, ev T (call T n) (make T n) (.idx (.var 1) (.var 3)) ρ = .ok v ∧ index (colsD cs) d = .ok v := fun {n d ρ} hd h1 h3 => by
    obtain ⟨⟨x, s⟩, hp, rfl⟩ := List.mem_map.mp hd
    obtain ⟨_, _, _, k4, _⟩ := shape_item h hp
    exact ⟨_, v_idx (v_var h1) (v_var h3) k4, k4⟩
  refine en_asg (d := .lst (nL (sizes cs))) ?_ ?_ (ok := by cases a <;> rfl)
  · rw [← cols_sizes h]
    refine v_lc (i_val (v_sortC h v_var)) (fun d hd => ⟨_, rfl, ?_⟩) ?_
    · obtain ⟨v, e1, e2⟩ := col (n := n + 3) (ρ := [some (.me c_Table []), some (colsD cs), some rd, some d, b.map nI, none, none, none, none, none]) hd rfl rfl
      refine (lc_one rfl e1).trans ?_
      unfold ofCol
      rw [e2]
    · rw [cols_sizes h, List.length_map, List.length_map]; unfold big; omega
  refine en_for (l := enumD 0 (rowsD rows)) (fun ρ => ∃ (x : Option D) (r : Option (List Nat)), ρ = [some (.me c_Table []), some (colsD cs), some rd, a.map .str, b.map nI, some (.lst (nL (sizes cs))), x, r.map (fun r => .tup (nL r)), none, none]) (okd (by intro i hi; simp [lkF, lk] at hi; exact .inl hi)) (i_enum v_var src) rfl ⟨none, none, rfl⟩ (fun d hd ρ hρ => ?_) (fun ρ2 hρ => ?_)
  · obtain ⟨x, r0, rfl⟩ := hρ
    obtain ⟨j, y, rfl, hy⟩ := enum_mem hd
    obtain ⟨r, hrm, rfl⟩ := List.mem_map.mp hy
    obtain ⟨q1, q2⟩ := hr r hrm
    refine ⟨[some (.me c_Table []), some (colsD cs), some rd, a.map .str, b.map nI, some (.lst (nL (sizes cs))), some (.int j), some (.tup (nL r)), none, none], [some (.me c_Table []), some (colsD cs), some rd, a.map .str, b.map nI, some (.lst (nL (sizes cs))), some (.int j), some (.tup (nL r)), none, none], rfl, ?_, some (.int j), some r, rfl⟩
    refine exs_step (ρ' := [some (.me c_Table []), some (colsD cs), some rd, a.map .str, b.map nI, some (.lst (nL (sizes cs))), some (.int j), some (.tup (nL r)), none, none]) (ω' := [0]) rfl ?_ (exs_step (ρ' := [some (.me c_Table []), some (colsD cs), some rd, a.map .str, b.map nI, some (.lst (nL (sizes cs))), some (.int j), some (.tup (nL r)), none, none]) (ω' := [0]) rfl ?_ rfl)
    · have e := v_orF (T := T) (cl := call T (n + 3)) (mk := make T (n + 3)) (ρ := [some (.me c_Table []), some (colsD cs), some rd, a.map .str, b.map nI, some (.lst (nL (sizes cs))), some (.int j), some (.tup (nL r)), none, none]) (v_not (v_call (s_cons (v_var (i := 7)) s_nil) (is_row_tup (n + 2) (nL r)))) (v_cmp (v_bi (s_cons (v_var (i := 7)) s_nil) (bi_lenT _)) (v_bi (s_cons (v_var (i := 5)) s_nil) (bi_lenL _)) (show cmpR T (call T (n + 3)) .ne (.int (nL r).length) (.int (nL (sizes cs)).length) = .ok (.bl false) from by rw [List.length_map, List.length_map, List.length_map, q1]; exact ne_self (n + 3) cs.length))
      show (ev T (call T (n + 3)) (make T (n + 3)) _ _).bind _ = _
      rw [e]; rfl
    · have e : ev T (call T (n + 3)) (make T (n + 3)) (.not (.bw .all (.val (.lc (.call f_is_below (.cons false (.var 8) (.cons false (.var 9) .nil))) (.tup [(.nm 8), (.nm 9)]) (.zip2 (.val (.var 7)) (.val (.var 5))) .nil)))) [some (.me c_Table []), some (colsD cs), some rd, a.map .str, b.map nI, some (.lst (nL (sizes cs))), some (.int j), some (.tup (nL r)), none, none] = .ok (.bl false) := by
        refine v_not (x := .bl true) (v_bw (x := .lst ((zipD (nL r) (nL (sizes cs))).flatMap fun _ => [.bl true])) ?_ rfl (all_true _))
        refine v_lc (i_zip (x := .tup (nL r)) (y := .lst (nL (sizes cs))) ?_ ?_) (fun d hd => ?_) ?_
        · exact v_var
        · exact v_var
        · obtain ⟨i, u, v, rfl, hu, hv⟩ := zip_mem hd
          refine ⟨_, rfl, lc_one rfl (v_call (s_cons v_var (s_cons v_var s_nil)) ?_)⟩
          rw [is_below_nat (n + 1) u v, decide_eq_true (q2 i u v hu hv)]
        · rw [flat_len]
          have := zip_len (nL r) (nL (sizes cs))
          rw [List.length_map, q1] at this
          unfold big; omega
      show (ev T (call T (n + 3)) (make T (n + 3)) _ _).bind _ = _
      rw [e]; rfl
  obtain ⟨x, r0, rfl⟩ := hρ
  refine en_setF (d := colsD cs) (c := c_Table) (fs := []) ?_ rfl ?_ rfl rfl (by cases a <;> rfl)
  · have := v_dc (T := T) (cl := call T (n + 3)) (mk := make T (n + 3)) (kx := .var 3) (vx := .idx (.var 1) (.var 3)) (p := .nm 3) (cs := .nil) (g := ofCol2 cs) (ρ := [some (.me c_Table []), some (colsD cs), some rd, a.map .str, b.map nI, some (.lst (nL (sizes cs))), x, r0.map (fun r => .tup (nL r)), none, none]) (i_val (v_sortC h (v_var (i := 1)))) (fun d hd => ⟨_, rfl, by
      obtain ⟨v, e1, e2⟩ := col (n := n + 3) (ρ := [some (.me c_Table []), some (colsD cs), some rd, some d, b.map nI, some (.lst (nL (sizes cs))), x, r0.map (fun r => .tup (nL r)), none, none]) hd rfl rfl
      refine (dc_one rfl (v_var (i := 3)) e1).trans ?_
      unfold ofCol2
      rw [e2]⟩) (cols_again h).2
    rw [(cols_again h).1] at this
    exact this
  · refine en_setF (d := .tup (rowsD rows)) (c := c_Table) (fs := [(n_columns, colsD cs)]) ?_ rfl (en_nil ⟨rfl, rfl⟩) rfl rfl ?_
    · have := v_lc (T := T) (cl := call T (n + 3)) (mk := make T (n + 3)) (e := .bw .tuple (.val (.var 7))) (p := .nm 7) (cs := .nil) (g := fun d => [d]) (ρ := [some (.me c_Table [(n_columns, colsD cs)]), some (colsD cs), some rd, a.map .str, b.map nI, some (.lst (nL (sizes cs))), x, r0.map (fun r => .tup (nL r)), none, none]) (l := rowsD rows) (i_val (v_var (i := 2)) its) (fun d hd => by
        obtain ⟨r, _, rfl⟩ := List.mem_map.mp hd
        exact ⟨_, rfl, lc_one rfl (v_bw (v_var (i := 7)) rfl rfl)⟩) (by rw [flat1, List.map_id', List.length_map]; unfold big; omega)
      rw [flat1, List.map_id'] at this
      exact ev_tuple this
    · refine List.all_eq_true.mpr fun i hi => ?_
      have hi : i = 7 ∨ i = 2 := by simpa [lk, lkB, lkI, lksB] using hi
      rcases hi with rfl | rfl
      · cases r0 <;> rfl
      · rcases hrd with rfl | rfl <;> rfl
end K23
end
section
set_option Elab.async false
set_option linter.all false
set_option maxRecDepth 100000
set_option maxHeartbeats 4000000
namespace K23
open BB
variable {cs : Cols}
def pos (cs : Cols) (x : Str) : Nat := (cs.map (·.1)).findIdx (· == x)
theorem pos_ok (h : Shape cs) {x : Str} {s : Nat} (hm : (x, s) ∈ cs) : pos cs x < cs.length ∧ (sizes cs)[pos cs x]? = some s ∧ bmop .index (namesD cs) [.str x] = .ok (nI (pos cs x)) := by
  rcases h with ⟨a, rfl, ha⟩ | ⟨a, b, rfl, ha, hb⟩ | ⟨a, b, c, rfl, ha, hb, hc⟩
  · simp only [List.mem_cons, Prod.mk.injEq, List.not_mem_nil, or_false] at hm
    obtain ⟨rfl, rfl⟩ := hm
    exact ⟨Nat.le_of_ble_eq_true rfl, rfl, by kernel_rfl⟩
  · simp only [List.mem_cons, Prod.mk.injEq, List.not_mem_nil, or_false] at hm
    rcases hm with ⟨rfl, rfl⟩ | ⟨rfl, rfl⟩
    · exact ⟨Nat.le_of_ble_eq_true rfl, rfl, by kernel_rfl⟩
    · exact ⟨Nat.le_of_ble_eq_true rfl, rfl, by kernel_rfl⟩
  · simp only [List.mem_cons, Prod.mk.injEq, List.not_mem_nil, or_false] at hm
    rcases hm with ⟨rfl, rfl⟩ | ⟨rfl, rfl⟩ | ⟨rfl, rfl⟩
    · exact ⟨Nat.le_of_ble_eq_true rfl, rfl, by kernel_rfl⟩
    · exact ⟨Nat.le_of_ble_eq_true rfl, rfl, by kernel_rfl⟩
    · exact ⟨Nat.le_of_ble_eq_true rfl, rfl, by kernel_rfl⟩
theorem isin_c {cl : Cal} {x d : D} (h : isin x d = .ok true) : cmpR T cl .isin x d = .ok (.bl true) ∧ cmpR T cl .notin x d = .ok (.bl false) := by
  constructor
  · show (isin x d).bind _ = _
    rw [h]; rfl
  · show (isin x d).bind _ = _
    rw [h]; rfl
theorem table_place (n : Nat) (h : Shape cs) (rows : List (List Nat)) {x : Str} {s : Nat} (hm : (x, s) ∈ cs) : call T (n + 1) f_Table_place [tableD cs rows, .str x] = .ok (nI (pos cs x)) := by
  obtain ⟨_, _, k⟩ := pos_ok h hm
  obtain ⟨_, _, _, _, k5, _⟩ := shape_item h hm
  refine run (F := F_Table_place) [some (tableD cs rows), some (.str x)] rfl rfl ⟨rfl, by decide⟩ (en_skip (v_orF (v_not (v_isi v_var)) (v_cmp v_var (v_att v_var) (isin_c k5).2)) (en_ret (v_bm (v_bw (v_att v_var) rfl rfl) (s_cons v_var s_nil) ?_) fun _ => rfl))
  rw [List.map_map]
  exact k
/-- the rows whose value at i is v -/
def hasV (rows : List (List Nat)) (i v : Nat) (k : Nat) : Bool := match rows[k]? with
  | some r => r[i]? == some v
  | none => false
def gB (i v : Nat) : D → List D
  | .tup [j, .tup r] => match r[i]? with | some (.int a) => if a == (v : Int) then [j] else [] | _ => []
  | _ => []
theorem enum_filter (i v : Nat) : ∀ (rows pre : List (List Nat)), (enumD ((pre.length : Nat) : Int) (rowsD rows)).flatMap (gB i v) = nL ((List.range' pre.length rows.length).filter (hasV (pre ++ rows) i v))
  | [], pre => rfl
  | r :: rows, pre => by
    have ih := enum_filter i v rows (pre ++ [r])
    rw [List.length_append, List.append_assoc] at ih
    have ih : (enumD (((pre.length + 1 : Nat)) : Int) (rowsD rows)).flatMap (gB i v) = nL ((List.range' (pre.length + 1) rows.length).filter (hasV (pre ++ r :: rows) i v)) := ih
    show (D.tup [.int (pre.length : Nat), .tup (nL r)] :: enumD (((pre.length : Nat) : Int) + 1) (rowsD rows)).flatMap (gB i v) = _
    rw [List.flatMap_cons, show (((pre.length : Nat) : Int) + 1) = ((pre.length + 1 : Nat) : Int) from by omega, ih, List.length_cons, List.range'_succ, List.filter_cons]
    have hv : hasV (pre ++ r :: rows) i v pre.length = (r[i]? == some v) := by
      unfold hasV
      rw [List.getElem?_append_right (Nat.le_refl _), Nat.sub_self]
      rfl
    rw [hv]
    show (match (nL r)[i]? with | some (.int a) => if a == (v : Int) then [D.int (pre.length : Nat)] else [] | _ => []) ++ _ = _
    rw [List.getElem?_map]
    cases e : r[i]? with
    | none => rfl
    | some a =>
      show (if ((a : Int) == (v : Int)) = true then _ else _) ++ _ = _
      by_cases z : a = v
      · subst z; simp
      · have : ¬ (a : Int) = v := by omega
        simp [z, this]
theorem enum_below (rows : List (List Nat)) (i v : Nat) : (enumD 0 (rowsD rows)).flatMap (gB i v) = nL (below rows.length (hasV rows i v)) := by
  have := enum_filter i v rows []
  rw [List.length_nil, List.nil_append, ← List.range_eq_range'] at this
  exact this
theorem table_bits (n : Nat) (h : Shape cs) (rows : List (List Nat)) (hl : rows.length ≤ 64) (hr : ∀ r ∈ rows, RowOk cs r) {x : Str} {s v : Nat} (hm : (x, s) ∈ cs) (hv : v < s) : call T (n + 4) f_Table_bits [tableD cs rows, .str x, nI v] = .ok (bitsD rows.length (below rows.length (hasV rows (pos cs x) v))) := by
  obtain ⟨p1, p2, _⟩ := pos_ok h hm
  obtain ⟨_, _, _, k4, k5, _⟩ := shape_item h hm
  refine run (F := F_Table_bits) [some (tableD cs rows), some (.str x), some (nI v), none, none, none] rfl rfl ⟨rfl, by decide⟩ ?_
  refine en_asg (v_meth v_var (s_cons v_var s_nil) (table_place (n + 2) h rows hm)) ?_
  refine en_skip (v_not (x := .bl true) ?_) ?_
  · refine v_call (s_cons v_var (s_cons (v_idx (v_att v_var) v_var k4) s_nil)) ?_
    rw [is_below_nat (n + 1) v s, decide_eq_true hv]
  refine en_ret (v_mk (s_cons (v_bi (s_cons (v_att v_var) s_nil) (bi_lenT _)) (s_cons (d := .lst (nL (below rows.length (hasV rows (pos cs x) v)))) ?_ s_nil)) ?_) fun _ => rfl
  · rw [← enum_below]
    refine v_lc (i_enum (v_att v_var)) (fun d hd => ?_) ?_
    · obtain ⟨j, y, rfl, hy⟩ := enum_mem hd
      obtain ⟨r, hrm, rfl⟩ := List.mem_map.mp hy
      obtain ⟨q1, q2⟩ := hr r hrm
      have hp : pos cs x < r.length := by rw [q1]; exact p1
      refine ⟨_, rfl, ?_⟩
      have e : ev T (call T (n + 3)) (make T (n + 3)) (.cmp .eq (.idx (.var 5) (.var 3)) (.var 2)) [some (tableD cs rows), some (.str x), some (nI v), some (nI (pos cs x)), some (.int j), some (.tup (nL r))] = .ok (.bl ((r[pos cs x] : Int) == (v : Int))) := by
        refine v_cmp (x := nI (r[pos cs x])) (v_idx v_var v_var ?_) v_var (c_eqI _ _)
        rw [ix_T]
        unfold getI
        rw [if_pos (by omega), Int.toNat_natCast, List.getElem?_map, List.getElem?_eq_getElem hp]
        rfl
      show ((ev T (call T (n + 3)) (make T (n + 3)) (.cmp .eq (.idx (.var 5) (.var 3)) (.var 2)) [some (tableD cs rows), some (.str x), some (nI v), some (nI (pos cs x)), some (.int j), some (.tup (nL r))]).bind _ |>.bind _) = _
      rw [e, b_ok, t_bl, b_ok]
      show _ = Res.ok (match (nL r)[pos cs x]? with | some (.int a) => if a == (v : Int) then [D.int j] else [] | _ => [])
      rw [List.getElem?_map, List.getElem?_eq_getElem hp]
      show _ = Res.ok (if ((r[pos cs x] : Int) == (v : Int)) = true then [D.int j] else [])
      cases ((r[pos cs x] : Int) == (v : Int)) <;> rfl
    · rw [enum_below, List.length_map]
      exact below_le (by omega)
  · rw [List.length_map]
    exact mk_bits' n rows.length _ _ (by omega) (fun x hx => (mem_below.mp hx).1) (below_le (by omega)) fun x hx => by simp [mem_below, hx]
end K23
end
section
set_option Elab.async false
set_option linter.all false
set_option maxRecDepth 100000
set_option maxHeartbeats 4000000
namespace K23
open BB
/-! questions -/
inductive W where
  | is | fr | to
inductive Q where
  | any | cm (w : W) (x : Str) (v : Nat) | nt (q : Q) | an (q r : Q) | orr (q r : Q)
abbrev wAny : Str := ⟨#[97, 110, 121]⟩
abbrev wIs : Str := ⟨#[105, 115]⟩
abbrev wFrom : Str := ⟨#[102, 114, 111, 109]⟩
abbrev wTo : Str := ⟨#[116, 111]⟩
abbrev wAnd : Str := ⟨#[97, 110, 100]⟩
abbrev wOr : Str := ⟨#[111, 114]⟩
abbrev wNot : Str := ⟨#[110, 111, 116]⟩
abbrev wd : W → Str
  | .is => wIs | .fr => wFrom | .to => wTo
def encL : Q → List D
  | .any => [.str wAny]
  | .cm w x v => [.str (wd w), .str x, nI v]
  | .nt q => [.str wNot, .tup (encL q)]
  | .an q r => [.str wAnd, .tup (encL q), .tup (encL r)]
  | .orr q r => [.str wOr, .tup (encL q), .tup (encL r)]
def enc (q : Q) : D := .tup (encL q)
def dep : Q → Nat
  | .any => 1
  | .cm _ _ _ => 1
  | .nt q => dep q + 1
  | .an q r => max (dep q) (dep r) + 1
  | .orr q r => max (dep q) (dep r) + 1
def wf (cs : Cols) : Q → Prop
  | .any => True
  | .cm _ x v => ∃ s, (x, s) ∈ cs ∧ v < s
  | .nt q => wf cs q
  | .an q r => wf cs q ∧ wf cs r
  | .orr q r => wf cs q ∧ wf cs r
def at_ (cs : Cols) (r : List Nat) (x : Str) : Nat := (r[pos cs x]?).getD 0
def sem (cs : Cols) (r : List Nat) : Q → Bool
  | .any => true
  | .cm .is x v => at_ cs r x == v
  | .cm .fr x v => decide (v ≤ at_ cs r x)
  | .cm .to x v => decide (at_ cs r x ≤ v)
  | .nt q => !sem cs r q
  | .an p q => sem cs r p && sem cs r q
  | .orr p q => sem cs r p || sem cs r q
variable {cs : Cols}
theorem pd_words : pdn 1 (.str wAny) = true ∧ pdn 1 (.str wIs) = true ∧ pdn 1 (.str wFrom) = true ∧ pdn 1 (.str wTo) = true ∧ pdn 1 (.str wAnd) = true ∧ pdn 1 (.str wOr) = true ∧ pdn 1 (.str wNot) = true := by
  refine ⟨?_, ?_, ?_, ?_, ?_, ?_, ?_⟩ <;> kernel_rfl
theorem pd_str (k : Nat) (x : Str) : pdn k (.str x) = pdn 1 (.str x) := by cases k <;> rfl
theorem pd_enc (h : Shape cs) : ∀ (q : Q) (k : Nat), wf cs q → dep q ≤ k → pdn k (enc q) = true
  | .any, k + 1, _, _ => by show (pdn k (.str wAny) && true) = true; rw [pd_str, pd_words.1]; rfl
  | .cm w x v, k + 1, hw, _ => by
    obtain ⟨s, hm, _⟩ := hw
    show (pdn k (.str (wd w)) && (pdn k (.str x) && (pdn k (nI v) && true))) = true
    have h1 : pdn 1 (.str (wd w)) = true := by cases w; exact pd_words.2.1; exact pd_words.2.2.1; exact pd_words.2.2.2.1
    rw [pd_str, pd_str k x, h1, (shape_item h hm).2.2.2.2.2]
    cases k <;> rfl
  | .nt q, k + 1, hw, hd => by
    have hd : dep q + 1 ≤ k + 1 := hd
    show (pdn k (.str wNot) && (pdn k (enc q) && true)) = true
    rw [pd_str, pd_words.2.2.2.2.2.2, pd_enc h q k hw (by omega)]; rfl
  | .an q r, k + 1, hw, hd => by
    have hd : max (dep q) (dep r) + 1 ≤ k + 1 := hd
    show (pdn k (.str wAnd) && (pdn k (enc q) && (pdn k (enc r) && true))) = true
    rw [pd_str, pd_words.2.2.2.2.1, pd_enc h q k hw.1 (by omega), pd_enc h r k hw.2 (by omega)]; rfl
  | .orr q r, k + 1, hw, hd => by
    have hd : max (dep q) (dep r) + 1 ≤ k + 1 := hd
    show (pdn k (.str wOr) && (pdn k (enc q) && (pdn k (enc r) && true))) = true
    rw [pd_str, pd_words.2.2.2.2.2.1, pd_enc h q k hw.1 (by omega), pd_enc h r k hw.2 (by omega)]; rfl
  | .any, 0, _, hd => by cases hd
  | .cm _ _ _, 0, _, hd => by cases hd
  | .nt _, 0, _, hd => by cases hd
  | .an _ _, 0, _, hd => by cases hd
  | .orr _ _, 0, _, hd => by cases hd
theorem at_get {r : List Nat} (h : Shape cs) (hr : r.length = cs.length) {x : Str} {s : Nat} (hm : (x, s) ∈ cs) : getI (nL r) (nI (pos cs x) |> fun _ => (pos cs x : Int)) = some (nI (at_ cs r x)) := by
  obtain ⟨p1, _, _⟩ := pos_ok h hm
  show getI (nL r) ((pos cs x : Nat) : Int) = _
  unfold getI at_
  rw [if_pos (by omega), Int.toNat_natCast, List.getElem?_map, List.getElem?_eq_getElem (by omega)]
  rfl
section
variable (cl : Cal)
theorem w_any : cmpR T cl .eq (.str wAny) (.str wAny) = .ok (.bl true) := by kernel_rfl
theorem w_any_cm (w : W) : cmpR T cl .eq (.str (wd w)) (.str wAny) = .ok (.bl false) := by cases w <;> kernel_rfl
theorem w_any_o : cmpR T cl .eq (.str wNot) (.str wAny) = .ok (.bl false) ∧ cmpR T cl .eq (.str wAnd) (.str wAny) = .ok (.bl false) ∧ cmpR T cl .eq (.str wOr) (.str wAny) = .ok (.bl false) := by refine ⟨?_, ?_, ?_⟩ <;> kernel_rfl
theorem w_in (w : W) : cmpR T cl .isin (.str (wd w)) (.tup [.str wIs, .str wFrom, .str wTo]) = .ok (.bl true) := by cases w <;> kernel_rfl
theorem w_in_o : cmpR T cl .isin (.str wNot) (.tup [.str wIs, .str wFrom, .str wTo]) = .ok (.bl false) ∧ cmpR T cl .isin (.str wAnd) (.tup [.str wIs, .str wFrom, .str wTo]) = .ok (.bl false) ∧ cmpR T cl .isin (.str wOr) (.tup [.str wIs, .str wFrom, .str wTo]) = .ok (.bl false) := by refine ⟨?_, ?_, ?_⟩ <;> kernel_rfl
theorem w_is : cmpR T cl .eq (.str wIs) (.str wIs) = .ok (.bl true) ∧ cmpR T cl .eq (.str wFrom) (.str wIs) = .ok (.bl false) ∧ cmpR T cl .eq (.str wTo) (.str wIs) = .ok (.bl false) := by refine ⟨?_, ?_, ?_⟩ <;> kernel_rfl
theorem w_from : cmpR T cl .eq (.str wFrom) (.str wFrom) = .ok (.bl true) ∧ cmpR T cl .eq (.str wTo) (.str wFrom) = .ok (.bl false) := by refine ⟨?_, ?_⟩ <;> kernel_rfl
theorem w_not : cmpR T cl .eq (.str wNot) (.str wNot) = .ok (.bl true) ∧ cmpR T cl .eq (.str wAnd) (.str wNot) = .ok (.bl false) ∧ cmpR T cl .eq (.str wOr) (.str wNot) = .ok (.bl false) := by refine ⟨?_, ?_, ?_⟩ <;> kernel_rfl
theorem w_and : cmpR T cl .eq (.str wAnd) (.str wAnd) = .ok (.bl true) ∧ cmpR T cl .eq (.str wOr) (.str wAnd) = .ok (.bl false) := by refine ⟨?_, ?_⟩ <;> kernel_rfl
theorem w_isfr : cmpR T cl .isin (.str wIs) (.tup [.str wIs, .str wFrom]) = .ok (.bl true) ∧ cmpR T cl .isin (.str wFrom) (.tup [.str wIs, .str wFrom]) = .ok (.bl true) ∧ cmpR T cl .isin (.str wTo) (.tup [.str wIs, .str wFrom]) = .ok (.bl false) := by refine ⟨?_, ?_, ?_⟩ <;> kernel_rfl
theorem w_isto : cmpR T cl .isin (.str wIs) (.tup [.str wIs, .str wTo]) = .ok (.bl true) ∧ cmpR T cl .isin (.str wFrom) (.tup [.str wIs, .str wTo]) = .ok (.bl false) ∧ cmpR T cl .isin (.str wTo) (.tup [.str wIs, .str wTo]) = .ok (.bl true) := by refine ⟨?_, ?_, ?_⟩ <;> kernel_rfl
theorem w_andor : cmpR T cl .isin (.str wAnd) (.tup [.str wAnd, .str wOr]) = .ok (.bl true) ∧ cmpR T cl .isin (.str wOr) (.tup [.str wAnd, .str wOr]) = .ok (.bl true) ∧ cmpR T cl .isin (.str wNot) (.tup [.str wAnd, .str wOr]) = .ok (.bl false) := by refine ⟨?_, ?_, ?_⟩ <;> kernel_rfl
end
theorem fulfils_ok (h : Shape cs) {r : List Nat} (hr : r.length = cs.length) : ∀ (q : Q) (n : Nat), wf cs q → dep q ≤ n → call T n f_fulfils [namesD cs, .tup (nL r), enc q] = .ok (.bl (sem cs r q))
  | q, 0, _, hd => by cases q <;> cases hd
  | .any, n + 1, _, _ => by
    refine run (F := F_fulfils) [some (namesD cs), some (.tup (nL r)), some (enc .any), none, none, none] rfl rfl ⟨rfl, by decide⟩ ?_
    refine en_asg (v_idx v_var v_cst rfl) (en_then (v_cmp v_var v_cst (w_any _)) (en_ret v_cst fun _ => rfl))
  | .cm w x v, n + 1, ⟨s, hm, hv⟩, _ => by
    refine run (F := F_fulfils) [some (namesD cs), some (.tup (nL r)), some (enc (.cm w x v)), none, none, none] rfl rfl ⟨rfl, by decide⟩ ?_
    refine en_asg (v_idx v_var v_cst rfl) (en_skip (v_cmp v_var v_cst (w_any_cm _ w)) ?_)
    refine en_then (v_cmp v_var (v_tup (s_cons v_cst (s_cons v_cst (s_cons v_cst s_nil)))) (w_in _ w)) ?_
    refine en_asg (v_idx v_var (v_bm v_var (s_cons (v_idx v_var v_cst rfl) s_nil) (pos_ok h hm).2.2) (by rw [ix_T]; exact congrArg Res.ofOpt (at_get h hr hm))) ?_
    cases w with
    | is => exact en_then (v_cmp v_var v_cst (w_is _).1) (en_ret (v_cmp v_var (v_idx v_var v_cst rfl) (by rw [c_eqI]; exact congrArg (fun b => Res.ok (D.bl b)) (by rw [Bool.eq_iff_iff]; simp; show _ ↔ (at_ cs r x == v) = true; simp; omega))) fun _ => rfl)
    | fr => exact en_skip (v_cmp v_var v_cst (w_is _).2.1) (en_ret (v_iteT (v_cmp v_var v_cst (w_from _).1) (v_cmp v_var (v_idx v_var v_cst rfl) (by rw [c_geI]; exact congrArg (fun b => Res.ok (D.bl b)) (by show decide (((v : Nat) : Int) ≤ (at_ cs r x : Nat)) = decide (v ≤ at_ cs r x); simp)))) fun _ => rfl)
    | to => exact en_skip (v_cmp v_var v_cst (w_is _).2.2) (en_ret (v_iteF (v_cmp v_var v_cst (w_from _).2) (v_cmp v_var (v_idx v_var v_cst rfl) (by rw [c_leI]; exact congrArg (fun b => Res.ok (D.bl b)) (by show decide ((at_ cs r x : Nat) ≤ ((v : Nat) : Int)) = decide (at_ cs r x ≤ v); simp)))) fun _ => rfl)
  | .nt q, n + 1, hw, hd => by
    have hd : dep q + 1 ≤ n + 1 := hd
    have ih := fulfils_ok h hr q n hw (by omega)
    refine run (F := F_fulfils) [some (namesD cs), some (.tup (nL r)), some (enc (.nt q)), none, none, none] rfl rfl ⟨rfl, by decide⟩ ?_
    refine en_asg (v_idx v_var v_cst rfl) (en_skip (v_cmp v_var v_cst (w_any_o _).1) (en_skip (v_cmp v_var (v_tup (s_cons v_cst (s_cons v_cst (s_cons v_cst s_nil)))) (w_in_o _).1) ?_))
    exact en_then (v_cmp v_var v_cst (w_not _).1) (en_ret (v_not (v_call (s_cons v_var (s_cons v_var (s_cons (v_idx v_var v_cst rfl) s_nil))) ih)) fun _ => rfl)
  | .an p q, n + 1, hw, hd => by
    have hd : max (dep p) (dep q) + 1 ≤ n + 1 := hd
    have i1 := fulfils_ok h hr p n hw.1 (by omega)
    have i2 := fulfils_ok h hr q n hw.2 (by omega)
    refine run (F := F_fulfils) [some (namesD cs), some (.tup (nL r)), some (enc (.an p q)), none, none, none] rfl rfl ⟨rfl, by decide⟩ ?_
    refine en_asg (v_idx v_var v_cst rfl) (en_skip (v_cmp v_var v_cst (w_any_o _).2.1) (en_skip (v_cmp v_var (v_tup (s_cons v_cst (s_cons v_cst (s_cons v_cst s_nil)))) (w_in_o _).2.1) ?_))
    refine en_skip (v_cmp v_var v_cst (w_not _).2.1) (en_asg (v_call (s_cons v_var (s_cons v_var (s_cons (v_idx v_var v_cst rfl) s_nil))) i1) (en_then (v_cmp v_var v_cst (w_and _).1) (en_ret (d := .bl (sem cs r p && sem cs r q)) ?_ fun _ => rfl)))
    cases e : sem cs r p with
    | true => exact v_andT v_var (v_call (s_cons v_var (s_cons v_var (s_cons (v_idx v_var v_cst rfl) s_nil))) i2)
    | false => exact v_andF v_var
  | .orr p q, n + 1, hw, hd => by
    have hd : max (dep p) (dep q) + 1 ≤ n + 1 := hd
    have i1 := fulfils_ok h hr p n hw.1 (by omega)
    have i2 := fulfils_ok h hr q n hw.2 (by omega)
    refine run (F := F_fulfils) [some (namesD cs), some (.tup (nL r)), some (enc (.orr p q)), none, none, none] rfl rfl ⟨rfl, by decide⟩ ?_
    refine en_asg (v_idx v_var v_cst rfl) (en_skip (v_cmp v_var v_cst (w_any_o _).2.2) (en_skip (v_cmp v_var (v_tup (s_cons v_cst (s_cons v_cst (s_cons v_cst s_nil)))) (w_in_o _).2.2) ?_))
    refine en_skip (v_cmp v_var v_cst (w_not _).2.2) (en_asg (v_call (s_cons v_var (s_cons v_var (s_cons (v_idx v_var v_cst rfl) s_nil))) i1) (en_skip (v_cmp v_var v_cst (w_and _).2) (en_ret (d := .bl (sem cs r p || sem cs r q)) ?_ fun _ => rfl)))
    cases e : sem cs r p with
    | true => exact v_orT v_var
    | false => exact v_orF v_var (v_call (s_cons v_var (s_cons v_var (s_cons (v_idx v_var v_cst rfl) s_nil))) i2)
end K23
end
section
set_option Elab.async false
set_option linter.all false
set_option maxRecDepth 100000
set_option maxHeartbeats 4000000
namespace K23
open BB
variable {cs : Cols}
theorem ok_enc {q : Q} {ρ : Env} {l : List Nat} {i : Nat} (hi : ρ[i]? = some (some (enc q))) (h : ∀ j ∈ l, j = i ∨ okLk ρ [j] = true) : okLk ρ l = true := List.all_eq_true.mpr fun j hj => by
  rcases h j hj with rfl | k
  · rw [hi]; cases q <;> rfl
  · exact List.all_eq_true.mp k j List.mem_cons_self
theorem nil_ne (cl : Cal) (h : Shape cs) {q : Q} (hw : wf cs q) (hd : dep q ≤ 60) : cmpR T cl .eq (enc q) (.tup []) = .ok (.bl false) := by
  show (eqR T cl (enc q) (.tup [])).bind _ = _
  unfold eqR
  rw [show plain (enc q) = true from pd_enc h q 60 hw hd]
  cases q <;> rfl
theorem deep_ne (cl : Cal) {k : Nat} (hk : 1 ≤ k) : cmpR T cl .eq (nI k) (.int 0) = .ok (.bl false) := by
  rw [c_eqI]
  have : ¬ (k : Int) = 0 := by omega
  simp; omega
theorem check_ok (h : Shape cs) : ∀ (q : Q) (deep n : Nat), wf cs q → dep q ≤ deep → deep ≤ 60 → dep q + 2 ≤ n → call T n f_check_question [colsD cs, enc q, nI deep] = .ok .non
  | .any, deep, n + 1, hw, hd, h6, hn => by
    refine run (F := F_check_question) [some (colsD cs), some (enc .any), some (nI deep), none, none] rfl rfl ⟨rfl, by decide⟩ ?_
    refine en_skip (v_orF (v_cmp v_var v_cst (deep_ne _ hd)) (v_orF (v_not (v_isi v_var)) (v_orF (v_cmp v_var (v_tup s_nil) (nil_ne _ h hw (Nat.le_trans hd h6))) (v_nt (v_isi (v_idx v_var v_cst rfl)))))) ?_
    exact en_asg (v_idx v_var v_cst rfl) (en_then (v_andT (v_cmp v_var v_cst (w_any _)) (v_cmp (v_bi (s_cons v_var s_nil) (bi_lenT _)) v_cst rfl)) (en_retN rfl))
  | .cm w x v, deep, n + 1, hw, hd, h6, hn => by
    have hw' := hw
    obtain ⟨s, hm, hv⟩ := hw'
    obtain ⟨k1, k2, k3, k4, k5, _⟩ := shape_item h hm
    refine run (F := F_check_question) [some (colsD cs), some (enc (.cm w x v)), some (nI deep), none, none] rfl rfl ⟨rfl, by decide⟩ ?_
    refine en_skip (v_orF (v_cmp v_var v_cst (deep_ne _ hd)) (v_orF (v_not (v_isi v_var)) (v_orF (v_cmp v_var (v_tup s_nil) (nil_ne _ h hw (Nat.le_trans hd h6))) (v_nt (v_isi (v_idx v_var v_cst rfl)))))) ?_
    refine en_asg (v_idx v_var v_cst rfl) (en_skip (v_andF (v_cmp v_var v_cst (w_any_cm _ w))) ?_)
    refine en_then (v_andT (v_cmp v_var (v_tup (s_cons v_cst (s_cons v_cst (s_cons v_cst s_nil)))) (w_in _ w)) (v_andT (v_cmp (v_bi (s_cons v_var s_nil) (bi_lenT _)) v_cst rfl) (v_isiT (v_idx v_var v_cst rfl)))) ?_
    refine en_then (v_andT (v_cmp (v_idx v_var v_cst rfl) v_var (isin_c k5).1) (v_call (s_cons (v_idx v_var v_cst rfl) (s_cons (v_idx v_var (v_idx v_var v_cst rfl) k4) s_nil)) ?_)) (en_retN rfl)
    obtain ⟨m, rfl⟩ : ∃ m, n = m + 2 := ⟨n - 2, by have : 1 + 2 ≤ n + 1 := hn; omega⟩
    rw [is_below_nat m v s, decide_eq_true hv]
  | .nt q, deep, n + 1, hw, hd, h6, hn => by
    have hd' : dep q + 1 ≤ deep := hd
    have hn' : dep q + 1 + 2 ≤ n + 1 := hn
    have ih := check_ok h q (deep - 1) n hw (by omega) (by omega) (by omega)
    refine run (F := F_check_question) [some (colsD cs), some (enc (.nt q)), some (nI deep), none, none] rfl rfl ⟨rfl, by decide⟩ ?_
    refine en_skip (v_orF (v_cmp v_var v_cst (deep_ne _ (by omega))) (v_orF (v_not (v_isi v_var)) (v_orF (v_cmp v_var (v_tup s_nil) (nil_ne _ h hw (Nat.le_trans hd h6))) (v_nt (v_isi (v_idx v_var v_cst rfl)))))) ?_
    refine en_asg (v_idx v_var v_cst rfl) (en_skip (v_andF (v_cmp v_var v_cst (w_any_o _).1)) ?_)
    refine en_else (v_andF (v_cmp v_var (v_tup (s_cons v_cst (s_cons v_cst (s_cons v_cst s_nil)))) (w_in_o _).1)) ?_
    refine en_then (v_orF (v_andF (v_cmp v_var (v_tup (s_cons v_cst (s_cons v_cst s_nil))) (w_andor _).2.2)) (v_andT (v_cmp v_var v_cst (w_not _).1) (v_cmp (v_bi (s_cons v_var s_nil) (bi_lenT _)) v_cst rfl))) ?_
    refine en_for (l := [enc q]) (fun ρ => ∃ p, ρ = [some (colsD cs), some (enc (.nt q)), some (nI deep), some (.str wNot), p]) rfl rfl rfl ⟨_, rfl⟩ (fun d hd2 ρ hρ => ?_) (fun ρ2 hρ => en_retN rfl)
    obtain ⟨p, rfl⟩ := hρ
    obtain rfl : d = enc q := List.mem_singleton.mp hd2
    refine ⟨[some (colsD cs), some (enc (.nt q)), some (nI deep), some (.str wNot), some (enc q)], [some (colsD cs), some (enc (.nt q)), some (nI deep), some (.str wNot), some (enc q)], rfl, x_expr (d := .non) (v_call (s_cons v_var (s_cons v_var (s_cons (v_bin v_var v_cst (op_subI _ _)) s_nil))) ?_) (ok_enc (i := 4) rfl ?_), _, rfl⟩
    · rw [show ((deep : Int) - 1) = ((deep - 1 : Nat) : Int) from by omega]
      exact ih
    · intro j hj
      have hj : j = 0 ∨ j = 4 := by simpa [lk, lks, lkB] using hj
      rcases hj with rfl | rfl
      · exact .inr rfl
      · exact .inl rfl
  | .an a b, deep, n + 1, hw, hd, h6, hn => by
    have hd' : max (dep a) (dep b) + 1 ≤ deep := hd
    have hn' : max (dep a) (dep b) + 1 + 2 ≤ n + 1 := hn
    have i1 := check_ok h a (deep - 1) n hw.1 (by omega) (by omega) (by omega)
    have i2 := check_ok h b (deep - 1) n hw.2 (by omega) (by omega) (by omega)
    refine run (F := F_check_question) [some (colsD cs), some (enc (.an a b)), some (nI deep), none, none] rfl rfl ⟨rfl, by decide⟩ ?_
    refine en_skip (v_orF (v_cmp v_var v_cst (deep_ne _ (by omega))) (v_orF (v_not (v_isi v_var)) (v_orF (v_cmp v_var (v_tup s_nil) (nil_ne _ h hw (Nat.le_trans hd h6))) (v_nt (v_isi (v_idx v_var v_cst rfl)))))) ?_
    refine en_asg (v_idx v_var v_cst rfl) (en_skip (v_andF (v_cmp v_var v_cst (w_any_o _).2.1)) ?_)
    refine en_else (v_andF (v_cmp v_var (v_tup (s_cons v_cst (s_cons v_cst (s_cons v_cst s_nil)))) (w_in_o _).2.1)) ?_
    refine en_then (v_orT (v_andT (v_cmp v_var (v_tup (s_cons v_cst (s_cons v_cst s_nil))) (w_andor _).1) (v_cmp (v_bi (s_cons v_var s_nil) (bi_lenT _)) v_cst rfl))) ?_
    refine en_for (l := [enc a, enc b]) (fun ρ => ∃ p, ρ = [some (colsD cs), some (enc (.an a b)), some (nI deep), some (.str wAnd), p]) rfl rfl rfl ⟨_, rfl⟩ (fun d hd2 ρ hρ => ?_) (fun ρ2 hρ => en_retN rfl)
    obtain ⟨p, rfl⟩ := hρ
    have hq : ∃ q, d = enc q ∧ call T n f_check_question [colsD cs, enc q, nI (deep - 1)] = .ok .non := by
      simp only [List.mem_cons, List.not_mem_nil, or_false] at hd2
      rcases hd2 with rfl | rfl
      · exact ⟨a, rfl, i1⟩
      · exact ⟨b, rfl, i2⟩
    obtain ⟨q, rfl, ih⟩ := hq
    refine ⟨[some (colsD cs), some (enc (.an a b)), some (nI deep), some (.str wAnd), some (enc q)], [some (colsD cs), some (enc (.an a b)), some (nI deep), some (.str wAnd), some (enc q)], rfl, x_expr (d := .non) (v_call (s_cons v_var (s_cons v_var (s_cons (v_bin v_var v_cst (op_subI _ _)) s_nil))) ?_) (ok_enc (i := 4) rfl ?_), _, rfl⟩
    · rw [show ((deep : Int) - 1) = ((deep - 1 : Nat) : Int) from by omega]
      exact ih
    · intro j hj
      have hj : j = 0 ∨ j = 4 := by simpa [lk, lks, lkB] using hj
      rcases hj with rfl | rfl
      · exact .inr rfl
      · exact .inl rfl
  | .orr a b, deep, n + 1, hw, hd, h6, hn => by
    have hd' : max (dep a) (dep b) + 1 ≤ deep := hd
    have hn' : max (dep a) (dep b) + 1 + 2 ≤ n + 1 := hn
    have i1 := check_ok h a (deep - 1) n hw.1 (by omega) (by omega) (by omega)
    have i2 := check_ok h b (deep - 1) n hw.2 (by omega) (by omega) (by omega)
    refine run (F := F_check_question) [some (colsD cs), some (enc (.orr a b)), some (nI deep), none, none] rfl rfl ⟨rfl, by decide⟩ ?_
    refine en_skip (v_orF (v_cmp v_var v_cst (deep_ne _ (by omega))) (v_orF (v_not (v_isi v_var)) (v_orF (v_cmp v_var (v_tup s_nil) (nil_ne _ h hw (Nat.le_trans hd h6))) (v_nt (v_isi (v_idx v_var v_cst rfl)))))) ?_
    refine en_asg (v_idx v_var v_cst rfl) (en_skip (v_andF (v_cmp v_var v_cst (w_any_o _).2.2)) ?_)
    refine en_else (v_andF (v_cmp v_var (v_tup (s_cons v_cst (s_cons v_cst (s_cons v_cst s_nil)))) (w_in_o _).2.2)) ?_
    refine en_then (v_orT (v_andT (v_cmp v_var (v_tup (s_cons v_cst (s_cons v_cst s_nil))) (w_andor _).2.1) (v_cmp (v_bi (s_cons v_var s_nil) (bi_lenT _)) v_cst rfl))) ?_
    refine en_for (l := [enc a, enc b]) (fun ρ => ∃ p, ρ = [some (colsD cs), some (enc (.orr a b)), some (nI deep), some (.str wOr), p]) rfl rfl rfl ⟨_, rfl⟩ (fun d hd2 ρ hρ => ?_) (fun ρ2 hρ => en_retN rfl)
    obtain ⟨p, rfl⟩ := hρ
    have hq : ∃ q, d = enc q ∧ call T n f_check_question [colsD cs, enc q, nI (deep - 1)] = .ok .non := by
      simp only [List.mem_cons, List.not_mem_nil, or_false] at hd2
      rcases hd2 with rfl | rfl
      · exact ⟨a, rfl, i1⟩
      · exact ⟨b, rfl, i2⟩
    obtain ⟨q, rfl, ih⟩ := hq
    refine ⟨[some (colsD cs), some (enc (.orr a b)), some (nI deep), some (.str wOr), some (enc q)], [some (colsD cs), some (enc (.orr a b)), some (nI deep), some (.str wOr), some (enc q)], rfl, x_expr (d := .non) (v_call (s_cons v_var (s_cons v_var (s_cons (v_bin v_var v_cst (op_subI _ _)) s_nil))) ?_) (ok_enc (i := 4) rfl ?_), _, rfl⟩
    · rw [show ((deep : Int) - 1) = ((deep - 1 : Nat) : Int) from by omega]
      exact ih
    · intro j hj
      have hj : j = 0 ∨ j = 4 := by simpa [lk, lks, lkB] using hj
      rcases hj with rfl | rfl
      · exact .inr rfl
      · exact .inl rfl
end K23
end
section
set_option Elab.async false
set_option linter.all false
set_option maxRecDepth 100000
set_option maxHeartbeats 4000000
namespace K23
open BB
variable {cs : Cols} {rows : List (List Nat)}
theorem v_list1 {T' : Tb} {cl : Cal} {mk : Mak} {a : E} {ρ : Env} {l : List D} (h : evI T' cl mk (.rng1 a) ρ = .ok l) (hl : l.length ≤ big) : ev T' cl mk (.bw .list (.rng1 a)) ρ = .ok (.lst l) := by
  show (if bwIt .list (.rng1 a) then (evI T' cl mk (.rng1 a) ρ).bind fun l => if l.length ≤ big then walkD .list l else .stuck else .stuck) = _
  rw [h]
  show (if l.length ≤ big then walkD .list l else .stuck) = _
  rw [if_pos hl]
  rfl
structure RowsOk (cs : Cols) (rows : List (List Nat)) : Prop where
  len : rows.length ≤ 64
  ok : ∀ r ∈ rows, RowOk cs r
def ansP (cs : Cols) (rows : List (List Nat)) (q : Q) (k : Nat) : Bool := match rows[k]? with
  | some r => sem cs r q
  | none => false
def inR (cs : Cols) (rows : List (List Nat)) (x : Str) (a b : Nat) (k : Nat) : Bool := match rows[k]? with
  | some r => decide (a ≤ at_ cs r x ∧ at_ cs r x < b)
  | none => false
theorem at_some (h : Shape cs) {r : List Nat} (hr : RowOk cs r) {x : Str} {s : Nat} (hm : (x, s) ∈ cs) : r[pos cs x]? = some (at_ cs r x) ∧ at_ cs r x < s := by
  obtain ⟨p1, p2, _⟩ := pos_ok h hm
  have hp : pos cs x < r.length := by rw [hr.1]; exact p1
  have e : r[pos cs x]? = some (at_ cs r x) := by unfold at_; rw [List.getElem?_eq_getElem hp]; rfl
  exact ⟨e, hr.2 _ _ _ e p2⟩
theorem hasV_at (h : Shape cs) (hR : RowsOk cs rows) {x : Str} {s v : Nat} (hm : (x, s) ∈ cs) {k : Nat} (hk : k < rows.length) : hasV rows (pos cs x) v k = decide (at_ cs (rows[k]) x = v) := by
  unfold hasV
  rw [List.getElem?_eq_getElem hk]
  show (rows[k][pos cs x]? == some v) = _
  rw [(at_some h (hR.ok _ (List.getElem_mem hk)) hm).1, Bool.eq_iff_iff]
  simp
abbrev loopS : Ss := (.cons (.for_ (.nm 7) (.rng2 (.var 4) (.bin .add (.var 5) (.cst (.int 1)))) (.cons (.asg 6 false (.meth (.var 6) n_either (.cons false (.meth (.var 0) n_bits (.cons false (.idx (.var 1) (.cst (.int 1))) (.cons false (.var 7) .nil))) .nil))) .nil)) (.cons (.ret (.var 6)) .nil))
theorem loop_ok (h : Shape cs) (hR : RowsOk cs rows) {x : Str} {s v : Nat} (w : W) (hm : (x, s) ∈ cs) (n a b : Nat) (last : Int) (hb : last + 1 = (b : Int)) (hab : a ≤ b) (hbs : b ≤ s) {P : Fl → Prop} (hP : ∀ ρ ω, P (.rt (bitsD rows.length (below rows.length (inR cs rows x a b))) ρ ω)) :
    Ends T (call T (n + 5)) (make T (n + 5)) loopS [some (tableD cs rows), some (enc (.cm w x v)), some (.str (wd w)), some (nI s), some (nI a), some (.int last), some (bitsD rows.length []), none, none, none] [] P := by
  have s4 := (shape_item h hm).2.2.1
  have hl := hR.len
  have e0 : below rows.length (inR cs rows x a a) = [] := by
    refine List.filter_eq_nil_iff.mpr fun k hk => ?_
    have hk := List.mem_range.mp hk
    unfold inR
    rw [List.getElem?_eq_getElem hk]
    simp
  refine en_forI (l := nL (List.range' a (b - a))) (fun j ρ => ∃ z, ρ = [some (tableD cs rows), some (enc (.cm w x v)), some (.str (wd w)), some (nI s), some (nI a), some (.int last), some (bitsD rows.length (below rows.length (inR cs rows x a (a + j)))), z, none, none]) rfl ?_ rfl ⟨none, by rw [Nat.add_zero, e0]⟩ (fun j d hj ρ hρ => ?_) (fun ρ2 hρ => ?_)
  · have := i_rng2 (T := T) (cl := call T (n + 5)) (mk := make T (n + 5)) (a := .var 4) (b := .bin .add (.var 5) (.cst (.int 1))) (i := (a : Int)) (j := (b : Int)) (ρ := [some (tableD cs rows), some (enc (.cm w x v)), some (.str (wd w)), some (nI s), some (nI a), some (.int last), some (bitsD rows.length []), none, none, none]) (v_var (i := 4)) (v_bin (v_var (i := 5)) v_cst (by rw [op_addI, hb])) (by unfold big; omega)
    rw [this, show ((b : Int) - (a : Int)).toNat = b - a from by omega, rng_nL]
  · obtain ⟨z, rfl⟩ := hρ
    rw [List.getElem?_map] at hj
    obtain ⟨y, hy, rfl⟩ := Option.map_eq_some_iff.mp hj
    obtain ⟨h1, h2⟩ := List.getElem?_eq_some_iff.mp hy
    rw [List.length_range'] at h1
    rw [List.getElem_range'] at h2
    have h2 : y = a + j := by omega
    subst h2
    refine ⟨_, _, rfl, x_asg (v_meth v_var (s_cons (v_meth v_var (s_cons (v_idx v_var v_cst rfl) (s_cons v_var s_nil)) (table_bits (n + 1) h rows hl hR.ok hm (by omega))) s_nil) (bits_either (n + 1) rows.length _ _ (by omega))), some (nI (a + j)), ?_⟩
    have e : (below rows.length fun k => inR cs rows x a (a + j) k || hasV rows (pos cs x) (a + j) k) = below rows.length (inR cs rows x a (a + (j + 1))) := below_congr fun k hk => by
      rw [hasV_at h hR hm hk]
      unfold inR
      rw [List.getElem?_eq_getElem hk]
      rw [Bool.eq_iff_iff]
      simp
      omega
    rw [e]
    rfl
  · obtain ⟨z, rfl⟩ := hρ
    rw [List.length_map, List.length_range', show a + (b - a) = b from by omega]
    exact en_ret v_var fun ω => hP _ ω
theorem answered_ok (h : Shape cs) (hR : RowsOk cs rows) : ∀ (q : Q) (n : Nat), wf cs q → dep q + 6 ≤ n → call T n f_answered [tableD cs rows, enc q] = .ok (bitsD rows.length (below rows.length (ansP cs rows q)))
  | .any, n + 1, _, hn => by
    have hl := hR.len
    obtain ⟨m, rfl⟩ : ∃ m, n = m + 3 := ⟨n - 3, by have : 1 + 6 ≤ n + 1 := hn; omega⟩
    refine run (F := F_answered) [some (tableD cs rows), some (enc .any), none, none, none, none, none, none, none, none] rfl rfl ⟨rfl, by decide⟩ ?_
    refine en_asg (v_idx v_var v_cst rfl) (en_then (v_cmp v_var v_cst (w_any _)) (en_ret (v_mk (s_cons (v_bi (s_cons (v_att v_var) s_nil) (bi_lenT _)) (s_cons (d := .lst (nL (List.range rows.length))) ?_ s_nil)) ?_) fun _ => rfl))
    · refine v_list1 ?_ (by rw [List.length_map, List.length_range]; unfold big; omega)
      have := i_rng1 (T := T) (cl := call T (m + 3)) (mk := make T (m + 3)) (a := .bi .len (.cons false (.att (.var 0) n_rows) .nil)) (ρ := [some (tableD cs rows), some (enc .any), some (.str wAny), none, none, none, none, none, none, none]) (i := (rows.length : Int)) (v_bi (s_cons (v_att v_var) s_nil) (by rw [bi_lenT, List.length_map])) (by unfold big; omega)
      rw [Int.toNat_natCast, rng0] at this
      exact this
    · rw [List.length_map]
      refine mk_bits' m rows.length _ _ (by omega) (fun x hx => List.mem_range.mp hx) (by rw [List.length_range]; unfold big; omega) fun x hx => ?_
      unfold ansP
      rw [List.getElem?_eq_getElem hx]
      simp [hx, sem]
  | .cm w x v, n + 1, hw, hn => by
    obtain ⟨s, hm, hv⟩ := hw
    obtain ⟨k1, k2, k3, k4, k5, _⟩ := shape_item h hm
    have hl := hR.len
    obtain ⟨m, rfl⟩ : ∃ m, n = m + 5 := ⟨n - 5, by have : 1 + 6 ≤ n + 1 := hn; omega⟩
    have fin : ∀ a b, (∀ c, c < s → (decide (a ≤ c ∧ c < b) = (match w with | .is => c == v | .fr => decide (v ≤ c) | .to => decide (c ≤ v)))) → below rows.length (inR cs rows x a b) = below rows.length (ansP cs rows (.cm w x v)) := fun a b hc => below_congr fun k hk => by
      unfold inR ansP
      rw [List.getElem?_eq_getElem hk]
      show decide _ = sem cs rows[k] (.cm w x v)
      rw [hc _ (at_some h (hR.ok _ (List.getElem_mem hk)) hm).2]
      cases w <;> rfl
    have mk0 : make T (m + 5) c_Bits [nI rows.length, .lst []] = .ok (bitsD rows.length []) := by
      have := mk_bits (m + 2) rows.length [] (by omega) (fun x hx => by cases hx) (Nat.zero_le _)
      rw [show (below rows.length fun x => decide (x ∈ [])) = [] from List.filter_eq_nil_iff.mpr fun k hk => by simp] at this
      exact this
    refine run (F := F_answered) [some (tableD cs rows), some (enc (.cm w x v)), none, none, none, none, none, none, none, none] rfl rfl ⟨rfl, by decide⟩ ?_
    refine en_asg (v_idx v_var v_cst rfl) (en_skip (v_cmp v_var v_cst (w_any_cm _ w)) ?_)
    refine en_then (v_cmp v_var (v_tup (s_cons v_cst (s_cons v_cst (s_cons v_cst s_nil)))) (w_in _ w)) ?_
    refine en_asg (v_idx (v_att v_var) (v_idx v_var v_cst rfl) k4) ?_
    cases w with
    | is =>
      refine en_asg (v_iteT (v_cmp v_var (v_tup (s_cons v_cst (s_cons v_cst s_nil))) (w_isfr _).1) (v_idx v_var v_cst rfl)) ?_
      refine en_asg (v_iteT (v_cmp v_var (v_tup (s_cons v_cst (s_cons v_cst s_nil))) (w_isto _).1) (v_idx v_var v_cst rfl)) ?_
      refine en_asg (v_mk (s_cons (v_bi (s_cons (v_att v_var) s_nil) (bi_lenT _)) (s_cons (v_lst s_nil) s_nil)) (by rw [List.length_map]; exact mk0)) ?_
      rw [← fin v (v + 1) fun c _ => by rw [Bool.eq_iff_iff]; simp; omega]
      exact loop_ok h hR .is hm m v (v + 1) v rfl (by omega) (by omega) fun _ _ => rfl
    | fr =>
      refine en_asg (v_iteT (v_cmp v_var (v_tup (s_cons v_cst (s_cons v_cst s_nil))) (w_isfr _).2.1) (v_idx v_var v_cst rfl)) ?_
      refine en_asg (v_iteF (v_cmp v_var (v_tup (s_cons v_cst (s_cons v_cst s_nil))) (w_isto _).2.1) (v_bin v_var v_cst (op_subI _ _))) ?_
      refine en_asg (v_mk (s_cons (v_bi (s_cons (v_att v_var) s_nil) (bi_lenT _)) (s_cons (v_lst s_nil) s_nil)) (by rw [List.length_map]; exact mk0)) ?_
      rw [← fin v s fun c hc => by rw [Bool.eq_iff_iff]; simp; omega]
      exact loop_ok h hR .fr hm m v s _ (by omega) (by omega) (by omega) fun _ _ => rfl
    | to =>
      refine en_asg (v_iteF (v_cmp v_var (v_tup (s_cons v_cst (s_cons v_cst s_nil))) (w_isfr _).2.2) v_cst) ?_
      refine en_asg (v_iteT (v_cmp v_var (v_tup (s_cons v_cst (s_cons v_cst s_nil))) (w_isto _).2.2) (v_idx v_var v_cst rfl)) ?_
      refine en_asg (v_mk (s_cons (v_bi (s_cons (v_att v_var) s_nil) (bi_lenT _)) (s_cons (v_lst s_nil) s_nil)) (by rw [List.length_map]; exact mk0)) ?_
      rw [← fin 0 (v + 1) fun c _ => by rw [Bool.eq_iff_iff]; simp; omega]
      exact loop_ok h hR .to hm m 0 (v + 1) v rfl (by omega) (by omega) fun _ _ => rfl
  | .nt q, n + 1, hw, hn => by
    have hl := hR.len
    have hn' : dep q + 1 + 6 ≤ n + 1 := hn
    have ih := answered_ok h hR q n hw (by omega)
    obtain ⟨m, rfl⟩ : ∃ m, n = m + 4 := ⟨n - 4, by omega⟩
    refine run (F := F_answered) [some (tableD cs rows), some (enc (.nt q)), none, none, none, none, none, none, none, none] rfl rfl ⟨rfl, by decide⟩ ?_
    refine en_asg (v_idx v_var v_cst rfl) (en_skip (v_cmp v_var v_cst (w_any_o _).1) (en_skip (v_cmp v_var (v_tup (s_cons v_cst (s_cons v_cst (s_cons v_cst s_nil)))) (w_in_o _).1) ?_))
    refine en_then (v_cmp v_var v_cst (w_not _).1) (en_ret (v_meth (v_call (s_cons v_var (s_cons (v_idx v_var v_cst rfl) s_nil)) ih) s_nil (bits_others m rows.length _ (by omega))) fun _ => ?_)
    show bitsD _ _ = bitsD _ _
    rw [below_congr (q := ansP cs rows (.nt q))]
    intro k hk
    unfold ansP
    rw [List.getElem?_eq_getElem hk]
    rfl
  | .an p q, n + 1, hw, hn => by
    have hl := hR.len
    have hn' : max (dep p) (dep q) + 1 + 6 ≤ n + 1 := hn
    have i1 := answered_ok h hR p n hw.1 (by omega)
    have i2 := answered_ok h hR q n hw.2 (by omega)
    obtain ⟨m, rfl⟩ : ∃ m, n = m + 4 := ⟨n - 4, by omega⟩
    refine run (F := F_answered) [some (tableD cs rows), some (enc (.an p q)), none, none, none, none, none, none, none, none] rfl rfl ⟨rfl, by decide⟩ ?_
    refine en_asg (v_idx v_var v_cst rfl) (en_skip (v_cmp v_var v_cst (w_any_o _).2.1) (en_skip (v_cmp v_var (v_tup (s_cons v_cst (s_cons v_cst (s_cons v_cst s_nil)))) (w_in_o _).2.1) ?_))
    refine en_skip (v_cmp v_var v_cst (w_not _).2.1) (en_par (s_cons (v_call (s_cons v_var (s_cons (v_idx v_var v_cst rfl) s_nil)) i1) (s_cons (v_call (s_cons v_var (s_cons (v_idx v_var v_cst rfl) s_nil)) i2) s_nil)) rfl ?_)
    refine en_ret (v_iteT (v_cmp v_var v_cst (w_and _).1) (v_meth v_var (s_cons v_var s_nil) (bits_both m rows.length _ _ (by omega)))) fun _ => ?_
    show bitsD _ _ = bitsD _ _
    rw [below_congr (q := ansP cs rows (.an p q))]
    intro k hk
    unfold ansP
    rw [List.getElem?_eq_getElem hk]
    rfl
  | .orr p q, n + 1, hw, hn => by
    have hl := hR.len
    have hn' : max (dep p) (dep q) + 1 + 6 ≤ n + 1 := hn
    have i1 := answered_ok h hR p n hw.1 (by omega)
    have i2 := answered_ok h hR q n hw.2 (by omega)
    obtain ⟨m, rfl⟩ : ∃ m, n = m + 4 := ⟨n - 4, by omega⟩
    refine run (F := F_answered) [some (tableD cs rows), some (enc (.orr p q)), none, none, none, none, none, none, none, none] rfl rfl ⟨rfl, by decide⟩ ?_
    refine en_asg (v_idx v_var v_cst rfl) (en_skip (v_cmp v_var v_cst (w_any_o _).2.2) (en_skip (v_cmp v_var (v_tup (s_cons v_cst (s_cons v_cst (s_cons v_cst s_nil)))) (w_in_o _).2.2) ?_))
    refine en_skip (v_cmp v_var v_cst (w_not _).2.2) (en_par (s_cons (v_call (s_cons v_var (s_cons (v_idx v_var v_cst rfl) s_nil)) i1) (s_cons (v_call (s_cons v_var (s_cons (v_idx v_var v_cst rfl) s_nil)) i2) s_nil)) rfl ?_)
    refine en_ret (v_iteF (v_cmp v_var v_cst (w_and _).2) (v_meth v_var (s_cons v_var s_nil) (bits_either m rows.length _ _ (by omega)))) fun _ => ?_
    show bitsD _ _ = bitsD _ _
    rw [below_congr (q := ansP cs rows (.orr p q))]
    intro k hk
    unfold ansP
    rw [List.getElem?_eq_getElem hk]
    rfl
theorem check2 (n : Nat) (c q : D) : call T n f_check_question [c, q] = call T n f_check_question [c, q, .int 8] := by cases n <;> rfl
theorem check_table_ok (n : Nat) : call T (n + 1) f_check_table [tableD cs rows] = .ok .non :=
  run (F := F_check_table) [some (tableD cs rows)] rfl rfl ⟨rfl, by decide⟩ (en_skip (v_nt (v_isi v_var)) (en_nil rfl))
theorem answer_ok (h : Shape cs) (hR : RowsOk cs rows) (q : Q) (n : Nat) (hw : wf cs q) (hd : dep q ≤ 8) (hn : 15 ≤ n) : call T n f_answer [tableD cs rows, enc q] = .ok (bitsD rows.length (below rows.length (ansP cs rows q))) := by
  obtain ⟨m, rfl⟩ : ∃ m, n = m + 15 := ⟨n - 15, by omega⟩
  refine run (F := F_answer) [some (tableD cs rows), some (enc q)] rfl rfl ⟨rfl, by decide⟩ ?_
  have ok : ∀ {l : List Nat}, (∀ j ∈ l, j = 1 ∨ j = 0) → okLk [some (tableD cs rows), some (enc q)] l = true := fun hl => ok_enc (i := 1) rfl fun j hj => by
    rcases hl j hj with rfl | rfl
    · exact .inl rfl
    · exact .inr rfl
  refine en_expr (d := .non) (v_call (s_cons v_var s_nil) (check_table_ok (m + 13))) (en_expr (d := .non) (v_call (s_cons (v_att v_var) (s_cons v_var s_nil)) ?_) (en_ret (v_call (s_cons v_var (s_cons v_var s_nil)) (answered_ok h hR q (m + 14) hw (by omega))) (fun _ => rfl) (ok ?_)) rfl (ok ?_))
  · rw [check2]
    exact check_ok h q 8 (m + 14) hw hd (by omega) (by omega)
  · intro j hj
    have hj : j = 0 ∨ j = 1 := by simpa [lk, lks, lkB] using hj
    exact hj.symm
  · intro j hj
    have hj : j = 1 := by simpa [lk, lks, lkB] using hj
    exact .inl hj
abbrev cnt (cs : Cols) (rows : List (List Nat)) (q : Q) : Nat := (below rows.length (ansP cs rows q)).length
theorem count_ok (h : Shape cs) (hR : RowsOk cs rows) (q : Q) (n : Nat) (hw : wf cs q) (hd : dep q ≤ 8) (hn : 16 ≤ n) : call T n f_count [tableD cs rows, enc q] = .ok (nI (cnt cs rows q)) := by
  obtain ⟨m, rfl⟩ : ∃ m, n = m + 16 := ⟨n - 16, by omega⟩
  refine run (F := F_count) [some (tableD cs rows), some (enc q)] rfl rfl ⟨rfl, by decide⟩ ?_
  refine en_ret (v_meth (v_call (s_cons v_var (s_cons v_var s_nil)) (answer_ok h hR q (m + 15) hw hd (by omega))) s_nil (bits_count (m + 14) rows.length _)) (fun _ => rfl) ?_
  refine ok_enc (i := 1) rfl fun j hj => ?_
  have hj : j = 0 ∨ j = 1 := by simpa [lk, lks, lkB] using hj
  rcases hj with rfl | rfl
  · exact .inr rfl
  · exact .inl rfl
end K23
end
section
set_option Elab.async false
set_option linter.all false
set_option maxRecDepth 100000
set_option maxHeartbeats 4000000
namespace K23
open BB
variable {cs : Cols} {rows : List (List Nat)}
def next (s : Nat) (R : List (List Nat)) : List (List Nat) := R.flatMap fun r => (List.range s).map fun v => r ++ [v]
theorem next_len (s : Nat) : ∀ R : List (List Nat), (next s R).length = R.length * s
  | [] => by simp [next]
  | r :: R => by
    have ih := next_len s R
    unfold next at ih ⊢
    rw [List.flatMap_cons, List.length_append, ih, List.length_map, List.length_range, List.length_cons, Nat.add_mul]
    omega
theorem next_mem {s : Nat} {R : List (List Nat)} {r : List Nat} (h : r ∈ next s R) : ∃ r0 ∈ R, ∃ v, v < s ∧ r = r0 ++ [v] := by
  obtain ⟨r0, h1, h2⟩ := List.mem_flatMap.mp h
  obtain ⟨v, hv, h3⟩ := List.mem_map.mp h2
  exact ⟨r0, h1, v, List.mem_range.mp hv, h3.symm⟩
def RowJ (cs : Cols) (j : Nat) (r : List Nat) : Prop := r.length = j ∧ ∀ (i a s : Nat), r[i]? = some a → (sizes cs)[i]? = some s → a < s
theorem next_D (s : Nat) : ∀ R : List (List Nat), (rowsD R).flatMap (fun d => (nL (List.range s)).map fun x => match d with | .tup l => .tup (l ++ [x]) | _ => .non) = rowsD (next s R)
  | [] => rfl
  | r :: R => by
    have ih := next_D s R
    unfold next at ih ⊢
    show (D.tup (nL r) :: rowsD R).flatMap _ = _
    rw [List.flatMap_cons, ih, List.flatMap_cons]
    show _ = rowsD ((List.range s).map (fun v => r ++ [v]) ++ _)
    unfold rowsD
    rw [List.map_append, List.map_map, List.map_map]
    congr 1
    refine List.map_congr_left fun v _ => ?_
    show D.tup (nL r ++ [nI v]) = D.tup (nL (r ++ [v]))
    rw [show nL (r ++ [v]) = nL r ++ nL [v] from List.map_append]
    rfl
theorem all_rows_ok (h : Shape cs) (n : Nat) : ∃ R : List (List Nat), call T (n + 5) f_all_rows [colsD cs] = .ok (.lst (rowsD R)) ∧ (∀ r ∈ R, RowOk cs r) ∧ R.length ≤ 64 := by
  have key : ∃ fl, exs T (call T (n + 4)) (make T (n + 4)) b_all_rows [some (colsD cs), none, none, none, none] [] = .ok fl ∧ ∃ (R : List (List Nat)) (ρ : Env) (ω : Own), fl = .rt (.lst (rowsD R)) ρ ω ∧ (∀ r ∈ R, RowOk cs r) ∧ R.length ≤ 64 := by
    refine (en_expr (v_mk (s_cons v_var (s_cons (v_lst s_nil) s_nil)) (mk_table n h [] (.lst []) (.inl rfl) (Nat.zero_le _) (fun r hr => by cases hr))) ?_ : Ends T (call T (n + 4)) (make T (n + 4)) b_all_rows [some (colsD cs), none, none, none, none] [] fun fl => ∃ (R : List (List Nat)) (ρ : Env) (ω : Own), fl = .rt (.lst (rowsD R)) ρ ω ∧ (∀ r ∈ R, RowOk cs r) ∧ R.length ≤ 64)
    refine en_asg (v_lst (s_cons (v_tup s_nil) s_nil)) ?_
    refine en_forI (l := cs.map fun p => D.str p.1) (fun j ρ => ∃ (R : List (List Nat)) (z : Option Str), ρ = [some (colsD cs), some (.lst (rowsD R)), z.map D.str, none, none] ∧ (∀ r ∈ R, RowJ cs j r) ∧ R.length ≤ 4 ^ j) rfl (i_val (v_sortC h v_var)) rfl ⟨[[]], none, rfl, fun r hr => by rw [List.mem_singleton.mp hr]; exact ⟨rfl, fun i a s e => by simp at e⟩, Nat.le_refl _⟩ (fun j d hj ρ hρ => ?_) (fun ρ2 hρ => ?_)
    · obtain ⟨R, z, rfl, hR, hl⟩ := hρ
      have hjl : j < cs.length := by
        have := (List.getElem?_eq_some_iff.mp hj).1
        rwa [List.length_map] at this
      obtain ⟨l1, l3⟩ := shape_len h
      rw [List.getElem?_map] at hj
      obtain ⟨⟨x, s⟩, hp, rfl⟩ := Option.map_eq_some_iff.mp hj
      obtain ⟨k1, k2, k3, k4, k5, _⟩ := shape_item h (List.mem_of_getElem? hp)
      have hb : (next s R).length ≤ 4 ^ (j + 1) := by
        rw [next_len, Nat.pow_succ]
        exact Nat.mul_le_mul hl k3
      have hb64 : 4 ^ (j + 1) ≤ 64 := by
        have : 4 ^ (j + 1) ≤ 4 ^ 3 := Nat.pow_le_pow_right (by omega) (by omega)
        exact this
      refine ⟨_, _, rfl, x_asg (d := .lst (rowsD (next s R))) ?_, next s R, some x, rfl, fun r hr => ?_, hb⟩
      · rw [← next_D]
        refine v_lc2 (l := rowsD R) (l2 := fun _ => nL (List.range s)) (g := fun d x => match d with | .tup l => .tup (l ++ [x]) | _ => .non) (i_val v_var) (fun d hd => ?_) ?_
        · obtain ⟨r, hr, rfl⟩ := List.mem_map.mp hd
          refine ⟨_, rfl, ?_, fun d2 hd2 => ⟨_, rfl, ?_⟩⟩
          · have := i_rng1 (T := T) (cl := call T (n + 4)) (mk := make T (n + 4)) (a := .idx (.var 0) (.var 2)) (ρ := [some (colsD cs), some (.lst (rowsD R)), some (.str x), some (.tup (nL r)), none]) (i := (s : Int)) (v_idx v_var v_var k4) (by unfold big; omega)
            rw [Int.toNat_natCast, rng0] at this
            exact this
          · refine v_tup (s_starT (m := nL r) v_var (s_cons v_var s_nil)) ?_
            have := (hR r hr).1
            rw [List.length_append, List.length_map, this]
            show j + 1 ≤ big
            unfold big; omega
        · rw [next_D, List.length_map]; unfold big; omega
      · obtain ⟨r0, h1, v, hv, rfl⟩ := next_mem hr
        obtain ⟨q1, q2⟩ := hR r0 h1
        refine ⟨by rw [List.length_append, q1]; rfl, fun i a s' e1 e2 => ?_⟩
        by_cases hi : i < r0.length
        · rw [List.getElem?_append_left hi] at e1
          exact q2 i a s' e1 e2
        · have hi2 : i = j := by
            have := (List.getElem?_eq_some_iff.mp e1).1
            rw [List.length_append] at this
            have : i < r0.length + 1 := this
            omega
          subst hi2
          rw [List.getElem?_append_right (by omega), q1, Nat.sub_self] at e1
          cases e1
          rw [List.getElem?_map, hp] at e2
          cases e2
          exact hv
    · obtain ⟨R, z, rfl, hR, hl⟩ := hρ
      rw [List.length_map] at hl
      have hR : ∀ r ∈ R, RowOk cs r := fun r hr => by have := hR r hr; rw [List.length_map] at this; exact this
      obtain ⟨l1, l3⟩ := shape_len h
      have : 4 ^ cs.length ≤ 4 ^ 3 := Nat.pow_le_pow_right (by omega) l3
      exact en_ret v_var fun ω => ⟨R, _, ω, rfl, hR, by omega⟩
  obtain ⟨fl, e, R, ρ, ω, rfl, h1, h2⟩ := key
  exact ⟨R, run (F := F_all_rows) [some (colsD cs), none, none, none, none] rfl rfl ⟨rfl, by decide⟩ ⟨_, e, rfl⟩, h1, h2⟩
abbrev sameD (k : Nat) : D := .ins c_Same [(n_many, nI k)]
theorem mk_same (n k : Nat) : make T (n + 1) c_Same [nI k] = .ok (sameD k) := rfl
theorem check_both_ok (h : Shape cs) (p q : Q) (n : Nat) (hp : wf cs p) (hq : wf cs q) (dp : dep p ≤ 8) (dq : dep q ≤ 8) (hn : 12 ≤ n) : call T n f_check_both [colsD cs, enc p, enc q] = .ok .non := by
  obtain ⟨m, rfl⟩ : ∃ m, n = m + 12 := ⟨n - 12, by omega⟩
  refine run (F := F_check_both) [some (colsD cs), some (enc p), some (enc q)] rfl rfl ⟨rfl, by decide⟩ ?_
  refine en_expr (v_mk (s_cons v_var (s_cons (v_lst s_nil) s_nil)) (mk_table (m + 7) h [] (.lst []) (.inl rfl) (Nat.zero_le _) (fun r hr => by cases hr))) ?_
  refine en_expr (d := .non) (v_call (s_cons v_var (s_cons v_var s_nil)) (by rw [check2]; exact check_ok h p 8 (m + 11) hp dp (by omega) (by omega))) (en_expr (d := .non) (v_call (s_cons v_var (s_cons v_var s_nil)) (by rw [check2]; exact check_ok h q 8 (m + 11) hq dq (by omega) (by omega))) (en_nil rfl) rfl ?_) rfl ?_
  · refine ok_enc (i := 2) rfl fun j hj => ?_
    have hj : j = 0 ∨ j = 2 := by simpa [lk, lks, lkB] using hj
    rcases hj with rfl | rfl
    · exact .inr rfl
    · exact .inl rfl
  · refine ok_enc (i := 1) rfl fun j hj => ?_
    have hj : j = 0 ∨ j = 1 := by simpa [lk, lks, lkB] using hj
    rcases hj with rfl | rfl
    · exact .inr rfl
    · exact .inl rfl
theorem ne_bl (cl : Cal) (b : Bool) : cmpR T cl .ne (.bl b) (.bl b) = .ok (.bl false) := by cases b <;> rfl
theorem judge_ok (h : Shape cs) (p q : Q) (n : Nat) (hp : wf cs p) (hq : wf cs q) (dp : dep p ≤ 8) (dq : dep q ≤ 8) (hn : 13 ≤ n) (hs : ∀ r : List Nat, RowOk cs r → sem cs r p = sem cs r q) : ∃ k, call T n f_judge_same [colsD cs, enc p, enc q] = .ok (sameD k) := by
  obtain ⟨m, rfl⟩ : ∃ m, n = m + 13 := ⟨n - 13, by omega⟩
  obtain ⟨R, hR, hlen, hl⟩ := all_rows_ok h (m + 7)
  have okq : ∀ {a b c : Option D} {l : List Nat}, (∀ j ∈ l, j = 0 ∨ j = 1 ∨ j = 2) → okLk [some (colsD cs), some (enc p), some (enc q), a, b, c] l = true := fun hl => List.all_eq_true.mpr fun j hj => by
    rcases hl j hj with rfl | rfl | rfl
    · rfl
    · cases p <;> rfl
    · cases q <;> rfl
  refine ⟨R.length, run (F := F_judge_same) [some (colsD cs), some (enc p), some (enc q), none, none, none] rfl rfl ⟨rfl, by decide⟩ ?_⟩
  refine en_expr (d := .non) (v_call (s_cons v_var (s_cons v_var (s_cons v_var s_nil))) (check_both_ok h p q (m + 12) hp hq dp dq (by omega))) ?_ rfl (okq (by intro j hj; simpa [lk, lks, lkB] using hj))
  refine en_par (s_cons (v_sortC h v_var) (s_cons (v_call (s_cons v_var s_nil) hR) s_nil)) rfl ?_
  refine en_for (l := rowsD R) (fun ρ => ∃ z : Option (List Nat), ρ = [some (colsD cs), some (enc p), some (enc q), some (namesD cs), some (.lst (rowsD R)), z.map fun r => .tup (nL r)]) rfl (i_val v_var) rfl ⟨none, rfl⟩ (fun d hd ρ hρ => ?_) (fun ρ2 hρ => ?_)
  · obtain ⟨z, rfl⟩ := hρ
    obtain ⟨r, hr, rfl⟩ := List.mem_map.mp hd
    have hrl := (hlen r hr).1
    refine ⟨_, [some (colsD cs), some (enc p), some (enc q), some (namesD cs), some (.lst (rowsD R)), some (.tup (nL r))], rfl, ?_, some r, rfl⟩
    have g : Ends T (call T (m + 12)) (make T (m + 12)) (.cons (.ite (.cmp .ne (.call f_fulfils (.cons false (.var 3) (.cons false (.var 5) (.cons false (.var 1) .nil)))) (.call f_fulfils (.cons false (.var 3) (.cons false (.var 5) (.cons false (.var 2) .nil))))) (.cons (.ret (.mk c_Parts (.cons false (.var 5) .nil))) .nil) .nil) .nil)
        [some (colsD cs), some (enc p), some (enc q), some (namesD cs), some (.lst (rowsD R)), some (.tup (nL r))] [] (fun fl => fl = .nx [some (colsD cs), some (enc p), some (enc q), some (namesD cs), some (.lst (rowsD R)), some (.tup (nL r))] []) := by
      refine en_skip (v_cmp (v_call (s_cons v_var (s_cons v_var (s_cons v_var s_nil))) (fulfils_ok h hrl p (m + 12) hp (by omega))) (v_call (s_cons v_var (s_cons v_var (s_cons v_var s_nil))) (fulfils_ok h hrl q (m + 12) hq (by omega))) (by rw [hs r (hlen r hr)]; exact ne_bl _ _)) (en_nil rfl) rfl ?_
      refine List.all_eq_true.mpr fun j hj => ?_
      have hj : j = 3 ∨ j = 5 ∨ j = 1 ∨ j = 2 := by
        have : j = 3 ∨ j = 5 ∨ j = 1 ∨ j = 3 ∨ j = 5 ∨ j = 2 := by simpa [lk, lks, lkB] using hj
        omega
      rcases hj with rfl | rfl | rfl | rfl
      · rfl
      · rfl
      · cases p <;> rfl
      · cases q <;> rfl
    obtain ⟨fl, g1, rfl⟩ := g
    exact g1
  · obtain ⟨z, rfl⟩ := hρ
    exact en_ret (v_mk (s_cons (v_bi (s_cons v_var s_nil) (bi_lenL _)) s_nil) (by rw [List.length_map]; exact mk_same (m + 11) R.length)) fun _ => rfl
theorem same_true (n k : Nat) : truR T (call T (n + 1)) (sameD k) = .ok true := rfl
end K23
end
section
set_option Elab.async false
set_option linter.all false
set_option maxRecDepth 100000
set_option maxHeartbeats 4000000
/-! The interpreter with draws. -/
namespace BB
abbrev R0 : Nat → Fs → Prop := fun _ _ => False
section
variable {T : Tb} {cl : Cal} {mk : Mak} {ρ : Env} {a b c e : E} {es : Es} {d x y : D} {r : Ss} {P : D → Prop} {PL : List D → Prop} {PF : Fl → Prop}
structure We (T : Tb) (cl : Cal) (mk : Mak) (e : E) (ρ : Env) (P : D → Prop) : Prop where intro ::
  h : (ev T cl mk e ρ).wp P R0
structure Ws (T : Tb) (cl : Cal) (mk : Mak) (es : Es) (ρ : Env) (P : List D → Prop) : Prop where intro ::
  h : (evs T cl mk es ρ).wp P R0
structure Wp (T : Tb) (cl : Cal) (mk : Mak) (s : Ss) (ρ : Env) (P : Fl → Prop) : Prop where intro ::
  h : (exs T cl mk s ρ []).wp P R0
theorem wb {α β : Type} {r : Res α} {f : α → Res β} {Q : β → Prop} (h : r.wp (fun a => (f a).wp Q R0) R0) : (r.bind f).wp Q R0 := Res.wp_bind.mpr h
theorem we_ok (h : ev T cl mk e ρ = .ok d) (p : P d) : We T cl mk e ρ P := ⟨by rw [h]; exact p⟩
theorem we_mono {Q : D → Prop} (h : We T cl mk e ρ Q) (k : ∀ d, Q d → P d) : We T cl mk e ρ P := ⟨Res.wp_mono k (fun _ _ z => z) h.h⟩
theorem we_take {j : Int} (ha : ev T cl mk a ρ = .ok .draw) (hn : ev T cl mk b ρ = .ok (.int j)) (hj : 0 < j) (p : ∀ i : Nat, i < j.toNat → P (.int (i : Int))) : We T cl mk (.take a b) ρ P := by
  constructor
  show ((ev T cl mk a ρ).bind _).wp P R0
  rw [ha, b_ok, hn, b_ok]
  show (if 0 < j then (.ask j.toNat fun i => .ok (.int i) : Res D) else .stuck).wp P R0
  rw [if_pos hj]
  exact ⟨by omega, p⟩
theorem we_bin {op : Bop} (h : We T cl mk a ρ fun x => We T cl mk b ρ fun y => (binop op x y).wp P R0) : We T cl mk (.bin op a b) ρ P := ⟨wb (Res.wp_mono (fun _ h => wb h.h) (fun _ _ z => z) h.h)⟩
theorem we_idx (h : We T cl mk a ρ fun x => We T cl mk b ρ fun y => (index x y).wp P R0) : We T cl mk (.idx a b) ρ P := ⟨wb (Res.wp_mono (fun _ h => wb h.h) (fun _ _ z => z) h.h)⟩
theorem we_tup (h : Ws T cl mk es ρ fun l => l.length ≤ big ∧ P (.tup l)) : We T cl mk (.tup es) ρ P := ⟨wb (Res.wp_mono (fun l h => by show (if l.length ≤ big then _ else _ : Res D).wp P R0; rw [if_pos h.1]; exact h.2) (fun _ _ z => z) h.h)⟩
theorem we_call {f : Nat} (h : Ws T cl mk es ρ fun l => (cl f l).wp P R0) : We T cl mk (.call f es) ρ P := ⟨wb h.h⟩
theorem we_mk {f : Nat} (h : Ws T cl mk es ρ fun l => (mk f l).wp P R0) : We T cl mk (.mk f es) ρ P := ⟨wb h.h⟩
theorem we_iteT (h1 : ev T cl mk c ρ = .ok (.bl true)) (k : We T cl mk a ρ P) : We T cl mk (.ite c a b) ρ P := by constructor; show ((ev T cl mk c ρ).bind _).wp P R0; rw [h1, b_ok, t_bl, b_ok, if_pos rfl]; exact k.h
theorem we_iteF (h1 : ev T cl mk c ρ = .ok (.bl false)) (k : We T cl mk b ρ P) : We T cl mk (.ite c a b) ρ P := by constructor; show ((ev T cl mk c ρ).bind _).wp P R0; rw [h1, b_ok, t_bl, b_ok, if_neg (by decide)]; exact k.h
theorem we_bw {bb : Bw} (h : We T cl mk a ρ fun x => ∃ l, bwD bb x = some l ∧ (walkD bb l).wp P R0) : We T cl mk (.bw bb (.val a)) ρ P := ⟨wb (Res.wp_mono (fun x ⟨l, h1, h2⟩ => by rw [h1]; exact h2) (fun _ _ z => z) h.h)⟩
theorem ws_nil (p : PL []) : Ws T cl mk .nil ρ PL := ⟨p⟩
theorem ws_cons (h : We T cl mk e ρ fun d => Ws T cl mk es ρ fun l => PL (d :: l)) : Ws T cl mk (.cons false e es) ρ PL := ⟨wb (Res.wp_mono (fun d h => by show ((starR false d).bind _).wp PL R0; rw [s_no, b_ok]; exact wb h.h) (fun _ _ z => z) h.h)⟩
theorem ws_ok {l : List D} (h : evs T cl mk es ρ = .ok l) (p : PL l) : Ws T cl mk es ρ PL := ⟨by rw [h]; exact p⟩
theorem wp_cons {s : S} (ok : okLk ρ (lkS s) = true) (h : (ex T cl mk s ρ []).wp (fun fl => match fl with | .nx ρ' ω' => ω' = [] ∧ Wp T cl mk r ρ' PF | fl => PF fl) R0) : Wp T cl mk (.cons s r) ρ PF := by
  constructor
  show (if okLk ρ (lkS s) then _ else _ : Res Fl).wp PF R0
  rw [if_pos ok]
  refine wb (Res.wp_mono (fun fl h => ?_) (fun _ _ z => z) h)
  cases fl with
  | nx ρ' ω' => obtain ⟨rfl, h⟩ := h; exact h.h
  | rt d ρ' ω' => exact h
  | bk ρ' ω' => exact h
  | ct ρ' ω' => exact h
theorem wp_asg {i : Nat} (h : We T cl mk e ρ fun d => Wp T cl mk r (ρ.set i (some d)) PF) (hi : i < ρ.length := by exact Nat.le_of_ble_eq_true rfl) (ok : okLk ρ (lk e) = true := by rfl) : Wp T cl mk (.cons (.asg i false e) r) ρ PF :=
  wp_cons ok (wb (Res.wp_mono (fun d h => by rw [if_pos hi]; exact ⟨rfl, h⟩) (fun _ _ z => z) h.h))
theorem wp_asgD {i : Nat} (h : ev T cl mk e ρ = .ok d) (k : Wp T cl mk r (ρ.set i (some d)) PF) (hi : i < ρ.length := by exact Nat.le_of_ble_eq_true rfl) (ok : okLk ρ (lk e) = true := by rfl) : Wp T cl mk (.cons (.asg i false e) r) ρ PF := wp_asg (we_ok h k) hi ok
theorem wp_ret (h : We T cl mk e ρ fun d => PF (.rt d ρ [])) (ok : okLk ρ (lk e) = true := by rfl) : Wp T cl mk (.cons (.ret e) r) ρ PF := wp_cons ok (wb (Res.wp_mono (fun d h => h) (fun _ _ z => z) h.h))
theorem wp_skip {aa : Ss} (h : ev T cl mk c ρ = .ok (.bl false)) (k : Wp T cl mk r ρ PF) (ok : okLk ρ (lkB c) = true := by rfl) : Wp T cl mk (.cons (.ite c aa .nil) r) ρ PF := by
  refine wp_cons ok ?_
  show ((ev T cl mk c ρ).bind _).wp _ R0
  rw [h, b_ok, t_bl, b_ok]
  exact ⟨rfl, k⟩
theorem wp_then {aa bb : Ss} (h : ev T cl mk c ρ = .ok (.bl true)) (k : Wp T cl mk aa ρ fun fl => match fl with | .nx ρ' ω' => ω' = [] ∧ Wp T cl mk r ρ' PF | fl => PF fl) (ok : okLk ρ (lkB c) = true := by rfl) : Wp T cl mk (.cons (.ite c aa bb) r) ρ PF := by
  refine wp_cons ok ?_
  show ((ev T cl mk c ρ).bind _).wp _ R0
  rw [h, b_ok, t_bl, b_ok]
  exact k.h
theorem wp_nil (p : PF (.nx ρ [])) : Wp T cl mk .nil ρ PF := ⟨p⟩
theorem wp_par {is : List (Nat × Bool)} (h : Ws T cl mk es ρ fun ds => ∃ ρ', setAll is ds ρ = some ρ' ∧ Wp T cl mk r ρ' PF) (hf : freshs is es = true := by rfl) (hω : ownOf is ++ minus [] (is.map (·.1) ++ lks es) = [] := by rfl) (ok : okLk ρ (lks es) = true := by rfl) : Wp T cl mk (.cons (.par is es) r) ρ PF :=
  wp_cons ok (wb (Res.wp_mono (fun ds ⟨ρ', h1, h2⟩ => by simp only [h1, hf, if_true]; exact ⟨hω, h2⟩) (fun _ _ z => z) h.h))
theorem wp_ends {s : Ss} (h : Ends T cl mk s ρ [] PF) : Wp T cl mk s ρ PF := by
  obtain ⟨fl, h1, h2⟩ := h
  constructor
  rw [h1]
  exact h2
theorem wp_for {p : Pat} {it : It} {body : Ss} {l : List D} (I : Env → Prop) (ok : okLk ρ (lkF it) = true) (e : evI T cl mk it ρ = .ok l) (i0 : I ρ)
    (h : ∀ d ∈ l, ∀ ρ, I ρ → ∃ ρ1 ρ2, p.bind d ρ = some ρ1 ∧ exs T cl mk body ρ1 (minus [] p.names) = .ok (.nx ρ2 []) ∧ I ρ2) (k : ∀ ρ2, I ρ2 → Wp T cl mk r ρ2 PF) : Wp T cl mk (.cons (.for_ p it body) r) ρ PF := by
  obtain ⟨ρ2, e2, i2⟩ := for_inv (ω := []) I e rfl i0 h
  refine wp_cons ok ?_
  rw [e2]
  exact ⟨rfl, k ρ2 i2⟩
/-! comprehensions that draw -/
def All2 (G : D → D → Prop) : List D → List D → Prop
  | [], [] => True
  | a :: l, b :: m => G a b ∧ All2 G l m
  | _, _ => False
theorem lcs_wp {G : D → D → Prop} {f : D → Res (List D)} : ∀ {l : List D}, (∀ d ∈ l, (f d).wp (fun x => ∃ y, x = [y] ∧ G d y) R0) → (lcs l f).wp (fun m => All2 G l m) R0
  | [], _ => trivial
  | d :: l, h => wb (Res.wp_mono (fun x ⟨y, hx, hy⟩ => wb (Res.wp_mono (fun m hm => by subst hx; exact ⟨hy, hm⟩) (fun _ _ z => z) (lcs_wp fun e he => h e (List.mem_cons_of_mem _ he)))) (fun _ _ z => z) (h d List.mem_cons_self))
theorem calm_wp {α : Type} {Q : α → Prop} : ∀ {r : Res α}, r.wp Q R0 → (calm r).wp Q R0
  | .ok a, h => h
  | .raise _ _, h => h.elim
  | .stuck, h => h
  | .ask n k, h => ⟨h.1, fun i hi => calm_wp (h.2 i hi)⟩
theorem all2_len {G : D → D → Prop} : ∀ {l m : List D}, All2 G l m → m.length = l.length
  | [], [], _ => rfl
  | [], _ :: _, h => h.elim
  | _ :: _, [], h => h.elim
  | a :: l, b :: m, h => by rw [List.length_cons, List.length_cons, all2_len h.2]
theorem we_lc {p : Pat} {it : It} {G : D → D → Prop} (h : (evI T cl mk it ρ).wp (fun l => l.length ≤ big ∧ (∀ d ∈ l, ∃ ρ', p.bind d (wipeE p.names ρ) = some ρ' ∧ We T cl mk e ρ' (G d)) ∧ ∀ m, All2 G l m → P (.lst m)) R0) : We T cl mk (.lc e p it .nil) ρ P := by
  constructor
  refine wb (Res.wp_mono (fun l ⟨hb, h1, h2⟩ => ?_) (fun _ _ z => z) h)
  refine wb (calm_wp (Res.wp_mono (fun m hm => ?_) (fun _ _ z => z) (lcs_wp (G := G) fun d hd => ?_)))
  · show (if m.length ≤ big then _ else _ : Res D).wp P R0
    rw [if_pos (by rw [all2_len hm]; exact hb)]
    exact h2 m hm
  · obtain ⟨ρ', e1, e2⟩ := h1 d hd
    rw [e1]
    show ((Res.ok true).bind _ : Res (List D)).wp _ R0
    rw [b_ok, if_pos rfl]
    exact wb (Res.wp_mono (fun x hx => ⟨x, rfl, hx⟩) (fun _ _ z => z) e2.h)
end
end BB
end
section
set_option Elab.async false
set_option linter.all false
set_option maxRecDepth 100000
set_option maxHeartbeats 4000000
namespace K23
open BB
variable {cs : Cols} {rows : List (List Nat)}
theorem ok_wp {α : Type} {a : α} {Q : α → Prop} (h : Q a) : (Res.ok a).wp Q R0 := h
def GivesP (P : D → Prop) : Fl → Prop
  | .rt x _ _ => P x
  | .nx _ _ => P .non
  | _ => False
theorem runW {n f : Nat} {as : List D} {F : Fn} {P : D → Prop} (ρ0 : Env) (h : T.fns[f]? = some F) (hs : begin_ F (F.fill as) = ρ0) (hl : (F.fill as).length = F.np ∧ F.np ≤ F.ns) (e : Wp T (call T n) (make T n) F.body ρ0 (GivesP P)) : (call T (n + 1) f as).wp P R0 := by
  show (match T.fns[f]? with | some F => callF T (callM T n).1 (callM T n).2 F as | none => .stuck).wp P R0
  rw [h]
  show (callF T (call T n) (make T n) F as).wp P R0
  subst hs
  unfold callF
  rw [if_pos hl]
  refine wb (Res.wp_mono (fun fl hd => ?_) (fun _ _ z => z) e.h)
  cases fl with
  | nx ρ ω => exact hd
  | rt x ρ ω => exact hd
  | bk ρ ω => exact hd.elim
  | ct ρ ω => exact hd.elim
theorem pick_wp (n : Nat) (l : List D) (hl : l ≠ []) {P : D → Prop} (h : ∀ d ∈ l, P d) : (call T (n + 1) f__law_pick [.draw, .lst l]).wp P R0 := by
  have hp := List.length_pos_iff.mpr hl
  refine runW (F := F__law_pick) [some .draw, some (.lst l)] rfl rfl ⟨rfl, by decide⟩ (wp_ret (we_idx (we_ok v_var (we_take (j := (l.length : Int)) v_var (v_bi (s_cons v_var s_nil) (bi_lenL _)) (by omega) fun i hi => ?_))))
  rw [ix_L]
  have hi : i < l.length := by rw [Int.toNat_natCast] at hi; exact hi
  have e : getI l (i : Int) = some l[i] := by
    unfold getI
    rw [if_pos (by omega), Int.toNat_natCast, List.getElem?_eq_getElem hi]
  rw [e]
  exact h _ (List.getElem_mem hi)
def colG (d x : D) : Prop := ∃ (j : Nat), x = .tup [d, nI j] ∧ 1 ≤ j ∧ j ≤ 4
theorem cols_wp (n : Nat) {P : D → Prop} (h : ∀ cs, Shape cs → P (colsD cs)) : (call T (n + 1) f__law_columns [.draw]).wp P R0 := by
  have fin : ∀ (l : List Str) (m : List D), (l = [sA] ∨ l = [sA, sB] ∨ l = [sA, sB, sC]) → All2 colG (l.map .str) m → (walkD .dict m).wp P R0 := by
    intro l m hl hm
    rcases hl with rfl | rfl | rfl
    · match m, hm with
      | [x], hm =>
        obtain ⟨⟨j, e1, h1, h2⟩, _⟩ := hm
        subst e1
        exact h [(sA, j)] (.inl ⟨j, rfl, h1, h2⟩)
    · match m, hm with
      | [x, y], hm =>
        obtain ⟨⟨j, e1, h1, h2⟩, ⟨k, e2, h3, h4⟩, _⟩ := hm
        subst e1 e2
        exact h [(sA, j), (sB, k)] (.inr (.inl ⟨j, k, rfl, ⟨h1, h2⟩, ⟨h3, h4⟩⟩))
    · match m, hm with
      | [x, y, z], hm =>
        obtain ⟨⟨j, e1, h1, h2⟩, ⟨k, e2, h3, h4⟩, ⟨i, e3, h5, h6⟩, _⟩ := hm
        subst e1 e2 e3
        exact h [(sA, j), (sB, k), (sC, i)] (.inr (.inr ⟨j, k, i, rfl, ⟨h1, h2⟩, ⟨h3, h4⟩, ⟨h5, h6⟩⟩))
  refine runW (F := F__law_columns) [some .draw, none] rfl rfl ⟨rfl, by decide⟩ (wp_ret (we_bw (we_lc (G := colG) ?_)))
  -- what is walked
  have hi : ∀ i : Nat, i < 3 → ∃ l : List Str, (l = [sA] ∨ l = [sA, sB] ∨ l = [sA, sB, sC]) ∧ sliceI (.lst [.str sA, .str sB, .str sC]) none (some (1 + (i : Int))) = .ok (.lst (l.map .str)) := fun i hi => by
    have : i = 0 ∨ i = 1 ∨ i = 2 := by omega
    rcases this with rfl | rfl | rfl
    · exact ⟨[sA], .inl rfl, rfl⟩
    · exact ⟨[sA, sB], .inr (.inl rfl), rfl⟩
    · exact ⟨[sA, sB, sC], .inr (.inr rfl), rfl⟩
  show ((ev T (call T n) (make T n) (.slc (.lst (.cons false (.cst (.str sA)) (.cons false (.cst (.str sB)) (.cons false (.cst (.str sC)) .nil)))) .none (.some (.bin .add (.cst (.int 1)) (.take (.var 0) (.cst (.int 3)))))) [some .draw, none]).bind _).wp _ R0
  refine wb ?_
  show ((ev T (call T n) (make T n) (.lst (.cons false (.cst (.str sA)) (.cons false (.cst (.str sB)) (.cons false (.cst (.str sC)) .nil)))) [some .draw, none]).bind _).wp _ R0
  rw [show ev T (call T n) (make T n) (.lst (.cons false (.cst (.str sA)) (.cons false (.cst (.str sB)) (.cons false (.cst (.str sC)) .nil)))) [some .draw, none] = .ok (.lst [.str sA, .str sB, .str sC]) from v_lst (s_cons v_cst (s_cons v_cst (s_cons v_cst s_nil))), b_ok]
  show ((Res.ok (none : Option Int)).bind _).wp _ R0
  rw [b_ok]
  show (((ev T (call T n) (make T n) (.bin .add (.cst (.int 1)) (.take (.var 0) (.cst (.int 3)))) [some .draw, none]).bind _).bind _).wp _ R0
  refine wb (wb ?_)
  have w0 : We T (call T n) (make T n) (.bin .add (.cst (.int 1)) (.take (.var 0) (.cst (.int 3)))) [some .draw, none] fun d => ∃ i : Nat, i < 3 ∧ d = .int (1 + (i : Int)) := we_bin (we_ok v_cst (we_take v_var v_cst (by decide) fun i hi => ⟨i, hi, rfl⟩))
  refine Res.wp_mono ?_ (fun _ _ z => z) w0.h
  rintro d ⟨i, hi3, rfl⟩
  show (if smallIx (1 + (i : Int)) then Res.ok (some (1 + (i : Int))) else .stuck).wp _ R0
  rw [if_pos (by unfold smallIx; exact decide_eq_true (by omega))]
  obtain ⟨l, hl, e⟩ := hi i hi3
  refine ok_wp ?_
  rw [e]
  refine ok_wp ?_
  have ll : l.length ≤ 3 := by rcases hl with rfl | rfl | rfl <;> exact Nat.le_of_ble_eq_true rfl
  show (l.map D.str).length ≤ big ∧ _ ∧ _
  refine ⟨by rw [List.length_map]; unfold big; omega, fun d hd => ⟨_, rfl, ?_⟩, fun m hm => ⟨m, rfl, fin l m hl hm⟩⟩
  refine we_tup (ws_cons (we_ok v_var (ws_cons (we_bin (we_ok v_cst (we_take v_var v_cst (by decide) fun j hj => ?_))))))
  have hj : j < 4 := hj
  rw [op_addI]
  exact ⟨Nat.le_of_ble_eq_true rfl, 1 + j, by show D.tup [d, .int (1 + (j : Int))] = D.tup [d, .int ((1 + j : Nat) : Int)]; rw [show (1 + (j : Int)) = ((1 + j : Nat) : Int) from by omega], by omega, by omega⟩
end K23
end
section
set_option Elab.async false
set_option linter.all false
set_option maxRecDepth 100000
set_option maxHeartbeats 4000000
namespace K23
open BB
variable {cs : Cols} {rows : List (List Nat)}
def cellG (cs : Cols) (d x : D) : Prop := ∃ s v : Nat, index (colsD cs) d = .ok (nI s) ∧ x = nI v ∧ v < s
theorem cells_row (h : Shape cs) : ∀ (c : Cols) (m : List D), (∀ p ∈ c, p ∈ cs) → All2 (cellG cs) (c.map fun p => D.str p.1) m → ∃ r : List Nat, m = nL r ∧ RowOk c r
  | [], [], _, _ => ⟨[], rfl, rfl, fun i a s e => by simp at e⟩
  | [], _ :: _, _, h2 => h2.elim
  | _ :: _, [], _, h2 => h2.elim
  | (x, s0) :: c, y :: m, hc, h2 => by
    obtain ⟨⟨s, v, e1, e2, e3⟩, h2⟩ := h2
    obtain ⟨r, e4, r1, r2⟩ := cells_row h c m (fun p hp => hc p (List.mem_cons_of_mem _ hp)) h2
    have e5 := (shape_item h (hc (x, s0) List.mem_cons_self)).2.2.2.1
    rw [e1] at e5
    have e6 : s = s0 := by
      have : nI s = nI s0 := by injection e5
      have : (s : Int) = s0 := by injection this
      omega
    subst e6 e2 e4
    refine ⟨v :: r, rfl, by rw [List.length_cons, List.length_cons, r1], fun i a s h3 h4 => ?_⟩
    cases i with
    | zero => cases h3; cases h4; exact e3
    | succ i => exact r2 i a s h3 h4
def rowG (cs : Cols) (d x : D) : Prop := ∃ r : List Nat, x = .tup (nL r) ∧ RowOk cs r
theorem rows_of : ∀ (l m : List D), All2 (rowG cs) l m → ∃ rows : List (List Nat), m = rowsD rows ∧ rows.length = l.length ∧ ∀ r ∈ rows, RowOk cs r
  | [], [], _ => ⟨[], rfl, rfl, fun r hr => by cases hr⟩
  | [], _ :: _, h2 => h2.elim
  | _ :: _, [], h2 => h2.elim
  | d :: l, y :: m, h2 => by
    obtain ⟨⟨r, e1, e2⟩, h2⟩ := h2
    obtain ⟨rs, e3, e4, e5⟩ := rows_of l m h2
    subst e1 e3
    refine ⟨r :: rs, rfl, by rw [List.length_cons, List.length_cons, e4], fun q hq => ?_⟩
    rcases List.mem_cons.mp hq with rfl | hq
    · exact e2
    · exact e5 q hq
theorem r_wp {α : Type} {r : Res α} {a : α} {Q : α → Prop} (e : r = .ok a) (q : Q a) : r.wp Q R0 := by rw [e]; exact q
theorem rows_wp (h : Shape cs) (n : Nat) {P : D → Prop} (hP : ∀ rows, RowsOk cs rows → P (.lst (rowsD rows))) : (call T (n + 1) f__law_rows [.draw, colsD cs, .int 12]).wp P R0 := by
  refine runW (F := F__law_rows) [some .draw, some (colsD cs), some (.int 12), none, none] rfl rfl ⟨rfl, by decide⟩ (wp_ret (we_lc (G := rowG cs) ?_))
  show ((ev T (call T n) (make T n) (.take (.var 0) (.var 2)) [some .draw, some (colsD cs), some (.int 12), none, none]).bind _).wp _ R0
  refine wb (We.h (we_take v_var v_var (by decide) fun i hi => ?_))
  have hi : i < 12 := hi
  show (if (i : Int) ≤ big ∧ -(big : Int) ≤ (i : Int) then Res.ok (rng 0 (i : Int).toNat) else .stuck).wp _ R0
  rw [if_pos (by unfold big; omega)]
  refine ok_wp ?_
  rw [Int.toNat_natCast, rng0]
  have hl : (nL (List.range i)).length = i := by rw [List.length_map, List.length_range]
  refine ⟨by rw [hl]; unfold big; omega, fun d hd => ⟨_, rfl, ?_⟩, fun m hm => ?_⟩
  · refine we_bw (we_lc (G := cellG cs) ?_)
    refine r_wp (i_val (v_sortC h v_var)) ⟨?_, fun e he => ⟨_, rfl, ?_⟩, fun m hm => ⟨m, rfl, ?_⟩⟩
    · rw [List.length_map]; have := (shape_len h).2; unfold big; omega
    · obtain ⟨⟨x, s⟩, hp, rfl⟩ := List.mem_map.mp he
      obtain ⟨_, s1, _, k4, _⟩ := shape_item h hp
      exact we_take v_var (v_idx v_var v_var k4) (by omega) fun j hj => ⟨s, j, k4, rfl, by rw [Int.toNat_natCast] at hj; exact hj⟩
    · obtain ⟨r, e1, e2⟩ := cells_row h cs m (fun p hp => hp) hm
      exact ⟨r, by rw [e1], e2⟩
  · obtain ⟨rs, e1, e2, e3⟩ := rows_of _ m hm
    subst e1
    exact hP rs ⟨by omega, e3⟩
theorem ques_wp (h : Shape cs) : ∀ (deep n : Nat) (P : D → Prop), deep + 2 ≤ n → (∀ q, wf cs q → dep q ≤ deep + 1 → P (enc q)) → (call T n f__law_question [.draw, colsD cs, nI deep]).wp P R0
  | deep, 0, _, hn, _ => by omega
  | deep, n + 1, P, hn, hP => by
    refine runW (F := F__law_question) [some .draw, some (colsD cs), some (nI deep), none, none] rfl rfl ⟨rfl, by decide⟩ (wp_asg (we_take v_var v_cst (by decide) fun i hi => ?_))
    have hi : i < 8 := hi
    have nme : cs.map (fun p => D.str p.1) ≠ [] := fun z => by
      have := (shape_len h).1
      have z2 := congrArg List.length z
      rw [List.length_map] at z2
      have : cs.length = 0 := z2
      omega
    obtain ⟨m, rfl⟩ : ∃ m, n = m + 1 := ⟨n - 1, by omega⟩
    by_cases c : deep = 0 ∨ i < 4
    · refine wp_then (c := .or (.cmp .eq (.var 2) (.cst (.int 0))) (.cmp .lt (.var 3) (.cst (.int 4)))) ?_ ?_
      · by_cases c0 : deep = 0
        · subst c0
          exact v_orT (v_cmp v_var v_cst rfl)
        · refine v_orF (v_cmp v_var v_cst (deep_ne _ (by omega))) (v_cmp v_var v_cst ?_)
          rw [c_ltI, decide_eq_true (by omega)]
      · refine wp_asg (we_call (ws_ok (s_cons v_var (s_cons (v_sortC h v_var) s_nil)) (pick_wp m _ nme fun d hd => ?_)))
        obtain ⟨⟨x, s⟩, hp, rfl⟩ := List.mem_map.mp hd
        obtain ⟨_, s1, _, k4, _⟩ := shape_item h hp
        refine wp_ret ?_
        by_cases c1 : 0 < i ∨ 0 < deep
        · refine we_iteT ?_ ?_
          · by_cases c2 : 0 < i
            · refine v_orT (x := .bl true) (v_cmp v_var v_cst ?_)
              rw [c_gtI, decide_eq_true (by omega)]
            · refine v_orF (x := .bl false) (v_cmp v_var v_cst ?_) (v_cmp v_var v_cst ?_)
              · rw [c_gtI, decide_eq_false (by omega)]
              · rw [c_gtI, decide_eq_true (by omega)]
          · refine we_tup (ws_cons (we_call (ws_ok (s_cons v_var (s_cons (v_lst (s_cons v_cst (s_cons v_cst (s_cons v_cst (s_cons v_cst s_nil))))) s_nil)) (pick_wp m _ (List.cons_ne_nil _ _) fun w hw => ?_))))
            have hw : ∃ w', w = .str (wd w') := by
              simp only [List.mem_cons, List.not_mem_nil, or_false] at hw
              rcases hw with rfl | rfl | rfl | rfl
              · exact ⟨.is, rfl⟩
              · exact ⟨.is, rfl⟩
              · exact ⟨.fr, rfl⟩
              · exact ⟨.to, rfl⟩
            obtain ⟨w', rfl⟩ := hw
            refine ws_cons (we_ok v_var (ws_cons (we_take v_var (v_idx v_var v_var k4) (by omega) fun v hv => ?_)))
            have hv : v < s := by rw [Int.toNat_natCast] at hv; exact hv
            exact ⟨Nat.le_of_ble_eq_true rfl, hP (.cm w' x v) ⟨s, hp, hv⟩ (by show 1 ≤ deep + 1; omega)⟩
        · refine we_iteF ?_ (we_ok (v_tup (s_cons v_cst s_nil)) (hP .any trivial (by show 1 ≤ deep + 1; omega)))
          refine v_orF (x := .bl false) (v_cmp v_var v_cst ?_) (v_cmp v_var v_cst ?_)
          · rw [c_gtI, decide_eq_false (by omega)]
          · rw [c_gtI, decide_eq_false (by omega)]
    · have hd : 1 ≤ deep := by omega
      have ed : ((deep : Int) - 1) = ((deep - 1 : Nat) : Int) := by omega
      have ih : ∀ (P' : D → Prop), (∀ q, wf cs q → dep q ≤ deep → P' (enc q)) → (call T (m + 1) f__law_question [.draw, colsD cs, .int ((deep : Int) - 1)]).wp P' R0 := fun P' hP' => by
        rw [ed]
        exact ques_wp h (deep - 1) (m + 1) P' (by omega) fun q h1 h2 => hP' q h1 (by omega)
      refine wp_skip ?_ ?_
      · refine v_orF (x := .bl false) (v_cmp v_var v_cst (deep_ne _ hd)) (v_cmp v_var v_cst ?_)
        rw [c_ltI, decide_eq_false (by omega)]
      by_cases c7 : i = 7
      · refine wp_then (v_cmp v_var v_cst (by rw [c_eqI, c7]; rfl)) (wp_ret (we_tup (ws_cons (we_ok v_cst (ws_cons (we_call (ws_ok (s_cons v_var (s_cons v_var (s_cons (v_bin v_var v_cst (op_subI _ _)) s_nil))) (ih _ fun q h1 h2 => ?_))))))))
        exact ⟨Nat.le_of_ble_eq_true rfl, hP (.nt q) h1 (by show dep q + 1 ≤ _; omega)⟩
      · have e7 : ((i : Int) == 7) = false := by
          have : ¬ (i : Int) = 7 := by omega
          simpa using this
        refine wp_skip (v_cmp v_var v_cst (by rw [c_eqI, e7])) (wp_ret (we_tup (ws_cons (we_call (ws_ok (s_cons v_var (s_cons (v_lst (s_cons v_cst (s_cons v_cst s_nil))) s_nil)) (pick_wp m _ (List.cons_ne_nil _ _) fun w hw => ?_))))))
        refine ws_cons (we_call (ws_ok (s_cons v_var (s_cons v_var (s_cons (v_bin v_var v_cst (op_subI _ _)) s_nil))) (ih _ fun q1 h1 h2 => ?_)))
        refine ws_cons (we_call (ws_ok (s_cons v_var (s_cons v_var (s_cons (v_bin v_var v_cst (op_subI _ _)) s_nil))) (ih _ fun q2 h3 h4 => ?_)))
        simp only [List.mem_cons, List.not_mem_nil, or_false] at hw
        rcases hw with rfl | rfl
        · exact ⟨Nat.le_of_ble_eq_true rfl, hP (.an q1 q2) ⟨h1, h3⟩ (by show max _ _ + 1 ≤ _; omega)⟩
        · exact ⟨Nat.le_of_ble_eq_true rfl, hP (.orr q1 q2) ⟨h1, h3⟩ (by show max _ _ + 1 ≤ _; omega)⟩
end K23
end
section
set_option Elab.async false
set_option linter.all false
set_option maxRecDepth 100000
set_option maxHeartbeats 4000000
namespace K23
open BB
variable {cs : Cols} {rows : List (List Nat)}
theorem ansP_at {q : Q} {k : Nat} (hk : k < rows.length) : ansP cs rows q k = sem cs (rows[k]) q := by unfold ansP; rw [List.getElem?_eq_getElem hk]
/-- counts go by rows -/
theorem len_rows (f : List Nat → Bool) : ∀ (rows pre : List (List Nat)), ((List.range' pre.length rows.length).filter fun k => match (pre ++ rows)[k]? with | some r => f r | none => false).length = (rows.filter f).length
  | [], pre => rfl
  | r :: rows, pre => by
    have ih := len_rows f rows (pre ++ [r])
    rw [List.length_append, List.append_assoc] at ih
    have ih : ((List.range' (pre.length + 1) rows.length).filter fun k => match (pre ++ r :: rows)[k]? with | some r => f r | none => false).length = (rows.filter f).length := ih
    rw [List.length_cons, List.range'_succ, List.filter_cons, List.filter_cons]
    have hv : (match (pre ++ r :: rows)[pre.length]? with | some r => f r | none => false) = f r := by
      rw [List.getElem?_append_right (Nat.le_refl _), Nat.sub_self]
      rfl
    rw [hv]
    cases f r with
    | true => simp only [if_true, List.length_cons, ih]
    | false => simp only [Bool.false_eq_true, if_false, ih]
theorem cnt_rows (q : Q) : cnt cs rows q = (rows.filter fun r => sem cs r q).length := by
  have := len_rows (fun r => sem cs r q) rows []
  rw [List.length_nil, List.nil_append, ← List.range_eq_range'] at this
  exact this
theorem fl_or (p q : List Nat → Bool) : ∀ l : List (List Nat), (l.filter fun r => p r || q r).length + (l.filter fun r => p r && q r).length = (l.filter p).length + (l.filter q).length
  | [] => rfl
  | r :: l => by
    have ih := fl_or p q l
    rw [List.filter_cons, List.filter_cons, List.filter_cons, List.filter_cons]
    cases p r <;> cases q r <;> simp <;> omega
theorem fl_not (p : List Nat → Bool) : ∀ l : List (List Nat), (l.filter fun r => !p r).length + (l.filter p).length = l.length
  | [] => rfl
  | r :: l => by
    have ih := fl_not p l
    rw [List.filter_cons, List.filter_cons]
    cases p r <;> simp <;> omega
theorem fl_three (p q s : List Nat → Bool) : ∀ l : List (List Nat), (l.filter fun r => p r || (q r || s r)).length + ((l.filter fun r => p r && q r).length + (l.filter fun r => p r && s r).length + (l.filter fun r => q r && s r).length) = (l.filter p).length + (l.filter q).length + (l.filter s).length + (l.filter fun r => p r && (q r && s r)).length
  | [] => rfl
  | r :: l => by
    have ih := fl_three p q s l
    simp only [List.filter_cons]
    cases p r <;> cases q r <;> cases s r <;> simp <;> omega
theorem sum_zero : ∀ l : List Nat, (∀ x ∈ l, x = 0) → l.sum = 0
  | [], _ => rfl
  | x :: l, h => by rw [List.sum_cons, h x List.mem_cons_self, sum_zero l fun y hy => h y (List.mem_cons_of_mem _ hy)]
theorem sum_add (f g : Nat → Nat) : ∀ l : List Nat, (l.map fun x => f x + g x).sum = (l.map f).sum + (l.map g).sum
  | [] => rfl
  | x :: l => by simp only [List.map_cons, List.sum_cons, sum_add f g l]; omega
theorem sum_one (a : Nat) : ∀ s : Nat, a < s → ((List.range s).map fun v => if a = v then 1 else 0).sum = 1
  | 0, h => by omega
  | s + 1, h => by
    rw [List.range_succ, List.map_append, List.sum_append]
    by_cases e : a = s
    · subst e
      have : ((List.range a).map fun v => if a = v then 1 else 0).sum = 0 := sum_zero _ fun x hx => by
        obtain ⟨v, hv, rfl⟩ := List.mem_map.mp hx
        have := List.mem_range.mp hv
        rw [if_neg (by omega)]
      rw [this]; simp
    · rw [sum_one a s (by omega)]; simp [e]
/-- the counts of all values of a column -/
theorem cnt_values (h : Shape cs) {x : Str} {s : Nat} (hm : (x, s) ∈ cs) : ∀ rows : List (List Nat), (∀ r ∈ rows, RowOk cs r) → ((List.range s).map fun v => (rows.filter fun r => sem cs r (.cm .is x v)).length).sum = rows.length
  | [], _ => sum_zero _ fun y hy => by obtain ⟨v, _, rfl⟩ := List.mem_map.mp hy; rfl
  | r :: rows, hr => by
    have ih := cnt_values h hm rows fun q hq => hr q (List.mem_cons_of_mem _ hq)
    have a := (at_some h (hr r List.mem_cons_self) hm).2
    have e : ((List.range s).map fun v => ((r :: rows).filter fun r => sem cs r (.cm .is x v)).length) = (List.range s).map fun v => (if at_ cs r x = v then 1 else 0) + (rows.filter fun r => sem cs r (.cm .is x v)).length := List.map_congr_left fun v _ => by
      rw [List.filter_cons]
      show (if (at_ cs r x == v) = true then _ else _ : List (List Nat)).length = _
      by_cases z : at_ cs r x = v
      · rw [if_pos (by simpa using z), if_pos z, List.length_cons]; omega
      · rw [if_neg (by simpa using z), if_neg z]; omega
    rw [e, sum_add, ih, sum_one _ s a, List.length_cons]
    omega
theorem cnt_split (q : Q) (k : Nat) : cnt cs (rows.take k) q + cnt cs (rows.drop k) q = cnt cs rows q := by
  rw [cnt_rows, cnt_rows, cnt_rows, ← List.length_append, ← List.filter_append, List.take_append_drop]
/-- the later rows, from k on -/
theorem rows_split (q : Q) {k : Nat} (hk : k ≤ rows.length) : (below (rows.drop k).length (ansP cs (rows.drop k) q)).map (· + k) = (below rows.length (ansP cs rows q)).filter fun x => decide (k ≤ x) := by
  refine asc_eq ?_ (List.Pairwise.filter _ (asc_below _ _)) fun x => ?_
  · exact List.Pairwise.map _ (fun a b hab => by omega) (asc_below _ _)
  · rw [List.mem_map, List.mem_filter, mem_below]
    constructor
    · rintro ⟨y, hy, rfl⟩
      obtain ⟨h1, h2⟩ := mem_below.mp hy
      rw [List.length_drop] at h1
      refine ⟨⟨by omega, ?_⟩, by simp⟩
      unfold ansP at h2 ⊢
      rw [List.getElem?_drop, Nat.add_comm] at h2
      exact h2
    · rintro ⟨⟨h1, h2⟩, h3⟩
      have h3 : k ≤ x := by simpa using h3
      refine ⟨x - k, mem_below.mpr ⟨by rw [List.length_drop]; omega, ?_⟩, by omega⟩
      unfold ansP at h2 ⊢
      rw [List.getElem?_drop, show k + (x - k) = x from by omega]
      exact h2
theorem rowsOk_take (hR : RowsOk cs rows) (k : Nat) : RowsOk cs (rows.take k) := ⟨by rw [List.length_take]; have := hR.len; omega, fun r hr => hR.ok r (List.mem_of_mem_take hr)⟩
theorem rowsOk_drop (hR : RowsOk cs rows) (k : Nat) : RowsOk cs (rows.drop k) := ⟨by rw [List.length_drop]; have := hR.len; omega, fun r hr => hR.ok r (List.mem_of_mem_drop hr)⟩
end K23
end
section
set_option Elab.async false
set_option linter.all false
set_option maxRecDepth 100000
set_option maxHeartbeats 4000000
namespace K23
open BB
variable {cs : Cols} {rows : List (List Nat)}
def PF (fl : Fl) : Prop := match fl with | .rt (.bl true) _ _ => True | _ => False
abbrev pairsD (L : List (Q × Q)) : List D := L.map fun p => .tup [enc p.1, enc p.2]
def Good (cs : Cols) (p : Q × Q) : Prop := wf cs p.1 ∧ wf cs p.2 ∧ dep p.1 ≤ 8 ∧ dep p.2 ≤ 8 ∧ ∀ r, RowOk cs r → sem cs r p.1 = sem cs r p.2
theorem ne_eq' (cl : Cal) {i j : Int} (h : i = j) : cmpR T cl .ne (.int i) (.int j) = .ok (.bl false) := by subst h; rw [c_neI]; simp
theorem eq_eq' (cl : Cal) {i j : Int} (h : i = j) : cmpR T cl .eq (.int i) (.int j) = .ok (.bl true) := by subst h; rw [c_eqI]; simp
/-- what the law calls, as told before -/
structure Sp (cl : Cal) (mk : Mak) : Prop where
  cnt : ∀ cs rows q, Shape cs → RowsOk cs rows → wf cs q → dep q ≤ 8 → cl f_count [tableD cs rows, enc q] = .ok (nI (K23.cnt cs rows q))
  ans : ∀ cs rows q, Shape cs → RowsOk cs rows → wf cs q → dep q ≤ 8 → cl f_answer [tableD cs rows, enc q] = .ok (bitsD rows.length (below rows.length (ansP cs rows q)))
  both : ∀ m p q, m ≤ 256 → cl f_Bits_both [bitsD m (below m p), bitsD m (below m q)] = .ok (bitsD m (below m fun x => p x && q x))
  eqb : ∀ m a b, cl f_Bits_eq [bitsD m a, bitsD m b] = .ok (.bl (decide (a = b)))
  tab : ∀ cs rows rd, Shape cs → (rd = .lst (rowsD rows) ∨ rd = .tup (rowsD rows)) → RowsOk cs rows → mk c_Table [colsD cs, rd] = .ok (tableD cs rows)
  judge : ∀ cs p q, Shape cs → wf cs p → wf cs q → dep p ≤ 8 → dep q ≤ 8 → (∀ r : List Nat, RowOk cs r → sem cs r p = sem cs r q) → ∃ k, cl f_judge_same [colsD cs, enc p, enc q] = .ok (sameD k)
  same : ∀ k, cl f_Same_bool [sameD k] = .ok (.bl true)
  pick : ∀ (l : List D) (P : D → Prop), l ≠ [] → (∀ d ∈ l, P d) → (cl f__law_pick [.draw, .lst l]).wp P R0
  cols : ∀ P : D → Prop, (∀ cs, Shape cs → P (colsD cs)) → (cl f__law_columns [.draw]).wp P R0
  rows : ∀ cs (P : D → Prop), Shape cs → (∀ rows, RowsOk cs rows → P (.lst (rowsD rows))) → (cl f__law_rows [.draw, colsD cs, .int 12]).wp P R0
  ques : ∀ cs (P : D → Prop), Shape cs → (∀ q, wf cs q → dep q ≤ 2 → P (enc q)) → (cl f__law_question [.draw, colsD cs, .int 1]).wp P R0
variable {cl : Cal} {mk : Mak}
theorem ne_bits (S : Sp cl mk) (m : Nat) (a : List Nat) : cmpR T cl .ne (bitsD m a) (bitsD m a) = .ok (.bl false) := by
  have : eqR T cl (bitsD m a) (bitsD m a) = .ok true := by
    unfold eqR
    rw [show (plain (bitsD m a) && plain (bitsD m a)) = false from rfl]
    show (match cl f_Bits_eq [bitsD m a, bitsD m a] with | .ok (.bl x) => Res.ok x | _ => .stuck) = _
    rw [S.eqb]
    simp
  show (eqR T cl (bitsD m a) (bitsD m a)).bind _ = _
  rw [this]; rfl
theorem sum_nL (l : List Nat) : walkD .sum (nL l) = .ok (nI l.sum) := by
  have e : ∀ l : List Nat, intsD (nL l) = some (l.map fun (n : Nat) => (n : Int)) := fun l => by
    induction l with
    | nil => rfl
    | cons x l ih => show (intsD (nL l)).map _ = _; rw [ih]; rfl
  have e2 : ∀ l : List Nat, (l.map fun (n : Nat) => (n : Int)).sum = ((l.sum : Nat) : Int) := fun l => by
    induction l with
    | nil => rfl
    | cons x l ih => rw [List.map_cons, List.sum_cons, ih, List.sum_cons]; omega
  show (match intsD (nL l) with | some ns => Res.ok (D.int ns.sum) | none => .stuck) = _
  rw [e]
  show Res.ok (D.int _) = _
  rw [e2]
theorem eq_nL (cl : Cal) {a b : List Nat} (h : a = b) : cmpR T cl .eq (.lst (nL a)) (.lst (nL b)) = .ok (.bl true) := by
  subst h
  show (eqR T cl (.lst (nL a)) (.lst (nL a))).bind _ = _
  unfold eqR
  rw [plain_nL]
  show Res.ok (D.bl (eqvs (nL a) (nL a))) = _
  rw [eqvs_nL]
  simp
theorem half (m : Nat) : Int.fdiv (m : Int) 2 = ((m / 2 : Nat) : Int) := by
  rw [Int.fdiv_eq_ediv_of_nonneg _ (by omega)]
  omega
abbrev lawE (cs : Cols) (o t u : Q) (L : List (Q × Q)) (x : Str) (v : Nat) (lf rg tb mn th du lt fs ls rw : Option D) : Env := [none, some .draw, some (colsD cs), some (enc o), some (enc t), some (enc u), some (.lst (pairsD L)), some (.str x), some (nI v), lf, rg, tb, mn, th, du, lt, fs, ls, rw]
section
variable {o t u : Q} {L : List (Q × Q)} {x : Str} {s v : Nat}
theorem v_cnt (S : Sp cl mk) (h : Shape cs) (hR : RowsOk cs rows) {ρ : Env} {e a : E} {q : Q} (ha : ev T cl mk a ρ = .ok (tableD cs rows)) (he : ev T cl mk e ρ = .ok (enc q)) (wq : wf cs q) (dq : dep q ≤ 8) :
    ev T cl mk (.call f_count (.cons false a (.cons false e .nil))) ρ = .ok (nI (cnt cs rows q)) := v_call (s_cons ha (s_cons he s_nil)) (S.cnt _ _ _ h hR wq dq)
theorem v_ans (S : Sp cl mk) (h : Shape cs) (hR : RowsOk cs rows) {ρ : Env} {e a : E} {q : Q} (ha : ev T cl mk a ρ = .ok (tableD cs rows)) (he : ev T cl mk e ρ = .ok (enc q)) (wq : wf cs q) (dq : dep q ≤ 8) :
    ev T cl mk (.call f_answer (.cons false a (.cons false e .nil))) ρ = .ok (bitsD rows.length (below rows.length (ansP cs rows q))) := v_call (s_cons ha (s_cons he s_nil)) (S.ans _ _ _ h hR wq dq)
theorem v_slcTo {ρ : Env} {a b : E} {l : List D} {k : Nat} (h1 : ev T cl mk a ρ = .ok (.tup l)) (h2 : ev T cl mk b ρ = .ok (nI k)) (hk : k ≤ l.length) (hs : k < 1000) : ev T cl mk (.slc a .none (.some b)) ρ = .ok (.tup (l.take k)) := by
  show (ev T cl mk a ρ).bind _ = _
  rw [h1, b_ok]
  show ((Res.ok (none : Option Int)).bind _) = _
  rw [b_ok]
  show ((ev T cl mk b ρ).bind _).bind _ = _
  rw [h2, b_ok]
  show ((if smallIx ((k : Nat) : Int) then Res.ok (some ((k : Nat) : Int)) else .stuck).bind _) = _
  rw [if_pos (by unfold smallIx; exact decide_eq_true (by omega)), b_ok]
  show Res.ok (D.tup ((l.take (clampI l.length ((k : Nat) : Int))).drop 0)) = _
  unfold clampI
  rw [if_neg (by omega), Int.toNat_natCast, Nat.min_eq_left hk, List.drop_zero]
theorem v_slcFrom {ρ : Env} {a b : E} {l : List D} {k : Nat} (h1 : ev T cl mk a ρ = .ok (.tup l)) (h2 : ev T cl mk b ρ = .ok (nI k)) (hk : k ≤ l.length) (hs : k < 1000) : ev T cl mk (.slc a (.some b) .none) ρ = .ok (.tup (l.drop k)) := by
  show (ev T cl mk a ρ).bind _ = _
  rw [h1, b_ok]
  show ((ev T cl mk b ρ).bind _).bind _ = _
  rw [h2, b_ok]
  show ((if smallIx ((k : Nat) : Int) then Res.ok (some ((k : Nat) : Int)) else .stuck).bind _) = _
  rw [if_pos (by unfold smallIx; exact decide_eq_true (by omega)), b_ok]
  show ((Res.ok (none : Option Int)).bind _) = _
  rw [b_ok]
  show Res.ok (D.tup ((l.take l.length).drop (clampI l.length ((k : Nat) : Int)))) = _
  unfold clampI
  rw [if_neg (by omega), Int.toNat_natCast, Nat.min_eq_left hk, List.take_length]
theorem v_half {ρ : Env} {a : E} {m : Nat} (h : ev T cl mk a ρ = .ok (nI m)) : ev T cl mk (.bin .fdiv a (.cst (.int 2))) ρ = .ok (nI (m / 2)) := v_bin h v_cst (by rw [op_fdivI, if_pos (by decide), half])
/-- from the counts on -/
theorem counts_ok (S : Sp cl mk) (h : Shape cs) (hR : RowsOk cs rows) (wo : wf cs o) (wt : wf cs t) (wu : wf cs u) (d1 : dep o ≤ 2) (d2 : dep t ≤ 2) (d3 : dep u ≤ 2) (hm : (x, s) ∈ cs) (lf rg : Option D) :
    Wp T cl mk b_law_13 (lawE cs o t u L x v lf rg (some (tableD cs rows)) (some (nI rows.length)) none none none none none none) PF := by
  have hl := hR.len
  obtain ⟨_, s1, s4, k4, _⟩ := shape_item h hm
  have c_or : cnt cs rows (.orr o t) + cnt cs rows (.an o t) = cnt cs rows o + cnt cs rows t := by
    rw [cnt_rows, cnt_rows, cnt_rows, cnt_rows]; exact fl_or _ _ _
  have c_not : cnt cs rows (.nt o) + cnt cs rows o = rows.length := by
    rw [cnt_rows, cnt_rows]; exact fl_not _ _
  have c_three : cnt cs rows (.orr o (.orr t u)) + (cnt cs rows (.an o t) + cnt cs rows (.an o u) + cnt cs rows (.an t u)) = cnt cs rows o + cnt cs rows t + cnt cs rows u + cnt cs rows (.an o (.an t u)) := by
    rw [cnt_rows, cnt_rows, cnt_rows, cnt_rows, cnt_rows, cnt_rows, cnt_rows, cnt_rows]; exact fl_three _ _ _ _
  have dan : ∀ {p q : Q} {a b : Nat}, dep p ≤ a → dep q ≤ b → dep (.an p q) ≤ max a b + 1 := fun h1 h2 => by show max _ _ + 1 ≤ _; omega
  have dor : ∀ {p q : Q} {a b : Nat}, dep p ≤ a → dep q ≤ b → dep (.orr p q) ≤ max a b + 1 := fun h1 h2 => by show max _ _ + 1 ≤ _; omega
  refine wp_skip ?_ ?_
  · refine v_orF (x := .bl false) (v_cmp (v_bin (x := nI (cnt cs rows (.orr o t))) (y := nI (cnt cs rows (.an o t))) ?_ ?_ (op_addI _ _)) (v_bin (x := nI (cnt cs rows o)) (y := nI (cnt cs rows t)) ?_ ?_ (op_addI _ _)) (ne_eq' _ (by omega))) (v_cmp (x := nI (cnt cs rows (.nt o))) ?_ (v_bin (x := nI rows.length) (y := nI (cnt cs rows o)) ?_ ?_ (op_subI _ _)) (ne_eq' _ (by omega)))
    · exact v_cnt S h hR v_var rfl ⟨wo, wt⟩ (Nat.le_trans (dor d1 d2) (by omega))
    · exact v_cnt S h hR v_var rfl ⟨wo, wt⟩ (Nat.le_trans (dan d1 d2) (by omega))
    · exact v_cnt S h hR v_var v_var wo (by omega)
    · exact v_cnt S h hR v_var v_var wt (by omega)
    · exact v_cnt S h hR v_var rfl wo (by show dep o + 1 ≤ 8; omega)
    · exact v_var
    · exact v_cnt S h hR v_var v_var wo (by omega)
  refine wp_asgD (d := enc (.orr o (.orr t u))) rfl ?_
  refine wp_asgD (d := .int ((cnt cs rows o + cnt cs rows t + cnt cs rows u : Nat) - (cnt cs rows (.an o t) : Nat) - (cnt cs rows (.an o u) : Nat) - (cnt cs rows (.an t u) : Nat))) ?_ ?_
  · refine v_bin (x := .int ((cnt cs rows o + cnt cs rows t + cnt cs rows u : Nat) - (cnt cs rows (.an o t) : Nat) - (cnt cs rows (.an o u) : Nat))) (y := nI (cnt cs rows (.an t u))) (v_bin (x := .int ((cnt cs rows o + cnt cs rows t + cnt cs rows u : Nat) - (cnt cs rows (.an o t) : Nat))) (y := nI (cnt cs rows (.an o u))) (v_bin (x := nI (cnt cs rows o + cnt cs rows t + cnt cs rows u)) (y := nI (cnt cs rows (.an o t))) (v_bin (x := nI (cnt cs rows o + cnt cs rows t)) (y := nI (cnt cs rows u)) (v_bin (x := nI (cnt cs rows o)) (y := nI (cnt cs rows t)) ?_ ?_ ?_) ?_ ?_) ?_ (op_subI _ _)) ?_ (op_subI _ _)) ?_ (op_subI _ _)
    · exact v_cnt S h hR v_var v_var wo (by omega)
    · exact v_cnt S h hR v_var v_var wt (by omega)
    · rw [op_addI]; exact congrArg (fun i => Res.ok (D.int i)) (by omega)
    · exact v_cnt S h hR v_var v_var wu (by omega)
    · rw [op_addI]; exact congrArg (fun i => Res.ok (D.int i)) (by omega)
    · exact v_cnt S h hR v_var rfl ⟨wo, wt⟩ (Nat.le_trans (dan d1 d2) (by omega))
    · exact v_cnt S h hR v_var rfl ⟨wo, wu⟩ (Nat.le_trans (dan d1 d3) (by omega))
    · exact v_cnt S h hR v_var rfl ⟨wt, wu⟩ (Nat.le_trans (dan d2 d3) (by omega))
  refine wp_skip ?_ ?_
  · refine v_cmp (x := nI (cnt cs rows (.orr o (.orr t u)))) ?_ (v_bin (x := .int ((cnt cs rows o + cnt cs rows t + cnt cs rows u : Nat) - (cnt cs rows (.an o t) : Nat) - (cnt cs rows (.an o u) : Nat) - (cnt cs rows (.an t u) : Nat))) (y := nI (cnt cs rows (.an o (.an t u)))) ?_ ?_ (op_addI _ _)) (ne_eq' _ (by omega))
    · exact v_cnt S h hR v_var v_var ⟨wo, wt, wu⟩ (Nat.le_trans (dor d1 (dor d2 d3)) (by omega))
    · exact v_var
    · exact v_cnt S h hR v_var rfl ⟨wo, wt, wu⟩ (Nat.le_trans (dan d1 (dan d2 d3)) (by omega))
  refine wp_skip ?_ ?_
  · have both : below rows.length (fun k => ansP cs rows o k && ansP cs rows t k) = below rows.length (ansP cs rows (.an o t)) := below_congr fun k hk => by
      rw [ansP_at hk, ansP_at hk, ansP_at hk]; rfl
    refine v_orF (x := .bl false) (v_cmp (x := nI rows.length) ?_ v_var (ne_eq' _ rfl)) (v_cmp (x := bitsD rows.length (below rows.length (ansP cs rows (.an o t)))) (y := bitsD rows.length (below rows.length (ansP cs rows (.an o t)))) ?_ ?_ (ne_bits S _ _))
    · have e := cnt_values h hm rows hR.ok
      have e2 : (nL (List.range s)).flatMap (fun d => match d with | .int i => [nI (cnt cs rows (.cm .is x i.toNat))] | _ => []) = nL ((List.range s).map fun v => cnt cs rows (.cm .is x v)) := by
        clear e s1 s4 k4 hm
        induction (List.range s) with
        | nil => rfl
        | cons y l ih =>
          show (nI y :: nL l).flatMap _ = _
          rw [List.flatMap_cons, ih]
          rfl
      refine v_bw (x := .lst (nL ((List.range s).map fun v => cnt cs rows (.cm .is x v)))) ?_ rfl ?_
      · rw [← e2]
        refine v_lc (l := nL (List.range s)) ?_ (fun d hd => ?_) ?_
        · have := i_rng1 (T := T) (cl := cl) (mk := mk) (a := .idx (.var 2) (.var 7)) (ρ := lawE cs o t u L x v lf rg (some (tableD cs rows)) (some (nI rows.length)) (some (enc (.orr o (.orr t u)))) (some (.int ((cnt cs rows o + cnt cs rows t + cnt cs rows u : Nat) - (cnt cs rows (.an o t) : Nat) - (cnt cs rows (.an o u) : Nat) - (cnt cs rows (.an t u) : Nat)))) none none none none) (i := (s : Int)) (v_idx v_var v_var k4) (by unfold big; omega)
          rw [Int.toNat_natCast, rng0] at this
          exact this
        · obtain ⟨y, hy, rfl⟩ := List.mem_map.mp hd
          have hy := List.mem_range.mp hy
          refine ⟨_, rfl, lc_one rfl ?_⟩
          rw [Int.toNat_natCast]
          exact v_cnt S h hR v_var rfl ⟨s, hm, hy⟩ (by show 1 ≤ 8; omega)
        · rw [e2, List.length_map, List.length_map, List.length_range]; unfold big; omega
      · rw [sum_nL]
        have e3 : ((List.range s).map fun v => cnt cs rows (.cm .is x v)) = (List.range s).map fun v => (rows.filter fun r => sem cs r (.cm .is x v)).length := List.map_congr_left fun v _ => cnt_rows _
        rw [e3, e]
    · exact v_ans S h hR v_var rfl ⟨wo, wt⟩ (Nat.le_trans (dan d1 d2) (by omega))
    · refine v_meth (x := bitsD rows.length (below rows.length (ansP cs rows o))) ?_ (s_cons (d := bitsD rows.length (below rows.length (ansP cs rows t))) ?_ s_nil) ?_
      · exact v_ans S h hR v_var v_var wo (by omega)
      · exact v_ans S h hR v_var v_var wt (by omega)
      · rw [← both]; exact S.both rows.length _ _ (by omega)
  have hk : rows.length / 2 ≤ rows.length := Nat.div_le_self _ _
  refine wp_par (ws_ok (s_cons (d := tableD cs (rows.take (rows.length / 2))) ?_ (s_cons (d := tableD cs (rows.drop (rows.length / 2))) ?_ s_nil)) ⟨_, rfl, ?_⟩)
  · refine v_mk (s_cons v_var (s_cons (d := .tup (rowsD (rows.take (rows.length / 2)))) ?_ s_nil)) (S.tab _ _ _ h (.inr rfl) (rowsOk_take hR _))
    rw [show rowsD (rows.take (rows.length / 2)) = (rowsD rows).take (rows.length / 2) from List.map_take]
    refine v_slcTo (v_att (c := c_Table) v_var) (v_half v_var) (by rw [List.length_map]; exact hk) (by omega)
  · refine v_mk (s_cons v_var (s_cons (d := .tup (rowsD (rows.drop (rows.length / 2)))) ?_ s_nil)) (S.tab _ _ _ h (.inr rfl) (rowsOk_drop hR _))
    rw [show rowsD (rows.drop (rows.length / 2)) = (rowsD rows).drop (rows.length / 2) from List.map_drop]
    refine v_slcFrom (v_att (c := c_Table) v_var) (v_half v_var) (by rw [List.length_map]; exact hk) (by omega)
  refine wp_ret (we_ok (d := .bl true) ?_ trivial)
  have hT := rowsOk_take hR (rows.length / 2)
  have hD := rowsOk_drop hR (rows.length / 2)
  refine v_andT (x := .bl true) (v_cmp (x := .int ((cnt cs (rows.take (rows.length / 2)) o : Nat) + (cnt cs (rows.drop (rows.length / 2)) o : Nat))) (y := nI (cnt cs rows o)) (v_bin (x := nI (cnt cs (rows.take (rows.length / 2)) o)) (y := nI (cnt cs (rows.drop (rows.length / 2)) o)) ?_ ?_ (op_addI _ _)) ?_ (eq_eq' _ (by have := cnt_split (cs := cs) (rows := rows) o (rows.length / 2); omega))) ?_
  · exact v_cnt S h hT v_var v_var wo (by omega)
  · exact v_cnt S h hD v_var v_var wo (by omega)
  · exact v_cnt S h hR v_var v_var wo (by omega)
  refine v_cmp (x := .lst (nL ((below (rows.drop (rows.length / 2)).length (ansP cs (rows.drop (rows.length / 2)) o)).map (· + rows.length / 2)))) (y := .lst (nL ((below rows.length (ansP cs rows o)).filter fun x => decide (rows.length / 2 ≤ x)))) ?_ ?_ (eq_nL _ (rows_split o hk))
  · have e2 : ∀ l : List Nat, (nL l).flatMap (fun d => match d with | .int i => [.int (i + ((rows.length / 2 : Nat) : Int))] | _ => []) = nL (l.map (· + rows.length / 2)) := fun l => by
      induction l with
      | nil => rfl
      | cons y l ih =>
        show (nI y :: nL l).flatMap _ = _
        rw [List.flatMap_cons, ih]
        show [D.int ((y : Int) + ((rows.length / 2 : Nat) : Int))] ++ _ = _
        rw [show ((y : Int) + ((rows.length / 2 : Nat) : Int)) = ((y + rows.length / 2 : Nat) : Int) from by omega]
        rfl
    rw [← e2]
    refine v_lc (l := nL (below (rows.drop (rows.length / 2)).length (ansP cs (rows.drop (rows.length / 2)) o))) ?_ (fun d hd => ?_) ?_
    · exact i_val (x := .tup (nL (below (rows.drop (rows.length / 2)).length (ansP cs (rows.drop (rows.length / 2)) o)))) (v_att (v_ans S h hD v_var v_var wo (by omega)))
    · obtain ⟨y, hy, rfl⟩ := List.mem_map.mp hd
      exact ⟨_, rfl, lc_one rfl (v_bin v_var (v_half v_var) (op_addI _ _))⟩
    · rw [e2, List.length_map, List.length_map]
      exact below_le (by have := hD.len; omega)
  · refine ev_filter (L := below rows.length (ansP cs rows o)) (p := fun x => decide (rows.length / 2 ≤ x)) ?_ (below_le (by omega)) (Nat.le_of_ble_eq_true rfl) fun y hy => ?_
    · exact i_val (x := .tup (nL (below rows.length (ansP cs rows o)))) (v_att (v_ans S h hR v_var v_var wo (by omega)))
    · refine v_cmp (x := nI y) (y := nI (rows.length / 2)) v_var (v_half v_var) ?_
      rw [c_geI]
      exact congrArg (fun b => Res.ok (D.bl b)) (by rw [Bool.eq_iff_iff]; simp; omega)
end
end K23
end
section
set_option Elab.async false
set_option linter.all false
set_option maxRecDepth 100000
set_option maxHeartbeats 4000000
namespace K23
open BB
variable {cs : Cols} {cl : Cal} {mk : Mak} {o t u : Q} {L : List (Q × Q)} {x : Str} {s v : Nat}
theorem pairs_ok (S : Sp cl mk) (h : Shape cs) (wo : wf cs o) (wt : wf cs t) (wu : wf cs u) (d1 : dep o ≤ 2) (d2 : dep t ≤ 2) (d3 : dep u ≤ 2) (hm : (x, s) ∈ cs) (hL : ∀ p ∈ L, Good cs p) :
    Wp T cl mk b_law_10 (lawE cs o t u L x v none none none none none none none none none none) PF := by
  refine wp_for (l := pairsD L) (fun ρ => ∃ z1 z2 : Option Q, ρ = lawE cs o t u L x v (z1.map enc) (z2.map enc) none none none none none none none none) rfl (i_val v_var) ⟨none, none, rfl⟩ (fun d hd ρ hρ => ?_) (fun ρ2 hρ => ?_)
  · obtain ⟨z1, z2, rfl⟩ := hρ
    obtain ⟨⟨p, q⟩, hp, rfl⟩ := List.mem_map.mp hd
    obtain ⟨g1, g2, g3, g4, g5⟩ := hL _ hp
    obtain ⟨k, hk⟩ := S.judge cs p q h g1 g2 g3 g4 g5
    have tr : truR T cl (sameD k) = .ok true := by
      show (match cl f_Same_bool [sameD k] with | .ok (.bl x) => Res.ok x | _ => .stuck) = _
      rw [S.same]
    have g : Ends T cl mk (.cons (.ite (.not (.call f_judge_same (.cons false (.var 2) (.cons false (.var 9) (.cons false (.var 10) .nil))))) (.cons (.ret (.cst (.bl false))) .nil) .nil) .nil)
        (lawE cs o t u L x v (some (enc p)) (some (enc q)) none none none none none none none none) [] (fun fl => fl = .nx (lawE cs o t u L x v (some (enc p)) (some (enc q)) none none none none none none none none) []) :=
      en_skip (v_nt (v_call (s_cons v_var (s_cons v_var (s_cons v_var s_nil))) hk) tr) (en_nil rfl)
    obtain ⟨fl, e1, rfl⟩ := g
    exact ⟨_, lawE cs o t u L x v (some (enc p)) (some (enc q)) none none none none none none none none, rfl, e1, some p, some q, rfl⟩
  · obtain ⟨z1, z2, rfl⟩ := hρ
    refine wp_asg (we_mk (ws_cons (we_ok v_var (ws_cons (we_call (ws_ok (s_cons v_var (s_cons v_var (s_cons v_cst s_nil))) (S.rows cs _ h fun rows hR => ?_)))))))
    refine ws_nil (r_wp (S.tab cs rows _ h (.inl rfl) hR) ?_)
    exact wp_asgD (d := nI rows.length) (v_bi (s_cons (v_att v_var) s_nil) (by rw [bi_lenT, List.length_map])) (counts_ok S h hR wo wt wu d1 d2 d3 hm _ _)
abbrev pr1 (o t u : Q) : List (Q × Q) := [(.nt (.an o t), .orr (.nt o) (.nt t)), (.nt (.orr o t), .an (.nt o) (.nt t))]
abbrev pr2 (o t u : Q) : List (Q × Q) := [(.an o (.orr t u), .orr (.an o t) (.an o u)), (.orr o (.an o t), o)]
abbrev pr3 (o t u : Q) : List (Q × Q) := [(.an o o, o), (.orr o (.nt o), .any)]
abbrev pr4 (x : Str) (v : Nat) : List (Q × Q) := [(.an (.cm .fr x v) (.cm .to x v), .cm .is x v), (.cm .fr x 0, .any)]
abbrev pr5 (x : Str) (s v : Nat) : List (Q × Q) := [(.cm .to x (s - 1), .any), (.orr (.cm .fr x v) (.cm .to x v), .any)]
abbrev pr6 (x : Str) (v : Nat) : List (Q × Q) := [(.nt (.cm .fr x v), .cm .to x (v - 1)), (.an (.cm .is x v) (.cm .is x 0), .nt .any)]
theorem good_o (wo : wf cs o) (wt : wf cs t) (wu : wf cs u) (d1 : dep o ≤ 2) (d2 : dep t ≤ 2) (d3 : dep u ≤ 2) : ∀ p ∈ pr1 o t u ++ pr2 o t u ++ pr3 o t u, Good cs p := by
  intro p hp
  simp only [List.mem_append, List.mem_cons, List.not_mem_nil, or_false] at hp
  rcases hp with ((rfl | rfl) | (rfl | rfl)) | (rfl | rfl)
  · exact ⟨⟨wo, wt⟩, ⟨wo, wt⟩, by simp only [dep]; omega, by simp only [dep]; omega, fun r _ => by simp only [sem]; cases sem cs r o <;> cases sem cs r t <;> rfl⟩
  · exact ⟨⟨wo, wt⟩, ⟨wo, wt⟩, by simp only [dep]; omega, by simp only [dep]; omega, fun r _ => by simp only [sem]; cases sem cs r o <;> cases sem cs r t <;> rfl⟩
  · exact ⟨⟨wo, wt, wu⟩, ⟨⟨wo, wt⟩, wo, wu⟩, by simp only [dep]; omega, by simp only [dep]; omega, fun r _ => by simp only [sem]; cases sem cs r o <;> cases sem cs r t <;> cases sem cs r u <;> rfl⟩
  · exact ⟨⟨wo, wo, wt⟩, wo, by simp only [dep]; omega, by simp only [dep]; omega, fun r _ => by simp only [sem]; cases sem cs r o <;> cases sem cs r t <;> rfl⟩
  · exact ⟨⟨wo, wo⟩, wo, by simp only [dep]; omega, by simp only [dep]; omega, fun r _ => by simp only [sem]; cases sem cs r o <;> rfl⟩
  · exact ⟨⟨wo, wo⟩, trivial, by simp only [dep]; omega, by simp only [dep]; omega, fun r _ => by simp only [sem]; cases sem cs r o <;> rfl⟩
theorem good_v (h : Shape cs) (hm : (x, s) ∈ cs) (hv : v < s) : ∀ p ∈ pr4 x v ++ pr5 x s v, Good cs p := by
  have w : ∀ {ww : W} {y : Nat}, y < s → wf cs (.cm ww x y) := fun hy => ⟨s, hm, hy⟩
  intro p hp
  simp only [List.mem_append, List.mem_cons, List.not_mem_nil, or_false] at hp
  rcases hp with (rfl | rfl) | (rfl | rfl)
  · exact ⟨⟨w hv, w hv⟩, w hv, by simp [dep], by simp [dep], fun r hr => by simp only [sem]; rw [Bool.eq_iff_iff]; simp; omega⟩
  · exact ⟨w (by omega), trivial, by simp [dep], by simp [dep], fun r hr => by simp [sem]⟩
  · exact ⟨w (by omega), trivial, by simp [dep], by simp [dep], fun r hr => by have := (at_some h hr hm).2; simp only [sem]; rw [Bool.eq_iff_iff]; simp; omega⟩
  · exact ⟨⟨w hv, w hv⟩, trivial, by simp [dep], by simp [dep], fun r hr => by simp only [sem]; rw [Bool.eq_iff_iff]; simp; omega⟩
theorem good_w (hm : (x, s) ∈ cs) (hv : v < s) (h0 : 0 < v) : ∀ p ∈ pr6 x v, Good cs p := by
  have w : ∀ {ww : W} {y : Nat}, y < s → wf cs (.cm ww x y) := fun hy => ⟨s, hm, hy⟩
  intro p hp
  simp only [List.mem_cons, List.not_mem_nil, or_false] at hp
  rcases hp with rfl | rfl
  · exact ⟨w (ww := .fr) hv, w (ww := .to) (y := v - 1) (by omega), by simp [dep], by simp [dep], fun r hr => by simp only [sem]; rw [Bool.eq_iff_iff]; simp; omega⟩
  · exact ⟨⟨w (ww := .is) hv, w (ww := .is) (y := 0) (by omega)⟩, trivial, by simp [dep], by simp [dep], fun r hr => by simp only [sem]; rw [Bool.eq_iff_iff]; simp; omega⟩
end K23
end
section
set_option Elab.async false
set_option linter.all false
set_option maxRecDepth 100000
set_option maxHeartbeats 1000000
namespace K23
open BB
variable {cs : Cols} {cl : Cal} {mk : Mak} {o t u p q : Q} {L : List (Q × Q)} {x : Str} {s v : Nat} {ρ : Env} {a b : E}
def notMe : Option D → Bool
  | some (.me _ _) => false
  | _ => true
theorem okN {l : List Nat} (h : ρ.all notMe = true) : okLk ρ l = true := by
  refine List.all_eq_true.mpr fun i hi => ?_
  split
  · rename_i c fs e
    have := List.all_eq_true.mp h _ (List.mem_of_getElem? e)
    cases this
  · rfl
theorem q_an (h1 : ev T cl mk a ρ = .ok (enc p)) (h2 : ev T cl mk b ρ = .ok (enc q)) : ev T cl mk (.tup (.cons false (.cst (.str wAnd)) (.cons false a (.cons false b .nil)))) ρ = .ok (enc (.an p q)) := v_tup (s_cons v_cst (s_cons h1 (s_cons h2 s_nil)))
theorem q_or (h1 : ev T cl mk a ρ = .ok (enc p)) (h2 : ev T cl mk b ρ = .ok (enc q)) : ev T cl mk (.tup (.cons false (.cst (.str wOr)) (.cons false a (.cons false b .nil)))) ρ = .ok (enc (.orr p q)) := v_tup (s_cons v_cst (s_cons h1 (s_cons h2 s_nil)))
theorem q_nt (h1 : ev T cl mk a ρ = .ok (enc p)) : ev T cl mk (.tup (.cons false (.cst (.str wNot)) (.cons false a .nil))) ρ = .ok (enc (.nt p)) := v_tup (s_cons v_cst (s_cons h1 s_nil))
theorem q_any : ev T cl mk (.tup (.cons false (.cst (.str wAny)) .nil)) ρ = .ok (enc .any) := v_tup (s_cons v_cst s_nil)
theorem q_fr (h1 : ev T cl mk a ρ = .ok (.str x)) (h2 : ev T cl mk b ρ = .ok (nI v)) : ev T cl mk (.tup (.cons false (.cst (.str wFrom)) (.cons false a (.cons false b .nil)))) ρ = .ok (enc (.cm .fr x v)) := v_tup (s_cons v_cst (s_cons h1 (s_cons h2 s_nil)))
theorem q_to (h1 : ev T cl mk a ρ = .ok (.str x)) (h2 : ev T cl mk b ρ = .ok (nI v)) : ev T cl mk (.tup (.cons false (.cst (.str wTo)) (.cons false a (.cons false b .nil)))) ρ = .ok (enc (.cm .to x v)) := v_tup (s_cons v_cst (s_cons h1 (s_cons h2 s_nil)))
theorem q_is (h1 : ev T cl mk a ρ = .ok (.str x)) (h2 : ev T cl mk b ρ = .ok (nI v)) : ev T cl mk (.tup (.cons false (.cst (.str wIs)) (.cons false a (.cons false b .nil)))) ρ = .ok (enc (.cm .is x v)) := v_tup (s_cons v_cst (s_cons h1 (s_cons h2 s_nil)))
theorem q_two {a b c d : E} {p q r w : Q} (h1 : ev T cl mk a ρ = .ok (enc p)) (h2 : ev T cl mk b ρ = .ok (enc q)) (h3 : ev T cl mk c ρ = .ok (enc r)) (h4 : ev T cl mk d ρ = .ok (enc w)) :
    ev T cl mk (.lst (.cons false (.tup (.cons false a (.cons false b .nil))) (.cons false (.tup (.cons false c (.cons false d .nil))) .nil))) ρ = .ok (.lst (pairsD [(p, q), (r, w)])) :=
  v_lst (s_cons (v_tup (s_cons h1 (s_cons h2 s_nil))) (s_cons (v_tup (s_cons h3 (s_cons h4 s_nil))) s_nil))
theorem q_more {a b : E} {L M : List (Q × Q)} (h1 : ev T cl mk a ρ = .ok (.lst (pairsD L))) (h2 : ev T cl mk b ρ = .ok (.lst (pairsD M))) (hl : L.length + M.length ≤ 100) : ev T cl mk (.bin .add a b) ρ = .ok (.lst (pairsD (L ++ M))) := v_bin h1 h2 (by rw [op_addL, List.length_map, List.length_map, if_pos (by unfold big; omega)]; exact congrArg (fun l => Res.ok (D.lst l)) List.map_append.symm)
theorem q_less {a : E} {k : Nat} (h : ev T cl mk a ρ = .ok (nI k)) (hk : 0 < k) : ev T cl mk (.bin .sub a (.cst (.int 1))) ρ = .ok (nI (k - 1)) := v_bin h v_cst (by rw [op_subI]; exact congrArg (fun i => Res.ok (D.int i)) (by omega))
end K23
end
section
set_option Elab.async false
set_option linter.all false
set_option maxRecDepth 100000
set_option maxHeartbeats 1000000
namespace K23
open BB
variable {cs : Cols} {cl : Cal} {mk : Mak} {o t u p q : Q} {L : List (Q × Q)} {x : Str} {s v : Nat} {ρ : Env} {a b : E}
theorem law_c (S : Sp cl mk) (h : Shape cs) (wo : wf cs o) (wt : wf cs t) (wu : wf cs u) (d1 : dep o ≤ 2) (d2 : dep t ≤ 2) (d3 : dep u ≤ 2) (hm : (x, s) ∈ cs) (hv : v < s) (hL : ∀ p ∈ L, Good cs p) (hl : L.length ≤ 10) :
    Wp T cl mk b_law_7 (lawE cs o t u L x v none none none none none none none none none none) PF := by
  obtain ⟨_, s1, s4, k4, _⟩ := shape_item h hm
  have g2 := good_v h hm hv
  refine wp_asgD (d := .lst (pairsD (L ++ pr4 x v))) ?_ ?_ (ok := okN rfl)
  · exact q_more v_var (q_two (q_an (q_fr v_var v_var) (q_to v_var v_var)) (q_is v_var v_var) (q_fr (v := 0) v_var v_cst) q_any) (by show L.length + 2 ≤ 100; omega)
  refine wp_asgD (d := .lst (pairsD ((L ++ pr4 x v) ++ pr5 x s v))) ?_ ?_ (ok := okN rfl)
  · exact q_more v_var (q_two (q_to v_var (q_less (v_idx v_var v_var k4) (by omega))) q_any (q_or (q_fr v_var v_var) (q_to v_var v_var)) q_any) (by rw [List.length_append]; show L.length + 2 + 2 ≤ 100; omega)
  have g3 : ∀ p ∈ (L ++ pr4 x v) ++ pr5 x s v, Good cs p := fun p hp => by
    rw [List.append_assoc] at hp
    rcases List.mem_append.mp hp with hp | hp
    · exact hL p hp
    · exact g2 p hp
  by_cases h0 : 0 < v
  · refine wp_then (v_cmp (x := nI v) (y := .int 0) v_var v_cst (by rw [c_gtI, decide_eq_true (by omega)])) ?_ (okN rfl)
    refine wp_asgD (d := .lst (pairsD (((L ++ pr4 x v) ++ pr5 x s v) ++ pr6 x v))) ?_ (wp_nil ⟨rfl, ?_⟩) (ok := okN rfl)
    · exact q_more v_var (q_two (q_nt (q_fr v_var v_var)) (q_to v_var (q_less v_var h0)) (q_an (q_is v_var v_var) (q_is (v := 0) v_var v_cst)) (q_nt q_any)) (by rw [List.length_append, List.length_append]; show L.length + 2 + 2 + 2 ≤ 100; omega)
    refine pairs_ok S h wo wt wu d1 d2 d3 hm fun p hp => ?_
    rcases List.mem_append.mp hp with hp | hp
    · exact g3 p hp
    · exact good_w hm hv h0 p hp
  · exact wp_skip (v_cmp (x := nI v) (y := .int 0) v_var v_cst (by rw [c_gtI, decide_eq_false (by omega)])) (pairs_ok S h wo wt wu d1 d2 d3 hm g3) (okN rfl)
theorem law_b (S : Sp cl mk) (h : Shape cs) (wo : wf cs o) (wt : wf cs t) (wu : wf cs u) (d1 : dep o ≤ 2) (d2 : dep t ≤ 2) (d3 : dep u ≤ 2) :
    Wp T cl mk b_law_2 [none, some .draw, some (colsD cs), some (enc o), some (enc t), some (enc u), none, none, none, none, none, none, none, none, none, none, none, none, none] PF := by
  refine wp_asgD (d := .lst (pairsD (pr1 o t u))) ?_ ?_ (ok := okN rfl)
  · exact q_two (q_nt (q_an v_var v_var)) (q_or (q_nt v_var) (q_nt v_var)) (q_nt (q_or v_var v_var)) (q_an (q_nt v_var) (q_nt v_var))
  refine wp_asgD (d := .lst (pairsD (pr1 o t u ++ pr2 o t u))) ?_ ?_ (ok := okN rfl)
  · exact q_more v_var (q_two (q_an v_var (q_or v_var v_var)) (q_or (q_an v_var v_var) (q_an v_var v_var)) (q_or v_var (q_an v_var v_var)) v_var) (Nat.le_of_ble_eq_true rfl)
  refine wp_asgD (d := .lst (pairsD (pr1 o t u ++ pr2 o t u ++ pr3 o t u))) ?_ ?_ (ok := okN rfl)
  · exact q_more v_var (q_two (q_an v_var v_var) v_var (q_or v_var (q_nt v_var)) q_any) (Nat.le_of_ble_eq_true rfl)
  have nme : cs.map (fun p => D.str p.1) ≠ [] := fun z => by
    have := (shape_len h).1
    have z2 := congrArg List.length z
    rw [List.length_map] at z2
    have : cs.length = 0 := z2
    omega
  refine wp_asg (we_call (ws_ok (s_cons v_var (s_cons (v_sortC h v_var) s_nil)) (S.pick _ _ nme fun d hd => ?_))) (ok := okN rfl)
  obtain ⟨⟨x, s⟩, hm, rfl⟩ := List.mem_map.mp hd
  obtain ⟨_, s1, s4, k4, _⟩ := shape_item h hm
  refine wp_asg (we_take v_var (v_idx v_var v_var k4) (by omega) fun v hv => ?_) (ok := okN rfl)
  have hv : v < s := by rw [Int.toNat_natCast] at hv; exact hv
  exact law_c S h wo wt wu d1 d2 d3 hm hv (good_o wo wt wu d1 d2 d3) (Nat.le_of_ble_eq_true rfl)
theorem law_a (S : Sp cl mk) : Wp T cl mk b_law [none, some .draw, none, none, none, none, none, none, none, none, none, none, none, none, none, none, none, none, none] PF := by
  refine wp_asg (we_call (ws_ok (s_cons v_var s_nil) (S.cols _ fun cs h => ?_))) (ok := okN rfl)
  refine wp_par (ws_cons (we_call (ws_ok (s_cons v_var (s_cons v_var (s_cons v_cst s_nil))) (S.ques cs _ h fun o wo d1 => ?_)))) (ok := okN rfl)
  refine ws_cons (we_call (ws_ok (s_cons v_var (s_cons v_var (s_cons v_cst s_nil))) (S.ques cs _ h fun t wt d2 => ?_)))
  refine ws_cons (we_call (ws_ok (s_cons v_var (s_cons v_var (s_cons v_cst s_nil))) (S.ques cs _ h fun u wu d3 => ?_)))
  exact ws_nil ⟨_, rfl, law_b S h wo wt wu d1 d2 d3⟩
theorem sp_call (n : Nat) : Sp (call T (n + 25)) (make T (n + 25)) where
  cnt := fun cs rows q h hR w d => count_ok h hR q (n + 25) w d (by omega)
  ans := fun cs rows q h hR w d => answer_ok h hR q (n + 25) w d (by omega)
  both := fun m p q hm => bits_both (n + 21) m p q hm
  eqb := fun m a b => bits_eq (n + 24) m a b
  tab := fun cs rows rd h hrd hR => mk_table (n + 21) h rows rd hrd hR.len hR.ok
  judge := fun cs p q h wp wq dp dq hs => judge_ok h p q (n + 25) wp wq dp dq (by omega) hs
  same := fun k => rfl
  pick := fun l P hl hP => pick_wp (n + 24) l hl hP
  cols := fun P hP => cols_wp (n + 24) hP
  rows := fun cs P h hP => rows_wp h (n + 24) hP
  ques := fun cs P h hP => ques_wp h 1 (n + 25) P (by omega) fun q w d => hP q w d
end K23
end
section
set_option Elab.async false
set_option linter.all false
theorem K23.lawOk : BB.LawOk K23.t 25 K23.L := (K23.law_a (K23.sp_call 0)).h
set_option maxRecDepth 100000 in
set_option maxHeartbeats 8000000 in
theorem PySem.Challenge.cw_bitbundles_k23_question_algebra_holds : PySem.Challenge.rw_bitbundles_k23_question_algebra.Holds := by
  exact k23_holds (n := 25) ⟨rfl, by decide, by decide⟩ K23.lawOk
end
