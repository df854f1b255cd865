import PyProof.Rows.All
import Wide.All
import OpenK.AllK
import Wide.FinOn
import PySem.Syntax
import PyProof.EqAt
import PyProof.EqKinds
import PyProof.TupleCall
import HandS.ForMost
import HandS.Exc
import HandS.ExcOwn
import HandS.WordsExc
import HandS.CallSlots
import HandS.Deep
import HandS.Zip
import HandS.TupAny
import HandS.Style
import HandS.IsInst
import HandS.Wide
import HandS.Ends
import PySem.Challenge.RW_drawnexact_k60_whole_closing_rounds_and
set_option linter.all false
namespace Pi
open PySem

/-- data -/
inductive D where
  | non | bl (b : Bool) | int (i : Int) | str (s : Str)
  | tup (xs : List D)
  /-- a list that nobody changes -/
  | lst (xs : List D)
  /-- a list of the module's own (or the script) -/
  | klst (xs : List D)
  /-- a list in the store -/
  | ref (n : Nat)
  /-- a def of the module -/
  | fn (f : Nat)
  deriving Inhabited

mutual
def D.beq : D → D → Bool
  | .non, .non => true
  | .bl a, .bl b => a == b
  | .int a, .int b => a == b
  | .str a, .str b => a == b
  | .tup a, .tup b => D.beqL a b
  | .lst a, .lst b => D.beqL a b
  | .klst a, .klst b => D.beqL a b
  | .ref a, .ref b => a == b
  | .fn a, .fn b => a == b
  | _, _ => false
def D.beqL : List D → List D → Bool
  | [], [] => true
  | x :: xs, y :: ys => D.beq x y && D.beqL xs ys
  | _, _ => false
end

abbrev Store := List (List D)
abbrev Env := List (Option D)

inductive R (α : Type) where
  | ok (a : α) (s : Store) | exc (c : Nat) (s : Store) | bad
  deriving Inhabited
def R.bind {α β : Type} (r : R α) (k : α → Store → R β) : R β := match r with
  | .ok a s => k a s
  | .exc c s => .exc c s
  | .bad => .bad
/-- a primitive's answer: data, or a new list -/
inductive PR where
  | val (d : D) | new (xs : List D) | bad
def PR.fin (m : Bool) (p : PR) (s : Store) : R D := match p with
  | .val d => .ok d s
  | .new xs => if xs.length ≤ 100000 then (if m then .ok (.ref s.length) (s ++ [xs]) else .ok (.lst xs) s) else .bad
  | .bad => .bad

inductive Bop where | add | sub | mul | fdiv | mod | pow
  deriving DecidableEq
inductive Cop where | eq | ne | lt | le | gt | ge | isin | notin
  deriving DecidableEq
inductive Ty where | int | bool | tuple | list | str
  deriving DecidableEq
inductive Blt where | abs | len | int | tuple | list | sum | all | any | max2 | min2
  deriving DecidableEq
inductive IB where | seq | range | zip | enum
  deriving DecidableEq
inductive Meth where | append | extend | count | index | pop0 | pop1
  deriving DecidableEq
/-- targets: names, tuples of targets -/
inductive Tg where | n (i : Nat) | t (l : List Tg)
mutual
def Tg.names : Tg → List Nat
  | .n i => [i]
  | .t l => Tg.namesL l
def Tg.namesL : List Tg → List Nat
  | [] => []
  | x :: l => Tg.names x ++ Tg.namesL l
end

inductive Ex where
  | var (i : Nat)
  | int (i : Int) | bl (b : Bool) | non | str (s : Str)
  /-- a constant of the module -/
  | glob (g : Nat)
  | bin (m : Bool) (op : Bop) (a b : Ex)
  | neg (a : Ex)
  | not (a : Ex)
  | and (es : List Ex)
  | or (es : List Ex)
  | cmp (op : Cop) (a b : Ex)
  | chain (op op' : Cop) (a b c : Ex)
  | isn (neg : Bool) (a : Ex)
  | isb (neg : Bool) (a : Ex) (b : Bool)
  | ite (t a b : Ex)
  | tup (es : List Ex)
  | lst (m : Bool) (es : List Ex)
  | idx (a i : Ex)
  | slice (m : Bool) (a : Ex) (lo hi : List Ex)
  | call (f : Nat) (es : List Ex)
  | blt (m : Bool) (b : Blt) (es : List Ex)
  | inst (a : Ex) (tys : List Ty)
  | meth (f : Meth) (o : Ex) (es : List Ex)
  | comp (m : Bool) (elt : Ex) (t : Tg) (ib : IB) (es : List Ex) (cond : List Ex)
  deriving Inhabited

/-- a target: a name, a place of a list -/
inductive LT where | n (i : Nat) | s (o i : Ex)
inductive Sm where
  | set (i : Nat) (e : Ex)
  /-- a, b = x, y (two or three local names) -/
  | par (is : List Nat) (es : List Ex)
  | unp (t : Tg) (e : Ex)
  | sub (o i e : Ex)
  /-- o[i], p[j], x = e and so on: targets in turn -/
  | subs (ts : List LT) (e : Ex)
  | aug (i : Nat) (op : Bop) (e : Ex)
  | ex (e : Ex)
  | ret (e : Ex)
  | ite (c : Ex) (a b : List Sm)
  | whl (c : Ex) (b : List Sm)
  | for_ (t : Tg) (ib : IB) (es : List Ex) (b : List Sm)
  | raise (c : Nat)
  /-- a raise that is never come to -/
  | dead (c : Nat)
  | brk
  | pass
  deriving Inhabited

def b2i (b : Bool) : Int := if b then 1 else 0
mutual
/-- == of data -/
def eqv : D → D → Bool
  | .non, .non => true
  | .bl a, .bl b => a == b
  | .bl a, .int j => b2i a == j
  | .int i, .bl b => i == b2i b
  | .int i, .int j => decide (i = j)
  | .str x, .str y => x == y
  | .tup xs, .tup ys => eqvL xs ys
  | .lst xs, .lst ys => eqvL xs ys
  | .lst xs, .klst ys => eqvL xs ys
  | .klst xs, .lst ys => eqvL xs ys
  | .klst xs, .klst ys => eqvL xs ys
  | _, _ => false
def eqvL : List D → List D → Bool
  | [], [] => true
  | x :: xs, y :: ys => eqv x y && eqvL xs ys
  | _, _ => false
end
def okStr (x : Str) : Bool := x.cps.all (· < 0x110000)
mutual
/-- plain data, at most n deep -/
def plain : Nat → D → Bool
  | _, .non => true
  | _, .bl _ => true
  | _, .int _ => true
  | _, .str x => okStr x
  | n + 1, .tup xs => plainL n xs
  | n + 1, .lst xs => plainL n xs
  | n + 1, .klst xs => plainL n xs
  | _, _ => false
def plainL : Nat → List D → Bool
  | _, [] => true
  | n, x :: xs => plain n x && plainL n xs
end
/-- a list of the store as a list of data -/
def deref (s : Store) : D → D
  | .ref n => match s[n]? with
    | some xs => .lst xs
    | none => .ref n
  | d => d
/-- the items of a list or tuple -/
def items (s : Store) : D → Option (List D)
  | .tup xs => some xs
  | .lst xs => some xs
  | .klst xs => some xs
  | .ref n => s[n]?
  | _ => none
def big : Nat := 2 ^ 60000
def dmax : Nat := 2 ^ 8000
def mulOk (i j : Int) : Bool := decide (i.natAbs < 2 ^ 64) || decide (j.natAbs < 2 ^ 64) || (decide (i.natAbs < big) && decide (j.natAbs < big))
def flat : D → Bool
  | .non => true
  | .bl _ => true
  | .int _ => true
  | .str _ => true
  | _ => false
def pBin (s : Store) : Bop → D → D → PR
  | .add, .int i, .int j => .val (.int (i + j))
  | .add, .tup xs, .tup ys => if xs.length + ys.length ≤ 100000 then .val (.tup (xs ++ ys)) else .bad
  | .add, .str x, .str y => if x.length + y.length ≤ 100000 then .val (.str (x ++ y)) else .bad
  | .add, x, y => match deref s x, deref s y with
    | .lst xs, .lst ys => .new (xs ++ ys)
    | _, _ => .bad
  | .sub, .int i, .int j => .val (.int (i - j))
  | .mul, .int i, .int j => if mulOk i j then .val (.int (i * j)) else .bad
  | .mul, .lst xs, .int j => if j < 10000 ∧ -10000 < j ∧ xs.length < 1000 then .new (List.replicate j.toNat xs).flatten else .bad
  | .fdiv, .int i, .int j => if j ≠ 0 ∧ j.natAbs < dmax then .val (.int (i.fdiv j)) else .bad
  | .mod, .int i, .int j => if j ≠ 0 then .val (.int (i.fmod j)) else .bad
  | .pow, .int i, .int j => if 0 ≤ j ∧ j ≤ 10000 ∧ i.natAbs < 2 ^ 64 then .val (.int (i ^ j.toNat)) else .bad
  | _, _, _ => .bad
def okEq (s : Store) (x y : D) : Bool := plain 60 (deref s x) && plain 60 (deref s y)
def pCmp (s : Store) (op : Cop) (x y : D) : PR := match op with
  | .eq => if okEq s x y then .val (.bl (eqv (deref s x) (deref s y))) else .bad
  | .ne => if okEq s x y then .val (.bl (!eqv (deref s x) (deref s y))) else .bad
  | .lt => match x, y with
    | .int i, .int j => .val (.bl (decide (i < j)))
    | _, _ => .bad
  | .le => match x, y with
    | .int i, .int j => .val (.bl (decide (i ≤ j)))
    | _, _ => .bad
  | .gt => match x, y with
    | .int i, .int j => .val (.bl (decide (j < i)))
    | _, _ => .bad
  | .ge => match x, y with
    | .int i, .int j => .val (.bl (decide (j ≤ i)))
    | _, _ => .bad
  | .isin => match y with
    | .tup ys => if flat x && ys.all flat then .val (.bl (ys.any fun d => eqv d x)) else .bad
    | _ => match items s y with
      | some ys => if plain 60 x && plainL 59 ys then .val (.bl (ys.any fun d => eqv d x)) else .bad
      | none => .bad
  | .notin => match y with
    | .tup ys => if flat x && ys.all flat then .val (.bl (!ys.any fun d => eqv d x)) else .bad
    | _ => match items s y with
      | some ys => if plain 60 x && plainL 59 ys then .val (.bl (!ys.any fun d => eqv d x)) else .bad
      | none => .bad
/-- the place of an index -/
def place (n : Nat) (i : Int) : Option Nat := if 0 ≤ i then (if i < n then some i.toNat else none) else if -(n : Int) ≤ i then some (i + n).toNat else none
def pIdx (s : Store) (x i : D) : PR := match items s x, i with
  | some xs, .int k => match (place xs.length k).bind fun j => xs[j]? with
    | some d => .val d
    | none => .bad
  | _, _ => .bad
def cutIx (n d : Nat) : Option Int → Nat
  | none => d
  | some v => if v < 0 then (v + n).toNat else min v.toNat n
def cut (xs : List D) (lo hi : Option Int) : List D := (xs.drop (cutIx xs.length 0 lo)).take (cutIx xs.length xs.length hi - cutIx xs.length 0 lo)
def part : List D → Option (Option Int)
  | [] => some none
  | [.int i] => some (some i)
  | _ => none
def pOk (ds : List D) (s : Store) : R (List D) := match part ds with
  | some _ => .ok ds s
  | none => .bad
def pSlice (s : Store) (x : D) (lo hi : List D) : PR := match part lo, part hi with
  | some l, some h => match x with
    | .tup xs => .val (.tup (cut xs l h))
    | _ => match items s x with
      | some xs => .new (cut xs l h)
      | none => .bad
  | _, _ => .bad
def intsD : List D → Option (List Int)
  | [] => some []
  | .int i :: r => (intsD r).map (i :: ·)
  | _ => none
def boolsD : List D → Option (List Bool)
  | [] => some []
  | .bl b :: r => (boolsD r).map (b :: ·)
  | _ => none
def pBlt (s : Store) (b : Blt) (ds : List D) : PR := match b, ds with
  | .abs, [.int i] => .val (.int (if i < 0 then -i else i))
  | .len, [.str x] => if x.length ≤ 100000 then .val (.int x.length) else .bad
  | .len, [d] => match items s d with
    | some xs => .val (.int xs.length)
    | none => .bad
  | .int, [.int i] => .val (.int i)
  | .int, [.bl b] => .val (.int (b2i b))
  | .tuple, [d] => match items s d with
    | some xs => .val (.tup xs)
    | none => .bad
  | .list, [d] => match items s d with
    | some xs => .new xs
    | none => .bad
  | .sum, [d] => match d with
    | .tup _ => .bad
    | _ => match (items s d).bind intsD with
      | some ns => .val (.int ns.sum)
      | none => .bad
  | .all, [d] => match d with
    | .tup _ => .bad
    | _ => match (items s d).bind boolsD with
      | some bs => .val (.bl (bs.all id))
      | none => .bad
  | .any, [d] => match d with
    | .tup _ => .bad
    | _ => match (items s d).bind boolsD with
      | some bs => .val (.bl (bs.any id))
      | none => .bad
  | .max2, [.int i, .int j] => .val (.int (if j > i then j else i))
  | .min2, [.int i, .int j] => .val (.int (if j < i then j else i))
  | _, _ => .bad
def isTy (s : Store) (d : D) (t : Ty) : Option Bool := match d with
  | .non => some false
  | .bl _ => some (t == .bool || t == .int)
  | .int _ => some (t == .int)
  | .str _ => some (t == .str)
  | .tup _ => some (t == .tuple)
  | .lst _ => some (t == .list)
  | .klst _ => some (t == .list)
  | .ref n => if n < s.length then some (t == .list) else none
  | .fn _ => none
def isTys (s : Store) (d : D) : List Ty → Option Bool
  | [] => some false
  | t :: r => match isTy s d t with
    | some true => some true
    | some false => isTys s d r
    | none => none
def pMeth (s : Store) (f : Meth) (o : D) (ds : List D) : R D := match f, o, ds with
  | .append, .ref n, [d] => match s[n]? with
    | some xs => if xs.length < 100000 then .ok .non (s.set n (xs ++ [d])) else .bad
    | none => .bad
  | .extend, .ref n, [d] => match s[n]?, d with
    | some xs, .lst ys => if xs.length + ys.length < 100000 then .ok .non (s.set n (xs ++ ys)) else .bad
    | some xs, .ref m => match s[m]? with
      | some ys => if m ≠ n ∧ xs.length + ys.length < 100000 then .ok .non (s.set n (xs ++ ys)) else .bad
      | none => .bad
    | _, _ => .bad
  | .pop0, .ref n, [] => match s[n]? with
    | some xs => match xs[xs.length - 1]? with
      | some d => .ok d (s.set n xs.dropLast)
      | none => .bad
    | none => .bad
  | .pop1, .ref n, [.int i] => match s[n]? with
    | some xs => match place xs.length i with
      | some k => match xs[k]? with
        | some d => if -1000000 < i ∧ i < 1000000 then .ok d (s.set n (xs.eraseIdx k)) else .bad
        | none => .bad
      | none => .bad
    | none => .bad
  | _, _, _ => .bad
/-- what is walked: the items; the lists of the store that must stay meanwhile -/
structure Src where
  cells : List (Nat × List D)
  list : List D
def Src.chk (c : Src) (s : Store) : Bool := c.cells.all fun p => match s[p.1]? with
    | some ys => D.beqL ys p.2
    | none => false
def srcOf (s : Store) : D → Option Src
  | .ref n => (s[n]?).map fun xs => ⟨[(n, xs)], xs⟩
  | d => (items s d).map fun xs => ⟨[], xs⟩
def upTo (lo : Int) : Nat → List D
  | 0 => []
  | n + 1 => .int lo :: upTo (lo + 1) n
def zipD : List D → List D → List D
  | x :: xs, y :: ys => .tup [x, y] :: zipD xs ys
  | _, _ => []
def enumD (i : Int) : List D → List D
  | [] => []
  | x :: xs => .tup [.int i, x] :: enumD (i + 1) xs
def isTup : D → Bool
  | .tup _ => true
  | _ => false
def pIter (s : Store) (ib : IB) (ds : List D) : Option Src := match ib, ds with
  | .seq, [d] => srcOf s d
  | .range, [.int n] => if n < 2 ^ 60 ∧ -(2 ^ 60) < n then some ⟨[], upTo 0 n.toNat⟩ else none
  | .range, [.int lo, .int hi] => if lo < 2 ^ 60 ∧ -(2 ^ 60) < lo ∧ hi < 2 ^ 60 ∧ -(2 ^ 60) < hi then some ⟨[], upTo lo (hi - lo).toNat⟩ else none
  | .zip, [a, b] => match srcOf s a, srcOf s b with
    | some A, some B => if isTup a = isTup b then some ⟨A.cells ++ B.cells, zipD A.list B.list⟩ else none
    | _, _ => none
  | .enum, [a] => match srcOf s a with
    | some A => if isTup a then none else some ⟨A.cells, enumD 0 A.list⟩
    | _ => none
  | _, _ => none

mutual
/-- a target takes data -/
def put : Tg → D → Env → Option Env
  | .n i, d, ρ => if i < ρ.length then some (ρ.set i (some d)) else none
  | .t l, .tup xs, ρ => putL l xs ρ
  | .t _, _, _ => none
def putL : List Tg → List D → Env → Option Env
  | [], [], ρ => some ρ
  | t :: l, d :: ds, ρ => (put t d ρ).bind (putL l ds)
  | _, _, _ => none
end
def wipe (ρ : Env) : List Nat → Env
  | [] => ρ
  | v :: vs => (wipe ρ vs).set v none

/-- the list of what f makes of the items -/
def compL (chk : Store → Bool) (f : D → Store → R (Option D)) : List D → List D → Store → R (List D)
  | [], acc, s => if chk s then .ok acc s else .bad
  | x :: xs, acc, s => if chk s ∧ acc.length < 100000 then (f x s).bind fun o s1 => match o with
      | some d => compL chk f xs (acc ++ [d]) s1
      | none => compL chk f xs acc s1
    else .bad

abbrev Call := Nat → List D → Store → R D
def asB (d : D) (s : Store) : R Bool := match d with
  | .bl b => .ok b s
  | _ => .bad
def kRef (x : D) (s : Store) : R D := match x with
  | .ref n => .ok (.ref n) s
  | _ => .bad
def kNeg (x : D) (s : Store) : R D := match x with
  | .int i => .ok (.int (-i)) s
  | _ => .bad
def kNot (x : D) (s : Store) : R D := match x with
  | .bl b => .ok (.bl (!b)) s
  | _ => .bad
def isNon : D → Bool
  | .non => true
  | _ => false
def kIsn (n : Bool) (x : D) (s : Store) : R D := .ok (.bl (isNon x != n)) s
def kIsb (n b : Bool) (x : D) (s : Store) : R D := match x with
  | .bl c => .ok (.bl ((c == b) != n)) s
  | _ => .bad
def kTup (ds : List D) (s : Store) : R D := if ds.length ≤ 100000 then .ok (.tup ds) s else .bad
def kInst (tys : List Ty) (x : D) (s : Store) : R D := match isTys s x tys with
  | some b => .ok (.bl b) s
  | none => .bad

mutual
def ev (G : Nat → Option D) (call : Call) : Ex → Env → Store → R D
  | .var i, ρ, s => match ρ[i]? with
    | some (some d) => .ok d s
    | _ => .bad
  | .int i, _, s => .ok (.int i) s
  | .bl b, _, s => .ok (.bl b) s
  | .non, _, s => .ok .non s
  | .str x, _, s => .ok (.str x) s
  | .glob g, _, s => match G g with
    | some d => .ok d s
    | none => .bad
  | .bin m op a b, ρ, s => (ev G call a ρ s).bind fun x s1 => (ev G call b ρ s1).bind fun y s2 => (pBin s2 op x y).fin m s2
  | .neg a, ρ, s => (ev G call a ρ s).bind kNeg
  | .not a, ρ, s => (ev G call a ρ s).bind kNot
  | .and es, ρ, s => evAnd G call es ρ s
  | .or es, ρ, s => evOr G call es ρ s
  | .cmp op a b, ρ, s => (ev G call a ρ s).bind fun x s1 => (ev G call b ρ s1).bind fun y s2 => (pCmp s2 op x y).fin false s2
  | .chain op op' a b c, ρ, s => (ev G call a ρ s).bind fun x s1 => (ev G call b ρ s1).bind fun y s2 => ((pCmp s2 op x y).fin false s2).bind fun r s3 => match r with
    | .bl true => (ev G call c ρ s3).bind fun z s4 => (pCmp s4 op' y z).fin false s4
    | .bl false => .ok (.bl false) s3
    | _ => .bad
  | .isn n a, ρ, s => (ev G call a ρ s).bind (kIsn n)
  | .isb n a b, ρ, s => (ev G call a ρ s).bind (kIsb n b)
  | .ite t a b, ρ, s => (ev G call t ρ s).bind fun x s1 => match x with
    | .bl true => ev G call a ρ s1
    | .bl false => ev G call b ρ s1
    | _ => .bad
  | .tup es, ρ, s => (evL G call es ρ s).bind kTup
  | .lst m es, ρ, s => (evL G call es ρ s).bind fun ds s1 => PR.fin m (.new ds) s1
  | .idx a i, ρ, s => (ev G call a ρ s).bind fun x s1 => (ev G call i ρ s1).bind fun y s2 => (pIdx s2 x y).fin false s2
  | .slice m a lo hi, ρ, s => (ev G call a ρ s).bind fun x s1 => ((evL G call lo ρ s1).bind pOk).bind fun l s2 => ((evL G call hi ρ s2).bind pOk).bind fun h s3 => (pSlice s3 x l h).fin m s3
  | .call f es, ρ, s => (evL G call es ρ s).bind fun ds s1 => call f ds s1
  | .blt m b es, ρ, s => (evL G call es ρ s).bind fun ds s1 => (pBlt s1 b ds).fin m s1
  | .inst a tys, ρ, s => (ev G call a ρ s).bind (kInst tys)
  | .meth f o es, ρ, s => ((ev G call o ρ s).bind kRef).bind fun x s1 => (evL G call es ρ s1).bind fun ds s2 => pMeth s2 f x ds
  | .comp m elt t ib es cond, ρ, s => (evL G call es ρ s).bind fun ds s1 => match pIter s1 ib ds with
    | none => .bad
    | some src => match compL src.chk (fun x s2 => match put t x (wipe ρ t.names) with
        | none => .bad
        | some ρ1 => match evAnd1 G call cond ρ1 s2 with
          | .ok true s3 => match ev G call elt ρ1 s3 with
            | .ok d s4 => .ok (some d) s4
            | _ => .bad
          | .ok false s3 => .ok none s3
          | _ => .bad) src.list [] s1 with
      | .ok xs s5 => PR.fin m (.new xs) s5
      | _ => .bad
def evL (G : Nat → Option D) (call : Call) : List Ex → Env → Store → R (List D)
  | [], _, s => .ok [] s
  | e :: es, ρ, s => (ev G call e ρ s).bind fun d s1 => (evL G call es ρ s1).bind fun ds s2 => .ok (d :: ds) s2
def evAnd (G : Nat → Option D) (call : Call) : List Ex → Env → Store → R D
  | [], _, _ => .bad
  | e :: es, ρ, s => (ev G call e ρ s).bind fun d s1 => match es, d with
    | [], d => .ok d s1
    | _ :: _, .bl true => evAnd G call es ρ s1
    | _ :: _, .bl false => .ok (.bl false) s1
    | _ :: _, _ => .bad
def evOr (G : Nat → Option D) (call : Call) : List Ex → Env → Store → R D
  | [], _, _ => .bad
  | e :: es, ρ, s => (ev G call e ρ s).bind fun d s1 => match es, d with
    | [], d => .ok d s1
    | _ :: _, .bl false => evOr G call es ρ s1
    | _ :: _, .bl true => .ok (.bl true) s1
    | _ :: _, _ => .bad
/-- a comprehension's conditions: none or one -/
def evAnd1 (G : Nat → Option D) (call : Call) : List Ex → Env → Store → R Bool
  | [], _, s => .ok true s
  | e :: es, ρ, s => (ev G call e ρ s).bind fun d s1 => match es, d with
    | [], .bl b => .ok b s1
    | _, _ => .bad
end

inductive Fl where | nx | rt (d : D) | bk
inductive RS where
  | ok (f : Fl) (ρ : Env) (s : Store) | exc (c : Nat) (ρ : Env) (s : Store) | bad
def R.thn {α : Type} (r : R α) (ρ : Env) (k : α → Store → RS) : RS := match r with
  | .ok a s => k a s
  | .exc c s => .exc c ρ s
  | .bad => .bad
/-- one turn of a loop: go on, or it is over -/
inductive WR where
  | go (ρ : Env) (s : Store) | fin (r : RS)
def RS.turn : RS → WR
  | .ok .nx ρ s => .go ρ s
  | .ok .bk ρ s => .fin (.ok .nx ρ s)
  | .ok (.rt d) ρ s => .fin (.ok (.rt d) ρ s)
  | .exc c ρ s => .fin (.exc c ρ s)
  | .bad => .fin .bad
def loopN (f : Env → Store → WR) : Nat → Env → Store → RS
  | 0, _, _ => .bad
  | n + 1, ρ, s => match f ρ s with
    | .go ρ' s' => loopN f n ρ' s'
    | .fin r => r
def forL (chk : Store → Bool) (f : D → Env → Store → WR) : List D → Env → Store → RS
  | [], ρ, s => if chk s then .ok .nx ρ s else .bad
  | x :: xs, ρ, s => if chk s then (match f x ρ s with
    | .go ρ' s' => forL chk f xs ρ' s'
    | .fin r => r) else .bad
def setAt (s : Store) (o i d : D) : Option Store := match o, i with
  | .ref n, .int k => match s[n]? with
    | some xs => (place xs.length k).map fun j => s.set n (xs.set j d)
    | none => none
  | _, _ => none
def evSub (G : Nat → Option D) (call : Call) (o i : Ex) (d : D) (ρ : Env) (s : Store) : RS :=
  (ev G call o ρ s).thn ρ fun x s1 => (ev G call i ρ s1).thn ρ fun y s2 => match setAt s2 x y d with
    | some s3 => .ok .nx ρ s3
    | none => .bad
def evLT (G : Nat → Option D) (call : Call) (t : LT) (d : D) (ρ : Env) (s : Store) : RS := match t with
  | .n i => if i < ρ.length then .ok .nx (ρ.set i (some d)) s else .bad
  | .s o i => evSub G call o i d ρ s
def evSubs (G : Nat → Option D) (call : Call) : List LT → List D → Env → Store → RS
  | [], [], ρ, s => .ok .nx ρ s
  | t :: ts, d :: ds, ρ, s => match evLT G call t d ρ s with
    | .ok .nx ρ' s' => evSubs G call ts ds ρ' s'
    | .exc c ρ' s' => .exc c ρ' s'
    | _ => .bad
  | _, _, _, _ => .bad
def kSubs (G : Nat → Option D) (call : Call) (ts : List LT) (ρ : Env) (d : D) (s : Store) : RS := match d with
  | .tup ds => if ds.length = ts.length then evSubs G call ts ds ρ s else .bad
  | _ => .bad
def kPut (t : Tg) (ρ : Env) (d : D) (s : Store) : RS := match put t d ρ with
  | some ρ' => .ok .nx ρ' s
  | none => .bad
def kPar (is : List Nat) (ρ : Env) (ds : List D) (s : Store) : RS := match putL (is.map .n) ds ρ with
  | some ρ' => .ok .nx ρ' s
  | none => .bad
def kSet (i : Nat) (ρ : Env) (d : D) (s : Store) : RS := if i < ρ.length then .ok .nx (ρ.set i (some d)) s else .bad
def kAug (i : Nat) (op : Bop) (x : D) (ρ : Env) (y : D) (s : Store) : RS := match op, x, y with
  | .add, .int a, .int b => .ok .nx (ρ.set i (some (.int (a + b)))) s
  | .sub, .int a, .int b => .ok .nx (ρ.set i (some (.int (a - b)))) s
  | _, _, _ => .bad
/-- turns of a while, at most -/
def most : Nat := 2 ^ 70000
mutual
def evS (G : Nat → Option D) (call : Call) : Sm → Env → Store → RS
  | .set i e, ρ, s => (ev G call e ρ s).thn ρ (kSet i ρ)
  | .par is es, ρ, s => (evL G call es ρ s).thn ρ (kPar is ρ)
  | .unp t e, ρ, s => (ev G call e ρ s).thn ρ (kPut t ρ)
  | .sub o i e, ρ, s => (ev G call e ρ s).thn ρ fun d s1 => evSub G call o i d ρ s1
  | .subs ts e, ρ, s => (ev G call e ρ s).thn ρ (kSubs G call ts ρ)
  | .aug i op e, ρ, s => match ρ[i]? with
    | some (some x) => (ev G call e ρ s).thn ρ (kAug i op x ρ)
    | _ => .bad
  | .ex e, ρ, s => (ev G call e ρ s).thn ρ fun _ s1 => .ok .nx ρ s1
  | .ret e, ρ, s => (ev G call e ρ s).thn ρ fun d s1 => .ok (.rt d) ρ s1
  | .ite c a b, ρ, s => ((ev G call c ρ s).bind asB).thn ρ fun k s1 => if k = true then evSs G call a ρ s1 else evSs G call b ρ s1
  | .whl c b, ρ, s => loopN (fun ρ s => match (ev G call c ρ s).bind asB with
    | .ok true s1 => (evSs G call b ρ s1).turn
    | .ok false s1 => .fin (.ok .nx ρ s1)
    | .exc c s1 => .fin (.exc c ρ s1)
    | .bad => .fin .bad) most ρ s
  | .for_ t ib es b, ρ, s => ((evL G call es ρ s).bind fun ds s1 => match pIter s1 ib ds with | some c => R.ok c s1 | none => .bad).thn ρ fun src s1 => forL src.chk (fun x ρ s => match put t x ρ with
      | none => .fin .bad
      | some ρ1 => (evSs G call b ρ1 s).turn) src.list ρ s1
  | .raise c, ρ, s => .exc c ρ s
  | .dead _, _, _ => .bad
  | .brk, ρ, s => .ok .bk ρ s
  | .pass, ρ, s => .ok .nx ρ s
def evSs (G : Nat → Option D) (call : Call) : List Sm → Env → Store → RS
  | [], ρ, s => .ok .nx ρ s
  | a :: r, ρ, s => match evS G call a ρ s with
    | .ok .nx ρ' s' => evSs G call r ρ' s'
    | x => x
end

/-- a def: how many parameters, how many names, its body -/
structure Fn where
  np : Nat
  nn : Nat
  body : List Sm
structure Prog where
  G : Nat → Option D
  F : Nat → Option Fn
def runFn (G : Nat → Option D) (call : Call) (F : Fn) (ds : List D) (s : Store) : R D :=
  if ds.length = F.np then match evSs G call F.body (ds.map some ++ List.replicate (F.nn - F.np) none) s with
    | .ok .nx _ s1 => .ok .non s1
    | .ok (.rt d) _ s1 => .ok d s1
    | .ok .bk _ _ => .bad
    | .exc c _ s1 => .exc c s1
    | .bad => .bad
  else .bad
def run (P : Prog) : Nat → Call
  | 0, _, _, _ => .bad
  | n + 1, f, ds, s => match P.F f with
    | some F => runFn P.G (run P n) F ds s
    | none => .bad
end Pi

set_option Elab.async false
set_option linter.all false
set_option maxRecDepth 100000
namespace Pi
open PySem PySem.Spec PyProof.Rows L2

/-- a list that is known to the object, or of the module's own -/
def Kl (K : PySem.W.Frag) (H : Hp) (a : Addr) (vs : List V) : Prop :=
  (∃ o, H a = some (.frz o (.lst vs))) ∨
    ∃ (o : Obj) (its : Array Value) (n : Nat), K.lookup a = some o ∧ o.cls = .type "list" ∧ o.dict = none ∧ o.data = .seq its n ∧ its.size ≤ sizeLine ∧ Vals vs its.toList
theorem Kl.seq {K : PySem.W.Frag} {H : Hp} {a : Addr} {vs : List V} (h : Kl K H a vs) : SqL K H a vs := by
  rcases h with h | h
  · exact .inl (.inr h)
  · exact .inr h

/-- where the defs of the module stand -/
structure Sit where
  K : PySem.W.Frag
  FA : Nat → Option Addr

/-- which addresses the store's lists have, which ones nobody may hold -/
structure Wd where
  ms : List Addr
  hid : List Addr
def Wd.Out (w : Wd) (a : Addr) : Prop := a ∉ w.ms ∧ a ∉ w.hid
def Wd.add (w : Wd) (a : Addr) : Wd := ⟨w.ms ++ [a], w.hid⟩

mutual
/-- v is the data d -/
def Rep (S : Sit) (ms : Wd) (H : Hp) : D → V → Prop
  | .non, v => v = .non
  | .bl b, v => v = .bl b
  | .int i, v => v = .int i
  | .str x, v => v = .str x
  | .tup ds, v => ∃ a vs, v = .ref a ∧ SqT S.K H a vs ∧ RepL S ms H ds vs
  | .lst ds, v => ∃ a vs, v = .ref a ∧ H a = some (.lst vs) ∧ ms.Out a ∧ RepL S ms H ds vs
  | .klst ds, v => ∃ a vs, v = .ref a ∧ Kl S.K H a vs ∧ RepL S ms H ds vs
  | .ref n, v => ∃ a, v = .ref a ∧ ms.ms[n]? = some a
  | .fn f, v => ∃ a, v = .ref a ∧ S.FA f = some a
def RepL (S : Sit) (ms : Wd) (H : Hp) : List D → List V → Prop
  | [], vs => vs = []
  | d :: ds, vs => ∃ v r, vs = v :: r ∧ Rep S ms H d v ∧ RepL S ms H ds r
end

structure Nxt (ms : Wd) (H : Hp) (ms' : Wd) (H' : Hp) : Prop where
  pre : ∃ more, ms'.ms = ms.ms ++ more ∧ ∀ a ∈ more, H a = none
  hid : ∃ ex, ms'.hid = ex ++ ms.hid ∧ ∀ a ∈ ex, H a = none
  ext : ∀ b o, H b = some o → H' b = some o ∨ (b ∈ ms.ms ∧ ∃ xs ys, o = .lst xs ∧ H' b = some (.lst ys))

structure StOk (S : Sit) (ms : Wd) (H : Hp) (s : Store) : Prop where
  len : ms.ms.length = s.length
  nd : ms.ms.Nodup
  hidden : ∀ a ∈ ms.hid, ∃ o, H a = some o
  cell : ∀ (n : Nat) (xs : List D), s[n]? = some xs → ∃ a vs, ms.ms[n]? = some a ∧ H a = some (.lst vs) ∧ RepL S ms H xs vs

structure EnvOk (S : Sit) (ms : Wd) (H : Hp) (ρ : Env) (σ : L2.St) : Prop where
  len : σ.length = ρ.length
  at_ : ∀ (i : Nat) (d : D), ρ[i]? = some (some d) → ∃ v, σ[i]? = some (some v) ∧ Rep S ms H d v

theorem Nxt.refl {ms : Wd} {H : Hp} : Nxt ms H ms H := ⟨⟨[], by simp, by simp⟩, ⟨[], by simp, by simp⟩, fun _ _ h => .inl h⟩
theorem Nxt.trans {ms ms1 ms2 : Wd} {H H1 H2 : Hp} (a : Nxt ms H ms1 H1) (b : Nxt ms1 H1 ms2 H2) : Nxt ms H ms2 H2 := by
  obtain ⟨m1, e1, f1⟩ := a.pre
  obtain ⟨m2, e2, f2⟩ := b.pre
  obtain ⟨x1, d1, g1⟩ := a.hid
  obtain ⟨x2, d2, g2⟩ := b.hid
  have back : ∀ x, H1 x = none → H x = none := fun x z => by
    cases q : H x with
    | none => rfl
    | some o => rcases a.ext x o q with w | ⟨_, xs, ys, _, w⟩ <;> rw [w] at z <;> cases z
  refine ⟨⟨m1 ++ m2, by rw [e2, e1, List.append_assoc], fun x hx => ?_⟩, ⟨x2 ++ x1, by rw [d2, d1, List.append_assoc], fun x hx => ?_⟩, fun x o hx => ?_⟩
  · rcases List.mem_append.mp hx with h | h
    · exact f1 x h
    · exact back x (f2 x h)
  · rcases List.mem_append.mp hx with h | h
    · exact back x (g2 x h)
    · exact g1 x h
  · rcases a.ext x o hx with w | ⟨hm, xs, ys, e, w⟩
    · rcases b.ext x o w with w2 | ⟨hm2, xs, ys, e, w2⟩
      · exact .inl w2
      · refine .inr ⟨?_, xs, ys, e, w2⟩
        rw [e1] at hm2
        rcases List.mem_append.mp hm2 with h | h
        · exact h
        · rw [f1 x h] at hx; cases hx
    · rcases b.ext x _ w with w2 | ⟨_, xs', ys', e', w2⟩
      · exact .inr ⟨hm, xs, ys, e, w2⟩
      · exact .inr ⟨hm, xs, ys', e, w2⟩
theorem Nxt.keep {ms ms' : Wd} {H H' : Hp} (n : Nxt ms H ms' H') {b : Addr} {o : HO} (h : H b = some o) (hb : b ∉ ms.ms) : H' b = some o := by
  rcases n.ext b o h with w | ⟨hm, _⟩
  · exact w
  · exact absurd hm hb
theorem Nxt.tup {ms ms' : Wd} {H H' : Hp} (n : Nxt ms H ms' H') {K : PySem.W.Frag} {a : Addr} {vs : List V} (h : SqT K H a vs) : SqT K H' a vs := by
  rcases h with (h | ⟨o, h⟩) | h
  · rcases n.ext a _ h with w | ⟨_, _, _, e, _⟩
    · exact .inl (.inl w)
    · cases e
  · rcases n.ext a _ h with w | ⟨_, _, _, e, _⟩
    · exact .inl (.inr ⟨o, w⟩)
    · cases e
  · exact .inr h
theorem Nxt.kl {ms ms' : Wd} {H H' : Hp} (n : Nxt ms H ms' H') {K : PySem.W.Frag} {a : Addr} {vs : List V} (h : Kl K H a vs) : Kl K H' a vs := by
  rcases h with ⟨o, h⟩ | h
  · rcases n.ext a _ h with w | ⟨_, _, _, e, _⟩
    · exact .inl ⟨o, w⟩
    · cases e
  · exact .inr h
theorem Nxt.notin {ms ms' : Wd} {H H' : Hp} (n : Nxt ms H ms' H') {a : Addr} {o : HO} (h : H a = some o) (hb : ms.Out a) : ms'.Out a := by
  obtain ⟨m, e, f⟩ := n.pre
  obtain ⟨x, d, k⟩ := n.hid
  refine ⟨?_, fun z => ?_⟩
  rotate_left
  · rw [d] at z
    rcases List.mem_append.mp z with z | z
    · rw [k a z] at h; cases h
    · exact hb.2 z
  rw [e]
  intro hx
  rcases List.mem_append.mp hx with z | z
  · exact hb.1 z
  · rw [f a z] at h; cases h
theorem Nxt.ix {ms ms' : Wd} {H H' : Hp} (n : Nxt ms H ms' H') {i : Nat} {a : Addr} (h : ms.ms[i]? = some a) : ms'.ms[i]? = some a := by
  obtain ⟨m, e, f⟩ := n.pre
  rw [e, List.getElem?_append_left (List.getElem?_eq_some_iff.mp h).1]
  exact h

theorem Nxt.hiddenK {ms ms' : Wd} {H H' : Hp} (n : Nxt ms H ms' H') (h : ∀ a ∈ ms.hid, ∃ o, H a = some o) (e : ms'.hid = ms.hid) : ∀ a ∈ ms'.hid, ∃ o, H' a = some o := fun a ha => by
  rw [e] at ha
  obtain ⟨o, e⟩ := h a ha
  rcases n.ext a o e with w | ⟨_, _, ys, _, w⟩
  · exact ⟨o, w⟩
  · exact ⟨_, w⟩

section
variable {S : Sit} {ms ms' : Wd} {H H' : Hp}
mutual
theorem Rep.mono (hl : ∀ a vs, H a = some (.lst vs) → ms.Out a → H' a = some (.lst vs) ∧ ms'.Out a) (ht : ∀ a vs, SqT S.K H a vs → SqT S.K H' a vs) (hk : ∀ a vs, Kl S.K H a vs → Kl S.K H' a vs) (hi : ∀ (i : Nat) (a : Addr), ms.ms[i]? = some a → ms'.ms[i]? = some a) :
    ∀ (d : D) (v : V), Rep S ms H d v → Rep S ms' H' d v
  | .non, _, h => h
  | .bl _, _, h => h
  | .int _, _, h => h
  | .str _, _, h => h
  | .tup ds, v, h => by
    obtain ⟨a, vs, e, q, r⟩ := h
    exact ⟨a, vs, e, ht a vs q, RepL.mono hl ht hk hi ds vs r⟩
  | .lst ds, v, h => by
    obtain ⟨a, vs, e, q, m, r⟩ := h
    obtain ⟨z1, z2⟩ := hl a vs q m
    exact ⟨a, vs, e, z1, z2, RepL.mono hl ht hk hi ds vs r⟩
  | .klst ds, v, h => by
    obtain ⟨a, vs, e, q, r⟩ := h
    exact ⟨a, vs, e, hk a vs q, RepL.mono hl ht hk hi ds vs r⟩
  | .ref _, v, h => by
    obtain ⟨a, e, q⟩ := h
    exact ⟨a, e, hi _ _ q⟩
  | .fn _, _, h => h
theorem RepL.mono (hl : ∀ a vs, H a = some (.lst vs) → ms.Out a → H' a = some (.lst vs) ∧ ms'.Out a) (ht : ∀ a vs, SqT S.K H a vs → SqT S.K H' a vs) (hk : ∀ a vs, Kl S.K H a vs → Kl S.K H' a vs) (hi : ∀ (i : Nat) (a : Addr), ms.ms[i]? = some a → ms'.ms[i]? = some a) :
    ∀ (ds : List D) (vs : List V), RepL S ms H ds vs → RepL S ms' H' ds vs
  | [], _, h => h
  | d :: ds, _, h => by
    obtain ⟨v, r, e, q, w⟩ := h
    exact ⟨v, r, e, Rep.mono hl ht hk hi d v q, RepL.mono hl ht hk hi ds r w⟩
end
end

section
variable {S : Sit} {ms ms' : Wd} {H H' : Hp}
mutual
theorem Rep.nxt (n : Nxt ms H ms' H') : ∀ (d : D) (v : V), Rep S ms H d v → Rep S ms' H' d v
  | .non, _, h => h
  | .bl _, _, h => h
  | .int _, _, h => h
  | .str _, _, h => h
  | .tup ds, v, h => by
    obtain ⟨a, vs, e, q, r⟩ := h
    exact ⟨a, vs, e, n.tup q, RepL.nxt n ds vs r⟩
  | .lst ds, v, h => by
    obtain ⟨a, vs, e, q, m, r⟩ := h
    exact ⟨a, vs, e, n.keep q m.1, n.notin q m, RepL.nxt n ds vs r⟩
  | .klst ds, v, h => by
    obtain ⟨a, vs, e, q, r⟩ := h
    exact ⟨a, vs, e, n.kl q, RepL.nxt n ds vs r⟩
  | .ref _, v, h => by
    obtain ⟨a, e, q⟩ := h
    exact ⟨a, e, n.ix q⟩
  | .fn _, _, h => h
theorem RepL.nxt (n : Nxt ms H ms' H') : ∀ (ds : List D) (vs : List V), RepL S ms H ds vs → RepL S ms' H' ds vs
  | [], _, h => h
  | d :: ds, _, h => by
    obtain ⟨v, r, e, q, w⟩ := h
    exact ⟨v, r, e, Rep.nxt n d v q, RepL.nxt n ds r w⟩
end
theorem EnvOk.nxt {ρ : Env} {σ : L2.St} (e : EnvOk S ms H ρ σ) (n : Nxt ms H ms' H') : EnvOk S ms' H' ρ σ :=
  ⟨e.len, fun i d h => let ⟨v, h1, h2⟩ := e.at_ i d h; ⟨v, h1, Rep.nxt n d v h2⟩⟩
theorem RepL.length : ∀ {ds : List D} {vs : List V}, RepL S ms H ds vs → ds.length = vs.length
  | [], _, h => by cases h; rfl
  | d :: ds, _, h => by
    obtain ⟨v, r, e, q, w⟩ := h
    subst e
    simp [RepL.length w]
theorem RepL.get : ∀ {ds : List D} {vs : List V} {i : Nat} {d : D}, RepL S ms H ds vs → ds[i]? = some d → ∃ v, vs[i]? = some v ∧ Rep S ms H d v
  | [], _, _, _, _, e => by simp at e
  | d :: ds, _, i, d', h, e => by
    obtain ⟨v, r, e1, q, w⟩ := h
    subst e1
    cases i with
    | zero => simp at e; subst e; exact ⟨v, rfl, q⟩
    | succ i =>
      obtain ⟨v', h1, h2⟩ := RepL.get (i := i) (d := d') w (by simpa using e)
      exact ⟨v', by simpa using h1, h2⟩
theorem RepL.app : ∀ {ds es : List D} {vs us : List V}, RepL S ms H ds vs → RepL S ms H es us → RepL S ms H (ds ++ es) (vs ++ us)
  | [], _, _, _, h, k => by cases h; exact k
  | d :: ds, _, _, _, h, k => by
    obtain ⟨v, r, e1, q, w⟩ := h
    subst e1
    exact ⟨v, r ++ _, rfl, q, RepL.app w k⟩
theorem RepL.drop : ∀ {ds : List D} {vs : List V} (n : Nat), RepL S ms H ds vs → RepL S ms H (ds.drop n) (vs.drop n)
  | _, _, 0, h => h
  | [], _, n + 1, h => by cases h; rfl
  | d :: ds, _, n + 1, h => by
    obtain ⟨v, r, e1, q, w⟩ := h
    subst e1
    exact RepL.drop n w
theorem RepL.take : ∀ {ds : List D} {vs : List V} (n : Nat), RepL S ms H ds vs → RepL S ms H (ds.take n) (vs.take n)
  | _, _, 0, h => rfl
  | [], _, n + 1, h => by cases h; rfl
  | d :: ds, _, n + 1, h => by
    obtain ⟨v, r, e1, q, w⟩ := h
    subst e1
    exact ⟨v, r.take n, rfl, q, RepL.take n w⟩
theorem RepL.setI : ∀ {ds : List D} {vs : List V} {d : D} {v : V} (i : Nat), RepL S ms H ds vs → Rep S ms H d v → RepL S ms H (ds.set i d) (vs.set i v)
  | [], _, _, _, _, h, _ => by cases h; rfl
  | d :: ds, _, d', v', i, h, k => by
    obtain ⟨v, r, e1, q, w⟩ := h
    subst e1
    cases i with
    | zero => exact ⟨v', r, rfl, k, w⟩
    | succ i => exact ⟨v, r.set i v', rfl, q, RepL.setI i w k⟩
theorem RepL.erase : ∀ {ds : List D} {vs : List V} (i : Nat), RepL S ms H ds vs → RepL S ms H (ds.eraseIdx i) (vs.eraseIdx i)
  | [], _, _, h => by cases h; rfl
  | d :: ds, _, i, h => by
    obtain ⟨v, r, e1, q, w⟩ := h
    subst e1
    cases i with
    | zero => exact w
    | succ i => exact ⟨v, r.eraseIdx i, rfl, q, RepL.erase i w⟩
theorem RepL.last {ds : List D} {vs : List V} (h : RepL S ms H ds vs) : RepL S ms H ds.dropLast vs.dropLast := by
  rw [List.dropLast_eq_take, List.dropLast_eq_take, h.length]
  exact h.take _
theorem RepL.one {d : D} {v : V} (h : Rep S ms H d v) : RepL S ms H [d] [v] := ⟨v, [], rfl, h, rfl⟩
end

section
variable {S : Sit} {ms ms' : Wd} {H H' : Hp} {s : Store}
theorem StOk.there (o : StOk S ms H s) {a : Addr} (h : a ∈ ms.ms) : ∃ vs, H a = some (.lst vs) := by
  obtain ⟨n, hn⟩ := List.mem_iff_getElem?.mp h
  have hl : n < s.length := by rw [← o.len]; exact (List.getElem?_eq_some_iff.mp hn).1
  obtain ⟨a', vs, e, q, _⟩ := o.cell n _ (List.getElem?_eq_getElem hl)
  rw [hn] at e; cases e
  exact ⟨vs, q⟩
/-- something new, tracked, that is no list of the store -/
theorem Nxt.new {a : Addr} {o : HO} (h : H a = none) : Nxt ms H ms (upd H a o) := ⟨⟨[], by simp, by simp⟩, ⟨[], by simp, by simp⟩, fun b u e => .inl (by rw [upd_ne (ne_of_none e h)]; exact e)⟩
theorem StOk.nxt (o : StOk S ms H s) (k : ∀ a ∈ ms.ms, H' a = H a) (n : Nxt ms H ms H') : StOk S ms H' s :=
  ⟨o.len, o.nd, n.hiddenK o.hidden rfl, fun i xs e => by
    obtain ⟨a, vs, e1, e2, r⟩ := o.cell i xs e
    exact ⟨a, vs, e1, by rw [k a (List.mem_of_getElem? e1)]; exact e2, RepL.nxt n xs vs r⟩⟩
theorem StOk.new (ok : StOk S ms H s) {a : Addr} {o : HO} (h : H a = none) : StOk S ms (upd H a o) s :=
  ok.nxt (fun b hb => by
    obtain ⟨vs, e⟩ := ok.there hb
    rw [upd_ne (ne_of_none e h)]) (Nxt.new h)
/-- a new list of the store -/
theorem Nxt.cell {a : Addr} {vs : List V} (h : H a = none) : Nxt ms H (ms.add a) (upd H a (.lst vs)) :=
  ⟨⟨[a], rfl, fun b hb => by rw [List.mem_singleton.mp hb]; exact h⟩, ⟨[], by simp [Wd.add], by simp⟩, fun b u e => .inl (by rw [upd_ne (ne_of_none e h)]; exact e)⟩
theorem StOk.cellNew (ok : StOk S ms H s) {a : Addr} {vs : List V} {xs : List D} (h : H a = none) (r : RepL S ms H xs vs) : StOk S (ms.add a) (upd H a (.lst vs)) (s ++ [xs]) := by
  refine ⟨by simp [Wd.add, ok.len], ?_, (Nxt.cell h).hiddenK ok.hidden rfl, fun n ys e => ?_⟩
  · refine List.nodup_append.mpr ⟨ok.nd, by simp, fun b hb c hc => ?_⟩
    obtain ⟨ws, q⟩ := ok.there hb
    rw [List.mem_singleton.mp hc]
    exact ne_of_none q h
  · by_cases hn : n < s.length
    · rw [List.getElem?_append_left hn] at e
      obtain ⟨b, ws, e1, e2, r'⟩ := ok.cell n ys e
      exact ⟨b, ws, by show (ms.ms ++ [a])[n]? = _; rw [List.getElem?_append_left (by rw [ok.len]; exact hn)]; exact e1, by rw [upd_ne (ne_of_none e2 h)]; exact e2, RepL.nxt (Nxt.cell h) ys ws r'⟩
    · rw [List.getElem?_append_right (by omega)] at e
      have hz : n - s.length = 0 := by
        cases q : n - s.length with
        | zero => rfl
        | succ k => rw [q] at e; simp at e
      rw [hz] at e
      simp at e
      subst e
      have : n = ms.ms.length := by rw [ok.len]; omega
      subst this
      exact ⟨a, vs, by simp [Wd.add], upd_same, RepL.nxt (Nxt.cell h) xs vs r⟩
/-- a list of the store is changed -/
theorem Nxt.chg (ok : StOk S ms H s) {n : Nat} {a : Addr} {vs ws : List V} (hn : ms.ms[n]? = some a) (h : H a = some (.lst vs)) : Nxt ms H ms (upd H a (.lst ws)) :=
  ⟨⟨[], by simp, by simp⟩, ⟨[], by simp, by simp⟩, fun b u e => by
    by_cases hb : b = a
    · subst hb
      rw [h] at e; cases e
      exact .inr ⟨List.mem_of_getElem? hn, vs, ws, rfl, upd_same⟩
    · exact .inl (by rw [upd_ne hb]; exact e)⟩
theorem StOk.chg (ok : StOk S ms H s) {n : Nat} {a : Addr} {vs ws : List V} {ys : List D} (hn : ms.ms[n]? = some a) (h : H a = some (.lst vs)) (r : RepL S ms H ys ws) : StOk S ms (upd H a (.lst ws)) (s.set n ys) := by
  have nx : Nxt ms H ms (upd H a (.lst ws)) := Nxt.chg ok hn h
  refine ⟨by simp [ok.len], ok.nd, nx.hiddenK ok.hidden rfl, fun i xs e => ?_⟩
  by_cases hi : i = n
  · subst hi
    have hl : i < s.length := by rw [← ok.len]; exact (List.getElem?_eq_some_iff.mp hn).1
    rw [List.getElem?_set_self hl] at e
    cases e
    exact ⟨a, ws, hn, upd_same, RepL.nxt nx _ ws r⟩
  · rw [List.getElem?_set_ne (Ne.symm hi)] at e
    obtain ⟨b, us, e1, e2, r'⟩ := ok.cell i xs e
    have hb : b ≠ a := by
      intro z
      subst z
      exact hi (nd_ix ok.nd e1 hn)
    exact ⟨b, us, e1, by rw [upd_ne hb]; exact e2, RepL.nxt nx xs us r'⟩
end

section
variable {S : Sit} {ms : Wd} {H : Hp} {s : Store}
/-- fewer are hidden -/
theorem RepL.less {hid : List Addr} (h : ∀ a ∈ hid, a ∈ ms.hid) {ds : List D} {vs : List V} (r : RepL S ms H ds vs) : RepL S ⟨ms.ms, hid⟩ H ds vs :=
  RepL.mono (ms := ms) (ms' := ⟨ms.ms, hid⟩) (fun _ _ e o => ⟨e, o.1, fun z => o.2 (h _ z)⟩) (fun _ _ z => z) (fun _ _ z => z) (fun _ _ z => z) ds vs r
theorem StOk.less {hid : List Addr} (h : ∀ a ∈ hid, a ∈ ms.hid) (o : StOk S ms H s) : StOk S ⟨ms.ms, hid⟩ H s :=
  ⟨o.len, o.nd, fun a ha => o.hidden a (h a ha), fun n xs e => let ⟨a, vs, e1, e2, r⟩ := o.cell n xs e; ⟨a, vs, e1, e2, r.less h⟩⟩
/-- one more is hidden: a new list -/
def Wd.hide (w : Wd) (a : Addr) : Wd := ⟨w.ms, a :: w.hid⟩
theorem Nxt.hide {a : Addr} {o : HO} (h : H a = none) : Nxt ms H (ms.hide a) (upd H a o) :=
  ⟨⟨[], by simp [Wd.hide], by simp⟩, ⟨[a], rfl, fun b hb => by rw [List.mem_singleton.mp hb]; exact h⟩, fun b u e => .inl (by rw [upd_ne (ne_of_none e h)]; exact e)⟩
theorem StOk.hide {a : Addr} {o : HO} (ok : StOk S ms H s) (h : H a = none) : StOk S (ms.hide a) (upd H a o) s :=
  ⟨ok.len, ok.nd, fun b hb => by
    rcases List.mem_cons.mp hb with e | hb
    · exact ⟨o, by rw [e]; exact upd_same⟩
    · obtain ⟨u, e⟩ := ok.hidden b hb
      exact ⟨u, by rw [upd_ne (ne_of_none e h)]; exact e⟩, fun i xs e => by
    obtain ⟨b, vs, e1, e2, r⟩ := ok.cell i xs e
    exact ⟨b, vs, e1, by rw [upd_ne (ne_of_none e2 h)]; exact e2, RepL.nxt (Nxt.hide h) xs vs r⟩⟩
/-- the hidden list is changed -/
theorem RepL.hid {a : Addr} {vs ws : List V} (ha : a ∈ ms.hid) (h : H a = some (.lst vs)) {ds : List D} {us : List V} (r : RepL S ms H ds us) : RepL S ms (upd H a (.lst ws)) ds us :=
  RepL.mono (fun b zs e o => ⟨by rw [upd_ne fun z => o.2 (by rw [z]; exact ha)]; exact e, o⟩)
    (fun b zs q => by
      rcases q with (q | ⟨u, q⟩) | q
      · exact .inl (.inl (by rw [upd_ne fun z => by rw [z, h] at q; cases q]; exact q))
      · exact .inl (.inr ⟨u, by rw [upd_ne fun z => by rw [z, h] at q; cases q]; exact q⟩)
      · exact .inr q)
    (fun b zs q => by
      rcases q with ⟨u, q⟩ | q
      · exact .inl ⟨u, by rw [upd_ne fun z => by rw [z, h] at q; cases q]; exact q⟩
      · exact .inr q) (fun _ _ z => z) ds us r
theorem Rep.hid {a : Addr} {vs ws : List V} (ha : a ∈ ms.hid) (h : H a = some (.lst vs)) {d : D} {u : V} (r : Rep S ms H d u) : Rep S ms (upd H a (.lst ws)) d u := by
  obtain ⟨v, t, e, q, _⟩ := RepL.hid (ws := ws) ha h (RepL.one r)
  cases e
  exact q
theorem StOk.hid {a : Addr} {vs ws : List V} (o : StOk S ms H s) (ha : a ∈ ms.hid) (hm : a ∉ ms.ms) (h : H a = some (.lst vs)) : StOk S ms (upd H a (.lst ws)) s :=
  ⟨o.len, o.nd, fun b hb => by
    by_cases e : b = a
    · exact ⟨_, by rw [e]; exact upd_same⟩
    · obtain ⟨u, q⟩ := o.hidden b hb
      exact ⟨u, by rw [upd_ne e]; exact q⟩, fun i xs e => by
    obtain ⟨b, us, e1, e2, r⟩ := o.cell i xs e
    have hb : b ≠ a := fun z => hm (by rw [← z]; exact List.mem_of_getElem? e1)
    exact ⟨b, us, e1, by rw [upd_ne hb]; exact e2, r.hid ha h⟩⟩
theorem EnvOk.hid {a : Addr} {vs ws : List V} {ρ : Env} {σ : L2.St} (o : EnvOk S ms H ρ σ) (ha : a ∈ ms.hid) (h : H a = some (.lst vs)) : EnvOk S ms (upd H a (.lst ws)) ρ σ :=
  ⟨o.len, fun i d e => let ⟨v, h1, h2⟩ := o.at_ i d e; ⟨v, h1, h2.hid ha h⟩⟩
end

/-- a class of errors that is told by c -/
abbrev XOk (XA : Nat → Option Addr) (c : Nat) (cls : Value) : Prop := ∃ a, XA c = some a ∧ cls = .ref a

/-- what is asked of an answer -/
def Post (S : Sit) (XA : Nat → Option Addr) (ms : Wd) (H : Hp) {α β : Type} (RR : Wd → Hp → α → β → Prop) (E : XK) (Q : β → Hp → Prop) : R α → Prop
  | .ok a s => ∀ b ms' H', Nxt ms H ms' H' → StOk S ms' H' s → RR ms' H' a b → Q b H'
  | .exc c s => ∀ cls dx ms' H', Nxt ms H ms' H' → StOk S ms' H' s → XOk XA c cls → E cls dx H'
  | .bad => False
section
variable {S : Sit} {XA : Nat → Option Addr} {ms ms1 : Wd} {H H1 : Hp} {α β γ δ : Type} {RR : Wd → Hp → α → β → Prop} {E : XK} {Q Q' : β → Hp → Prop} {r : R α}
theorem Post.nxt (p : Post S XA ms H RR E Q r) (n : Nxt ms H ms1 H1) : Post S XA ms1 H1 RR E Q r := by
  cases r with
  | ok a s => exact fun b ms' H' n' => p b ms' H' (n.trans n')
  | exc c s => exact fun cls dx ms' H' n' => p cls dx ms' H' (n.trans n')
  | bad => exact p
/-- behind the first, the second -/
theorem Post.bind {R2 : Wd → Hp → γ → δ → Prop} {Q2 : δ → Hp → Prop} {k : α → Store → R γ} (p : Post S XA ms H R2 E Q2 (r.bind k))
    (h : ∀ a s b ms' H', r = .ok a s → Nxt ms H ms' H' → StOk S ms' H' s → RR ms' H' a b → Post S XA ms' H' R2 E Q2 (k a s) → Q b H') : Post S XA ms H RR E Q r := by
  cases r with
  | ok a s => exact fun b ms' H' n o rr => h a s b ms' H' rfl n o rr (p.nxt n)
  | exc c s => exact p
  | bad => exact p
end
end Pi

set_option Elab.async false
set_option linter.all false
set_option maxRecDepth 100000
namespace Pi
open PySem PySem.Spec PyProof.Rows L2

mutual
def toPy : D → PyData
  | .non => .none
  | .bl b => .bool b
  | .int i => .int i
  | .str x => .str x
  | .tup xs => .tuple (toPyL xs)
  | .lst xs => .list (toPyL xs)
  | .klst xs => .list (toPyL xs)
  | .ref _ => .none
  | .fn _ => .none
def toPyL : List D → List PyData
  | [] => []
  | x :: xs => toPy x :: toPyL xs
end
mutual
theorem toPy_lay : ∀ (n : Nat) (d : D), plain n d = true → (toPy d).canLay0 = true ∧ (toPy d).depth ≤ n
  | n, .non, _ => by simp [toPy, PyData.canLay0, PyData.depth]
  | n, .bl _, _ => by simp [toPy, PyData.canLay0, PyData.depth]
  | n, .int _, _ => by simp [toPy, PyData.canLay0, PyData.depth]
  | n, .str x, h => by
    have h : okStr x = true := by cases n <;> simpa [plain] using h
    simp only [toPy, PyData.canLay0, PyData.depth]
    exact ⟨h, Nat.zero_le _⟩
  | 0, .tup xs, h => by simp [plain] at h
  | n + 1, .tup xs, h => by
    have q := toPyL_lay n xs (by simpa [plain] using h)
    simp only [toPy, PyData.canLay0, PyData.depth]
    exact ⟨q.1, by omega⟩
  | 0, .lst xs, h => by simp [plain] at h
  | n + 1, .lst xs, h => by
    have q := toPyL_lay n xs (by simpa [plain] using h)
    simp only [toPy, PyData.canLay0, PyData.depth]
    exact ⟨q.1, by omega⟩
  | 0, .klst xs, h => by simp [plain] at h
  | n + 1, .klst xs, h => by
    have q := toPyL_lay n xs (by simpa [plain] using h)
    simp only [toPy, PyData.canLay0, PyData.depth]
    exact ⟨q.1, by omega⟩
  | n, .ref _, h => by cases n <;> simp [plain] at h
  | n, .fn _, h => by cases n <;> simp [plain] at h
theorem toPyL_lay : ∀ (n : Nat) (ds : List D), plainL n ds = true → PyData.canLayAll0 (toPyL ds) = true ∧ PyData.depthAll (toPyL ds) ≤ n
  | n, [], _ => by simp [toPyL, PyData.canLayAll0, PyData.depthAll]
  | n, d :: ds, h => by
    simp only [plainL, Bool.and_eq_true] at h
    have q1 := toPy_lay n d h.1
    have q2 := toPyL_lay n ds h.2
    simp only [toPyL, PyData.canLayAll0, PyData.depthAll, Bool.and_eq_true]
    exact ⟨⟨q1.1, q2.1⟩, by omega⟩
end
mutual
theorem eqv_py : ∀ (n m : Nat) (d e : D), plain n d = true → plain m e = true → PyData.eqv (toPy d) (toPy e) = eqv d e
  | n, m, .ref _, _, h, _ => by cases n <;> simp [plain] at h
  | n, m, .fn _, _, h, _ => by cases n <;> simp [plain] at h
  | n, m, d, .ref _, _, h => by cases m <;> simp [plain] at h
  | n, m, d, .fn _, _, h => by cases m <;> simp [plain] at h
  | n, m, .non, .non, _, _ => by simp [toPy, PyData.eqv, eqv]
  | n, m, .non, .bl _, _, _ => by simp [toPy, PyData.eqv, eqv]
  | n, m, .non, .int _, _, _ => by simp [toPy, PyData.eqv, eqv]
  | n, m, .non, .str _, _, _ => by simp [toPy, PyData.eqv, eqv]
  | n, m, .non, .tup _, _, _ => by simp [toPy, PyData.eqv, eqv]
  | n, m, .non, .lst _, _, _ => by simp [toPy, PyData.eqv, eqv]
  | n, m, .non, .klst _, _, _ => by simp [toPy, PyData.eqv, eqv]
  | n, m, .bl _, .non, _, _ => by simp [toPy, PyData.eqv, eqv]
  | n, m, .bl _, .bl _, _, _ => by simp [toPy, PyData.eqv, eqv]
  | n, m, .bl a, .int _, _, _ => by cases a <;> simp [toPy, PyData.eqv, eqv, b2i]
  | n, m, .bl _, .str _, _, _ => by simp [toPy, PyData.eqv, eqv]
  | n, m, .bl _, .tup _, _, _ => by simp [toPy, PyData.eqv, eqv]
  | n, m, .bl _, .lst _, _, _ => by simp [toPy, PyData.eqv, eqv]
  | n, m, .bl _, .klst _, _, _ => by simp [toPy, PyData.eqv, eqv]
  | n, m, .int _, .non, _, _ => by simp [toPy, PyData.eqv, eqv]
  | n, m, .int _, .bl a, _, _ => by cases a <;> simp [toPy, PyData.eqv, eqv, b2i]
  | n, m, .int i, .int j, _, _ => by
    simp only [toPy, PyData.eqv, eqv]
    by_cases h : i = j <;> simp [h]
  | n, m, .int _, .str _, _, _ => by simp [toPy, PyData.eqv, eqv]
  | n, m, .int _, .tup _, _, _ => by simp [toPy, PyData.eqv, eqv]
  | n, m, .int _, .lst _, _, _ => by simp [toPy, PyData.eqv, eqv]
  | n, m, .int _, .klst _, _, _ => by simp [toPy, PyData.eqv, eqv]
  | n, m, .str _, .non, _, _ => by simp [toPy, PyData.eqv, eqv]
  | n, m, .str _, .bl _, _, _ => by simp [toPy, PyData.eqv, eqv]
  | n, m, .str _, .int _, _, _ => by simp [toPy, PyData.eqv, eqv]
  | n, m, .str _, .str _, _, _ => by simp [toPy, PyData.eqv, eqv]
  | n, m, .str _, .tup _, _, _ => by simp [toPy, PyData.eqv, eqv]
  | n, m, .str _, .lst _, _, _ => by simp [toPy, PyData.eqv, eqv]
  | n, m, .str _, .klst _, _, _ => by simp [toPy, PyData.eqv, eqv]
  | n, m, .tup _, .non, _, _ => by simp [toPy, PyData.eqv, eqv]
  | n, m, .tup _, .bl _, _, _ => by simp [toPy, PyData.eqv, eqv]
  | n, m, .tup _, .int _, _, _ => by simp [toPy, PyData.eqv, eqv]
  | n, m, .tup _, .str _, _, _ => by simp [toPy, PyData.eqv, eqv]
  | 0, m, .tup _, .tup _, h, _ => by simp [plain] at h
  | n + 1, 0, .tup _, .tup _, _, h => by simp [plain] at h
  | n + 1, m + 1, .tup xs, .tup ys, h1, h2 => by
    simp only [toPy, PyData.eqv, eqv]
    exact eqvL_py n m xs ys (by simpa [plain] using h1) (by simpa [plain] using h2)
  | n, m, .tup _, .lst _, _, _ => by simp [toPy, PyData.eqv, eqv]
  | n, m, .tup _, .klst _, _, _ => by simp [toPy, PyData.eqv, eqv]
  | n, m, .lst _, .non, _, _ => by simp [toPy, PyData.eqv, eqv]
  | n, m, .lst _, .bl _, _, _ => by simp [toPy, PyData.eqv, eqv]
  | n, m, .lst _, .int _, _, _ => by simp [toPy, PyData.eqv, eqv]
  | n, m, .lst _, .str _, _, _ => by simp [toPy, PyData.eqv, eqv]
  | n, m, .lst _, .tup _, _, _ => by simp [toPy, PyData.eqv, eqv]
  | 0, m, .lst _, .lst _, h, _ => by simp [plain] at h
  | n + 1, 0, .lst _, .lst _, _, h => by simp [plain] at h
  | n + 1, m + 1, .lst xs, .lst ys, h1, h2 => by
    simp only [toPy, PyData.eqv, eqv]
    exact eqvL_py n m xs ys (by simpa [plain] using h1) (by simpa [plain] using h2)
  | 0, m, .lst _, .klst _, h, _ => by simp [plain] at h
  | n + 1, 0, .lst _, .klst _, _, h => by simp [plain] at h
  | n + 1, m + 1, .lst xs, .klst ys, h1, h2 => by
    simp only [toPy, PyData.eqv, eqv]
    exact eqvL_py n m xs ys (by simpa [plain] using h1) (by simpa [plain] using h2)
  | n, m, .klst _, .non, _, _ => by simp [toPy, PyData.eqv, eqv]
  | n, m, .klst _, .bl _, _, _ => by simp [toPy, PyData.eqv, eqv]
  | n, m, .klst _, .int _, _, _ => by simp [toPy, PyData.eqv, eqv]
  | n, m, .klst _, .str _, _, _ => by simp [toPy, PyData.eqv, eqv]
  | n, m, .klst _, .tup _, _, _ => by simp [toPy, PyData.eqv, eqv]
  | 0, m, .klst _, .lst _, h, _ => by simp [plain] at h
  | n + 1, 0, .klst _, .lst _, _, h => by simp [plain] at h
  | n + 1, m + 1, .klst xs, .lst ys, h1, h2 => by
    simp only [toPy, PyData.eqv, eqv]
    exact eqvL_py n m xs ys (by simpa [plain] using h1) (by simpa [plain] using h2)
  | 0, m, .klst _, .klst _, h, _ => by simp [plain] at h
  | n + 1, 0, .klst _, .klst _, _, h => by simp [plain] at h
  | n + 1, m + 1, .klst xs, .klst ys, h1, h2 => by
    simp only [toPy, PyData.eqv, eqv]
    exact eqvL_py n m xs ys (by simpa [plain] using h1) (by simpa [plain] using h2)
theorem eqvL_py : ∀ (n m : Nat) (d e : List D), plainL n d = true → plainL m e = true → PyData.eqvAll (toPyL d) (toPyL e) = eqvL d e
  | _, _, [], [], _, _ => by simp [toPyL, PyData.eqvAll, eqvL]
  | _, _, [], _ :: _, _, _ => by simp [toPyL, PyData.eqvAll, eqvL]
  | _, _, _ :: _, [], _, _ => by simp [toPyL, PyData.eqvAll, eqvL]
  | n, m, x :: xs, y :: ys, h1, h2 => by
    simp only [plainL, Bool.and_eq_true] at h1 h2
    simp only [toPyL, PyData.eqvAll, eqvL]
    rw [eqv_py n m x y h1.1 h2.1, eqvL_py n m xs ys h1.2 h2.2]
end
section
variable {S : Sit} {ms : Wd} {H : Hp}
mutual
theorem Rep.dp : ∀ (n : Nat) (d : D) (v : V), plain n d = true → Rep S ms H d v → Dp S.K H v (toPy d)
  | _, .non, _, _, h => by cases h; exact .non
  | _, .bl _, _, _, h => by cases h; exact .bl _
  | _, .int _, _, _, h => by cases h; exact .int _
  | _, .str _, _, _, h => by cases h; exact .str _
  | 0, .tup _, _, p, _ => by simp [plain] at p
  | n + 1, .tup ds, v, p, h => by
    obtain ⟨a, vs, rfl, q, r⟩ := h
    exact .tup q (RepL.dp n ds vs (by simpa [plain] using p) r)
  | 0, .lst _, _, p, _ => by simp [plain] at p
  | n + 1, .lst ds, v, p, h => by
    obtain ⟨a, vs, rfl, q, _, r⟩ := h
    exact .lst (SqL.of q) (RepL.dp n ds vs (by simpa [plain] using p) r)
  | 0, .klst _, _, p, _ => by simp [plain] at p
  | n + 1, .klst ds, v, p, h => by
    obtain ⟨a, vs, rfl, q, r⟩ := h
    exact .lst q.seq (RepL.dp n ds vs (by simpa [plain] using p) r)
  | n, .ref _, _, p, _ => by cases n <;> simp [plain] at p
  | n, .fn _, _, p, _ => by cases n <;> simp [plain] at p
theorem RepL.dp : ∀ (n : Nat) (ds : List D) (vs : List V), plainL n ds = true → RepL S ms H ds vs → DpAll S.K H vs (toPyL ds)
  | _, [], _, _, h => by cases h; exact .nil
  | n, d :: ds, _, p, h => by
    obtain ⟨v, r, rfl, q, w⟩ := h
    simp only [plainL, Bool.and_eq_true] at p
    exact .cons (Rep.dp n d v p.1 q) (RepL.dp n ds r p.2 w)
end
/-- with a list of the store read -/
theorem Rep.dpRef {s : Store} (o : StOk S ms H s) {d : D} {v : V} (p : plain 60 (deref s d) = true) (h : Rep S ms H d v) : Dp S.K H v (toPy (deref s d)) := by
  cases d with
  | ref n =>
    obtain ⟨a, rfl, q⟩ := h
    cases e : s[n]? with
    | none =>
      have z : deref s (.ref n) = .ref n := by simp [deref, e]
      rw [z] at p; simp [plain] at p
    | some xs =>
      have z : deref s (.ref n) = .lst xs := by simp [deref, e]
      rw [z] at p ⊢
      obtain ⟨a', vs, e1, e2, r⟩ := o.cell n xs e
      rw [q] at e1; cases e1
      exact .lst (SqL.of e2) (RepL.dp 59 xs vs (by simpa [plain] using p) r)
  | _ => exact Rep.dp 60 _ v p h
theorem toPy_shaped {d : D} {n : Nat} (hn : n ≤ 64) (h : plain n d = true) : SeqAt.shaped (toPy d) = true := by
  have q := toPy_lay n d h
  unfold SeqAt.shaped
  rw [q.1, Bool.true_and]
  exact decide_eq_true (Nat.le_trans q.2 hn)
theorem Rep.flat {d : D} {v : V} (f : flat d = true) (h : Rep S ms H d v) : flatV v = true := by
  cases d <;> first | (cases h; rfl) | simp [Pi.flat] at f
theorem Rep.eqFlat {d e : D} {v u : V} (f : Pi.flat d = true) (g : Pi.flat e = true) (h : Rep S ms H d v) (k : Rep S ms H e u) : eqV v u = eqv d e := by
  cases d <;> first | (simp [Pi.flat] at f; done) | (cases h; cases e <;> first | (simp [Pi.flat] at g; done) | (cases k; first | rfl | (simp only [eqV, eqv]; first | rfl | (rename_i i j; by_cases z : i = j <;> simp [z]))))
theorem RepL.flat : ∀ {ds : List D} {vs : List V}, ds.all Pi.flat = true → RepL S ms H ds vs → vs.all flatV = true
  | [], _, _, h => by cases h; rfl
  | d :: ds, _, f, h => by
    obtain ⟨v, r, rfl, q, w⟩ := h
    simp only [List.all_cons, Bool.and_eq_true] at f ⊢
    exact ⟨q.flat f.1, RepL.flat f.2 w⟩
theorem RepL.anyFlat {e : D} {u : V} (g : Pi.flat e = true) (k : Rep S ms H e u) : ∀ {ds : List D} {vs : List V}, ds.all Pi.flat = true → RepL S ms H ds vs → inV u vs = ds.any fun d => eqv d e
  | [], _, _, h => by cases h; rfl
  | d :: ds, _, f, h => by
    obtain ⟨v, r, rfl, q, w⟩ := h
    simp only [List.all_cons, Bool.and_eq_true] at f
    have ih := RepL.anyFlat g k f.2 w
    unfold inV at ih ⊢
    rw [List.any_cons, List.any_cons, ih, q.eqFlat f.1 g k]
theorem toPyL_any {e : D} (he : plain 60 e = true) : ∀ (n : Nat) (ds : List D), plainL n ds = true → ((toPyL ds).any fun z => PyData.eqv z (toPy e)) = ds.any fun d => eqv d e
  | _, [], _ => rfl
  | n, d :: ds, h => by
    simp only [plainL, Bool.and_eq_true] at h
    simp only [toPyL, List.any_cons]
    rw [toPyL_any he n ds h.2, eqv_py n 60 d e h.1 he]
/-- the items stand in the machine -/
theorem Rep.items {s : Store} (o : StOk S ms H s) {d : D} {v : V} {xs : List D} (e : items s d = some xs) (h : Rep S ms H d v) : ∃ a vs, v = .ref a ∧ RepL S ms H xs vs ∧ ((SqL S.K H a vs ∧ ∀ ys, d ≠ .tup ys) ∨ (SqT S.K H a vs ∧ d = .tup xs)) := by
  cases d with
  | tup ys =>
    obtain ⟨a, vs, rfl, q, r⟩ := h
    simp only [Pi.items, Option.some.injEq] at e
    subst e
    exact ⟨a, vs, rfl, r, .inr ⟨q, rfl⟩⟩
  | lst ys =>
    obtain ⟨a, vs, rfl, q, _, r⟩ := h
    simp only [Pi.items, Option.some.injEq] at e
    subst e
    exact ⟨a, vs, rfl, r, .inl ⟨SqL.of q, fun _ z => nomatch z⟩⟩
  | klst ys =>
    obtain ⟨a, vs, rfl, q, r⟩ := h
    simp only [Pi.items, Option.some.injEq] at e
    subst e
    exact ⟨a, vs, rfl, r, .inl ⟨q.seq, fun _ z => nomatch z⟩⟩
  | ref n =>
    obtain ⟨a, rfl, q⟩ := h
    obtain ⟨a', vs, e1, e2, r⟩ := o.cell n xs e
    rw [q] at e1; cases e1
    exact ⟨a, vs, rfl, r, .inl ⟨SqL.of e2, fun _ z => nomatch z⟩⟩
  | _ => simp [Pi.items] at e
theorem RepL.intsR : ∀ {ds : List D} {vs : List V} {ns : List Int}, intsD ds = some ns → RepL S ms H ds vs → vs = ns.map V.int
  | [], _, _, e, h => by cases h; simp [Pi.intsD] at e; subst e; rfl
  | d :: ds, _, ns, e, h => by
    obtain ⟨v, r, rfl, q, w⟩ := h
    cases d with
    | int i =>
      simp only [Pi.intsD, Option.map_eq_some_iff] at e
      obtain ⟨l, e1, rfl⟩ := e
      cases q
      rw [RepL.intsR e1 w]; rfl
    | _ => simp [Pi.intsD] at e
theorem RepL.boolsR : ∀ {ds : List D} {vs : List V} {ns : List Bool}, boolsD ds = some ns → RepL S ms H ds vs → vs = ns.map V.bl
  | [], _, _, e, h => by cases h; simp [Pi.boolsD] at e; subst e; rfl
  | d :: ds, _, ns, e, h => by
    obtain ⟨v, r, rfl, q, w⟩ := h
    cases d with
    | bl i =>
      simp only [Pi.boolsD, Option.map_eq_some_iff] at e
      obtain ⟨l, e1, rfl⟩ := e
      cases q
      rw [RepL.boolsR e1 w]; rfl
    | _ => simp [Pi.boolsD] at e
end

abbrev PostD (S : Sit) (XA : Nat → Option Addr) (ms : Wd) (H : Hp) (E : XK) (Q : VK) : R D → Prop := Post S XA ms H (Rep S) E Q
section
variable {S : Sit} {XA : Nat → Option Addr} {ms : Wd} {H : Hp} {E : XK} {Q : VK} {s : Store}
theorem post_ok {d : D} {v : V} (p : PostD S XA ms H E Q (.ok d s)) (o : StOk S ms H s) (r : Rep S ms H d v) : Q v H := p v ms H .refl o r
theorem post_val {m : Bool} {d : D} {v : V} (p : PostD S XA ms H E Q (PR.fin m (.val d) s)) (o : StOk S ms H s) (r : Rep S ms H d v) : Q v H := post_ok p o r
theorem line_of {n : Nat} (h : n ≤ 100000) : n ≤ sizeLine := by rw [sizeLine_eq]; omega
theorem line_lt {n : Nat} (h : n ≤ 100000) : n < sizeLine := by rw [sizeLine_eq]; omega
/-- a new tuple -/
theorem post_tup {ds : List D} {vs : List V} (p : PostD S XA ms H E Q (.ok (.tup ds) s)) (o : StOk S ms H s) (r : RepL S ms H ds vs) : ∀ l, H l = none → Q (.ref l) (upd H l (.tup vs)) := fun l hl =>
  p _ ms _ (Nxt.new hl) (o.new hl) ⟨l, vs, rfl, SqT.of upd_same, RepL.nxt (Nxt.new hl) ds vs r⟩
/-- a new list -/
theorem post_new {m : Bool} {ds : List D} {vs : List V} (p : PostD S XA ms H E Q (PR.fin m (.new ds) s)) (o : StOk S ms H s) (r : RepL S ms H ds vs) : vs.length ≤ 100000 ∧ ∀ l, H l = none → Q (.ref l) (upd H l (.lst vs)) := by
  unfold PR.fin at p
  by_cases hz : ds.length ≤ 100000
  · simp only [hz, if_true] at p
    refine ⟨by rw [← r.length]; exact hz, fun l hl => ?_⟩
    cases m with
    | true =>
      simp only [if_true] at p
      exact p _ (ms.add l) _ (Nxt.cell hl) (o.cellNew hl r) ⟨l, rfl, by rw [← o.len]; simp [Wd.add]⟩
    | false =>
      simp only [Bool.false_eq_true, if_false] at p
      have hm : ms.Out l := by
        refine ⟨fun z => ?_, fun z => ?_⟩
        · obtain ⟨ws, q⟩ := o.there z
          rw [hl] at q; cases q
        · obtain ⟨ws, q⟩ := o.hidden l z
          rw [hl] at q; cases q
      exact p _ ms _ (Nxt.new hl) (o.new hl) ⟨l, vs, rfl, upd_same, hm, RepL.nxt (Nxt.new hl) ds vs r⟩
  · simp only [hz, if_false] at p
    exact p.elim
theorem post_bad {m : Bool} {P : Prop} (p : PostD S XA ms H E Q (PR.fin m .bad s)) : P := p.elim
end
end Pi

set_option Elab.async false
set_option linter.all false
set_option maxRecDepth 100000
namespace Pi
open PySem PySem.Spec PyProof.Rows L2

section
variable (S : Sit) (XA : Nat → Option Addr) (W : WX)
def TD (f : Env → Store → R D) : TE := fun σ H Q => ∃ ms ρ s, EnvOk S ms H ρ σ ∧ StOk S ms H s ∧ Post S XA ms H (Rep S) (fun cls dx H' => W cls dx σ H') Q (f ρ s)
def TL (f : Env → Store → R (List D)) : TA := fun σ H Q => ∃ ms ρ s, EnvOk S ms H ρ σ ∧ StOk S ms H s ∧ Post S XA ms H (RepL S) (fun cls dx H' => W cls dx σ H') Q (f ρ s)
def TT (f : Env → Store → R Bool) : TT := fun σ H Q => ∃ ms ρ s, EnvOk S ms H ρ σ ∧ StOk S ms H s ∧ Post S XA ms H (fun _ _ b c => b = c) (fun cls dx H' => W cls dx σ H') Q (f ρ s)
end
def tst (f : Env → Store → R D) : Env → Store → R Bool := fun ρ s => (f ρ s).bind asB

section
variable {X : Cx} {e : Expr} {t t' : TE} {u u' : L2.TT} {a a' : TA}
theorem pe_imp (h : PE X e t) (i : ∀ σ H Q, t' σ H Q → t σ H Q) : PE X e t' := ⟨fun pins s σ H Q I q => h.run pins s σ H Q I (i _ _ _ q)⟩
theorem pt_imp (h : PT X e u) (i : ∀ σ H Q, u' σ H Q → u σ H Q) : PT X e u' := ⟨fun pins s σ H Q I q => h.run pins s σ H Q I (i _ _ _ q)⟩
theorem pw_imp (h : PW X e u) (i : ∀ σ H Q, u' σ H Q → u σ H Q) : PW X e u' := ⟨fun wh pins s σ H Q I q => h.run wh pins s σ H Q I (i _ _ _ q)⟩
theorem pa_imp {es : List Expr} (h : PA X es a) (i : ∀ σ H Q, a' σ H Q → a σ H Q) : PA X es a' := ⟨fun pos pins s σ H Q I q => h.run pos pins s σ H Q I (i _ _ _ q)⟩
end

section
variable {S : Sit} {XA : Nat → Option Addr} {W : WX} {σ : L2.St} {H : Hp} {Q : VK}
variable {fa fb : Env → Store → R D} {fl : Env → Store → R (List D)}
/-- one, then what is made of it -/
theorem seq1 {α β : Type} {R2 : Wd → Hp → α → β → Prop} {Q2 : β → Hp → Prop} {k : Env → D → Store → R α} {ms : Wd} {ρ : Env} {s : Store}
    (e : EnvOk S ms H ρ σ) (o : StOk S ms H s) (p : Post S XA ms H R2 (fun cls dx H' => W cls dx σ H') Q2 ((fa ρ s).bind (k ρ))) {Q1 : VK}
    (h : ∀ ms' H' s' x v, EnvOk S ms' H' ρ σ → StOk S ms' H' s' → Rep S ms' H' x v → Post S XA ms' H' R2 (fun cls dx H' => W cls dx σ H') Q2 (k ρ x s') → Q1 v H') : TD S XA W fa σ H Q1 :=
  ⟨ms, ρ, s, e, o, p.bind fun a s1 b ms' H' er n o' r q => h ms' H' s1 a b (e.nxt n) o' r q⟩
theorem seqL {α β : Type} {R2 : Wd → Hp → α → β → Prop} {Q2 : β → Hp → Prop} {k : Env → List D → Store → R α} {ms : Wd} {ρ : Env} {s : Store}
    (e : EnvOk S ms H ρ σ) (o : StOk S ms H s) (p : Post S XA ms H R2 (fun cls dx H' => W cls dx σ H') Q2 ((fl ρ s).bind (k ρ))) {Q1 : List V → Hp → Prop}
    (h : ∀ ms' H' s' x v, fl ρ s = .ok x s' → EnvOk S ms' H' ρ σ → StOk S ms' H' s' → RepL S ms' H' x v → Post S XA ms' H' R2 (fun cls dx H' => W cls dx σ H') Q2 (k ρ x s') → Q1 v H') : TL S XA W fl σ H Q1 :=
  ⟨ms, ρ, s, e, o, p.bind fun a s1 b ms' H' er n o' r q => h ms' H' s1 a b er (e.nxt n) o' r q⟩
theorem seqB {α β : Type} {R2 : Wd → Hp → α → β → Prop} {Q2 : β → Hp → Prop} {fb : Env → Store → R Bool} {k : Env → Bool → Store → R α} {ms : Wd} {ρ : Env} {s : Store}
    (e : EnvOk S ms H ρ σ) (o : StOk S ms H s) (p : Post S XA ms H R2 (fun cls dx H' => W cls dx σ H') Q2 ((fb ρ s).bind (k ρ))) {Q1 : Bool → Hp → Prop}
    (h : ∀ ms' H' s' b, EnvOk S ms' H' ρ σ → StOk S ms' H' s' → Post S XA ms' H' R2 (fun cls dx H' => W cls dx σ H') Q2 (k ρ b s') → Q1 b H') : TT S XA W fb σ H Q1 :=
  ⟨ms, ρ, s, e, o, p.bind fun a s1 b ms' H' er n o' r q => by
    have r' : a = b := r
    subst r'
    exact h ms' H' s1 a (e.nxt n) o' q⟩
/-- of two, an operator's answer -/
theorem seq2 {r : R2} {p : Store → D → D → R D} (h : TD S XA W (fun ρ s => (fa ρ s).bind fun x s1 => (fb ρ s1).bind fun y s2 => p s2 x y) σ H Q)
    (hp : ∀ (ms : Wd) (H : Hp) (s : Store) (x y : D) (vx vy : V) (E : XK) (Q : VK), StOk S ms H s → Rep S ms H x vx → Rep S ms H y vy → PostD S XA ms H E Q (p s x y) → r vx vy H Q) : tOp r (TD S XA W fa) (TD S XA W fb) σ H Q := by
  obtain ⟨ms, ρ, s, e, o, q⟩ := h
  refine seq1 (k := fun ρ x s1 => (fb ρ s1).bind fun y s2 => p s2 x y) e o q fun ms1 H1 s1 x vx e1 o1 rx q1 => ?_
  refine ⟨ms1, ρ, s1, e1, o1, q1.bind fun y s2 vy ms2 H2 _ n2 o2 ry q2 => ?_⟩
  exact hp ms2 H2 s2 x y vx vy _ Q o2 (Rep.nxt n2 x vx rx) ry q2
theorem seqOne {r : V → Hp → VK → Prop} {p : D → Store → R D} (h : TD S XA W (fun ρ s => (fa ρ s).bind p) σ H Q)
    (hp : ∀ (ms : Wd) (H : Hp) (s : Store) (x : D) (vx : V) (E : XK) (Q : VK), StOk S ms H s → Rep S ms H x vx → PostD S XA ms H E Q (p x s) → r vx H Q) : tUn r (TD S XA W fa) σ H Q := by
  obtain ⟨ms, ρ, s, e, o, q⟩ := h
  exact seq1 (k := fun _ => p) e o q fun ms1 H1 s1 x vx e1 o1 rx q1 => hp ms1 H1 s1 x vx _ Q o1 rx q1
/-- a test out of a value -/
theorem tst_td {f : Env → Store → R D} {Q : Bool → Hp → Prop} (h : TT S XA W (tst f) σ H Q) : TD S XA W f σ H fun x H1 => ∃ k, x = .bl k ∧ Q k H1 := by
  obtain ⟨ms, ρ, s, e, o, q⟩ := h
  refine seq1 (k := fun _ => asB) e o q fun ms1 H1 s1 x vx e1 o1 rx q1 => ?_
  cases x with
  | bl b =>
    cases rx
    exact ⟨b, rfl, q1 b ms1 H1 .refl o1 rfl⟩
  | _ => exact q1.elim
end

theorem evL_len {G : Nat → Option D} {call : Call} : ∀ {es : List Ex} {ρ : Env} {s s' : Store} {ds : List D}, evL G call es ρ s = .ok ds s' → ds.length = es.length
  | [], _, _, _, _, h => by simp only [evL, R.ok.injEq] at h; obtain ⟨rfl, _⟩ := h; rfl
  | e :: es, ρ, s, s', ds, h => by
    simp only [evL] at h
    cases h1 : ev G call e ρ s with
    | ok d s1 =>
      rw [h1] at h
      simp only [R.bind] at h
      cases h2 : evL G call es ρ s1 with
      | ok r s2 =>
        rw [h2] at h
        simp only [R.ok.injEq] at h
        rw [← h.1, List.length_cons, evL_len h2, List.length_cons]
      | exc c s2 => rw [h2] at h; cases h
      | bad => rw [h2] at h; cases h
    | exc c s1 => rw [h1] at h; cases h
    | bad => rw [h1] at h; cases h

section
variable {S : Sit} {XA : Nat → Option Addr} {W : WX} {σ : L2.St} {H : Hp} {Q : VK}
theorem td_leaf {d : D} {v : V} (h : TD S XA W (fun _ s => .ok d s) σ H Q) (r : ∀ ms, Rep S ms H d v) : Q v H := by
  obtain ⟨ms, ρ, s, e, o, q⟩ := h
  exact q v ms H .refl o (r ms)
theorem td_var {i : Nat} (h : TD S XA W (fun ρ s => match ρ[i]? with | some (some d) => .ok d s | _ => .bad) σ H Q) : tVar i σ H Q := by
  obtain ⟨ms, ρ, s, e, o, q⟩ := h
  cases z : ρ[i]? with
  | none => simp only [z] at q; exact q.elim
  | some y =>
    cases y with
    | none => simp only [z] at q; exact q.elim
    | some d =>
      simp only [z] at q
      obtain ⟨v, h1, h2⟩ := e.at_ i d z
      exact ⟨v, h1, q v ms H .refl o h2⟩
end

section
variable {X : Cx}
theorem op_fdivB : OpR X (binaryOp .FloorDiv) (rI (fun _ j => j ≠ 0 ∧ j.natAbs.log2 < 9000) fun i j => .int (i.fdiv j)) := opI fun _ _ _ _ _ _ _ hc q => floordiv_int hc.1 q (.inl (PyProof.noPylong_of_log2 hc.2))
theorem op_mulB : OpR X (binaryOp .Mult) (rI IntMulOk fun i j => .int (i * j)) := opI fun _ _ _ _ _ _ _ hc q => mul_int q hc
theorem mulOk_ok {i j : Int} (h : mulOk i j = true) : IntMulOk i j := by
  unfold mulOk at h
  simp only [Bool.or_eq_true, Bool.and_eq_true, decide_eq_true_eq] at h
  have z : ∀ k : Int, k.natAbs < 2 ^ 64 → -(2 ^ 64) < k ∧ k < 2 ^ 64 := fun k hk => by omega
  rcases h with (h | h) | ⟨h1, h2⟩
  · exact .of_left (intBits_le_64 (z i h).1 (z i h).2)
  · exact .of_right (intBits_le_64 (z j h).1 (z j h).2)
  · exact (wide_mul (a := 60000) (b := 60000) h1 h2 (by decide) (by decide) (by decide)).ok
theorem dmax_ok {j : Int} (h0 : j ≠ 0) (h : j.natAbs < dmax) : j.natAbs.log2 < 9000 :=
  Nat.lt_of_lt_of_le (PySem.Flt.log2_lt_of (by decide : 0 < 8000) h) (by decide)
def bopOf : Bop → Operator
  | .add => .Add | .sub => .Sub | .mul => .Mult | .fdiv => .FloorDiv | .mod => .Mod | .pow => .Pow
def rBop (K : PySem.W.Frag) : Bop → R2
  | .add => fun x y H Q => ((rI0 fun i j => .int (i + j)) x y H Q ∨ rCatA K x y H Q) ∨ ((∃ i j, x = .str i ∧ y = .str j ∧ i.length + j.length ≤ sizeLine ∧ Q (.str (i ++ j)) H) ∨ rCat x y H Q)
  | .sub => rI0 fun i j => .int (i - j)
  | .mul => fun x y H Q => (rI IntMulOk fun i j => .int (i * j)) x y H Q ∨ rRep x y H Q
  | .fdiv => rI (fun _ j => j ≠ 0 ∧ j.natAbs.log2 < 9000) fun i j => .int (i.fdiv j)
  | .mod => rI (fun _ j => j ≠ 0) fun i j => .int (i.fmod j)
  | .pow => rI CPow fun i j => .int (i ^ j.toNat)
theorem op_bop (op : Bop) : OpR X (binaryOp (bopOf op)) (rBop X.K op) := by
  cases op with
  | add => exact (op_add.or op_catA).or (op_add_str.or op_cat)
  | sub => exact op_sub
  | mul => exact op_mulB.or op_rep
  | fdiv => exact op_fdivB
  | mod => exact op_modN
  | pow => exact op_pow
end
section
variable {S : Sit} {XA : Nat → Option Addr} {ms : Wd} {H : Hp} {s : Store} {E : XK} {Q : VK} {m : Bool} {x y : D} {vx vy : V}
theorem repL_rep {ds : List D} {vs : List V} (r : RepL S ms H ds vs) : ∀ k : Nat, RepL S ms H (List.replicate k ds).flatten (List.replicate k vs).flatten
  | 0 => rfl
  | k + 1 => by
    rw [List.replicate_succ, List.replicate_succ, List.flatten_cons, List.flatten_cons]
    exact r.app (repL_rep r k)
theorem fin_val {d : D} (p : PostD S XA ms H E Q (PR.fin m (.val d) s)) (o : StOk S ms H s) {v : V} (r : Rep S ms H d v) : Q v H := post_ok p o r
/-- an answer that is a tuple put together -/
theorem deref_lst {xs : List D} (o : StOk S ms H s) (h : deref s x = .lst xs) (r : Rep S ms H x vx) : ∃ a vs, vx = .ref a ∧ H a = some (.lst vs) ∧ RepL S ms H xs vs := by
  cases x with
  | ref n =>
    obtain ⟨a, rfl, q⟩ := r
    cases e : s[n]? with
    | none => simp [deref, e] at h
    | some ys =>
      simp only [deref, e, D.lst.injEq] at h
      subst h
      obtain ⟨a', vs, e1, e2, r⟩ := o.cell n ys e
      rw [q] at e1; cases e1
      exact ⟨a, vs, rfl, e2, r⟩
  | lst ys =>
    simp only [deref, D.lst.injEq] at h
    subst h
    obtain ⟨a, vs, rfl, q, _, r⟩ := r
    exact ⟨a, vs, rfl, q, r⟩
  | _ => simp [deref] at h
theorem bop_ok {op : Bop} (o : StOk S ms H s) (rx : Rep S ms H x vx) (ry : Rep S ms H y vy) (p : PostD S XA ms H E Q ((pBin s op x y).fin m s)) : rBop S.K op vx vy H Q := by
  cases op with
  | sub =>
    unfold pBin at p
    split at p <;> first | contradiction | skip
    all_goals first | exact post_bad p | skip
    rename_i i j h1 h2
    cases rx; cases ry
    exact ⟨_, _, rfl, rfl, fin_val p o rfl⟩
  | fdiv =>
    unfold pBin at p
    split at p <;> first | contradiction | skip
    all_goals first | exact post_bad p | skip
    rename_i i j h1 h2
    cases rx; cases ry
    split at p
    · rename_i hc
      exact ⟨_, _, rfl, rfl, ⟨hc.1, dmax_ok hc.1 hc.2⟩, fin_val p o rfl⟩
    · exact post_bad p
  | mod =>
    unfold pBin at p
    split at p <;> first | contradiction | skip
    all_goals first | exact post_bad p | skip
    rename_i i j h1 h2
    cases rx; cases ry
    split at p
    · rename_i hc
      exact ⟨_, _, rfl, rfl, hc, fin_val p o rfl⟩
    · exact post_bad p
  | pow =>
    unfold pBin at p
    split at p <;> first | contradiction | skip
    all_goals first | exact post_bad p | skip
    rename_i i j h1 h2
    cases rx; cases ry
    split at p
    · rename_i hc
      exact ⟨_, _, rfl, rfl, ⟨hc.1, by have := hc.2.1; omega, hc.2.2⟩, fin_val p o rfl⟩
    · exact post_bad p
  | mul =>
    unfold pBin at p
    split at p <;> first | contradiction | skip
    all_goals first | exact post_bad p | skip
    · rename_i i j h1 h2
      cases rx; cases ry
      split at p
      · rename_i hc
        exact .inl ⟨_, _, rfl, rfl, mulOk_ok hc, fin_val p o rfl⟩
      · exact post_bad p
    · rename_i xs j _
      cases ry
      obtain ⟨a, vs, rfl, q, hm, r⟩ := rx
      split at p
      · rename_i hc
        have rr := repL_rep r j.toNat
        obtain ⟨z1, z2⟩ := post_new p o rr
        have hl : vs.length < 1000 := by rw [← r.length]; exact hc.2.2
        refine .inr ⟨a, j, vs, rfl, rfl, q, by omega, by omega, ?_, z2⟩
        have : vs.length * j.toNat ≤ 1000 * 10000 := Nat.mul_le_mul (by omega) (by omega)
        rw [sizeLine_eq]
        omega
      · exact post_bad p
  | add =>
    unfold pBin at p
    split at p <;> first | contradiction | skip
    all_goals first | exact post_bad p | skip
    · cases rx; cases ry
      exact .inl (.inl ⟨_, _, rfl, rfl, fin_val p o rfl⟩)
    · rename_i xs ys _
      obtain ⟨a, vs, rfl, q, r⟩ := rx
      obtain ⟨b, ws, rfl, q', r'⟩ := ry
      split at p
      · rename_i hz
        refine .inl (.inr ⟨a, b, vs, ws, rfl, rfl, q, q', ?_, fun e => ?_, fun _ e => ?_, fun _ _ => ?_⟩)
        · rw [← r.length, ← r'.length]; exact line_of hz
        · subst e
          have e2 : xs = [] := List.eq_nil_of_length_eq_zero r.length
          subst e2
          exact fin_val p o ⟨b, ws, rfl, q', r'⟩
        · subst e
          have e2 : ys = [] := List.eq_nil_of_length_eq_zero r'.length
          subst e2
          rw [List.append_nil] at p
          exact fin_val p o ⟨a, vs, rfl, q, r⟩
        · exact post_tup p o (r.app r')
      · exact post_bad p
    · cases rx; cases ry
      split at p
      · rename_i hz
        exact .inr (.inl ⟨_, _, rfl, rfl, line_of hz, fin_val p o rfl⟩)
      · exact post_bad p
    · split at p
      · rename_i xs ys e1 e2
        obtain ⟨a, vs, rfl, q, r⟩ := deref_lst o e1 rx
        obtain ⟨b, ws, rfl, q', r'⟩ := deref_lst o e2 ry
        obtain ⟨z1, z2⟩ := post_new p o (r.app r')
        exact .inr (.inr ⟨a, b, vs, ws, rfl, rfl, q, q', by rw [List.length_append] at z1; exact line_of z1, z2⟩)
      · exact post_bad p
end
end Pi

set_option Elab.async false
set_option linter.all false
set_option maxRecDepth 100000
namespace Pi
open PySem PySem.Spec PyProof.Rows L2

def copOf : Cop → CmpOp
  | .eq => .Eq | .ne => .NotEq | .lt => .Lt | .le => .LtE | .gt => .Gt | .ge => .GtE | .isin => .In | .notin => .NotIn
def rCop (K : PySem.W.Frag) : Cop → R2
  | .eq => rEqD K
  | .ne => rNeD K
  | .lt => rI0 fun i j => .bl (decide (i < j))
  | .le => rI0 fun i j => .bl (decide (i ≤ j))
  | .gt => rI0 fun i j => .bl (decide (j < i))
  | .ge => rI0 fun i j => .bl (decide (j ≤ i))
  | .isin => fun x y H Q => rIn K false x y H Q ∨ rInD K x y H Q
  | .notin => fun x y H Q => rIn K true x y H Q ∨ rNotInD K x y H Q
theorem op_cop {X : Cx} (hu : X.A.units + 65 < cLine) (op : Cop) : OpR X (compareOp (copOf op)) (rCop X.K op) := by
  cases op with
  | eq => exact op_eqD (by omega)
  | ne => exact op_neD (by omega)
  | lt => exact op_lt
  | le => exact op_le
  | gt => exact op_gt
  | ge => exact op_ge
  | isin => exact op_in_seq.or (op_inD hu)
  | notin => exact op_notIn_seq.or (op_notInD hu)
section
variable {S : Sit} {XA : Nat → Option Addr} {ms : Wd} {H : Hp} {s : Store} {E : XK} {Q : VK} {m : Bool} {x y : D} {vx vy : V}
theorem items_dp {xs : List D} (o : StOk S ms H s) (e : items s y = some xs) (n : ∀ zs, y ≠ .tup zs) (p : plainL 59 xs = true) (r : Rep S ms H y vy) : Dp S.K H vy (.list (toPyL xs)) := by
  obtain ⟨a, vs, rfl, rl, h | h⟩ := Rep.items o e r
  · exact .lst h.1 (RepL.dp 59 xs vs p rl)
  · exact absurd h.2 (n xs)
theorem cop_ok {op : Cop} (o : StOk S ms H s) (rx : Rep S ms H x vx) (ry : Rep S ms H y vy) (p : PostD S XA ms H E Q ((pCmp s op x y).fin m s)) : rCop S.K op vx vy H Q := by
  cases op with
  | eq =>
    unfold pCmp at p
    dsimp only at p
    split at p
    · rename_i h
      unfold okEq at h
      rw [Bool.and_eq_true] at h
      refine ⟨_, _, rx.dpRef o h.1, ry.dpRef o h.2, toPy_shaped (by decide) h.1, toPy_shaped (by decide) h.2, ?_⟩
      rw [eqv_py 60 60 _ _ h.1 h.2]
      exact fin_val p o rfl
    · exact post_bad p
  | ne =>
    unfold pCmp at p
    dsimp only at p
    split at p
    · rename_i h
      unfold okEq at h
      rw [Bool.and_eq_true] at h
      refine ⟨_, _, rx.dpRef o h.1, ry.dpRef o h.2, toPy_shaped (by decide) h.1, toPy_shaped (by decide) h.2, ?_⟩
      rw [eqv_py 60 60 _ _ h.1 h.2]
      exact fin_val p o rfl
    · exact post_bad p
  | lt =>
    unfold pCmp at p
    dsimp only at p
    split at p
    · cases rx; cases ry
      exact ⟨_, _, rfl, rfl, fin_val p o rfl⟩
    · exact post_bad p
  | le =>
    unfold pCmp at p
    dsimp only at p
    split at p
    · cases rx; cases ry
      exact ⟨_, _, rfl, rfl, fin_val p o rfl⟩
    · exact post_bad p
  | gt =>
    unfold pCmp at p
    dsimp only at p
    split at p
    · cases rx; cases ry
      exact ⟨_, _, rfl, rfl, fin_val p o rfl⟩
    · exact post_bad p
  | ge =>
    unfold pCmp at p
    dsimp only at p
    split at p
    · cases rx; cases ry
      exact ⟨_, _, rfl, rfl, fin_val p o rfl⟩
    · exact post_bad p
  | isin =>
    unfold pCmp at p
    dsimp only at p
    split at p
    · rename_i ys
      obtain ⟨a, vs, rfl, q, r⟩ := ry
      split at p
      · rename_i h
        rw [Bool.and_eq_true] at h
        refine .inl ⟨a, vs, rfl, .inr q, rx.flat h.1, r.flat h.2, ?_⟩
        simp only [Bool.false_eq_true, if_false]
        rw [RepL.anyFlat h.1 rx h.2 r]
        exact fin_val p o rfl
      · exact post_bad p
    · rename_i n
      split at p
      · rename_i ys e
        split at p
        · rename_i h
          rw [Bool.and_eq_true] at h
          have lay := toPyL_lay 59 ys h.2
          refine .inr ⟨_, _, Rep.dp 60 x vx h.1 rx, items_dp o e n h.2 ry, toPy_shaped (by decide) h.1, ?_, ?_⟩
          · unfold SeqAt.shaped
            simp only [PyData.canLay0, lay.1, Bool.true_and, decide_eq_true_eq]
            have := lay.2
            simp only [PyData.depth]
            omega
          · rw [toPyL_any h.1 59 ys h.2]
            exact fin_val p o rfl
        · exact post_bad p
      · exact post_bad p
  | notin =>
    unfold pCmp at p
    dsimp only at p
    split at p
    · rename_i ys
      obtain ⟨a, vs, rfl, q, r⟩ := ry
      split at p
      · rename_i h
        rw [Bool.and_eq_true] at h
        refine .inl ⟨a, vs, rfl, .inr q, rx.flat h.1, r.flat h.2, ?_⟩
        simp only [if_true]
        rw [RepL.anyFlat h.1 rx h.2 r]
        exact fin_val p o rfl
      · exact post_bad p
    · rename_i n
      split at p
      · rename_i ys e
        split at p
        · rename_i h
          rw [Bool.and_eq_true] at h
          have lay := toPyL_lay 59 ys h.2
          refine .inr ⟨_, _, Rep.dp 60 x vx h.1 rx, items_dp o e n h.2 ry, toPy_shaped (by decide) h.1, ?_, ?_⟩
          · unfold SeqAt.shaped
            simp only [PyData.canLay0, lay.1, Bool.true_and, decide_eq_true_eq]
            have := lay.2
            simp only [PyData.depth]
            omega
          · rw [toPyL_any h.1 59 ys h.2]
            exact fin_val p o rfl
        · exact post_bad p
      · exact post_bad p

theorem place_ix (n : Nat) (i : Int) : place n i = ixN n i := rfl
theorem repL_atI {xs : List D} {vs : List V} {k : Int} {d : D} (r : RepL S ms H xs vs) (h : ((place xs.length k).bind fun j => xs[j]?) = some d) : ∃ v, atI vs k = some v ∧ Rep S ms H d v := by
  unfold atI
  rw [r.length, place_ix] at h
  cases e : ixN vs.length k with
  | none => rw [e] at h; cases h
  | some j =>
    rw [e] at h
    obtain ⟨v, h1, h2⟩ := r.get (show xs[j]? = some d from h)
    exact ⟨v, h1, h2⟩
theorem idx_ok (o : StOk S ms H s) (rx : Rep S ms H x vx) (ry : Rep S ms H y vy) (p : PostD S XA ms H E Q ((pIdx s x y).fin m s)) : rIx S.K vx vy H Q := by
  unfold pIdx at p
  split at p
  · rename_i xs k e
    cases ry
    split at p
    · rename_i d h
      obtain ⟨a, vs, rfl, rl, q⟩ := Rep.items o e rx
      obtain ⟨v, h1, h2⟩ := repL_atI rl h
      have fin := fin_val p o h2
      rcases q with q | q
      · exact .inl ⟨a, vs, k, v, rfl, rfl, q.1, h1, fin⟩
      · exact .inr (.inl ⟨a, vs, k, v, rfl, rfl, q.1, h1, fin⟩)
    · exact post_bad p
  · exact post_bad p
theorem cutIx_eq (n d : Nat) (o : Option Int) : cutIx n d o = HT.sIx n d o := by cases o <;> rfl
theorem repL_cut {xs : List D} {vs : List V} (r : RepL S ms H xs vs) (lo hi : Option Int) : RepL S ms H (cut xs lo hi) (cutV vs lo hi) := by
  unfold cut cutV
  rw [cutIx_eq, cutIx_eq, r.length]
  exact (r.drop _).take _
def rSl (K : PySem.W.Frag) : V → Option Int → Option Int → Hp → VK → Prop := fun x lo hi H Q => rSlA K x lo hi H Q ∨ rSlL K x lo hi H Q
theorem sl_any {X : Cx} : SlR X (rSl X.K) := sl_tupA.or sl_list
theorem slice_ok {ls hs : List D} {lo hi : Option Int} (o : StOk S ms H s) (rx : Rep S ms H x vx) (hl : part ls = some lo) (hh : part hs = some hi) (p : PostD S XA ms H E Q ((pSlice s x ls hs).fin m s)) : rSl S.K vx lo hi H Q := by
  unfold pSlice at p
  rw [hl, hh] at p
  dsimp only at p
  split at p
  · rename_i xs
    obtain ⟨a, vs, rfl, q, r⟩ := rx
    refine .inl ⟨a, vs, rfl, q, fun w => ?_, fun w => ?_⟩
    · have e : cut xs lo hi = xs := by
        unfold cut
        rw [cutIx_eq, cutIx_eq, r.length, w.1, w.2, ← r.length]
        simp
      rw [e] at p
      exact fin_val p o ⟨a, vs, rfl, q, r⟩
    · exact post_tup p o (repL_cut r lo hi)
  · rename_i n
    split at p
    · rename_i xs e
      obtain ⟨a, vs, rfl, rl, q⟩ := Rep.items o e rx
      rcases q with q | q
      · exact .inr ⟨a, vs, rfl, q.1, (post_new p o (repL_cut rl lo hi)).2⟩
      · exact absurd q.2 (n xs)
    · exact post_bad p

def rBlt (K : PySem.W.Frag) : Blt → List V → Hp → VK → Prop
  | .abs => fun xs H Q => ∃ i, xs = [.int i] ∧ Q (.int (if i < 0 then -i else i)) H
  | .len => fun xs H Q => (∃ p ys, xs = [.ref p] ∧ (SqL K H p ys ∨ SqT K H p ys) ∧ Q (.int ys.length) H) ∨ (∃ z, xs = [.str z] ∧ z.length ≤ sizeLine ∧ Q (.int z.length) H)
  | .int => fun xs H Q => (∃ i, xs = [.int i] ∧ Q (.int i) H) ∨ ∃ k, xs = [.bl k] ∧ Q (.int (if k then 1 else 0)) H
  | .tuple => fun xs H Q => ∃ p ys, xs = [.ref p] ∧ ((SqL K H p ys ∧ ∀ l, H l = none → Q (.ref l) (upd H l (.tup ys))) ∨ (SqT K H p ys ∧ Q (.ref p) H))
  | .list => fun xs H Q => ∃ p ys, xs = [.ref p] ∧ (SqL K H p ys ∨ SqT K H p ys) ∧ ∀ l, H l = none → Q (.ref l) (upd H l (.lst ys))
  | .sum => rSum K
  | .all => rAll K
  | .any => rAny K
  | .max2 => fun xs H Q => ∃ i j, xs = [.int i, .int j] ∧ Q (.int (if j > i then j else i)) H
  | .min2 => fun xs H Q => ∃ i j, xs = [.int i, .int j] ∧ Q (.int (if j < i then j else i)) H
def bltVal : Blt → V
  | .int => .ty "int" | .tuple => .ty "tuple" | .list => .ty "list" | _ => .non
def bltName : Blt → Str
  | .abs => "abs" | .len => "len" | .int => "int" | .tuple => "tuple" | .list => "list" | .sum => "sum" | .all => "all" | .any => "any" | .max2 => "max" | .min2 => "min"
def bltFn : Blt → Value
  | .abs => .builtin "abs" | .len => .builtin "len" | .int => .type "int" | .tuple => .type "tuple" | .list => .type "list" | .sum => .builtin "sum" | .all => .builtin "all" | .any => .builtin "any"
  | .max2 => .builtin "max" | .min2 => .builtin "min"
theorem call_blt {X : Cx} (hc : X.calm = true) (b : Blt) : CallR X (bltFn b) (rBlt X.K b) := by
  cases b with
  | abs => exact call_abs
  | len => exact call_len_seq.or call_len_str
  | int => exact call_int1
  | tuple => exact call_tuple_of
  | list => exact call_list_of
  | sum => exact cr_sum hc
  | all => exact cr_all hc
  | any => exact cr_any hc
  | max2 => exact call_max2 hc
  | min2 => exact call_min2 hc
theorem seq_or {xs : List D} (o : StOk S ms H s) (e : items s x = some xs) (r : Rep S ms H x vx) : ∃ a vs, vx = .ref a ∧ RepL S ms H xs vs ∧ (SqL S.K H a vs ∨ SqT S.K H a vs) := by
  obtain ⟨a, vs, rfl, rl, q | q⟩ := Rep.items o e r
  · exact ⟨a, vs, rfl, rl, .inl q.1⟩
  · exact ⟨a, vs, rfl, rl, .inr q.1⟩
theorem seq_lst {xs : List D} (o : StOk S ms H s) (e : items s x = some xs) (n : ∀ zs, x ≠ .tup zs) (r : Rep S ms H x vx) : ∃ a vs, vx = .ref a ∧ RepL S ms H xs vs ∧ SqL S.K H a vs := by
  obtain ⟨a, vs, rfl, rl, q | q⟩ := Rep.items o e r
  · exact ⟨a, vs, rfl, rl, q.1⟩
  · exact absurd q.2 (n xs)
theorem repL_one {d : D} {vs : List V} (r : RepL S ms H [d] vs) : ∃ v, vs = [v] ∧ Rep S ms H d v := by
  obtain ⟨v, t, rfl, q, w⟩ := r
  cases w
  exact ⟨v, rfl, q⟩
theorem repL_two {d e : D} {vs : List V} (r : RepL S ms H [d, e] vs) : ∃ v u, vs = [v, u] ∧ Rep S ms H d v ∧ Rep S ms H e u := by
  obtain ⟨v, t, rfl, q, w⟩ := r
  obtain ⟨u, rfl, k⟩ := repL_one w
  exact ⟨v, u, rfl, q, k⟩
theorem blt_ok {b : Blt} {ds : List D} {vs : List V} (o : StOk S ms H s) (r : RepL S ms H ds vs) (p : PostD S XA ms H E Q ((pBlt s b ds).fin m s)) : rBlt S.K b vs H Q := by
  unfold pBlt at p
  split at p
  · obtain ⟨v, rfl, q⟩ := repL_one r
    cases q
    exact ⟨_, rfl, fin_val p o rfl⟩
  · obtain ⟨v, rfl, q⟩ := repL_one r
    cases q
    split at p
    · rename_i h
      exact .inr ⟨_, rfl, line_of h, fin_val p o rfl⟩
    · exact post_bad p
  · obtain ⟨v, rfl, q⟩ := repL_one r
    split at p
    · rename_i xs e
      obtain ⟨a, ws, rfl, rl, z⟩ := seq_or o e q
      refine .inl ⟨a, ws, rfl, z, ?_⟩
      rw [← rl.length]
      exact fin_val p o rfl
    · exact post_bad p
  · obtain ⟨v, rfl, q⟩ := repL_one r
    cases q
    exact .inl ⟨_, rfl, fin_val p o rfl⟩
  · obtain ⟨v, rfl, q⟩ := repL_one r
    cases q
    exact .inr ⟨_, rfl, fin_val p o rfl⟩
  · obtain ⟨v, rfl, q⟩ := repL_one r
    split at p
    · rename_i xs e
      obtain ⟨a, ws, rfl, rl, z | z⟩ := Rep.items o e q
      · exact ⟨a, ws, rfl, .inl ⟨z.1, post_tup p o rl⟩⟩
      · exact ⟨a, ws, rfl, .inr ⟨z.1, fin_val p o ⟨a, ws, rfl, z.1, rl⟩⟩⟩
    · exact post_bad p
  · obtain ⟨v, rfl, q⟩ := repL_one r
    split at p
    · rename_i xs e
      obtain ⟨a, ws, rfl, rl, z⟩ := seq_or o e q
      exact ⟨a, ws, rfl, z, (post_new p o rl).2⟩
    · exact post_bad p
  · obtain ⟨v, rfl, q⟩ := repL_one r
    split at p
    · exact post_bad p
    · rename_i n
      split at p
      · rename_i ns e
        obtain ⟨xs, e1, e2⟩ := Option.bind_eq_some_iff.mp e
        obtain ⟨a, ws, rfl, rl, z⟩ := seq_lst o e1 n q
        have := RepL.intsR e2 rl
        subst this
        exact ⟨a, ns, rfl, z, fin_val p o rfl⟩
      · exact post_bad p
  · obtain ⟨v, rfl, q⟩ := repL_one r
    split at p
    · exact post_bad p
    · rename_i n
      split at p
      · rename_i ns e
        obtain ⟨xs, e1, e2⟩ := Option.bind_eq_some_iff.mp e
        obtain ⟨a, ws, rfl, rl, z⟩ := seq_lst o e1 n q
        have := RepL.boolsR e2 rl
        subst this
        exact ⟨a, ns, rfl, z, fin_val p o rfl⟩
      · exact post_bad p
  · obtain ⟨v, rfl, q⟩ := repL_one r
    split at p
    · exact post_bad p
    · rename_i n
      split at p
      · rename_i ns e
        obtain ⟨xs, e1, e2⟩ := Option.bind_eq_some_iff.mp e
        obtain ⟨a, ws, rfl, rl, z⟩ := seq_lst o e1 n q
        have := RepL.boolsR e2 rl
        subst this
        exact ⟨a, ns, rfl, z, fin_val p o rfl⟩
      · exact post_bad p
  · obtain ⟨v, u, rfl, q, k⟩ := repL_two r
    cases q; cases k
    exact ⟨_, _, rfl, fin_val p o rfl⟩
  · obtain ⟨v, u, rfl, q, k⟩ := repL_two r
    cases q; cases k
    exact ⟨_, _, rfl, fin_val p o rfl⟩
  · exact post_bad p

def tyName : Ty → String
  | .int => "int" | .bool => "bool" | .tuple => "tuple" | .list => "list" | .str => "str"
def tyStr : Ty → Str
  | .int => "int" | .bool => "bool" | .tuple => "tuple" | .list => "list" | .str => "str"
theorem isTy_x (o : StOk S ms H s) (r : Rep S ms H x vx) {t : Ty} {b : Bool} (h : isTy s x t = some b) : ∃ n : String, TyX S.K H vx (.type n) ∧ ∀ t b, isTy s x t = some b → PySem.W.kitOne S.K (.type n) (.type (tyName t)) = some b := by
  have tb : ∀ t : Ty, kitB "NoneType" (tyName t) = some false := by intro t; cases t <;> decide +kernel
  have t1 : ∀ t : Ty, kitB "bool" (tyName t) = some (t == .bool || t == .int) := by intro t; cases t <;> decide +kernel
  have t2 : ∀ t : Ty, kitB "int" (tyName t) = some (t == .int) := by intro t; cases t <;> decide +kernel
  have t3 : ∀ t : Ty, kitB "str" (tyName t) = some (t == .str) := by intro t; cases t <;> decide +kernel
  have t4 : ∀ t : Ty, kitB "tuple" (tyName t) = some (t == .tuple) := by intro t; cases t <;> decide +kernel
  have t5 : ∀ t : Ty, kitB "list" (tyName t) = some (t == .list) := by intro t; cases t <;> decide +kernel
  cases x with
  | non => cases r; exact ⟨_, .base .non, fun t b e => by simp only [isTy, Option.some.injEq] at e; subst e; exact kit_ty (tb t)⟩
  | bl c => cases r; exact ⟨_, .base (.bl c), fun t b e => by simp only [isTy, Option.some.injEq] at e; subst e; exact kit_ty (t1 t)⟩
  | int c => cases r; exact ⟨_, .base (.int c), fun t b e => by simp only [isTy, Option.some.injEq] at e; subst e; exact kit_ty (t2 t)⟩
  | str c => cases r; exact ⟨_, .base (.str c), fun t b e => by simp only [isTy, Option.some.injEq] at e; subst e; exact kit_ty (t3 t)⟩
  | tup xs =>
    obtain ⟨a, vs, rfl, q, rl⟩ := r
    refine ⟨"tuple", ?_, fun t b e => by simp only [isTy, Option.some.injEq] at e; subst e; exact kit_ty (t4 t)⟩
    rcases q with (q | ⟨ob, q⟩) | ⟨ob, its, n, h1, h2, _⟩
    · exact .base (.tup q)
    · exact .fTuple q
    · exact .kTuple h1 h2
  | lst xs =>
    obtain ⟨a, vs, rfl, q, _, rl⟩ := r
    exact ⟨"list", .base (.lst q), fun t b e => by simp only [isTy, Option.some.injEq] at e; subst e; exact kit_ty (t5 t)⟩
  | klst xs =>
    obtain ⟨a, vs, rfl, q, rl⟩ := r
    refine ⟨"list", ?_, fun t b e => by simp only [isTy, Option.some.injEq] at e; subst e; exact kit_ty (t5 t)⟩
    rcases q with ⟨ob, q⟩ | ⟨ob, its, n, h1, h2, _⟩
    · exact .base (.frz q)
    · exact .kList h1 h2
  | ref n =>
    obtain ⟨a, rfl, q⟩ := r
    simp only [isTy] at h
    split at h
    · rename_i hn
      obtain ⟨a', vs, e1, e2, _⟩ := o.cell n _ (List.getElem?_eq_getElem hn)
      rw [q] at e1; cases e1
      refine ⟨"list", .base (.lst e2), fun t b e => ?_⟩
      simp only [isTy, if_pos hn, Option.some.injEq] at e
      subst e
      exact kit_ty (t5 t)
    · cases h
  | fn _ => simp [isTy] at h
theorem isTys_any {n : String} (f : ∀ t b, isTy s x t = some b → PySem.W.kitOne S.K (.type n) (.type (tyName t)) = some b) : ∀ {tys : List Ty} {b : Bool}, isTys s x tys = some b → PySem.W.kitAny S.K (.type n) (tys.map fun t => .type (tyName t)) = some b
  | [], b, h => by simp only [isTys, Option.some.injEq] at h; subst h; rfl
  | t :: r, b, h => by
    simp only [isTys] at h
    split at h
    · rename_i e
      simp only [Option.some.injEq] at h
      subst h
      exact kitAny_cons (f t _ e) (fun z => nomatch z) fun _ => rfl
    · rename_i e
      exact kitAny_cons (f t _ e) (fun _ => isTys_any f h) fun z => nomatch z
    · cases h

def rMeth : Meth → V → List V → Hp → VK → Prop
  | .append => rAppend
  | .extend => rExtend
  | .pop0 => rPop
  | .pop1 => rPopAt
  | _ => fun _ _ _ _ => False
theorem meth_ok {f : Meth} {ds : List D} {vs : List V} (o : StOk S ms H s) (rx : Rep S ms H x vx) (r : RepL S ms H ds vs) (p : PostD S XA ms H E Q (pMeth s f x ds)) :
    tyV S.K "list" vx H ∧ rMeth f vx vs H Q := by
  unfold pMeth at p
  split at p
  · rename_i n d
    obtain ⟨a, rfl, qa⟩ := rx
    obtain ⟨v, rfl, q⟩ := repL_one r
    split at p
    · rename_i xs e
      split at p
      · rename_i hz
        obtain ⟨a', ws, e1, e2, rl⟩ := o.cell n xs e
        rw [qa] at e1; cases e1
        have nx : Nxt ms H ms (upd H a (.lst (ws ++ [v]))) := Nxt.chg o qa e2
        refine ⟨.inl ⟨rfl, ws, SqL.of e2⟩, a, ws, v, rfl, rfl, e2, by rw [← rl.length]; exact line_lt (by omega), ?_⟩
        exact p _ ms _ nx (o.chg qa e2 (rl.app (RepL.one q))) rfl
      · exact p.elim
    · exact p.elim
  · rename_i n d
    obtain ⟨a, rfl, qa⟩ := rx
    obtain ⟨v, rfl, q⟩ := repL_one r
    split at p
    · rename_i xs ys e
      split at p
      · rename_i hz
        obtain ⟨a', ws, e1, e2, rl⟩ := o.cell n xs e
        rw [qa] at e1; cases e1
        obtain ⟨b, us, rfl, hb, _, rl2⟩ := q
        have nx : Nxt ms H ms (upd H a (.lst (ws ++ us))) := Nxt.chg o qa e2
        refine ⟨.inl ⟨rfl, ws, SqL.of e2⟩, a, b, ws, us, rfl, rfl, e2, hb, by rw [← rl.length, ← rl2.length]; exact line_of (by omega), ?_⟩
        exact p _ ms _ nx (o.chg qa e2 (rl.app rl2)) rfl
      · exact p.elim
    · rename_i xs k e
      split at p
      · rename_i ys e'
        split at p
        · rename_i hz
          obtain ⟨a', ws, e1, e2, rl⟩ := o.cell n xs e
          rw [qa] at e1; cases e1
          obtain ⟨b, rfl, qb⟩ := q
          obtain ⟨b', us, e3, hb, rl2⟩ := o.cell k ys e'
          rw [qb] at e3; cases e3
          have nx : Nxt ms H ms (upd H a (.lst (ws ++ us))) := Nxt.chg o qa e2
          refine ⟨.inl ⟨rfl, ws, SqL.of e2⟩, a, b, ws, us, rfl, rfl, e2, hb, by rw [← rl.length, ← rl2.length]; exact line_of (by omega), ?_⟩
          exact p _ ms _ nx (o.chg qa e2 (rl.app rl2)) rfl
        · exact p.elim
      · exact p.elim
    · exact p.elim
  · rename_i n
    obtain ⟨a, rfl, qa⟩ := rx
    cases r
    split at p
    · rename_i xs e
      split at p
      · rename_i d hd
        obtain ⟨a', ws, e1, e2, rl⟩ := o.cell n xs e
        rw [qa] at e1; cases e1
        obtain ⟨v, h1, h2⟩ := rl.get hd
        have nx : Nxt ms H ms (upd H a (.lst ws.dropLast)) := Nxt.chg o qa e2
        refine ⟨.inl ⟨rfl, ws, SqL.of e2⟩, a, ws, v, rfl, rfl, e2, by rw [← rl.length]; exact h1, ?_⟩
        exact p _ ms _ nx (o.chg qa e2 rl.last) (Rep.nxt nx d v h2)
      · exact p.elim
    · exact p.elim
  · rename_i n i
    obtain ⟨a, rfl, qa⟩ := rx
    obtain ⟨v, rfl, q⟩ := repL_one r
    cases q
    split at p
    · rename_i xs e
      split at p
      · rename_i k hk
        split at p
        · rename_i d hd
          obtain ⟨a', ws, e1, e2, rl⟩ := o.cell n xs e
          rw [qa] at e1; cases e1
          obtain ⟨v, h1, h2⟩ := rl.get hd
          have nx : Nxt ms H ms (upd H a (.lst (ws.eraseIdx k))) := Nxt.chg o qa e2
          rw [rl.length, place_ix] at hk
          obtain ⟨z1, z2, z3, z4⟩ := ixN_seq hk
          split at p
          · rename_i hi
            refine ⟨.inl ⟨rfl, ws, SqL.of e2⟩, a, ws, i, k, v, rfl, rfl, e2, by omega, by omega, z1, h1, ?_⟩
            exact p _ ms _ nx (o.chg qa e2 (rl.erase k)) (Rep.nxt nx d v h2)
          · exact p.elim
        · exact p.elim
      · exact p.elim
    · exact p.elim
  · exact p.elim
end
end Pi

set_option Elab.async false
set_option linter.all false
set_option maxRecDepth 100000
namespace Pi
open PySem PySem.Spec PyProof.Rows L2

/-- places in the text -/
inductive Tr where
  | nd (p q : Pos) (sc : Scope) (ks : List Tr)
def sc0 : Scope := { kind := .function, names := [], isGenerator := false, isCoroutine := false, more := [] }
instance : Inhabited Tr := ⟨.nd ⟨0, 0, 0, 0⟩ ⟨0, 0, 0, 0⟩ sc0 []⟩
def Tr.p : Tr → Pos | .nd p _ _ _ => p
def Tr.q : Tr → Pos | .nd _ q _ _ => q
def Tr.sc : Tr → Scope | .nd _ _ s _ => s
def Tr.ks : Tr → List Tr | .nd _ _ _ k => k
def Tr.k (t : Tr) (i : Nat) : Tr := t.ks.getD i default

structure Nm where
  N : List Str
  FN : Nat → Str
  GN : Nat → Str
  fk : Nat → Bool
def Nm.n (nm : Nm) (i : Nat) : Str := nm.N.getD i ""

mutual
def embT (nm : Nm) : Tg → Tr → Expr
  | .n i, t => .Name (nm.n i) t.p
  | .t l, t => .Tuple (embTL nm l t.ks) 0 t.p
def embTL (nm : Nm) : List Tg → List Tr → List Expr
  | [], _ => []
  | x :: l, ts => embT nm x (ts.headD default) :: embTL nm l ts.tail
end
def embTy (tys : List Ty) (t : Tr) : Expr := match tys with
  | [ty] => .Name (tyStr ty) t.p
  | tys => .Tuple ((tys.zip t.ks).map fun p => .Name (tyStr p.1) p.2.p) 0 t.p
def methName : Meth → Str
  | .append => "append" | .extend => "extend" | .count => "count" | .index => "index" | .pop0 => "pop" | .pop1 => "pop"
def embIt (ib : IB) (es : List Expr) (t : Tr) : Expr := match ib with
  | .seq => es.headD (.Name "" t.p)
  | .range => .Call (.Name "range" t.q) es [] t.p
  | .zip => .Call (.Name "zip" t.q) es [] t.p
  | .enum => .Call (.Name "enumerate" t.q) es [] t.p
mutual
def emb (nm : Nm) : Ex → Tr → Expr
  | .var i, t => .Name (nm.n i) t.p
  | .int i, t => .Constant (.int i) 0 t.p
  | .bl b, t => .Constant (.bool b) 0 t.p
  | .non, t => .Constant .none 0 t.p
  | .str x, t => .Constant (.str x) 0 t.p
  | .glob g, t => .Name (nm.GN g) t.p
  | .bin _ op a b, t => .BinOp (emb nm a (t.k 0)) (bopOf op) (emb nm b (t.k 1)) t.p
  | .neg a, t => .UnaryOp .USub (emb nm a (t.k 0)) t.p
  | .not a, t => .UnaryOp .Not (emb nm a (t.k 0)) t.p
  | .and es, t => .BoolOp .And (embL nm es t.ks) t.p
  | .or es, t => .BoolOp .Or (embL nm es t.ks) t.p
  | .cmp op a b, t => .Compare (emb nm a (t.k 0)) [copOf op] [emb nm b (t.k 1)] t.p
  | .chain op op' a b c, t => .Compare (emb nm a (t.k 0)) [copOf op, copOf op'] [emb nm b (t.k 1), emb nm c (t.k 2)] t.p
  | .isn n a, t => .Compare (emb nm a (t.k 0)) [if n then .IsNot else .Is] [.Constant .none 0 t.q] t.p
  | .isb n a b, t => .Compare (emb nm a (t.k 0)) [if n then .IsNot else .Is] [.Constant (.bool b) 0 t.q] t.p
  | .ite c a b, t => .IfExp (emb nm c (t.k 0)) (emb nm a (t.k 1)) (emb nm b (t.k 2)) t.p
  | .tup es, t => .Tuple (embL nm es t.ks) 0 t.p
  | .lst _ es, t => .List (embL nm es t.ks) t.p
  | .idx a i, t => .Subscript (emb nm a (t.k 0)) (emb nm i (t.k 1)) t.p
  | .slice _ a lo hi, t => .Subscript (emb nm a (t.k 0)) (.Slice (embL nm lo (t.k 1).ks).head? (embL nm hi (t.k 2).ks).head? none t.q) t.p
  | .call f es, t => .Call (.Name (nm.FN f) t.q) (embL nm es t.ks) [] t.p
  | .blt _ b es, t => .Call (.Name (bltName b) t.q) (embL nm es t.ks) [] t.p
  | .inst a tys, t => .Call (.Name "isinstance" t.q) [emb nm a (t.k 0), embTy tys (t.k 1)] [] t.p
  | .meth f o es, t => .Call (.Attribute (emb nm o (t.k 0)) (methName f) t.q) (embL nm es t.ks.tail) [] t.p
  | .comp _ elt tg ib es cond, t => .ListComp (emb nm elt (t.k 0)) [⟨embT nm tg (t.k 1), embIt ib (embL nm es (t.k 2).ks) (t.k 2), embL nm cond (t.k 3).ks, 0⟩] t.sc t.p
def embL (nm : Nm) : List Ex → List Tr → List Expr
  | [], _ => []
  | e :: es, ts => emb nm e (ts.headD default) :: embL nm es ts.tail
end

def okName (x : Str) : Bool := !(x == ("__debug__" : Str)) && !(x == ("__classdict__" : Str)) && !(x == ("super" : Str))
def visB (sc : Scope) (x : Str) : Bool := (match sc.names.lookup x with | some .local => true | some .cell => true | some .free => true | _ => false) && okName x
def glB (sc : Scope) (x : Str) : Bool := (match sc.names.lookup x with | some .globalImplicit => true | _ => false) && okName x
def stB (ow : Scope) (x : Str) : Bool := match ow.names.lookup x with | some .local => true | some .cell => true | _ => false
def namesOk (nm : Nm) (ow : Scope) (is : List Nat) : Bool := is.all fun i => decide (i < nm.N.length) && stB ow (nm.n i)
def noCall : Ex → Bool
  | .call _ _ => false | .blt _ _ _ => false | .inst _ _ => false | .meth _ _ _ => false | _ => true
def mOk : Meth → Bool | .count => false | .index => false | _ => true
def isTg : Tg → Bool | .t _ => true | .n _ => false
def ibOk (sc : Scope) (ib : IB) (tg : Tg) (n : Nat) : Bool := match ib with
  | .seq => n == 1
  | .range => glB sc "range" && (n == 1 || n == 2)
  | .zip => glB sc "zip" && isTg tg && n == 2
  | .enum => glB sc "enumerate" && isTg tg && n == 1
mutual
def chk (nm : Nm) (sc ow : Scope) : Ex → Tr → Bool
  | .var i, _ => decide (i < nm.N.length) && visB sc (nm.n i)
  | .int _, _ => true
  | .bl _, _ => true
  | .non, _ => true
  | .str _, _ => true
  | .glob g, _ => glB sc (nm.GN g)
  | .bin _ _ a b, t => chk nm sc ow a (t.k 0) && chk nm sc ow b (t.k 1)
  | .neg a, t => chk nm sc ow a (t.k 0)
  | .not a, t => chk nm sc ow a (t.k 0)
  | .and es, t => !es.isEmpty && chkL nm sc ow es t.ks
  | .or es, t => !es.isEmpty && chkL nm sc ow es t.ks
  | .cmp _ a b, t => chk nm sc ow a (t.k 0) && chk nm sc ow b (t.k 1)
  | .chain _ _ a b c, t => chk nm sc ow a (t.k 0) && chk nm sc ow b (t.k 1) && chk nm sc ow c (t.k 2)
  | .isn _ a, t => chk nm sc ow a (t.k 0)
  | .isb _ a _, t => chk nm sc ow a (t.k 0)
  | .ite c a b, t => chk nm sc ow c (t.k 0) && chk nm sc ow a (t.k 1) && chk nm sc ow b (t.k 2)
  | .tup es, t => chkL nm sc ow es t.ks
  | .lst _ es, t => chkL nm sc ow es t.ks
  | .idx a i, t => chk nm sc ow a (t.k 0) && chk nm sc ow i (t.k 1)
  | .slice _ a lo hi, t => chk nm sc ow a (t.k 0) && chkL nm sc ow lo (t.k 1).ks && chkL nm sc ow hi (t.k 2).ks && decide (lo.length ≤ 1) && decide (hi.length ≤ 1)
  | .call f es, t => nm.fk f && glB sc (nm.FN f) && chkL nm sc ow es t.ks
  | .blt _ b es, t => glB sc (bltName b) && !es.isEmpty && chkL nm sc ow es t.ks
  | .inst a tys, t => glB sc "isinstance" && chk nm sc ow a (t.k 0) && tys.all (fun ty => glB sc (tyStr ty)) && !tys.isEmpty && decide ((t.k 1).ks.length = (if tys.length = 1 then (t.k 1).ks.length else tys.length) ∧ tys.length ≤ 10)
  | .meth f o es, t => mOk f && noCall o && chk nm sc ow o (t.k 0) && chkL nm sc ow es t.ks.tail && (t.q.endLine == t.p.line) && decide (es.length ≤ 1)
  | .comp _ elt tg ib es cond, t => chkL nm sc ow es (t.k 2).ks && ibOk sc ib tg es.length && blkC nm.N sc t.sc (tg.names.map fun i => (nm.n i, i)) && namesOk nm t.sc tg.names &&
      chk nm (relS t.sc sc) t.sc elt (t.k 0) && chkL nm (relS t.sc sc) t.sc cond (t.k 3).ks && decide (cond.length ≤ 1)
def chkL (nm : Nm) (sc ow : Scope) : List Ex → List Tr → Bool
  | [], _ => true
  | e :: es, ts => chk nm sc ow e (ts.headD default) && chkL nm sc ow es ts.tail
end

section
variable {nm : Nm}
theorem star_emb (e : Ex) (t : Tr) (r : List Expr) (env : PySem.Env) : starEach (emb nm e t :: r) env = (false, eval (emb nm e t) env) :: starEach r env := by
  cases e <;> simp only [emb] <;> rfl
theorem star_embL : ∀ (es : List Ex) (ts : List Tr) (env : PySem.Env) (pos : Pos), (backTo pos (starEach (embL nm es ts) env)).any (·.1) = false
  | [], _, _, _ => rfl
  | e :: es, ts, env, pos => by
    simp only [embL]
    rw [star_emb]
    show (false || (backTo pos (starEach (embL nm es ts.tail) env)).any (·.1)) = false
    rw [star_embL es ts.tail env pos]
    rfl
theorem behind_emb (op : CmpOp) (e : Ex) (t : Tr) : behindInMarks op (emb nm e t) = false := by
  cases e <;> simp only [emb] <;> rfl
theorem plain_emb (e : Ex) (t : Tr) : PlainIx (emb nm e t) := by
  intro o i
  cases e <;> simp only [emb] <;> rfl
theorem attr_emb {o : Ex} (h : noCall o = true) (t : Tr) (x : Str) (env : PySem.Env) : attributeBase (emb nm o t) x env (eval (emb nm o t) env) = eval (emb nm o t) env := by
  cases o <;> first | (simp [noCall] at h; done) | (simp only [emb]; rfl)
theorem folded_emb (e : Ex) (t : Tr) (env : PySem.Env) : ∀ x, foldedSetIterable (emb nm e t) env x = pure x := by
  intro x
  cases e <;> simp only [emb] <;> rfl
end

structure Glob where
  S : Sit
  XA : Nat → Option Addr
  P : Prog
  nm : Nm
/-- a def's promise -/
def spD (g : Glob) (c : List D → Store → R D) (np : Nat) : Sp := fun vs H Q E => vs.length = np ∧ ∃ ms ds s, RepL g.S ms H ds vs ∧ StOk g.S ms H s ∧ PostD g.S g.XA ms H E Q (c ds s)
/-- the def f, called at depth n -/
def FnAt (g : Glob) (P : Program) (w : World) (mg : Str → Option Value) (base : Heap) (A : Around) (n : Nat) (f : Nat) : Prop :=
  ∀ F, g.P.F f = some F → ∃ (k : Nat) (a : Addr) (fd : FuncData) (ps : List Str), FnOk P w g.S.K mg base (L2.CX P w) k a fd ps (spD g (run g.P n f) F.np) ∧ Room k A ∧ mg (g.nm.FN f) = some (.ref a) ∧
    PySem.W.keepIn g.S.K (.ref a) = true ∧ Binds g.S.K fd ps [] ∧ ps.length = F.np
def bnames : List Str := ["abs", "len", "int", "tuple", "list", "sum", "all", "any", "max", "min", "isinstance", "range", "zip", "enumerate", "bool", "str"]
structure Cxt (g : Glob) (n : Nat) (N : List Str) (X : Cx) (W : WX) (ow : Scope) : Prop where
  tk : Takes X W
  po : PassesOwn (model X.prog X.w) X.A X.env X.xe
  calm : X.calm = true
  nd : X.N.Nodup
  hN : X.N = N
  hu : X.A.units + 65 < cLine
  sto : ∀ x, stB ow x = true → Loc X.env.scope x ∧ (X.fn x = true ∨ X.env.scope.names.lookup x = some .local)
  hK : X.K = g.S.K
  blt : ∀ x ∈ bnames, X.mg x = none
  known : ∀ f, g.nm.fk f = true → ∃ F, g.P.F f = some F
  calls : ∀ f, FnAt g X.prog X.w X.mg X.base X.A n f
  consts : ∀ i d, g.P.G i = some d → ∃ u v, X.mg (g.nm.GN i) = some u ∧ RelV v u ∧ ∀ ms H, Rep g.S ms H d v
end Pi

set_option Elab.async false
set_option linter.all false
set_option maxRecDepth 100000
namespace Pi
open PySem PySem.Spec PyProof.Rows L2

theorem glB_ok {sc : Scope} {x : Str} (h : glB sc x = true) : sc.names.lookup x = some .globalImplicit ∧ (x == ("__debug__" : Str)) = false ∧ (x == ("__classdict__" : Str)) = false ∧ (x == ("super" : Str)) = false := by
  unfold glB okName at h
  rw [Bool.and_eq_true] at h
  obtain ⟨h1, h2⟩ := h
  simp only [Bool.and_eq_true, Bool.not_eq_true'] at h2
  refine ⟨?_, h2.1.1, h2.1.2, h2.2⟩
  split at h1
  · assumption
  · cases h1
theorem visB_ok {sc : Scope} {x : Str} (h : visB sc x = true) : Vis sc x ∧ (x == ("__debug__" : Str)) = false ∧ (x == ("__classdict__" : Str)) = false := by
  unfold visB okName at h
  rw [Bool.and_eq_true] at h
  obtain ⟨h1, h2⟩ := h
  simp only [Bool.and_eq_true, Bool.not_eq_true'] at h2
  refine ⟨?_, h2.1.1, h2.1.2⟩
  split at h1
  · exact .inl (by assumption)
  · exact .inr (.inl (by assumption))
  · exact .inr (.inr (by assumption))
  · cases h1

/-- the slots are as they were, but at vs -/
def Off (vs : List Nat) (σ σ' : L2.St) : Prop := σ'.length = σ.length ∧ ∀ i, i ∉ vs → σ'[i]? = σ[i]?
theorem Off.refl {vs : List Nat} {σ : L2.St} : Off vs σ σ := ⟨rfl, fun _ _ => rfl⟩
theorem Off.trans {vs : List Nat} {σ σ1 σ2 : L2.St} (a : Off vs σ σ1) (b : Off vs σ1 σ2) : Off vs σ σ2 := ⟨b.1.trans a.1, fun i h => (b.2 i h).trans (a.2 i h)⟩
theorem Off.mono {vs us : List Nat} {σ σ' : L2.St} (a : Off vs σ σ') (h : ∀ i ∈ vs, i ∈ us) : Off us σ σ' := ⟨a.1, fun i hi => a.2 i fun z => hi (h i z)⟩
theorem wipe_in {σ : L2.St} {i : Nat} : ∀ {vs : List Nat}, i ∈ vs → (L2.wipe σ vs)[i]? = if i < σ.length then some none else none
  | [], h => by cases h
  | v :: vs, h => by
    unfold L2.wipe
    by_cases e : v = i
    · subst e
      by_cases hl : v < σ.length
      · rw [List.getElem?_set_self (by rw [wipe_length]; exact hl), if_pos hl]
      · rw [if_neg hl, List.getElem?_eq_none (by rw [List.length_set, wipe_length]; omega)]
    · rw [List.getElem?_set_ne e]
      exact wipe_in ((List.mem_cons.mp h).resolve_left fun z => e z.symm)
theorem Off.wipe {vs : List Nat} {σ σ' : L2.St} (a : Off vs σ σ') : L2.wipe σ' vs = L2.wipe σ vs := by
  apply List.ext_getElem?
  intro i
  by_cases h : i ∈ vs
  · rw [wipe_in h, wipe_in h, a.1]
  · rw [wipe_out h, wipe_out h]
    exact a.2 i h

section
variable (g : Glob)
def TG (t : Tg) : TG := fun v σ H Q => ∃ ms ρ d, EnvOk g.S ms H ρ σ ∧ Rep g.S ms H d v ∧ ∃ ρ', put t d ρ = some ρ' ∧ ∀ σ', EnvOk g.S ms H ρ' σ' → Off t.names σ σ' → Q σ' H
def TGs (ts : List Tg) : TGs := fun vs σ H Q => ∃ ms ρ ds, EnvOk g.S ms H ρ σ ∧ RepL g.S ms H ds vs ∧ ∃ ρ', putL ts ds ρ = some ρ' ∧ ∀ σ', EnvOk g.S ms H ρ' σ' → Off (Tg.namesL ts) σ σ' → Q σ' H
end
theorem pg_imp {X : Cx} {e : Expr} {t t' : L2.TG} (h : PG X e t) (i : ∀ v σ H Q, t' v σ H Q → t v σ H Q) : PG X e t' := ⟨fun pins s σ H v u Q I r q => h.run pins s σ H v u Q I r (i _ _ _ _ q)⟩
theorem pgs_imp {X : Cx} {e : List Expr} {t t' : L2.TGs} (h : PGs X e t) (i : ∀ v σ H Q, t' v σ H Q → t v σ H Q) : PGs X e t' := ⟨fun pins s σ H v u Q I r q => h.run pins s σ H v u Q I r (i _ _ _ _ q)⟩
section
variable {g : Glob} {n : Nat} {N : List Str} {X : Cx} {W : WX} {ow : Scope}
theorem EnvOk.set {S : Sit} {ms : Wd} {H : Hp} {ρ : Env} {σ : L2.St} {i : Nat} {d : D} {v : V} (e : EnvOk S ms H ρ σ) (r : Rep S ms H d v) : EnvOk S ms H (ρ.set i (some d)) (σ.set i (some v)) := by
  refine ⟨by simp [e.len], fun j d' h => ?_⟩
  by_cases hj : j = i
  · subst hj
    by_cases hl : j < ρ.length
    · rw [List.getElem?_set_self hl] at h
      cases h
      exact ⟨v, List.getElem?_set_self (by rw [e.len]; exact hl), r⟩
    · rw [List.getElem?_eq_none (by simpa using hl)] at h; cases h
  · rw [List.getElem?_set_ne (Ne.symm hj)] at h ⊢
    exact e.at_ j d' h
theorem names_ok {nm : Nm} {is : List Nat} (h : namesOk nm ow is = true) : ∀ i ∈ is, i < nm.N.length ∧ stB ow (nm.n i) = true := fun i hi => by
  have z := List.all_eq_true.mp h i hi
  rw [Bool.and_eq_true, decide_eq_true_eq] at z
  exact z
theorem nm_get {nm : Nm} {i : Nat} (h : i < nm.N.length) : nm.N[i]? = some (nm.n i) := by
  unfold Nm.n
  rw [List.getD_eq_getElem?_getD, List.getElem?_eq_getElem h]
  rfl
theorem assign_len : ∀ (l : List Tg) (ts : List Tr) (nm : Nm) (env : PySem.Env), (assignEach (embTL nm l ts) env).length = l.length ∧ (assignEach (embTL nm l ts) env).findIdx? (·.1) = none
  | [], _, _, _ => ⟨rfl, rfl⟩
  | x :: l, ts, nm, env => by
    have ih := assign_len l ts.tail nm env
    simp only [embTL]
    have e : ∀ y, assignEach (embT nm x (ts.headD default) :: y) env = (false, assign (embT nm x (ts.headD default)) env) :: assignEach y env := by
      intro y
      cases x <;> simp only [embT] <;> rfl
    rw [e]
    refine ⟨by rw [List.length_cons, ih.1, List.length_cons], ?_⟩
    rw [List.findIdx?_cons, ih.2]
    rfl
theorem assign_cons (x : Tg) (t : Tr) (nm : Nm) (y : List Expr) (env : PySem.Env) : (assignEach (embT nm x t :: y) env).map (·.2) = assign (embT nm x t) env :: (assignEach y env).map (·.2) := by
  cases x <;> simp only [embT] <;> rfl
mutual
theorem sndT (c : Cxt g n g.nm.N X W ow) : ∀ (t : Tg) (pt : Tr), namesOk g.nm ow t.names = true → PG X (embT g.nm t pt) (TG g t)
  | .n i, pt, h => by
    obtain ⟨hl, hs⟩ := names_ok h i (by simp [Tg.names])
    obtain ⟨lo, fn⟩ := c.sto _ hs
    refine pg_imp (pg_name (i := i) c.nd (by rw [c.hN]; exact nm_get hl) lo fn) fun v σ H Q q => ?_
    obtain ⟨ms, ρ, d, e, r, ρ', hp, k⟩ := q
    simp only [put] at hp
    split at hp
    · cases hp
      refine k _ (e.set r) ⟨by simp, fun j hj => ?_⟩
      rw [List.getElem?_set_ne]
      intro z
      exact hj (by simp [Tg.names, z])
    · cases hp
  | .t l, pt, h => by
    have ih := sndTs c l pt.ks (by simpa [Tg.names] using h)
    have al := assign_len l pt.ks g.nm X.env
    refine pg_imp (pg_tup (n := l.length) c.calm ih al.1 al.2) fun v σ H Q q => ?_
    obtain ⟨ms, ρ, d, e, r, ρ', hp, k⟩ := q
    cases d with
    | tup ds =>
      obtain ⟨a, vs, rfl, q, rl⟩ := r
      have hl : ∀ (l : List Tg) (ds : List D) (ρ ρ' : Env), putL l ds ρ = some ρ' → ds.length = l.length := by
        intro l
        induction l with
        | nil => intro ds ρ ρ' h; cases ds <;> simp [putL] at h ⊢
        | cons x l ih =>
          intro ds ρ ρ' h
          cases ds with
          | nil => simp [putL] at h
          | cons d ds =>
            simp only [putL] at h
            obtain ⟨ρ1, h1, h2⟩ := Option.bind_eq_some_iff.mp h
            simp [ih ds ρ1 ρ' h2]
      simp only [put] at hp
      refine ⟨a, vs, rfl, ?_, ?_, ms, ρ, ds, e, rl, ρ', hp, k⟩
      · rw [c.hK]; exact q
      · rw [← rl.length]; exact hl l ds ρ ρ' hp
    | _ => simp [put] at hp
theorem sndTs (c : Cxt g n g.nm.N X W ow) : ∀ (l : List Tg) (ts : List Tr), namesOk g.nm ow (Tg.namesL l) = true → PGs X (embTL g.nm l ts) (TGs g l)
  | [], ts, h => by
    refine pgs_imp pgs_nil fun vs σ H Q q => ?_
    obtain ⟨ms, ρ, ds, e, r, ρ', hp, k⟩ := q
    cases ds with
    | nil =>
      cases r
      simp only [putL, Option.some.injEq] at hp
      subst hp
      exact ⟨rfl, k σ e .refl⟩
    | cons d ds => simp [putL] at hp
  | x :: l, ts, h => by
    have h1 : namesOk g.nm ow x.names = true ∧ namesOk g.nm ow (Tg.namesL l) = true := by
      unfold namesOk at h ⊢
      simpa [Tg.namesL, List.all_append] using h
    have i1 := sndT c x (ts.headD default) h1.1
    have i2 := sndTs c l ts.tail h1.2
    refine pgs_imp (pgs_cons i1 i2 (assign_cons x _ g.nm _ X.env)) fun vs σ H Q q => ?_
    obtain ⟨ms, ρ, ds, e, r, ρ', hp, k⟩ := q
    cases ds with
    | nil => simp [putL] at hp
    | cons d ds =>
      obtain ⟨v, vr, rfl, rd, rr⟩ := r
      simp only [putL] at hp
      obtain ⟨ρ1, hp1, hp2⟩ := Option.bind_eq_some_iff.mp hp
      refine ⟨v, vr, rfl, ms, ρ, d, e, rd, ρ1, hp1, fun σ1 e1 o1 => ?_⟩
      refine ⟨ms, ρ1, ds, e1, rr, ρ', hp2, fun σ2 e2 o2 => k σ2 e2 ?_⟩
      refine (o1.mono fun i hi => ?_).trans (o2.mono fun i hi => ?_)
      · simp [Tg.namesL, hi]
      · simp [Tg.namesL, hi]
end
end

mutual
theorem beq_eq : ∀ (d e : D), D.beq d e = true → d = e
  | .non, e, h => by cases e <;> simp [D.beq] at h; rfl
  | .bl _, e, h => by cases e <;> simp [D.beq] at h; rw [h]
  | .int _, e, h => by cases e <;> simp [D.beq] at h; rw [h]
  | .str _, e, h => by cases e <;> simp [D.beq] at h; rw [h]
  | .tup xs, e, h => by cases e <;> simp [D.beq] at h; rw [beqL_eq _ _ h]
  | .lst xs, e, h => by cases e <;> simp [D.beq] at h; rw [beqL_eq _ _ h]
  | .klst xs, e, h => by cases e <;> simp [D.beq] at h; rw [beqL_eq _ _ h]
  | .ref _, e, h => by cases e <;> simp [D.beq] at h; rw [h]
  | .fn _, e, h => by cases e <;> simp [D.beq] at h; rw [h]
theorem beqL_eq : ∀ (d e : List D), D.beqL d e = true → d = e
  | [], e, h => by cases e <;> simp [D.beqL] at h; rfl
  | x :: xs, e, h => by
    cases e with
    | nil => simp [D.beqL] at h
    | cons y ys =>
      simp only [D.beqL, Bool.and_eq_true] at h
      rw [beq_eq _ _ h.1, beqL_eq _ _ h.2]
end
structure Wk (S : Sit) (ms0 : Wd) (H0 : Hp) (c : Src) (J : It) : Prop where
  go : ∀ (i : Nat) x ms H s, Nxt ms0 H0 ms H → StOk S ms H s → c.chk s = true → c.list[i]? = some x → J.go i H ∧ ∀ v H', J.yld i H v H' → Nxt ms H ms H' ∧ StOk S ms H' s ∧ Rep S ms H' x v ∧ ∀ a, H a ≠ none → H' a = H a
  stop : ∀ ms H s, Nxt ms0 H0 ms H → StOk S ms H s → c.chk s = true → J.stop c.list.length H
/-- a list or tuple at a, as long as the source stands -/
def Held (S : Sit) (ms0 : Wd) (H0 : Hp) (c : Src) (f : Hp → List V → Prop) : Prop := ∀ ms H s, Nxt ms0 H0 ms H → StOk S ms H s → c.chk s = true → ∃ vs, f H vs ∧ RepL S ms H c.list vs
section
variable {S : Sit} {ms : Wd} {H : Hp} {s : Store} {d : D} {v : V} {c : Src}
theorem src_held (o : StOk S ms H s) (e : srcOf s d = some c) (r : Rep S ms H d v) : ∃ a, v = .ref a ∧
    ((isTup d = false ∧ (∃ vs, SqL S.K H a vs) ∧ Held S ms H c fun H vs => SqL S.K H a vs) ∨ (isTup d = true ∧ (∃ vs, SqT S.K H a vs) ∧ Held S ms H c fun H vs => SqT S.K H a vs)) := by
  cases d with
  | tup xs =>
    simp only [srcOf, items, Option.map_some, Option.some.injEq] at e
    subst e
    obtain ⟨a, vs, rfl, q, rl⟩ := r
    exact ⟨a, rfl, .inr ⟨rfl, ⟨vs, q⟩, fun ms' H' s' n o' _ => ⟨vs, n.tup q, RepL.nxt n _ _ rl⟩⟩⟩
  | lst xs =>
    simp only [srcOf, items, Option.map_some, Option.some.injEq] at e
    subst e
    obtain ⟨a, vs, rfl, q, m, rl⟩ := r
    exact ⟨a, rfl, .inl ⟨rfl, ⟨vs, SqL.of q⟩, fun ms' H' s' n o' _ => ⟨vs, SqL.of (n.keep q m.1), RepL.nxt n _ _ rl⟩⟩⟩
  | klst xs =>
    simp only [srcOf, items, Option.map_some, Option.some.injEq] at e
    subst e
    obtain ⟨a, vs, rfl, q, rl⟩ := r
    exact ⟨a, rfl, .inl ⟨rfl, ⟨vs, q.seq⟩, fun ms' H' s' n o' _ => ⟨vs, (n.kl q).seq, RepL.nxt n _ _ rl⟩⟩⟩
  | ref k =>
    simp only [srcOf] at e
    obtain ⟨xs, e1, rfl⟩ := Option.map_eq_some_iff.mp e
    obtain ⟨a, rfl, q⟩ := r
    obtain ⟨a', vs, e2, e3, rl⟩ := o.cell k xs e1
    rw [q] at e2; cases e2
    refine ⟨a, rfl, .inl ⟨rfl, ⟨vs, SqL.of e3⟩, fun ms' H' s' n o' h => ?_⟩⟩
    simp only [Src.chk, List.all_cons, List.all_nil, Bool.and_true] at h
    split at h
    · rename_i ys e4
      have := beqL_eq _ _ h
      subst this
      obtain ⟨b, us, e5, e6, rl'⟩ := o'.cell k ys e4
      rw [n.ix q] at e5; cases e5
      exact ⟨us, SqL.of e6, rl'⟩
    · cases h
  | _ => simp [srcOf, items] at e
theorem wk_list {K : PySem.W.Frag} {a : Addr} (hK : S.K = K) (h : Held S ms H c fun H vs => SqL S.K H a vs) : Wk S ms H c (Itl K a) := by
  subst hK
  refine ⟨fun i x ms' H' s' n o' k hx => ?_, fun ms' H' s' n o' k => ?_⟩
  · obtain ⟨vs, q, rl⟩ := h ms' H' s' n o' k
    obtain ⟨v, h1, h2⟩ := rl.get hx
    refine ⟨⟨vs, v, q, h1⟩, fun u H2 y => ?_⟩
    obtain ⟨rfl, y⟩ := y
    have z := y vs q
    rw [h1] at z; cases z
    exact ⟨.refl, o', h2, fun _ _ => rfl⟩
  · obtain ⟨vs, q, rl⟩ := h ms' H' s' n o' k
    exact ⟨vs, q, by rw [rl.length]; exact Nat.le_refl _⟩
theorem wk_tup {K : PySem.W.Frag} {a : Addr} (hK : S.K = K) (h : Held S ms H c fun H vs => SqT S.K H a vs) : Wk S ms H c (Itt K a) := by
  subst hK
  refine ⟨fun i x ms' H' s' n o' k hx => ?_, fun ms' H' s' n o' k => ?_⟩
  · obtain ⟨vs, q, rl⟩ := h ms' H' s' n o' k
    obtain ⟨v, h1, h2⟩ := rl.get hx
    refine ⟨⟨vs, v, q, h1⟩, fun u H2 y => ?_⟩
    obtain ⟨rfl, y⟩ := y
    have z := y vs q
    rw [h1] at z; cases z
    exact ⟨.refl, o', h2, fun _ _ => rfl⟩
  · obtain ⟨vs, q, rl⟩ := h ms' H' s' n o' k
    exact ⟨vs, q, by rw [rl.length]; exact Nat.le_refl _⟩
theorem upTo_get : ∀ (n : Nat) (lo : Int) (i : Nat) (x : D), (upTo lo n)[i]? = some x → i < n ∧ x = .int (lo + i)
  | 0, _, _, _, h => by simp [upTo] at h
  | n + 1, lo, 0, x, h => by simp [upTo] at h; exact ⟨by omega, by rw [← h]; simp⟩
  | n + 1, lo, i + 1, x, h => by
    simp only [upTo, List.getElem?_cons_succ] at h
    obtain ⟨h1, h2⟩ := upTo_get n (lo + 1) i x h
    refine ⟨by omega, ?_⟩
    rw [h2]
    congr 1
    omega
theorem upTo_length : ∀ (n : Nat) (lo : Int), (upTo lo n).length = n
  | 0, _ => rfl
  | n + 1, lo => by simp [upTo, upTo_length n]
theorem wk_range {lo : Int} {n : Nat} : Wk S ms H ⟨[], upTo lo n⟩ (Itr lo n) := by
  refine ⟨fun i x ms' H' s' _ o' k hx => ?_, fun ms' H' s' _ o' k => ?_⟩
  · obtain ⟨h1, rfl⟩ := upTo_get n lo i x hx
    refine ⟨h1, fun v H2 y => ?_⟩
    obtain ⟨rfl, rfl⟩ := y
    exact ⟨.refl, o', rfl, fun _ _ => rfl⟩
  · show n ≤ (upTo lo n).length
    rw [upTo_length]
    exact Nat.le_refl _
theorem zipD_get : ∀ (xs ys : List D) (i : Nat) (z : D), (zipD xs ys)[i]? = some z → ∃ x y, xs[i]? = some x ∧ ys[i]? = some y ∧ z = .tup [x, y]
  | [], _, _, _, h => by simp [zipD] at h
  | _ :: _, [], _, _, h => by simp [zipD] at h
  | x :: xs, y :: ys, 0, z, h => by simp [zipD] at h; exact ⟨x, y, rfl, rfl, h.symm⟩
  | x :: xs, y :: ys, i + 1, z, h => by
    simp only [zipD, List.getElem?_cons_succ] at h ⊢
    exact zipD_get xs ys i z h
theorem zipD_length : ∀ (xs ys : List D), (zipD xs ys).length = min xs.length ys.length
  | [], _ => by simp [zipD]
  | _ :: _, [] => by simp [zipD]
  | x :: xs, y :: ys => by simp only [zipD, List.length_cons, zipD_length xs ys]; omega
theorem chk_app {A B : Src} {l : List D} {s : Store} (h : (Src.mk (A.cells ++ B.cells) l).chk s = true) : A.chk s = true ∧ B.chk s = true := by
  unfold Src.chk at h ⊢
  simp only [List.all_append, Bool.and_eq_true] at h
  exact h
theorem pair_new {ms : Wd} {H : Hp} {T : Addr} {x y : D} {v u : V} {s : Store} (o : StOk S ms H s) (hT : H T = none) (r1 : Rep S ms H x v) (r2 : Rep S ms H y u) :
    Nxt ms H ms (upd H T (.tup [v, u])) ∧ StOk S ms (upd H T (.tup [v, u])) s ∧ Rep S ms (upd H T (.tup [v, u])) (.tup [x, y]) (.ref T) ∧ ∀ a, H a ≠ none → (upd H T (.tup [v, u])) a = H a := by
  have nx : Nxt ms H ms (upd H T (.tup [v, u])) := Nxt.new hT
  exact ⟨nx, o.new hT, ⟨T, [v, u], rfl, SqT.of upd_same, v, [u], rfl, Rep.nxt nx x v r1, u, [], rfl, Rep.nxt nx y u r2, rfl⟩, fun a ha => upd_ne fun z => ha (by rw [z]; exact hT)⟩
theorem wk_zipL {K : PySem.W.Frag} {a b : Addr} {A B : Src} (hK : S.K = K) (hA : Held S ms H A fun H vs => SqL S.K H a vs) (hB : Held S ms H B fun H vs => SqL S.K H b vs) : Wk S ms H ⟨A.cells ++ B.cells, zipD A.list B.list⟩ (Itz K a b) := by
  subst hK
  refine ⟨fun i x ms' H' s' n o' k hx => ?_, fun ms' H' s' n o' k => ?_⟩
  · obtain ⟨vs, q, rl⟩ := hA ms' H' s' n o' (chk_app k).1
    obtain ⟨us, q2, rl2⟩ := hB ms' H' s' n o' (chk_app k).2
    obtain ⟨x1, x2, h1, h2, rfl⟩ := zipD_get _ _ _ _ hx
    obtain ⟨v, h3, h4⟩ := rl.get h1
    obtain ⟨u, h5, h6⟩ := rl2.get h2
    refine ⟨⟨vs, us, v, u, q, q2, h3, h5⟩, fun w H2 y => ?_⟩
    obtain ⟨T, y1, y2, rfl, hT, rfl, f1, f2⟩ := y
    have z1 := f1 vs q
    have z2 := f2 us q2
    rw [h3] at z1; cases z1
    rw [h5] at z2; cases z2
    exact pair_new o' hT h4 h6
  · obtain ⟨vs, q, rl⟩ := hA ms' H' s' n o' (chk_app k).1
    obtain ⟨us, q2, rl2⟩ := hB ms' H' s' n o' (chk_app k).2
    refine ⟨vs, us, q, q2, ?_⟩
    show vs.length ≤ (zipD A.list B.list).length ∨ us.length ≤ (zipD A.list B.list).length
    rw [zipD_length, rl.length, rl2.length]
    omega
theorem wk_zipT {K : PySem.W.Frag} {a b : Addr} {A B : Src} (hK : S.K = K) (hA : Held S ms H A fun H vs => SqT S.K H a vs) (hB : Held S ms H B fun H vs => SqT S.K H b vs) : Wk S ms H ⟨A.cells ++ B.cells, zipD A.list B.list⟩ (RZ.ItzT K a b) := by
  subst hK
  refine ⟨fun i x ms' H' s' n o' k hx => ?_, fun ms' H' s' n o' k => ?_⟩
  · obtain ⟨vs, q, rl⟩ := hA ms' H' s' n o' (chk_app k).1
    obtain ⟨us, q2, rl2⟩ := hB ms' H' s' n o' (chk_app k).2
    obtain ⟨x1, x2, h1, h2, rfl⟩ := zipD_get _ _ _ _ hx
    obtain ⟨v, h3, h4⟩ := rl.get h1
    obtain ⟨u, h5, h6⟩ := rl2.get h2
    refine ⟨⟨vs, us, v, u, q, q2, h3, h5⟩, fun w H2 y => ?_⟩
    obtain ⟨T, y1, y2, rfl, hT, rfl, f1, f2⟩ := y
    have z1 := f1 vs q
    have z2 := f2 us q2
    rw [h3] at z1; cases z1
    rw [h5] at z2; cases z2
    exact pair_new o' hT h4 h6
  · obtain ⟨vs, q, rl⟩ := hA ms' H' s' n o' (chk_app k).1
    obtain ⟨us, q2, rl2⟩ := hB ms' H' s' n o' (chk_app k).2
    refine ⟨vs, us, q, q2, ?_⟩
    show vs.length ≤ (zipD A.list B.list).length ∨ us.length ≤ (zipD A.list B.list).length
    rw [zipD_length, rl.length, rl2.length]
    omega
theorem enumD_get : ∀ (xs : List D) (k : Int) (i : Nat) (z : D), (enumD k xs)[i]? = some z → ∃ x, xs[i]? = some x ∧ z = .tup [.int (k + i), x]
  | [], _, _, _, h => by simp [enumD] at h
  | x :: xs, k, 0, z, h => by simp [enumD] at h; exact ⟨x, rfl, by rw [← h]; simp⟩
  | x :: xs, k, i + 1, z, h => by
    simp only [enumD, List.getElem?_cons_succ] at h ⊢
    obtain ⟨y, h1, h2⟩ := enumD_get xs (k + 1) i z h
    refine ⟨y, h1, ?_⟩
    rw [h2]
    congr 3
    omega
theorem enumD_length : ∀ (xs : List D) (k : Int), (enumD k xs).length = xs.length
  | [], _ => rfl
  | x :: xs, k => by simp [enumD, enumD_length xs]
theorem wk_enum {K : PySem.W.Frag} {a : Addr} {A : Src} (hK : S.K = K) (hA : Held S ms H A fun H vs => SqL S.K H a vs) : Wk S ms H ⟨A.cells, enumD 0 A.list⟩ (Ite K a) := by
  subst hK
  refine ⟨fun i x ms' H' s' n o' k hx => ?_, fun ms' H' s' n o' k => ?_⟩
  · obtain ⟨vs, q, rl⟩ := hA ms' H' s' n o' k
    obtain ⟨x1, h1, rfl⟩ := enumD_get _ _ _ _ hx
    obtain ⟨v, h3, h4⟩ := rl.get h1
    refine ⟨⟨vs, v, q, h3⟩, fun w H2 y => ?_⟩
    obtain ⟨T, y1, rfl, hT, rfl, f1⟩ := y
    have z1 := f1 vs q
    rw [h3] at z1; cases z1
    have e : (0 : Int) + (i : Int) = (i : Int) := by omega
    rw [e]
    exact pair_new o' hT rfl h4
  · obtain ⟨vs, q, rl⟩ := hA ms' H' s' n o' k
    refine ⟨vs, q, ?_⟩
    show vs.length ≤ (enumD 0 A.list).length
    rw [enumD_length, rl.length]
    exact Nat.le_refl _
end
end Pi

set_option Elab.async false
set_option linter.all false
set_option maxRecDepth 100000
namespace Pi
open PySem PySem.Spec PyProof.Rows L2

abbrev W0 : WX := fun _ _ _ _ => False
theorem lookup_relS_stB {sc scope : Scope} {x : Str} (h : stB scope x = true) : (relS scope sc).names.lookup x = scope.names.lookup x := by
  unfold stB at h
  split at h
  · rename_i e
    rw [e]
    exact lookup_relS_keep (by decide) e
  · rename_i e
    rw [e]
    exact lookup_relS_keep (by decide) e
  · cases h
section
variable {g : Glob} {n : Nat} {N : List Str} {X : Cx} {W : WX} {ow : Scope}
theorem Cxt.blk (c : Cxt g n N X W ow) (scope : Scope) (s : Shared) (H : Hp) (C : Addr) (cl : List (Str × Addr)) (fp : List Addr) : Cxt g n N (X.blk s H scope (compEnvC scope cl C X.env) fp) W0 scope where
  tk := takes0
  po := PassesOwn.never
  calm := c.calm
  nd := c.nd
  hN := c.hN
  hu := c.hu
  sto := fun x h => by
    have e : (relS scope X.env.scope).names.lookup x = scope.names.lookup x := lookup_relS_stB h
    unfold stB at h
    split at h
    · rename_i e2
      rw [e2] at e
      exact ⟨.inl e, .inr e⟩
    · rename_i e2
      rw [e2] at e
      refine ⟨.inr e, .inl ?_⟩
      show (scope.names.lookup x == some .cell) = true
      rw [e2]
      rfl
    · cases h
  hK := c.hK
  blt := c.blt
  known := c.known
  calls := c.calls
  consts := c.consts

theorem pe_blt (c : Cxt g n N X W ow) {b : Blt} {p pos : Pos} {e : Expr} {es : List Expr} {t : TA} (hg : glB X.env.scope (bltName b) = true) (ha : PA X (e :: es) t)
    (he : starEach (e :: es) X.env = (false, eval e X.env) :: starEach es X.env) (hpl : (backTo pos (starEach es X.env)).any (·.1) = false) : PE X (.Call (.Name (bltName b) p) (e :: es) [] pos) (tCB (rBlt X.K b) t) := by
  have gl : Gl X (bltName b) := (glB_ok hg).1
  cases b
  all_goals first
    | exact pe_callB (call_blt c.calm .abs) gl (c.blt _ (by simp [bnames, bltName])) (by decide +kernel) ha (by decide) (by decide) he hpl
    | exact pe_callB (call_blt c.calm .len) gl (c.blt _ (by simp [bnames, bltName])) (by decide +kernel) ha (by decide) (by decide) he hpl
    | exact pe_callTy (call_blt c.calm .int) gl (c.blt _ (by simp [bnames, bltName])) (by decide +kernel) ha (by decide) (by decide) he hpl
    | exact pe_callTy (call_blt c.calm .tuple) gl (c.blt _ (by simp [bnames, bltName])) (by decide +kernel) ha (by decide) (by decide) he hpl
    | exact pe_callTy (call_blt c.calm .list) gl (c.blt _ (by simp [bnames, bltName])) (by decide +kernel) ha (by decide) (by decide) he hpl
    | exact pe_callB (call_blt c.calm .sum) gl (c.blt _ (by simp [bnames, bltName])) (by decide +kernel) ha (by decide) (by decide) he hpl
    | exact pe_callB (call_blt c.calm .all) gl (c.blt _ (by simp [bnames, bltName])) (by decide +kernel) ha (by decide) (by decide) he hpl
    | exact pe_callB (call_blt c.calm .any) gl (c.blt _ (by simp [bnames, bltName])) (by decide +kernel) ha (by decide) (by decide) he hpl
    | exact pe_callB (call_blt c.calm .max2) gl (c.blt _ (by simp [bnames, bltName])) (by decide +kernel) ha (by decide) (by decide) he hpl
    | exact pe_callB (call_blt c.calm .min2) gl (c.blt _ (by simp [bnames, bltName])) (by decide +kernel) ha (by decide) (by decide) he hpl
theorem pe_ty (c : Cxt g n N X W ow) {t : Ty} {p : Pos} (hg : glB X.env.scope (tyStr t) = true) : PE X (.Name (tyStr t) p) (tC (.ty (tyName t))) := by
  have gl : Gl X (tyStr t) := (glB_ok hg).1
  cases t
  all_goals first
    | exact pe_bltn (v := .ty "int") (u := .type "int") gl (c.blt _ (by simp [bnames, tyStr])) (by decide +kernel) rfl (by decide) (by decide)
    | exact pe_bltn (v := .ty "bool") (u := .type "bool") gl (c.blt _ (by simp [bnames, tyStr])) (by decide +kernel) rfl (by decide) (by decide)
    | exact pe_bltn (v := .ty "tuple") (u := .type "tuple") gl (c.blt _ (by simp [bnames, tyStr])) (by decide +kernel) rfl (by decide) (by decide)
    | exact pe_bltn (v := .ty "list") (u := .type "list") gl (c.blt _ (by simp [bnames, tyStr])) (by decide +kernel) rfl (by decide) (by decide)
    | exact pe_bltn (v := .ty "str") (u := .type "str") gl (c.blt _ (by simp [bnames, tyStr])) (by decide +kernel) rfl (by decide) (by decide)
/-- f() -/
theorem pe_callSD0 {CX : CXT} {k : Nat} {f : Addr} {fd : FuncData} {ps : List Str} {sp : Sp} {E : L2.St → XK} {x : Str} {p pos : Pos} (F : FnOk X.prog X.w X.K X.mg X.base CX k f fd ps sp) (hr : Room k X.A) (hg : Gl X x) (hm : X.mg x = some (.ref f)) (hk : PySem.W.keepIn X.K (.ref f) = true)
    (hb : Binds X.K fd ps []) (hx : ∀ σ, PassesAt CX X σ (E σ)) (hdb : (x == ("__debug__" : Str)) = false) : PE X (.Call (.Name x p) [] [] pos) (tCallSD sp [] E tNil) := by
  refine ⟨fun pins s σ H Q I h => ?_⟩
  refine wpAny_Call_Name_kw (ld_glob I hg hm ?_ hdb)
  exact PySem.W.callWith_K0 I.kIn hk (run_fnSD (us := []) F hr hb .nil (hx σ) I .nil h)
/-- a if t else b, as a test -/
theorem pt_ite {c a b : Expr} {pos : Pos} {tc ta tb : L2.TT} (hc : PT X c tc) (ha : PT X a ta) (hb : PT X b tb) : PT X (.IfExp c a b pos) (fun σ H Q => tc σ H fun d H1 => if d = true then ta σ H1 Q else tb σ H1 Q) := by
  refine ⟨fun pins s σ H Q I h => ?_⟩
  show wpAny _ _ (isTrue c X.env (eval c X.env) >>= fun d => if d = true then isTrue a X.env (eval a X.env) else isTrue b X.env (eval b X.env)) _ _ _
  refine wpAny_bind (thn (hc.run pins s σ H _ I h) fun d s1 ⟨H1, I1, q1⟩ => ?_)
  cases d with
  | true => exact ha.run pins s1 σ H1 Q I1 q1
  | false => exact hb.run pins s1 σ H1 Q I1 q1
end

def itE (G : Nat → Option D) (call : Call) (ib : IB) (es : List Ex) : Env → Store → R Src := fun ρ s => (evL G call es ρ s).bind fun ds s1 => match pIter s1 ib ds with
  | some c => .ok c s1
  | none => .bad
def TIt (S : Sit) (XA : Nat → Option Addr) (W : WX) (f : Env → Store → R Src) : TI := fun σ H Q => ∃ ms ρ s, EnvOk S ms H ρ σ ∧ StOk S ms H s ∧ Post S XA ms H (fun ms' H' c J => Wk S ms' H' c J) (fun cls dx H' => W cls dx σ H') Q (f ρ s)
theorem pi_imp {X : Cx} {tg e : Expr} {t t' : TI} (h : PI X tg e t) (i : ∀ σ H Q, t' σ H Q → t σ H Q) : PI X tg e t' := ⟨fun pins s σ H Q I q => h.run pins s σ H Q I (i _ _ _ q)⟩
section
variable {S : Sit} {XA : Nat → Option Addr} {ms : Wd} {H : Hp} {s : Store} {E : XK} {Q : It → Hp → Prop} {ds : List D}
/-- what pIter asks of its answer -/
theorem it_post {ib : IB} (p : Post S XA ms H (fun ms' H' c J => Wk S ms' H' c J) E Q (match pIter s ib ds with | some c => R.ok c s | none => .bad)) (o : StOk S ms H s) : ∃ c, pIter s ib ds = some c ∧ ∀ J, Wk S ms H c J → Q J H := by
  cases e : pIter s ib ds with
  | none => rw [e] at p; exact p.elim
  | some c => rw [e] at p; exact ⟨c, rfl, fun J h => p J ms H .refl o h⟩
end
section
variable {g : Glob} {n : Nat} {X : Cx} {W : WX} {ow : Scope}
theorem sndIt (c : Cxt g n g.nm.N X W ow) {G : Nat → Option D} {call : Call} {ib : IB} {es : List Ex} {ts : List Tr} {tg : Tg} {tp ip : Tr} (hL : PA X (embL g.nm es ts) (TL g.S g.XA W (evL G call es)))
    (h1 : ∀ e, es = [e] → PE X (emb g.nm e (ts.headD default)) (TD g.S g.XA W (ev G call e))) (ok : ibOk X.env.scope ib tg es.length = true) : PI X (embT g.nm tg tp) (embIt ib (embL g.nm es ts) ip) (TIt g.S g.XA W (itE G call ib es)) := by
  have hK := c.hK
  cases ib with
  | seq =>
    match es, h1, ok with
    | [e], h1, _ =>
      have he := h1 e rfl
      simp only [embL, embIt, List.headD_cons]
      -- a list or a tuple: decided by the value
      refine ⟨fun pins s σ H Q I h => ?_⟩
      obtain ⟨ms, ρ, st, en, o, q⟩ := h
      have ev1 : itE G call .seq [e] ρ st = (ev G call e ρ st).bind fun d s1 => match srcOf s1 d with | some c => .ok c s1 | none => .bad := by
        unfold itE
        simp only [evL]
        cases ev G call e ρ st with
        | ok d s1 => simp only [R.bind, pIter]
        | exc k s1 => rfl
        | bad => rfl
      rw [ev1] at q
      refine thn (he.run pins s σ H (fun v H1 => ∃ a, v = .ref a ∧ (((∃ vs, SqL X.K H1 a vs) ∧ Q (Itl X.K a) H1) ∨ ((∃ vs, SqT X.K H1 a vs) ∧ Q (Itt X.K a) H1))) I ?_) fun v s1 hv => ?_
      · refine seq1 (k := fun _ d s1 => match srcOf s1 d with | some c => R.ok c s1 | none => .bad) en o q fun ms1 H1 s1 x v e1 o1 r q1 => ?_
        cases z : srcOf s1 x with
        | none => simp only [z] at q1; exact q1.elim
        | some cc =>
          simp only [z] at q1
          obtain ⟨a, rfl, w | w⟩ := src_held o1 z r
          · refine ⟨a, rfl, .inl ⟨by rw [hK]; exact w.2.1, ?_⟩⟩
            exact q1 _ ms1 H1 .refl o1 (wk_list hK.symm w.2.2)
          · refine ⟨a, rfl, .inr ⟨by rw [hK]; exact w.2.1, ?_⟩⟩
            exact q1 _ ms1 H1 .refl o1 (wk_tup hK.symm w.2.2)
      · obtain ⟨vv, H1, I1, r1, a, rfl, w | w⟩ := hv
        · cases r1
          obtain ⟨⟨xs, hq⟩, q⟩ := w
          obtain ⟨its, rv, p, hz⟩ := I1.list hq
          refine wpAny_pyIter_list p.isList ?_
          refine ⟨s1.heap.objs.size, [s1.heap.objs.size], _, _, H1, rfl, I1.kept (t' := s1.toks) fun b o e => Heap.get?_push_of_some _ e, turn_list a _, ⟨_, Heap.get?_push_size _ rfl, rfl, rfl⟩, fun b hb => ?_, q⟩
          have e : b = s1.heap.objs.size := by simpa using hb
          subst e
          exact I1.fpOk (Nat.le_refl _) (I1.hok.fresh (Nat.le_refl _))
        · cases r1
          obtain ⟨⟨xs, hq⟩, q⟩ := w
          obtain ⟨its, rv, p, hz⟩ := I1.tuple hq
          refine wpAny_pyIter_tuple (show s1.heap.IsTuple a its.toArray from p) ?_
          refine ⟨s1.heap.objs.size, [s1.heap.objs.size], _, _, H1, rfl, I1.kept (t' := s1.toks) fun b o e => Heap.get?_push_of_some _ e, turn_tuple a _, ⟨_, Heap.get?_push_size _ rfl, rfl, rfl⟩, fun b hb => ?_, q⟩
          have e : b = s1.heap.objs.size := by simpa using hb
          subst e
          exact I1.fpOk (Nat.le_refl _) (I1.hok.fresh (Nat.le_refl _))
    | [], _, ok => simp [ibOk] at ok
    | _ :: _ :: _, _, ok => simp [ibOk] at ok
  | range =>
    simp only [ibOk, Bool.and_eq_true] at ok
    obtain ⟨gl, ln⟩ := ok
    have gl' : Gl X "range" := (glB_ok gl).1
    have hm : X.mg "range" = none := c.blt _ (by simp [bnames])
    match es, hL, ln with
    | [], _, ln => simp at ln
    | [a], hL, _ =>
      simp only [embIt, embL] at hL ⊢
      refine pi_imp (pi_range1 gl' hm hL (star_emb _ _ _ _)) fun σ H Q h => ?_
      obtain ⟨ms, ρ, st, en, o, q⟩ := h
      refine seqL (k := fun _ ds s1 => match pIter s1 .range ds with | some c => R.ok c s1 | none => .bad) en o q fun ms1 H1 s1 ds vs ee e1 o1 r q1 => ?_
      obtain ⟨cc, e2, k⟩ := it_post q1 o1
      have hl := evL_len ee
      match ds, hl with
      | [d], _ =>
        obtain ⟨v, rfl, rv⟩ := repL_one r
        cases d with
        | int nn =>
          cases rv
          simp only [pIter] at e2
          split at e2
          · rename_i hc
            cases e2
            exact ⟨nn, rfl, by omega, by omega, k _ wk_range⟩
          · cases e2
        | _ => simp [pIter] at e2
    | [a, b], hL, _ =>
      simp only [embIt, embL] at hL ⊢
      refine pi_imp (pi_range2 gl' hm hL (by rw [star_emb, star_emb]; rfl) (star_emb _ _ _ _)) fun σ H Q h => ?_
      obtain ⟨ms, ρ, st, en, o, q⟩ := h
      refine seqL (k := fun _ ds s1 => match pIter s1 .range ds with | some c => R.ok c s1 | none => .bad) en o q fun ms1 H1 s1 ds vs ee e1 o1 r q1 => ?_
      obtain ⟨cc, e2, k⟩ := it_post q1 o1
      have hl := evL_len ee
      match ds, hl with
      | [d, d'], _ =>
        obtain ⟨v, u, rfl, rv, ru⟩ := repL_two r
        cases d with
        | int lo =>
          cases d' with
          | int hi =>
            cases rv
            cases ru
            simp only [pIter] at e2
            split at e2
            · rename_i hc
              cases e2
              exact ⟨lo, hi, rfl, ⟨by omega, by omega, by omega, by omega⟩, k _ wk_range⟩
            · cases e2
          | _ => simp [pIter] at e2
        | _ => simp [pIter] at e2
    | _ :: _ :: _ :: _, _, ln => simp at ln
  | zip =>
    simp only [ibOk, Bool.and_eq_true] at ok
    obtain ⟨⟨gl, it⟩, ln⟩ := ok
    have gl' : Gl X "zip" := (glB_ok gl).1
    have hm : X.mg "zip" = none := c.blt _ (by simp [bnames])
    match es, hL, ln with
    | [], _, ln => simp at ln
    | [_], _, ln => simp at ln
    | [a, b], hL, _ =>
      match tg, it with
      | .t l, _ =>
        simp only [embIt, embL, embT] at hL ⊢
        refine pi_imp (RZ.pi_zipA gl' hm hL (star_emb _ _ _ _) (star_embL [b] ts.tail _ _)) fun σ H Q h => ?_
        obtain ⟨ms, ρ, st, en, o, q⟩ := h
        refine seqL (k := fun _ ds s1 => match pIter s1 .zip ds with | some c => R.ok c s1 | none => .bad) en o q fun ms1 H1 s1 ds vs ee e1 o1 r q1 => ?_
        obtain ⟨cc, e2, k⟩ := it_post q1 o1
        have hl := evL_len ee
        match ds, hl with
        | [d, d'], _ =>
          obtain ⟨v, u, rfl, rv, ru⟩ := repL_two r
          simp only [pIter] at e2
          split at e2
          · rename_i A B eA eB
            split at e2
            · rename_i ht
              cases e2
              obtain ⟨pa, rfl, wa⟩ := src_held o1 eA rv
              obtain ⟨pb, rfl, wb⟩ := src_held o1 eB ru
              rcases wa with ⟨ta, ⟨xs, qa⟩, ha⟩ | ⟨ta, ⟨xs, qa⟩, ha⟩
              · rcases wb with ⟨tb, ⟨ys, qb⟩, hb⟩ | ⟨tb, _⟩
                · refine ⟨pa, pb, xs, ys, rfl, .inl ⟨by rw [hK]; exact qa, by rw [hK]; exact qb, k _ (wk_zipL hK.symm ha hb)⟩⟩
                · rw [ta, tb] at ht; cases ht
              · rcases wb with ⟨tb, _⟩ | ⟨tb, ⟨ys, qb⟩, hb⟩
                · rw [ta, tb] at ht; cases ht
                · refine ⟨pa, pb, xs, ys, rfl, .inr ⟨by rw [hK]; exact qa, by rw [hK]; exact qb, k _ (wk_zipT hK.symm ha hb)⟩⟩
            · cases e2
          · cases e2
      | .n _, it => simp [isTg] at it
    | _ :: _ :: _ :: _, _, ln => simp at ln
  | enum =>
    simp only [ibOk, Bool.and_eq_true] at ok
    obtain ⟨⟨gl, it⟩, ln⟩ := ok
    have gl' : Gl X "enumerate" := (glB_ok gl).1
    have hm : X.mg "enumerate" = none := c.blt _ (by simp [bnames])
    match es, hL, ln with
    | [], _, ln => simp at ln
    | [a], hL, _ =>
      match tg, it with
      | .t l, _ =>
        simp only [embIt, embL, embT] at hL ⊢
        refine pi_imp (pi_enum gl' hm hL (star_emb _ _ _ _)) fun σ H Q h => ?_
        obtain ⟨ms, ρ, st, en, o, q⟩ := h
        refine seqL (k := fun _ ds s1 => match pIter s1 .enum ds with | some c => R.ok c s1 | none => .bad) en o q fun ms1 H1 s1 ds vs ee e1 o1 r q1 => ?_
        obtain ⟨cc, e2, k⟩ := it_post q1 o1
        have hl := evL_len ee
        match ds, hl with
        | [d], _ =>
          obtain ⟨v, rfl, rv⟩ := repL_one r
          simp only [pIter] at e2
          split at e2
          · rename_i A eA
            split at e2
            · cases e2
            · rename_i ht
              cases e2
              obtain ⟨pa, rfl, wa⟩ := src_held o1 eA rv
              rcases wa with ⟨ta, ⟨xs, qa⟩, ha⟩ | ⟨ta, _⟩
              · exact ⟨pa, xs, rfl, by rw [hK]; exact qa, k _ (wk_enum hK.symm ha)⟩
              · exact absurd ta ht
          · cases e2
      | .n _, it => simp [isTg] at it
    | _ :: _ :: _, _, ln => simp at ln
end
end Pi

set_option Elab.async false
set_option linter.all false
set_option maxRecDepth 100000
namespace Pi
open PySem PySem.Spec PyProof.Rows L2

theorem EnvOk.wipe {S : Sit} {ms : Wd} {H : Hp} {ρ : Env} {σ : L2.St} (e : EnvOk S ms H ρ σ) (vs : List Nat) : EnvOk S ms H (Pi.wipe ρ vs) (L2.wipe σ vs) := by
  induction vs with
  | nil => exact e
  | cons v vs ih =>
    refine ⟨by simp [Pi.wipe, L2.wipe, ih.len], fun i d h => ?_⟩
    unfold Pi.wipe at h
    unfold L2.wipe
    by_cases hv : i = v
    · subst hv
      by_cases hl : i < (Pi.wipe ρ vs).length
      · rw [List.getElem?_set_self hl] at h; cases h
      · rw [List.getElem?_eq_none (by simpa using hl)] at h; cases h
    · rw [List.getElem?_set_ne (Ne.symm hv)] at h ⊢
      exact ih.at_ i d h

section
variable {S : Sit} {XA : Nat → Option Addr} {W : WX} {g : Glob}
def compStep (G : Nat → Option D) (call : Call) (elt : Ex) (t : Tg) (cond : List Ex) (ρ : Env) : D → Store → R (Option D) := fun x s2 => match put t x (Pi.wipe ρ t.names) with
  | none => .bad
  | some ρ1 => match evAnd1 G call cond ρ1 s2 with
    | .ok true s3 => match ev G call elt ρ1 s3 with
      | .ok d s4 => .ok (some d) s4
      | _ => .bad
    | .ok false s3 => .ok none s3
    | _ => .bad
def compEnd (m : Bool) (r : R (List D)) : R D := match r with
  | .ok xs s5 => PR.fin m (.new xs) s5
  | _ => .bad
theorem ev_comp (G : Nat → Option D) (call : Call) (m : Bool) (elt : Ex) (t : Tg) (ib : IB) (es cond : List Ex) (ρ : Env) (s : Store) :
    ev G call (.comp m elt t ib es cond) ρ s = (itE G call ib es ρ s).bind fun c s1 => compEnd m (compL c.chk (compStep G call elt t cond ρ) c.list [] s1) := by
  unfold itE compEnd compStep
  simp only [ev]
  cases evL G call es ρ s with
  | ok ds s1 =>
    simp only [R.bind]
    cases pIter s1 ib ds with
    | none => rfl
    | some c => rfl
  | exc c s1 => rfl
  | bad => rfl
theorem line5 {n : Nat} (h : n < 100000) : n < sizeLine := by rw [sizeLine_eq]; omega
/-- the reading of a comprehension -/
theorem comp_read {G : Nat → Option D} {call : Call} {m : Bool} {elt : Ex} {t : Tg} {ib : IB} {es cond : List Ex} {σ : L2.St} {H : Hp} {Q : VK} (h : TD g.S g.XA W (ev G call (.comp m elt t ib es cond)) σ H Q) :
    tLc (TIt g.S g.XA W (itE G call ib es)) (TG g t) (TT g.S g.XA W0 (evAnd1 G call cond)) (TD g.S g.XA W0 (ev G call elt)) t.names σ H Q := by
  obtain ⟨ms0, ρ, st, en0, o0, q⟩ := h
  rw [ev_comp] at q
  refine ⟨ms0, ρ, st, en0, o0, q.bind fun c s1 J ms1 H1 _ n1 o1 wk q1 => ?_⟩
  intro D hD
  -- the invariant
  have fresh : ∀ a ∈ ms1.hid, a ≠ D := fun a ha z => by
    obtain ⟨o, e⟩ := o1.hidden a ha
    rw [z, hD] at e; cases e
  refine ⟨fun i k H2 => k = c.list.length - i ∧ i ≤ c.list.length ∧ ∃ (w : Wd) (s : Store) (acc : List Pi.D) (vs : List V), Nxt ms1 H1 w H2 ∧ D ∈ w.hid ∧ (∀ a ∈ ms1.hid, a ∈ w.hid) ∧ D ∉ w.ms ∧ StOk g.S w H2 s ∧ H2 D = some (.lst vs) ∧ RepL g.S w H2 acc vs ∧ EnvOk g.S w H2 ρ σ ∧
      PostD g.S g.XA ms1 H1 (fun cls dx H' => W cls dx σ H') Q (compEnd m (compL c.chk (compStep G call elt t cond ρ) (c.list.drop i) acc s)), ⟨_, rfl, Nat.zero_le _, ms1.hide D, s1, [], [], Nxt.hide hD, List.mem_cons_self, fun a ha => List.mem_cons_of_mem _ ha, fun z => ?_, o1.hide hD, upd_same, rfl, (en0.nxt n1).nxt (Nxt.hide hD), q1⟩, ?_⟩
  · obtain ⟨vs, e⟩ := o1.there z
    rw [hD] at e; cases e
  rintro i k H2 ⟨rfl, hi, w, s, acc, vs, nx, hh, hs, hm, o, hd, ra, en, fin⟩
  by_cases hlt : i < c.list.length
  · -- one more turn
    have hx : c.list[i]? = some c.list[i] := List.getElem?_eq_getElem hlt
    generalize hxx : c.list[i] = x at hx
    have hdrop : c.list.drop i = x :: c.list.drop (i + 1) := by rw [← hxx]; exact List.drop_eq_getElem_cons hlt
    rw [hdrop] at fin
    simp only [compL] at fin
    split at fin
    · rename_i hc
      obtain ⟨goes, yields⟩ := wk.go i x w H2 s nx o hc.1 hx
      -- the step must be fine
      cases hst : compStep G call elt t cond ρ x s with
      | exc _ _ => rw [hst] at fin; exact fin.elim
      | bad => rw [hst] at fin; exact fin.elim
      | ok od s' =>
        rw [hst] at fin
        simp only [R.bind] at fin
        refine .inr ⟨goes, fun H3 => ∃ (w' : Wd) (acc' : List Pi.D) (vs' : List V), acc' = (match od with | some d => acc ++ [d] | none => acc) ∧ Nxt ms1 H1 w' H3 ∧ D ∈ w'.hid ∧ (∀ a ∈ ms1.hid, a ∈ w'.hid) ∧ D ∉ w'.ms ∧ StOk g.S w' H3 s' ∧ H3 D = some (.lst vs') ∧ RepL g.S w' H3 acc' vs' ∧ EnvOk g.S w' H3 ρ σ, fun H3 hN => ?_, fun v H3 hy => ?_⟩
        · obtain ⟨w', acc', vs', e1, b1, b2, b3, b4, b5, b6, b7, b8⟩ := hN
          refine ⟨c.list.length - (i + 1), by omega, rfl, hlt, w', s', acc', vs', b1, b2, b3, b4, b5, b6, b7, b8, ?_⟩
          rw [e1]
          cases od with
          | some d => exact fin
          | none => exact fin
        · obtain ⟨ny, oy, ry, ky⟩ := yields v H3 hy
          have hd3 : H3 D = some (.lst vs) := by rw [ky D (by rw [hd]; exact fun z => by cases z)]; exact hd
          unfold compStep at hst
          split at hst
          · cases hst
          · rename_i ρ1 hput
            refine ⟨w, _, x, (en.nxt ny).wipe t.names, ry, ρ1, hput, fun σ1 en1 off => ⟨off.wipe.trans ?_, ?_⟩⟩
            · -- wiped twice
              apply List.ext_getElem?
              intro j
              by_cases hj : j ∈ t.names
              · rw [wipe_in hj, wipe_in hj, L2.wipe_length]
              · rw [wipe_out hj]
            · split at hst
              · -- kept
                rename_i s3 hcond
                split at hst
                · rename_i d s4 helt
                  cases hst
                  refine ⟨w, ρ1, s, en1, oy, ?_⟩
                  rw [hcond]
                  intro b w3 H4 n3 o3 eb
                  subst eb
                  simp only [if_true]
                  refine ⟨w3, ρ1, s3, en1.nxt n3, o3, ?_⟩
                  rw [helt]
                  intro y w4 H5 n4 o4 r4
                  have hm3 : D ∉ w3.ms := fun z => by
                    obtain ⟨more, e, f⟩ := n3.pre
                    rw [e] at z
                    rcases List.mem_append.mp z with z | z
                    · exact hm z
                    · rw [f D z] at hd3; cases hd3
                  have hd4 : H4 D = some (.lst vs) := n3.keep hd3 hm
                  have hd5 : H5 D = some (.lst vs) := n4.keep hd4 hm3
                  have hm4 : D ∉ w4.ms := fun z => by
                    obtain ⟨more, e, f⟩ := n4.pre
                    rw [e] at z
                    rcases List.mem_append.mp z with z | z
                    · exact hm3 z
                    · rw [f D z] at hd4; cases hd4
                  have up : ∀ {u u' : Wd} {K K' : Hp}, Nxt u K u' K' → ∀ a ∈ u.hid, a ∈ u'.hid := fun nn a ha => by
                    obtain ⟨ex, e, _⟩ := nn.hid
                    rw [e]
                    exact List.mem_append_right _ ha
                  have hh4 : D ∈ w4.hid := up n4 D (up n3 D hh)
                  have ra4 : RepL g.S w4 H5 acc vs := RepL.nxt n4 _ _ (RepL.nxt n3 _ _ (RepL.nxt ny _ _ ra))
                  refine ⟨vs, hd5, by rw [← ra4.length]; exact line5 hc.2, ?_⟩
                  have nn : Nxt ms1 H1 w4 H5 := ((nx.trans ny).trans n3).trans n4
                  refine ⟨w4, acc ++ [d], vs ++ [y], rfl, ⟨nn.pre, nn.hid, fun b u e => ?_⟩, hh4, fun a ha => up n4 a (up n3 a (hs a ha)), hm4, o4.hid hh4 hm4 hd5, upd_same, ?_, (((en.nxt ny).nxt n3).nxt n4).hid hh4 hd5⟩
                  · have hb : b ≠ D := ne_of_none e hD
                    rw [upd_ne hb]
                    exact nn.ext b u e
                  · exact (ra4.app (RepL.one r4)).hid hh4 hd5
                · cases hst
              · -- dropped
                rename_i s3 hcond
                cases hst
                refine ⟨w, ρ1, s, en1, oy, ?_⟩
                rw [hcond]
                intro b w3 H4 n3 o3 eb
                subst eb
                simp only [Bool.false_eq_true, if_false]
                have hd4 : H4 D = some (.lst vs) := n3.keep hd3 hm
                have hm3 : D ∉ w3.ms := fun z => by
                  obtain ⟨more, e, f⟩ := n3.pre
                  rw [e] at z
                  rcases List.mem_append.mp z with z | z
                  · exact hm z
                  · rw [f D z] at hd3; cases hd3
                have up : ∀ a ∈ w.hid, a ∈ w3.hid := fun a ha => by
                  obtain ⟨ex, e, _⟩ := n3.hid
                  rw [e]
                  exact List.mem_append_right _ ha
                exact ⟨w3, acc, vs, rfl, (nx.trans ny).trans n3, up D hh, fun a ha => up a (hs a ha), hm3, o3, hd4, RepL.nxt n3 _ _ (RepL.nxt ny _ _ ra), (en.nxt ny).nxt n3⟩
              · cases hst
    · exact fin.elim
  · -- the end
    have e : i = c.list.length := by omega
    subst e
    rw [List.drop_length] at fin
    simp only [compL] at fin
    split at fin
    · rename_i hc
      refine .inl ⟨wk.stop w H2 s nx o hc, ?_⟩
      simp only [compEnd, PR.fin] at fin
      split at fin
      · rename_i hz
        have ol := o.less (hid := ms1.hid) hs
        have rl := ra.less (hid := ms1.hid) hs
        have nl : Nxt ms1 H1 ⟨w.ms, ms1.hid⟩ H2 := ⟨nx.pre, ⟨[], rfl, by simp⟩, nx.ext⟩
        have hDn : D ∉ ms1.hid := fun z => fresh D z rfl
        cases m with
        | false =>
          simp only [Bool.false_eq_true, if_false] at fin
          exact fin (.ref D) ⟨w.ms, ms1.hid⟩ H2 nl ol ⟨D, vs, rfl, hd, ⟨hm, hDn⟩, rl⟩
        | true =>
          simp only [if_true] at fin
          -- the list becomes one of the store
          obtain ⟨more, e1, f1⟩ := nx.pre
          have nl2 : Nxt ms1 H1 ⟨w.ms ++ [D], ms1.hid⟩ H2 := ⟨⟨more ++ [D], by rw [e1, List.append_assoc], fun a ha => by
            rcases List.mem_append.mp ha with h | h
            · exact f1 a h
            · rw [List.mem_singleton.mp h]; exact hD⟩, ⟨[], rfl, by simp⟩, nx.ext⟩
          have mono : ∀ (ds : List Pi.D) (us : List V), RepL g.S w H2 ds us → RepL g.S ⟨w.ms ++ [D], ms1.hid⟩ H2 ds us := fun ds us r =>
            RepL.mono (ms := w) (ms' := ⟨w.ms ++ [D], ms1.hid⟩) (fun a zs e o => ⟨e, fun z => by
              rcases List.mem_append.mp z with z | z
              · exact o.1 z
              · exact o.2 (by rw [List.mem_singleton.mp z]; exact hh), fun z => o.2 (hs a z)⟩) (fun _ _ z => z) (fun _ _ z => z) (fun i a z => by
              rw [List.getElem?_append_left (List.getElem?_eq_some_iff.mp z).1]; exact z) ds us r
          refine fin (.ref D) ⟨w.ms ++ [D], ms1.hid⟩ H2 nl2 ⟨by simp [o.len], ?_, fun a ha => o.hidden a (hs a ha), fun j xs e => ?_⟩ ⟨D, rfl, ?_⟩
          · refine List.nodup_append.mpr ⟨o.nd, by simp, fun a ha b hb => ?_⟩
            rw [List.mem_singleton.mp hb]
            intro z
            exact hm (by rw [← z]; exact ha)
          · by_cases hj : j < s.length
            · rw [List.getElem?_append_left hj] at e
              obtain ⟨a, us, e1, e2, r⟩ := o.cell j xs e
              exact ⟨a, us, by rw [List.getElem?_append_left (by rw [o.len]; exact hj)]; exact e1, e2, mono _ _ r⟩
            · rw [List.getElem?_append_right (by omega)] at e
              have hz2 : j - s.length = 0 := by
                cases q : j - s.length with
                | zero => rfl
                | succ k => rw [q] at e; simp at e
              rw [hz2] at e
              simp at e
              subst e
              have : j = w.ms.length := by rw [o.len]; omega
              subst this
              exact ⟨D, vs, by simp, hd, mono _ _ ra⟩
          · rw [← o.len]; simp
      · exact fin.elim
    · exact fin.elim
end
end Pi

set_option Elab.async false
set_option linter.all false
set_option maxRecDepth 100000
namespace Pi
open PySem PySem.Spec PyProof.Rows L2

section
variable {g : Glob} {n : Nat} {X : Cx} {W : WX} {ow : Scope}
abbrev EvD (g : Glob) (n : Nat) (e : Ex) : Env → Store → R D := ev g.P.G (run g.P n) e
abbrev EvL (g : Glob) (n : Nat) (e : List Ex) : Env → Store → R (List D) := evL g.P.G (run g.P n) e
abbrev PEd (g : Glob) (n : Nat) (X : Cx) (W : WX) (x : Expr) (f : Env → Store → R D) : Prop := PE X x (TD g.S g.XA W f) ∧ L2.PT X x (TT g.S g.XA W (tst f))
/-- a value that is tested plainly -/
theorem plainT {x : Expr} {f : Env → Store → R D} (h : PE X x (TD g.S g.XA W f)) (he : ∀ whole, isTrue x X.env whole = (do let v ← whole; standAt x.pos; holding [v] (truthy v))) : PEd g n X W x f :=
  ⟨h, pt_imp (pt_val h he) fun _ _ _ q => tst_td q⟩
/-- a comparison -/
theorem cmpT {op : CmpOp} {a b : Expr} {pos : Pos} {r : R2} {ta tb : TE} {f : Env → Store → R D} (ho : OpR X (compareOp op) r) (ha : PE X a ta) (hb : PE X b tb) (hm : behindInMarks op b = false) (i : ∀ σ H Q, TD g.S g.XA W f σ H Q → tOp r ta tb σ H Q) : PEd g n X W (.Compare a [op] [b] pos) f :=
  ⟨pe_imp (pe_cmpR ho ha hb hm) i, pt_imp (pt_cmpR ho ha hb hm) fun σ H Q q => i σ H _ (tst_td q)⟩
theorem rep_non {S : Sit} {ms : Wd} {H : Hp} {x : D} {v : V} (r : Rep S ms H x v) : decide (v = .non) = isNon x := by
  cases x with
  | non => cases r; rfl
  | bl _ => cases r; rfl
  | int _ => cases r; rfl
  | str _ => cases r; rfl
  | tup _ => obtain ⟨a, vs, rfl, _⟩ := r; rfl
  | lst _ => obtain ⟨a, vs, rfl, _⟩ := r; rfl
  | klst _ => obtain ⟨a, vs, rfl, _⟩ := r; rfl
  | ref _ => obtain ⟨a, rfl, _⟩ := r; rfl
  | fn _ => obtain ⟨a, rfl, _⟩ := r; rfl
theorem pos_embL {nm : Nm} {es : List Ex} {ts : List Tr} (h : es ≠ []) : ∃ e r, es = e :: r := by
  cases es with
  | nil => exact absurd rfl h
  | cons e r => exact ⟨e, r, rfl⟩
/-- a def called -/
theorem snd_call (c : Cxt g n g.nm.N X W ow) {f : Nat} {es : List Ex} {ts : List Tr} {p pos : Pos} (hk : g.nm.fk f = true) (hg : glB X.env.scope (g.nm.FN f) = true) (hL : PA X (embL g.nm es ts) (TL g.S g.XA W (EvL g n es))) :
    PE X (.Call (.Name (g.nm.FN f) p) (embL g.nm es ts) [] pos) (TD g.S g.XA W (EvD g n (.call f es))) := by
  obtain ⟨gl, db, _, _⟩ := glB_ok hg
  have gl' : Gl X (g.nm.FN f) := gl
  obtain ⟨F, hF⟩ := c.known f hk
  clear hk
  · obtain ⟨k, a, fd, ps, ok, hr, hm, hk, hb, hl⟩ := c.calls f F hF
    rw [← c.hK] at ok hk hb
    have px : ∀ σ, PassesAt (L2.CX X.prog X.w) X σ (WE W σ) := fun σ => passAt c.tk σ
    have red : ∀ σ H Q, TD g.S g.XA W (EvD g n (.call f es)) σ H Q → tCallSD (spD g (run g.P n f) F.np) [] (WE W) (TL g.S g.XA W (EvL g n es)) σ H Q := fun σ H Q h => by
      obtain ⟨ms, ρ, st, e, o, q⟩ := h
      have z : EvD g n (.call f es) ρ st = (evL g.P.G (run g.P n) es ρ st).bind fun ds s1 => run g.P n f ds s1 := by simp only [EvD, ev]
      rw [z] at q
      refine seqL (k := fun _ ds s1 => run g.P n f ds s1) e o q fun ms1 H1 s1 ds vs ee e1 o1 r q1 => ?_
      refine ⟨?_, ms1, ds, s1, by rw [List.append_nil]; exact r, o1, q1⟩
      rw [List.append_nil, ← r.length]
      -- the number of arguments: else the call is not fine
      by_cases hn : ds.length = F.np
      · exact hn
      · exfalso
        have w : run g.P n f ds s1 = .bad := by
          cases n with
          | zero => rfl
          | succ n => simp only [run, hF, runFn, if_neg hn]
        rw [w] at q1
        exact q1
    match es, hL, red with
    | [], hL, red => 
      simp only [embL]
      refine pe_imp (pe_callSD0 (E := WE W) ok hr gl' hm hk hb px db) fun σ H Q h => ?_
      obtain ⟨ms, ρ, st, e, o, q⟩ := red σ H Q h
      have q' := q [] ms H .refl o rfl
      exact q'
    | e :: es, hL, red =>
      simp only [embL] at hL ⊢
      exact pe_imp (pe_callSD (E := WE W) ok hr gl' hm hk hb .nil px hL db (star_emb _ _ _ _) (star_embL _ _ _ _)) red
theorem isTrue_emb_plain (nm : Nm) (e : Ex) (t : Tr) (h : (match e with | .not _ => false | .and _ => false | .or _ => false | .ite _ _ _ => false | .cmp _ _ _ => false | .chain _ _ _ _ _ => false | .isn _ _ => false | .isb _ _ _ => false | _ => true) = true) :
    ∀ whole, isTrue (emb nm e t) X.env whole = (do let v ← whole; standAt (emb nm e t).pos; holding [v] (truthy v)) := by
  intro whole
  cases e <;> first | (simp at h; done) | (simp only [emb]; rfl)
/-- lo and hi of a slice -/
theorem po_emb {nm : Nm} {es : List Ex} {ts : List Tr} {G : Nat → Option D} {call : Call} (hl : es.length ≤ 1) (h : ∀ e, es = [e] → PE X (emb nm e (ts.headD default)) (TD g.S g.XA W (ev G call e))) :
    PO X (embL nm es ts).head? (fun σ H Q => ∃ ms ρ s, EnvOk g.S ms H ρ σ ∧ StOk g.S ms H s ∧ Post g.S g.XA ms H (fun _ _ ds o => part ds = some o) (fun cls dx H' => W cls dx σ H') Q ((evL G call es ρ s).bind pOk)) := by
  match es, hl, h with
  | [], _, _ =>
    refine ⟨fun pins s σ H Q I q => ?_⟩
    obtain ⟨ms, ρ, st, e, o, q⟩ := q
    exact po_none.run pins s σ H Q I (q none ms H .refl o rfl)
  | [x], _, h =>
    have hx := po_some (h x rfl)
    refine ⟨fun pins s σ H Q I q => ?_⟩
    refine hx.run pins s σ H Q I ?_
    obtain ⟨ms, ρ, st, e, o, q⟩ := q
    have z : ((evL G call [x] ρ st).bind pOk) = (ev G call x ρ st).bind fun d s1 => match part [d] with | some _ => R.ok [d] s1 | none => .bad := by
      simp only [evL]
      cases ev G call x ρ st <;> rfl
    rw [z] at q
    refine seq1 (k := fun _ d s1 => match part [d] with | some _ => R.ok [d] s1 | none => .bad) e o q fun ms1 H1 s1 d v e1 o1 r q1 => ?_
    cases d with
    | int i =>
      cases r
      exact ⟨i, rfl, q1 (some i) ms1 H1 .refl o1 rfl⟩
    | _ => exact q1.elim
  | _ :: _ :: _, hl, _ => simp at hl
/-- isinstance -/
theorem snd_inst (c : Cxt g n g.nm.N X W ow) {a : Ex} {tys : List Ty} {t : Tr} {x : Expr} {p pos : Pos} (gl : Gl X "isinstance") (hm : X.mg "isinstance" = none) (ha : PE X x (TD g.S g.XA W (EvD g n a)))
    (h3 : (tys.all fun ty => glB X.env.scope (tyStr ty)) = true) (h4 : (!tys.isEmpty) = true) (h5 : decide (t.ks.length = (if tys.length = 1 then t.ks.length else tys.length) ∧ tys.length ≤ 10) = true) (hs : ∀ r, starEach (x :: r) X.env = (false, eval x X.env) :: starEach r X.env) :
    PE X (.Call (.Name "isinstance" p) [x, embTy tys t] [] pos) (TD g.S g.XA W (EvD g n (.inst a tys))) := by
  have hv : bootBuiltins "isinstance" = some (.builtin "isinstance") := by decide +kernel
  have ht := List.all_eq_true.mp h3
  match tys, h4, h5, ht with
  | [], h4, _, _ => cases h4
  | [ty], _, _, ht =>
    have pt := pe_ty c (p := t.p) (ht ty (by simp))
    simp only [embTy]
    refine pe_imp (pe_callB call_isi gl hm hv (pa_cons ha (pa_cons pt pa_nil rfl) (hs _)) (by decide) (by decide) (hs _) rfl) fun σ H Q q => ?_
    obtain ⟨ms, ρ, s, e, o, q⟩ := q
    simp only [EvD, ev] at q
    refine seq1 (k := fun _ => kInst [ty]) e o q fun ms1 H1 s1 x vx e1 o1 rx q1 => ?_
    unfold kInst at q1
    split at q1
    · rename_i b hb
      have hb1 : isTy s1 x ty = some b := by
        simp only [isTys] at hb
        split at hb
        · rename_i e; rw [e]; exact hb
        · rename_i e; rw [e]; exact hb
        · cases hb
      obtain ⟨nm, tx, f⟩ := isTy_x o1 rx hb1
      rw [c.hK]
      exact ⟨vx, .ty (tyName ty), .type nm, .type (tyName ty), b, rfl, .ty _, tx, f ty b hb1, post_ok q1 o1 rfl⟩
    · exact q1.elim
  | ty :: ty' :: r, _, h5, ht =>
    have hlen : t.ks.length = (ty :: ty' :: r).length := by
      have z := (of_decide_eq_true h5).1
      rw [if_neg (by simp)] at z
      exact z
    have pa : ∀ (l : List Ty) (ks : List Tr), (∀ ty ∈ l, glB X.env.scope (tyStr ty) = true) → ks.length = l.length → PA X ((l.zip ks).map fun q => Expr.Name (tyStr q.1) q.2.p) (fun _ H Q => Q (l.map fun ty => V.ty (tyName ty)) H) := by
      intro l
      induction l with
      | nil => intro ks _ _; exact pa_nil
      | cons ty l ih =>
        intro ks hl hk
        cases ks with
        | nil => cases hk
        | cons k ks =>
          exact pa_cons (pe_ty c (p := k.p) (hl ty (by simp))) (ih ks (fun z hz => hl z (by simp [hz])) (by simpa using hk)) rfl
    have pt : PE X (embTy (ty :: ty' :: r) t) (tTup (fun _ H Q => Q ((ty :: ty' :: r).map fun ty => V.ty (tyName ty)) H)) := pe_tup (pa _ t.ks (fun z hz => ht z hz) hlen)
    have hsT : ∀ y, starEach [embTy (ty :: ty' :: r) t] y = [(false, eval (embTy (ty :: ty' :: r) t) y)] := fun _ => rfl
    refine pe_imp (pe_callB call_isiT gl hm hv (pa_cons ha (pa_cons pt pa_nil rfl) (hs _)) (by decide) (by decide) (hs _) rfl) fun σ H Q q => ?_
    obtain ⟨ms, ρ, s, e, o, q⟩ := q
    simp only [EvD, ev] at q
    refine seq1 (k := fun _ => kInst (ty :: ty' :: r)) e o q fun ms1 H1 s1 x vx e1 o1 rx q1 => ?_
    unfold kInst at q1
    split at q1
    · rename_i b hb
      have h1 : ∃ b1, isTy s1 x ty = some b1 := by
        simp only [isTys] at hb
        split at hb
        · exact ⟨_, by assumption⟩
        · exact ⟨_, by assumption⟩
        · cases hb
      obtain ⟨b1, hb1⟩ := h1
      refine ⟨?_, fun tp hp => ?_⟩
      · have z := (of_decide_eq_true h5).2
        rw [List.length_map]
        exact line_of (by omega)
      · have nx : Nxt ms1 H1 ms1 (upd H1 tp (.tup ((ty :: ty' :: r).map fun ty => V.ty (tyName ty)))) := Nxt.new hp
        have o2 := o1.new (o := .tup ((ty :: ty' :: r).map fun ty => V.ty (tyName ty))) hp
        obtain ⟨nm, tx, f⟩ := isTy_x o2 (Rep.nxt nx _ _ rx) hb1
        rw [c.hK]
        refine ⟨vx, tp, _, .type nm, _, b, rfl, upd_same, ?_, tx, isTys_any f hb, q1 _ ms1 _ nx o2 rfl⟩
        have : ∀ l : List Ty, Paired ClsV (l.map fun ty => V.ty (tyName ty)) (l.map fun t => Value.type (tyName t)) := by
          intro l
          induction l with
          | nil => exact .nil
          | cons a l ih => exact .cons (.ty _) ih
        exact this _
    · exact q1.elim
theorem td_mono {f : Env → Store → R D} {σ : L2.St} {H : Hp} {Q Q' : VK} (h : TD g.S g.XA W f σ H Q) (i : ∀ v H, Q v H → Q' v H) : TD g.S g.XA W f σ H Q' := by
  obtain ⟨ms, ρ, s, e, o, q⟩ := h
  refine ⟨ms, ρ, s, e, o, ?_⟩
  cases z : f ρ s with
  | ok d s1 => rw [z] at q; exact fun v ms' H' n o r => i v H' (q v ms' H' n o r)
  | exc c s1 => rw [z] at q; exact q
  | bad => rw [z] at q; exact q
/-- a method of a list -/
theorem snd_meth (c : Cxt g n g.nm.N X W ow) {f : Meth} {o : Ex} {es : List Ex} {t : Tr} (h0 : mOk f = true) (h1 : noCall o = true) (h4 : (t.q.endLine == t.p.line) = true) (h5 : es.length ≤ 1) (io : PE X (emb g.nm o (t.k 0)) (TD g.S g.XA W (EvD g n o))) (il : PA X (embL g.nm es t.ks.tail) (TL g.S g.XA W (EvL g n es))) :
    PE X (emb g.nm (.meth f o es) t) (TD g.S g.XA W (EvD g n (.meth f o es))) := by
  have hb : ∀ x, attributeBase (emb g.nm o (t.k 0)) x X.env (eval (emb g.nm o (t.k 0)) X.env) = eval (emb g.nm o (t.k 0)) X.env := fun x => attr_emb h1 _ _ _
  let evD' : Env → Store → R D := EvD g n o
  -- what the machine is asked
  have red : ∀ σ H Q, TD g.S g.XA W (EvD g n (.meth f o es)) σ H Q → tBM X.K "list" (rMeth f) (TD g.S g.XA W (EvD g n o)) (TL g.S g.XA W (EvL g n es)) σ H Q := fun σ H Q q => by
    obtain ⟨ms, ρ, s, e, oo, q⟩ := q
    simp only [EvD, ev] at q
    have z : ((evD' ρ s).bind kRef).bind (fun x s1 => (evL g.P.G (run g.P n) es ρ s1).bind fun ds s2 => pMeth s2 f x ds) = (evD' ρ s).bind fun x s1 => (kRef x s1).bind fun x s1 => (evL g.P.G (run g.P n) es ρ s1).bind fun ds s2 => pMeth s2 f x ds := by
      cases evD' ρ s <;> rfl
    rw [show ev g.P.G (run g.P n) o ρ s = evD' ρ s from rfl, z] at q
    refine ⟨ms, ρ, s, e, oo, q.bind fun x s1 vx ms1 H1 ee n1 o1 rx q1 => ?_⟩
    cases x with
    | ref k =>
      simp only [kRef, R.bind] at q1
      obtain ⟨a, rfl, qa⟩ := id rx
      have hk : k < s1.length := by rw [← o1.len]; exact (List.getElem?_eq_some_iff.mp qa).1
      obtain ⟨a', vs, e1, e2, _⟩ := o1.cell k _ (List.getElem?_eq_getElem hk)
      rw [qa] at e1; cases e1
      refine ⟨.inl ⟨rfl, vs, SqL.of e2⟩, ms1, ρ, s1, e.nxt n1, o1, ?_⟩
      have q2 : Post g.S g.XA ms1 H1 (Rep g.S) (fun cls dx H' => W cls dx σ H') Q ((evL g.P.G (run g.P n) es ρ s1).bind fun ds s2 => pMeth s2 f (.ref k) ds) := q1
      exact q2.bind fun ds s2 us ms2 H2 _ n2 o2 r q3 => (meth_ok o2 (Rep.nxt n2 _ _ rx) r q3).2
    | _ => exact q1.elim
  have mt : MtR X (match f with | .append => "list.append" | .extend => "list.extend" | _ => "list.pop") (rMeth f) := by
    cases f with
    | append => exact mt_append
    | extend => exact mt_extend
    | pop0 => exact mt_pop
    | pop1 => exact mt_popAt
    | count => exact fun _ _ _ _ _ _ _ _ _ _ _ _ z => z.elim
    | index => exact fun _ _ _ _ _ _ _ _ _ _ _ _ z => z.elim
  match es, h5, il, red with
  | [], _, _, red =>
    simp only [emb, embL]
    have red0 : ∀ σ H Q, TD g.S g.XA W (EvD g n (.meth f o [])) σ H Q → tBM0 X.K "list" (rMeth f) (TD g.S g.XA W (EvD g n o)) σ H Q := fun σ H Q q => by
      refine td_mono (red σ H Q q) fun v H1 z => ⟨z.1, ?_⟩
      obtain ⟨ms, ρ, s, e, oo, k⟩ := z.2
      exact k [] ms H1 .refl oo rfl
    cases f with
    | append => exact pe_imp (pe_bm0 PySem.F.plainAttrs_list PySem.F.slot_list_append PySem.F.type_list_append mt io (hb _) h4) red0
    | extend => exact pe_imp (pe_bm0 PySem.F.plainAttrs_list PySem.F.slot_list_extend PySem.F.type_list_extend mt io (hb _) h4) red0
    | pop0 => exact pe_imp (pe_bm0 PySem.F.plainAttrs_list PySem.F.slot_list_pop PySem.F.type_list_pop mt io (hb _) h4) red0
    | pop1 => exact pe_imp (pe_bm0 PySem.F.plainAttrs_list PySem.F.slot_list_pop PySem.F.type_list_pop mt io (hb _) h4) red0
    | count => cases h0
    | index => cases h0
  | [x], _, il, red =>
    simp only [emb, embL] at il ⊢
    cases f with
    | append => exact pe_imp (pe_bm PySem.F.plainAttrs_list PySem.F.slot_list_append PySem.F.type_list_append mt io il (hb _) (by rw [star_emb]; rfl) h4 (star_emb _ _ _ _) rfl) red
    | extend => exact pe_imp (pe_bm PySem.F.plainAttrs_list PySem.F.slot_list_extend PySem.F.type_list_extend mt io il (hb _) (by rw [star_emb]; rfl) h4 (star_emb _ _ _ _) rfl) red
    | pop0 => exact pe_imp (pe_bm PySem.F.plainAttrs_list PySem.F.slot_list_pop PySem.F.type_list_pop mt io il (hb _) (by rw [star_emb]; rfl) h4 (star_emb _ _ _ _) rfl) red
    | pop1 => exact pe_imp (pe_bm PySem.F.plainAttrs_list PySem.F.slot_list_pop PySem.F.type_list_pop mt io il (hb _) (by rw [star_emb]; rfl) h4 (star_emb _ _ _ _) rfl) red
    | count => cases h0
    | index => cases h0
  | _ :: _ :: _, h5, _, _ => simp at h5
theorem snd_comp (c : Cxt g n g.nm.N X W ow) {m : Bool} {elt : Ex} {tg : Tg} {ib : IB} {es cond : List Ex} {t : Tr}
    (il : PA X (embL g.nm es (t.k 2).ks) (TL g.S g.XA W (EvL g n es)) ∧ ∀ e, es = [e] → PE X (emb g.nm e ((t.k 2).ks.headD default)) (TD g.S g.XA W (EvD g n e))) (h2 : ibOk X.env.scope ib tg es.length = true) (h3 : blkC g.nm.N X.env.scope t.sc (tg.names.map fun i => (g.nm.n i, i)) = true)
    (it : ∀ (s : Shared) (H : Hp) (C : Addr) (cl : List (Str × Addr)) (fp : List Addr), PG (X.blk s H t.sc (compEnvC t.sc cl C X.env) fp) (embT g.nm tg (t.k 1)) (TG g tg))
    (ic : ∀ (s : Shared) (H : Hp) (C : Addr) (cl : List (Str × Addr)) (fp : List Addr), PTs (X.blk s H t.sc (compEnvC t.sc cl C X.env) fp) (embL g.nm cond (t.k 3).ks) (TT g.S g.XA W0 (evAnd1 g.P.G (run g.P n) cond)))
    (ie : ∀ (s : Shared) (H : Hp) (C : Addr) (cl : List (Str × Addr)) (fp : List Addr), PE (X.blk s H t.sc (compEnvC t.sc cl C X.env) fp) (emb g.nm elt (t.k 0)) (TD g.S g.XA W0 (EvD g n elt))) :
    PE X (emb g.nm (.comp m elt tg ib es cond) t) (TD g.S g.XA W (EvD g n (.comp m elt tg ib es cond))) := by
  have hi := sndIt (tp := t.k 1) (ip := t.k 2) (tg := tg) c il.1 il.2 h2
  have bk : BlkOk X.N X.env.scope t.sc (tg.names.map fun i => (g.nm.n i, i)) := by rw [c.hN]; exact blkOk_by h3
  have fold : ∀ x, foldedSetIterable (embIt ib (embL g.nm es (t.k 2).ks) (t.k 2)) X.env x = pure x := by
    intro x
    cases ib with
    | seq =>
      cases es with
      | nil => rfl
      | cons e r => exact folded_emb e _ _ x
    | _ => rfl
  have hv : (tg.names.map fun i => (g.nm.n i, i)).map (·.2) = tg.names := by
    rw [List.map_map]
    exact List.map_id' _
  simp only [emb]
  refine pe_imp (pe_lc c.calm c.nd hi bk it ic ie fold) fun σ H Q q => ?_
  rw [hv]
  exact comp_read q
end
end Pi

set_option Elab.async false
set_option linter.all false
set_option maxRecDepth 100000
namespace Pi
open PySem PySem.Spec PyProof.Rows L2

section
variable {g : Glob} {n : Nat}
theorem andB {a b : Bool} (h : (a && b) = true) : a = true ∧ b = true := by simpa using h
theorem evAnd_cons (G : Nat → Option D) (call : Call) (e e' : Ex) (es : List Ex) (ρ : Env) (s : Store) : evAnd G call (e :: e' :: es) ρ s = ((ev G call e ρ s).bind asB).bind fun b s1 => if b = true then evAnd G call (e' :: es) ρ s1 else .ok (.bl false) s1 := by
  rw [evAnd]
  cases ev G call e ρ s with
  | ok d s1 =>
    cases d with
    | bl b => cases b <;> rfl
    | _ => rfl
  | exc c s1 => rfl
  | bad => rfl
theorem evOr_cons (G : Nat → Option D) (call : Call) (e e' : Ex) (es : List Ex) (ρ : Env) (s : Store) : evOr G call (e :: e' :: es) ρ s = ((ev G call e ρ s).bind asB).bind fun b s1 => if b = true then .ok (.bl true) s1 else evOr G call (e' :: es) ρ s1 := by
  rw [evOr]
  cases ev G call e ρ s with
  | ok d s1 =>
    cases d with
    | bl b => cases b <;> rfl
    | _ => rfl
  | exc c s1 => rfl
  | bad => rfl
theorem evAnd_one (G : Nat → Option D) (call : Call) (e : Ex) (ρ : Env) (s : Store) : evAnd G call [e] ρ s = ev G call e ρ s := by
  rw [evAnd]
  cases ev G call e ρ s <;> rfl
theorem evOr_one (G : Nat → Option D) (call : Call) (e : Ex) (ρ : Env) (s : Store) : evOr G call [e] ρ s = ev G call e ρ s := by
  rw [evOr]
  cases ev G call e ρ s <;> rfl
/-- a Bool's reading, then more -/
theorem td_of_tt {X : Cx} {W : WX} {f : Env → Store → R D} {σ : L2.St} {H : Hp} {Q : VK} {k : Env → Bool → Store → R D} (h : TD g.S g.XA W (fun ρ s => ((f ρ s).bind asB).bind (k ρ)) σ H Q) {Q1 : Bool → Hp → Prop}
    (i : ∀ ms H' s b ρ, EnvOk g.S ms H' ρ σ → StOk g.S ms H' s → PostD g.S g.XA ms H' (fun cls dx H' => W cls dx σ H') Q (k ρ b s) → Q1 b H') : TT g.S g.XA W (tst f) σ H Q1 := by
  obtain ⟨ms, ρ, s, e, o, q⟩ := h
  exact seqB (fb := tst f) (k := k) e o q fun ms' H' s' b e' o' q' => i ms' H' s' b ρ e' o' q'
mutual
theorem snd : ∀ (e : Ex) (t : Tr) (X : Cx) (W : WX) (ow : Scope), Cxt g n g.nm.N X W ow → chk g.nm X.env.scope ow e t = true → PEd g n X W (emb g.nm e t) (EvD g n e)
  | .var i, t, X, W, ow, c, h => by
    simp only [chk] at h
    obtain ⟨h1, h2⟩ := andB h
    obtain ⟨vi, d1, d2⟩ := visB_ok h2
    have hN : X.N[i]? = some (g.nm.n i) := by rw [c.hN]; exact nm_get (of_decide_eq_true h1)
    exact plainT (pe_imp (pe_var hN vi d1 d2) fun σ H Q q => td_var q) (isTrue_emb_plain g.nm (.var i) t rfl)
  | .int i, t, X, W, ow, c, h => plainT (pe_imp pe_int fun σ H Q q => td_leaf q fun _ => rfl) (isTrue_emb_plain g.nm (.int i) t rfl)
  | .bl i, t, X, W, ow, c, h => plainT (pe_imp pe_bl fun σ H Q q => td_leaf q fun _ => rfl) (isTrue_emb_plain g.nm (.bl i) t rfl)
  | .non, t, X, W, ow, c, h => plainT (pe_imp pe_non fun σ H Q q => td_leaf q fun _ => rfl) (isTrue_emb_plain g.nm .non t rfl)
  | .str i, t, X, W, ow, c, h => plainT (pe_imp pe_str fun σ H Q q => td_leaf q fun _ => rfl) (isTrue_emb_plain g.nm (.str i) t rfl)
  | .glob i, t, X, W, ow, c, h => by
    obtain ⟨gl, db, _, _⟩ := glB_ok h
    have gl' : Gl X (g.nm.GN i) := gl
    cases hd : g.P.G i with
    | none =>
      have bad : ∀ σ H Q, TD g.S g.XA W (EvD g n (.glob i)) σ H Q → False := fun σ H Q q => by
        obtain ⟨ms, ρ, s, e, o, q⟩ := q
        simp only [EvD, ev, hd] at q
        exact q
      exact plainT ⟨fun pins s σ H Q I q => (bad _ _ _ q).elim⟩ (isTrue_emb_plain g.nm (.glob i) t rfl)
    | some d =>
      obtain ⟨u, v, hm, r, rep⟩ := c.consts i d hd
      refine plainT (pe_imp (pe_glob gl' hm r db) fun σ H Q q => ?_) (isTrue_emb_plain g.nm (.glob i) t rfl)
      obtain ⟨ms, ρ, s, e, o, q⟩ := q
      simp only [EvD, ev, hd] at q
      exact q v ms H .refl o (rep ms H)
  | .bin m op a b, t, X, W, ow, c, h => by
    simp only [chk] at h
    obtain ⟨h1, h2⟩ := andB h
    have ia := snd a (t.k 0) X W ow c h1
    have ib := snd b (t.k 1) X W ow c h2
    refine plainT (pe_imp (pe_op (op_bop op) ia.1 ib.1) fun σ H Q q => ?_) (isTrue_emb_plain g.nm (.bin m op a b) t rfl)
    refine seq2 (p := fun s x y => (pBin s op x y).fin m s) (by simpa only [EvD, ev] using q) fun ms H s x y vx vy E Q o rx ry p => ?_
    rw [c.hK]
    exact bop_ok o rx ry p
  | .neg a, t, X, W, ow, c, h => by
    have ia := snd a (t.k 0) X W ow c (by simpa only [chk] using h)
    refine plainT (pe_imp (pe_un un_neg ia.1) fun σ H Q q => ?_) (isTrue_emb_plain g.nm (.neg a) t rfl)
    refine seqOne (p := kNeg) (by simpa only [EvD, ev] using q) fun ms H s x vx E Q o rx p => ?_
    cases x with
    | int i =>
      cases rx
      exact ⟨i, rfl, post_ok p o rfl⟩
    | _ => exact p.elim
  | .not a, t, X, W, ow, c, h => by
    have ia := snd a (t.k 0) X W ow c (by simpa only [chk] using h)
    refine ⟨pe_imp (pe_not ia.1) fun σ H Q q => ?_, pt_imp (pt_not ia.2) fun σ H Q q => ?_⟩
    · obtain ⟨ms, ρ, s, e, o, q⟩ := q
      simp only [EvD, ev] at q
      refine seq1 (k := fun _ => kNot) e o q fun ms1 H1 s1 x vx e1 o1 rx q1 => ?_
      cases x with
      | bl b =>
        cases rx
        exact ⟨b, rfl, post_ok q1 o1 rfl⟩
      | _ => exact q1.elim
    · obtain ⟨ms, ρ, s, e, o, q⟩ := q
      have z : tst (EvD g n (.not a)) ρ s = (tst (EvD g n a) ρ s).bind fun b s1 => .ok (!b) s1 := by
        simp only [tst, EvD, ev]
        cases ev g.P.G (run g.P n) a ρ s with
        | ok d s1 => cases d <;> rfl
        | exc k s1 => rfl
        | bad => rfl
      rw [z] at q
      exact seqB (k := fun _ b s1 => R.ok (!b) s1) e o q fun ms' H' s' b e' o' q' => q' (!b) ms' H' .refl o' rfl
  | .and es, t, X, W, ow, c, h => by
    simp only [chk] at h
    obtain ⟨h1, h2⟩ := andB h
    have hne : es ≠ [] := by intro z; rw [z] at h1; cases h1
    have i := sndAnd es t.ks t.p X W ow c h2 hne
    refine ⟨pe_imp i.1 fun σ H Q q => ?_, (pw_imp i.2 fun σ H Q q => ?_).pt⟩
    · obtain ⟨ms, ρ, s, e, o, q⟩ := q
      exact ⟨ms, ρ, s, e, o, by simpa only [EvD, ev] using q⟩
    · obtain ⟨ms, ρ, s, e, o, q⟩ := q
      exact ⟨ms, ρ, s, e, o, by simpa only [EvD, ev, tst] using q⟩
  | .or es, t, X, W, ow, c, h => by
    simp only [chk] at h
    obtain ⟨h1, h2⟩ := andB h
    have hne : es ≠ [] := by intro z; rw [z] at h1; cases h1
    have i := sndOr es t.ks t.p X W ow c h2 hne
    refine ⟨pe_imp i.1 fun σ H Q q => ?_, (pw_imp i.2 fun σ H Q q => ?_).pt⟩
    · obtain ⟨ms, ρ, s, e, o, q⟩ := q
      exact ⟨ms, ρ, s, e, o, by simpa only [EvD, ev] using q⟩
    · obtain ⟨ms, ρ, s, e, o, q⟩ := q
      exact ⟨ms, ρ, s, e, o, by simpa only [EvD, ev, tst] using q⟩
  | .cmp op a b, t, X, W, ow, c, h => by
    simp only [chk] at h
    obtain ⟨h1, h2⟩ := andB h
    have ia := snd a (t.k 0) X W ow c h1
    have ib := snd b (t.k 1) X W ow c h2
    refine cmpT (op_cop c.hu op) ia.1 ib.1 (behind_emb _ _ _) fun σ H Q q => ?_
    refine seq2 (p := fun s x y => (pCmp s op x y).fin false s) (by simpa only [EvD, ev] using q) fun ms H s x y vx vy E Q o rx ry p => ?_
    rw [c.hK]
    exact cop_ok o rx ry p
  | .chain op op' a b d, t, X, W, ow, c, h => by
    simp only [chk] at h
    obtain ⟨h12, h3⟩ := andB h
    obtain ⟨h1, h2⟩ := andB h12
    have ia := snd a (t.k 0) X W ow c h1
    have ib := snd b (t.k 1) X W ow c h2
    have id' := snd d (t.k 2) X W ow c h3
    have lm : lastMarks [copOf op, copOf op'] [emb g.nm b (t.k 1), emb g.nm d (t.k 2)] = false := behind_emb _ _ _
    have red : ∀ σ H Q, TD g.S g.XA W (EvD g n (.chain op op' a b d)) σ H Q → tChain (rCop X.K op) (rCop X.K op') (TD g.S g.XA W (EvD g n a)) (TD g.S g.XA W (EvD g n b)) (TD g.S g.XA W (EvD g n d)) σ H Q := fun σ H Q q => by
      obtain ⟨ms, ρ, s, e, o, q⟩ := q
      simp only [EvD, ev] at q
      refine ⟨ms, ρ, s, e, o, q.bind fun x s1 vx ms1 H1 _ n1 o1 rx q1 => ?_⟩
      refine ⟨ms1, ρ, s1, e.nxt n1, o1, q1.bind fun y s2 vy ms2 H2 _ n2 o2 ry q2 => ?_⟩
      rw [c.hK]
      refine cop_ok (m := false) (XA := g.XA) (E := fun cls dx H' => W cls dx σ H') o2 (Rep.nxt n2 _ _ rx) ry (q2.bind fun z s3 vz ms3 H3 _ n3 o3 rz q3 => ?_)
      cases z with
      | bl k =>
        cases rz
        refine ⟨k, rfl, ?_⟩
        cases k with
        | true =>
          simp only [if_true]
          refine ⟨ms3, ρ, s3, ((e.nxt n1).nxt n2).nxt n3, o3, q3.bind fun w s4 vw ms4 H4 _ n4 o4 rw' q4 => ?_⟩
          exact cop_ok (m := false) o4 (Rep.nxt n4 _ _ (Rep.nxt n3 _ _ ry)) rw' q4
        | false =>
          simp only [Bool.false_eq_true, if_false]
          exact post_ok q3 o3 rfl
      | _ => exact q3.elim
    exact ⟨pe_imp (pe_chain (op_cop c.hu op) (op_cop c.hu op') ia.1 ib.1 id'.1 lm) red, pt_imp (pt_chain (op_cop c.hu op) (op_cop c.hu op') ia.1 ib.1 id'.1 lm) fun σ H Q q => red σ H _ (tst_td q)⟩
  | .isn m a, t, X, W, ow, c, h => by
    have ia := snd a (t.k 0) X W ow c (by simpa only [chk] using h)
    cases m with
    | false =>
      refine cmpT op_isN ia.1 pe_non (nomark _) fun σ H Q q => ?_
      obtain ⟨ms, ρ, s, e, o, q⟩ := q
      simp only [EvD, ev] at q
      refine seq1 (k := fun _ => kIsn false) e o q fun ms1 H1 s1 x vx e1 o1 rx q1 => ?_
      refine ⟨rfl, ?_⟩
      rw [rep_non rx]
      exact post_ok q1 o1 (by cases isNon x <;> rfl)
    | true =>
      refine cmpT op_notN ia.1 pe_non (nomark _) fun σ H Q q => ?_
      obtain ⟨ms, ρ, s, e, o, q⟩ := q
      simp only [EvD, ev] at q
      refine seq1 (k := fun _ => kIsn true) e o q fun ms1 H1 s1 x vx e1 o1 rx q1 => ?_
      refine ⟨rfl, ?_⟩
      rw [rep_non rx]
      exact post_ok q1 o1 (by cases isNon x <;> rfl)
  | .isb m a b, t, X, W, ow, c, h => by
    have ia := snd a (t.k 0) X W ow c (by simpa only [chk] using h)
    cases m with
    | false =>
      refine cmpT op_isBl ia.1 pe_bl (nomark _) fun σ H Q q => ?_
      obtain ⟨ms, ρ, s, e, o, q⟩ := q
      simp only [EvD, ev] at q
      refine seq1 (k := fun _ => kIsb false b) e o q fun ms1 H1 s1 x vx e1 o1 rx q1 => ?_
      cases x with
      | bl k =>
        cases rx
        exact ⟨k, b, rfl, rfl, post_ok q1 o1 (by cases k <;> cases b <;> rfl)⟩
      | _ => exact q1.elim
    | true =>
      refine cmpT op_notBl ia.1 pe_bl (nomark _) fun σ H Q q => ?_
      obtain ⟨ms, ρ, s, e, o, q⟩ := q
      simp only [EvD, ev] at q
      refine seq1 (k := fun _ => kIsb true b) e o q fun ms1 H1 s1 x vx e1 o1 rx q1 => ?_
      cases x with
      | bl k =>
        cases rx
        exact ⟨k, b, rfl, rfl, post_ok q1 o1 (by cases k <;> cases b <;> rfl)⟩
      | _ => exact q1.elim
  | .ite d a b, t, X, W, ow, c, h => by
    simp only [chk] at h
    obtain ⟨h12, h3⟩ := andB h
    obtain ⟨h1, h2⟩ := andB h12
    have id' := snd d (t.k 0) X W ow c h1
    have ia := snd a (t.k 1) X W ow c h2
    have ib := snd b (t.k 2) X W ow c h3
    have z : ∀ ρ s, EvD g n (.ite d a b) ρ s = ((EvD g n d ρ s).bind asB).bind fun k s1 => if k = true then EvD g n a ρ s1 else EvD g n b ρ s1 := fun ρ s => by
      simp only [EvD, ev]
      cases ev g.P.G (run g.P n) d ρ s with
      | ok x s1 =>
        cases x with
        | bl k => cases k <;> rfl
        | _ => rfl
      | exc k s1 => rfl
      | bad => rfl
    refine ⟨pe_imp (pe_ifExp id'.2 ia.1 ib.1) fun σ H Q q => ?_, pt_imp (pt_ite id'.2 ia.2 ib.2) fun σ H Q q => ?_⟩
    · obtain ⟨ms, ρ, s, e, o, q⟩ := q
      rw [z] at q
      refine seqB (fb := tst (EvD g n d)) (k := fun ρ k s1 => if k = true then EvD g n a ρ s1 else EvD g n b ρ s1) e o q fun ms' H' s' k e' o' q' => ?_
      cases k with
      | true => simp only [if_true] at q' ⊢; exact ⟨ms', ρ, s', e', o', q'⟩
      | false => simp only [Bool.false_eq_true, if_false] at q' ⊢; exact ⟨ms', ρ, s', e', o', q'⟩
    · obtain ⟨ms, ρ, s, e, o, q⟩ := q
      have z2 : tst (EvD g n (.ite d a b)) ρ s = (tst (EvD g n d) ρ s).bind fun k s1 => if k = true then tst (EvD g n a) ρ s1 else tst (EvD g n b) ρ s1 := by
        unfold tst
        rw [z]
        cases (EvD g n d ρ s).bind asB with
        | ok k s1 => cases k <;> rfl
        | exc k s1 => rfl
        | bad => rfl
      rw [z2] at q
      refine seqB (fb := tst (EvD g n d)) (k := fun ρ k s1 => if k = true then tst (EvD g n a) ρ s1 else tst (EvD g n b) ρ s1) e o q fun ms' H' s' k e' o' q' => ?_
      cases k with
      | true => simp only [if_true] at q' ⊢; exact ⟨ms', ρ, s', e', o', q'⟩
      | false => simp only [Bool.false_eq_true, if_false] at q' ⊢; exact ⟨ms', ρ, s', e', o', q'⟩
  | .tup es, t, X, W, ow, c, h => by
    have i := (sndL es t.ks X W ow c (by simpa only [chk] using h)).1
    refine plainT (pe_imp (pe_tup i) fun σ H Q q => ?_) (isTrue_emb_plain g.nm (.tup es) t rfl)
    obtain ⟨ms, ρ, s, e, o, q⟩ := q
    simp only [EvD, ev] at q
    refine seqL (k := fun _ => kTup) e o q fun ms1 H1 s1 ds vs ee e1 o1 r q1 => ?_
    unfold kTup at q1
    split at q1
    · rename_i hz
      exact ⟨by rw [← r.length]; exact line_of hz, post_tup q1 o1 r⟩
    · exact q1.elim
  | .lst m es, t, X, W, ow, c, h => by
    have i := (sndL es t.ks X W ow c (by simpa only [chk] using h)).1
    refine plainT (pe_imp (pe_lst i) fun σ H Q q => ?_) (isTrue_emb_plain g.nm (.lst m es) t rfl)
    obtain ⟨ms, ρ, s, e, o, q⟩ := q
    simp only [EvD, ev] at q
    refine seqL (k := fun _ ds s1 => PR.fin m (.new ds) s1) e o q fun ms1 H1 s1 ds vs ee e1 o1 r q1 => ?_
    obtain ⟨z1, z2⟩ := post_new q1 o1 r
    exact ⟨line_of z1, z2⟩
  | .idx a b, t, X, W, ow, c, h => by
    simp only [chk] at h
    obtain ⟨h1, h2⟩ := andB h
    have ia := snd a (t.k 0) X W ow c h1
    have ib := snd b (t.k 1) X W ow c h2
    refine plainT (pe_imp (pe_ix ix_seq ia.1 ib.1 (plain_emb _ _)) fun σ H Q q => ?_) (isTrue_emb_plain g.nm (.idx a b) t rfl)
    refine seq2 (p := fun s x y => (pIdx s x y).fin false s) (by simpa only [EvD, ev] using q) fun ms H s x y vx vy E Q o rx ry p => ?_
    rw [c.hK]
    exact idx_ok o rx ry p
  | .slice m a lo hi, t, X, W, ow, c, h => by
    simp only [chk] at h
    obtain ⟨h1234, h5⟩ := andB h
    obtain ⟨h123, h4⟩ := andB h1234
    obtain ⟨h12, h3⟩ := andB h123
    obtain ⟨h1, h2⟩ := andB h12
    have ia := snd a (t.k 0) X W ow c h1
    have il := (sndL lo (t.k 1).ks X W ow c h2).2
    have ih := (sndL hi (t.k 2).ks X W ow c h3).2
    refine plainT (pe_imp (pe_slice sl_any ia.1 (po_emb (of_decide_eq_true h4) il) (po_emb (of_decide_eq_true h5) ih)) fun σ H Q q => ?_) (isTrue_emb_plain g.nm (.slice m a lo hi) t rfl)
    obtain ⟨ms, ρ, s, e, o, q⟩ := q
    simp only [EvD, ev] at q
    refine seq1 (k := fun ρ x s1 => ((evL g.P.G (run g.P n) lo ρ s1).bind pOk).bind fun l s2 => ((evL g.P.G (run g.P n) hi ρ s2).bind pOk).bind fun h s3 => (pSlice s3 x l h).fin m s3) e o q fun ms1 H1 s1 x vx e1 o1 rx q1 => ?_
    refine ⟨ms1, ρ, s1, e1, o1, q1.bind fun l s2 lo' ms2 H2 _ n2 o2 pl q2 => ?_⟩
    refine ⟨ms2, ρ, s2, e1.nxt n2, o2, q2.bind fun h s3 hi' ms3 H3 _ n3 o3 ph q3 => ?_⟩
    rw [c.hK]
    exact slice_ok o3 (Rep.nxt n3 _ _ (Rep.nxt n2 _ _ rx)) pl ph q3
  | .call f es, t, X, W, ow, c, h => by
    simp only [chk] at h
    obtain ⟨h12, h3⟩ := andB h
    obtain ⟨h1, h2⟩ := andB h12
    exact plainT (snd_call c h1 h2 (sndL es t.ks X W ow c h3).1) (isTrue_emb_plain g.nm (.call f es) t rfl)
  | .blt m b es, t, X, W, ow, c, h => by
    simp only [chk] at h
    obtain ⟨h12, h3⟩ := andB h
    obtain ⟨h1, h2⟩ := andB h12
    have i := (sndL es t.ks X W ow c h3).1
    match es, h2, i with
    | [], h2, _ => cases h2
    | e :: es, _, i =>
      refine plainT (x := emb g.nm (.blt m b (e :: es)) t) ?_ (isTrue_emb_plain g.nm (.blt m b (e :: es)) t rfl)
      simp only [emb, embL] at i ⊢
      refine pe_imp (pe_blt c h1 i (star_emb _ _ _ _) (star_embL _ _ _ _)) fun σ H Q q => ?_
      obtain ⟨ms, ρ, s, en, o, q⟩ := q
      simp only [EvD, ev] at q
      refine seqL (k := fun _ ds s1 => (pBlt s1 b ds).fin m s1) en o q fun ms1 H1 s1 ds vs ee e1 o1 r q1 => ?_
      rw [c.hK]
      exact blt_ok o1 r q1
  | .inst a tys, t, X, W, ow, c, h => by
    simp only [chk] at h
    obtain ⟨h1234, h5⟩ := andB h
    obtain ⟨h123, h4⟩ := andB h1234
    obtain ⟨h12, h3⟩ := andB h123
    obtain ⟨h1, h2⟩ := andB h12
    have ia := snd a (t.k 0) X W ow c h2
    refine plainT ?_ (isTrue_emb_plain g.nm (.inst a tys) t rfl)
    have gl : Gl X "isinstance" := (glB_ok h1).1
    have hm : X.mg "isinstance" = none := c.blt _ (by simp [bnames])
    simp only [emb]
    exact snd_inst c gl hm ia.1 h3 h4 h5 fun r => star_emb _ _ _ _
  | .meth f o es, t, X, W, ow, c, h => by
    simp only [chk] at h
    obtain ⟨h1234, h5⟩ := andB h
    obtain ⟨h123, h4⟩ := andB h1234
    obtain ⟨h12, h3⟩ := andB h123
    obtain ⟨h01, h2⟩ := andB h12
    obtain ⟨h0, h1⟩ := andB h01
    have io := snd o (t.k 0) X W ow c h2
    have il := (sndL es t.ks.tail X W ow c h3).1
    exact plainT (snd_meth c h0 h1 h4 (of_decide_eq_true h5) io.1 il) (isTrue_emb_plain g.nm (.meth f o es) t rfl)
  | .comp m elt tg ib es cond, t, X, W, ow, c, h => by
    simp only [chk] at h
    obtain ⟨h123456, h7⟩ := andB h
    obtain ⟨h12345, h6⟩ := andB h123456
    obtain ⟨h1234, h5⟩ := andB h12345
    obtain ⟨h123, h4⟩ := andB h1234
    obtain ⟨h12, h3⟩ := andB h123
    obtain ⟨h1, h2⟩ := andB h12
    have il := sndL es (t.k 2).ks X W ow c h1
    have ie : ∀ (s : Shared) (H : Hp) (C : Addr) (cl : List (Str × Addr)) (fp : List Addr), PE (X.blk s H t.sc (compEnvC t.sc cl C X.env) fp) (emb g.nm elt (t.k 0)) (TD g.S g.XA W0 (EvD g n elt)) := fun s H C cl fp =>
      (snd elt (t.k 0) _ W0 t.sc (c.blk t.sc s H C cl fp) h5).1
    have ic : ∀ (s : Shared) (H : Hp) (C : Addr) (cl : List (Str × Addr)) (fp : List Addr), PTs (X.blk s H t.sc (compEnvC t.sc cl C X.env) fp) (embL g.nm cond (t.k 3).ks) (TT g.S g.XA W0 (evAnd1 g.P.G (run g.P n) cond)) := fun s H C cl fp =>
      sndC cond (t.k 3).ks _ W0 t.sc (c.blk t.sc s H C cl fp) h6 (of_decide_eq_true h7)
    have it : ∀ (s : Shared) (H : Hp) (C : Addr) (cl : List (Str × Addr)) (fp : List Addr), PG (X.blk s H t.sc (compEnvC t.sc cl C X.env) fp) (embT g.nm tg (t.k 1)) (TG g tg) := fun s H C cl fp =>
      sndT (c.blk t.sc s H C cl fp) tg (t.k 1) h4
    refine plainT (snd_comp c il h2 h3 it ic ie) (isTrue_emb_plain g.nm (.comp m elt tg ib es cond) t rfl)
theorem sndL : ∀ (es : List Ex) (ts : List Tr) (X : Cx) (W : WX) (ow : Scope), Cxt g n g.nm.N X W ow → chkL g.nm X.env.scope ow es ts = true → PA X (embL g.nm es ts) (TL g.S g.XA W (EvL g n es)) ∧ ∀ e, es = [e] → PE X (emb g.nm e (ts.headD default)) (TD g.S g.XA W (EvD g n e))
  | [], ts, X, W, ow, c, h => by
    refine ⟨pa_imp pa_nil fun σ H Q q => ?_, fun e z => by cases z⟩
    obtain ⟨ms, ρ, s, e, o, q⟩ := q
    exact q [] ms H .refl o rfl
  | e :: es, ts, X, W, ow, c, h => by
    simp only [chkL] at h
    obtain ⟨h1, h2⟩ := andB h
    have ie := snd e (ts.headD default) X W ow c h1
    have il := (sndL es ts.tail X W ow c h2).1
    refine ⟨pa_imp (pa_cons ie.1 il (star_emb _ _ _ _)) fun σ H Q q => ?_, fun e' z => ?_⟩
    · obtain ⟨ms, ρ, s, en, o, q⟩ := q
      simp only [EvL, evL] at q
      refine ⟨ms, ρ, s, en, o, q.bind fun x s1 v ms1 H1 _ n1 o1 rx q1 => ?_⟩
      refine ⟨ms1, ρ, s1, en.nxt n1, o1, q1.bind fun ds s2 vs ms2 H2 _ n2 o2 r q2 => ?_⟩
      exact q2 (v :: vs) ms2 H2 .refl o2 ⟨v, vs, rfl, Rep.nxt n2 _ _ rx, r⟩
    · cases z
      exact ie.1
theorem sndAnd : ∀ (es : List Ex) (ts : List Tr) (pos : Pos) (X : Cx) (W : WX) (ow : Scope), Cxt g n g.nm.N X W ow → chkL g.nm X.env.scope ow es ts = true → es ≠ [] →
    PE X (.BoolOp .And (embL g.nm es ts) pos) (TD g.S g.XA W (evAnd g.P.G (run g.P n) es)) ∧ PW X (.BoolOp .And (embL g.nm es ts) pos) (TT g.S g.XA W (tst (evAnd g.P.G (run g.P n) es)))
  | [], _, _, _, _, _, _, _, h => absurd rfl h
  | [e], ts, pos, X, W, ow, c, h, _ => by
    simp only [chkL] at h
    have ie := snd e (ts.headD default) X W ow c (andB h).1
    have z : evAnd g.P.G (run g.P n) [e] = EvD g n e := by funext ρ s; exact evAnd_one _ _ _ _ _
    rw [z]
    simp only [embL]
    exact ⟨pe_one ie.1, pw_and1 ie.2⟩
  | e :: e' :: es, ts, pos, X, W, ow, c, h, _ => by
    simp only [chkL] at h
    obtain ⟨h1, h2⟩ := andB h
    have ie := snd e (ts.headD default) X W ow c h1
    have il := sndAnd (e' :: es) ts.tail pos X W ow c (by simpa only [chkL] using h2) (by simp)
    simp only [embL] at il ⊢
    refine ⟨pe_imp (pe_and ie.1 il.1) fun σ H Q q => ?_, pw_imp (pw_and ie.2 il.2) fun σ H Q q => ?_⟩
    · obtain ⟨ms, ρ, s, en, o, q⟩ := q
      rw [evAnd_cons] at q
      have i : TT g.S g.XA W (tst (EvD g n e)) σ H (fun k H1 => if k = true then TD g.S g.XA W (evAnd g.P.G (run g.P n) (e' :: es)) σ H1 Q else Q (.bl false) H1) :=
        seqB (fb := tst (EvD g n e)) (k := fun ρ k s1 => if k = true then evAnd g.P.G (run g.P n) (e' :: es) ρ s1 else R.ok (.bl false) s1) en o q fun ms' H' s' k e' o' q' => by
          cases k with
          | true => simp only [if_true] at q' ⊢; exact ⟨ms', ρ, s', e', o', q'⟩
          | false => simp only [Bool.false_eq_true, if_false] at q' ⊢; exact post_ok q' o' rfl
      exact tst_td i
    · obtain ⟨ms, ρ, s, en, o, q⟩ := q
      have z : tst (evAnd g.P.G (run g.P n) (e :: e' :: es)) ρ s = (tst (EvD g n e) ρ s).bind fun k s1 => if k = true then tst (evAnd g.P.G (run g.P n) (e' :: es)) ρ s1 else R.ok false s1 := by
        unfold tst
        rw [evAnd_cons]
        cases (EvD g n e ρ s).bind asB with
        | ok k s1 => cases k <;> rfl
        | exc k s1 => rfl
        | bad => rfl
      rw [z] at q
      refine seqB (fb := tst (EvD g n e)) (k := fun ρ k s1 => if k = true then tst (evAnd g.P.G (run g.P n) (e' :: es)) ρ s1 else R.ok false s1) en o q fun ms' H' s' k e' o' q' => ?_
      cases k with
      | true => simp only [if_true] at q' ⊢; exact ⟨ms', ρ, s', e', o', q'⟩
      | false => simp only [Bool.false_eq_true, if_false] at q' ⊢; exact q' false ms' H' .refl o' rfl
theorem sndOr : ∀ (es : List Ex) (ts : List Tr) (pos : Pos) (X : Cx) (W : WX) (ow : Scope), Cxt g n g.nm.N X W ow → chkL g.nm X.env.scope ow es ts = true → es ≠ [] →
    PE X (.BoolOp .Or (embL g.nm es ts) pos) (TD g.S g.XA W (evOr g.P.G (run g.P n) es)) ∧ PW X (.BoolOp .Or (embL g.nm es ts) pos) (TT g.S g.XA W (tst (evOr g.P.G (run g.P n) es)))
  | [], _, _, _, _, _, _, _, h => absurd rfl h
  | [e], ts, pos, X, W, ow, c, h, _ => by
    simp only [chkL] at h
    have ie := snd e (ts.headD default) X W ow c (andB h).1
    have z : evOr g.P.G (run g.P n) [e] = EvD g n e := by funext ρ s; exact evOr_one _ _ _ _ _
    rw [z]
    simp only [embL]
    exact ⟨pe_one ie.1, pw_or1 ie.2⟩
  | e :: e' :: es, ts, pos, X, W, ow, c, h, _ => by
    simp only [chkL] at h
    obtain ⟨h1, h2⟩ := andB h
    have ie := snd e (ts.headD default) X W ow c h1
    have il := sndOr (e' :: es) ts.tail pos X W ow c (by simpa only [chkL] using h2) (by simp)
    simp only [embL] at il ⊢
    refine ⟨pe_imp (pe_or ie.1 il.1) fun σ H Q q => ?_, pw_imp (pw_or ie.2 il.2) fun σ H Q q => ?_⟩
    · obtain ⟨ms, ρ, s, en, o, q⟩ := q
      rw [evOr_cons] at q
      have i : TT g.S g.XA W (tst (EvD g n e)) σ H (fun k H1 => if k = true then Q (.bl true) H1 else TD g.S g.XA W (evOr g.P.G (run g.P n) (e' :: es)) σ H1 Q) :=
        seqB (fb := tst (EvD g n e)) (k := fun ρ k s1 => if k = true then R.ok (.bl true) s1 else evOr g.P.G (run g.P n) (e' :: es) ρ s1) en o q fun ms' H' s' k e' o' q' => by
          cases k with
          | true => simp only [if_true] at q' ⊢; exact post_ok q' o' rfl
          | false => simp only [Bool.false_eq_true, if_false] at q' ⊢; exact ⟨ms', ρ, s', e', o', q'⟩
      exact tst_td i
    · obtain ⟨ms, ρ, s, en, o, q⟩ := q
      have z : tst (evOr g.P.G (run g.P n) (e :: e' :: es)) ρ s = (tst (EvD g n e) ρ s).bind fun k s1 => if k = true then R.ok true s1 else tst (evOr g.P.G (run g.P n) (e' :: es)) ρ s1 := by
        unfold tst
        rw [evOr_cons]
        cases (EvD g n e ρ s).bind asB with
        | ok k s1 => cases k <;> rfl
        | exc k s1 => rfl
        | bad => rfl
      rw [z] at q
      refine seqB (fb := tst (EvD g n e)) (k := fun ρ k s1 => if k = true then R.ok true s1 else tst (evOr g.P.G (run g.P n) (e' :: es)) ρ s1) en o q fun ms' H' s' k e' o' q' => ?_
      cases k with
      | true => simp only [if_true] at q' ⊢; exact q' true ms' H' .refl o' rfl
      | false => simp only [Bool.false_eq_true, if_false] at q' ⊢; exact ⟨ms', ρ, s', e', o', q'⟩
theorem sndC : ∀ (es : List Ex) (ts : List Tr) (X : Cx) (W : WX) (ow : Scope), Cxt g n g.nm.N X W ow → chkL g.nm X.env.scope ow es ts = true → es.length ≤ 1 → PTs X (embL g.nm es ts) (TT g.S g.XA W (evAnd1 g.P.G (run g.P n) es))
  | [], ts, X, W, ow, c, h, _ => by
    refine ⟨fun pins s σ H Q I q => ?_⟩
    obtain ⟨ms, ρ, st, e, o, q⟩ := q
    exact pts_nil.run pins s σ H Q I (q true ms H .refl o rfl)
  | [e], ts, X, W, ow, c, h, _ => by
    simp only [chkL] at h
    have ie := snd e (ts.headD default) X W ow c (andB h).1
    refine ⟨fun pins s σ H Q I q => ?_⟩
    simp only [embL]
    refine (pts_one ie.2).run pins s σ H Q I ?_
    obtain ⟨ms, ρ, st, en, o, q⟩ := q
    have z : evAnd1 g.P.G (run g.P n) [e] ρ st = tst (EvD g n e) ρ st := by
      simp only [evAnd1, tst, EvD]
      cases ev g.P.G (run g.P n) e ρ st with
      | ok d s1 => cases d <;> rfl
      | exc c s1 => rfl
      | bad => rfl
    rw [z] at q
    exact ⟨ms, ρ, st, en, o, q⟩
  | _ :: _ :: _, _, _, _, _, _, _, h => by simp at h
end
end
end Pi

set_option Elab.async false
set_option linter.all false
set_option maxRecDepth 100000
namespace Pi
open PySem PySem.Spec PyProof.Rows L2

def swpP (kd : Str → Option NameKind) (value target : Expr) : Bool := match value, target with
  | .ListComp _ _ sc p, .Name t q => kd t == some .local && q.line == p.line && !(sc.names.any fun (n, k) => n == t && (k == .local || k == .cell))
  | _, _ => false
def swNames (kd : Str → Option NameKind) (ts : List Expr) : List Str := ts.filterMap fun
  | .Name id pos => if kd id == some .local && pos.line == ((ts.head?.map (·.pos.line)).getD 0) then some id else none
  | _ => none
def swStar (vs : List Expr) : Bool := vs.any fun | .Starred .. => true | _ => false
def swIn (kd : Str → Option NameKind) (ts vs : List Expr) : Option (Option (List Str)) :=
  if (!(ts.length == 2 || ts.length == 3) || vs.length != ts.length) = true then some none
  else if swStar vs = true then some none
  else if ((swNames kd ts).length != ts.length || (swNames kd ts).eraseDups.length != (swNames kd ts).length) = true then some none
  else if vs.all (foldedForSure 8) = true then some none
  else if vs.all (constantsAlone 8) = true then none
  else some (some (swNames kd ts))
def swpS (kd : Str → Option NameKind) (targets : List Expr) (value : Expr) : Option (Option (List Str)) := match targets, value with
  | [.Tuple ts _ _], .Tuple vs _ _ => swIn kd ts vs
  | _, _ => none
theorem swIn_ok {env : PySem.Env} {ts vs : List Expr} {k k2 : Nat} {p p2 : Pos} {r : Option (List Str)} (hk : env.scope.kind = .function) (h : swIn env.kindOf ts vs = some r) : swappedStores [.Tuple ts k p] (.Tuple vs k2 p2) env = pure r := by
  have hb : env.blockKind = .function := by unfold Env.blockKind; rw [hk]; rfl
  unfold swappedStores
  simp only [hb]
  unfold swIn at h
  by_cases hc : (!(ts.length == 2 || ts.length == 3) || vs.length != ts.length) = true
  · rw [if_pos hc] at h
    cases h
    exact if_pos (by rw [hc]; rfl)
  rw [if_neg hc] at h
  refine (if_neg (by rw [bne_self_eq_false, Bool.or_false]; exact hc)).trans ?_
  by_cases hst : swStar vs = true
  · rw [if_pos hst] at h
    cases h
    exact if_pos hst
  rw [if_neg hst] at h
  refine (if_neg hst).trans ?_
  by_cases hn : ((swNames env.kindOf ts).length != ts.length || (swNames env.kindOf ts).eraseDups.length != (swNames env.kindOf ts).length) = true
  · rw [if_pos hn] at h
    cases h
    exact if_pos hn
  rw [if_neg hn] at h
  refine (if_neg hn).trans ?_
  by_cases hf : vs.all (foldedForSure 8) = true
  · rw [if_pos hf] at h
    cases h
    exact if_pos hf
  rw [if_neg hf] at h
  refine (if_neg hf).trans ?_
  by_cases hca : vs.all (constantsAlone 8) = true
  · rw [if_pos hca] at h
    cases h
  rw [if_neg hca] at h
  cases h
  exact if_neg hca
theorem swpS_ok {env : PySem.Env} {targets : List Expr} {value : Expr} {r : Option (List Str)} (hk : env.scope.kind = .function) (h : swpS env.kindOf targets value = some r) : swappedStores targets value env = pure r := by
  unfold swpS at h
  split at h
  · exact swIn_ok hk h
  · cases h
theorem swpP_ok {env : PySem.Env} {value : Expr} {x : Str} {p : Pos} {l : Nat} (hk : env.scope.kind = .function) (hv : (match value with | .SetComp .. => false | .DictComp .. => false | _ => true) = true) :
    swapsWith value (some (.Name x p)) l env = pure (swpP env.kindOf value (.Name x p)) := by
  have hb : env.blockKind = .function := by unfold Env.blockKind; rw [hk]; rfl
  cases value with
  | ListComp e gs sc pos =>
    unfold swapsWith swpP
    simp only [hb, Expr.pos]
    rfl
  | SetComp _ _ _ _ => cases hv
  | DictComp _ _ _ _ _ => cases hv
  | _ => rfl

structure Nm2 where
  nm : Nm
  CN : Nat → Str
def embLT (nm : Nm) : LT → Tr → Expr
  | .n i, t => .Name (nm.n i) t.p
  | .s o i, t => .Subscript (emb nm o (t.k 0)) (emb nm i (t.k 1)) t.p
def embLTs (nm : Nm) : List LT → List Tr → List Expr
  | [], _ => []
  | x :: l, ts => embLT nm x (ts.headD default) :: embLTs nm l ts.tail
mutual
def embS (m : Nm2) : Sm → Tr → Stmt
  | .set i e, t => .Assign [.Name (m.nm.n i) t.q] (emb m.nm e (t.k 0)) t.p
  | .par is es, t => .Assign [embT m.nm (.t (is.map .n)) (t.k 0)] (.Tuple (embL m.nm es (t.k 1).ks) 0 (t.k 1).p) t.p
  | .unp g e, t => .Assign [embT m.nm g (t.k 0)] (emb m.nm e (t.k 1)) t.p
  | .sub o i e, t => .Assign [.Subscript (emb m.nm o (t.k 0)) (emb m.nm i (t.k 1)) t.q] (emb m.nm e (t.k 2)) t.p
  | .subs ts e, t => .Assign [.Tuple (embLTs m.nm ts (t.k 0).ks) 0 (t.k 0).p] (emb m.nm e (t.k 1)) t.p
  | .aug i op e, t => .AugAssign (.Name (m.nm.n i) t.q) (bopOf op) (emb m.nm e (t.k 0)) t.p
  | .ex e, t => .Expr (emb m.nm e (t.k 0)) t.p
  | .ret e, t => .Return (some (emb m.nm e (t.k 0))) t.p
  | .ite c a b, t => .If (emb m.nm c (t.k 0)) (embSs m a (t.k 1).ks) (embSs m b (t.k 2).ks) t.p
  | .whl c b, t => .While (emb m.nm c (t.k 0)) (embSs m b (t.k 1).ks) [] t.p
  | .for_ g ib es b, t => .For (embT m.nm g (t.k 0)) (embIt ib (embL m.nm es (t.k 1).ks) (t.k 1)) (embSs m b (t.k 2).ks) [] t.p
  | .raise c, t => .Raise (some (.Call (.Name (m.CN c) t.q) [] [] (t.k 0).p)) none t.p
  | .dead c, t => .Raise (some (.Call (.Name (m.CN c) t.q) [] [] (t.k 0).p)) none t.p
  | .brk, t => .Break t.p
  | .pass, t => .Pass t.p
def embSs (m : Nm2) : List Sm → List Tr → List Stmt
  | [], _ => []
  | s :: l, ts => embS m s (ts.headD default) :: embSs m l ts.tail
end
def stLoc (sc : Scope) (x : Str) : Bool := match sc.names.lookup x with | some .local => true | _ => false
def oneName (nm : Nm) (sc : Scope) (i : Nat) : Bool := decide (i < nm.N.length) && stB sc (nm.n i)
def isComp : Ex → Bool | .comp _ _ _ _ _ _ => true | _ => false
def chkLT (nm : Nm) (sc : Scope) : LT → Tr → Bool
  | .n i, _ => oneName nm sc i
  | .s o i, t => chk nm sc sc o (t.k 0) && chk nm sc sc i (t.k 1)
def chkLTs (nm : Nm) (sc : Scope) : List LT → List Tr → Bool
  | [], _ => true
  | x :: l, ts => chkLT nm sc x (ts.headD default) && chkLTs nm sc l ts.tail
def noneSw (sc : Scope) (targets : List Expr) (value : Expr) : Bool := match swpS (fun x => sc.names.lookup x) targets value with
  | some none => true
  | _ => false
def isTupE : Expr → Bool | .Tuple _ _ _ => true | _ => false
mutual
def chkS (m : Nm2) (sc : Scope) : Sm → Tr → Bool
  | .set i e, t => oneName m.nm sc i && chk m.nm sc sc e (t.k 0)
  | .par is es, t => namesOk m.nm sc is && (is.all fun i => stLoc sc (m.nm.n i)) && decide (is.Nodup) && (is.length == 2 || is.length == 3) && decide (es.length = is.length) && chkL m.nm sc sc es (t.k 1).ks &&
      (match swpS (fun x => sc.names.lookup x) [embT m.nm (.t (is.map .n)) (t.k 0)] (.Tuple (embL m.nm es (t.k 1).ks) 0 (t.k 1).p) with | some (some l) => decide (l = is.map m.nm.n) | _ => false)
  | .unp g e, t => isTg g && namesOk m.nm sc g.names && chk m.nm sc sc e (t.k 1) && (!isTupE (emb m.nm e (t.k 1)) || noneSw sc [embT m.nm g (t.k 0)] (emb m.nm e (t.k 1)))
  | .sub o i e, t => chk m.nm sc sc o (t.k 0) && chk m.nm sc sc i (t.k 1) && chk m.nm sc sc e (t.k 2)
  | .subs ts e, t => chkLTs m.nm sc ts (t.k 0).ks && chk m.nm sc sc e (t.k 1) && (!isTupE (emb m.nm e (t.k 1)) || noneSw sc [.Tuple (embLTs m.nm ts (t.k 0).ks) 0 (t.k 0).p] (emb m.nm e (t.k 1)))
  | .aug i op e, t => oneName m.nm sc i && chk m.nm sc sc e (t.k 0) && (match op with | .add => true | .sub => true | _ => false)
  | .ex e, t => chk m.nm sc sc e (t.k 0) && !isComp e
  | .ret e, t => chk m.nm sc sc e (t.k 0)
  | .ite c a b, t => chk m.nm sc sc c (t.k 0) && chkSs m sc a (t.k 1).ks && chkSs m sc b (t.k 2).ks
  | .whl c b, t => chk m.nm sc sc c (t.k 0) && chkSs m sc b (t.k 1).ks
  | .for_ g ib es b, t => namesOk m.nm sc g.names && ibOk sc ib g es.length && chkL m.nm sc sc es (t.k 1).ks && chkSs m sc b (t.k 2).ks
  | .raise _, _ => false
  | .dead _, _ => true
  | .brk, _ => true
  | .pass, _ => true
def chkSs (m : Nm2) (sc : Scope) : List Sm → List Tr → Bool
  | [], _ => true
  | s :: l, ts => chkS m sc s (ts.headD default) && chkSs m sc l ts.tail
end

def PostS (S : Sit) (XA : Nat → Option Addr) (W : WX) (ms : Wd) (H : Hp) (E : Ends) : RS → Prop
  | .ok .nx ρ s => ∀ σ' ms' H', Nxt ms H ms' H' → EnvOk S ms' H' ρ σ' → StOk S ms' H' s → E.nx σ' H'
  | .ok (.rt d) ρ s => ∀ v ms' H', Nxt ms H ms' H' → StOk S ms' H' s → Rep S ms' H' d v → E.rt v H'
  | .ok .bk ρ s => ∀ σ' ms' H', Nxt ms H ms' H' → EnvOk S ms' H' ρ σ' → StOk S ms' H' s → E.bk σ' H'
  | .exc c ρ s => ∀ cls dx σ' ms' H', Nxt ms H ms' H' → EnvOk S ms' H' ρ σ' → StOk S ms' H' s → XOk XA c cls → W cls dx σ' H'
  | .bad => False
def TSt (S : Sit) (XA : Nat → Option Addr) (W : WX) (f : Env → Store → RS) : TS := fun E σ H => ∃ ms ρ s, EnvOk S ms H ρ σ ∧ StOk S ms H s ∧ PostS S XA W ms H E (f ρ s)
theorem ps_imp {X : Cx} {st : Stmt} {t t' : TS} (h : PS X st t) (i : ∀ D σ H, t' D σ H → t D σ H) : PS X st t' := ⟨fun pins s σ H D I q => h.run pins s σ H D I (i _ _ _ q)⟩
theorem pss_imp {X : Cx} {st : List Stmt} {t t' : TS} (h : PSs X st t) (i : ∀ D σ H, t' D σ H → t D σ H) : PSs X st t' := ⟨fun pins s σ H D I q => h.run pins s σ H D I (i _ _ _ q)⟩
section
variable {S : Sit} {XA : Nat → Option Addr} {W : WX} {ms ms1 : Wd} {H H1 : Hp} {E : Ends} {r : RS}
theorem PostS.nxt (p : PostS S XA W ms H E r) (n : Nxt ms H ms1 H1) : PostS S XA W ms1 H1 E r := by
  cases r with
  | ok f ρ s =>
    cases f with
    | nx => exact fun σ' ms' H' n' => p σ' ms' H' (n.trans n')
    | rt d => exact fun v ms' H' n' => p v ms' H' (n.trans n')
    | bk => exact fun σ' ms' H' n' => p σ' ms' H' (n.trans n')
  | exc c ρ s => exact fun cls dx σ' ms' H' n' => p cls dx σ' ms' H' (n.trans n')
  | bad => exact p
/-- an expression, then a statement's rest -/
theorem PostS.thn {α β : Type} {RR : Wd → Hp → α → β → Prop} {f : R α} {ρ : Env} {σ : L2.St} {k : α → Store → RS} {Q : β → Hp → Prop} (e : EnvOk S ms H ρ σ) (p : PostS S XA W ms H E (f.thn ρ k))
    (h : ∀ a s b ms' H', f = .ok a s → Nxt ms H ms' H' → EnvOk S ms' H' ρ σ → StOk S ms' H' s → RR ms' H' a b → PostS S XA W ms' H' E (k a s) → Q b H') : Post S XA ms H RR (fun cls dx H' => W cls dx σ H') Q f := by
  cases f with
  | ok a s => exact fun b ms' H' n o rr => h a s b ms' H' rfl n (e.nxt n) o rr (PostS.nxt p n)
  | exc c s => exact fun cls dx ms' H' n o x => p cls dx σ ms' H' n (e.nxt n) o x
  | bad => exact p
end
end Pi

set_option Elab.async false
set_option linter.all false
set_option maxRecDepth 100000
namespace Pi
open PySem PySem.Spec PyProof.Rows L2

section
variable {g : Glob} {n : Nat} {X : Cx} {W : WX}
abbrev EvS (g : Glob) (n : Nat) (s : Sm) : Env → Store → RS := evS g.P.G (run g.P n) s
abbrev EvSs (g : Glob) (n : Nat) (s : List Sm) : Env → Store → RS := evSs g.P.G (run g.P n) s
abbrev TS_ (g : Glob) (W : WX) (f : Env → Store → RS) : TS := TSt g.S g.XA W f
theorem noSwap {tks : List Expr} {k : Nat} {p : Pos} {v : Expr} (hk : X.env.scope.kind = .function) (h : (!isTupE v || noneSw X.env.scope [.Tuple tks k p] v) = true) : swappedStores [.Tuple tks k p] v X.env = pure none := by
  by_cases ht : isTupE v = true
  · rw [ht] at h
    simp only [Bool.not_true, Bool.false_or] at h
    unfold noneSw at h
    split at h
    · rename_i e
      exact swpS_ok hk e
    · cases h
  · cases v <;> first | rfl | exact absurd rfl ht
theorem noSwp1 (e : Ex) (t : Tr) (tks : List Expr) (k : Nat) (p : Pos) (l : Nat) : swapsWithSole [.Tuple tks k p] (emb g.nm e t) l X.env = pure false := by
  cases e <;> simp only [emb] <;> rfl
theorem noSwp2 (e : Ex) (t : Tr) (o i : Expr) (p : Pos) (l : Nat) : swapsWithSole [.Subscript o i p] (emb g.nm e t) l X.env = pure false := by
  cases e <;> simp only [emb] <;> rfl
theorem noSwp3 (e : Ex) (t : Tr) (l : Nat) (h : isComp e = false) : swapsWith (emb g.nm e t) none l X.env = pure false := by
  cases e <;> first | (simp [isComp] at h; done) | (simp only [emb]; rfl)
theorem noStore1 (e : Ex) (t : Tr) (o i : Expr) (p : Pos) : swappedStores [.Subscript o i p] (emb g.nm e t) X.env = pure none := by
  cases e <;> simp only [emb] <;> rfl
theorem noSet (e : Ex) (t : Tr) : (match emb g.nm e t with | .SetComp .. => false | .DictComp .. => false | _ => true) = true := by
  cases e <;> simp only [emb]
theorem oneName_ok {i : Nat} {nm : Nm} {sc : Scope} (h : oneName nm sc i = true) : i < nm.N.length ∧ stB sc (nm.n i) = true := by
  unfold oneName at h
  rw [Bool.and_eq_true, decide_eq_true_eq] at h
  exact h
/-- a name stored -/
theorem kSet_post {i : Nat} {ρ : Env} {d : D} {v : V} {s : Store} {ms : Wd} {H : Hp} {E : Ends} {σ : L2.St} (e : EnvOk g.S ms H ρ σ) (o : StOk g.S ms H s) (r : Rep g.S ms H d v) (p : PostS g.S g.XA W ms H E (kSet i ρ d s)) : E.nx (σ.set i (some v)) H := by
  unfold kSet at p
  split at p
  · exact p _ ms H .refl (e.set r) o
  · exact p.elim
/-- name = value -/
theorem snd_set (c : Cxt g n g.nm.N X W X.env.scope) (hk : X.env.scope.kind = .function) {i : Nat} {e : Ex} {t : Tr} (h1 : oneName g.nm X.env.scope i = true) (h2 : chk g.nm X.env.scope X.env.scope e (t.k 0) = true) :
    PS X (.Assign [.Name (g.nm.n i) t.q] (emb g.nm e (t.k 0)) t.p) (TS_ g W (EvS g n (.set i e))) := by
  obtain ⟨hl, hs⟩ := oneName_ok h1
  obtain ⟨lo, fn⟩ := c.sto _ hs
  have hN : X.N[i]? = some (g.nm.n i) := by rw [c.hN]; exact nm_get hl
  have sw := swpP_ok (value := emb g.nm e (t.k 0)) (x := g.nm.n i) (p := t.q) (l := t.p.line) hk (noSet (g := g) e (t.k 0))
  have red : ∀ D σ H, TS_ g W (EvS g n (.set i e)) D σ H → TD g.S g.XA W (EvD g n e) σ H fun v H1 => D.nx (σ.set i (some v)) H1 := fun D σ H q => by
    obtain ⟨ms, ρ, s, en, o, q⟩ := q
    simp only [EvS, evS] at q
    exact ⟨ms, ρ, s, en, o, PostS.thn en q fun d s1 v ms1 H1 _ n1 en1 o1 r q1 => kSet_post en1 o1 r q1⟩
  cases hb : swpP X.env.kindOf (emb g.nm e (t.k 0)) (.Name (g.nm.n i) t.q) with
  | false =>
    rw [hb] at sw
    have ie := snd e (t.k 0) X W X.env.scope c h2
    exact ps_imp (ps_set c.nd hN lo ie.1 sw fn) fun D σ H q => red D σ H q
  | true =>
    rw [hb] at sw
    match e, hb, sw, h2, red with
    | .comp m elt tg ib es cond, hb, sw, h, red =>
      simp only [emb] at hb sw ⊢
      have hyl : X.env.scope.names.lookup (g.nm.n i) = some .local := by
        simp only [swpP, Bool.and_eq_true, beq_iff_eq] at hb
        exact hb.1.1
      simp only [chk] at h
      obtain ⟨k123456, m7⟩ := andB h
      obtain ⟨k12345, m6⟩ := andB k123456
      obtain ⟨k1234, m5⟩ := andB k12345
      obtain ⟨k123, m4⟩ := andB k1234
      obtain ⟨k12, m3⟩ := andB k123
      obtain ⟨m1, m2⟩ := andB k12
      generalize t.k 0 = u at *
      have il := sndL es (u.k 2).ks X W X.env.scope c m1
      have hi := sndIt (tp := u.k 1) (ip := u.k 2) (tg := tg) c il.1 il.2 m2
      have bk : BlkOk X.N X.env.scope u.sc (tg.names.map fun i => (g.nm.n i, i)) := by rw [c.hN]; exact blkOk_by m3
      have fold : ∀ x, foldedSetIterable (embIt ib (embL g.nm es (u.k 2).ks) (u.k 2)) X.env x = pure x := by
        intro x
        cases ib with
        | seq =>
          cases es with
          | nil => rfl
          | cons e r => exact folded_emb e _ _ x
        | _ => rfl
      have hv : (tg.names.map fun i => (g.nm.n i, i)).map (·.2) = tg.names := by
        rw [List.map_map]
        exact List.map_id' _
      refine ps_imp (ps_setLc c.calm c.nd hN hyl sw hi bk (fun s H C cl fp => sndT (c.blk u.sc s H C cl fp) tg (u.k 1) m4) (fun s H C cl fp => sndC cond (u.k 3).ks _ W0 u.sc (c.blk u.sc s H C cl fp) m6 (of_decide_eq_true m7))
        (fun s H C cl fp => (snd elt (u.k 0) _ W0 u.sc (c.blk u.sc s H C cl fp) m5).1) fold) fun D σ H q => ?_
      have z := comp_read (red D σ H q)
      rw [hv]
      exact z
    | .var _, hb, _, _, _ => simp [emb, swpP] at hb
    | .int _, hb, _, _, _ => simp [emb, swpP] at hb
    | .bl _, hb, _, _, _ => simp [emb, swpP] at hb
    | .non, hb, _, _, _ => simp [emb, swpP] at hb
    | .str _, hb, _, _, _ => simp [emb, swpP] at hb
    | .glob _, hb, _, _, _ => simp [emb, swpP] at hb
    | .bin _ _ _ _, hb, _, _, _ => simp [emb, swpP] at hb
    | .neg _, hb, _, _, _ => simp [emb, swpP] at hb
    | .not _, hb, _, _, _ => simp [emb, swpP] at hb
    | .and _, hb, _, _, _ => simp [emb, swpP] at hb
    | .or _, hb, _, _, _ => simp [emb, swpP] at hb
    | .cmp _ _ _, hb, _, _, _ => simp [emb, swpP] at hb
    | .chain _ _ _ _ _, hb, _, _, _ => simp [emb, swpP] at hb
    | .isn _ _, hb, _, _, _ => simp [emb, swpP] at hb
    | .isb _ _ _, hb, _, _, _ => simp [emb, swpP] at hb
    | .ite _ _ _, hb, _, _, _ => simp [emb, swpP] at hb
    | .tup _, hb, _, _, _ => simp [emb, swpP] at hb
    | .lst _ _, hb, _, _, _ => simp [emb, swpP] at hb
    | .idx _ _, hb, _, _, _ => simp [emb, swpP] at hb
    | .slice _ _ _ _, hb, _, _, _ => simp [emb, swpP] at hb
    | .call _ _, hb, _, _, _ => simp [emb, swpP] at hb
    | .blt _ _ _, hb, _, _, _ => simp [emb, swpP] at hb
    | .inst _ _, hb, _, _, _ => simp [emb, swpP] at hb
    | .meth _ _ _, hb, _, _, _ => simp [emb, swpP] at hb
theorem put_set {i : Nat} {d : D} {ρ ρ' : Env} (h : put (.n i) d ρ = some ρ') : ρ' = ρ.set i (some d) := by
  simp only [put] at h
  split at h
  · cases h; rfl
  · cases h
/-- a, b = x, y; a, b, c = x, y, z -/
theorem snd_par (c : Cxt g n g.nm.N X W X.env.scope) (hk : X.env.scope.kind = .function) {is : List Nat} {es : List Ex} {t : Tr} {CN : Nat → Str} (h : chkS ⟨g.nm, CN⟩ X.env.scope (.par is es) t = true) :
    PS X (embS ⟨g.nm, CN⟩ (.par is es) t) (TS_ g W (EvS g n (.par is es))) := by
  simp only [chkS] at h
  obtain ⟨h123456, h7⟩ := andB h
  obtain ⟨h12345, h6⟩ := andB h123456
  obtain ⟨h1234, h5⟩ := andB h12345
  obtain ⟨h123, h4⟩ := andB h1234
  obtain ⟨h12, h3⟩ := andB h123
  obtain ⟨h1, h2⟩ := andB h12
  have nms := names_ok h1
  have nd := of_decide_eq_true h3
  have hl := of_decide_eq_true h5
  have loc : ∀ i ∈ is, X.env.scope.names.lookup (g.nm.n i) = some .local := fun i hi => by
    have z := List.all_eq_true.mp h2 i hi
    unfold stLoc at z
    split at z
    · assumption
    · cases z
  have il := (sndL es (t.k 1).ks X W X.env.scope c h6).1
  have hN : ∀ i ∈ is, X.N[i]? = some (g.nm.n i) := fun i hi => by rw [c.hN]; exact nm_get (nms i hi).1
  have sw : swappedStores [embT g.nm (.t (is.map .n)) (t.k 0)] (.Tuple (embL g.nm es (t.k 1).ks) 0 (t.k 1).p) X.env = pure (some (is.map g.nm.n)) := by
    split at h7
    · rename_i l e
      rw [of_decide_eq_true h7] at e
      exact swpS_ok hk e
    · cases h7
  have red : ∀ D σ H, TS_ g W (EvS g n (.par is es)) D σ H → TL g.S g.XA W (EvL g n es) σ H fun vs H1 => ∃ ms ρ ds s, EnvOk g.S ms H1 ρ σ ∧ StOk g.S ms H1 s ∧ RepL g.S ms H1 ds vs ∧ PostS g.S g.XA W ms H1 D (kPar is ρ ds s) := fun D σ H q => by
    obtain ⟨ms, ρ, s, en, o, q⟩ := q
    simp only [EvS, evS] at q
    exact ⟨ms, ρ, s, en, o, PostS.thn en q fun ds s1 v ms1 H1 _ n1 en1 o1 r q1 => ⟨ms1, ρ, ds, s1, en1, o1, r, q1⟩⟩
  match is, es, hl, h4, il, sw, red, nd, loc, hN with
  | [i, j], [a, b], _, _, il, sw, red, nd, loc, hN =>
    simp only [embS, embT, List.map_cons, List.map_nil, embTL, embL] at il sw ⊢
    refine ps_imp (ps_par c.calm c.nd (hN i (by simp)) (hN j (by simp)) (by simpa using nd) (loc i (by simp)) (loc j (by simp)) il sw (by rfl)) fun D σ H q => ?_
    obtain ⟨ms, ρ, s, en, o, q⟩ := red D σ H q
    refine ⟨ms, ρ, s, en, o, ?_⟩
    cases z : EvL g n [a, b] ρ s with
    | ok ds s1 =>
      rw [z] at q
      intro vs ms' H' n' o' r
      obtain ⟨ms2, ρ2, ds2, s2, en2, o2, r2, q2⟩ := q vs ms' H' n' o' r
      unfold kPar at q2
      split at q2
      · rename_i ρ' hp
        match ds2, r2, hp with
        | [d, d'], r2, hp =>
          obtain ⟨v, u, rfl, rv, ru⟩ := repL_two r2
          simp only [List.map_cons, List.map_nil, putL] at hp
          obtain ⟨ρ1, e1, e2⟩ := Option.bind_eq_some_iff.mp hp
          obtain ⟨ρ3, e3, e4⟩ := Option.bind_eq_some_iff.mp e2
          simp only [Option.some.injEq] at e4
          subst e4
          rw [put_set e3, put_set e1] at q2
          exact ⟨v, u, rfl, q2 _ ms2 H' .refl ((en2.set rv).set ru) o2⟩
        | [], r2, hp => simp [putL] at hp
        | [_], r2, hp => simp [putL] at hp
        | _ :: _ :: _ :: _, r2, hp =>
          simp only [List.map_cons, List.map_nil, putL] at hp
          obtain ⟨ρ1, e1, e2⟩ := Option.bind_eq_some_iff.mp hp
          obtain ⟨ρ3, e3, e4⟩ := Option.bind_eq_some_iff.mp e2
          cases e4
      · exact q2.elim
    | exc k s1 => rw [z] at q; exact q
    | bad => rw [z] at q; exact q
  | [i, j, l], [a, b, d], _, _, il, sw, red, nd, loc, hN =>
    simp only [embS, embT, List.map_cons, List.map_nil, embTL, embL] at il sw ⊢
    have n1 : i ≠ j := by intro z; simp [z] at nd
    have n2 : i ≠ l := by intro z; simp [z] at nd
    have n3 : j ≠ l := by intro z; simp [z] at nd
    refine ps_imp (ps_par3 c.calm c.nd (hN i (by simp)) (hN j (by simp)) (hN l (by simp)) n1 n2 n3 (loc i (by simp)) (loc j (by simp)) (loc l (by simp)) il sw (by rfl)) fun D σ H q => ?_
    obtain ⟨ms, ρ, s, en, o, q⟩ := red D σ H q
    refine ⟨ms, ρ, s, en, o, ?_⟩
    cases z : EvL g n [a, b, d] ρ s with
    | ok ds s1 =>
      rw [z] at q
      intro vs ms' H' n' o' r
      obtain ⟨ms2, ρ2, ds2, s2, en2, o2, r2, q2⟩ := q vs ms' H' n' o' r
      unfold kPar at q2
      split at q2
      · rename_i ρ' hp
        match ds2, r2, hp with
        | [d, d', d2], r2, hp =>
          obtain ⟨v, t1, rfl, rv, r3⟩ := r2
          obtain ⟨u, w, rfl, ru, rw'⟩ := repL_two r3
          simp only [List.map_cons, List.map_nil, putL] at hp
          obtain ⟨ρ1, e1, e2⟩ := Option.bind_eq_some_iff.mp hp
          obtain ⟨ρ3, e3, e4⟩ := Option.bind_eq_some_iff.mp e2
          obtain ⟨ρ5, e5, e6⟩ := Option.bind_eq_some_iff.mp e4
          simp only [Option.some.injEq] at e6
          subst e6
          rw [put_set e5, put_set e3, put_set e1] at q2
          exact ⟨v, u, w, rfl, q2 _ ms2 H' .refl (((en2.set rv).set ru).set rw') o2⟩
        | [], r2, hp => simp [putL] at hp
        | [_], r2, hp => 
          simp only [List.map_cons, List.map_nil, putL] at hp
          obtain ⟨ρ1, e1, e2⟩ := Option.bind_eq_some_iff.mp hp
          cases e2
        | [_, _], r2, hp =>
          simp only [List.map_cons, List.map_nil, putL] at hp
          obtain ⟨ρ1, e1, e2⟩ := Option.bind_eq_some_iff.mp hp
          obtain ⟨ρ3, e3, e4⟩ := Option.bind_eq_some_iff.mp e2
          cases e4
        | _ :: _ :: _ :: _ :: _, r2, hp =>
          simp only [List.map_cons, List.map_nil, putL] at hp
          obtain ⟨ρ1, e1, e2⟩ := Option.bind_eq_some_iff.mp hp
          obtain ⟨ρ3, e3, e4⟩ := Option.bind_eq_some_iff.mp e2
          obtain ⟨ρ5, e5, e6⟩ := Option.bind_eq_some_iff.mp e4
          cases e6
      · exact q2.elim
    | exc k s1 => rw [z] at q; exact q
    | bad => rw [z] at q; exact q
  | [], _, _, h4, _, _, _, _, _, _ => simp at h4
  | [_], _, _, h4, _, _, _, _, _, _ => simp at h4
  | _ :: _ :: _ :: _ :: _, _, _, h4, _, _, _, _, _, _ => simp at h4
  | [_, _], [], hl, _, _, _, _, _, _, _ => simp at hl
  | [_, _], [_], hl, _, _, _, _, _, _, _ => simp at hl
  | [_, _], _ :: _ :: _ :: _, hl, _, _, _, _, _, _, _ => simp at hl
  | [_, _, _], [], hl, _, _, _, _, _, _, _ => simp at hl
  | [_, _, _], [_], hl, _, _, _, _, _, _, _ => simp at hl
  | [_, _, _], [_, _], hl, _, _, _, _, _, _, _ => simp at hl
  | [_, _, _], _ :: _ :: _ :: _ :: _, hl, _, _, _, _, _, _, _ => simp at hl
end
end Pi

set_option Elab.async false
set_option linter.all false
set_option maxRecDepth 100000
namespace Pi
open PySem PySem.Spec PyProof.Rows L2

section
variable {g : Glob} {n : Nat} {X : Cx} {W : WX}
/-- ends that know a next only -/
def onlyNx (Q : L2.St → Hp → Prop) : Ends := { nx := Q, rt := fun _ _ => False, bk := fun _ _ => False, ct := fun _ _ => False }
/-- a target's reading, by a function -/
def TGx (g : Glob) (W : WX) (f : D → Env → Store → RS) : L2.TG := fun v σ H Q => ∃ ms ρ s d, EnvOk g.S ms H ρ σ ∧ StOk g.S ms H s ∧ Rep g.S ms H d v ∧ PostS g.S g.XA W ms H (onlyNx Q) (f d ρ s)
def TGxs (g : Glob) (W : WX) (f : List D → Env → Store → RS) : L2.TGs := fun vs σ H Q => ∃ ms ρ s ds, EnvOk g.S ms H ρ σ ∧ StOk g.S ms H s ∧ RepL g.S ms H ds vs ∧ PostS g.S g.XA W ms H (onlyNx Q) (f ds ρ s)
theorem setAt_ok {s s' : Store} {o i d : D} {ms : Wd} {H : Hp} {vo vi v : V} (h : setAt s o i d = some s') (k : StOk g.S ms H s) (ro : Rep g.S ms H o vo) (ri : Rep g.S ms H i vi) (r : Rep g.S ms H d v) {Q : Hp → Prop} (q : ∀ H', Nxt ms H ms H' → StOk g.S ms H' s' → Q H') : rSetL vo vi v H Q := by
  unfold setAt at h
  split at h
  · rename_i m j
    obtain ⟨a, rfl, ha⟩ := ro
    cases ri
    split at h
    · rename_i xs e
      obtain ⟨z, hz, rfl⟩ := Option.map_eq_some_iff.mp h
      obtain ⟨a', vs, e1, e2, rl⟩ := k.cell m xs e
      rw [ha] at e1; cases e1
      refine ⟨a, vs, j, z, rfl, rfl, e2, by rw [← rl.length]; exact hz, q _ (Nxt.chg k ha e2) (k.chg ha e2 (rl.setI z r))⟩
    · cases h
  · cases h
theorem pg_at (c : Cxt g n g.nm.N X W X.env.scope) {o i : Ex} {t0 t1 : Tr} {p : Pos} (h1 : chk g.nm X.env.scope X.env.scope o t0 = true) (h2 : chk g.nm X.env.scope X.env.scope i t1 = true) :
    PG X (.Subscript (emb g.nm o t0) (emb g.nm i t1) p) (TGx g W (fun d ρ s => evSub g.P.G (run g.P n) o i d ρ s)) := by
  have io := snd o t0 X W X.env.scope c h1
  have ii := snd i t1 X W X.env.scope c h2
  refine pg_imp (pg_sub io.1 ii.1 set_list (by
    intro v
    have pl := plain_emb (nm := g.nm) i t1
    revert pl
    cases i <;> intro pl <;> simp only [emb] <;> rfl)) fun v σ H Q q => ?_
  obtain ⟨ms, ρ, s, d, en, ok, r, q⟩ := q
  refine ⟨ms, ρ, s, en, ok, PostS.thn en q fun x s1 vx ms1 H1 _ n1 en1 ok1 rx q1 => ?_⟩
  refine ⟨ms1, ρ, s1, en1, ok1, PostS.thn en1 q1 fun y s2 vy ms2 H2 _ n2 en2 ok2 ry q2 => ?_⟩
  cases e : setAt s2 x y d with
  | none => rw [e] at q2; exact q2.elim
  | some s3 =>
    rw [e] at q2
    exact setAt_ok e ok2 (Rep.nxt n2 _ _ rx) ry (Rep.nxt n2 _ _ (Rep.nxt n1 _ _ r)) fun H' n' o' => q2 σ ms2 H' n' (en2.nxt n') o'
theorem sndLT (c : Cxt g n g.nm.N X W X.env.scope) : ∀ (t : LT) (tr : Tr), chkLT g.nm X.env.scope t tr = true → PG X (embLT g.nm t tr) (TGx g W (fun d ρ s => evLT g.P.G (run g.P n) t d ρ s))
  | .n i, tr, h => by
    obtain ⟨hl, hs⟩ := oneName_ok (by simpa only [chkLT] using h)
    obtain ⟨lo, fn⟩ := c.sto _ hs
    refine pg_imp (pg_name (i := i) c.nd (by rw [c.hN]; exact nm_get hl) lo fn) fun v σ H Q q => ?_
    obtain ⟨ms, ρ, s, d, en, ok, r, q⟩ := q
    simp only [evLT] at q
    split at q
    · exact q _ ms H .refl (en.set r) ok
    · exact q.elim
  | .s o i, tr, h => by
    simp only [chkLT] at h
    obtain ⟨h1, h2⟩ := andB h
    exact pg_at c h1 h2
theorem assignLT_len : ∀ (l : List LT) (ts : List Tr) (nm : Nm) (env : PySem.Env), (assignEach (embLTs nm l ts) env).length = l.length ∧ (assignEach (embLTs nm l ts) env).findIdx? (·.1) = none
  | [], _, _, _ => ⟨rfl, rfl⟩
  | x :: l, ts, nm, env => by
    have ih := assignLT_len l ts.tail nm env
    simp only [embLTs]
    have e : ∀ y, assignEach (embLT nm x (ts.headD default) :: y) env = (false, assign (embLT nm x (ts.headD default)) env) :: assignEach y env := by
      intro y
      cases x <;> simp only [embLT] <;> rfl
    rw [e]
    refine ⟨by rw [List.length_cons, ih.1, List.length_cons], ?_⟩
    rw [List.findIdx?_cons, ih.2]
    rfl
theorem assignLT_cons (x : LT) (t : Tr) (nm : Nm) (y : List Expr) (env : PySem.Env) : (assignEach (embLT nm x t :: y) env).map (·.2) = assign (embLT nm x t) env :: (assignEach y env).map (·.2) := by
  cases x <;> simp only [embLT] <;> rfl
theorem sndLTs (c : Cxt g n g.nm.N X W X.env.scope) : ∀ (l : List LT) (ts : List Tr), chkLTs g.nm X.env.scope l ts = true → PGs X (embLTs g.nm l ts) (TGxs g W (fun ds ρ s => evSubs g.P.G (run g.P n) l ds ρ s))
  | [], ts, h => by
    refine pgs_imp pgs_nil fun vs σ H Q q => ?_
    obtain ⟨ms, ρ, s, ds, en, ok, r, q⟩ := q
    cases ds with
    | nil =>
      cases r
      exact ⟨rfl, q σ ms H .refl en ok⟩
    | cons d ds => exact q.elim
  | x :: l, ts, h => by
    simp only [chkLTs] at h
    obtain ⟨h1, h2⟩ := andB h
    have i1 := sndLT c x (ts.headD default) h1
    have i2 := sndLTs c l ts.tail h2
    refine pgs_imp (pgs_cons i1 i2 (assignLT_cons x _ g.nm _ X.env)) fun vs σ H Q q => ?_
    obtain ⟨ms, ρ, s, ds, en, ok, r, q⟩ := q
    cases ds with
    | nil => exact q.elim
    | cons d ds =>
      obtain ⟨v, vr, rfl, rd, rr⟩ := r
      refine ⟨v, vr, rfl, ms, ρ, s, d, en, ok, rd, ?_⟩
      simp only [evSubs] at q
      split at q
      · rename_i ρ1 s1 e
        show PostS _ _ _ _ _ _ (evLT g.P.G (run g.P n) x d ρ s)
        rw [e]
        exact fun σ' ms' H' n' en' ok' => ⟨ms', ρ1, s1, ds, en', ok', RepL.nxt n' _ _ rr, q.nxt n'⟩
      · rename_i k ρ1 s1 e
        show PostS _ _ _ _ _ _ (evLT g.P.G (run g.P n) x d ρ s)
        rw [e]
        exact q
      · exact q.elim
theorem snd_unp (c : Cxt g n g.nm.N X W X.env.scope) (hk : X.env.scope.kind = .function) {tg : Tg} {e : Ex} {t : Tr} {CN : Nat → Str} (h : chkS ⟨g.nm, CN⟩ X.env.scope (.unp tg e) t = true) :
    PS X (embS ⟨g.nm, CN⟩ (.unp tg e) t) (TS_ g W (EvS g n (.unp tg e))) := by
  simp only [chkS] at h
  obtain ⟨h123, h4⟩ := andB h
  obtain ⟨h12, h3⟩ := andB h123
  obtain ⟨h1, h2⟩ := andB h12
  have ie := snd e (t.k 1) X W X.env.scope c h3
  have ig := sndT c tg (t.k 0) h2
  cases tg with
  | n i => cases h1
  | t l =>
    simp only [embS, embT] at ig h4 ⊢
    refine ps_imp (ps_asg ie.1 ig (noSwp1 _ _ _ _ _ _) (noSwap hk h4) rfl) fun D σ H q => ?_
    obtain ⟨ms, ρ, s, en, ok, q⟩ := q
    simp only [EvS, evS] at q
    refine ⟨ms, ρ, s, en, ok, PostS.thn en q fun d s1 v ms1 H1 _ n1 en1 ok1 r q1 => ?_⟩
    unfold kPut at q1
    split at q1
    · rename_i ρ' e'
      exact ⟨ms1, ρ, d, en1, r, ρ', e', fun σ' en' _ => q1 σ' ms1 H1 .refl en' ok1⟩
    · exact q1.elim
theorem snd_sub (c : Cxt g n g.nm.N X W X.env.scope) {o i e : Ex} {t : Tr} {CN : Nat → Str} (h : chkS ⟨g.nm, CN⟩ X.env.scope (.sub o i e) t = true) :
    PS X (embS ⟨g.nm, CN⟩ (.sub o i e) t) (TS_ g W (EvS g n (.sub o i e))) := by
  simp only [chkS] at h
  obtain ⟨h12, h3⟩ := andB h
  obtain ⟨h1, h2⟩ := andB h12
  have ie := snd e (t.k 2) X W X.env.scope c h3
  simp only [embS]
  refine ps_imp (ps_asg ie.1 (pg_at c h1 h2) (noSwp2 _ _ _ _ _ _) (noStore1 _ _ _ _ _) rfl) fun D σ H q => ?_
  obtain ⟨ms, ρ, s, en, ok, q⟩ := q
  simp only [EvS, evS] at q
  refine ⟨ms, ρ, s, en, ok, PostS.thn en q fun d s1 v ms1 H1 _ n1 en1 ok1 r q1 => ?_⟩
  refine ⟨ms1, ρ, s1, d, en1, ok1, r, ?_⟩
  show PostS _ _ _ _ _ _ (evSub g.P.G (run g.P n) o i d ρ s1)
  cases z : evSub g.P.G (run g.P n) o i d ρ s1 with
  | ok f ρ' s' =>
    rw [z] at q1
    unfold evSub at z
    cases f with
    | nx => exact q1
    | rt _ =>
      exfalso
      cases z1 : ev g.P.G (run g.P n) o ρ s1 <;> rw [z1] at z <;> simp only [R.thn] at z <;> try cases z
      rename_i x s2
      cases z2 : ev g.P.G (run g.P n) i ρ s2 <;> rw [z2] at z <;> simp only [R.thn] at z <;> try cases z
      split at z <;> cases z
    | bk =>
      exfalso
      cases z1 : ev g.P.G (run g.P n) o ρ s1 <;> rw [z1] at z <;> simp only [R.thn] at z <;> try cases z
      rename_i x s2
      cases z2 : ev g.P.G (run g.P n) i ρ s2 <;> rw [z2] at z <;> simp only [R.thn] at z <;> try cases z
      split at z <;> cases z
  | exc k ρ' s' => rw [z] at q1; exact q1
  | bad => rw [z] at q1; exact q1.elim
theorem evSubs_nx {G : Nat → Option D} {call : Call} : ∀ {l : List LT} {ds : List D} {ρ ρ' : Env} {s s' : Store} {f : Fl}, evSubs G call l ds ρ s = .ok f ρ' s' → f = .nx
  | [], [], _, _, _, _, _, h => by simp only [evSubs] at h; cases h; rfl
  | [], _ :: _, _, _, _, _, _, h => by simp only [evSubs] at h; cases h
  | _ :: _, [], _, _, _, _, _, h => by simp only [evSubs] at h; cases h
  | x :: l, d :: ds, ρ, ρ', s, s', f, h => by
    simp only [evSubs] at h
    split at h
    · exact evSubs_nx h
    · cases h
    · cases h
theorem snd_subs (c : Cxt g n g.nm.N X W X.env.scope) (hk : X.env.scope.kind = .function) {ts : List LT} {e : Ex} {t : Tr} {CN : Nat → Str} (h : chkS ⟨g.nm, CN⟩ X.env.scope (.subs ts e) t = true) :
    PS X (embS ⟨g.nm, CN⟩ (.subs ts e) t) (TS_ g W (EvS g n (.subs ts e))) := by
  simp only [chkS] at h
  obtain ⟨h12, h3⟩ := andB h
  obtain ⟨h1, h2⟩ := andB h12
  have ie := snd e (t.k 1) X W X.env.scope c h2
  have ig := sndLTs c ts (t.k 0).ks h1
  have al := assignLT_len ts (t.k 0).ks g.nm X.env
  simp only [embS] at h3 ⊢
  refine ps_imp (ps_asg ie.1 (pg_tup (n := ts.length) c.calm ig al.1 al.2) (noSwp1 _ _ _ _ _ _) (noSwap hk h3) rfl) fun D σ H q => ?_
  obtain ⟨ms, ρ, s, en, ok, q⟩ := q
  simp only [EvS, evS] at q
  refine ⟨ms, ρ, s, en, ok, PostS.thn en q fun d s1 v ms1 H1 _ n1 en1 ok1 r q1 => ?_⟩
  unfold kSubs at q1
  revert r q1
  cases d with
  | tup ds =>
    intro r q1
    simp only at q1
    obtain ⟨a, vs, rfl, qa, rl⟩ := r
    split at q1
    · rename_i hlen
      rw [rl.length] at hlen
      refine ⟨a, vs, rfl, by rw [c.hK]; exact qa, hlen, ms1, ρ, s1, ds, en1, ok1, rl, ?_⟩
      show PostS _ _ _ _ _ _ (evSubs g.P.G (run g.P n) ts ds ρ s1)
      cases z : evSubs g.P.G (run g.P n) ts ds ρ s1 with
      | ok f ρ' s' =>
        have := evSubs_nx z
        subst this
        rw [z] at q1
        exact q1
      | exc k ρ' s' => rw [z] at q1; exact q1
      | bad => rw [z] at q1; exact q1.elim
    · exact q1.elim
  | _ => exact fun _ q1 => q1.elim
theorem snd_aug (c : Cxt g n g.nm.N X W X.env.scope) {i : Nat} {op : Bop} {e : Ex} {t : Tr} {CN : Nat → Str} (h : chkS ⟨g.nm, CN⟩ X.env.scope (.aug i op e) t = true) :
    PS X (embS ⟨g.nm, CN⟩ (.aug i op e) t) (TS_ g W (EvS g n (.aug i op e))) := by
  simp only [chkS] at h
  obtain ⟨h12, h3⟩ := andB h
  obtain ⟨h1, h2⟩ := andB h12
  obtain ⟨hl, hs⟩ := oneName_ok h1
  obtain ⟨lo, fn⟩ := c.sto _ hs
  have hN : X.N[i]? = some (g.nm.n i) := by rw [c.hN]; exact nm_get hl
  have ie := snd e (t.k 0) X W X.env.scope c h2
  simp only [embS]
  have red : ∀ D σ H, TS_ g W (EvS g n (.aug i op e)) D σ H → ∃ x, σ[i]? = some (some x) ∧ TD g.S g.XA W (EvD g n e) σ H fun y H1 => ∃ ms ρ s a b, EnvOk g.S ms H1 ρ σ ∧ StOk g.S ms H1 s ∧ Rep g.S ms H1 a x ∧ Rep g.S ms H1 b y ∧ PostS g.S g.XA W ms H1 D (kAug i op a ρ b s) := fun D σ H q => by
    obtain ⟨ms, ρ, s, en, ok, q⟩ := q
    simp only [EvS, evS] at q
    split at q
    · rename_i a ha
      obtain ⟨x, hx, rx⟩ := en.at_ i a ha
      exact ⟨x, hx, ms, ρ, s, en, ok, PostS.thn en q fun b s1 y ms1 H1 _ n1 en1 ok1 r q1 => ⟨ms1, ρ, s1, a, b, en1, ok1, Rep.nxt n1 _ _ rx, r, q1⟩⟩
    · exact q.elim
  cases op with
  | add =>
    refine ps_imp (ps_aug c.nd hN lo ie.1 ip_add fn) fun D σ H q => ?_
    obtain ⟨x, hx, q⟩ := red D σ H q
    obtain ⟨ms, ρ, s, en, ok, q⟩ := q
    refine ⟨x, hx, ms, ρ, s, en, ok, ?_⟩
    cases z : EvD g n e ρ s with
    | ok d s1 =>
      rw [z] at q
      intro y ms' H' n' ok' r
      obtain ⟨ms2, ρ2, s2, a, b, en2, ok2, ra, rb, q2⟩ := q y ms' H' n' ok' r
      cases a with
      | int ia =>
        cases b with
        | int ib =>
          cases ra
          cases rb
          exact ⟨ia, ib, rfl, rfl, q2 _ ms2 H' .refl (en2.set rfl) ok2⟩
        | _ => exact q2.elim
      | _ => exact q2.elim
    | exc k s1 => rw [z] at q; exact q
    | bad => rw [z] at q; exact q
  | sub =>
    refine ps_imp (ps_aug c.nd hN lo ie.1 ip_sub fn) fun D σ H q => ?_
    obtain ⟨x, hx, q⟩ := red D σ H q
    obtain ⟨ms, ρ, s, en, ok, q⟩ := q
    refine ⟨x, hx, ms, ρ, s, en, ok, ?_⟩
    cases z : EvD g n e ρ s with
    | ok d s1 =>
      rw [z] at q
      intro y ms' H' n' ok' r
      obtain ⟨ms2, ρ2, s2, a, b, en2, ok2, ra, rb, q2⟩ := q y ms' H' n' ok' r
      cases a with
      | int ia =>
        cases b with
        | int ib =>
          cases ra
          cases rb
          exact ⟨ia, ib, rfl, rfl, q2 _ ms2 H' .refl (en2.set rfl) ok2⟩
        | _ => exact q2.elim
      | _ => exact q2.elim
    | exc k s1 => rw [z] at q; exact q
    | bad => rw [z] at q; exact q
  | mul => cases h3
  | fdiv => cases h3
  | mod => cases h3
  | pow => cases h3

def whT (G : Nat → Option D) (call : Call) (c : Ex) (b : List Sm) : Env → Store → WR := fun ρ s => match (ev G call c ρ s).bind asB with
    | .ok true s1 => (evSs G call b ρ s1).turn
    | .ok false s1 => .fin (.ok .nx ρ s1)
    | .exc c s1 => .fin (.exc c ρ s1)
    | .bad => .fin .bad
/-- one turn's body -/
theorem turn_post {D : Ends} {ms : Wd} {H : Hp} {r : RS} {F : Env → Store → RS} {N : L2.St → Hp → Prop} (q : PostS g.S g.XA W ms H D (match r.turn with | .go ρ' s' => F ρ' s' | .fin r => r))
    (hN : ∀ σ' ms' H' ρ' s', Nxt ms H ms' H' → EnvOk g.S ms' H' ρ' σ' → StOk g.S ms' H' s' → PostS g.S g.XA W ms' H' D (F ρ' s') → N σ' H') : PostS g.S g.XA W ms H { D with nx := N, ct := N, bk := D.nx } r := by
  cases r with
  | ok f ρ s =>
    cases f with
    | nx => exact fun σ' ms' H' n' en' ok' => hN σ' ms' H' ρ s n' en' ok' (PostS.nxt (r := F ρ s) q n')
    | rt d => exact q
    | bk => exact q
  | exc c ρ s => exact q
  | bad => exact q
theorem while_read {c : Ex} {b : List Sm} {D : Ends} {σ : L2.St} {H : Hp} (h : TS_ g W (EvS g n (.whl c b)) D σ H) : tWhile (TT g.S g.XA W (tst (EvD g n c))) (TS_ g W (EvSs g n b)) D σ H := by
  obtain ⟨ms0, ρ0, s0, en0, ok0, q0⟩ := h
  simp only [EvS, evS] at q0
  generalize most = mo at q0
  refine ⟨fun m σ H => ∃ ms ρ s, EnvOk g.S ms H ρ σ ∧ StOk g.S ms H s ∧ PostS g.S g.XA W ms H D (loopN (whT g.P.G (run g.P n) c b) m ρ s), ⟨mo, ms0, ρ0, s0, en0, ok0, q0⟩, ?_⟩
  rintro m σ H ⟨ms, ρ, s, en, ok, q⟩
  cases m with
  | zero => exact q.elim
  | succ m =>
    simp only [loopN] at q
    unfold whT at q
    refine ⟨ms, ρ, s, en, ok, ?_⟩
    unfold tst
    show Post _ _ _ _ _ _ _ ((ev g.P.G (run g.P n) c ρ s).bind asB)
    cases z : (ev g.P.G (run g.P n) c ρ s).bind asB with
    | ok k s1 =>
      rw [z] at q
      intro k' ms1 H1 n1 ok1 e
      cases e
      cases k with
      | true =>
        simp only [if_true]
        refine ⟨fun σ' H' => ∃ ms ρ s, EnvOk g.S ms H' ρ σ' ∧ StOk g.S ms H' s ∧ PostS g.S g.XA W ms H' D (loopN (whT g.P.G (run g.P n) c b) m ρ s), fun σ' H' w => ⟨m, Nat.lt_succ_self m, w⟩, ms1, ρ, s1, en.nxt n1, ok1, ?_⟩
        exact turn_post (PostS.nxt q n1) fun σ' ms' H' ρ' s' n' en' ok' p' => ⟨ms', ρ', s', en', ok', p'⟩
      | false =>
        simp only [Bool.false_eq_true, if_false]
        exact q σ ms1 H1 n1 (en.nxt n1) ok1
    | exc k s1 =>
      rw [z] at q
      exact fun cls dx ms1 H1 n1 ok1 x => q cls dx σ ms1 H1 n1 (en.nxt n1) ok1 x
    | bad => rw [z] at q; exact q.elim
def foT (G : Nat → Option D) (call : Call) (t : Tg) (b : List Sm) : D → Env → Store → WR := fun x ρ s => match put t x ρ with
      | none => .fin .bad
      | some ρ1 => (evSs G call b ρ1 s).turn
theorem for_read {t : Tg} {ib : IB} {es : List Ex} {b : List Sm} {D : Ends} {σ : L2.St} {H : Hp} (h : TS_ g W (EvS g n (.for_ t ib es b)) D σ H) : tFor (TIt g.S g.XA W (itE g.P.G (run g.P n) ib es)) (TG g t) (TS_ g W (EvSs g n b)) D σ H := by
  obtain ⟨ms0, ρ0, s0, en0, ok0, q0⟩ := h
  simp only [EvS, evS] at q0
  refine ⟨ms0, ρ0, s0, en0, ok0, PostS.thn (f := itE g.P.G (run g.P n) ib es ρ0 s0) en0 q0 fun c s1 J ms1 H1 _ n1 en1 ok1 wk q1 => ?_⟩
  refine ⟨fun i k σ H2 => k = c.list.length - i ∧ i ≤ c.list.length ∧ ∃ ms ρ s, Nxt ms1 H1 ms H2 ∧ EnvOk g.S ms H2 ρ σ ∧ StOk g.S ms H2 s ∧ PostS g.S g.XA W ms H2 D (forL c.chk (foT g.P.G (run g.P n) t b) (c.list.drop i) ρ s), ⟨_, rfl, Nat.zero_le _, ms1, ρ0, s1, .refl, en1, ok1, q1⟩, ?_⟩
  rintro i k σ H2 ⟨rfl, hi, ms, ρ, s, nx, en, ok, q⟩
  by_cases hlt : i < c.list.length
  · have hx : c.list[i]? = some c.list[i] := List.getElem?_eq_getElem hlt
    generalize hxx : c.list[i] = x at hx
    have hdrop : c.list.drop i = x :: c.list.drop (i + 1) := by rw [← hxx]; exact List.drop_eq_getElem_cons hlt
    rw [hdrop] at q
    simp only [forL] at q
    split at q
    · rename_i hc
      obtain ⟨goes, yields⟩ := wk.go i x ms H2 s nx ok hc hx
      refine .inr ⟨goes, fun σ' H' => ∃ ms ρ s, Nxt ms1 H1 ms H' ∧ EnvOk g.S ms H' ρ σ' ∧ StOk g.S ms H' s ∧ PostS g.S g.XA W ms H' D (forL c.chk (foT g.P.G (run g.P n) t b) (c.list.drop (i + 1)) ρ s), fun σ' H' w => ⟨c.list.length - (i + 1), by omega, rfl, hlt, w⟩, fun v H3 hy => ?_⟩
      obtain ⟨ny, oy, ry, ky⟩ := yields v H3 hy
      unfold foT at q
      cases hp : put t x ρ with
      | none => rw [hp] at q; exact q.elim
      | some ρ1 =>
        rw [hp] at q
        refine ⟨ms, ρ, x, en.nxt ny, ry, ρ1, hp, fun σ1 en1 _ => ⟨ms, ρ1, s, en1, oy, ?_⟩⟩
        exact turn_post (PostS.nxt q ny) fun σ' ms' H' ρ' s' n' en' ok' p' => ⟨ms', ρ', s', (nx.trans ny).trans n', en', ok', p'⟩
    · exact q.elim
  · have e : i = c.list.length := by omega
    subst e
    rw [List.drop_length] at q
    simp only [forL] at q
    split at q
    · rename_i hc
      exact .inl ⟨wk.stop ms H2 s nx ok hc, q σ ms H2 .refl en ok⟩
    · exact q.elim

mutual
theorem sndS (c : Cxt g n g.nm.N X W X.env.scope) (hk : X.env.scope.kind = .function) {CN : Nat → Str} : ∀ (st : Sm) (t : Tr), chkS ⟨g.nm, CN⟩ X.env.scope st t = true → PS X (embS ⟨g.nm, CN⟩ st t) (TS_ g W (EvS g n st))
  | .set i e, t, h => by
    simp only [chkS] at h
    obtain ⟨h1, h2⟩ := andB h
    simp only [embS]
    exact snd_set c hk h1 h2
  | .par is es, t, h => snd_par c hk h
  | .unp tg e, t, h => snd_unp c hk h
  | .sub o i e, t, h => snd_sub c h
  | .subs ts e, t, h => snd_subs c hk h
  | .aug i op e, t, h => snd_aug c h
  | .ex e, t, h => by
    simp only [chkS] at h
    obtain ⟨h1, h2⟩ := andB h
    have ie := snd e (t.k 0) X W X.env.scope c h1
    simp only [embS]
    refine ps_imp (ps_expr ie.1 (noSwp3 e (t.k 0) _ (by simpa using h2))) fun D σ H q => ?_
    obtain ⟨ms, ρ, s, en, ok, q⟩ := q
    simp only [EvS, evS] at q
    exact ⟨ms, ρ, s, en, ok, PostS.thn en q fun d s1 v ms1 H1 _ n1 en1 ok1 r q1 => q1 σ ms1 H1 .refl en1 ok1⟩
  | .ret e, t, h => by
    simp only [chkS] at h
    have ie := snd e (t.k 0) X W X.env.scope c h
    simp only [embS]
    refine ps_imp (ps_ret ie.1) fun D σ H q => ?_
    obtain ⟨ms, ρ, s, en, ok, q⟩ := q
    simp only [EvS, evS] at q
    exact ⟨ms, ρ, s, en, ok, PostS.thn en q fun d s1 v ms1 H1 _ n1 en1 ok1 r q1 => q1 v ms1 H1 .refl ok1 r⟩
  | .ite e a b, t, h => by
    simp only [chkS] at h
    obtain ⟨h12, h3⟩ := andB h
    obtain ⟨h1, h2⟩ := andB h12
    have ie := snd e (t.k 0) X W X.env.scope c h1
    have ia := sndSs c hk a (t.k 1).ks h2
    have ib := sndSs c hk b (t.k 2).ks h3
    simp only [embS]
    refine ps_imp (ps_if ie.2 ia ib) fun D σ H q => ?_
    obtain ⟨ms, ρ, s, en, ok, q⟩ := q
    simp only [EvS, evS] at q
    refine ⟨ms, ρ, s, en, ok, PostS.thn en q fun k s1 k' ms1 H1 _ n1 en1 ok1 r q1 => ?_⟩
    cases r
    cases k with
    | true => simp only [if_true] at q1 ⊢; exact ⟨ms1, ρ, s1, en1, ok1, q1⟩
    | false => simp only [Bool.false_eq_true, if_false] at q1 ⊢; exact ⟨ms1, ρ, s1, en1, ok1, q1⟩
  | .whl e b, t, h => by
    simp only [chkS] at h
    obtain ⟨h1, h2⟩ := andB h
    have ie := snd e (t.k 0) X W X.env.scope c h1
    have ib := sndSs c hk b (t.k 1).ks h2
    simp only [embS]
    exact ps_imp (ps_while c.po ie.2 ib) fun D σ H q => while_read q
  | .for_ tg ib es b, t, h => by
    simp only [chkS] at h
    obtain ⟨h123, h4⟩ := andB h
    obtain ⟨h12, h3⟩ := andB h123
    obtain ⟨h1, h2⟩ := andB h12
    have il := sndL es (t.k 1).ks X W X.env.scope c h3
    have hi := sndIt (tp := t.k 0) (ip := t.k 1) (tg := tg) c il.1 il.2 h2
    have fold : ∀ x, foldedSetIterable (embIt ib (embL g.nm es (t.k 1).ks) (t.k 1)) X.env x = pure x := by
      intro x
      cases ib with
      | seq =>
        cases es with
        | nil => rfl
        | cons e r => exact folded_emb e _ _ x
      | _ => rfl
    simp only [embS]
    exact ps_imp (ps_for c.po c.calm hi (sndT c tg (t.k 0) h1) (sndSs c hk b (t.k 2).ks h4) fold) fun D σ H q => for_read q
  | .raise k, t, h => by simp [chkS] at h
  | .dead k, t, h => ps_imp ps_never fun D σ H q => by
    obtain ⟨ms, ρ, s, en, ok, q⟩ := q
    simp only [EvS, evS] at q
    exact q
  | .brk, t, h => by
    simp only [embS]
    refine ps_imp ps_break fun D σ H q => ?_
    obtain ⟨ms, ρ, s, en, ok, q⟩ := q
    simp only [EvS, evS] at q
    exact q σ ms H .refl en ok
  | .pass, t, h => by
    simp only [embS]
    refine ps_imp ps_pass fun D σ H q => ?_
    obtain ⟨ms, ρ, s, en, ok, q⟩ := q
    simp only [EvS, evS] at q
    exact q σ ms H .refl en ok
theorem sndSs (c : Cxt g n g.nm.N X W X.env.scope) (hk : X.env.scope.kind = .function) {CN : Nat → Str} : ∀ (l : List Sm) (ts : List Tr), chkSs ⟨g.nm, CN⟩ X.env.scope l ts = true → PSs X (embSs ⟨g.nm, CN⟩ l ts) (TS_ g W (EvSs g n l))
  | [], ts, h => by
    simp only [embSs]
    refine pss_imp pss_nil fun D σ H q => ?_
    obtain ⟨ms, ρ, s, en, ok, q⟩ := q
    simp only [EvSs, evSs] at q
    exact q σ ms H .refl en ok
  | x :: l, ts, h => by
    simp only [chkSs] at h
    obtain ⟨h1, h2⟩ := andB h
    have i1 := sndS c hk x (ts.headD default) h1
    have i2 := sndSs c hk l ts.tail h2
    simp only [embSs]
    refine pss_imp (pss_cons i1 i2) fun D σ H q => ?_
    obtain ⟨ms, ρ, s, en, ok, q⟩ := q
    simp only [EvSs, evSs] at q
    refine ⟨ms, ρ, s, en, ok, ?_⟩
    show PostS _ _ _ _ _ _ (evS g.P.G (run g.P n) x ρ s)
    cases z : evS g.P.G (run g.P n) x ρ s with
    | ok f ρ' s' =>
      rw [z] at q
      cases f with
      | nx => exact fun σ' ms' H' n' en' ok' => ⟨ms', ρ', s', en', ok', PostS.nxt (r := evSs g.P.G (run g.P n) l ρ' s') q n'⟩
      | rt d => exact q
      | bk => exact q
    | exc k ρ' s' => rw [z] at q; exact q
    | bad => rw [z] at q; exact q
end
end
end Pi

set_option Elab.async false
set_option linter.all false
set_option maxRecDepth 100000
namespace Pi
open PySem PySem.Spec PyProof.Rows L2

/-- a def of the text: its name, its parameters, its local names, the places, the statement -/
structure FSrc where
  x : Str
  ps : List Str
  N : List Str
  ts : List Tr
  st : Stmt
def find {α : Type} (l : List (Nat × α)) (i : Nat) : Option α := match l with
  | [] => none
  | p :: r => if p.1 = i then some p.2 else find r i
def nmOf (xs : List (Nat × FSrc)) (gs : List (Nat × Str × D)) (N : List Str) : Nm where
  N := N
  FN := fun f => ((find xs f).map (·.x)).getD ""
  GN := fun i => ((find gs i).map (·.1)).getD ""
  fk := fun f => (find xs f).isSome
def progOf (fns : List (Nat × Fn)) (gs : List (Nat × Str × D)) : Prog := ⟨fun i => (find gs i).map (·.2), find fns⟩
def globOf (K : PySem.W.Frag) (xs : List (Nat × FSrc)) (fns : List (Nat × Fn)) (gs : List (Nat × Str × D)) (N : List Str) : Glob := ⟨⟨K, fun _ => none⟩, fun _ => none, progOf fns gs, nmOf xs gs N⟩
def cnOf (cs : List Str) : Nat → Str := fun i => cs.getD i ""
/-- a look at a def: its scope, its body -/
def fnC (xs : List (Nat × FSrc)) (gs : List (Nat × Str × D)) (cs : List Str) (s : FSrc) (F : Fn) : Bool :=
  decide (F.np = s.ps.length) && decide (F.nn = s.N.length) && decide (s.N.Nodup) && decide (s.N.take s.ps.length = s.ps) && ((defScope s.st).kind == .function) && !(defScope s.st).isCoroutine && !(defScope s.st).isGenerator &&
    (s.ps.all fun x => match (defScope s.st).names.lookup x with | some .local => true | some .cell => true | _ => false) && ((defScope s.st).names.all fun y => match y.2 with | .free => false | _ => true) &&
    chkSs ⟨nmOf xs gs s.N, cnOf cs⟩ (defScope s.st) F.body s.ts
/-- how arguments bind -/
def ArgsOk (st : Stmt) (ps : List Str) : Prop := ∀ (x qual : Str) (kV doc pm : Value) (an : Option Addr) (cdv ct : Value) (us : List Value), us.length = ps.length → bindArgs (PySem.W.fnOf x qual (defArgs st) (defBody st) (defScope st) .none kV doc pm an cdv ct) ⟨us, []⟩ = pure (ps.zip us)
/-- what the text tells of the def -/
structure SFact (xs : List (Nat × FSrc)) (gs : List (Nat × Str × D)) (cs : List Str) (s : FSrc) (F : Fn) : Prop where
  body : defBody s.st = embSs ⟨nmOf xs gs s.N, cnOf cs⟩ F.body s.ts
  ok : fnC xs gs cs s F = true
  args : ArgsOk s.st s.ps
/-- what is known of the def f -/
structure FFact (K : PySem.W.Frag) (mg : Str → Option Value) (xs : List (Nat × FSrc)) (gs : List (Nat × Str × D)) (cs : List Str) (s : FSrc) (F : Fn) : Prop where
  fn : ∃ a fd, Fun K s.x s.x s.st a fd ∧ mg s.x = some (.ref a)
  st : SFact xs gs cs s F
theorem fun_bind {K : PySem.W.Frag} {x qual : Str} {st : Stmt} {a : Addr} {fd : FuncData} {ps : List Str} (F : Fun K x qual st a fd) (h : ArgsOk st ps) (us : List Value) (hl : us.length = ps.length) : bindArgs fd ⟨us, []⟩ = pure (ps.zip us) := by
  obtain ⟨oc, od, kV, doc, pm, an, cdv, ct, osl, rfl, lk, hcd⟩ := F.ex
  exact h _ _ _ _ _ _ _ _ us hl
def FFacts (K : PySem.W.Frag) (mg : Str → Option Value) (xs : List (Nat × FSrc)) (gs : List (Nat × Str × D)) (cs : List Str) : List (Nat × FSrc) → List (Nat × Fn) → Prop
  | [], [] => True
  | x :: r, F :: q => (x.1 = F.1 ∧ FFact K mg xs gs cs x.2 F.2) ∧ FFacts K mg xs gs cs r q
  | _, _ => False
theorem FFacts.get {K : PySem.W.Frag} {mg : Str → Option Value} {xs : List (Nat × FSrc)} {gs : List (Nat × Str × D)} {cs : List Str} : ∀ {r : List (Nat × FSrc)} {q : List (Nat × Fn)}, FFacts K mg xs gs cs r q → ∀ {f : Nat} {F : Fn}, find q f = some F → ∃ s : FSrc, find r f = some s ∧ FFact K mg xs gs cs s F
  | [], [], _, f, F, e => by cases e
  | x :: r, G :: q, h, f, F, e => by
    obtain ⟨⟨h1, h3⟩, h4⟩ := h
    unfold find at e ⊢
    by_cases hc : G.1 = f
    · rw [if_pos hc] at e
      cases e
      rw [if_pos (h1.trans hc)]
      exact ⟨_, rfl, h3⟩
    · rw [if_neg hc] at e
      rw [if_neg fun z => hc (h1.symm.trans z)]
      exact FFacts.get h4 e
  | [], _ :: _, h, _, _, _ => h.elim
  | _ :: _, [], h, _, _, _ => h.elim
theorem FFacts.has {K : PySem.W.Frag} {mg : Str → Option Value} {xs : List (Nat × FSrc)} {gs : List (Nat × Str × D)} {cs : List Str} : ∀ {r : List (Nat × FSrc)} {q : List (Nat × Fn)}, FFacts K mg xs gs cs r q → ∀ {f : Nat}, (find r f).isSome = true → ∃ F, find q f = some F
  | [], [], _, f, e => by cases e
  | x :: r, G :: q, h, f, e => by
    obtain ⟨⟨h1, _⟩, h4⟩ := h
    unfold find at e ⊢
    by_cases hc : G.1 = f
    · rw [if_pos hc]
      exact ⟨_, rfl⟩
    · rw [if_neg hc]
      rw [if_neg fun z => hc (h1.symm.trans z)] at e
      exact FFacts.has h4 e
  | [], _ :: _, h, _, _ => h.elim
  | _ :: _, [], h, _, _ => h.elim
/-- a constant of the module -/
def GFact (K : PySem.W.Frag) (mg : Str → Option Value) (x : Str) (d : D) : Prop := ∃ u v, mg x = some u ∧ RelV v u ∧ ∀ (S : Sit) ms H, S.K = K → Rep S ms H d v
def GFacts (K : PySem.W.Frag) (mg : Str → Option Value) : List (Nat × Str × D) → Prop
  | [] => True
  | p :: r => GFact K mg p.2.1 p.2.2 ∧ GFacts K mg r
theorem GFacts.get {K : PySem.W.Frag} {mg : Str → Option Value} : ∀ {gs : List (Nat × Str × D)}, GFacts K mg gs → ∀ {i : Nat} {p : Str × D}, find gs i = some p → GFact K mg p.1 p.2
  | [], _, i, p, e => by cases e
  | q :: r, h, i, p, e => by
    unfold find at e
    split at e
    · cases e
      exact h.1
    · exact GFacts.get h.2 e
theorem gfact_int {K : PySem.W.Frag} {mg : Str → Option Value} {x : Str} {i : Int} {t : Nat} (h : mg x = some (.int i t)) : GFact K mg x (.int i) := ⟨_, .int i, h, ⟨t, rfl⟩, fun _ _ _ _ => rfl⟩
structure Facts (K : PySem.W.Frag) (mg : Str → Option Value) (xs : List (Nat × FSrc)) (fns : List (Nat × Fn)) (gs : List (Nat × Str × D)) (cs : List Str) : Prop where
  fns : FFacts K mg xs gs cs xs fns
  gs : GFacts K mg gs
  blt : ∀ x ∈ bnames, mg x = none

section
variable {P : Program} {w : World} {K : PySem.W.Frag} {mg : Str → Option Value} {base : Heap} {xs : List (Nat × FSrc)} {fns : List (Nat × Fn)} {gs : List (Nat × Str × D)} {cs : List Str}
theorem envOk_start {S : Sit} {ms : Wd} {H : Hp} : ∀ {ds : List D} {vs : List V}, RepL S ms H ds vs → ∀ k, EnvOk S ms H (ds.map some ++ List.replicate k none) (vs.map some ++ List.replicate k none)
  | [], vs, r, k => by
    cases r
    refine ⟨by simp, fun i d h => ?_⟩
    simp only [List.map_nil, List.nil_append, List.getElem?_replicate] at h
    split at h <;> cases h
  | d :: ds, _, r, k => by
    obtain ⟨v, q, rfl, rd, rl⟩ := r
    have ih := envOk_start rl k
    refine ⟨by simpa using ih.len, fun i d' h => ?_⟩
    cases i with
    | zero =>
      simp at h
      subst h
      exact ⟨v, rfl, rd⟩
    | succ i =>
      simp only [List.map_cons, List.cons_append, List.getElem?_cons_succ] at h ⊢
      exact ih.at_ i d' h
theorem facts_ok (h : Facts K mg xs fns gs cs) : ∀ (n f : Nat) (F : Fn), find fns f = some F → ∃ (a : Addr) (fd : FuncData) (ps : List Str), (∀ base : Heap, FnOk P w K mg base (L2.CX P w) n a fd ps (spD (globOf K xs fns gs []) (run (progOf fns gs) n f) F.np)) ∧
    mg ((nmOf xs gs []).FN f) = some (.ref a) ∧ PySem.W.keepIn K (.ref a) = true ∧ (∀ us : List Value, us.length = ps.length → bindArgs fd ⟨us, []⟩ = pure (ps.zip us)) ∧ ps.length = F.np ∧ ∃ s : FSrc, find xs f = some s ∧ s.ps = ps ∧ mg s.x = some (.ref a)
  | n, f, F, e => by
    obtain ⟨s, es, ff⟩ := h.fns.get e
    obtain ⟨a, fd, fn, hm⟩ := ff.fn
    have hb := fun_bind fn ff.st.args
    have ok := ff.st.ok
    unfold fnC at ok
    simp only [Bool.and_eq_true, decide_eq_true_eq] at ok
    obtain ⟨⟨⟨⟨⟨⟨⟨⟨⟨k1, k2⟩, k3⟩, k4⟩, k5⟩, k6⟩, k7⟩, k8⟩, k9⟩, k10⟩ := ok
    have hx : (nmOf xs gs []).FN f = s.x := by simp [nmOf, es]
    refine ⟨a, fd, s.ps, fun base => ?_, by rw [hx]; exact hm, fn.kp, hb, k1.symm, s, es, rfl, hm⟩
    cases n with
    | zero => exact ⟨fun vs H Q E q => by rw [q.1, k1], fun A outer st H args us vs Q E _ _ _ _ q => by
        obtain ⟨_, ms, ds, s', _, _, q⟩ := q
        exact q.elim⟩
    | succ n =>
      have kind : (defScope s.st).kind = .function := by simpa using k5
      have par : ∀ x ∈ s.ps, (defScope s.st).names.lookup x = some .local ∨ (defScope s.st).names.lookup x = some .cell := fun x hx => by
        have z := List.all_eq_true.mp k8 x hx
        split at z
        · exact .inl (by assumption)
        · exact .inr (by assumption)
        · cases z
      have nofree : ∀ y ∈ (defScope s.st).names, y.2 ≠ .free := fun y hy => by
        have z := List.all_eq_true.mp k9 y hy
        intro e
        rw [e] at z
        cases z
      have S : FnScope s.N s.ps (defScope s.st) := ⟨kind, by simpa using k6, by simpa using k7, k3, k4, par, nofree⟩
      refine fn.okX S (fun vs H Q E q => by rw [q.1, k1]) fun cdv A outer st H vs Q E hr hsp => ?_
      obtain ⟨hl, ms, ds, s0, rl, o, q⟩ := hsp
      rw [ff.st.body]
      have C : Cxt (globOf K xs fns gs s.N) n s.N (cxOf (L2.CX P w) P w K mg base s.N s.x (defScope s.st) a cdv A outer st H E) (fun cls d _ H => E cls d H) (defScope s.st) := by
        refine ⟨takes_of rfl rfl rfl rfl, passes_of rfl, rfl, k3, rfl, ?_, fun x hx => ⟨?_, .inl rfl⟩, rfl, h.blt, fun f' hf => ?_, fun f' F' e' => ?_, fun i d hd => ?_⟩
        · have := hr.un
          show (A.deeper _).units + 65 < cLine
          omega
        · unfold stB at hx
          split at hx
          · exact .inl (by assumption)
          · exact .inr (by assumption)
          · cases hx
        · exact h.fns.has hf
        · obtain ⟨a', fd', ps', F1, m1, kp1, b1, l1, _⟩ := facts_ok h n f' F' e'
          exact ⟨n, a', fd', ps', F1 base, hr, m1, kp1, .all b1, l1⟩
        · have hd' : (find gs i).map (·.2) = some d := hd
          obtain ⟨p, ep, rfl⟩ := Option.map_eq_some_iff.mp hd'
          obtain ⟨u, v, m1, r1, rep⟩ := h.gs.get ep
          refine ⟨u, v, ?_, r1, fun ms H => rep _ ms H rfl⟩
          show mg (((find gs i).map (·.1)).getD "") = some u
          rw [ep]
          exact m1
      refine ⟨_, sndSs C kind F.body s.ts k10, ms, ds.map some ++ List.replicate (F.nn - F.np) none, s0, ?_, o, ?_⟩
      · unfold L2.start
        rw [hl, k2]
        exact envOk_start rl _
      · have hF : (progOf fns gs).F f = some F := e
        have hP : (globOf K xs fns gs []).P = progOf fns gs := rfl
        simp only [run, hF, runFn] at q
        rw [rl.length, if_pos hl] at q
        show PostS _ _ _ _ _ _ (evSs (progOf fns gs).G (run (progOf fns gs) n) F.body (ds.map some ++ List.replicate (F.nn - F.np) none) s0)
        cases z : evSs (progOf fns gs).G (run (progOf fns gs) n) F.body (ds.map some ++ List.replicate (F.nn - F.np) none) s0 with
        | ok fl ρ' s' =>
          rw [z] at q
          cases fl with
          | nx => exact fun σ' ms' H' n' _ o' => q .non ms' H' n' o' rfl
          | rt d => exact q
          | bk => exact q.elim
        | exc k ρ' s' =>
          rw [z] at q
          exact fun cls dx σ' ms' H' n' _ o' x => q cls dx ms' H' n' o' x
        | bad => rw [z] at q; exact q.elim
termination_by n => n

theorem repL_ints (S : Sit) (ms : Wd) (H : Hp) : ∀ (r : List Int), RepL S ms H (r.map .int) (r.map V.int)
  | [] => rfl
  | y :: r => ⟨_, _, rfl, rfl, repL_ints S ms H r⟩
theorem stOk_nil {S : Sit} {H : Hp} : StOk S ⟨[], []⟩ H [] where
  len := rfl
  nd := List.nodup_nil
  hidden := fun a h => by cases h
  cell := fun n xs e => by simp at e
/-- the law's promise -/
abbrev spLaw (K : PySem.W.Frag) (xs : List (Nat × FSrc)) (fns : List (Nat × Fn)) (gs : List (Nat × Str × D)) (n f : Nat) : Sp := spD (globOf K xs fns gs []) (run (progOf fns gs) n f) 1
theorem law_sp {n f m : Nat} (hlaw : ∀ ns : List Int, ns.length ≤ m → ∃ s, run (progOf fns gs) n f [.klst (ns.map .int)] [] = .ok (.bl true) s) (H : Hp) (a : Addr) (ns : List Int) (hl : ns.length ≤ m) (hO : Only H) (hS : SqL K H a (ns.map V.int)) :
    spLaw K xs fns gs n f [.ref a] H (fun v _ => v = .bl true) fun _ _ _ => False := by
  refine ⟨rfl, ⟨[], []⟩, [.klst (ns.map .int)], [], ⟨_, [], rfl, ⟨a, ns.map V.int, rfl, ?_, ?_⟩, rfl⟩, stOk_nil, ?_⟩
  · rcases hS with (q | q) | q
    · rcases hO a with z | ⟨o, xs, z⟩
      · rw [q] at z; cases z
      · rw [q] at z; cases z
    · exact .inl q
    · exact .inr q
  · exact repL_ints _ _ _ ns
  · obtain ⟨s, e⟩ := hlaw ns hl
    have e' : run (globOf K xs fns gs []).P n f [.klst (ns.map .int)] [] = .ok (.bl true) s := e
    show PostD _ _ _ _ _ _ (run (progOf fns gs) n f [.klst (ns.map .int)] [])
    rw [e]
    exact fun v ms' H' _ _ r => r
theorem law_fn {l : PySem.W.OpenLaw} {fa : Addr} {n f : Nat} {s : FSrc} {F : Fn} (es : find xs f = some s) (ef : find fns f = some F) (hfa : mg s.x = some (.ref fa)) (hps : s.ps = [(("script" : Str))]) (hnp : F.np = 1) (hF : Facts K mg xs fns gs cs) :
    ∃ fd : FuncData, (∀ (st : Shared) (u : Value), BindsTo st fd ⟨[u], []⟩ [("script", u)]) ∧ ∀ base : Heap, K.In base → base.Ns mainGlobals mg → FnOk l.prog w K mg base (L2.CX l.prog w) n fa fd [("script" : Str)] (spLaw K xs fns gs n f) := by
  obtain ⟨a, fd, ps, ok, _, _, hb, _, s', es', eps, hm⟩ := facts_ok (P := l.prog) (w := w) hF n f F ef
  rw [es] at es'
  cases es'
  rw [hm] at hfa
  cases hfa
  rw [hps] at eps
  subst eps
  rw [hnp] at ok
  exact ⟨fd, fun st u => .of_eq (hb [u] rfl), fun base _ _ => ok base⟩
theorem law_cx {P : Program} {w : World} {H : Hp} {s : Shared} {e : Value} {s' : Shared} (h : L2.CX P w [] H s (fun _ _ _ => False) e s') : False := by
  obtain ⟨_, _, _, _, _, _, _, _, _, _, _, _, z⟩ := h
  exact z
end
end Pi

set_option Elab.async false
set_option linter.all false
set_option maxRecDepth 100000
namespace Pi
open PySem
abbrev p3 (l c d : Nat) : Pos := ⟨l, c, l, d⟩
abbrev p4 (l c e d : Nat) : Pos := ⟨l, c, e, d⟩
abbrev Tr.a (p : Pos) : Tr := .nd p ⟨0, 0, 0, 0⟩ sc0 []
abbrev Tr.b (p : Pos) (ks : List Tr) : Tr := .nd p ⟨0, 0, 0, 0⟩ sc0 ks
abbrev Tr.c (p q : Pos) (ks : List Tr) : Tr := .nd p q sc0 ks
end Pi
namespace Pi
open PySem PySem.Spec PyProof.Rows L2
theorem gfact_tup {K : PySem.W.Frag} {mg : Str → Option Value} {x : Str} {a : Addr} {o : Obj} {its : Array Value} {n : Nat} {ds : List D} {vs : List V} (h : mg x = some (.ref a)) (l : K.lookup a = some o) (hc : o.cls = .type "tuple") (hd : o.data = .seq its n) (hz : its.size ≤ sizeLine) (hv : Vals vs its.toList)
    (hr : ∀ (S : Sit) ms H, RepL S ms H ds vs) : GFact K mg x (.tup ds) :=
  ⟨.ref a, .ref a, h, rfl, fun S ms H e => ⟨a, vs, rfl, .inr ⟨o, its, n, by rw [e]; exact l, hc, hd, hz, hv⟩, hr S ms H⟩⟩
theorem blt_all {mg : Str → Option Value} (h0 : mg "abs" = none) (h1 : mg "len" = none) (h2 : mg "int" = none) (h3 : mg "tuple" = none) (h4 : mg "list" = none) (h5 : mg "sum" = none) (h6 : mg "all" = none) (h7 : mg "any" = none) (h8 : mg "max" = none) (h9 : mg "min" = none) (h10 : mg "isinstance" = none) (h11 : mg "range" = none) (h12 : mg "zip" = none) (h13 : mg "enumerate" = none) (h14 : mg "bool" = none) (h15 : mg "str" = none) :
    ∀ x ∈ bnames, mg x = none := by
  intro x hx
  simp only [bnames, List.mem_cons, List.not_mem_nil, or_false] at hx
  rcases hx with rfl | rfl | rfl | rfl | rfl | rfl | rfl | rfl | rfl | rfl | rfl | rfl | rfl | rfl | rfl | rfl <;> assumption
theorem ffact_mk {K : PySem.W.Frag} {h : Heap} {mg : Str → Option Value} {xs : List (Nat × FSrc)} {gs : List (Nat × Str × D)} {cs : List Str} {s : FSrc} {F : Fn} (X : K.In h) (G : h.Ns mainGlobals mg) {f : Addr} {oc : Value} {od an : Option Addr} {osl : Array (Option Value)} {kV doc pm cdv ct : Value}
    (S : SFact xs gs cs s F) (a : PySem.W.nsIn K mainGlobals s.x = some (some (.ref f))) (l : K.lookup f = some ⟨oc, od, .func (PySem.W.fnOf s.x s.x (defArgs s.st) (defBody s.st) (defScope s.st) .none kV doc pm an cdv ct), osl⟩) (c : PySem.W.codeIn K cdv s.x = true) (k : PySem.W.keepIn K (.ref f) = true) : FFact K mg xs gs cs s F :=
  ⟨⟨f, _, fun_mk l c k, PySem.W.mg_of X G a⟩, S⟩
end Pi

namespace Pl
open Pi PySem
/-- 101 common -/
def B_common : List Sm := [.par [0, 1] [.blt false .abs [.var 0], .blt false .abs [.var 1]], .whl (.cmp .gt (.var 1) (.int 0)) [.par [0, 1] [.var 1, .bin false .mod (.blt false .int [.var 0]) (.var 1)]], .ret (.var 0)]
def F_common : Fn := ⟨2, 2, B_common⟩
/-- 102 fraction -/
def B_fraction : List Sm := [.ite (.cmp .eq (.var 1) (.int 0)) [.dead 0] [], .ite (.cmp .lt (.var 1) (.int 0)) [.par [0, 1] [.neg (.var 0), .neg (.var 1)]] [], .set 2 (.call 101 [.var 0, .var 1]), .ret (.tup [.bin false .fdiv (.var 0) (.var 2), .bin false .fdiv (.var 1) (.var 2)])]
def F_fraction : Fn := ⟨2, 3, B_fraction⟩
/-- 103 over -/
def B_over : List Sm := [.ret (.call 102 [.bin false .mul (.idx (.var 0) (.int 0)) (.idx (.var 1) (.int 1)), .bin false .mul (.idx (.var 0) (.int 1)) (.idx (.var 1) (.int 0))])]
def F_over : Fn := ⟨2, 2, B_over⟩
/-- 104 lowest -/
def B_lowest : List Sm := [.set 1 (.int 0), .for_ (.n 2) .seq [.var 0] [.set 1 (.call 101 [.var 1, .var 2])], .ite (.cmp .eq (.var 1) (.int 0)) [.ret (.blt false .tuple [.var 0])] [], .set 3 (.idx (.comp false (.var 2) (.n 2) .seq [.var 0] [.cmp .ne (.var 2) (.int 0)]) (.neg (.int 1))), .set 1 (.ite (.cmp .lt (.var 3) (.int 0)) (.neg (.var 1)) (.var 1)), .ret (.blt false .tuple [.comp false (.bin false .fdiv (.var 2) (.var 1)) (.n 2) .seq [.var 0] []])]
def F_lowest : Fn := ⟨1, 4, B_lowest⟩
/-- 105 whole -/
def B_whole : List Sm := [.set 1 (.int 1), .for_ (.n 2) .seq [.var 0] [.set 1 (.bin false .mul (.bin false .fdiv (.var 1) (.call 101 [.var 1, .idx (.var 2) (.int 1)])) (.idx (.var 2) (.int 1)))], .ret (.call 104 [.comp false (.bin false .mul (.idx (.var 2) (.int 0)) (.bin false .fdiv (.var 1) (.idx (.var 2) (.int 1)))) (.n 2) .seq [.var 0] []])]
def F_whole : Fn := ⟨1, 3, B_whole⟩
/-- 106 plus -/
def B_plus : List Sm := [.ret (.call 102 [.bin false .add (.bin false .mul (.idx (.var 0) (.int 0)) (.idx (.var 1) (.int 1))) (.bin false .mul (.idx (.var 1) (.int 0)) (.idx (.var 0) (.int 1))), .bin false .mul (.idx (.var 0) (.int 1)) (.idx (.var 1) (.int 1))])]
def F_plus : Fn := ⟨2, 2, B_plus⟩
/-- 115 root -/
def B_root : List Sm := [.ite (.cmp .lt (.var 0) (.int 0)) [.ret (.non)] [], .par [1, 2] [.int 0, .bin false .add (.var 0) (.int 1)], .whl (.cmp .gt (.bin false .sub (.var 2) (.var 1)) (.int 1)) [.set 3 (.bin false .fdiv (.bin false .add (.var 1) (.var 2)) (.int 2)), .ite (.cmp .le (.bin false .mul (.var 3) (.var 3)) (.var 0)) [.set 1 (.var 3)] [.set 2 (.var 3)]], .ret (.ite (.cmp .eq (.bin false .mul (.var 1) (.var 1)) (.var 0)) (.var 1) (.non))]
def F_root : Fn := ⟨1, 4, B_root⟩
/-- 116 minus -/
def B_minus : List Sm := [.ret (.call 102 [.bin false .sub (.bin false .mul (.idx (.var 0) (.int 0)) (.idx (.var 1) (.int 1))) (.bin false .mul (.idx (.var 1) (.int 0)) (.idx (.var 0) (.int 1))), .bin false .mul (.idx (.var 0) (.int 1)) (.idx (.var 1) (.int 1))])]
def F_minus : Fn := ⟨2, 2, B_minus⟩
/-- 117 times -/
def B_times : List Sm := [.ret (.call 102 [.bin false .mul (.idx (.var 0) (.int 0)) (.idx (.var 1) (.int 0)), .bin false .mul (.idx (.var 0) (.int 1)) (.idx (.var 1) (.int 1))])]
def F_times : Fn := ⟨2, 2, B_times⟩
/-- 120 fraction_root -/
def B_fraction_root : List Sm := [.par [1, 2] [.call 115 [.idx (.var 0) (.int 0)], .call 115 [.idx (.var 0) (.int 1)]], .ret (.ite (.or [.isn false (.var 1), .isn false (.var 2)]) (.non) (.tup [.var 1, .var 2]))]
def F_fraction_root : Fn := ⟨1, 3, B_fraction_root⟩
/-- 133 is_integer -/
def B_is_integer : List Sm := [.ret (.and [.inst (.var 0) [.int], .not (.inst (.var 0) [.bool])])]
def F_is_integer : Fn := ⟨1, 1, B_is_integer⟩
/-- 134 are_integers -/
def B_are_integers : List Sm := [.ret (.and [.inst (.var 0) [.tuple], .cmp .eq (.blt false .len [.var 0]) (.var 1), .blt false .all [.comp false (.call 133 [.var 2]) (.n 2) .seq [.var 0] []]])]
def F_are_integers : Fn := ⟨2, 3, B_are_integers⟩
/-- 135 check_point -/
def B_check_point : List Sm := [.ite (.or [.not (.call 134 [.var 0, .int 3]), .cmp .eq (.var 0) (.tup [.int 0, .int 0, .int 0]), .cmp .ne (.call 104 [.var 0]) (.var 0)]) [.dead 1] []]
def F_check_point : Fn := ⟨1, 1, B_check_point⟩
/-- 139 is_fraction -/
def B_is_fraction : List Sm := [.ite (.or [.not (.inst (.var 0) [.tuple]), .cmp .ne (.blt false .len [.var 0]) (.int 2), .not (.blt false .all [.comp false (.call 133 [.var 1]) (.n 1) .seq [.var 0] []])]) [.ret (.bl false)] [], .ret (.and [.cmp .gt (.idx (.var 0) (.int 1)) (.int 0), .cmp .eq (.call 101 [.idx (.var 0) (.int 0), .idx (.var 0) (.int 1)]) (.int 1)])]
def F_is_fraction : Fn := ⟨1, 2, B_is_fraction⟩
/-- 140 are_fractions -/
def B_are_fractions : List Sm := [.ret (.and [.inst (.var 0) [.tuple], .cmp .eq (.blt false .len [.var 0]) (.var 1), .blt false .all [.comp false (.call 139 [.var 2]) (.n 2) .seq [.var 0] []]])]
def F_are_fractions : Fn := ⟨2, 3, B_are_fractions⟩
/-- 141 at -/
def B_at : List Sm := [.ite (.not (.call 140 [.tup [.var 0, .var 1], .int 2])) [.dead 1] [], .ret (.call 105 [.tup [.var 0, .var 1, .tup [.int 1, .int 1]]])]
def F_at : Fn := ⟨2, 2, B_at⟩
/-- 142 places -/
def B_places : List Sm := [.ex (.call 135 [.var 0]), .ite (.cmp .eq (.idx (.var 0) (.int 2)) (.int 0)) [.dead 4] [], .ret (.tup [.call 102 [.idx (.var 0) (.int 0), .idx (.var 0) (.int 2)], .call 102 [.idx (.var 0) (.int 1), .idx (.var 0) (.int 2)]])]
def F_places : Fn := ⟨1, 1, B_places⟩
/-- 160 square_between -/
def B_square_between : List Sm := [.par [2, 3] [.call 142 [.var 0], .call 142 [.var 1]], .par [4, 5] [.call 116 [.idx (.var 2) (.int 0), .idx (.var 3) (.int 0)], .call 116 [.idx (.var 2) (.int 1), .idx (.var 3) (.int 1)]], .ret (.call 106 [.call 117 [.var 4, .var 4], .call 117 [.var 5, .var 5]])]
def F_square_between : Fn := ⟨2, 6, B_square_between⟩
/-- 251 first_above -/
def B_first_above : List Sm := [.set 1 (.call 104 [.var 0]), .ret (.ite (.cmp .lt (.idx (.var 1) (.int 0)) (.int 0)) (.blt false .tuple [.comp false (.neg (.var 2)) (.n 2) .seq [.var 1] []]) (.var 1))]
def F_first_above : Fn := ⟨1, 3, B_first_above⟩
/-- 252 around -/
def B_around : List Sm := [.set 2 (.call 142 [.var 0]), .ite (.or [.not (.call 139 [.var 1]), .cmp .le (.idx (.var 1) (.int 0)) (.int 0)]) [.dead 7] [], .set 3 (.call 116 [.call 106 [.call 117 [.idx (.var 2) (.int 0), .idx (.var 2) (.int 0)], .call 117 [.idx (.var 2) (.int 1), .idx (.var 2) (.int 1)]], .var 1]), .set 4 (.call 105 [.tup [.tup [.int 1, .int 1], .call 117 [.tup [.neg (.int 2), .int 1], .idx (.var 2) (.int 0)], .call 117 [.tup [.neg (.int 2), .int 1], .idx (.var 2) (.int 1)], .var 3]]), .ret (.call 251 [.var 4])]
def F_around : Fn := ⟨2, 5, B_around⟩
/-- 253 squares_row -/
def B_squares_row : List Sm := [.ret (.tup [.bin false .add (.bin false .mul (.idx (.var 0) (.int 0)) (.idx (.var 0) (.int 0))) (.bin false .mul (.idx (.var 0) (.int 1)) (.idx (.var 0) (.int 1))), .bin false .mul (.idx (.var 0) (.int 0)) (.idx (.var 0) (.int 2)), .bin false .mul (.idx (.var 0) (.int 1)) (.idx (.var 0) (.int 2)), .bin false .mul (.idx (.var 0) (.int 2)) (.idx (.var 0) (.int 2))])]
def F_squares_row : Fn := ⟨1, 1, B_squares_row⟩
/-- 255 is_low -/
def B_is_low : List Sm := [.set 1 (.call 104 [.var 0]), .ret (.or [.cmp .eq (.var 1) (.var 0), .cmp .eq (.blt false .tuple [.comp false (.neg (.var 2)) (.n 2) .seq [.var 1] []]) (.var 0)])]
def F_is_low : Fn := ⟨1, 3, B_is_low⟩
/-- 256 is_circle -/
def B_is_circle : List Sm := [.ite (.or [.not (.call 134 [.var 0, .int 4]), .cmp .le (.idx (.var 0) (.int 0)) (.int 0), .not (.call 255 [.var 0])]) [.ret (.bl false)] [], .ret (.cmp .gt (.bin false .sub (.bin false .add (.bin false .mul (.idx (.var 0) (.int 1)) (.idx (.var 0) (.int 1))) (.bin false .mul (.idx (.var 0) (.int 2)) (.idx (.var 0) (.int 2)))) (.bin false .mul (.bin false .mul (.int 4) (.idx (.var 0) (.int 0))) (.idx (.var 0) (.int 3)))) (.int 0))]
def F_is_circle : Fn := ⟨1, 1, B_is_circle⟩
/-- 257 check_circle -/
def B_check_circle : List Sm := [.ite (.not (.call 256 [.var 0])) [.dead 7] []]
def F_check_circle : Fn := ⟨1, 1, B_check_circle⟩
/-- 258 power -/
def B_power : List Sm := [.ex (.call 257 [.var 0]), .ex (.call 135 [.var 1]), .ite (.cmp .eq (.idx (.var 1) (.int 2)) (.int 0)) [.dead 4] [], .set 2 (.call 253 [.var 1]), .ret (.call 102 [.blt false .sum [.comp false (.bin false .mul (.var 3) (.var 4)) (.t [.n 3, .n 4]) .zip [.var 0, .var 2] []], .bin false .mul (.bin false .mul (.idx (.var 0) (.int 0)) (.idx (.var 1) (.int 2))) (.idx (.var 1) (.int 2))])]
def F_power : Fn := ⟨2, 5, B_power⟩
/-- 260 square_of -/
def B_square_of : List Sm := [.ex (.call 257 [.var 0]), .ret (.call 102 [.bin false .sub (.bin false .add (.bin false .mul (.idx (.var 0) (.int 1)) (.idx (.var 0) (.int 1))) (.bin false .mul (.idx (.var 0) (.int 2)) (.idx (.var 0) (.int 2)))) (.bin false .mul (.bin false .mul (.int 4) (.idx (.var 0) (.int 0))) (.idx (.var 0) (.int 3))), .bin false .mul (.bin false .mul (.int 4) (.idx (.var 0) (.int 0))) (.idx (.var 0) (.int 0))])]
def F_square_of : Fn := ⟨1, 1, B_square_of⟩
/-- 262 middle_of -/
def B_middle_of : List Sm := [.ex (.call 257 [.var 0]), .ret (.call 141 [.call 102 [.neg (.idx (.var 0) (.int 1)), .bin false .mul (.int 2) (.idx (.var 0) (.int 0))], .call 102 [.neg (.idx (.var 0) (.int 2)), .bin false .mul (.int 2) (.idx (.var 0) (.int 0))]])]
def F_middle_of : Fn := ⟨1, 1, B_middle_of⟩
/-- 294 is_on_v2 -/
def B_is_on_v2 : List Sm := [.ret (.cmp .eq (.idx (.call 258 [.var 0, .var 1]) (.int 0)) (.int 0))]
def F_is_on_v2 : Fn := ⟨2, 2, B_is_on_v2⟩
/-- 488 _law_hand_v52 -/
def B__law_hand_v52 : List Sm := [.set 1 (.comp false (.blt false .abs [.blt false .int [.var 2]]) (.n 2) .seq [.slice false (.var 0) [] [.int 63]] []), .ret (.lst true [.var 1, .int 0, .int 0, .bin false .add (.int 97) (.bin false .mul (.int 13) (.blt false .len [.var 1])), .int 0])]
def F__law_hand_v52 : Fn := ⟨1, 3, B__law_hand_v52⟩
/-- 489 _law_draw_v4 -/
def B__law_draw_v4 : List Sm := [.ite (.and [.cmp .eq (.idx (.var 0) (.int 2)) (.int 0), .cmp .lt (.idx (.var 0) (.int 1)) (.blt false .len [.idx (.var 0) (.int 0)])]) [.set 2 (.idx (.idx (.var 0) (.int 0)) (.idx (.var 0) (.int 1))), .sub (.var 0) (.int 1) (.bin false .add (.idx (.var 0) (.int 1)) (.int 1)), .sub (.var 0) (.int 3) (.bin false .mod (.blt false .int [.bin false .add (.bin false .add (.bin false .mul (.idx (.var 0) (.int 3)) (.int 69621)) (.bin false .mul (.var 2) (.int 40692))) (.int 31)]) (.int 2147483629)), .ite (.cmp .ge (.var 2) (.bin false .pow (.int 10) (.int 18))) [.sub (.var 0) (.int 2) (.var 2)] []] [], .ite (.cmp .gt (.idx (.var 0) (.int 2)) (.int 0)) [.set 3 (.bin false .mod (.blt false .int [.idx (.var 0) (.int 2)]) (.var 1)), .sub (.var 0) (.int 2) (.bin false .fdiv (.idx (.var 0) (.int 2)) (.var 1)), .ret (.var 3)] [], .sub (.var 0) (.int 4) (.bin false .add (.idx (.var 0) (.int 4)) (.int 1)), .set 4 (.bin false .mod (.blt false .int [.bin false .mul (.blt false .int [.bin false .add (.idx (.var 0) (.int 3)) (.bin false .mul (.int 7919) (.idx (.var 0) (.int 4)))]) (.int 48271)]) (.int 2147483647)), .set 4 (.bin false .mod (.blt false .int [.bin false .mul (.var 4) (.bin false .add (.bin false .fdiv (.var 4) (.int 1009)) (.int 69621))]) (.int 2147483647)), .set 4 (.bin false .mod (.blt false .int [.bin false .mul (.var 4) (.bin false .add (.bin false .fdiv (.var 4) (.int 2003)) (.int 40014))]) (.int 2147483563)), .ret (.bin false .mod (.blt false .int [.bin false .fdiv (.var 4) (.int 16)]) (.var 1))]
def F__law_draw_v4 : Fn := ⟨2, 5, B__law_draw_v4⟩
/-- 504 _law_is_v3 -/
def B__law_is_v3 : List Sm := [.ite (.or [.isn false (.var 1), .isn false (.var 0)]) [.ret (.and [.isn false (.var 1), .isn false (.var 0)])] [], .ite (.or [.inst (.var 1) [.tuple], .inst (.var 1) [.list]]) [.ite (.cmp .ne (.inst (.var 0) [.tuple]) (.inst (.var 1) [.tuple])) [.ret (.bl false)] [], .ite (.cmp .ne (.inst (.var 0) [.list]) (.inst (.var 1) [.list])) [.ret (.bl false)] [], .ret (.and [.cmp .eq (.blt false .len [.var 0]) (.blt false .len [.var 1]), .blt false .all [.comp false (.call 504 [.var 2, .var 3]) (.t [.n 2, .n 3]) .zip [.var 0, .var 1] []]])] [], .ite (.or [.cmp .ne (.inst (.var 0) [.bool]) (.inst (.var 1) [.bool]), .cmp .ne (.inst (.var 0) [.int]) (.inst (.var 1) [.int])]) [.ret (.bl false)] [], .ret (.and [.cmp .eq (.inst (.var 0) [.str]) (.inst (.var 1) [.str]), .cmp .eq (.var 0) (.var 1)])]
def F__law_is_v3 : Fn := ⟨2, 4, B__law_is_v3⟩
/-- 505 _law_any_v4 -/
def B__law_any_v4 : List Sm := [.ret (.idx (.var 1) (.call 489 [.var 0, .blt false .len [.var 1]]))]
def F__law_any_v4 : Fn := ⟨2, 2, B__law_any_v4⟩
/-- 507 width_of -/
def B_width_of : List Sm := [.ret (.call 120 [.call 260 [.var 0]])]
def F_width_of : Fn := ⟨1, 1, B_width_of⟩
/-- 508 check_width -/
def B_check_width : List Sm := [.set 1 (.call 507 [.var 0]), .ite (.isn false (.var 1)) [.dead 9] [], .ret (.var 1)]
def F_check_width : Fn := ⟨1, 2, B_check_width⟩
/-- 510 touch_sort -/
def B_touch_sort : List Sm := [.ex (.call 257 [.var 0]), .ex (.call 257 [.var 1]), .ite (.cmp .eq (.var 0) (.var 1)) [.ret (.str "same")] [], .set 2 (.call 160 [.call 262 [.var 0], .call 262 [.var 1]]), .par [3, 4] [.call 260 [.var 0], .call 260 [.var 1]], .set 5 (.call 116 [.call 116 [.var 2, .var 3], .var 4]), .set 6 (.call 116 [.call 117 [.var 5, .var 5], .call 117 [.tup [.int 4, .int 1], .call 117 [.var 3, .var 4]]]), .ite (.cmp .lt (.idx (.var 6) (.int 0)) (.int 0)) [.ret (.str "crossing")] [], .ite (.cmp .eq (.idx (.var 6) (.int 0)) (.int 0)) [.ret (.ite (.cmp .gt (.idx (.var 5) (.int 0)) (.int 0)) (.str "touching outside") (.str "touching inside"))] [], .ret (.ite (.cmp .gt (.idx (.var 5) (.int 0)) (.int 0)) (.str "outside") (.str "inside"))]
def F_touch_sort : Fn := ⟨2, 7, B_touch_sort⟩
/-- 511 three_closes -/
def B_three_closes : List Sm := [.ret (.cmp .eq (.call 116 [.call 117 [.var 0, .var 0], .call 117 [.tup [.int 2, .int 1], .call 117 [.var 0, .var 1]]]) (.var 2))]
def F_three_closes : Fn := ⟨3, 3, B_three_closes⟩
/-- 512 four_closes -/
def B_four_closes : List Sm := [.par [3, 4] [.call 106 [.call 117 [.var 0, .var 0], .var 2], .call 116 [.call 117 [.var 0, .var 0], .var 2]], .ret (.cmp .eq (.call 117 [.tup [.int 2, .int 1], .call 117 [.call 117 [.var 1, .var 1], .var 3]]) (.call 117 [.var 4, .var 4]))]
def F_four_closes : Fn := ⟨3, 5, B_four_closes⟩
/-- 513 _law_low_v4 -/
def B__law_low_v4 : List Sm := [.par [2, 3] [.blt false .abs [.var 0], .blt false .abs [.var 1]], .whl (.cmp .gt (.var 3) (.int 0)) [.par [2, 3] [.var 3, .bin false .mod (.blt false .int [.var 2]) (.var 3)]], .set 4 (.ite (.cmp .gt (.var 1) (.int 0)) (.int 1) (.neg (.int 1))), .ret (.tup [.bin false .fdiv (.bin false .mul (.var 4) (.var 0)) (.var 2), .bin false .fdiv (.bin false .mul (.var 4) (.var 1)) (.var 2)])]
def F__law_low_v4 : Fn := ⟨2, 5, B__law_low_v4⟩
/-- 514 _law_times_v3 -/
def B__law_times_v3 : List Sm := [.ret (.call 513 [.bin false .mul (.idx (.var 0) (.int 0)) (.idx (.var 1) (.int 0)), .bin false .mul (.idx (.var 0) (.int 1)) (.idx (.var 1) (.int 1))])]
def F__law_times_v3 : Fn := ⟨2, 2, B__law_times_v3⟩
/-- 515 _law_grown -/
def B__law_grown : List Sm := [.unp (.t [.n 2, .n 3, .n 4]) (.var 0), .ret (.tup [.call 514 [.var 2, .var 1], .call 514 [.var 3, .var 1], .call 514 [.var 4, .call 514 [.var 1, .var 1]]])]
def F__law_grown : Fn := ⟨2, 5, B__law_grown⟩
/-- 516 _law_less_v2 -/
def B__law_less_v2 : List Sm := [.ret (.call 513 [.bin false .sub (.bin false .mul (.idx (.var 0) (.int 0)) (.idx (.var 1) (.int 1))) (.bin false .mul (.idx (.var 1) (.int 0)) (.idx (.var 0) (.int 1))), .bin false .mul (.idx (.var 0) (.int 1)) (.idx (.var 1) (.int 1))])]
def F__law_less_v2 : Fn := ⟨2, 2, B__law_less_v2⟩
/-- 517 _law_three_v3 -/
def B__law_three_v3 : List Sm := [.unp (.t [.n 1, .n 2, .n 3]) (.var 0), .ret (.cmp .eq (.call 514 [.var 1, .call 516 [.var 1, .call 514 [.tup [.int 2, .int 1], .var 2]]]) (.var 3))]
def F__law_three_v3 : Fn := ⟨1, 4, B__law_three_v3⟩
/-- 518 _law_plus_v2 -/
def B__law_plus_v2 : List Sm := [.ret (.call 513 [.bin false .add (.bin false .mul (.idx (.var 0) (.int 0)) (.idx (.var 1) (.int 1))) (.bin false .mul (.idx (.var 1) (.int 0)) (.idx (.var 0) (.int 1))), .bin false .mul (.idx (.var 0) (.int 1)) (.idx (.var 1) (.int 1))])]
def F__law_plus_v2 : Fn := ⟨2, 2, B__law_plus_v2⟩
/-- 519 _law_four_v3 -/
def B__law_four_v3 : List Sm := [.unp (.t [.n 1, .n 2, .n 3]) (.var 0), .par [4, 5] [.call 514 [.var 1, .var 1], .call 514 [.var 2, .var 2]], .set 6 (.call 514 [.call 514 [.tup [.int 2, .int 1], .var 5], .call 518 [.var 4, .var 3]]), .set 7 (.call 516 [.var 4, .var 3]), .ret (.cmp .eq (.var 6) (.call 514 [.var 7, .var 7]))]
def F__law_four_v3 : Fn := ⟨1, 8, B__law_four_v3⟩
/-- 520 _law_closing_right -/
def B__law_closing_right : List Sm := [.set 1 (.call 513 [.bin false .add (.int 1) (.call 489 [.var 0, .int 6]), .bin false .add (.int 1) (.call 489 [.var 0, .int 3])]), .set 2 (.call 505 [.var 0, .lst false [.tup [.tup [.int 5, .int 1], .tup [.int 2, .int 1], .tup [.int 5, .int 1]], .tup [.tup [.int 2, .int 1], .tup [.int 1, .int 1], .tup [.int 0, .int 1]], .tup [.tup [.int 9, .int 1], .tup [.int 4, .int 1], .tup [.int 9, .int 1]]]]), .set 3 (.call 505 [.var 0, .lst false [.tup [.tup [.int 12, .int 1], .tup [.int 7, .int 1], .tup [.int 18, .int 1]], .tup [.tup [.int 20, .int 1], .tup [.int 9, .int 1], .tup [.int 112, .int 1]]]]), .set 4 (.lst true []), .for_ (.n 5) .seq [.tup [.var 2, .call 515 [.var 2, .var 1]]] [.ex (.meth .append (.var 4) [.call 511 [.idx (.var 5) (.int 0), .idx (.var 5) (.int 1), .idx (.var 5) (.int 2)]])], .for_ (.n 5) .seq [.tup [.var 3, .call 515 [.var 3, .var 1]]] [.ex (.meth .append (.var 4) [.call 512 [.idx (.var 5) (.int 0), .idx (.var 5) (.int 1), .idx (.var 5) (.int 2)]])], .ite (.not (.call 504 [.var 4, .bin false .mul (.lst false [.bl true]) (.int 4)])) [.ret (.bl false)] [], .set 6 (.call 513 [.bin false .add (.int 3) (.call 489 [.var 0, .int 9]), .bin false .add (.int 1) (.call 489 [.var 0, .int 2])]), .set 5 (.tup [.var 6, .call 514 [.var 6, .tup [.int 1, .bin false .add (.int 2) (.call 489 [.var 0, .int 3])]], .call 513 [.call 489 [.var 0, .int 9], .int 9]]), .set 7 (.lst true [.call 511 [.idx (.var 5) (.int 0), .idx (.var 5) (.int 1), .idx (.var 5) (.int 2)]]), .ex (.meth .append (.var 7) [.call 512 [.idx (.var 5) (.int 0), .idx (.var 5) (.int 1), .idx (.var 5) (.int 2)]]), .ret (.call 504 [.var 7, .lst false [.call 517 [.var 5], .call 519 [.var 5]]])]
def F__law_closing_right : Fn := ⟨1, 8, B__law_closing_right⟩
/-- 521 _law_some -/
def B__law_some : List Sm := [.ret (.call 513 [.bin false .sub (.call 489 [.var 0, .int 13]) (.int 6), .bin false .add (.int 1) (.call 489 [.var 0, .int 3])])]
def F__law_some : Fn := ⟨1, 1, B__law_some⟩
/-- 522 _law_over_v2 -/
def B__law_over_v2 : List Sm := [.ret (.call 513 [.bin false .mul (.idx (.var 0) (.int 0)) (.idx (.var 1) (.int 1)), .bin false .mul (.idx (.var 0) (.int 1)) (.idx (.var 1) (.int 0))])]
def F__law_over_v2 : Fn := ⟨2, 2, B__law_over_v2⟩
/-- 523 _law_lowest_v3 -/
def B__law_lowest_v3 : List Sm := [.set 1 (.int 0), .for_ (.n 2) .seq [.var 0] [.set 2 (.blt false .abs [.var 2]), .whl (.cmp .gt (.var 2) (.int 0)) [.unp (.t [.n 1, .n 2]) (.tup [.var 2, .bin false .mod (.blt false .int [.var 1]) (.var 2)])]], .set 3 (.comp false (.var 2) (.n 2) .seq [.var 0] [.cmp .ne (.var 2) (.int 0)]), .set 1 (.ite (.cmp .gt (.idx (.var 3) (.neg (.int 1))) (.int 0)) (.var 1) (.bin false .sub (.int 0) (.var 1))), .ret (.blt false .tuple [.comp false (.bin false .fdiv (.var 2) (.var 1)) (.n 2) .seq [.var 0] []])]
def F__law_lowest_v3 : Fn := ⟨1, 4, B__law_lowest_v3⟩
/-- 524 _law_at -/
def B__law_at : List Sm := [.ret (.call 523 [.tup [.bin false .mul (.idx (.var 0) (.int 0)) (.idx (.var 1) (.int 1)), .bin false .mul (.idx (.var 1) (.int 0)) (.idx (.var 0) (.int 1)), .bin false .mul (.idx (.var 0) (.int 1)) (.idx (.var 1) (.int 1))]])]
def F__law_at : Fn := ⟨2, 2, B__law_at⟩
/-- 525 inner_of -/
def B_inner_of : List Sm := [.set 2 (.call 508 [.var 0]), .unp (.t [.n 3, .n 4]) (.var 1), .ite (.or [.cmp .le (.idx (.var 4) (.int 0)) (.int 0), .cmp .ge (.idx (.var 4) (.int 0)) (.idx (.var 4) (.int 1))]) [.dead 12] [], .set 5 (.bin false .add (.bin false .mul (.idx (.var 3) (.int 0)) (.idx (.var 3) (.int 0))) (.bin false .mul (.idx (.var 3) (.int 1)) (.idx (.var 3) (.int 1)))), .set 6 (.call 102 [.bin false .sub (.bin false .mul (.idx (.var 3) (.int 1)) (.idx (.var 3) (.int 1))) (.bin false .mul (.idx (.var 3) (.int 0)) (.idx (.var 3) (.int 0))), .var 5]), .set 7 (.call 102 [.bin false .mul (.bin false .mul (.int 2) (.idx (.var 3) (.int 0))) (.idx (.var 3) (.int 1)), .var 5]), .par [8, 9] [.call 142 [.call 262 [.var 0]], .call 117 [.var 2, .call 116 [.glob 1, .var 4]]], .set 10 (.call 141 [.call 106 [.idx (.var 8) (.int 0), .call 117 [.var 9, .var 6]], .call 106 [.idx (.var 8) (.int 1), .call 117 [.var 9, .var 7]]]), .ret (.tup [.var 10, .call 117 [.call 117 [.var 4, .var 2], .call 117 [.var 4, .var 2]]])]
def F_inner_of : Fn := ⟨2, 11, B_inner_of⟩
/-- 526 _law_inner_right -/
def B__law_inner_right : List Sm := [.par [1, 2, 3] [.bin false .sub (.call 489 [.var 0, .int 5]) (.int 2), .bin false .sub (.call 489 [.var 0, .int 5]) (.int 2), .bin false .add (.int 1) (.call 489 [.var 0, .int 4])], .par [4, 5] [.call 521 [.var 0], .call 513 [.bin false .add (.int 1) (.call 489 [.var 0, .int 3]), .int 4]], .set 6 (.call 514 [.var 4, .var 4]), .set 7 (.call 518 [.tup [.int 1, .int 1], .var 6]), .par [8, 9] [.call 522 [.call 516 [.tup [.int 1, .int 1], .var 6], .var 7], .call 522 [.call 514 [.tup [.int 2, .int 1], .var 4], .var 7]], .set 10 (.call 514 [.tup [.var 3, .int 1], .call 516 [.tup [.int 1, .int 1], .var 5]]), .set 11 (.call 524 [.call 518 [.tup [.var 1, .int 1], .call 514 [.var 10, .var 8]], .call 518 [.tup [.var 2, .int 1], .call 514 [.var 10, .var 9]]]), .set 12 (.call 514 [.tup [.var 3, .int 1], .var 5]), .set 13 (.call 252 [.tup [.var 1, .var 2, .int 1], .tup [.bin false .mul (.var 3) (.var 3), .int 1]]), .set 14 (.call 525 [.var 13, .tup [.var 4, .var 5]]), .ite (.not (.call 504 [.var 14, .tup [.var 11, .call 514 [.var 12, .var 12]]])) [.ret (.bl false)] [], .par [15, 16] [.call 514 [.tup [.var 3, .int 1], .var 8], .call 514 [.tup [.var 3, .int 1], .var 9]], .par [17, 18] [.call 524 [.call 518 [.tup [.var 1, .int 1], .var 15], .call 518 [.tup [.var 2, .int 1], .var 16]], .call 252 [.idx (.var 14) (.int 0), .idx (.var 14) (.int 1)]], .ite (.or [.isb true (.call 294 [.var 13, .var 17]) true, .isb true (.call 294 [.var 18, .var 17]) true]) [.ret (.bl false)] [], .ret (.cmp .eq (.call 510 [.var 13, .var 18]) (.str "touching inside"))]
def F__law_inner_right : Fn := ⟨1, 19, B__law_inner_right⟩
/-- 527 law -/
def B_law : List Sm := [.set 1 (.call 488 [.var 0]), .set 2 (.lst true [.call 511 [.tup [.int 5, .int 1], .tup [.int 2, .int 1], .tup [.int 5, .int 1]], .call 511 [.tup [.int 5, .int 1], .tup [.int 2, .int 1], .tup [.int 4, .int 1]]]), .ex (.meth .append (.var 2) [.call 512 [.tup [.int 12, .int 1], .tup [.int 7, .int 1], .tup [.int 18, .int 1]]]), .ite (.not (.call 504 [.var 2, .lst false [.bl true, .bl false, .bl true]])) [.ret (.bl false)] [], .ret (.blt false .all [.comp false (.and [.call 520 [.var 1], .call 526 [.var 1]]) (.n 3) .range [.int 4] []])]
def F_law : Fn := ⟨1, 4, B_law⟩
def libfns : List (Nat × Fn) := [(101, F_common), (102, F_fraction), (103, F_over), (104, F_lowest), (105, F_whole), (106, F_plus), (115, F_root), (116, F_minus), (117, F_times), (120, F_fraction_root), (133, F_is_integer), (134, F_are_integers), (135, F_check_point), (139, F_is_fraction), (140, F_are_fractions), (141, F_at), (142, F_places), (160, F_square_between), (251, F_first_above), (252, F_around), (253, F_squares_row), (255, F_is_low), (256, F_is_circle), (257, F_check_circle), (258, F_power), (260, F_square_of), (262, F_middle_of), (294, F_is_on_v2), (488, F__law_hand_v52), (489, F__law_draw_v4), (504, F__law_is_v3), (505, F__law_any_v4), (507, F_width_of), (508, F_check_width), (510, F_touch_sort), (511, F_three_closes), (512, F_four_closes), (513, F__law_low_v4), (514, F__law_times_v3), (515, F__law_grown), (516, F__law_less_v2), (517, F__law_three_v3), (518, F__law_plus_v2), (519, F__law_four_v3), (520, F__law_closing_right), (521, F__law_some), (522, F__law_over_v2), (523, F__law_lowest_v3), (524, F__law_at), (525, F_inner_of), (526, F__law_inner_right), (527, F_law)]
def Lib (i : Nat) : Option Fn := find libfns i
abbrev I_common : Nat := 101
abbrev I_fraction : Nat := 102
abbrev I_over : Nat := 103
abbrev I_lowest : Nat := 104
abbrev I_whole : Nat := 105
abbrev I_plus : Nat := 106
abbrev I_root : Nat := 115
abbrev I_minus : Nat := 116
abbrev I_times : Nat := 117
abbrev I_fraction_root : Nat := 120
abbrev I_is_integer : Nat := 133
abbrev I_are_integers : Nat := 134
abbrev I_check_point : Nat := 135
abbrev I_is_fraction : Nat := 139
abbrev I_are_fractions : Nat := 140
abbrev I_at : Nat := 141
abbrev I_places : Nat := 142
abbrev I_square_between : Nat := 160
abbrev I_first_above : Nat := 251
abbrev I_around : Nat := 252
abbrev I_squares_row : Nat := 253
abbrev I_is_low : Nat := 255
abbrev I_is_circle : Nat := 256
abbrev I_check_circle : Nat := 257
abbrev I_power : Nat := 258
abbrev I_square_of : Nat := 260
abbrev I_middle_of : Nat := 262
abbrev I_is_on_v2 : Nat := 294
abbrev I__law_hand_v52 : Nat := 488
abbrev I__law_draw_v4 : Nat := 489
abbrev I__law_is_v3 : Nat := 504
abbrev I__law_any_v4 : Nat := 505
abbrev I_width_of : Nat := 507
abbrev I_check_width : Nat := 508
abbrev I_touch_sort : Nat := 510
abbrev I_three_closes : Nat := 511
abbrev I_four_closes : Nat := 512
abbrev I__law_low_v4 : Nat := 513
abbrev I__law_times_v3 : Nat := 514
abbrev I__law_grown : Nat := 515
abbrev I__law_less_v2 : Nat := 516
abbrev I__law_three_v3 : Nat := 517
abbrev I__law_plus_v2 : Nat := 518
abbrev I__law_four_v3 : Nat := 519
abbrev I__law_closing_right : Nat := 520
abbrev I__law_some : Nat := 521
abbrev I__law_over_v2 : Nat := 522
abbrev I__law_lowest_v3 : Nat := 523
abbrev I__law_at : Nat := 524
abbrev I_inner_of : Nat := 525
abbrev I__law_inner_right : Nat := 526
abbrev I_law : Nat := 527
abbrev Q_common : List Nat := [101]
abbrev Q_fraction : List Nat := [102, 101]
abbrev Q_over : List Nat := [103, 102, 101]
abbrev Q_lowest : List Nat := [104, 101]
abbrev Q_whole : List Nat := [105, 101, 104]
abbrev Q_plus : List Nat := [106, 102, 101]
abbrev Q_root : List Nat := [115]
abbrev Q_minus : List Nat := [116, 102, 101]
abbrev Q_times : List Nat := [117, 102, 101]
abbrev Q_fraction_root : List Nat := [120, 115]
abbrev Q_is_integer : List Nat := [133]
abbrev Q_are_integers : List Nat := [134, 133]
abbrev Q_check_point : List Nat := [135, 134, 133, 104, 101]
abbrev Q_is_fraction : List Nat := [139, 133, 101]
abbrev Q_are_fractions : List Nat := [140, 139, 133, 101]
abbrev Q_at : List Nat := [141, 140, 139, 133, 101, 105, 104]
abbrev Q_places : List Nat := [142, 135, 134, 133, 104, 101, 102]
abbrev Q_square_between : List Nat := [160, 142, 135, 134, 133, 104, 101, 102, 116, 106, 117]
abbrev Q_first_above : List Nat := [251, 104, 101]
abbrev Q_around : List Nat := [252, 142, 135, 134, 133, 104, 101, 102, 139, 116, 106, 117, 105, 251]
abbrev Q_squares_row : List Nat := [253]
abbrev Q_is_low : List Nat := [255, 104, 101]
abbrev Q_is_circle : List Nat := [256, 134, 133, 255, 104, 101]
abbrev Q_check_circle : List Nat := [257, 256, 134, 133, 255, 104, 101]
abbrev Q_power : List Nat := [258, 257, 256, 134, 133, 255, 104, 101, 135, 253, 102]
abbrev Q_square_of : List Nat := [260, 257, 256, 134, 133, 255, 104, 101, 102]
abbrev Q_middle_of : List Nat := [262, 257, 256, 134, 133, 255, 104, 101, 141, 140, 139, 105, 102]
abbrev Q_is_on_v2 : List Nat := [294, 258, 257, 256, 134, 133, 255, 104, 101, 135, 253, 102]
abbrev Q__law_hand_v52 : List Nat := [488]
abbrev Q__law_draw_v4 : List Nat := [489]
abbrev Q__law_is_v3 : List Nat := [504]
abbrev Q__law_any_v4 : List Nat := [505, 489]
abbrev Q_width_of : List Nat := [507, 120, 115, 260, 257, 256, 134, 133, 255, 104, 101, 102]
abbrev Q_check_width : List Nat := [508, 507, 120, 115, 260, 257, 256, 134, 133, 255, 104, 101, 102]
abbrev Q_touch_sort : List Nat := [510, 257, 256, 134, 133, 255, 104, 101, 160, 142, 135, 102, 116, 106, 117, 262, 141, 140, 139, 105, 260]
abbrev Q_three_closes : List Nat := [511, 116, 102, 101, 117]
abbrev Q_four_closes : List Nat := [512, 106, 102, 101, 117, 116]
abbrev Q__law_low_v4 : List Nat := [513]
abbrev Q__law_times_v3 : List Nat := [514, 513]
abbrev Q__law_grown : List Nat := [515, 514, 513]
abbrev Q__law_less_v2 : List Nat := [516, 513]
abbrev Q__law_three_v3 : List Nat := [517, 514, 513, 516]
abbrev Q__law_plus_v2 : List Nat := [518, 513]
abbrev Q__law_four_v3 : List Nat := [519, 514, 513, 518, 516]
abbrev Q__law_closing_right : List Nat := [520, 513, 489, 505, 515, 514, 511, 116, 102, 101, 117, 512, 106, 504, 517, 516, 519, 518]
abbrev Q__law_some : List Nat := [521, 513, 489]
abbrev Q__law_over_v2 : List Nat := [522, 513]
abbrev Q__law_lowest_v3 : List Nat := [523]
abbrev Q__law_at : List Nat := [524, 523]
abbrev Q_inner_of : List Nat := [525, 508, 507, 120, 115, 260, 257, 256, 134, 133, 255, 104, 101, 102, 142, 135, 262, 141, 140, 139, 105, 117, 116, 106]
abbrev Q__law_inner_right : List Nat := [526, 489, 521, 513, 514, 518, 522, 516, 524, 523, 252, 142, 135, 134, 133, 104, 101, 102, 139, 116, 106, 117, 105, 251, 525, 508, 507, 120, 115, 260, 257, 256, 255, 262, 141, 140, 504, 294, 258, 253, 510, 160]
abbrev Q_law : List Nat := [527, 488, 511, 116, 102, 101, 117, 512, 106, 504, 520, 513, 489, 505, 515, 514, 517, 516, 519, 518, 526, 521, 522, 524, 523, 252, 142, 135, 134, 133, 104, 139, 105, 251, 525, 508, 507, 120, 115, 260, 257, 256, 255, 262, 141, 140, 294, 258, 253, 510, 160]
end Pl


set_option Elab.async false
set_option linter.all false
set_option maxRecDepth 100000
namespace Pi
open PySem
section
variable (G : Nat → Option D) (call : Call) (ρ : Env) (s : Store)
theorem ev_var (i : Nat) : ev G call (.var i) ρ s = match ρ[i]? with | some (some d) => .ok d s | _ => .bad := by simp only [ev] <;> rfl
theorem ev_int (i : Int) : ev G call (.int i) ρ s = .ok (.int i) s := by simp only [ev] <;> rfl
theorem ev_bl (i : Bool) : ev G call (.bl i) ρ s = .ok (.bl i) s := by simp only [ev] <;> rfl
theorem ev_non : ev G call .non ρ s = .ok .non s := by simp only [ev] <;> rfl
theorem ev_str (i : Str) : ev G call (.str i) ρ s = .ok (.str i) s := by simp only [ev] <;> rfl
theorem ev_glob (i : Nat) : ev G call (.glob i) ρ s = match G i with | some d => .ok d s | none => .bad := by simp only [ev] <;> rfl
theorem ev_bin (m : Bool) (op : Bop) (a b : Ex) : ev G call (.bin m op a b) ρ s = (ev G call a ρ s).bind fun x s1 => (ev G call b ρ s1).bind fun y s2 => (pBin s2 op x y).fin m s2 := by simp only [ev] <;> rfl
theorem ev_neg (a : Ex) : ev G call (.neg a) ρ s = (ev G call a ρ s).bind kNeg := by simp only [ev] <;> rfl
theorem ev_not (a : Ex) : ev G call (.not a) ρ s = (ev G call a ρ s).bind kNot := by simp only [ev] <;> rfl
theorem ev_and (es : List Ex) : ev G call (.and es) ρ s = evAnd G call es ρ s := by simp only [ev] <;> rfl
theorem ev_or (es : List Ex) : ev G call (.or es) ρ s = evOr G call es ρ s := by simp only [ev] <;> rfl
theorem ev_cmp (op : Cop) (a b : Ex) : ev G call (.cmp op a b) ρ s = (ev G call a ρ s).bind fun x s1 => (ev G call b ρ s1).bind fun y s2 => (pCmp s2 op x y).fin false s2 := by simp only [ev] <;> rfl
theorem ev_chain (op op' : Cop) (a b c : Ex) : ev G call (.chain op op' a b c) ρ s = (ev G call a ρ s).bind fun x s1 => (ev G call b ρ s1).bind fun y s2 => ((pCmp s2 op x y).fin false s2).bind fun r s3 => match r with
    | .bl true => (ev G call c ρ s3).bind fun z s4 => (pCmp s4 op' y z).fin false s4
    | .bl false => .ok (.bl false) s3
    | _ => .bad := by simp only [ev] <;> rfl
theorem ev_isn (n : Bool) (a : Ex) : ev G call (.isn n a) ρ s = (ev G call a ρ s).bind (kIsn n) := by simp only [ev] <;> rfl
theorem ev_isb (n : Bool) (a : Ex) (b : Bool) : ev G call (.isb n a b) ρ s = (ev G call a ρ s).bind (kIsb n b) := by simp only [ev] <;> rfl
theorem ev_ite (t a b : Ex) : ev G call (.ite t a b) ρ s = (ev G call t ρ s).bind fun x s1 => match x with
    | .bl true => ev G call a ρ s1
    | .bl false => ev G call b ρ s1
    | _ => .bad := by simp only [ev] <;> rfl
theorem ev_tup (es : List Ex) : ev G call (.tup es) ρ s = (evL G call es ρ s).bind kTup := by simp only [ev] <;> rfl
theorem ev_lst (m : Bool) (es : List Ex) : ev G call (.lst m es) ρ s = (evL G call es ρ s).bind fun ds s1 => PR.fin m (.new ds) s1 := by simp only [ev] <;> rfl
theorem ev_idx (a i : Ex) : ev G call (.idx a i) ρ s = (ev G call a ρ s).bind fun x s1 => (ev G call i ρ s1).bind fun y s2 => (pIdx s2 x y).fin false s2 := by simp only [ev] <;> rfl
theorem ev_slice (m : Bool) (a : Ex) (lo hi : List Ex) : ev G call (.slice m a lo hi) ρ s = (ev G call a ρ s).bind fun x s1 => ((evL G call lo ρ s1).bind pOk).bind fun l s2 => ((evL G call hi ρ s2).bind pOk).bind fun h s3 => (pSlice s3 x l h).fin m s3 := by simp only [ev] <;> rfl
theorem ev_call (f : Nat) (es : List Ex) : ev G call (.call f es) ρ s = (evL G call es ρ s).bind fun ds s1 => call f ds s1 := by simp only [ev] <;> rfl
theorem ev_blt (m : Bool) (b : Blt) (es : List Ex) : ev G call (.blt m b es) ρ s = (evL G call es ρ s).bind fun ds s1 => (pBlt s1 b ds).fin m s1 := by simp only [ev] <;> rfl
theorem ev_inst (a : Ex) (tys : List Ty) : ev G call (.inst a tys) ρ s = (ev G call a ρ s).bind (kInst tys) := by simp only [ev] <;> rfl
theorem ev_meth (f : Meth) (o : Ex) (es : List Ex) : ev G call (.meth f o es) ρ s = ((ev G call o ρ s).bind kRef).bind fun x s1 => (evL G call es ρ s1).bind fun ds s2 => pMeth s2 f x ds := by simp only [ev] <;> rfl
theorem evL_nil : evL G call [] ρ s = .ok [] s := by simp only [evL]
theorem evL_cons (e : Ex) (es : List Ex) : evL G call (e :: es) ρ s = (ev G call e ρ s).bind fun d s1 => (evL G call es ρ s1).bind fun ds s2 => .ok (d :: ds) s2 := by simp only [evL]
theorem evAnd_1 (e : Ex) : evAnd G call [e] ρ s = ev G call e ρ s := evAnd_one G call e ρ s
theorem evOr_1 (e : Ex) : evOr G call [e] ρ s = ev G call e ρ s := evOr_one G call e ρ s
theorem evS_set (i : Nat) (e : Ex) : evS G call (.set i e) ρ s = (ev G call e ρ s).thn ρ (kSet i ρ) := by simp only [evS] <;> rfl
theorem evS_par (is : List Nat) (es : List Ex) : evS G call (.par is es) ρ s = (evL G call es ρ s).thn ρ (kPar is ρ) := by simp only [evS] <;> rfl
theorem evS_unp (t : Tg) (e : Ex) : evS G call (.unp t e) ρ s = (ev G call e ρ s).thn ρ (kPut t ρ) := by simp only [evS] <;> rfl
theorem evS_sub (o i e : Ex) : evS G call (.sub o i e) ρ s = (ev G call e ρ s).thn ρ fun d s1 => evSub G call o i d ρ s1 := by simp only [evS] <;> rfl
theorem evS_subs (ts : List LT) (e : Ex) : evS G call (.subs ts e) ρ s = (ev G call e ρ s).thn ρ (kSubs G call ts ρ) := by simp only [evS] <;> rfl
theorem evS_aug (i : Nat) (op : Bop) (e : Ex) : evS G call (.aug i op e) ρ s = match ρ[i]? with
    | some (some x) => (ev G call e ρ s).thn ρ (kAug i op x ρ)
    | _ => .bad := by simp only [evS] <;> rfl
theorem evS_ex (e : Ex) : evS G call (.ex e) ρ s = (ev G call e ρ s).thn ρ fun _ s1 => .ok .nx ρ s1 := by simp only [evS] <;> rfl
theorem evS_ret (e : Ex) : evS G call (.ret e) ρ s = (ev G call e ρ s).thn ρ fun d s1 => .ok (.rt d) ρ s1 := by simp only [evS] <;> rfl
theorem evS_ite (c : Ex) (a b : List Sm) : evS G call (.ite c a b) ρ s = ((ev G call c ρ s).bind asB).thn ρ fun k s1 => if k = true then evSs G call a ρ s1 else evSs G call b ρ s1 := by simp only [evS] <;> rfl
theorem evS_whl (c : Ex) (b : List Sm) : evS G call (.whl c b) ρ s = loopN (whT G call c b) most ρ s := by
  simp only [evS]
  rfl
theorem evS_for (t : Tg) (ib : IB) (es : List Ex) (b : List Sm) : evS G call (.for_ t ib es b) ρ s = (itE G call ib es ρ s).thn ρ fun src s1 => forL src.chk (foT G call t b) src.list ρ s1 := by
  simp only [evS]
  rfl
theorem evS_brk : evS G call .brk ρ s = .ok .bk ρ s := by simp only [evS] <;> rfl
theorem evS_pass : evS G call .pass ρ s = .ok .nx ρ s := by simp only [evS] <;> rfl
end
theorem loop_go {f : Env → Store → WR} {m : Nat} {ρ ρ' : Env} {s s' : Store} (h : f ρ s = .go ρ' s') : loopN f (m + 1) ρ s = loopN f m ρ' s' := by
  simp only [loopN, h]
theorem loop_fin {f : Env → Store → WR} {m : Nat} {ρ : Env} {s : Store} {r : RS} (h : f ρ s = .fin r) : loopN f (m + 1) ρ s = r := by
  simp only [loopN, h]
theorem idx_tup0 {s : Store} {x0 : D} {l : List D} : pIdx s (.tup (x0 :: l)) (.int 0) = .val x0 := by
  have h : place (x0 :: l).length (0 : Int) = some 0 := by
    unfold place
    rw [if_pos (by decide), if_pos (by simp only [List.length_cons]; omega)]
    rfl
  simp only [pIdx, items, h, Option.bind_some, List.getElem?_cons_zero, List.getElem?_cons_succ]
theorem idx_tup1 {s : Store} {x0 x1 : D} {l : List D} : pIdx s (.tup (x0 :: x1 :: l)) (.int 1) = .val x1 := by
  have h : place (x0 :: x1 :: l).length (1 : Int) = some 1 := by
    unfold place
    rw [if_pos (by decide), if_pos (by simp only [List.length_cons]; omega)]
    rfl
  simp only [pIdx, items, h, Option.bind_some, List.getElem?_cons_zero, List.getElem?_cons_succ]
theorem idx_tup2 {s : Store} {x0 x1 x2 : D} {l : List D} : pIdx s (.tup (x0 :: x1 :: x2 :: l)) (.int 2) = .val x2 := by
  have h : place (x0 :: x1 :: x2 :: l).length (2 : Int) = some 2 := by
    unfold place
    rw [if_pos (by decide), if_pos (by simp only [List.length_cons]; omega)]
    rfl
  simp only [pIdx, items, h, Option.bind_some, List.getElem?_cons_zero, List.getElem?_cons_succ]
theorem idx_tup3 {s : Store} {x0 x1 x2 x3 : D} {l : List D} : pIdx s (.tup (x0 :: x1 :: x2 :: x3 :: l)) (.int 3) = .val x3 := by
  have h : place (x0 :: x1 :: x2 :: x3 :: l).length (3 : Int) = some 3 := by
    unfold place
    rw [if_pos (by decide), if_pos (by simp only [List.length_cons]; omega)]
    rfl
  simp only [pIdx, items, h, Option.bind_some, List.getElem?_cons_zero, List.getElem?_cons_succ]
theorem idx_tup4 {s : Store} {x0 x1 x2 x3 x4 : D} {l : List D} : pIdx s (.tup (x0 :: x1 :: x2 :: x3 :: x4 :: l)) (.int 4) = .val x4 := by
  have h : place (x0 :: x1 :: x2 :: x3 :: x4 :: l).length (4 : Int) = some 4 := by
    unfold place
    rw [if_pos (by decide), if_pos (by simp only [List.length_cons]; omega)]
    rfl
  simp only [pIdx, items, h, Option.bind_some, List.getElem?_cons_zero, List.getElem?_cons_succ]
theorem idx_tup5 {s : Store} {x0 x1 x2 x3 x4 x5 : D} {l : List D} : pIdx s (.tup (x0 :: x1 :: x2 :: x3 :: x4 :: x5 :: l)) (.int 5) = .val x5 := by
  have h : place (x0 :: x1 :: x2 :: x3 :: x4 :: x5 :: l).length (5 : Int) = some 5 := by
    unfold place
    rw [if_pos (by decide), if_pos (by simp only [List.length_cons]; omega)]
    rfl
  simp only [pIdx, items, h, Option.bind_some, List.getElem?_cons_zero, List.getElem?_cons_succ]
theorem idx_tup6 {s : Store} {x0 x1 x2 x3 x4 x5 x6 : D} {l : List D} : pIdx s (.tup (x0 :: x1 :: x2 :: x3 :: x4 :: x5 :: x6 :: l)) (.int 6) = .val x6 := by
  have h : place (x0 :: x1 :: x2 :: x3 :: x4 :: x5 :: x6 :: l).length (6 : Int) = some 6 := by
    unfold place
    rw [if_pos (by decide), if_pos (by simp only [List.length_cons]; omega)]
    rfl
  simp only [pIdx, items, h, Option.bind_some, List.getElem?_cons_zero, List.getElem?_cons_succ]
theorem idx_tup7 {s : Store} {x0 x1 x2 x3 x4 x5 x6 x7 : D} {l : List D} : pIdx s (.tup (x0 :: x1 :: x2 :: x3 :: x4 :: x5 :: x6 :: x7 :: l)) (.int 7) = .val x7 := by
  have h : place (x0 :: x1 :: x2 :: x3 :: x4 :: x5 :: x6 :: x7 :: l).length (7 : Int) = some 7 := by
    unfold place
    rw [if_pos (by decide), if_pos (by simp only [List.length_cons]; omega)]
    rfl
  simp only [pIdx, items, h, Option.bind_some, List.getElem?_cons_zero, List.getElem?_cons_succ]
theorem idx_hand0 {t : Store} {x0 x1 x2 x3 x4 : D} : pIdx ([x0, x1, x2, x3, x4] :: t) (.ref 0) (.int 0) = .val x0 := by
  have h : place 5 (0 : Int) = some 0 := by decide
  simp only [pIdx, items, List.getElem?_cons_zero, List.length_cons, List.length_nil, Nat.zero_add, Nat.reduceAdd, h, Option.bind_some, List.getElem?_cons_succ]
theorem set_hand0 {t : Store} {x0 x1 x2 x3 x4 d : D} : setAt ([x0, x1, x2, x3, x4] :: t) (.ref 0) (.int 0) d = some ([d, x1, x2, x3, x4] :: t) := by
  have h : place 5 (0 : Int) = some 0 := by decide
  simp only [setAt, List.getElem?_cons_zero, List.length_cons, List.length_nil, Nat.zero_add, Nat.reduceAdd, h, Option.map_some, List.set_cons_zero, List.set_cons_succ]
theorem idx_hand1 {t : Store} {x0 x1 x2 x3 x4 : D} : pIdx ([x0, x1, x2, x3, x4] :: t) (.ref 0) (.int 1) = .val x1 := by
  have h : place 5 (1 : Int) = some 1 := by decide
  simp only [pIdx, items, List.getElem?_cons_zero, List.length_cons, List.length_nil, Nat.zero_add, Nat.reduceAdd, h, Option.bind_some, List.getElem?_cons_succ]
theorem set_hand1 {t : Store} {x0 x1 x2 x3 x4 d : D} : setAt ([x0, x1, x2, x3, x4] :: t) (.ref 0) (.int 1) d = some ([x0, d, x2, x3, x4] :: t) := by
  have h : place 5 (1 : Int) = some 1 := by decide
  simp only [setAt, List.getElem?_cons_zero, List.length_cons, List.length_nil, Nat.zero_add, Nat.reduceAdd, h, Option.map_some, List.set_cons_zero, List.set_cons_succ]
theorem idx_hand2 {t : Store} {x0 x1 x2 x3 x4 : D} : pIdx ([x0, x1, x2, x3, x4] :: t) (.ref 0) (.int 2) = .val x2 := by
  have h : place 5 (2 : Int) = some 2 := by decide
  simp only [pIdx, items, List.getElem?_cons_zero, List.length_cons, List.length_nil, Nat.zero_add, Nat.reduceAdd, h, Option.bind_some, List.getElem?_cons_succ]
theorem set_hand2 {t : Store} {x0 x1 x2 x3 x4 d : D} : setAt ([x0, x1, x2, x3, x4] :: t) (.ref 0) (.int 2) d = some ([x0, x1, d, x3, x4] :: t) := by
  have h : place 5 (2 : Int) = some 2 := by decide
  simp only [setAt, List.getElem?_cons_zero, List.length_cons, List.length_nil, Nat.zero_add, Nat.reduceAdd, h, Option.map_some, List.set_cons_zero, List.set_cons_succ]
theorem idx_hand3 {t : Store} {x0 x1 x2 x3 x4 : D} : pIdx ([x0, x1, x2, x3, x4] :: t) (.ref 0) (.int 3) = .val x3 := by
  have h : place 5 (3 : Int) = some 3 := by decide
  simp only [pIdx, items, List.getElem?_cons_zero, List.length_cons, List.length_nil, Nat.zero_add, Nat.reduceAdd, h, Option.bind_some, List.getElem?_cons_succ]
theorem set_hand3 {t : Store} {x0 x1 x2 x3 x4 d : D} : setAt ([x0, x1, x2, x3, x4] :: t) (.ref 0) (.int 3) d = some ([x0, x1, x2, d, x4] :: t) := by
  have h : place 5 (3 : Int) = some 3 := by decide
  simp only [setAt, List.getElem?_cons_zero, List.length_cons, List.length_nil, Nat.zero_add, Nat.reduceAdd, h, Option.map_some, List.set_cons_zero, List.set_cons_succ]
theorem idx_hand4 {t : Store} {x0 x1 x2 x3 x4 : D} : pIdx ([x0, x1, x2, x3, x4] :: t) (.ref 0) (.int 4) = .val x4 := by
  have h : place 5 (4 : Int) = some 4 := by decide
  simp only [pIdx, items, List.getElem?_cons_zero, List.length_cons, List.length_nil, Nat.zero_add, Nat.reduceAdd, h, Option.bind_some, List.getElem?_cons_succ]
theorem set_hand4 {t : Store} {x0 x1 x2 x3 x4 d : D} : setAt ([x0, x1, x2, x3, x4] :: t) (.ref 0) (.int 4) d = some ([x0, x1, x2, x3, d] :: t) := by
  have h : place 5 (4 : Int) = some 4 := by decide
  simp only [setAt, List.getElem?_cons_zero, List.length_cons, List.length_nil, Nat.zero_add, Nat.reduceAdd, h, Option.map_some, List.set_cons_zero, List.set_cons_succ]
theorem cmp_eqI {s : Store} {a b : Int} : pCmp s .eq (.int a) (.int b) = .val (.bl (decide (a = b))) := by simp [pCmp, okEq, plain, deref, eqv]
theorem cmp_neI {s : Store} {a b : Int} : pCmp s .ne (.int a) (.int b) = .val (.bl (!decide (a = b))) := by simp [pCmp, okEq, plain, deref, eqv]
theorem cmp_ltI {s : Store} {a b : Int} : pCmp s .lt (.int a) (.int b) = .val (.bl (decide (a < b))) := rfl
theorem cmp_leI {s : Store} {a b : Int} : pCmp s .le (.int a) (.int b) = .val (.bl (decide (a ≤ b))) := rfl
theorem cmp_gtI {s : Store} {a b : Int} : pCmp s .gt (.int a) (.int b) = .val (.bl (decide (b < a))) := rfl
theorem cmp_geI {s : Store} {a b : Int} : pCmp s .ge (.int a) (.int b) = .val (.bl (decide (b ≤ a))) := rfl
theorem cmp_eqB {s : Store} {a b : Bool} : pCmp s .eq (.bl a) (.bl b) = .val (.bl (a == b)) := by simp [pCmp, okEq, plain, deref, eqv]
theorem cmp_neB {s : Store} {a b : Bool} : pCmp s .ne (.bl a) (.bl b) = .val (.bl (a != b)) := by cases a <;> cases b <;> rfl
theorem cmp_eqS {s : Store} {a b : Str} (h1 : okStr a = true) (h2 : okStr b = true) : pCmp s .eq (.str a) (.str b) = .val (.bl (a == b)) := by simp [pCmp, okEq, plain, deref, eqv, h1, h2]
theorem isT_non_int {s : Store}  : isTys s .non [.int] = some false := rfl
theorem isT_non_bool {s : Store}  : isTys s .non [.bool] = some false := rfl
theorem isT_non_tuple {s : Store}  : isTys s .non [.tuple] = some false := rfl
theorem isT_non_list {s : Store}  : isTys s .non [.list] = some false := rfl
theorem isT_non_str {s : Store}  : isTys s .non [.str] = some false := rfl
theorem isT_non_tuple_list {s : Store}  : isTys s .non [.tuple, .list] = some false := rfl
theorem isT_non_list_tuple {s : Store}  : isTys s .non [.list, .tuple] = some false := rfl
theorem isT_bl_int {s : Store} {b : Bool} : isTys s (.bl b) [.int] = some true := rfl
theorem isT_bl_bool {s : Store} {b : Bool} : isTys s (.bl b) [.bool] = some true := rfl
theorem isT_bl_tuple {s : Store} {b : Bool} : isTys s (.bl b) [.tuple] = some false := rfl
theorem isT_bl_list {s : Store} {b : Bool} : isTys s (.bl b) [.list] = some false := rfl
theorem isT_bl_str {s : Store} {b : Bool} : isTys s (.bl b) [.str] = some false := rfl
theorem isT_bl_tuple_list {s : Store} {b : Bool} : isTys s (.bl b) [.tuple, .list] = some false := rfl
theorem isT_bl_list_tuple {s : Store} {b : Bool} : isTys s (.bl b) [.list, .tuple] = some false := rfl
theorem isT_int_int {s : Store} {i : Int} : isTys s (.int i) [.int] = some true := rfl
theorem isT_int_bool {s : Store} {i : Int} : isTys s (.int i) [.bool] = some false := rfl
theorem isT_int_tuple {s : Store} {i : Int} : isTys s (.int i) [.tuple] = some false := rfl
theorem isT_int_list {s : Store} {i : Int} : isTys s (.int i) [.list] = some false := rfl
theorem isT_int_str {s : Store} {i : Int} : isTys s (.int i) [.str] = some false := rfl
theorem isT_int_tuple_list {s : Store} {i : Int} : isTys s (.int i) [.tuple, .list] = some false := rfl
theorem isT_int_list_tuple {s : Store} {i : Int} : isTys s (.int i) [.list, .tuple] = some false := rfl
theorem isT_str_int {s : Store} {x : Str} : isTys s (.str x) [.int] = some false := rfl
theorem isT_str_bool {s : Store} {x : Str} : isTys s (.str x) [.bool] = some false := rfl
theorem isT_str_tuple {s : Store} {x : Str} : isTys s (.str x) [.tuple] = some false := rfl
theorem isT_str_list {s : Store} {x : Str} : isTys s (.str x) [.list] = some false := rfl
theorem isT_str_str {s : Store} {x : Str} : isTys s (.str x) [.str] = some true := rfl
theorem isT_str_tuple_list {s : Store} {x : Str} : isTys s (.str x) [.tuple, .list] = some false := rfl
theorem isT_str_list_tuple {s : Store} {x : Str} : isTys s (.str x) [.list, .tuple] = some false := rfl
theorem isT_tup_int {s : Store} {l : List D} : isTys s (.tup l) [.int] = some false := rfl
theorem isT_tup_bool {s : Store} {l : List D} : isTys s (.tup l) [.bool] = some false := rfl
theorem isT_tup_tuple {s : Store} {l : List D} : isTys s (.tup l) [.tuple] = some true := rfl
theorem isT_tup_list {s : Store} {l : List D} : isTys s (.tup l) [.list] = some false := rfl
theorem isT_tup_str {s : Store} {l : List D} : isTys s (.tup l) [.str] = some false := rfl
theorem isT_tup_tuple_list {s : Store} {l : List D} : isTys s (.tup l) [.tuple, .list] = some true := rfl
theorem isT_tup_list_tuple {s : Store} {l : List D} : isTys s (.tup l) [.list, .tuple] = some true := rfl
theorem isT_lst_int {s : Store} {l : List D} : isTys s (.lst l) [.int] = some false := rfl
theorem isT_lst_bool {s : Store} {l : List D} : isTys s (.lst l) [.bool] = some false := rfl
theorem isT_lst_tuple {s : Store} {l : List D} : isTys s (.lst l) [.tuple] = some false := rfl
theorem isT_lst_list {s : Store} {l : List D} : isTys s (.lst l) [.list] = some true := rfl
theorem isT_lst_str {s : Store} {l : List D} : isTys s (.lst l) [.str] = some false := rfl
theorem isT_lst_tuple_list {s : Store} {l : List D} : isTys s (.lst l) [.tuple, .list] = some true := rfl
theorem isT_lst_list_tuple {s : Store} {l : List D} : isTys s (.lst l) [.list, .tuple] = some true := rfl
theorem isT_klst_int {s : Store} {l : List D} : isTys s (.klst l) [.int] = some false := rfl
theorem isT_klst_bool {s : Store} {l : List D} : isTys s (.klst l) [.bool] = some false := rfl
theorem isT_klst_tuple {s : Store} {l : List D} : isTys s (.klst l) [.tuple] = some false := rfl
theorem isT_klst_list {s : Store} {l : List D} : isTys s (.klst l) [.list] = some true := rfl
theorem isT_klst_str {s : Store} {l : List D} : isTys s (.klst l) [.str] = some false := rfl
theorem isT_klst_tuple_list {s : Store} {l : List D} : isTys s (.klst l) [.tuple, .list] = some true := rfl
theorem isT_klst_list_tuple {s : Store} {l : List D} : isTys s (.klst l) [.list, .tuple] = some true := rfl
theorem isT_ref_int {s : Store} {n : Nat} (h : n < s.length) : isTys s (.ref n) [.int] = some false := by simp only [isTys, isTy, h, if_true]; rfl
theorem isT_ref_bool {s : Store} {n : Nat} (h : n < s.length) : isTys s (.ref n) [.bool] = some false := by simp only [isTys, isTy, h, if_true]; rfl
theorem isT_ref_tuple {s : Store} {n : Nat} (h : n < s.length) : isTys s (.ref n) [.tuple] = some false := by simp only [isTys, isTy, h, if_true]; rfl
theorem isT_ref_list {s : Store} {n : Nat} (h : n < s.length) : isTys s (.ref n) [.list] = some true := by simp only [isTys, isTy, h, if_true]; rfl
theorem isT_ref_str {s : Store} {n : Nat} (h : n < s.length) : isTys s (.ref n) [.str] = some false := by simp only [isTys, isTy, h, if_true]; rfl
theorem isT_ref_tuple_list {s : Store} {n : Nat} (h : n < s.length) : isTys s (.ref n) [.tuple, .list] = some true := by simp only [isTys, isTy, h, if_true]; rfl
theorem isT_ref_list_tuple {s : Store} {n : Nat} (h : n < s.length) : isTys s (.ref n) [.list, .tuple] = some true := by simp only [isTys, isTy, h, if_true]; rfl
theorem bne_tt : (true != true) = false := rfl
theorem bne_tf : (true != false) = true := rfl
theorem bne_ft : (false != true) = true := rfl
theorem isNon_non : isNon .non = true := rfl
theorem isNon_bl {x : Bool} : isNon (.bl x) = false := rfl
theorem isNon_int {x : Int} : isNon (.int x) = false := rfl
theorem isNon_str {x : Str} : isNon (.str x) = false := rfl
theorem isNon_tup {x : List D} : isNon (.tup x) = false := rfl
theorem isNon_lst {x : List D} : isNon (.lst x) = false := rfl
theorem isNon_klst {x : List D} : isNon (.klst x) = false := rfl
theorem isNon_ref {x : Nat} : isNon (.ref x) = false := rfl
theorem blt_abs {s : Store} {i : Int} : pBlt s .abs [.int i] = .val (.int (if i < 0 then -i else i)) := rfl
theorem blt_int {s : Store} {i : Int} : pBlt s .int [.int i] = .val (.int i) := rfl
theorem blt_intB {s : Store} {b : Bool} : pBlt s .int [.bl b] = .val (.int (b2i b)) := rfl
theorem blt_len_tup {s : Store} {xs : List D} : pBlt s .len [.tup xs] = .val (.int xs.length) := rfl
theorem blt_len_lst {s : Store} {xs : List D} : pBlt s .len [.lst xs] = .val (.int xs.length) := rfl
theorem blt_len_klst {s : Store} {xs : List D} : pBlt s .len [.klst xs] = .val (.int xs.length) := rfl
theorem blt_tuple_tup {s : Store} {xs : List D} : pBlt s .tuple [.tup xs] = .val (.tup xs) := rfl
theorem blt_tuple_lst {s : Store} {xs : List D} : pBlt s .tuple [.lst xs] = .val (.tup xs) := rfl
theorem blt_list_tup {s : Store} {xs : List D} : pBlt s .list [.tup xs] = .new xs := rfl
theorem blt_list_lst {s : Store} {xs : List D} : pBlt s .list [.lst xs] = .new xs := rfl
theorem blt_sum {s : Store} {xs : List D} : pBlt s .sum [.lst xs] = match intsD xs with | some ns => .val (.int ns.sum) | none => .bad := rfl
theorem blt_all_lst {s : Store} {xs : List D} : pBlt s .all [.lst xs] = match boolsD xs with | some bs => .val (.bl (bs.all id)) | none => .bad := rfl
theorem blt_any_lst {s : Store} {xs : List D} : pBlt s .any [.lst xs] = match boolsD xs with | some bs => .val (.bl (bs.any id)) | none => .bad := rfl
theorem blt_max2 {s : Store} {i j : Int} : pBlt s .max2 [.int i, .int j] = .val (.int (if j > i then j else i)) := rfl
theorem blt_min2 {s : Store} {i j : Int} : pBlt s .min2 [.int i, .int j] = .val (.int (if j < i then j else i)) := rfl
theorem ints_map : ∀ (l : List Int), intsD (l.map .int) = some l
  | [] => rfl
  | x :: l => by simp [intsD, ints_map l]
theorem bools_map : ∀ (l : List Bool), boolsD (l.map .bl) = some l
  | [] => rfl
  | x :: l => by simp [boolsD, bools_map l]
theorem chk_nil (l : List D) : Src.chk ⟨[], l⟩ = fun _ => true := by
  funext s
  rfl
/-- a walk whose turns all go on -/
theorem for_nil {f : D → Env → Store → WR} {ρ : Env} {s : Store} : forL (fun _ => true) f [] ρ s = .ok .nx ρ s := by
  simp [forL]
theorem for_go {f : D → Env → Store → WR} {x : D} {xs : List D} {ρ ρ' : Env} {s s' : Store} (h : f x ρ s = .go ρ' s') : forL (fun _ => true) f (x :: xs) ρ s = forL (fun _ => true) f xs ρ' s' := by
  simp [forL, h]
theorem for_fin {f : D → Env → Store → WR} {x : D} {xs : List D} {ρ : Env} {s : Store} {r : RS} (h : f x ρ s = .fin r) : forL (fun _ => true) f (x :: xs) ρ s = r := by
  simp [forL, h]
/-- a comprehension that keeps everything -/
theorem comp_map {step : D → Store → R (Option D)} {s : Store} {f : D → D} : ∀ (xs acc : List D), (∀ x ∈ xs, step x s = .ok (some (f x)) s) → acc.length + xs.length ≤ 100000 → compL (fun _ => true) step xs acc s = .ok (acc ++ xs.map f) s
  | [], acc, _, _ => by simp [compL]
  | x :: xs, acc, h, hl => by
    have hc : acc.length < 100000 := by simp at hl; omega
    simp only [compL, hc, and_self, if_true, h x (List.mem_cons_self), R.bind]
    rw [comp_map xs (acc ++ [f x]) (fun y hy => h y (List.mem_cons_of_mem _ hy)) (by simp at hl ⊢; omega)]
    simp
theorem comp_filter {step : D → Store → R (Option D)} {s : Store} {f : D → Option D} : ∀ (xs acc : List D), (∀ x ∈ xs, step x s = .ok (f x) s) → acc.length + xs.length ≤ 100000 → compL (fun _ => true) step xs acc s = .ok (acc ++ xs.filterMap f) s
  | [], acc, _, _ => by simp [compL]
  | x :: xs, acc, h, hl => by
    have hc : acc.length < 100000 := by simp at hl; omega
    simp only [compL, hc, and_self, if_true, h x (List.mem_cons_self), R.bind]
    cases e : f x with
    | none =>
      simp only [List.filterMap_cons_none e]
      exact comp_filter xs acc (fun y hy => h y (List.mem_cons_of_mem _ hy)) (by simp at hl ⊢; omega)
    | some d =>
      simp only [List.filterMap_cons_some e]
      rw [comp_filter xs (acc ++ [d]) (fun y hy => h y (List.mem_cons_of_mem _ hy)) (by simp at hl ⊢; omega)]
      simp
theorem run_of {P : Prog} {n f : Nat} {F : Fn} {ds : List D} {s : Store} (h : P.F f = some F) : run P (n + 1) f ds s = runFn P.G (run P n) F ds s := by
  simp only [run, h]
section
variable {G : Nat → Option D} {call : Call} {ρ ρ' : Env} {s s' : Store} {a : Sm} {r : List Sm} {d : D}
/-- one statement, then the rest -/
theorem evSs_step (h : evS G call a ρ s = .ok .nx ρ' s') : evSs G call (a :: r) ρ s = evSs G call r ρ' s' := by
  rw [evSs, h]
theorem evSs_fin (h : evS G call a ρ s = .ok (.rt d) ρ' s') : evSs G call (a :: r) ρ s = .ok (.rt d) ρ' s' := by
  rw [evSs, h]
theorem evSs_ret {e : Ex} (h : ev G call e ρ s = .ok d s') : evSs G call (.ret e :: r) ρ s = .ok (.rt d) ρ s' := by
  rw [evSs, evS_ret, h]
  rfl
theorem runFn_rt {F : Fn} {ds : List D} (hl : ds.length = F.np) (h : ∃ ρ', evSs G call F.body (ds.map some ++ List.replicate (F.nn - F.np) none) s = .ok (.rt d) ρ' s') : runFn G call F ds s = .ok d s' := by
  obtain ⟨ρ', h⟩ := h
  rw [runFn, if_pos hl, h]
end
theorem for_two {G : Nat → Option D} {call : Call} {i : Nat} {e : Ex} {b : List Sm} {x y : D} {ρ ρ1 ρ2 : Env} {s s1 s2 s3 : Store} (h0 : ev G call e ρ s = .ok (.tup [x, y]) s1) (hi : i < ρ.length) (h1 : evSs G call b (ρ.set i (some x)) s1 = .ok .nx ρ1 s2) (hi1 : i < ρ1.length)
    (h2 : evSs G call b (ρ1.set i (some y)) s2 = .ok .nx ρ2 s3) : evS G call (.for_ (.n i) .seq [e] b) ρ s = .ok .nx ρ2 s3 := by
  rw [evS_for]
  have i0 : itE G call .seq [e] ρ s = .ok ⟨[], [x, y]⟩ s1 := by
    simp only [itE, evL, h0, R.bind, pIter, srcOf, items, Option.map_some]
  rw [i0]
  show forL _ (foT G call (.n i) b) [x, y] ρ s1 = _
  rw [chk_nil]
  rw [for_go (ρ' := ρ1) (s' := s2), for_go (ρ' := ρ2) (s' := s3), for_nil]
  · simp only [foT, put, hi1, if_true, h2, RS.turn]
  · simp only [foT, put, hi, if_true, h1, RS.turn]
end Pi

set_option Elab.async false
set_option linter.all false
set_option maxRecDepth 100000
namespace Pi
open PySem

def Has (P : Prog) : List Nat → Prop
  | [] => True
  | i :: r => P.F i = Pl.Lib i ∧ Has P r
theorem Has.at {P : Prog} {i : Nat} : ∀ {l : List Nat}, Has P l → i ∈ l → P.F i = Pl.Lib i
  | j :: r, h, hi => by
    rcases List.mem_cons.mp hi with e | hi
    · rw [e]; exact h.1
    · exact Has.at h.2 hi
theorem Has.sub {P : Prog} {l : List Nat} (h : Has P l) : ∀ {l' : List Nat}, (∀ i ∈ l', i ∈ l) → Has P l'
  | [], _ => trivial
  | j :: r, k => ⟨h.at (k j List.mem_cons_self), h.sub fun i hi => k i (List.mem_cons_of_mem _ hi)⟩
theorem has_run {P : Prog} {l : List Nat} (h : Has P l) {n f : Nat} {F : Fn} {ds : List D} {s : Store} (hi : f ∈ l) (e : Pl.Lib f = some F) : run P (n + 1) f ds s = runFn P.G (run P n) F ds s := run_of ((h.at hi).trans e)

theorem two_pow_le {j k : Nat} (h : j ≤ k) : 2 ^ j ≤ 2 ^ k := Nat.pow_le_pow_right (by decide) h
theorem mulOk_big {i j : Int} (h1 : i.natAbs < big) (h2 : j.natAbs < big) : mulOk i j = true := by
  unfold mulOk
  simp [h1, h2]
theorem big_of {n k : Nat} (h : n < 2 ^ k) (hk : k ≤ 60000) : n < big := Nat.lt_of_lt_of_le h (two_pow_le hk)
theorem dmax_of {n k : Nat} (h : n < 2 ^ k) (hk : k ≤ 8000) : n < dmax := Nat.lt_of_lt_of_le h (two_pow_le hk)
theorem most_of {n k : Nat} (h : n < 2 ^ k) (hk : k ≤ 70000) : n < most := Nat.lt_of_lt_of_le h (two_pow_le hk)
theorem lt_mul_pow {a b j k : Nat} (h1 : a < 2 ^ j) (h2 : b < 2 ^ k) : a * b < 2 ^ (j + k) := by
  rw [Nat.pow_add]
  exact Nat.mul_lt_mul'' h1 h2
/-- a whole number below 2 ^ k -/
class Bi (k : outParam Nat) (i : Int) : Prop where
  lt : i.natAbs < 2 ^ k
/-- a fraction of numbers below 2 ^ k -/
class Bq (k : outParam Nat) (q : Rat) : Prop where
  num : q.num.natAbs < 2 ^ k
  den : q.den < 2 ^ k
theorem Bi.big {k : Nat} {i : Int} (b : Bi k i) (h : k ≤ 60000) : i.natAbs < big := big_of b.lt h
instance Bi.mul {j k : Nat} {a b : Int} [x : Bi j a] [y : Bi k b] : Bi (j + k) (a * b) := ⟨by rw [Int.natAbs_mul]; exact lt_mul_pow x.lt y.lt⟩
instance Bi.add {j k : Nat} {a b : Int} [x : Bi j a] [y : Bi k b] : Bi (max j k + 1) (a + b) := ⟨by
  have h1 := Nat.lt_of_lt_of_le x.lt (two_pow_le (Nat.le_max_left j k))
  have h2 := Nat.lt_of_lt_of_le y.lt (two_pow_le (Nat.le_max_right j k))
  have := Int.natAbs_add_le a b
  rw [Nat.pow_succ]
  omega⟩
instance Bi.neg {j : Nat} {a : Int} [x : Bi j a] : Bi j (-a) := ⟨by rw [Int.natAbs_neg]; exact x.lt⟩
instance Bi.sub {j k : Nat} {a b : Int} [x : Bi j a] [y : Bi k b] : Bi (max j k + 1) (a - b) := by
  rw [Int.sub_eq_add_neg]
  exact Bi.add
instance Bi.num {k : Nat} {q : Rat} [x : Bq k q] : Bi k q.num := ⟨x.num⟩
instance Bi.den {k : Nat} {q : Rat} [x : Bq k q] : Bi k (q.den : Int) := ⟨by simpa using x.den⟩
/-- a quotient is no larger than what it is made of -/
theorem num_le (a b : Int) : (Rat.divInt a b).num.natAbs ≤ a.natAbs := by
  rw [Rat.num_divInt]
  by_cases hb : b = 0
  · subst hb
    simp
  have hg : (0 : Int) < (b.gcd a : Int) := by
    have := Int.gcd_pos_of_ne_zero_left a hb
    omega
  rw [Int.natAbs_ediv_of_dvd (Int.dvd_trans (Int.gcd_dvd_right b a) (Int.dvd_mul_left _ _)), Int.natAbs_mul]
  refine Nat.le_trans (Nat.div_le_self _ _) ?_
  have : b.sign.natAbs ≤ 1 := by rw [Int.natAbs_sign_of_ne_zero hb] <;> exact Nat.le_refl _
  calc b.sign.natAbs * a.natAbs ≤ 1 * a.natAbs := Nat.mul_le_mul_right _ this
    _ = a.natAbs := Nat.one_mul _
theorem den_le (a : Int) {b : Int} (hb : b ≠ 0) : (Rat.divInt a b).den ≤ b.natAbs := by
  rw [Rat.den_divInt, if_neg hb]
  exact Nat.div_le_self _ _
theorem Bq.divInt {j k : Nat} {a b : Int} (hb : b ≠ 0) (x : Bi j a) (y : Bi k b) : Bq (max j k) (Rat.divInt a b) :=
  ⟨Nat.lt_of_le_of_lt (num_le a b) (Nat.lt_of_lt_of_le x.lt (two_pow_le (Nat.le_max_left _ _))), Nat.lt_of_le_of_lt (den_le a hb) (Nat.lt_of_lt_of_le y.lt (two_pow_le (Nat.le_max_right _ _)))⟩
theorem Bq.mono {j k : Nat} {q : Rat} (x : Bq j q) (h : j ≤ k) : Bq k q := ⟨Nat.lt_of_lt_of_le x.num (two_pow_le h), Nat.lt_of_lt_of_le x.den (two_pow_le h)⟩
theorem den_ne (q : Rat) : (q.den : Int) ≠ 0 := by have := q.den_pos; omega
theorem den_ne2 (a b : Rat) : (a.den : Int) * b.den ≠ 0 := Int.mul_ne_zero (den_ne a) (den_ne b)
theorem add_eq (a b : Rat) : a + b = Rat.divInt (a.num * b.den + b.num * a.den) (a.den * b.den) := by
  conv => lhs; rw [← Rat.num_divInt_den a, ← Rat.num_divInt_den b]
  rw [Rat.divInt_add_divInt _ _ (den_ne a) (den_ne b)]
theorem sub_eq (a b : Rat) : a - b = Rat.divInt (a.num * b.den - b.num * a.den) (a.den * b.den) := by
  conv => lhs; rw [← Rat.num_divInt_den a, ← Rat.num_divInt_den b]
  rw [Rat.divInt_sub_divInt _ _ (den_ne a) (den_ne b)]
theorem mul_eq (a b : Rat) : a * b = Rat.divInt (a.num * b.num) (a.den * b.den) := by
  conv => lhs; rw [← Rat.num_divInt_den a, ← Rat.num_divInt_den b]
  rw [Rat.divInt_mul_divInt]
theorem div_eq (a b : Rat) : a / b = Rat.divInt (a.num * b.den) (a.den * b.num) := by
  rw [Rat.div_def, Rat.inv_def]
  conv => lhs; rw [← Rat.num_divInt_den a]
  rw [Rat.divInt_mul_divInt]
instance Bq.add {j k : Nat} {a b : Rat} [x : Bq j a] [y : Bq k b] : Bq (j + k + 1) (a + b) := by
  rw [add_eq]
  refine (Bq.divInt (den_ne2 a b) (Bi.add (x := Bi.mul (x := Bi.num) (y := Bi.den)) (y := Bi.mul (x := Bi.num) (y := Bi.den))) (Bi.mul (x := Bi.den) (y := Bi.den))).mono ?_
  omega
instance Bq.sub {j k : Nat} {a b : Rat} [x : Bq j a] [y : Bq k b] : Bq (j + k + 1) (a - b) := by
  rw [sub_eq]
  refine (Bq.divInt (den_ne2 a b) (Bi.sub (x := Bi.mul (x := Bi.num) (y := Bi.den)) (y := Bi.mul (x := Bi.num) (y := Bi.den))) (Bi.mul (x := Bi.den) (y := Bi.den))).mono ?_
  omega
instance Bq.mul {j k : Nat} {a b : Rat} [x : Bq j a] [y : Bq k b] : Bq (j + k) (a * b) := by
  rw [mul_eq]
  refine (Bq.divInt (den_ne2 a b) (Bi.mul (x := Bi.num) (y := Bi.num)) (Bi.mul (x := Bi.den) (y := Bi.den))).mono ?_
  omega
theorem two_le (k : Nat) : 1 < 2 ^ (k + 1) := by
  have := Nat.one_le_two_pow (n := k)
  rw [Nat.pow_succ]; omega
instance Bq.div {j k : Nat} {a b : Rat} [x : Bq j a] [y : Bq k b] : Bq (j + k + 1) (a / b) := by
  by_cases hb : b = 0
  · subst hb
    rw [Rat.div_def, Rat.inv_zero, Rat.mul_zero]
    exact ⟨by simp [Nat.two_pow_pos], two_le _⟩
  have hn : b.num ≠ 0 := fun z => hb (Rat.num_eq_zero.mp z)
  rw [div_eq]
  refine (Bq.divInt (Int.mul_ne_zero (den_ne a) hn) (Bi.mul (x := Bi.num) (y := Bi.den)) (Bi.mul (x := Bi.den) (y := Bi.num))).mono ?_
  omega
instance Bq.neg {j : Nat} {a : Rat} [x : Bq j a] : Bq j (-a) := ⟨by simpa using x.num, by simpa using x.den⟩

section
variable {P : Prog} {s : Store}
abbrev b_common : List Sm := [.par [0, 1] [.var 1, .bin false .mod (.blt false .int [.var 0]) (.var 1)]]
theorem turn_common (call : Call) (G : Nat → Option D) (a b : Int) : whT G call (.cmp .gt (.var 1) (.int 0)) b_common [some (.int a), some (.int b)] s = if 0 < b then .go [some (.int b), some (.int (a.fmod b))] s else .fin (.ok .nx [some (.int a), some (.int b)] s) := by
  unfold whT
  by_cases hz : 0 < b
  · have hn : b ≠ 0 := by omega
    simp only [runFn, evSs, ev_var, ev_int, ev_bl, ev_non, ev_str, ev_glob, ev_bin, ev_neg, ev_not, ev_and, ev_or, ev_cmp, ev_chain, ev_isn, ev_isb, ev_ite, ev_tup, ev_lst, ev_idx, ev_slice, ev_call, ev_blt, ev_inst, ev_meth, ev_comp, evL_nil, evL_cons, evAnd_1, evOr_1, evAnd_cons, evOr_cons, evS_set, evS_par, evS_unp, evS_sub, evS_subs, evS_aug, evS_ex, evS_ret, evS_ite, evS_whl, evS_for, evS_brk, evS_pass, itE, pIter, srcOf, chk_nil, compEnd, evAnd1, evSub, evLT, evSubs, R.bind, R.thn, RS.turn, PR.fin, asB, kRef, kNeg, kNot, kIsn, kIsb, kTup, kInst, kSet, kPar, kPut, kAug, kSubs, isNon_non, isNon_bl, isNon_int, isNon_str, isNon_tup, isNon_lst, isNon_klst, isNon_ref, isT_non_int, isT_non_bool, isT_non_tuple, isT_non_list, isT_non_str, isT_non_tuple_list, isT_non_list_tuple, isT_bl_int, isT_bl_bool, isT_bl_tuple, isT_bl_list, isT_bl_str, isT_bl_tuple_list, isT_bl_list_tuple, isT_int_int, isT_int_bool, isT_int_tuple, isT_int_list, isT_int_str, isT_int_tuple_list, isT_int_list_tuple, isT_str_int, isT_str_bool, isT_str_tuple, isT_str_list, isT_str_str, isT_str_tuple_list, isT_str_list_tuple, isT_tup_int, isT_tup_bool, isT_tup_tuple, isT_tup_list, isT_tup_str, isT_tup_tuple_list, isT_tup_list_tuple, isT_lst_int, isT_lst_bool, isT_lst_tuple, isT_lst_list, isT_lst_str, isT_lst_tuple_list, isT_lst_list_tuple, isT_klst_int, isT_klst_bool, isT_klst_tuple, isT_klst_list, isT_klst_str, isT_klst_tuple_list, isT_klst_list_tuple, isT_ref_int, isT_ref_bool, isT_ref_tuple, isT_ref_list, isT_ref_str, isT_ref_tuple_list, isT_ref_list_tuple, cmp_eqI, cmp_neI, cmp_ltI, cmp_leI, cmp_gtI, cmp_geI, cmp_eqB, cmp_neB, idx_hand0, set_hand0, idx_hand1, set_hand1, idx_hand2, set_hand2, idx_hand3, set_hand3, idx_hand4, set_hand4, pBin, idx_tup0, idx_tup1, idx_tup2, idx_tup3, idx_tup4, idx_tup5, idx_tup6, idx_tup7, Int.cast_ofNat_Int, blt_abs, blt_int, blt_intB, blt_len_tup, blt_len_lst, blt_len_klst, blt_tuple_tup, blt_tuple_lst, blt_list_tup, blt_list_lst, blt_sum, blt_all_lst, blt_any_lst, blt_max2, blt_min2, intsD, boolsD, List.length_map, items, place, put, putL, wipe, Tg.names, Tg.namesL, deref, List.map_cons, List.map_nil, List.length_cons, List.length_nil, List.getElem?_cons_zero, List.getElem?_cons_succ, List.getElem?_nil, List.getElem?_append, List.set_cons_zero, List.set_cons_succ, List.set_nil, List.cons_append, List.nil_append, List.append_nil, List.replicate_succ, List.replicate_zero, Nat.sub_self, Nat.add_sub_cancel, Option.map_some, Option.map_none, Option.bind_some, Option.bind_none, Option.some.injEq, if_true, if_false, ite_true, ite_false, Bool.false_eq_true, reduceCtorEq, Nat.reduceSub, Nat.reduceAdd, Nat.reduceLT, Nat.reduceLeDiff, Nat.reduceEqDiff, Nat.reduceMul, Int.reduceLT, Int.reduceLE, Int.reduceEq, Int.reduceNe, Int.reducePow, Int.reduceToNat, Int.reduceNeg, Int.reduceNegSucc, Nat.zero_add, Int.reduceAdd, Int.reduceSub, Int.reduceMul, not_true_eq_false, not_false_eq_true, Nat.lt_irrefl, Nat.zero_le, Nat.zero_lt_succ, Nat.succ_sub_succ_eq_sub, Nat.reduceSucc, bne_tt, bne_tf, bne_ft, Bool.not_true, Bool.not_false, Bool.true_and, Bool.false_and, Bool.and_true, Bool.and_false, Bool.or_true, Bool.or_false, Bool.true_or, Bool.false_or, bne_self_eq_false, beq_self_eq_true, hz, hn, decide_true, ne_eq, not_false_eq_true, Nat.reduceAdd]
  · simp only [runFn, evSs, ev_var, ev_int, ev_bl, ev_non, ev_str, ev_glob, ev_bin, ev_neg, ev_not, ev_and, ev_or, ev_cmp, ev_chain, ev_isn, ev_isb, ev_ite, ev_tup, ev_lst, ev_idx, ev_slice, ev_call, ev_blt, ev_inst, ev_meth, ev_comp, evL_nil, evL_cons, evAnd_1, evOr_1, evAnd_cons, evOr_cons, evS_set, evS_par, evS_unp, evS_sub, evS_subs, evS_aug, evS_ex, evS_ret, evS_ite, evS_whl, evS_for, evS_brk, evS_pass, itE, pIter, srcOf, chk_nil, compEnd, evAnd1, evSub, evLT, evSubs, R.bind, R.thn, RS.turn, PR.fin, asB, kRef, kNeg, kNot, kIsn, kIsb, kTup, kInst, kSet, kPar, kPut, kAug, kSubs, isNon_non, isNon_bl, isNon_int, isNon_str, isNon_tup, isNon_lst, isNon_klst, isNon_ref, isT_non_int, isT_non_bool, isT_non_tuple, isT_non_list, isT_non_str, isT_non_tuple_list, isT_non_list_tuple, isT_bl_int, isT_bl_bool, isT_bl_tuple, isT_bl_list, isT_bl_str, isT_bl_tuple_list, isT_bl_list_tuple, isT_int_int, isT_int_bool, isT_int_tuple, isT_int_list, isT_int_str, isT_int_tuple_list, isT_int_list_tuple, isT_str_int, isT_str_bool, isT_str_tuple, isT_str_list, isT_str_str, isT_str_tuple_list, isT_str_list_tuple, isT_tup_int, isT_tup_bool, isT_tup_tuple, isT_tup_list, isT_tup_str, isT_tup_tuple_list, isT_tup_list_tuple, isT_lst_int, isT_lst_bool, isT_lst_tuple, isT_lst_list, isT_lst_str, isT_lst_tuple_list, isT_lst_list_tuple, isT_klst_int, isT_klst_bool, isT_klst_tuple, isT_klst_list, isT_klst_str, isT_klst_tuple_list, isT_klst_list_tuple, isT_ref_int, isT_ref_bool, isT_ref_tuple, isT_ref_list, isT_ref_str, isT_ref_tuple_list, isT_ref_list_tuple, cmp_eqI, cmp_neI, cmp_ltI, cmp_leI, cmp_gtI, cmp_geI, cmp_eqB, cmp_neB, idx_hand0, set_hand0, idx_hand1, set_hand1, idx_hand2, set_hand2, idx_hand3, set_hand3, idx_hand4, set_hand4, pBin, idx_tup0, idx_tup1, idx_tup2, idx_tup3, idx_tup4, idx_tup5, idx_tup6, idx_tup7, Int.cast_ofNat_Int, blt_abs, blt_int, blt_intB, blt_len_tup, blt_len_lst, blt_len_klst, blt_tuple_tup, blt_tuple_lst, blt_list_tup, blt_list_lst, blt_sum, blt_all_lst, blt_any_lst, blt_max2, blt_min2, intsD, boolsD, List.length_map, items, place, put, putL, wipe, Tg.names, Tg.namesL, deref, List.map_cons, List.map_nil, List.length_cons, List.length_nil, List.getElem?_cons_zero, List.getElem?_cons_succ, List.getElem?_nil, List.getElem?_append, List.set_cons_zero, List.set_cons_succ, List.set_nil, List.cons_append, List.nil_append, List.append_nil, List.replicate_succ, List.replicate_zero, Nat.sub_self, Nat.add_sub_cancel, Option.map_some, Option.map_none, Option.bind_some, Option.bind_none, Option.some.injEq, if_true, if_false, ite_true, ite_false, Bool.false_eq_true, reduceCtorEq, Nat.reduceSub, Nat.reduceAdd, Nat.reduceLT, Nat.reduceLeDiff, Nat.reduceEqDiff, Nat.reduceMul, Int.reduceLT, Int.reduceLE, Int.reduceEq, Int.reduceNe, Int.reducePow, Int.reduceToNat, Int.reduceNeg, Int.reduceNegSucc, Nat.zero_add, Int.reduceAdd, Int.reduceSub, Int.reduceMul, not_true_eq_false, not_false_eq_true, Nat.lt_irrefl, Nat.zero_le, Nat.zero_lt_succ, Nat.succ_sub_succ_eq_sub, Nat.reduceSucc, bne_tt, bne_tf, bne_ft, Bool.not_true, Bool.not_false, Bool.true_and, Bool.false_and, Bool.and_true, Bool.and_false, Bool.or_true, Bool.or_false, Bool.true_or, Bool.false_or, bne_self_eq_false, beq_self_eq_true, hz, decide_false]
theorem loop_common (call : Call) (G : Nat → Option D) : ∀ (m : Nat) (a b : Int), 0 ≤ a → 0 ≤ b → b.toNat < m →
    loopN (whT G call (.cmp .gt (.var 1) (.int 0)) b_common) m [some (.int a), some (.int b)] s = .ok .nx [some (.int (Int.gcd a b)), some (.int 0)] s
  | 0, _, _, _, _, h => by omega
  | m + 1, a, b, ha, hb, h => by
    by_cases hz : 0 < b
    · rw [loop_go ((turn_common call G a b).trans (if_pos hz))]
      have h1 : 0 ≤ a.fmod b := Int.fmod_nonneg_of_pos a hz
      have h2 : a.fmod b < b := Int.fmod_lt_of_pos a hz
      rw [loop_common call G m b (a.fmod b) hb h1 (by omega)]
      congr 4
      rw [Int.fmod_eq_emod_of_nonneg a hb]
      have e : Int.gcd b (a % b + b * (a / b)) = Int.gcd b (a % b) := Int.gcd_add_mul_left_right _ _ _
      rw [Int.emod_add_mul_ediv] at e
      rw [← e, Int.gcd_comm]
    · have : b = 0 := by omega
      subst this
      rw [loop_fin ((turn_common call G a 0).trans (if_neg hz))]
      simp [Int.gcd, Int.natAbs_of_nonneg ha]
theorem run_common (h : Has P Pl.Q_common) (a b : Int) (hb : b.natAbs < most) (n : Nat) : run P (n + 1) 101 [.int a, .int b] s = .ok (.int (Int.gcd a b)) s := by
  rw [has_run (F := Pl.F_common) h (by decide) rfl]
  have key := fun (x y : Int) (hx : 0 ≤ x) (hy : 0 ≤ y) (hm : y.toNat < most) => loop_common (s := s) (run P n) P.G most x y hx hy hm
  simp only [runFn, evSs, ev_var, ev_int, ev_bl, ev_non, ev_str, ev_glob, ev_bin, ev_neg, ev_not, ev_and, ev_or, ev_cmp, ev_chain, ev_isn, ev_isb, ev_ite, ev_tup, ev_lst, ev_idx, ev_slice, ev_call, ev_blt, ev_inst, ev_meth, ev_comp, evL_nil, evL_cons, evAnd_1, evOr_1, evAnd_cons, evOr_cons, evS_set, evS_par, evS_unp, evS_sub, evS_subs, evS_aug, evS_ex, evS_ret, evS_ite, evS_whl, evS_for, evS_brk, evS_pass, itE, pIter, srcOf, chk_nil, compEnd, evAnd1, evSub, evLT, evSubs, R.bind, R.thn, RS.turn, PR.fin, asB, kRef, kNeg, kNot, kIsn, kIsb, kTup, kInst, kSet, kPar, kPut, kAug, kSubs, isNon_non, isNon_bl, isNon_int, isNon_str, isNon_tup, isNon_lst, isNon_klst, isNon_ref, isT_non_int, isT_non_bool, isT_non_tuple, isT_non_list, isT_non_str, isT_non_tuple_list, isT_non_list_tuple, isT_bl_int, isT_bl_bool, isT_bl_tuple, isT_bl_list, isT_bl_str, isT_bl_tuple_list, isT_bl_list_tuple, isT_int_int, isT_int_bool, isT_int_tuple, isT_int_list, isT_int_str, isT_int_tuple_list, isT_int_list_tuple, isT_str_int, isT_str_bool, isT_str_tuple, isT_str_list, isT_str_str, isT_str_tuple_list, isT_str_list_tuple, isT_tup_int, isT_tup_bool, isT_tup_tuple, isT_tup_list, isT_tup_str, isT_tup_tuple_list, isT_tup_list_tuple, isT_lst_int, isT_lst_bool, isT_lst_tuple, isT_lst_list, isT_lst_str, isT_lst_tuple_list, isT_lst_list_tuple, isT_klst_int, isT_klst_bool, isT_klst_tuple, isT_klst_list, isT_klst_str, isT_klst_tuple_list, isT_klst_list_tuple, isT_ref_int, isT_ref_bool, isT_ref_tuple, isT_ref_list, isT_ref_str, isT_ref_tuple_list, isT_ref_list_tuple, cmp_eqI, cmp_neI, cmp_ltI, cmp_leI, cmp_gtI, cmp_geI, cmp_eqB, cmp_neB, idx_hand0, set_hand0, idx_hand1, set_hand1, idx_hand2, set_hand2, idx_hand3, set_hand3, idx_hand4, set_hand4, pBin, idx_tup0, idx_tup1, idx_tup2, idx_tup3, idx_tup4, idx_tup5, idx_tup6, idx_tup7, Int.cast_ofNat_Int, blt_abs, blt_int, blt_intB, blt_len_tup, blt_len_lst, blt_len_klst, blt_tuple_tup, blt_tuple_lst, blt_list_tup, blt_list_lst, blt_sum, blt_all_lst, blt_any_lst, blt_max2, blt_min2, intsD, boolsD, List.length_map, items, place, put, putL, wipe, Tg.names, Tg.namesL, deref, List.map_cons, List.map_nil, List.length_cons, List.length_nil, List.getElem?_cons_zero, List.getElem?_cons_succ, List.getElem?_nil, List.getElem?_append, List.set_cons_zero, List.set_cons_succ, List.set_nil, List.cons_append, List.nil_append, List.append_nil, List.replicate_succ, List.replicate_zero, Nat.sub_self, Nat.add_sub_cancel, Option.map_some, Option.map_none, Option.bind_some, Option.bind_none, Option.some.injEq, if_true, if_false, ite_true, ite_false, Bool.false_eq_true, reduceCtorEq, Nat.reduceSub, Nat.reduceAdd, Nat.reduceLT, Nat.reduceLeDiff, Nat.reduceEqDiff, Nat.reduceMul, Int.reduceLT, Int.reduceLE, Int.reduceEq, Int.reduceNe, Int.reducePow, Int.reduceToNat, Int.reduceNeg, Int.reduceNegSucc, Nat.zero_add, Int.reduceAdd, Int.reduceSub, Int.reduceMul, not_true_eq_false, not_false_eq_true, Nat.lt_irrefl, Nat.zero_le, Nat.zero_lt_succ, Nat.succ_sub_succ_eq_sub, Nat.reduceSucc, bne_tt, bne_tf, bne_ft, Bool.not_true, Bool.not_false, Bool.true_and, Bool.false_and, Bool.and_true, Bool.and_false, Bool.or_true, Bool.or_false, Bool.true_or, Bool.false_or, bne_self_eq_false, beq_self_eq_true, Pl.F_common, Pl.B_common]
  have ea : (if a < 0 then -a else a) = (a.natAbs : Int) := by split <;> omega
  have eb : (if b < 0 then -b else b) = (b.natAbs : Int) := by split <;> omega
  rw [ea, eb]
  rw [key _ _ (by omega) (by omega) (by simpa using hb)]
  simp only [runFn, evSs, ev_var, ev_int, ev_bl, ev_non, ev_str, ev_glob, ev_bin, ev_neg, ev_not, ev_and, ev_or, ev_cmp, ev_chain, ev_isn, ev_isb, ev_ite, ev_tup, ev_lst, ev_idx, ev_slice, ev_call, ev_blt, ev_inst, ev_meth, ev_comp, evL_nil, evL_cons, evAnd_1, evOr_1, evAnd_cons, evOr_cons, evS_set, evS_par, evS_unp, evS_sub, evS_subs, evS_aug, evS_ex, evS_ret, evS_ite, evS_whl, evS_for, evS_brk, evS_pass, itE, pIter, srcOf, chk_nil, compEnd, evAnd1, evSub, evLT, evSubs, R.bind, R.thn, RS.turn, PR.fin, asB, kRef, kNeg, kNot, kIsn, kIsb, kTup, kInst, kSet, kPar, kPut, kAug, kSubs, isNon_non, isNon_bl, isNon_int, isNon_str, isNon_tup, isNon_lst, isNon_klst, isNon_ref, isT_non_int, isT_non_bool, isT_non_tuple, isT_non_list, isT_non_str, isT_non_tuple_list, isT_non_list_tuple, isT_bl_int, isT_bl_bool, isT_bl_tuple, isT_bl_list, isT_bl_str, isT_bl_tuple_list, isT_bl_list_tuple, isT_int_int, isT_int_bool, isT_int_tuple, isT_int_list, isT_int_str, isT_int_tuple_list, isT_int_list_tuple, isT_str_int, isT_str_bool, isT_str_tuple, isT_str_list, isT_str_str, isT_str_tuple_list, isT_str_list_tuple, isT_tup_int, isT_tup_bool, isT_tup_tuple, isT_tup_list, isT_tup_str, isT_tup_tuple_list, isT_tup_list_tuple, isT_lst_int, isT_lst_bool, isT_lst_tuple, isT_lst_list, isT_lst_str, isT_lst_tuple_list, isT_lst_list_tuple, isT_klst_int, isT_klst_bool, isT_klst_tuple, isT_klst_list, isT_klst_str, isT_klst_tuple_list, isT_klst_list_tuple, isT_ref_int, isT_ref_bool, isT_ref_tuple, isT_ref_list, isT_ref_str, isT_ref_tuple_list, isT_ref_list_tuple, cmp_eqI, cmp_neI, cmp_ltI, cmp_leI, cmp_gtI, cmp_geI, cmp_eqB, cmp_neB, idx_hand0, set_hand0, idx_hand1, set_hand1, idx_hand2, set_hand2, idx_hand3, set_hand3, idx_hand4, set_hand4, pBin, idx_tup0, idx_tup1, idx_tup2, idx_tup3, idx_tup4, idx_tup5, idx_tup6, idx_tup7, Int.cast_ofNat_Int, blt_abs, blt_int, blt_intB, blt_len_tup, blt_len_lst, blt_len_klst, blt_tuple_tup, blt_tuple_lst, blt_list_tup, blt_list_lst, blt_sum, blt_all_lst, blt_any_lst, blt_max2, blt_min2, intsD, boolsD, List.length_map, items, place, put, putL, wipe, Tg.names, Tg.namesL, deref, List.map_cons, List.map_nil, List.length_cons, List.length_nil, List.getElem?_cons_zero, List.getElem?_cons_succ, List.getElem?_nil, List.getElem?_append, List.set_cons_zero, List.set_cons_succ, List.set_nil, List.cons_append, List.nil_append, List.append_nil, List.replicate_succ, List.replicate_zero, Nat.sub_self, Nat.add_sub_cancel, Option.map_some, Option.map_none, Option.bind_some, Option.bind_none, Option.some.injEq, if_true, if_false, ite_true, ite_false, Bool.false_eq_true, reduceCtorEq, Nat.reduceSub, Nat.reduceAdd, Nat.reduceLT, Nat.reduceLeDiff, Nat.reduceEqDiff, Nat.reduceMul, Int.reduceLT, Int.reduceLE, Int.reduceEq, Int.reduceNe, Int.reducePow, Int.reduceToNat, Int.reduceNeg, Int.reduceNegSucc, Nat.zero_add, Int.reduceAdd, Int.reduceSub, Int.reduceMul, not_true_eq_false, not_false_eq_true, Nat.lt_irrefl, Nat.zero_le, Nat.zero_lt_succ, Nat.succ_sub_succ_eq_sub, Nat.reduceSucc, bne_tt, bne_tf, bne_ft, Bool.not_true, Bool.not_false, Bool.true_and, Bool.false_and, Bool.and_true, Bool.and_false, Bool.or_true, Bool.or_false, Bool.true_or, Bool.false_or, bne_self_eq_false, beq_self_eq_true, Int.gcd, Int.natAbs_natCast]

/-- a fraction in lowest terms, as the program has it -/
def fr (q : Rat) : D := .tup [.int q.num, .int q.den]
theorem fdiv_gcd {a : Int} {g : Nat} (hg : g ≠ 0) : a.fdiv (g : Int) = a / (g : Int) := Int.fdiv_eq_ediv_of_nonneg _ (by omega)
theorem run_fraction (h : Has P Pl.Q_fraction) (a b : Int) (hb : b ≠ 0) (hs : b.natAbs < dmax) (n : Nat) : run P (n + 2) 102 [.int a, .int b] s = .ok (fr (Rat.divInt a b)) s := by
  have hc : Has P Pl.Q_common := h.sub (by decide)
  have hm : b.natAbs < most := Nat.lt_of_lt_of_le hs (two_pow_le (by decide))
  have rc := fun (x y : Int) (hy : y.natAbs < most) => run_common (s := s) hc x y hy n
  rw [has_run (F := Pl.F_fraction) h (by decide) rfl]
  have gz : b.gcd a ≠ 0 := Nat.ne_of_gt (Int.gcd_pos_of_ne_zero_left a hb)
  have gd : b.gcd a < dmax := Nat.lt_of_le_of_lt (Nat.le_of_dvd (by omega) (Nat.gcd_dvd_left _ _)) hs
  have g1 : (a.gcd b : Int) ≠ 0 := by rw [Int.gcd_comm]; omega
  have g2 : (a.gcd b : Int).natAbs < dmax := by rw [Int.gcd_comm]; simpa using gd
  have num := Rat.num_divInt a b
  have den := Rat.den_divInt a b
  rw [if_neg hb] at den
  by_cases hl : b < 0
  · have hm2 : (-b).natAbs < most := by simpa using hm
    have e1 : (-a).gcd (-b) = a.gcd b := by simp
    simp only [runFn, evSs, ev_var, ev_int, ev_bl, ev_non, ev_str, ev_glob, ev_bin, ev_neg, ev_not, ev_and, ev_or, ev_cmp, ev_chain, ev_isn, ev_isb, ev_ite, ev_tup, ev_lst, ev_idx, ev_slice, ev_call, ev_blt, ev_inst, ev_meth, ev_comp, evL_nil, evL_cons, evAnd_1, evOr_1, evAnd_cons, evOr_cons, evS_set, evS_par, evS_unp, evS_sub, evS_subs, evS_aug, evS_ex, evS_ret, evS_ite, evS_whl, evS_for, evS_brk, evS_pass, itE, pIter, srcOf, chk_nil, compEnd, evAnd1, evSub, evLT, evSubs, R.bind, R.thn, RS.turn, PR.fin, asB, kRef, kNeg, kNot, kIsn, kIsb, kTup, kInst, kSet, kPar, kPut, kAug, kSubs, isNon_non, isNon_bl, isNon_int, isNon_str, isNon_tup, isNon_lst, isNon_klst, isNon_ref, isT_non_int, isT_non_bool, isT_non_tuple, isT_non_list, isT_non_str, isT_non_tuple_list, isT_non_list_tuple, isT_bl_int, isT_bl_bool, isT_bl_tuple, isT_bl_list, isT_bl_str, isT_bl_tuple_list, isT_bl_list_tuple, isT_int_int, isT_int_bool, isT_int_tuple, isT_int_list, isT_int_str, isT_int_tuple_list, isT_int_list_tuple, isT_str_int, isT_str_bool, isT_str_tuple, isT_str_list, isT_str_str, isT_str_tuple_list, isT_str_list_tuple, isT_tup_int, isT_tup_bool, isT_tup_tuple, isT_tup_list, isT_tup_str, isT_tup_tuple_list, isT_tup_list_tuple, isT_lst_int, isT_lst_bool, isT_lst_tuple, isT_lst_list, isT_lst_str, isT_lst_tuple_list, isT_lst_list_tuple, isT_klst_int, isT_klst_bool, isT_klst_tuple, isT_klst_list, isT_klst_str, isT_klst_tuple_list, isT_klst_list_tuple, isT_ref_int, isT_ref_bool, isT_ref_tuple, isT_ref_list, isT_ref_str, isT_ref_tuple_list, isT_ref_list_tuple, cmp_eqI, cmp_neI, cmp_ltI, cmp_leI, cmp_gtI, cmp_geI, cmp_eqB, cmp_neB, idx_hand0, set_hand0, idx_hand1, set_hand1, idx_hand2, set_hand2, idx_hand3, set_hand3, idx_hand4, set_hand4, pBin, idx_tup0, idx_tup1, idx_tup2, idx_tup3, idx_tup4, idx_tup5, idx_tup6, idx_tup7, Int.cast_ofNat_Int, blt_abs, blt_int, blt_intB, blt_len_tup, blt_len_lst, blt_len_klst, blt_tuple_tup, blt_tuple_lst, blt_list_tup, blt_list_lst, blt_sum, blt_all_lst, blt_any_lst, blt_max2, blt_min2, intsD, boolsD, List.length_map, items, place, put, putL, wipe, Tg.names, Tg.namesL, deref, List.map_cons, List.map_nil, List.length_cons, List.length_nil, List.getElem?_cons_zero, List.getElem?_cons_succ, List.getElem?_nil, List.getElem?_append, List.set_cons_zero, List.set_cons_succ, List.set_nil, List.cons_append, List.nil_append, List.append_nil, List.replicate_succ, List.replicate_zero, Nat.sub_self, Nat.add_sub_cancel, Option.map_some, Option.map_none, Option.bind_some, Option.bind_none, Option.some.injEq, if_true, if_false, ite_true, ite_false, Bool.false_eq_true, reduceCtorEq, Nat.reduceSub, Nat.reduceAdd, Nat.reduceLT, Nat.reduceLeDiff, Nat.reduceEqDiff, Nat.reduceMul, Int.reduceLT, Int.reduceLE, Int.reduceEq, Int.reduceNe, Int.reducePow, Int.reduceToNat, Int.reduceNeg, Int.reduceNegSucc, Nat.zero_add, Int.reduceAdd, Int.reduceSub, Int.reduceMul, not_true_eq_false, not_false_eq_true, Nat.lt_irrefl, Nat.zero_le, Nat.zero_lt_succ, Nat.succ_sub_succ_eq_sub, Nat.reduceSucc, bne_tt, bne_tf, bne_ft, Bool.not_true, Bool.not_false, Bool.true_and, Bool.false_and, Bool.and_true, Bool.and_false, Bool.or_true, Bool.or_false, Bool.true_or, Bool.false_or, bne_self_eq_false, beq_self_eq_true, Pl.F_fraction, Pl.B_fraction, hb, hl, decide_false, decide_true, rc _ _ hm2, e1, g1, g2, ne_eq, and_self]
    have sg : b.sign = -1 := Int.sign_eq_neg_one_of_neg hl
    unfold fr
    rw [num, den, sg, Int.gcd_comm a b, fdiv_gcd gz, fdiv_gcd gz, Int.natCast_ediv, show ((b.natAbs : Nat) : Int) = -b by omega, show (-1 : Int) * a = -a by omega]
  · simp only [runFn, evSs, ev_var, ev_int, ev_bl, ev_non, ev_str, ev_glob, ev_bin, ev_neg, ev_not, ev_and, ev_or, ev_cmp, ev_chain, ev_isn, ev_isb, ev_ite, ev_tup, ev_lst, ev_idx, ev_slice, ev_call, ev_blt, ev_inst, ev_meth, ev_comp, evL_nil, evL_cons, evAnd_1, evOr_1, evAnd_cons, evOr_cons, evS_set, evS_par, evS_unp, evS_sub, evS_subs, evS_aug, evS_ex, evS_ret, evS_ite, evS_whl, evS_for, evS_brk, evS_pass, itE, pIter, srcOf, chk_nil, compEnd, evAnd1, evSub, evLT, evSubs, R.bind, R.thn, RS.turn, PR.fin, asB, kRef, kNeg, kNot, kIsn, kIsb, kTup, kInst, kSet, kPar, kPut, kAug, kSubs, isNon_non, isNon_bl, isNon_int, isNon_str, isNon_tup, isNon_lst, isNon_klst, isNon_ref, isT_non_int, isT_non_bool, isT_non_tuple, isT_non_list, isT_non_str, isT_non_tuple_list, isT_non_list_tuple, isT_bl_int, isT_bl_bool, isT_bl_tuple, isT_bl_list, isT_bl_str, isT_bl_tuple_list, isT_bl_list_tuple, isT_int_int, isT_int_bool, isT_int_tuple, isT_int_list, isT_int_str, isT_int_tuple_list, isT_int_list_tuple, isT_str_int, isT_str_bool, isT_str_tuple, isT_str_list, isT_str_str, isT_str_tuple_list, isT_str_list_tuple, isT_tup_int, isT_tup_bool, isT_tup_tuple, isT_tup_list, isT_tup_str, isT_tup_tuple_list, isT_tup_list_tuple, isT_lst_int, isT_lst_bool, isT_lst_tuple, isT_lst_list, isT_lst_str, isT_lst_tuple_list, isT_lst_list_tuple, isT_klst_int, isT_klst_bool, isT_klst_tuple, isT_klst_list, isT_klst_str, isT_klst_tuple_list, isT_klst_list_tuple, isT_ref_int, isT_ref_bool, isT_ref_tuple, isT_ref_list, isT_ref_str, isT_ref_tuple_list, isT_ref_list_tuple, cmp_eqI, cmp_neI, cmp_ltI, cmp_leI, cmp_gtI, cmp_geI, cmp_eqB, cmp_neB, idx_hand0, set_hand0, idx_hand1, set_hand1, idx_hand2, set_hand2, idx_hand3, set_hand3, idx_hand4, set_hand4, pBin, idx_tup0, idx_tup1, idx_tup2, idx_tup3, idx_tup4, idx_tup5, idx_tup6, idx_tup7, Int.cast_ofNat_Int, blt_abs, blt_int, blt_intB, blt_len_tup, blt_len_lst, blt_len_klst, blt_tuple_tup, blt_tuple_lst, blt_list_tup, blt_list_lst, blt_sum, blt_all_lst, blt_any_lst, blt_max2, blt_min2, intsD, boolsD, List.length_map, items, place, put, putL, wipe, Tg.names, Tg.namesL, deref, List.map_cons, List.map_nil, List.length_cons, List.length_nil, List.getElem?_cons_zero, List.getElem?_cons_succ, List.getElem?_nil, List.getElem?_append, List.set_cons_zero, List.set_cons_succ, List.set_nil, List.cons_append, List.nil_append, List.append_nil, List.replicate_succ, List.replicate_zero, Nat.sub_self, Nat.add_sub_cancel, Option.map_some, Option.map_none, Option.bind_some, Option.bind_none, Option.some.injEq, if_true, if_false, ite_true, ite_false, Bool.false_eq_true, reduceCtorEq, Nat.reduceSub, Nat.reduceAdd, Nat.reduceLT, Nat.reduceLeDiff, Nat.reduceEqDiff, Nat.reduceMul, Int.reduceLT, Int.reduceLE, Int.reduceEq, Int.reduceNe, Int.reducePow, Int.reduceToNat, Int.reduceNeg, Int.reduceNegSucc, Nat.zero_add, Int.reduceAdd, Int.reduceSub, Int.reduceMul, not_true_eq_false, not_false_eq_true, Nat.lt_irrefl, Nat.zero_le, Nat.zero_lt_succ, Nat.succ_sub_succ_eq_sub, Nat.reduceSucc, bne_tt, bne_tf, bne_ft, Bool.not_true, Bool.not_false, Bool.true_and, Bool.false_and, Bool.and_true, Bool.and_false, Bool.or_true, Bool.or_false, Bool.true_or, Bool.false_or, bne_self_eq_false, beq_self_eq_true, Pl.F_fraction, Pl.B_fraction, hb, hl, decide_false, rc _ _ hm, g1, g2, ne_eq, and_self]
    have sg : b.sign = 1 := Int.sign_eq_one_of_pos (by omega)
    unfold fr
    rw [num, den, sg, Int.gcd_comm a b, fdiv_gcd gz, fdiv_gcd gz, Int.natCast_ediv, show ((b.natAbs : Nat) : Int) = b by omega, Int.one_mul]

theorem run_plus (h : Has P Pl.Q_plus) {j k : Nat} (a b : Rat) [x : Bq j a] [y : Bq k b] (hj : j ≤ 4000) (hk : k ≤ 4000) (n : Nat) : run P (n + 3) 106 [fr a, fr b] s = .ok (fr (a + b)) s := by
  have hc : Has P Pl.Q_fraction := h.sub (by decide)
  have m1 := mulOk_big (Bi.big (i := a.num) inferInstance (by omega)) (Bi.big (i := (b.den : Int)) inferInstance (by omega))
  have m2 := mulOk_big (Bi.big (i := b.num) inferInstance (by omega)) (Bi.big (i := (a.den : Int)) inferInstance (by omega))
  have m3 := mulOk_big (Bi.big (i := (a.den : Int)) inferInstance (by omega)) (Bi.big (i := (b.den : Int)) inferInstance (by omega))
  have hd := dmax_of (Bi.mul (a := (a.den : Int)) (b := (b.den : Int))).lt (by omega)
  rw [has_run (F := Pl.F_plus) h (by decide) rfl]
  simp only [runFn, evSs, ev_var, ev_int, ev_bl, ev_non, ev_str, ev_glob, ev_bin, ev_neg, ev_not, ev_and, ev_or, ev_cmp, ev_chain, ev_isn, ev_isb, ev_ite, ev_tup, ev_lst, ev_idx, ev_slice, ev_call, ev_blt, ev_inst, ev_meth, ev_comp, evL_nil, evL_cons, evAnd_1, evOr_1, evAnd_cons, evOr_cons, evS_set, evS_par, evS_unp, evS_sub, evS_subs, evS_aug, evS_ex, evS_ret, evS_ite, evS_whl, evS_for, evS_brk, evS_pass, itE, pIter, srcOf, chk_nil, compEnd, evAnd1, evSub, evLT, evSubs, R.bind, R.thn, RS.turn, PR.fin, asB, kRef, kNeg, kNot, kIsn, kIsb, kTup, kInst, kSet, kPar, kPut, kAug, kSubs, isNon_non, isNon_bl, isNon_int, isNon_str, isNon_tup, isNon_lst, isNon_klst, isNon_ref, isT_non_int, isT_non_bool, isT_non_tuple, isT_non_list, isT_non_str, isT_non_tuple_list, isT_non_list_tuple, isT_bl_int, isT_bl_bool, isT_bl_tuple, isT_bl_list, isT_bl_str, isT_bl_tuple_list, isT_bl_list_tuple, isT_int_int, isT_int_bool, isT_int_tuple, isT_int_list, isT_int_str, isT_int_tuple_list, isT_int_list_tuple, isT_str_int, isT_str_bool, isT_str_tuple, isT_str_list, isT_str_str, isT_str_tuple_list, isT_str_list_tuple, isT_tup_int, isT_tup_bool, isT_tup_tuple, isT_tup_list, isT_tup_str, isT_tup_tuple_list, isT_tup_list_tuple, isT_lst_int, isT_lst_bool, isT_lst_tuple, isT_lst_list, isT_lst_str, isT_lst_tuple_list, isT_lst_list_tuple, isT_klst_int, isT_klst_bool, isT_klst_tuple, isT_klst_list, isT_klst_str, isT_klst_tuple_list, isT_klst_list_tuple, isT_ref_int, isT_ref_bool, isT_ref_tuple, isT_ref_list, isT_ref_str, isT_ref_tuple_list, isT_ref_list_tuple, cmp_eqI, cmp_neI, cmp_ltI, cmp_leI, cmp_gtI, cmp_geI, cmp_eqB, cmp_neB, idx_hand0, set_hand0, idx_hand1, set_hand1, idx_hand2, set_hand2, idx_hand3, set_hand3, idx_hand4, set_hand4, pBin, idx_tup0, idx_tup1, idx_tup2, idx_tup3, idx_tup4, idx_tup5, idx_tup6, idx_tup7, Int.cast_ofNat_Int, blt_abs, blt_int, blt_intB, blt_len_tup, blt_len_lst, blt_len_klst, blt_tuple_tup, blt_tuple_lst, blt_list_tup, blt_list_lst, blt_sum, blt_all_lst, blt_any_lst, blt_max2, blt_min2, intsD, boolsD, List.length_map, items, place, put, putL, wipe, Tg.names, Tg.namesL, deref, List.map_cons, List.map_nil, List.length_cons, List.length_nil, List.getElem?_cons_zero, List.getElem?_cons_succ, List.getElem?_nil, List.getElem?_append, List.set_cons_zero, List.set_cons_succ, List.set_nil, List.cons_append, List.nil_append, List.append_nil, List.replicate_succ, List.replicate_zero, Nat.sub_self, Nat.add_sub_cancel, Option.map_some, Option.map_none, Option.bind_some, Option.bind_none, Option.some.injEq, if_true, if_false, ite_true, ite_false, Bool.false_eq_true, reduceCtorEq, Nat.reduceSub, Nat.reduceAdd, Nat.reduceLT, Nat.reduceLeDiff, Nat.reduceEqDiff, Nat.reduceMul, Int.reduceLT, Int.reduceLE, Int.reduceEq, Int.reduceNe, Int.reducePow, Int.reduceToNat, Int.reduceNeg, Int.reduceNegSucc, Nat.zero_add, Int.reduceAdd, Int.reduceSub, Int.reduceMul, not_true_eq_false, not_false_eq_true, Nat.lt_irrefl, Nat.zero_le, Nat.zero_lt_succ, Nat.succ_sub_succ_eq_sub, Nat.reduceSucc, bne_tt, bne_tf, bne_ft, Bool.not_true, Bool.not_false, Bool.true_and, Bool.false_and, Bool.and_true, Bool.and_false, Bool.or_true, Bool.or_false, Bool.true_or, Bool.false_or, bne_self_eq_false, beq_self_eq_true, Pl.F_plus, Pl.B_plus, fr, m1, m2, m3]
  rw [run_fraction hc _ _ (den_ne2 a b) hd n, add_eq]
  rfl
theorem run_minus (h : Has P Pl.Q_minus) {j k : Nat} (a b : Rat) [x : Bq j a] [y : Bq k b] (hj : j ≤ 4000) (hk : k ≤ 4000) (n : Nat) : run P (n + 3) Pl.I_minus [fr a, fr b] s = .ok (fr (a - b)) s := by
  have hc : Has P Pl.Q_fraction := h.sub (by decide)
  have m1 := mulOk_big (Bi.big (i := a.num) inferInstance (by omega)) (Bi.big (i := (b.den : Int)) inferInstance (by omega))
  have m2 := mulOk_big (Bi.big (i := b.num) inferInstance (by omega)) (Bi.big (i := (a.den : Int)) inferInstance (by omega))
  have m3 := mulOk_big (Bi.big (i := (a.den : Int)) inferInstance (by omega)) (Bi.big (i := (b.den : Int)) inferInstance (by omega))
  have hd := dmax_of (Bi.mul (a := (a.den : Int)) (b := (b.den : Int))).lt (by omega)
  rw [has_run (F := Pl.F_minus) h (by decide) rfl]
  simp only [runFn, evSs, ev_var, ev_int, ev_bl, ev_non, ev_str, ev_glob, ev_bin, ev_neg, ev_not, ev_and, ev_or, ev_cmp, ev_chain, ev_isn, ev_isb, ev_ite, ev_tup, ev_lst, ev_idx, ev_slice, ev_call, ev_blt, ev_inst, ev_meth, ev_comp, evL_nil, evL_cons, evAnd_1, evOr_1, evAnd_cons, evOr_cons, evS_set, evS_par, evS_unp, evS_sub, evS_subs, evS_aug, evS_ex, evS_ret, evS_ite, evS_whl, evS_for, evS_brk, evS_pass, itE, pIter, srcOf, chk_nil, compEnd, evAnd1, evSub, evLT, evSubs, R.bind, R.thn, RS.turn, PR.fin, asB, kRef, kNeg, kNot, kIsn, kIsb, kTup, kInst, kSet, kPar, kPut, kAug, kSubs, isNon_non, isNon_bl, isNon_int, isNon_str, isNon_tup, isNon_lst, isNon_klst, isNon_ref, isT_non_int, isT_non_bool, isT_non_tuple, isT_non_list, isT_non_str, isT_non_tuple_list, isT_non_list_tuple, isT_bl_int, isT_bl_bool, isT_bl_tuple, isT_bl_list, isT_bl_str, isT_bl_tuple_list, isT_bl_list_tuple, isT_int_int, isT_int_bool, isT_int_tuple, isT_int_list, isT_int_str, isT_int_tuple_list, isT_int_list_tuple, isT_str_int, isT_str_bool, isT_str_tuple, isT_str_list, isT_str_str, isT_str_tuple_list, isT_str_list_tuple, isT_tup_int, isT_tup_bool, isT_tup_tuple, isT_tup_list, isT_tup_str, isT_tup_tuple_list, isT_tup_list_tuple, isT_lst_int, isT_lst_bool, isT_lst_tuple, isT_lst_list, isT_lst_str, isT_lst_tuple_list, isT_lst_list_tuple, isT_klst_int, isT_klst_bool, isT_klst_tuple, isT_klst_list, isT_klst_str, isT_klst_tuple_list, isT_klst_list_tuple, isT_ref_int, isT_ref_bool, isT_ref_tuple, isT_ref_list, isT_ref_str, isT_ref_tuple_list, isT_ref_list_tuple, cmp_eqI, cmp_neI, cmp_ltI, cmp_leI, cmp_gtI, cmp_geI, cmp_eqB, cmp_neB, idx_hand0, set_hand0, idx_hand1, set_hand1, idx_hand2, set_hand2, idx_hand3, set_hand3, idx_hand4, set_hand4, pBin, idx_tup0, idx_tup1, idx_tup2, idx_tup3, idx_tup4, idx_tup5, idx_tup6, idx_tup7, Int.cast_ofNat_Int, blt_abs, blt_int, blt_intB, blt_len_tup, blt_len_lst, blt_len_klst, blt_tuple_tup, blt_tuple_lst, blt_list_tup, blt_list_lst, blt_sum, blt_all_lst, blt_any_lst, blt_max2, blt_min2, intsD, boolsD, List.length_map, items, place, put, putL, wipe, Tg.names, Tg.namesL, deref, List.map_cons, List.map_nil, List.length_cons, List.length_nil, List.getElem?_cons_zero, List.getElem?_cons_succ, List.getElem?_nil, List.getElem?_append, List.set_cons_zero, List.set_cons_succ, List.set_nil, List.cons_append, List.nil_append, List.append_nil, List.replicate_succ, List.replicate_zero, Nat.sub_self, Nat.add_sub_cancel, Option.map_some, Option.map_none, Option.bind_some, Option.bind_none, Option.some.injEq, if_true, if_false, ite_true, ite_false, Bool.false_eq_true, reduceCtorEq, Nat.reduceSub, Nat.reduceAdd, Nat.reduceLT, Nat.reduceLeDiff, Nat.reduceEqDiff, Nat.reduceMul, Int.reduceLT, Int.reduceLE, Int.reduceEq, Int.reduceNe, Int.reducePow, Int.reduceToNat, Int.reduceNeg, Int.reduceNegSucc, Nat.zero_add, Int.reduceAdd, Int.reduceSub, Int.reduceMul, not_true_eq_false, not_false_eq_true, Nat.lt_irrefl, Nat.zero_le, Nat.zero_lt_succ, Nat.succ_sub_succ_eq_sub, Nat.reduceSucc, bne_tt, bne_tf, bne_ft, Bool.not_true, Bool.not_false, Bool.true_and, Bool.false_and, Bool.and_true, Bool.and_false, Bool.or_true, Bool.or_false, Bool.true_or, Bool.false_or, bne_self_eq_false, beq_self_eq_true, Pl.F_minus, Pl.B_minus, fr, m1, m2, m3]
  rw [run_fraction hc _ _ (den_ne2 a b) hd n, sub_eq]
  rfl
theorem run_times (h : Has P Pl.Q_times) {j k : Nat} (a b : Rat) [x : Bq j a] [y : Bq k b] (hj : j ≤ 4000) (hk : k ≤ 4000) (n : Nat) : run P (n + 3) Pl.I_times [fr a, fr b] s = .ok (fr (a * b)) s := by
  have hc : Has P Pl.Q_fraction := h.sub (by decide)
  have m1 := mulOk_big (Bi.big (i := a.num) inferInstance (by omega)) (Bi.big (i := b.num) inferInstance (by omega))
  have m3 := mulOk_big (Bi.big (i := (a.den : Int)) inferInstance (by omega)) (Bi.big (i := (b.den : Int)) inferInstance (by omega))
  have hd := dmax_of (Bi.mul (a := (a.den : Int)) (b := (b.den : Int))).lt (by omega)
  rw [has_run (F := Pl.F_times) h (by decide) rfl]
  simp only [runFn, evSs, ev_var, ev_int, ev_bl, ev_non, ev_str, ev_glob, ev_bin, ev_neg, ev_not, ev_and, ev_or, ev_cmp, ev_chain, ev_isn, ev_isb, ev_ite, ev_tup, ev_lst, ev_idx, ev_slice, ev_call, ev_blt, ev_inst, ev_meth, ev_comp, evL_nil, evL_cons, evAnd_1, evOr_1, evAnd_cons, evOr_cons, evS_set, evS_par, evS_unp, evS_sub, evS_subs, evS_aug, evS_ex, evS_ret, evS_ite, evS_whl, evS_for, evS_brk, evS_pass, itE, pIter, srcOf, chk_nil, compEnd, evAnd1, evSub, evLT, evSubs, R.bind, R.thn, RS.turn, PR.fin, asB, kRef, kNeg, kNot, kIsn, kIsb, kTup, kInst, kSet, kPar, kPut, kAug, kSubs, isNon_non, isNon_bl, isNon_int, isNon_str, isNon_tup, isNon_lst, isNon_klst, isNon_ref, isT_non_int, isT_non_bool, isT_non_tuple, isT_non_list, isT_non_str, isT_non_tuple_list, isT_non_list_tuple, isT_bl_int, isT_bl_bool, isT_bl_tuple, isT_bl_list, isT_bl_str, isT_bl_tuple_list, isT_bl_list_tuple, isT_int_int, isT_int_bool, isT_int_tuple, isT_int_list, isT_int_str, isT_int_tuple_list, isT_int_list_tuple, isT_str_int, isT_str_bool, isT_str_tuple, isT_str_list, isT_str_str, isT_str_tuple_list, isT_str_list_tuple, isT_tup_int, isT_tup_bool, isT_tup_tuple, isT_tup_list, isT_tup_str, isT_tup_tuple_list, isT_tup_list_tuple, isT_lst_int, isT_lst_bool, isT_lst_tuple, isT_lst_list, isT_lst_str, isT_lst_tuple_list, isT_lst_list_tuple, isT_klst_int, isT_klst_bool, isT_klst_tuple, isT_klst_list, isT_klst_str, isT_klst_tuple_list, isT_klst_list_tuple, isT_ref_int, isT_ref_bool, isT_ref_tuple, isT_ref_list, isT_ref_str, isT_ref_tuple_list, isT_ref_list_tuple, cmp_eqI, cmp_neI, cmp_ltI, cmp_leI, cmp_gtI, cmp_geI, cmp_eqB, cmp_neB, idx_hand0, set_hand0, idx_hand1, set_hand1, idx_hand2, set_hand2, idx_hand3, set_hand3, idx_hand4, set_hand4, pBin, idx_tup0, idx_tup1, idx_tup2, idx_tup3, idx_tup4, idx_tup5, idx_tup6, idx_tup7, Int.cast_ofNat_Int, blt_abs, blt_int, blt_intB, blt_len_tup, blt_len_lst, blt_len_klst, blt_tuple_tup, blt_tuple_lst, blt_list_tup, blt_list_lst, blt_sum, blt_all_lst, blt_any_lst, blt_max2, blt_min2, intsD, boolsD, List.length_map, items, place, put, putL, wipe, Tg.names, Tg.namesL, deref, List.map_cons, List.map_nil, List.length_cons, List.length_nil, List.getElem?_cons_zero, List.getElem?_cons_succ, List.getElem?_nil, List.getElem?_append, List.set_cons_zero, List.set_cons_succ, List.set_nil, List.cons_append, List.nil_append, List.append_nil, List.replicate_succ, List.replicate_zero, Nat.sub_self, Nat.add_sub_cancel, Option.map_some, Option.map_none, Option.bind_some, Option.bind_none, Option.some.injEq, if_true, if_false, ite_true, ite_false, Bool.false_eq_true, reduceCtorEq, Nat.reduceSub, Nat.reduceAdd, Nat.reduceLT, Nat.reduceLeDiff, Nat.reduceEqDiff, Nat.reduceMul, Int.reduceLT, Int.reduceLE, Int.reduceEq, Int.reduceNe, Int.reducePow, Int.reduceToNat, Int.reduceNeg, Int.reduceNegSucc, Nat.zero_add, Int.reduceAdd, Int.reduceSub, Int.reduceMul, not_true_eq_false, not_false_eq_true, Nat.lt_irrefl, Nat.zero_le, Nat.zero_lt_succ, Nat.succ_sub_succ_eq_sub, Nat.reduceSucc, bne_tt, bne_tf, bne_ft, Bool.not_true, Bool.not_false, Bool.true_and, Bool.false_and, Bool.and_true, Bool.and_false, Bool.or_true, Bool.or_false, Bool.true_or, Bool.false_or, bne_self_eq_false, beq_self_eq_true, Pl.F_times, Pl.B_times, fr, m1, m3]
  rw [run_fraction hc _ _ (den_ne2 a b) hd n, mul_eq]
  rfl
theorem run_over (h : Has P Pl.Q_over) {j k : Nat} (a b : Rat) [x : Bq j a] [y : Bq k b] (hj : j ≤ 4000) (hk : k ≤ 4000) (hb : b ≠ 0) (n : Nat) : run P (n + 3) Pl.I_over [fr a, fr b] s = .ok (fr (a / b)) s := by
  have hc : Has P Pl.Q_fraction := h.sub (by decide)
  have m1 := mulOk_big (Bi.big (i := a.num) inferInstance (by omega)) (Bi.big (i := (b.den : Int)) inferInstance (by omega))
  have m3 := mulOk_big (Bi.big (i := (a.den : Int)) inferInstance (by omega)) (Bi.big (i := b.num) inferInstance (by omega))
  have hd := dmax_of (Bi.mul (a := (a.den : Int)) (b := b.num)).lt (by omega)
  have hn : b.num ≠ 0 := fun z => hb (Rat.num_eq_zero.mp z)
  rw [has_run (F := Pl.F_over) h (by decide) rfl]
  simp only [runFn, evSs, ev_var, ev_int, ev_bl, ev_non, ev_str, ev_glob, ev_bin, ev_neg, ev_not, ev_and, ev_or, ev_cmp, ev_chain, ev_isn, ev_isb, ev_ite, ev_tup, ev_lst, ev_idx, ev_slice, ev_call, ev_blt, ev_inst, ev_meth, ev_comp, evL_nil, evL_cons, evAnd_1, evOr_1, evAnd_cons, evOr_cons, evS_set, evS_par, evS_unp, evS_sub, evS_subs, evS_aug, evS_ex, evS_ret, evS_ite, evS_whl, evS_for, evS_brk, evS_pass, itE, pIter, srcOf, chk_nil, compEnd, evAnd1, evSub, evLT, evSubs, R.bind, R.thn, RS.turn, PR.fin, asB, kRef, kNeg, kNot, kIsn, kIsb, kTup, kInst, kSet, kPar, kPut, kAug, kSubs, isNon_non, isNon_bl, isNon_int, isNon_str, isNon_tup, isNon_lst, isNon_klst, isNon_ref, isT_non_int, isT_non_bool, isT_non_tuple, isT_non_list, isT_non_str, isT_non_tuple_list, isT_non_list_tuple, isT_bl_int, isT_bl_bool, isT_bl_tuple, isT_bl_list, isT_bl_str, isT_bl_tuple_list, isT_bl_list_tuple, isT_int_int, isT_int_bool, isT_int_tuple, isT_int_list, isT_int_str, isT_int_tuple_list, isT_int_list_tuple, isT_str_int, isT_str_bool, isT_str_tuple, isT_str_list, isT_str_str, isT_str_tuple_list, isT_str_list_tuple, isT_tup_int, isT_tup_bool, isT_tup_tuple, isT_tup_list, isT_tup_str, isT_tup_tuple_list, isT_tup_list_tuple, isT_lst_int, isT_lst_bool, isT_lst_tuple, isT_lst_list, isT_lst_str, isT_lst_tuple_list, isT_lst_list_tuple, isT_klst_int, isT_klst_bool, isT_klst_tuple, isT_klst_list, isT_klst_str, isT_klst_tuple_list, isT_klst_list_tuple, isT_ref_int, isT_ref_bool, isT_ref_tuple, isT_ref_list, isT_ref_str, isT_ref_tuple_list, isT_ref_list_tuple, cmp_eqI, cmp_neI, cmp_ltI, cmp_leI, cmp_gtI, cmp_geI, cmp_eqB, cmp_neB, idx_hand0, set_hand0, idx_hand1, set_hand1, idx_hand2, set_hand2, idx_hand3, set_hand3, idx_hand4, set_hand4, pBin, idx_tup0, idx_tup1, idx_tup2, idx_tup3, idx_tup4, idx_tup5, idx_tup6, idx_tup7, Int.cast_ofNat_Int, blt_abs, blt_int, blt_intB, blt_len_tup, blt_len_lst, blt_len_klst, blt_tuple_tup, blt_tuple_lst, blt_list_tup, blt_list_lst, blt_sum, blt_all_lst, blt_any_lst, blt_max2, blt_min2, intsD, boolsD, List.length_map, items, place, put, putL, wipe, Tg.names, Tg.namesL, deref, List.map_cons, List.map_nil, List.length_cons, List.length_nil, List.getElem?_cons_zero, List.getElem?_cons_succ, List.getElem?_nil, List.getElem?_append, List.set_cons_zero, List.set_cons_succ, List.set_nil, List.cons_append, List.nil_append, List.append_nil, List.replicate_succ, List.replicate_zero, Nat.sub_self, Nat.add_sub_cancel, Option.map_some, Option.map_none, Option.bind_some, Option.bind_none, Option.some.injEq, if_true, if_false, ite_true, ite_false, Bool.false_eq_true, reduceCtorEq, Nat.reduceSub, Nat.reduceAdd, Nat.reduceLT, Nat.reduceLeDiff, Nat.reduceEqDiff, Nat.reduceMul, Int.reduceLT, Int.reduceLE, Int.reduceEq, Int.reduceNe, Int.reducePow, Int.reduceToNat, Int.reduceNeg, Int.reduceNegSucc, Nat.zero_add, Int.reduceAdd, Int.reduceSub, Int.reduceMul, not_true_eq_false, not_false_eq_true, Nat.lt_irrefl, Nat.zero_le, Nat.zero_lt_succ, Nat.succ_sub_succ_eq_sub, Nat.reduceSucc, bne_tt, bne_tf, bne_ft, Bool.not_true, Bool.not_false, Bool.true_and, Bool.false_and, Bool.and_true, Bool.and_false, Bool.or_true, Bool.or_false, Bool.true_or, Bool.false_or, bne_self_eq_false, beq_self_eq_true, Pl.F_over, Pl.B_over, fr, m1, m3]
  rw [run_fraction hc _ _ (Int.mul_ne_zero (den_ne a) hn) hd n, div_eq]
  rfl
end
end Pi

set_option Elab.async false
set_option linter.all false
set_option maxRecDepth 100000
namespace Pi
open PySem

/-- the hand of a law: its cells, the next one's place, what is left of a long one, the mix, the count -/
def IsHand (h : List D) : Prop := ∃ (cells : List Int) (place rest mix count : Int), h = [.lst (cells.map .int), .int place, .int rest, .int mix, .int count] ∧ 0 ≤ place ∧ 0 ≤ rest ∧ ∀ c ∈ cells, 0 ≤ c
theorem mulOkR {i j : Int} (h : j.natAbs < 2 ^ 64) : mulOk i j = true := by
  unfold mulOk
  simp [h]
theorem mulOkL {i j : Int} (h : i.natAbs < 2 ^ 64) : mulOk i j = true := by
  unfold mulOk
  simp [h]
theorem fmod_lt {x m : Int} (h : 0 < m) : 0 ≤ x.fmod m ∧ x.fmod m < m := ⟨Int.fmod_nonneg_of_pos x h, Int.fmod_lt_of_pos x h⟩
section
variable {P : Prog} {t : Store}
theorem cell_at {cells : List Int} {pl : Int} {s : Store} (hp : 0 ≤ pl) (hl : pl < cells.length) : pIdx s (.lst (cells.map .int)) (.int pl) = .val (.int (cells[pl.toNat]'(by omega))) := by
  have e : place (List.map D.int cells).length pl = some pl.toNat := by
    unfold place
    rw [if_pos hp, if_pos (by simpa using hl)]
  have e2 : (List.map D.int cells)[pl.toNat]? = some (.int (cells[pl.toNat]'(by omega))) := by
    rw [List.getElem?_map, List.getElem?_eq_getElem (by omega)]
    rfl
  simp only [pIdx, items, e, Option.bind_some, e2]
theorem len_cells {s : Store} {cells : List Int} : pBlt s .len [.lst (cells.map .int)] = .val (.int cells.length) := by
  simp only [pBlt, items, List.length_map]
theorem run_draw_v4 (h : Has P Pl.Q__law_draw_v4) {hd : List D} (hh : IsHand hd) {many : Int} (h0 : 0 < many) (h1 : many < 1000000) (n : Nat) : ∃ (d : Int) (hd' : List D), 0 ≤ d ∧ d < many ∧ IsHand hd' ∧ run P (n + 1) Pl.I__law_draw_v4 [.ref 0, .int many] (hd :: t) = .ok (.int d) (hd' :: t) := by
  obtain ⟨cells, pl, rest, mix, count, rfl, hp, hr, hc⟩ := hh
  rw [has_run (F := Pl.F__law_draw_v4) h (by decide) rfl]
  have k1 : ∀ i : Int, mulOk i 69621 = true := fun i => mulOkR (by decide)
  have k2 : ∀ i : Int, mulOk i 40692 = true := fun i => mulOkR (by decide)
  have k3 : ∀ i : Int, mulOk i 48271 = true := fun i => mulOkR (by decide)
  have k4 : ∀ i : Int, mulOk 7919 i = true := fun i => mulOkL (by decide)
  have hm : many ≠ 0 := by omega
  have hmd : many.natAbs < dmax := dmax_of (k := 20) (by omega) (by omega)
  have z1 : ((1009 : Int) ≠ 0 ∧ (1009 : Int).natAbs < dmax) := ⟨by decide, dmax_of (k := 20) (by decide) (by omega)⟩
  have z2 : ((2003 : Int) ≠ 0 ∧ (2003 : Int).natAbs < dmax) := ⟨by decide, dmax_of (k := 20) (by decide) (by omega)⟩
  have z3 : ((16 : Int) ≠ 0 ∧ (16 : Int).natAbs < dmax) := ⟨by decide, dmax_of (k := 20) (by decide) (by omega)⟩
  have z4 : ∀ i j : Int, mulOk (i.fmod 2147483647) j = true := fun i j => mulOkL (by have := fmod_lt (x := i) (m := 2147483647) (by decide); omega)
  have z5 : (0 : Int) ≤ 18 ∧ (18 : Int) ≤ 10000 ∧ (10 : Int).natAbs < 2 ^ 64 := by decide
  -- the first half
  have first : ∃ (cell : Option D) (hd' : List D), IsHand hd' ∧ evS P.G (run P n) (Pl.B__law_draw_v4.headD .pass) [some (.ref 0), some (.int many), none, none, none] ([.lst (cells.map .int), .int pl, .int rest, .int mix, .int count] :: t) = .ok .nx [some (.ref 0), some (.int many), cell, none, none] (hd' :: t) := by
    by_cases hz : rest = 0
    · by_cases hl : pl < cells.length
      · have hcell := fun s => cell_at (s := s) hp hl
        have hcp : 0 ≤ cells[pl.toNat]'(by omega) := hc _ (List.getElem_mem _)
        generalize cells[pl.toNat]'(by omega) = cell at hcell hcp
        by_cases hb : (1000000000000000000 : Int) ≤ cell
        · refine ⟨some (.int cell), [.lst (cells.map .int), .int (pl + 1), .int cell, .int ((mix * 69621 + cell * 40692 + 31).fmod 2147483629), .int count], ⟨cells, _, _, _, _, rfl, by omega, hcp, hc⟩, ?_⟩
          simp only [Pl.B__law_draw_v4, List.headD_cons, runFn, evSs, ev_var, ev_int, ev_bl, ev_non, ev_str, ev_glob, ev_bin, ev_neg, ev_not, ev_and, ev_or, ev_cmp, ev_chain, ev_isn, ev_isb, ev_ite, ev_tup, ev_lst, ev_idx, ev_slice, ev_call, ev_blt, ev_inst, ev_meth, ev_comp, evL_nil, evL_cons, evAnd_1, evOr_1, evAnd_cons, evOr_cons, evS_set, evS_par, evS_unp, evS_sub, evS_subs, evS_aug, evS_ex, evS_ret, evS_ite, evS_whl, evS_for, evS_brk, evS_pass, itE, pIter, srcOf, chk_nil, compEnd, evAnd1, evSub, evLT, evSubs, R.bind, R.thn, RS.turn, PR.fin, asB, kRef, kNeg, kNot, kIsn, kIsb, kTup, kInst, kSet, kPar, kPut, kAug, kSubs, isNon_non, isNon_bl, isNon_int, isNon_str, isNon_tup, isNon_lst, isNon_klst, isNon_ref, isT_non_int, isT_non_bool, isT_non_tuple, isT_non_list, isT_non_str, isT_non_tuple_list, isT_non_list_tuple, isT_bl_int, isT_bl_bool, isT_bl_tuple, isT_bl_list, isT_bl_str, isT_bl_tuple_list, isT_bl_list_tuple, isT_int_int, isT_int_bool, isT_int_tuple, isT_int_list, isT_int_str, isT_int_tuple_list, isT_int_list_tuple, isT_str_int, isT_str_bool, isT_str_tuple, isT_str_list, isT_str_str, isT_str_tuple_list, isT_str_list_tuple, isT_tup_int, isT_tup_bool, isT_tup_tuple, isT_tup_list, isT_tup_str, isT_tup_tuple_list, isT_tup_list_tuple, isT_lst_int, isT_lst_bool, isT_lst_tuple, isT_lst_list, isT_lst_str, isT_lst_tuple_list, isT_lst_list_tuple, isT_klst_int, isT_klst_bool, isT_klst_tuple, isT_klst_list, isT_klst_str, isT_klst_tuple_list, isT_klst_list_tuple, isT_ref_int, isT_ref_bool, isT_ref_tuple, isT_ref_list, isT_ref_str, isT_ref_tuple_list, isT_ref_list_tuple, cmp_eqI, cmp_neI, cmp_ltI, cmp_leI, cmp_gtI, cmp_geI, cmp_eqB, cmp_neB, idx_hand0, set_hand0, idx_hand1, set_hand1, idx_hand2, set_hand2, idx_hand3, set_hand3, idx_hand4, set_hand4, pBin, idx_tup0, idx_tup1, idx_tup2, idx_tup3, idx_tup4, idx_tup5, idx_tup6, idx_tup7, Int.cast_ofNat_Int, blt_abs, blt_int, blt_intB, blt_len_tup, blt_len_lst, blt_len_klst, blt_tuple_tup, blt_tuple_lst, blt_list_tup, blt_list_lst, blt_sum, blt_all_lst, blt_any_lst, blt_max2, blt_min2, intsD, boolsD, List.length_map, items, place, put, putL, wipe, Tg.names, Tg.namesL, deref, List.map_cons, List.map_nil, List.length_cons, List.length_nil, List.getElem?_cons_zero, List.getElem?_cons_succ, List.getElem?_nil, List.getElem?_append, List.set_cons_zero, List.set_cons_succ, List.set_nil, List.cons_append, List.nil_append, List.append_nil, List.replicate_succ, List.replicate_zero, Nat.sub_self, Nat.add_sub_cancel, Option.map_some, Option.map_none, Option.bind_some, Option.bind_none, Option.some.injEq, if_true, if_false, ite_true, ite_false, Bool.false_eq_true, reduceCtorEq, Nat.reduceSub, Nat.reduceAdd, Nat.reduceLT, Nat.reduceLeDiff, Nat.reduceEqDiff, Nat.reduceMul, Int.reduceLT, Int.reduceLE, Int.reduceEq, Int.reduceNe, Int.reducePow, Int.reduceToNat, Int.reduceNeg, Int.reduceNegSucc, Nat.zero_add, Int.reduceAdd, Int.reduceSub, Int.reduceMul, not_true_eq_false, not_false_eq_true, Nat.lt_irrefl, Nat.zero_le, Nat.zero_lt_succ, Nat.succ_sub_succ_eq_sub, Nat.reduceSucc, bne_tt, bne_tf, bne_ft, Bool.not_true, Bool.not_false, Bool.true_and, Bool.false_and, Bool.and_true, Bool.and_false, Bool.or_true, Bool.or_false, Bool.true_or, Bool.false_or, bne_self_eq_false, beq_self_eq_true, hz, decide_true, hl, len_cells, hcell, k1, k2, k3, k4, z5, hb, ne_eq, and_self, Int.reducePow]
        · refine ⟨some (.int cell), [.lst (cells.map .int), .int (pl + 1), .int rest, .int ((mix * 69621 + cell * 40692 + 31).fmod 2147483629), .int count], ⟨cells, _, _, _, _, rfl, by omega, hr, hc⟩, ?_⟩
          simp only [Pl.B__law_draw_v4, List.headD_cons, runFn, evSs, ev_var, ev_int, ev_bl, ev_non, ev_str, ev_glob, ev_bin, ev_neg, ev_not, ev_and, ev_or, ev_cmp, ev_chain, ev_isn, ev_isb, ev_ite, ev_tup, ev_lst, ev_idx, ev_slice, ev_call, ev_blt, ev_inst, ev_meth, ev_comp, evL_nil, evL_cons, evAnd_1, evOr_1, evAnd_cons, evOr_cons, evS_set, evS_par, evS_unp, evS_sub, evS_subs, evS_aug, evS_ex, evS_ret, evS_ite, evS_whl, evS_for, evS_brk, evS_pass, itE, pIter, srcOf, chk_nil, compEnd, evAnd1, evSub, evLT, evSubs, R.bind, R.thn, RS.turn, PR.fin, asB, kRef, kNeg, kNot, kIsn, kIsb, kTup, kInst, kSet, kPar, kPut, kAug, kSubs, isNon_non, isNon_bl, isNon_int, isNon_str, isNon_tup, isNon_lst, isNon_klst, isNon_ref, isT_non_int, isT_non_bool, isT_non_tuple, isT_non_list, isT_non_str, isT_non_tuple_list, isT_non_list_tuple, isT_bl_int, isT_bl_bool, isT_bl_tuple, isT_bl_list, isT_bl_str, isT_bl_tuple_list, isT_bl_list_tuple, isT_int_int, isT_int_bool, isT_int_tuple, isT_int_list, isT_int_str, isT_int_tuple_list, isT_int_list_tuple, isT_str_int, isT_str_bool, isT_str_tuple, isT_str_list, isT_str_str, isT_str_tuple_list, isT_str_list_tuple, isT_tup_int, isT_tup_bool, isT_tup_tuple, isT_tup_list, isT_tup_str, isT_tup_tuple_list, isT_tup_list_tuple, isT_lst_int, isT_lst_bool, isT_lst_tuple, isT_lst_list, isT_lst_str, isT_lst_tuple_list, isT_lst_list_tuple, isT_klst_int, isT_klst_bool, isT_klst_tuple, isT_klst_list, isT_klst_str, isT_klst_tuple_list, isT_klst_list_tuple, isT_ref_int, isT_ref_bool, isT_ref_tuple, isT_ref_list, isT_ref_str, isT_ref_tuple_list, isT_ref_list_tuple, cmp_eqI, cmp_neI, cmp_ltI, cmp_leI, cmp_gtI, cmp_geI, cmp_eqB, cmp_neB, idx_hand0, set_hand0, idx_hand1, set_hand1, idx_hand2, set_hand2, idx_hand3, set_hand3, idx_hand4, set_hand4, pBin, idx_tup0, idx_tup1, idx_tup2, idx_tup3, idx_tup4, idx_tup5, idx_tup6, idx_tup7, Int.cast_ofNat_Int, blt_abs, blt_int, blt_intB, blt_len_tup, blt_len_lst, blt_len_klst, blt_tuple_tup, blt_tuple_lst, blt_list_tup, blt_list_lst, blt_sum, blt_all_lst, blt_any_lst, blt_max2, blt_min2, intsD, boolsD, List.length_map, items, place, put, putL, wipe, Tg.names, Tg.namesL, deref, List.map_cons, List.map_nil, List.length_cons, List.length_nil, List.getElem?_cons_zero, List.getElem?_cons_succ, List.getElem?_nil, List.getElem?_append, List.set_cons_zero, List.set_cons_succ, List.set_nil, List.cons_append, List.nil_append, List.append_nil, List.replicate_succ, List.replicate_zero, Nat.sub_self, Nat.add_sub_cancel, Option.map_some, Option.map_none, Option.bind_some, Option.bind_none, Option.some.injEq, if_true, if_false, ite_true, ite_false, Bool.false_eq_true, reduceCtorEq, Nat.reduceSub, Nat.reduceAdd, Nat.reduceLT, Nat.reduceLeDiff, Nat.reduceEqDiff, Nat.reduceMul, Int.reduceLT, Int.reduceLE, Int.reduceEq, Int.reduceNe, Int.reducePow, Int.reduceToNat, Int.reduceNeg, Int.reduceNegSucc, Nat.zero_add, Int.reduceAdd, Int.reduceSub, Int.reduceMul, not_true_eq_false, not_false_eq_true, Nat.lt_irrefl, Nat.zero_le, Nat.zero_lt_succ, Nat.succ_sub_succ_eq_sub, Nat.reduceSucc, bne_tt, bne_tf, bne_ft, Bool.not_true, Bool.not_false, Bool.true_and, Bool.false_and, Bool.and_true, Bool.and_false, Bool.or_true, Bool.or_false, Bool.true_or, Bool.false_or, bne_self_eq_false, beq_self_eq_true, hz, decide_true, decide_false, hl, len_cells, hcell, k1, k2, k3, k4, z5, hb, ne_eq, and_self, Int.reducePow]
      · refine ⟨none, _, ⟨cells, pl, rest, mix, count, rfl, hp, hr, hc⟩, ?_⟩
        simp only [Pl.B__law_draw_v4, List.headD_cons, runFn, evSs, ev_var, ev_int, ev_bl, ev_non, ev_str, ev_glob, ev_bin, ev_neg, ev_not, ev_and, ev_or, ev_cmp, ev_chain, ev_isn, ev_isb, ev_ite, ev_tup, ev_lst, ev_idx, ev_slice, ev_call, ev_blt, ev_inst, ev_meth, ev_comp, evL_nil, evL_cons, evAnd_1, evOr_1, evAnd_cons, evOr_cons, evS_set, evS_par, evS_unp, evS_sub, evS_subs, evS_aug, evS_ex, evS_ret, evS_ite, evS_whl, evS_for, evS_brk, evS_pass, itE, pIter, srcOf, chk_nil, compEnd, evAnd1, evSub, evLT, evSubs, R.bind, R.thn, RS.turn, PR.fin, asB, kRef, kNeg, kNot, kIsn, kIsb, kTup, kInst, kSet, kPar, kPut, kAug, kSubs, isNon_non, isNon_bl, isNon_int, isNon_str, isNon_tup, isNon_lst, isNon_klst, isNon_ref, isT_non_int, isT_non_bool, isT_non_tuple, isT_non_list, isT_non_str, isT_non_tuple_list, isT_non_list_tuple, isT_bl_int, isT_bl_bool, isT_bl_tuple, isT_bl_list, isT_bl_str, isT_bl_tuple_list, isT_bl_list_tuple, isT_int_int, isT_int_bool, isT_int_tuple, isT_int_list, isT_int_str, isT_int_tuple_list, isT_int_list_tuple, isT_str_int, isT_str_bool, isT_str_tuple, isT_str_list, isT_str_str, isT_str_tuple_list, isT_str_list_tuple, isT_tup_int, isT_tup_bool, isT_tup_tuple, isT_tup_list, isT_tup_str, isT_tup_tuple_list, isT_tup_list_tuple, isT_lst_int, isT_lst_bool, isT_lst_tuple, isT_lst_list, isT_lst_str, isT_lst_tuple_list, isT_lst_list_tuple, isT_klst_int, isT_klst_bool, isT_klst_tuple, isT_klst_list, isT_klst_str, isT_klst_tuple_list, isT_klst_list_tuple, isT_ref_int, isT_ref_bool, isT_ref_tuple, isT_ref_list, isT_ref_str, isT_ref_tuple_list, isT_ref_list_tuple, cmp_eqI, cmp_neI, cmp_ltI, cmp_leI, cmp_gtI, cmp_geI, cmp_eqB, cmp_neB, idx_hand0, set_hand0, idx_hand1, set_hand1, idx_hand2, set_hand2, idx_hand3, set_hand3, idx_hand4, set_hand4, pBin, idx_tup0, idx_tup1, idx_tup2, idx_tup3, idx_tup4, idx_tup5, idx_tup6, idx_tup7, Int.cast_ofNat_Int, blt_abs, blt_int, blt_intB, blt_len_tup, blt_len_lst, blt_len_klst, blt_tuple_tup, blt_tuple_lst, blt_list_tup, blt_list_lst, blt_sum, blt_all_lst, blt_any_lst, blt_max2, blt_min2, intsD, boolsD, List.length_map, items, place, put, putL, wipe, Tg.names, Tg.namesL, deref, List.map_cons, List.map_nil, List.length_cons, List.length_nil, List.getElem?_cons_zero, List.getElem?_cons_succ, List.getElem?_nil, List.getElem?_append, List.set_cons_zero, List.set_cons_succ, List.set_nil, List.cons_append, List.nil_append, List.append_nil, List.replicate_succ, List.replicate_zero, Nat.sub_self, Nat.add_sub_cancel, Option.map_some, Option.map_none, Option.bind_some, Option.bind_none, Option.some.injEq, if_true, if_false, ite_true, ite_false, Bool.false_eq_true, reduceCtorEq, Nat.reduceSub, Nat.reduceAdd, Nat.reduceLT, Nat.reduceLeDiff, Nat.reduceEqDiff, Nat.reduceMul, Int.reduceLT, Int.reduceLE, Int.reduceEq, Int.reduceNe, Int.reducePow, Int.reduceToNat, Int.reduceNeg, Int.reduceNegSucc, Nat.zero_add, Int.reduceAdd, Int.reduceSub, Int.reduceMul, not_true_eq_false, not_false_eq_true, Nat.lt_irrefl, Nat.zero_le, Nat.zero_lt_succ, Nat.succ_sub_succ_eq_sub, Nat.reduceSucc, bne_tt, bne_tf, bne_ft, Bool.not_true, Bool.not_false, Bool.true_and, Bool.false_and, Bool.and_true, Bool.and_false, Bool.or_true, Bool.or_false, Bool.true_or, Bool.false_or, bne_self_eq_false, beq_self_eq_true, hz, decide_true, decide_false, hl, len_cells]
    · refine ⟨none, _, ⟨cells, pl, rest, mix, count, rfl, hp, hr, hc⟩, ?_⟩
      simp only [Pl.B__law_draw_v4, List.headD_cons, runFn, evSs, ev_var, ev_int, ev_bl, ev_non, ev_str, ev_glob, ev_bin, ev_neg, ev_not, ev_and, ev_or, ev_cmp, ev_chain, ev_isn, ev_isb, ev_ite, ev_tup, ev_lst, ev_idx, ev_slice, ev_call, ev_blt, ev_inst, ev_meth, ev_comp, evL_nil, evL_cons, evAnd_1, evOr_1, evAnd_cons, evOr_cons, evS_set, evS_par, evS_unp, evS_sub, evS_subs, evS_aug, evS_ex, evS_ret, evS_ite, evS_whl, evS_for, evS_brk, evS_pass, itE, pIter, srcOf, chk_nil, compEnd, evAnd1, evSub, evLT, evSubs, R.bind, R.thn, RS.turn, PR.fin, asB, kRef, kNeg, kNot, kIsn, kIsb, kTup, kInst, kSet, kPar, kPut, kAug, kSubs, isNon_non, isNon_bl, isNon_int, isNon_str, isNon_tup, isNon_lst, isNon_klst, isNon_ref, isT_non_int, isT_non_bool, isT_non_tuple, isT_non_list, isT_non_str, isT_non_tuple_list, isT_non_list_tuple, isT_bl_int, isT_bl_bool, isT_bl_tuple, isT_bl_list, isT_bl_str, isT_bl_tuple_list, isT_bl_list_tuple, isT_int_int, isT_int_bool, isT_int_tuple, isT_int_list, isT_int_str, isT_int_tuple_list, isT_int_list_tuple, isT_str_int, isT_str_bool, isT_str_tuple, isT_str_list, isT_str_str, isT_str_tuple_list, isT_str_list_tuple, isT_tup_int, isT_tup_bool, isT_tup_tuple, isT_tup_list, isT_tup_str, isT_tup_tuple_list, isT_tup_list_tuple, isT_lst_int, isT_lst_bool, isT_lst_tuple, isT_lst_list, isT_lst_str, isT_lst_tuple_list, isT_lst_list_tuple, isT_klst_int, isT_klst_bool, isT_klst_tuple, isT_klst_list, isT_klst_str, isT_klst_tuple_list, isT_klst_list_tuple, isT_ref_int, isT_ref_bool, isT_ref_tuple, isT_ref_list, isT_ref_str, isT_ref_tuple_list, isT_ref_list_tuple, cmp_eqI, cmp_neI, cmp_ltI, cmp_leI, cmp_gtI, cmp_geI, cmp_eqB, cmp_neB, idx_hand0, set_hand0, idx_hand1, set_hand1, idx_hand2, set_hand2, idx_hand3, set_hand3, idx_hand4, set_hand4, pBin, idx_tup0, idx_tup1, idx_tup2, idx_tup3, idx_tup4, idx_tup5, idx_tup6, idx_tup7, Int.cast_ofNat_Int, blt_abs, blt_int, blt_intB, blt_len_tup, blt_len_lst, blt_len_klst, blt_tuple_tup, blt_tuple_lst, blt_list_tup, blt_list_lst, blt_sum, blt_all_lst, blt_any_lst, blt_max2, blt_min2, intsD, boolsD, List.length_map, items, place, put, putL, wipe, Tg.names, Tg.namesL, deref, List.map_cons, List.map_nil, List.length_cons, List.length_nil, List.getElem?_cons_zero, List.getElem?_cons_succ, List.getElem?_nil, List.getElem?_append, List.set_cons_zero, List.set_cons_succ, List.set_nil, List.cons_append, List.nil_append, List.append_nil, List.replicate_succ, List.replicate_zero, Nat.sub_self, Nat.add_sub_cancel, Option.map_some, Option.map_none, Option.bind_some, Option.bind_none, Option.some.injEq, if_true, if_false, ite_true, ite_false, Bool.false_eq_true, reduceCtorEq, Nat.reduceSub, Nat.reduceAdd, Nat.reduceLT, Nat.reduceLeDiff, Nat.reduceEqDiff, Nat.reduceMul, Int.reduceLT, Int.reduceLE, Int.reduceEq, Int.reduceNe, Int.reducePow, Int.reduceToNat, Int.reduceNeg, Int.reduceNegSucc, Nat.zero_add, Int.reduceAdd, Int.reduceSub, Int.reduceMul, not_true_eq_false, not_false_eq_true, Nat.lt_irrefl, Nat.zero_le, Nat.zero_lt_succ, Nat.succ_sub_succ_eq_sub, Nat.reduceSucc, bne_tt, bne_tf, bne_ft, Bool.not_true, Bool.not_false, Bool.true_and, Bool.false_and, Bool.and_true, Bool.and_false, Bool.or_true, Bool.or_false, Bool.true_or, Bool.false_or, bne_self_eq_false, beq_self_eq_true, hz, decide_false]
  obtain ⟨cell, hd', ⟨cells', pl', rest', mix', count', rfl, hp', hr', hc'⟩, e⟩ := first
  simp only [Pl.B__law_draw_v4, List.headD_cons] at e
  simp only [runFn, Pl.F__law_draw_v4, Pl.B__law_draw_v4, List.length_cons, List.length_nil, Nat.reduceAdd, if_true, List.map_cons, List.map_nil, List.replicate_succ, List.replicate_zero, Nat.reduceSub, List.cons_append, List.nil_append]
  rw [evSs, e]
  simp only []
  by_cases hg : 0 < rest'
  · have b := fmod_lt (x := rest') h0
    refine ⟨rest'.fmod many, _, b.1, b.2, ⟨cells', pl', rest'.fdiv many, mix', count', rfl, hp', Int.fdiv_nonneg hr' (by omega), hc'⟩, ?_⟩
    simp only [runFn, evSs, ev_var, ev_int, ev_bl, ev_non, ev_str, ev_glob, ev_bin, ev_neg, ev_not, ev_and, ev_or, ev_cmp, ev_chain, ev_isn, ev_isb, ev_ite, ev_tup, ev_lst, ev_idx, ev_slice, ev_call, ev_blt, ev_inst, ev_meth, ev_comp, evL_nil, evL_cons, evAnd_1, evOr_1, evAnd_cons, evOr_cons, evS_set, evS_par, evS_unp, evS_sub, evS_subs, evS_aug, evS_ex, evS_ret, evS_ite, evS_whl, evS_for, evS_brk, evS_pass, itE, pIter, srcOf, chk_nil, compEnd, evAnd1, evSub, evLT, evSubs, R.bind, R.thn, RS.turn, PR.fin, asB, kRef, kNeg, kNot, kIsn, kIsb, kTup, kInst, kSet, kPar, kPut, kAug, kSubs, isNon_non, isNon_bl, isNon_int, isNon_str, isNon_tup, isNon_lst, isNon_klst, isNon_ref, isT_non_int, isT_non_bool, isT_non_tuple, isT_non_list, isT_non_str, isT_non_tuple_list, isT_non_list_tuple, isT_bl_int, isT_bl_bool, isT_bl_tuple, isT_bl_list, isT_bl_str, isT_bl_tuple_list, isT_bl_list_tuple, isT_int_int, isT_int_bool, isT_int_tuple, isT_int_list, isT_int_str, isT_int_tuple_list, isT_int_list_tuple, isT_str_int, isT_str_bool, isT_str_tuple, isT_str_list, isT_str_str, isT_str_tuple_list, isT_str_list_tuple, isT_tup_int, isT_tup_bool, isT_tup_tuple, isT_tup_list, isT_tup_str, isT_tup_tuple_list, isT_tup_list_tuple, isT_lst_int, isT_lst_bool, isT_lst_tuple, isT_lst_list, isT_lst_str, isT_lst_tuple_list, isT_lst_list_tuple, isT_klst_int, isT_klst_bool, isT_klst_tuple, isT_klst_list, isT_klst_str, isT_klst_tuple_list, isT_klst_list_tuple, isT_ref_int, isT_ref_bool, isT_ref_tuple, isT_ref_list, isT_ref_str, isT_ref_tuple_list, isT_ref_list_tuple, cmp_eqI, cmp_neI, cmp_ltI, cmp_leI, cmp_gtI, cmp_geI, cmp_eqB, cmp_neB, idx_hand0, set_hand0, idx_hand1, set_hand1, idx_hand2, set_hand2, idx_hand3, set_hand3, idx_hand4, set_hand4, pBin, idx_tup0, idx_tup1, idx_tup2, idx_tup3, idx_tup4, idx_tup5, idx_tup6, idx_tup7, Int.cast_ofNat_Int, blt_abs, blt_int, blt_intB, blt_len_tup, blt_len_lst, blt_len_klst, blt_tuple_tup, blt_tuple_lst, blt_list_tup, blt_list_lst, blt_sum, blt_all_lst, blt_any_lst, blt_max2, blt_min2, intsD, boolsD, List.length_map, items, place, put, putL, wipe, Tg.names, Tg.namesL, deref, List.map_cons, List.map_nil, List.length_cons, List.length_nil, List.getElem?_cons_zero, List.getElem?_cons_succ, List.getElem?_nil, List.getElem?_append, List.set_cons_zero, List.set_cons_succ, List.set_nil, List.cons_append, List.nil_append, List.append_nil, List.replicate_succ, List.replicate_zero, Nat.sub_self, Nat.add_sub_cancel, Option.map_some, Option.map_none, Option.bind_some, Option.bind_none, Option.some.injEq, if_true, if_false, ite_true, ite_false, Bool.false_eq_true, reduceCtorEq, Nat.reduceSub, Nat.reduceAdd, Nat.reduceLT, Nat.reduceLeDiff, Nat.reduceEqDiff, Nat.reduceMul, Int.reduceLT, Int.reduceLE, Int.reduceEq, Int.reduceNe, Int.reducePow, Int.reduceToNat, Int.reduceNeg, Int.reduceNegSucc, Nat.zero_add, Int.reduceAdd, Int.reduceSub, Int.reduceMul, not_true_eq_false, not_false_eq_true, Nat.lt_irrefl, Nat.zero_le, Nat.zero_lt_succ, Nat.succ_sub_succ_eq_sub, Nat.reduceSucc, bne_tt, bne_tf, bne_ft, Bool.not_true, Bool.not_false, Bool.true_and, Bool.false_and, Bool.and_true, Bool.and_false, Bool.or_true, Bool.or_false, Bool.true_or, Bool.false_or, bne_self_eq_false, beq_self_eq_true, hg, decide_true, hm, hmd, ne_eq, and_self]
  · refine ⟨Int.fmod ?x many, _, (fmod_lt h0).1, (fmod_lt h0).2, ⟨cells', pl', rest', mix', count' + 1, rfl, hp', hr', hc'⟩, ?e⟩
    case e =>
      simp only [runFn, evSs, ev_var, ev_int, ev_bl, ev_non, ev_str, ev_glob, ev_bin, ev_neg, ev_not, ev_and, ev_or, ev_cmp, ev_chain, ev_isn, ev_isb, ev_ite, ev_tup, ev_lst, ev_idx, ev_slice, ev_call, ev_blt, ev_inst, ev_meth, ev_comp, evL_nil, evL_cons, evAnd_1, evOr_1, evAnd_cons, evOr_cons, evS_set, evS_par, evS_unp, evS_sub, evS_subs, evS_aug, evS_ex, evS_ret, evS_ite, evS_whl, evS_for, evS_brk, evS_pass, itE, pIter, srcOf, chk_nil, compEnd, evAnd1, evSub, evLT, evSubs, R.bind, R.thn, RS.turn, PR.fin, asB, kRef, kNeg, kNot, kIsn, kIsb, kTup, kInst, kSet, kPar, kPut, kAug, kSubs, isNon_non, isNon_bl, isNon_int, isNon_str, isNon_tup, isNon_lst, isNon_klst, isNon_ref, isT_non_int, isT_non_bool, isT_non_tuple, isT_non_list, isT_non_str, isT_non_tuple_list, isT_non_list_tuple, isT_bl_int, isT_bl_bool, isT_bl_tuple, isT_bl_list, isT_bl_str, isT_bl_tuple_list, isT_bl_list_tuple, isT_int_int, isT_int_bool, isT_int_tuple, isT_int_list, isT_int_str, isT_int_tuple_list, isT_int_list_tuple, isT_str_int, isT_str_bool, isT_str_tuple, isT_str_list, isT_str_str, isT_str_tuple_list, isT_str_list_tuple, isT_tup_int, isT_tup_bool, isT_tup_tuple, isT_tup_list, isT_tup_str, isT_tup_tuple_list, isT_tup_list_tuple, isT_lst_int, isT_lst_bool, isT_lst_tuple, isT_lst_list, isT_lst_str, isT_lst_tuple_list, isT_lst_list_tuple, isT_klst_int, isT_klst_bool, isT_klst_tuple, isT_klst_list, isT_klst_str, isT_klst_tuple_list, isT_klst_list_tuple, isT_ref_int, isT_ref_bool, isT_ref_tuple, isT_ref_list, isT_ref_str, isT_ref_tuple_list, isT_ref_list_tuple, cmp_eqI, cmp_neI, cmp_ltI, cmp_leI, cmp_gtI, cmp_geI, cmp_eqB, cmp_neB, idx_hand0, set_hand0, idx_hand1, set_hand1, idx_hand2, set_hand2, idx_hand3, set_hand3, idx_hand4, set_hand4, pBin, idx_tup0, idx_tup1, idx_tup2, idx_tup3, idx_tup4, idx_tup5, idx_tup6, idx_tup7, Int.cast_ofNat_Int, blt_abs, blt_int, blt_intB, blt_len_tup, blt_len_lst, blt_len_klst, blt_tuple_tup, blt_tuple_lst, blt_list_tup, blt_list_lst, blt_sum, blt_all_lst, blt_any_lst, blt_max2, blt_min2, intsD, boolsD, List.length_map, items, place, put, putL, wipe, Tg.names, Tg.namesL, deref, List.map_cons, List.map_nil, List.length_cons, List.length_nil, List.getElem?_cons_zero, List.getElem?_cons_succ, List.getElem?_nil, List.getElem?_append, List.set_cons_zero, List.set_cons_succ, List.set_nil, List.cons_append, List.nil_append, List.append_nil, List.replicate_succ, List.replicate_zero, Nat.sub_self, Nat.add_sub_cancel, Option.map_some, Option.map_none, Option.bind_some, Option.bind_none, Option.some.injEq, if_true, if_false, ite_true, ite_false, Bool.false_eq_true, reduceCtorEq, Nat.reduceSub, Nat.reduceAdd, Nat.reduceLT, Nat.reduceLeDiff, Nat.reduceEqDiff, Nat.reduceMul, Int.reduceLT, Int.reduceLE, Int.reduceEq, Int.reduceNe, Int.reducePow, Int.reduceToNat, Int.reduceNeg, Int.reduceNegSucc, Nat.zero_add, Int.reduceAdd, Int.reduceSub, Int.reduceMul, not_true_eq_false, not_false_eq_true, Nat.lt_irrefl, Nat.zero_le, Nat.zero_lt_succ, Nat.succ_sub_succ_eq_sub, Nat.reduceSucc, bne_tt, bne_tf, bne_ft, Bool.not_true, Bool.not_false, Bool.true_and, Bool.false_and, Bool.and_true, Bool.and_false, Bool.or_true, Bool.or_false, Bool.true_or, Bool.false_or, bne_self_eq_false, beq_self_eq_true, hg, decide_false, hm, hmd, k1, k2, k3, k4, z1, z2, z3, z4, ne_eq, and_self]
      rfl
end
end Pi

set_option Elab.async false
set_option linter.all false
set_option maxRecDepth 100000
namespace Pi
open PySem

def gcdL (zs : List Int) : Nat := zs.foldl (fun g z => Int.gcd g z) 0
/-- the last that is not 0, or 0 -/
def lastNz (zs : List Int) : Int := ((zs.filter (· ≠ 0)).getLast?).getD 0
def can (zs : List Int) : List Int := if gcdL zs = 0 then zs else zs.map fun z => z.fdiv (if lastNz zs < 0 then -(gcdL zs : Int) else (gcdL zs : Int))
theorem gcd_fold_dvd : ∀ (zs : List Int) (g : Nat), (zs.foldl (fun (g : Nat) z => Int.gcd g z) g ∣ g) ∧ ∀ z ∈ zs, ((zs.foldl (fun (g : Nat) z => Int.gcd g z) g : Nat) : Int) ∣ z
  | [], g => ⟨Nat.dvd_refl _, by simp⟩
  | x :: zs, g => by
    obtain ⟨h1, h2⟩ := gcd_fold_dvd zs (Int.gcd g x)
    have e1 : Int.gcd (g : Int) x ∣ g := by
      have := Int.gcd_dvd_left (a := (g : Int)) (b := x)
      exact Int.natCast_dvd_natCast.mp this
    refine ⟨Nat.dvd_trans h1 e1, fun z hz => ?_⟩
    rcases List.mem_cons.mp hz with e | hz
    · subst e
      exact Int.dvd_trans (Int.natCast_dvd_natCast.mpr h1) (Int.gcd_dvd_right _ _)
    · exact h2 z hz
theorem gcdL_dvd (zs : List Int) : ∀ z ∈ zs, (gcdL zs : Int) ∣ z := (gcd_fold_dvd zs 0).2
theorem gcdL_zero {zs : List Int} (h : gcdL zs = 0) : ∀ z ∈ zs, z = 0 := fun z hz => by
  have := gcdL_dvd zs z hz
  rw [h] at this
  exact Int.zero_dvd.mp this
theorem gcd_fold_mul (k : Int) : ∀ (zs : List Int) (g : Nat), (zs.map (k * ·)).foldl (fun (g : Nat) z => Int.gcd g z) (k.natAbs * g) = k.natAbs * zs.foldl (fun (g : Nat) z => Int.gcd g z) g
  | [], g => rfl
  | x :: zs, g => by
    simp only [List.map_cons, List.foldl_cons]
    have e : Int.gcd ((k.natAbs * g : Nat) : Int) (k * x) = k.natAbs * Int.gcd g x := by
      unfold Int.gcd
      simp only [Int.natAbs_natCast, Int.natAbs_mul]
      exact Nat.gcd_mul_left _ _ _
    rw [e]
    exact gcd_fold_mul k zs _
theorem gcdL_mul (k : Int) (zs : List Int) : gcdL (zs.map (k * ·)) = k.natAbs * gcdL zs := by
  have := gcd_fold_mul k zs 0
  rwa [Nat.mul_zero] at this
theorem filter_mul {k : Int} (hk : k ≠ 0) : ∀ zs : List Int, (zs.map (k * ·)).filter (· ≠ 0) = (zs.filter (· ≠ 0)).map (k * ·)
  | [] => rfl
  | x :: zs => by
    have ih := filter_mul hk zs
    by_cases hx : x = 0
    · rw [hx, List.map_cons, Int.mul_zero]
      exact ih
    · have : k * x ≠ 0 := Int.mul_ne_zero hk hx
      simp only [List.map_cons]
      rw [List.filter_cons_of_pos (by simpa using this), List.filter_cons_of_pos (by simpa using hx), ih]
      rfl
theorem lastNz_mul {k : Int} (hk : k ≠ 0) (zs : List Int) : lastNz (zs.map (k * ·)) = k * lastNz zs := by
  unfold lastNz
  rw [filter_mul hk, List.getLast?_map]
  cases (zs.filter (· ≠ 0)).getLast? <;> simp
theorem fdiv_neg_dvd {a b : Int} (h : b ∣ a) : a.fdiv b = a / b := by
  obtain ⟨c, rfl⟩ := h
  by_cases hb : b = 0
  · subst hb; simp
  · rw [Int.mul_fdiv_cancel_left _ hb, Int.mul_ediv_cancel_left _ hb]
theorem lastNz_ne {zs : List Int} (h : gcdL zs ≠ 0) : lastNz zs ≠ 0 := by
  unfold lastNz
  intro e
  cases hl : (zs.filter (· ≠ 0)).getLast? with
  | none =>
    have hn : zs.filter (· ≠ 0) = [] := by simpa using hl
    apply h
    have hz : ∀ z ∈ zs, z = 0 := fun z hz => by
      have := List.filter_eq_nil_iff.mp hn z hz
      simpa using this
    clear h e hl hn
    unfold gcdL
    have : ∀ (zs : List Int), (∀ z ∈ zs, z = 0) → zs.foldl (fun (g : Nat) z => Int.gcd g z) 0 = 0 := by
      intro zs
      induction zs with
      | nil => intro _; rfl
      | cons x r ih =>
        intro h
        rw [List.foldl_cons, h x List.mem_cons_self]
        exact ih fun z hz => h z (List.mem_cons_of_mem _ hz)
    exact this zs hz
  | some x =>
    rw [hl] at e
    have hm : x ∈ zs.filter (· ≠ 0) := List.mem_of_getLast? hl
    have := (List.mem_filter.mp hm).2
    simp at this e
    exact this e
/-- what the row is divided by -/
def sgcd (zs : List Int) : Int := if lastNz zs < 0 then -(gcdL zs : Int) else (gcdL zs : Int)
theorem sgcd_dvd (zs : List Int) : ∀ z ∈ zs, sgcd zs ∣ z := fun z hz => by
  unfold sgcd
  split
  · exact Int.neg_dvd.mpr (gcdL_dvd zs z hz)
  · exact gcdL_dvd zs z hz
theorem can_eq {zs : List Int} (h : gcdL zs ≠ 0) : can zs = zs.map (· / sgcd zs) := by
  unfold can
  rw [if_neg h]
  exact List.map_congr_left fun z hz => fdiv_neg_dvd (sgcd_dvd zs z hz)
theorem sgcd_mul {k : Int} (hk : k ≠ 0) {zs : List Int} (h : gcdL zs ≠ 0) : sgcd (zs.map (k * ·)) = k * sgcd zs := by
  have hl := lastNz_ne h
  unfold sgcd
  rw [lastNz_mul hk, gcdL_mul]
  rcases Int.lt_or_gt_of_ne hk with h1 | h1
  · have ek : ((k.natAbs * gcdL zs : Nat) : Int) = -k * (gcdL zs : Int) := by
      rw [Int.natCast_mul]
      congr 1
      omega
    rw [ek]
    rcases Int.lt_or_gt_of_ne hl with h2 | h2
    · rw [if_neg (Int.not_lt.mpr (Int.le_of_lt (Int.mul_pos_of_neg_of_neg h1 h2))), if_pos h2]
      rw [Int.neg_mul, Int.mul_neg]
    · rw [if_pos (Int.mul_neg_of_neg_of_pos h1 h2), if_neg (by omega)]
      rw [Int.neg_mul, Int.neg_neg]
  · have ek : ((k.natAbs * gcdL zs : Nat) : Int) = k * (gcdL zs : Int) := by
      rw [Int.natCast_mul]
      congr 1
      omega
    rw [ek]
    rcases Int.lt_or_gt_of_ne hl with h2 | h2
    · rw [if_pos (Int.mul_neg_of_pos_of_neg h1 h2), if_pos h2, Int.mul_neg]
    · rw [if_neg (Int.not_lt.mpr (Int.le_of_lt (Int.mul_pos h1 h2))), if_neg (by omega)]
theorem mul_div_mul {k b a : Int} (hk : k ≠ 0) (hb : b ∣ a) : k * a / (k * b) = a / b := by
  obtain ⟨c, rfl⟩ := hb
  by_cases h0 : b = 0
  · subst h0
    simp
  · rw [← Int.mul_assoc, Int.mul_ediv_cancel_left _ (Int.mul_ne_zero hk h0), Int.mul_ediv_cancel_left _ h0]
/-- a multiple has the same lowest row -/
theorem can_mul {k : Int} (hk : k ≠ 0) (zs : List Int) : gcdL zs ≠ 0 → can (zs.map (k * ·)) = can zs := by
  intro h
  have h' : gcdL (zs.map (k * ·)) ≠ 0 := by
    rw [gcdL_mul]
    have := Int.natAbs_ne_zero.mpr hk
    exact Nat.mul_ne_zero this h
  rw [can_eq h', can_eq h, sgcd_mul hk h, List.map_map]
  exact List.map_congr_left fun z hz => mul_div_mul hk (sgcd_dvd zs z hz)
theorem sgcd_ne {zs : List Int} (h : gcdL zs ≠ 0) : sgcd zs ≠ 0 := by
  unfold sgcd
  split <;> omega
/-- the row is a multiple of its lowest row -/
theorem can_back {zs : List Int} (h : gcdL zs ≠ 0) : zs = (can zs).map (sgcd zs * ·) := by
  rw [can_eq h, List.map_map]
  have : ∀ z ∈ zs, (((sgcd zs * ·) ∘ (· / sgcd zs)) z) = id z := fun z hz => Int.mul_ediv_cancel' (sgcd_dvd zs z hz)
  rw [List.map_congr_left this, List.map_id]
theorem can_nz {zs : List Int} (h : gcdL zs ≠ 0) : gcdL (can zs) ≠ 0 := by
  intro z
  apply h
  have := gcdL_mul (sgcd zs) (can zs)
  rw [← can_back h, z] at this
  exact this
/-- a lowest row is its own -/
theorem can_can {zs : List Int} (h : gcdL zs ≠ 0) : can (can zs) = can zs := by
  have := can_mul (sgcd_ne h) (can zs) (can_nz h)
  rw [← can_back h] at this
  exact this.symm
theorem can_prop {zs ws : List Int} {m n : Int} (hm : m ≠ 0) (hn : n ≠ 0) (e : zs.map (m * ·) = ws.map (n * ·)) (h : gcdL zs ≠ 0) : can zs = can ws := by
  have h2 : gcdL ws ≠ 0 := by
    intro z
    apply h
    have e1 := gcdL_mul m zs
    rw [e, gcdL_mul, z, Nat.mul_zero] at e1
    have := Int.natAbs_ne_zero.mpr hm
    rcases Nat.mul_eq_zero.mp e1.symm with q | q
    · exact absurd q this
    · exact q
  rw [← can_mul hm zs h, e, can_mul hn ws h2]

def ro (zs : List Int) : D := .tup (zs.map .int)
theorem idx_last {s : Store} {l : List Int} {z : Int} (h : l.getLast? = some z) : pIdx s (.lst (l.map .int)) (.int (-1)) = .val (.int z) := by
  have hl : l ≠ [] := by intro e; subst e; cases h
  have hp : 0 < l.length := List.length_pos_iff.mpr hl
  have e : place (List.map D.int l).length (-1) = some (l.length - 1) := by
    unfold place
    rw [if_neg (by decide), List.length_map, if_pos (by omega)]
    congr 1
    omega
  have e2 : (List.map D.int l)[l.length - 1]? = some (.int z) := by
    rw [List.getElem?_map]
    rw [List.getLast?_eq_getElem?] at h
    rw [h]
    rfl
  simp only [pIdx, items, e, Option.bind_some, e2]
section
variable {P : Prog} {s : Store}
theorem lowest_loop {n : Nat} (h : Has P Pl.Q_common) {r : Option D} {y : Option D} : ∀ (zs : List Int) (g : Nat) (x : Option D), (∀ z ∈ zs, z.natAbs < most) →
    ∃ x', forL (fun _ => true) (foT P.G (run P (n + 1)) (.n 2) [.set 1 (.call 101 [.var 1, .var 2])]) (zs.map .int) [r, some (.int g), x, y] s = .ok .nx [r, some (.int (zs.foldl (fun (g : Nat) z => Int.gcd g z) g : Nat)), x', y] s
  | [], g, x, _ => ⟨x, by rw [List.map_nil, for_nil]; rfl⟩
  | z :: zs, g, x, hz => by
    obtain ⟨x', e⟩ := lowest_loop h zs (Int.gcd g z) (some (.int z)) fun w hw => hz w (List.mem_cons_of_mem _ hw)
    refine ⟨x', ?_⟩
    have c := run_common (s := s) h g z (hz z List.mem_cons_self) n
    rw [List.map_cons, for_go (ρ' := [r, some (.int (Int.gcd g z)), some (.int z), y]) (s' := s), e]
    · rfl
    · simp only [foT, runFn, evSs, ev_var, ev_int, ev_bl, ev_non, ev_str, ev_glob, ev_bin, ev_neg, ev_not, ev_and, ev_or, ev_cmp, ev_chain, ev_isn, ev_isb, ev_ite, ev_tup, ev_lst, ev_idx, ev_slice, ev_call, ev_blt, ev_inst, ev_meth, ev_comp, evL_nil, evL_cons, evAnd_1, evOr_1, evAnd_cons, evOr_cons, evS_set, evS_par, evS_unp, evS_sub, evS_subs, evS_aug, evS_ex, evS_ret, evS_ite, evS_whl, evS_for, evS_brk, evS_pass, itE, pIter, srcOf, chk_nil, compEnd, evAnd1, evSub, evLT, evSubs, R.bind, R.thn, RS.turn, PR.fin, asB, kRef, kNeg, kNot, kIsn, kIsb, kTup, kInst, kSet, kPar, kPut, kAug, kSubs, isNon_non, isNon_bl, isNon_int, isNon_str, isNon_tup, isNon_lst, isNon_klst, isNon_ref, isT_non_int, isT_non_bool, isT_non_tuple, isT_non_list, isT_non_str, isT_non_tuple_list, isT_non_list_tuple, isT_bl_int, isT_bl_bool, isT_bl_tuple, isT_bl_list, isT_bl_str, isT_bl_tuple_list, isT_bl_list_tuple, isT_int_int, isT_int_bool, isT_int_tuple, isT_int_list, isT_int_str, isT_int_tuple_list, isT_int_list_tuple, isT_str_int, isT_str_bool, isT_str_tuple, isT_str_list, isT_str_str, isT_str_tuple_list, isT_str_list_tuple, isT_tup_int, isT_tup_bool, isT_tup_tuple, isT_tup_list, isT_tup_str, isT_tup_tuple_list, isT_tup_list_tuple, isT_lst_int, isT_lst_bool, isT_lst_tuple, isT_lst_list, isT_lst_str, isT_lst_tuple_list, isT_lst_list_tuple, isT_klst_int, isT_klst_bool, isT_klst_tuple, isT_klst_list, isT_klst_str, isT_klst_tuple_list, isT_klst_list_tuple, isT_ref_int, isT_ref_bool, isT_ref_tuple, isT_ref_list, isT_ref_str, isT_ref_tuple_list, isT_ref_list_tuple, cmp_eqI, cmp_neI, cmp_ltI, cmp_leI, cmp_gtI, cmp_geI, cmp_eqB, cmp_neB, idx_hand0, set_hand0, idx_hand1, set_hand1, idx_hand2, set_hand2, idx_hand3, set_hand3, idx_hand4, set_hand4, pBin, idx_tup0, idx_tup1, idx_tup2, idx_tup3, idx_tup4, idx_tup5, idx_tup6, idx_tup7, Int.cast_ofNat_Int, blt_abs, blt_int, blt_intB, blt_len_tup, blt_len_lst, blt_len_klst, blt_tuple_tup, blt_tuple_lst, blt_list_tup, blt_list_lst, blt_sum, blt_all_lst, blt_any_lst, blt_max2, blt_min2, intsD, boolsD, List.length_map, items, place, put, putL, wipe, Tg.names, Tg.namesL, deref, List.map_cons, List.map_nil, List.length_cons, List.length_nil, List.getElem?_cons_zero, List.getElem?_cons_succ, List.getElem?_nil, List.getElem?_append, List.set_cons_zero, List.set_cons_succ, List.set_nil, List.cons_append, List.nil_append, List.append_nil, List.replicate_succ, List.replicate_zero, Nat.sub_self, Nat.add_sub_cancel, Option.map_some, Option.map_none, Option.bind_some, Option.bind_none, Option.some.injEq, if_true, if_false, ite_true, ite_false, Bool.false_eq_true, reduceCtorEq, Nat.reduceSub, Nat.reduceAdd, Nat.reduceLT, Nat.reduceLeDiff, Nat.reduceEqDiff, Nat.reduceMul, Int.reduceLT, Int.reduceLE, Int.reduceEq, Int.reduceNe, Int.reducePow, Int.reduceToNat, Int.reduceNeg, Int.reduceNegSucc, Nat.zero_add, Int.reduceAdd, Int.reduceSub, Int.reduceMul, not_true_eq_false, not_false_eq_true, Nat.lt_irrefl, Nat.zero_le, Nat.zero_lt_succ, Nat.succ_sub_succ_eq_sub, Nat.reduceSucc, bne_tt, bne_tf, bne_ft, Bool.not_true, Bool.not_false, Bool.true_and, Bool.false_and, Bool.and_true, Bool.and_false, Bool.or_true, Bool.or_false, Bool.true_or, Bool.false_or, bne_self_eq_false, beq_self_eq_true, c]
theorem run_lowest {n : Nat} (h : Has P Pl.Q_lowest) {d : D} {zs : List Int} (hd : d = .tup (zs.map .int) ∨ d = .lst (zs.map .int)) (hz : ∀ z ∈ zs, z.natAbs < dmax) (hl : zs.length ≤ 1000) : run P (n + 2) 104 [d] s = .ok (ro (can zs)) s := by
  have hc : Has P Pl.Q_common := h.sub (by decide)
  have dm : ∀ k : Nat, k < dmax → k < most := fun k hk => Nat.lt_of_lt_of_le hk (two_pow_le (by decide))
  have gd : gcdL zs < dmax := by
    by_cases h0 : gcdL zs = 0
    · rw [h0]; exact Nat.two_pow_pos _
    · cases zs with
      | nil => exact absurd rfl h0
      | cons z r =>
        have hne := lastNz_ne h0
        have hm : lastNz (z :: r) ∈ z :: r := by
          unfold lastNz at hne ⊢
          cases hq : ((z :: r).filter (· ≠ 0)).getLast? with
          | none => rw [hq] at hne; exact absurd rfl hne
          | some w => exact (List.mem_filter.mp (List.mem_of_getLast? hq)).1
        have dv := gcdL_dvd (z :: r) _ hm
        have le : gcdL (z :: r) ≤ (lastNz (z :: r)).natAbs := Nat.le_of_dvd (by omega) (by simpa using Int.natAbs_dvd_natAbs.mpr dv)
        exact Nat.lt_of_le_of_lt le (hz _ hm)
  rw [has_run (F := Pl.F_lowest) h (by decide) rfl]
  have hsrc : srcOf s d = some ⟨[], zs.map .int⟩ := by rcases hd with e | e <;> subst e <;> rfl
  obtain ⟨x', lp⟩ := lowest_loop (n := n) (s := s) hc (r := some d) (y := none) zs 0 none fun z hz' => dm _ (hz z hz')
  have lp' : forL (fun _ => true) (foT P.G (run P (n + 1)) (.n 2) [.set 1 (.call 101 [.var 1, .var 2])]) (zs.map .int) [some d, some (.int 0), none, none] s = .ok .nx [some d, some (.int (gcdL zs : Nat)), x', none] s := lp
  have htup : pBlt s .tuple [d] = .val (.tup (zs.map .int)) := by rcases hd with e | e <;> subst e <;> rfl
  by_cases h0 : gcdL zs = 0
  · have e : can zs = zs := by unfold can; rw [if_pos h0]
    rw [e]
    simp only [Pl.F_lowest, Pl.B_lowest, runFn, evSs, ev_var, ev_int, ev_bl, ev_non, ev_str, ev_glob, ev_bin, ev_neg, ev_not, ev_and, ev_or, ev_cmp, ev_chain, ev_isn, ev_isb, ev_ite, ev_tup, ev_lst, ev_idx, ev_slice, ev_call, ev_blt, ev_inst, ev_meth, ev_comp, evL_nil, evL_cons, evAnd_1, evOr_1, evAnd_cons, evOr_cons, evS_set, evS_par, evS_unp, evS_sub, evS_subs, evS_aug, evS_ex, evS_ret, evS_ite, evS_whl, evS_for, evS_brk, evS_pass, itE, pIter, chk_nil, compEnd, evAnd1, evSub, evLT, evSubs, R.bind, R.thn, RS.turn, PR.fin, asB, kRef, kNeg, kNot, kIsn, kIsb, kTup, kInst, kSet, kPar, kPut, kAug, kSubs, isNon_non, isNon_bl, isNon_int, isNon_str, isNon_tup, isNon_lst, isNon_klst, isNon_ref, isT_non_int, isT_non_bool, isT_non_tuple, isT_non_list, isT_non_str, isT_non_tuple_list, isT_non_list_tuple, isT_bl_int, isT_bl_bool, isT_bl_tuple, isT_bl_list, isT_bl_str, isT_bl_tuple_list, isT_bl_list_tuple, isT_int_int, isT_int_bool, isT_int_tuple, isT_int_list, isT_int_str, isT_int_tuple_list, isT_int_list_tuple, isT_str_int, isT_str_bool, isT_str_tuple, isT_str_list, isT_str_str, isT_str_tuple_list, isT_str_list_tuple, isT_tup_int, isT_tup_bool, isT_tup_tuple, isT_tup_list, isT_tup_str, isT_tup_tuple_list, isT_tup_list_tuple, isT_lst_int, isT_lst_bool, isT_lst_tuple, isT_lst_list, isT_lst_str, isT_lst_tuple_list, isT_lst_list_tuple, isT_klst_int, isT_klst_bool, isT_klst_tuple, isT_klst_list, isT_klst_str, isT_klst_tuple_list, isT_klst_list_tuple, isT_ref_int, isT_ref_bool, isT_ref_tuple, isT_ref_list, isT_ref_str, isT_ref_tuple_list, isT_ref_list_tuple, cmp_eqI, cmp_neI, cmp_ltI, cmp_leI, cmp_gtI, cmp_geI, cmp_eqB, cmp_neB, idx_hand0, set_hand0, idx_hand1, set_hand1, idx_hand2, set_hand2, idx_hand3, set_hand3, idx_hand4, set_hand4, pBin, idx_tup0, idx_tup1, idx_tup2, idx_tup3, idx_tup4, idx_tup5, idx_tup6, idx_tup7, Int.cast_ofNat_Int, blt_abs, blt_int, blt_intB, blt_len_tup, blt_len_lst, blt_len_klst, blt_tuple_tup, blt_tuple_lst, blt_list_tup, blt_list_lst, blt_sum, blt_all_lst, blt_any_lst, blt_max2, blt_min2, intsD, boolsD, List.length_map, items, place, put, putL, wipe, Tg.names, Tg.namesL, deref, List.map_cons, List.map_nil, List.length_cons, List.length_nil, List.getElem?_cons_zero, List.getElem?_cons_succ, List.getElem?_nil, List.getElem?_append, List.set_cons_zero, List.set_cons_succ, List.set_nil, List.cons_append, List.nil_append, List.append_nil, List.replicate_succ, List.replicate_zero, Nat.sub_self, Nat.add_sub_cancel, Option.map_some, Option.map_none, Option.bind_some, Option.bind_none, Option.some.injEq, if_true, if_false, ite_true, ite_false, Bool.false_eq_true, reduceCtorEq, Nat.reduceSub, Nat.reduceAdd, Nat.reduceLT, Nat.reduceLeDiff, Nat.reduceEqDiff, Nat.reduceMul, Int.reduceLT, Int.reduceLE, Int.reduceEq, Int.reduceNe, Int.reducePow, Int.reduceToNat, Int.reduceNeg, Int.reduceNegSucc, Nat.zero_add, Int.reduceAdd, Int.reduceSub, Int.reduceMul, not_true_eq_false, not_false_eq_true, Nat.lt_irrefl, Nat.zero_le, Nat.zero_lt_succ, Nat.succ_sub_succ_eq_sub, Nat.reduceSucc, bne_tt, bne_tf, bne_ft, Bool.not_true, Bool.not_false, Bool.true_and, Bool.false_and, Bool.and_true, Bool.and_false, Bool.or_true, Bool.or_false, Bool.true_or, Bool.false_or, bne_self_eq_false, beq_self_eq_true, hsrc, lp', h0, htup, Int.natCast_zero, decide_true]
    rfl
  · have hne := lastNz_ne h0
    have g0 : ((gcdL zs : Nat) : Int) ≠ 0 := by omega
    have stepF : ∀ x ∈ zs.map D.int, compStep P.G (run P (n + 1)) (.var 2) (.n 2) [.cmp .ne (.var 2) (.int 0)] [some d, some (.int (gcdL zs : Nat)), x', none] x s = .ok (match x with | .int z => if z = 0 then none else some (.int z) | _ => none) s := by
      intro x hx
      obtain ⟨z, _, rfl⟩ := List.mem_map.mp hx
      by_cases hz : z = 0
      · simp only [compStep, runFn, evSs, ev_var, ev_int, ev_bl, ev_non, ev_str, ev_glob, ev_bin, ev_neg, ev_not, ev_and, ev_or, ev_cmp, ev_chain, ev_isn, ev_isb, ev_ite, ev_tup, ev_lst, ev_idx, ev_slice, ev_call, ev_blt, ev_inst, ev_meth, ev_comp, evL_nil, evL_cons, evAnd_1, evOr_1, evAnd_cons, evOr_cons, evS_set, evS_par, evS_unp, evS_sub, evS_subs, evS_aug, evS_ex, evS_ret, evS_ite, evS_whl, evS_for, evS_brk, evS_pass, itE, pIter, srcOf, chk_nil, compEnd, evAnd1, evSub, evLT, evSubs, R.bind, R.thn, RS.turn, PR.fin, asB, kRef, kNeg, kNot, kIsn, kIsb, kTup, kInst, kSet, kPar, kPut, kAug, kSubs, isNon_non, isNon_bl, isNon_int, isNon_str, isNon_tup, isNon_lst, isNon_klst, isNon_ref, isT_non_int, isT_non_bool, isT_non_tuple, isT_non_list, isT_non_str, isT_non_tuple_list, isT_non_list_tuple, isT_bl_int, isT_bl_bool, isT_bl_tuple, isT_bl_list, isT_bl_str, isT_bl_tuple_list, isT_bl_list_tuple, isT_int_int, isT_int_bool, isT_int_tuple, isT_int_list, isT_int_str, isT_int_tuple_list, isT_int_list_tuple, isT_str_int, isT_str_bool, isT_str_tuple, isT_str_list, isT_str_str, isT_str_tuple_list, isT_str_list_tuple, isT_tup_int, isT_tup_bool, isT_tup_tuple, isT_tup_list, isT_tup_str, isT_tup_tuple_list, isT_tup_list_tuple, isT_lst_int, isT_lst_bool, isT_lst_tuple, isT_lst_list, isT_lst_str, isT_lst_tuple_list, isT_lst_list_tuple, isT_klst_int, isT_klst_bool, isT_klst_tuple, isT_klst_list, isT_klst_str, isT_klst_tuple_list, isT_klst_list_tuple, isT_ref_int, isT_ref_bool, isT_ref_tuple, isT_ref_list, isT_ref_str, isT_ref_tuple_list, isT_ref_list_tuple, cmp_eqI, cmp_neI, cmp_ltI, cmp_leI, cmp_gtI, cmp_geI, cmp_eqB, cmp_neB, idx_hand0, set_hand0, idx_hand1, set_hand1, idx_hand2, set_hand2, idx_hand3, set_hand3, idx_hand4, set_hand4, pBin, idx_tup0, idx_tup1, idx_tup2, idx_tup3, idx_tup4, idx_tup5, idx_tup6, idx_tup7, Int.cast_ofNat_Int, blt_abs, blt_int, blt_intB, blt_len_tup, blt_len_lst, blt_len_klst, blt_tuple_tup, blt_tuple_lst, blt_list_tup, blt_list_lst, blt_sum, blt_all_lst, blt_any_lst, blt_max2, blt_min2, intsD, boolsD, List.length_map, items, place, put, putL, wipe, Tg.names, Tg.namesL, deref, List.map_cons, List.map_nil, List.length_cons, List.length_nil, List.getElem?_cons_zero, List.getElem?_cons_succ, List.getElem?_nil, List.getElem?_append, List.set_cons_zero, List.set_cons_succ, List.set_nil, List.cons_append, List.nil_append, List.append_nil, List.replicate_succ, List.replicate_zero, Nat.sub_self, Nat.add_sub_cancel, Option.map_some, Option.map_none, Option.bind_some, Option.bind_none, Option.some.injEq, if_true, if_false, ite_true, ite_false, Bool.false_eq_true, reduceCtorEq, Nat.reduceSub, Nat.reduceAdd, Nat.reduceLT, Nat.reduceLeDiff, Nat.reduceEqDiff, Nat.reduceMul, Int.reduceLT, Int.reduceLE, Int.reduceEq, Int.reduceNe, Int.reducePow, Int.reduceToNat, Int.reduceNeg, Int.reduceNegSucc, Nat.zero_add, Int.reduceAdd, Int.reduceSub, Int.reduceMul, not_true_eq_false, not_false_eq_true, Nat.lt_irrefl, Nat.zero_le, Nat.zero_lt_succ, Nat.succ_sub_succ_eq_sub, Nat.reduceSucc, bne_tt, bne_tf, bne_ft, Bool.not_true, Bool.not_false, Bool.true_and, Bool.false_and, Bool.and_true, Bool.and_false, Bool.or_true, Bool.or_false, Bool.true_or, Bool.false_or, bne_self_eq_false, beq_self_eq_true, hz, decide_true]
      · simp only [compStep, runFn, evSs, ev_var, ev_int, ev_bl, ev_non, ev_str, ev_glob, ev_bin, ev_neg, ev_not, ev_and, ev_or, ev_cmp, ev_chain, ev_isn, ev_isb, ev_ite, ev_tup, ev_lst, ev_idx, ev_slice, ev_call, ev_blt, ev_inst, ev_meth, ev_comp, evL_nil, evL_cons, evAnd_1, evOr_1, evAnd_cons, evOr_cons, evS_set, evS_par, evS_unp, evS_sub, evS_subs, evS_aug, evS_ex, evS_ret, evS_ite, evS_whl, evS_for, evS_brk, evS_pass, itE, pIter, srcOf, chk_nil, compEnd, evAnd1, evSub, evLT, evSubs, R.bind, R.thn, RS.turn, PR.fin, asB, kRef, kNeg, kNot, kIsn, kIsb, kTup, kInst, kSet, kPar, kPut, kAug, kSubs, isNon_non, isNon_bl, isNon_int, isNon_str, isNon_tup, isNon_lst, isNon_klst, isNon_ref, isT_non_int, isT_non_bool, isT_non_tuple, isT_non_list, isT_non_str, isT_non_tuple_list, isT_non_list_tuple, isT_bl_int, isT_bl_bool, isT_bl_tuple, isT_bl_list, isT_bl_str, isT_bl_tuple_list, isT_bl_list_tuple, isT_int_int, isT_int_bool, isT_int_tuple, isT_int_list, isT_int_str, isT_int_tuple_list, isT_int_list_tuple, isT_str_int, isT_str_bool, isT_str_tuple, isT_str_list, isT_str_str, isT_str_tuple_list, isT_str_list_tuple, isT_tup_int, isT_tup_bool, isT_tup_tuple, isT_tup_list, isT_tup_str, isT_tup_tuple_list, isT_tup_list_tuple, isT_lst_int, isT_lst_bool, isT_lst_tuple, isT_lst_list, isT_lst_str, isT_lst_tuple_list, isT_lst_list_tuple, isT_klst_int, isT_klst_bool, isT_klst_tuple, isT_klst_list, isT_klst_str, isT_klst_tuple_list, isT_klst_list_tuple, isT_ref_int, isT_ref_bool, isT_ref_tuple, isT_ref_list, isT_ref_str, isT_ref_tuple_list, isT_ref_list_tuple, cmp_eqI, cmp_neI, cmp_ltI, cmp_leI, cmp_gtI, cmp_geI, cmp_eqB, cmp_neB, idx_hand0, set_hand0, idx_hand1, set_hand1, idx_hand2, set_hand2, idx_hand3, set_hand3, idx_hand4, set_hand4, pBin, idx_tup0, idx_tup1, idx_tup2, idx_tup3, idx_tup4, idx_tup5, idx_tup6, idx_tup7, Int.cast_ofNat_Int, blt_abs, blt_int, blt_intB, blt_len_tup, blt_len_lst, blt_len_klst, blt_tuple_tup, blt_tuple_lst, blt_list_tup, blt_list_lst, blt_sum, blt_all_lst, blt_any_lst, blt_max2, blt_min2, intsD, boolsD, List.length_map, items, place, put, putL, wipe, Tg.names, Tg.namesL, deref, List.map_cons, List.map_nil, List.length_cons, List.length_nil, List.getElem?_cons_zero, List.getElem?_cons_succ, List.getElem?_nil, List.getElem?_append, List.set_cons_zero, List.set_cons_succ, List.set_nil, List.cons_append, List.nil_append, List.append_nil, List.replicate_succ, List.replicate_zero, Nat.sub_self, Nat.add_sub_cancel, Option.map_some, Option.map_none, Option.bind_some, Option.bind_none, Option.some.injEq, if_true, if_false, ite_true, ite_false, Bool.false_eq_true, reduceCtorEq, Nat.reduceSub, Nat.reduceAdd, Nat.reduceLT, Nat.reduceLeDiff, Nat.reduceEqDiff, Nat.reduceMul, Int.reduceLT, Int.reduceLE, Int.reduceEq, Int.reduceNe, Int.reducePow, Int.reduceToNat, Int.reduceNeg, Int.reduceNegSucc, Nat.zero_add, Int.reduceAdd, Int.reduceSub, Int.reduceMul, not_true_eq_false, not_false_eq_true, Nat.lt_irrefl, Nat.zero_le, Nat.zero_lt_succ, Nat.succ_sub_succ_eq_sub, Nat.reduceSucc, bne_tt, bne_tf, bne_ft, Bool.not_true, Bool.not_false, Bool.true_and, Bool.false_and, Bool.and_true, Bool.and_false, Bool.or_true, Bool.or_false, Bool.true_or, Bool.false_or, bne_self_eq_false, beq_self_eq_true, hz, decide_false]
    have fl : (zs.map D.int).filterMap (fun x => match x with | .int z => if z = 0 then none else some (.int z) | _ => none) = (zs.filter (· ≠ 0)).map D.int := by
      clear stepF hz hl gd hsrc lp lp' htup h0 hne g0 hd
      induction zs with
      | nil => rfl
      | cons z r ih =>
        by_cases hz : z = 0
        · subst hz
          rw [List.filter_cons_of_neg (by simp), List.map_cons, List.filterMap_cons_none (by rfl)]
          exact ih
        · rw [List.filter_cons_of_pos (by simpa using hz), List.map_cons, List.filterMap_cons_some (b := .int z) (by simp [hz]), List.map_cons]
          rw [ih]
    have cf := comp_filter (zs.map D.int) [] stepF (by simp; omega)
    rw [fl, List.nil_append] at cf
    have hlast : (zs.filter (· ≠ 0)).getLast? = some (lastNz zs) := by
      unfold lastNz at hne ⊢
      cases hq : (zs.filter (· ≠ 0)).getLast? with
      | none => rw [hq] at hne; exact absurd rfl hne
      | some w => rfl
    have il := fun s => idx_last (s := s) hlast
    have stepM : ∀ (q : Int), q ≠ 0 → q.natAbs < dmax → ∀ y : Option D, ∀ x ∈ zs.map D.int, compStep P.G (run P (n + 1)) (.bin false .fdiv (.var 2) (.var 1)) (.n 2) [] [some d, some (.int q), x', y] x s = .ok (some (match x with | .int z => .int (z.fdiv q) | d => d)) s := by
      intro q hq hq2 y x hx
      obtain ⟨z, _, rfl⟩ := List.mem_map.mp hx
      simp only [compStep, runFn, evSs, ev_var, ev_int, ev_bl, ev_non, ev_str, ev_glob, ev_bin, ev_neg, ev_not, ev_and, ev_or, ev_cmp, ev_chain, ev_isn, ev_isb, ev_ite, ev_tup, ev_lst, ev_idx, ev_slice, ev_call, ev_blt, ev_inst, ev_meth, ev_comp, evL_nil, evL_cons, evAnd_1, evOr_1, evAnd_cons, evOr_cons, evS_set, evS_par, evS_unp, evS_sub, evS_subs, evS_aug, evS_ex, evS_ret, evS_ite, evS_whl, evS_for, evS_brk, evS_pass, itE, pIter, srcOf, chk_nil, compEnd, evAnd1, evSub, evLT, evSubs, R.bind, R.thn, RS.turn, PR.fin, asB, kRef, kNeg, kNot, kIsn, kIsb, kTup, kInst, kSet, kPar, kPut, kAug, kSubs, isNon_non, isNon_bl, isNon_int, isNon_str, isNon_tup, isNon_lst, isNon_klst, isNon_ref, isT_non_int, isT_non_bool, isT_non_tuple, isT_non_list, isT_non_str, isT_non_tuple_list, isT_non_list_tuple, isT_bl_int, isT_bl_bool, isT_bl_tuple, isT_bl_list, isT_bl_str, isT_bl_tuple_list, isT_bl_list_tuple, isT_int_int, isT_int_bool, isT_int_tuple, isT_int_list, isT_int_str, isT_int_tuple_list, isT_int_list_tuple, isT_str_int, isT_str_bool, isT_str_tuple, isT_str_list, isT_str_str, isT_str_tuple_list, isT_str_list_tuple, isT_tup_int, isT_tup_bool, isT_tup_tuple, isT_tup_list, isT_tup_str, isT_tup_tuple_list, isT_tup_list_tuple, isT_lst_int, isT_lst_bool, isT_lst_tuple, isT_lst_list, isT_lst_str, isT_lst_tuple_list, isT_lst_list_tuple, isT_klst_int, isT_klst_bool, isT_klst_tuple, isT_klst_list, isT_klst_str, isT_klst_tuple_list, isT_klst_list_tuple, isT_ref_int, isT_ref_bool, isT_ref_tuple, isT_ref_list, isT_ref_str, isT_ref_tuple_list, isT_ref_list_tuple, cmp_eqI, cmp_neI, cmp_ltI, cmp_leI, cmp_gtI, cmp_geI, cmp_eqB, cmp_neB, idx_hand0, set_hand0, idx_hand1, set_hand1, idx_hand2, set_hand2, idx_hand3, set_hand3, idx_hand4, set_hand4, pBin, idx_tup0, idx_tup1, idx_tup2, idx_tup3, idx_tup4, idx_tup5, idx_tup6, idx_tup7, Int.cast_ofNat_Int, blt_abs, blt_int, blt_intB, blt_len_tup, blt_len_lst, blt_len_klst, blt_tuple_tup, blt_tuple_lst, blt_list_tup, blt_list_lst, blt_sum, blt_all_lst, blt_any_lst, blt_max2, blt_min2, intsD, boolsD, List.length_map, items, place, put, putL, wipe, Tg.names, Tg.namesL, deref, List.map_cons, List.map_nil, List.length_cons, List.length_nil, List.getElem?_cons_zero, List.getElem?_cons_succ, List.getElem?_nil, List.getElem?_append, List.set_cons_zero, List.set_cons_succ, List.set_nil, List.cons_append, List.nil_append, List.append_nil, List.replicate_succ, List.replicate_zero, Nat.sub_self, Nat.add_sub_cancel, Option.map_some, Option.map_none, Option.bind_some, Option.bind_none, Option.some.injEq, if_true, if_false, ite_true, ite_false, Bool.false_eq_true, reduceCtorEq, Nat.reduceSub, Nat.reduceAdd, Nat.reduceLT, Nat.reduceLeDiff, Nat.reduceEqDiff, Nat.reduceMul, Int.reduceLT, Int.reduceLE, Int.reduceEq, Int.reduceNe, Int.reducePow, Int.reduceToNat, Int.reduceNeg, Int.reduceNegSucc, Nat.zero_add, Int.reduceAdd, Int.reduceSub, Int.reduceMul, not_true_eq_false, not_false_eq_true, Nat.lt_irrefl, Nat.zero_le, Nat.zero_lt_succ, Nat.succ_sub_succ_eq_sub, Nat.reduceSucc, bne_tt, bne_tf, bne_ft, Bool.not_true, Bool.not_false, Bool.true_and, Bool.false_and, Bool.and_true, Bool.and_false, Bool.or_true, Bool.or_false, Bool.true_or, Bool.false_or, bne_self_eq_false, beq_self_eq_true, ne_eq, hq, hq2, and_self]
    have fm : ∀ q : Int, (zs.map D.int).map (fun x => match x with | .int z => .int (z.fdiv q) | d => d) = (zs.map (·.fdiv q)).map D.int := fun q => by
      rw [List.map_map, List.map_map]
      rfl
    have cm := fun q hq hq2 y => comp_map (zs.map D.int) [] (stepM q hq hq2 y) (by simp; omega)
    have lf : (zs.filter (· ≠ 0)).length ≤ 100000 := by
      have := List.length_filter_le (· ≠ 0) zs
      omega
    have lm : zs.length ≤ 100000 := by omega
    have e : ∀ q, (if lastNz zs < 0 then -(gcdL zs : Int) else (gcdL zs : Int)) = q → can zs = zs.map (·.fdiv q) := fun q hq => by
      unfold can
      rw [if_neg h0, hq]
    by_cases hn : lastNz zs < 0
    · have c1 := cm (-(gcdL zs : Int)) (by omega) (by simpa using gd) (some (.int (lastNz zs)))
      rw [fm, List.nil_append] at c1
      rw [e (-(gcdL zs : Int)) (if_pos hn)]
      simp only [Pl.F_lowest, Pl.B_lowest, runFn, evSs, ev_var, ev_int, ev_bl, ev_non, ev_str, ev_glob, ev_bin, ev_neg, ev_not, ev_and, ev_or, ev_cmp, ev_chain, ev_isn, ev_isb, ev_ite, ev_tup, ev_lst, ev_idx, ev_slice, ev_call, ev_blt, ev_inst, ev_meth, ev_comp, evL_nil, evL_cons, evAnd_1, evOr_1, evAnd_cons, evOr_cons, evS_set, evS_par, evS_unp, evS_sub, evS_subs, evS_aug, evS_ex, evS_ret, evS_ite, evS_whl, evS_for, evS_brk, evS_pass, itE, pIter, chk_nil, compEnd, evAnd1, evSub, evLT, evSubs, R.bind, R.thn, RS.turn, PR.fin, asB, kRef, kNeg, kNot, kIsn, kIsb, kTup, kInst, kSet, kPar, kPut, kAug, kSubs, isNon_non, isNon_bl, isNon_int, isNon_str, isNon_tup, isNon_lst, isNon_klst, isNon_ref, isT_non_int, isT_non_bool, isT_non_tuple, isT_non_list, isT_non_str, isT_non_tuple_list, isT_non_list_tuple, isT_bl_int, isT_bl_bool, isT_bl_tuple, isT_bl_list, isT_bl_str, isT_bl_tuple_list, isT_bl_list_tuple, isT_int_int, isT_int_bool, isT_int_tuple, isT_int_list, isT_int_str, isT_int_tuple_list, isT_int_list_tuple, isT_str_int, isT_str_bool, isT_str_tuple, isT_str_list, isT_str_str, isT_str_tuple_list, isT_str_list_tuple, isT_tup_int, isT_tup_bool, isT_tup_tuple, isT_tup_list, isT_tup_str, isT_tup_tuple_list, isT_tup_list_tuple, isT_lst_int, isT_lst_bool, isT_lst_tuple, isT_lst_list, isT_lst_str, isT_lst_tuple_list, isT_lst_list_tuple, isT_klst_int, isT_klst_bool, isT_klst_tuple, isT_klst_list, isT_klst_str, isT_klst_tuple_list, isT_klst_list_tuple, isT_ref_int, isT_ref_bool, isT_ref_tuple, isT_ref_list, isT_ref_str, isT_ref_tuple_list, isT_ref_list_tuple, cmp_eqI, cmp_neI, cmp_ltI, cmp_leI, cmp_gtI, cmp_geI, cmp_eqB, cmp_neB, idx_hand0, set_hand0, idx_hand1, set_hand1, idx_hand2, set_hand2, idx_hand3, set_hand3, idx_hand4, set_hand4, pBin, idx_tup0, idx_tup1, idx_tup2, idx_tup3, idx_tup4, idx_tup5, idx_tup6, idx_tup7, Int.cast_ofNat_Int, blt_abs, blt_int, blt_intB, blt_len_tup, blt_len_lst, blt_len_klst, blt_tuple_tup, blt_tuple_lst, blt_list_tup, blt_list_lst, blt_sum, blt_all_lst, blt_any_lst, blt_max2, blt_min2, intsD, boolsD, List.length_map, items, place, put, putL, wipe, Tg.names, Tg.namesL, deref, List.map_cons, List.map_nil, List.length_cons, List.length_nil, List.getElem?_cons_zero, List.getElem?_cons_succ, List.getElem?_nil, List.getElem?_append, List.set_cons_zero, List.set_cons_succ, List.set_nil, List.cons_append, List.nil_append, List.append_nil, List.replicate_succ, List.replicate_zero, Nat.sub_self, Nat.add_sub_cancel, Option.map_some, Option.map_none, Option.bind_some, Option.bind_none, Option.some.injEq, if_true, if_false, ite_true, ite_false, Bool.false_eq_true, reduceCtorEq, Nat.reduceSub, Nat.reduceAdd, Nat.reduceLT, Nat.reduceLeDiff, Nat.reduceEqDiff, Nat.reduceMul, Int.reduceLT, Int.reduceLE, Int.reduceEq, Int.reduceNe, Int.reducePow, Int.reduceToNat, Int.reduceNeg, Int.reduceNegSucc, Nat.zero_add, Int.reduceAdd, Int.reduceSub, Int.reduceMul, not_true_eq_false, not_false_eq_true, Nat.lt_irrefl, Nat.zero_le, Nat.zero_lt_succ, Nat.succ_sub_succ_eq_sub, Nat.reduceSucc, bne_tt, bne_tf, bne_ft, Bool.not_true, Bool.not_false, Bool.true_and, Bool.false_and, Bool.and_true, Bool.and_false, Bool.or_true, Bool.or_false, Bool.true_or, Bool.false_or, bne_self_eq_false, beq_self_eq_true, hsrc, lp', g0, htup, decide_false, cf, il, hn, decide_true, c1, lf, lm, ro]
    · have c1 := cm (gcdL zs : Int) g0 (by simpa using gd) (some (.int (lastNz zs)))
      rw [fm, List.nil_append] at c1
      rw [e (gcdL zs : Int) (if_neg hn)]
      simp only [Pl.F_lowest, Pl.B_lowest, runFn, evSs, ev_var, ev_int, ev_bl, ev_non, ev_str, ev_glob, ev_bin, ev_neg, ev_not, ev_and, ev_or, ev_cmp, ev_chain, ev_isn, ev_isb, ev_ite, ev_tup, ev_lst, ev_idx, ev_slice, ev_call, ev_blt, ev_inst, ev_meth, ev_comp, evL_nil, evL_cons, evAnd_1, evOr_1, evAnd_cons, evOr_cons, evS_set, evS_par, evS_unp, evS_sub, evS_subs, evS_aug, evS_ex, evS_ret, evS_ite, evS_whl, evS_for, evS_brk, evS_pass, itE, pIter, chk_nil, compEnd, evAnd1, evSub, evLT, evSubs, R.bind, R.thn, RS.turn, PR.fin, asB, kRef, kNeg, kNot, kIsn, kIsb, kTup, kInst, kSet, kPar, kPut, kAug, kSubs, isNon_non, isNon_bl, isNon_int, isNon_str, isNon_tup, isNon_lst, isNon_klst, isNon_ref, isT_non_int, isT_non_bool, isT_non_tuple, isT_non_list, isT_non_str, isT_non_tuple_list, isT_non_list_tuple, isT_bl_int, isT_bl_bool, isT_bl_tuple, isT_bl_list, isT_bl_str, isT_bl_tuple_list, isT_bl_list_tuple, isT_int_int, isT_int_bool, isT_int_tuple, isT_int_list, isT_int_str, isT_int_tuple_list, isT_int_list_tuple, isT_str_int, isT_str_bool, isT_str_tuple, isT_str_list, isT_str_str, isT_str_tuple_list, isT_str_list_tuple, isT_tup_int, isT_tup_bool, isT_tup_tuple, isT_tup_list, isT_tup_str, isT_tup_tuple_list, isT_tup_list_tuple, isT_lst_int, isT_lst_bool, isT_lst_tuple, isT_lst_list, isT_lst_str, isT_lst_tuple_list, isT_lst_list_tuple, isT_klst_int, isT_klst_bool, isT_klst_tuple, isT_klst_list, isT_klst_str, isT_klst_tuple_list, isT_klst_list_tuple, isT_ref_int, isT_ref_bool, isT_ref_tuple, isT_ref_list, isT_ref_str, isT_ref_tuple_list, isT_ref_list_tuple, cmp_eqI, cmp_neI, cmp_ltI, cmp_leI, cmp_gtI, cmp_geI, cmp_eqB, cmp_neB, idx_hand0, set_hand0, idx_hand1, set_hand1, idx_hand2, set_hand2, idx_hand3, set_hand3, idx_hand4, set_hand4, pBin, idx_tup0, idx_tup1, idx_tup2, idx_tup3, idx_tup4, idx_tup5, idx_tup6, idx_tup7, Int.cast_ofNat_Int, blt_abs, blt_int, blt_intB, blt_len_tup, blt_len_lst, blt_len_klst, blt_tuple_tup, blt_tuple_lst, blt_list_tup, blt_list_lst, blt_sum, blt_all_lst, blt_any_lst, blt_max2, blt_min2, intsD, boolsD, List.length_map, items, place, put, putL, wipe, Tg.names, Tg.namesL, deref, List.map_cons, List.map_nil, List.length_cons, List.length_nil, List.getElem?_cons_zero, List.getElem?_cons_succ, List.getElem?_nil, List.getElem?_append, List.set_cons_zero, List.set_cons_succ, List.set_nil, List.cons_append, List.nil_append, List.append_nil, List.replicate_succ, List.replicate_zero, Nat.sub_self, Nat.add_sub_cancel, Option.map_some, Option.map_none, Option.bind_some, Option.bind_none, Option.some.injEq, if_true, if_false, ite_true, ite_false, Bool.false_eq_true, reduceCtorEq, Nat.reduceSub, Nat.reduceAdd, Nat.reduceLT, Nat.reduceLeDiff, Nat.reduceEqDiff, Nat.reduceMul, Int.reduceLT, Int.reduceLE, Int.reduceEq, Int.reduceNe, Int.reducePow, Int.reduceToNat, Int.reduceNeg, Int.reduceNegSucc, Nat.zero_add, Int.reduceAdd, Int.reduceSub, Int.reduceMul, not_true_eq_false, not_false_eq_true, Nat.lt_irrefl, Nat.zero_le, Nat.zero_lt_succ, Nat.succ_sub_succ_eq_sub, Nat.reduceSucc, bne_tt, bne_tf, bne_ft, Bool.not_true, Bool.not_false, Bool.true_and, Bool.false_and, Bool.and_true, Bool.and_false, Bool.or_true, Bool.or_false, Bool.true_or, Bool.false_or, bne_self_eq_false, beq_self_eq_true, hsrc, lp', g0, htup, decide_false, cf, il, hn, c1, lf, lm, ro]
end
end Pi

set_option Elab.async false
set_option linter.all false
set_option maxRecDepth 100000
namespace Pi
open PySem

def lcmS (L : Nat) (q : Rat) : Nat := L / Nat.gcd L q.den * q.den
def lcmL (qs : List Rat) : Nat := qs.foldl lcmS 1
theorem lcmS_eq (L : Nat) (q : Rat) : lcmS L q = Nat.lcm L q.den := by
  unfold lcmS Nat.lcm
  rw [Nat.div_mul_right_comm (Nat.gcd_dvd_left _ _)]
theorem lcm_fold : ∀ (qs : List Rat) (L : Nat), (L ∣ qs.foldl lcmS L) ∧ (∀ q ∈ qs, q.den ∣ qs.foldl lcmS L) ∧ (L ≠ 0 → qs.foldl lcmS L ≠ 0)
  | [], L => ⟨Nat.dvd_refl _, by simp, id⟩
  | q :: qs, L => by
    obtain ⟨h1, h2, h3⟩ := lcm_fold qs (lcmS L q)
    rw [List.foldl_cons]
    rw [lcmS_eq] at h1 h2 h3 ⊢
    refine ⟨Nat.dvd_trans (Nat.dvd_lcm_left _ _) h1, fun p hp => ?_, fun h => h3 (Nat.lcm_ne_zero h q.den_nz)⟩
    rcases List.mem_cons.mp hp with e | hp
    · rw [e]; exact Nat.dvd_trans (Nat.dvd_lcm_right _ _) h1
    · exact h2 p hp
theorem lcm_bound {k : Nat} : ∀ (qs : List Rat) (L j : Nat), L < 2 ^ j → (∀ q ∈ qs, q.den < 2 ^ k) → qs.foldl lcmS L < 2 ^ (j + k * qs.length)
  | [], L, j, h, _ => by simpa using h
  | q :: qs, L, j, h, hq => by
    rw [List.foldl_cons]
    have b : lcmS L q < 2 ^ (j + k) := by
      unfold lcmS
      exact lt_mul_pow (Nat.lt_of_le_of_lt (Nat.div_le_self _ _) h) (hq q List.mem_cons_self)
    have := lcm_bound qs _ _ b fun p hp => hq p (List.mem_cons_of_mem _ hp)
    rw [List.length_cons, Nat.mul_add, Nat.mul_one]
    rwa [show j + (k * qs.length + k) = j + k + k * qs.length by omega]
/-- the whole numbers over one bottom -/
def wz (qs : List Rat) : List Int := qs.map fun q => q.num * ((lcmL qs / q.den : Nat) : Int)
def wrow (qs : List Rat) : List Int := can (wz qs)
theorem wz_at {qs : List Rat} : ∀ q ∈ qs, ((q.num * ((lcmL qs / q.den : Nat) : Int) : Int) : Rat) = (lcmL qs : Rat) * q := fun q hq => by
  obtain ⟨m, hm⟩ := (lcm_fold qs 1).2.1 q hq
  have hm' : lcmL qs = q.den * m := hm
  rw [hm', Nat.mul_div_cancel_left _ q.den_pos]
  have e : (q.num : Rat) = q * q.den := by
    conv => rhs; lhs; rw [← Rat.num_divInt_den q]
    rw [Rat.divInt_eq_div]
    have : (q.den : Rat) ≠ 0 := by
      have := q.den_pos
      intro z
      have : (q.den : Rat).num = 0 := by rw [z]; rfl
      rw [Rat.num_natCast] at this
      omega
    exact (Rat.div_mul_cancel this).symm
  have e2 : ((q.num * (m : Int) : Int) : Rat) = (q.num : Rat) * (m : Rat) := by
    rw [Rat.intCast_mul]; rfl
  rw [e2, e]
  have e3 : ((q.den * m : Nat) : Rat) = (q.den : Rat) * (m : Rat) := Rat.natCast_mul _ _
  rw [e3]
  grind
theorem lcmL_ne (qs : List Rat) : (lcmL qs : Rat) ≠ 0 := fun z => by
  have h := (lcm_fold qs 1).2.2 (by decide)
  have : (lcmL qs : Rat).num = 0 := by rw [z]; rfl
  rw [Rat.num_natCast] at this
  unfold lcmL at this
  omega
theorem wz_nz {qs : List Rat} (h : ∃ q ∈ qs, q ≠ 0) : gcdL (wz qs) ≠ 0 := fun z => by
  obtain ⟨q, hq, hn⟩ := h
  have e := gcdL_zero z _ (List.mem_map.mpr ⟨q, hq, rfl⟩)
  have e2 := wz_at q hq
  rw [e] at e2
  have := Rat.mul_eq_zero.mp e2.symm
  rcases this with h | h
  · exact lcmL_ne qs h
  · exact hn h
/-- a row in proportion has the same lowest row -/
theorem wrow_eq {qs : List Rat} {zs : List Int} {c : Rat} (hc : c ≠ 0) (h : zs.map (fun (z : Int) => (z : Rat)) = qs.map (c * ·)) (hn : ∃ q ∈ qs, q ≠ 0) : wrow qs = can zs := by
  have hcn : c.num ≠ 0 := fun z => hc (Rat.num_eq_zero.mp z)
  have hL : ((lcmL qs : Nat) : Int) ≠ 0 := by
    have h := (lcm_fold qs 1).2.2 (by decide)
    unfold lcmL
    omega
  refine can_prop (m := c.num) (n := c.den * lcmL qs) hcn (Int.mul_ne_zero (den_ne c) hL) ?_ (wz_nz hn)
  have len : zs.length = qs.length := by simpa using congrArg List.length h
  apply List.ext_getElem
  · simp [wz, len]
  · intro i h1 h2
    have hq : i < qs.length := by simpa [wz] using h1
    have hz : i < zs.length := by omega
    have e1 := wz_at qs[i] (List.getElem_mem hq)
    have e2 : (zs[i] : Rat) = c * qs[i] := by
      have := congrArg (fun l => l[i]?) h
      simpa [hq, hz] using this
    have e3 : (c.num : Rat) = c * c.den := by
      have := wz_at (qs := [c]) c (by simp)
      have hl : lcmL [c] = c.den := by simp [lcmL, lcmS]
      rw [hl, Nat.div_self c.den_pos] at this
      simp at this
      grind
    simp only [wz, List.getElem_map]
    rw [← Rat.intCast_inj, Rat.intCast_mul, e1, Rat.intCast_mul, Rat.intCast_mul, e2, e3]
    have e4 : ((c.den : Int) : Rat) = (c.den : Rat) := rfl
    have e5 : ((lcmL qs : Int) : Rat) = (lcmL qs : Rat) := rfl
    rw [e4, e5]
    grind

section
variable {P : Prog} {s : Store}
theorem idx_fr0 {q : Rat} : pIdx s (fr q) (.int 0) = .val (.int q.num) := idx_tup0
theorem idx_fr1 {q : Rat} : pIdx s (fr q) (.int 1) = .val (.int q.den) := idx_tup1
theorem idx_frx0 {q : Rat} : pIdx s (.tup [.int q.num, .int q.den]) (.int 0) = .val (.int q.num) := idx_tup0
theorem whole_loop {n K : Nat} (h : Has P Pl.Q_common) {r : Option D} : ∀ (qs : List Rat) (L j : Nat) (x : Option D), L < 2 ^ j → L ≠ 0 → (∀ q ∈ qs, q.den < 2 ^ K) → K ≤ 1000 → j + K * qs.length ≤ 8000 →
    ∃ x', forL (fun _ => true) (foT P.G (run P (n + 1)) (.n 2) [.set 1 (.bin false .mul (.bin false .fdiv (.var 1) (.call 101 [.var 1, .idx (.var 2) (.int 1)])) (.idx (.var 2) (.int 1)))]) (qs.map fr) [r, some (.int L), x] s =
      .ok .nx [r, some (.int (qs.foldl lcmS L : Nat)), x'] s
  | [], L, j, x, _, _, _, _, _ => ⟨x, by rw [List.map_nil, for_nil]; rfl⟩
  | q :: qs, L, j, x, hL, h0, hq, hK, hj => by
    have hd := hq q List.mem_cons_self
    have hb : lcmS L q < 2 ^ (j + K) := by
      unfold lcmS
      exact lt_mul_pow (Nat.lt_of_le_of_lt (Nat.div_le_self _ _) hL) hd
    have hj' : j + K + K * qs.length ≤ 8000 := by
      rw [List.length_cons, Nat.mul_add, Nat.mul_one] at hj
      omega
    have h0' : lcmS L q ≠ 0 := by rw [lcmS_eq]; exact Nat.lcm_ne_zero h0 q.den_nz
    obtain ⟨x', e⟩ := whole_loop (n := n) h qs (lcmS L q) (j + K) (some (fr q)) hb h0' (fun p hp => hq p (List.mem_cons_of_mem _ hp)) hK hj'
    refine ⟨x', ?_⟩
    have c := run_common (s := s) h (L : Int) (q.den : Int) (by simpa using most_of hd (by omega)) n
    have gz : ((Int.gcd (L : Int) q.den : Nat) : Int) ≠ 0 := by
      have := Int.gcd_pos_of_ne_zero_left (a := (L : Int)) q.den (by omega)
      omega
    have gd : ((Int.gcd (L : Int) q.den : Nat) : Int).natAbs < dmax := by
      have h1 : Int.gcd (L : Int) q.den ≤ L := Nat.le_of_dvd (by omega) (by simpa [Int.gcd] using Nat.gcd_dvd_left L q.den)
      have h2 : L < dmax := dmax_of hL (by omega)
      simpa using Nat.lt_of_le_of_lt h1 h2
    have fd : (L : Int).fdiv ((Int.gcd (L : Int) q.den : Nat) : Int) = ((L / Nat.gcd L q.den : Nat) : Int) := by
      rw [fdiv_gcd (by omega), Int.natCast_ediv]
      rfl
    have mk : mulOk ((L / Nat.gcd L q.den : Nat) : Int) (q.den : Int) = true := mulOk_big (by rw [Int.natAbs_natCast]; exact big_of (Nat.lt_of_le_of_lt (Nat.div_le_self _ _) hL) (by omega)) (by rw [Int.natAbs_natCast]; exact big_of hd (by omega))
    have e2 : ((L / Nat.gcd L q.den : Nat) : Int) * (q.den : Int) = ((lcmS L q : Nat) : Int) := (Int.natCast_mul _ _).symm
    rw [List.map_cons, for_go (ρ' := [r, some (.int (lcmS L q : Nat)), some (fr q)]) (s' := s), e]
    · rfl
    · simp only [foT, runFn, evSs, ev_var, ev_int, ev_bl, ev_non, ev_str, ev_glob, ev_bin, ev_neg, ev_not, ev_and, ev_or, ev_cmp, ev_chain, ev_isn, ev_isb, ev_ite, ev_tup, ev_lst, ev_idx, ev_slice, ev_call, ev_blt, ev_inst, ev_meth, ev_comp, evL_nil, evL_cons, evAnd_1, evOr_1, evAnd_cons, evOr_cons, evS_set, evS_par, evS_unp, evS_sub, evS_subs, evS_aug, evS_ex, evS_ret, evS_ite, evS_whl, evS_for, evS_brk, evS_pass, itE, pIter, srcOf, chk_nil, compEnd, evAnd1, evSub, evLT, evSubs, R.bind, R.thn, RS.turn, PR.fin, asB, kRef, kNeg, kNot, kIsn, kIsb, kTup, kInst, kSet, kPar, kPut, kAug, kSubs, isNon_non, isNon_bl, isNon_int, isNon_str, isNon_tup, isNon_lst, isNon_klst, isNon_ref, isT_non_int, isT_non_bool, isT_non_tuple, isT_non_list, isT_non_str, isT_non_tuple_list, isT_non_list_tuple, isT_bl_int, isT_bl_bool, isT_bl_tuple, isT_bl_list, isT_bl_str, isT_bl_tuple_list, isT_bl_list_tuple, isT_int_int, isT_int_bool, isT_int_tuple, isT_int_list, isT_int_str, isT_int_tuple_list, isT_int_list_tuple, isT_str_int, isT_str_bool, isT_str_tuple, isT_str_list, isT_str_str, isT_str_tuple_list, isT_str_list_tuple, isT_tup_int, isT_tup_bool, isT_tup_tuple, isT_tup_list, isT_tup_str, isT_tup_tuple_list, isT_tup_list_tuple, isT_lst_int, isT_lst_bool, isT_lst_tuple, isT_lst_list, isT_lst_str, isT_lst_tuple_list, isT_lst_list_tuple, isT_klst_int, isT_klst_bool, isT_klst_tuple, isT_klst_list, isT_klst_str, isT_klst_tuple_list, isT_klst_list_tuple, isT_ref_int, isT_ref_bool, isT_ref_tuple, isT_ref_list, isT_ref_str, isT_ref_tuple_list, isT_ref_list_tuple, cmp_eqI, cmp_neI, cmp_ltI, cmp_leI, cmp_gtI, cmp_geI, cmp_eqB, cmp_neB, idx_hand0, set_hand0, idx_hand1, set_hand1, idx_hand2, set_hand2, idx_hand3, set_hand3, idx_hand4, set_hand4, pBin, idx_tup0, idx_tup1, idx_tup2, idx_tup3, idx_tup4, idx_tup5, idx_tup6, idx_tup7, Int.cast_ofNat_Int, blt_abs, blt_int, blt_intB, blt_len_tup, blt_len_lst, blt_len_klst, blt_tuple_tup, blt_tuple_lst, blt_list_tup, blt_list_lst, blt_sum, blt_all_lst, blt_any_lst, blt_max2, blt_min2, intsD, boolsD, List.length_map, items, place, put, putL, wipe, Tg.names, Tg.namesL, deref, List.map_cons, List.map_nil, List.length_cons, List.length_nil, List.getElem?_cons_zero, List.getElem?_cons_succ, List.getElem?_nil, List.getElem?_append, List.set_cons_zero, List.set_cons_succ, List.set_nil, List.cons_append, List.nil_append, List.append_nil, List.replicate_succ, List.replicate_zero, Nat.sub_self, Nat.add_sub_cancel, Option.map_some, Option.map_none, Option.bind_some, Option.bind_none, Option.some.injEq, if_true, if_false, ite_true, ite_false, Bool.false_eq_true, reduceCtorEq, Nat.reduceSub, Nat.reduceAdd, Nat.reduceLT, Nat.reduceLeDiff, Nat.reduceEqDiff, Nat.reduceMul, Int.reduceLT, Int.reduceLE, Int.reduceEq, Int.reduceNe, Int.reducePow, Int.reduceToNat, Int.reduceNeg, Int.reduceNegSucc, Nat.zero_add, Int.reduceAdd, Int.reduceSub, Int.reduceMul, not_true_eq_false, not_false_eq_true, Nat.lt_irrefl, Nat.zero_le, Nat.zero_lt_succ, Nat.succ_sub_succ_eq_sub, Nat.reduceSucc, bne_tt, bne_tf, bne_ft, Bool.not_true, Bool.not_false, Bool.true_and, Bool.false_and, Bool.and_true, Bool.and_false, Bool.or_true, Bool.or_false, Bool.true_or, Bool.false_or, bne_self_eq_false, beq_self_eq_true, idx_fr1, c, gz, gd, fd, mk, e2, ne_eq, not_false_eq_true, and_self]
theorem run_whole {n K : Nat} (h : Has P Pl.Q_whole) {qs : List Rat} (hq : ∀ q ∈ qs, Bq K q) (hK : K ≤ 1000) (hl : qs.length ≤ 6) : run P (n + 3) 105 [.tup (qs.map fr)] s = .ok (ro (wrow qs)) s := by
  have hc : Has P Pl.Q_common := h.sub (by decide)
  have hlo : Has P Pl.Q_lowest := h.sub (by decide)
  have hj : K * qs.length ≤ 6000 := Nat.le_trans (Nat.mul_le_mul hK hl) (by omega)
  have hL : lcmL qs < 2 ^ (1 + K * qs.length) := lcm_bound qs 1 1 (by decide) fun q hq' => (hq q hq').den
  rw [has_run (F := Pl.F_whole) h (by decide) rfl]
  obtain ⟨x', lp⟩ := whole_loop (n := n + 1) (s := s) hc (r := some (.tup (qs.map fr))) (K := K) qs 1 1 none (by decide) (by decide) (fun q hq' => (hq q hq').den) hK (by omega)
  have lp' : forL (fun _ => true) (foT P.G (run P (n + 2)) (.n 2) [.set 1 (.bin false .mul (.bin false .fdiv (.var 1) (.call 101 [.var 1, .idx (.var 2) (.int 1)])) (.idx (.var 2) (.int 1)))]) (qs.map fr) [some (.tup (qs.map fr)), some (.int 1), none] s = .ok .nx [some (.tup (qs.map fr)), some (.int (lcmL qs : Nat)), x'] s := lp
  have quo : ∀ q ∈ qs, (lcmL qs : Int).fdiv (q.den : Int) = ((lcmL qs / q.den : Nat) : Int) := fun q hq' => by
    rw [fdiv_gcd q.den_nz, Int.natCast_ediv]
  have b1 : ∀ q ∈ qs, (q.num * ((lcmL qs / q.den : Nat) : Int)).natAbs < 2 ^ (K + (1 + K * qs.length)) := fun q hq' => by
    rw [Int.natAbs_mul]
    exact lt_mul_pow (hq q hq').num (Nat.lt_of_le_of_lt (by rw [Int.natAbs_natCast]; exact Nat.div_le_self _ _) hL)
  have stepM : ∀ x ∈ qs.map fr, compStep P.G (run P (n + 2)) (.bin false .mul (.idx (.var 2) (.int 0)) (.bin false .fdiv (.var 1) (.idx (.var 2) (.int 1)))) (.n 2) [] [some (.tup (qs.map fr)), some (.int (lcmL qs : Nat)), x'] x s =
      .ok (some (match x with | .tup [.int a, .int b] => .int (a * (lcmL qs / b.toNat : Nat)) | d => d)) s := by
    intro x hx
    obtain ⟨q, hq', rfl⟩ := List.mem_map.mp hx
    have d0 : (q.den : Int) ≠ 0 := den_ne q
    have dd : (q.den : Int).natAbs < dmax := by simpa using dmax_of (hq q hq').den (by omega)
    have mk : mulOk q.num ((lcmL qs / q.den : Nat) : Int) = true := mulOk_big (big_of (hq q hq').num (by omega)) (by rw [Int.natAbs_natCast]; exact big_of (Nat.lt_of_le_of_lt (Nat.div_le_self _ _) hL) (by omega))
    simp only [compStep, runFn, evSs, ev_var, ev_int, ev_bl, ev_non, ev_str, ev_glob, ev_bin, ev_neg, ev_not, ev_and, ev_or, ev_cmp, ev_chain, ev_isn, ev_isb, ev_ite, ev_tup, ev_lst, ev_idx, ev_slice, ev_call, ev_blt, ev_inst, ev_meth, ev_comp, evL_nil, evL_cons, evAnd_1, evOr_1, evAnd_cons, evOr_cons, evS_set, evS_par, evS_unp, evS_sub, evS_subs, evS_aug, evS_ex, evS_ret, evS_ite, evS_whl, evS_for, evS_brk, evS_pass, itE, pIter, srcOf, chk_nil, compEnd, evAnd1, evSub, evLT, evSubs, R.bind, R.thn, RS.turn, PR.fin, asB, kRef, kNeg, kNot, kIsn, kIsb, kTup, kInst, kSet, kPar, kPut, kAug, kSubs, isNon_non, isNon_bl, isNon_int, isNon_str, isNon_tup, isNon_lst, isNon_klst, isNon_ref, isT_non_int, isT_non_bool, isT_non_tuple, isT_non_list, isT_non_str, isT_non_tuple_list, isT_non_list_tuple, isT_bl_int, isT_bl_bool, isT_bl_tuple, isT_bl_list, isT_bl_str, isT_bl_tuple_list, isT_bl_list_tuple, isT_int_int, isT_int_bool, isT_int_tuple, isT_int_list, isT_int_str, isT_int_tuple_list, isT_int_list_tuple, isT_str_int, isT_str_bool, isT_str_tuple, isT_str_list, isT_str_str, isT_str_tuple_list, isT_str_list_tuple, isT_tup_int, isT_tup_bool, isT_tup_tuple, isT_tup_list, isT_tup_str, isT_tup_tuple_list, isT_tup_list_tuple, isT_lst_int, isT_lst_bool, isT_lst_tuple, isT_lst_list, isT_lst_str, isT_lst_tuple_list, isT_lst_list_tuple, isT_klst_int, isT_klst_bool, isT_klst_tuple, isT_klst_list, isT_klst_str, isT_klst_tuple_list, isT_klst_list_tuple, isT_ref_int, isT_ref_bool, isT_ref_tuple, isT_ref_list, isT_ref_str, isT_ref_tuple_list, isT_ref_list_tuple, cmp_eqI, cmp_neI, cmp_ltI, cmp_leI, cmp_gtI, cmp_geI, cmp_eqB, cmp_neB, idx_hand0, set_hand0, idx_hand1, set_hand1, idx_hand2, set_hand2, idx_hand3, set_hand3, idx_hand4, set_hand4, pBin, idx_tup0, idx_tup1, idx_tup2, idx_tup3, idx_tup4, idx_tup5, idx_tup6, idx_tup7, Int.cast_ofNat_Int, blt_abs, blt_int, blt_intB, blt_len_tup, blt_len_lst, blt_len_klst, blt_tuple_tup, blt_tuple_lst, blt_list_tup, blt_list_lst, blt_sum, blt_all_lst, blt_any_lst, blt_max2, blt_min2, intsD, boolsD, List.length_map, items, place, put, putL, wipe, Tg.names, Tg.namesL, deref, List.map_cons, List.map_nil, List.length_cons, List.length_nil, List.getElem?_cons_zero, List.getElem?_cons_succ, List.getElem?_nil, List.getElem?_append, List.set_cons_zero, List.set_cons_succ, List.set_nil, List.cons_append, List.nil_append, List.append_nil, List.replicate_succ, List.replicate_zero, Nat.sub_self, Nat.add_sub_cancel, Option.map_some, Option.map_none, Option.bind_some, Option.bind_none, Option.some.injEq, if_true, if_false, ite_true, ite_false, Bool.false_eq_true, reduceCtorEq, Nat.reduceSub, Nat.reduceAdd, Nat.reduceLT, Nat.reduceLeDiff, Nat.reduceEqDiff, Nat.reduceMul, Int.reduceLT, Int.reduceLE, Int.reduceEq, Int.reduceNe, Int.reducePow, Int.reduceToNat, Int.reduceNeg, Int.reduceNegSucc, Nat.zero_add, Int.reduceAdd, Int.reduceSub, Int.reduceMul, not_true_eq_false, not_false_eq_true, Nat.lt_irrefl, Nat.zero_le, Nat.zero_lt_succ, Nat.succ_sub_succ_eq_sub, Nat.reduceSucc, bne_tt, bne_tf, bne_ft, Bool.not_true, Bool.not_false, Bool.true_and, Bool.false_and, Bool.and_true, Bool.and_false, Bool.or_true, Bool.or_false, Bool.true_or, Bool.false_or, bne_self_eq_false, beq_self_eq_true, idx_fr0, idx_fr1, quo q hq', d0, dd, mk, ne_eq, not_false_eq_true, and_self]
    rfl
  have cm := comp_map (qs.map fr) [] stepM (by simp; omega)
  have fm : (qs.map fr).map (fun x => match x with | .tup [.int a, .int b] => .int (a * (lcmL qs / b.toNat : Nat)) | d => d) = (wz qs).map D.int := by
    unfold wz
    rw [List.map_map, List.map_map]
    rfl
  rw [fm, List.nil_append] at cm
  have lz : (wz qs).length ≤ 100000 := by simp [wz]; omega
  have rl := run_lowest (n := n) (s := s) hlo (d := .lst ((wz qs).map .int)) (zs := wz qs) (.inr rfl) (fun z hz => by
    obtain ⟨q, hq', rfl⟩ := List.mem_map.mp hz
    exact dmax_of (b1 q hq') (by omega)) (by simp [wz]; omega)
  simp only [Pl.F_whole, Pl.B_whole, runFn, evSs, ev_var, ev_int, ev_bl, ev_non, ev_str, ev_glob, ev_bin, ev_neg, ev_not, ev_and, ev_or, ev_cmp, ev_chain, ev_isn, ev_isb, ev_ite, ev_tup, ev_lst, ev_idx, ev_slice, ev_call, ev_blt, ev_inst, ev_meth, ev_comp, evL_nil, evL_cons, evAnd_1, evOr_1, evAnd_cons, evOr_cons, evS_set, evS_par, evS_unp, evS_sub, evS_subs, evS_aug, evS_ex, evS_ret, evS_ite, evS_whl, evS_for, evS_brk, evS_pass, itE, pIter, srcOf, chk_nil, compEnd, evAnd1, evSub, evLT, evSubs, R.bind, R.thn, RS.turn, PR.fin, asB, kRef, kNeg, kNot, kIsn, kIsb, kTup, kInst, kSet, kPar, kPut, kAug, kSubs, isNon_non, isNon_bl, isNon_int, isNon_str, isNon_tup, isNon_lst, isNon_klst, isNon_ref, isT_non_int, isT_non_bool, isT_non_tuple, isT_non_list, isT_non_str, isT_non_tuple_list, isT_non_list_tuple, isT_bl_int, isT_bl_bool, isT_bl_tuple, isT_bl_list, isT_bl_str, isT_bl_tuple_list, isT_bl_list_tuple, isT_int_int, isT_int_bool, isT_int_tuple, isT_int_list, isT_int_str, isT_int_tuple_list, isT_int_list_tuple, isT_str_int, isT_str_bool, isT_str_tuple, isT_str_list, isT_str_str, isT_str_tuple_list, isT_str_list_tuple, isT_tup_int, isT_tup_bool, isT_tup_tuple, isT_tup_list, isT_tup_str, isT_tup_tuple_list, isT_tup_list_tuple, isT_lst_int, isT_lst_bool, isT_lst_tuple, isT_lst_list, isT_lst_str, isT_lst_tuple_list, isT_lst_list_tuple, isT_klst_int, isT_klst_bool, isT_klst_tuple, isT_klst_list, isT_klst_str, isT_klst_tuple_list, isT_klst_list_tuple, isT_ref_int, isT_ref_bool, isT_ref_tuple, isT_ref_list, isT_ref_str, isT_ref_tuple_list, isT_ref_list_tuple, cmp_eqI, cmp_neI, cmp_ltI, cmp_leI, cmp_gtI, cmp_geI, cmp_eqB, cmp_neB, idx_hand0, set_hand0, idx_hand1, set_hand1, idx_hand2, set_hand2, idx_hand3, set_hand3, idx_hand4, set_hand4, pBin, idx_tup0, idx_tup1, idx_tup2, idx_tup3, idx_tup4, idx_tup5, idx_tup6, idx_tup7, Int.cast_ofNat_Int, blt_abs, blt_int, blt_intB, blt_len_tup, blt_len_lst, blt_len_klst, blt_tuple_tup, blt_tuple_lst, blt_list_tup, blt_list_lst, blt_sum, blt_all_lst, blt_any_lst, blt_max2, blt_min2, intsD, boolsD, List.length_map, items, place, put, putL, wipe, Tg.names, Tg.namesL, deref, List.map_cons, List.map_nil, List.length_cons, List.length_nil, List.getElem?_cons_zero, List.getElem?_cons_succ, List.getElem?_nil, List.getElem?_append, List.set_cons_zero, List.set_cons_succ, List.set_nil, List.cons_append, List.nil_append, List.append_nil, List.replicate_succ, List.replicate_zero, Nat.sub_self, Nat.add_sub_cancel, Option.map_some, Option.map_none, Option.bind_some, Option.bind_none, Option.some.injEq, if_true, if_false, ite_true, ite_false, Bool.false_eq_true, reduceCtorEq, Nat.reduceSub, Nat.reduceAdd, Nat.reduceLT, Nat.reduceLeDiff, Nat.reduceEqDiff, Nat.reduceMul, Int.reduceLT, Int.reduceLE, Int.reduceEq, Int.reduceNe, Int.reducePow, Int.reduceToNat, Int.reduceNeg, Int.reduceNegSucc, Nat.zero_add, Int.reduceAdd, Int.reduceSub, Int.reduceMul, not_true_eq_false, not_false_eq_true, Nat.lt_irrefl, Nat.zero_le, Nat.zero_lt_succ, Nat.succ_sub_succ_eq_sub, Nat.reduceSucc, bne_tt, bne_tf, bne_ft, Bool.not_true, Bool.not_false, Bool.true_and, Bool.false_and, Bool.and_true, Bool.and_false, Bool.or_true, Bool.or_false, Bool.true_or, Bool.false_or, bne_self_eq_false, beq_self_eq_true, lp', cm, lz, rl, wrow]

theorem run_is_integer {n : Nat} (h : Has P Pl.Q_is_integer) (z : Int) : run P (n + 1) 133 [.int z] s = .ok (.bl true) s := by
  rw [has_run (F := Pl.F_is_integer) h (by decide) rfl]
  simp only [Pl.F_is_integer, Pl.B_is_integer, runFn, evSs, ev_var, ev_int, ev_bl, ev_non, ev_str, ev_glob, ev_bin, ev_neg, ev_not, ev_and, ev_or, ev_cmp, ev_chain, ev_isn, ev_isb, ev_ite, ev_tup, ev_lst, ev_idx, ev_slice, ev_call, ev_blt, ev_inst, ev_meth, ev_comp, evL_nil, evL_cons, evAnd_1, evOr_1, evAnd_cons, evOr_cons, evS_set, evS_par, evS_unp, evS_sub, evS_subs, evS_aug, evS_ex, evS_ret, evS_ite, evS_whl, evS_for, evS_brk, evS_pass, itE, pIter, srcOf, chk_nil, compEnd, evAnd1, evSub, evLT, evSubs, R.bind, R.thn, RS.turn, PR.fin, asB, kRef, kNeg, kNot, kIsn, kIsb, kTup, kInst, kSet, kPar, kPut, kAug, kSubs, isNon_non, isNon_bl, isNon_int, isNon_str, isNon_tup, isNon_lst, isNon_klst, isNon_ref, isT_non_int, isT_non_bool, isT_non_tuple, isT_non_list, isT_non_str, isT_non_tuple_list, isT_non_list_tuple, isT_bl_int, isT_bl_bool, isT_bl_tuple, isT_bl_list, isT_bl_str, isT_bl_tuple_list, isT_bl_list_tuple, isT_int_int, isT_int_bool, isT_int_tuple, isT_int_list, isT_int_str, isT_int_tuple_list, isT_int_list_tuple, isT_str_int, isT_str_bool, isT_str_tuple, isT_str_list, isT_str_str, isT_str_tuple_list, isT_str_list_tuple, isT_tup_int, isT_tup_bool, isT_tup_tuple, isT_tup_list, isT_tup_str, isT_tup_tuple_list, isT_tup_list_tuple, isT_lst_int, isT_lst_bool, isT_lst_tuple, isT_lst_list, isT_lst_str, isT_lst_tuple_list, isT_lst_list_tuple, isT_klst_int, isT_klst_bool, isT_klst_tuple, isT_klst_list, isT_klst_str, isT_klst_tuple_list, isT_klst_list_tuple, isT_ref_int, isT_ref_bool, isT_ref_tuple, isT_ref_list, isT_ref_str, isT_ref_tuple_list, isT_ref_list_tuple, cmp_eqI, cmp_neI, cmp_ltI, cmp_leI, cmp_gtI, cmp_geI, cmp_eqB, cmp_neB, idx_hand0, set_hand0, idx_hand1, set_hand1, idx_hand2, set_hand2, idx_hand3, set_hand3, idx_hand4, set_hand4, pBin, idx_tup0, idx_tup1, idx_tup2, idx_tup3, idx_tup4, idx_tup5, idx_tup6, idx_tup7, Int.cast_ofNat_Int, blt_abs, blt_int, blt_intB, blt_len_tup, blt_len_lst, blt_len_klst, blt_tuple_tup, blt_tuple_lst, blt_list_tup, blt_list_lst, blt_sum, blt_all_lst, blt_any_lst, blt_max2, blt_min2, intsD, boolsD, List.length_map, items, place, put, putL, wipe, Tg.names, Tg.namesL, deref, List.map_cons, List.map_nil, List.length_cons, List.length_nil, List.getElem?_cons_zero, List.getElem?_cons_succ, List.getElem?_nil, List.getElem?_append, List.set_cons_zero, List.set_cons_succ, List.set_nil, List.cons_append, List.nil_append, List.append_nil, List.replicate_succ, List.replicate_zero, Nat.sub_self, Nat.add_sub_cancel, Option.map_some, Option.map_none, Option.bind_some, Option.bind_none, Option.some.injEq, if_true, if_false, ite_true, ite_false, Bool.false_eq_true, reduceCtorEq, Nat.reduceSub, Nat.reduceAdd, Nat.reduceLT, Nat.reduceLeDiff, Nat.reduceEqDiff, Nat.reduceMul, Int.reduceLT, Int.reduceLE, Int.reduceEq, Int.reduceNe, Int.reducePow, Int.reduceToNat, Int.reduceNeg, Int.reduceNegSucc, Nat.zero_add, Int.reduceAdd, Int.reduceSub, Int.reduceMul, not_true_eq_false, not_false_eq_true, Nat.lt_irrefl, Nat.zero_le, Nat.zero_lt_succ, Nat.succ_sub_succ_eq_sub, Nat.reduceSucc, bne_tt, bne_tf, bne_ft, Bool.not_true, Bool.not_false, Bool.true_and, Bool.false_and, Bool.and_true, Bool.and_false, Bool.or_true, Bool.or_false, Bool.true_or, Bool.false_or, bne_self_eq_false, beq_self_eq_true]
theorem all_true {l : List D} : boolsD (l.map fun _ => D.bl true) = some (l.map fun _ => true) := by
  induction l with
  | nil => rfl
  | cons x l ih => simp [boolsD, ih]
theorem all_true2 {l : List D} : (l.map fun _ => true).all id = true := by simp
theorem run_are_integers {n : Nat} (h : Has P Pl.Q_are_integers) (zs : List Int) (hl : zs.length ≤ 1000) : run P (n + 2) 134 [ro zs, .int zs.length] s = .ok (.bl true) s := by
  have hc : Has P Pl.Q_is_integer := h.sub (by decide)
  rw [has_run (F := Pl.F_are_integers) h (by decide) rfl]
  have stepM : ∀ x ∈ zs.map D.int, compStep P.G (run P (n + 1)) (.call 133 [.var 2]) (.n 2) [] [some (ro zs), some (.int zs.length), none] x s = .ok (some ((fun _ => D.bl true) x)) s := by
    intro x hx
    obtain ⟨z, _, rfl⟩ := List.mem_map.mp hx
    simp only [compStep, runFn, evSs, ev_var, ev_int, ev_bl, ev_non, ev_str, ev_glob, ev_bin, ev_neg, ev_not, ev_and, ev_or, ev_cmp, ev_chain, ev_isn, ev_isb, ev_ite, ev_tup, ev_lst, ev_idx, ev_slice, ev_call, ev_blt, ev_inst, ev_meth, ev_comp, evL_nil, evL_cons, evAnd_1, evOr_1, evAnd_cons, evOr_cons, evS_set, evS_par, evS_unp, evS_sub, evS_subs, evS_aug, evS_ex, evS_ret, evS_ite, evS_whl, evS_for, evS_brk, evS_pass, itE, pIter, srcOf, chk_nil, compEnd, evAnd1, evSub, evLT, evSubs, R.bind, R.thn, RS.turn, PR.fin, asB, kRef, kNeg, kNot, kIsn, kIsb, kTup, kInst, kSet, kPar, kPut, kAug, kSubs, isNon_non, isNon_bl, isNon_int, isNon_str, isNon_tup, isNon_lst, isNon_klst, isNon_ref, isT_non_int, isT_non_bool, isT_non_tuple, isT_non_list, isT_non_str, isT_non_tuple_list, isT_non_list_tuple, isT_bl_int, isT_bl_bool, isT_bl_tuple, isT_bl_list, isT_bl_str, isT_bl_tuple_list, isT_bl_list_tuple, isT_int_int, isT_int_bool, isT_int_tuple, isT_int_list, isT_int_str, isT_int_tuple_list, isT_int_list_tuple, isT_str_int, isT_str_bool, isT_str_tuple, isT_str_list, isT_str_str, isT_str_tuple_list, isT_str_list_tuple, isT_tup_int, isT_tup_bool, isT_tup_tuple, isT_tup_list, isT_tup_str, isT_tup_tuple_list, isT_tup_list_tuple, isT_lst_int, isT_lst_bool, isT_lst_tuple, isT_lst_list, isT_lst_str, isT_lst_tuple_list, isT_lst_list_tuple, isT_klst_int, isT_klst_bool, isT_klst_tuple, isT_klst_list, isT_klst_str, isT_klst_tuple_list, isT_klst_list_tuple, isT_ref_int, isT_ref_bool, isT_ref_tuple, isT_ref_list, isT_ref_str, isT_ref_tuple_list, isT_ref_list_tuple, cmp_eqI, cmp_neI, cmp_ltI, cmp_leI, cmp_gtI, cmp_geI, cmp_eqB, cmp_neB, idx_hand0, set_hand0, idx_hand1, set_hand1, idx_hand2, set_hand2, idx_hand3, set_hand3, idx_hand4, set_hand4, pBin, idx_tup0, idx_tup1, idx_tup2, idx_tup3, idx_tup4, idx_tup5, idx_tup6, idx_tup7, Int.cast_ofNat_Int, blt_abs, blt_int, blt_intB, blt_len_tup, blt_len_lst, blt_len_klst, blt_tuple_tup, blt_tuple_lst, blt_list_tup, blt_list_lst, blt_sum, blt_all_lst, blt_any_lst, blt_max2, blt_min2, intsD, boolsD, List.length_map, items, place, put, putL, wipe, Tg.names, Tg.namesL, deref, List.map_cons, List.map_nil, List.length_cons, List.length_nil, List.getElem?_cons_zero, List.getElem?_cons_succ, List.getElem?_nil, List.getElem?_append, List.set_cons_zero, List.set_cons_succ, List.set_nil, List.cons_append, List.nil_append, List.append_nil, List.replicate_succ, List.replicate_zero, Nat.sub_self, Nat.add_sub_cancel, Option.map_some, Option.map_none, Option.bind_some, Option.bind_none, Option.some.injEq, if_true, if_false, ite_true, ite_false, Bool.false_eq_true, reduceCtorEq, Nat.reduceSub, Nat.reduceAdd, Nat.reduceLT, Nat.reduceLeDiff, Nat.reduceEqDiff, Nat.reduceMul, Int.reduceLT, Int.reduceLE, Int.reduceEq, Int.reduceNe, Int.reducePow, Int.reduceToNat, Int.reduceNeg, Int.reduceNegSucc, Nat.zero_add, Int.reduceAdd, Int.reduceSub, Int.reduceMul, not_true_eq_false, not_false_eq_true, Nat.lt_irrefl, Nat.zero_le, Nat.zero_lt_succ, Nat.succ_sub_succ_eq_sub, Nat.reduceSucc, bne_tt, bne_tf, bne_ft, Bool.not_true, Bool.not_false, Bool.true_and, Bool.false_and, Bool.and_true, Bool.and_false, Bool.or_true, Bool.or_false, Bool.true_or, Bool.false_or, bne_self_eq_false, beq_self_eq_true, run_is_integer hc]
  have cm := comp_map (zs.map D.int) [] stepM (by simp; omega)
  rw [List.nil_append] at cm
  unfold ro at cm ⊢
  have lz : zs.length ≤ 100000 := by omega
  simp only [Pl.F_are_integers, Pl.B_are_integers, runFn, evSs, ev_var, ev_int, ev_bl, ev_non, ev_str, ev_glob, ev_bin, ev_neg, ev_not, ev_and, ev_or, ev_cmp, ev_chain, ev_isn, ev_isb, ev_ite, ev_tup, ev_lst, ev_idx, ev_slice, ev_call, ev_blt, ev_inst, ev_meth, ev_comp, evL_nil, evL_cons, evAnd_1, evOr_1, evAnd_cons, evOr_cons, evS_set, evS_par, evS_unp, evS_sub, evS_subs, evS_aug, evS_ex, evS_ret, evS_ite, evS_whl, evS_for, evS_brk, evS_pass, itE, pIter, srcOf, chk_nil, compEnd, evAnd1, evSub, evLT, evSubs, R.bind, R.thn, RS.turn, PR.fin, asB, kRef, kNeg, kNot, kIsn, kIsb, kTup, kInst, kSet, kPar, kPut, kAug, kSubs, isNon_non, isNon_bl, isNon_int, isNon_str, isNon_tup, isNon_lst, isNon_klst, isNon_ref, isT_non_int, isT_non_bool, isT_non_tuple, isT_non_list, isT_non_str, isT_non_tuple_list, isT_non_list_tuple, isT_bl_int, isT_bl_bool, isT_bl_tuple, isT_bl_list, isT_bl_str, isT_bl_tuple_list, isT_bl_list_tuple, isT_int_int, isT_int_bool, isT_int_tuple, isT_int_list, isT_int_str, isT_int_tuple_list, isT_int_list_tuple, isT_str_int, isT_str_bool, isT_str_tuple, isT_str_list, isT_str_str, isT_str_tuple_list, isT_str_list_tuple, isT_tup_int, isT_tup_bool, isT_tup_tuple, isT_tup_list, isT_tup_str, isT_tup_tuple_list, isT_tup_list_tuple, isT_lst_int, isT_lst_bool, isT_lst_tuple, isT_lst_list, isT_lst_str, isT_lst_tuple_list, isT_lst_list_tuple, isT_klst_int, isT_klst_bool, isT_klst_tuple, isT_klst_list, isT_klst_str, isT_klst_tuple_list, isT_klst_list_tuple, isT_ref_int, isT_ref_bool, isT_ref_tuple, isT_ref_list, isT_ref_str, isT_ref_tuple_list, isT_ref_list_tuple, cmp_eqI, cmp_neI, cmp_ltI, cmp_leI, cmp_gtI, cmp_geI, cmp_eqB, cmp_neB, idx_hand0, set_hand0, idx_hand1, set_hand1, idx_hand2, set_hand2, idx_hand3, set_hand3, idx_hand4, set_hand4, pBin, idx_tup0, idx_tup1, idx_tup2, idx_tup3, idx_tup4, idx_tup5, idx_tup6, idx_tup7, Int.cast_ofNat_Int, blt_abs, blt_int, blt_intB, blt_len_tup, blt_len_lst, blt_len_klst, blt_tuple_tup, blt_tuple_lst, blt_list_tup, blt_list_lst, blt_sum, blt_all_lst, blt_any_lst, blt_max2, blt_min2, intsD, boolsD, List.length_map, items, place, put, putL, wipe, Tg.names, Tg.namesL, deref, List.map_cons, List.map_nil, List.length_cons, List.length_nil, List.getElem?_cons_zero, List.getElem?_cons_succ, List.getElem?_nil, List.getElem?_append, List.set_cons_zero, List.set_cons_succ, List.set_nil, List.cons_append, List.nil_append, List.append_nil, List.replicate_succ, List.replicate_zero, Nat.sub_self, Nat.add_sub_cancel, Option.map_some, Option.map_none, Option.bind_some, Option.bind_none, Option.some.injEq, if_true, if_false, ite_true, ite_false, Bool.false_eq_true, reduceCtorEq, Nat.reduceSub, Nat.reduceAdd, Nat.reduceLT, Nat.reduceLeDiff, Nat.reduceEqDiff, Nat.reduceMul, Int.reduceLT, Int.reduceLE, Int.reduceEq, Int.reduceNe, Int.reducePow, Int.reduceToNat, Int.reduceNeg, Int.reduceNegSucc, Nat.zero_add, Int.reduceAdd, Int.reduceSub, Int.reduceMul, not_true_eq_false, not_false_eq_true, Nat.lt_irrefl, Nat.zero_le, Nat.zero_lt_succ, Nat.succ_sub_succ_eq_sub, Nat.reduceSucc, bne_tt, bne_tf, bne_ft, Bool.not_true, Bool.not_false, Bool.true_and, Bool.false_and, Bool.and_true, Bool.and_false, Bool.or_true, Bool.or_false, Bool.true_or, Bool.false_or, bne_self_eq_false, beq_self_eq_true, isTy, cm, lz, all_true, all_true2, decide_true]
theorem eqvL_ints : ∀ (xs ys : List Int), eqvL (xs.map .int) (ys.map .int) = decide (xs = ys)
  | [], [] => rfl
  | [], y :: ys => rfl
  | x :: xs, [] => rfl
  | x :: xs, y :: ys => by
    simp only [List.map_cons, eqvL, eqv, eqvL_ints xs ys]
    by_cases h1 : x = y <;> by_cases h2 : xs = ys <;> simp [h1, h2]
theorem plainL_ints (n : Nat) : ∀ (xs : List Int), plainL n (xs.map .int) = true
  | [] => rfl
  | x :: xs => by
    simp only [List.map_cons, plainL, plainL_ints n xs, plain]
    rfl
theorem cmp_eqR {xs ys : List Int} : pCmp s .eq (ro xs) (ro ys) = .val (.bl (decide (xs = ys))) := by
  simp only [pCmp, okEq, ro, deref, plain, plainL_ints, eqv, eqvL_ints, Bool.and_self, if_true]
theorem cmp_neR {xs ys : List Int} : pCmp s .ne (ro xs) (ro ys) = .val (.bl (!decide (xs = ys))) := by
  simp only [pCmp, okEq, ro, deref, plain, plainL_ints, eqv, eqvL_ints, Bool.and_self, if_true]
theorem ro3 (a b c : Int) : D.tup [.int a, .int b, .int c] = ro [a, b, c] := rfl
theorem run_check_point {n : Nat} (h : Has P Pl.Q_check_point) (a b c : Int) (hc : can [a, b, c] = [a, b, c]) (hn : [a, b, c] ≠ [0, 0, 0]) (ha : a.natAbs < dmax) (hb : b.natAbs < dmax) (hcc : c.natAbs < dmax) : run P (n + 3) 135 [ro [a, b, c]] s = .ok .non s := by
  have h1 : Has P Pl.Q_are_integers := h.sub (by decide)
  have h2 : Has P Pl.Q_lowest := h.sub (by decide)
  rw [has_run (F := Pl.F_check_point) h (by decide) rfl]
  have ai := run_are_integers (n := n) (s := s) h1 [a, b, c] (by simp)
  have lo := run_lowest (n := n) (s := s) h2 (d := ro [a, b, c]) (zs := [a, b, c]) (.inl rfl) (by simp [ha, hb, hcc]) (by simp)
  have ai' : run P (n + 2) 134 [ro [a, b, c], .int 3] s = .ok (.bl true) s := ai
  rw [hc] at lo
  simp only [Pl.F_check_point, Pl.B_check_point, runFn, evSs, ev_var, ev_int, ev_bl, ev_non, ev_str, ev_glob, ev_bin, ev_neg, ev_not, ev_and, ev_or, ev_cmp, ev_chain, ev_isn, ev_isb, ev_ite, ev_tup, ev_lst, ev_idx, ev_slice, ev_call, ev_blt, ev_inst, ev_meth, ev_comp, evL_nil, evL_cons, evAnd_1, evOr_1, evAnd_cons, evOr_cons, evS_set, evS_par, evS_unp, evS_sub, evS_subs, evS_aug, evS_ex, evS_ret, evS_ite, evS_whl, evS_for, evS_brk, evS_pass, itE, pIter, srcOf, chk_nil, compEnd, evAnd1, evSub, evLT, evSubs, R.bind, R.thn, RS.turn, PR.fin, asB, kRef, kNeg, kNot, kIsn, kIsb, kTup, kInst, kSet, kPar, kPut, kAug, kSubs, isNon_non, isNon_bl, isNon_int, isNon_str, isNon_tup, isNon_lst, isNon_klst, isNon_ref, isT_non_int, isT_non_bool, isT_non_tuple, isT_non_list, isT_non_str, isT_non_tuple_list, isT_non_list_tuple, isT_bl_int, isT_bl_bool, isT_bl_tuple, isT_bl_list, isT_bl_str, isT_bl_tuple_list, isT_bl_list_tuple, isT_int_int, isT_int_bool, isT_int_tuple, isT_int_list, isT_int_str, isT_int_tuple_list, isT_int_list_tuple, isT_str_int, isT_str_bool, isT_str_tuple, isT_str_list, isT_str_str, isT_str_tuple_list, isT_str_list_tuple, isT_tup_int, isT_tup_bool, isT_tup_tuple, isT_tup_list, isT_tup_str, isT_tup_tuple_list, isT_tup_list_tuple, isT_lst_int, isT_lst_bool, isT_lst_tuple, isT_lst_list, isT_lst_str, isT_lst_tuple_list, isT_lst_list_tuple, isT_klst_int, isT_klst_bool, isT_klst_tuple, isT_klst_list, isT_klst_str, isT_klst_tuple_list, isT_klst_list_tuple, isT_ref_int, isT_ref_bool, isT_ref_tuple, isT_ref_list, isT_ref_str, isT_ref_tuple_list, isT_ref_list_tuple, cmp_eqI, cmp_neI, cmp_ltI, cmp_leI, cmp_gtI, cmp_geI, cmp_eqB, cmp_neB, idx_hand0, set_hand0, idx_hand1, set_hand1, idx_hand2, set_hand2, idx_hand3, set_hand3, idx_hand4, set_hand4, pBin, idx_tup0, idx_tup1, idx_tup2, idx_tup3, idx_tup4, idx_tup5, idx_tup6, idx_tup7, Int.cast_ofNat_Int, blt_abs, blt_int, blt_intB, blt_len_tup, blt_len_lst, blt_len_klst, blt_tuple_tup, blt_tuple_lst, blt_list_tup, blt_list_lst, blt_sum, blt_all_lst, blt_any_lst, blt_max2, blt_min2, intsD, boolsD, List.length_map, items, place, put, putL, wipe, Tg.names, Tg.namesL, deref, List.map_cons, List.map_nil, List.length_cons, List.length_nil, List.getElem?_cons_zero, List.getElem?_cons_succ, List.getElem?_nil, List.getElem?_append, List.set_cons_zero, List.set_cons_succ, List.set_nil, List.cons_append, List.nil_append, List.append_nil, List.replicate_succ, List.replicate_zero, Nat.sub_self, Nat.add_sub_cancel, Option.map_some, Option.map_none, Option.bind_some, Option.bind_none, Option.some.injEq, if_true, if_false, ite_true, ite_false, Bool.false_eq_true, reduceCtorEq, Nat.reduceSub, Nat.reduceAdd, Nat.reduceLT, Nat.reduceLeDiff, Nat.reduceEqDiff, Nat.reduceMul, Int.reduceLT, Int.reduceLE, Int.reduceEq, Int.reduceNe, Int.reducePow, Int.reduceToNat, Int.reduceNeg, Int.reduceNegSucc, Nat.zero_add, Int.reduceAdd, Int.reduceSub, Int.reduceMul, not_true_eq_false, not_false_eq_true, Nat.lt_irrefl, Nat.zero_le, Nat.zero_lt_succ, Nat.succ_sub_succ_eq_sub, Nat.reduceSucc, bne_tt, bne_tf, bne_ft, Bool.not_true, Bool.not_false, Bool.true_and, Bool.false_and, Bool.and_true, Bool.and_false, Bool.or_true, Bool.or_false, Bool.true_or, Bool.false_or, bne_self_eq_false, beq_self_eq_true, ai', lo, ro3, cmp_eqR, cmp_neR, hn, decide_false, decide_true]
end
end Pi

set_option Elab.async false
set_option linter.all false
set_option maxRecDepth 100000
namespace Pi
open PySem
section
variable {P : Prog} {s : Store}
theorem run_is_fraction {n k : Nat} (h : Has P Pl.Q_is_fraction) (q : Rat) [b : Bq k q] (hk : k ≤ 4000) : run P (n + 2) 139 [fr q] s = .ok (.bl true) s := by
  have h1 : Has P Pl.Q_is_integer := h.sub (by decide)
  have h2 : Has P Pl.Q_common := h.sub (by decide)
  rw [has_run (F := Pl.F_is_fraction) h (by decide) rfl]
  have g : Int.gcd q.num q.den = 1 := by
    unfold Int.gcd
    simpa using q.reduced
  have c := run_common (s := s) h2 q.num q.den (by simpa using most_of b.den (by omega)) n
  rw [g] at c
  have stepM : ∀ x ∈ [D.int q.num, .int q.den], compStep P.G (run P (n + 1)) (.call 133 [.var 1]) (.n 1) [] [some (fr q), none] x s = .ok (some ((fun _ => D.bl true) x)) s := by
    intro x hx
    simp only [List.mem_cons, List.not_mem_nil, or_false] at hx
    rcases hx with rfl | rfl <;> simp only [compStep, runFn, evSs, ev_var, ev_int, ev_bl, ev_non, ev_str, ev_glob, ev_bin, ev_neg, ev_not, ev_and, ev_or, ev_cmp, ev_chain, ev_isn, ev_isb, ev_ite, ev_tup, ev_lst, ev_idx, ev_slice, ev_call, ev_blt, ev_inst, ev_meth, ev_comp, evL_nil, evL_cons, evAnd_1, evOr_1, evAnd_cons, evOr_cons, evS_set, evS_par, evS_unp, evS_sub, evS_subs, evS_aug, evS_ex, evS_ret, evS_ite, evS_whl, evS_for, evS_brk, evS_pass, itE, pIter, srcOf, chk_nil, compEnd, evAnd1, evSub, evLT, evSubs, R.bind, R.thn, RS.turn, PR.fin, asB, kRef, kNeg, kNot, kIsn, kIsb, kTup, kInst, kSet, kPar, kPut, kAug, kSubs, isNon_non, isNon_bl, isNon_int, isNon_str, isNon_tup, isNon_lst, isNon_klst, isNon_ref, isT_non_int, isT_non_bool, isT_non_tuple, isT_non_list, isT_non_str, isT_non_tuple_list, isT_non_list_tuple, isT_bl_int, isT_bl_bool, isT_bl_tuple, isT_bl_list, isT_bl_str, isT_bl_tuple_list, isT_bl_list_tuple, isT_int_int, isT_int_bool, isT_int_tuple, isT_int_list, isT_int_str, isT_int_tuple_list, isT_int_list_tuple, isT_str_int, isT_str_bool, isT_str_tuple, isT_str_list, isT_str_str, isT_str_tuple_list, isT_str_list_tuple, isT_tup_int, isT_tup_bool, isT_tup_tuple, isT_tup_list, isT_tup_str, isT_tup_tuple_list, isT_tup_list_tuple, isT_lst_int, isT_lst_bool, isT_lst_tuple, isT_lst_list, isT_lst_str, isT_lst_tuple_list, isT_lst_list_tuple, isT_klst_int, isT_klst_bool, isT_klst_tuple, isT_klst_list, isT_klst_str, isT_klst_tuple_list, isT_klst_list_tuple, isT_ref_int, isT_ref_bool, isT_ref_tuple, isT_ref_list, isT_ref_str, isT_ref_tuple_list, isT_ref_list_tuple, cmp_eqI, cmp_neI, cmp_ltI, cmp_leI, cmp_gtI, cmp_geI, cmp_eqB, cmp_neB, idx_hand0, set_hand0, idx_hand1, set_hand1, idx_hand2, set_hand2, idx_hand3, set_hand3, idx_hand4, set_hand4, pBin, idx_tup0, idx_tup1, idx_tup2, idx_tup3, idx_tup4, idx_tup5, idx_tup6, idx_tup7, Int.cast_ofNat_Int, blt_abs, blt_int, blt_intB, blt_len_tup, blt_len_lst, blt_len_klst, blt_tuple_tup, blt_tuple_lst, blt_list_tup, blt_list_lst, blt_sum, blt_all_lst, blt_any_lst, blt_max2, blt_min2, intsD, boolsD, List.length_map, items, place, put, putL, wipe, Tg.names, Tg.namesL, deref, List.map_cons, List.map_nil, List.length_cons, List.length_nil, List.getElem?_cons_zero, List.getElem?_cons_succ, List.getElem?_nil, List.getElem?_append, List.set_cons_zero, List.set_cons_succ, List.set_nil, List.cons_append, List.nil_append, List.append_nil, List.replicate_succ, List.replicate_zero, Nat.sub_self, Nat.add_sub_cancel, Option.map_some, Option.map_none, Option.bind_some, Option.bind_none, Option.some.injEq, if_true, if_false, ite_true, ite_false, Bool.false_eq_true, reduceCtorEq, Nat.reduceSub, Nat.reduceAdd, Nat.reduceLT, Nat.reduceLeDiff, Nat.reduceEqDiff, Nat.reduceMul, Int.reduceLT, Int.reduceLE, Int.reduceEq, Int.reduceNe, Int.reducePow, Int.reduceToNat, Int.reduceNeg, Int.reduceNegSucc, Nat.zero_add, Int.reduceAdd, Int.reduceSub, Int.reduceMul, not_true_eq_false, not_false_eq_true, Nat.lt_irrefl, Nat.zero_le, Nat.zero_lt_succ, Nat.succ_sub_succ_eq_sub, Nat.reduceSucc, bne_tt, bne_tf, bne_ft, Bool.not_true, Bool.not_false, Bool.true_and, Bool.false_and, Bool.and_true, Bool.and_false, Bool.or_true, Bool.or_false, Bool.true_or, Bool.false_or, bne_self_eq_false, beq_self_eq_true, run_is_integer h1]
  have cm := comp_map [D.int q.num, .int q.den] [] stepM (by simp)
  rw [List.nil_append] at cm
  unfold fr at cm ⊢
  have dp : (0 : Int) < q.den := by have := q.den_pos; omega
  simp only [Pl.F_is_fraction, Pl.B_is_fraction, runFn, evSs, ev_var, ev_int, ev_bl, ev_non, ev_str, ev_glob, ev_bin, ev_neg, ev_not, ev_and, ev_or, ev_cmp, ev_chain, ev_isn, ev_isb, ev_ite, ev_tup, ev_lst, ev_idx, ev_slice, ev_call, ev_blt, ev_inst, ev_meth, ev_comp, evL_nil, evL_cons, evAnd_1, evOr_1, evAnd_cons, evOr_cons, evS_set, evS_par, evS_unp, evS_sub, evS_subs, evS_aug, evS_ex, evS_ret, evS_ite, evS_whl, evS_for, evS_brk, evS_pass, itE, pIter, srcOf, chk_nil, compEnd, evAnd1, evSub, evLT, evSubs, R.bind, R.thn, RS.turn, PR.fin, asB, kRef, kNeg, kNot, kIsn, kIsb, kTup, kInst, kSet, kPar, kPut, kAug, kSubs, isNon_non, isNon_bl, isNon_int, isNon_str, isNon_tup, isNon_lst, isNon_klst, isNon_ref, isT_non_int, isT_non_bool, isT_non_tuple, isT_non_list, isT_non_str, isT_non_tuple_list, isT_non_list_tuple, isT_bl_int, isT_bl_bool, isT_bl_tuple, isT_bl_list, isT_bl_str, isT_bl_tuple_list, isT_bl_list_tuple, isT_int_int, isT_int_bool, isT_int_tuple, isT_int_list, isT_int_str, isT_int_tuple_list, isT_int_list_tuple, isT_str_int, isT_str_bool, isT_str_tuple, isT_str_list, isT_str_str, isT_str_tuple_list, isT_str_list_tuple, isT_tup_int, isT_tup_bool, isT_tup_tuple, isT_tup_list, isT_tup_str, isT_tup_tuple_list, isT_tup_list_tuple, isT_lst_int, isT_lst_bool, isT_lst_tuple, isT_lst_list, isT_lst_str, isT_lst_tuple_list, isT_lst_list_tuple, isT_klst_int, isT_klst_bool, isT_klst_tuple, isT_klst_list, isT_klst_str, isT_klst_tuple_list, isT_klst_list_tuple, isT_ref_int, isT_ref_bool, isT_ref_tuple, isT_ref_list, isT_ref_str, isT_ref_tuple_list, isT_ref_list_tuple, cmp_eqI, cmp_neI, cmp_ltI, cmp_leI, cmp_gtI, cmp_geI, cmp_eqB, cmp_neB, idx_hand0, set_hand0, idx_hand1, set_hand1, idx_hand2, set_hand2, idx_hand3, set_hand3, idx_hand4, set_hand4, pBin, idx_tup0, idx_tup1, idx_tup2, idx_tup3, idx_tup4, idx_tup5, idx_tup6, idx_tup7, Int.cast_ofNat_Int, blt_abs, blt_int, blt_intB, blt_len_tup, blt_len_lst, blt_len_klst, blt_tuple_tup, blt_tuple_lst, blt_list_tup, blt_list_lst, blt_sum, blt_all_lst, blt_any_lst, blt_max2, blt_min2, intsD, boolsD, List.length_map, items, place, put, putL, wipe, Tg.names, Tg.namesL, deref, List.map_cons, List.map_nil, List.length_cons, List.length_nil, List.getElem?_cons_zero, List.getElem?_cons_succ, List.getElem?_nil, List.getElem?_append, List.set_cons_zero, List.set_cons_succ, List.set_nil, List.cons_append, List.nil_append, List.append_nil, List.replicate_succ, List.replicate_zero, Nat.sub_self, Nat.add_sub_cancel, Option.map_some, Option.map_none, Option.bind_some, Option.bind_none, Option.some.injEq, if_true, if_false, ite_true, ite_false, Bool.false_eq_true, reduceCtorEq, Nat.reduceSub, Nat.reduceAdd, Nat.reduceLT, Nat.reduceLeDiff, Nat.reduceEqDiff, Nat.reduceMul, Int.reduceLT, Int.reduceLE, Int.reduceEq, Int.reduceNe, Int.reducePow, Int.reduceToNat, Int.reduceNeg, Int.reduceNegSucc, Nat.zero_add, Int.reduceAdd, Int.reduceSub, Int.reduceMul, not_true_eq_false, not_false_eq_true, Nat.lt_irrefl, Nat.zero_le, Nat.zero_lt_succ, Nat.succ_sub_succ_eq_sub, Nat.reduceSucc, bne_tt, bne_tf, bne_ft, Bool.not_true, Bool.not_false, Bool.true_and, Bool.false_and, Bool.and_true, Bool.and_false, Bool.or_true, Bool.or_false, Bool.true_or, Bool.false_or, bne_self_eq_false, beq_self_eq_true, isTy, cm, dp, decide_true, c, List.all_cons, List.all_nil, id]
theorem run_are_fractions {n k : Nat} (h : Has P Pl.Q_are_fractions) (qs : List Rat) (hq : ∀ q ∈ qs, Bq k q) (hk : k ≤ 4000) (hl : qs.length ≤ 1000) : run P (n + 3) 140 [.tup (qs.map fr), .int qs.length] s = .ok (.bl true) s := by
  have hc : Has P Pl.Q_is_fraction := h.sub (by decide)
  rw [has_run (F := Pl.F_are_fractions) h (by decide) rfl]
  have stepM : ∀ x ∈ qs.map fr, compStep P.G (run P (n + 2)) (.call 139 [.var 2]) (.n 2) [] [some (.tup (qs.map fr)), some (.int qs.length), none] x s = .ok (some ((fun _ => D.bl true) x)) s := by
    intro x hx
    obtain ⟨q, hq', rfl⟩ := List.mem_map.mp hx
    have := hq q hq'
    simp only [compStep, runFn, evSs, ev_var, ev_int, ev_bl, ev_non, ev_str, ev_glob, ev_bin, ev_neg, ev_not, ev_and, ev_or, ev_cmp, ev_chain, ev_isn, ev_isb, ev_ite, ev_tup, ev_lst, ev_idx, ev_slice, ev_call, ev_blt, ev_inst, ev_meth, ev_comp, evL_nil, evL_cons, evAnd_1, evOr_1, evAnd_cons, evOr_cons, evS_set, evS_par, evS_unp, evS_sub, evS_subs, evS_aug, evS_ex, evS_ret, evS_ite, evS_whl, evS_for, evS_brk, evS_pass, itE, pIter, srcOf, chk_nil, compEnd, evAnd1, evSub, evLT, evSubs, R.bind, R.thn, RS.turn, PR.fin, asB, kRef, kNeg, kNot, kIsn, kIsb, kTup, kInst, kSet, kPar, kPut, kAug, kSubs, isNon_non, isNon_bl, isNon_int, isNon_str, isNon_tup, isNon_lst, isNon_klst, isNon_ref, isT_non_int, isT_non_bool, isT_non_tuple, isT_non_list, isT_non_str, isT_non_tuple_list, isT_non_list_tuple, isT_bl_int, isT_bl_bool, isT_bl_tuple, isT_bl_list, isT_bl_str, isT_bl_tuple_list, isT_bl_list_tuple, isT_int_int, isT_int_bool, isT_int_tuple, isT_int_list, isT_int_str, isT_int_tuple_list, isT_int_list_tuple, isT_str_int, isT_str_bool, isT_str_tuple, isT_str_list, isT_str_str, isT_str_tuple_list, isT_str_list_tuple, isT_tup_int, isT_tup_bool, isT_tup_tuple, isT_tup_list, isT_tup_str, isT_tup_tuple_list, isT_tup_list_tuple, isT_lst_int, isT_lst_bool, isT_lst_tuple, isT_lst_list, isT_lst_str, isT_lst_tuple_list, isT_lst_list_tuple, isT_klst_int, isT_klst_bool, isT_klst_tuple, isT_klst_list, isT_klst_str, isT_klst_tuple_list, isT_klst_list_tuple, isT_ref_int, isT_ref_bool, isT_ref_tuple, isT_ref_list, isT_ref_str, isT_ref_tuple_list, isT_ref_list_tuple, cmp_eqI, cmp_neI, cmp_ltI, cmp_leI, cmp_gtI, cmp_geI, cmp_eqB, cmp_neB, idx_hand0, set_hand0, idx_hand1, set_hand1, idx_hand2, set_hand2, idx_hand3, set_hand3, idx_hand4, set_hand4, pBin, idx_tup0, idx_tup1, idx_tup2, idx_tup3, idx_tup4, idx_tup5, idx_tup6, idx_tup7, Int.cast_ofNat_Int, blt_abs, blt_int, blt_intB, blt_len_tup, blt_len_lst, blt_len_klst, blt_tuple_tup, blt_tuple_lst, blt_list_tup, blt_list_lst, blt_sum, blt_all_lst, blt_any_lst, blt_max2, blt_min2, intsD, boolsD, List.length_map, items, place, put, putL, wipe, Tg.names, Tg.namesL, deref, List.map_cons, List.map_nil, List.length_cons, List.length_nil, List.getElem?_cons_zero, List.getElem?_cons_succ, List.getElem?_nil, List.getElem?_append, List.set_cons_zero, List.set_cons_succ, List.set_nil, List.cons_append, List.nil_append, List.append_nil, List.replicate_succ, List.replicate_zero, Nat.sub_self, Nat.add_sub_cancel, Option.map_some, Option.map_none, Option.bind_some, Option.bind_none, Option.some.injEq, if_true, if_false, ite_true, ite_false, Bool.false_eq_true, reduceCtorEq, Nat.reduceSub, Nat.reduceAdd, Nat.reduceLT, Nat.reduceLeDiff, Nat.reduceEqDiff, Nat.reduceMul, Int.reduceLT, Int.reduceLE, Int.reduceEq, Int.reduceNe, Int.reducePow, Int.reduceToNat, Int.reduceNeg, Int.reduceNegSucc, Nat.zero_add, Int.reduceAdd, Int.reduceSub, Int.reduceMul, not_true_eq_false, not_false_eq_true, Nat.lt_irrefl, Nat.zero_le, Nat.zero_lt_succ, Nat.succ_sub_succ_eq_sub, Nat.reduceSucc, bne_tt, bne_tf, bne_ft, Bool.not_true, Bool.not_false, Bool.true_and, Bool.false_and, Bool.and_true, Bool.and_false, Bool.or_true, Bool.or_false, Bool.true_or, Bool.false_or, bne_self_eq_false, beq_self_eq_true, run_is_fraction hc q hk]
  have cm := comp_map (qs.map fr) [] stepM (by simp; omega)
  rw [List.nil_append] at cm
  have lz : qs.length ≤ 100000 := by omega
  simp only [Pl.F_are_fractions, Pl.B_are_fractions, runFn, evSs, ev_var, ev_int, ev_bl, ev_non, ev_str, ev_glob, ev_bin, ev_neg, ev_not, ev_and, ev_or, ev_cmp, ev_chain, ev_isn, ev_isb, ev_ite, ev_tup, ev_lst, ev_idx, ev_slice, ev_call, ev_blt, ev_inst, ev_meth, ev_comp, evL_nil, evL_cons, evAnd_1, evOr_1, evAnd_cons, evOr_cons, evS_set, evS_par, evS_unp, evS_sub, evS_subs, evS_aug, evS_ex, evS_ret, evS_ite, evS_whl, evS_for, evS_brk, evS_pass, itE, pIter, srcOf, chk_nil, compEnd, evAnd1, evSub, evLT, evSubs, R.bind, R.thn, RS.turn, PR.fin, asB, kRef, kNeg, kNot, kIsn, kIsb, kTup, kInst, kSet, kPar, kPut, kAug, kSubs, isNon_non, isNon_bl, isNon_int, isNon_str, isNon_tup, isNon_lst, isNon_klst, isNon_ref, isT_non_int, isT_non_bool, isT_non_tuple, isT_non_list, isT_non_str, isT_non_tuple_list, isT_non_list_tuple, isT_bl_int, isT_bl_bool, isT_bl_tuple, isT_bl_list, isT_bl_str, isT_bl_tuple_list, isT_bl_list_tuple, isT_int_int, isT_int_bool, isT_int_tuple, isT_int_list, isT_int_str, isT_int_tuple_list, isT_int_list_tuple, isT_str_int, isT_str_bool, isT_str_tuple, isT_str_list, isT_str_str, isT_str_tuple_list, isT_str_list_tuple, isT_tup_int, isT_tup_bool, isT_tup_tuple, isT_tup_list, isT_tup_str, isT_tup_tuple_list, isT_tup_list_tuple, isT_lst_int, isT_lst_bool, isT_lst_tuple, isT_lst_list, isT_lst_str, isT_lst_tuple_list, isT_lst_list_tuple, isT_klst_int, isT_klst_bool, isT_klst_tuple, isT_klst_list, isT_klst_str, isT_klst_tuple_list, isT_klst_list_tuple, isT_ref_int, isT_ref_bool, isT_ref_tuple, isT_ref_list, isT_ref_str, isT_ref_tuple_list, isT_ref_list_tuple, cmp_eqI, cmp_neI, cmp_ltI, cmp_leI, cmp_gtI, cmp_geI, cmp_eqB, cmp_neB, idx_hand0, set_hand0, idx_hand1, set_hand1, idx_hand2, set_hand2, idx_hand3, set_hand3, idx_hand4, set_hand4, pBin, idx_tup0, idx_tup1, idx_tup2, idx_tup3, idx_tup4, idx_tup5, idx_tup6, idx_tup7, Int.cast_ofNat_Int, blt_abs, blt_int, blt_intB, blt_len_tup, blt_len_lst, blt_len_klst, blt_tuple_tup, blt_tuple_lst, blt_list_tup, blt_list_lst, blt_sum, blt_all_lst, blt_any_lst, blt_max2, blt_min2, intsD, boolsD, List.length_map, items, place, put, putL, wipe, Tg.names, Tg.namesL, deref, List.map_cons, List.map_nil, List.length_cons, List.length_nil, List.getElem?_cons_zero, List.getElem?_cons_succ, List.getElem?_nil, List.getElem?_append, List.set_cons_zero, List.set_cons_succ, List.set_nil, List.cons_append, List.nil_append, List.append_nil, List.replicate_succ, List.replicate_zero, Nat.sub_self, Nat.add_sub_cancel, Option.map_some, Option.map_none, Option.bind_some, Option.bind_none, Option.some.injEq, if_true, if_false, ite_true, ite_false, Bool.false_eq_true, reduceCtorEq, Nat.reduceSub, Nat.reduceAdd, Nat.reduceLT, Nat.reduceLeDiff, Nat.reduceEqDiff, Nat.reduceMul, Int.reduceLT, Int.reduceLE, Int.reduceEq, Int.reduceNe, Int.reducePow, Int.reduceToNat, Int.reduceNeg, Int.reduceNegSucc, Nat.zero_add, Int.reduceAdd, Int.reduceSub, Int.reduceMul, not_true_eq_false, not_false_eq_true, Nat.lt_irrefl, Nat.zero_le, Nat.zero_lt_succ, Nat.succ_sub_succ_eq_sub, Nat.reduceSucc, bne_tt, bne_tf, bne_ft, Bool.not_true, Bool.not_false, Bool.true_and, Bool.false_and, Bool.and_true, Bool.and_false, Bool.or_true, Bool.or_false, Bool.true_or, Bool.false_or, bne_self_eq_false, beq_self_eq_true, isTy, cm, lz, all_true, all_true2, decide_true]
/-- the point at x, y -/
def pt (x y : Rat) : D := ro (wrow [x, y, 1])
theorem one_fr : D.tup [.int 1, .int 1] = fr 1 := rfl
instance : Bq 1 (1 : Rat) := ⟨by decide, by decide⟩
theorem run_at {n j k : Nat} (h : Has P Pl.Q_at) (x y : Rat) [bx : Bq j x] [bq : Bq k y] (hj : j ≤ 999) (hk : k ≤ 999) : run P (n + 4) 141 [fr x, fr y] s = .ok (pt x y) s := by
  have h1 : Has P Pl.Q_are_fractions := h.sub (by decide)
  have h2 : Has P Pl.Q_whole := h.sub (by decide)
  rw [has_run (F := Pl.F_at) h (by decide) rfl]
  have b2 : ∀ q ∈ [x, y], Bq 1000 q := fun q hq => by
    simp only [List.mem_cons, List.not_mem_nil, or_false] at hq
    rcases hq with rfl | rfl
    · exact bx.mono (by omega)
    · exact bq.mono (by omega)
  have b3 : ∀ q ∈ [x, y, 1], Bq 1000 q := fun q hq => by
    simp only [List.mem_cons, List.not_mem_nil, or_false] at hq
    rcases hq with rfl | rfl | rfl
    · exact bx.mono (by omega)
    · exact bq.mono (by omega)
    · exact Bq.mono (inferInstance : Bq 1 (1 : Rat)) (by omega)
  have af := run_are_fractions (n := n) (s := s) h1 [x, y] b2 (by omega) (by simp)
  have wh := run_whole (n := n) (s := s) h2 b3 (by omega) (by simp)
  have af' : run P (n + 3) 140 [.tup [fr x, fr y], .int 2] s = .ok (.bl true) s := af
  have wh' : run P (n + 3) 105 [.tup [fr x, fr y, fr 1]] s = .ok (pt x y) s := wh
  simp only [Pl.F_at, Pl.B_at, runFn, evSs, ev_var, ev_int, ev_bl, ev_non, ev_str, ev_glob, ev_bin, ev_neg, ev_not, ev_and, ev_or, ev_cmp, ev_chain, ev_isn, ev_isb, ev_ite, ev_tup, ev_lst, ev_idx, ev_slice, ev_call, ev_blt, ev_inst, ev_meth, ev_comp, evL_nil, evL_cons, evAnd_1, evOr_1, evAnd_cons, evOr_cons, evS_set, evS_par, evS_unp, evS_sub, evS_subs, evS_aug, evS_ex, evS_ret, evS_ite, evS_whl, evS_for, evS_brk, evS_pass, itE, pIter, srcOf, chk_nil, compEnd, evAnd1, evSub, evLT, evSubs, R.bind, R.thn, RS.turn, PR.fin, asB, kRef, kNeg, kNot, kIsn, kIsb, kTup, kInst, kSet, kPar, kPut, kAug, kSubs, isNon_non, isNon_bl, isNon_int, isNon_str, isNon_tup, isNon_lst, isNon_klst, isNon_ref, isT_non_int, isT_non_bool, isT_non_tuple, isT_non_list, isT_non_str, isT_non_tuple_list, isT_non_list_tuple, isT_bl_int, isT_bl_bool, isT_bl_tuple, isT_bl_list, isT_bl_str, isT_bl_tuple_list, isT_bl_list_tuple, isT_int_int, isT_int_bool, isT_int_tuple, isT_int_list, isT_int_str, isT_int_tuple_list, isT_int_list_tuple, isT_str_int, isT_str_bool, isT_str_tuple, isT_str_list, isT_str_str, isT_str_tuple_list, isT_str_list_tuple, isT_tup_int, isT_tup_bool, isT_tup_tuple, isT_tup_list, isT_tup_str, isT_tup_tuple_list, isT_tup_list_tuple, isT_lst_int, isT_lst_bool, isT_lst_tuple, isT_lst_list, isT_lst_str, isT_lst_tuple_list, isT_lst_list_tuple, isT_klst_int, isT_klst_bool, isT_klst_tuple, isT_klst_list, isT_klst_str, isT_klst_tuple_list, isT_klst_list_tuple, isT_ref_int, isT_ref_bool, isT_ref_tuple, isT_ref_list, isT_ref_str, isT_ref_tuple_list, isT_ref_list_tuple, cmp_eqI, cmp_neI, cmp_ltI, cmp_leI, cmp_gtI, cmp_geI, cmp_eqB, cmp_neB, idx_hand0, set_hand0, idx_hand1, set_hand1, idx_hand2, set_hand2, idx_hand3, set_hand3, idx_hand4, set_hand4, pBin, idx_tup0, idx_tup1, idx_tup2, idx_tup3, idx_tup4, idx_tup5, idx_tup6, idx_tup7, Int.cast_ofNat_Int, blt_abs, blt_int, blt_intB, blt_len_tup, blt_len_lst, blt_len_klst, blt_tuple_tup, blt_tuple_lst, blt_list_tup, blt_list_lst, blt_sum, blt_all_lst, blt_any_lst, blt_max2, blt_min2, intsD, boolsD, List.length_map, items, place, put, putL, wipe, Tg.names, Tg.namesL, deref, List.map_cons, List.map_nil, List.length_cons, List.length_nil, List.getElem?_cons_zero, List.getElem?_cons_succ, List.getElem?_nil, List.getElem?_append, List.set_cons_zero, List.set_cons_succ, List.set_nil, List.cons_append, List.nil_append, List.append_nil, List.replicate_succ, List.replicate_zero, Nat.sub_self, Nat.add_sub_cancel, Option.map_some, Option.map_none, Option.bind_some, Option.bind_none, Option.some.injEq, if_true, if_false, ite_true, ite_false, Bool.false_eq_true, reduceCtorEq, Nat.reduceSub, Nat.reduceAdd, Nat.reduceLT, Nat.reduceLeDiff, Nat.reduceEqDiff, Nat.reduceMul, Int.reduceLT, Int.reduceLE, Int.reduceEq, Int.reduceNe, Int.reducePow, Int.reduceToNat, Int.reduceNeg, Int.reduceNegSucc, Nat.zero_add, Int.reduceAdd, Int.reduceSub, Int.reduceMul, not_true_eq_false, not_false_eq_true, Nat.lt_irrefl, Nat.zero_le, Nat.zero_lt_succ, Nat.succ_sub_succ_eq_sub, Nat.reduceSucc, bne_tt, bne_tf, bne_ft, Bool.not_true, Bool.not_false, Bool.true_and, Bool.false_and, Bool.and_true, Bool.and_false, Bool.or_true, Bool.or_false, Bool.true_or, Bool.false_or, bne_self_eq_false, beq_self_eq_true, af', one_fr, wh']
theorem can_length (zs : List Int) : (can zs).length = zs.length := by
  unfold can
  split
  · rfl
  · simp
/-- the row of a point -/
theorem pt_row {j k : Nat} (x y : Rat) [bx : Bq j x] [bq : Bq k y] : ∃ a b c : Int, wrow [x, y, 1] = [a, b, c] ∧ 0 < c ∧ (a : Rat) = c * x ∧ (b : Rat) = c * y ∧ can [a, b, c] = [a, b, c] ∧ Bi (j + j + k + 1) a ∧ Bi (j + k + k + 1) b ∧ Bi (j + k + 1) c := by
  have nz : gcdL (wz [x, y, 1]) ≠ 0 := wz_nz ⟨1, by simp, by decide⟩
  have e := can_back nz
  have cc := can_can nz
  have sn := sgcd_ne nz
  generalize hd : sgcd (wz [x, y, 1]) = d at e sn
  have ws : ∃ u v w, wz [x, y, 1] = [u, v, w] := ⟨_, _, _, rfl⟩
  obtain ⟨u, v, w, hw⟩ := ws
  have len : (can (wz [x, y, 1])).length = 3 := by rw [can_length, hw]; rfl
  obtain ⟨a, b, c, hc⟩ : ∃ a b c, can (wz [x, y, 1]) = [a, b, c] := by
    match can (wz [x, y, 1]), len with
    | [a, b, c], _ => exact ⟨a, b, c, rfl⟩
  rw [hc, hw] at e
  simp only [List.map_cons, List.map_nil, List.cons.injEq, and_true] at e
  obtain ⟨e1, e2, e3⟩ := e
  have z1 := wz_at (qs := [x, y, 1]) x (by simp)
  have z2 := wz_at (qs := [x, y, 1]) y (by simp)
  have z3 := wz_at (qs := [x, y, 1]) 1 (by simp)
  simp only [wz, List.map_cons, List.map_nil, List.cons.injEq, and_true] at hw
  obtain ⟨w1, w2, w3⟩ := hw
  rw [w1] at z1
  rw [w2] at z2
  rw [w3] at z3
  have hLr := lcmL_ne [x, y, 1]
  have hL0 : lcmL [x, y, 1] ≠ 0 := (lcm_fold [x, y, 1] 1).2.2 (by decide)
  have wpos : w = lcmL [x, y, 1] := by
    rw [← w3]
    simp
  have dz : (d : Rat) ≠ 0 := fun z => sn (Rat.intCast_inj.mp (z.trans rfl))
  have dpos : 0 < d := by
    rw [← hd]
    unfold sgcd
    have l : lastNz (wz [x, y, 1]) = w := by
      unfold lastNz
      have : wz [x, y, 1] = [u, v, w] := by simp only [wz, List.map_cons, List.map_nil, w1, w2, w3]
      rw [this]
      have hwn : w ≠ 0 := by omega
      have : ([u, v, w].filter (· ≠ 0)).getLast? = some w := by
        have e : [u, v, w].filter (· ≠ 0) = [u, v].filter (· ≠ 0) ++ [w] := by
          rw [show [u, v, w] = [u, v] ++ [w] from rfl, List.filter_append]
          congr 1
          simp [hwn]
        rw [e]
        simp
      rw [this]
      rfl
    rw [l, if_neg (by omega)]
    omega
  have cpos : 0 < c := by
    by_cases h : 0 < c
    · exact h
    · have := Int.mul_nonpos_of_nonneg_of_nonpos (Int.le_of_lt dpos) (Int.not_lt.mp h)
      omega
  have q1 : (u : Rat) = d * a := by rw [e1, Rat.intCast_mul]
  have q2 : (v : Rat) = d * b := by rw [e2, Rat.intCast_mul]
  have q3 : (w : Rat) = d * c := by rw [e3, Rat.intCast_mul]
  have r3 : (lcmL [x, y, 1] : Rat) = d * c := by rw [← q3, z3]; grind
  have le : ∀ {t m : Int}, t = d * m → m.natAbs ≤ t.natAbs := fun {t m} h => by
    rw [h, Int.natAbs_mul]
    exact Nat.le_mul_of_pos_left _ (by omega)
  have Lb : lcmL [x, y, 1] < 2 ^ (j + k + 1) := by
    have h1 : lcmS (lcmS 1 x) y < 2 ^ (j + k) := by
      have a1 : lcmS 1 x < 2 ^ j := by
        rw [lcmS_eq]
        simpa using bx.den
      unfold lcmS at a1 ⊢
      exact lt_mul_pow (Nat.lt_of_le_of_lt (Nat.div_le_self _ _) a1) bq.den
    have h2 : lcmL [x, y, 1] = lcmS (lcmS 1 x) y := by
      show lcmS (lcmS (lcmS 1 x) y) 1 = _
      rw [lcmS_eq _ 1]
      show Nat.lcm _ 1 = _
      rw [Nat.lcm_one_right]
    rw [h2, Nat.pow_succ]
    omega
  refine ⟨a, b, c, hc, cpos, ?_, ?_, ?_, ⟨?_⟩, ⟨?_⟩, ⟨?_⟩⟩
  · grind
  · grind
  · rw [hc] at cc; exact cc
  · refine Nat.lt_of_le_of_lt (le e1) ?_
    rw [← w1, Int.natAbs_mul, Int.natAbs_natCast]
    rw [show j + j + k + 1 = j + (j + k + 1) by omega]
    exact lt_mul_pow bx.num (Nat.lt_of_le_of_lt (Nat.div_le_self _ _) Lb)
  · refine Nat.lt_of_le_of_lt (le e2) ?_
    rw [← w2, Int.natAbs_mul, Int.natAbs_natCast]
    rw [show j + k + k + 1 = k + (j + k + 1) by omega]
    exact lt_mul_pow bq.num (Nat.lt_of_le_of_lt (Nat.div_le_self _ _) Lb)
  · refine Nat.lt_of_le_of_lt (le e3) ?_
    rw [wpos, Int.natAbs_natCast]
    exact Lb
theorem divInt_of {a c : Int} {x : Rat} (hc : c ≠ 0) (h : (a : Rat) = c * x) : Rat.divInt a c = x := by
  have hc' : (c : Rat) ≠ 0 := fun z => hc (Rat.intCast_inj.mp (z.trans rfl))
  rw [Rat.divInt_eq_div, h]
  grind
theorem run_places {n j k : Nat} (h : Has P Pl.Q_places) (x y : Rat) [bx : Bq j x] [bq : Bq k y] (hj : j ≤ 1000) (hk : k ≤ 1000) : run P (n + 4) 142 [pt x y] s = .ok (.tup [fr x, fr y]) s := by
  have h1 : Has P Pl.Q_check_point := h.sub (by decide)
  have h2 : Has P Pl.Q_fraction := h.sub (by decide)
  obtain ⟨a, b, c, hw, hc, ha, hb, hcan, ba, bb, bc⟩ := pt_row x y
  have da : a.natAbs < dmax := dmax_of ba.lt (by omega)
  have db : b.natAbs < dmax := dmax_of bb.lt (by omega)
  have dc : c.natAbs < dmax := dmax_of bc.lt (by omega)
  have c0 : c ≠ 0 := by omega
  have cp := run_check_point (n := n) (s := s) h1 a b c hcan (by simp [c0]) da db dc
  have f1 := run_fraction (s := s) h2 a c c0 dc (n + 1)
  have f2 := run_fraction (s := s) h2 b c c0 dc (n + 1)
  rw [divInt_of c0 ha] at f1
  rw [divInt_of c0 hb] at f2
  rw [has_run (F := Pl.F_places) h (by decide) rfl]
  unfold pt
  rw [hw]
  have ro_eq : ro [a, b, c] = .tup [.int a, .int b, .int c] := rfl
  rw [ro_eq] at cp ⊢
  simp only [Pl.F_places, Pl.B_places, runFn, evSs, ev_var, ev_int, ev_bl, ev_non, ev_str, ev_glob, ev_bin, ev_neg, ev_not, ev_and, ev_or, ev_cmp, ev_chain, ev_isn, ev_isb, ev_ite, ev_tup, ev_lst, ev_idx, ev_slice, ev_call, ev_blt, ev_inst, ev_meth, ev_comp, evL_nil, evL_cons, evAnd_1, evOr_1, evAnd_cons, evOr_cons, evS_set, evS_par, evS_unp, evS_sub, evS_subs, evS_aug, evS_ex, evS_ret, evS_ite, evS_whl, evS_for, evS_brk, evS_pass, itE, pIter, srcOf, chk_nil, compEnd, evAnd1, evSub, evLT, evSubs, R.bind, R.thn, RS.turn, PR.fin, asB, kRef, kNeg, kNot, kIsn, kIsb, kTup, kInst, kSet, kPar, kPut, kAug, kSubs, isNon_non, isNon_bl, isNon_int, isNon_str, isNon_tup, isNon_lst, isNon_klst, isNon_ref, isT_non_int, isT_non_bool, isT_non_tuple, isT_non_list, isT_non_str, isT_non_tuple_list, isT_non_list_tuple, isT_bl_int, isT_bl_bool, isT_bl_tuple, isT_bl_list, isT_bl_str, isT_bl_tuple_list, isT_bl_list_tuple, isT_int_int, isT_int_bool, isT_int_tuple, isT_int_list, isT_int_str, isT_int_tuple_list, isT_int_list_tuple, isT_str_int, isT_str_bool, isT_str_tuple, isT_str_list, isT_str_str, isT_str_tuple_list, isT_str_list_tuple, isT_tup_int, isT_tup_bool, isT_tup_tuple, isT_tup_list, isT_tup_str, isT_tup_tuple_list, isT_tup_list_tuple, isT_lst_int, isT_lst_bool, isT_lst_tuple, isT_lst_list, isT_lst_str, isT_lst_tuple_list, isT_lst_list_tuple, isT_klst_int, isT_klst_bool, isT_klst_tuple, isT_klst_list, isT_klst_str, isT_klst_tuple_list, isT_klst_list_tuple, isT_ref_int, isT_ref_bool, isT_ref_tuple, isT_ref_list, isT_ref_str, isT_ref_tuple_list, isT_ref_list_tuple, cmp_eqI, cmp_neI, cmp_ltI, cmp_leI, cmp_gtI, cmp_geI, cmp_eqB, cmp_neB, idx_hand0, set_hand0, idx_hand1, set_hand1, idx_hand2, set_hand2, idx_hand3, set_hand3, idx_hand4, set_hand4, pBin, idx_tup0, idx_tup1, idx_tup2, idx_tup3, idx_tup4, idx_tup5, idx_tup6, idx_tup7, Int.cast_ofNat_Int, blt_abs, blt_int, blt_intB, blt_len_tup, blt_len_lst, blt_len_klst, blt_tuple_tup, blt_tuple_lst, blt_list_tup, blt_list_lst, blt_sum, blt_all_lst, blt_any_lst, blt_max2, blt_min2, intsD, boolsD, List.length_map, items, place, put, putL, wipe, Tg.names, Tg.namesL, deref, List.map_cons, List.map_nil, List.length_cons, List.length_nil, List.getElem?_cons_zero, List.getElem?_cons_succ, List.getElem?_nil, List.getElem?_append, List.set_cons_zero, List.set_cons_succ, List.set_nil, List.cons_append, List.nil_append, List.append_nil, List.replicate_succ, List.replicate_zero, Nat.sub_self, Nat.add_sub_cancel, Option.map_some, Option.map_none, Option.bind_some, Option.bind_none, Option.some.injEq, if_true, if_false, ite_true, ite_false, Bool.false_eq_true, reduceCtorEq, Nat.reduceSub, Nat.reduceAdd, Nat.reduceLT, Nat.reduceLeDiff, Nat.reduceEqDiff, Nat.reduceMul, Int.reduceLT, Int.reduceLE, Int.reduceEq, Int.reduceNe, Int.reducePow, Int.reduceToNat, Int.reduceNeg, Int.reduceNegSucc, Nat.zero_add, Int.reduceAdd, Int.reduceSub, Int.reduceMul, not_true_eq_false, not_false_eq_true, Nat.lt_irrefl, Nat.zero_le, Nat.zero_lt_succ, Nat.succ_sub_succ_eq_sub, Nat.reduceSucc, bne_tt, bne_tf, bne_ft, Bool.not_true, Bool.not_false, Bool.true_and, Bool.false_and, Bool.and_true, Bool.and_false, Bool.or_true, Bool.or_false, Bool.true_or, Bool.false_or, bne_self_eq_false, beq_self_eq_true, cp, c0, decide_false, f1, f2]
end
end Pi

set_option Elab.async false
set_option linter.all false
set_option maxRecDepth 100000
namespace Pi
open PySem
/-- the row with its first number above 0 -/
def canF (zs : List Int) : List Int := if (can zs).headD 0 < 0 then (can zs).map (- ·) else can zs
def cz (x y q : Rat) : List Int := canF (wrow [1, (-2) * x, (-2) * y, x * x + y * y - q])
/-- the circle around x, y with the square q of its width -/
def circ (x y q : Rat) : D := ro (cz x y q)
theorem neg_map (zs : List Int) : zs.map (- ·) = zs.map ((-1) * ·) := List.map_congr_left fun z _ => by omega
theorem can_neg {zs : List Int} (h : gcdL zs ≠ 0) : can (zs.map (- ·)) = can zs := by
  rw [neg_map]
  exact can_mul (by decide) zs h
theorem len4 {l : List Int} (h : l.length = 4) : ∃ a b c d, l = [a, b, c, d] := by
  match l, h with
  | [a, b, c, d], _ => exact ⟨a, b, c, d, rfl⟩
theorem row4 {K : Nat} (p q r : Rat) (hp : Bq K p) (hq : Bq K q) (hr : Bq K r) : ∃ a b c d : Int, canF (wrow [1, p, q, r]) = [a, b, c, d] ∧ 0 < a ∧ (b : Rat) = a * p ∧ (c : Rat) = a * q ∧ (d : Rat) = a * r ∧ gcdL [a, b, c, d] ≠ 0 ∧
    (can [a, b, c, d] = [a, b, c, d] ∨ (can [a, b, c, d]).map (- ·) = [a, b, c, d]) ∧ Bi (5 * K + 5) a ∧ Bi (5 * K + 5) b ∧ Bi (5 * K + 5) c ∧ Bi (5 * K + 5) d := by
  have nz : gcdL (wz [1, p, q, r]) ≠ 0 := wz_nz ⟨1, by simp, by decide⟩
  have e := can_back nz
  have cc := can_can nz
  have cn := can_nz nz
  have sn := sgcd_ne nz
  generalize hd : sgcd (wz [1, p, q, r]) = g at e sn
  obtain ⟨u, v, w, t, hw⟩ : ∃ u v w t, wz [1, p, q, r] = [u, v, w, t] := ⟨_, _, _, _, rfl⟩
  obtain ⟨a, b, c, d, hc⟩ := len4 (l := can (wz [1, p, q, r])) (by rw [can_length, hw]; rfl)
  rw [hc, hw] at e
  rw [hc] at cc cn
  simp only [List.map_cons, List.map_nil, List.cons.injEq, and_true] at e
  obtain ⟨e1, e2, e3, e4⟩ := e
  have z1 := wz_at (qs := [1, p, q, r]) 1 (by simp)
  have z2 := wz_at (qs := [1, p, q, r]) p (by simp)
  have z3 := wz_at (qs := [1, p, q, r]) q (by simp)
  have z4 := wz_at (qs := [1, p, q, r]) r (by simp)
  have hL0 : lcmL [1, p, q, r] ≠ 0 := (lcm_fold [1, p, q, r] 1).2.2 (by decide)
  have Lb : lcmL [1, p, q, r] < 2 ^ (1 + (K + 1) * 4) := lcm_bound [1, p, q, r] 1 1 (by decide) fun z hz => by
    simp only [List.mem_cons, List.not_mem_nil, or_false] at hz
    rcases hz with rfl | rfl | rfl | rfl
    · exact Nat.lt_of_lt_of_le (show 1 < 2 ^ 1 by decide) (two_pow_le (by omega))
    · exact (hp.mono (Nat.le_succ K)).den
    · exact (hq.mono (Nat.le_succ K)).den
    · exact (hr.mono (Nat.le_succ K)).den
  simp only [wz, List.map_cons, List.map_nil, List.cons.injEq, and_true] at hw
  obtain ⟨w1, w2, w3, w4⟩ := hw
  rw [w1] at z1
  rw [w2] at z2
  rw [w3] at z3
  rw [w4] at z4
  have upos : u = lcmL [1, p, q, r] := by rw [← w1]; simp
  have a0 : a ≠ 0 := by
    intro z
    rw [z, Int.mul_zero] at e1
    omega
  have gr : (g : Rat) ≠ 0 := fun z => sn (Rat.intCast_inj.mp (z.trans rfl))
  have q1 : (u : Rat) = g * a := by rw [e1, Rat.intCast_mul]
  have q2 : (v : Rat) = g * b := by rw [e2, Rat.intCast_mul]
  have q3 : (w : Rat) = g * c := by rw [e3, Rat.intCast_mul]
  have q4 : (t : Rat) = g * d := by rw [e4, Rat.intCast_mul]
  have rl : (lcmL [1, p, q, r] : Rat) = g * a := by rw [← q1, z1]; grind
  have f2 : (b : Rat) = a * p := by grind
  have f3 : (c : Rat) = a * q := by grind
  have f4 : (d : Rat) = a * r := by grind
  have le : ∀ {t m : Int}, t = g * m → m.natAbs ≤ t.natAbs := fun {t m} h => by
    rw [h, Int.natAbs_mul]
    exact Nat.le_mul_of_pos_left _ (by omega)
  have bd : ∀ {z : Rat} {m t : Int} {D : Nat}, z.num.natAbs < 2 ^ K → z.num * ((lcmL [1, p, q, r] / D : Nat) : Int) = t → t = g * m → m.natAbs < 2 ^ (5 * K + 5) := fun {z m t D} h1 h2 h3 => by
    refine Nat.lt_of_le_of_lt (le h3) ?_
    rw [← h2, Int.natAbs_mul, Int.natAbs_natCast, show 5 * K + 5 = K + (1 + (K + 1) * 4) by omega]
    exact lt_mul_pow h1 (Nat.lt_of_le_of_lt (Nat.div_le_self _ _) Lb)
  have ba : a.natAbs < 2 ^ (5 * K + 5) := by
    refine Nat.lt_of_le_of_lt (le e1) ?_
    rw [upos, Int.natAbs_natCast]
    exact Nat.lt_of_lt_of_le Lb (two_pow_le (by omega))
  have bb := bd hp.num w2 e2
  have bc := bd hq.num w3 e3
  have bd' := bd hr.num w4 e4
  have hw' : wrow [1, p, q, r] = [a, b, c, d] := hc
  have hcan : can (wrow [1, p, q, r]) = [a, b, c, d] := by rw [hw']; exact cc
  by_cases hs : a < 0
  · refine ⟨-a, -b, -c, -d, ?_, by omega, ?_, ?_, ?_, ?_, .inr ?_, ⟨by simpa using ba⟩, ⟨by simpa using bb⟩, ⟨by simpa using bc⟩, ⟨by simpa using bd'⟩⟩
    · unfold canF
      rw [hcan]
      simp [hs]
    · rw [Rat.intCast_neg, Rat.intCast_neg]; grind
    · rw [Rat.intCast_neg, Rat.intCast_neg]; grind
    · rw [Rat.intCast_neg, Rat.intCast_neg]; grind
    · have := gcdL_mul (-1) [a, b, c, d]
      rw [← neg_map] at this
      intro z
      have e : [a, b, c, d].map (- ·) = [-a, -b, -c, -d] := rfl
      rw [e, z, show (-1 : Int).natAbs = 1 from rfl, Nat.one_mul] at this
      exact cn this.symm
    · have e : [a, b, c, d].map (- ·) = [-a, -b, -c, -d] := rfl
      rw [← e, can_neg cn, cc]
  · refine ⟨a, b, c, d, ?_, by omega, f2, f3, f4, cn, .inl cc, ⟨ba⟩, ⟨bb⟩, ⟨bc⟩, ⟨bd'⟩⟩
    unfold canF
    rw [hcan]
    simp [hs]
section
variable {P : Prog} {s : Store}
theorem neg_comp {n : Nat} {ρ : Env} {i : Nat} (hi : i < ρ.length) (zs : List Int) (hl : zs.length ≤ 1000) (h : ρ.length ≤ 100) : compL (fun _ => true) (compStep P.G (run P n) (.neg (.var i)) (.n i) [] ρ) (zs.map .int) [] s = .ok ((zs.map (- ·)).map .int) s := by
  have stepM : ∀ x ∈ zs.map D.int, compStep P.G (run P n) (.neg (.var i)) (.n i) [] ρ x s = .ok (some (match x with | .int z => .int (-z) | d => d)) s := by
    intro x hx
    obtain ⟨z, _, rfl⟩ := List.mem_map.mp hx
    have e : put (.n i) (.int z) (wipe ρ (Tg.n i).names) = some ((ρ.set i none).set i (some (.int z))) := by
      simp only [put, Tg.names, wipe, List.length_set, hi, if_true]
    have g : ((ρ.set i none).set i (some (D.int z)))[i]? = some (some (.int z)) := by
      rw [List.getElem?_set_self (by simpa using hi)]
    simp only [compStep, e, evAnd1, ev_neg, ev_var, g, R.bind, kNeg]
  have cm := comp_map (zs.map D.int) [] stepM (by simp; omega)
  rw [cm, List.nil_append, List.map_map, List.map_map]
  rfl
theorem idx_ro0 {zs : List Int} {z : Int} (h : zs.head? = some z) : pIdx s (ro zs) (.int 0) = .val (.int z) := by
  cases zs with
  | nil => cases h
  | cons a l => cases h; exact idx_tup0
theorem run_first_above {n : Nat} (h : Has P Pl.Q_first_above) {zs : List Int} {z : Int} (h0 : (can zs).head? = some z) (hz : ∀ z ∈ zs, z.natAbs < dmax) (hl : zs.length ≤ 1000) : run P (n + 3) 251 [ro zs] s = .ok (ro (canF zs)) s := by
  have h1 : Has P Pl.Q_lowest := h.sub (by decide)
  have lo := run_lowest (n := n) (s := s) h1 (d := ro zs) (zs := zs) (.inl rfl) hz hl
  rw [has_run (F := Pl.F_first_above) h (by decide) rfl]
  have nc := neg_comp (P := P) (s := s) (n := n + 2) (ρ := [some (ro zs), some (ro (can zs)), none]) (i := 2) (by simp) (can zs) (by rw [can_length]; exact hl) (by simp)
  have i0 := fun s => idx_ro0 (s := s) h0
  have hd : (can zs).headD 0 = z := by
    cases hc : can zs with
    | nil => rw [hc] at h0; cases h0
    | cons a l => rw [hc] at h0; cases h0; rfl
  have lz : (can zs).length ≤ 100000 := by rw [can_length]; omega
  unfold canF
  rw [hd]
  by_cases hn : z < 0
  · simp only [Pl.F_first_above, Pl.B_first_above, runFn, evSs, ev_var, ev_int, ev_bl, ev_non, ev_str, ev_glob, ev_bin, ev_neg, ev_not, ev_and, ev_or, ev_cmp, ev_chain, ev_isn, ev_isb, ev_ite, ev_tup, ev_lst, ev_idx, ev_slice, ev_call, ev_blt, ev_inst, ev_meth, ev_comp, evL_nil, evL_cons, evAnd_1, evOr_1, evAnd_cons, evOr_cons, evS_set, evS_par, evS_unp, evS_sub, evS_subs, evS_aug, evS_ex, evS_ret, evS_ite, evS_whl, evS_for, evS_brk, evS_pass, itE, pIter, chk_nil, compEnd, evAnd1, evSub, evLT, evSubs, R.bind, R.thn, RS.turn, PR.fin, asB, kRef, kNeg, kNot, kIsn, kIsb, kTup, kInst, kSet, kPar, kPut, kAug, kSubs, isNon_non, isNon_bl, isNon_int, isNon_str, isNon_tup, isNon_lst, isNon_klst, isNon_ref, isT_non_int, isT_non_bool, isT_non_tuple, isT_non_list, isT_non_str, isT_non_tuple_list, isT_non_list_tuple, isT_bl_int, isT_bl_bool, isT_bl_tuple, isT_bl_list, isT_bl_str, isT_bl_tuple_list, isT_bl_list_tuple, isT_int_int, isT_int_bool, isT_int_tuple, isT_int_list, isT_int_str, isT_int_tuple_list, isT_int_list_tuple, isT_str_int, isT_str_bool, isT_str_tuple, isT_str_list, isT_str_str, isT_str_tuple_list, isT_str_list_tuple, isT_tup_int, isT_tup_bool, isT_tup_tuple, isT_tup_list, isT_tup_str, isT_tup_tuple_list, isT_tup_list_tuple, isT_lst_int, isT_lst_bool, isT_lst_tuple, isT_lst_list, isT_lst_str, isT_lst_tuple_list, isT_lst_list_tuple, isT_klst_int, isT_klst_bool, isT_klst_tuple, isT_klst_list, isT_klst_str, isT_klst_tuple_list, isT_klst_list_tuple, isT_ref_int, isT_ref_bool, isT_ref_tuple, isT_ref_list, isT_ref_str, isT_ref_tuple_list, isT_ref_list_tuple, cmp_eqI, cmp_neI, cmp_ltI, cmp_leI, cmp_gtI, cmp_geI, cmp_eqB, cmp_neB, idx_hand0, set_hand0, idx_hand1, set_hand1, idx_hand2, set_hand2, idx_hand3, set_hand3, idx_hand4, set_hand4, pBin, idx_tup0, idx_tup1, idx_tup2, idx_tup3, idx_tup4, idx_tup5, idx_tup6, idx_tup7, Int.cast_ofNat_Int, blt_abs, blt_int, blt_intB, blt_len_tup, blt_len_lst, blt_len_klst, blt_tuple_tup, blt_tuple_lst, blt_list_tup, blt_list_lst, blt_sum, blt_all_lst, blt_any_lst, blt_max2, blt_min2, intsD, boolsD, List.length_map, items, place, put, putL, wipe, Tg.names, Tg.namesL, deref, List.map_cons, List.map_nil, List.length_cons, List.length_nil, List.getElem?_cons_zero, List.getElem?_cons_succ, List.getElem?_nil, List.getElem?_append, List.set_cons_zero, List.set_cons_succ, List.set_nil, List.cons_append, List.nil_append, List.append_nil, List.replicate_succ, List.replicate_zero, Nat.sub_self, Nat.add_sub_cancel, Option.map_some, Option.map_none, Option.bind_some, Option.bind_none, Option.some.injEq, if_true, if_false, ite_true, ite_false, Bool.false_eq_true, reduceCtorEq, Nat.reduceSub, Nat.reduceAdd, Nat.reduceLT, Nat.reduceLeDiff, Nat.reduceEqDiff, Nat.reduceMul, Int.reduceLT, Int.reduceLE, Int.reduceEq, Int.reduceNe, Int.reducePow, Int.reduceToNat, Int.reduceNeg, Int.reduceNegSucc, Nat.zero_add, Int.reduceAdd, Int.reduceSub, Int.reduceMul, not_true_eq_false, not_false_eq_true, Nat.lt_irrefl, Nat.zero_le, Nat.zero_lt_succ, Nat.succ_sub_succ_eq_sub, Nat.reduceSucc, bne_tt, bne_tf, bne_ft, Bool.not_true, Bool.not_false, Bool.true_and, Bool.false_and, Bool.and_true, Bool.and_false, Bool.or_true, Bool.or_false, Bool.true_or, Bool.false_or, bne_self_eq_false, beq_self_eq_true, lo, i0, hn, decide_true]
    unfold ro at nc ⊢
    simp only [runFn, evSs, ev_var, ev_int, ev_bl, ev_non, ev_str, ev_glob, ev_bin, ev_neg, ev_not, ev_and, ev_or, ev_cmp, ev_chain, ev_isn, ev_isb, ev_ite, ev_tup, ev_lst, ev_idx, ev_slice, ev_call, ev_blt, ev_inst, ev_meth, ev_comp, evL_nil, evL_cons, evAnd_1, evOr_1, evAnd_cons, evOr_cons, evS_set, evS_par, evS_unp, evS_sub, evS_subs, evS_aug, evS_ex, evS_ret, evS_ite, evS_whl, evS_for, evS_brk, evS_pass, itE, pIter, srcOf, chk_nil, compEnd, evAnd1, evSub, evLT, evSubs, R.bind, R.thn, RS.turn, PR.fin, asB, kRef, kNeg, kNot, kIsn, kIsb, kTup, kInst, kSet, kPar, kPut, kAug, kSubs, isNon_non, isNon_bl, isNon_int, isNon_str, isNon_tup, isNon_lst, isNon_klst, isNon_ref, isT_non_int, isT_non_bool, isT_non_tuple, isT_non_list, isT_non_str, isT_non_tuple_list, isT_non_list_tuple, isT_bl_int, isT_bl_bool, isT_bl_tuple, isT_bl_list, isT_bl_str, isT_bl_tuple_list, isT_bl_list_tuple, isT_int_int, isT_int_bool, isT_int_tuple, isT_int_list, isT_int_str, isT_int_tuple_list, isT_int_list_tuple, isT_str_int, isT_str_bool, isT_str_tuple, isT_str_list, isT_str_str, isT_str_tuple_list, isT_str_list_tuple, isT_tup_int, isT_tup_bool, isT_tup_tuple, isT_tup_list, isT_tup_str, isT_tup_tuple_list, isT_tup_list_tuple, isT_lst_int, isT_lst_bool, isT_lst_tuple, isT_lst_list, isT_lst_str, isT_lst_tuple_list, isT_lst_list_tuple, isT_klst_int, isT_klst_bool, isT_klst_tuple, isT_klst_list, isT_klst_str, isT_klst_tuple_list, isT_klst_list_tuple, isT_ref_int, isT_ref_bool, isT_ref_tuple, isT_ref_list, isT_ref_str, isT_ref_tuple_list, isT_ref_list_tuple, cmp_eqI, cmp_neI, cmp_ltI, cmp_leI, cmp_gtI, cmp_geI, cmp_eqB, cmp_neB, idx_hand0, set_hand0, idx_hand1, set_hand1, idx_hand2, set_hand2, idx_hand3, set_hand3, idx_hand4, set_hand4, pBin, idx_tup0, idx_tup1, idx_tup2, idx_tup3, idx_tup4, idx_tup5, idx_tup6, idx_tup7, Int.cast_ofNat_Int, blt_abs, blt_int, blt_intB, blt_len_tup, blt_len_lst, blt_len_klst, blt_tuple_tup, blt_tuple_lst, blt_list_tup, blt_list_lst, blt_sum, blt_all_lst, blt_any_lst, blt_max2, blt_min2, intsD, boolsD, List.length_map, items, place, put, putL, wipe, Tg.names, Tg.namesL, deref, List.map_cons, List.map_nil, List.length_cons, List.length_nil, List.getElem?_cons_zero, List.getElem?_cons_succ, List.getElem?_nil, List.getElem?_append, List.set_cons_zero, List.set_cons_succ, List.set_nil, List.cons_append, List.nil_append, List.append_nil, List.replicate_succ, List.replicate_zero, Nat.sub_self, Nat.add_sub_cancel, Option.map_some, Option.map_none, Option.bind_some, Option.bind_none, Option.some.injEq, if_true, if_false, ite_true, ite_false, Bool.false_eq_true, reduceCtorEq, Nat.reduceSub, Nat.reduceAdd, Nat.reduceLT, Nat.reduceLeDiff, Nat.reduceEqDiff, Nat.reduceMul, Int.reduceLT, Int.reduceLE, Int.reduceEq, Int.reduceNe, Int.reducePow, Int.reduceToNat, Int.reduceNeg, Int.reduceNegSucc, Nat.zero_add, Int.reduceAdd, Int.reduceSub, Int.reduceMul, not_true_eq_false, not_false_eq_true, Nat.lt_irrefl, Nat.zero_le, Nat.zero_lt_succ, Nat.succ_sub_succ_eq_sub, Nat.reduceSucc, bne_tt, bne_tf, bne_ft, Bool.not_true, Bool.not_false, Bool.true_and, Bool.false_and, Bool.and_true, Bool.and_false, Bool.or_true, Bool.or_false, Bool.true_or, Bool.false_or, bne_self_eq_false, beq_self_eq_true, nc, lz]
  · simp only [Pl.F_first_above, Pl.B_first_above, runFn, evSs, ev_var, ev_int, ev_bl, ev_non, ev_str, ev_glob, ev_bin, ev_neg, ev_not, ev_and, ev_or, ev_cmp, ev_chain, ev_isn, ev_isb, ev_ite, ev_tup, ev_lst, ev_idx, ev_slice, ev_call, ev_blt, ev_inst, ev_meth, ev_comp, evL_nil, evL_cons, evAnd_1, evOr_1, evAnd_cons, evOr_cons, evS_set, evS_par, evS_unp, evS_sub, evS_subs, evS_aug, evS_ex, evS_ret, evS_ite, evS_whl, evS_for, evS_brk, evS_pass, itE, pIter, chk_nil, compEnd, evAnd1, evSub, evLT, evSubs, R.bind, R.thn, RS.turn, PR.fin, asB, kRef, kNeg, kNot, kIsn, kIsb, kTup, kInst, kSet, kPar, kPut, kAug, kSubs, isNon_non, isNon_bl, isNon_int, isNon_str, isNon_tup, isNon_lst, isNon_klst, isNon_ref, isT_non_int, isT_non_bool, isT_non_tuple, isT_non_list, isT_non_str, isT_non_tuple_list, isT_non_list_tuple, isT_bl_int, isT_bl_bool, isT_bl_tuple, isT_bl_list, isT_bl_str, isT_bl_tuple_list, isT_bl_list_tuple, isT_int_int, isT_int_bool, isT_int_tuple, isT_int_list, isT_int_str, isT_int_tuple_list, isT_int_list_tuple, isT_str_int, isT_str_bool, isT_str_tuple, isT_str_list, isT_str_str, isT_str_tuple_list, isT_str_list_tuple, isT_tup_int, isT_tup_bool, isT_tup_tuple, isT_tup_list, isT_tup_str, isT_tup_tuple_list, isT_tup_list_tuple, isT_lst_int, isT_lst_bool, isT_lst_tuple, isT_lst_list, isT_lst_str, isT_lst_tuple_list, isT_lst_list_tuple, isT_klst_int, isT_klst_bool, isT_klst_tuple, isT_klst_list, isT_klst_str, isT_klst_tuple_list, isT_klst_list_tuple, isT_ref_int, isT_ref_bool, isT_ref_tuple, isT_ref_list, isT_ref_str, isT_ref_tuple_list, isT_ref_list_tuple, cmp_eqI, cmp_neI, cmp_ltI, cmp_leI, cmp_gtI, cmp_geI, cmp_eqB, cmp_neB, idx_hand0, set_hand0, idx_hand1, set_hand1, idx_hand2, set_hand2, idx_hand3, set_hand3, idx_hand4, set_hand4, pBin, idx_tup0, idx_tup1, idx_tup2, idx_tup3, idx_tup4, idx_tup5, idx_tup6, idx_tup7, Int.cast_ofNat_Int, blt_abs, blt_int, blt_intB, blt_len_tup, blt_len_lst, blt_len_klst, blt_tuple_tup, blt_tuple_lst, blt_list_tup, blt_list_lst, blt_sum, blt_all_lst, blt_any_lst, blt_max2, blt_min2, intsD, boolsD, List.length_map, items, place, put, putL, wipe, Tg.names, Tg.namesL, deref, List.map_cons, List.map_nil, List.length_cons, List.length_nil, List.getElem?_cons_zero, List.getElem?_cons_succ, List.getElem?_nil, List.getElem?_append, List.set_cons_zero, List.set_cons_succ, List.set_nil, List.cons_append, List.nil_append, List.append_nil, List.replicate_succ, List.replicate_zero, Nat.sub_self, Nat.add_sub_cancel, Option.map_some, Option.map_none, Option.bind_some, Option.bind_none, Option.some.injEq, if_true, if_false, ite_true, ite_false, Bool.false_eq_true, reduceCtorEq, Nat.reduceSub, Nat.reduceAdd, Nat.reduceLT, Nat.reduceLeDiff, Nat.reduceEqDiff, Nat.reduceMul, Int.reduceLT, Int.reduceLE, Int.reduceEq, Int.reduceNe, Int.reducePow, Int.reduceToNat, Int.reduceNeg, Int.reduceNegSucc, Nat.zero_add, Int.reduceAdd, Int.reduceSub, Int.reduceMul, not_true_eq_false, not_false_eq_true, Nat.lt_irrefl, Nat.zero_le, Nat.zero_lt_succ, Nat.succ_sub_succ_eq_sub, Nat.reduceSucc, bne_tt, bne_tf, bne_ft, Bool.not_true, Bool.not_false, Bool.true_and, Bool.false_and, Bool.and_true, Bool.and_false, Bool.or_true, Bool.or_false, Bool.true_or, Bool.false_or, bne_self_eq_false, beq_self_eq_true, lo, i0, hn, decide_false]
theorem run_is_low {n : Nat} (h : Has P Pl.Q_is_low) {zs : List Int} (h0 : can zs = zs ∨ (can zs).map (- ·) = zs) (hz : ∀ z ∈ zs, z.natAbs < dmax) (hl : zs.length ≤ 1000) : run P (n + 3) 255 [ro zs] s = .ok (.bl true) s := by
  have h1 : Has P Pl.Q_lowest := h.sub (by decide)
  have lo := run_lowest (n := n) (s := s) h1 (d := ro zs) (zs := zs) (.inl rfl) hz hl
  rw [has_run (F := Pl.F_is_low) h (by decide) rfl]
  have nc := neg_comp (P := P) (s := s) (n := n + 2) (ρ := [some (ro zs), some (ro (can zs)), none]) (i := 2) (by simp) (can zs) (by rw [can_length]; exact hl) (by simp)
  have lz : (can zs).length ≤ 100000 := by rw [can_length]; omega
  by_cases hc : can zs = zs
  · simp only [Pl.F_is_low, Pl.B_is_low, runFn, evSs, ev_var, ev_int, ev_bl, ev_non, ev_str, ev_glob, ev_bin, ev_neg, ev_not, ev_and, ev_or, ev_cmp, ev_chain, ev_isn, ev_isb, ev_ite, ev_tup, ev_lst, ev_idx, ev_slice, ev_call, ev_blt, ev_inst, ev_meth, ev_comp, evL_nil, evL_cons, evAnd_1, evOr_1, evAnd_cons, evOr_cons, evS_set, evS_par, evS_unp, evS_sub, evS_subs, evS_aug, evS_ex, evS_ret, evS_ite, evS_whl, evS_for, evS_brk, evS_pass, itE, pIter, chk_nil, compEnd, evAnd1, evSub, evLT, evSubs, R.bind, R.thn, RS.turn, PR.fin, asB, kRef, kNeg, kNot, kIsn, kIsb, kTup, kInst, kSet, kPar, kPut, kAug, kSubs, isNon_non, isNon_bl, isNon_int, isNon_str, isNon_tup, isNon_lst, isNon_klst, isNon_ref, isT_non_int, isT_non_bool, isT_non_tuple, isT_non_list, isT_non_str, isT_non_tuple_list, isT_non_list_tuple, isT_bl_int, isT_bl_bool, isT_bl_tuple, isT_bl_list, isT_bl_str, isT_bl_tuple_list, isT_bl_list_tuple, isT_int_int, isT_int_bool, isT_int_tuple, isT_int_list, isT_int_str, isT_int_tuple_list, isT_int_list_tuple, isT_str_int, isT_str_bool, isT_str_tuple, isT_str_list, isT_str_str, isT_str_tuple_list, isT_str_list_tuple, isT_tup_int, isT_tup_bool, isT_tup_tuple, isT_tup_list, isT_tup_str, isT_tup_tuple_list, isT_tup_list_tuple, isT_lst_int, isT_lst_bool, isT_lst_tuple, isT_lst_list, isT_lst_str, isT_lst_tuple_list, isT_lst_list_tuple, isT_klst_int, isT_klst_bool, isT_klst_tuple, isT_klst_list, isT_klst_str, isT_klst_tuple_list, isT_klst_list_tuple, isT_ref_int, isT_ref_bool, isT_ref_tuple, isT_ref_list, isT_ref_str, isT_ref_tuple_list, isT_ref_list_tuple, cmp_eqI, cmp_neI, cmp_ltI, cmp_leI, cmp_gtI, cmp_geI, cmp_eqB, cmp_neB, idx_hand0, set_hand0, idx_hand1, set_hand1, idx_hand2, set_hand2, idx_hand3, set_hand3, idx_hand4, set_hand4, pBin, idx_tup0, idx_tup1, idx_tup2, idx_tup3, idx_tup4, idx_tup5, idx_tup6, idx_tup7, Int.cast_ofNat_Int, blt_abs, blt_int, blt_intB, blt_len_tup, blt_len_lst, blt_len_klst, blt_tuple_tup, blt_tuple_lst, blt_list_tup, blt_list_lst, blt_sum, blt_all_lst, blt_any_lst, blt_max2, blt_min2, intsD, boolsD, List.length_map, items, place, put, putL, wipe, Tg.names, Tg.namesL, deref, List.map_cons, List.map_nil, List.length_cons, List.length_nil, List.getElem?_cons_zero, List.getElem?_cons_succ, List.getElem?_nil, List.getElem?_append, List.set_cons_zero, List.set_cons_succ, List.set_nil, List.cons_append, List.nil_append, List.append_nil, List.replicate_succ, List.replicate_zero, Nat.sub_self, Nat.add_sub_cancel, Option.map_some, Option.map_none, Option.bind_some, Option.bind_none, Option.some.injEq, if_true, if_false, ite_true, ite_false, Bool.false_eq_true, reduceCtorEq, Nat.reduceSub, Nat.reduceAdd, Nat.reduceLT, Nat.reduceLeDiff, Nat.reduceEqDiff, Nat.reduceMul, Int.reduceLT, Int.reduceLE, Int.reduceEq, Int.reduceNe, Int.reducePow, Int.reduceToNat, Int.reduceNeg, Int.reduceNegSucc, Nat.zero_add, Int.reduceAdd, Int.reduceSub, Int.reduceMul, not_true_eq_false, not_false_eq_true, Nat.lt_irrefl, Nat.zero_le, Nat.zero_lt_succ, Nat.succ_sub_succ_eq_sub, Nat.reduceSucc, bne_tt, bne_tf, bne_ft, Bool.not_true, Bool.not_false, Bool.true_and, Bool.false_and, Bool.and_true, Bool.and_false, Bool.or_true, Bool.or_false, Bool.true_or, Bool.false_or, bne_self_eq_false, beq_self_eq_true, lo, hc, cmp_eqR, decide_true]
  · have h2 := h0.resolve_left hc
    have fold : D.tup (zs.map .int) = ro zs := rfl
    have lz2 : zs.length ≤ 100000 := by omega
    simp only [Pl.F_is_low, Pl.B_is_low, runFn, evSs, ev_var, ev_int, ev_bl, ev_non, ev_str, ev_glob, ev_bin, ev_neg, ev_not, ev_and, ev_or, ev_cmp, ev_chain, ev_isn, ev_isb, ev_ite, ev_tup, ev_lst, ev_idx, ev_slice, ev_call, ev_blt, ev_inst, ev_meth, ev_comp, evL_nil, evL_cons, evAnd_1, evOr_1, evAnd_cons, evOr_cons, evS_set, evS_par, evS_unp, evS_sub, evS_subs, evS_aug, evS_ex, evS_ret, evS_ite, evS_whl, evS_for, evS_brk, evS_pass, itE, pIter, chk_nil, compEnd, evAnd1, evSub, evLT, evSubs, R.bind, R.thn, RS.turn, PR.fin, asB, kRef, kNeg, kNot, kIsn, kIsb, kTup, kInst, kSet, kPar, kPut, kAug, kSubs, isNon_non, isNon_bl, isNon_int, isNon_str, isNon_tup, isNon_lst, isNon_klst, isNon_ref, isT_non_int, isT_non_bool, isT_non_tuple, isT_non_list, isT_non_str, isT_non_tuple_list, isT_non_list_tuple, isT_bl_int, isT_bl_bool, isT_bl_tuple, isT_bl_list, isT_bl_str, isT_bl_tuple_list, isT_bl_list_tuple, isT_int_int, isT_int_bool, isT_int_tuple, isT_int_list, isT_int_str, isT_int_tuple_list, isT_int_list_tuple, isT_str_int, isT_str_bool, isT_str_tuple, isT_str_list, isT_str_str, isT_str_tuple_list, isT_str_list_tuple, isT_tup_int, isT_tup_bool, isT_tup_tuple, isT_tup_list, isT_tup_str, isT_tup_tuple_list, isT_tup_list_tuple, isT_lst_int, isT_lst_bool, isT_lst_tuple, isT_lst_list, isT_lst_str, isT_lst_tuple_list, isT_lst_list_tuple, isT_klst_int, isT_klst_bool, isT_klst_tuple, isT_klst_list, isT_klst_str, isT_klst_tuple_list, isT_klst_list_tuple, isT_ref_int, isT_ref_bool, isT_ref_tuple, isT_ref_list, isT_ref_str, isT_ref_tuple_list, isT_ref_list_tuple, cmp_eqI, cmp_neI, cmp_ltI, cmp_leI, cmp_gtI, cmp_geI, cmp_eqB, cmp_neB, idx_hand0, set_hand0, idx_hand1, set_hand1, idx_hand2, set_hand2, idx_hand3, set_hand3, idx_hand4, set_hand4, pBin, idx_tup0, idx_tup1, idx_tup2, idx_tup3, idx_tup4, idx_tup5, idx_tup6, idx_tup7, Int.cast_ofNat_Int, blt_abs, blt_int, blt_intB, blt_len_tup, blt_len_lst, blt_len_klst, blt_tuple_tup, blt_tuple_lst, blt_list_tup, blt_list_lst, blt_sum, blt_all_lst, blt_any_lst, blt_max2, blt_min2, intsD, boolsD, List.length_map, items, place, put, putL, wipe, Tg.names, Tg.namesL, deref, List.map_cons, List.map_nil, List.length_cons, List.length_nil, List.getElem?_cons_zero, List.getElem?_cons_succ, List.getElem?_nil, List.getElem?_append, List.set_cons_zero, List.set_cons_succ, List.set_nil, List.cons_append, List.nil_append, List.append_nil, List.replicate_succ, List.replicate_zero, Nat.sub_self, Nat.add_sub_cancel, Option.map_some, Option.map_none, Option.bind_some, Option.bind_none, Option.some.injEq, if_true, if_false, ite_true, ite_false, Bool.false_eq_true, reduceCtorEq, Nat.reduceSub, Nat.reduceAdd, Nat.reduceLT, Nat.reduceLeDiff, Nat.reduceEqDiff, Nat.reduceMul, Int.reduceLT, Int.reduceLE, Int.reduceEq, Int.reduceNe, Int.reducePow, Int.reduceToNat, Int.reduceNeg, Int.reduceNegSucc, Nat.zero_add, Int.reduceAdd, Int.reduceSub, Int.reduceMul, not_true_eq_false, not_false_eq_true, Nat.lt_irrefl, Nat.zero_le, Nat.zero_lt_succ, Nat.succ_sub_succ_eq_sub, Nat.reduceSucc, bne_tt, bne_tf, bne_ft, Bool.not_true, Bool.not_false, Bool.true_and, Bool.false_and, Bool.and_true, Bool.and_false, Bool.or_true, Bool.or_false, Bool.true_or, Bool.false_or, bne_self_eq_false, beq_self_eq_true, lo, hc, cmp_eqR, decide_false]
    have sr : srcOf s (ro (can zs)) = some ⟨[], (can zs).map .int⟩ := rfl
    simp only [runFn, evSs, ev_var, ev_int, ev_bl, ev_non, ev_str, ev_glob, ev_bin, ev_neg, ev_not, ev_and, ev_or, ev_cmp, ev_chain, ev_isn, ev_isb, ev_ite, ev_tup, ev_lst, ev_idx, ev_slice, ev_call, ev_blt, ev_inst, ev_meth, ev_comp, evL_nil, evL_cons, evAnd_1, evOr_1, evAnd_cons, evOr_cons, evS_set, evS_par, evS_unp, evS_sub, evS_subs, evS_aug, evS_ex, evS_ret, evS_ite, evS_whl, evS_for, evS_brk, evS_pass, itE, pIter, chk_nil, compEnd, evAnd1, evSub, evLT, evSubs, R.bind, R.thn, RS.turn, PR.fin, asB, kRef, kNeg, kNot, kIsn, kIsb, kTup, kInst, kSet, kPar, kPut, kAug, kSubs, isNon_non, isNon_bl, isNon_int, isNon_str, isNon_tup, isNon_lst, isNon_klst, isNon_ref, isT_non_int, isT_non_bool, isT_non_tuple, isT_non_list, isT_non_str, isT_non_tuple_list, isT_non_list_tuple, isT_bl_int, isT_bl_bool, isT_bl_tuple, isT_bl_list, isT_bl_str, isT_bl_tuple_list, isT_bl_list_tuple, isT_int_int, isT_int_bool, isT_int_tuple, isT_int_list, isT_int_str, isT_int_tuple_list, isT_int_list_tuple, isT_str_int, isT_str_bool, isT_str_tuple, isT_str_list, isT_str_str, isT_str_tuple_list, isT_str_list_tuple, isT_tup_int, isT_tup_bool, isT_tup_tuple, isT_tup_list, isT_tup_str, isT_tup_tuple_list, isT_tup_list_tuple, isT_lst_int, isT_lst_bool, isT_lst_tuple, isT_lst_list, isT_lst_str, isT_lst_tuple_list, isT_lst_list_tuple, isT_klst_int, isT_klst_bool, isT_klst_tuple, isT_klst_list, isT_klst_str, isT_klst_tuple_list, isT_klst_list_tuple, isT_ref_int, isT_ref_bool, isT_ref_tuple, isT_ref_list, isT_ref_str, isT_ref_tuple_list, isT_ref_list_tuple, cmp_eqI, cmp_neI, cmp_ltI, cmp_leI, cmp_gtI, cmp_geI, cmp_eqB, cmp_neB, idx_hand0, set_hand0, idx_hand1, set_hand1, idx_hand2, set_hand2, idx_hand3, set_hand3, idx_hand4, set_hand4, pBin, idx_tup0, idx_tup1, idx_tup2, idx_tup3, idx_tup4, idx_tup5, idx_tup6, idx_tup7, Int.cast_ofNat_Int, blt_abs, blt_int, blt_intB, blt_len_tup, blt_len_lst, blt_len_klst, blt_tuple_tup, blt_tuple_lst, blt_list_tup, blt_list_lst, blt_sum, blt_all_lst, blt_any_lst, blt_max2, blt_min2, intsD, boolsD, List.length_map, items, place, put, putL, wipe, Tg.names, Tg.namesL, deref, List.map_cons, List.map_nil, List.length_cons, List.length_nil, List.getElem?_cons_zero, List.getElem?_cons_succ, List.getElem?_nil, List.getElem?_append, List.set_cons_zero, List.set_cons_succ, List.set_nil, List.cons_append, List.nil_append, List.append_nil, List.replicate_succ, List.replicate_zero, Nat.sub_self, Nat.add_sub_cancel, Option.map_some, Option.map_none, Option.bind_some, Option.bind_none, Option.some.injEq, if_true, if_false, ite_true, ite_false, Bool.false_eq_true, reduceCtorEq, Nat.reduceSub, Nat.reduceAdd, Nat.reduceLT, Nat.reduceLeDiff, Nat.reduceEqDiff, Nat.reduceMul, Int.reduceLT, Int.reduceLE, Int.reduceEq, Int.reduceNe, Int.reducePow, Int.reduceToNat, Int.reduceNeg, Int.reduceNegSucc, Nat.zero_add, Int.reduceAdd, Int.reduceSub, Int.reduceMul, not_true_eq_false, not_false_eq_true, Nat.lt_irrefl, Nat.zero_le, Nat.zero_lt_succ, Nat.succ_sub_succ_eq_sub, Nat.reduceSucc, bne_tt, bne_tf, bne_ft, Bool.not_true, Bool.not_false, Bool.true_and, Bool.false_and, Bool.and_true, Bool.and_false, Bool.or_true, Bool.or_false, Bool.true_or, Bool.false_or, bne_self_eq_false, beq_self_eq_true, sr, nc, h2, lz2, fold, cmp_eqR, decide_true]
end
end Pi

set_option Elab.async false
set_option linter.all false
set_option maxRecDepth 100000
namespace Pi
open PySem
instance : Bi 1 (1 : Int) := ⟨by decide⟩
instance : Bi 2 (2 : Int) := ⟨by decide⟩
instance : Bi 3 (4 : Int) := ⟨by decide⟩
instance : Bq 2 (2 : Rat) := ⟨by decide, by decide⟩
instance : Bq 2 (-2 : Rat) := ⟨by decide, by decide⟩
instance : Bq 3 (4 : Rat) := ⟨by decide, by decide⟩
theorem intQ {a b : Int} (h : (a : Rat) = (b : Rat)) : a = b := Rat.intCast_inj.mp h
theorem posQ {a : Int} (h : (0 : Rat) < (a : Rat)) : 0 < a := Rat.intCast_pos.mp h
theorem circ_row {k : Nat} (x y q : Rat) [bx : Bq k x] [bQ : Bq k y] [bq : Bq k q] : ∃ A B C E : Int, cz x y q = [A, B, C, E] ∧ 0 < A ∧ (B : Rat) = A * (-2 * x) ∧ (C : Rat) = A * (-2 * y) ∧ (E : Rat) = A * (x * x + y * y - q) ∧ gcdL [A, B, C, E] ≠ 0 ∧
    (can [A, B, C, E] = [A, B, C, E] ∨ (can [A, B, C, E]).map (- ·) = [A, B, C, E]) ∧ Bi (25 * k + 25) A ∧ Bi (25 * k + 25) B ∧ Bi (25 * k + 25) C ∧ Bi (25 * k + 25) E := by
  obtain ⟨A, B, C, E, h1, h2, h3, h4, h5, h6, h7, b1, b2, b3, b4⟩ := row4 (K := 5 * k + 4) ((-2) * x) ((-2) * y) (x * x + y * y - q) ((inferInstance : Bq (2 + k) ((-2) * x)).mono (by omega)) ((inferInstance : Bq (2 + k) ((-2) * y)).mono (by omega)) ((inferInstance : Bq (k + k + (k + k) + 1 + k + 1) (x * x + y * y - q)).mono (by omega))
  have up : ∀ {z : Int}, Bi (5 * (5 * k + 4) + 5) z → Bi (25 * k + 25) z := fun {z} b => ⟨by have := b.lt; rwa [show 25 * k + 25 = 5 * (5 * k + 4) + 5 by omega]⟩
  exact ⟨A, B, C, E, h1, h2, h3, h4, h5, h6, h7, up b1, up b2, up b3, up b4⟩
theorem canF_row {R : List Int} {A B C E : Int} (hR : can R = R) (h : canF R = [A, B, C, E]) : R = [A, B, C, E] ∨ R = [-A, -B, -C, -E] := by
  unfold canF at h
  rw [hR] at h
  split at h
  · right
    have := congrArg (List.map (- ·)) h
    rw [List.map_map] at this
    have e : R.map ((fun x : Int => -x) ∘ fun x => -x) = R := by
      have : ∀ z ∈ R, ((fun x : Int => -x) ∘ fun x => -x) z = id z := fun z _ => by simp
      rw [List.map_congr_left this, List.map_id]
    rw [e] at this
    exact this
  · exact .inl h
theorem num_pos {q : Rat} (h : 0 < q) : 0 < q.num := by
  have := (Rat.lt_iff 0 q).mp h
  simpa using this
theorem mulOk_bi {j k : Nat} {a b : Int} (x : Bi j a) (y : Bi k b) (h1 : j ≤ 60000) (h2 : k ≤ 60000) : mulOk a b = true := mulOk_big (big_of x.lt h1) (big_of y.lt h2)
section
variable {P : Prog} {s : Store}
theorem run_is_circle {n k : Nat} (h : Has P Pl.Q_is_circle) (x y q : Rat) [bx : Bq k x] [bQ : Bq k y] [bq : Bq k q] (hk : k ≤ 100) (hq : 0 < q) : run P (n + 4) 256 [circ x y q] s = .ok (.bl true) s := by
  obtain ⟨A, B, C, E, hz, hA, hB, hC, hE, hg, hl, b1, b2, b3, b4⟩ := circ_row x y q
  have d1 : A.natAbs < dmax := dmax_of b1.lt (by omega)
  have d2 : B.natAbs < dmax := dmax_of b2.lt (by omega)
  have d3 : C.natAbs < dmax := dmax_of b3.lt (by omega)
  have d4 : E.natAbs < dmax := dmax_of b4.lt (by omega)
  have ai := run_are_integers (n := n + 1) (s := s) (h.sub (by decide)) [A, B, C, E] (by simp)
  have ai' : run P (n + 3) 134 [ro [A, B, C, E], .int 4] s = .ok (.bl true) s := ai
  have lo := run_is_low (n := n) (s := s) (h.sub (by decide)) (zs := [A, B, C, E]) hl (by simp [d1, d2, d3, d4]) (by simp)
  have m1 := mulOk_bi b2 b2 (by omega) (by omega)
  have m2 := mulOk_bi b3 b3 (by omega) (by omega)
  have m3 : mulOk 4 A = true := mulOkL (by decide)
  have m4 := mulOk_bi (Bi.mul (a := (4 : Int)) (x := inferInstance) (y := b1)) b4 (by omega) (by omega)
  have pos : 0 < B * B + C * C - 4 * A * E := by
    apply posQ
    simp only [Rat.intCast_sub, Rat.intCast_add, Rat.intCast_mul, hB, hC, hE]
    have e : (A : Rat) * (-2 * x) * (A * (-2 * x)) + A * (-2 * y) * (A * (-2 * y)) - ((4 : Int) : Rat) * A * (A * (x * x + y * y - q)) = 4 * (A * A) * q := by
      have : ((4 : Int) : Rat) = 4 := rfl
      rw [this]
      grind
    rw [e]
    have hA' : (0 : Rat) < A := Rat.intCast_pos.mpr hA
    exact Rat.mul_pos (Rat.mul_pos (by decide) (Rat.mul_pos hA' hA')) hq
  have nl : ¬ A ≤ 0 := by omega
  rw [has_run (F := Pl.F_is_circle) h (by decide) rfl]
  unfold circ
  rw [hz]
  have i0 : ∀ s, pIdx s (ro [A, B, C, E]) (.int 0) = .val (.int A) := fun s => idx_tup0
  have i1 : ∀ s, pIdx s (ro [A, B, C, E]) (.int 1) = .val (.int B) := fun s => idx_tup1
  have i2 : ∀ s, pIdx s (ro [A, B, C, E]) (.int 2) = .val (.int C) := fun s => idx_tup2
  have i3 : ∀ s, pIdx s (ro [A, B, C, E]) (.int 3) = .val (.int E) := fun s => idx_tup3
  simp only [Pl.F_is_circle, Pl.B_is_circle, runFn, evSs, ev_var, ev_int, ev_bl, ev_non, ev_str, ev_glob, ev_bin, ev_neg, ev_not, ev_and, ev_or, ev_cmp, ev_chain, ev_isn, ev_isb, ev_ite, ev_tup, ev_lst, ev_idx, ev_slice, ev_call, ev_blt, ev_inst, ev_meth, ev_comp, evL_nil, evL_cons, evAnd_1, evOr_1, evAnd_cons, evOr_cons, evS_set, evS_par, evS_unp, evS_sub, evS_subs, evS_aug, evS_ex, evS_ret, evS_ite, evS_whl, evS_for, evS_brk, evS_pass, itE, pIter, srcOf, chk_nil, compEnd, evAnd1, evSub, evLT, evSubs, R.bind, R.thn, RS.turn, PR.fin, asB, kRef, kNeg, kNot, kIsn, kIsb, kTup, kInst, kSet, kPar, kPut, kAug, kSubs, isNon_non, isNon_bl, isNon_int, isNon_str, isNon_tup, isNon_lst, isNon_klst, isNon_ref, isT_non_int, isT_non_bool, isT_non_tuple, isT_non_list, isT_non_str, isT_non_tuple_list, isT_non_list_tuple, isT_bl_int, isT_bl_bool, isT_bl_tuple, isT_bl_list, isT_bl_str, isT_bl_tuple_list, isT_bl_list_tuple, isT_int_int, isT_int_bool, isT_int_tuple, isT_int_list, isT_int_str, isT_int_tuple_list, isT_int_list_tuple, isT_str_int, isT_str_bool, isT_str_tuple, isT_str_list, isT_str_str, isT_str_tuple_list, isT_str_list_tuple, isT_tup_int, isT_tup_bool, isT_tup_tuple, isT_tup_list, isT_tup_str, isT_tup_tuple_list, isT_tup_list_tuple, isT_lst_int, isT_lst_bool, isT_lst_tuple, isT_lst_list, isT_lst_str, isT_lst_tuple_list, isT_lst_list_tuple, isT_klst_int, isT_klst_bool, isT_klst_tuple, isT_klst_list, isT_klst_str, isT_klst_tuple_list, isT_klst_list_tuple, isT_ref_int, isT_ref_bool, isT_ref_tuple, isT_ref_list, isT_ref_str, isT_ref_tuple_list, isT_ref_list_tuple, cmp_eqI, cmp_neI, cmp_ltI, cmp_leI, cmp_gtI, cmp_geI, cmp_eqB, cmp_neB, idx_hand0, set_hand0, idx_hand1, set_hand1, idx_hand2, set_hand2, idx_hand3, set_hand3, idx_hand4, set_hand4, pBin, idx_tup0, idx_tup1, idx_tup2, idx_tup3, idx_tup4, idx_tup5, idx_tup6, idx_tup7, Int.cast_ofNat_Int, blt_abs, blt_int, blt_intB, blt_len_tup, blt_len_lst, blt_len_klst, blt_tuple_tup, blt_tuple_lst, blt_list_tup, blt_list_lst, blt_sum, blt_all_lst, blt_any_lst, blt_max2, blt_min2, intsD, boolsD, List.length_map, items, place, put, putL, wipe, Tg.names, Tg.namesL, deref, List.map_cons, List.map_nil, List.length_cons, List.length_nil, List.getElem?_cons_zero, List.getElem?_cons_succ, List.getElem?_nil, List.getElem?_append, List.set_cons_zero, List.set_cons_succ, List.set_nil, List.cons_append, List.nil_append, List.append_nil, List.replicate_succ, List.replicate_zero, Nat.sub_self, Nat.add_sub_cancel, Option.map_some, Option.map_none, Option.bind_some, Option.bind_none, Option.some.injEq, if_true, if_false, ite_true, ite_false, Bool.false_eq_true, reduceCtorEq, Nat.reduceSub, Nat.reduceAdd, Nat.reduceLT, Nat.reduceLeDiff, Nat.reduceEqDiff, Nat.reduceMul, Int.reduceLT, Int.reduceLE, Int.reduceEq, Int.reduceNe, Int.reducePow, Int.reduceToNat, Int.reduceNeg, Int.reduceNegSucc, Nat.zero_add, Int.reduceAdd, Int.reduceSub, Int.reduceMul, not_true_eq_false, not_false_eq_true, Nat.lt_irrefl, Nat.zero_le, Nat.zero_lt_succ, Nat.succ_sub_succ_eq_sub, Nat.reduceSucc, bne_tt, bne_tf, bne_ft, Bool.not_true, Bool.not_false, Bool.true_and, Bool.false_and, Bool.and_true, Bool.and_false, Bool.or_true, Bool.or_false, Bool.true_or, Bool.false_or, bne_self_eq_false, beq_self_eq_true, ai', lo, i0, i1, i2, i3, nl, decide_false, m1, m2, m3, m4, pos, decide_true]
theorem run_check_circle {n k : Nat} (h : Has P Pl.Q_check_circle) (x y q : Rat) [bx : Bq k x] [bQ : Bq k y] [bq : Bq k q] (hk : k ≤ 100) (hq : 0 < q) : run P (n + 5) 257 [circ x y q] s = .ok .non s := by
  have c := run_is_circle (n := n) (s := s) (h.sub (by decide)) x y q hk hq
  rw [has_run (F := Pl.F_check_circle) h (by decide) rfl]
  simp only [Pl.F_check_circle, Pl.B_check_circle, runFn, evSs, ev_var, ev_int, ev_bl, ev_non, ev_str, ev_glob, ev_bin, ev_neg, ev_not, ev_and, ev_or, ev_cmp, ev_chain, ev_isn, ev_isb, ev_ite, ev_tup, ev_lst, ev_idx, ev_slice, ev_call, ev_blt, ev_inst, ev_meth, ev_comp, evL_nil, evL_cons, evAnd_1, evOr_1, evAnd_cons, evOr_cons, evS_set, evS_par, evS_unp, evS_sub, evS_subs, evS_aug, evS_ex, evS_ret, evS_ite, evS_whl, evS_for, evS_brk, evS_pass, itE, pIter, srcOf, chk_nil, compEnd, evAnd1, evSub, evLT, evSubs, R.bind, R.thn, RS.turn, PR.fin, asB, kRef, kNeg, kNot, kIsn, kIsb, kTup, kInst, kSet, kPar, kPut, kAug, kSubs, isNon_non, isNon_bl, isNon_int, isNon_str, isNon_tup, isNon_lst, isNon_klst, isNon_ref, isT_non_int, isT_non_bool, isT_non_tuple, isT_non_list, isT_non_str, isT_non_tuple_list, isT_non_list_tuple, isT_bl_int, isT_bl_bool, isT_bl_tuple, isT_bl_list, isT_bl_str, isT_bl_tuple_list, isT_bl_list_tuple, isT_int_int, isT_int_bool, isT_int_tuple, isT_int_list, isT_int_str, isT_int_tuple_list, isT_int_list_tuple, isT_str_int, isT_str_bool, isT_str_tuple, isT_str_list, isT_str_str, isT_str_tuple_list, isT_str_list_tuple, isT_tup_int, isT_tup_bool, isT_tup_tuple, isT_tup_list, isT_tup_str, isT_tup_tuple_list, isT_tup_list_tuple, isT_lst_int, isT_lst_bool, isT_lst_tuple, isT_lst_list, isT_lst_str, isT_lst_tuple_list, isT_lst_list_tuple, isT_klst_int, isT_klst_bool, isT_klst_tuple, isT_klst_list, isT_klst_str, isT_klst_tuple_list, isT_klst_list_tuple, isT_ref_int, isT_ref_bool, isT_ref_tuple, isT_ref_list, isT_ref_str, isT_ref_tuple_list, isT_ref_list_tuple, cmp_eqI, cmp_neI, cmp_ltI, cmp_leI, cmp_gtI, cmp_geI, cmp_eqB, cmp_neB, idx_hand0, set_hand0, idx_hand1, set_hand1, idx_hand2, set_hand2, idx_hand3, set_hand3, idx_hand4, set_hand4, pBin, idx_tup0, idx_tup1, idx_tup2, idx_tup3, idx_tup4, idx_tup5, idx_tup6, idx_tup7, Int.cast_ofNat_Int, blt_abs, blt_int, blt_intB, blt_len_tup, blt_len_lst, blt_len_klst, blt_tuple_tup, blt_tuple_lst, blt_list_tup, blt_list_lst, blt_sum, blt_all_lst, blt_any_lst, blt_max2, blt_min2, intsD, boolsD, List.length_map, items, place, put, putL, wipe, Tg.names, Tg.namesL, deref, List.map_cons, List.map_nil, List.length_cons, List.length_nil, List.getElem?_cons_zero, List.getElem?_cons_succ, List.getElem?_nil, List.getElem?_append, List.set_cons_zero, List.set_cons_succ, List.set_nil, List.cons_append, List.nil_append, List.append_nil, List.replicate_succ, List.replicate_zero, Nat.sub_self, Nat.add_sub_cancel, Option.map_some, Option.map_none, Option.bind_some, Option.bind_none, Option.some.injEq, if_true, if_false, ite_true, ite_false, Bool.false_eq_true, reduceCtorEq, Nat.reduceSub, Nat.reduceAdd, Nat.reduceLT, Nat.reduceLeDiff, Nat.reduceEqDiff, Nat.reduceMul, Int.reduceLT, Int.reduceLE, Int.reduceEq, Int.reduceNe, Int.reducePow, Int.reduceToNat, Int.reduceNeg, Int.reduceNegSucc, Nat.zero_add, Int.reduceAdd, Int.reduceSub, Int.reduceMul, not_true_eq_false, not_false_eq_true, Nat.lt_irrefl, Nat.zero_le, Nat.zero_lt_succ, Nat.succ_sub_succ_eq_sub, Nat.reduceSucc, bne_tt, bne_tf, bne_ft, Bool.not_true, Bool.not_false, Bool.true_and, Bool.false_and, Bool.and_true, Bool.and_false, Bool.or_true, Bool.or_false, Bool.true_or, Bool.false_or, bne_self_eq_false, beq_self_eq_true, c]
theorem run_middle_of {n k : Nat} (h : Has P Pl.Q_middle_of) (x y q : Rat) [bx : Bq k x] [bQ : Bq k y] [bq : Bq k q] (hk : k ≤ 100) (hq : 0 < q) : run P (n + 6) 262 [circ x y q] s = .ok (pt x y) s := by
  have cc := run_check_circle (n := n) (s := s) (h.sub (by decide)) x y q hk hq
  obtain ⟨A, B, C, E, hz, hA, hB, hC, hE, hg, hl, b1, b2, b3, b4⟩ := circ_row x y q
  have a0 : 2 * A ≠ 0 := by omega
  have ad : (2 * A).natAbs < dmax := dmax_of (Bi.mul (a := (2 : Int)) (x := inferInstance) (y := b1)).lt (by omega)
  have f1 := run_fraction (s := s) (h.sub (by decide)) (-B) (2 * A) a0 ad (n + 3)
  have f2 := run_fraction (s := s) (h.sub (by decide)) (-C) (2 * A) a0 ad (n + 3)
  have two : ((2 : Int) : Rat) = 2 := rfl
  rw [divInt_of a0 (x := x) (by rw [Rat.intCast_neg, hB, Rat.intCast_mul, two]; grind)] at f1
  rw [divInt_of a0 (x := y) (by rw [Rat.intCast_neg, hC, Rat.intCast_mul, two]; grind)] at f2
  have at' := run_at (n := n + 1) (s := s) (h.sub (by decide)) x y (by omega) (by omega)
  have m3 : mulOk 2 A = true := mulOkL (by decide)
  rw [has_run (F := Pl.F_middle_of) h (by decide) rfl]
  unfold circ at cc ⊢
  rw [hz] at cc ⊢
  have i0 : ∀ s, pIdx s (ro [A, B, C, E]) (.int 0) = .val (.int A) := fun s => idx_tup0
  have i1 : ∀ s, pIdx s (ro [A, B, C, E]) (.int 1) = .val (.int B) := fun s => idx_tup1
  have i2 : ∀ s, pIdx s (ro [A, B, C, E]) (.int 2) = .val (.int C) := fun s => idx_tup2
  simp only [Pl.F_middle_of, Pl.B_middle_of, runFn, evSs, ev_var, ev_int, ev_bl, ev_non, ev_str, ev_glob, ev_bin, ev_neg, ev_not, ev_and, ev_or, ev_cmp, ev_chain, ev_isn, ev_isb, ev_ite, ev_tup, ev_lst, ev_idx, ev_slice, ev_call, ev_blt, ev_inst, ev_meth, ev_comp, evL_nil, evL_cons, evAnd_1, evOr_1, evAnd_cons, evOr_cons, evS_set, evS_par, evS_unp, evS_sub, evS_subs, evS_aug, evS_ex, evS_ret, evS_ite, evS_whl, evS_for, evS_brk, evS_pass, itE, pIter, srcOf, chk_nil, compEnd, evAnd1, evSub, evLT, evSubs, R.bind, R.thn, RS.turn, PR.fin, asB, kRef, kNeg, kNot, kIsn, kIsb, kTup, kInst, kSet, kPar, kPut, kAug, kSubs, isNon_non, isNon_bl, isNon_int, isNon_str, isNon_tup, isNon_lst, isNon_klst, isNon_ref, isT_non_int, isT_non_bool, isT_non_tuple, isT_non_list, isT_non_str, isT_non_tuple_list, isT_non_list_tuple, isT_bl_int, isT_bl_bool, isT_bl_tuple, isT_bl_list, isT_bl_str, isT_bl_tuple_list, isT_bl_list_tuple, isT_int_int, isT_int_bool, isT_int_tuple, isT_int_list, isT_int_str, isT_int_tuple_list, isT_int_list_tuple, isT_str_int, isT_str_bool, isT_str_tuple, isT_str_list, isT_str_str, isT_str_tuple_list, isT_str_list_tuple, isT_tup_int, isT_tup_bool, isT_tup_tuple, isT_tup_list, isT_tup_str, isT_tup_tuple_list, isT_tup_list_tuple, isT_lst_int, isT_lst_bool, isT_lst_tuple, isT_lst_list, isT_lst_str, isT_lst_tuple_list, isT_lst_list_tuple, isT_klst_int, isT_klst_bool, isT_klst_tuple, isT_klst_list, isT_klst_str, isT_klst_tuple_list, isT_klst_list_tuple, isT_ref_int, isT_ref_bool, isT_ref_tuple, isT_ref_list, isT_ref_str, isT_ref_tuple_list, isT_ref_list_tuple, cmp_eqI, cmp_neI, cmp_ltI, cmp_leI, cmp_gtI, cmp_geI, cmp_eqB, cmp_neB, idx_hand0, set_hand0, idx_hand1, set_hand1, idx_hand2, set_hand2, idx_hand3, set_hand3, idx_hand4, set_hand4, pBin, idx_tup0, idx_tup1, idx_tup2, idx_tup3, idx_tup4, idx_tup5, idx_tup6, idx_tup7, Int.cast_ofNat_Int, blt_abs, blt_int, blt_intB, blt_len_tup, blt_len_lst, blt_len_klst, blt_tuple_tup, blt_tuple_lst, blt_list_tup, blt_list_lst, blt_sum, blt_all_lst, blt_any_lst, blt_max2, blt_min2, intsD, boolsD, List.length_map, items, place, put, putL, wipe, Tg.names, Tg.namesL, deref, List.map_cons, List.map_nil, List.length_cons, List.length_nil, List.getElem?_cons_zero, List.getElem?_cons_succ, List.getElem?_nil, List.getElem?_append, List.set_cons_zero, List.set_cons_succ, List.set_nil, List.cons_append, List.nil_append, List.append_nil, List.replicate_succ, List.replicate_zero, Nat.sub_self, Nat.add_sub_cancel, Option.map_some, Option.map_none, Option.bind_some, Option.bind_none, Option.some.injEq, if_true, if_false, ite_true, ite_false, Bool.false_eq_true, reduceCtorEq, Nat.reduceSub, Nat.reduceAdd, Nat.reduceLT, Nat.reduceLeDiff, Nat.reduceEqDiff, Nat.reduceMul, Int.reduceLT, Int.reduceLE, Int.reduceEq, Int.reduceNe, Int.reducePow, Int.reduceToNat, Int.reduceNeg, Int.reduceNegSucc, Nat.zero_add, Int.reduceAdd, Int.reduceSub, Int.reduceMul, not_true_eq_false, not_false_eq_true, Nat.lt_irrefl, Nat.zero_le, Nat.zero_lt_succ, Nat.succ_sub_succ_eq_sub, Nat.reduceSucc, bne_tt, bne_tf, bne_ft, Bool.not_true, Bool.not_false, Bool.true_and, Bool.false_and, Bool.and_true, Bool.and_false, Bool.or_true, Bool.or_false, Bool.true_or, Bool.false_or, bne_self_eq_false, beq_self_eq_true, cc, i0, i1, i2, m3, f1, f2, at']
theorem run_square_of {n k : Nat} (h : Has P Pl.Q_square_of) (x y q : Rat) [bx : Bq k x] [bQ : Bq k y] [bq : Bq k q] (hk : k ≤ 100) (hq : 0 < q) : run P (n + 6) 260 [circ x y q] s = .ok (fr q) s := by
  have cc := run_check_circle (n := n) (s := s) (h.sub (by decide)) x y q hk hq
  obtain ⟨A, B, C, E, hz, hA, hB, hC, hE, hg, hl, b1, b2, b3, b4⟩ := circ_row x y q
  have a0 : 4 * A * A ≠ 0 := Int.mul_ne_zero (by omega) (by omega)
  have b4A := Bi.mul (a := (4 : Int)) (x := inferInstance) (y := b1)
  have ad : (4 * A * A).natAbs < dmax := dmax_of (Bi.mul (x := b4A) (y := b1)).lt (by omega)
  have f1 := run_fraction (s := s) (h.sub (by decide)) (B * B + C * C - 4 * A * E) (4 * A * A) a0 ad (n + 3)
  have four : ((4 : Int) : Rat) = 4 := rfl
  rw [divInt_of a0 (x := q) (by simp only [Rat.intCast_sub, Rat.intCast_add, Rat.intCast_mul, hB, hC, hE, four]; grind)] at f1
  have m1 := mulOk_bi b2 b2 (by omega) (by omega)
  have m2 := mulOk_bi b3 b3 (by omega) (by omega)
  have m3 : mulOk 4 A = true := mulOkL (by decide)
  have m4 := mulOk_bi b4A b4 (by omega) (by omega)
  have m5 := mulOk_bi b4A b1 (by omega) (by omega)
  rw [has_run (F := Pl.F_square_of) h (by decide) rfl]
  unfold circ at cc ⊢
  rw [hz] at cc ⊢
  have i0 : ∀ s, pIdx s (ro [A, B, C, E]) (.int 0) = .val (.int A) := fun s => idx_tup0
  have i1 : ∀ s, pIdx s (ro [A, B, C, E]) (.int 1) = .val (.int B) := fun s => idx_tup1
  have i2 : ∀ s, pIdx s (ro [A, B, C, E]) (.int 2) = .val (.int C) := fun s => idx_tup2
  have i3 : ∀ s, pIdx s (ro [A, B, C, E]) (.int 3) = .val (.int E) := fun s => idx_tup3
  simp only [Pl.F_square_of, Pl.B_square_of, runFn, evSs, ev_var, ev_int, ev_bl, ev_non, ev_str, ev_glob, ev_bin, ev_neg, ev_not, ev_and, ev_or, ev_cmp, ev_chain, ev_isn, ev_isb, ev_ite, ev_tup, ev_lst, ev_idx, ev_slice, ev_call, ev_blt, ev_inst, ev_meth, ev_comp, evL_nil, evL_cons, evAnd_1, evOr_1, evAnd_cons, evOr_cons, evS_set, evS_par, evS_unp, evS_sub, evS_subs, evS_aug, evS_ex, evS_ret, evS_ite, evS_whl, evS_for, evS_brk, evS_pass, itE, pIter, srcOf, chk_nil, compEnd, evAnd1, evSub, evLT, evSubs, R.bind, R.thn, RS.turn, PR.fin, asB, kRef, kNeg, kNot, kIsn, kIsb, kTup, kInst, kSet, kPar, kPut, kAug, kSubs, isNon_non, isNon_bl, isNon_int, isNon_str, isNon_tup, isNon_lst, isNon_klst, isNon_ref, isT_non_int, isT_non_bool, isT_non_tuple, isT_non_list, isT_non_str, isT_non_tuple_list, isT_non_list_tuple, isT_bl_int, isT_bl_bool, isT_bl_tuple, isT_bl_list, isT_bl_str, isT_bl_tuple_list, isT_bl_list_tuple, isT_int_int, isT_int_bool, isT_int_tuple, isT_int_list, isT_int_str, isT_int_tuple_list, isT_int_list_tuple, isT_str_int, isT_str_bool, isT_str_tuple, isT_str_list, isT_str_str, isT_str_tuple_list, isT_str_list_tuple, isT_tup_int, isT_tup_bool, isT_tup_tuple, isT_tup_list, isT_tup_str, isT_tup_tuple_list, isT_tup_list_tuple, isT_lst_int, isT_lst_bool, isT_lst_tuple, isT_lst_list, isT_lst_str, isT_lst_tuple_list, isT_lst_list_tuple, isT_klst_int, isT_klst_bool, isT_klst_tuple, isT_klst_list, isT_klst_str, isT_klst_tuple_list, isT_klst_list_tuple, isT_ref_int, isT_ref_bool, isT_ref_tuple, isT_ref_list, isT_ref_str, isT_ref_tuple_list, isT_ref_list_tuple, cmp_eqI, cmp_neI, cmp_ltI, cmp_leI, cmp_gtI, cmp_geI, cmp_eqB, cmp_neB, idx_hand0, set_hand0, idx_hand1, set_hand1, idx_hand2, set_hand2, idx_hand3, set_hand3, idx_hand4, set_hand4, pBin, idx_tup0, idx_tup1, idx_tup2, idx_tup3, idx_tup4, idx_tup5, idx_tup6, idx_tup7, Int.cast_ofNat_Int, blt_abs, blt_int, blt_intB, blt_len_tup, blt_len_lst, blt_len_klst, blt_tuple_tup, blt_tuple_lst, blt_list_tup, blt_list_lst, blt_sum, blt_all_lst, blt_any_lst, blt_max2, blt_min2, intsD, boolsD, List.length_map, items, place, put, putL, wipe, Tg.names, Tg.namesL, deref, List.map_cons, List.map_nil, List.length_cons, List.length_nil, List.getElem?_cons_zero, List.getElem?_cons_succ, List.getElem?_nil, List.getElem?_append, List.set_cons_zero, List.set_cons_succ, List.set_nil, List.cons_append, List.nil_append, List.append_nil, List.replicate_succ, List.replicate_zero, Nat.sub_self, Nat.add_sub_cancel, Option.map_some, Option.map_none, Option.bind_some, Option.bind_none, Option.some.injEq, if_true, if_false, ite_true, ite_false, Bool.false_eq_true, reduceCtorEq, Nat.reduceSub, Nat.reduceAdd, Nat.reduceLT, Nat.reduceLeDiff, Nat.reduceEqDiff, Nat.reduceMul, Int.reduceLT, Int.reduceLE, Int.reduceEq, Int.reduceNe, Int.reducePow, Int.reduceToNat, Int.reduceNeg, Int.reduceNegSucc, Nat.zero_add, Int.reduceAdd, Int.reduceSub, Int.reduceMul, not_true_eq_false, not_false_eq_true, Nat.lt_irrefl, Nat.zero_le, Nat.zero_lt_succ, Nat.succ_sub_succ_eq_sub, Nat.reduceSucc, bne_tt, bne_tf, bne_ft, Bool.not_true, Bool.not_false, Bool.true_and, Bool.false_and, Bool.and_true, Bool.and_false, Bool.or_true, Bool.or_false, Bool.true_or, Bool.false_or, bne_self_eq_false, beq_self_eq_true, cc, i0, i1, i2, i3, m1, m2, m3, m4, m5, f1]
theorem run_around {n k : Nat} (h : Has P Pl.Q_around) (x y q : Rat) [bx : Bq k x] [bQ : Bq k y] [bq : Bq k q] (hk : k ≤ 100) (hq : 0 < q) : run P (n + 5) 252 [pt x y, fr q] s = .ok (circ x y q) s := by
  have pl := run_places (n := n) (s := s) (h.sub (by decide)) x y (by omega) (by omega)
  have isf := run_is_fraction (n := n + 2) (s := s) (h.sub (by decide)) q (by omega)
  have t1 := run_times (s := s) (h.sub (by decide)) x x (by omega) (by omega) (n + 1)
  have t2 := run_times (s := s) (h.sub (by decide)) y y (by omega) (by omega) (n + 1)
  have t3 := run_times (s := s) (h.sub (by decide)) (-2) x (by omega) (by omega) (n + 1)
  have t4 := run_times (s := s) (h.sub (by decide)) (-2) y (by omega) (by omega) (n + 1)
  have p1 := run_plus (s := s) (h.sub (by decide)) (x * x) (y * y) (by omega) (by omega) (n + 1)
  have p2 := run_minus (s := s) (h.sub (by decide)) (x * x + y * y) q (by omega) (by omega) (n + 1)
  have bs : ∀ z ∈ [1, (-2) * x, (-2) * y, x * x + y * y - q], Bq (5 * k + 4) z := fun z hz => by
    simp only [List.mem_cons, List.not_mem_nil, or_false] at hz
    rcases hz with rfl | rfl | rfl | rfl
    · exact Bq.mono (inferInstance : Bq 1 (1 : Rat)) (by omega)
    · exact (inferInstance : Bq (2 + k) ((-2) * x)).mono (by omega)
    · exact (inferInstance : Bq (2 + k) ((-2) * y)).mono (by omega)
    · exact (inferInstance : Bq (k + k + (k + k) + 1 + k + 1) (x * x + y * y - q)).mono (by omega)
  have wh := run_whole (n := n + 1) (s := s) (h.sub (by decide)) bs (by omega) (by simp)
  have wh' : run P (n + 4) 105 [.tup [fr 1, fr ((-2) * x), fr ((-2) * y), fr (x * x + y * y - q)]] s = .ok (ro (wrow [1, (-2) * x, (-2) * y, x * x + y * y - q])) s := wh
  have nz : gcdL (wz [1, (-2) * x, (-2) * y, x * x + y * y - q]) ≠ 0 := wz_nz ⟨1, by simp, by decide⟩
  have hR : can (wrow [1, (-2) * x, (-2) * y, x * x + y * y - q]) = wrow [1, (-2) * x, (-2) * y, x * x + y * y - q] := can_can nz
  obtain ⟨A, B, C, E, hz, hA, hB, hC, hE, hg, hl, b1, b2, b3, b4⟩ := circ_row x y q
  have d1 : A.natAbs < dmax := dmax_of b1.lt (by omega)
  have d2 : B.natAbs < dmax := dmax_of b2.lt (by omega)
  have d3 : C.natAbs < dmax := dmax_of b3.lt (by omega)
  have d4 : E.natAbs < dmax := dmax_of b4.lt (by omega)
  have hd : ∃ z, (can (wrow [1, (-2) * x, (-2) * y, x * x + y * y - q])).head? = some z := by
    rw [hR]
    rcases canF_row hR hz with e | e <;> rw [e] <;> exact ⟨_, rfl⟩
  have bd : ∀ z ∈ wrow [1, (-2) * x, (-2) * y, x * x + y * y - q], z.natAbs < dmax := by
    rcases canF_row hR hz with e | e <;> rw [e] <;> simp [d1, d2, d3, d4]
  have ln : (wrow [1, (-2) * x, (-2) * y, x * x + y * y - q]).length ≤ 1000 := by
    rcases canF_row hR hz with e | e <;> rw [e] <;> simp
  obtain ⟨z, hd⟩ := hd
  have fa := run_first_above (n := n + 1) (s := s) (h.sub (by decide)) hd bd ln
  have qp : ¬ q.num ≤ 0 := by
    have := num_pos hq
    omega
  have lit : D.tup [.int (-2), .int 1] = fr (-2) := rfl
  rw [has_run (F := Pl.F_around) h (by decide) rfl]
  simp only [Pl.F_around, Pl.B_around, runFn, evSs, ev_var, ev_int, ev_bl, ev_non, ev_str, ev_glob, ev_bin, ev_neg, ev_not, ev_and, ev_or, ev_cmp, ev_chain, ev_isn, ev_isb, ev_ite, ev_tup, ev_lst, ev_idx, ev_slice, ev_call, ev_blt, ev_inst, ev_meth, ev_comp, evL_nil, evL_cons, evAnd_1, evOr_1, evAnd_cons, evOr_cons, evS_set, evS_par, evS_unp, evS_sub, evS_subs, evS_aug, evS_ex, evS_ret, evS_ite, evS_whl, evS_for, evS_brk, evS_pass, itE, pIter, srcOf, chk_nil, compEnd, evAnd1, evSub, evLT, evSubs, R.bind, R.thn, RS.turn, PR.fin, asB, kRef, kNeg, kNot, kIsn, kIsb, kTup, kInst, kSet, kPar, kPut, kAug, kSubs, isNon_non, isNon_bl, isNon_int, isNon_str, isNon_tup, isNon_lst, isNon_klst, isNon_ref, isT_non_int, isT_non_bool, isT_non_tuple, isT_non_list, isT_non_str, isT_non_tuple_list, isT_non_list_tuple, isT_bl_int, isT_bl_bool, isT_bl_tuple, isT_bl_list, isT_bl_str, isT_bl_tuple_list, isT_bl_list_tuple, isT_int_int, isT_int_bool, isT_int_tuple, isT_int_list, isT_int_str, isT_int_tuple_list, isT_int_list_tuple, isT_str_int, isT_str_bool, isT_str_tuple, isT_str_list, isT_str_str, isT_str_tuple_list, isT_str_list_tuple, isT_tup_int, isT_tup_bool, isT_tup_tuple, isT_tup_list, isT_tup_str, isT_tup_tuple_list, isT_tup_list_tuple, isT_lst_int, isT_lst_bool, isT_lst_tuple, isT_lst_list, isT_lst_str, isT_lst_tuple_list, isT_lst_list_tuple, isT_klst_int, isT_klst_bool, isT_klst_tuple, isT_klst_list, isT_klst_str, isT_klst_tuple_list, isT_klst_list_tuple, isT_ref_int, isT_ref_bool, isT_ref_tuple, isT_ref_list, isT_ref_str, isT_ref_tuple_list, isT_ref_list_tuple, cmp_eqI, cmp_neI, cmp_ltI, cmp_leI, cmp_gtI, cmp_geI, cmp_eqB, cmp_neB, idx_hand0, set_hand0, idx_hand1, set_hand1, idx_hand2, set_hand2, idx_hand3, set_hand3, idx_hand4, set_hand4, pBin, idx_tup0, idx_tup1, idx_tup2, idx_tup3, idx_tup4, idx_tup5, idx_tup6, idx_tup7, Int.cast_ofNat_Int, blt_abs, blt_int, blt_intB, blt_len_tup, blt_len_lst, blt_len_klst, blt_tuple_tup, blt_tuple_lst, blt_list_tup, blt_list_lst, blt_sum, blt_all_lst, blt_any_lst, blt_max2, blt_min2, intsD, boolsD, List.length_map, items, place, put, putL, wipe, Tg.names, Tg.namesL, deref, List.map_cons, List.map_nil, List.length_cons, List.length_nil, List.getElem?_cons_zero, List.getElem?_cons_succ, List.getElem?_nil, List.getElem?_append, List.set_cons_zero, List.set_cons_succ, List.set_nil, List.cons_append, List.nil_append, List.append_nil, List.replicate_succ, List.replicate_zero, Nat.sub_self, Nat.add_sub_cancel, Option.map_some, Option.map_none, Option.bind_some, Option.bind_none, Option.some.injEq, if_true, if_false, ite_true, ite_false, Bool.false_eq_true, reduceCtorEq, Nat.reduceSub, Nat.reduceAdd, Nat.reduceLT, Nat.reduceLeDiff, Nat.reduceEqDiff, Nat.reduceMul, Int.reduceLT, Int.reduceLE, Int.reduceEq, Int.reduceNe, Int.reducePow, Int.reduceToNat, Int.reduceNeg, Int.reduceNegSucc, Nat.zero_add, Int.reduceAdd, Int.reduceSub, Int.reduceMul, not_true_eq_false, not_false_eq_true, Nat.lt_irrefl, Nat.zero_le, Nat.zero_lt_succ, Nat.succ_sub_succ_eq_sub, Nat.reduceSucc, bne_tt, bne_tf, bne_ft, Bool.not_true, Bool.not_false, Bool.true_and, Bool.false_and, Bool.and_true, Bool.and_false, Bool.or_true, Bool.or_false, Bool.true_or, Bool.false_or, bne_self_eq_false, beq_self_eq_true, pl, isf, idx_fr0, qp, decide_false, lit, one_fr, t1, t2, t3, t4, p1, p2, wh', fa]
  rfl
/-- a point's power -/
def powQ (x y q u v : Rat) : Rat := (u - x) * (u - x) + (v - y) * (v - y) - q
theorem run_power {n k j : Nat} (h : Has P Pl.Q_power) (x y q u v : Rat) [bx : Bq k x] [bQ : Bq k y] [bq : Bq k q] [bu : Bq j u] [bv : Bq j v] (hk : k ≤ 100) (hj : j ≤ 100) (hq : 0 < q) : run P (n + 6) 258 [circ x y q, pt u v] s = .ok (fr (powQ x y q u v)) s := by
  have cc := run_check_circle (n := n) (s := s) (h.sub (by decide)) x y q hk hq
  obtain ⟨A, B, C, E, hz, hA, hB, hC, hE, hg, hl, b1, b2, b3, b4⟩ := circ_row x y q
  obtain ⟨a, b, w, hw, hw0, ha, hb, hcan, ba, bb, bw⟩ := pt_row u v
  have da : a.natAbs < dmax := dmax_of ba.lt (by omega)
  have db : b.natAbs < dmax := dmax_of bb.lt (by omega)
  have dc : w.natAbs < dmax := dmax_of bw.lt (by omega)
  have w0 : w ≠ 0 := by omega
  have cp := run_check_point (n := n + 2) (s := s) (h.sub (by decide)) a b w hcan (by simp [w0]) da db dc
  have baa := Bi.mul (x := ba) (y := ba)
  have bbb := Bi.mul (x := bb) (y := bb)
  have bab := Bi.add (x := baa) (y := bbb)
  have baw := Bi.mul (x := ba) (y := bw)
  have bbw := Bi.mul (x := bb) (y := bw)
  have bww := Bi.mul (x := bw) (y := bw)
  have m1 := mulOk_bi ba ba (by omega) (by omega)
  have m2 := mulOk_bi bb bb (by omega) (by omega)
  have m3 := mulOk_bi ba bw (by omega) (by omega)
  have m4 := mulOk_bi bb bw (by omega) (by omega)
  have m5 := mulOk_bi bw bw (by omega) (by omega)
  have n1 := mulOk_bi b1 bab (by omega) (by omega)
  have n2 := mulOk_bi b2 baw (by omega) (by omega)
  have n3 := mulOk_bi b3 bbw (by omega) (by omega)
  have n4 := mulOk_bi b4 bww (by omega) (by omega)
  have n5 := mulOk_bi b1 bw (by omega) (by omega)
  have bAw := Bi.mul (x := b1) (y := bw)
  have n6 := mulOk_bi bAw bw (by omega) (by omega)
  have sr : run P (n + 5) 253 [ro [a, b, w]] s = .ok (.tup [.int (a * a + b * b), .int (a * w), .int (b * w), .int (w * w)]) s := by
    rw [has_run (F := Pl.F_squares_row) (h.sub (l' := Pl.Q_squares_row) (by decide)) (by decide) rfl]
    have i0 : ∀ s, pIdx s (ro [a, b, w]) (.int 0) = .val (.int a) := fun s => idx_tup0
    have i1 : ∀ s, pIdx s (ro [a, b, w]) (.int 1) = .val (.int b) := fun s => idx_tup1
    have i2 : ∀ s, pIdx s (ro [a, b, w]) (.int 2) = .val (.int w) := fun s => idx_tup2
    simp only [Pl.F_squares_row, Pl.B_squares_row, runFn, evSs, ev_var, ev_int, ev_bl, ev_non, ev_str, ev_glob, ev_bin, ev_neg, ev_not, ev_and, ev_or, ev_cmp, ev_chain, ev_isn, ev_isb, ev_ite, ev_tup, ev_lst, ev_idx, ev_slice, ev_call, ev_blt, ev_inst, ev_meth, ev_comp, evL_nil, evL_cons, evAnd_1, evOr_1, evAnd_cons, evOr_cons, evS_set, evS_par, evS_unp, evS_sub, evS_subs, evS_aug, evS_ex, evS_ret, evS_ite, evS_whl, evS_for, evS_brk, evS_pass, itE, pIter, srcOf, chk_nil, compEnd, evAnd1, evSub, evLT, evSubs, R.bind, R.thn, RS.turn, PR.fin, asB, kRef, kNeg, kNot, kIsn, kIsb, kTup, kInst, kSet, kPar, kPut, kAug, kSubs, isNon_non, isNon_bl, isNon_int, isNon_str, isNon_tup, isNon_lst, isNon_klst, isNon_ref, isT_non_int, isT_non_bool, isT_non_tuple, isT_non_list, isT_non_str, isT_non_tuple_list, isT_non_list_tuple, isT_bl_int, isT_bl_bool, isT_bl_tuple, isT_bl_list, isT_bl_str, isT_bl_tuple_list, isT_bl_list_tuple, isT_int_int, isT_int_bool, isT_int_tuple, isT_int_list, isT_int_str, isT_int_tuple_list, isT_int_list_tuple, isT_str_int, isT_str_bool, isT_str_tuple, isT_str_list, isT_str_str, isT_str_tuple_list, isT_str_list_tuple, isT_tup_int, isT_tup_bool, isT_tup_tuple, isT_tup_list, isT_tup_str, isT_tup_tuple_list, isT_tup_list_tuple, isT_lst_int, isT_lst_bool, isT_lst_tuple, isT_lst_list, isT_lst_str, isT_lst_tuple_list, isT_lst_list_tuple, isT_klst_int, isT_klst_bool, isT_klst_tuple, isT_klst_list, isT_klst_str, isT_klst_tuple_list, isT_klst_list_tuple, isT_ref_int, isT_ref_bool, isT_ref_tuple, isT_ref_list, isT_ref_str, isT_ref_tuple_list, isT_ref_list_tuple, cmp_eqI, cmp_neI, cmp_ltI, cmp_leI, cmp_gtI, cmp_geI, cmp_eqB, cmp_neB, idx_hand0, set_hand0, idx_hand1, set_hand1, idx_hand2, set_hand2, idx_hand3, set_hand3, idx_hand4, set_hand4, pBin, idx_tup0, idx_tup1, idx_tup2, idx_tup3, idx_tup4, idx_tup5, idx_tup6, idx_tup7, Int.cast_ofNat_Int, blt_abs, blt_int, blt_intB, blt_len_tup, blt_len_lst, blt_len_klst, blt_tuple_tup, blt_tuple_lst, blt_list_tup, blt_list_lst, blt_sum, blt_all_lst, blt_any_lst, blt_max2, blt_min2, intsD, boolsD, List.length_map, items, place, put, putL, wipe, Tg.names, Tg.namesL, deref, List.map_cons, List.map_nil, List.length_cons, List.length_nil, List.getElem?_cons_zero, List.getElem?_cons_succ, List.getElem?_nil, List.getElem?_append, List.set_cons_zero, List.set_cons_succ, List.set_nil, List.cons_append, List.nil_append, List.append_nil, List.replicate_succ, List.replicate_zero, Nat.sub_self, Nat.add_sub_cancel, Option.map_some, Option.map_none, Option.bind_some, Option.bind_none, Option.some.injEq, if_true, if_false, ite_true, ite_false, Bool.false_eq_true, reduceCtorEq, Nat.reduceSub, Nat.reduceAdd, Nat.reduceLT, Nat.reduceLeDiff, Nat.reduceEqDiff, Nat.reduceMul, Int.reduceLT, Int.reduceLE, Int.reduceEq, Int.reduceNe, Int.reducePow, Int.reduceToNat, Int.reduceNeg, Int.reduceNegSucc, Nat.zero_add, Int.reduceAdd, Int.reduceSub, Int.reduceMul, not_true_eq_false, not_false_eq_true, Nat.lt_irrefl, Nat.zero_le, Nat.zero_lt_succ, Nat.succ_sub_succ_eq_sub, Nat.reduceSucc, bne_tt, bne_tf, bne_ft, Bool.not_true, Bool.not_false, Bool.true_and, Bool.false_and, Bool.and_true, Bool.and_false, Bool.or_true, Bool.or_false, Bool.true_or, Bool.false_or, bne_self_eq_false, beq_self_eq_true, i0, i1, i2, m1, m2, m3, m4, m5]
  have bot0 : A * w * w ≠ 0 := Int.mul_ne_zero (Int.mul_ne_zero (by omega) w0) w0
  have botd : (A * w * w).natAbs < dmax := dmax_of (Bi.mul (x := bAw) (y := bw)).lt (by omega)
  have f1 := run_fraction (s := s) (h.sub (by decide)) (A * (a * a + b * b) + (B * (a * w) + (C * (b * w) + (E * (w * w) + 0)))) (A * w * w) bot0 botd (n + 3)
  have zero : ((0 : Int) : Rat) = 0 := rfl
  rw [divInt_of bot0 (x := powQ x y q u v) (by simp only [powQ, Rat.intCast_add, Rat.intCast_mul, hB, hC, hE, ha, hb, zero]; grind)] at f1
  rw [has_run (F := Pl.F_power) h (by decide) rfl]
  unfold circ at cc ⊢
  unfold pt
  rw [hw]
  rw [hz] at cc ⊢
  have stepM : ∀ ρ : Env, ρ.length = 5 → ∀ x ∈ [D.tup [.int A, .int (a * a + b * b)], .tup [.int B, .int (a * w)], .tup [.int C, .int (b * w)], .tup [.int E, .int (w * w)]],
      compStep P.G (run P (n + 5)) (.bin false .mul (.var 3) (.var 4)) (.t [.n 3, .n 4]) [] ρ x s = .ok (some (match x with | .tup [.int m, .int i] => .int (m * i) | d => d)) s := by
    intro ρ hρ x hx
    match ρ, hρ with
    | [r0, r1, r2, r3, r4], _ =>
      simp only [List.mem_cons, List.not_mem_nil, or_false] at hx
      rcases hx with rfl | rfl | rfl | rfl <;> simp only [compStep, runFn, evSs, ev_var, ev_int, ev_bl, ev_non, ev_str, ev_glob, ev_bin, ev_neg, ev_not, ev_and, ev_or, ev_cmp, ev_chain, ev_isn, ev_isb, ev_ite, ev_tup, ev_lst, ev_idx, ev_slice, ev_call, ev_blt, ev_inst, ev_meth, ev_comp, evL_nil, evL_cons, evAnd_1, evOr_1, evAnd_cons, evOr_cons, evS_set, evS_par, evS_unp, evS_sub, evS_subs, evS_aug, evS_ex, evS_ret, evS_ite, evS_whl, evS_for, evS_brk, evS_pass, itE, pIter, srcOf, chk_nil, compEnd, evAnd1, evSub, evLT, evSubs, R.bind, R.thn, RS.turn, PR.fin, asB, kRef, kNeg, kNot, kIsn, kIsb, kTup, kInst, kSet, kPar, kPut, kAug, kSubs, isNon_non, isNon_bl, isNon_int, isNon_str, isNon_tup, isNon_lst, isNon_klst, isNon_ref, isT_non_int, isT_non_bool, isT_non_tuple, isT_non_list, isT_non_str, isT_non_tuple_list, isT_non_list_tuple, isT_bl_int, isT_bl_bool, isT_bl_tuple, isT_bl_list, isT_bl_str, isT_bl_tuple_list, isT_bl_list_tuple, isT_int_int, isT_int_bool, isT_int_tuple, isT_int_list, isT_int_str, isT_int_tuple_list, isT_int_list_tuple, isT_str_int, isT_str_bool, isT_str_tuple, isT_str_list, isT_str_str, isT_str_tuple_list, isT_str_list_tuple, isT_tup_int, isT_tup_bool, isT_tup_tuple, isT_tup_list, isT_tup_str, isT_tup_tuple_list, isT_tup_list_tuple, isT_lst_int, isT_lst_bool, isT_lst_tuple, isT_lst_list, isT_lst_str, isT_lst_tuple_list, isT_lst_list_tuple, isT_klst_int, isT_klst_bool, isT_klst_tuple, isT_klst_list, isT_klst_str, isT_klst_tuple_list, isT_klst_list_tuple, isT_ref_int, isT_ref_bool, isT_ref_tuple, isT_ref_list, isT_ref_str, isT_ref_tuple_list, isT_ref_list_tuple, cmp_eqI, cmp_neI, cmp_ltI, cmp_leI, cmp_gtI, cmp_geI, cmp_eqB, cmp_neB, idx_hand0, set_hand0, idx_hand1, set_hand1, idx_hand2, set_hand2, idx_hand3, set_hand3, idx_hand4, set_hand4, pBin, idx_tup0, idx_tup1, idx_tup2, idx_tup3, idx_tup4, idx_tup5, idx_tup6, idx_tup7, Int.cast_ofNat_Int, blt_abs, blt_int, blt_intB, blt_len_tup, blt_len_lst, blt_len_klst, blt_tuple_tup, blt_tuple_lst, blt_list_tup, blt_list_lst, blt_sum, blt_all_lst, blt_any_lst, blt_max2, blt_min2, intsD, boolsD, List.length_map, items, place, put, putL, wipe, Tg.names, Tg.namesL, deref, List.map_cons, List.map_nil, List.length_cons, List.length_nil, List.getElem?_cons_zero, List.getElem?_cons_succ, List.getElem?_nil, List.getElem?_append, List.set_cons_zero, List.set_cons_succ, List.set_nil, List.cons_append, List.nil_append, List.append_nil, List.replicate_succ, List.replicate_zero, Nat.sub_self, Nat.add_sub_cancel, Option.map_some, Option.map_none, Option.bind_some, Option.bind_none, Option.some.injEq, if_true, if_false, ite_true, ite_false, Bool.false_eq_true, reduceCtorEq, Nat.reduceSub, Nat.reduceAdd, Nat.reduceLT, Nat.reduceLeDiff, Nat.reduceEqDiff, Nat.reduceMul, Int.reduceLT, Int.reduceLE, Int.reduceEq, Int.reduceNe, Int.reducePow, Int.reduceToNat, Int.reduceNeg, Int.reduceNegSucc, Nat.zero_add, Int.reduceAdd, Int.reduceSub, Int.reduceMul, not_true_eq_false, not_false_eq_true, Nat.lt_irrefl, Nat.zero_le, Nat.zero_lt_succ, Nat.succ_sub_succ_eq_sub, Nat.reduceSucc, bne_tt, bne_tf, bne_ft, Bool.not_true, Bool.not_false, Bool.true_and, Bool.false_and, Bool.and_true, Bool.and_false, Bool.or_true, Bool.or_false, Bool.true_or, Bool.false_or, bne_self_eq_false, beq_self_eq_true, n1, n2, n3, n4, List.cons_append, List.nil_append]
  have cm := fun ρ hρ => comp_map _ [] (stepM ρ hρ) (by simp)
  simp only [List.map_cons, List.map_nil, List.nil_append] at cm
  have sum4 : ∀ p q r t : Int, [p, q, r, t].sum = p + (q + (r + (t + 0))) := fun p q r t => rfl
  simp only [ro, List.map_cons, List.map_nil] at cc cp sr ⊢
  simp only [Pl.F_power, Pl.B_power, runFn, evSs, ev_var, ev_int, ev_bl, ev_non, ev_str, ev_glob, ev_bin, ev_neg, ev_not, ev_and, ev_or, ev_cmp, ev_chain, ev_isn, ev_isb, ev_ite, ev_tup, ev_lst, ev_idx, ev_slice, ev_call, ev_blt, ev_inst, ev_meth, ev_comp, evL_nil, evL_cons, evAnd_1, evOr_1, evAnd_cons, evOr_cons, evS_set, evS_par, evS_unp, evS_sub, evS_subs, evS_aug, evS_ex, evS_ret, evS_ite, evS_whl, evS_for, evS_brk, evS_pass, itE, pIter, srcOf, chk_nil, compEnd, evAnd1, evSub, evLT, evSubs, R.bind, R.thn, RS.turn, PR.fin, asB, kRef, kNeg, kNot, kIsn, kIsb, kTup, kInst, kSet, kPar, kPut, kAug, kSubs, isNon_non, isNon_bl, isNon_int, isNon_str, isNon_tup, isNon_lst, isNon_klst, isNon_ref, isT_non_int, isT_non_bool, isT_non_tuple, isT_non_list, isT_non_str, isT_non_tuple_list, isT_non_list_tuple, isT_bl_int, isT_bl_bool, isT_bl_tuple, isT_bl_list, isT_bl_str, isT_bl_tuple_list, isT_bl_list_tuple, isT_int_int, isT_int_bool, isT_int_tuple, isT_int_list, isT_int_str, isT_int_tuple_list, isT_int_list_tuple, isT_str_int, isT_str_bool, isT_str_tuple, isT_str_list, isT_str_str, isT_str_tuple_list, isT_str_list_tuple, isT_tup_int, isT_tup_bool, isT_tup_tuple, isT_tup_list, isT_tup_str, isT_tup_tuple_list, isT_tup_list_tuple, isT_lst_int, isT_lst_bool, isT_lst_tuple, isT_lst_list, isT_lst_str, isT_lst_tuple_list, isT_lst_list_tuple, isT_klst_int, isT_klst_bool, isT_klst_tuple, isT_klst_list, isT_klst_str, isT_klst_tuple_list, isT_klst_list_tuple, isT_ref_int, isT_ref_bool, isT_ref_tuple, isT_ref_list, isT_ref_str, isT_ref_tuple_list, isT_ref_list_tuple, cmp_eqI, cmp_neI, cmp_ltI, cmp_leI, cmp_gtI, cmp_geI, cmp_eqB, cmp_neB, idx_hand0, set_hand0, idx_hand1, set_hand1, idx_hand2, set_hand2, idx_hand3, set_hand3, idx_hand4, set_hand4, pBin, idx_tup0, idx_tup1, idx_tup2, idx_tup3, idx_tup4, idx_tup5, idx_tup6, idx_tup7, Int.cast_ofNat_Int, blt_abs, blt_int, blt_intB, blt_len_tup, blt_len_lst, blt_len_klst, blt_tuple_tup, blt_tuple_lst, blt_list_tup, blt_list_lst, blt_sum, blt_all_lst, blt_any_lst, blt_max2, blt_min2, intsD, boolsD, List.length_map, items, place, put, putL, wipe, Tg.names, Tg.namesL, deref, List.map_cons, List.map_nil, List.length_cons, List.length_nil, List.getElem?_cons_zero, List.getElem?_cons_succ, List.getElem?_nil, List.getElem?_append, List.set_cons_zero, List.set_cons_succ, List.set_nil, List.cons_append, List.nil_append, List.append_nil, List.replicate_succ, List.replicate_zero, Nat.sub_self, Nat.add_sub_cancel, Option.map_some, Option.map_none, Option.bind_some, Option.bind_none, Option.some.injEq, if_true, if_false, ite_true, ite_false, Bool.false_eq_true, reduceCtorEq, Nat.reduceSub, Nat.reduceAdd, Nat.reduceLT, Nat.reduceLeDiff, Nat.reduceEqDiff, Nat.reduceMul, Int.reduceLT, Int.reduceLE, Int.reduceEq, Int.reduceNe, Int.reducePow, Int.reduceToNat, Int.reduceNeg, Int.reduceNegSucc, Nat.zero_add, Int.reduceAdd, Int.reduceSub, Int.reduceMul, not_true_eq_false, not_false_eq_true, Nat.lt_irrefl, Nat.zero_le, Nat.zero_lt_succ, Nat.succ_sub_succ_eq_sub, Nat.reduceSucc, bne_tt, bne_tf, bne_ft, Bool.not_true, Bool.not_false, Bool.true_and, Bool.false_and, Bool.and_true, Bool.and_false, Bool.or_true, Bool.or_false, Bool.true_or, Bool.false_or, bne_self_eq_false, beq_self_eq_true, cc, cp, w0, decide_false, sr, isTup, zipD, cm, n5, n6, sum4, f1]
theorem run_is_on {n k j : Nat} (h : Has P Pl.Q_is_on_v2) (x y q u v : Rat) [bx : Bq k x] [bQ : Bq k y] [bq : Bq k q] [bu : Bq j u] [bv : Bq j v] (hk : k ≤ 100) (hj : j ≤ 100) (hq : 0 < q) (hp : powQ x y q u v = 0) : run P (n + 7) 294 [circ x y q, pt u v] s = .ok (.bl true) s := by
  have p := run_power (n := n) (s := s) (h.sub (by decide)) x y q u v hk hj hq
  rw [hp] at p
  rw [has_run (F := Pl.F_is_on_v2) h (by decide) rfl]
  have z : (0 : Rat).num = 0 := rfl
  simp only [Pl.F_is_on_v2, Pl.B_is_on_v2, runFn, evSs, ev_var, ev_int, ev_bl, ev_non, ev_str, ev_glob, ev_bin, ev_neg, ev_not, ev_and, ev_or, ev_cmp, ev_chain, ev_isn, ev_isb, ev_ite, ev_tup, ev_lst, ev_idx, ev_slice, ev_call, ev_blt, ev_inst, ev_meth, ev_comp, evL_nil, evL_cons, evAnd_1, evOr_1, evAnd_cons, evOr_cons, evS_set, evS_par, evS_unp, evS_sub, evS_subs, evS_aug, evS_ex, evS_ret, evS_ite, evS_whl, evS_for, evS_brk, evS_pass, itE, pIter, srcOf, chk_nil, compEnd, evAnd1, evSub, evLT, evSubs, R.bind, R.thn, RS.turn, PR.fin, asB, kRef, kNeg, kNot, kIsn, kIsb, kTup, kInst, kSet, kPar, kPut, kAug, kSubs, isNon_non, isNon_bl, isNon_int, isNon_str, isNon_tup, isNon_lst, isNon_klst, isNon_ref, isT_non_int, isT_non_bool, isT_non_tuple, isT_non_list, isT_non_str, isT_non_tuple_list, isT_non_list_tuple, isT_bl_int, isT_bl_bool, isT_bl_tuple, isT_bl_list, isT_bl_str, isT_bl_tuple_list, isT_bl_list_tuple, isT_int_int, isT_int_bool, isT_int_tuple, isT_int_list, isT_int_str, isT_int_tuple_list, isT_int_list_tuple, isT_str_int, isT_str_bool, isT_str_tuple, isT_str_list, isT_str_str, isT_str_tuple_list, isT_str_list_tuple, isT_tup_int, isT_tup_bool, isT_tup_tuple, isT_tup_list, isT_tup_str, isT_tup_tuple_list, isT_tup_list_tuple, isT_lst_int, isT_lst_bool, isT_lst_tuple, isT_lst_list, isT_lst_str, isT_lst_tuple_list, isT_lst_list_tuple, isT_klst_int, isT_klst_bool, isT_klst_tuple, isT_klst_list, isT_klst_str, isT_klst_tuple_list, isT_klst_list_tuple, isT_ref_int, isT_ref_bool, isT_ref_tuple, isT_ref_list, isT_ref_str, isT_ref_tuple_list, isT_ref_list_tuple, cmp_eqI, cmp_neI, cmp_ltI, cmp_leI, cmp_gtI, cmp_geI, cmp_eqB, cmp_neB, idx_hand0, set_hand0, idx_hand1, set_hand1, idx_hand2, set_hand2, idx_hand3, set_hand3, idx_hand4, set_hand4, pBin, idx_tup0, idx_tup1, idx_tup2, idx_tup3, idx_tup4, idx_tup5, idx_tup6, idx_tup7, Int.cast_ofNat_Int, blt_abs, blt_int, blt_intB, blt_len_tup, blt_len_lst, blt_len_klst, blt_tuple_tup, blt_tuple_lst, blt_list_tup, blt_list_lst, blt_sum, blt_all_lst, blt_any_lst, blt_max2, blt_min2, intsD, boolsD, List.length_map, items, place, put, putL, wipe, Tg.names, Tg.namesL, deref, List.map_cons, List.map_nil, List.length_cons, List.length_nil, List.getElem?_cons_zero, List.getElem?_cons_succ, List.getElem?_nil, List.getElem?_append, List.set_cons_zero, List.set_cons_succ, List.set_nil, List.cons_append, List.nil_append, List.append_nil, List.replicate_succ, List.replicate_zero, Nat.sub_self, Nat.add_sub_cancel, Option.map_some, Option.map_none, Option.bind_some, Option.bind_none, Option.some.injEq, if_true, if_false, ite_true, ite_false, Bool.false_eq_true, reduceCtorEq, Nat.reduceSub, Nat.reduceAdd, Nat.reduceLT, Nat.reduceLeDiff, Nat.reduceEqDiff, Nat.reduceMul, Int.reduceLT, Int.reduceLE, Int.reduceEq, Int.reduceNe, Int.reducePow, Int.reduceToNat, Int.reduceNeg, Int.reduceNegSucc, Nat.zero_add, Int.reduceAdd, Int.reduceSub, Int.reduceMul, not_true_eq_false, not_false_eq_true, Nat.lt_irrefl, Nat.zero_le, Nat.zero_lt_succ, Nat.succ_sub_succ_eq_sub, Nat.reduceSucc, bne_tt, bne_tf, bne_ft, Bool.not_true, Bool.not_false, Bool.true_and, Bool.false_and, Bool.and_true, Bool.and_false, Bool.or_true, Bool.or_false, Bool.true_or, Bool.false_or, bne_self_eq_false, beq_self_eq_true, p, idx_fr0, z, decide_true]
end
end Pi

set_option Elab.async false
set_option linter.all false
set_option maxRecDepth 100000
namespace Pi
open PySem
section
variable {P : Prog} {s : Store}
abbrev b_root : List Sm := [.set 3 (.bin false .fdiv (.bin false .add (.var 1) (.var 2)) (.int 2)), .ite (.cmp .le (.bin false .mul (.var 3) (.var 3)) (.var 0)) [.set 1 (.var 3)] [.set 2 (.var 3)]]
theorem sq_lt {a b : Int} (ha : 0 ≤ a) (hb : 0 ≤ b) (h : a * a < b * b) : a < b := by
  by_cases c : a < b
  · exact c
  · exfalso
    have h1 : b ≤ a := Int.not_lt.mp c
    have := Int.mul_le_mul h1 h1 hb ha
    omega
theorem loop_root (call : Call) (G : Nat → Option D) (m : Int) (hm : 0 ≤ m) : ∀ (fu : Nat) (lo hi : Int) (mi : Option D), 0 ≤ lo → lo * lo ≤ m * m → m * m < hi * hi → hi < (big : Int) → 0 ≤ hi → (hi - lo).toNat < fu →
    ∃ hi' mi', loopN (whT G call (.cmp .gt (.bin false .sub (.var 2) (.var 1)) (.int 1)) b_root) fu [some (.int (m * m)), some (.int lo), some (.int hi), mi] s = .ok .nx [some (.int (m * m)), some (.int m), hi', mi'] s
  | 0, _, _, _, _, _, _, _, _, h => by omega
  | fu + 1, lo, hi, mi, h0, h1, h2, h3, h4, h => by
    have l1 : lo < hi := sq_lt h0 h4 (by omega)
    by_cases hc : 1 < hi - lo
    · have md : (lo + hi).fdiv 2 = (lo + hi) / 2 := Int.fdiv_eq_ediv_of_nonneg _ (by decide)
      generalize hmid : (lo + hi) / 2 = mid at md
      have a1 : lo < mid := by omega
      have a2 : mid < hi := by omega
      have mk : mulOk mid mid = true := mulOk_big (by omega) (by omega)
      have two : ((2 : Int) ≠ 0 ∧ (2 : Int).natAbs < dmax) := ⟨by decide, dmax_of (k := 20) (by decide) (by omega)⟩
      by_cases hs : mid * mid ≤ m * m
      · obtain ⟨hi', mi', e⟩ := loop_root call G m hm fu mid hi (some (.int mid)) (by omega) hs h2 h3 h4 (by omega)
        refine ⟨hi', mi', ?_⟩
        rw [loop_go (ρ' := [some (.int (m * m)), some (.int mid), some (.int hi), some (.int mid)]) (s' := s), e]
        simp only [whT, runFn, evSs, ev_var, ev_int, ev_bl, ev_non, ev_str, ev_glob, ev_bin, ev_neg, ev_not, ev_and, ev_or, ev_cmp, ev_chain, ev_isn, ev_isb, ev_ite, ev_tup, ev_lst, ev_idx, ev_slice, ev_call, ev_blt, ev_inst, ev_meth, ev_comp, evL_nil, evL_cons, evAnd_1, evOr_1, evAnd_cons, evOr_cons, evS_set, evS_par, evS_unp, evS_sub, evS_subs, evS_aug, evS_ex, evS_ret, evS_ite, evS_whl, evS_for, evS_brk, evS_pass, itE, pIter, srcOf, chk_nil, compEnd, evAnd1, evSub, evLT, evSubs, R.bind, R.thn, RS.turn, PR.fin, asB, kRef, kNeg, kNot, kIsn, kIsb, kTup, kInst, kSet, kPar, kPut, kAug, kSubs, isNon_non, isNon_bl, isNon_int, isNon_str, isNon_tup, isNon_lst, isNon_klst, isNon_ref, isT_non_int, isT_non_bool, isT_non_tuple, isT_non_list, isT_non_str, isT_non_tuple_list, isT_non_list_tuple, isT_bl_int, isT_bl_bool, isT_bl_tuple, isT_bl_list, isT_bl_str, isT_bl_tuple_list, isT_bl_list_tuple, isT_int_int, isT_int_bool, isT_int_tuple, isT_int_list, isT_int_str, isT_int_tuple_list, isT_int_list_tuple, isT_str_int, isT_str_bool, isT_str_tuple, isT_str_list, isT_str_str, isT_str_tuple_list, isT_str_list_tuple, isT_tup_int, isT_tup_bool, isT_tup_tuple, isT_tup_list, isT_tup_str, isT_tup_tuple_list, isT_tup_list_tuple, isT_lst_int, isT_lst_bool, isT_lst_tuple, isT_lst_list, isT_lst_str, isT_lst_tuple_list, isT_lst_list_tuple, isT_klst_int, isT_klst_bool, isT_klst_tuple, isT_klst_list, isT_klst_str, isT_klst_tuple_list, isT_klst_list_tuple, isT_ref_int, isT_ref_bool, isT_ref_tuple, isT_ref_list, isT_ref_str, isT_ref_tuple_list, isT_ref_list_tuple, cmp_eqI, cmp_neI, cmp_ltI, cmp_leI, cmp_gtI, cmp_geI, cmp_eqB, cmp_neB, idx_hand0, set_hand0, idx_hand1, set_hand1, idx_hand2, set_hand2, idx_hand3, set_hand3, idx_hand4, set_hand4, pBin, idx_tup0, idx_tup1, idx_tup2, idx_tup3, idx_tup4, idx_tup5, idx_tup6, idx_tup7, Int.cast_ofNat_Int, blt_abs, blt_int, blt_intB, blt_len_tup, blt_len_lst, blt_len_klst, blt_tuple_tup, blt_tuple_lst, blt_list_tup, blt_list_lst, blt_sum, blt_all_lst, blt_any_lst, blt_max2, blt_min2, intsD, boolsD, List.length_map, items, place, put, putL, wipe, Tg.names, Tg.namesL, deref, List.map_cons, List.map_nil, List.length_cons, List.length_nil, List.getElem?_cons_zero, List.getElem?_cons_succ, List.getElem?_nil, List.getElem?_append, List.set_cons_zero, List.set_cons_succ, List.set_nil, List.cons_append, List.nil_append, List.append_nil, List.replicate_succ, List.replicate_zero, Nat.sub_self, Nat.add_sub_cancel, Option.map_some, Option.map_none, Option.bind_some, Option.bind_none, Option.some.injEq, if_true, if_false, ite_true, ite_false, Bool.false_eq_true, reduceCtorEq, Nat.reduceSub, Nat.reduceAdd, Nat.reduceLT, Nat.reduceLeDiff, Nat.reduceEqDiff, Nat.reduceMul, Int.reduceLT, Int.reduceLE, Int.reduceEq, Int.reduceNe, Int.reducePow, Int.reduceToNat, Int.reduceNeg, Int.reduceNegSucc, Nat.zero_add, Int.reduceAdd, Int.reduceSub, Int.reduceMul, not_true_eq_false, not_false_eq_true, Nat.lt_irrefl, Nat.zero_le, Nat.zero_lt_succ, Nat.succ_sub_succ_eq_sub, Nat.reduceSucc, bne_tt, bne_tf, bne_ft, Bool.not_true, Bool.not_false, Bool.true_and, Bool.false_and, Bool.and_true, Bool.and_false, Bool.or_true, Bool.or_false, Bool.true_or, Bool.false_or, bne_self_eq_false, beq_self_eq_true, hc, decide_true, md, mk, two, hs, ne_eq, not_false_eq_true, and_self]
      · obtain ⟨hi', mi', e⟩ := loop_root call G m hm fu lo mid (some (.int mid)) h0 h1 (by omega) (by omega) (by omega) (by omega)
        refine ⟨hi', mi', ?_⟩
        rw [loop_go (ρ' := [some (.int (m * m)), some (.int lo), some (.int mid), some (.int mid)]) (s' := s), e]
        simp only [whT, runFn, evSs, ev_var, ev_int, ev_bl, ev_non, ev_str, ev_glob, ev_bin, ev_neg, ev_not, ev_and, ev_or, ev_cmp, ev_chain, ev_isn, ev_isb, ev_ite, ev_tup, ev_lst, ev_idx, ev_slice, ev_call, ev_blt, ev_inst, ev_meth, ev_comp, evL_nil, evL_cons, evAnd_1, evOr_1, evAnd_cons, evOr_cons, evS_set, evS_par, evS_unp, evS_sub, evS_subs, evS_aug, evS_ex, evS_ret, evS_ite, evS_whl, evS_for, evS_brk, evS_pass, itE, pIter, srcOf, chk_nil, compEnd, evAnd1, evSub, evLT, evSubs, R.bind, R.thn, RS.turn, PR.fin, asB, kRef, kNeg, kNot, kIsn, kIsb, kTup, kInst, kSet, kPar, kPut, kAug, kSubs, isNon_non, isNon_bl, isNon_int, isNon_str, isNon_tup, isNon_lst, isNon_klst, isNon_ref, isT_non_int, isT_non_bool, isT_non_tuple, isT_non_list, isT_non_str, isT_non_tuple_list, isT_non_list_tuple, isT_bl_int, isT_bl_bool, isT_bl_tuple, isT_bl_list, isT_bl_str, isT_bl_tuple_list, isT_bl_list_tuple, isT_int_int, isT_int_bool, isT_int_tuple, isT_int_list, isT_int_str, isT_int_tuple_list, isT_int_list_tuple, isT_str_int, isT_str_bool, isT_str_tuple, isT_str_list, isT_str_str, isT_str_tuple_list, isT_str_list_tuple, isT_tup_int, isT_tup_bool, isT_tup_tuple, isT_tup_list, isT_tup_str, isT_tup_tuple_list, isT_tup_list_tuple, isT_lst_int, isT_lst_bool, isT_lst_tuple, isT_lst_list, isT_lst_str, isT_lst_tuple_list, isT_lst_list_tuple, isT_klst_int, isT_klst_bool, isT_klst_tuple, isT_klst_list, isT_klst_str, isT_klst_tuple_list, isT_klst_list_tuple, isT_ref_int, isT_ref_bool, isT_ref_tuple, isT_ref_list, isT_ref_str, isT_ref_tuple_list, isT_ref_list_tuple, cmp_eqI, cmp_neI, cmp_ltI, cmp_leI, cmp_gtI, cmp_geI, cmp_eqB, cmp_neB, idx_hand0, set_hand0, idx_hand1, set_hand1, idx_hand2, set_hand2, idx_hand3, set_hand3, idx_hand4, set_hand4, pBin, idx_tup0, idx_tup1, idx_tup2, idx_tup3, idx_tup4, idx_tup5, idx_tup6, idx_tup7, Int.cast_ofNat_Int, blt_abs, blt_int, blt_intB, blt_len_tup, blt_len_lst, blt_len_klst, blt_tuple_tup, blt_tuple_lst, blt_list_tup, blt_list_lst, blt_sum, blt_all_lst, blt_any_lst, blt_max2, blt_min2, intsD, boolsD, List.length_map, items, place, put, putL, wipe, Tg.names, Tg.namesL, deref, List.map_cons, List.map_nil, List.length_cons, List.length_nil, List.getElem?_cons_zero, List.getElem?_cons_succ, List.getElem?_nil, List.getElem?_append, List.set_cons_zero, List.set_cons_succ, List.set_nil, List.cons_append, List.nil_append, List.append_nil, List.replicate_succ, List.replicate_zero, Nat.sub_self, Nat.add_sub_cancel, Option.map_some, Option.map_none, Option.bind_some, Option.bind_none, Option.some.injEq, if_true, if_false, ite_true, ite_false, Bool.false_eq_true, reduceCtorEq, Nat.reduceSub, Nat.reduceAdd, Nat.reduceLT, Nat.reduceLeDiff, Nat.reduceEqDiff, Nat.reduceMul, Int.reduceLT, Int.reduceLE, Int.reduceEq, Int.reduceNe, Int.reducePow, Int.reduceToNat, Int.reduceNeg, Int.reduceNegSucc, Nat.zero_add, Int.reduceAdd, Int.reduceSub, Int.reduceMul, not_true_eq_false, not_false_eq_true, Nat.lt_irrefl, Nat.zero_le, Nat.zero_lt_succ, Nat.succ_sub_succ_eq_sub, Nat.reduceSucc, bne_tt, bne_tf, bne_ft, Bool.not_true, Bool.not_false, Bool.true_and, Bool.false_and, Bool.and_true, Bool.and_false, Bool.or_true, Bool.or_false, Bool.true_or, Bool.false_or, bne_self_eq_false, beq_self_eq_true, hc, decide_true, decide_false, md, mk, two, hs, ne_eq, not_false_eq_true, and_self]
    · have e1 : hi = lo + 1 := by omega
      have e2 : lo ≤ m := by
        by_cases c : lo ≤ m
        · exact c
        · exfalso
          have h5 : m + 1 ≤ lo := by omega
          have := Int.mul_le_mul h5 h5 (by omega) (by omega)
          have e : (m + 1) * (m + 1) = m * m + 2 * m + 1 := by grind
          omega
      have e3 : m < hi := sq_lt hm h4 h2
      have e4 : lo = m := by omega
      subst e4
      refine ⟨some (.int hi), mi, ?_⟩
      rw [loop_fin (r := .ok .nx [some (.int (lo * lo)), some (.int lo), some (.int hi), mi] s)]
      simp only [whT, runFn, evSs, ev_var, ev_int, ev_bl, ev_non, ev_str, ev_glob, ev_bin, ev_neg, ev_not, ev_and, ev_or, ev_cmp, ev_chain, ev_isn, ev_isb, ev_ite, ev_tup, ev_lst, ev_idx, ev_slice, ev_call, ev_blt, ev_inst, ev_meth, ev_comp, evL_nil, evL_cons, evAnd_1, evOr_1, evAnd_cons, evOr_cons, evS_set, evS_par, evS_unp, evS_sub, evS_subs, evS_aug, evS_ex, evS_ret, evS_ite, evS_whl, evS_for, evS_brk, evS_pass, itE, pIter, srcOf, chk_nil, compEnd, evAnd1, evSub, evLT, evSubs, R.bind, R.thn, RS.turn, PR.fin, asB, kRef, kNeg, kNot, kIsn, kIsb, kTup, kInst, kSet, kPar, kPut, kAug, kSubs, isNon_non, isNon_bl, isNon_int, isNon_str, isNon_tup, isNon_lst, isNon_klst, isNon_ref, isT_non_int, isT_non_bool, isT_non_tuple, isT_non_list, isT_non_str, isT_non_tuple_list, isT_non_list_tuple, isT_bl_int, isT_bl_bool, isT_bl_tuple, isT_bl_list, isT_bl_str, isT_bl_tuple_list, isT_bl_list_tuple, isT_int_int, isT_int_bool, isT_int_tuple, isT_int_list, isT_int_str, isT_int_tuple_list, isT_int_list_tuple, isT_str_int, isT_str_bool, isT_str_tuple, isT_str_list, isT_str_str, isT_str_tuple_list, isT_str_list_tuple, isT_tup_int, isT_tup_bool, isT_tup_tuple, isT_tup_list, isT_tup_str, isT_tup_tuple_list, isT_tup_list_tuple, isT_lst_int, isT_lst_bool, isT_lst_tuple, isT_lst_list, isT_lst_str, isT_lst_tuple_list, isT_lst_list_tuple, isT_klst_int, isT_klst_bool, isT_klst_tuple, isT_klst_list, isT_klst_str, isT_klst_tuple_list, isT_klst_list_tuple, isT_ref_int, isT_ref_bool, isT_ref_tuple, isT_ref_list, isT_ref_str, isT_ref_tuple_list, isT_ref_list_tuple, cmp_eqI, cmp_neI, cmp_ltI, cmp_leI, cmp_gtI, cmp_geI, cmp_eqB, cmp_neB, idx_hand0, set_hand0, idx_hand1, set_hand1, idx_hand2, set_hand2, idx_hand3, set_hand3, idx_hand4, set_hand4, pBin, idx_tup0, idx_tup1, idx_tup2, idx_tup3, idx_tup4, idx_tup5, idx_tup6, idx_tup7, Int.cast_ofNat_Int, blt_abs, blt_int, blt_intB, blt_len_tup, blt_len_lst, blt_len_klst, blt_tuple_tup, blt_tuple_lst, blt_list_tup, blt_list_lst, blt_sum, blt_all_lst, blt_any_lst, blt_max2, blt_min2, intsD, boolsD, List.length_map, items, place, put, putL, wipe, Tg.names, Tg.namesL, deref, List.map_cons, List.map_nil, List.length_cons, List.length_nil, List.getElem?_cons_zero, List.getElem?_cons_succ, List.getElem?_nil, List.getElem?_append, List.set_cons_zero, List.set_cons_succ, List.set_nil, List.cons_append, List.nil_append, List.append_nil, List.replicate_succ, List.replicate_zero, Nat.sub_self, Nat.add_sub_cancel, Option.map_some, Option.map_none, Option.bind_some, Option.bind_none, Option.some.injEq, if_true, if_false, ite_true, ite_false, Bool.false_eq_true, reduceCtorEq, Nat.reduceSub, Nat.reduceAdd, Nat.reduceLT, Nat.reduceLeDiff, Nat.reduceEqDiff, Nat.reduceMul, Int.reduceLT, Int.reduceLE, Int.reduceEq, Int.reduceNe, Int.reducePow, Int.reduceToNat, Int.reduceNeg, Int.reduceNegSucc, Nat.zero_add, Int.reduceAdd, Int.reduceSub, Int.reduceMul, not_true_eq_false, not_false_eq_true, Nat.lt_irrefl, Nat.zero_le, Nat.zero_lt_succ, Nat.succ_sub_succ_eq_sub, Nat.reduceSucc, bne_tt, bne_tf, bne_ft, Bool.not_true, Bool.not_false, Bool.true_and, Bool.false_and, Bool.and_true, Bool.and_false, Bool.or_true, Bool.or_false, Bool.true_or, Bool.false_or, bne_self_eq_false, beq_self_eq_true, hc, decide_false]
theorem big_most : big < most := Nat.pow_lt_pow_right (by decide) (by omega)
theorem run_root {n : Nat} (h : Has P Pl.Q_root) (m : Int) (hm : 0 ≤ m) (hb : m * m + 1 < (big : Int)) : run P (n + 1) 115 [.int (m * m)] s = .ok (.int m) s := by
  have sq : 0 ≤ m * m := Int.mul_nonneg hm hm
  have gr : m * m < (m * m + 1) * (m * m + 1) := by
    have e : (m * m + 1) * (m * m + 1) = (m * m) * (m * m) + 2 * (m * m) + 1 := by grind
    have : 0 ≤ (m * m) * (m * m) := Int.mul_nonneg sq sq
    omega
  have mm : m ≤ m * m := by
    by_cases c : m = 0
    · subst c; decide
    · have := Int.mul_le_mul_of_nonneg_left (show (1 : Int) ≤ m by omega) hm
      omega
  have bm := big_most
  have fu : (m * m + 1 - 0).toNat < most := by omega
  obtain ⟨hi', mi', lp⟩ := loop_root (s := s) (run P n) P.G m hm most 0 (m * m + 1) none (by omega) (by omega) gr hb (by omega) fu
  have ng : ¬ m * m < 0 := by omega
  have mk : mulOk m m = true := mulOk_big (by omega) (by omega)
  rw [has_run (F := Pl.F_root) h (by decide) rfl]
  simp only [Pl.F_root, Pl.B_root, runFn, evSs, ev_var, ev_int, ev_bl, ev_non, ev_str, ev_glob, ev_bin, ev_neg, ev_not, ev_and, ev_or, ev_cmp, ev_chain, ev_isn, ev_isb, ev_ite, ev_tup, ev_lst, ev_idx, ev_slice, ev_call, ev_blt, ev_inst, ev_meth, ev_comp, evL_nil, evL_cons, evAnd_1, evOr_1, evAnd_cons, evOr_cons, evS_set, evS_par, evS_unp, evS_sub, evS_subs, evS_aug, evS_ex, evS_ret, evS_ite, evS_whl, evS_for, evS_brk, evS_pass, itE, pIter, srcOf, chk_nil, compEnd, evAnd1, evSub, evLT, evSubs, R.bind, R.thn, RS.turn, PR.fin, asB, kRef, kNeg, kNot, kIsn, kIsb, kTup, kInst, kSet, kPar, kPut, kAug, kSubs, isNon_non, isNon_bl, isNon_int, isNon_str, isNon_tup, isNon_lst, isNon_klst, isNon_ref, isT_non_int, isT_non_bool, isT_non_tuple, isT_non_list, isT_non_str, isT_non_tuple_list, isT_non_list_tuple, isT_bl_int, isT_bl_bool, isT_bl_tuple, isT_bl_list, isT_bl_str, isT_bl_tuple_list, isT_bl_list_tuple, isT_int_int, isT_int_bool, isT_int_tuple, isT_int_list, isT_int_str, isT_int_tuple_list, isT_int_list_tuple, isT_str_int, isT_str_bool, isT_str_tuple, isT_str_list, isT_str_str, isT_str_tuple_list, isT_str_list_tuple, isT_tup_int, isT_tup_bool, isT_tup_tuple, isT_tup_list, isT_tup_str, isT_tup_tuple_list, isT_tup_list_tuple, isT_lst_int, isT_lst_bool, isT_lst_tuple, isT_lst_list, isT_lst_str, isT_lst_tuple_list, isT_lst_list_tuple, isT_klst_int, isT_klst_bool, isT_klst_tuple, isT_klst_list, isT_klst_str, isT_klst_tuple_list, isT_klst_list_tuple, isT_ref_int, isT_ref_bool, isT_ref_tuple, isT_ref_list, isT_ref_str, isT_ref_tuple_list, isT_ref_list_tuple, cmp_eqI, cmp_neI, cmp_ltI, cmp_leI, cmp_gtI, cmp_geI, cmp_eqB, cmp_neB, idx_hand0, set_hand0, idx_hand1, set_hand1, idx_hand2, set_hand2, idx_hand3, set_hand3, idx_hand4, set_hand4, pBin, idx_tup0, idx_tup1, idx_tup2, idx_tup3, idx_tup4, idx_tup5, idx_tup6, idx_tup7, Int.cast_ofNat_Int, blt_abs, blt_int, blt_intB, blt_len_tup, blt_len_lst, blt_len_klst, blt_tuple_tup, blt_tuple_lst, blt_list_tup, blt_list_lst, blt_sum, blt_all_lst, blt_any_lst, blt_max2, blt_min2, intsD, boolsD, List.length_map, items, place, put, putL, wipe, Tg.names, Tg.namesL, deref, List.map_cons, List.map_nil, List.length_cons, List.length_nil, List.getElem?_cons_zero, List.getElem?_cons_succ, List.getElem?_nil, List.getElem?_append, List.set_cons_zero, List.set_cons_succ, List.set_nil, List.cons_append, List.nil_append, List.append_nil, List.replicate_succ, List.replicate_zero, Nat.sub_self, Nat.add_sub_cancel, Option.map_some, Option.map_none, Option.bind_some, Option.bind_none, Option.some.injEq, if_true, if_false, ite_true, ite_false, Bool.false_eq_true, reduceCtorEq, Nat.reduceSub, Nat.reduceAdd, Nat.reduceLT, Nat.reduceLeDiff, Nat.reduceEqDiff, Nat.reduceMul, Int.reduceLT, Int.reduceLE, Int.reduceEq, Int.reduceNe, Int.reducePow, Int.reduceToNat, Int.reduceNeg, Int.reduceNegSucc, Nat.zero_add, Int.reduceAdd, Int.reduceSub, Int.reduceMul, not_true_eq_false, not_false_eq_true, Nat.lt_irrefl, Nat.zero_le, Nat.zero_lt_succ, Nat.succ_sub_succ_eq_sub, Nat.reduceSucc, bne_tt, bne_tf, bne_ft, Bool.not_true, Bool.not_false, Bool.true_and, Bool.false_and, Bool.and_true, Bool.and_false, Bool.or_true, Bool.or_false, Bool.true_or, Bool.false_or, bne_self_eq_false, beq_self_eq_true, ng, decide_false, lp, mk, decide_true]
theorem sq_num (r : Rat) : (r * r).num = r.num * r.num ∧ (r * r).den = r.den * r.den := by
  have e : r * r = r ^ 2 := by rw [Rat.pow_succ, Rat.pow_one]
  rw [e, Rat.num_pow, Rat.den_pow]
  exact ⟨by rw [Int.pow_succ, Int.pow_one], by rw [Nat.pow_succ, Nat.pow_one]⟩
theorem small_sq {k n : Nat} (h : n < 2 ^ k) (hk : k ≤ 20000) : ((n : Int) * n + 1) < (big : Int) := by
  have h1 := lt_mul_pow h h
  have h2 : 2 ^ (k + k + 1) ≤ big := two_pow_le (by omega)
  rw [Nat.pow_succ] at h2
  have h3 : ((n * n : Nat) : Int) = (n : Int) * n := Int.natCast_mul _ _
  have := Nat.two_pow_pos (k + k)
  omega
theorem run_width_of {n k : Nat} (h : Has P Pl.Q_width_of) (x y r : Rat) [bx : Bq k x] [bQ : Bq k y] [bq : Bq k r] (hk : k ≤ 50) (hr : 0 < r) : run P (n + 7) 507 [circ x y (r * r)] s = .ok (fr r) s := by
  have : Bq (k + k) x := bx.mono (by omega)
  have : Bq (k + k) y := bQ.mono (by omega)
  have so := run_square_of (n := n) (s := s) (h.sub (by decide)) x y (r * r) (by omega) (Rat.mul_pos hr hr)
  obtain ⟨e1, e2⟩ := sq_num r
  have np := num_pos hr
  have rn := run_root (n := n + 4) (s := s) (h.sub (by decide)) r.num (by omega) (by
    have := small_sq bq.num (by omega)
    rwa [show ((r.num.natAbs : Nat) : Int) = r.num by omega] at this)
  have rd := run_root (n := n + 4) (s := s) (h.sub (by decide)) r.den (by omega) (small_sq bq.den (by omega))
  have fr' : run P (n + 6) 120 [fr (r * r)] s = .ok (fr r) s := by
    rw [has_run (F := Pl.F_fraction_root) (h.sub (l' := Pl.Q_fraction_root) (by decide)) (by decide) rfl]
    have e2' : ((r * r).den : Int) = (r.den : Int) * r.den := by rw [e2, Int.natCast_mul]
    simp only [Pl.F_fraction_root, Pl.B_fraction_root, runFn, evSs, ev_var, ev_int, ev_bl, ev_non, ev_str, ev_glob, ev_bin, ev_neg, ev_not, ev_and, ev_or, ev_cmp, ev_chain, ev_isn, ev_isb, ev_ite, ev_tup, ev_lst, ev_idx, ev_slice, ev_call, ev_blt, ev_inst, ev_meth, ev_comp, evL_nil, evL_cons, evAnd_1, evOr_1, evAnd_cons, evOr_cons, evS_set, evS_par, evS_unp, evS_sub, evS_subs, evS_aug, evS_ex, evS_ret, evS_ite, evS_whl, evS_for, evS_brk, evS_pass, itE, pIter, srcOf, chk_nil, compEnd, evAnd1, evSub, evLT, evSubs, R.bind, R.thn, RS.turn, PR.fin, asB, kRef, kNeg, kNot, kIsn, kIsb, kTup, kInst, kSet, kPar, kPut, kAug, kSubs, isNon_non, isNon_bl, isNon_int, isNon_str, isNon_tup, isNon_lst, isNon_klst, isNon_ref, isT_non_int, isT_non_bool, isT_non_tuple, isT_non_list, isT_non_str, isT_non_tuple_list, isT_non_list_tuple, isT_bl_int, isT_bl_bool, isT_bl_tuple, isT_bl_list, isT_bl_str, isT_bl_tuple_list, isT_bl_list_tuple, isT_int_int, isT_int_bool, isT_int_tuple, isT_int_list, isT_int_str, isT_int_tuple_list, isT_int_list_tuple, isT_str_int, isT_str_bool, isT_str_tuple, isT_str_list, isT_str_str, isT_str_tuple_list, isT_str_list_tuple, isT_tup_int, isT_tup_bool, isT_tup_tuple, isT_tup_list, isT_tup_str, isT_tup_tuple_list, isT_tup_list_tuple, isT_lst_int, isT_lst_bool, isT_lst_tuple, isT_lst_list, isT_lst_str, isT_lst_tuple_list, isT_lst_list_tuple, isT_klst_int, isT_klst_bool, isT_klst_tuple, isT_klst_list, isT_klst_str, isT_klst_tuple_list, isT_klst_list_tuple, isT_ref_int, isT_ref_bool, isT_ref_tuple, isT_ref_list, isT_ref_str, isT_ref_tuple_list, isT_ref_list_tuple, cmp_eqI, cmp_neI, cmp_ltI, cmp_leI, cmp_gtI, cmp_geI, cmp_eqB, cmp_neB, idx_hand0, set_hand0, idx_hand1, set_hand1, idx_hand2, set_hand2, idx_hand3, set_hand3, idx_hand4, set_hand4, pBin, idx_tup0, idx_tup1, idx_tup2, idx_tup3, idx_tup4, idx_tup5, idx_tup6, idx_tup7, Int.cast_ofNat_Int, blt_abs, blt_int, blt_intB, blt_len_tup, blt_len_lst, blt_len_klst, blt_tuple_tup, blt_tuple_lst, blt_list_tup, blt_list_lst, blt_sum, blt_all_lst, blt_any_lst, blt_max2, blt_min2, intsD, boolsD, List.length_map, items, place, put, putL, wipe, Tg.names, Tg.namesL, deref, List.map_cons, List.map_nil, List.length_cons, List.length_nil, List.getElem?_cons_zero, List.getElem?_cons_succ, List.getElem?_nil, List.getElem?_append, List.set_cons_zero, List.set_cons_succ, List.set_nil, List.cons_append, List.nil_append, List.append_nil, List.replicate_succ, List.replicate_zero, Nat.sub_self, Nat.add_sub_cancel, Option.map_some, Option.map_none, Option.bind_some, Option.bind_none, Option.some.injEq, if_true, if_false, ite_true, ite_false, Bool.false_eq_true, reduceCtorEq, Nat.reduceSub, Nat.reduceAdd, Nat.reduceLT, Nat.reduceLeDiff, Nat.reduceEqDiff, Nat.reduceMul, Int.reduceLT, Int.reduceLE, Int.reduceEq, Int.reduceNe, Int.reducePow, Int.reduceToNat, Int.reduceNeg, Int.reduceNegSucc, Nat.zero_add, Int.reduceAdd, Int.reduceSub, Int.reduceMul, not_true_eq_false, not_false_eq_true, Nat.lt_irrefl, Nat.zero_le, Nat.zero_lt_succ, Nat.succ_sub_succ_eq_sub, Nat.reduceSucc, bne_tt, bne_tf, bne_ft, Bool.not_true, Bool.not_false, Bool.true_and, Bool.false_and, Bool.and_true, Bool.and_false, Bool.or_true, Bool.or_false, Bool.true_or, Bool.false_or, bne_self_eq_false, beq_self_eq_true, idx_fr0, idx_fr1, e1, e2', rn, rd]
    rfl
  rw [has_run (F := Pl.F_width_of) h (by decide) rfl]
  simp only [Pl.F_width_of, Pl.B_width_of, runFn, evSs, ev_var, ev_int, ev_bl, ev_non, ev_str, ev_glob, ev_bin, ev_neg, ev_not, ev_and, ev_or, ev_cmp, ev_chain, ev_isn, ev_isb, ev_ite, ev_tup, ev_lst, ev_idx, ev_slice, ev_call, ev_blt, ev_inst, ev_meth, ev_comp, evL_nil, evL_cons, evAnd_1, evOr_1, evAnd_cons, evOr_cons, evS_set, evS_par, evS_unp, evS_sub, evS_subs, evS_aug, evS_ex, evS_ret, evS_ite, evS_whl, evS_for, evS_brk, evS_pass, itE, pIter, srcOf, chk_nil, compEnd, evAnd1, evSub, evLT, evSubs, R.bind, R.thn, RS.turn, PR.fin, asB, kRef, kNeg, kNot, kIsn, kIsb, kTup, kInst, kSet, kPar, kPut, kAug, kSubs, isNon_non, isNon_bl, isNon_int, isNon_str, isNon_tup, isNon_lst, isNon_klst, isNon_ref, isT_non_int, isT_non_bool, isT_non_tuple, isT_non_list, isT_non_str, isT_non_tuple_list, isT_non_list_tuple, isT_bl_int, isT_bl_bool, isT_bl_tuple, isT_bl_list, isT_bl_str, isT_bl_tuple_list, isT_bl_list_tuple, isT_int_int, isT_int_bool, isT_int_tuple, isT_int_list, isT_int_str, isT_int_tuple_list, isT_int_list_tuple, isT_str_int, isT_str_bool, isT_str_tuple, isT_str_list, isT_str_str, isT_str_tuple_list, isT_str_list_tuple, isT_tup_int, isT_tup_bool, isT_tup_tuple, isT_tup_list, isT_tup_str, isT_tup_tuple_list, isT_tup_list_tuple, isT_lst_int, isT_lst_bool, isT_lst_tuple, isT_lst_list, isT_lst_str, isT_lst_tuple_list, isT_lst_list_tuple, isT_klst_int, isT_klst_bool, isT_klst_tuple, isT_klst_list, isT_klst_str, isT_klst_tuple_list, isT_klst_list_tuple, isT_ref_int, isT_ref_bool, isT_ref_tuple, isT_ref_list, isT_ref_str, isT_ref_tuple_list, isT_ref_list_tuple, cmp_eqI, cmp_neI, cmp_ltI, cmp_leI, cmp_gtI, cmp_geI, cmp_eqB, cmp_neB, idx_hand0, set_hand0, idx_hand1, set_hand1, idx_hand2, set_hand2, idx_hand3, set_hand3, idx_hand4, set_hand4, pBin, idx_tup0, idx_tup1, idx_tup2, idx_tup3, idx_tup4, idx_tup5, idx_tup6, idx_tup7, Int.cast_ofNat_Int, blt_abs, blt_int, blt_intB, blt_len_tup, blt_len_lst, blt_len_klst, blt_tuple_tup, blt_tuple_lst, blt_list_tup, blt_list_lst, blt_sum, blt_all_lst, blt_any_lst, blt_max2, blt_min2, intsD, boolsD, List.length_map, items, place, put, putL, wipe, Tg.names, Tg.namesL, deref, List.map_cons, List.map_nil, List.length_cons, List.length_nil, List.getElem?_cons_zero, List.getElem?_cons_succ, List.getElem?_nil, List.getElem?_append, List.set_cons_zero, List.set_cons_succ, List.set_nil, List.cons_append, List.nil_append, List.append_nil, List.replicate_succ, List.replicate_zero, Nat.sub_self, Nat.add_sub_cancel, Option.map_some, Option.map_none, Option.bind_some, Option.bind_none, Option.some.injEq, if_true, if_false, ite_true, ite_false, Bool.false_eq_true, reduceCtorEq, Nat.reduceSub, Nat.reduceAdd, Nat.reduceLT, Nat.reduceLeDiff, Nat.reduceEqDiff, Nat.reduceMul, Int.reduceLT, Int.reduceLE, Int.reduceEq, Int.reduceNe, Int.reducePow, Int.reduceToNat, Int.reduceNeg, Int.reduceNegSucc, Nat.zero_add, Int.reduceAdd, Int.reduceSub, Int.reduceMul, not_true_eq_false, not_false_eq_true, Nat.lt_irrefl, Nat.zero_le, Nat.zero_lt_succ, Nat.succ_sub_succ_eq_sub, Nat.reduceSucc, bne_tt, bne_tf, bne_ft, Bool.not_true, Bool.not_false, Bool.true_and, Bool.false_and, Bool.and_true, Bool.and_false, Bool.or_true, Bool.or_false, Bool.true_or, Bool.false_or, bne_self_eq_false, beq_self_eq_true, so, fr']
theorem run_check_width {n k : Nat} (h : Has P Pl.Q_check_width) (x y r : Rat) [bx : Bq k x] [bQ : Bq k y] [bq : Bq k r] (hk : k ≤ 50) (hr : 0 < r) : run P (n + 8) 508 [circ x y (r * r)] s = .ok (fr r) s := by
  have w := run_width_of (n := n) (s := s) (h.sub (by decide)) x y r hk hr
  rw [has_run (F := Pl.F_check_width) h (by decide) rfl]
  have nf : isNon (fr r) = false := rfl
  simp only [Pl.F_check_width, Pl.B_check_width, runFn, evSs, ev_var, ev_int, ev_bl, ev_non, ev_str, ev_glob, ev_bin, ev_neg, ev_not, ev_and, ev_or, ev_cmp, ev_chain, ev_isn, ev_isb, ev_ite, ev_tup, ev_lst, ev_idx, ev_slice, ev_call, ev_blt, ev_inst, ev_meth, ev_comp, evL_nil, evL_cons, evAnd_1, evOr_1, evAnd_cons, evOr_cons, evS_set, evS_par, evS_unp, evS_sub, evS_subs, evS_aug, evS_ex, evS_ret, evS_ite, evS_whl, evS_for, evS_brk, evS_pass, itE, pIter, chk_nil, compEnd, evAnd1, evSub, evLT, evSubs, R.bind, R.thn, RS.turn, PR.fin, asB, kRef, kNeg, kNot, kIsn, kIsb, kTup, kInst, kSet, kPar, kPut, kAug, kSubs, isNon_non, isNon_bl, isNon_int, isNon_str, isNon_tup, isNon_lst, isNon_klst, isNon_ref, isT_non_int, isT_non_bool, isT_non_tuple, isT_non_list, isT_non_str, isT_non_tuple_list, isT_non_list_tuple, isT_bl_int, isT_bl_bool, isT_bl_tuple, isT_bl_list, isT_bl_str, isT_bl_tuple_list, isT_bl_list_tuple, isT_int_int, isT_int_bool, isT_int_tuple, isT_int_list, isT_int_str, isT_int_tuple_list, isT_int_list_tuple, isT_str_int, isT_str_bool, isT_str_tuple, isT_str_list, isT_str_str, isT_str_tuple_list, isT_str_list_tuple, isT_tup_int, isT_tup_bool, isT_tup_tuple, isT_tup_list, isT_tup_str, isT_tup_tuple_list, isT_tup_list_tuple, isT_lst_int, isT_lst_bool, isT_lst_tuple, isT_lst_list, isT_lst_str, isT_lst_tuple_list, isT_lst_list_tuple, isT_klst_int, isT_klst_bool, isT_klst_tuple, isT_klst_list, isT_klst_str, isT_klst_tuple_list, isT_klst_list_tuple, isT_ref_int, isT_ref_bool, isT_ref_tuple, isT_ref_list, isT_ref_str, isT_ref_tuple_list, isT_ref_list_tuple, cmp_eqI, cmp_neI, cmp_ltI, cmp_leI, cmp_gtI, cmp_geI, cmp_eqB, cmp_neB, idx_hand0, set_hand0, idx_hand1, set_hand1, idx_hand2, set_hand2, idx_hand3, set_hand3, idx_hand4, set_hand4, pBin, idx_tup0, idx_tup1, idx_tup2, idx_tup3, idx_tup4, idx_tup5, idx_tup6, idx_tup7, Int.cast_ofNat_Int, blt_abs, blt_int, blt_intB, blt_len_tup, blt_len_lst, blt_len_klst, blt_tuple_tup, blt_tuple_lst, blt_list_tup, blt_list_lst, blt_sum, blt_all_lst, blt_any_lst, blt_max2, blt_min2, intsD, boolsD, List.length_map, items, place, put, putL, wipe, Tg.names, Tg.namesL, deref, List.map_cons, List.map_nil, List.length_cons, List.length_nil, List.getElem?_cons_zero, List.getElem?_cons_succ, List.getElem?_nil, List.getElem?_append, List.set_cons_zero, List.set_cons_succ, List.set_nil, List.cons_append, List.nil_append, List.append_nil, List.replicate_succ, List.replicate_zero, Nat.sub_self, Nat.add_sub_cancel, Option.map_some, Option.map_none, Option.bind_some, Option.bind_none, Option.some.injEq, if_true, if_false, ite_true, ite_false, Bool.false_eq_true, reduceCtorEq, Nat.reduceSub, Nat.reduceAdd, Nat.reduceLT, Nat.reduceLeDiff, Nat.reduceEqDiff, Nat.reduceMul, Int.reduceLT, Int.reduceLE, Int.reduceEq, Int.reduceNe, Int.reducePow, Int.reduceToNat, Int.reduceNeg, Int.reduceNegSucc, Nat.zero_add, Int.reduceAdd, Int.reduceSub, Int.reduceMul, not_true_eq_false, not_false_eq_true, Nat.lt_irrefl, Nat.zero_le, Nat.zero_lt_succ, Nat.succ_sub_succ_eq_sub, Nat.reduceSucc, bne_tt, bne_tf, bne_ft, Bool.not_true, Bool.not_false, Bool.true_and, Bool.false_and, Bool.and_true, Bool.and_false, Bool.or_true, Bool.or_false, Bool.true_or, Bool.false_or, bne_self_eq_false, beq_self_eq_true, w, kIsn, nf]
theorem run_square_between {n k : Nat} (h : Has P Pl.Q_square_between) (x y u v : Rat) [bx : Bq k x] [bQ : Bq k y] [bu : Bq k u] [bv : Bq k v] (hk : k ≤ 500) : run P (n + 5) 160 [pt x y, pt u v] s = .ok (fr ((x - u) * (x - u) + (y - v) * (y - v))) s := by
  have p1 := run_places (n := n) (s := s) (h.sub (by decide)) x y (by omega) (by omega)
  have p2 := run_places (n := n) (s := s) (h.sub (by decide)) u v (by omega) (by omega)
  have m1 := run_minus (s := s) (h.sub (by decide)) x u (by omega) (by omega) (n + 1)
  have m2 := run_minus (s := s) (h.sub (by decide)) y v (by omega) (by omega) (n + 1)
  have t1 := run_times (s := s) (h.sub (by decide)) (x - u) (x - u) (by omega) (by omega) (n + 1)
  have t2 := run_times (s := s) (h.sub (by decide)) (y - v) (y - v) (by omega) (by omega) (n + 1)
  have a1 := run_plus (s := s) (h.sub (by decide)) ((x - u) * (x - u)) ((y - v) * (y - v)) (by omega) (by omega) (n + 1)
  rw [has_run (F := Pl.F_square_between) h (by decide) rfl]
  simp only [Pl.F_square_between, Pl.B_square_between, runFn, evSs, ev_var, ev_int, ev_bl, ev_non, ev_str, ev_glob, ev_bin, ev_neg, ev_not, ev_and, ev_or, ev_cmp, ev_chain, ev_isn, ev_isb, ev_ite, ev_tup, ev_lst, ev_idx, ev_slice, ev_call, ev_blt, ev_inst, ev_meth, ev_comp, evL_nil, evL_cons, evAnd_1, evOr_1, evAnd_cons, evOr_cons, evS_set, evS_par, evS_unp, evS_sub, evS_subs, evS_aug, evS_ex, evS_ret, evS_ite, evS_whl, evS_for, evS_brk, evS_pass, itE, pIter, srcOf, chk_nil, compEnd, evAnd1, evSub, evLT, evSubs, R.bind, R.thn, RS.turn, PR.fin, asB, kRef, kNeg, kNot, kIsn, kIsb, kTup, kInst, kSet, kPar, kPut, kAug, kSubs, isNon_non, isNon_bl, isNon_int, isNon_str, isNon_tup, isNon_lst, isNon_klst, isNon_ref, isT_non_int, isT_non_bool, isT_non_tuple, isT_non_list, isT_non_str, isT_non_tuple_list, isT_non_list_tuple, isT_bl_int, isT_bl_bool, isT_bl_tuple, isT_bl_list, isT_bl_str, isT_bl_tuple_list, isT_bl_list_tuple, isT_int_int, isT_int_bool, isT_int_tuple, isT_int_list, isT_int_str, isT_int_tuple_list, isT_int_list_tuple, isT_str_int, isT_str_bool, isT_str_tuple, isT_str_list, isT_str_str, isT_str_tuple_list, isT_str_list_tuple, isT_tup_int, isT_tup_bool, isT_tup_tuple, isT_tup_list, isT_tup_str, isT_tup_tuple_list, isT_tup_list_tuple, isT_lst_int, isT_lst_bool, isT_lst_tuple, isT_lst_list, isT_lst_str, isT_lst_tuple_list, isT_lst_list_tuple, isT_klst_int, isT_klst_bool, isT_klst_tuple, isT_klst_list, isT_klst_str, isT_klst_tuple_list, isT_klst_list_tuple, isT_ref_int, isT_ref_bool, isT_ref_tuple, isT_ref_list, isT_ref_str, isT_ref_tuple_list, isT_ref_list_tuple, cmp_eqI, cmp_neI, cmp_ltI, cmp_leI, cmp_gtI, cmp_geI, cmp_eqB, cmp_neB, idx_hand0, set_hand0, idx_hand1, set_hand1, idx_hand2, set_hand2, idx_hand3, set_hand3, idx_hand4, set_hand4, pBin, idx_tup0, idx_tup1, idx_tup2, idx_tup3, idx_tup4, idx_tup5, idx_tup6, idx_tup7, Int.cast_ofNat_Int, blt_abs, blt_int, blt_intB, blt_len_tup, blt_len_lst, blt_len_klst, blt_tuple_tup, blt_tuple_lst, blt_list_tup, blt_list_lst, blt_sum, blt_all_lst, blt_any_lst, blt_max2, blt_min2, intsD, boolsD, List.length_map, items, place, put, putL, wipe, Tg.names, Tg.namesL, deref, List.map_cons, List.map_nil, List.length_cons, List.length_nil, List.getElem?_cons_zero, List.getElem?_cons_succ, List.getElem?_nil, List.getElem?_append, List.set_cons_zero, List.set_cons_succ, List.set_nil, List.cons_append, List.nil_append, List.append_nil, List.replicate_succ, List.replicate_zero, Nat.sub_self, Nat.add_sub_cancel, Option.map_some, Option.map_none, Option.bind_some, Option.bind_none, Option.some.injEq, if_true, if_false, ite_true, ite_false, Bool.false_eq_true, reduceCtorEq, Nat.reduceSub, Nat.reduceAdd, Nat.reduceLT, Nat.reduceLeDiff, Nat.reduceEqDiff, Nat.reduceMul, Int.reduceLT, Int.reduceLE, Int.reduceEq, Int.reduceNe, Int.reducePow, Int.reduceToNat, Int.reduceNeg, Int.reduceNegSucc, Nat.zero_add, Int.reduceAdd, Int.reduceSub, Int.reduceMul, not_true_eq_false, not_false_eq_true, Nat.lt_irrefl, Nat.zero_le, Nat.zero_lt_succ, Nat.succ_sub_succ_eq_sub, Nat.reduceSucc, bne_tt, bne_tf, bne_ft, Bool.not_true, Bool.not_false, Bool.true_and, Bool.false_and, Bool.and_true, Bool.and_false, Bool.or_true, Bool.or_false, Bool.true_or, Bool.false_or, bne_self_eq_false, beq_self_eq_true, p1, p2, m1, m2, t1, t2, a1]
end
end Pi

set_option Elab.async false
set_option linter.all false
set_option maxRecDepth 100000
namespace Pi
open PySem
section
variable {P : Prog} {s : Store}
theorem fr_ro (q : Rat) : fr q = ro [q.num, q.den] := rfl
theorem fr_inj {a b : Rat} : ([a.num, (a.den : Int)] = [b.num, (b.den : Int)]) ↔ a = b := by
  constructor
  · intro h
    simp only [List.cons.injEq, and_true] at h
    exact Rat.ext h.1 (by omega)
  · rintro rfl
    rfl
theorem cmp_eqF {a b : Rat} : pCmp s .eq (fr a) (fr b) = .val (.bl (decide (a = b))) := by
  rw [fr_ro, fr_ro, cmp_eqR]
  congr 2
  exact decide_eq_decide.mpr fr_inj
theorem cmp_neF {a b : Rat} : pCmp s .ne (fr a) (fr b) = .val (.bl (!decide (a = b))) := by
  rw [fr_ro, fr_ro, cmp_neR]
  congr 3
  exact decide_eq_decide.mpr fr_inj
theorem frI (a : Int) : D.tup [.int a, .int 1] = fr (a : Rat) := rfl
theorem three_eq (h : Has P Pl.Q_three_closes) {n i j k : Nat} (a b c : Rat) [Bq i a] [Bq j b] [Bq k c] (hi : i ≤ 1000) (hj : j ≤ 1000) : run P (n + 4) 511 [fr a, fr b, fr c] s = .ok (.bl (decide (a * a - 2 * (a * b) = c))) s := by
  have t1 := run_times (s := s) (h.sub (by decide)) a a (by omega) (by omega) n
  have t2 := run_times (s := s) (h.sub (by decide)) a b (by omega) (by omega) n
  have t3 := run_times (s := s) (h.sub (by decide)) 2 (a * b) (by omega) (by omega) n
  have m := run_minus (s := s) (h.sub (by decide)) (a * a) (2 * (a * b)) (by omega) (by omega) n
  have lit : D.tup [.int 2, .int 1] = fr 2 := rfl
  rw [has_run (F := Pl.F_three_closes) h (by decide) rfl]
  simp only [Pl.F_three_closes, Pl.B_three_closes, runFn, evSs, ev_var, ev_int, ev_bl, ev_non, ev_str, ev_glob, ev_bin, ev_neg, ev_not, ev_and, ev_or, ev_cmp, ev_chain, ev_isn, ev_isb, ev_ite, ev_tup, ev_lst, ev_idx, ev_slice, ev_call, ev_blt, ev_inst, ev_meth, ev_comp, evL_nil, evL_cons, evAnd_1, evOr_1, evAnd_cons, evOr_cons, evS_set, evS_par, evS_unp, evS_sub, evS_subs, evS_aug, evS_ex, evS_ret, evS_ite, evS_whl, evS_for, evS_brk, evS_pass, itE, pIter, srcOf, chk_nil, compEnd, evAnd1, evSub, evLT, evSubs, R.bind, R.thn, RS.turn, PR.fin, asB, kRef, kNeg, kNot, kIsn, kIsb, kTup, kInst, kSet, kPar, kPut, kAug, kSubs, isNon_non, isNon_bl, isNon_int, isNon_str, isNon_tup, isNon_lst, isNon_klst, isNon_ref, isT_non_int, isT_non_bool, isT_non_tuple, isT_non_list, isT_non_str, isT_non_tuple_list, isT_non_list_tuple, isT_bl_int, isT_bl_bool, isT_bl_tuple, isT_bl_list, isT_bl_str, isT_bl_tuple_list, isT_bl_list_tuple, isT_int_int, isT_int_bool, isT_int_tuple, isT_int_list, isT_int_str, isT_int_tuple_list, isT_int_list_tuple, isT_str_int, isT_str_bool, isT_str_tuple, isT_str_list, isT_str_str, isT_str_tuple_list, isT_str_list_tuple, isT_tup_int, isT_tup_bool, isT_tup_tuple, isT_tup_list, isT_tup_str, isT_tup_tuple_list, isT_tup_list_tuple, isT_lst_int, isT_lst_bool, isT_lst_tuple, isT_lst_list, isT_lst_str, isT_lst_tuple_list, isT_lst_list_tuple, isT_klst_int, isT_klst_bool, isT_klst_tuple, isT_klst_list, isT_klst_str, isT_klst_tuple_list, isT_klst_list_tuple, isT_ref_int, isT_ref_bool, isT_ref_tuple, isT_ref_list, isT_ref_str, isT_ref_tuple_list, isT_ref_list_tuple, cmp_eqI, cmp_neI, cmp_ltI, cmp_leI, cmp_gtI, cmp_geI, cmp_eqB, cmp_neB, idx_hand0, set_hand0, idx_hand1, set_hand1, idx_hand2, set_hand2, idx_hand3, set_hand3, idx_hand4, set_hand4, pBin, idx_tup0, idx_tup1, idx_tup2, idx_tup3, idx_tup4, idx_tup5, idx_tup6, idx_tup7, Int.cast_ofNat_Int, blt_abs, blt_int, blt_intB, blt_len_tup, blt_len_lst, blt_len_klst, blt_tuple_tup, blt_tuple_lst, blt_list_tup, blt_list_lst, blt_sum, blt_all_lst, blt_any_lst, blt_max2, blt_min2, intsD, boolsD, List.length_map, items, place, put, putL, wipe, Tg.names, Tg.namesL, deref, List.map_cons, List.map_nil, List.length_cons, List.length_nil, List.getElem?_cons_zero, List.getElem?_cons_succ, List.getElem?_nil, List.getElem?_append, List.set_cons_zero, List.set_cons_succ, List.set_nil, List.cons_append, List.nil_append, List.append_nil, List.replicate_succ, List.replicate_zero, Nat.sub_self, Nat.add_sub_cancel, Option.map_some, Option.map_none, Option.bind_some, Option.bind_none, Option.some.injEq, if_true, if_false, ite_true, ite_false, Bool.false_eq_true, reduceCtorEq, Nat.reduceSub, Nat.reduceAdd, Nat.reduceLT, Nat.reduceLeDiff, Nat.reduceEqDiff, Nat.reduceMul, Int.reduceLT, Int.reduceLE, Int.reduceEq, Int.reduceNe, Int.reducePow, Int.reduceToNat, Int.reduceNeg, Int.reduceNegSucc, Nat.zero_add, Int.reduceAdd, Int.reduceSub, Int.reduceMul, not_true_eq_false, not_false_eq_true, Nat.lt_irrefl, Nat.zero_le, Nat.zero_lt_succ, Nat.succ_sub_succ_eq_sub, Nat.reduceSucc, bne_tt, bne_tf, bne_ft, Bool.not_true, Bool.not_false, Bool.true_and, Bool.false_and, Bool.and_true, Bool.and_false, Bool.or_true, Bool.or_false, Bool.true_or, Bool.false_or, bne_self_eq_false, beq_self_eq_true, t1, t2, lit, t3, m, cmp_eqF]
theorem four_eq (h : Has P Pl.Q_four_closes) {n i j k : Nat} (a b c : Rat) [Bq i a] [Bq j b] [Bq k c] (hi : i ≤ 500) (hj : j ≤ 500) (hk : k ≤ 500) : run P (n + 4) 512 [fr a, fr b, fr c] s = .ok (.bl (decide (2 * (b * b * (a * a + c)) = (a * a - c) * (a * a - c)))) s := by
  have t1 := run_times (s := s) (h.sub (by decide)) a a (by omega) (by omega) n
  have t2 := run_times (s := s) (h.sub (by decide)) b b (by omega) (by omega) n
  have p := run_plus (s := s) (h.sub (by decide)) (a * a) c (by omega) (by omega) n
  have m := run_minus (s := s) (h.sub (by decide)) (a * a) c (by omega) (by omega) n
  have t3 := run_times (s := s) (h.sub (by decide)) (b * b) (a * a + c) (by omega) (by omega) n
  have t4 := run_times (s := s) (h.sub (by decide)) 2 (b * b * (a * a + c)) (by omega) (by omega) n
  have t5 := run_times (s := s) (h.sub (by decide)) (a * a - c) (a * a - c) (by omega) (by omega) n
  have lit : D.tup [.int 2, .int 1] = fr 2 := rfl
  rw [has_run (F := Pl.F_four_closes) h (by decide) rfl]
  simp only [Pl.F_four_closes, Pl.B_four_closes, runFn, evSs, ev_var, ev_int, ev_bl, ev_non, ev_str, ev_glob, ev_bin, ev_neg, ev_not, ev_and, ev_or, ev_cmp, ev_chain, ev_isn, ev_isb, ev_ite, ev_tup, ev_lst, ev_idx, ev_slice, ev_call, ev_blt, ev_inst, ev_meth, ev_comp, evL_nil, evL_cons, evAnd_1, evOr_1, evAnd_cons, evOr_cons, evS_set, evS_par, evS_unp, evS_sub, evS_subs, evS_aug, evS_ex, evS_ret, evS_ite, evS_whl, evS_for, evS_brk, evS_pass, itE, pIter, srcOf, chk_nil, compEnd, evAnd1, evSub, evLT, evSubs, R.bind, R.thn, RS.turn, PR.fin, asB, kRef, kNeg, kNot, kIsn, kIsb, kTup, kInst, kSet, kPar, kPut, kAug, kSubs, isNon_non, isNon_bl, isNon_int, isNon_str, isNon_tup, isNon_lst, isNon_klst, isNon_ref, isT_non_int, isT_non_bool, isT_non_tuple, isT_non_list, isT_non_str, isT_non_tuple_list, isT_non_list_tuple, isT_bl_int, isT_bl_bool, isT_bl_tuple, isT_bl_list, isT_bl_str, isT_bl_tuple_list, isT_bl_list_tuple, isT_int_int, isT_int_bool, isT_int_tuple, isT_int_list, isT_int_str, isT_int_tuple_list, isT_int_list_tuple, isT_str_int, isT_str_bool, isT_str_tuple, isT_str_list, isT_str_str, isT_str_tuple_list, isT_str_list_tuple, isT_tup_int, isT_tup_bool, isT_tup_tuple, isT_tup_list, isT_tup_str, isT_tup_tuple_list, isT_tup_list_tuple, isT_lst_int, isT_lst_bool, isT_lst_tuple, isT_lst_list, isT_lst_str, isT_lst_tuple_list, isT_lst_list_tuple, isT_klst_int, isT_klst_bool, isT_klst_tuple, isT_klst_list, isT_klst_str, isT_klst_tuple_list, isT_klst_list_tuple, isT_ref_int, isT_ref_bool, isT_ref_tuple, isT_ref_list, isT_ref_str, isT_ref_tuple_list, isT_ref_list_tuple, cmp_eqI, cmp_neI, cmp_ltI, cmp_leI, cmp_gtI, cmp_geI, cmp_eqB, cmp_neB, idx_hand0, set_hand0, idx_hand1, set_hand1, idx_hand2, set_hand2, idx_hand3, set_hand3, idx_hand4, set_hand4, pBin, idx_tup0, idx_tup1, idx_tup2, idx_tup3, idx_tup4, idx_tup5, idx_tup6, idx_tup7, Int.cast_ofNat_Int, blt_abs, blt_int, blt_intB, blt_len_tup, blt_len_lst, blt_len_klst, blt_tuple_tup, blt_tuple_lst, blt_list_tup, blt_list_lst, blt_sum, blt_all_lst, blt_any_lst, blt_max2, blt_min2, intsD, boolsD, List.length_map, items, place, put, putL, wipe, Tg.names, Tg.namesL, deref, List.map_cons, List.map_nil, List.length_cons, List.length_nil, List.getElem?_cons_zero, List.getElem?_cons_succ, List.getElem?_nil, List.getElem?_append, List.set_cons_zero, List.set_cons_succ, List.set_nil, List.cons_append, List.nil_append, List.append_nil, List.replicate_succ, List.replicate_zero, Nat.sub_self, Nat.add_sub_cancel, Option.map_some, Option.map_none, Option.bind_some, Option.bind_none, Option.some.injEq, if_true, if_false, ite_true, ite_false, Bool.false_eq_true, reduceCtorEq, Nat.reduceSub, Nat.reduceAdd, Nat.reduceLT, Nat.reduceLeDiff, Nat.reduceEqDiff, Nat.reduceMul, Int.reduceLT, Int.reduceLE, Int.reduceEq, Int.reduceNe, Int.reducePow, Int.reduceToNat, Int.reduceNeg, Int.reduceNegSucc, Nat.zero_add, Int.reduceAdd, Int.reduceSub, Int.reduceMul, not_true_eq_false, not_false_eq_true, Nat.lt_irrefl, Nat.zero_le, Nat.zero_lt_succ, Nat.succ_sub_succ_eq_sub, Nat.reduceSucc, bne_tt, bne_tf, bne_ft, Bool.not_true, Bool.not_false, Bool.true_and, Bool.false_and, Bool.and_true, Bool.and_false, Bool.or_true, Bool.or_false, Bool.true_or, Bool.false_or, bne_self_eq_false, beq_self_eq_true, t1, t2, p, m, t3, lit, t4, t5, cmp_eqF]
theorem circ_sq {x y q u v r : Rat} {k : Nat} [bx : Bq k x] [bQ : Bq k y] [bq : Bq k q] [bu : Bq k u] [bv : Bq k v] [br : Bq k r] (h : cz x y q = cz u v r) : q = r := by
  obtain ⟨A, B, C, E, hz, hA, hB, hC, hE, _⟩ := circ_row x y q
  obtain ⟨A', B', C', E', hz', hA', hB', hC', hE', _⟩ := circ_row u v r
  rw [hz, hz'] at h
  simp only [List.cons.injEq, and_true] at h
  obtain ⟨rfl, rfl, rfl, rfl⟩ := h
  have a0 : (A : Rat) ≠ 0 := fun z => by
    have : A = 0 := Rat.intCast_inj.mp (z.trans rfl)
    omega
  have e1 : x = u := by grind
  have e2 : y = v := by grind
  subst e1
  subst e2
  grind
/-- the rest of two circles' distance -/
theorem run_touch {n k : Nat} (h : Has P Pl.Q_touch_sort) (x y q u v r : Rat) [bx : Bq k x] [bQ : Bq k y] [bq : Bq k q] [bu : Bq k u] [bv : Bq k v] [br : Bq k r] (hk : k ≤ 100) (hq : 0 < q) (hr : 0 < r) (hne : q ≠ r)
    (rest : Rat) (e : rest = (x - u) * (x - u) + (y - v) * (y - v) - q - r) (hz : rest * rest = 4 * (q * r)) (hneg : rest < 0) : run P (n + 7) 510 [circ x y q, circ u v r] s = .ok (.str "touching inside") s := by
  have c1 := run_check_circle (n := n + 1) (s := s) (h.sub (by decide)) x y q hk hq
  have c2 := run_check_circle (n := n + 1) (s := s) (h.sub (by decide)) u v r hk hr
  have m1 := run_middle_of (n := n) (s := s) (h.sub (by decide)) x y q hk hq
  have m2 := run_middle_of (n := n) (s := s) (h.sub (by decide)) u v r hk hr
  have s1 := run_square_of (n := n) (s := s) (h.sub (by decide)) x y q hk hq
  have s2 := run_square_of (n := n) (s := s) (h.sub (by decide)) u v r hk hr
  have sb := run_square_between (n := n + 1) (s := s) (h.sub (by decide)) x y u v (by omega)
  generalize hf : (x - u) * (x - u) + (y - v) * (y - v) = far at sb e
  have bf : Bq (k + k + 1 + (k + k + 1) + (k + k + 1 + (k + k + 1)) + 1) far := by rw [← hf]; exact inferInstance
  have d1 := run_minus (s := s) (h.sub (by decide)) far q (by omega) (by omega) (n + 3)
  have d2 := run_minus (s := s) (h.sub (by decide)) (far - q) r (by omega) (by omega) (n + 3)
  rw [← e] at d2
  have brest : Bq (k + k + 1 + (k + k + 1) + (k + k + 1 + (k + k + 1)) + 1 + k + 1 + k + 1) rest := by rw [e]; exact inferInstance
  have t1 := run_times (s := s) (h.sub (by decide)) rest rest (by omega) (by omega) (n + 3)
  have t2 := run_times (s := s) (h.sub (by decide)) q r (by omega) (by omega) (n + 3)
  have t3 := run_times (s := s) (h.sub (by decide)) 4 (q * r) (by omega) (by omega) (n + 3)
  have d3 := run_minus (s := s) (h.sub (by decide)) (rest * rest) (4 * (q * r)) (by omega) (by omega) (n + 3)
  have z : rest * rest - 4 * (q * r) = 0 := by rw [hz]; exact Rat.sub_self
  rw [z] at d3
  have ne : cz x y q ≠ cz u v r := fun z => hne (circ_sq z)
  have lit : D.tup [.int 4, .int 1] = fr 4 := rfl
  have rn : ¬ 0 < rest.num := by
    intro c
    have h1 : 0 < rest := by rw [Rat.lt_iff]; simpa using c
    grind
  have z0 : (0 : Rat).num = 0 := rfl
  have cmpC : ∀ s, pCmp s .eq (circ x y q) (circ u v r) = .val (.bl false) := fun s => by
    unfold circ
    rw [cmp_eqR, decide_eq_false ne]
  rw [has_run (F := Pl.F_touch_sort) h (by decide) rfl]
  simp only [Pl.F_touch_sort, Pl.B_touch_sort, runFn, evSs, ev_var, ev_int, ev_bl, ev_non, ev_str, ev_glob, ev_bin, ev_neg, ev_not, ev_and, ev_or, ev_cmp, ev_chain, ev_isn, ev_isb, ev_ite, ev_tup, ev_lst, ev_idx, ev_slice, ev_call, ev_blt, ev_inst, ev_meth, ev_comp, evL_nil, evL_cons, evAnd_1, evOr_1, evAnd_cons, evOr_cons, evS_set, evS_par, evS_unp, evS_sub, evS_subs, evS_aug, evS_ex, evS_ret, evS_ite, evS_whl, evS_for, evS_brk, evS_pass, itE, pIter, srcOf, chk_nil, compEnd, evAnd1, evSub, evLT, evSubs, R.bind, R.thn, RS.turn, PR.fin, asB, kRef, kNeg, kNot, kIsn, kIsb, kTup, kInst, kSet, kPar, kPut, kAug, kSubs, isNon_non, isNon_bl, isNon_int, isNon_str, isNon_tup, isNon_lst, isNon_klst, isNon_ref, isT_non_int, isT_non_bool, isT_non_tuple, isT_non_list, isT_non_str, isT_non_tuple_list, isT_non_list_tuple, isT_bl_int, isT_bl_bool, isT_bl_tuple, isT_bl_list, isT_bl_str, isT_bl_tuple_list, isT_bl_list_tuple, isT_int_int, isT_int_bool, isT_int_tuple, isT_int_list, isT_int_str, isT_int_tuple_list, isT_int_list_tuple, isT_str_int, isT_str_bool, isT_str_tuple, isT_str_list, isT_str_str, isT_str_tuple_list, isT_str_list_tuple, isT_tup_int, isT_tup_bool, isT_tup_tuple, isT_tup_list, isT_tup_str, isT_tup_tuple_list, isT_tup_list_tuple, isT_lst_int, isT_lst_bool, isT_lst_tuple, isT_lst_list, isT_lst_str, isT_lst_tuple_list, isT_lst_list_tuple, isT_klst_int, isT_klst_bool, isT_klst_tuple, isT_klst_list, isT_klst_str, isT_klst_tuple_list, isT_klst_list_tuple, isT_ref_int, isT_ref_bool, isT_ref_tuple, isT_ref_list, isT_ref_str, isT_ref_tuple_list, isT_ref_list_tuple, cmp_eqI, cmp_neI, cmp_ltI, cmp_leI, cmp_gtI, cmp_geI, cmp_eqB, cmp_neB, idx_hand0, set_hand0, idx_hand1, set_hand1, idx_hand2, set_hand2, idx_hand3, set_hand3, idx_hand4, set_hand4, pBin, idx_tup0, idx_tup1, idx_tup2, idx_tup3, idx_tup4, idx_tup5, idx_tup6, idx_tup7, Int.cast_ofNat_Int, blt_abs, blt_int, blt_intB, blt_len_tup, blt_len_lst, blt_len_klst, blt_tuple_tup, blt_tuple_lst, blt_list_tup, blt_list_lst, blt_sum, blt_all_lst, blt_any_lst, blt_max2, blt_min2, intsD, boolsD, List.length_map, items, place, put, putL, wipe, Tg.names, Tg.namesL, deref, List.map_cons, List.map_nil, List.length_cons, List.length_nil, List.getElem?_cons_zero, List.getElem?_cons_succ, List.getElem?_nil, List.getElem?_append, List.set_cons_zero, List.set_cons_succ, List.set_nil, List.cons_append, List.nil_append, List.append_nil, List.replicate_succ, List.replicate_zero, Nat.sub_self, Nat.add_sub_cancel, Option.map_some, Option.map_none, Option.bind_some, Option.bind_none, Option.some.injEq, if_true, if_false, ite_true, ite_false, Bool.false_eq_true, reduceCtorEq, Nat.reduceSub, Nat.reduceAdd, Nat.reduceLT, Nat.reduceLeDiff, Nat.reduceEqDiff, Nat.reduceMul, Int.reduceLT, Int.reduceLE, Int.reduceEq, Int.reduceNe, Int.reducePow, Int.reduceToNat, Int.reduceNeg, Int.reduceNegSucc, Nat.zero_add, Int.reduceAdd, Int.reduceSub, Int.reduceMul, not_true_eq_false, not_false_eq_true, Nat.lt_irrefl, Nat.zero_le, Nat.zero_lt_succ, Nat.succ_sub_succ_eq_sub, Nat.reduceSucc, bne_tt, bne_tf, bne_ft, Bool.not_true, Bool.not_false, Bool.true_and, Bool.false_and, Bool.and_true, Bool.and_false, Bool.or_true, Bool.or_false, Bool.true_or, Bool.false_or, bne_self_eq_false, beq_self_eq_true, c1, c2, cmpC, m1, m2, sb, s1, s2, d1, d2, t1, t2, lit, t3, d3, idx_fr0, z0, decide_false, decide_true, rn]
/-- the circle within, by a share -/
theorem run_inner_of {n k : Nat} (h : Has P Pl.Q_inner_of) (hG : P.G 1 = some (.tup [.int 1, .int 1])) (x y r t p : Rat) [bx : Bq k x] [bQ : Bq k y] [br : Bq k r] [bt : Bq k t] [bp : Bq k p] (hk : k ≤ 50) (hr : 0 < r) (hp : 0 < p) (hp1 : p < 1)
    (cx sx : Rat) (hc : cx = (1 - t * t) / (1 + t * t)) (hs : sx = (2 * t) / (1 + t * t)) : run P (n + 9) 525 [circ x y (r * r), .tup [fr t, fr p]] s = .ok (.tup [pt (x + r * (1 - p) * cx) (y + r * (1 - p) * sx), fr (p * r * (p * r))]) s := by
  have cw := run_check_width (n := n) (s := s) (h.sub (by decide)) x y r hk hr
  have : Bq (k + k) x := bx.mono (by omega)
  have : Bq (k + k) y := bQ.mono (by omega)
  have mo := run_middle_of (n := n + 2) (s := s) (h.sub (by decide)) x y (r * r) (by omega) (Rat.mul_pos hr hr)
  have pl := run_places (n := n + 4) (s := s) (h.sub (by decide)) x y (by omega) (by omega)
  have bnn := Bi.mul (a := t.num) (b := t.num) (x := Bi.num) (y := Bi.num)
  have bdd := Bi.mul (a := (t.den : Int)) (b := (t.den : Int)) (x := Bi.den) (y := Bi.den)
  have bsz := Bi.add (x := bnn) (y := bdd)
  have sz : t.num * t.num + (t.den : Int) * t.den ≠ 0 := by
    have h1 : 0 ≤ t.num * t.num := by
      by_cases c : 0 ≤ t.num
      · exact Int.mul_nonneg c c
      · exact Int.mul_nonneg_of_nonpos_of_nonpos (by omega) (by omega)
    have h2 : 0 < (t.den : Int) * t.den := Int.mul_pos (by have := t.den_pos; omega) (by have := t.den_pos; omega)
    omega
  have sd : (t.num * t.num + (t.den : Int) * t.den).natAbs < dmax := dmax_of bsz.lt (by omega)
  have f1 := run_fraction (s := s) (h.sub (by decide)) ((t.den : Int) * t.den - t.num * t.num) (t.num * t.num + (t.den : Int) * t.den) sz sd (n + 6)
  have f2 := run_fraction (s := s) (h.sub (by decide)) (2 * t.num * t.den) (t.num * t.num + (t.den : Int) * t.den) sz sd (n + 6)
  have td : ((t.den : Int) : Rat) ≠ 0 := fun z => den_ne t (intQ (z.trans (rfl : (0 : Rat) = ((0 : Int) : Rat))))
  have tn : (t.num : Rat) = t * ((t.den : Int) : Rat) := by
    conv => rhs; lhs; rw [← Rat.num_divInt_den t]
    rw [Rat.divInt_eq_div]
    grind
  have sq0 : 1 + t * t ≠ 0 := by
    intro z
    have h1 : (0 : Rat) ≤ t * t := by
      by_cases c : 0 ≤ t
      · exact Rat.mul_nonneg c c
      · have h2 : 0 ≤ -t := by
          rcases Rat.nonneg_total t with h | h
          · exact absurd h c
          · exact h
        have := Rat.mul_nonneg h2 h2
        have e : -t * -t = t * t := by grind
        rwa [e] at this
    have h2 : (0 : Rat) ≤ 0 + t * t := by rw [Rat.zero_add]; exact h1
    have h3 : (1 : Rat) ≤ 0 := by
      have : (1 : Rat) + 0 ≤ 1 + t * t := Rat.add_le_add_left.mpr h1
      rw [z, Rat.add_zero] at this
      exact this
    exact absurd h3 (by decide)
  rw [divInt_of sz (x := cx) (by
    rw [hc]
    simp only [Rat.intCast_sub, Rat.intCast_add, Rat.intCast_mul, tn]
    grind)] at f1
  have two : ((2 : Int) : Rat) = 2 := rfl
  rw [divInt_of sz (x := sx) (by
    rw [hs]
    simp only [Rat.intCast_sub, Rat.intCast_add, Rat.intCast_mul, tn, two]
    grind)] at f2
  have b1 : Bq 1 (1 : Rat) := inferInstance
  have bc : Bq (1 + (k + k) + 1 + (1 + (k + k) + 1) + 1) cx := by rw [hc]; exact inferInstance
  have bs : Bq (2 + k + (1 + (k + k) + 1) + 1) sx := by rw [hs]; exact inferInstance
  have t2 := run_times (s := s) (h.sub (by decide)) (r * (1 - p)) cx (by omega) (by omega) (n + 5)
  have t3 := run_times (s := s) (h.sub (by decide)) (r * (1 - p)) sx (by omega) (by omega) (n + 5)
  have t1 := run_times (s := s) (h.sub (by decide)) r (1 - p) (by omega) (by omega) (n + 5)
  have m1 := run_minus (s := s) (h.sub (by decide)) 1 p (by omega) (by omega) (n + 5)
  have a1 := run_plus (s := s) (h.sub (by decide)) x (r * (1 - p) * cx) (by omega) (by omega) (n + 5)
  have a2 := run_plus (s := s) (h.sub (by decide)) y (r * (1 - p) * sx) (by omega) (by omega) (n + 5)
  have at' := run_at (n := n + 4) (s := s) (h.sub (by decide)) (x + r * (1 - p) * cx) (y + r * (1 - p) * sx) (by omega) (by omega)
  have t4 := run_times (s := s) (h.sub (by decide)) p r (by omega) (by omega) (n + 5)
  have t5 := run_times (s := s) (h.sub (by decide)) (p * r) (p * r) (by omega) (by omega) (n + 5)
  have pn := num_pos hp
  have pd : p.num < p.den := by
    have := (Rat.lt_iff p 1).mp hp1
    simpa using this
  have c1 : ¬ p.num ≤ 0 := by omega
  have c2 : ¬ (p.den : Int) ≤ p.num := by omega
  have k1 := mulOk_bi (Bi.num (q := t)) (Bi.num (q := t)) (by omega) (by omega)
  have k2 := mulOk_bi (Bi.den (q := t)) (Bi.den (q := t)) (by omega) (by omega)
  have k3 : mulOk 2 t.num = true := mulOkL (by decide)
  have k4 := mulOk_bi (Bi.mul (a := (2 : Int)) (b := t.num) (x := inferInstance) (y := Bi.num)) (Bi.den (q := t)) (by omega) (by omega)
  rw [has_run (F := Pl.F_inner_of) h (by decide) rfl]
  simp only [Pl.F_inner_of, Pl.B_inner_of, runFn, evSs, ev_var, ev_int, ev_bl, ev_non, ev_str, ev_glob, ev_bin, ev_neg, ev_not, ev_and, ev_or, ev_cmp, ev_chain, ev_isn, ev_isb, ev_ite, ev_tup, ev_lst, ev_idx, ev_slice, ev_call, ev_blt, ev_inst, ev_meth, ev_comp, evL_nil, evL_cons, evAnd_1, evOr_1, evAnd_cons, evOr_cons, evS_set, evS_par, evS_unp, evS_sub, evS_subs, evS_aug, evS_ex, evS_ret, evS_ite, evS_whl, evS_for, evS_brk, evS_pass, itE, pIter, srcOf, chk_nil, compEnd, evAnd1, evSub, evLT, evSubs, R.bind, R.thn, RS.turn, PR.fin, asB, kRef, kNeg, kNot, kIsn, kIsb, kTup, kInst, kSet, kPar, kPut, kAug, kSubs, isNon_non, isNon_bl, isNon_int, isNon_str, isNon_tup, isNon_lst, isNon_klst, isNon_ref, isT_non_int, isT_non_bool, isT_non_tuple, isT_non_list, isT_non_str, isT_non_tuple_list, isT_non_list_tuple, isT_bl_int, isT_bl_bool, isT_bl_tuple, isT_bl_list, isT_bl_str, isT_bl_tuple_list, isT_bl_list_tuple, isT_int_int, isT_int_bool, isT_int_tuple, isT_int_list, isT_int_str, isT_int_tuple_list, isT_int_list_tuple, isT_str_int, isT_str_bool, isT_str_tuple, isT_str_list, isT_str_str, isT_str_tuple_list, isT_str_list_tuple, isT_tup_int, isT_tup_bool, isT_tup_tuple, isT_tup_list, isT_tup_str, isT_tup_tuple_list, isT_tup_list_tuple, isT_lst_int, isT_lst_bool, isT_lst_tuple, isT_lst_list, isT_lst_str, isT_lst_tuple_list, isT_lst_list_tuple, isT_klst_int, isT_klst_bool, isT_klst_tuple, isT_klst_list, isT_klst_str, isT_klst_tuple_list, isT_klst_list_tuple, isT_ref_int, isT_ref_bool, isT_ref_tuple, isT_ref_list, isT_ref_str, isT_ref_tuple_list, isT_ref_list_tuple, cmp_eqI, cmp_neI, cmp_ltI, cmp_leI, cmp_gtI, cmp_geI, cmp_eqB, cmp_neB, idx_hand0, set_hand0, idx_hand1, set_hand1, idx_hand2, set_hand2, idx_hand3, set_hand3, idx_hand4, set_hand4, pBin, idx_tup0, idx_tup1, idx_tup2, idx_tup3, idx_tup4, idx_tup5, idx_tup6, idx_tup7, Int.cast_ofNat_Int, blt_abs, blt_int, blt_intB, blt_len_tup, blt_len_lst, blt_len_klst, blt_tuple_tup, blt_tuple_lst, blt_list_tup, blt_list_lst, blt_sum, blt_all_lst, blt_any_lst, blt_max2, blt_min2, intsD, boolsD, List.length_map, items, place, put, putL, wipe, Tg.names, Tg.namesL, deref, List.map_cons, List.map_nil, List.length_cons, List.length_nil, List.getElem?_cons_zero, List.getElem?_cons_succ, List.getElem?_nil, List.getElem?_append, List.set_cons_zero, List.set_cons_succ, List.set_nil, List.cons_append, List.nil_append, List.append_nil, List.replicate_succ, List.replicate_zero, Nat.sub_self, Nat.add_sub_cancel, Option.map_some, Option.map_none, Option.bind_some, Option.bind_none, Option.some.injEq, if_true, if_false, ite_true, ite_false, Bool.false_eq_true, reduceCtorEq, Nat.reduceSub, Nat.reduceAdd, Nat.reduceLT, Nat.reduceLeDiff, Nat.reduceEqDiff, Nat.reduceMul, Int.reduceLT, Int.reduceLE, Int.reduceEq, Int.reduceNe, Int.reducePow, Int.reduceToNat, Int.reduceNeg, Int.reduceNegSucc, Nat.zero_add, Int.reduceAdd, Int.reduceSub, Int.reduceMul, not_true_eq_false, not_false_eq_true, Nat.lt_irrefl, Nat.zero_le, Nat.zero_lt_succ, Nat.succ_sub_succ_eq_sub, Nat.reduceSucc, bne_tt, bne_tf, bne_ft, Bool.not_true, Bool.not_false, Bool.true_and, Bool.false_and, Bool.and_true, Bool.and_false, Bool.or_true, Bool.or_false, Bool.true_or, Bool.false_or, bne_self_eq_false, beq_self_eq_true, cw, idx_fr0, idx_fr1, c1, c2, decide_false, k1, k2, k3, k4, f1, f2, mo, pl, hG, one_fr, m1, t1, t2, t3, a1, a2, at', t4, t5]
end
end Pi

set_option Elab.async false
set_option linter.all false
set_option maxRecDepth 100000
namespace Pi
open PySem
section
variable {P : Prog} {s : Store}
def gcdP (i j : Nat) : List Sm := [.par [i, j] [.var j, .bin false .mod (.blt false .int [.var i]) (.var j)]]
def gcdU (i j : Nat) : List Sm := [.unp (.t [.n i, .n j]) (.tup [.var j, .bin false .mod (.blt false .int [.var i]) (.var j)])]
theorem turn_gcdP (call : Call) (G : Nat → Option D) {ρ : Env} {i j : Nat} {a b : Int} (hi : ρ[i]? = some (some (.int a))) (hj : ρ[j]? = some (some (.int b))) : whT G call (.cmp .gt (.var j) (.int 0)) (gcdP i j) ρ s =
    if 0 < b then .go ((ρ.set i (some (.int b))).set j (some (.int (a.fmod b)))) s else .fin (.ok .nx ρ s) := by
  have li : i < ρ.length := (List.getElem?_eq_some_iff.mp hi).1
  have lj : j < ρ.length := (List.getElem?_eq_some_iff.mp hj).1
  unfold whT gcdP
  by_cases hz : 0 < b
  · have hn : b ≠ 0 := by omega
    simp only [runFn, evSs, ev_var, ev_int, ev_bl, ev_non, ev_str, ev_glob, ev_bin, ev_neg, ev_not, ev_and, ev_or, ev_cmp, ev_chain, ev_isn, ev_isb, ev_ite, ev_tup, ev_lst, ev_idx, ev_slice, ev_call, ev_blt, ev_inst, ev_meth, ev_comp, evL_nil, evL_cons, evAnd_1, evOr_1, evAnd_cons, evOr_cons, evS_set, evS_par, evS_unp, evS_sub, evS_subs, evS_aug, evS_ex, evS_ret, evS_ite, evS_whl, evS_for, evS_brk, evS_pass, itE, pIter, srcOf, chk_nil, compEnd, evAnd1, evSub, evLT, evSubs, R.bind, R.thn, RS.turn, PR.fin, asB, kRef, kNeg, kNot, kIsn, kIsb, kTup, kInst, kSet, kPar, kPut, kAug, kSubs, isNon_non, isNon_bl, isNon_int, isNon_str, isNon_tup, isNon_lst, isNon_klst, isNon_ref, isT_non_int, isT_non_bool, isT_non_tuple, isT_non_list, isT_non_str, isT_non_tuple_list, isT_non_list_tuple, isT_bl_int, isT_bl_bool, isT_bl_tuple, isT_bl_list, isT_bl_str, isT_bl_tuple_list, isT_bl_list_tuple, isT_int_int, isT_int_bool, isT_int_tuple, isT_int_list, isT_int_str, isT_int_tuple_list, isT_int_list_tuple, isT_str_int, isT_str_bool, isT_str_tuple, isT_str_list, isT_str_str, isT_str_tuple_list, isT_str_list_tuple, isT_tup_int, isT_tup_bool, isT_tup_tuple, isT_tup_list, isT_tup_str, isT_tup_tuple_list, isT_tup_list_tuple, isT_lst_int, isT_lst_bool, isT_lst_tuple, isT_lst_list, isT_lst_str, isT_lst_tuple_list, isT_lst_list_tuple, isT_klst_int, isT_klst_bool, isT_klst_tuple, isT_klst_list, isT_klst_str, isT_klst_tuple_list, isT_klst_list_tuple, isT_ref_int, isT_ref_bool, isT_ref_tuple, isT_ref_list, isT_ref_str, isT_ref_tuple_list, isT_ref_list_tuple, cmp_eqI, cmp_neI, cmp_ltI, cmp_leI, cmp_gtI, cmp_geI, cmp_eqB, cmp_neB, idx_hand0, set_hand0, idx_hand1, set_hand1, idx_hand2, set_hand2, idx_hand3, set_hand3, idx_hand4, set_hand4, pBin, idx_tup0, idx_tup1, idx_tup2, idx_tup3, idx_tup4, idx_tup5, idx_tup6, idx_tup7, Int.cast_ofNat_Int, blt_abs, blt_int, blt_intB, blt_len_tup, blt_len_lst, blt_len_klst, blt_tuple_tup, blt_tuple_lst, blt_list_tup, blt_list_lst, blt_sum, blt_all_lst, blt_any_lst, blt_max2, blt_min2, intsD, boolsD, List.length_map, items, place, put, putL, wipe, Tg.names, Tg.namesL, deref, List.map_cons, List.map_nil, List.length_cons, List.length_nil, List.getElem?_cons_zero, List.getElem?_cons_succ, List.getElem?_nil, List.getElem?_append, List.set_cons_zero, List.set_cons_succ, List.set_nil, List.cons_append, List.nil_append, List.append_nil, List.replicate_succ, List.replicate_zero, Nat.sub_self, Nat.add_sub_cancel, Option.map_some, Option.map_none, Option.bind_some, Option.bind_none, Option.some.injEq, if_true, if_false, ite_true, ite_false, Bool.false_eq_true, reduceCtorEq, Nat.reduceSub, Nat.reduceAdd, Nat.reduceLT, Nat.reduceLeDiff, Nat.reduceEqDiff, Nat.reduceMul, Int.reduceLT, Int.reduceLE, Int.reduceEq, Int.reduceNe, Int.reducePow, Int.reduceToNat, Int.reduceNeg, Int.reduceNegSucc, Nat.zero_add, Int.reduceAdd, Int.reduceSub, Int.reduceMul, not_true_eq_false, not_false_eq_true, Nat.lt_irrefl, Nat.zero_le, Nat.zero_lt_succ, Nat.succ_sub_succ_eq_sub, Nat.reduceSucc, bne_tt, bne_tf, bne_ft, Bool.not_true, Bool.not_false, Bool.true_and, Bool.false_and, Bool.and_true, Bool.and_false, Bool.or_true, Bool.or_false, Bool.true_or, Bool.false_or, bne_self_eq_false, beq_self_eq_true, hi, hj, hz, hn, decide_true, ne_eq, not_false_eq_true, Nat.reduceAdd, li, lj, List.length_set]
  · simp only [runFn, evSs, ev_var, ev_int, ev_bl, ev_non, ev_str, ev_glob, ev_bin, ev_neg, ev_not, ev_and, ev_or, ev_cmp, ev_chain, ev_isn, ev_isb, ev_ite, ev_tup, ev_lst, ev_idx, ev_slice, ev_call, ev_blt, ev_inst, ev_meth, ev_comp, evL_nil, evL_cons, evAnd_1, evOr_1, evAnd_cons, evOr_cons, evS_set, evS_par, evS_unp, evS_sub, evS_subs, evS_aug, evS_ex, evS_ret, evS_ite, evS_whl, evS_for, evS_brk, evS_pass, itE, pIter, srcOf, chk_nil, compEnd, evAnd1, evSub, evLT, evSubs, R.bind, R.thn, RS.turn, PR.fin, asB, kRef, kNeg, kNot, kIsn, kIsb, kTup, kInst, kSet, kPar, kPut, kAug, kSubs, isNon_non, isNon_bl, isNon_int, isNon_str, isNon_tup, isNon_lst, isNon_klst, isNon_ref, isT_non_int, isT_non_bool, isT_non_tuple, isT_non_list, isT_non_str, isT_non_tuple_list, isT_non_list_tuple, isT_bl_int, isT_bl_bool, isT_bl_tuple, isT_bl_list, isT_bl_str, isT_bl_tuple_list, isT_bl_list_tuple, isT_int_int, isT_int_bool, isT_int_tuple, isT_int_list, isT_int_str, isT_int_tuple_list, isT_int_list_tuple, isT_str_int, isT_str_bool, isT_str_tuple, isT_str_list, isT_str_str, isT_str_tuple_list, isT_str_list_tuple, isT_tup_int, isT_tup_bool, isT_tup_tuple, isT_tup_list, isT_tup_str, isT_tup_tuple_list, isT_tup_list_tuple, isT_lst_int, isT_lst_bool, isT_lst_tuple, isT_lst_list, isT_lst_str, isT_lst_tuple_list, isT_lst_list_tuple, isT_klst_int, isT_klst_bool, isT_klst_tuple, isT_klst_list, isT_klst_str, isT_klst_tuple_list, isT_klst_list_tuple, isT_ref_int, isT_ref_bool, isT_ref_tuple, isT_ref_list, isT_ref_str, isT_ref_tuple_list, isT_ref_list_tuple, cmp_eqI, cmp_neI, cmp_ltI, cmp_leI, cmp_gtI, cmp_geI, cmp_eqB, cmp_neB, idx_hand0, set_hand0, idx_hand1, set_hand1, idx_hand2, set_hand2, idx_hand3, set_hand3, idx_hand4, set_hand4, pBin, idx_tup0, idx_tup1, idx_tup2, idx_tup3, idx_tup4, idx_tup5, idx_tup6, idx_tup7, Int.cast_ofNat_Int, blt_abs, blt_int, blt_intB, blt_len_tup, blt_len_lst, blt_len_klst, blt_tuple_tup, blt_tuple_lst, blt_list_tup, blt_list_lst, blt_sum, blt_all_lst, blt_any_lst, blt_max2, blt_min2, intsD, boolsD, List.length_map, items, place, put, putL, wipe, Tg.names, Tg.namesL, deref, List.map_cons, List.map_nil, List.length_cons, List.length_nil, List.getElem?_cons_zero, List.getElem?_cons_succ, List.getElem?_nil, List.getElem?_append, List.set_cons_zero, List.set_cons_succ, List.set_nil, List.cons_append, List.nil_append, List.append_nil, List.replicate_succ, List.replicate_zero, Nat.sub_self, Nat.add_sub_cancel, Option.map_some, Option.map_none, Option.bind_some, Option.bind_none, Option.some.injEq, if_true, if_false, ite_true, ite_false, Bool.false_eq_true, reduceCtorEq, Nat.reduceSub, Nat.reduceAdd, Nat.reduceLT, Nat.reduceLeDiff, Nat.reduceEqDiff, Nat.reduceMul, Int.reduceLT, Int.reduceLE, Int.reduceEq, Int.reduceNe, Int.reducePow, Int.reduceToNat, Int.reduceNeg, Int.reduceNegSucc, Nat.zero_add, Int.reduceAdd, Int.reduceSub, Int.reduceMul, not_true_eq_false, not_false_eq_true, Nat.lt_irrefl, Nat.zero_le, Nat.zero_lt_succ, Nat.succ_sub_succ_eq_sub, Nat.reduceSucc, bne_tt, bne_tf, bne_ft, Bool.not_true, Bool.not_false, Bool.true_and, Bool.false_and, Bool.and_true, Bool.and_false, Bool.or_true, Bool.or_false, Bool.true_or, Bool.false_or, bne_self_eq_false, beq_self_eq_true, hj, hz, decide_false]
theorem turn_gcdU (call : Call) (G : Nat → Option D) {ρ : Env} {i j : Nat} {a b : Int} (hi : ρ[i]? = some (some (.int a))) (hj : ρ[j]? = some (some (.int b))) : whT G call (.cmp .gt (.var j) (.int 0)) (gcdU i j) ρ s =
    if 0 < b then .go ((ρ.set i (some (.int b))).set j (some (.int (a.fmod b)))) s else .fin (.ok .nx ρ s) := by
  have li : i < ρ.length := (List.getElem?_eq_some_iff.mp hi).1
  have lj : j < ρ.length := (List.getElem?_eq_some_iff.mp hj).1
  unfold whT gcdU
  by_cases hz : 0 < b
  · have hn : b ≠ 0 := by omega
    simp only [runFn, evSs, ev_var, ev_int, ev_bl, ev_non, ev_str, ev_glob, ev_bin, ev_neg, ev_not, ev_and, ev_or, ev_cmp, ev_chain, ev_isn, ev_isb, ev_ite, ev_tup, ev_lst, ev_idx, ev_slice, ev_call, ev_blt, ev_inst, ev_meth, ev_comp, evL_nil, evL_cons, evAnd_1, evOr_1, evAnd_cons, evOr_cons, evS_set, evS_par, evS_unp, evS_sub, evS_subs, evS_aug, evS_ex, evS_ret, evS_ite, evS_whl, evS_for, evS_brk, evS_pass, itE, pIter, srcOf, chk_nil, compEnd, evAnd1, evSub, evLT, evSubs, R.bind, R.thn, RS.turn, PR.fin, asB, kRef, kNeg, kNot, kIsn, kIsb, kTup, kInst, kSet, kPar, kPut, kAug, kSubs, isNon_non, isNon_bl, isNon_int, isNon_str, isNon_tup, isNon_lst, isNon_klst, isNon_ref, isT_non_int, isT_non_bool, isT_non_tuple, isT_non_list, isT_non_str, isT_non_tuple_list, isT_non_list_tuple, isT_bl_int, isT_bl_bool, isT_bl_tuple, isT_bl_list, isT_bl_str, isT_bl_tuple_list, isT_bl_list_tuple, isT_int_int, isT_int_bool, isT_int_tuple, isT_int_list, isT_int_str, isT_int_tuple_list, isT_int_list_tuple, isT_str_int, isT_str_bool, isT_str_tuple, isT_str_list, isT_str_str, isT_str_tuple_list, isT_str_list_tuple, isT_tup_int, isT_tup_bool, isT_tup_tuple, isT_tup_list, isT_tup_str, isT_tup_tuple_list, isT_tup_list_tuple, isT_lst_int, isT_lst_bool, isT_lst_tuple, isT_lst_list, isT_lst_str, isT_lst_tuple_list, isT_lst_list_tuple, isT_klst_int, isT_klst_bool, isT_klst_tuple, isT_klst_list, isT_klst_str, isT_klst_tuple_list, isT_klst_list_tuple, isT_ref_int, isT_ref_bool, isT_ref_tuple, isT_ref_list, isT_ref_str, isT_ref_tuple_list, isT_ref_list_tuple, cmp_eqI, cmp_neI, cmp_ltI, cmp_leI, cmp_gtI, cmp_geI, cmp_eqB, cmp_neB, idx_hand0, set_hand0, idx_hand1, set_hand1, idx_hand2, set_hand2, idx_hand3, set_hand3, idx_hand4, set_hand4, pBin, idx_tup0, idx_tup1, idx_tup2, idx_tup3, idx_tup4, idx_tup5, idx_tup6, idx_tup7, Int.cast_ofNat_Int, blt_abs, blt_int, blt_intB, blt_len_tup, blt_len_lst, blt_len_klst, blt_tuple_tup, blt_tuple_lst, blt_list_tup, blt_list_lst, blt_sum, blt_all_lst, blt_any_lst, blt_max2, blt_min2, intsD, boolsD, List.length_map, items, place, put, putL, wipe, Tg.names, Tg.namesL, deref, List.map_cons, List.map_nil, List.length_cons, List.length_nil, List.getElem?_cons_zero, List.getElem?_cons_succ, List.getElem?_nil, List.getElem?_append, List.set_cons_zero, List.set_cons_succ, List.set_nil, List.cons_append, List.nil_append, List.append_nil, List.replicate_succ, List.replicate_zero, Nat.sub_self, Nat.add_sub_cancel, Option.map_some, Option.map_none, Option.bind_some, Option.bind_none, Option.some.injEq, if_true, if_false, ite_true, ite_false, Bool.false_eq_true, reduceCtorEq, Nat.reduceSub, Nat.reduceAdd, Nat.reduceLT, Nat.reduceLeDiff, Nat.reduceEqDiff, Nat.reduceMul, Int.reduceLT, Int.reduceLE, Int.reduceEq, Int.reduceNe, Int.reducePow, Int.reduceToNat, Int.reduceNeg, Int.reduceNegSucc, Nat.zero_add, Int.reduceAdd, Int.reduceSub, Int.reduceMul, not_true_eq_false, not_false_eq_true, Nat.lt_irrefl, Nat.zero_le, Nat.zero_lt_succ, Nat.succ_sub_succ_eq_sub, Nat.reduceSucc, bne_tt, bne_tf, bne_ft, Bool.not_true, Bool.not_false, Bool.true_and, Bool.false_and, Bool.and_true, Bool.and_false, Bool.or_true, Bool.or_false, Bool.true_or, Bool.false_or, bne_self_eq_false, beq_self_eq_true, hi, hj, hz, hn, decide_true, ne_eq, not_false_eq_true, Nat.reduceAdd, li, lj, List.length_set]
  · simp only [runFn, evSs, ev_var, ev_int, ev_bl, ev_non, ev_str, ev_glob, ev_bin, ev_neg, ev_not, ev_and, ev_or, ev_cmp, ev_chain, ev_isn, ev_isb, ev_ite, ev_tup, ev_lst, ev_idx, ev_slice, ev_call, ev_blt, ev_inst, ev_meth, ev_comp, evL_nil, evL_cons, evAnd_1, evOr_1, evAnd_cons, evOr_cons, evS_set, evS_par, evS_unp, evS_sub, evS_subs, evS_aug, evS_ex, evS_ret, evS_ite, evS_whl, evS_for, evS_brk, evS_pass, itE, pIter, srcOf, chk_nil, compEnd, evAnd1, evSub, evLT, evSubs, R.bind, R.thn, RS.turn, PR.fin, asB, kRef, kNeg, kNot, kIsn, kIsb, kTup, kInst, kSet, kPar, kPut, kAug, kSubs, isNon_non, isNon_bl, isNon_int, isNon_str, isNon_tup, isNon_lst, isNon_klst, isNon_ref, isT_non_int, isT_non_bool, isT_non_tuple, isT_non_list, isT_non_str, isT_non_tuple_list, isT_non_list_tuple, isT_bl_int, isT_bl_bool, isT_bl_tuple, isT_bl_list, isT_bl_str, isT_bl_tuple_list, isT_bl_list_tuple, isT_int_int, isT_int_bool, isT_int_tuple, isT_int_list, isT_int_str, isT_int_tuple_list, isT_int_list_tuple, isT_str_int, isT_str_bool, isT_str_tuple, isT_str_list, isT_str_str, isT_str_tuple_list, isT_str_list_tuple, isT_tup_int, isT_tup_bool, isT_tup_tuple, isT_tup_list, isT_tup_str, isT_tup_tuple_list, isT_tup_list_tuple, isT_lst_int, isT_lst_bool, isT_lst_tuple, isT_lst_list, isT_lst_str, isT_lst_tuple_list, isT_lst_list_tuple, isT_klst_int, isT_klst_bool, isT_klst_tuple, isT_klst_list, isT_klst_str, isT_klst_tuple_list, isT_klst_list_tuple, isT_ref_int, isT_ref_bool, isT_ref_tuple, isT_ref_list, isT_ref_str, isT_ref_tuple_list, isT_ref_list_tuple, cmp_eqI, cmp_neI, cmp_ltI, cmp_leI, cmp_gtI, cmp_geI, cmp_eqB, cmp_neB, idx_hand0, set_hand0, idx_hand1, set_hand1, idx_hand2, set_hand2, idx_hand3, set_hand3, idx_hand4, set_hand4, pBin, idx_tup0, idx_tup1, idx_tup2, idx_tup3, idx_tup4, idx_tup5, idx_tup6, idx_tup7, Int.cast_ofNat_Int, blt_abs, blt_int, blt_intB, blt_len_tup, blt_len_lst, blt_len_klst, blt_tuple_tup, blt_tuple_lst, blt_list_tup, blt_list_lst, blt_sum, blt_all_lst, blt_any_lst, blt_max2, blt_min2, intsD, boolsD, List.length_map, items, place, put, putL, wipe, Tg.names, Tg.namesL, deref, List.map_cons, List.map_nil, List.length_cons, List.length_nil, List.getElem?_cons_zero, List.getElem?_cons_succ, List.getElem?_nil, List.getElem?_append, List.set_cons_zero, List.set_cons_succ, List.set_nil, List.cons_append, List.nil_append, List.append_nil, List.replicate_succ, List.replicate_zero, Nat.sub_self, Nat.add_sub_cancel, Option.map_some, Option.map_none, Option.bind_some, Option.bind_none, Option.some.injEq, if_true, if_false, ite_true, ite_false, Bool.false_eq_true, reduceCtorEq, Nat.reduceSub, Nat.reduceAdd, Nat.reduceLT, Nat.reduceLeDiff, Nat.reduceEqDiff, Nat.reduceMul, Int.reduceLT, Int.reduceLE, Int.reduceEq, Int.reduceNe, Int.reducePow, Int.reduceToNat, Int.reduceNeg, Int.reduceNegSucc, Nat.zero_add, Int.reduceAdd, Int.reduceSub, Int.reduceMul, not_true_eq_false, not_false_eq_true, Nat.lt_irrefl, Nat.zero_le, Nat.zero_lt_succ, Nat.succ_sub_succ_eq_sub, Nat.reduceSucc, bne_tt, bne_tf, bne_ft, Bool.not_true, Bool.not_false, Bool.true_and, Bool.false_and, Bool.and_true, Bool.and_false, Bool.or_true, Bool.or_false, Bool.true_or, Bool.false_or, bne_self_eq_false, beq_self_eq_true, hj, hz, decide_false]
theorem loop_gcd {W : Env → Store → WR} {i j : Nat} (hij : i ≠ j) (T : ∀ (ρ : Env) (a b : Int), ρ[i]? = some (some (.int a)) → ρ[j]? = some (some (.int b)) → W ρ s = if 0 < b then .go ((ρ.set i (some (.int b))).set j (some (.int (a.fmod b)))) s else .fin (.ok .nx ρ s)) :
    ∀ (m : Nat) (ρ : Env) (a b : Int), ρ[i]? = some (some (.int a)) → ρ[j]? = some (some (.int b)) → 0 ≤ a → 0 ≤ b → b.toNat < m → loopN W m ρ s = .ok .nx ((ρ.set i (some (.int (Int.gcd a b)))).set j (some (.int 0))) s
  | 0, _, _, _, _, _, _, _, h => by omega
  | m + 1, ρ, a, b, hi, hj, ha, hb, h => by
    have li : i < ρ.length := (List.getElem?_eq_some_iff.mp hi).1
    have lj : j < ρ.length := (List.getElem?_eq_some_iff.mp hj).1
    by_cases hz : 0 < b
    · rw [loop_go ((T ρ a b hi hj).trans (if_pos hz))]
      have h1 : 0 ≤ a.fmod b := Int.fmod_nonneg_of_pos a hz
      have h2 : a.fmod b < b := Int.fmod_lt_of_pos a hz
      rw [loop_gcd hij T m _ b (a.fmod b) (by rw [List.getElem?_set_ne hij.symm, List.getElem?_set_self li]) (by rw [List.getElem?_set_self (by simpa using lj)]) hb h1 (by omega)]
      have e : Int.gcd b (a % b + b * (a / b)) = Int.gcd b (a % b) := Int.gcd_add_mul_left_right _ _ _
      rw [Int.emod_add_mul_ediv] at e
      rw [Int.fmod_eq_emod_of_nonneg a hb, ← e, Int.gcd_comm b a]
      congr 1
      apply List.ext_getElem?
      intro k
      by_cases k1 : k = j
      · subst k1
        rw [List.getElem?_set_self (by simpa using lj), List.getElem?_set_self (by simpa using lj)]
      · rw [List.getElem?_set_ne (Ne.symm k1), List.getElem?_set_ne (Ne.symm k1)]
        by_cases k2 : k = i
        · subst k2
          rw [List.getElem?_set_self (by simpa using li), List.getElem?_set_self li]
        · rw [List.getElem?_set_ne (Ne.symm k2), List.getElem?_set_ne (Ne.symm k1), List.getElem?_set_ne (Ne.symm k2), List.getElem?_set_ne (Ne.symm k2)]
    · have : b = 0 := by omega
      subst this
      rw [loop_fin ((T ρ a 0 hi hj).trans (if_neg hz))]
      have e : ((Int.gcd a 0 : Nat) : Int) = a := by simp [Int.gcd, Int.natAbs_of_nonneg ha]
      rw [e]
      congr 1
      apply List.ext_getElem?
      intro k
      by_cases k1 : k = j
      · subst k1
        rw [List.getElem?_set_self (by simpa using lj), hj]
      · rw [List.getElem?_set_ne (Ne.symm k1)]
        by_cases k2 : k = i
        · subst k2
          rw [List.getElem?_set_self li, hi]
        · rw [List.getElem?_set_ne (Ne.symm k2)]
theorem run_llow4 {n : Nat} (h : Has P Pl.Q__law_low_v4) (a b : Int) (hb : b ≠ 0) (hs : b.natAbs < dmax) : run P (n + 1) 513 [.int a, .int b] s = .ok (fr (Rat.divInt a b)) s := by
  have hm : b.natAbs < most := Nat.lt_of_lt_of_le hs (two_pow_le (by decide))
  have gz : b.gcd a ≠ 0 := Nat.ne_of_gt (Int.gcd_pos_of_ne_zero_left a hb)
  have gd : b.gcd a < dmax := Nat.lt_of_le_of_lt (Nat.le_of_dvd (by omega) (Nat.gcd_dvd_left _ _)) hs
  have g1 : (a.gcd b : Int) ≠ 0 := by rw [Int.gcd_comm]; omega
  have g2 : (a.gcd b : Int).natAbs < dmax := by rw [Int.gcd_comm]; simpa using gd
  have num := Rat.num_divInt a b
  have den := Rat.den_divInt a b
  rw [if_neg hb] at den
  have ea : (if a < 0 then -a else a) = (a.natAbs : Int) := by split <;> omega
  have eb : (if b < 0 then -b else b) = (b.natAbs : Int) := by split <;> omega
  have eg : Int.gcd (a.natAbs : Int) (b.natAbs : Int) = a.gcd b := by simp [Int.gcd]
  have lp := loop_gcd (s := s) (i := 2) (j := 3) (by decide) (fun ρ x y => turn_gcdP (s := s) (run P n) P.G (ρ := ρ) (i := 2) (j := 3) (a := x) (b := y)) most [some (.int a), some (.int b), some (.int (a.natAbs : Int)), some (.int (b.natAbs : Int)), none] (a.natAbs : Int) (b.natAbs : Int) rfl rfl (by omega) (by omega) (by simpa using hm)
  rw [eg] at lp
  simp only [gcdP, List.set_cons_succ, List.set_cons_zero] at lp
  have m1 : mulOk 1 a = true := mulOkL (by decide)
  have m2 : mulOk 1 b = true := mulOkL (by decide)
  have m3 : mulOk (-1) a = true := mulOkL (by decide)
  have m4 : mulOk (-1) b = true := mulOkL (by decide)
  rw [has_run (F := Pl.F__law_low_v4) h (by decide) rfl]
  by_cases hl : 0 < b
  · simp only [Pl.F__law_low_v4, Pl.B__law_low_v4, runFn, evSs, ev_var, ev_int, ev_bl, ev_non, ev_str, ev_glob, ev_bin, ev_neg, ev_not, ev_and, ev_or, ev_cmp, ev_chain, ev_isn, ev_isb, ev_ite, ev_tup, ev_lst, ev_idx, ev_slice, ev_call, ev_blt, ev_inst, ev_meth, ev_comp, evL_nil, evL_cons, evAnd_1, evOr_1, evAnd_cons, evOr_cons, evS_set, evS_par, evS_unp, evS_sub, evS_subs, evS_aug, evS_ex, evS_ret, evS_ite, evS_whl, evS_for, evS_brk, evS_pass, itE, pIter, srcOf, chk_nil, compEnd, evAnd1, evSub, evLT, evSubs, R.bind, R.thn, RS.turn, PR.fin, asB, kRef, kNeg, kNot, kIsn, kIsb, kTup, kInst, kSet, kPar, kPut, kAug, kSubs, isNon_non, isNon_bl, isNon_int, isNon_str, isNon_tup, isNon_lst, isNon_klst, isNon_ref, isT_non_int, isT_non_bool, isT_non_tuple, isT_non_list, isT_non_str, isT_non_tuple_list, isT_non_list_tuple, isT_bl_int, isT_bl_bool, isT_bl_tuple, isT_bl_list, isT_bl_str, isT_bl_tuple_list, isT_bl_list_tuple, isT_int_int, isT_int_bool, isT_int_tuple, isT_int_list, isT_int_str, isT_int_tuple_list, isT_int_list_tuple, isT_str_int, isT_str_bool, isT_str_tuple, isT_str_list, isT_str_str, isT_str_tuple_list, isT_str_list_tuple, isT_tup_int, isT_tup_bool, isT_tup_tuple, isT_tup_list, isT_tup_str, isT_tup_tuple_list, isT_tup_list_tuple, isT_lst_int, isT_lst_bool, isT_lst_tuple, isT_lst_list, isT_lst_str, isT_lst_tuple_list, isT_lst_list_tuple, isT_klst_int, isT_klst_bool, isT_klst_tuple, isT_klst_list, isT_klst_str, isT_klst_tuple_list, isT_klst_list_tuple, isT_ref_int, isT_ref_bool, isT_ref_tuple, isT_ref_list, isT_ref_str, isT_ref_tuple_list, isT_ref_list_tuple, cmp_eqI, cmp_neI, cmp_ltI, cmp_leI, cmp_gtI, cmp_geI, cmp_eqB, cmp_neB, idx_hand0, set_hand0, idx_hand1, set_hand1, idx_hand2, set_hand2, idx_hand3, set_hand3, idx_hand4, set_hand4, pBin, idx_tup0, idx_tup1, idx_tup2, idx_tup3, idx_tup4, idx_tup5, idx_tup6, idx_tup7, Int.cast_ofNat_Int, blt_abs, blt_int, blt_intB, blt_len_tup, blt_len_lst, blt_len_klst, blt_tuple_tup, blt_tuple_lst, blt_list_tup, blt_list_lst, blt_sum, blt_all_lst, blt_any_lst, blt_max2, blt_min2, intsD, boolsD, List.length_map, items, place, put, putL, wipe, Tg.names, Tg.namesL, deref, List.map_cons, List.map_nil, List.length_cons, List.length_nil, List.getElem?_cons_zero, List.getElem?_cons_succ, List.getElem?_nil, List.getElem?_append, List.set_cons_zero, List.set_cons_succ, List.set_nil, List.cons_append, List.nil_append, List.append_nil, List.replicate_succ, List.replicate_zero, Nat.sub_self, Nat.add_sub_cancel, Option.map_some, Option.map_none, Option.bind_some, Option.bind_none, Option.some.injEq, if_true, if_false, ite_true, ite_false, Bool.false_eq_true, reduceCtorEq, Nat.reduceSub, Nat.reduceAdd, Nat.reduceLT, Nat.reduceLeDiff, Nat.reduceEqDiff, Nat.reduceMul, Int.reduceLT, Int.reduceLE, Int.reduceEq, Int.reduceNe, Int.reducePow, Int.reduceToNat, Int.reduceNeg, Int.reduceNegSucc, Nat.zero_add, Int.reduceAdd, Int.reduceSub, Int.reduceMul, not_true_eq_false, not_false_eq_true, Nat.lt_irrefl, Nat.zero_le, Nat.zero_lt_succ, Nat.succ_sub_succ_eq_sub, Nat.reduceSucc, bne_tt, bne_tf, bne_ft, Bool.not_true, Bool.not_false, Bool.true_and, Bool.false_and, Bool.and_true, Bool.and_false, Bool.or_true, Bool.or_false, Bool.true_or, Bool.false_or, bne_self_eq_false, beq_self_eq_true, ea, eb, lp, hl, decide_true, m1, m2, g1, g2, ne_eq, not_false_eq_true, and_self, Int.one_mul]
    have sg : b.sign = 1 := Int.sign_eq_one_of_pos hl
    unfold fr
    rw [num, den, sg, Int.gcd_comm a b, fdiv_gcd gz, fdiv_gcd gz, Int.natCast_ediv, show ((b.natAbs : Nat) : Int) = b by omega, Int.one_mul]
  · simp only [Pl.F__law_low_v4, Pl.B__law_low_v4, runFn, evSs, ev_var, ev_int, ev_bl, ev_non, ev_str, ev_glob, ev_bin, ev_neg, ev_not, ev_and, ev_or, ev_cmp, ev_chain, ev_isn, ev_isb, ev_ite, ev_tup, ev_lst, ev_idx, ev_slice, ev_call, ev_blt, ev_inst, ev_meth, ev_comp, evL_nil, evL_cons, evAnd_1, evOr_1, evAnd_cons, evOr_cons, evS_set, evS_par, evS_unp, evS_sub, evS_subs, evS_aug, evS_ex, evS_ret, evS_ite, evS_whl, evS_for, evS_brk, evS_pass, itE, pIter, srcOf, chk_nil, compEnd, evAnd1, evSub, evLT, evSubs, R.bind, R.thn, RS.turn, PR.fin, asB, kRef, kNeg, kNot, kIsn, kIsb, kTup, kInst, kSet, kPar, kPut, kAug, kSubs, isNon_non, isNon_bl, isNon_int, isNon_str, isNon_tup, isNon_lst, isNon_klst, isNon_ref, isT_non_int, isT_non_bool, isT_non_tuple, isT_non_list, isT_non_str, isT_non_tuple_list, isT_non_list_tuple, isT_bl_int, isT_bl_bool, isT_bl_tuple, isT_bl_list, isT_bl_str, isT_bl_tuple_list, isT_bl_list_tuple, isT_int_int, isT_int_bool, isT_int_tuple, isT_int_list, isT_int_str, isT_int_tuple_list, isT_int_list_tuple, isT_str_int, isT_str_bool, isT_str_tuple, isT_str_list, isT_str_str, isT_str_tuple_list, isT_str_list_tuple, isT_tup_int, isT_tup_bool, isT_tup_tuple, isT_tup_list, isT_tup_str, isT_tup_tuple_list, isT_tup_list_tuple, isT_lst_int, isT_lst_bool, isT_lst_tuple, isT_lst_list, isT_lst_str, isT_lst_tuple_list, isT_lst_list_tuple, isT_klst_int, isT_klst_bool, isT_klst_tuple, isT_klst_list, isT_klst_str, isT_klst_tuple_list, isT_klst_list_tuple, isT_ref_int, isT_ref_bool, isT_ref_tuple, isT_ref_list, isT_ref_str, isT_ref_tuple_list, isT_ref_list_tuple, cmp_eqI, cmp_neI, cmp_ltI, cmp_leI, cmp_gtI, cmp_geI, cmp_eqB, cmp_neB, idx_hand0, set_hand0, idx_hand1, set_hand1, idx_hand2, set_hand2, idx_hand3, set_hand3, idx_hand4, set_hand4, pBin, idx_tup0, idx_tup1, idx_tup2, idx_tup3, idx_tup4, idx_tup5, idx_tup6, idx_tup7, Int.cast_ofNat_Int, blt_abs, blt_int, blt_intB, blt_len_tup, blt_len_lst, blt_len_klst, blt_tuple_tup, blt_tuple_lst, blt_list_tup, blt_list_lst, blt_sum, blt_all_lst, blt_any_lst, blt_max2, blt_min2, intsD, boolsD, List.length_map, items, place, put, putL, wipe, Tg.names, Tg.namesL, deref, List.map_cons, List.map_nil, List.length_cons, List.length_nil, List.getElem?_cons_zero, List.getElem?_cons_succ, List.getElem?_nil, List.getElem?_append, List.set_cons_zero, List.set_cons_succ, List.set_nil, List.cons_append, List.nil_append, List.append_nil, List.replicate_succ, List.replicate_zero, Nat.sub_self, Nat.add_sub_cancel, Option.map_some, Option.map_none, Option.bind_some, Option.bind_none, Option.some.injEq, if_true, if_false, ite_true, ite_false, Bool.false_eq_true, reduceCtorEq, Nat.reduceSub, Nat.reduceAdd, Nat.reduceLT, Nat.reduceLeDiff, Nat.reduceEqDiff, Nat.reduceMul, Int.reduceLT, Int.reduceLE, Int.reduceEq, Int.reduceNe, Int.reducePow, Int.reduceToNat, Int.reduceNeg, Int.reduceNegSucc, Nat.zero_add, Int.reduceAdd, Int.reduceSub, Int.reduceMul, not_true_eq_false, not_false_eq_true, Nat.lt_irrefl, Nat.zero_le, Nat.zero_lt_succ, Nat.succ_sub_succ_eq_sub, Nat.reduceSucc, bne_tt, bne_tf, bne_ft, Bool.not_true, Bool.not_false, Bool.true_and, Bool.false_and, Bool.and_true, Bool.and_false, Bool.or_true, Bool.or_false, Bool.true_or, Bool.false_or, bne_self_eq_false, beq_self_eq_true, ea, eb, lp, hl, decide_false, m3, m4, g1, g2, ne_eq, not_false_eq_true, and_self]
    have sg : b.sign = -1 := Int.sign_eq_neg_one_of_neg (by omega)
    unfold fr
    rw [num, den, sg, Int.gcd_comm a b, fdiv_gcd gz, fdiv_gcd gz, Int.natCast_ediv, show ((b.natAbs : Nat) : Int) = -1 * b by omega]
theorem run_lplus2 (h : Has P Pl.Q__law_plus_v2) {j k : Nat} (a b : Rat) [x : Bq j a] [y : Bq k b] (hj : j ≤ 4000) (hk : k ≤ 4000) (n : Nat) : run P (n + 2) 518 [fr a, fr b] s = .ok (fr (a + b)) s := by
  have m1 := mulOk_big (Bi.big (i := a.num) inferInstance (by omega)) (Bi.big (i := (b.den : Int)) inferInstance (by omega))
  have m2 := mulOk_big (Bi.big (i := b.num) inferInstance (by omega)) (Bi.big (i := (a.den : Int)) inferInstance (by omega))
  have m3 := mulOk_big (Bi.big (i := (a.den : Int)) inferInstance (by omega)) (Bi.big (i := (b.den : Int)) inferInstance (by omega))
  have hd := dmax_of (Bi.mul (a := (a.den : Int)) (b := (b.den : Int))).lt (by omega)
  rw [has_run (F := Pl.F__law_plus_v2) h (by decide) rfl]
  simp only [runFn, evSs, ev_var, ev_int, ev_bl, ev_non, ev_str, ev_glob, ev_bin, ev_neg, ev_not, ev_and, ev_or, ev_cmp, ev_chain, ev_isn, ev_isb, ev_ite, ev_tup, ev_lst, ev_idx, ev_slice, ev_call, ev_blt, ev_inst, ev_meth, ev_comp, evL_nil, evL_cons, evAnd_1, evOr_1, evAnd_cons, evOr_cons, evS_set, evS_par, evS_unp, evS_sub, evS_subs, evS_aug, evS_ex, evS_ret, evS_ite, evS_whl, evS_for, evS_brk, evS_pass, itE, pIter, srcOf, chk_nil, compEnd, evAnd1, evSub, evLT, evSubs, R.bind, R.thn, RS.turn, PR.fin, asB, kRef, kNeg, kNot, kIsn, kIsb, kTup, kInst, kSet, kPar, kPut, kAug, kSubs, isNon_non, isNon_bl, isNon_int, isNon_str, isNon_tup, isNon_lst, isNon_klst, isNon_ref, isT_non_int, isT_non_bool, isT_non_tuple, isT_non_list, isT_non_str, isT_non_tuple_list, isT_non_list_tuple, isT_bl_int, isT_bl_bool, isT_bl_tuple, isT_bl_list, isT_bl_str, isT_bl_tuple_list, isT_bl_list_tuple, isT_int_int, isT_int_bool, isT_int_tuple, isT_int_list, isT_int_str, isT_int_tuple_list, isT_int_list_tuple, isT_str_int, isT_str_bool, isT_str_tuple, isT_str_list, isT_str_str, isT_str_tuple_list, isT_str_list_tuple, isT_tup_int, isT_tup_bool, isT_tup_tuple, isT_tup_list, isT_tup_str, isT_tup_tuple_list, isT_tup_list_tuple, isT_lst_int, isT_lst_bool, isT_lst_tuple, isT_lst_list, isT_lst_str, isT_lst_tuple_list, isT_lst_list_tuple, isT_klst_int, isT_klst_bool, isT_klst_tuple, isT_klst_list, isT_klst_str, isT_klst_tuple_list, isT_klst_list_tuple, isT_ref_int, isT_ref_bool, isT_ref_tuple, isT_ref_list, isT_ref_str, isT_ref_tuple_list, isT_ref_list_tuple, cmp_eqI, cmp_neI, cmp_ltI, cmp_leI, cmp_gtI, cmp_geI, cmp_eqB, cmp_neB, idx_hand0, set_hand0, idx_hand1, set_hand1, idx_hand2, set_hand2, idx_hand3, set_hand3, idx_hand4, set_hand4, pBin, idx_tup0, idx_tup1, idx_tup2, idx_tup3, idx_tup4, idx_tup5, idx_tup6, idx_tup7, Int.cast_ofNat_Int, blt_abs, blt_int, blt_intB, blt_len_tup, blt_len_lst, blt_len_klst, blt_tuple_tup, blt_tuple_lst, blt_list_tup, blt_list_lst, blt_sum, blt_all_lst, blt_any_lst, blt_max2, blt_min2, intsD, boolsD, List.length_map, items, place, put, putL, wipe, Tg.names, Tg.namesL, deref, List.map_cons, List.map_nil, List.length_cons, List.length_nil, List.getElem?_cons_zero, List.getElem?_cons_succ, List.getElem?_nil, List.getElem?_append, List.set_cons_zero, List.set_cons_succ, List.set_nil, List.cons_append, List.nil_append, List.append_nil, List.replicate_succ, List.replicate_zero, Nat.sub_self, Nat.add_sub_cancel, Option.map_some, Option.map_none, Option.bind_some, Option.bind_none, Option.some.injEq, if_true, if_false, ite_true, ite_false, Bool.false_eq_true, reduceCtorEq, Nat.reduceSub, Nat.reduceAdd, Nat.reduceLT, Nat.reduceLeDiff, Nat.reduceEqDiff, Nat.reduceMul, Int.reduceLT, Int.reduceLE, Int.reduceEq, Int.reduceNe, Int.reducePow, Int.reduceToNat, Int.reduceNeg, Int.reduceNegSucc, Nat.zero_add, Int.reduceAdd, Int.reduceSub, Int.reduceMul, not_true_eq_false, not_false_eq_true, Nat.lt_irrefl, Nat.zero_le, Nat.zero_lt_succ, Nat.succ_sub_succ_eq_sub, Nat.reduceSucc, bne_tt, bne_tf, bne_ft, Bool.not_true, Bool.not_false, Bool.true_and, Bool.false_and, Bool.and_true, Bool.and_false, Bool.or_true, Bool.or_false, Bool.true_or, Bool.false_or, bne_self_eq_false, beq_self_eq_true, Pl.F__law_plus_v2, Pl.B__law_plus_v2, fr, m1, m2, m3]
  rw [run_llow4 (h.sub (by decide)) _ _ (den_ne2 a b) hd, add_eq]
  rfl
theorem run_lless2 (h : Has P Pl.Q__law_less_v2) {j k : Nat} (a b : Rat) [x : Bq j a] [y : Bq k b] (hj : j ≤ 4000) (hk : k ≤ 4000) (n : Nat) : run P (n + 2) 516 [fr a, fr b] s = .ok (fr (a - b)) s := by
  have m1 := mulOk_big (Bi.big (i := a.num) inferInstance (by omega)) (Bi.big (i := (b.den : Int)) inferInstance (by omega))
  have m2 := mulOk_big (Bi.big (i := b.num) inferInstance (by omega)) (Bi.big (i := (a.den : Int)) inferInstance (by omega))
  have m3 := mulOk_big (Bi.big (i := (a.den : Int)) inferInstance (by omega)) (Bi.big (i := (b.den : Int)) inferInstance (by omega))
  have hd := dmax_of (Bi.mul (a := (a.den : Int)) (b := (b.den : Int))).lt (by omega)
  rw [has_run (F := Pl.F__law_less_v2) h (by decide) rfl]
  simp only [runFn, evSs, ev_var, ev_int, ev_bl, ev_non, ev_str, ev_glob, ev_bin, ev_neg, ev_not, ev_and, ev_or, ev_cmp, ev_chain, ev_isn, ev_isb, ev_ite, ev_tup, ev_lst, ev_idx, ev_slice, ev_call, ev_blt, ev_inst, ev_meth, ev_comp, evL_nil, evL_cons, evAnd_1, evOr_1, evAnd_cons, evOr_cons, evS_set, evS_par, evS_unp, evS_sub, evS_subs, evS_aug, evS_ex, evS_ret, evS_ite, evS_whl, evS_for, evS_brk, evS_pass, itE, pIter, srcOf, chk_nil, compEnd, evAnd1, evSub, evLT, evSubs, R.bind, R.thn, RS.turn, PR.fin, asB, kRef, kNeg, kNot, kIsn, kIsb, kTup, kInst, kSet, kPar, kPut, kAug, kSubs, isNon_non, isNon_bl, isNon_int, isNon_str, isNon_tup, isNon_lst, isNon_klst, isNon_ref, isT_non_int, isT_non_bool, isT_non_tuple, isT_non_list, isT_non_str, isT_non_tuple_list, isT_non_list_tuple, isT_bl_int, isT_bl_bool, isT_bl_tuple, isT_bl_list, isT_bl_str, isT_bl_tuple_list, isT_bl_list_tuple, isT_int_int, isT_int_bool, isT_int_tuple, isT_int_list, isT_int_str, isT_int_tuple_list, isT_int_list_tuple, isT_str_int, isT_str_bool, isT_str_tuple, isT_str_list, isT_str_str, isT_str_tuple_list, isT_str_list_tuple, isT_tup_int, isT_tup_bool, isT_tup_tuple, isT_tup_list, isT_tup_str, isT_tup_tuple_list, isT_tup_list_tuple, isT_lst_int, isT_lst_bool, isT_lst_tuple, isT_lst_list, isT_lst_str, isT_lst_tuple_list, isT_lst_list_tuple, isT_klst_int, isT_klst_bool, isT_klst_tuple, isT_klst_list, isT_klst_str, isT_klst_tuple_list, isT_klst_list_tuple, isT_ref_int, isT_ref_bool, isT_ref_tuple, isT_ref_list, isT_ref_str, isT_ref_tuple_list, isT_ref_list_tuple, cmp_eqI, cmp_neI, cmp_ltI, cmp_leI, cmp_gtI, cmp_geI, cmp_eqB, cmp_neB, idx_hand0, set_hand0, idx_hand1, set_hand1, idx_hand2, set_hand2, idx_hand3, set_hand3, idx_hand4, set_hand4, pBin, idx_tup0, idx_tup1, idx_tup2, idx_tup3, idx_tup4, idx_tup5, idx_tup6, idx_tup7, Int.cast_ofNat_Int, blt_abs, blt_int, blt_intB, blt_len_tup, blt_len_lst, blt_len_klst, blt_tuple_tup, blt_tuple_lst, blt_list_tup, blt_list_lst, blt_sum, blt_all_lst, blt_any_lst, blt_max2, blt_min2, intsD, boolsD, List.length_map, items, place, put, putL, wipe, Tg.names, Tg.namesL, deref, List.map_cons, List.map_nil, List.length_cons, List.length_nil, List.getElem?_cons_zero, List.getElem?_cons_succ, List.getElem?_nil, List.getElem?_append, List.set_cons_zero, List.set_cons_succ, List.set_nil, List.cons_append, List.nil_append, List.append_nil, List.replicate_succ, List.replicate_zero, Nat.sub_self, Nat.add_sub_cancel, Option.map_some, Option.map_none, Option.bind_some, Option.bind_none, Option.some.injEq, if_true, if_false, ite_true, ite_false, Bool.false_eq_true, reduceCtorEq, Nat.reduceSub, Nat.reduceAdd, Nat.reduceLT, Nat.reduceLeDiff, Nat.reduceEqDiff, Nat.reduceMul, Int.reduceLT, Int.reduceLE, Int.reduceEq, Int.reduceNe, Int.reducePow, Int.reduceToNat, Int.reduceNeg, Int.reduceNegSucc, Nat.zero_add, Int.reduceAdd, Int.reduceSub, Int.reduceMul, not_true_eq_false, not_false_eq_true, Nat.lt_irrefl, Nat.zero_le, Nat.zero_lt_succ, Nat.succ_sub_succ_eq_sub, Nat.reduceSucc, bne_tt, bne_tf, bne_ft, Bool.not_true, Bool.not_false, Bool.true_and, Bool.false_and, Bool.and_true, Bool.and_false, Bool.or_true, Bool.or_false, Bool.true_or, Bool.false_or, bne_self_eq_false, beq_self_eq_true, Pl.F__law_less_v2, Pl.B__law_less_v2, fr, m1, m2, m3]
  rw [run_llow4 (h.sub (by decide)) _ _ (den_ne2 a b) hd, sub_eq]
  rfl
theorem run_ltimes3 (h : Has P Pl.Q__law_times_v3) {j k : Nat} (a b : Rat) [x : Bq j a] [y : Bq k b] (hj : j ≤ 4000) (hk : k ≤ 4000) (n : Nat) : run P (n + 2) 514 [fr a, fr b] s = .ok (fr (a * b)) s := by
  have m1 := mulOk_big (Bi.big (i := a.num) inferInstance (by omega)) (Bi.big (i := b.num) inferInstance (by omega))
  have m3 := mulOk_big (Bi.big (i := (a.den : Int)) inferInstance (by omega)) (Bi.big (i := (b.den : Int)) inferInstance (by omega))
  have hd := dmax_of (Bi.mul (a := (a.den : Int)) (b := (b.den : Int))).lt (by omega)
  rw [has_run (F := Pl.F__law_times_v3) h (by decide) rfl]
  simp only [runFn, evSs, ev_var, ev_int, ev_bl, ev_non, ev_str, ev_glob, ev_bin, ev_neg, ev_not, ev_and, ev_or, ev_cmp, ev_chain, ev_isn, ev_isb, ev_ite, ev_tup, ev_lst, ev_idx, ev_slice, ev_call, ev_blt, ev_inst, ev_meth, ev_comp, evL_nil, evL_cons, evAnd_1, evOr_1, evAnd_cons, evOr_cons, evS_set, evS_par, evS_unp, evS_sub, evS_subs, evS_aug, evS_ex, evS_ret, evS_ite, evS_whl, evS_for, evS_brk, evS_pass, itE, pIter, srcOf, chk_nil, compEnd, evAnd1, evSub, evLT, evSubs, R.bind, R.thn, RS.turn, PR.fin, asB, kRef, kNeg, kNot, kIsn, kIsb, kTup, kInst, kSet, kPar, kPut, kAug, kSubs, isNon_non, isNon_bl, isNon_int, isNon_str, isNon_tup, isNon_lst, isNon_klst, isNon_ref, isT_non_int, isT_non_bool, isT_non_tuple, isT_non_list, isT_non_str, isT_non_tuple_list, isT_non_list_tuple, isT_bl_int, isT_bl_bool, isT_bl_tuple, isT_bl_list, isT_bl_str, isT_bl_tuple_list, isT_bl_list_tuple, isT_int_int, isT_int_bool, isT_int_tuple, isT_int_list, isT_int_str, isT_int_tuple_list, isT_int_list_tuple, isT_str_int, isT_str_bool, isT_str_tuple, isT_str_list, isT_str_str, isT_str_tuple_list, isT_str_list_tuple, isT_tup_int, isT_tup_bool, isT_tup_tuple, isT_tup_list, isT_tup_str, isT_tup_tuple_list, isT_tup_list_tuple, isT_lst_int, isT_lst_bool, isT_lst_tuple, isT_lst_list, isT_lst_str, isT_lst_tuple_list, isT_lst_list_tuple, isT_klst_int, isT_klst_bool, isT_klst_tuple, isT_klst_list, isT_klst_str, isT_klst_tuple_list, isT_klst_list_tuple, isT_ref_int, isT_ref_bool, isT_ref_tuple, isT_ref_list, isT_ref_str, isT_ref_tuple_list, isT_ref_list_tuple, cmp_eqI, cmp_neI, cmp_ltI, cmp_leI, cmp_gtI, cmp_geI, cmp_eqB, cmp_neB, idx_hand0, set_hand0, idx_hand1, set_hand1, idx_hand2, set_hand2, idx_hand3, set_hand3, idx_hand4, set_hand4, pBin, idx_tup0, idx_tup1, idx_tup2, idx_tup3, idx_tup4, idx_tup5, idx_tup6, idx_tup7, Int.cast_ofNat_Int, blt_abs, blt_int, blt_intB, blt_len_tup, blt_len_lst, blt_len_klst, blt_tuple_tup, blt_tuple_lst, blt_list_tup, blt_list_lst, blt_sum, blt_all_lst, blt_any_lst, blt_max2, blt_min2, intsD, boolsD, List.length_map, items, place, put, putL, wipe, Tg.names, Tg.namesL, deref, List.map_cons, List.map_nil, List.length_cons, List.length_nil, List.getElem?_cons_zero, List.getElem?_cons_succ, List.getElem?_nil, List.getElem?_append, List.set_cons_zero, List.set_cons_succ, List.set_nil, List.cons_append, List.nil_append, List.append_nil, List.replicate_succ, List.replicate_zero, Nat.sub_self, Nat.add_sub_cancel, Option.map_some, Option.map_none, Option.bind_some, Option.bind_none, Option.some.injEq, if_true, if_false, ite_true, ite_false, Bool.false_eq_true, reduceCtorEq, Nat.reduceSub, Nat.reduceAdd, Nat.reduceLT, Nat.reduceLeDiff, Nat.reduceEqDiff, Nat.reduceMul, Int.reduceLT, Int.reduceLE, Int.reduceEq, Int.reduceNe, Int.reducePow, Int.reduceToNat, Int.reduceNeg, Int.reduceNegSucc, Nat.zero_add, Int.reduceAdd, Int.reduceSub, Int.reduceMul, not_true_eq_false, not_false_eq_true, Nat.lt_irrefl, Nat.zero_le, Nat.zero_lt_succ, Nat.succ_sub_succ_eq_sub, Nat.reduceSucc, bne_tt, bne_tf, bne_ft, Bool.not_true, Bool.not_false, Bool.true_and, Bool.false_and, Bool.and_true, Bool.and_false, Bool.or_true, Bool.or_false, Bool.true_or, Bool.false_or, bne_self_eq_false, beq_self_eq_true, Pl.F__law_times_v3, Pl.B__law_times_v3, fr, m1, m3]
  rw [run_llow4 (h.sub (by decide)) _ _ (den_ne2 a b) hd, mul_eq]
  rfl
theorem run_lover2 (h : Has P Pl.Q__law_over_v2) {j k : Nat} (a b : Rat) [x : Bq j a] [y : Bq k b] (hj : j ≤ 4000) (hk : k ≤ 4000) (hb : b ≠ 0) (n : Nat) : run P (n + 2) 522 [fr a, fr b] s = .ok (fr (a / b)) s := by
  have m1 := mulOk_big (Bi.big (i := a.num) inferInstance (by omega)) (Bi.big (i := (b.den : Int)) inferInstance (by omega))
  have m3 := mulOk_big (Bi.big (i := (a.den : Int)) inferInstance (by omega)) (Bi.big (i := b.num) inferInstance (by omega))
  have hd := dmax_of (Bi.mul (a := (a.den : Int)) (b := b.num)).lt (by omega)
  have hn : b.num ≠ 0 := fun z => hb (Rat.num_eq_zero.mp z)
  rw [has_run (F := Pl.F__law_over_v2) h (by decide) rfl]
  simp only [runFn, evSs, ev_var, ev_int, ev_bl, ev_non, ev_str, ev_glob, ev_bin, ev_neg, ev_not, ev_and, ev_or, ev_cmp, ev_chain, ev_isn, ev_isb, ev_ite, ev_tup, ev_lst, ev_idx, ev_slice, ev_call, ev_blt, ev_inst, ev_meth, ev_comp, evL_nil, evL_cons, evAnd_1, evOr_1, evAnd_cons, evOr_cons, evS_set, evS_par, evS_unp, evS_sub, evS_subs, evS_aug, evS_ex, evS_ret, evS_ite, evS_whl, evS_for, evS_brk, evS_pass, itE, pIter, srcOf, chk_nil, compEnd, evAnd1, evSub, evLT, evSubs, R.bind, R.thn, RS.turn, PR.fin, asB, kRef, kNeg, kNot, kIsn, kIsb, kTup, kInst, kSet, kPar, kPut, kAug, kSubs, isNon_non, isNon_bl, isNon_int, isNon_str, isNon_tup, isNon_lst, isNon_klst, isNon_ref, isT_non_int, isT_non_bool, isT_non_tuple, isT_non_list, isT_non_str, isT_non_tuple_list, isT_non_list_tuple, isT_bl_int, isT_bl_bool, isT_bl_tuple, isT_bl_list, isT_bl_str, isT_bl_tuple_list, isT_bl_list_tuple, isT_int_int, isT_int_bool, isT_int_tuple, isT_int_list, isT_int_str, isT_int_tuple_list, isT_int_list_tuple, isT_str_int, isT_str_bool, isT_str_tuple, isT_str_list, isT_str_str, isT_str_tuple_list, isT_str_list_tuple, isT_tup_int, isT_tup_bool, isT_tup_tuple, isT_tup_list, isT_tup_str, isT_tup_tuple_list, isT_tup_list_tuple, isT_lst_int, isT_lst_bool, isT_lst_tuple, isT_lst_list, isT_lst_str, isT_lst_tuple_list, isT_lst_list_tuple, isT_klst_int, isT_klst_bool, isT_klst_tuple, isT_klst_list, isT_klst_str, isT_klst_tuple_list, isT_klst_list_tuple, isT_ref_int, isT_ref_bool, isT_ref_tuple, isT_ref_list, isT_ref_str, isT_ref_tuple_list, isT_ref_list_tuple, cmp_eqI, cmp_neI, cmp_ltI, cmp_leI, cmp_gtI, cmp_geI, cmp_eqB, cmp_neB, idx_hand0, set_hand0, idx_hand1, set_hand1, idx_hand2, set_hand2, idx_hand3, set_hand3, idx_hand4, set_hand4, pBin, idx_tup0, idx_tup1, idx_tup2, idx_tup3, idx_tup4, idx_tup5, idx_tup6, idx_tup7, Int.cast_ofNat_Int, blt_abs, blt_int, blt_intB, blt_len_tup, blt_len_lst, blt_len_klst, blt_tuple_tup, blt_tuple_lst, blt_list_tup, blt_list_lst, blt_sum, blt_all_lst, blt_any_lst, blt_max2, blt_min2, intsD, boolsD, List.length_map, items, place, put, putL, wipe, Tg.names, Tg.namesL, deref, List.map_cons, List.map_nil, List.length_cons, List.length_nil, List.getElem?_cons_zero, List.getElem?_cons_succ, List.getElem?_nil, List.getElem?_append, List.set_cons_zero, List.set_cons_succ, List.set_nil, List.cons_append, List.nil_append, List.append_nil, List.replicate_succ, List.replicate_zero, Nat.sub_self, Nat.add_sub_cancel, Option.map_some, Option.map_none, Option.bind_some, Option.bind_none, Option.some.injEq, if_true, if_false, ite_true, ite_false, Bool.false_eq_true, reduceCtorEq, Nat.reduceSub, Nat.reduceAdd, Nat.reduceLT, Nat.reduceLeDiff, Nat.reduceEqDiff, Nat.reduceMul, Int.reduceLT, Int.reduceLE, Int.reduceEq, Int.reduceNe, Int.reducePow, Int.reduceToNat, Int.reduceNeg, Int.reduceNegSucc, Nat.zero_add, Int.reduceAdd, Int.reduceSub, Int.reduceMul, not_true_eq_false, not_false_eq_true, Nat.lt_irrefl, Nat.zero_le, Nat.zero_lt_succ, Nat.succ_sub_succ_eq_sub, Nat.reduceSucc, bne_tt, bne_tf, bne_ft, Bool.not_true, Bool.not_false, Bool.true_and, Bool.false_and, Bool.and_true, Bool.and_false, Bool.or_true, Bool.or_false, Bool.true_or, Bool.false_or, bne_self_eq_false, beq_self_eq_true, Pl.F__law_over_v2, Pl.B__law_over_v2, fr, m1, m3]
  rw [run_llow4 (h.sub (by decide)) _ _ (Int.mul_ne_zero (den_ne a) hn) hd, div_eq]
  rfl
end
end Pi

set_option Elab.async false
set_option linter.all false
set_option maxRecDepth 100000
namespace Pi
open PySem
section
variable {P : Prog} {s : Store}
theorem llow_loop {n : Nat} {r y : Option D} : ∀ (zs : List Int) (g : Nat) (x : Option D), (∀ z ∈ zs, z.natAbs < most) →
    ∃ x', forL (fun _ => true) (foT P.G (run P n) (.n 2) [.set 2 (.blt false .abs [.var 2]), .whl (.cmp .gt (.var 2) (.int 0)) [.unp (.t [.n 1, .n 2]) (.tup [.var 2, .bin false .mod (.blt false .int [.var 1]) (.var 2)])]]) (zs.map .int) [r, some (.int g), x, y] s =
      .ok .nx [r, some (.int (zs.foldl (fun (g : Nat) z => Int.gcd g z) g : Nat)), x', y] s
  | [], g, x, _ => ⟨x, by rw [List.map_nil, for_nil]; rfl⟩
  | z :: zs, g, x, hz => by
    obtain ⟨x', e⟩ := llow_loop (n := n) (r := r) (y := y) zs (Int.gcd g z) (some (.int 0)) fun w hw => hz w (List.mem_cons_of_mem _ hw)
    refine ⟨x', ?_⟩
    have ea : (if z < 0 then -z else z) = (z.natAbs : Int) := by split <;> omega
    have lp := loop_gcd (s := s) (i := 1) (j := 2) (by decide) (fun ρ a b => turn_gcdU (s := s) (run P n) P.G (ρ := ρ) (i := 1) (j := 2) (a := a) (b := b)) most [r, some (.int g), some (.int (z.natAbs : Int)), y] g (z.natAbs : Int) rfl rfl (by omega) (by omega) (by simpa using hz z List.mem_cons_self)
    have eg : Int.gcd (g : Int) (z.natAbs : Int) = Int.gcd g z := by simp [Int.gcd]
    rw [eg] at lp
    simp only [gcdU, List.set_cons_succ, List.set_cons_zero] at lp
    rw [List.map_cons, for_go (ρ' := [r, some (.int (Int.gcd g z)), some (.int 0), y]) (s' := s), e]
    · rfl
    · simp only [foT, runFn, evSs, ev_var, ev_int, ev_bl, ev_non, ev_str, ev_glob, ev_bin, ev_neg, ev_not, ev_and, ev_or, ev_cmp, ev_chain, ev_isn, ev_isb, ev_ite, ev_tup, ev_lst, ev_idx, ev_slice, ev_call, ev_blt, ev_inst, ev_meth, ev_comp, evL_nil, evL_cons, evAnd_1, evOr_1, evAnd_cons, evOr_cons, evS_set, evS_par, evS_unp, evS_sub, evS_subs, evS_aug, evS_ex, evS_ret, evS_ite, evS_whl, evS_for, evS_brk, evS_pass, itE, pIter, srcOf, chk_nil, compEnd, evAnd1, evSub, evLT, evSubs, R.bind, R.thn, RS.turn, PR.fin, asB, kRef, kNeg, kNot, kIsn, kIsb, kTup, kInst, kSet, kPar, kPut, kAug, kSubs, isNon_non, isNon_bl, isNon_int, isNon_str, isNon_tup, isNon_lst, isNon_klst, isNon_ref, isT_non_int, isT_non_bool, isT_non_tuple, isT_non_list, isT_non_str, isT_non_tuple_list, isT_non_list_tuple, isT_bl_int, isT_bl_bool, isT_bl_tuple, isT_bl_list, isT_bl_str, isT_bl_tuple_list, isT_bl_list_tuple, isT_int_int, isT_int_bool, isT_int_tuple, isT_int_list, isT_int_str, isT_int_tuple_list, isT_int_list_tuple, isT_str_int, isT_str_bool, isT_str_tuple, isT_str_list, isT_str_str, isT_str_tuple_list, isT_str_list_tuple, isT_tup_int, isT_tup_bool, isT_tup_tuple, isT_tup_list, isT_tup_str, isT_tup_tuple_list, isT_tup_list_tuple, isT_lst_int, isT_lst_bool, isT_lst_tuple, isT_lst_list, isT_lst_str, isT_lst_tuple_list, isT_lst_list_tuple, isT_klst_int, isT_klst_bool, isT_klst_tuple, isT_klst_list, isT_klst_str, isT_klst_tuple_list, isT_klst_list_tuple, isT_ref_int, isT_ref_bool, isT_ref_tuple, isT_ref_list, isT_ref_str, isT_ref_tuple_list, isT_ref_list_tuple, cmp_eqI, cmp_neI, cmp_ltI, cmp_leI, cmp_gtI, cmp_geI, cmp_eqB, cmp_neB, idx_hand0, set_hand0, idx_hand1, set_hand1, idx_hand2, set_hand2, idx_hand3, set_hand3, idx_hand4, set_hand4, pBin, idx_tup0, idx_tup1, idx_tup2, idx_tup3, idx_tup4, idx_tup5, idx_tup6, idx_tup7, Int.cast_ofNat_Int, blt_abs, blt_int, blt_intB, blt_len_tup, blt_len_lst, blt_len_klst, blt_tuple_tup, blt_tuple_lst, blt_list_tup, blt_list_lst, blt_sum, blt_all_lst, blt_any_lst, blt_max2, blt_min2, intsD, boolsD, List.length_map, items, place, put, putL, wipe, Tg.names, Tg.namesL, deref, List.map_cons, List.map_nil, List.length_cons, List.length_nil, List.getElem?_cons_zero, List.getElem?_cons_succ, List.getElem?_nil, List.getElem?_append, List.set_cons_zero, List.set_cons_succ, List.set_nil, List.cons_append, List.nil_append, List.append_nil, List.replicate_succ, List.replicate_zero, Nat.sub_self, Nat.add_sub_cancel, Option.map_some, Option.map_none, Option.bind_some, Option.bind_none, Option.some.injEq, if_true, if_false, ite_true, ite_false, Bool.false_eq_true, reduceCtorEq, Nat.reduceSub, Nat.reduceAdd, Nat.reduceLT, Nat.reduceLeDiff, Nat.reduceEqDiff, Nat.reduceMul, Int.reduceLT, Int.reduceLE, Int.reduceEq, Int.reduceNe, Int.reducePow, Int.reduceToNat, Int.reduceNeg, Int.reduceNegSucc, Nat.zero_add, Int.reduceAdd, Int.reduceSub, Int.reduceMul, not_true_eq_false, not_false_eq_true, Nat.lt_irrefl, Nat.zero_le, Nat.zero_lt_succ, Nat.succ_sub_succ_eq_sub, Nat.reduceSucc, bne_tt, bne_tf, bne_ft, Bool.not_true, Bool.not_false, Bool.true_and, Bool.false_and, Bool.and_true, Bool.and_false, Bool.or_true, Bool.or_false, Bool.true_or, Bool.false_or, bne_self_eq_false, beq_self_eq_true, ea, lp]
theorem run_llowest3 {n : Nat} (h : Has P Pl.Q__law_lowest_v3) {zs : List Int} (h0 : gcdL zs ≠ 0) (hz : ∀ z ∈ zs, z.natAbs < dmax) (hl : zs.length ≤ 1000) : run P (n + 1) 523 [.tup (zs.map .int)] s = .ok (ro (can zs)) s := by
  have dm : ∀ k : Nat, k < dmax → k < most := fun k hk => Nat.lt_of_lt_of_le hk (two_pow_le (by decide))
  have gd : gcdL zs < dmax := by
    cases zs with
    | nil => exact absurd rfl h0
    | cons z r =>
      have hne := lastNz_ne h0
      have hm : lastNz (z :: r) ∈ z :: r := by
        unfold lastNz at hne ⊢
        cases hq : ((z :: r).filter (· ≠ 0)).getLast? with
        | none => rw [hq] at hne; exact absurd rfl hne
        | some w => exact (List.mem_filter.mp (List.mem_of_getLast? hq)).1
      have dv := gcdL_dvd (z :: r) _ hm
      have le : gcdL (z :: r) ≤ (lastNz (z :: r)).natAbs := Nat.le_of_dvd (by omega) (by simpa using Int.natAbs_dvd_natAbs.mpr dv)
      exact Nat.lt_of_le_of_lt le (hz _ hm)
  rw [has_run (F := Pl.F__law_lowest_v3) h (by decide) rfl]
  obtain ⟨x', lp⟩ := llow_loop (P := P) (n := n) (s := s) (r := some (.tup (zs.map .int))) (y := none) zs 0 none fun z hz' => dm _ (hz z hz')
  have lp' : forL (fun _ => true) (foT P.G (run P n) (.n 2) [.set 2 (.blt false .abs [.var 2]), .whl (.cmp .gt (.var 2) (.int 0)) [.unp (.t [.n 1, .n 2]) (.tup [.var 2, .bin false .mod (.blt false .int [.var 1]) (.var 2)])]]) (zs.map .int) [some (.tup (zs.map .int)), some (.int 0), none, none] s =
      .ok .nx [some (.tup (zs.map .int)), some (.int (gcdL zs : Nat)), x', none] s := lp
  have hne := lastNz_ne h0
  have g0 : ((gcdL zs : Nat) : Int) ≠ 0 := by omega
  have stepF : ∀ x ∈ zs.map D.int, compStep P.G (run P n) (.var 2) (.n 2) [.cmp .ne (.var 2) (.int 0)] [some (.tup (zs.map .int)), some (.int (gcdL zs : Nat)), x', none] x s = .ok (match x with | .int z => if z = 0 then none else some (.int z) | _ => none) s := by
    intro x hx
    obtain ⟨z, _, rfl⟩ := List.mem_map.mp hx
    by_cases hz : z = 0
    · simp only [compStep, runFn, evSs, ev_var, ev_int, ev_bl, ev_non, ev_str, ev_glob, ev_bin, ev_neg, ev_not, ev_and, ev_or, ev_cmp, ev_chain, ev_isn, ev_isb, ev_ite, ev_tup, ev_lst, ev_idx, ev_slice, ev_call, ev_blt, ev_inst, ev_meth, ev_comp, evL_nil, evL_cons, evAnd_1, evOr_1, evAnd_cons, evOr_cons, evS_set, evS_par, evS_unp, evS_sub, evS_subs, evS_aug, evS_ex, evS_ret, evS_ite, evS_whl, evS_for, evS_brk, evS_pass, itE, pIter, srcOf, chk_nil, compEnd, evAnd1, evSub, evLT, evSubs, R.bind, R.thn, RS.turn, PR.fin, asB, kRef, kNeg, kNot, kIsn, kIsb, kTup, kInst, kSet, kPar, kPut, kAug, kSubs, isNon_non, isNon_bl, isNon_int, isNon_str, isNon_tup, isNon_lst, isNon_klst, isNon_ref, isT_non_int, isT_non_bool, isT_non_tuple, isT_non_list, isT_non_str, isT_non_tuple_list, isT_non_list_tuple, isT_bl_int, isT_bl_bool, isT_bl_tuple, isT_bl_list, isT_bl_str, isT_bl_tuple_list, isT_bl_list_tuple, isT_int_int, isT_int_bool, isT_int_tuple, isT_int_list, isT_int_str, isT_int_tuple_list, isT_int_list_tuple, isT_str_int, isT_str_bool, isT_str_tuple, isT_str_list, isT_str_str, isT_str_tuple_list, isT_str_list_tuple, isT_tup_int, isT_tup_bool, isT_tup_tuple, isT_tup_list, isT_tup_str, isT_tup_tuple_list, isT_tup_list_tuple, isT_lst_int, isT_lst_bool, isT_lst_tuple, isT_lst_list, isT_lst_str, isT_lst_tuple_list, isT_lst_list_tuple, isT_klst_int, isT_klst_bool, isT_klst_tuple, isT_klst_list, isT_klst_str, isT_klst_tuple_list, isT_klst_list_tuple, isT_ref_int, isT_ref_bool, isT_ref_tuple, isT_ref_list, isT_ref_str, isT_ref_tuple_list, isT_ref_list_tuple, cmp_eqI, cmp_neI, cmp_ltI, cmp_leI, cmp_gtI, cmp_geI, cmp_eqB, cmp_neB, idx_hand0, set_hand0, idx_hand1, set_hand1, idx_hand2, set_hand2, idx_hand3, set_hand3, idx_hand4, set_hand4, pBin, idx_tup0, idx_tup1, idx_tup2, idx_tup3, idx_tup4, idx_tup5, idx_tup6, idx_tup7, Int.cast_ofNat_Int, blt_abs, blt_int, blt_intB, blt_len_tup, blt_len_lst, blt_len_klst, blt_tuple_tup, blt_tuple_lst, blt_list_tup, blt_list_lst, blt_sum, blt_all_lst, blt_any_lst, blt_max2, blt_min2, intsD, boolsD, List.length_map, items, place, put, putL, wipe, Tg.names, Tg.namesL, deref, List.map_cons, List.map_nil, List.length_cons, List.length_nil, List.getElem?_cons_zero, List.getElem?_cons_succ, List.getElem?_nil, List.getElem?_append, List.set_cons_zero, List.set_cons_succ, List.set_nil, List.cons_append, List.nil_append, List.append_nil, List.replicate_succ, List.replicate_zero, Nat.sub_self, Nat.add_sub_cancel, Option.map_some, Option.map_none, Option.bind_some, Option.bind_none, Option.some.injEq, if_true, if_false, ite_true, ite_false, Bool.false_eq_true, reduceCtorEq, Nat.reduceSub, Nat.reduceAdd, Nat.reduceLT, Nat.reduceLeDiff, Nat.reduceEqDiff, Nat.reduceMul, Int.reduceLT, Int.reduceLE, Int.reduceEq, Int.reduceNe, Int.reducePow, Int.reduceToNat, Int.reduceNeg, Int.reduceNegSucc, Nat.zero_add, Int.reduceAdd, Int.reduceSub, Int.reduceMul, not_true_eq_false, not_false_eq_true, Nat.lt_irrefl, Nat.zero_le, Nat.zero_lt_succ, Nat.succ_sub_succ_eq_sub, Nat.reduceSucc, bne_tt, bne_tf, bne_ft, Bool.not_true, Bool.not_false, Bool.true_and, Bool.false_and, Bool.and_true, Bool.and_false, Bool.or_true, Bool.or_false, Bool.true_or, Bool.false_or, bne_self_eq_false, beq_self_eq_true, hz, decide_true]
    · simp only [compStep, runFn, evSs, ev_var, ev_int, ev_bl, ev_non, ev_str, ev_glob, ev_bin, ev_neg, ev_not, ev_and, ev_or, ev_cmp, ev_chain, ev_isn, ev_isb, ev_ite, ev_tup, ev_lst, ev_idx, ev_slice, ev_call, ev_blt, ev_inst, ev_meth, ev_comp, evL_nil, evL_cons, evAnd_1, evOr_1, evAnd_cons, evOr_cons, evS_set, evS_par, evS_unp, evS_sub, evS_subs, evS_aug, evS_ex, evS_ret, evS_ite, evS_whl, evS_for, evS_brk, evS_pass, itE, pIter, srcOf, chk_nil, compEnd, evAnd1, evSub, evLT, evSubs, R.bind, R.thn, RS.turn, PR.fin, asB, kRef, kNeg, kNot, kIsn, kIsb, kTup, kInst, kSet, kPar, kPut, kAug, kSubs, isNon_non, isNon_bl, isNon_int, isNon_str, isNon_tup, isNon_lst, isNon_klst, isNon_ref, isT_non_int, isT_non_bool, isT_non_tuple, isT_non_list, isT_non_str, isT_non_tuple_list, isT_non_list_tuple, isT_bl_int, isT_bl_bool, isT_bl_tuple, isT_bl_list, isT_bl_str, isT_bl_tuple_list, isT_bl_list_tuple, isT_int_int, isT_int_bool, isT_int_tuple, isT_int_list, isT_int_str, isT_int_tuple_list, isT_int_list_tuple, isT_str_int, isT_str_bool, isT_str_tuple, isT_str_list, isT_str_str, isT_str_tuple_list, isT_str_list_tuple, isT_tup_int, isT_tup_bool, isT_tup_tuple, isT_tup_list, isT_tup_str, isT_tup_tuple_list, isT_tup_list_tuple, isT_lst_int, isT_lst_bool, isT_lst_tuple, isT_lst_list, isT_lst_str, isT_lst_tuple_list, isT_lst_list_tuple, isT_klst_int, isT_klst_bool, isT_klst_tuple, isT_klst_list, isT_klst_str, isT_klst_tuple_list, isT_klst_list_tuple, isT_ref_int, isT_ref_bool, isT_ref_tuple, isT_ref_list, isT_ref_str, isT_ref_tuple_list, isT_ref_list_tuple, cmp_eqI, cmp_neI, cmp_ltI, cmp_leI, cmp_gtI, cmp_geI, cmp_eqB, cmp_neB, idx_hand0, set_hand0, idx_hand1, set_hand1, idx_hand2, set_hand2, idx_hand3, set_hand3, idx_hand4, set_hand4, pBin, idx_tup0, idx_tup1, idx_tup2, idx_tup3, idx_tup4, idx_tup5, idx_tup6, idx_tup7, Int.cast_ofNat_Int, blt_abs, blt_int, blt_intB, blt_len_tup, blt_len_lst, blt_len_klst, blt_tuple_tup, blt_tuple_lst, blt_list_tup, blt_list_lst, blt_sum, blt_all_lst, blt_any_lst, blt_max2, blt_min2, intsD, boolsD, List.length_map, items, place, put, putL, wipe, Tg.names, Tg.namesL, deref, List.map_cons, List.map_nil, List.length_cons, List.length_nil, List.getElem?_cons_zero, List.getElem?_cons_succ, List.getElem?_nil, List.getElem?_append, List.set_cons_zero, List.set_cons_succ, List.set_nil, List.cons_append, List.nil_append, List.append_nil, List.replicate_succ, List.replicate_zero, Nat.sub_self, Nat.add_sub_cancel, Option.map_some, Option.map_none, Option.bind_some, Option.bind_none, Option.some.injEq, if_true, if_false, ite_true, ite_false, Bool.false_eq_true, reduceCtorEq, Nat.reduceSub, Nat.reduceAdd, Nat.reduceLT, Nat.reduceLeDiff, Nat.reduceEqDiff, Nat.reduceMul, Int.reduceLT, Int.reduceLE, Int.reduceEq, Int.reduceNe, Int.reducePow, Int.reduceToNat, Int.reduceNeg, Int.reduceNegSucc, Nat.zero_add, Int.reduceAdd, Int.reduceSub, Int.reduceMul, not_true_eq_false, not_false_eq_true, Nat.lt_irrefl, Nat.zero_le, Nat.zero_lt_succ, Nat.succ_sub_succ_eq_sub, Nat.reduceSucc, bne_tt, bne_tf, bne_ft, Bool.not_true, Bool.not_false, Bool.true_and, Bool.false_and, Bool.and_true, Bool.and_false, Bool.or_true, Bool.or_false, Bool.true_or, Bool.false_or, bne_self_eq_false, beq_self_eq_true, hz, decide_false]
  have fl : ∀ zs : List Int, (zs.map D.int).filterMap (fun x => match x with | .int z => if z = 0 then none else some (.int z) | _ => none) = (zs.filter (· ≠ 0)).map D.int := by
    intro zs
    induction zs with
    | nil => rfl
    | cons z r ih =>
      by_cases hz : z = 0
      · subst hz
        rw [List.filter_cons_of_neg (by simp), List.map_cons, List.filterMap_cons_none (by rfl)]
        exact ih
      · rw [List.filter_cons_of_pos (by simpa using hz), List.map_cons, List.filterMap_cons_some (b := .int z) (by simp [hz]), List.map_cons]
        rw [ih]
  have cf := comp_filter (zs.map D.int) [] stepF (by simp; omega)
  rw [fl, List.nil_append] at cf
  have hlast : (zs.filter (· ≠ 0)).getLast? = some (lastNz zs) := by
    unfold lastNz at hne ⊢
    cases hq : (zs.filter (· ≠ 0)).getLast? with
    | none => rw [hq] at hne; exact absurd rfl hne
    | some w => rfl
  have il := fun s => idx_last (s := s) hlast
  have stepM : ∀ (q : Int), q ≠ 0 → q.natAbs < dmax → ∀ y : Option D, ∀ x ∈ zs.map D.int, compStep P.G (run P n) (.bin false .fdiv (.var 2) (.var 1)) (.n 2) [] [some (.tup (zs.map .int)), some (.int q), x', y] x s = .ok (some (match x with | .int z => .int (z.fdiv q) | d => d)) s := by
    intro q hq hq2 y x hx
    obtain ⟨z, _, rfl⟩ := List.mem_map.mp hx
    simp only [compStep, runFn, evSs, ev_var, ev_int, ev_bl, ev_non, ev_str, ev_glob, ev_bin, ev_neg, ev_not, ev_and, ev_or, ev_cmp, ev_chain, ev_isn, ev_isb, ev_ite, ev_tup, ev_lst, ev_idx, ev_slice, ev_call, ev_blt, ev_inst, ev_meth, ev_comp, evL_nil, evL_cons, evAnd_1, evOr_1, evAnd_cons, evOr_cons, evS_set, evS_par, evS_unp, evS_sub, evS_subs, evS_aug, evS_ex, evS_ret, evS_ite, evS_whl, evS_for, evS_brk, evS_pass, itE, pIter, srcOf, chk_nil, compEnd, evAnd1, evSub, evLT, evSubs, R.bind, R.thn, RS.turn, PR.fin, asB, kRef, kNeg, kNot, kIsn, kIsb, kTup, kInst, kSet, kPar, kPut, kAug, kSubs, isNon_non, isNon_bl, isNon_int, isNon_str, isNon_tup, isNon_lst, isNon_klst, isNon_ref, isT_non_int, isT_non_bool, isT_non_tuple, isT_non_list, isT_non_str, isT_non_tuple_list, isT_non_list_tuple, isT_bl_int, isT_bl_bool, isT_bl_tuple, isT_bl_list, isT_bl_str, isT_bl_tuple_list, isT_bl_list_tuple, isT_int_int, isT_int_bool, isT_int_tuple, isT_int_list, isT_int_str, isT_int_tuple_list, isT_int_list_tuple, isT_str_int, isT_str_bool, isT_str_tuple, isT_str_list, isT_str_str, isT_str_tuple_list, isT_str_list_tuple, isT_tup_int, isT_tup_bool, isT_tup_tuple, isT_tup_list, isT_tup_str, isT_tup_tuple_list, isT_tup_list_tuple, isT_lst_int, isT_lst_bool, isT_lst_tuple, isT_lst_list, isT_lst_str, isT_lst_tuple_list, isT_lst_list_tuple, isT_klst_int, isT_klst_bool, isT_klst_tuple, isT_klst_list, isT_klst_str, isT_klst_tuple_list, isT_klst_list_tuple, isT_ref_int, isT_ref_bool, isT_ref_tuple, isT_ref_list, isT_ref_str, isT_ref_tuple_list, isT_ref_list_tuple, cmp_eqI, cmp_neI, cmp_ltI, cmp_leI, cmp_gtI, cmp_geI, cmp_eqB, cmp_neB, idx_hand0, set_hand0, idx_hand1, set_hand1, idx_hand2, set_hand2, idx_hand3, set_hand3, idx_hand4, set_hand4, pBin, idx_tup0, idx_tup1, idx_tup2, idx_tup3, idx_tup4, idx_tup5, idx_tup6, idx_tup7, Int.cast_ofNat_Int, blt_abs, blt_int, blt_intB, blt_len_tup, blt_len_lst, blt_len_klst, blt_tuple_tup, blt_tuple_lst, blt_list_tup, blt_list_lst, blt_sum, blt_all_lst, blt_any_lst, blt_max2, blt_min2, intsD, boolsD, List.length_map, items, place, put, putL, wipe, Tg.names, Tg.namesL, deref, List.map_cons, List.map_nil, List.length_cons, List.length_nil, List.getElem?_cons_zero, List.getElem?_cons_succ, List.getElem?_nil, List.getElem?_append, List.set_cons_zero, List.set_cons_succ, List.set_nil, List.cons_append, List.nil_append, List.append_nil, List.replicate_succ, List.replicate_zero, Nat.sub_self, Nat.add_sub_cancel, Option.map_some, Option.map_none, Option.bind_some, Option.bind_none, Option.some.injEq, if_true, if_false, ite_true, ite_false, Bool.false_eq_true, reduceCtorEq, Nat.reduceSub, Nat.reduceAdd, Nat.reduceLT, Nat.reduceLeDiff, Nat.reduceEqDiff, Nat.reduceMul, Int.reduceLT, Int.reduceLE, Int.reduceEq, Int.reduceNe, Int.reducePow, Int.reduceToNat, Int.reduceNeg, Int.reduceNegSucc, Nat.zero_add, Int.reduceAdd, Int.reduceSub, Int.reduceMul, not_true_eq_false, not_false_eq_true, Nat.lt_irrefl, Nat.zero_le, Nat.zero_lt_succ, Nat.succ_sub_succ_eq_sub, Nat.reduceSucc, bne_tt, bne_tf, bne_ft, Bool.not_true, Bool.not_false, Bool.true_and, Bool.false_and, Bool.and_true, Bool.and_false, Bool.or_true, Bool.or_false, Bool.true_or, Bool.false_or, bne_self_eq_false, beq_self_eq_true, ne_eq, hq, hq2, and_self]
  have fm : ∀ q : Int, (zs.map D.int).map (fun x => match x with | .int z => .int (z.fdiv q) | d => d) = (zs.map (·.fdiv q)).map D.int := fun q => by
    rw [List.map_map, List.map_map]
    rfl
  have cm := fun q hq hq2 y => comp_map (zs.map D.int) [] (stepM q hq hq2 y) (by simp; omega)
  have lf : (zs.filter (· ≠ 0)).length ≤ 100000 := by
    have := List.length_filter_le (· ≠ 0) zs
    omega
  have lm : zs.length ≤ 100000 := by omega
  have e : ∀ q, (if lastNz zs < 0 then -(gcdL zs : Int) else (gcdL zs : Int)) = q → can zs = zs.map (·.fdiv q) := fun q hq => by
    unfold can
    rw [if_neg h0, hq]
  by_cases hn : lastNz zs < 0
  · have np : ¬ 0 < lastNz zs := by omega
    have c1 := cm (-(gcdL zs : Int)) (by omega) (by simpa using gd) (some (.lst ((zs.filter (· ≠ 0)).map .int)))
    rw [fm, List.nil_append] at c1
    have z0 : (0 : Int) - (gcdL zs : Int) = -(gcdL zs : Int) := by omega
    rw [e (-(gcdL zs : Int)) (if_pos hn)]
    simp only [Pl.F__law_lowest_v3, Pl.B__law_lowest_v3, runFn, evSs, ev_var, ev_int, ev_bl, ev_non, ev_str, ev_glob, ev_bin, ev_neg, ev_not, ev_and, ev_or, ev_cmp, ev_chain, ev_isn, ev_isb, ev_ite, ev_tup, ev_lst, ev_idx, ev_slice, ev_call, ev_blt, ev_inst, ev_meth, ev_comp, evL_nil, evL_cons, evAnd_1, evOr_1, evAnd_cons, evOr_cons, evS_set, evS_par, evS_unp, evS_sub, evS_subs, evS_aug, evS_ex, evS_ret, evS_ite, evS_whl, evS_for, evS_brk, evS_pass, itE, pIter, srcOf, chk_nil, compEnd, evAnd1, evSub, evLT, evSubs, R.bind, R.thn, RS.turn, PR.fin, asB, kRef, kNeg, kNot, kIsn, kIsb, kTup, kInst, kSet, kPar, kPut, kAug, kSubs, isNon_non, isNon_bl, isNon_int, isNon_str, isNon_tup, isNon_lst, isNon_klst, isNon_ref, isT_non_int, isT_non_bool, isT_non_tuple, isT_non_list, isT_non_str, isT_non_tuple_list, isT_non_list_tuple, isT_bl_int, isT_bl_bool, isT_bl_tuple, isT_bl_list, isT_bl_str, isT_bl_tuple_list, isT_bl_list_tuple, isT_int_int, isT_int_bool, isT_int_tuple, isT_int_list, isT_int_str, isT_int_tuple_list, isT_int_list_tuple, isT_str_int, isT_str_bool, isT_str_tuple, isT_str_list, isT_str_str, isT_str_tuple_list, isT_str_list_tuple, isT_tup_int, isT_tup_bool, isT_tup_tuple, isT_tup_list, isT_tup_str, isT_tup_tuple_list, isT_tup_list_tuple, isT_lst_int, isT_lst_bool, isT_lst_tuple, isT_lst_list, isT_lst_str, isT_lst_tuple_list, isT_lst_list_tuple, isT_klst_int, isT_klst_bool, isT_klst_tuple, isT_klst_list, isT_klst_str, isT_klst_tuple_list, isT_klst_list_tuple, isT_ref_int, isT_ref_bool, isT_ref_tuple, isT_ref_list, isT_ref_str, isT_ref_tuple_list, isT_ref_list_tuple, cmp_eqI, cmp_neI, cmp_ltI, cmp_leI, cmp_gtI, cmp_geI, cmp_eqB, cmp_neB, idx_hand0, set_hand0, idx_hand1, set_hand1, idx_hand2, set_hand2, idx_hand3, set_hand3, idx_hand4, set_hand4, pBin, idx_tup0, idx_tup1, idx_tup2, idx_tup3, idx_tup4, idx_tup5, idx_tup6, idx_tup7, Int.cast_ofNat_Int, blt_abs, blt_int, blt_intB, blt_len_tup, blt_len_lst, blt_len_klst, blt_tuple_tup, blt_tuple_lst, blt_list_tup, blt_list_lst, blt_sum, blt_all_lst, blt_any_lst, blt_max2, blt_min2, intsD, boolsD, List.length_map, items, place, put, putL, wipe, Tg.names, Tg.namesL, deref, List.map_cons, List.map_nil, List.length_cons, List.length_nil, List.getElem?_cons_zero, List.getElem?_cons_succ, List.getElem?_nil, List.getElem?_append, List.set_cons_zero, List.set_cons_succ, List.set_nil, List.cons_append, List.nil_append, List.append_nil, List.replicate_succ, List.replicate_zero, Nat.sub_self, Nat.add_sub_cancel, Option.map_some, Option.map_none, Option.bind_some, Option.bind_none, Option.some.injEq, if_true, if_false, ite_true, ite_false, Bool.false_eq_true, reduceCtorEq, Nat.reduceSub, Nat.reduceAdd, Nat.reduceLT, Nat.reduceLeDiff, Nat.reduceEqDiff, Nat.reduceMul, Int.reduceLT, Int.reduceLE, Int.reduceEq, Int.reduceNe, Int.reducePow, Int.reduceToNat, Int.reduceNeg, Int.reduceNegSucc, Nat.zero_add, Int.reduceAdd, Int.reduceSub, Int.reduceMul, not_true_eq_false, not_false_eq_true, Nat.lt_irrefl, Nat.zero_le, Nat.zero_lt_succ, Nat.succ_sub_succ_eq_sub, Nat.reduceSucc, bne_tt, bne_tf, bne_ft, Bool.not_true, Bool.not_false, Bool.true_and, Bool.false_and, Bool.and_true, Bool.and_false, Bool.or_true, Bool.or_false, Bool.true_or, Bool.false_or, bne_self_eq_false, beq_self_eq_true, lp', g0, decide_false, cf, il, np, z0, c1, lf, lm, ro]
  · have np : 0 < lastNz zs := by omega
    have c1 := cm (gcdL zs : Int) g0 (by simpa using gd) (some (.lst ((zs.filter (· ≠ 0)).map .int)))
    rw [fm, List.nil_append] at c1
    rw [e (gcdL zs : Int) (if_neg hn)]
    simp only [Pl.F__law_lowest_v3, Pl.B__law_lowest_v3, runFn, evSs, ev_var, ev_int, ev_bl, ev_non, ev_str, ev_glob, ev_bin, ev_neg, ev_not, ev_and, ev_or, ev_cmp, ev_chain, ev_isn, ev_isb, ev_ite, ev_tup, ev_lst, ev_idx, ev_slice, ev_call, ev_blt, ev_inst, ev_meth, ev_comp, evL_nil, evL_cons, evAnd_1, evOr_1, evAnd_cons, evOr_cons, evS_set, evS_par, evS_unp, evS_sub, evS_subs, evS_aug, evS_ex, evS_ret, evS_ite, evS_whl, evS_for, evS_brk, evS_pass, itE, pIter, srcOf, chk_nil, compEnd, evAnd1, evSub, evLT, evSubs, R.bind, R.thn, RS.turn, PR.fin, asB, kRef, kNeg, kNot, kIsn, kIsb, kTup, kInst, kSet, kPar, kPut, kAug, kSubs, isNon_non, isNon_bl, isNon_int, isNon_str, isNon_tup, isNon_lst, isNon_klst, isNon_ref, isT_non_int, isT_non_bool, isT_non_tuple, isT_non_list, isT_non_str, isT_non_tuple_list, isT_non_list_tuple, isT_bl_int, isT_bl_bool, isT_bl_tuple, isT_bl_list, isT_bl_str, isT_bl_tuple_list, isT_bl_list_tuple, isT_int_int, isT_int_bool, isT_int_tuple, isT_int_list, isT_int_str, isT_int_tuple_list, isT_int_list_tuple, isT_str_int, isT_str_bool, isT_str_tuple, isT_str_list, isT_str_str, isT_str_tuple_list, isT_str_list_tuple, isT_tup_int, isT_tup_bool, isT_tup_tuple, isT_tup_list, isT_tup_str, isT_tup_tuple_list, isT_tup_list_tuple, isT_lst_int, isT_lst_bool, isT_lst_tuple, isT_lst_list, isT_lst_str, isT_lst_tuple_list, isT_lst_list_tuple, isT_klst_int, isT_klst_bool, isT_klst_tuple, isT_klst_list, isT_klst_str, isT_klst_tuple_list, isT_klst_list_tuple, isT_ref_int, isT_ref_bool, isT_ref_tuple, isT_ref_list, isT_ref_str, isT_ref_tuple_list, isT_ref_list_tuple, cmp_eqI, cmp_neI, cmp_ltI, cmp_leI, cmp_gtI, cmp_geI, cmp_eqB, cmp_neB, idx_hand0, set_hand0, idx_hand1, set_hand1, idx_hand2, set_hand2, idx_hand3, set_hand3, idx_hand4, set_hand4, pBin, idx_tup0, idx_tup1, idx_tup2, idx_tup3, idx_tup4, idx_tup5, idx_tup6, idx_tup7, Int.cast_ofNat_Int, blt_abs, blt_int, blt_intB, blt_len_tup, blt_len_lst, blt_len_klst, blt_tuple_tup, blt_tuple_lst, blt_list_tup, blt_list_lst, blt_sum, blt_all_lst, blt_any_lst, blt_max2, blt_min2, intsD, boolsD, List.length_map, items, place, put, putL, wipe, Tg.names, Tg.namesL, deref, List.map_cons, List.map_nil, List.length_cons, List.length_nil, List.getElem?_cons_zero, List.getElem?_cons_succ, List.getElem?_nil, List.getElem?_append, List.set_cons_zero, List.set_cons_succ, List.set_nil, List.cons_append, List.nil_append, List.append_nil, List.replicate_succ, List.replicate_zero, Nat.sub_self, Nat.add_sub_cancel, Option.map_some, Option.map_none, Option.bind_some, Option.bind_none, Option.some.injEq, if_true, if_false, ite_true, ite_false, Bool.false_eq_true, reduceCtorEq, Nat.reduceSub, Nat.reduceAdd, Nat.reduceLT, Nat.reduceLeDiff, Nat.reduceEqDiff, Nat.reduceMul, Int.reduceLT, Int.reduceLE, Int.reduceEq, Int.reduceNe, Int.reducePow, Int.reduceToNat, Int.reduceNeg, Int.reduceNegSucc, Nat.zero_add, Int.reduceAdd, Int.reduceSub, Int.reduceMul, not_true_eq_false, not_false_eq_true, Nat.lt_irrefl, Nat.zero_le, Nat.zero_lt_succ, Nat.succ_sub_succ_eq_sub, Nat.reduceSucc, bne_tt, bne_tf, bne_ft, Bool.not_true, Bool.not_false, Bool.true_and, Bool.false_and, Bool.and_true, Bool.and_false, Bool.or_true, Bool.or_false, Bool.true_or, Bool.false_or, bne_self_eq_false, beq_self_eq_true, lp', g0, decide_true, cf, il, np, c1, lf, lm, ro]
theorem num_den (x : Rat) : (x.num : Rat) = x * ((x.den : Int) : Rat) := by
  have td : ((x.den : Int) : Rat) ≠ 0 := fun z => den_ne x (intQ (z.trans (rfl : (0 : Rat) = ((0 : Int) : Rat))))
  conv => rhs; lhs; rw [← Rat.num_divInt_den x]
  rw [Rat.divInt_eq_div]
  grind
theorem run_lat {n k : Nat} (h : Has P Pl.Q__law_at) (x y : Rat) [bx : Bq k x] [bQ : Bq k y] (hk : k ≤ 999) : run P (n + 2) 524 [fr x, fr y] s = .ok (pt x y) s := by
  have b1 := Bi.mul (a := x.num) (b := (y.den : Int)) (x := Bi.num) (y := Bi.den)
  have b2 := Bi.mul (a := y.num) (b := (x.den : Int)) (x := Bi.num) (y := Bi.den)
  have b3 := Bi.mul (a := (x.den : Int)) (b := (y.den : Int)) (x := Bi.den) (y := Bi.den)
  have m1 := mulOk_bi (Bi.num (q := x)) (Bi.den (q := y)) (by omega) (by omega)
  have m2 := mulOk_bi (Bi.num (q := y)) (Bi.den (q := x)) (by omega) (by omega)
  have m3 := mulOk_bi (Bi.den (q := x)) (Bi.den (q := y)) (by omega) (by omega)
  have d1 := dmax_of b1.lt (by omega)
  have d2 := dmax_of b2.lt (by omega)
  have d3 := dmax_of b3.lt (by omega)
  have g0 : gcdL [x.num * y.den, y.num * x.den, x.den * y.den] ≠ 0 := fun z => by
    have := gcdL_zero z ((x.den : Int) * y.den) (by simp)
    exact den_ne2 x y this
  have lo := run_llowest3 (n := n) (s := s) (h.sub (by decide)) g0 (by simp only [List.mem_cons, List.not_mem_nil, or_false]; rintro z (rfl | rfl | rfl) <;> assumption) (by simp)
  have e : pt x y = ro (can [x.num * y.den, y.num * x.den, x.den * y.den]) := by
    unfold pt
    rw [wrow_eq (c := (((x.den : Int) * y.den : Int) : Rat)) (zs := [x.num * y.den, y.num * x.den, x.den * y.den]) ?_ ?_ ⟨1, by simp, by decide⟩]
    · exact fun z => den_ne2 x y (intQ (z.trans (rfl : (0 : Rat) = ((0 : Int) : Rat))))
    · simp only [List.map_cons, List.map_nil, Rat.intCast_mul, num_den x, num_den y]
      congr 1
      · grind
      · congr 1
        · grind
        · congr 1
          grind
  rw [has_run (F := Pl.F__law_at) h (by decide) rfl, e]
  simp only [Pl.F__law_at, Pl.B__law_at, runFn, evSs, ev_var, ev_int, ev_bl, ev_non, ev_str, ev_glob, ev_bin, ev_neg, ev_not, ev_and, ev_or, ev_cmp, ev_chain, ev_isn, ev_isb, ev_ite, ev_tup, ev_lst, ev_idx, ev_slice, ev_call, ev_blt, ev_inst, ev_meth, ev_comp, evL_nil, evL_cons, evAnd_1, evOr_1, evAnd_cons, evOr_cons, evS_set, evS_par, evS_unp, evS_sub, evS_subs, evS_aug, evS_ex, evS_ret, evS_ite, evS_whl, evS_for, evS_brk, evS_pass, itE, pIter, srcOf, chk_nil, compEnd, evAnd1, evSub, evLT, evSubs, R.bind, R.thn, RS.turn, PR.fin, asB, kRef, kNeg, kNot, kIsn, kIsb, kTup, kInst, kSet, kPar, kPut, kAug, kSubs, isNon_non, isNon_bl, isNon_int, isNon_str, isNon_tup, isNon_lst, isNon_klst, isNon_ref, isT_non_int, isT_non_bool, isT_non_tuple, isT_non_list, isT_non_str, isT_non_tuple_list, isT_non_list_tuple, isT_bl_int, isT_bl_bool, isT_bl_tuple, isT_bl_list, isT_bl_str, isT_bl_tuple_list, isT_bl_list_tuple, isT_int_int, isT_int_bool, isT_int_tuple, isT_int_list, isT_int_str, isT_int_tuple_list, isT_int_list_tuple, isT_str_int, isT_str_bool, isT_str_tuple, isT_str_list, isT_str_str, isT_str_tuple_list, isT_str_list_tuple, isT_tup_int, isT_tup_bool, isT_tup_tuple, isT_tup_list, isT_tup_str, isT_tup_tuple_list, isT_tup_list_tuple, isT_lst_int, isT_lst_bool, isT_lst_tuple, isT_lst_list, isT_lst_str, isT_lst_tuple_list, isT_lst_list_tuple, isT_klst_int, isT_klst_bool, isT_klst_tuple, isT_klst_list, isT_klst_str, isT_klst_tuple_list, isT_klst_list_tuple, isT_ref_int, isT_ref_bool, isT_ref_tuple, isT_ref_list, isT_ref_str, isT_ref_tuple_list, isT_ref_list_tuple, cmp_eqI, cmp_neI, cmp_ltI, cmp_leI, cmp_gtI, cmp_geI, cmp_eqB, cmp_neB, idx_hand0, set_hand0, idx_hand1, set_hand1, idx_hand2, set_hand2, idx_hand3, set_hand3, idx_hand4, set_hand4, pBin, idx_tup0, idx_tup1, idx_tup2, idx_tup3, idx_tup4, idx_tup5, idx_tup6, idx_tup7, Int.cast_ofNat_Int, blt_abs, blt_int, blt_intB, blt_len_tup, blt_len_lst, blt_len_klst, blt_tuple_tup, blt_tuple_lst, blt_list_tup, blt_list_lst, blt_sum, blt_all_lst, blt_any_lst, blt_max2, blt_min2, intsD, boolsD, List.length_map, items, place, put, putL, wipe, Tg.names, Tg.namesL, deref, List.map_cons, List.map_nil, List.length_cons, List.length_nil, List.getElem?_cons_zero, List.getElem?_cons_succ, List.getElem?_nil, List.getElem?_append, List.set_cons_zero, List.set_cons_succ, List.set_nil, List.cons_append, List.nil_append, List.append_nil, List.replicate_succ, List.replicate_zero, Nat.sub_self, Nat.add_sub_cancel, Option.map_some, Option.map_none, Option.bind_some, Option.bind_none, Option.some.injEq, if_true, if_false, ite_true, ite_false, Bool.false_eq_true, reduceCtorEq, Nat.reduceSub, Nat.reduceAdd, Nat.reduceLT, Nat.reduceLeDiff, Nat.reduceEqDiff, Nat.reduceMul, Int.reduceLT, Int.reduceLE, Int.reduceEq, Int.reduceNe, Int.reducePow, Int.reduceToNat, Int.reduceNeg, Int.reduceNegSucc, Nat.zero_add, Int.reduceAdd, Int.reduceSub, Int.reduceMul, not_true_eq_false, not_false_eq_true, Nat.lt_irrefl, Nat.zero_le, Nat.zero_lt_succ, Nat.succ_sub_succ_eq_sub, Nat.reduceSucc, bne_tt, bne_tf, bne_ft, Bool.not_true, Bool.not_false, Bool.true_and, Bool.false_and, Bool.and_true, Bool.and_false, Bool.or_true, Bool.or_false, Bool.true_or, Bool.false_or, bne_self_eq_false, beq_self_eq_true, idx_fr0, idx_fr1, m1, m2, m3]
  simp only [List.map_cons, List.map_nil] at lo
  rw [lo]

mutual
/-- data of a depth, of small lists -/
def dt : Nat → D → Bool
  | _, .non => true
  | _, .bl _ => true
  | _, .int _ => true
  | _, .str x => okStr x
  | k + 1, .tup xs => decide (xs.length ≤ 1000) && dtL k xs
  | k + 1, .lst xs => decide (xs.length ≤ 1000) && dtL k xs
  | _, _ => false
def dtL : Nat → List D → Bool
  | _, [] => true
  | k, x :: xs => dt k x && dtL k xs
end
theorem dtL_mem : ∀ {k : Nat} {xs : List D}, dtL k xs = true → ∀ x ∈ xs, dt k x = true
  | k, y :: ys, h, x, hx => by
    simp only [dtL, Bool.and_eq_true] at h
    rcases List.mem_cons.mp hx with e | hx
    · rw [e]; exact h.1
    · exact dtL_mem h.2 x hx
theorem zip_mem {x : D} : ∀ {xs : List D}, x ∈ zipD xs xs → ∃ y ∈ xs, x = .tup [y, y]
  | y :: ys, h => by
    simp only [zipD] at h
    rcases List.mem_cons.mp h with e | h
    · exact ⟨y, List.mem_cons_self, e⟩
    · obtain ⟨z, h1, h2⟩ := zip_mem h
      exact ⟨z, List.mem_cons_of_mem _ h1, h2⟩
theorem zip_len (xs : List D) : (zipD xs xs).length = xs.length := by rw [zipD_length]; exact Nat.min_self _
theorem run_is3 {n : Nat} (h : Has P Pl.Q__law_is_v3) : ∀ (k : Nat) (d : D), dt k d = true → run P (n + k + 1) 504 [d, d] s = .ok (.bl true) s := by
  intro k
  induction k with
  | zero =>
    intro d hd
    rw [has_run (F := Pl.F__law_is_v3) h (by decide) rfl]
    cases d with
    | non => simp only [Pl.F__law_is_v3, Pl.B__law_is_v3, runFn, evSs, ev_var, ev_int, ev_bl, ev_non, ev_str, ev_glob, ev_bin, ev_neg, ev_not, ev_and, ev_or, ev_cmp, ev_chain, ev_isn, ev_isb, ev_ite, ev_tup, ev_lst, ev_idx, ev_slice, ev_call, ev_blt, ev_inst, ev_meth, ev_comp, evL_nil, evL_cons, evAnd_1, evOr_1, evAnd_cons, evOr_cons, evS_set, evS_par, evS_unp, evS_sub, evS_subs, evS_aug, evS_ex, evS_ret, evS_ite, evS_whl, evS_for, evS_brk, evS_pass, itE, pIter, srcOf, chk_nil, compEnd, evAnd1, evSub, evLT, evSubs, R.bind, R.thn, RS.turn, PR.fin, asB, kRef, kNeg, kNot, kIsn, kIsb, kTup, kInst, kSet, kPar, kPut, kAug, kSubs, isNon_non, isNon_bl, isNon_int, isNon_str, isNon_tup, isNon_lst, isNon_klst, isNon_ref, isT_non_int, isT_non_bool, isT_non_tuple, isT_non_list, isT_non_str, isT_non_tuple_list, isT_non_list_tuple, isT_bl_int, isT_bl_bool, isT_bl_tuple, isT_bl_list, isT_bl_str, isT_bl_tuple_list, isT_bl_list_tuple, isT_int_int, isT_int_bool, isT_int_tuple, isT_int_list, isT_int_str, isT_int_tuple_list, isT_int_list_tuple, isT_str_int, isT_str_bool, isT_str_tuple, isT_str_list, isT_str_str, isT_str_tuple_list, isT_str_list_tuple, isT_tup_int, isT_tup_bool, isT_tup_tuple, isT_tup_list, isT_tup_str, isT_tup_tuple_list, isT_tup_list_tuple, isT_lst_int, isT_lst_bool, isT_lst_tuple, isT_lst_list, isT_lst_str, isT_lst_tuple_list, isT_lst_list_tuple, isT_klst_int, isT_klst_bool, isT_klst_tuple, isT_klst_list, isT_klst_str, isT_klst_tuple_list, isT_klst_list_tuple, isT_ref_int, isT_ref_bool, isT_ref_tuple, isT_ref_list, isT_ref_str, isT_ref_tuple_list, isT_ref_list_tuple, cmp_eqI, cmp_neI, cmp_ltI, cmp_leI, cmp_gtI, cmp_geI, cmp_eqB, cmp_neB, idx_hand0, set_hand0, idx_hand1, set_hand1, idx_hand2, set_hand2, idx_hand3, set_hand3, idx_hand4, set_hand4, pBin, idx_tup0, idx_tup1, idx_tup2, idx_tup3, idx_tup4, idx_tup5, idx_tup6, idx_tup7, Int.cast_ofNat_Int, blt_abs, blt_int, blt_intB, blt_len_tup, blt_len_lst, blt_len_klst, blt_tuple_tup, blt_tuple_lst, blt_list_tup, blt_list_lst, blt_sum, blt_all_lst, blt_any_lst, blt_max2, blt_min2, intsD, boolsD, List.length_map, items, place, put, putL, wipe, Tg.names, Tg.namesL, deref, List.map_cons, List.map_nil, List.length_cons, List.length_nil, List.getElem?_cons_zero, List.getElem?_cons_succ, List.getElem?_nil, List.getElem?_append, List.set_cons_zero, List.set_cons_succ, List.set_nil, List.cons_append, List.nil_append, List.append_nil, List.replicate_succ, List.replicate_zero, Nat.sub_self, Nat.add_sub_cancel, Option.map_some, Option.map_none, Option.bind_some, Option.bind_none, Option.some.injEq, if_true, if_false, ite_true, ite_false, Bool.false_eq_true, reduceCtorEq, Nat.reduceSub, Nat.reduceAdd, Nat.reduceLT, Nat.reduceLeDiff, Nat.reduceEqDiff, Nat.reduceMul, Int.reduceLT, Int.reduceLE, Int.reduceEq, Int.reduceNe, Int.reducePow, Int.reduceToNat, Int.reduceNeg, Int.reduceNegSucc, Nat.zero_add, Int.reduceAdd, Int.reduceSub, Int.reduceMul, not_true_eq_false, not_false_eq_true, Nat.lt_irrefl, Nat.zero_le, Nat.zero_lt_succ, Nat.succ_sub_succ_eq_sub, Nat.reduceSucc, bne_tt, bne_tf, bne_ft, Bool.not_true, Bool.not_false, Bool.true_and, Bool.false_and, Bool.and_true, Bool.and_false, Bool.or_true, Bool.or_false, Bool.true_or, Bool.false_or, bne_self_eq_false, beq_self_eq_true]
    | bl b => simp only [Pl.F__law_is_v3, Pl.B__law_is_v3, runFn, evSs, ev_var, ev_int, ev_bl, ev_non, ev_str, ev_glob, ev_bin, ev_neg, ev_not, ev_and, ev_or, ev_cmp, ev_chain, ev_isn, ev_isb, ev_ite, ev_tup, ev_lst, ev_idx, ev_slice, ev_call, ev_blt, ev_inst, ev_meth, ev_comp, evL_nil, evL_cons, evAnd_1, evOr_1, evAnd_cons, evOr_cons, evS_set, evS_par, evS_unp, evS_sub, evS_subs, evS_aug, evS_ex, evS_ret, evS_ite, evS_whl, evS_for, evS_brk, evS_pass, itE, pIter, srcOf, chk_nil, compEnd, evAnd1, evSub, evLT, evSubs, R.bind, R.thn, RS.turn, PR.fin, asB, kRef, kNeg, kNot, kIsn, kIsb, kTup, kInst, kSet, kPar, kPut, kAug, kSubs, isNon_non, isNon_bl, isNon_int, isNon_str, isNon_tup, isNon_lst, isNon_klst, isNon_ref, isT_non_int, isT_non_bool, isT_non_tuple, isT_non_list, isT_non_str, isT_non_tuple_list, isT_non_list_tuple, isT_bl_int, isT_bl_bool, isT_bl_tuple, isT_bl_list, isT_bl_str, isT_bl_tuple_list, isT_bl_list_tuple, isT_int_int, isT_int_bool, isT_int_tuple, isT_int_list, isT_int_str, isT_int_tuple_list, isT_int_list_tuple, isT_str_int, isT_str_bool, isT_str_tuple, isT_str_list, isT_str_str, isT_str_tuple_list, isT_str_list_tuple, isT_tup_int, isT_tup_bool, isT_tup_tuple, isT_tup_list, isT_tup_str, isT_tup_tuple_list, isT_tup_list_tuple, isT_lst_int, isT_lst_bool, isT_lst_tuple, isT_lst_list, isT_lst_str, isT_lst_tuple_list, isT_lst_list_tuple, isT_klst_int, isT_klst_bool, isT_klst_tuple, isT_klst_list, isT_klst_str, isT_klst_tuple_list, isT_klst_list_tuple, isT_ref_int, isT_ref_bool, isT_ref_tuple, isT_ref_list, isT_ref_str, isT_ref_tuple_list, isT_ref_list_tuple, cmp_eqI, cmp_neI, cmp_ltI, cmp_leI, cmp_gtI, cmp_geI, cmp_eqB, cmp_neB, idx_hand0, set_hand0, idx_hand1, set_hand1, idx_hand2, set_hand2, idx_hand3, set_hand3, idx_hand4, set_hand4, pBin, idx_tup0, idx_tup1, idx_tup2, idx_tup3, idx_tup4, idx_tup5, idx_tup6, idx_tup7, Int.cast_ofNat_Int, blt_abs, blt_int, blt_intB, blt_len_tup, blt_len_lst, blt_len_klst, blt_tuple_tup, blt_tuple_lst, blt_list_tup, blt_list_lst, blt_sum, blt_all_lst, blt_any_lst, blt_max2, blt_min2, intsD, boolsD, List.length_map, items, place, put, putL, wipe, Tg.names, Tg.namesL, deref, List.map_cons, List.map_nil, List.length_cons, List.length_nil, List.getElem?_cons_zero, List.getElem?_cons_succ, List.getElem?_nil, List.getElem?_append, List.set_cons_zero, List.set_cons_succ, List.set_nil, List.cons_append, List.nil_append, List.append_nil, List.replicate_succ, List.replicate_zero, Nat.sub_self, Nat.add_sub_cancel, Option.map_some, Option.map_none, Option.bind_some, Option.bind_none, Option.some.injEq, if_true, if_false, ite_true, ite_false, Bool.false_eq_true, reduceCtorEq, Nat.reduceSub, Nat.reduceAdd, Nat.reduceLT, Nat.reduceLeDiff, Nat.reduceEqDiff, Nat.reduceMul, Int.reduceLT, Int.reduceLE, Int.reduceEq, Int.reduceNe, Int.reducePow, Int.reduceToNat, Int.reduceNeg, Int.reduceNegSucc, Nat.zero_add, Int.reduceAdd, Int.reduceSub, Int.reduceMul, not_true_eq_false, not_false_eq_true, Nat.lt_irrefl, Nat.zero_le, Nat.zero_lt_succ, Nat.succ_sub_succ_eq_sub, Nat.reduceSucc, bne_tt, bne_tf, bne_ft, Bool.not_true, Bool.not_false, Bool.true_and, Bool.false_and, Bool.and_true, Bool.and_false, Bool.or_true, Bool.or_false, Bool.true_or, Bool.false_or, bne_self_eq_false, beq_self_eq_true]
    | int b => simp only [Pl.F__law_is_v3, Pl.B__law_is_v3, runFn, evSs, ev_var, ev_int, ev_bl, ev_non, ev_str, ev_glob, ev_bin, ev_neg, ev_not, ev_and, ev_or, ev_cmp, ev_chain, ev_isn, ev_isb, ev_ite, ev_tup, ev_lst, ev_idx, ev_slice, ev_call, ev_blt, ev_inst, ev_meth, ev_comp, evL_nil, evL_cons, evAnd_1, evOr_1, evAnd_cons, evOr_cons, evS_set, evS_par, evS_unp, evS_sub, evS_subs, evS_aug, evS_ex, evS_ret, evS_ite, evS_whl, evS_for, evS_brk, evS_pass, itE, pIter, srcOf, chk_nil, compEnd, evAnd1, evSub, evLT, evSubs, R.bind, R.thn, RS.turn, PR.fin, asB, kRef, kNeg, kNot, kIsn, kIsb, kTup, kInst, kSet, kPar, kPut, kAug, kSubs, isNon_non, isNon_bl, isNon_int, isNon_str, isNon_tup, isNon_lst, isNon_klst, isNon_ref, isT_non_int, isT_non_bool, isT_non_tuple, isT_non_list, isT_non_str, isT_non_tuple_list, isT_non_list_tuple, isT_bl_int, isT_bl_bool, isT_bl_tuple, isT_bl_list, isT_bl_str, isT_bl_tuple_list, isT_bl_list_tuple, isT_int_int, isT_int_bool, isT_int_tuple, isT_int_list, isT_int_str, isT_int_tuple_list, isT_int_list_tuple, isT_str_int, isT_str_bool, isT_str_tuple, isT_str_list, isT_str_str, isT_str_tuple_list, isT_str_list_tuple, isT_tup_int, isT_tup_bool, isT_tup_tuple, isT_tup_list, isT_tup_str, isT_tup_tuple_list, isT_tup_list_tuple, isT_lst_int, isT_lst_bool, isT_lst_tuple, isT_lst_list, isT_lst_str, isT_lst_tuple_list, isT_lst_list_tuple, isT_klst_int, isT_klst_bool, isT_klst_tuple, isT_klst_list, isT_klst_str, isT_klst_tuple_list, isT_klst_list_tuple, isT_ref_int, isT_ref_bool, isT_ref_tuple, isT_ref_list, isT_ref_str, isT_ref_tuple_list, isT_ref_list_tuple, cmp_eqI, cmp_neI, cmp_ltI, cmp_leI, cmp_gtI, cmp_geI, cmp_eqB, cmp_neB, idx_hand0, set_hand0, idx_hand1, set_hand1, idx_hand2, set_hand2, idx_hand3, set_hand3, idx_hand4, set_hand4, pBin, idx_tup0, idx_tup1, idx_tup2, idx_tup3, idx_tup4, idx_tup5, idx_tup6, idx_tup7, Int.cast_ofNat_Int, blt_abs, blt_int, blt_intB, blt_len_tup, blt_len_lst, blt_len_klst, blt_tuple_tup, blt_tuple_lst, blt_list_tup, blt_list_lst, blt_sum, blt_all_lst, blt_any_lst, blt_max2, blt_min2, intsD, boolsD, List.length_map, items, place, put, putL, wipe, Tg.names, Tg.namesL, deref, List.map_cons, List.map_nil, List.length_cons, List.length_nil, List.getElem?_cons_zero, List.getElem?_cons_succ, List.getElem?_nil, List.getElem?_append, List.set_cons_zero, List.set_cons_succ, List.set_nil, List.cons_append, List.nil_append, List.append_nil, List.replicate_succ, List.replicate_zero, Nat.sub_self, Nat.add_sub_cancel, Option.map_some, Option.map_none, Option.bind_some, Option.bind_none, Option.some.injEq, if_true, if_false, ite_true, ite_false, Bool.false_eq_true, reduceCtorEq, Nat.reduceSub, Nat.reduceAdd, Nat.reduceLT, Nat.reduceLeDiff, Nat.reduceEqDiff, Nat.reduceMul, Int.reduceLT, Int.reduceLE, Int.reduceEq, Int.reduceNe, Int.reducePow, Int.reduceToNat, Int.reduceNeg, Int.reduceNegSucc, Nat.zero_add, Int.reduceAdd, Int.reduceSub, Int.reduceMul, not_true_eq_false, not_false_eq_true, Nat.lt_irrefl, Nat.zero_le, Nat.zero_lt_succ, Nat.succ_sub_succ_eq_sub, Nat.reduceSucc, bne_tt, bne_tf, bne_ft, Bool.not_true, Bool.not_false, Bool.true_and, Bool.false_and, Bool.and_true, Bool.and_false, Bool.or_true, Bool.or_false, Bool.true_or, Bool.false_or, bne_self_eq_false, beq_self_eq_true, decide_true]
    | str b => 
      have ok : okStr b = true := by simpa [dt] using hd
      simp only [Pl.F__law_is_v3, Pl.B__law_is_v3, runFn, evSs, ev_var, ev_int, ev_bl, ev_non, ev_str, ev_glob, ev_bin, ev_neg, ev_not, ev_and, ev_or, ev_cmp, ev_chain, ev_isn, ev_isb, ev_ite, ev_tup, ev_lst, ev_idx, ev_slice, ev_call, ev_blt, ev_inst, ev_meth, ev_comp, evL_nil, evL_cons, evAnd_1, evOr_1, evAnd_cons, evOr_cons, evS_set, evS_par, evS_unp, evS_sub, evS_subs, evS_aug, evS_ex, evS_ret, evS_ite, evS_whl, evS_for, evS_brk, evS_pass, itE, pIter, srcOf, chk_nil, compEnd, evAnd1, evSub, evLT, evSubs, R.bind, R.thn, RS.turn, PR.fin, asB, kRef, kNeg, kNot, kIsn, kIsb, kTup, kInst, kSet, kPar, kPut, kAug, kSubs, isNon_non, isNon_bl, isNon_int, isNon_str, isNon_tup, isNon_lst, isNon_klst, isNon_ref, isT_non_int, isT_non_bool, isT_non_tuple, isT_non_list, isT_non_str, isT_non_tuple_list, isT_non_list_tuple, isT_bl_int, isT_bl_bool, isT_bl_tuple, isT_bl_list, isT_bl_str, isT_bl_tuple_list, isT_bl_list_tuple, isT_int_int, isT_int_bool, isT_int_tuple, isT_int_list, isT_int_str, isT_int_tuple_list, isT_int_list_tuple, isT_str_int, isT_str_bool, isT_str_tuple, isT_str_list, isT_str_str, isT_str_tuple_list, isT_str_list_tuple, isT_tup_int, isT_tup_bool, isT_tup_tuple, isT_tup_list, isT_tup_str, isT_tup_tuple_list, isT_tup_list_tuple, isT_lst_int, isT_lst_bool, isT_lst_tuple, isT_lst_list, isT_lst_str, isT_lst_tuple_list, isT_lst_list_tuple, isT_klst_int, isT_klst_bool, isT_klst_tuple, isT_klst_list, isT_klst_str, isT_klst_tuple_list, isT_klst_list_tuple, isT_ref_int, isT_ref_bool, isT_ref_tuple, isT_ref_list, isT_ref_str, isT_ref_tuple_list, isT_ref_list_tuple, cmp_eqI, cmp_neI, cmp_ltI, cmp_leI, cmp_gtI, cmp_geI, cmp_eqB, cmp_neB, idx_hand0, set_hand0, idx_hand1, set_hand1, idx_hand2, set_hand2, idx_hand3, set_hand3, idx_hand4, set_hand4, pBin, idx_tup0, idx_tup1, idx_tup2, idx_tup3, idx_tup4, idx_tup5, idx_tup6, idx_tup7, Int.cast_ofNat_Int, blt_abs, blt_int, blt_intB, blt_len_tup, blt_len_lst, blt_len_klst, blt_tuple_tup, blt_tuple_lst, blt_list_tup, blt_list_lst, blt_sum, blt_all_lst, blt_any_lst, blt_max2, blt_min2, intsD, boolsD, List.length_map, items, place, put, putL, wipe, Tg.names, Tg.namesL, deref, List.map_cons, List.map_nil, List.length_cons, List.length_nil, List.getElem?_cons_zero, List.getElem?_cons_succ, List.getElem?_nil, List.getElem?_append, List.set_cons_zero, List.set_cons_succ, List.set_nil, List.cons_append, List.nil_append, List.append_nil, List.replicate_succ, List.replicate_zero, Nat.sub_self, Nat.add_sub_cancel, Option.map_some, Option.map_none, Option.bind_some, Option.bind_none, Option.some.injEq, if_true, if_false, ite_true, ite_false, Bool.false_eq_true, reduceCtorEq, Nat.reduceSub, Nat.reduceAdd, Nat.reduceLT, Nat.reduceLeDiff, Nat.reduceEqDiff, Nat.reduceMul, Int.reduceLT, Int.reduceLE, Int.reduceEq, Int.reduceNe, Int.reducePow, Int.reduceToNat, Int.reduceNeg, Int.reduceNegSucc, Nat.zero_add, Int.reduceAdd, Int.reduceSub, Int.reduceMul, not_true_eq_false, not_false_eq_true, Nat.lt_irrefl, Nat.zero_le, Nat.zero_lt_succ, Nat.succ_sub_succ_eq_sub, Nat.reduceSucc, bne_tt, bne_tf, bne_ft, Bool.not_true, Bool.not_false, Bool.true_and, Bool.false_and, Bool.and_true, Bool.and_false, Bool.or_true, Bool.or_false, Bool.true_or, Bool.false_or, bne_self_eq_false, beq_self_eq_true, cmp_eqS ok ok]
    | _ => simp [dt] at hd
  | succ k ih =>
    intro d hd
    rw [show n + (k + 1) + 1 = (n + k + 1) + 1 by omega, has_run (F := Pl.F__law_is_v3) h (by decide) rfl]
    have seq : ∀ (xs : List D), xs.length ≤ 1000 → dtL k xs = true → ∀ (w : List D) (A : D), compL (fun _ => true) (compStep P.G (run P (n + k + 1)) (.call 504 [.var 2, .var 3]) (.t [.n 2, .n 3]) [] [some A, some A, none, none]) (zipD xs xs) [] s = .ok ((zipD xs xs).map fun _ => D.bl true) s := by
      intro xs hl hx _ A
      have stepM : ∀ x ∈ zipD xs xs, compStep P.G (run P (n + k + 1)) (.call 504 [.var 2, .var 3]) (.t [.n 2, .n 3]) [] [some A, some A, none, none] x s = .ok (some ((fun _ => D.bl true) x)) s := by
        intro x hx'
        obtain ⟨y, hy, rfl⟩ := zip_mem hx'
        simp only [compStep, runFn, evSs, ev_var, ev_int, ev_bl, ev_non, ev_str, ev_glob, ev_bin, ev_neg, ev_not, ev_and, ev_or, ev_cmp, ev_chain, ev_isn, ev_isb, ev_ite, ev_tup, ev_lst, ev_idx, ev_slice, ev_call, ev_blt, ev_inst, ev_meth, ev_comp, evL_nil, evL_cons, evAnd_1, evOr_1, evAnd_cons, evOr_cons, evS_set, evS_par, evS_unp, evS_sub, evS_subs, evS_aug, evS_ex, evS_ret, evS_ite, evS_whl, evS_for, evS_brk, evS_pass, itE, pIter, srcOf, chk_nil, compEnd, evAnd1, evSub, evLT, evSubs, R.bind, R.thn, RS.turn, PR.fin, asB, kRef, kNeg, kNot, kIsn, kIsb, kTup, kInst, kSet, kPar, kPut, kAug, kSubs, isNon_non, isNon_bl, isNon_int, isNon_str, isNon_tup, isNon_lst, isNon_klst, isNon_ref, isT_non_int, isT_non_bool, isT_non_tuple, isT_non_list, isT_non_str, isT_non_tuple_list, isT_non_list_tuple, isT_bl_int, isT_bl_bool, isT_bl_tuple, isT_bl_list, isT_bl_str, isT_bl_tuple_list, isT_bl_list_tuple, isT_int_int, isT_int_bool, isT_int_tuple, isT_int_list, isT_int_str, isT_int_tuple_list, isT_int_list_tuple, isT_str_int, isT_str_bool, isT_str_tuple, isT_str_list, isT_str_str, isT_str_tuple_list, isT_str_list_tuple, isT_tup_int, isT_tup_bool, isT_tup_tuple, isT_tup_list, isT_tup_str, isT_tup_tuple_list, isT_tup_list_tuple, isT_lst_int, isT_lst_bool, isT_lst_tuple, isT_lst_list, isT_lst_str, isT_lst_tuple_list, isT_lst_list_tuple, isT_klst_int, isT_klst_bool, isT_klst_tuple, isT_klst_list, isT_klst_str, isT_klst_tuple_list, isT_klst_list_tuple, isT_ref_int, isT_ref_bool, isT_ref_tuple, isT_ref_list, isT_ref_str, isT_ref_tuple_list, isT_ref_list_tuple, cmp_eqI, cmp_neI, cmp_ltI, cmp_leI, cmp_gtI, cmp_geI, cmp_eqB, cmp_neB, idx_hand0, set_hand0, idx_hand1, set_hand1, idx_hand2, set_hand2, idx_hand3, set_hand3, idx_hand4, set_hand4, pBin, idx_tup0, idx_tup1, idx_tup2, idx_tup3, idx_tup4, idx_tup5, idx_tup6, idx_tup7, Int.cast_ofNat_Int, blt_abs, blt_int, blt_intB, blt_len_tup, blt_len_lst, blt_len_klst, blt_tuple_tup, blt_tuple_lst, blt_list_tup, blt_list_lst, blt_sum, blt_all_lst, blt_any_lst, blt_max2, blt_min2, intsD, boolsD, List.length_map, items, place, put, putL, wipe, Tg.names, Tg.namesL, deref, List.map_cons, List.map_nil, List.length_cons, List.length_nil, List.getElem?_cons_zero, List.getElem?_cons_succ, List.getElem?_nil, List.getElem?_append, List.set_cons_zero, List.set_cons_succ, List.set_nil, List.cons_append, List.nil_append, List.append_nil, List.replicate_succ, List.replicate_zero, Nat.sub_self, Nat.add_sub_cancel, Option.map_some, Option.map_none, Option.bind_some, Option.bind_none, Option.some.injEq, if_true, if_false, ite_true, ite_false, Bool.false_eq_true, reduceCtorEq, Nat.reduceSub, Nat.reduceAdd, Nat.reduceLT, Nat.reduceLeDiff, Nat.reduceEqDiff, Nat.reduceMul, Int.reduceLT, Int.reduceLE, Int.reduceEq, Int.reduceNe, Int.reducePow, Int.reduceToNat, Int.reduceNeg, Int.reduceNegSucc, Nat.zero_add, Int.reduceAdd, Int.reduceSub, Int.reduceMul, not_true_eq_false, not_false_eq_true, Nat.lt_irrefl, Nat.zero_le, Nat.zero_lt_succ, Nat.succ_sub_succ_eq_sub, Nat.reduceSucc, bne_tt, bne_tf, bne_ft, Bool.not_true, Bool.not_false, Bool.true_and, Bool.false_and, Bool.and_true, Bool.and_false, Bool.or_true, Bool.or_false, Bool.true_or, Bool.false_or, bne_self_eq_false, beq_self_eq_true, ih y (dtL_mem hx y hy)]
      have cm := comp_map (zipD xs xs) [] stepM (by rw [zip_len]; simp; omega)
      rw [List.nil_append] at cm
      exact cm
    cases d with
    | non => simp only [Pl.F__law_is_v3, Pl.B__law_is_v3, runFn, evSs, ev_var, ev_int, ev_bl, ev_non, ev_str, ev_glob, ev_bin, ev_neg, ev_not, ev_and, ev_or, ev_cmp, ev_chain, ev_isn, ev_isb, ev_ite, ev_tup, ev_lst, ev_idx, ev_slice, ev_call, ev_blt, ev_inst, ev_meth, ev_comp, evL_nil, evL_cons, evAnd_1, evOr_1, evAnd_cons, evOr_cons, evS_set, evS_par, evS_unp, evS_sub, evS_subs, evS_aug, evS_ex, evS_ret, evS_ite, evS_whl, evS_for, evS_brk, evS_pass, itE, pIter, srcOf, chk_nil, compEnd, evAnd1, evSub, evLT, evSubs, R.bind, R.thn, RS.turn, PR.fin, asB, kRef, kNeg, kNot, kIsn, kIsb, kTup, kInst, kSet, kPar, kPut, kAug, kSubs, isNon_non, isNon_bl, isNon_int, isNon_str, isNon_tup, isNon_lst, isNon_klst, isNon_ref, isT_non_int, isT_non_bool, isT_non_tuple, isT_non_list, isT_non_str, isT_non_tuple_list, isT_non_list_tuple, isT_bl_int, isT_bl_bool, isT_bl_tuple, isT_bl_list, isT_bl_str, isT_bl_tuple_list, isT_bl_list_tuple, isT_int_int, isT_int_bool, isT_int_tuple, isT_int_list, isT_int_str, isT_int_tuple_list, isT_int_list_tuple, isT_str_int, isT_str_bool, isT_str_tuple, isT_str_list, isT_str_str, isT_str_tuple_list, isT_str_list_tuple, isT_tup_int, isT_tup_bool, isT_tup_tuple, isT_tup_list, isT_tup_str, isT_tup_tuple_list, isT_tup_list_tuple, isT_lst_int, isT_lst_bool, isT_lst_tuple, isT_lst_list, isT_lst_str, isT_lst_tuple_list, isT_lst_list_tuple, isT_klst_int, isT_klst_bool, isT_klst_tuple, isT_klst_list, isT_klst_str, isT_klst_tuple_list, isT_klst_list_tuple, isT_ref_int, isT_ref_bool, isT_ref_tuple, isT_ref_list, isT_ref_str, isT_ref_tuple_list, isT_ref_list_tuple, cmp_eqI, cmp_neI, cmp_ltI, cmp_leI, cmp_gtI, cmp_geI, cmp_eqB, cmp_neB, idx_hand0, set_hand0, idx_hand1, set_hand1, idx_hand2, set_hand2, idx_hand3, set_hand3, idx_hand4, set_hand4, pBin, idx_tup0, idx_tup1, idx_tup2, idx_tup3, idx_tup4, idx_tup5, idx_tup6, idx_tup7, Int.cast_ofNat_Int, blt_abs, blt_int, blt_intB, blt_len_tup, blt_len_lst, blt_len_klst, blt_tuple_tup, blt_tuple_lst, blt_list_tup, blt_list_lst, blt_sum, blt_all_lst, blt_any_lst, blt_max2, blt_min2, intsD, boolsD, List.length_map, items, place, put, putL, wipe, Tg.names, Tg.namesL, deref, List.map_cons, List.map_nil, List.length_cons, List.length_nil, List.getElem?_cons_zero, List.getElem?_cons_succ, List.getElem?_nil, List.getElem?_append, List.set_cons_zero, List.set_cons_succ, List.set_nil, List.cons_append, List.nil_append, List.append_nil, List.replicate_succ, List.replicate_zero, Nat.sub_self, Nat.add_sub_cancel, Option.map_some, Option.map_none, Option.bind_some, Option.bind_none, Option.some.injEq, if_true, if_false, ite_true, ite_false, Bool.false_eq_true, reduceCtorEq, Nat.reduceSub, Nat.reduceAdd, Nat.reduceLT, Nat.reduceLeDiff, Nat.reduceEqDiff, Nat.reduceMul, Int.reduceLT, Int.reduceLE, Int.reduceEq, Int.reduceNe, Int.reducePow, Int.reduceToNat, Int.reduceNeg, Int.reduceNegSucc, Nat.zero_add, Int.reduceAdd, Int.reduceSub, Int.reduceMul, not_true_eq_false, not_false_eq_true, Nat.lt_irrefl, Nat.zero_le, Nat.zero_lt_succ, Nat.succ_sub_succ_eq_sub, Nat.reduceSucc, bne_tt, bne_tf, bne_ft, Bool.not_true, Bool.not_false, Bool.true_and, Bool.false_and, Bool.and_true, Bool.and_false, Bool.or_true, Bool.or_false, Bool.true_or, Bool.false_or, bne_self_eq_false, beq_self_eq_true]
    | bl b => simp only [Pl.F__law_is_v3, Pl.B__law_is_v3, runFn, evSs, ev_var, ev_int, ev_bl, ev_non, ev_str, ev_glob, ev_bin, ev_neg, ev_not, ev_and, ev_or, ev_cmp, ev_chain, ev_isn, ev_isb, ev_ite, ev_tup, ev_lst, ev_idx, ev_slice, ev_call, ev_blt, ev_inst, ev_meth, ev_comp, evL_nil, evL_cons, evAnd_1, evOr_1, evAnd_cons, evOr_cons, evS_set, evS_par, evS_unp, evS_sub, evS_subs, evS_aug, evS_ex, evS_ret, evS_ite, evS_whl, evS_for, evS_brk, evS_pass, itE, pIter, srcOf, chk_nil, compEnd, evAnd1, evSub, evLT, evSubs, R.bind, R.thn, RS.turn, PR.fin, asB, kRef, kNeg, kNot, kIsn, kIsb, kTup, kInst, kSet, kPar, kPut, kAug, kSubs, isNon_non, isNon_bl, isNon_int, isNon_str, isNon_tup, isNon_lst, isNon_klst, isNon_ref, isT_non_int, isT_non_bool, isT_non_tuple, isT_non_list, isT_non_str, isT_non_tuple_list, isT_non_list_tuple, isT_bl_int, isT_bl_bool, isT_bl_tuple, isT_bl_list, isT_bl_str, isT_bl_tuple_list, isT_bl_list_tuple, isT_int_int, isT_int_bool, isT_int_tuple, isT_int_list, isT_int_str, isT_int_tuple_list, isT_int_list_tuple, isT_str_int, isT_str_bool, isT_str_tuple, isT_str_list, isT_str_str, isT_str_tuple_list, isT_str_list_tuple, isT_tup_int, isT_tup_bool, isT_tup_tuple, isT_tup_list, isT_tup_str, isT_tup_tuple_list, isT_tup_list_tuple, isT_lst_int, isT_lst_bool, isT_lst_tuple, isT_lst_list, isT_lst_str, isT_lst_tuple_list, isT_lst_list_tuple, isT_klst_int, isT_klst_bool, isT_klst_tuple, isT_klst_list, isT_klst_str, isT_klst_tuple_list, isT_klst_list_tuple, isT_ref_int, isT_ref_bool, isT_ref_tuple, isT_ref_list, isT_ref_str, isT_ref_tuple_list, isT_ref_list_tuple, cmp_eqI, cmp_neI, cmp_ltI, cmp_leI, cmp_gtI, cmp_geI, cmp_eqB, cmp_neB, idx_hand0, set_hand0, idx_hand1, set_hand1, idx_hand2, set_hand2, idx_hand3, set_hand3, idx_hand4, set_hand4, pBin, idx_tup0, idx_tup1, idx_tup2, idx_tup3, idx_tup4, idx_tup5, idx_tup6, idx_tup7, Int.cast_ofNat_Int, blt_abs, blt_int, blt_intB, blt_len_tup, blt_len_lst, blt_len_klst, blt_tuple_tup, blt_tuple_lst, blt_list_tup, blt_list_lst, blt_sum, blt_all_lst, blt_any_lst, blt_max2, blt_min2, intsD, boolsD, List.length_map, items, place, put, putL, wipe, Tg.names, Tg.namesL, deref, List.map_cons, List.map_nil, List.length_cons, List.length_nil, List.getElem?_cons_zero, List.getElem?_cons_succ, List.getElem?_nil, List.getElem?_append, List.set_cons_zero, List.set_cons_succ, List.set_nil, List.cons_append, List.nil_append, List.append_nil, List.replicate_succ, List.replicate_zero, Nat.sub_self, Nat.add_sub_cancel, Option.map_some, Option.map_none, Option.bind_some, Option.bind_none, Option.some.injEq, if_true, if_false, ite_true, ite_false, Bool.false_eq_true, reduceCtorEq, Nat.reduceSub, Nat.reduceAdd, Nat.reduceLT, Nat.reduceLeDiff, Nat.reduceEqDiff, Nat.reduceMul, Int.reduceLT, Int.reduceLE, Int.reduceEq, Int.reduceNe, Int.reducePow, Int.reduceToNat, Int.reduceNeg, Int.reduceNegSucc, Nat.zero_add, Int.reduceAdd, Int.reduceSub, Int.reduceMul, not_true_eq_false, not_false_eq_true, Nat.lt_irrefl, Nat.zero_le, Nat.zero_lt_succ, Nat.succ_sub_succ_eq_sub, Nat.reduceSucc, bne_tt, bne_tf, bne_ft, Bool.not_true, Bool.not_false, Bool.true_and, Bool.false_and, Bool.and_true, Bool.and_false, Bool.or_true, Bool.or_false, Bool.true_or, Bool.false_or, bne_self_eq_false, beq_self_eq_true]
    | int b => simp only [Pl.F__law_is_v3, Pl.B__law_is_v3, runFn, evSs, ev_var, ev_int, ev_bl, ev_non, ev_str, ev_glob, ev_bin, ev_neg, ev_not, ev_and, ev_or, ev_cmp, ev_chain, ev_isn, ev_isb, ev_ite, ev_tup, ev_lst, ev_idx, ev_slice, ev_call, ev_blt, ev_inst, ev_meth, ev_comp, evL_nil, evL_cons, evAnd_1, evOr_1, evAnd_cons, evOr_cons, evS_set, evS_par, evS_unp, evS_sub, evS_subs, evS_aug, evS_ex, evS_ret, evS_ite, evS_whl, evS_for, evS_brk, evS_pass, itE, pIter, srcOf, chk_nil, compEnd, evAnd1, evSub, evLT, evSubs, R.bind, R.thn, RS.turn, PR.fin, asB, kRef, kNeg, kNot, kIsn, kIsb, kTup, kInst, kSet, kPar, kPut, kAug, kSubs, isNon_non, isNon_bl, isNon_int, isNon_str, isNon_tup, isNon_lst, isNon_klst, isNon_ref, isT_non_int, isT_non_bool, isT_non_tuple, isT_non_list, isT_non_str, isT_non_tuple_list, isT_non_list_tuple, isT_bl_int, isT_bl_bool, isT_bl_tuple, isT_bl_list, isT_bl_str, isT_bl_tuple_list, isT_bl_list_tuple, isT_int_int, isT_int_bool, isT_int_tuple, isT_int_list, isT_int_str, isT_int_tuple_list, isT_int_list_tuple, isT_str_int, isT_str_bool, isT_str_tuple, isT_str_list, isT_str_str, isT_str_tuple_list, isT_str_list_tuple, isT_tup_int, isT_tup_bool, isT_tup_tuple, isT_tup_list, isT_tup_str, isT_tup_tuple_list, isT_tup_list_tuple, isT_lst_int, isT_lst_bool, isT_lst_tuple, isT_lst_list, isT_lst_str, isT_lst_tuple_list, isT_lst_list_tuple, isT_klst_int, isT_klst_bool, isT_klst_tuple, isT_klst_list, isT_klst_str, isT_klst_tuple_list, isT_klst_list_tuple, isT_ref_int, isT_ref_bool, isT_ref_tuple, isT_ref_list, isT_ref_str, isT_ref_tuple_list, isT_ref_list_tuple, cmp_eqI, cmp_neI, cmp_ltI, cmp_leI, cmp_gtI, cmp_geI, cmp_eqB, cmp_neB, idx_hand0, set_hand0, idx_hand1, set_hand1, idx_hand2, set_hand2, idx_hand3, set_hand3, idx_hand4, set_hand4, pBin, idx_tup0, idx_tup1, idx_tup2, idx_tup3, idx_tup4, idx_tup5, idx_tup6, idx_tup7, Int.cast_ofNat_Int, blt_abs, blt_int, blt_intB, blt_len_tup, blt_len_lst, blt_len_klst, blt_tuple_tup, blt_tuple_lst, blt_list_tup, blt_list_lst, blt_sum, blt_all_lst, blt_any_lst, blt_max2, blt_min2, intsD, boolsD, List.length_map, items, place, put, putL, wipe, Tg.names, Tg.namesL, deref, List.map_cons, List.map_nil, List.length_cons, List.length_nil, List.getElem?_cons_zero, List.getElem?_cons_succ, List.getElem?_nil, List.getElem?_append, List.set_cons_zero, List.set_cons_succ, List.set_nil, List.cons_append, List.nil_append, List.append_nil, List.replicate_succ, List.replicate_zero, Nat.sub_self, Nat.add_sub_cancel, Option.map_some, Option.map_none, Option.bind_some, Option.bind_none, Option.some.injEq, if_true, if_false, ite_true, ite_false, Bool.false_eq_true, reduceCtorEq, Nat.reduceSub, Nat.reduceAdd, Nat.reduceLT, Nat.reduceLeDiff, Nat.reduceEqDiff, Nat.reduceMul, Int.reduceLT, Int.reduceLE, Int.reduceEq, Int.reduceNe, Int.reducePow, Int.reduceToNat, Int.reduceNeg, Int.reduceNegSucc, Nat.zero_add, Int.reduceAdd, Int.reduceSub, Int.reduceMul, not_true_eq_false, not_false_eq_true, Nat.lt_irrefl, Nat.zero_le, Nat.zero_lt_succ, Nat.succ_sub_succ_eq_sub, Nat.reduceSucc, bne_tt, bne_tf, bne_ft, Bool.not_true, Bool.not_false, Bool.true_and, Bool.false_and, Bool.and_true, Bool.and_false, Bool.or_true, Bool.or_false, Bool.true_or, Bool.false_or, bne_self_eq_false, beq_self_eq_true, decide_true]
    | str b =>
      have ok : okStr b = true := by simpa [dt] using hd
      simp only [Pl.F__law_is_v3, Pl.B__law_is_v3, runFn, evSs, ev_var, ev_int, ev_bl, ev_non, ev_str, ev_glob, ev_bin, ev_neg, ev_not, ev_and, ev_or, ev_cmp, ev_chain, ev_isn, ev_isb, ev_ite, ev_tup, ev_lst, ev_idx, ev_slice, ev_call, ev_blt, ev_inst, ev_meth, ev_comp, evL_nil, evL_cons, evAnd_1, evOr_1, evAnd_cons, evOr_cons, evS_set, evS_par, evS_unp, evS_sub, evS_subs, evS_aug, evS_ex, evS_ret, evS_ite, evS_whl, evS_for, evS_brk, evS_pass, itE, pIter, srcOf, chk_nil, compEnd, evAnd1, evSub, evLT, evSubs, R.bind, R.thn, RS.turn, PR.fin, asB, kRef, kNeg, kNot, kIsn, kIsb, kTup, kInst, kSet, kPar, kPut, kAug, kSubs, isNon_non, isNon_bl, isNon_int, isNon_str, isNon_tup, isNon_lst, isNon_klst, isNon_ref, isT_non_int, isT_non_bool, isT_non_tuple, isT_non_list, isT_non_str, isT_non_tuple_list, isT_non_list_tuple, isT_bl_int, isT_bl_bool, isT_bl_tuple, isT_bl_list, isT_bl_str, isT_bl_tuple_list, isT_bl_list_tuple, isT_int_int, isT_int_bool, isT_int_tuple, isT_int_list, isT_int_str, isT_int_tuple_list, isT_int_list_tuple, isT_str_int, isT_str_bool, isT_str_tuple, isT_str_list, isT_str_str, isT_str_tuple_list, isT_str_list_tuple, isT_tup_int, isT_tup_bool, isT_tup_tuple, isT_tup_list, isT_tup_str, isT_tup_tuple_list, isT_tup_list_tuple, isT_lst_int, isT_lst_bool, isT_lst_tuple, isT_lst_list, isT_lst_str, isT_lst_tuple_list, isT_lst_list_tuple, isT_klst_int, isT_klst_bool, isT_klst_tuple, isT_klst_list, isT_klst_str, isT_klst_tuple_list, isT_klst_list_tuple, isT_ref_int, isT_ref_bool, isT_ref_tuple, isT_ref_list, isT_ref_str, isT_ref_tuple_list, isT_ref_list_tuple, cmp_eqI, cmp_neI, cmp_ltI, cmp_leI, cmp_gtI, cmp_geI, cmp_eqB, cmp_neB, idx_hand0, set_hand0, idx_hand1, set_hand1, idx_hand2, set_hand2, idx_hand3, set_hand3, idx_hand4, set_hand4, pBin, idx_tup0, idx_tup1, idx_tup2, idx_tup3, idx_tup4, idx_tup5, idx_tup6, idx_tup7, Int.cast_ofNat_Int, blt_abs, blt_int, blt_intB, blt_len_tup, blt_len_lst, blt_len_klst, blt_tuple_tup, blt_tuple_lst, blt_list_tup, blt_list_lst, blt_sum, blt_all_lst, blt_any_lst, blt_max2, blt_min2, intsD, boolsD, List.length_map, items, place, put, putL, wipe, Tg.names, Tg.namesL, deref, List.map_cons, List.map_nil, List.length_cons, List.length_nil, List.getElem?_cons_zero, List.getElem?_cons_succ, List.getElem?_nil, List.getElem?_append, List.set_cons_zero, List.set_cons_succ, List.set_nil, List.cons_append, List.nil_append, List.append_nil, List.replicate_succ, List.replicate_zero, Nat.sub_self, Nat.add_sub_cancel, Option.map_some, Option.map_none, Option.bind_some, Option.bind_none, Option.some.injEq, if_true, if_false, ite_true, ite_false, Bool.false_eq_true, reduceCtorEq, Nat.reduceSub, Nat.reduceAdd, Nat.reduceLT, Nat.reduceLeDiff, Nat.reduceEqDiff, Nat.reduceMul, Int.reduceLT, Int.reduceLE, Int.reduceEq, Int.reduceNe, Int.reducePow, Int.reduceToNat, Int.reduceNeg, Int.reduceNegSucc, Nat.zero_add, Int.reduceAdd, Int.reduceSub, Int.reduceMul, not_true_eq_false, not_false_eq_true, Nat.lt_irrefl, Nat.zero_le, Nat.zero_lt_succ, Nat.succ_sub_succ_eq_sub, Nat.reduceSucc, bne_tt, bne_tf, bne_ft, Bool.not_true, Bool.not_false, Bool.true_and, Bool.false_and, Bool.and_true, Bool.and_false, Bool.or_true, Bool.or_false, Bool.true_or, Bool.false_or, bne_self_eq_false, beq_self_eq_true, cmp_eqS ok ok]
    | tup xs =>
      simp only [dt, Bool.and_eq_true, decide_eq_true_eq] at hd
      have c := seq xs hd.1 hd.2 [] (.tup xs)
      have lz : (zipD xs xs).length ≤ 100000 := by rw [zip_len]; omega
      simp only [Pl.F__law_is_v3, Pl.B__law_is_v3, runFn, evSs, ev_var, ev_int, ev_bl, ev_non, ev_str, ev_glob, ev_bin, ev_neg, ev_not, ev_and, ev_or, ev_cmp, ev_chain, ev_isn, ev_isb, ev_ite, ev_tup, ev_lst, ev_idx, ev_slice, ev_call, ev_blt, ev_inst, ev_meth, ev_comp, evL_nil, evL_cons, evAnd_1, evOr_1, evAnd_cons, evOr_cons, evS_set, evS_par, evS_unp, evS_sub, evS_subs, evS_aug, evS_ex, evS_ret, evS_ite, evS_whl, evS_for, evS_brk, evS_pass, itE, pIter, srcOf, chk_nil, compEnd, evAnd1, evSub, evLT, evSubs, R.bind, R.thn, RS.turn, PR.fin, asB, kRef, kNeg, kNot, kIsn, kIsb, kTup, kInst, kSet, kPar, kPut, kAug, kSubs, isNon_non, isNon_bl, isNon_int, isNon_str, isNon_tup, isNon_lst, isNon_klst, isNon_ref, isT_non_int, isT_non_bool, isT_non_tuple, isT_non_list, isT_non_str, isT_non_tuple_list, isT_non_list_tuple, isT_bl_int, isT_bl_bool, isT_bl_tuple, isT_bl_list, isT_bl_str, isT_bl_tuple_list, isT_bl_list_tuple, isT_int_int, isT_int_bool, isT_int_tuple, isT_int_list, isT_int_str, isT_int_tuple_list, isT_int_list_tuple, isT_str_int, isT_str_bool, isT_str_tuple, isT_str_list, isT_str_str, isT_str_tuple_list, isT_str_list_tuple, isT_tup_int, isT_tup_bool, isT_tup_tuple, isT_tup_list, isT_tup_str, isT_tup_tuple_list, isT_tup_list_tuple, isT_lst_int, isT_lst_bool, isT_lst_tuple, isT_lst_list, isT_lst_str, isT_lst_tuple_list, isT_lst_list_tuple, isT_klst_int, isT_klst_bool, isT_klst_tuple, isT_klst_list, isT_klst_str, isT_klst_tuple_list, isT_klst_list_tuple, isT_ref_int, isT_ref_bool, isT_ref_tuple, isT_ref_list, isT_ref_str, isT_ref_tuple_list, isT_ref_list_tuple, cmp_eqI, cmp_neI, cmp_ltI, cmp_leI, cmp_gtI, cmp_geI, cmp_eqB, cmp_neB, idx_hand0, set_hand0, idx_hand1, set_hand1, idx_hand2, set_hand2, idx_hand3, set_hand3, idx_hand4, set_hand4, pBin, idx_tup0, idx_tup1, idx_tup2, idx_tup3, idx_tup4, idx_tup5, idx_tup6, idx_tup7, Int.cast_ofNat_Int, blt_abs, blt_int, blt_intB, blt_len_tup, blt_len_lst, blt_len_klst, blt_tuple_tup, blt_tuple_lst, blt_list_tup, blt_list_lst, blt_sum, blt_all_lst, blt_any_lst, blt_max2, blt_min2, intsD, boolsD, List.length_map, items, place, put, putL, wipe, Tg.names, Tg.namesL, deref, List.map_cons, List.map_nil, List.length_cons, List.length_nil, List.getElem?_cons_zero, List.getElem?_cons_succ, List.getElem?_nil, List.getElem?_append, List.set_cons_zero, List.set_cons_succ, List.set_nil, List.cons_append, List.nil_append, List.append_nil, List.replicate_succ, List.replicate_zero, Nat.sub_self, Nat.add_sub_cancel, Option.map_some, Option.map_none, Option.bind_some, Option.bind_none, Option.some.injEq, if_true, if_false, ite_true, ite_false, Bool.false_eq_true, reduceCtorEq, Nat.reduceSub, Nat.reduceAdd, Nat.reduceLT, Nat.reduceLeDiff, Nat.reduceEqDiff, Nat.reduceMul, Int.reduceLT, Int.reduceLE, Int.reduceEq, Int.reduceNe, Int.reducePow, Int.reduceToNat, Int.reduceNeg, Int.reduceNegSucc, Nat.zero_add, Int.reduceAdd, Int.reduceSub, Int.reduceMul, not_true_eq_false, not_false_eq_true, Nat.lt_irrefl, Nat.zero_le, Nat.zero_lt_succ, Nat.succ_sub_succ_eq_sub, Nat.reduceSucc, bne_tt, bne_tf, bne_ft, Bool.not_true, Bool.not_false, Bool.true_and, Bool.false_and, Bool.and_true, Bool.and_false, Bool.or_true, Bool.or_false, Bool.true_or, Bool.false_or, bne_self_eq_false, beq_self_eq_true, isTup, c, lz, all_true, all_true2, decide_true]
    | lst xs =>
      simp only [dt, Bool.and_eq_true, decide_eq_true_eq] at hd
      have c := seq xs hd.1 hd.2 [] (.lst xs)
      have lz : (zipD xs xs).length ≤ 100000 := by rw [zip_len]; omega
      simp only [Pl.F__law_is_v3, Pl.B__law_is_v3, runFn, evSs, ev_var, ev_int, ev_bl, ev_non, ev_str, ev_glob, ev_bin, ev_neg, ev_not, ev_and, ev_or, ev_cmp, ev_chain, ev_isn, ev_isb, ev_ite, ev_tup, ev_lst, ev_idx, ev_slice, ev_call, ev_blt, ev_inst, ev_meth, ev_comp, evL_nil, evL_cons, evAnd_1, evOr_1, evAnd_cons, evOr_cons, evS_set, evS_par, evS_unp, evS_sub, evS_subs, evS_aug, evS_ex, evS_ret, evS_ite, evS_whl, evS_for, evS_brk, evS_pass, itE, pIter, srcOf, chk_nil, compEnd, evAnd1, evSub, evLT, evSubs, R.bind, R.thn, RS.turn, PR.fin, asB, kRef, kNeg, kNot, kIsn, kIsb, kTup, kInst, kSet, kPar, kPut, kAug, kSubs, isNon_non, isNon_bl, isNon_int, isNon_str, isNon_tup, isNon_lst, isNon_klst, isNon_ref, isT_non_int, isT_non_bool, isT_non_tuple, isT_non_list, isT_non_str, isT_non_tuple_list, isT_non_list_tuple, isT_bl_int, isT_bl_bool, isT_bl_tuple, isT_bl_list, isT_bl_str, isT_bl_tuple_list, isT_bl_list_tuple, isT_int_int, isT_int_bool, isT_int_tuple, isT_int_list, isT_int_str, isT_int_tuple_list, isT_int_list_tuple, isT_str_int, isT_str_bool, isT_str_tuple, isT_str_list, isT_str_str, isT_str_tuple_list, isT_str_list_tuple, isT_tup_int, isT_tup_bool, isT_tup_tuple, isT_tup_list, isT_tup_str, isT_tup_tuple_list, isT_tup_list_tuple, isT_lst_int, isT_lst_bool, isT_lst_tuple, isT_lst_list, isT_lst_str, isT_lst_tuple_list, isT_lst_list_tuple, isT_klst_int, isT_klst_bool, isT_klst_tuple, isT_klst_list, isT_klst_str, isT_klst_tuple_list, isT_klst_list_tuple, isT_ref_int, isT_ref_bool, isT_ref_tuple, isT_ref_list, isT_ref_str, isT_ref_tuple_list, isT_ref_list_tuple, cmp_eqI, cmp_neI, cmp_ltI, cmp_leI, cmp_gtI, cmp_geI, cmp_eqB, cmp_neB, idx_hand0, set_hand0, idx_hand1, set_hand1, idx_hand2, set_hand2, idx_hand3, set_hand3, idx_hand4, set_hand4, pBin, idx_tup0, idx_tup1, idx_tup2, idx_tup3, idx_tup4, idx_tup5, idx_tup6, idx_tup7, Int.cast_ofNat_Int, blt_abs, blt_int, blt_intB, blt_len_tup, blt_len_lst, blt_len_klst, blt_tuple_tup, blt_tuple_lst, blt_list_tup, blt_list_lst, blt_sum, blt_all_lst, blt_any_lst, blt_max2, blt_min2, intsD, boolsD, List.length_map, items, place, put, putL, wipe, Tg.names, Tg.namesL, deref, List.map_cons, List.map_nil, List.length_cons, List.length_nil, List.getElem?_cons_zero, List.getElem?_cons_succ, List.getElem?_nil, List.getElem?_append, List.set_cons_zero, List.set_cons_succ, List.set_nil, List.cons_append, List.nil_append, List.append_nil, List.replicate_succ, List.replicate_zero, Nat.sub_self, Nat.add_sub_cancel, Option.map_some, Option.map_none, Option.bind_some, Option.bind_none, Option.some.injEq, if_true, if_false, ite_true, ite_false, Bool.false_eq_true, reduceCtorEq, Nat.reduceSub, Nat.reduceAdd, Nat.reduceLT, Nat.reduceLeDiff, Nat.reduceEqDiff, Nat.reduceMul, Int.reduceLT, Int.reduceLE, Int.reduceEq, Int.reduceNe, Int.reducePow, Int.reduceToNat, Int.reduceNeg, Int.reduceNegSucc, Nat.zero_add, Int.reduceAdd, Int.reduceSub, Int.reduceMul, not_true_eq_false, not_false_eq_true, Nat.lt_irrefl, Nat.zero_le, Nat.zero_lt_succ, Nat.succ_sub_succ_eq_sub, Nat.reduceSucc, bne_tt, bne_tf, bne_ft, Bool.not_true, Bool.not_false, Bool.true_and, Bool.false_and, Bool.and_true, Bool.and_false, Bool.or_true, Bool.or_false, Bool.true_or, Bool.false_or, bne_self_eq_false, beq_self_eq_true, isTup, c, lz, all_true, all_true2, decide_true]
    | _ => simp [dt] at hd
/-- a list of the store against a list -/
theorem comp_mapC {step : D → Store → R (Option D)} {c : Src} {s : Store} {f : D → D} (hc : c.chk s = true) : ∀ (xs acc : List D), (∀ x ∈ xs, step x s = .ok (some (f x)) s) → acc.length + xs.length ≤ 100000 → compL c.chk step xs acc s = .ok (acc ++ xs.map f) s
  | [], acc, _, _ => by simp [compL, hc]
  | x :: xs, acc, h, hl => by
    have hl' : acc.length < 100000 := by simp at hl; omega
    simp only [compL, hc, hl', and_self, if_true, h x (List.mem_cons_self), R.bind]
    rw [comp_mapC hc xs (acc ++ [f x]) (fun y hy => h y (List.mem_cons_of_mem _ hy)) (by simp at hl ⊢; omega)]
    simp
mutual
theorem beq_refl : ∀ d : D, D.beq d d = true
  | .non => rfl
  | .bl b => by simp [D.beq]
  | .int b => by simp [D.beq]
  | .str b => by simp [D.beq]
  | .tup xs => by simp [D.beq, beqL_refl xs]
  | .lst xs => by simp [D.beq, beqL_refl xs]
  | .klst xs => by simp [D.beq, beqL_refl xs]
  | .ref n => by simp [D.beq]
  | .fn n => by simp [D.beq]
theorem beqL_refl : ∀ d : List D, D.beqL d d = true
  | [] => rfl
  | x :: xs => by simp [D.beqL, beq_refl x, beqL_refl xs]
end
theorem run_is3R {n : Nat} (h : Has P Pl.Q__law_is_v3) {k m : Nat} {xs : List D} (hm : s[m]? = some xs) (hl : xs.length ≤ 1000) (hd : dtL k xs = true) : run P (n + k + 2) 504 [.ref m, .lst xs] s = .ok (.bl true) s := by
  rw [show n + k + 2 = (n + k + 1) + 1 by omega, has_run (F := Pl.F__law_is_v3) h (by decide) rfl]
  have lm : m < s.length := (List.getElem?_eq_some_iff.mp hm).1
  have hc : (Src.mk [(m, xs)] (zipD xs xs)).chk s = true := by
    simp only [Src.chk, List.all_cons, List.all_nil, hm, beqL_refl, Bool.and_self]
  have stepM : ∀ x ∈ zipD xs xs, compStep P.G (run P (n + k + 1)) (.call 504 [.var 2, .var 3]) (.t [.n 2, .n 3]) [] [some (.ref m), some (.lst xs), none, none] x s = .ok (some ((fun _ => D.bl true) x)) s := by
    intro x hx'
    obtain ⟨y, hy, rfl⟩ := zip_mem hx'
    simp only [compStep, runFn, evSs, ev_var, ev_int, ev_bl, ev_non, ev_str, ev_glob, ev_bin, ev_neg, ev_not, ev_and, ev_or, ev_cmp, ev_chain, ev_isn, ev_isb, ev_ite, ev_tup, ev_lst, ev_idx, ev_slice, ev_call, ev_blt, ev_inst, ev_meth, ev_comp, evL_nil, evL_cons, evAnd_1, evOr_1, evAnd_cons, evOr_cons, evS_set, evS_par, evS_unp, evS_sub, evS_subs, evS_aug, evS_ex, evS_ret, evS_ite, evS_whl, evS_for, evS_brk, evS_pass, itE, pIter, srcOf, chk_nil, compEnd, evAnd1, evSub, evLT, evSubs, R.bind, R.thn, RS.turn, PR.fin, asB, kRef, kNeg, kNot, kIsn, kIsb, kTup, kInst, kSet, kPar, kPut, kAug, kSubs, isNon_non, isNon_bl, isNon_int, isNon_str, isNon_tup, isNon_lst, isNon_klst, isNon_ref, isT_non_int, isT_non_bool, isT_non_tuple, isT_non_list, isT_non_str, isT_non_tuple_list, isT_non_list_tuple, isT_bl_int, isT_bl_bool, isT_bl_tuple, isT_bl_list, isT_bl_str, isT_bl_tuple_list, isT_bl_list_tuple, isT_int_int, isT_int_bool, isT_int_tuple, isT_int_list, isT_int_str, isT_int_tuple_list, isT_int_list_tuple, isT_str_int, isT_str_bool, isT_str_tuple, isT_str_list, isT_str_str, isT_str_tuple_list, isT_str_list_tuple, isT_tup_int, isT_tup_bool, isT_tup_tuple, isT_tup_list, isT_tup_str, isT_tup_tuple_list, isT_tup_list_tuple, isT_lst_int, isT_lst_bool, isT_lst_tuple, isT_lst_list, isT_lst_str, isT_lst_tuple_list, isT_lst_list_tuple, isT_klst_int, isT_klst_bool, isT_klst_tuple, isT_klst_list, isT_klst_str, isT_klst_tuple_list, isT_klst_list_tuple, isT_ref_int, isT_ref_bool, isT_ref_tuple, isT_ref_list, isT_ref_str, isT_ref_tuple_list, isT_ref_list_tuple, cmp_eqI, cmp_neI, cmp_ltI, cmp_leI, cmp_gtI, cmp_geI, cmp_eqB, cmp_neB, idx_hand0, set_hand0, idx_hand1, set_hand1, idx_hand2, set_hand2, idx_hand3, set_hand3, idx_hand4, set_hand4, pBin, idx_tup0, idx_tup1, idx_tup2, idx_tup3, idx_tup4, idx_tup5, idx_tup6, idx_tup7, Int.cast_ofNat_Int, blt_abs, blt_int, blt_intB, blt_len_tup, blt_len_lst, blt_len_klst, blt_tuple_tup, blt_tuple_lst, blt_list_tup, blt_list_lst, blt_sum, blt_all_lst, blt_any_lst, blt_max2, blt_min2, intsD, boolsD, List.length_map, items, place, put, putL, wipe, Tg.names, Tg.namesL, deref, List.map_cons, List.map_nil, List.length_cons, List.length_nil, List.getElem?_cons_zero, List.getElem?_cons_succ, List.getElem?_nil, List.getElem?_append, List.set_cons_zero, List.set_cons_succ, List.set_nil, List.cons_append, List.nil_append, List.append_nil, List.replicate_succ, List.replicate_zero, Nat.sub_self, Nat.add_sub_cancel, Option.map_some, Option.map_none, Option.bind_some, Option.bind_none, Option.some.injEq, if_true, if_false, ite_true, ite_false, Bool.false_eq_true, reduceCtorEq, Nat.reduceSub, Nat.reduceAdd, Nat.reduceLT, Nat.reduceLeDiff, Nat.reduceEqDiff, Nat.reduceMul, Int.reduceLT, Int.reduceLE, Int.reduceEq, Int.reduceNe, Int.reducePow, Int.reduceToNat, Int.reduceNeg, Int.reduceNegSucc, Nat.zero_add, Int.reduceAdd, Int.reduceSub, Int.reduceMul, not_true_eq_false, not_false_eq_true, Nat.lt_irrefl, Nat.zero_le, Nat.zero_lt_succ, Nat.succ_sub_succ_eq_sub, Nat.reduceSucc, bne_tt, bne_tf, bne_ft, Bool.not_true, Bool.not_false, Bool.true_and, Bool.false_and, Bool.and_true, Bool.and_false, Bool.or_true, Bool.or_false, Bool.true_or, Bool.false_or, bne_self_eq_false, beq_self_eq_true, run_is3 h k y (dtL_mem hd y hy)]
  have cm := comp_mapC hc (zipD xs xs) [] stepM (by rw [zip_len]; simp; omega)
  rw [List.nil_append] at cm
  have lz : (zipD xs xs).length ≤ 100000 := by rw [zip_len]; omega
  have ln : pBlt s .len [.ref m] = .val (.int xs.length) := by simp only [pBlt, items, hm]
  have so : srcOf s (.ref m) = some ⟨[(m, xs)], xs⟩ := by simp only [srcOf, hm, Option.map_some]
  have so2 : srcOf s (.lst xs) = some ⟨[], xs⟩ := rfl
  simp only [Pl.F__law_is_v3, Pl.B__law_is_v3, runFn, evSs, ev_var, ev_int, ev_bl, ev_non, ev_str, ev_glob, ev_bin, ev_neg, ev_not, ev_and, ev_or, ev_cmp, ev_chain, ev_isn, ev_isb, ev_ite, ev_tup, ev_lst, ev_idx, ev_slice, ev_call, ev_blt, ev_inst, ev_meth, ev_comp, evL_nil, evL_cons, evAnd_1, evOr_1, evAnd_cons, evOr_cons, evS_set, evS_par, evS_unp, evS_sub, evS_subs, evS_aug, evS_ex, evS_ret, evS_ite, evS_whl, evS_for, evS_brk, evS_pass, itE, pIter, chk_nil, compEnd, evAnd1, evSub, evLT, evSubs, R.bind, R.thn, RS.turn, PR.fin, asB, kRef, kNeg, kNot, kIsn, kIsb, kTup, kInst, kSet, kPar, kPut, kAug, kSubs, isNon_non, isNon_bl, isNon_int, isNon_str, isNon_tup, isNon_lst, isNon_klst, isNon_ref, isT_non_int, isT_non_bool, isT_non_tuple, isT_non_list, isT_non_str, isT_non_tuple_list, isT_non_list_tuple, isT_bl_int, isT_bl_bool, isT_bl_tuple, isT_bl_list, isT_bl_str, isT_bl_tuple_list, isT_bl_list_tuple, isT_int_int, isT_int_bool, isT_int_tuple, isT_int_list, isT_int_str, isT_int_tuple_list, isT_int_list_tuple, isT_str_int, isT_str_bool, isT_str_tuple, isT_str_list, isT_str_str, isT_str_tuple_list, isT_str_list_tuple, isT_tup_int, isT_tup_bool, isT_tup_tuple, isT_tup_list, isT_tup_str, isT_tup_tuple_list, isT_tup_list_tuple, isT_lst_int, isT_lst_bool, isT_lst_tuple, isT_lst_list, isT_lst_str, isT_lst_tuple_list, isT_lst_list_tuple, isT_klst_int, isT_klst_bool, isT_klst_tuple, isT_klst_list, isT_klst_str, isT_klst_tuple_list, isT_klst_list_tuple, isT_ref_int, isT_ref_bool, isT_ref_tuple, isT_ref_list, isT_ref_str, isT_ref_tuple_list, isT_ref_list_tuple, cmp_eqI, cmp_neI, cmp_ltI, cmp_leI, cmp_gtI, cmp_geI, cmp_eqB, cmp_neB, idx_hand0, set_hand0, idx_hand1, set_hand1, idx_hand2, set_hand2, idx_hand3, set_hand3, idx_hand4, set_hand4, pBin, idx_tup0, idx_tup1, idx_tup2, idx_tup3, idx_tup4, idx_tup5, idx_tup6, idx_tup7, Int.cast_ofNat_Int, blt_abs, blt_int, blt_intB, blt_len_tup, blt_len_lst, blt_len_klst, blt_tuple_tup, blt_tuple_lst, blt_list_tup, blt_list_lst, blt_sum, blt_all_lst, blt_any_lst, blt_max2, blt_min2, intsD, boolsD, List.length_map, items, place, put, putL, wipe, Tg.names, Tg.namesL, deref, List.map_cons, List.map_nil, List.length_cons, List.length_nil, List.getElem?_cons_zero, List.getElem?_cons_succ, List.getElem?_nil, List.getElem?_append, List.set_cons_zero, List.set_cons_succ, List.set_nil, List.cons_append, List.nil_append, List.append_nil, List.replicate_succ, List.replicate_zero, Nat.sub_self, Nat.add_sub_cancel, Option.map_some, Option.map_none, Option.bind_some, Option.bind_none, Option.some.injEq, if_true, if_false, ite_true, ite_false, Bool.false_eq_true, reduceCtorEq, Nat.reduceSub, Nat.reduceAdd, Nat.reduceLT, Nat.reduceLeDiff, Nat.reduceEqDiff, Nat.reduceMul, Int.reduceLT, Int.reduceLE, Int.reduceEq, Int.reduceNe, Int.reducePow, Int.reduceToNat, Int.reduceNeg, Int.reduceNegSucc, Nat.zero_add, Int.reduceAdd, Int.reduceSub, Int.reduceMul, not_true_eq_false, not_false_eq_true, Nat.lt_irrefl, Nat.zero_le, Nat.zero_lt_succ, Nat.succ_sub_succ_eq_sub, Nat.reduceSucc, bne_tt, bne_tf, bne_ft, Bool.not_true, Bool.not_false, Bool.true_and, Bool.false_and, Bool.and_true, Bool.and_false, Bool.or_true, Bool.or_false, Bool.true_or, Bool.false_or, bne_self_eq_false, beq_self_eq_true, lm, ln, so, so2, isTup, cm, lz, all_true, all_true2, decide_true]
end
end Pi

namespace Pl
open Pi PySem
end Pl
namespace K60
open Pi PySem
def fns : List (Nat × Fn) := [(488, Pl.F__law_hand_v52), (101, Pl.F_common), (102, Pl.F_fraction), (116, Pl.F_minus), (117, Pl.F_times), (511, Pl.F_three_closes), (106, Pl.F_plus), (512, Pl.F_four_closes), (504, Pl.F__law_is_v3), (513, Pl.F__law_low_v4), (489, Pl.F__law_draw_v4), (505, Pl.F__law_any_v4), (514, Pl.F__law_times_v3), (515, Pl.F__law_grown), (516, Pl.F__law_less_v2), (517, Pl.F__law_three_v3), (518, Pl.F__law_plus_v2), (519, Pl.F__law_four_v3), (520, Pl.F__law_closing_right), (521, Pl.F__law_some), (522, Pl.F__law_over_v2), (523, Pl.F__law_lowest_v3), (524, Pl.F__law_at), (133, Pl.F_is_integer), (134, Pl.F_are_integers), (104, Pl.F_lowest), (135, Pl.F_check_point), (142, Pl.F_places), (139, Pl.F_is_fraction), (105, Pl.F_whole), (251, Pl.F_first_above), (252, Pl.F_around), (115, Pl.F_root), (120, Pl.F_fraction_root), (255, Pl.F_is_low), (256, Pl.F_is_circle), (257, Pl.F_check_circle), (260, Pl.F_square_of), (507, Pl.F_width_of), (508, Pl.F_check_width), (140, Pl.F_are_fractions), (141, Pl.F_at), (262, Pl.F_middle_of), (525, Pl.F_inner_of), (253, Pl.F_squares_row), (258, Pl.F_power), (294, Pl.F_is_on_v2), (160, Pl.F_square_between), (510, Pl.F_touch_sort), (526, Pl.F__law_inner_right), (527, Pl.F_law)]
def gs : List (Nat × Str × D) := [(1, "ONE", .tup [.int 1, .int 1])]
abbrev PP : Prog := progOf fns gs
abbrev ids_ : List Nat := [488, 101, 102, 116, 117, 511, 106, 512, 504, 513, 489, 505, 514, 515, 516, 517, 518, 519, 520, 521, 522, 523, 524, 133, 134, 104, 135, 142, 139, 105, 251, 252, 115, 120, 255, 256, 257, 260, 507, 508, 140, 141, 262, 525, 253, 258, 294, 160, 510, 526, 527]
theorem has : Pi.Has PP [488, 101, 102, 116, 117, 511, 106, 512, 504, 513, 489, 505, 514, 515, 516, 517, 518, 519, 520, 521, 522, 523, 524, 133, 134, 104, 135, 142, 139, 105, 251, 252, 115, 120, 255, 256, 257, 260, 507, 508, 140, 141, 262, 525, 253, 258, 294, 160, 510, 526, 527] := ⟨rfl, rfl, rfl, rfl, rfl, rfl, rfl, rfl, rfl, rfl, rfl, rfl, rfl, rfl, rfl, rfl, rfl, rfl, rfl, rfl, rfl, rfl, rfl, rfl, rfl, rfl, rfl, rfl, rfl, rfl, rfl, rfl, rfl, rfl, rfl, rfl, rfl, rfl, rfl, rfl, rfl, rfl, rfl, rfl, rfl, rfl, rfl, rfl, rfl, rfl, rfl, True.intro⟩
theorem fn_at : PP.F 488 = some Pl.F__law_hand_v52 ∧ PP.F 101 = some Pl.F_common ∧ PP.F 102 = some Pl.F_fraction ∧ PP.F 116 = some Pl.F_minus ∧ PP.F 117 = some Pl.F_times ∧ PP.F 511 = some Pl.F_three_closes ∧ PP.F 106 = some Pl.F_plus ∧ PP.F 512 = some Pl.F_four_closes ∧ PP.F 504 = some Pl.F__law_is_v3 ∧ PP.F 513 = some Pl.F__law_low_v4 ∧ PP.F 489 = some Pl.F__law_draw_v4 ∧ PP.F 505 = some Pl.F__law_any_v4 ∧ PP.F 514 = some Pl.F__law_times_v3 ∧ PP.F 515 = some Pl.F__law_grown ∧ PP.F 516 = some Pl.F__law_less_v2 ∧ PP.F 517 = some Pl.F__law_three_v3 ∧ PP.F 518 = some Pl.F__law_plus_v2 ∧ PP.F 519 = some Pl.F__law_four_v3 ∧ PP.F 520 = some Pl.F__law_closing_right ∧ PP.F 521 = some Pl.F__law_some ∧ PP.F 522 = some Pl.F__law_over_v2 ∧ PP.F 523 = some Pl.F__law_lowest_v3 ∧ PP.F 524 = some Pl.F__law_at ∧ PP.F 133 = some Pl.F_is_integer ∧ PP.F 134 = some Pl.F_are_integers ∧ PP.F 104 = some Pl.F_lowest ∧ PP.F 135 = some Pl.F_check_point ∧ PP.F 142 = some Pl.F_places ∧ PP.F 139 = some Pl.F_is_fraction ∧ PP.F 105 = some Pl.F_whole ∧ PP.F 251 = some Pl.F_first_above ∧ PP.F 252 = some Pl.F_around ∧ PP.F 115 = some Pl.F_root ∧ PP.F 120 = some Pl.F_fraction_root ∧ PP.F 255 = some Pl.F_is_low ∧ PP.F 256 = some Pl.F_is_circle ∧ PP.F 257 = some Pl.F_check_circle ∧ PP.F 260 = some Pl.F_square_of ∧ PP.F 507 = some Pl.F_width_of ∧ PP.F 508 = some Pl.F_check_width ∧ PP.F 140 = some Pl.F_are_fractions ∧ PP.F 141 = some Pl.F_at ∧ PP.F 262 = some Pl.F_middle_of ∧ PP.F 525 = some Pl.F_inner_of ∧ PP.F 253 = some Pl.F_squares_row ∧ PP.F 258 = some Pl.F_power ∧ PP.F 294 = some Pl.F_is_on_v2 ∧ PP.F 160 = some Pl.F_square_between ∧ PP.F 510 = some Pl.F_touch_sort ∧ PP.F 526 = some Pl.F__law_inner_right ∧ PP.F 527 = some Pl.F_law := ⟨rfl, rfl, rfl, rfl, rfl, rfl, rfl, rfl, rfl, rfl, rfl, rfl, rfl, rfl, rfl, rfl, rfl, rfl, rfl, rfl, rfl, rfl, rfl, rfl, rfl, rfl, rfl, rfl, rfl, rfl, rfl, rfl, rfl, rfl, rfl, rfl, rfl, rfl, rfl, rfl, rfl, rfl, rfl, rfl, rfl, rfl, rfl, rfl, rfl, rfl, rfl⟩
end K60

set_option Elab.async false
set_option linter.all false
set_option maxRecDepth 100000
set_option maxHeartbeats 4000000
namespace K60
open Pi PySem
theorem Q (ids : List Nat) (h : ∀ i ∈ ids, i ∈ ids_ := by decide) : Has PP ids := has.sub h
section
variable {t : Store} {hd : List D}
theorem draw (hh : IsHand hd) {many : Int} (h0 : 0 < many) (h1 : many < 1000000) : ∃ (d : Int) (hd' : List D), 0 ≤ d ∧ d < many ∧ IsHand hd' ∧ run PP 38 489 [.ref 0, .int many] (hd :: t) = .ok (.int d) (hd' :: t) := run_draw_v4 (Q _) hh h0 h1 37
theorem draw37 (hh : IsHand hd) {many : Int} (h0 : 0 < many) (h1 : many < 1000000) : ∃ (d : Int) (hd' : List D), 0 ≤ d ∧ d < many ∧ IsHand hd' ∧ run PP 37 489 [.ref 0, .int many] (hd :: t) = .ok (.int d) (hd' :: t) := run_draw_v4 (Q _) hh h0 h1 36
theorem any_ (hh : IsHand hd) {xs : List D} (h0 : 0 < xs.length) (h1 : xs.length < 1000) : ∃ (x : D) (hd' : List D), x ∈ xs ∧ IsHand hd' ∧ run PP 38 505 [.ref 0, .lst xs] (hd :: t) = .ok x (hd' :: t) := by
  obtain ⟨d, h', d0, d1, hh', e⟩ := draw37 (t := t) hh (many := xs.length) (by omega) (by omega)
  have pl : place xs.length d = some d.toNat := by
    unfold place
    rw [if_pos d0, if_pos d1]
  have g : xs[d.toNat]? = some (xs[d.toNat]'(by omega)) := List.getElem?_eq_getElem (by omega)
  refine ⟨xs[d.toNat]'(by omega), h', List.getElem_mem _, hh', ?_⟩
  have ix : ∀ s, pIdx s (.lst xs) (.int d) = .val (xs[d.toNat]'(by omega)) := fun s => by simp only [pIdx, items, pl, Option.bind_some, g]
  rw [has_run (n := 37) (F := Pl.F__law_any_v4) (Q Pl.Q__law_any_v4) (by decide) rfl]
  simp only [Pl.F__law_any_v4, Pl.B__law_any_v4, runFn, evSs, ev_var, ev_int, ev_bl, ev_non, ev_str, ev_glob, ev_bin, ev_neg, ev_not, ev_and, ev_or, ev_cmp, ev_chain, ev_isn, ev_isb, ev_ite, ev_tup, ev_lst, ev_idx, ev_slice, ev_call, ev_blt, ev_inst, ev_meth, ev_comp, evL_nil, evL_cons, evAnd_1, evOr_1, evAnd_cons, evOr_cons, evS_set, evS_par, evS_unp, evS_sub, evS_subs, evS_aug, evS_ex, evS_ret, evS_ite, evS_whl, evS_for, evS_brk, evS_pass, itE, pIter, srcOf, chk_nil, compEnd, evAnd1, evSub, evLT, evSubs, R.bind, R.thn, RS.turn, PR.fin, asB, kRef, kNeg, kNot, kIsn, kIsb, kTup, kInst, kSet, kPar, kPut, kAug, kSubs, isNon_non, isNon_bl, isNon_int, isNon_str, isNon_tup, isNon_lst, isNon_klst, isNon_ref, isT_non_int, isT_non_bool, isT_non_tuple, isT_non_list, isT_non_str, isT_non_tuple_list, isT_non_list_tuple, isT_bl_int, isT_bl_bool, isT_bl_tuple, isT_bl_list, isT_bl_str, isT_bl_tuple_list, isT_bl_list_tuple, isT_int_int, isT_int_bool, isT_int_tuple, isT_int_list, isT_int_str, isT_int_tuple_list, isT_int_list_tuple, isT_str_int, isT_str_bool, isT_str_tuple, isT_str_list, isT_str_str, isT_str_tuple_list, isT_str_list_tuple, isT_tup_int, isT_tup_bool, isT_tup_tuple, isT_tup_list, isT_tup_str, isT_tup_tuple_list, isT_tup_list_tuple, isT_lst_int, isT_lst_bool, isT_lst_tuple, isT_lst_list, isT_lst_str, isT_lst_tuple_list, isT_lst_list_tuple, isT_klst_int, isT_klst_bool, isT_klst_tuple, isT_klst_list, isT_klst_str, isT_klst_tuple_list, isT_klst_list_tuple, isT_ref_int, isT_ref_bool, isT_ref_tuple, isT_ref_list, isT_ref_str, isT_ref_tuple_list, isT_ref_list_tuple, cmp_eqI, cmp_neI, cmp_ltI, cmp_leI, cmp_gtI, cmp_geI, cmp_eqB, cmp_neB, idx_hand0, set_hand0, idx_hand1, set_hand1, idx_hand2, set_hand2, idx_hand3, set_hand3, idx_hand4, set_hand4, pBin, idx_tup0, idx_tup1, idx_tup2, idx_tup3, idx_tup4, idx_tup5, idx_tup6, idx_tup7, Int.cast_ofNat_Int, blt_abs, blt_int, blt_intB, blt_len_tup, blt_len_lst, blt_len_klst, blt_tuple_tup, blt_tuple_lst, blt_list_tup, blt_list_lst, blt_sum, blt_all_lst, blt_any_lst, blt_max2, blt_min2, intsD, boolsD, List.length_map, items, place, put, putL, wipe, Tg.names, Tg.namesL, deref, List.map_cons, List.map_nil, List.length_cons, List.length_nil, List.getElem?_cons_zero, List.getElem?_cons_succ, List.getElem?_nil, List.getElem?_append, List.set_cons_zero, List.set_cons_succ, List.set_nil, List.cons_append, List.nil_append, List.append_nil, List.replicate_succ, List.replicate_zero, Nat.sub_self, Nat.add_sub_cancel, Option.map_some, Option.map_none, Option.bind_some, Option.bind_none, Option.some.injEq, if_true, if_false, ite_true, ite_false, Bool.false_eq_true, reduceCtorEq, Nat.reduceSub, Nat.reduceAdd, Nat.reduceLT, Nat.reduceLeDiff, Nat.reduceEqDiff, Nat.reduceMul, Int.reduceLT, Int.reduceLE, Int.reduceEq, Int.reduceNe, Int.reducePow, Int.reduceToNat, Int.reduceNeg, Int.reduceNegSucc, Nat.zero_add, Int.reduceAdd, Int.reduceSub, Int.reduceMul, not_true_eq_false, not_false_eq_true, Nat.lt_irrefl, Nat.zero_le, Nat.zero_lt_succ, Nat.succ_sub_succ_eq_sub, Nat.reduceSucc, bne_tt, bne_tf, bne_ft, Bool.not_true, Bool.not_false, Bool.true_and, Bool.false_and, Bool.and_true, Bool.and_false, Bool.or_true, Bool.or_false, Bool.true_or, Bool.false_or, bne_self_eq_false, beq_self_eq_true, e, ix]
theorem get_end {l : List D} : (hd :: (t ++ [l]))[t.length + 1]? = some l := by simp
theorem app_end {l : List D} {d : D} : pMeth (hd :: (t ++ [l])) .append (.ref (t.length + 1)) [d] = if l.length < 100000 then .ok .non (hd :: (t ++ [l ++ [d]])) else .bad := by
  simp only [pMeth, get_end]
  congr 2
  simp
theorem app_end2 {m l : List D} {d : D} : pMeth (hd :: (t ++ [m, l])) .append (.ref (t.length + 1 + 1)) [d] = if l.length < 100000 then .ok .non (hd :: (t ++ [m, l ++ [d]])) else .bad := by
  have e : (hd :: (t ++ [m, l]))[t.length + 1 + 1]? = some l := by simp
  simp only [pMeth, e]
  congr 2
  simp
theorem grown (a b c y : Rat) [Bq 10 a] [Bq 10 b] [Bq 10 c] [Bq 10 y] (s : Store) : run PP 38 515 [.tup [fr a, fr b, fr c], fr y] s = .ok (.tup [fr (a * y), fr (b * y), fr (c * (y * y))]) s := by
  have t1 : run PP 37 514 [fr a, fr y] s = .ok (fr (a * y)) s := run_ltimes3 (Q _) a y (by decide) (by decide) 35
  have t2 : run PP 37 514 [fr b, fr y] s = .ok (fr (b * y)) s := run_ltimes3 (Q _) b y (by decide) (by decide) 35
  have t3 : run PP 37 514 [fr y, fr y] s = .ok (fr (y * y)) s := run_ltimes3 (Q _) y y (by decide) (by decide) 35
  have t4 : run PP 37 514 [fr c, fr (y * y)] s = .ok (fr (c * (y * y))) s := run_ltimes3 (Q _) c (y * y) (by decide) (by decide) 35
  rw [has_run (n := 37) (F := Pl.F__law_grown) (Q Pl.Q__law_grown) (by decide) rfl]
  simp only [Pl.F__law_grown, Pl.B__law_grown, runFn, evSs, ev_var, ev_int, ev_bl, ev_non, ev_str, ev_glob, ev_bin, ev_neg, ev_not, ev_and, ev_or, ev_cmp, ev_chain, ev_isn, ev_isb, ev_ite, ev_tup, ev_lst, ev_idx, ev_slice, ev_call, ev_blt, ev_inst, ev_meth, ev_comp, evL_nil, evL_cons, evAnd_1, evOr_1, evAnd_cons, evOr_cons, evS_set, evS_par, evS_unp, evS_sub, evS_subs, evS_aug, evS_ex, evS_ret, evS_ite, evS_whl, evS_for, evS_brk, evS_pass, itE, pIter, srcOf, chk_nil, compEnd, evAnd1, evSub, evLT, evSubs, R.bind, R.thn, RS.turn, PR.fin, asB, kRef, kNeg, kNot, kIsn, kIsb, kTup, kInst, kSet, kPar, kPut, kAug, kSubs, isNon_non, isNon_bl, isNon_int, isNon_str, isNon_tup, isNon_lst, isNon_klst, isNon_ref, isT_non_int, isT_non_bool, isT_non_tuple, isT_non_list, isT_non_str, isT_non_tuple_list, isT_non_list_tuple, isT_bl_int, isT_bl_bool, isT_bl_tuple, isT_bl_list, isT_bl_str, isT_bl_tuple_list, isT_bl_list_tuple, isT_int_int, isT_int_bool, isT_int_tuple, isT_int_list, isT_int_str, isT_int_tuple_list, isT_int_list_tuple, isT_str_int, isT_str_bool, isT_str_tuple, isT_str_list, isT_str_str, isT_str_tuple_list, isT_str_list_tuple, isT_tup_int, isT_tup_bool, isT_tup_tuple, isT_tup_list, isT_tup_str, isT_tup_tuple_list, isT_tup_list_tuple, isT_lst_int, isT_lst_bool, isT_lst_tuple, isT_lst_list, isT_lst_str, isT_lst_tuple_list, isT_lst_list_tuple, isT_klst_int, isT_klst_bool, isT_klst_tuple, isT_klst_list, isT_klst_str, isT_klst_tuple_list, isT_klst_list_tuple, isT_ref_int, isT_ref_bool, isT_ref_tuple, isT_ref_list, isT_ref_str, isT_ref_tuple_list, isT_ref_list_tuple, cmp_eqI, cmp_neI, cmp_ltI, cmp_leI, cmp_gtI, cmp_geI, cmp_eqB, cmp_neB, idx_hand0, set_hand0, idx_hand1, set_hand1, idx_hand2, set_hand2, idx_hand3, set_hand3, idx_hand4, set_hand4, pBin, idx_tup0, idx_tup1, idx_tup2, idx_tup3, idx_tup4, idx_tup5, idx_tup6, idx_tup7, Int.cast_ofNat_Int, blt_abs, blt_int, blt_intB, blt_len_tup, blt_len_lst, blt_len_klst, blt_tuple_tup, blt_tuple_lst, blt_list_tup, blt_list_lst, blt_sum, blt_all_lst, blt_any_lst, blt_max2, blt_min2, intsD, boolsD, List.length_map, items, place, put, putL, wipe, Tg.names, Tg.namesL, deref, List.map_cons, List.map_nil, List.length_cons, List.length_nil, List.getElem?_cons_zero, List.getElem?_cons_succ, List.getElem?_nil, List.getElem?_append, List.set_cons_zero, List.set_cons_succ, List.set_nil, List.cons_append, List.nil_append, List.append_nil, List.replicate_succ, List.replicate_zero, Nat.sub_self, Nat.add_sub_cancel, Option.map_some, Option.map_none, Option.bind_some, Option.bind_none, Option.some.injEq, if_true, if_false, ite_true, ite_false, Bool.false_eq_true, reduceCtorEq, Nat.reduceSub, Nat.reduceAdd, Nat.reduceLT, Nat.reduceLeDiff, Nat.reduceEqDiff, Nat.reduceMul, Int.reduceLT, Int.reduceLE, Int.reduceEq, Int.reduceNe, Int.reducePow, Int.reduceToNat, Int.reduceNeg, Int.reduceNegSucc, Nat.zero_add, Int.reduceAdd, Int.reduceSub, Int.reduceMul, not_true_eq_false, not_false_eq_true, Nat.lt_irrefl, Nat.zero_le, Nat.zero_lt_succ, Nat.succ_sub_succ_eq_sub, Nat.reduceSucc, bne_tt, bne_tf, bne_ft, Bool.not_true, Bool.not_false, Bool.true_and, Bool.false_and, Bool.and_true, Bool.and_false, Bool.or_true, Bool.or_false, Bool.true_or, Bool.false_or, bne_self_eq_false, beq_self_eq_true, t1, t2, t3, t4]
theorem lthree (a b c : Rat) [Bq 30 a] [Bq 30 b] [Bq 30 c] (s : Store) : run PP 38 517 [.tup [fr a, fr b, fr c]] s = .ok (.bl (decide (a * a - 2 * (a * b) = c))) s := by
  have t1 : run PP 37 514 [fr 2, fr b] s = .ok (fr (2 * b)) s := run_ltimes3 (Q _) 2 b (by decide) (by decide) 35
  have t2 : run PP 37 516 [fr a, fr (2 * b)] s = .ok (fr (a - 2 * b)) s := run_lless2 (Q _) a (2 * b) (by decide) (by decide) 35
  have t3 : run PP 37 514 [fr a, fr (a - 2 * b)] s = .ok (fr (a * (a - 2 * b))) s := run_ltimes3 (Q _) a (a - 2 * b) (by decide) (by decide) 35
  have lit : D.tup [.int 2, .int 1] = fr 2 := rfl
  have e : a * (a - 2 * b) = a * a - 2 * (a * b) := by grind
  rw [has_run (n := 37) (F := Pl.F__law_three_v3) (Q Pl.Q__law_three_v3) (by decide) rfl]
  simp only [Pl.F__law_three_v3, Pl.B__law_three_v3, runFn, evSs, ev_var, ev_int, ev_bl, ev_non, ev_str, ev_glob, ev_bin, ev_neg, ev_not, ev_and, ev_or, ev_cmp, ev_chain, ev_isn, ev_isb, ev_ite, ev_tup, ev_lst, ev_idx, ev_slice, ev_call, ev_blt, ev_inst, ev_meth, ev_comp, evL_nil, evL_cons, evAnd_1, evOr_1, evAnd_cons, evOr_cons, evS_set, evS_par, evS_unp, evS_sub, evS_subs, evS_aug, evS_ex, evS_ret, evS_ite, evS_whl, evS_for, evS_brk, evS_pass, itE, pIter, srcOf, chk_nil, compEnd, evAnd1, evSub, evLT, evSubs, R.bind, R.thn, RS.turn, PR.fin, asB, kRef, kNeg, kNot, kIsn, kIsb, kTup, kInst, kSet, kPar, kPut, kAug, kSubs, isNon_non, isNon_bl, isNon_int, isNon_str, isNon_tup, isNon_lst, isNon_klst, isNon_ref, isT_non_int, isT_non_bool, isT_non_tuple, isT_non_list, isT_non_str, isT_non_tuple_list, isT_non_list_tuple, isT_bl_int, isT_bl_bool, isT_bl_tuple, isT_bl_list, isT_bl_str, isT_bl_tuple_list, isT_bl_list_tuple, isT_int_int, isT_int_bool, isT_int_tuple, isT_int_list, isT_int_str, isT_int_tuple_list, isT_int_list_tuple, isT_str_int, isT_str_bool, isT_str_tuple, isT_str_list, isT_str_str, isT_str_tuple_list, isT_str_list_tuple, isT_tup_int, isT_tup_bool, isT_tup_tuple, isT_tup_list, isT_tup_str, isT_tup_tuple_list, isT_tup_list_tuple, isT_lst_int, isT_lst_bool, isT_lst_tuple, isT_lst_list, isT_lst_str, isT_lst_tuple_list, isT_lst_list_tuple, isT_klst_int, isT_klst_bool, isT_klst_tuple, isT_klst_list, isT_klst_str, isT_klst_tuple_list, isT_klst_list_tuple, isT_ref_int, isT_ref_bool, isT_ref_tuple, isT_ref_list, isT_ref_str, isT_ref_tuple_list, isT_ref_list_tuple, cmp_eqI, cmp_neI, cmp_ltI, cmp_leI, cmp_gtI, cmp_geI, cmp_eqB, cmp_neB, idx_hand0, set_hand0, idx_hand1, set_hand1, idx_hand2, set_hand2, idx_hand3, set_hand3, idx_hand4, set_hand4, pBin, idx_tup0, idx_tup1, idx_tup2, idx_tup3, idx_tup4, idx_tup5, idx_tup6, idx_tup7, Int.cast_ofNat_Int, blt_abs, blt_int, blt_intB, blt_len_tup, blt_len_lst, blt_len_klst, blt_tuple_tup, blt_tuple_lst, blt_list_tup, blt_list_lst, blt_sum, blt_all_lst, blt_any_lst, blt_max2, blt_min2, intsD, boolsD, List.length_map, items, place, put, putL, wipe, Tg.names, Tg.namesL, deref, List.map_cons, List.map_nil, List.length_cons, List.length_nil, List.getElem?_cons_zero, List.getElem?_cons_succ, List.getElem?_nil, List.getElem?_append, List.set_cons_zero, List.set_cons_succ, List.set_nil, List.cons_append, List.nil_append, List.append_nil, List.replicate_succ, List.replicate_zero, Nat.sub_self, Nat.add_sub_cancel, Option.map_some, Option.map_none, Option.bind_some, Option.bind_none, Option.some.injEq, if_true, if_false, ite_true, ite_false, Bool.false_eq_true, reduceCtorEq, Nat.reduceSub, Nat.reduceAdd, Nat.reduceLT, Nat.reduceLeDiff, Nat.reduceEqDiff, Nat.reduceMul, Int.reduceLT, Int.reduceLE, Int.reduceEq, Int.reduceNe, Int.reducePow, Int.reduceToNat, Int.reduceNeg, Int.reduceNegSucc, Nat.zero_add, Int.reduceAdd, Int.reduceSub, Int.reduceMul, not_true_eq_false, not_false_eq_true, Nat.lt_irrefl, Nat.zero_le, Nat.zero_lt_succ, Nat.succ_sub_succ_eq_sub, Nat.reduceSucc, bne_tt, bne_tf, bne_ft, Bool.not_true, Bool.not_false, Bool.true_and, Bool.false_and, Bool.and_true, Bool.and_false, Bool.or_true, Bool.or_false, Bool.true_or, Bool.false_or, bne_self_eq_false, beq_self_eq_true, lit, t1, t2, t3, cmp_eqF, e]
theorem lfour (a b c : Rat) [Bq 30 a] [Bq 30 b] [Bq 30 c] (s : Store) : run PP 38 519 [.tup [fr a, fr b, fr c]] s = .ok (.bl (decide (2 * (b * b * (a * a + c)) = (a * a - c) * (a * a - c)))) s := by
  have t1 : run PP 37 514 [fr a, fr a] s = .ok (fr (a * a)) s := run_ltimes3 (Q _) a a (by decide) (by decide) 35
  have t2 : run PP 37 514 [fr b, fr b] s = .ok (fr (b * b)) s := run_ltimes3 (Q _) b b (by decide) (by decide) 35
  have t3 : run PP 37 514 [fr 2, fr (b * b)] s = .ok (fr (2 * (b * b))) s := run_ltimes3 (Q _) 2 (b * b) (by decide) (by decide) 35
  have t4 : run PP 37 518 [fr (a * a), fr c] s = .ok (fr (a * a + c)) s := run_lplus2 (Q _) (a * a) c (by decide) (by decide) 35
  have t5 : run PP 37 514 [fr (2 * (b * b)), fr (a * a + c)] s = .ok (fr (2 * (b * b) * (a * a + c))) s := run_ltimes3 (Q _) (2 * (b * b)) (a * a + c) (by decide) (by decide) 35
  have t6 : run PP 37 516 [fr (a * a), fr c] s = .ok (fr (a * a - c)) s := run_lless2 (Q _) (a * a) c (by decide) (by decide) 35
  have t7 : run PP 37 514 [fr (a * a - c), fr (a * a - c)] s = .ok (fr ((a * a - c) * (a * a - c))) s := run_ltimes3 (Q _) (a * a - c) (a * a - c) (by decide) (by decide) 35
  have lit : D.tup [.int 2, .int 1] = fr 2 := rfl
  have e : 2 * (b * b) * (a * a + c) = 2 * (b * b * (a * a + c)) := by grind
  rw [has_run (n := 37) (F := Pl.F__law_four_v3) (Q Pl.Q__law_four_v3) (by decide) rfl]
  simp only [Pl.F__law_four_v3, Pl.B__law_four_v3, runFn, evSs, ev_var, ev_int, ev_bl, ev_non, ev_str, ev_glob, ev_bin, ev_neg, ev_not, ev_and, ev_or, ev_cmp, ev_chain, ev_isn, ev_isb, ev_ite, ev_tup, ev_lst, ev_idx, ev_slice, ev_call, ev_blt, ev_inst, ev_meth, ev_comp, evL_nil, evL_cons, evAnd_1, evOr_1, evAnd_cons, evOr_cons, evS_set, evS_par, evS_unp, evS_sub, evS_subs, evS_aug, evS_ex, evS_ret, evS_ite, evS_whl, evS_for, evS_brk, evS_pass, itE, pIter, srcOf, chk_nil, compEnd, evAnd1, evSub, evLT, evSubs, R.bind, R.thn, RS.turn, PR.fin, asB, kRef, kNeg, kNot, kIsn, kIsb, kTup, kInst, kSet, kPar, kPut, kAug, kSubs, isNon_non, isNon_bl, isNon_int, isNon_str, isNon_tup, isNon_lst, isNon_klst, isNon_ref, isT_non_int, isT_non_bool, isT_non_tuple, isT_non_list, isT_non_str, isT_non_tuple_list, isT_non_list_tuple, isT_bl_int, isT_bl_bool, isT_bl_tuple, isT_bl_list, isT_bl_str, isT_bl_tuple_list, isT_bl_list_tuple, isT_int_int, isT_int_bool, isT_int_tuple, isT_int_list, isT_int_str, isT_int_tuple_list, isT_int_list_tuple, isT_str_int, isT_str_bool, isT_str_tuple, isT_str_list, isT_str_str, isT_str_tuple_list, isT_str_list_tuple, isT_tup_int, isT_tup_bool, isT_tup_tuple, isT_tup_list, isT_tup_str, isT_tup_tuple_list, isT_tup_list_tuple, isT_lst_int, isT_lst_bool, isT_lst_tuple, isT_lst_list, isT_lst_str, isT_lst_tuple_list, isT_lst_list_tuple, isT_klst_int, isT_klst_bool, isT_klst_tuple, isT_klst_list, isT_klst_str, isT_klst_tuple_list, isT_klst_list_tuple, isT_ref_int, isT_ref_bool, isT_ref_tuple, isT_ref_list, isT_ref_str, isT_ref_tuple_list, isT_ref_list_tuple, cmp_eqI, cmp_neI, cmp_ltI, cmp_leI, cmp_gtI, cmp_geI, cmp_eqB, cmp_neB, idx_hand0, set_hand0, idx_hand1, set_hand1, idx_hand2, set_hand2, idx_hand3, set_hand3, idx_hand4, set_hand4, pBin, idx_tup0, idx_tup1, idx_tup2, idx_tup3, idx_tup4, idx_tup5, idx_tup6, idx_tup7, Int.cast_ofNat_Int, blt_abs, blt_int, blt_intB, blt_len_tup, blt_len_lst, blt_len_klst, blt_tuple_tup, blt_tuple_lst, blt_list_tup, blt_list_lst, blt_sum, blt_all_lst, blt_any_lst, blt_max2, blt_min2, intsD, boolsD, List.length_map, items, place, put, putL, wipe, Tg.names, Tg.namesL, deref, List.map_cons, List.map_nil, List.length_cons, List.length_nil, List.getElem?_cons_zero, List.getElem?_cons_succ, List.getElem?_nil, List.getElem?_append, List.set_cons_zero, List.set_cons_succ, List.set_nil, List.cons_append, List.nil_append, List.append_nil, List.replicate_succ, List.replicate_zero, Nat.sub_self, Nat.add_sub_cancel, Option.map_some, Option.map_none, Option.bind_some, Option.bind_none, Option.some.injEq, if_true, if_false, ite_true, ite_false, Bool.false_eq_true, reduceCtorEq, Nat.reduceSub, Nat.reduceAdd, Nat.reduceLT, Nat.reduceLeDiff, Nat.reduceEqDiff, Nat.reduceMul, Int.reduceLT, Int.reduceLE, Int.reduceEq, Int.reduceNe, Int.reducePow, Int.reduceToNat, Int.reduceNeg, Int.reduceNegSucc, Nat.zero_add, Int.reduceAdd, Int.reduceSub, Int.reduceMul, not_true_eq_false, not_false_eq_true, Nat.lt_irrefl, Nat.zero_le, Nat.zero_lt_succ, Nat.succ_sub_succ_eq_sub, Nat.reduceSucc, bne_tt, bne_tf, bne_ft, Bool.not_true, Bool.not_false, Bool.true_and, Bool.false_and, Bool.and_true, Bool.and_false, Bool.or_true, Bool.or_false, Bool.true_or, Bool.false_or, bne_self_eq_false, beq_self_eq_true, lit, t1, t2, t3, t4, t5, t6, t7, cmp_eqF, e]
/-- what a list of threes is made of -/
theorem of_three {x : D} (h : x ∈ [D.tup [.tup [.int 5, .int 1], .tup [.int 2, .int 1], .tup [.int 5, .int 1]], .tup [.tup [.int 2, .int 1], .tup [.int 1, .int 1], .tup [.int 0, .int 1]], .tup [.tup [.int 9, .int 1], .tup [.int 4, .int 1], .tup [.int 9, .int 1]]]) :
    ∃ a b c : Rat, x = .tup [fr a, fr b, fr c] ∧ a * a - 2 * (a * b) = c ∧ Bq 10 a ∧ Bq 10 b ∧ Bq 10 c := by
  simp only [List.mem_cons, List.not_mem_nil, or_false] at h
  rcases h with rfl | rfl | rfl
  · exact ⟨5, 2, 5, rfl, by decide +kernel, ⟨by decide, by decide⟩, ⟨by decide, by decide⟩, ⟨by decide, by decide⟩⟩
  · exact ⟨2, 1, 0, rfl, by decide +kernel, ⟨by decide, by decide⟩, ⟨by decide, by decide⟩, ⟨by decide, by decide⟩⟩
  · exact ⟨9, 4, 9, rfl, by decide +kernel, ⟨by decide, by decide⟩, ⟨by decide, by decide⟩, ⟨by decide, by decide⟩⟩
theorem of_four {x : D} (h : x ∈ [D.tup [.tup [.int 12, .int 1], .tup [.int 7, .int 1], .tup [.int 18, .int 1]], .tup [.tup [.int 20, .int 1], .tup [.int 9, .int 1], .tup [.int 112, .int 1]]]) :
    ∃ a b c : Rat, x = .tup [fr a, fr b, fr c] ∧ 2 * (b * b * (a * a + c)) = (a * a - c) * (a * a - c) ∧ Bq 10 a ∧ Bq 10 b ∧ Bq 10 c := by
  simp only [List.mem_cons, List.not_mem_nil, or_false] at h
  rcases h with rfl | rfl
  · exact ⟨12, 7, 18, rfl, by decide +kernel, ⟨by decide, by decide⟩, ⟨by decide, by decide⟩, ⟨by decide, by decide⟩⟩
  · exact ⟨20, 9, 112, rfl, by decide +kernel, ⟨by decide, by decide⟩, ⟨by decide, by decide⟩, ⟨by decide, by decide⟩⟩
theorem bd {a b : Int} {k : Nat} (ha : a.natAbs < 2 ^ k) (hb : b ≠ 0) (hb2 : b.natAbs < 2 ^ k) : Bq k (Rat.divInt a b) := (Bq.divInt hb ⟨ha⟩ ⟨hb2⟩).mono (by omega)
theorem low (a b : Int) (hb : b ≠ 0) (hb2 : b.natAbs < 2 ^ 20) (s : Store) : run PP 38 513 [.int a, .int b] s = .ok (fr (Rat.divInt a b)) s := run_llow4 (Q _) a b hb (dmax_of hb2 (by decide)) (n := 37)
theorem one_over (m : Int) (hm : 0 < m) : D.tup [.int 1, .int m] = fr (Rat.divInt 1 m) := by
  unfold fr
  rw [Rat.num_divInt, Rat.den_divInt, if_neg (by omega), Int.sign_eq_one_of_pos hm]
  have g : Int.gcd m 1 = 1 := by simp [Int.gcd]
  rw [g]
  simp
  omega
theorem end2 {l : List D} : (hd :: (t ++ [l])) = hd :: t ++ [l] := rfl
theorem closing (hh : IsHand hd) : ∃ (hd' : List D) (t' : Store), IsHand hd' ∧ run PP 39 520 [.ref 0] (hd :: t) = .ok (.bl true) (hd' :: t') := by
  obtain ⟨d1, h1, a1, b1, hh1, e1⟩ := draw (t := t) hh (many := 6) (by decide) (by decide)
  obtain ⟨d2, h2, a2, b2, hh2, e2⟩ := draw (t := t) hh1 (many := 3) (by decide) (by decide)
  obtain ⟨x3, h3, m3, hh3, e3⟩ := any_ (t := t) hh2 (xs := [D.tup [.tup [.int 5, .int 1], .tup [.int 2, .int 1], .tup [.int 5, .int 1]], .tup [.tup [.int 2, .int 1], .tup [.int 1, .int 1], .tup [.int 0, .int 1]], .tup [.tup [.int 9, .int 1], .tup [.int 4, .int 1], .tup [.int 9, .int 1]]]) (by simp) (by simp)
  obtain ⟨x4, h4, m4, hh4, e4⟩ := any_ (t := t) hh3 (xs := [D.tup [.tup [.int 12, .int 1], .tup [.int 7, .int 1], .tup [.int 18, .int 1]], .tup [.tup [.int 20, .int 1], .tup [.int 9, .int 1], .tup [.int 112, .int 1]]]) (by simp) (by simp)
  obtain ⟨a, b, c, rfl, habc, ba, bb, bc⟩ := of_three m3
  obtain ⟨u, v, w, rfl, huvw, bu, bv, bw⟩ := of_four m4
  have lby := fun s => low (1 + d1) (1 + d2) (by omega) (by omega) s
  have bby : Bq 10 (Rat.divInt (1 + d1) (1 + d2)) := bd (by omega) (by omega) (by omega)
  generalize Rat.divInt (1 + d1) (1 + d2) = y at lby bby
  have g1 := fun s => grown a b c y s
  have g2 := fun s => grown u v w y s
  have T1 : ∀ s, run PP 38 511 [fr a, fr b, fr c] s = .ok (.bl true) s := fun s => by
    have z : run PP 38 511 [fr a, fr b, fr c] s = _ := three_eq (P := PP) (s := s) (Q _) (n := 34) a b c (by decide) (by decide)
    rw [z, decide_eq_true habc]
  have T2 : ∀ s, run PP 38 511 [fr (a * y), fr (b * y), fr (c * (y * y))] s = .ok (.bl true) s := fun s => by
    have z : run PP 38 511 [fr (a * y), fr (b * y), fr (c * (y * y))] s = _ := three_eq (P := PP) (s := s) (Q _) (n := 34) (a * y) (b * y) (c * (y * y)) (by decide) (by decide)
    rw [z, decide_eq_true (by rw [← habc]; grind)]
  have F1 : ∀ s, run PP 38 512 [fr u, fr v, fr w] s = .ok (.bl true) s := fun s => by
    have z : run PP 38 512 [fr u, fr v, fr w] s = _ := four_eq (P := PP) (s := s) (Q _) (n := 34) u v w (by decide) (by decide) (by decide)
    rw [z, decide_eq_true huvw]
  have F2 : ∀ s, run PP 38 512 [fr (u * y), fr (v * y), fr (w * (y * y))] s = .ok (.bl true) s := fun s => by
    have z : run PP 38 512 [fr (u * y), fr (v * y), fr (w * (y * y))] s = _ := four_eq (P := PP) (s := s) (Q _) (n := 34) (u * y) (v * y) (w * (y * y)) (by decide) (by decide) (by decide)
    rw [z, decide_eq_true (by
      have e1 : 2 * (v * y * (v * y) * (u * y * (u * y) + w * (y * y))) = (2 * (v * v * (u * u + w))) * (y * y * (y * y)) := by grind
      have e2 : (u * y * (u * y) - w * (y * y)) * (u * y * (u * y) - w * (y * y)) = ((u * u - w) * (u * u - w)) * (y * y * (y * y)) := by grind
      rw [e1, e2, huvw])]
  -- the second half's draws, behind a list at the end
  obtain ⟨d5, h5, a5, b5, hh5, e5⟩ := draw (t := t ++ [[.bl true, .bl true, .bl true, .bl true]]) hh4 (many := 9) (by decide) (by decide)
  obtain ⟨d6, h6, a6, b6, hh6, e6⟩ := draw (t := t ++ [[.bl true, .bl true, .bl true, .bl true]]) hh5 (many := 2) (by decide) (by decide)
  obtain ⟨d7, h7, a7, b7, hh7, e7⟩ := draw (t := t ++ [[.bl true, .bl true, .bl true, .bl true]]) hh6 (many := 3) (by decide) (by decide)
  obtain ⟨d8, h8, a8, b8, hh8, e8⟩ := draw (t := t ++ [[.bl true, .bl true, .bl true, .bl true]]) hh7 (many := 9) (by decide) (by decide)
  have lw := fun s => low (3 + d5) (1 + d6) (by omega) (by omega) s
  have bwi : Bq 10 (Rat.divInt (3 + d5) (1 + d6)) := bd (by omega) (by omega) (by omega)
  generalize Rat.divInt (3 + d5) (1 + d6) = wi at lw bwi
  have o7 := one_over (2 + d7) (by omega)
  have b7' : Bq 10 (Rat.divInt 1 (2 + d7)) := bd (by omega) (by omega) (by omega)
  generalize Rat.divInt 1 (2 + d7) = q7 at o7 b7'
  have l8 := fun s => low d8 9 (by omega) (by omega) s
  have b8' : Bq 10 (Rat.divInt d8 9) := bd (by omega) (by omega) (by omega)
  generalize Rat.divInt d8 9 = q8 at l8 b8'
  have b8'' : Bq 30 q8 := b8'.mono (by decide)
  have bwq : Bq 30 (wi * q7) := (inferInstance : Bq (10 + 10) (wi * q7)).mono (by decide)
  have tw : ∀ s, run PP 38 514 [fr wi, fr q7] s = .ok (fr (wi * q7)) s := fun s => run_ltimes3 (Q _) wi q7 (by decide) (by decide) 36
  have bwi' : Bq 30 wi := bwi.mono (by decide)
  have T3 : ∀ s, run PP 38 511 [fr wi, fr (wi * q7), fr q8] s = .ok (.bl (decide (wi * wi - 2 * (wi * (wi * q7)) = q8))) s := fun s => three_eq (P := PP) (s := s) (Q _) (n := 34) wi (wi * q7) q8 (by decide) (by decide)
  have F3 : ∀ s, run PP 38 512 [fr wi, fr (wi * q7), fr q8] s = .ok (.bl (decide (2 * ((wi * q7) * (wi * q7) * (wi * wi + q8)) = (wi * wi - q8) * (wi * wi - q8)))) s := fun s => four_eq (P := PP) (s := s) (Q _) (n := 34) wi (wi * q7) q8 (by decide) (by decide) (by decide)
  have L3 := fun s => lthree wi (wi * q7) q8 s
  have L4 := fun s => lfour wi (wi * q7) q8 s
  generalize decide (wi * wi - 2 * (wi * (wi * q7)) = q8) = p1 at T3 L3
  generalize decide (2 * ((wi * q7) * (wi * q7) * (wi * wi + q8)) = (wi * wi - q8) * (wi * wi - q8)) = p2 at F3 L4
  have I1 : run PP 38 504 [.ref (t.length + 1), .lst [.bl true, .bl true, .bl true, .bl true]] (h4 :: (t ++ [[D.bl true, D.bl true, D.bl true, D.bl true]])) = .ok (.bl true) (h4 :: (t ++ [[D.bl true, D.bl true, D.bl true, D.bl true]])) :=
    run_is3R (n := 35) (k := 1) (Q _) get_end (by simp) (by decide)
  have I2 : run PP 38 504 [.ref ((t ++ [[D.bl true, D.bl true, D.bl true, D.bl true]]).length + 1), .lst [.bl p1, .bl p2]] (h8 :: (t ++ [[D.bl true, D.bl true, D.bl true, D.bl true]] ++ [[D.bl p1, D.bl p2]])) = .ok (.bl true) (h8 :: (t ++ [[D.bl true, D.bl true, D.bl true, D.bl true]] ++ [[D.bl p1, D.bl p2]])) :=
    run_is3R (n := 35) (k := 1) (Q _) (get_end (t := t ++ [[D.bl true, D.bl true, D.bl true, D.bl true]])) (by simp) rfl
  have rep : (List.replicate (4 : Int).toNat [D.bl true]).flatten = [.bl true, .bl true, .bl true, .bl true] := rfl
  have c1 : ((4 : Int) < 10000 ∧ (-10000 : Int) < 4 ∧ 1 < 1000) := by decide
  refine ⟨h8, t ++ [[D.bl true, D.bl true, D.bl true, D.bl true]] ++ [[D.bl p1, D.bl p2]], hh8, ?_⟩
  rw [has_run (n := 38) (F := Pl.F__law_closing_right) (Q Pl.Q__law_closing_right) (by decide) rfl]
  refine runFn_rt rfl ⟨?rho, ?main⟩
  rotate_left
  show evSs _ _ Pl.B__law_closing_right [some (.ref 0), none, none, none, none, none, none, none] _ = _
  unfold Pl.B__law_closing_right
  refine' (evSs_step ?e_1).trans ?m_1
  case' e_1 => (simp only [runFn, evSs, ev_var, ev_int, ev_bl, ev_non, ev_str, ev_glob, ev_bin, ev_neg, ev_not, ev_and, ev_or, ev_cmp, ev_chain, ev_isn, ev_isb, ev_ite, ev_tup, ev_lst, ev_idx, ev_slice, ev_call, ev_blt, ev_inst, ev_meth, ev_comp, evL_nil, evL_cons, evAnd_1, evOr_1, evAnd_cons, evOr_cons, evS_set, evS_par, evS_unp, evS_sub, evS_subs, evS_aug, evS_ex, evS_ret, evS_ite, evS_whl, evS_for, evS_brk, evS_pass, itE, pIter, srcOf, chk_nil, compEnd, evAnd1, evSub, evLT, evSubs, R.bind, R.thn, RS.turn, PR.fin, asB, kRef, kNeg, kNot, kIsn, kIsb, kTup, kInst, kSet, kPar, kPut, kAug, kSubs, isNon_non, isNon_bl, isNon_int, isNon_str, isNon_tup, isNon_lst, isNon_klst, isNon_ref, isT_non_int, isT_non_bool, isT_non_tuple, isT_non_list, isT_non_str, isT_non_tuple_list, isT_non_list_tuple, isT_bl_int, isT_bl_bool, isT_bl_tuple, isT_bl_list, isT_bl_str, isT_bl_tuple_list, isT_bl_list_tuple, isT_int_int, isT_int_bool, isT_int_tuple, isT_int_list, isT_int_str, isT_int_tuple_list, isT_int_list_tuple, isT_str_int, isT_str_bool, isT_str_tuple, isT_str_list, isT_str_str, isT_str_tuple_list, isT_str_list_tuple, isT_tup_int, isT_tup_bool, isT_tup_tuple, isT_tup_list, isT_tup_str, isT_tup_tuple_list, isT_tup_list_tuple, isT_lst_int, isT_lst_bool, isT_lst_tuple, isT_lst_list, isT_lst_str, isT_lst_tuple_list, isT_lst_list_tuple, isT_klst_int, isT_klst_bool, isT_klst_tuple, isT_klst_list, isT_klst_str, isT_klst_tuple_list, isT_klst_list_tuple, isT_ref_int, isT_ref_bool, isT_ref_tuple, isT_ref_list, isT_ref_str, isT_ref_tuple_list, isT_ref_list_tuple, cmp_eqI, cmp_neI, cmp_ltI, cmp_leI, cmp_gtI, cmp_geI, cmp_eqB, cmp_neB, idx_hand0, set_hand0, idx_hand1, set_hand1, idx_hand2, set_hand2, idx_hand3, set_hand3, idx_hand4, set_hand4, pBin, idx_tup0, idx_tup1, idx_tup2, idx_tup3, idx_tup4, idx_tup5, idx_tup6, idx_tup7, Int.cast_ofNat_Int, blt_abs, blt_int, blt_intB, blt_len_tup, blt_len_lst, blt_len_klst, blt_tuple_tup, blt_tuple_lst, blt_list_tup, blt_list_lst, blt_sum, blt_all_lst, blt_any_lst, blt_max2, blt_min2, intsD, boolsD, List.length_map, items, place, put, putL, wipe, Tg.names, Tg.namesL, deref, List.map_cons, List.map_nil, List.length_cons, List.length_nil, List.getElem?_cons_zero, List.getElem?_cons_succ, List.getElem?_nil, List.getElem?_append, List.set_cons_zero, List.set_cons_succ, List.set_nil, List.cons_append, List.nil_append, List.append_nil, List.replicate_succ, List.replicate_zero, Nat.sub_self, Nat.add_sub_cancel, Option.map_some, Option.map_none, Option.bind_some, Option.bind_none, Option.some.injEq, if_true, if_false, ite_true, ite_false, Bool.false_eq_true, reduceCtorEq, Nat.reduceSub, Nat.reduceAdd, Nat.reduceLT, Nat.reduceLeDiff, Nat.reduceEqDiff, Nat.reduceMul, Int.reduceLT, Int.reduceLE, Int.reduceEq, Int.reduceNe, Int.reducePow, Int.reduceToNat, Int.reduceNeg, Int.reduceNegSucc, Nat.zero_add, Int.reduceAdd, Int.reduceSub, Int.reduceMul, not_true_eq_false, not_false_eq_true, Nat.lt_irrefl, Nat.zero_le, Nat.zero_lt_succ, Nat.succ_sub_succ_eq_sub, Nat.reduceSucc, bne_tt, bne_tf, bne_ft, Bool.not_true, Bool.not_false, Bool.true_and, Bool.false_and, Bool.and_true, Bool.and_false, Bool.or_true, Bool.or_false, Bool.true_or, Bool.false_or, bne_self_eq_false, beq_self_eq_true, e1, e2, lby] <;> rfl)
  case' m_1 => skip
  refine' (evSs_step ?e_2).trans ?m_2
  case' e_2 => (simp only [runFn, evSs, ev_var, ev_int, ev_bl, ev_non, ev_str, ev_glob, ev_bin, ev_neg, ev_not, ev_and, ev_or, ev_cmp, ev_chain, ev_isn, ev_isb, ev_ite, ev_tup, ev_lst, ev_idx, ev_slice, ev_call, ev_blt, ev_inst, ev_meth, ev_comp, evL_nil, evL_cons, evAnd_1, evOr_1, evAnd_cons, evOr_cons, evS_set, evS_par, evS_unp, evS_sub, evS_subs, evS_aug, evS_ex, evS_ret, evS_ite, evS_whl, evS_for, evS_brk, evS_pass, itE, pIter, srcOf, chk_nil, compEnd, evAnd1, evSub, evLT, evSubs, R.bind, R.thn, RS.turn, PR.fin, asB, kRef, kNeg, kNot, kIsn, kIsb, kTup, kInst, kSet, kPar, kPut, kAug, kSubs, isNon_non, isNon_bl, isNon_int, isNon_str, isNon_tup, isNon_lst, isNon_klst, isNon_ref, isT_non_int, isT_non_bool, isT_non_tuple, isT_non_list, isT_non_str, isT_non_tuple_list, isT_non_list_tuple, isT_bl_int, isT_bl_bool, isT_bl_tuple, isT_bl_list, isT_bl_str, isT_bl_tuple_list, isT_bl_list_tuple, isT_int_int, isT_int_bool, isT_int_tuple, isT_int_list, isT_int_str, isT_int_tuple_list, isT_int_list_tuple, isT_str_int, isT_str_bool, isT_str_tuple, isT_str_list, isT_str_str, isT_str_tuple_list, isT_str_list_tuple, isT_tup_int, isT_tup_bool, isT_tup_tuple, isT_tup_list, isT_tup_str, isT_tup_tuple_list, isT_tup_list_tuple, isT_lst_int, isT_lst_bool, isT_lst_tuple, isT_lst_list, isT_lst_str, isT_lst_tuple_list, isT_lst_list_tuple, isT_klst_int, isT_klst_bool, isT_klst_tuple, isT_klst_list, isT_klst_str, isT_klst_tuple_list, isT_klst_list_tuple, isT_ref_int, isT_ref_bool, isT_ref_tuple, isT_ref_list, isT_ref_str, isT_ref_tuple_list, isT_ref_list_tuple, cmp_eqI, cmp_neI, cmp_ltI, cmp_leI, cmp_gtI, cmp_geI, cmp_eqB, cmp_neB, idx_hand0, set_hand0, idx_hand1, set_hand1, idx_hand2, set_hand2, idx_hand3, set_hand3, idx_hand4, set_hand4, pBin, idx_tup0, idx_tup1, idx_tup2, idx_tup3, idx_tup4, idx_tup5, idx_tup6, idx_tup7, Int.cast_ofNat_Int, blt_abs, blt_int, blt_intB, blt_len_tup, blt_len_lst, blt_len_klst, blt_tuple_tup, blt_tuple_lst, blt_list_tup, blt_list_lst, blt_sum, blt_all_lst, blt_any_lst, blt_max2, blt_min2, intsD, boolsD, List.length_map, items, place, put, putL, wipe, Tg.names, Tg.namesL, deref, List.map_cons, List.map_nil, List.length_cons, List.length_nil, List.getElem?_cons_zero, List.getElem?_cons_succ, List.getElem?_nil, List.getElem?_append, List.set_cons_zero, List.set_cons_succ, List.set_nil, List.cons_append, List.nil_append, List.append_nil, List.replicate_succ, List.replicate_zero, Nat.sub_self, Nat.add_sub_cancel, Option.map_some, Option.map_none, Option.bind_some, Option.bind_none, Option.some.injEq, if_true, if_false, ite_true, ite_false, Bool.false_eq_true, reduceCtorEq, Nat.reduceSub, Nat.reduceAdd, Nat.reduceLT, Nat.reduceLeDiff, Nat.reduceEqDiff, Nat.reduceMul, Int.reduceLT, Int.reduceLE, Int.reduceEq, Int.reduceNe, Int.reducePow, Int.reduceToNat, Int.reduceNeg, Int.reduceNegSucc, Nat.zero_add, Int.reduceAdd, Int.reduceSub, Int.reduceMul, not_true_eq_false, not_false_eq_true, Nat.lt_irrefl, Nat.zero_le, Nat.zero_lt_succ, Nat.succ_sub_succ_eq_sub, Nat.reduceSucc, bne_tt, bne_tf, bne_ft, Bool.not_true, Bool.not_false, Bool.true_and, Bool.false_and, Bool.and_true, Bool.and_false, Bool.or_true, Bool.or_false, Bool.true_or, Bool.false_or, bne_self_eq_false, beq_self_eq_true, e3] <;> rfl)
  case' m_2 => skip
  refine' (evSs_step ?e_3).trans ?m_3
  case' e_3 => (simp only [runFn, evSs, ev_var, ev_int, ev_bl, ev_non, ev_str, ev_glob, ev_bin, ev_neg, ev_not, ev_and, ev_or, ev_cmp, ev_chain, ev_isn, ev_isb, ev_ite, ev_tup, ev_lst, ev_idx, ev_slice, ev_call, ev_blt, ev_inst, ev_meth, ev_comp, evL_nil, evL_cons, evAnd_1, evOr_1, evAnd_cons, evOr_cons, evS_set, evS_par, evS_unp, evS_sub, evS_subs, evS_aug, evS_ex, evS_ret, evS_ite, evS_whl, evS_for, evS_brk, evS_pass, itE, pIter, srcOf, chk_nil, compEnd, evAnd1, evSub, evLT, evSubs, R.bind, R.thn, RS.turn, PR.fin, asB, kRef, kNeg, kNot, kIsn, kIsb, kTup, kInst, kSet, kPar, kPut, kAug, kSubs, isNon_non, isNon_bl, isNon_int, isNon_str, isNon_tup, isNon_lst, isNon_klst, isNon_ref, isT_non_int, isT_non_bool, isT_non_tuple, isT_non_list, isT_non_str, isT_non_tuple_list, isT_non_list_tuple, isT_bl_int, isT_bl_bool, isT_bl_tuple, isT_bl_list, isT_bl_str, isT_bl_tuple_list, isT_bl_list_tuple, isT_int_int, isT_int_bool, isT_int_tuple, isT_int_list, isT_int_str, isT_int_tuple_list, isT_int_list_tuple, isT_str_int, isT_str_bool, isT_str_tuple, isT_str_list, isT_str_str, isT_str_tuple_list, isT_str_list_tuple, isT_tup_int, isT_tup_bool, isT_tup_tuple, isT_tup_list, isT_tup_str, isT_tup_tuple_list, isT_tup_list_tuple, isT_lst_int, isT_lst_bool, isT_lst_tuple, isT_lst_list, isT_lst_str, isT_lst_tuple_list, isT_lst_list_tuple, isT_klst_int, isT_klst_bool, isT_klst_tuple, isT_klst_list, isT_klst_str, isT_klst_tuple_list, isT_klst_list_tuple, isT_ref_int, isT_ref_bool, isT_ref_tuple, isT_ref_list, isT_ref_str, isT_ref_tuple_list, isT_ref_list_tuple, cmp_eqI, cmp_neI, cmp_ltI, cmp_leI, cmp_gtI, cmp_geI, cmp_eqB, cmp_neB, idx_hand0, set_hand0, idx_hand1, set_hand1, idx_hand2, set_hand2, idx_hand3, set_hand3, idx_hand4, set_hand4, pBin, idx_tup0, idx_tup1, idx_tup2, idx_tup3, idx_tup4, idx_tup5, idx_tup6, idx_tup7, Int.cast_ofNat_Int, blt_abs, blt_int, blt_intB, blt_len_tup, blt_len_lst, blt_len_klst, blt_tuple_tup, blt_tuple_lst, blt_list_tup, blt_list_lst, blt_sum, blt_all_lst, blt_any_lst, blt_max2, blt_min2, intsD, boolsD, List.length_map, items, place, put, putL, wipe, Tg.names, Tg.namesL, deref, List.map_cons, List.map_nil, List.length_cons, List.length_nil, List.getElem?_cons_zero, List.getElem?_cons_succ, List.getElem?_nil, List.getElem?_append, List.set_cons_zero, List.set_cons_succ, List.set_nil, List.cons_append, List.nil_append, List.append_nil, List.replicate_succ, List.replicate_zero, Nat.sub_self, Nat.add_sub_cancel, Option.map_some, Option.map_none, Option.bind_some, Option.bind_none, Option.some.injEq, if_true, if_false, ite_true, ite_false, Bool.false_eq_true, reduceCtorEq, Nat.reduceSub, Nat.reduceAdd, Nat.reduceLT, Nat.reduceLeDiff, Nat.reduceEqDiff, Nat.reduceMul, Int.reduceLT, Int.reduceLE, Int.reduceEq, Int.reduceNe, Int.reducePow, Int.reduceToNat, Int.reduceNeg, Int.reduceNegSucc, Nat.zero_add, Int.reduceAdd, Int.reduceSub, Int.reduceMul, not_true_eq_false, not_false_eq_true, Nat.lt_irrefl, Nat.zero_le, Nat.zero_lt_succ, Nat.succ_sub_succ_eq_sub, Nat.reduceSucc, bne_tt, bne_tf, bne_ft, Bool.not_true, Bool.not_false, Bool.true_and, Bool.false_and, Bool.and_true, Bool.and_false, Bool.or_true, Bool.or_false, Bool.true_or, Bool.false_or, bne_self_eq_false, beq_self_eq_true, e4] <;> rfl)
  case' m_3 => skip
  refine' (evSs_step ?e_4).trans ?m_4
  case' e_4 => (simp only [runFn, evSs, ev_var, ev_int, ev_bl, ev_non, ev_str, ev_glob, ev_bin, ev_neg, ev_not, ev_and, ev_or, ev_cmp, ev_chain, ev_isn, ev_isb, ev_ite, ev_tup, ev_lst, ev_idx, ev_slice, ev_call, ev_blt, ev_inst, ev_meth, ev_comp, evL_nil, evL_cons, evAnd_1, evOr_1, evAnd_cons, evOr_cons, evS_set, evS_par, evS_unp, evS_sub, evS_subs, evS_aug, evS_ex, evS_ret, evS_ite, evS_whl, evS_for, evS_brk, evS_pass, itE, pIter, srcOf, chk_nil, compEnd, evAnd1, evSub, evLT, evSubs, R.bind, R.thn, RS.turn, PR.fin, asB, kRef, kNeg, kNot, kIsn, kIsb, kTup, kInst, kSet, kPar, kPut, kAug, kSubs, isNon_non, isNon_bl, isNon_int, isNon_str, isNon_tup, isNon_lst, isNon_klst, isNon_ref, isT_non_int, isT_non_bool, isT_non_tuple, isT_non_list, isT_non_str, isT_non_tuple_list, isT_non_list_tuple, isT_bl_int, isT_bl_bool, isT_bl_tuple, isT_bl_list, isT_bl_str, isT_bl_tuple_list, isT_bl_list_tuple, isT_int_int, isT_int_bool, isT_int_tuple, isT_int_list, isT_int_str, isT_int_tuple_list, isT_int_list_tuple, isT_str_int, isT_str_bool, isT_str_tuple, isT_str_list, isT_str_str, isT_str_tuple_list, isT_str_list_tuple, isT_tup_int, isT_tup_bool, isT_tup_tuple, isT_tup_list, isT_tup_str, isT_tup_tuple_list, isT_tup_list_tuple, isT_lst_int, isT_lst_bool, isT_lst_tuple, isT_lst_list, isT_lst_str, isT_lst_tuple_list, isT_lst_list_tuple, isT_klst_int, isT_klst_bool, isT_klst_tuple, isT_klst_list, isT_klst_str, isT_klst_tuple_list, isT_klst_list_tuple, isT_ref_int, isT_ref_bool, isT_ref_tuple, isT_ref_list, isT_ref_str, isT_ref_tuple_list, isT_ref_list_tuple, cmp_eqI, cmp_neI, cmp_ltI, cmp_leI, cmp_gtI, cmp_geI, cmp_eqB, cmp_neB, idx_hand0, set_hand0, idx_hand1, set_hand1, idx_hand2, set_hand2, idx_hand3, set_hand3, idx_hand4, set_hand4, pBin, idx_tup0, idx_tup1, idx_tup2, idx_tup3, idx_tup4, idx_tup5, idx_tup6, idx_tup7, Int.cast_ofNat_Int, blt_abs, blt_int, blt_intB, blt_len_tup, blt_len_lst, blt_len_klst, blt_tuple_tup, blt_tuple_lst, blt_list_tup, blt_list_lst, blt_sum, blt_all_lst, blt_any_lst, blt_max2, blt_min2, intsD, boolsD, List.length_map, items, place, put, putL, wipe, Tg.names, Tg.namesL, deref, List.map_cons, List.map_nil, List.length_cons, List.length_nil, List.getElem?_cons_zero, List.getElem?_cons_succ, List.getElem?_nil, List.getElem?_append, List.set_cons_zero, List.set_cons_succ, List.set_nil, List.cons_append, List.nil_append, List.append_nil, List.replicate_succ, List.replicate_zero, Nat.sub_self, Nat.add_sub_cancel, Option.map_some, Option.map_none, Option.bind_some, Option.bind_none, Option.some.injEq, if_true, if_false, ite_true, ite_false, Bool.false_eq_true, reduceCtorEq, Nat.reduceSub, Nat.reduceAdd, Nat.reduceLT, Nat.reduceLeDiff, Nat.reduceEqDiff, Nat.reduceMul, Int.reduceLT, Int.reduceLE, Int.reduceEq, Int.reduceNe, Int.reducePow, Int.reduceToNat, Int.reduceNeg, Int.reduceNegSucc, Nat.zero_add, Int.reduceAdd, Int.reduceSub, Int.reduceMul, not_true_eq_false, not_false_eq_true, Nat.lt_irrefl, Nat.zero_le, Nat.zero_lt_succ, Nat.succ_sub_succ_eq_sub, Nat.reduceSucc, bne_tt, bne_tf, bne_ft, Bool.not_true, Bool.not_false, Bool.true_and, Bool.false_and, Bool.and_true, Bool.and_false, Bool.or_true, Bool.or_false, Bool.true_or, Bool.false_or, bne_self_eq_false, beq_self_eq_true] <;> rfl)
  case' m_4 => skip
  refine' (evSs_step (for_two (x := .tup [fr a, fr b, fr c]) (y := .tup [fr (a * y), fr (b * y), fr (c * (y * y))]) (s1 := h4 :: (t ++ [[]])) (s2 := h4 :: (t ++ [[.bl true]])) (s3 := h4 :: (t ++ [[.bl true, .bl true]])) ?f0 (by simp) ?f1 ?f2 ?f3)).trans ?f4
  case' f0 => (simp only [runFn, evSs, ev_var, ev_int, ev_bl, ev_non, ev_str, ev_glob, ev_bin, ev_neg, ev_not, ev_and, ev_or, ev_cmp, ev_chain, ev_isn, ev_isb, ev_ite, ev_tup, ev_lst, ev_idx, ev_slice, ev_call, ev_blt, ev_inst, ev_meth, ev_comp, evL_nil, evL_cons, evAnd_1, evOr_1, evAnd_cons, evOr_cons, evS_set, evS_par, evS_unp, evS_sub, evS_subs, evS_aug, evS_ex, evS_ret, evS_ite, evS_whl, evS_for, evS_brk, evS_pass, itE, pIter, srcOf, chk_nil, compEnd, evAnd1, evSub, evLT, evSubs, R.bind, R.thn, RS.turn, PR.fin, asB, kRef, kNeg, kNot, kIsn, kIsb, kTup, kInst, kSet, kPar, kPut, kAug, kSubs, isNon_non, isNon_bl, isNon_int, isNon_str, isNon_tup, isNon_lst, isNon_klst, isNon_ref, isT_non_int, isT_non_bool, isT_non_tuple, isT_non_list, isT_non_str, isT_non_tuple_list, isT_non_list_tuple, isT_bl_int, isT_bl_bool, isT_bl_tuple, isT_bl_list, isT_bl_str, isT_bl_tuple_list, isT_bl_list_tuple, isT_int_int, isT_int_bool, isT_int_tuple, isT_int_list, isT_int_str, isT_int_tuple_list, isT_int_list_tuple, isT_str_int, isT_str_bool, isT_str_tuple, isT_str_list, isT_str_str, isT_str_tuple_list, isT_str_list_tuple, isT_tup_int, isT_tup_bool, isT_tup_tuple, isT_tup_list, isT_tup_str, isT_tup_tuple_list, isT_tup_list_tuple, isT_lst_int, isT_lst_bool, isT_lst_tuple, isT_lst_list, isT_lst_str, isT_lst_tuple_list, isT_lst_list_tuple, isT_klst_int, isT_klst_bool, isT_klst_tuple, isT_klst_list, isT_klst_str, isT_klst_tuple_list, isT_klst_list_tuple, isT_ref_int, isT_ref_bool, isT_ref_tuple, isT_ref_list, isT_ref_str, isT_ref_tuple_list, isT_ref_list_tuple, cmp_eqI, cmp_neI, cmp_ltI, cmp_leI, cmp_gtI, cmp_geI, cmp_eqB, cmp_neB, idx_hand0, set_hand0, idx_hand1, set_hand1, idx_hand2, set_hand2, idx_hand3, set_hand3, idx_hand4, set_hand4, pBin, idx_tup0, idx_tup1, idx_tup2, idx_tup3, idx_tup4, idx_tup5, idx_tup6, idx_tup7, Int.cast_ofNat_Int, blt_abs, blt_int, blt_intB, blt_len_tup, blt_len_lst, blt_len_klst, blt_tuple_tup, blt_tuple_lst, blt_list_tup, blt_list_lst, blt_sum, blt_all_lst, blt_any_lst, blt_max2, blt_min2, intsD, boolsD, List.length_map, items, place, put, putL, wipe, Tg.names, Tg.namesL, deref, List.map_cons, List.map_nil, List.length_cons, List.length_nil, List.getElem?_cons_zero, List.getElem?_cons_succ, List.getElem?_nil, List.getElem?_append, List.set_cons_zero, List.set_cons_succ, List.set_nil, List.cons_append, List.nil_append, List.append_nil, List.replicate_succ, List.replicate_zero, Nat.sub_self, Nat.add_sub_cancel, Option.map_some, Option.map_none, Option.bind_some, Option.bind_none, Option.some.injEq, if_true, if_false, ite_true, ite_false, Bool.false_eq_true, reduceCtorEq, Nat.reduceSub, Nat.reduceAdd, Nat.reduceLT, Nat.reduceLeDiff, Nat.reduceEqDiff, Nat.reduceMul, Int.reduceLT, Int.reduceLE, Int.reduceEq, Int.reduceNe, Int.reducePow, Int.reduceToNat, Int.reduceNeg, Int.reduceNegSucc, Nat.zero_add, Int.reduceAdd, Int.reduceSub, Int.reduceMul, not_true_eq_false, not_false_eq_true, Nat.lt_irrefl, Nat.zero_le, Nat.zero_lt_succ, Nat.succ_sub_succ_eq_sub, Nat.reduceSucc, bne_tt, bne_tf, bne_ft, Bool.not_true, Bool.not_false, Bool.true_and, Bool.false_and, Bool.and_true, Bool.and_false, Bool.or_true, Bool.or_false, Bool.true_or, Bool.false_or, bne_self_eq_false, beq_self_eq_true, g1])
  case' f1 => (simp only [runFn, evSs, ev_var, ev_int, ev_bl, ev_non, ev_str, ev_glob, ev_bin, ev_neg, ev_not, ev_and, ev_or, ev_cmp, ev_chain, ev_isn, ev_isb, ev_ite, ev_tup, ev_lst, ev_idx, ev_slice, ev_call, ev_blt, ev_inst, ev_meth, ev_comp, evL_nil, evL_cons, evAnd_1, evOr_1, evAnd_cons, evOr_cons, evS_set, evS_par, evS_unp, evS_sub, evS_subs, evS_aug, evS_ex, evS_ret, evS_ite, evS_whl, evS_for, evS_brk, evS_pass, itE, pIter, srcOf, chk_nil, compEnd, evAnd1, evSub, evLT, evSubs, R.bind, R.thn, RS.turn, PR.fin, asB, kRef, kNeg, kNot, kIsn, kIsb, kTup, kInst, kSet, kPar, kPut, kAug, kSubs, isNon_non, isNon_bl, isNon_int, isNon_str, isNon_tup, isNon_lst, isNon_klst, isNon_ref, isT_non_int, isT_non_bool, isT_non_tuple, isT_non_list, isT_non_str, isT_non_tuple_list, isT_non_list_tuple, isT_bl_int, isT_bl_bool, isT_bl_tuple, isT_bl_list, isT_bl_str, isT_bl_tuple_list, isT_bl_list_tuple, isT_int_int, isT_int_bool, isT_int_tuple, isT_int_list, isT_int_str, isT_int_tuple_list, isT_int_list_tuple, isT_str_int, isT_str_bool, isT_str_tuple, isT_str_list, isT_str_str, isT_str_tuple_list, isT_str_list_tuple, isT_tup_int, isT_tup_bool, isT_tup_tuple, isT_tup_list, isT_tup_str, isT_tup_tuple_list, isT_tup_list_tuple, isT_lst_int, isT_lst_bool, isT_lst_tuple, isT_lst_list, isT_lst_str, isT_lst_tuple_list, isT_lst_list_tuple, isT_klst_int, isT_klst_bool, isT_klst_tuple, isT_klst_list, isT_klst_str, isT_klst_tuple_list, isT_klst_list_tuple, isT_ref_int, isT_ref_bool, isT_ref_tuple, isT_ref_list, isT_ref_str, isT_ref_tuple_list, isT_ref_list_tuple, cmp_eqI, cmp_neI, cmp_ltI, cmp_leI, cmp_gtI, cmp_geI, cmp_eqB, cmp_neB, idx_hand0, set_hand0, idx_hand1, set_hand1, idx_hand2, set_hand2, idx_hand3, set_hand3, idx_hand4, set_hand4, pBin, idx_tup0, idx_tup1, idx_tup2, idx_tup3, idx_tup4, idx_tup5, idx_tup6, idx_tup7, Int.cast_ofNat_Int, blt_abs, blt_int, blt_intB, blt_len_tup, blt_len_lst, blt_len_klst, blt_tuple_tup, blt_tuple_lst, blt_list_tup, blt_list_lst, blt_sum, blt_all_lst, blt_any_lst, blt_max2, blt_min2, intsD, boolsD, List.length_map, items, place, put, putL, wipe, Tg.names, Tg.namesL, deref, List.map_cons, List.map_nil, List.length_cons, List.length_nil, List.getElem?_cons_zero, List.getElem?_cons_succ, List.getElem?_nil, List.getElem?_append, List.set_cons_zero, List.set_cons_succ, List.set_nil, List.cons_append, List.nil_append, List.append_nil, List.replicate_succ, List.replicate_zero, Nat.sub_self, Nat.add_sub_cancel, Option.map_some, Option.map_none, Option.bind_some, Option.bind_none, Option.some.injEq, if_true, if_false, ite_true, ite_false, Bool.false_eq_true, reduceCtorEq, Nat.reduceSub, Nat.reduceAdd, Nat.reduceLT, Nat.reduceLeDiff, Nat.reduceEqDiff, Nat.reduceMul, Int.reduceLT, Int.reduceLE, Int.reduceEq, Int.reduceNe, Int.reducePow, Int.reduceToNat, Int.reduceNeg, Int.reduceNegSucc, Nat.zero_add, Int.reduceAdd, Int.reduceSub, Int.reduceMul, not_true_eq_false, not_false_eq_true, Nat.lt_irrefl, Nat.zero_le, Nat.zero_lt_succ, Nat.succ_sub_succ_eq_sub, Nat.reduceSucc, bne_tt, bne_tf, bne_ft, Bool.not_true, Bool.not_false, Bool.true_and, Bool.false_and, Bool.and_true, Bool.and_false, Bool.or_true, Bool.or_false, Bool.true_or, Bool.false_or, bne_self_eq_false, beq_self_eq_true, T1, app_end] <;> rfl)
  case' f2 => simp
  case' f3 => (simp only [runFn, evSs, ev_var, ev_int, ev_bl, ev_non, ev_str, ev_glob, ev_bin, ev_neg, ev_not, ev_and, ev_or, ev_cmp, ev_chain, ev_isn, ev_isb, ev_ite, ev_tup, ev_lst, ev_idx, ev_slice, ev_call, ev_blt, ev_inst, ev_meth, ev_comp, evL_nil, evL_cons, evAnd_1, evOr_1, evAnd_cons, evOr_cons, evS_set, evS_par, evS_unp, evS_sub, evS_subs, evS_aug, evS_ex, evS_ret, evS_ite, evS_whl, evS_for, evS_brk, evS_pass, itE, pIter, srcOf, chk_nil, compEnd, evAnd1, evSub, evLT, evSubs, R.bind, R.thn, RS.turn, PR.fin, asB, kRef, kNeg, kNot, kIsn, kIsb, kTup, kInst, kSet, kPar, kPut, kAug, kSubs, isNon_non, isNon_bl, isNon_int, isNon_str, isNon_tup, isNon_lst, isNon_klst, isNon_ref, isT_non_int, isT_non_bool, isT_non_tuple, isT_non_list, isT_non_str, isT_non_tuple_list, isT_non_list_tuple, isT_bl_int, isT_bl_bool, isT_bl_tuple, isT_bl_list, isT_bl_str, isT_bl_tuple_list, isT_bl_list_tuple, isT_int_int, isT_int_bool, isT_int_tuple, isT_int_list, isT_int_str, isT_int_tuple_list, isT_int_list_tuple, isT_str_int, isT_str_bool, isT_str_tuple, isT_str_list, isT_str_str, isT_str_tuple_list, isT_str_list_tuple, isT_tup_int, isT_tup_bool, isT_tup_tuple, isT_tup_list, isT_tup_str, isT_tup_tuple_list, isT_tup_list_tuple, isT_lst_int, isT_lst_bool, isT_lst_tuple, isT_lst_list, isT_lst_str, isT_lst_tuple_list, isT_lst_list_tuple, isT_klst_int, isT_klst_bool, isT_klst_tuple, isT_klst_list, isT_klst_str, isT_klst_tuple_list, isT_klst_list_tuple, isT_ref_int, isT_ref_bool, isT_ref_tuple, isT_ref_list, isT_ref_str, isT_ref_tuple_list, isT_ref_list_tuple, cmp_eqI, cmp_neI, cmp_ltI, cmp_leI, cmp_gtI, cmp_geI, cmp_eqB, cmp_neB, idx_hand0, set_hand0, idx_hand1, set_hand1, idx_hand2, set_hand2, idx_hand3, set_hand3, idx_hand4, set_hand4, pBin, idx_tup0, idx_tup1, idx_tup2, idx_tup3, idx_tup4, idx_tup5, idx_tup6, idx_tup7, Int.cast_ofNat_Int, blt_abs, blt_int, blt_intB, blt_len_tup, blt_len_lst, blt_len_klst, blt_tuple_tup, blt_tuple_lst, blt_list_tup, blt_list_lst, blt_sum, blt_all_lst, blt_any_lst, blt_max2, blt_min2, intsD, boolsD, List.length_map, items, place, put, putL, wipe, Tg.names, Tg.namesL, deref, List.map_cons, List.map_nil, List.length_cons, List.length_nil, List.getElem?_cons_zero, List.getElem?_cons_succ, List.getElem?_nil, List.getElem?_append, List.set_cons_zero, List.set_cons_succ, List.set_nil, List.cons_append, List.nil_append, List.append_nil, List.replicate_succ, List.replicate_zero, Nat.sub_self, Nat.add_sub_cancel, Option.map_some, Option.map_none, Option.bind_some, Option.bind_none, Option.some.injEq, if_true, if_false, ite_true, ite_false, Bool.false_eq_true, reduceCtorEq, Nat.reduceSub, Nat.reduceAdd, Nat.reduceLT, Nat.reduceLeDiff, Nat.reduceEqDiff, Nat.reduceMul, Int.reduceLT, Int.reduceLE, Int.reduceEq, Int.reduceNe, Int.reducePow, Int.reduceToNat, Int.reduceNeg, Int.reduceNegSucc, Nat.zero_add, Int.reduceAdd, Int.reduceSub, Int.reduceMul, not_true_eq_false, not_false_eq_true, Nat.lt_irrefl, Nat.zero_le, Nat.zero_lt_succ, Nat.succ_sub_succ_eq_sub, Nat.reduceSucc, bne_tt, bne_tf, bne_ft, Bool.not_true, Bool.not_false, Bool.true_and, Bool.false_and, Bool.and_true, Bool.and_false, Bool.or_true, Bool.or_false, Bool.true_or, Bool.false_or, bne_self_eq_false, beq_self_eq_true, T2, app_end] <;> rfl)
  case' f4 => skip
  refine' (evSs_step (for_two (x := .tup [fr u, fr v, fr w]) (y := .tup [fr (u * y), fr (v * y), fr (w * (y * y))]) (s1 := h4 :: (t ++ [[.bl true, .bl true]])) (s2 := h4 :: (t ++ [[.bl true, .bl true, .bl true]])) (s3 := h4 :: (t ++ [[.bl true, .bl true, .bl true, .bl true]])) ?j0 (by simp) ?j1 ?j2 ?j3)).trans ?j4
  case' j0 => (simp only [runFn, evSs, ev_var, ev_int, ev_bl, ev_non, ev_str, ev_glob, ev_bin, ev_neg, ev_not, ev_and, ev_or, ev_cmp, ev_chain, ev_isn, ev_isb, ev_ite, ev_tup, ev_lst, ev_idx, ev_slice, ev_call, ev_blt, ev_inst, ev_meth, ev_comp, evL_nil, evL_cons, evAnd_1, evOr_1, evAnd_cons, evOr_cons, evS_set, evS_par, evS_unp, evS_sub, evS_subs, evS_aug, evS_ex, evS_ret, evS_ite, evS_whl, evS_for, evS_brk, evS_pass, itE, pIter, srcOf, chk_nil, compEnd, evAnd1, evSub, evLT, evSubs, R.bind, R.thn, RS.turn, PR.fin, asB, kRef, kNeg, kNot, kIsn, kIsb, kTup, kInst, kSet, kPar, kPut, kAug, kSubs, isNon_non, isNon_bl, isNon_int, isNon_str, isNon_tup, isNon_lst, isNon_klst, isNon_ref, isT_non_int, isT_non_bool, isT_non_tuple, isT_non_list, isT_non_str, isT_non_tuple_list, isT_non_list_tuple, isT_bl_int, isT_bl_bool, isT_bl_tuple, isT_bl_list, isT_bl_str, isT_bl_tuple_list, isT_bl_list_tuple, isT_int_int, isT_int_bool, isT_int_tuple, isT_int_list, isT_int_str, isT_int_tuple_list, isT_int_list_tuple, isT_str_int, isT_str_bool, isT_str_tuple, isT_str_list, isT_str_str, isT_str_tuple_list, isT_str_list_tuple, isT_tup_int, isT_tup_bool, isT_tup_tuple, isT_tup_list, isT_tup_str, isT_tup_tuple_list, isT_tup_list_tuple, isT_lst_int, isT_lst_bool, isT_lst_tuple, isT_lst_list, isT_lst_str, isT_lst_tuple_list, isT_lst_list_tuple, isT_klst_int, isT_klst_bool, isT_klst_tuple, isT_klst_list, isT_klst_str, isT_klst_tuple_list, isT_klst_list_tuple, isT_ref_int, isT_ref_bool, isT_ref_tuple, isT_ref_list, isT_ref_str, isT_ref_tuple_list, isT_ref_list_tuple, cmp_eqI, cmp_neI, cmp_ltI, cmp_leI, cmp_gtI, cmp_geI, cmp_eqB, cmp_neB, idx_hand0, set_hand0, idx_hand1, set_hand1, idx_hand2, set_hand2, idx_hand3, set_hand3, idx_hand4, set_hand4, pBin, idx_tup0, idx_tup1, idx_tup2, idx_tup3, idx_tup4, idx_tup5, idx_tup6, idx_tup7, Int.cast_ofNat_Int, blt_abs, blt_int, blt_intB, blt_len_tup, blt_len_lst, blt_len_klst, blt_tuple_tup, blt_tuple_lst, blt_list_tup, blt_list_lst, blt_sum, blt_all_lst, blt_any_lst, blt_max2, blt_min2, intsD, boolsD, List.length_map, items, place, put, putL, wipe, Tg.names, Tg.namesL, deref, List.map_cons, List.map_nil, List.length_cons, List.length_nil, List.getElem?_cons_zero, List.getElem?_cons_succ, List.getElem?_nil, List.getElem?_append, List.set_cons_zero, List.set_cons_succ, List.set_nil, List.cons_append, List.nil_append, List.append_nil, List.replicate_succ, List.replicate_zero, Nat.sub_self, Nat.add_sub_cancel, Option.map_some, Option.map_none, Option.bind_some, Option.bind_none, Option.some.injEq, if_true, if_false, ite_true, ite_false, Bool.false_eq_true, reduceCtorEq, Nat.reduceSub, Nat.reduceAdd, Nat.reduceLT, Nat.reduceLeDiff, Nat.reduceEqDiff, Nat.reduceMul, Int.reduceLT, Int.reduceLE, Int.reduceEq, Int.reduceNe, Int.reducePow, Int.reduceToNat, Int.reduceNeg, Int.reduceNegSucc, Nat.zero_add, Int.reduceAdd, Int.reduceSub, Int.reduceMul, not_true_eq_false, not_false_eq_true, Nat.lt_irrefl, Nat.zero_le, Nat.zero_lt_succ, Nat.succ_sub_succ_eq_sub, Nat.reduceSucc, bne_tt, bne_tf, bne_ft, Bool.not_true, Bool.not_false, Bool.true_and, Bool.false_and, Bool.and_true, Bool.and_false, Bool.or_true, Bool.or_false, Bool.true_or, Bool.false_or, bne_self_eq_false, beq_self_eq_true, g2])
  case' j1 => (simp only [runFn, evSs, ev_var, ev_int, ev_bl, ev_non, ev_str, ev_glob, ev_bin, ev_neg, ev_not, ev_and, ev_or, ev_cmp, ev_chain, ev_isn, ev_isb, ev_ite, ev_tup, ev_lst, ev_idx, ev_slice, ev_call, ev_blt, ev_inst, ev_meth, ev_comp, evL_nil, evL_cons, evAnd_1, evOr_1, evAnd_cons, evOr_cons, evS_set, evS_par, evS_unp, evS_sub, evS_subs, evS_aug, evS_ex, evS_ret, evS_ite, evS_whl, evS_for, evS_brk, evS_pass, itE, pIter, srcOf, chk_nil, compEnd, evAnd1, evSub, evLT, evSubs, R.bind, R.thn, RS.turn, PR.fin, asB, kRef, kNeg, kNot, kIsn, kIsb, kTup, kInst, kSet, kPar, kPut, kAug, kSubs, isNon_non, isNon_bl, isNon_int, isNon_str, isNon_tup, isNon_lst, isNon_klst, isNon_ref, isT_non_int, isT_non_bool, isT_non_tuple, isT_non_list, isT_non_str, isT_non_tuple_list, isT_non_list_tuple, isT_bl_int, isT_bl_bool, isT_bl_tuple, isT_bl_list, isT_bl_str, isT_bl_tuple_list, isT_bl_list_tuple, isT_int_int, isT_int_bool, isT_int_tuple, isT_int_list, isT_int_str, isT_int_tuple_list, isT_int_list_tuple, isT_str_int, isT_str_bool, isT_str_tuple, isT_str_list, isT_str_str, isT_str_tuple_list, isT_str_list_tuple, isT_tup_int, isT_tup_bool, isT_tup_tuple, isT_tup_list, isT_tup_str, isT_tup_tuple_list, isT_tup_list_tuple, isT_lst_int, isT_lst_bool, isT_lst_tuple, isT_lst_list, isT_lst_str, isT_lst_tuple_list, isT_lst_list_tuple, isT_klst_int, isT_klst_bool, isT_klst_tuple, isT_klst_list, isT_klst_str, isT_klst_tuple_list, isT_klst_list_tuple, isT_ref_int, isT_ref_bool, isT_ref_tuple, isT_ref_list, isT_ref_str, isT_ref_tuple_list, isT_ref_list_tuple, cmp_eqI, cmp_neI, cmp_ltI, cmp_leI, cmp_gtI, cmp_geI, cmp_eqB, cmp_neB, idx_hand0, set_hand0, idx_hand1, set_hand1, idx_hand2, set_hand2, idx_hand3, set_hand3, idx_hand4, set_hand4, pBin, idx_tup0, idx_tup1, idx_tup2, idx_tup3, idx_tup4, idx_tup5, idx_tup6, idx_tup7, Int.cast_ofNat_Int, blt_abs, blt_int, blt_intB, blt_len_tup, blt_len_lst, blt_len_klst, blt_tuple_tup, blt_tuple_lst, blt_list_tup, blt_list_lst, blt_sum, blt_all_lst, blt_any_lst, blt_max2, blt_min2, intsD, boolsD, List.length_map, items, place, put, putL, wipe, Tg.names, Tg.namesL, deref, List.map_cons, List.map_nil, List.length_cons, List.length_nil, List.getElem?_cons_zero, List.getElem?_cons_succ, List.getElem?_nil, List.getElem?_append, List.set_cons_zero, List.set_cons_succ, List.set_nil, List.cons_append, List.nil_append, List.append_nil, List.replicate_succ, List.replicate_zero, Nat.sub_self, Nat.add_sub_cancel, Option.map_some, Option.map_none, Option.bind_some, Option.bind_none, Option.some.injEq, if_true, if_false, ite_true, ite_false, Bool.false_eq_true, reduceCtorEq, Nat.reduceSub, Nat.reduceAdd, Nat.reduceLT, Nat.reduceLeDiff, Nat.reduceEqDiff, Nat.reduceMul, Int.reduceLT, Int.reduceLE, Int.reduceEq, Int.reduceNe, Int.reducePow, Int.reduceToNat, Int.reduceNeg, Int.reduceNegSucc, Nat.zero_add, Int.reduceAdd, Int.reduceSub, Int.reduceMul, not_true_eq_false, not_false_eq_true, Nat.lt_irrefl, Nat.zero_le, Nat.zero_lt_succ, Nat.succ_sub_succ_eq_sub, Nat.reduceSucc, bne_tt, bne_tf, bne_ft, Bool.not_true, Bool.not_false, Bool.true_and, Bool.false_and, Bool.and_true, Bool.and_false, Bool.or_true, Bool.or_false, Bool.true_or, Bool.false_or, bne_self_eq_false, beq_self_eq_true, F1, app_end] <;> rfl)
  case' j2 => simp
  case' j3 => (simp only [runFn, evSs, ev_var, ev_int, ev_bl, ev_non, ev_str, ev_glob, ev_bin, ev_neg, ev_not, ev_and, ev_or, ev_cmp, ev_chain, ev_isn, ev_isb, ev_ite, ev_tup, ev_lst, ev_idx, ev_slice, ev_call, ev_blt, ev_inst, ev_meth, ev_comp, evL_nil, evL_cons, evAnd_1, evOr_1, evAnd_cons, evOr_cons, evS_set, evS_par, evS_unp, evS_sub, evS_subs, evS_aug, evS_ex, evS_ret, evS_ite, evS_whl, evS_for, evS_brk, evS_pass, itE, pIter, srcOf, chk_nil, compEnd, evAnd1, evSub, evLT, evSubs, R.bind, R.thn, RS.turn, PR.fin, asB, kRef, kNeg, kNot, kIsn, kIsb, kTup, kInst, kSet, kPar, kPut, kAug, kSubs, isNon_non, isNon_bl, isNon_int, isNon_str, isNon_tup, isNon_lst, isNon_klst, isNon_ref, isT_non_int, isT_non_bool, isT_non_tuple, isT_non_list, isT_non_str, isT_non_tuple_list, isT_non_list_tuple, isT_bl_int, isT_bl_bool, isT_bl_tuple, isT_bl_list, isT_bl_str, isT_bl_tuple_list, isT_bl_list_tuple, isT_int_int, isT_int_bool, isT_int_tuple, isT_int_list, isT_int_str, isT_int_tuple_list, isT_int_list_tuple, isT_str_int, isT_str_bool, isT_str_tuple, isT_str_list, isT_str_str, isT_str_tuple_list, isT_str_list_tuple, isT_tup_int, isT_tup_bool, isT_tup_tuple, isT_tup_list, isT_tup_str, isT_tup_tuple_list, isT_tup_list_tuple, isT_lst_int, isT_lst_bool, isT_lst_tuple, isT_lst_list, isT_lst_str, isT_lst_tuple_list, isT_lst_list_tuple, isT_klst_int, isT_klst_bool, isT_klst_tuple, isT_klst_list, isT_klst_str, isT_klst_tuple_list, isT_klst_list_tuple, isT_ref_int, isT_ref_bool, isT_ref_tuple, isT_ref_list, isT_ref_str, isT_ref_tuple_list, isT_ref_list_tuple, cmp_eqI, cmp_neI, cmp_ltI, cmp_leI, cmp_gtI, cmp_geI, cmp_eqB, cmp_neB, idx_hand0, set_hand0, idx_hand1, set_hand1, idx_hand2, set_hand2, idx_hand3, set_hand3, idx_hand4, set_hand4, pBin, idx_tup0, idx_tup1, idx_tup2, idx_tup3, idx_tup4, idx_tup5, idx_tup6, idx_tup7, Int.cast_ofNat_Int, blt_abs, blt_int, blt_intB, blt_len_tup, blt_len_lst, blt_len_klst, blt_tuple_tup, blt_tuple_lst, blt_list_tup, blt_list_lst, blt_sum, blt_all_lst, blt_any_lst, blt_max2, blt_min2, intsD, boolsD, List.length_map, items, place, put, putL, wipe, Tg.names, Tg.namesL, deref, List.map_cons, List.map_nil, List.length_cons, List.length_nil, List.getElem?_cons_zero, List.getElem?_cons_succ, List.getElem?_nil, List.getElem?_append, List.set_cons_zero, List.set_cons_succ, List.set_nil, List.cons_append, List.nil_append, List.append_nil, List.replicate_succ, List.replicate_zero, Nat.sub_self, Nat.add_sub_cancel, Option.map_some, Option.map_none, Option.bind_some, Option.bind_none, Option.some.injEq, if_true, if_false, ite_true, ite_false, Bool.false_eq_true, reduceCtorEq, Nat.reduceSub, Nat.reduceAdd, Nat.reduceLT, Nat.reduceLeDiff, Nat.reduceEqDiff, Nat.reduceMul, Int.reduceLT, Int.reduceLE, Int.reduceEq, Int.reduceNe, Int.reducePow, Int.reduceToNat, Int.reduceNeg, Int.reduceNegSucc, Nat.zero_add, Int.reduceAdd, Int.reduceSub, Int.reduceMul, not_true_eq_false, not_false_eq_true, Nat.lt_irrefl, Nat.zero_le, Nat.zero_lt_succ, Nat.succ_sub_succ_eq_sub, Nat.reduceSucc, bne_tt, bne_tf, bne_ft, Bool.not_true, Bool.not_false, Bool.true_and, Bool.false_and, Bool.and_true, Bool.and_false, Bool.or_true, Bool.or_false, Bool.true_or, Bool.false_or, bne_self_eq_false, beq_self_eq_true, F2, app_end] <;> rfl)
  case' j4 => skip
  refine' (evSs_step ?e_5).trans ?m_5
  case' e_5 => (simp only [runFn, evSs, ev_var, ev_int, ev_bl, ev_non, ev_str, ev_glob, ev_bin, ev_neg, ev_not, ev_and, ev_or, ev_cmp, ev_chain, ev_isn, ev_isb, ev_ite, ev_tup, ev_lst, ev_idx, ev_slice, ev_call, ev_blt, ev_inst, ev_meth, ev_comp, evL_nil, evL_cons, evAnd_1, evOr_1, evAnd_cons, evOr_cons, evS_set, evS_par, evS_unp, evS_sub, evS_subs, evS_aug, evS_ex, evS_ret, evS_ite, evS_whl, evS_for, evS_brk, evS_pass, itE, pIter, srcOf, chk_nil, compEnd, evAnd1, evSub, evLT, evSubs, R.bind, R.thn, RS.turn, PR.fin, asB, kRef, kNeg, kNot, kIsn, kIsb, kTup, kInst, kSet, kPar, kPut, kAug, kSubs, isNon_non, isNon_bl, isNon_int, isNon_str, isNon_tup, isNon_lst, isNon_klst, isNon_ref, isT_non_int, isT_non_bool, isT_non_tuple, isT_non_list, isT_non_str, isT_non_tuple_list, isT_non_list_tuple, isT_bl_int, isT_bl_bool, isT_bl_tuple, isT_bl_list, isT_bl_str, isT_bl_tuple_list, isT_bl_list_tuple, isT_int_int, isT_int_bool, isT_int_tuple, isT_int_list, isT_int_str, isT_int_tuple_list, isT_int_list_tuple, isT_str_int, isT_str_bool, isT_str_tuple, isT_str_list, isT_str_str, isT_str_tuple_list, isT_str_list_tuple, isT_tup_int, isT_tup_bool, isT_tup_tuple, isT_tup_list, isT_tup_str, isT_tup_tuple_list, isT_tup_list_tuple, isT_lst_int, isT_lst_bool, isT_lst_tuple, isT_lst_list, isT_lst_str, isT_lst_tuple_list, isT_lst_list_tuple, isT_klst_int, isT_klst_bool, isT_klst_tuple, isT_klst_list, isT_klst_str, isT_klst_tuple_list, isT_klst_list_tuple, isT_ref_int, isT_ref_bool, isT_ref_tuple, isT_ref_list, isT_ref_str, isT_ref_tuple_list, isT_ref_list_tuple, cmp_eqI, cmp_neI, cmp_ltI, cmp_leI, cmp_gtI, cmp_geI, cmp_eqB, cmp_neB, idx_hand0, set_hand0, idx_hand1, set_hand1, idx_hand2, set_hand2, idx_hand3, set_hand3, idx_hand4, set_hand4, pBin, idx_tup0, idx_tup1, idx_tup2, idx_tup3, idx_tup4, idx_tup5, idx_tup6, idx_tup7, Int.cast_ofNat_Int, blt_abs, blt_int, blt_intB, blt_len_tup, blt_len_lst, blt_len_klst, blt_tuple_tup, blt_tuple_lst, blt_list_tup, blt_list_lst, blt_sum, blt_all_lst, blt_any_lst, blt_max2, blt_min2, intsD, boolsD, List.length_map, items, place, put, putL, wipe, Tg.names, Tg.namesL, deref, List.map_cons, List.map_nil, List.length_cons, List.length_nil, List.getElem?_cons_zero, List.getElem?_cons_succ, List.getElem?_nil, List.getElem?_append, List.set_cons_zero, List.set_cons_succ, List.set_nil, List.cons_append, List.nil_append, List.append_nil, List.replicate_succ, List.replicate_zero, Nat.sub_self, Nat.add_sub_cancel, Option.map_some, Option.map_none, Option.bind_some, Option.bind_none, Option.some.injEq, if_true, if_false, ite_true, ite_false, Bool.false_eq_true, reduceCtorEq, Nat.reduceSub, Nat.reduceAdd, Nat.reduceLT, Nat.reduceLeDiff, Nat.reduceEqDiff, Nat.reduceMul, Int.reduceLT, Int.reduceLE, Int.reduceEq, Int.reduceNe, Int.reducePow, Int.reduceToNat, Int.reduceNeg, Int.reduceNegSucc, Nat.zero_add, Int.reduceAdd, Int.reduceSub, Int.reduceMul, not_true_eq_false, not_false_eq_true, Nat.lt_irrefl, Nat.zero_le, Nat.zero_lt_succ, Nat.succ_sub_succ_eq_sub, Nat.reduceSucc, bne_tt, bne_tf, bne_ft, Bool.not_true, Bool.not_false, Bool.true_and, Bool.false_and, Bool.and_true, Bool.and_false, Bool.or_true, Bool.or_false, Bool.true_or, Bool.false_or, bne_self_eq_false, beq_self_eq_true, and_self, List.flatten_cons, List.flatten_nil, I1] <;> rfl)
  case' m_5 => skip
  refine' (evSs_step ?e_6).trans ?m_6
  case' e_6 => (simp only [runFn, evSs, ev_var, ev_int, ev_bl, ev_non, ev_str, ev_glob, ev_bin, ev_neg, ev_not, ev_and, ev_or, ev_cmp, ev_chain, ev_isn, ev_isb, ev_ite, ev_tup, ev_lst, ev_idx, ev_slice, ev_call, ev_blt, ev_inst, ev_meth, ev_comp, evL_nil, evL_cons, evAnd_1, evOr_1, evAnd_cons, evOr_cons, evS_set, evS_par, evS_unp, evS_sub, evS_subs, evS_aug, evS_ex, evS_ret, evS_ite, evS_whl, evS_for, evS_brk, evS_pass, itE, pIter, srcOf, chk_nil, compEnd, evAnd1, evSub, evLT, evSubs, R.bind, R.thn, RS.turn, PR.fin, asB, kRef, kNeg, kNot, kIsn, kIsb, kTup, kInst, kSet, kPar, kPut, kAug, kSubs, isNon_non, isNon_bl, isNon_int, isNon_str, isNon_tup, isNon_lst, isNon_klst, isNon_ref, isT_non_int, isT_non_bool, isT_non_tuple, isT_non_list, isT_non_str, isT_non_tuple_list, isT_non_list_tuple, isT_bl_int, isT_bl_bool, isT_bl_tuple, isT_bl_list, isT_bl_str, isT_bl_tuple_list, isT_bl_list_tuple, isT_int_int, isT_int_bool, isT_int_tuple, isT_int_list, isT_int_str, isT_int_tuple_list, isT_int_list_tuple, isT_str_int, isT_str_bool, isT_str_tuple, isT_str_list, isT_str_str, isT_str_tuple_list, isT_str_list_tuple, isT_tup_int, isT_tup_bool, isT_tup_tuple, isT_tup_list, isT_tup_str, isT_tup_tuple_list, isT_tup_list_tuple, isT_lst_int, isT_lst_bool, isT_lst_tuple, isT_lst_list, isT_lst_str, isT_lst_tuple_list, isT_lst_list_tuple, isT_klst_int, isT_klst_bool, isT_klst_tuple, isT_klst_list, isT_klst_str, isT_klst_tuple_list, isT_klst_list_tuple, isT_ref_int, isT_ref_bool, isT_ref_tuple, isT_ref_list, isT_ref_str, isT_ref_tuple_list, isT_ref_list_tuple, cmp_eqI, cmp_neI, cmp_ltI, cmp_leI, cmp_gtI, cmp_geI, cmp_eqB, cmp_neB, idx_hand0, set_hand0, idx_hand1, set_hand1, idx_hand2, set_hand2, idx_hand3, set_hand3, idx_hand4, set_hand4, pBin, idx_tup0, idx_tup1, idx_tup2, idx_tup3, idx_tup4, idx_tup5, idx_tup6, idx_tup7, Int.cast_ofNat_Int, blt_abs, blt_int, blt_intB, blt_len_tup, blt_len_lst, blt_len_klst, blt_tuple_tup, blt_tuple_lst, blt_list_tup, blt_list_lst, blt_sum, blt_all_lst, blt_any_lst, blt_max2, blt_min2, intsD, boolsD, List.length_map, items, place, put, putL, wipe, Tg.names, Tg.namesL, deref, List.map_cons, List.map_nil, List.length_cons, List.length_nil, List.getElem?_cons_zero, List.getElem?_cons_succ, List.getElem?_nil, List.getElem?_append, List.set_cons_zero, List.set_cons_succ, List.set_nil, List.cons_append, List.nil_append, List.append_nil, List.replicate_succ, List.replicate_zero, Nat.sub_self, Nat.add_sub_cancel, Option.map_some, Option.map_none, Option.bind_some, Option.bind_none, Option.some.injEq, if_true, if_false, ite_true, ite_false, Bool.false_eq_true, reduceCtorEq, Nat.reduceSub, Nat.reduceAdd, Nat.reduceLT, Nat.reduceLeDiff, Nat.reduceEqDiff, Nat.reduceMul, Int.reduceLT, Int.reduceLE, Int.reduceEq, Int.reduceNe, Int.reducePow, Int.reduceToNat, Int.reduceNeg, Int.reduceNegSucc, Nat.zero_add, Int.reduceAdd, Int.reduceSub, Int.reduceMul, not_true_eq_false, not_false_eq_true, Nat.lt_irrefl, Nat.zero_le, Nat.zero_lt_succ, Nat.succ_sub_succ_eq_sub, Nat.reduceSucc, bne_tt, bne_tf, bne_ft, Bool.not_true, Bool.not_false, Bool.true_and, Bool.false_and, Bool.and_true, Bool.and_false, Bool.or_true, Bool.or_false, Bool.true_or, Bool.false_or, bne_self_eq_false, beq_self_eq_true, e5, e6, lw] <;> rfl)
  case' m_6 => skip
  refine' (evSs_step ?e_7).trans ?m_7
  case' e_7 => (simp only [runFn, evSs, ev_var, ev_int, ev_bl, ev_non, ev_str, ev_glob, ev_bin, ev_neg, ev_not, ev_and, ev_or, ev_cmp, ev_chain, ev_isn, ev_isb, ev_ite, ev_tup, ev_lst, ev_idx, ev_slice, ev_call, ev_blt, ev_inst, ev_meth, ev_comp, evL_nil, evL_cons, evAnd_1, evOr_1, evAnd_cons, evOr_cons, evS_set, evS_par, evS_unp, evS_sub, evS_subs, evS_aug, evS_ex, evS_ret, evS_ite, evS_whl, evS_for, evS_brk, evS_pass, itE, pIter, srcOf, chk_nil, compEnd, evAnd1, evSub, evLT, evSubs, R.bind, R.thn, RS.turn, PR.fin, asB, kRef, kNeg, kNot, kIsn, kIsb, kTup, kInst, kSet, kPar, kPut, kAug, kSubs, isNon_non, isNon_bl, isNon_int, isNon_str, isNon_tup, isNon_lst, isNon_klst, isNon_ref, isT_non_int, isT_non_bool, isT_non_tuple, isT_non_list, isT_non_str, isT_non_tuple_list, isT_non_list_tuple, isT_bl_int, isT_bl_bool, isT_bl_tuple, isT_bl_list, isT_bl_str, isT_bl_tuple_list, isT_bl_list_tuple, isT_int_int, isT_int_bool, isT_int_tuple, isT_int_list, isT_int_str, isT_int_tuple_list, isT_int_list_tuple, isT_str_int, isT_str_bool, isT_str_tuple, isT_str_list, isT_str_str, isT_str_tuple_list, isT_str_list_tuple, isT_tup_int, isT_tup_bool, isT_tup_tuple, isT_tup_list, isT_tup_str, isT_tup_tuple_list, isT_tup_list_tuple, isT_lst_int, isT_lst_bool, isT_lst_tuple, isT_lst_list, isT_lst_str, isT_lst_tuple_list, isT_lst_list_tuple, isT_klst_int, isT_klst_bool, isT_klst_tuple, isT_klst_list, isT_klst_str, isT_klst_tuple_list, isT_klst_list_tuple, isT_ref_int, isT_ref_bool, isT_ref_tuple, isT_ref_list, isT_ref_str, isT_ref_tuple_list, isT_ref_list_tuple, cmp_eqI, cmp_neI, cmp_ltI, cmp_leI, cmp_gtI, cmp_geI, cmp_eqB, cmp_neB, idx_hand0, set_hand0, idx_hand1, set_hand1, idx_hand2, set_hand2, idx_hand3, set_hand3, idx_hand4, set_hand4, pBin, idx_tup0, idx_tup1, idx_tup2, idx_tup3, idx_tup4, idx_tup5, idx_tup6, idx_tup7, Int.cast_ofNat_Int, blt_abs, blt_int, blt_intB, blt_len_tup, blt_len_lst, blt_len_klst, blt_tuple_tup, blt_tuple_lst, blt_list_tup, blt_list_lst, blt_sum, blt_all_lst, blt_any_lst, blt_max2, blt_min2, intsD, boolsD, List.length_map, items, place, put, putL, wipe, Tg.names, Tg.namesL, deref, List.map_cons, List.map_nil, List.length_cons, List.length_nil, List.getElem?_cons_zero, List.getElem?_cons_succ, List.getElem?_nil, List.getElem?_append, List.set_cons_zero, List.set_cons_succ, List.set_nil, List.cons_append, List.nil_append, List.append_nil, List.replicate_succ, List.replicate_zero, Nat.sub_self, Nat.add_sub_cancel, Option.map_some, Option.map_none, Option.bind_some, Option.bind_none, Option.some.injEq, if_true, if_false, ite_true, ite_false, Bool.false_eq_true, reduceCtorEq, Nat.reduceSub, Nat.reduceAdd, Nat.reduceLT, Nat.reduceLeDiff, Nat.reduceEqDiff, Nat.reduceMul, Int.reduceLT, Int.reduceLE, Int.reduceEq, Int.reduceNe, Int.reducePow, Int.reduceToNat, Int.reduceNeg, Int.reduceNegSucc, Nat.zero_add, Int.reduceAdd, Int.reduceSub, Int.reduceMul, not_true_eq_false, not_false_eq_true, Nat.lt_irrefl, Nat.zero_le, Nat.zero_lt_succ, Nat.succ_sub_succ_eq_sub, Nat.reduceSucc, bne_tt, bne_tf, bne_ft, Bool.not_true, Bool.not_false, Bool.true_and, Bool.false_and, Bool.and_true, Bool.and_false, Bool.or_true, Bool.or_false, Bool.true_or, Bool.false_or, bne_self_eq_false, beq_self_eq_true, e7, o7, tw, e8, l8] <;> rfl)
  case' m_7 => skip
  refine' (evSs_step ?e_8).trans ?m_8
  case' e_8 => (simp only [runFn, evSs, ev_var, ev_int, ev_bl, ev_non, ev_str, ev_glob, ev_bin, ev_neg, ev_not, ev_and, ev_or, ev_cmp, ev_chain, ev_isn, ev_isb, ev_ite, ev_tup, ev_lst, ev_idx, ev_slice, ev_call, ev_blt, ev_inst, ev_meth, ev_comp, evL_nil, evL_cons, evAnd_1, evOr_1, evAnd_cons, evOr_cons, evS_set, evS_par, evS_unp, evS_sub, evS_subs, evS_aug, evS_ex, evS_ret, evS_ite, evS_whl, evS_for, evS_brk, evS_pass, itE, pIter, srcOf, chk_nil, compEnd, evAnd1, evSub, evLT, evSubs, R.bind, R.thn, RS.turn, PR.fin, asB, kRef, kNeg, kNot, kIsn, kIsb, kTup, kInst, kSet, kPar, kPut, kAug, kSubs, isNon_non, isNon_bl, isNon_int, isNon_str, isNon_tup, isNon_lst, isNon_klst, isNon_ref, isT_non_int, isT_non_bool, isT_non_tuple, isT_non_list, isT_non_str, isT_non_tuple_list, isT_non_list_tuple, isT_bl_int, isT_bl_bool, isT_bl_tuple, isT_bl_list, isT_bl_str, isT_bl_tuple_list, isT_bl_list_tuple, isT_int_int, isT_int_bool, isT_int_tuple, isT_int_list, isT_int_str, isT_int_tuple_list, isT_int_list_tuple, isT_str_int, isT_str_bool, isT_str_tuple, isT_str_list, isT_str_str, isT_str_tuple_list, isT_str_list_tuple, isT_tup_int, isT_tup_bool, isT_tup_tuple, isT_tup_list, isT_tup_str, isT_tup_tuple_list, isT_tup_list_tuple, isT_lst_int, isT_lst_bool, isT_lst_tuple, isT_lst_list, isT_lst_str, isT_lst_tuple_list, isT_lst_list_tuple, isT_klst_int, isT_klst_bool, isT_klst_tuple, isT_klst_list, isT_klst_str, isT_klst_tuple_list, isT_klst_list_tuple, isT_ref_int, isT_ref_bool, isT_ref_tuple, isT_ref_list, isT_ref_str, isT_ref_tuple_list, isT_ref_list_tuple, cmp_eqI, cmp_neI, cmp_ltI, cmp_leI, cmp_gtI, cmp_geI, cmp_eqB, cmp_neB, idx_hand0, set_hand0, idx_hand1, set_hand1, idx_hand2, set_hand2, idx_hand3, set_hand3, idx_hand4, set_hand4, pBin, idx_tup0, idx_tup1, idx_tup2, idx_tup3, idx_tup4, idx_tup5, idx_tup6, idx_tup7, Int.cast_ofNat_Int, blt_abs, blt_int, blt_intB, blt_len_tup, blt_len_lst, blt_len_klst, blt_tuple_tup, blt_tuple_lst, blt_list_tup, blt_list_lst, blt_sum, blt_all_lst, blt_any_lst, blt_max2, blt_min2, intsD, boolsD, List.length_map, items, place, put, putL, wipe, Tg.names, Tg.namesL, deref, List.map_cons, List.map_nil, List.length_cons, List.length_nil, List.getElem?_cons_zero, List.getElem?_cons_succ, List.getElem?_nil, List.getElem?_append, List.set_cons_zero, List.set_cons_succ, List.set_nil, List.cons_append, List.nil_append, List.append_nil, List.replicate_succ, List.replicate_zero, Nat.sub_self, Nat.add_sub_cancel, Option.map_some, Option.map_none, Option.bind_some, Option.bind_none, Option.some.injEq, if_true, if_false, ite_true, ite_false, Bool.false_eq_true, reduceCtorEq, Nat.reduceSub, Nat.reduceAdd, Nat.reduceLT, Nat.reduceLeDiff, Nat.reduceEqDiff, Nat.reduceMul, Int.reduceLT, Int.reduceLE, Int.reduceEq, Int.reduceNe, Int.reducePow, Int.reduceToNat, Int.reduceNeg, Int.reduceNegSucc, Nat.zero_add, Int.reduceAdd, Int.reduceSub, Int.reduceMul, not_true_eq_false, not_false_eq_true, Nat.lt_irrefl, Nat.zero_le, Nat.zero_lt_succ, Nat.succ_sub_succ_eq_sub, Nat.reduceSucc, bne_tt, bne_tf, bne_ft, Bool.not_true, Bool.not_false, Bool.true_and, Bool.false_and, Bool.and_true, Bool.and_false, Bool.or_true, Bool.or_false, Bool.true_or, Bool.false_or, bne_self_eq_false, beq_self_eq_true, T3] <;> rfl)
  case' m_8 => skip
  refine' (evSs_step ?e_9).trans ?m_9
  case' e_9 => (simp only [runFn, evSs, ev_var, ev_int, ev_bl, ev_non, ev_str, ev_glob, ev_bin, ev_neg, ev_not, ev_and, ev_or, ev_cmp, ev_chain, ev_isn, ev_isb, ev_ite, ev_tup, ev_lst, ev_idx, ev_slice, ev_call, ev_blt, ev_inst, ev_meth, ev_comp, evL_nil, evL_cons, evAnd_1, evOr_1, evAnd_cons, evOr_cons, evS_set, evS_par, evS_unp, evS_sub, evS_subs, evS_aug, evS_ex, evS_ret, evS_ite, evS_whl, evS_for, evS_brk, evS_pass, itE, pIter, srcOf, chk_nil, compEnd, evAnd1, evSub, evLT, evSubs, R.bind, R.thn, RS.turn, PR.fin, asB, kRef, kNeg, kNot, kIsn, kIsb, kTup, kInst, kSet, kPar, kPut, kAug, kSubs, isNon_non, isNon_bl, isNon_int, isNon_str, isNon_tup, isNon_lst, isNon_klst, isNon_ref, isT_non_int, isT_non_bool, isT_non_tuple, isT_non_list, isT_non_str, isT_non_tuple_list, isT_non_list_tuple, isT_bl_int, isT_bl_bool, isT_bl_tuple, isT_bl_list, isT_bl_str, isT_bl_tuple_list, isT_bl_list_tuple, isT_int_int, isT_int_bool, isT_int_tuple, isT_int_list, isT_int_str, isT_int_tuple_list, isT_int_list_tuple, isT_str_int, isT_str_bool, isT_str_tuple, isT_str_list, isT_str_str, isT_str_tuple_list, isT_str_list_tuple, isT_tup_int, isT_tup_bool, isT_tup_tuple, isT_tup_list, isT_tup_str, isT_tup_tuple_list, isT_tup_list_tuple, isT_lst_int, isT_lst_bool, isT_lst_tuple, isT_lst_list, isT_lst_str, isT_lst_tuple_list, isT_lst_list_tuple, isT_klst_int, isT_klst_bool, isT_klst_tuple, isT_klst_list, isT_klst_str, isT_klst_tuple_list, isT_klst_list_tuple, isT_ref_int, isT_ref_bool, isT_ref_tuple, isT_ref_list, isT_ref_str, isT_ref_tuple_list, isT_ref_list_tuple, cmp_eqI, cmp_neI, cmp_ltI, cmp_leI, cmp_gtI, cmp_geI, cmp_eqB, cmp_neB, idx_hand0, set_hand0, idx_hand1, set_hand1, idx_hand2, set_hand2, idx_hand3, set_hand3, idx_hand4, set_hand4, pBin, idx_tup0, idx_tup1, idx_tup2, idx_tup3, idx_tup4, idx_tup5, idx_tup6, idx_tup7, Int.cast_ofNat_Int, blt_abs, blt_int, blt_intB, blt_len_tup, blt_len_lst, blt_len_klst, blt_tuple_tup, blt_tuple_lst, blt_list_tup, blt_list_lst, blt_sum, blt_all_lst, blt_any_lst, blt_max2, blt_min2, intsD, boolsD, List.length_map, items, place, put, putL, wipe, Tg.names, Tg.namesL, deref, List.map_cons, List.map_nil, List.length_cons, List.length_nil, List.getElem?_cons_zero, List.getElem?_cons_succ, List.getElem?_nil, List.getElem?_append, List.set_cons_zero, List.set_cons_succ, List.set_nil, List.cons_append, List.nil_append, List.append_nil, List.replicate_succ, List.replicate_zero, Nat.sub_self, Nat.add_sub_cancel, Option.map_some, Option.map_none, Option.bind_some, Option.bind_none, Option.some.injEq, if_true, if_false, ite_true, ite_false, Bool.false_eq_true, reduceCtorEq, Nat.reduceSub, Nat.reduceAdd, Nat.reduceLT, Nat.reduceLeDiff, Nat.reduceEqDiff, Nat.reduceMul, Int.reduceLT, Int.reduceLE, Int.reduceEq, Int.reduceNe, Int.reducePow, Int.reduceToNat, Int.reduceNeg, Int.reduceNegSucc, Nat.zero_add, Int.reduceAdd, Int.reduceSub, Int.reduceMul, not_true_eq_false, not_false_eq_true, Nat.lt_irrefl, Nat.zero_le, Nat.zero_lt_succ, Nat.succ_sub_succ_eq_sub, Nat.reduceSucc, bne_tt, bne_tf, bne_ft, Bool.not_true, Bool.not_false, Bool.true_and, Bool.false_and, Bool.and_true, Bool.and_false, Bool.or_true, Bool.or_false, Bool.true_or, Bool.false_or, bne_self_eq_false, beq_self_eq_true, F3, app_end] <;> rfl)
  case' m_9 => skip
  refine evSs_ret ?_
  simp only [runFn, evSs, ev_var, ev_int, ev_bl, ev_non, ev_str, ev_glob, ev_bin, ev_neg, ev_not, ev_and, ev_or, ev_cmp, ev_chain, ev_isn, ev_isb, ev_ite, ev_tup, ev_lst, ev_idx, ev_slice, ev_call, ev_blt, ev_inst, ev_meth, ev_comp, evL_nil, evL_cons, evAnd_1, evOr_1, evAnd_cons, evOr_cons, evS_set, evS_par, evS_unp, evS_sub, evS_subs, evS_aug, evS_ex, evS_ret, evS_ite, evS_whl, evS_for, evS_brk, evS_pass, itE, pIter, srcOf, chk_nil, compEnd, evAnd1, evSub, evLT, evSubs, R.bind, R.thn, RS.turn, PR.fin, asB, kRef, kNeg, kNot, kIsn, kIsb, kTup, kInst, kSet, kPar, kPut, kAug, kSubs, isNon_non, isNon_bl, isNon_int, isNon_str, isNon_tup, isNon_lst, isNon_klst, isNon_ref, isT_non_int, isT_non_bool, isT_non_tuple, isT_non_list, isT_non_str, isT_non_tuple_list, isT_non_list_tuple, isT_bl_int, isT_bl_bool, isT_bl_tuple, isT_bl_list, isT_bl_str, isT_bl_tuple_list, isT_bl_list_tuple, isT_int_int, isT_int_bool, isT_int_tuple, isT_int_list, isT_int_str, isT_int_tuple_list, isT_int_list_tuple, isT_str_int, isT_str_bool, isT_str_tuple, isT_str_list, isT_str_str, isT_str_tuple_list, isT_str_list_tuple, isT_tup_int, isT_tup_bool, isT_tup_tuple, isT_tup_list, isT_tup_str, isT_tup_tuple_list, isT_tup_list_tuple, isT_lst_int, isT_lst_bool, isT_lst_tuple, isT_lst_list, isT_lst_str, isT_lst_tuple_list, isT_lst_list_tuple, isT_klst_int, isT_klst_bool, isT_klst_tuple, isT_klst_list, isT_klst_str, isT_klst_tuple_list, isT_klst_list_tuple, isT_ref_int, isT_ref_bool, isT_ref_tuple, isT_ref_list, isT_ref_str, isT_ref_tuple_list, isT_ref_list_tuple, cmp_eqI, cmp_neI, cmp_ltI, cmp_leI, cmp_gtI, cmp_geI, cmp_eqB, cmp_neB, idx_hand0, set_hand0, idx_hand1, set_hand1, idx_hand2, set_hand2, idx_hand3, set_hand3, idx_hand4, set_hand4, pBin, idx_tup0, idx_tup1, idx_tup2, idx_tup3, idx_tup4, idx_tup5, idx_tup6, idx_tup7, Int.cast_ofNat_Int, blt_abs, blt_int, blt_intB, blt_len_tup, blt_len_lst, blt_len_klst, blt_tuple_tup, blt_tuple_lst, blt_list_tup, blt_list_lst, blt_sum, blt_all_lst, blt_any_lst, blt_max2, blt_min2, intsD, boolsD, List.length_map, items, place, put, putL, wipe, Tg.names, Tg.namesL, deref, List.map_cons, List.map_nil, List.length_cons, List.length_nil, List.getElem?_cons_zero, List.getElem?_cons_succ, List.getElem?_nil, List.getElem?_append, List.set_cons_zero, List.set_cons_succ, List.set_nil, List.cons_append, List.nil_append, List.append_nil, List.replicate_succ, List.replicate_zero, Nat.sub_self, Nat.add_sub_cancel, Option.map_some, Option.map_none, Option.bind_some, Option.bind_none, Option.some.injEq, if_true, if_false, ite_true, ite_false, Bool.false_eq_true, reduceCtorEq, Nat.reduceSub, Nat.reduceAdd, Nat.reduceLT, Nat.reduceLeDiff, Nat.reduceEqDiff, Nat.reduceMul, Int.reduceLT, Int.reduceLE, Int.reduceEq, Int.reduceNe, Int.reducePow, Int.reduceToNat, Int.reduceNeg, Int.reduceNegSucc, Nat.zero_add, Int.reduceAdd, Int.reduceSub, Int.reduceMul, not_true_eq_false, not_false_eq_true, Nat.lt_irrefl, Nat.zero_le, Nat.zero_lt_succ, Nat.succ_sub_succ_eq_sub, Nat.reduceSucc, bne_tt, bne_tf, bne_ft, Bool.not_true, Bool.not_false, Bool.true_and, Bool.false_and, Bool.and_true, Bool.and_false, Bool.or_true, Bool.or_false, Bool.true_or, Bool.false_or, bne_self_eq_false, beq_self_eq_true, L3, L4, I2]
theorem pt_int (x y : Int) : D.tup [.int x, .int y, .int 1] = pt (x : Rat) (y : Rat) := by
  unfold pt
  have g1 : gcdL [x, y, 1] ≠ 0 := fun z => by
    have := gcdL_zero z 1 (by simp)
    omega
  rw [wrow_eq (c := 1) (zs := [x, y, 1]) (by decide) (by simp) ⟨1, by simp, by decide⟩, can_eq g1]
  have sg : sgcd [x, y, 1] = 1 := by
    have gl : gcdL [x, y, 1] = 1 := by
      have := gcdL_dvd [x, y, 1] 1 (by simp)
      have h2 : gcdL [x, y, 1] ∣ 1 := by simpa using Int.natAbs_dvd_natAbs.mpr this
      exact Nat.dvd_one.mp h2
    have l : lastNz [x, y, 1] = 1 := by
      unfold lastNz
      have : [x, y, 1].filter (· ≠ 0) = [x, y].filter (· ≠ 0) ++ [1] := by
        rw [show [x, y, (1 : Int)] = [x, y] ++ [1] from rfl, List.filter_append]
        rfl
      rw [this]
      simp
    unfold sgcd
    rw [l, gl]
    decide
  rw [sg]
  simp [ro]
theorem dtL_ints (k : Nat) : ∀ zs : List Int, dtL k (zs.map .int) = true
  | [] => by simp [dtL]
  | z :: zs => by simp [dtL, dtL_ints k zs, dt]
theorem some_ (hh : IsHand hd) : ∃ (q : Rat) (hd' : List D), Bq 5 q ∧ IsHand hd' ∧ run PP 38 521 [.ref 0] (hd :: t) = .ok (fr q) (hd' :: t) := by
  obtain ⟨d1, h1, a1, b1, hh1, e1⟩ := draw37 (t := t) hh (many := 13) (by decide) (by decide)
  obtain ⟨d2, h2, a2, b2, hh2, e2⟩ := draw37 (t := t) hh1 (many := 3) (by decide) (by decide)
  have l : ∀ s, run PP 37 513 [.int (d1 - 6), .int (1 + d2)] s = .ok (fr (Rat.divInt (d1 - 6) (1 + d2))) s := fun s => run_llow4 (Q _) _ _ (by omega) (dmax_of (k := 5) (by omega) (by decide)) (n := 36)
  refine ⟨_, h2, bd (k := 5) (a := d1 - 6) (b := 1 + d2) (by omega) (by omega) (by omega), hh2, ?_⟩
  rw [has_run (n := 37) (F := Pl.F__law_some) (Q Pl.Q__law_some) (by decide) rfl]
  simp only [Pl.F__law_some, Pl.B__law_some, runFn, evSs, ev_var, ev_int, ev_bl, ev_non, ev_str, ev_glob, ev_bin, ev_neg, ev_not, ev_and, ev_or, ev_cmp, ev_chain, ev_isn, ev_isb, ev_ite, ev_tup, ev_lst, ev_idx, ev_slice, ev_call, ev_blt, ev_inst, ev_meth, ev_comp, evL_nil, evL_cons, evAnd_1, evOr_1, evAnd_cons, evOr_cons, evS_set, evS_par, evS_unp, evS_sub, evS_subs, evS_aug, evS_ex, evS_ret, evS_ite, evS_whl, evS_for, evS_brk, evS_pass, itE, pIter, srcOf, chk_nil, compEnd, evAnd1, evSub, evLT, evSubs, R.bind, R.thn, RS.turn, PR.fin, asB, kRef, kNeg, kNot, kIsn, kIsb, kTup, kInst, kSet, kPar, kPut, kAug, kSubs, isNon_non, isNon_bl, isNon_int, isNon_str, isNon_tup, isNon_lst, isNon_klst, isNon_ref, isT_non_int, isT_non_bool, isT_non_tuple, isT_non_list, isT_non_str, isT_non_tuple_list, isT_non_list_tuple, isT_bl_int, isT_bl_bool, isT_bl_tuple, isT_bl_list, isT_bl_str, isT_bl_tuple_list, isT_bl_list_tuple, isT_int_int, isT_int_bool, isT_int_tuple, isT_int_list, isT_int_str, isT_int_tuple_list, isT_int_list_tuple, isT_str_int, isT_str_bool, isT_str_tuple, isT_str_list, isT_str_str, isT_str_tuple_list, isT_str_list_tuple, isT_tup_int, isT_tup_bool, isT_tup_tuple, isT_tup_list, isT_tup_str, isT_tup_tuple_list, isT_tup_list_tuple, isT_lst_int, isT_lst_bool, isT_lst_tuple, isT_lst_list, isT_lst_str, isT_lst_tuple_list, isT_lst_list_tuple, isT_klst_int, isT_klst_bool, isT_klst_tuple, isT_klst_list, isT_klst_str, isT_klst_tuple_list, isT_klst_list_tuple, isT_ref_int, isT_ref_bool, isT_ref_tuple, isT_ref_list, isT_ref_str, isT_ref_tuple_list, isT_ref_list_tuple, cmp_eqI, cmp_neI, cmp_ltI, cmp_leI, cmp_gtI, cmp_geI, cmp_eqB, cmp_neB, idx_hand0, set_hand0, idx_hand1, set_hand1, idx_hand2, set_hand2, idx_hand3, set_hand3, idx_hand4, set_hand4, pBin, idx_tup0, idx_tup1, idx_tup2, idx_tup3, idx_tup4, idx_tup5, idx_tup6, idx_tup7, Int.cast_ofNat_Int, blt_abs, blt_int, blt_intB, blt_len_tup, blt_len_lst, blt_len_klst, blt_tuple_tup, blt_tuple_lst, blt_list_tup, blt_list_lst, blt_sum, blt_all_lst, blt_any_lst, blt_max2, blt_min2, intsD, boolsD, List.length_map, items, place, put, putL, wipe, Tg.names, Tg.namesL, deref, List.map_cons, List.map_nil, List.length_cons, List.length_nil, List.getElem?_cons_zero, List.getElem?_cons_succ, List.getElem?_nil, List.getElem?_append, List.set_cons_zero, List.set_cons_succ, List.set_nil, List.cons_append, List.nil_append, List.append_nil, List.replicate_succ, List.replicate_zero, Nat.sub_self, Nat.add_sub_cancel, Option.map_some, Option.map_none, Option.bind_some, Option.bind_none, Option.some.injEq, if_true, if_false, ite_true, ite_false, Bool.false_eq_true, reduceCtorEq, Nat.reduceSub, Nat.reduceAdd, Nat.reduceLT, Nat.reduceLeDiff, Nat.reduceEqDiff, Nat.reduceMul, Int.reduceLT, Int.reduceLE, Int.reduceEq, Int.reduceNe, Int.reducePow, Int.reduceToNat, Int.reduceNeg, Int.reduceNegSucc, Nat.zero_add, Int.reduceAdd, Int.reduceSub, Int.reduceMul, not_true_eq_false, not_false_eq_true, Nat.lt_irrefl, Nat.zero_le, Nat.zero_lt_succ, Nat.succ_sub_succ_eq_sub, Nat.reduceSucc, bne_tt, bne_tf, bne_ft, Bool.not_true, Bool.not_false, Bool.true_and, Bool.false_and, Bool.and_true, Bool.and_false, Bool.or_true, Bool.or_false, Bool.true_or, Bool.false_or, bne_self_eq_false, beq_self_eq_true, e1, e2, l]
theorem part_ok {d : Int} (h0 : 0 ≤ d) (h1 : d < 3) : 0 < Rat.divInt (1 + d) 4 ∧ Rat.divInt (1 + d) 4 < 1 := by
  have : d = 0 ∨ d = 1 ∨ d = 2 := by omega
  rcases this with rfl | rfl | rfl <;> decide +kernel
theorem sq_nz (t : Rat) : 1 + t * t ≠ 0 := by
  intro z
  have h1 : (0 : Rat) ≤ t * t := by
    rcases Rat.nonneg_total t with h | h
    · exact Rat.mul_nonneg h h
    · have := Rat.mul_nonneg h h
      have e : -t * -t = t * t := by grind
      rwa [e] at this
  have : (1 : Rat) + 0 ≤ 1 + t * t := Rat.add_le_add_left.mpr h1
  rw [z, Rat.add_zero] at this
  exact absurd this (by decide)
theorem inner (hh : IsHand hd) : ∃ (hd' : List D) (t' : Store), IsHand hd' ∧ run PP 39 526 [.ref 0] (hd :: t) = .ok (.bl true) (hd' :: t') := by
  obtain ⟨d1, h1, a1, b1, hh1, e1⟩ := draw (t := t) hh (many := 5) (by decide) (by decide)
  obtain ⟨d2, h2, a2, b2, hh2, e2⟩ := draw (t := t) hh1 (many := 5) (by decide) (by decide)
  obtain ⟨d3, h3, a3, b3, hh3, e3⟩ := draw (t := t) hh2 (many := 4) (by decide) (by decide)
  obtain ⟨T, h4, bT, hh4, e4⟩ := some_ (t := t) hh3
  obtain ⟨d5, h5, a5, b5, hh5, e5⟩ := draw (t := t) hh4 (many := 3) (by decide) (by decide)
  have lp := fun s => low (1 + d5) 4 (by omega) (by omega) s
  have bp : Bq 5 (Rat.divInt (1 + d5) 4) := bd (by omega) (by omega) (by omega)
  obtain ⟨p0, p1⟩ := part_ok a5 b5
  generalize Rat.divInt (1 + d5) 4 = p at lp bp p0 p1
  have bx : Bq 5 (((d1 - 2 : Int)) : Rat) := ⟨by rw [Rat.num_intCast]; omega, by rw [Rat.den_intCast]; decide⟩
  have by_ : Bq 5 (((d2 - 2 : Int)) : Rat) := ⟨by rw [Rat.num_intCast]; omega, by rw [Rat.den_intCast]; decide⟩
  have bw : Bq 5 (((1 + d3 : Int)) : Rat) := ⟨by rw [Rat.num_intCast]; omega, by rw [Rat.den_intCast]; decide⟩
  have w0 : (0 : Rat) < ((1 + d3 : Int) : Rat) := Rat.intCast_pos.mpr (by omega)
  have mw : mulOk (1 + d3) (1 + d3) = true := mulOkL (by omega)
  have fx := frI (d1 - 2)
  have fy := frI (d2 - 2)
  have fw := frI (1 + d3)
  have fww := frI ((1 + d3) * (1 + d3))
  rw [Rat.intCast_mul] at fww
  have fp := pt_int (d1 - 2) (d2 - 2)
  generalize ((d1 - 2 : Int) : Rat) = X at bx fx fp
  generalize ((d2 - 2 : Int) : Rat) = Y at by_ fy fp
  generalize ((1 + d3 : Int) : Rat) = W at bw w0 fw fww
  generalize hcx : (1 - T * T) / (1 + T * T) = cx
  generalize hsx : (2 * T) / (1 + T * T) = sx
  have sn := sq_nz T
  have one : cx * cx + sx * sx = 1 := by
    rw [← hcx, ← hsx]
    grind
  have B1 : Bq 1 (1 : Rat) := inferInstance
  have bTT : Bq (5 + 5) (T * T) := inferInstance
  have bcx : Bq 30 cx := by rw [← hcx]; exact (inferInstance : Bq (1 + (5 + 5) + 1 + (1 + (5 + 5) + 1) + 1) ((1 - T * T) / (1 + T * T))).mono (by decide)
  have bsx : Bq 30 sx := by rw [← hsx]; exact (inferInstance : Bq (2 + 5 + (1 + (5 + 5) + 1) + 1) ((2 * T) / (1 + T * T))).mono (by decide)
  have sq : ∀ s, run PP 38 514 [fr T, fr T] s = .ok (fr (T * T)) s := fun s => run_ltimes3 (Q _) T T (by decide) (by decide) 36
  have un : ∀ s, run PP 38 518 [fr 1, fr (T * T)] s = .ok (fr (1 + T * T)) s := fun s => run_lplus2 (Q _) 1 (T * T) (by decide) (by decide) 36
  have l1 : ∀ s, run PP 38 516 [fr 1, fr (T * T)] s = .ok (fr (1 - T * T)) s := fun s => run_lless2 (Q _) 1 (T * T) (by decide) (by decide) 36
  have t2 : ∀ s, run PP 38 514 [fr 2, fr T] s = .ok (fr (2 * T)) s := fun s => run_ltimes3 (Q _) 2 T (by decide) (by decide) 36
  have ov1 : ∀ s, run PP 38 522 [fr (1 - T * T), fr (1 + T * T)] s = .ok (fr cx) s := fun s => by rw [← hcx]; exact run_lover2 (Q _) (1 - T * T) (1 + T * T) (by decide) (by decide) sn 36
  have ov2 : ∀ s, run PP 38 522 [fr (2 * T), fr (1 + T * T)] s = .ok (fr sx) s := fun s => by rw [← hsx]; exact run_lover2 (Q _) (2 * T) (1 + T * T) (by decide) (by decide) sn 36
  have l2 : ∀ s, run PP 38 516 [fr 1, fr p] s = .ok (fr (1 - p)) s := fun s => run_lless2 (Q _) 1 p (by decide) (by decide) 36
  have t3 : ∀ s, run PP 38 514 [fr W, fr (1 - p)] s = .ok (fr (W * (1 - p))) s := fun s => run_ltimes3 (Q _) W (1 - p) (by decide) (by decide) 36
  have t4 : ∀ s, run PP 38 514 [fr (W * (1 - p)), fr cx] s = .ok (fr (W * (1 - p) * cx)) s := fun s => run_ltimes3 (Q _) (W * (1 - p)) cx (by decide) (by decide) 36
  have t5 : ∀ s, run PP 38 514 [fr (W * (1 - p)), fr sx] s = .ok (fr (W * (1 - p) * sx)) s := fun s => run_ltimes3 (Q _) (W * (1 - p)) sx (by decide) (by decide) 36
  have p4 : ∀ s, run PP 38 518 [fr X, fr (W * (1 - p) * cx)] s = .ok (fr (X + W * (1 - p) * cx)) s := fun s => run_lplus2 (Q _) X (W * (1 - p) * cx) (by decide) (by decide) 36
  have p5 : ∀ s, run PP 38 518 [fr Y, fr (W * (1 - p) * sx)] s = .ok (fr (Y + W * (1 - p) * sx)) s := fun s => run_lplus2 (Q _) Y (W * (1 - p) * sx) (by decide) (by decide) 36
  have bM : Bq 60 (X + W * (1 - p) * cx) := (inferInstance : Bq (5 + (5 + (1 + 5 + 1) + 30) + 1) (X + W * (1 - p) * cx)).mono (by decide)
  have bN : Bq 60 (Y + W * (1 - p) * sx) := (inferInstance : Bq (5 + (5 + (1 + 5 + 1) + 30) + 1) (Y + W * (1 - p) * sx)).mono (by decide)
  have t6 : ∀ s, run PP 38 514 [fr W, fr p] s = .ok (fr (W * p)) s := fun s => run_ltimes3 (Q _) W p (by decide) (by decide) 36
  have t7 : ∀ s, run PP 38 514 [fr (W * p), fr (W * p)] s = .ok (fr (W * p * (W * p))) s := fun s => run_ltimes3 (Q _) (W * p) (W * p) (by decide) (by decide) 36
  have t8 : ∀ s, run PP 38 514 [fr W, fr cx] s = .ok (fr (W * cx)) s := fun s => run_ltimes3 (Q _) W cx (by decide) (by decide) 36
  have t9 : ∀ s, run PP 38 514 [fr W, fr sx] s = .ok (fr (W * sx)) s := fun s => run_ltimes3 (Q _) W sx (by decide) (by decide) 36
  have p8 : ∀ s, run PP 38 518 [fr X, fr (W * cx)] s = .ok (fr (X + W * cx)) s := fun s => run_lplus2 (Q _) X (W * cx) (by decide) (by decide) 36
  have p9 : ∀ s, run PP 38 518 [fr Y, fr (W * sx)] s = .ok (fr (Y + W * sx)) s := fun s => run_lplus2 (Q _) Y (W * sx) (by decide) (by decide) 36
  have bU : Bq 60 (X + W * cx) := (inferInstance : Bq (5 + (5 + 30) + 1) (X + W * cx)).mono (by decide)
  have bV : Bq 60 (Y + W * sx) := (inferInstance : Bq (5 + (5 + 30) + 1) (Y + W * sx)).mono (by decide)
  have bWW : Bq 60 (W * W) := (inferInstance : Bq (5 + 5) (W * W)).mono (by decide)
  have bq2 : Bq 60 (p * W * (p * W)) := (inferInstance : Bq (5 + 5 + (5 + 5)) (p * W * (p * W))).mono (by decide)
  have X60 : Bq 60 X := bx.mono (by decide)
  have Y60 : Bq 60 Y := by_.mono (by decide)
  have WW0 : 0 < W * W := Rat.mul_pos w0 w0
  have pW0 : 0 < p * W := Rat.mul_pos p0 w0
  have q20 : 0 < p * W * (p * W) := Rat.mul_pos pW0 pW0
  have io : ∀ s, run PP 38 525 [circ X Y (W * W), .tup [fr T, fr p]] s = .ok (.tup [pt (X + W * (1 - p) * cx) (Y + W * (1 - p) * sx), fr (p * W * (p * W))]) s := fun s => run_inner_of (n := 29) (Q _) rfl X Y W T p (bx := bx) (bQ := by_) (br := bw) (bt := bT) (bp := bp) (by decide) w0 p0 p1 cx sx hcx.symm hsx.symm
  have ar : ∀ s, run PP 38 252 [pt X Y, fr (W * W)] s = .ok (circ X Y (W * W)) s := fun s => run_around (n := 33) (Q _) X Y (W * W) (bx := X60) (bQ := Y60) (bq := bWW) (by decide) WW0
  have e7 : W * p * (W * p) = p * W * (p * W) := by grind
  rw [e7] at t7
  have at1 : ∀ s, run PP 38 524 [fr (X + W * (1 - p) * cx), fr (Y + W * (1 - p) * sx)] s = .ok (pt (X + W * (1 - p) * cx) (Y + W * (1 - p) * sx)) s := fun s => run_lat (n := 36) (Q _) _ _ (bx := bM) (bQ := bN) (by decide)
  have at2 : ∀ s, run PP 38 524 [fr (X + W * cx), fr (Y + W * sx)] s = .ok (pt (X + W * cx) (Y + W * sx)) s := fun s => run_lat (n := 36) (Q _) _ _ (bx := bU) (bQ := bV) (by decide)
  have on1 : ∀ s, run PP 38 294 [circ X Y (W * W), pt (X + W * cx) (Y + W * sx)] s = .ok (.bl true) s := fun s => run_is_on (n := 31) (Q _) X Y (W * W) _ _ (bx := X60) (bQ := Y60) (bq := bWW) (bu := bU) (bv := bV) (by decide) (by decide) WW0 (by unfold powQ; grind)
  have hne : W * W ≠ p * W * (p * W) := by
    intro z
    have h1 : p * p = 1 := by grind
    have h2 : (1 - p) * (1 + p) = 0 := by grind
    rcases Rat.mul_eq_zero.mp h2 with h | h <;> grind
  have rneg : (-2) * (p * (W * W)) < 0 := by
    have := Rat.mul_pos p0 WW0
    grind
  generalize hM : X + W * (1 - p) * cx = M at *
  generalize hN : Y + W * (1 - p) * sx = N at *
  generalize hU : X + W * cx = U at *
  generalize hV : Y + W * sx = V at *
  have ar2 : ∀ s, run PP 38 252 [pt M N, fr (p * W * (p * W))] s = .ok (circ M N (p * W * (p * W))) s := fun s => run_around (n := 33) (Q _) M N _ (bx := bM) (bQ := bN) (bq := bq2) (by decide) q20
  have on2 : ∀ s, run PP 38 294 [circ M N (p * W * (p * W)), pt U V] s = .ok (.bl true) s := fun s => run_is_on (n := 31) (Q _) M N _ U V (bx := bM) (bQ := bN) (bq := bq2) (bu := bU) (bv := bV) (by decide) (by decide) q20 (by unfold powQ; grind)
  have tc : ∀ s, run PP 38 510 [circ X Y (W * W), circ M N (p * W * (p * W))] s = .ok (.str "touching inside") s := fun s => run_touch (n := 31) (Q _) X Y (W * W) M N (p * W * (p * W)) (bx := X60) (bQ := Y60) (bq := bWW) (bu := bM) (bv := bN) (br := bq2) (by decide) WW0 q20 hne ((-2) * (p * (W * W))) (by grind) (by grind) rneg
  have is1 : ∀ s, run PP 38 504 [.tup [pt M N, fr (p * W * (p * W))], .tup [pt M N, fr (p * W * (p * W))]] s = .ok (.bl true) s := fun s => run_is3 (n := 35) (Q _) 2 _ (by
    have r3 : (wrow [M, N, 1]).length = 3 := by simp [wrow, can_length, wz]
    simp only [dt, dtL, pt, ro, fr, dtL_ints, List.length_map, r3, List.length_cons, List.length_nil]
    rfl)
  have ok : okStr ("touching inside" : Str) = true := by decide +kernel
  refine ⟨h5, t, hh5, ?_⟩
  rw [has_run (n := 38) (F := Pl.F__law_inner_right) (Q Pl.Q__law_inner_right) (by decide) rfl]
  refine runFn_rt rfl ⟨?rho, ?main⟩
  rotate_left
  show evSs _ _ Pl.B__law_inner_right [some (.ref 0), none, none, none, none, none, none, none, none, none, none, none, none, none, none, none, none, none, none] _ = _
  unfold Pl.B__law_inner_right
  have two : D.tup [.int 2, .int 1] = fr 2 := rfl
  refine' (evSs_step ?e_10).trans ?m_10
  case' e_10 => (simp only [runFn, evSs, ev_var, ev_int, ev_bl, ev_non, ev_str, ev_glob, ev_bin, ev_neg, ev_not, ev_and, ev_or, ev_cmp, ev_chain, ev_isn, ev_isb, ev_ite, ev_tup, ev_lst, ev_idx, ev_slice, ev_call, ev_blt, ev_inst, ev_meth, ev_comp, evL_nil, evL_cons, evAnd_1, evOr_1, evAnd_cons, evOr_cons, evS_set, evS_par, evS_unp, evS_sub, evS_subs, evS_aug, evS_ex, evS_ret, evS_ite, evS_whl, evS_for, evS_brk, evS_pass, itE, pIter, srcOf, chk_nil, compEnd, evAnd1, evSub, evLT, evSubs, R.bind, R.thn, RS.turn, PR.fin, asB, kRef, kNeg, kNot, kIsn, kIsb, kTup, kInst, kSet, kPar, kPut, kAug, kSubs, isNon_non, isNon_bl, isNon_int, isNon_str, isNon_tup, isNon_lst, isNon_klst, isNon_ref, isT_non_int, isT_non_bool, isT_non_tuple, isT_non_list, isT_non_str, isT_non_tuple_list, isT_non_list_tuple, isT_bl_int, isT_bl_bool, isT_bl_tuple, isT_bl_list, isT_bl_str, isT_bl_tuple_list, isT_bl_list_tuple, isT_int_int, isT_int_bool, isT_int_tuple, isT_int_list, isT_int_str, isT_int_tuple_list, isT_int_list_tuple, isT_str_int, isT_str_bool, isT_str_tuple, isT_str_list, isT_str_str, isT_str_tuple_list, isT_str_list_tuple, isT_tup_int, isT_tup_bool, isT_tup_tuple, isT_tup_list, isT_tup_str, isT_tup_tuple_list, isT_tup_list_tuple, isT_lst_int, isT_lst_bool, isT_lst_tuple, isT_lst_list, isT_lst_str, isT_lst_tuple_list, isT_lst_list_tuple, isT_klst_int, isT_klst_bool, isT_klst_tuple, isT_klst_list, isT_klst_str, isT_klst_tuple_list, isT_klst_list_tuple, isT_ref_int, isT_ref_bool, isT_ref_tuple, isT_ref_list, isT_ref_str, isT_ref_tuple_list, isT_ref_list_tuple, cmp_eqI, cmp_neI, cmp_ltI, cmp_leI, cmp_gtI, cmp_geI, cmp_eqB, cmp_neB, idx_hand0, set_hand0, idx_hand1, set_hand1, idx_hand2, set_hand2, idx_hand3, set_hand3, idx_hand4, set_hand4, pBin, idx_tup0, idx_tup1, idx_tup2, idx_tup3, idx_tup4, idx_tup5, idx_tup6, idx_tup7, Int.cast_ofNat_Int, blt_abs, blt_int, blt_intB, blt_len_tup, blt_len_lst, blt_len_klst, blt_tuple_tup, blt_tuple_lst, blt_list_tup, blt_list_lst, blt_sum, blt_all_lst, blt_any_lst, blt_max2, blt_min2, intsD, boolsD, List.length_map, items, place, put, putL, wipe, Tg.names, Tg.namesL, deref, List.map_cons, List.map_nil, List.length_cons, List.length_nil, List.getElem?_cons_zero, List.getElem?_cons_succ, List.getElem?_nil, List.getElem?_append, List.set_cons_zero, List.set_cons_succ, List.set_nil, List.cons_append, List.nil_append, List.append_nil, List.replicate_succ, List.replicate_zero, Nat.sub_self, Nat.add_sub_cancel, Option.map_some, Option.map_none, Option.bind_some, Option.bind_none, Option.some.injEq, if_true, if_false, ite_true, ite_false, Bool.false_eq_true, reduceCtorEq, Nat.reduceSub, Nat.reduceAdd, Nat.reduceLT, Nat.reduceLeDiff, Nat.reduceEqDiff, Nat.reduceMul, Int.reduceLT, Int.reduceLE, Int.reduceEq, Int.reduceNe, Int.reducePow, Int.reduceToNat, Int.reduceNeg, Int.reduceNegSucc, Nat.zero_add, Int.reduceAdd, Int.reduceSub, Int.reduceMul, not_true_eq_false, not_false_eq_true, Nat.lt_irrefl, Nat.zero_le, Nat.zero_lt_succ, Nat.succ_sub_succ_eq_sub, Nat.reduceSucc, bne_tt, bne_tf, bne_ft, Bool.not_true, Bool.not_false, Bool.true_and, Bool.false_and, Bool.and_true, Bool.and_false, Bool.or_true, Bool.or_false, Bool.true_or, Bool.false_or, bne_self_eq_false, beq_self_eq_true, e1, e2, e3] <;> rfl)
  case' m_10 => skip
  refine' (evSs_step ?e_11).trans ?m_11
  case' e_11 => (simp only [runFn, evSs, ev_var, ev_int, ev_bl, ev_non, ev_str, ev_glob, ev_bin, ev_neg, ev_not, ev_and, ev_or, ev_cmp, ev_chain, ev_isn, ev_isb, ev_ite, ev_tup, ev_lst, ev_idx, ev_slice, ev_call, ev_blt, ev_inst, ev_meth, ev_comp, evL_nil, evL_cons, evAnd_1, evOr_1, evAnd_cons, evOr_cons, evS_set, evS_par, evS_unp, evS_sub, evS_subs, evS_aug, evS_ex, evS_ret, evS_ite, evS_whl, evS_for, evS_brk, evS_pass, itE, pIter, srcOf, chk_nil, compEnd, evAnd1, evSub, evLT, evSubs, R.bind, R.thn, RS.turn, PR.fin, asB, kRef, kNeg, kNot, kIsn, kIsb, kTup, kInst, kSet, kPar, kPut, kAug, kSubs, isNon_non, isNon_bl, isNon_int, isNon_str, isNon_tup, isNon_lst, isNon_klst, isNon_ref, isT_non_int, isT_non_bool, isT_non_tuple, isT_non_list, isT_non_str, isT_non_tuple_list, isT_non_list_tuple, isT_bl_int, isT_bl_bool, isT_bl_tuple, isT_bl_list, isT_bl_str, isT_bl_tuple_list, isT_bl_list_tuple, isT_int_int, isT_int_bool, isT_int_tuple, isT_int_list, isT_int_str, isT_int_tuple_list, isT_int_list_tuple, isT_str_int, isT_str_bool, isT_str_tuple, isT_str_list, isT_str_str, isT_str_tuple_list, isT_str_list_tuple, isT_tup_int, isT_tup_bool, isT_tup_tuple, isT_tup_list, isT_tup_str, isT_tup_tuple_list, isT_tup_list_tuple, isT_lst_int, isT_lst_bool, isT_lst_tuple, isT_lst_list, isT_lst_str, isT_lst_tuple_list, isT_lst_list_tuple, isT_klst_int, isT_klst_bool, isT_klst_tuple, isT_klst_list, isT_klst_str, isT_klst_tuple_list, isT_klst_list_tuple, isT_ref_int, isT_ref_bool, isT_ref_tuple, isT_ref_list, isT_ref_str, isT_ref_tuple_list, isT_ref_list_tuple, cmp_eqI, cmp_neI, cmp_ltI, cmp_leI, cmp_gtI, cmp_geI, cmp_eqB, cmp_neB, idx_hand0, set_hand0, idx_hand1, set_hand1, idx_hand2, set_hand2, idx_hand3, set_hand3, idx_hand4, set_hand4, pBin, idx_tup0, idx_tup1, idx_tup2, idx_tup3, idx_tup4, idx_tup5, idx_tup6, idx_tup7, Int.cast_ofNat_Int, blt_abs, blt_int, blt_intB, blt_len_tup, blt_len_lst, blt_len_klst, blt_tuple_tup, blt_tuple_lst, blt_list_tup, blt_list_lst, blt_sum, blt_all_lst, blt_any_lst, blt_max2, blt_min2, intsD, boolsD, List.length_map, items, place, put, putL, wipe, Tg.names, Tg.namesL, deref, List.map_cons, List.map_nil, List.length_cons, List.length_nil, List.getElem?_cons_zero, List.getElem?_cons_succ, List.getElem?_nil, List.getElem?_append, List.set_cons_zero, List.set_cons_succ, List.set_nil, List.cons_append, List.nil_append, List.append_nil, List.replicate_succ, List.replicate_zero, Nat.sub_self, Nat.add_sub_cancel, Option.map_some, Option.map_none, Option.bind_some, Option.bind_none, Option.some.injEq, if_true, if_false, ite_true, ite_false, Bool.false_eq_true, reduceCtorEq, Nat.reduceSub, Nat.reduceAdd, Nat.reduceLT, Nat.reduceLeDiff, Nat.reduceEqDiff, Nat.reduceMul, Int.reduceLT, Int.reduceLE, Int.reduceEq, Int.reduceNe, Int.reducePow, Int.reduceToNat, Int.reduceNeg, Int.reduceNegSucc, Nat.zero_add, Int.reduceAdd, Int.reduceSub, Int.reduceMul, not_true_eq_false, not_false_eq_true, Nat.lt_irrefl, Nat.zero_le, Nat.zero_lt_succ, Nat.succ_sub_succ_eq_sub, Nat.reduceSucc, bne_tt, bne_tf, bne_ft, Bool.not_true, Bool.not_false, Bool.true_and, Bool.false_and, Bool.and_true, Bool.and_false, Bool.or_true, Bool.or_false, Bool.true_or, Bool.false_or, bne_self_eq_false, beq_self_eq_true, e4, e5, lp] <;> rfl)
  case' m_11 => skip
  refine' (evSs_step ?e_12).trans ?m_12
  case' e_12 => (simp only [runFn, evSs, ev_var, ev_int, ev_bl, ev_non, ev_str, ev_glob, ev_bin, ev_neg, ev_not, ev_and, ev_or, ev_cmp, ev_chain, ev_isn, ev_isb, ev_ite, ev_tup, ev_lst, ev_idx, ev_slice, ev_call, ev_blt, ev_inst, ev_meth, ev_comp, evL_nil, evL_cons, evAnd_1, evOr_1, evAnd_cons, evOr_cons, evS_set, evS_par, evS_unp, evS_sub, evS_subs, evS_aug, evS_ex, evS_ret, evS_ite, evS_whl, evS_for, evS_brk, evS_pass, itE, pIter, srcOf, chk_nil, compEnd, evAnd1, evSub, evLT, evSubs, R.bind, R.thn, RS.turn, PR.fin, asB, kRef, kNeg, kNot, kIsn, kIsb, kTup, kInst, kSet, kPar, kPut, kAug, kSubs, isNon_non, isNon_bl, isNon_int, isNon_str, isNon_tup, isNon_lst, isNon_klst, isNon_ref, isT_non_int, isT_non_bool, isT_non_tuple, isT_non_list, isT_non_str, isT_non_tuple_list, isT_non_list_tuple, isT_bl_int, isT_bl_bool, isT_bl_tuple, isT_bl_list, isT_bl_str, isT_bl_tuple_list, isT_bl_list_tuple, isT_int_int, isT_int_bool, isT_int_tuple, isT_int_list, isT_int_str, isT_int_tuple_list, isT_int_list_tuple, isT_str_int, isT_str_bool, isT_str_tuple, isT_str_list, isT_str_str, isT_str_tuple_list, isT_str_list_tuple, isT_tup_int, isT_tup_bool, isT_tup_tuple, isT_tup_list, isT_tup_str, isT_tup_tuple_list, isT_tup_list_tuple, isT_lst_int, isT_lst_bool, isT_lst_tuple, isT_lst_list, isT_lst_str, isT_lst_tuple_list, isT_lst_list_tuple, isT_klst_int, isT_klst_bool, isT_klst_tuple, isT_klst_list, isT_klst_str, isT_klst_tuple_list, isT_klst_list_tuple, isT_ref_int, isT_ref_bool, isT_ref_tuple, isT_ref_list, isT_ref_str, isT_ref_tuple_list, isT_ref_list_tuple, cmp_eqI, cmp_neI, cmp_ltI, cmp_leI, cmp_gtI, cmp_geI, cmp_eqB, cmp_neB, idx_hand0, set_hand0, idx_hand1, set_hand1, idx_hand2, set_hand2, idx_hand3, set_hand3, idx_hand4, set_hand4, pBin, idx_tup0, idx_tup1, idx_tup2, idx_tup3, idx_tup4, idx_tup5, idx_tup6, idx_tup7, Int.cast_ofNat_Int, blt_abs, blt_int, blt_intB, blt_len_tup, blt_len_lst, blt_len_klst, blt_tuple_tup, blt_tuple_lst, blt_list_tup, blt_list_lst, blt_sum, blt_all_lst, blt_any_lst, blt_max2, blt_min2, intsD, boolsD, List.length_map, items, place, put, putL, wipe, Tg.names, Tg.namesL, deref, List.map_cons, List.map_nil, List.length_cons, List.length_nil, List.getElem?_cons_zero, List.getElem?_cons_succ, List.getElem?_nil, List.getElem?_append, List.set_cons_zero, List.set_cons_succ, List.set_nil, List.cons_append, List.nil_append, List.append_nil, List.replicate_succ, List.replicate_zero, Nat.sub_self, Nat.add_sub_cancel, Option.map_some, Option.map_none, Option.bind_some, Option.bind_none, Option.some.injEq, if_true, if_false, ite_true, ite_false, Bool.false_eq_true, reduceCtorEq, Nat.reduceSub, Nat.reduceAdd, Nat.reduceLT, Nat.reduceLeDiff, Nat.reduceEqDiff, Nat.reduceMul, Int.reduceLT, Int.reduceLE, Int.reduceEq, Int.reduceNe, Int.reducePow, Int.reduceToNat, Int.reduceNeg, Int.reduceNegSucc, Nat.zero_add, Int.reduceAdd, Int.reduceSub, Int.reduceMul, not_true_eq_false, not_false_eq_true, Nat.lt_irrefl, Nat.zero_le, Nat.zero_lt_succ, Nat.succ_sub_succ_eq_sub, Nat.reduceSucc, bne_tt, bne_tf, bne_ft, Bool.not_true, Bool.not_false, Bool.true_and, Bool.false_and, Bool.and_true, Bool.and_false, Bool.or_true, Bool.or_false, Bool.true_or, Bool.false_or, bne_self_eq_false, beq_self_eq_true, sq] <;> rfl)
  case' m_12 => skip
  refine' (evSs_step ?e_13).trans ?m_13
  case' e_13 => (simp only [runFn, evSs, ev_var, ev_int, ev_bl, ev_non, ev_str, ev_glob, ev_bin, ev_neg, ev_not, ev_and, ev_or, ev_cmp, ev_chain, ev_isn, ev_isb, ev_ite, ev_tup, ev_lst, ev_idx, ev_slice, ev_call, ev_blt, ev_inst, ev_meth, ev_comp, evL_nil, evL_cons, evAnd_1, evOr_1, evAnd_cons, evOr_cons, evS_set, evS_par, evS_unp, evS_sub, evS_subs, evS_aug, evS_ex, evS_ret, evS_ite, evS_whl, evS_for, evS_brk, evS_pass, itE, pIter, srcOf, chk_nil, compEnd, evAnd1, evSub, evLT, evSubs, R.bind, R.thn, RS.turn, PR.fin, asB, kRef, kNeg, kNot, kIsn, kIsb, kTup, kInst, kSet, kPar, kPut, kAug, kSubs, isNon_non, isNon_bl, isNon_int, isNon_str, isNon_tup, isNon_lst, isNon_klst, isNon_ref, isT_non_int, isT_non_bool, isT_non_tuple, isT_non_list, isT_non_str, isT_non_tuple_list, isT_non_list_tuple, isT_bl_int, isT_bl_bool, isT_bl_tuple, isT_bl_list, isT_bl_str, isT_bl_tuple_list, isT_bl_list_tuple, isT_int_int, isT_int_bool, isT_int_tuple, isT_int_list, isT_int_str, isT_int_tuple_list, isT_int_list_tuple, isT_str_int, isT_str_bool, isT_str_tuple, isT_str_list, isT_str_str, isT_str_tuple_list, isT_str_list_tuple, isT_tup_int, isT_tup_bool, isT_tup_tuple, isT_tup_list, isT_tup_str, isT_tup_tuple_list, isT_tup_list_tuple, isT_lst_int, isT_lst_bool, isT_lst_tuple, isT_lst_list, isT_lst_str, isT_lst_tuple_list, isT_lst_list_tuple, isT_klst_int, isT_klst_bool, isT_klst_tuple, isT_klst_list, isT_klst_str, isT_klst_tuple_list, isT_klst_list_tuple, isT_ref_int, isT_ref_bool, isT_ref_tuple, isT_ref_list, isT_ref_str, isT_ref_tuple_list, isT_ref_list_tuple, cmp_eqI, cmp_neI, cmp_ltI, cmp_leI, cmp_gtI, cmp_geI, cmp_eqB, cmp_neB, idx_hand0, set_hand0, idx_hand1, set_hand1, idx_hand2, set_hand2, idx_hand3, set_hand3, idx_hand4, set_hand4, pBin, idx_tup0, idx_tup1, idx_tup2, idx_tup3, idx_tup4, idx_tup5, idx_tup6, idx_tup7, Int.cast_ofNat_Int, blt_abs, blt_int, blt_intB, blt_len_tup, blt_len_lst, blt_len_klst, blt_tuple_tup, blt_tuple_lst, blt_list_tup, blt_list_lst, blt_sum, blt_all_lst, blt_any_lst, blt_max2, blt_min2, intsD, boolsD, List.length_map, items, place, put, putL, wipe, Tg.names, Tg.namesL, deref, List.map_cons, List.map_nil, List.length_cons, List.length_nil, List.getElem?_cons_zero, List.getElem?_cons_succ, List.getElem?_nil, List.getElem?_append, List.set_cons_zero, List.set_cons_succ, List.set_nil, List.cons_append, List.nil_append, List.append_nil, List.replicate_succ, List.replicate_zero, Nat.sub_self, Nat.add_sub_cancel, Option.map_some, Option.map_none, Option.bind_some, Option.bind_none, Option.some.injEq, if_true, if_false, ite_true, ite_false, Bool.false_eq_true, reduceCtorEq, Nat.reduceSub, Nat.reduceAdd, Nat.reduceLT, Nat.reduceLeDiff, Nat.reduceEqDiff, Nat.reduceMul, Int.reduceLT, Int.reduceLE, Int.reduceEq, Int.reduceNe, Int.reducePow, Int.reduceToNat, Int.reduceNeg, Int.reduceNegSucc, Nat.zero_add, Int.reduceAdd, Int.reduceSub, Int.reduceMul, not_true_eq_false, not_false_eq_true, Nat.lt_irrefl, Nat.zero_le, Nat.zero_lt_succ, Nat.succ_sub_succ_eq_sub, Nat.reduceSucc, bne_tt, bne_tf, bne_ft, Bool.not_true, Bool.not_false, Bool.true_and, Bool.false_and, Bool.and_true, Bool.and_false, Bool.or_true, Bool.or_false, Bool.true_or, Bool.false_or, bne_self_eq_false, beq_self_eq_true, one_fr, un] <;> rfl)
  case' m_13 => skip
  refine' (evSs_step ?e_14).trans ?m_14
  case' e_14 => (simp only [runFn, evSs, ev_var, ev_int, ev_bl, ev_non, ev_str, ev_glob, ev_bin, ev_neg, ev_not, ev_and, ev_or, ev_cmp, ev_chain, ev_isn, ev_isb, ev_ite, ev_tup, ev_lst, ev_idx, ev_slice, ev_call, ev_blt, ev_inst, ev_meth, ev_comp, evL_nil, evL_cons, evAnd_1, evOr_1, evAnd_cons, evOr_cons, evS_set, evS_par, evS_unp, evS_sub, evS_subs, evS_aug, evS_ex, evS_ret, evS_ite, evS_whl, evS_for, evS_brk, evS_pass, itE, pIter, srcOf, chk_nil, compEnd, evAnd1, evSub, evLT, evSubs, R.bind, R.thn, RS.turn, PR.fin, asB, kRef, kNeg, kNot, kIsn, kIsb, kTup, kInst, kSet, kPar, kPut, kAug, kSubs, isNon_non, isNon_bl, isNon_int, isNon_str, isNon_tup, isNon_lst, isNon_klst, isNon_ref, isT_non_int, isT_non_bool, isT_non_tuple, isT_non_list, isT_non_str, isT_non_tuple_list, isT_non_list_tuple, isT_bl_int, isT_bl_bool, isT_bl_tuple, isT_bl_list, isT_bl_str, isT_bl_tuple_list, isT_bl_list_tuple, isT_int_int, isT_int_bool, isT_int_tuple, isT_int_list, isT_int_str, isT_int_tuple_list, isT_int_list_tuple, isT_str_int, isT_str_bool, isT_str_tuple, isT_str_list, isT_str_str, isT_str_tuple_list, isT_str_list_tuple, isT_tup_int, isT_tup_bool, isT_tup_tuple, isT_tup_list, isT_tup_str, isT_tup_tuple_list, isT_tup_list_tuple, isT_lst_int, isT_lst_bool, isT_lst_tuple, isT_lst_list, isT_lst_str, isT_lst_tuple_list, isT_lst_list_tuple, isT_klst_int, isT_klst_bool, isT_klst_tuple, isT_klst_list, isT_klst_str, isT_klst_tuple_list, isT_klst_list_tuple, isT_ref_int, isT_ref_bool, isT_ref_tuple, isT_ref_list, isT_ref_str, isT_ref_tuple_list, isT_ref_list_tuple, cmp_eqI, cmp_neI, cmp_ltI, cmp_leI, cmp_gtI, cmp_geI, cmp_eqB, cmp_neB, idx_hand0, set_hand0, idx_hand1, set_hand1, idx_hand2, set_hand2, idx_hand3, set_hand3, idx_hand4, set_hand4, pBin, idx_tup0, idx_tup1, idx_tup2, idx_tup3, idx_tup4, idx_tup5, idx_tup6, idx_tup7, Int.cast_ofNat_Int, blt_abs, blt_int, blt_intB, blt_len_tup, blt_len_lst, blt_len_klst, blt_tuple_tup, blt_tuple_lst, blt_list_tup, blt_list_lst, blt_sum, blt_all_lst, blt_any_lst, blt_max2, blt_min2, intsD, boolsD, List.length_map, items, place, put, putL, wipe, Tg.names, Tg.namesL, deref, List.map_cons, List.map_nil, List.length_cons, List.length_nil, List.getElem?_cons_zero, List.getElem?_cons_succ, List.getElem?_nil, List.getElem?_append, List.set_cons_zero, List.set_cons_succ, List.set_nil, List.cons_append, List.nil_append, List.append_nil, List.replicate_succ, List.replicate_zero, Nat.sub_self, Nat.add_sub_cancel, Option.map_some, Option.map_none, Option.bind_some, Option.bind_none, Option.some.injEq, if_true, if_false, ite_true, ite_false, Bool.false_eq_true, reduceCtorEq, Nat.reduceSub, Nat.reduceAdd, Nat.reduceLT, Nat.reduceLeDiff, Nat.reduceEqDiff, Nat.reduceMul, Int.reduceLT, Int.reduceLE, Int.reduceEq, Int.reduceNe, Int.reducePow, Int.reduceToNat, Int.reduceNeg, Int.reduceNegSucc, Nat.zero_add, Int.reduceAdd, Int.reduceSub, Int.reduceMul, not_true_eq_false, not_false_eq_true, Nat.lt_irrefl, Nat.zero_le, Nat.zero_lt_succ, Nat.succ_sub_succ_eq_sub, Nat.reduceSucc, bne_tt, bne_tf, bne_ft, Bool.not_true, Bool.not_false, Bool.true_and, Bool.false_and, Bool.and_true, Bool.and_false, Bool.or_true, Bool.or_false, Bool.true_or, Bool.false_or, bne_self_eq_false, beq_self_eq_true, one_fr, l1, two, t2, ov1, ov2] <;> rfl)
  case' m_14 => skip
  refine' (evSs_step ?e_15).trans ?m_15
  case' e_15 => (simp only [runFn, evSs, ev_var, ev_int, ev_bl, ev_non, ev_str, ev_glob, ev_bin, ev_neg, ev_not, ev_and, ev_or, ev_cmp, ev_chain, ev_isn, ev_isb, ev_ite, ev_tup, ev_lst, ev_idx, ev_slice, ev_call, ev_blt, ev_inst, ev_meth, ev_comp, evL_nil, evL_cons, evAnd_1, evOr_1, evAnd_cons, evOr_cons, evS_set, evS_par, evS_unp, evS_sub, evS_subs, evS_aug, evS_ex, evS_ret, evS_ite, evS_whl, evS_for, evS_brk, evS_pass, itE, pIter, srcOf, chk_nil, compEnd, evAnd1, evSub, evLT, evSubs, R.bind, R.thn, RS.turn, PR.fin, asB, kRef, kNeg, kNot, kIsn, kIsb, kTup, kInst, kSet, kPar, kPut, kAug, kSubs, isNon_non, isNon_bl, isNon_int, isNon_str, isNon_tup, isNon_lst, isNon_klst, isNon_ref, isT_non_int, isT_non_bool, isT_non_tuple, isT_non_list, isT_non_str, isT_non_tuple_list, isT_non_list_tuple, isT_bl_int, isT_bl_bool, isT_bl_tuple, isT_bl_list, isT_bl_str, isT_bl_tuple_list, isT_bl_list_tuple, isT_int_int, isT_int_bool, isT_int_tuple, isT_int_list, isT_int_str, isT_int_tuple_list, isT_int_list_tuple, isT_str_int, isT_str_bool, isT_str_tuple, isT_str_list, isT_str_str, isT_str_tuple_list, isT_str_list_tuple, isT_tup_int, isT_tup_bool, isT_tup_tuple, isT_tup_list, isT_tup_str, isT_tup_tuple_list, isT_tup_list_tuple, isT_lst_int, isT_lst_bool, isT_lst_tuple, isT_lst_list, isT_lst_str, isT_lst_tuple_list, isT_lst_list_tuple, isT_klst_int, isT_klst_bool, isT_klst_tuple, isT_klst_list, isT_klst_str, isT_klst_tuple_list, isT_klst_list_tuple, isT_ref_int, isT_ref_bool, isT_ref_tuple, isT_ref_list, isT_ref_str, isT_ref_tuple_list, isT_ref_list_tuple, cmp_eqI, cmp_neI, cmp_ltI, cmp_leI, cmp_gtI, cmp_geI, cmp_eqB, cmp_neB, idx_hand0, set_hand0, idx_hand1, set_hand1, idx_hand2, set_hand2, idx_hand3, set_hand3, idx_hand4, set_hand4, pBin, idx_tup0, idx_tup1, idx_tup2, idx_tup3, idx_tup4, idx_tup5, idx_tup6, idx_tup7, Int.cast_ofNat_Int, blt_abs, blt_int, blt_intB, blt_len_tup, blt_len_lst, blt_len_klst, blt_tuple_tup, blt_tuple_lst, blt_list_tup, blt_list_lst, blt_sum, blt_all_lst, blt_any_lst, blt_max2, blt_min2, intsD, boolsD, List.length_map, items, place, put, putL, wipe, Tg.names, Tg.namesL, deref, List.map_cons, List.map_nil, List.length_cons, List.length_nil, List.getElem?_cons_zero, List.getElem?_cons_succ, List.getElem?_nil, List.getElem?_append, List.set_cons_zero, List.set_cons_succ, List.set_nil, List.cons_append, List.nil_append, List.append_nil, List.replicate_succ, List.replicate_zero, Nat.sub_self, Nat.add_sub_cancel, Option.map_some, Option.map_none, Option.bind_some, Option.bind_none, Option.some.injEq, if_true, if_false, ite_true, ite_false, Bool.false_eq_true, reduceCtorEq, Nat.reduceSub, Nat.reduceAdd, Nat.reduceLT, Nat.reduceLeDiff, Nat.reduceEqDiff, Nat.reduceMul, Int.reduceLT, Int.reduceLE, Int.reduceEq, Int.reduceNe, Int.reducePow, Int.reduceToNat, Int.reduceNeg, Int.reduceNegSucc, Nat.zero_add, Int.reduceAdd, Int.reduceSub, Int.reduceMul, not_true_eq_false, not_false_eq_true, Nat.lt_irrefl, Nat.zero_le, Nat.zero_lt_succ, Nat.succ_sub_succ_eq_sub, Nat.reduceSucc, bne_tt, bne_tf, bne_ft, Bool.not_true, Bool.not_false, Bool.true_and, Bool.false_and, Bool.and_true, Bool.and_false, Bool.or_true, Bool.or_false, Bool.true_or, Bool.false_or, bne_self_eq_false, beq_self_eq_true, one_fr, fw, l2, t3] <;> rfl)
  case' m_15 => skip
  refine' (evSs_step ?e_16).trans ?m_16
  case' e_16 => (simp only [runFn, evSs, ev_var, ev_int, ev_bl, ev_non, ev_str, ev_glob, ev_bin, ev_neg, ev_not, ev_and, ev_or, ev_cmp, ev_chain, ev_isn, ev_isb, ev_ite, ev_tup, ev_lst, ev_idx, ev_slice, ev_call, ev_blt, ev_inst, ev_meth, ev_comp, evL_nil, evL_cons, evAnd_1, evOr_1, evAnd_cons, evOr_cons, evS_set, evS_par, evS_unp, evS_sub, evS_subs, evS_aug, evS_ex, evS_ret, evS_ite, evS_whl, evS_for, evS_brk, evS_pass, itE, pIter, srcOf, chk_nil, compEnd, evAnd1, evSub, evLT, evSubs, R.bind, R.thn, RS.turn, PR.fin, asB, kRef, kNeg, kNot, kIsn, kIsb, kTup, kInst, kSet, kPar, kPut, kAug, kSubs, isNon_non, isNon_bl, isNon_int, isNon_str, isNon_tup, isNon_lst, isNon_klst, isNon_ref, isT_non_int, isT_non_bool, isT_non_tuple, isT_non_list, isT_non_str, isT_non_tuple_list, isT_non_list_tuple, isT_bl_int, isT_bl_bool, isT_bl_tuple, isT_bl_list, isT_bl_str, isT_bl_tuple_list, isT_bl_list_tuple, isT_int_int, isT_int_bool, isT_int_tuple, isT_int_list, isT_int_str, isT_int_tuple_list, isT_int_list_tuple, isT_str_int, isT_str_bool, isT_str_tuple, isT_str_list, isT_str_str, isT_str_tuple_list, isT_str_list_tuple, isT_tup_int, isT_tup_bool, isT_tup_tuple, isT_tup_list, isT_tup_str, isT_tup_tuple_list, isT_tup_list_tuple, isT_lst_int, isT_lst_bool, isT_lst_tuple, isT_lst_list, isT_lst_str, isT_lst_tuple_list, isT_lst_list_tuple, isT_klst_int, isT_klst_bool, isT_klst_tuple, isT_klst_list, isT_klst_str, isT_klst_tuple_list, isT_klst_list_tuple, isT_ref_int, isT_ref_bool, isT_ref_tuple, isT_ref_list, isT_ref_str, isT_ref_tuple_list, isT_ref_list_tuple, cmp_eqI, cmp_neI, cmp_ltI, cmp_leI, cmp_gtI, cmp_geI, cmp_eqB, cmp_neB, idx_hand0, set_hand0, idx_hand1, set_hand1, idx_hand2, set_hand2, idx_hand3, set_hand3, idx_hand4, set_hand4, pBin, idx_tup0, idx_tup1, idx_tup2, idx_tup3, idx_tup4, idx_tup5, idx_tup6, idx_tup7, Int.cast_ofNat_Int, blt_abs, blt_int, blt_intB, blt_len_tup, blt_len_lst, blt_len_klst, blt_tuple_tup, blt_tuple_lst, blt_list_tup, blt_list_lst, blt_sum, blt_all_lst, blt_any_lst, blt_max2, blt_min2, intsD, boolsD, List.length_map, items, place, put, putL, wipe, Tg.names, Tg.namesL, deref, List.map_cons, List.map_nil, List.length_cons, List.length_nil, List.getElem?_cons_zero, List.getElem?_cons_succ, List.getElem?_nil, List.getElem?_append, List.set_cons_zero, List.set_cons_succ, List.set_nil, List.cons_append, List.nil_append, List.append_nil, List.replicate_succ, List.replicate_zero, Nat.sub_self, Nat.add_sub_cancel, Option.map_some, Option.map_none, Option.bind_some, Option.bind_none, Option.some.injEq, if_true, if_false, ite_true, ite_false, Bool.false_eq_true, reduceCtorEq, Nat.reduceSub, Nat.reduceAdd, Nat.reduceLT, Nat.reduceLeDiff, Nat.reduceEqDiff, Nat.reduceMul, Int.reduceLT, Int.reduceLE, Int.reduceEq, Int.reduceNe, Int.reducePow, Int.reduceToNat, Int.reduceNeg, Int.reduceNegSucc, Nat.zero_add, Int.reduceAdd, Int.reduceSub, Int.reduceMul, not_true_eq_false, not_false_eq_true, Nat.lt_irrefl, Nat.zero_le, Nat.zero_lt_succ, Nat.succ_sub_succ_eq_sub, Nat.reduceSucc, bne_tt, bne_tf, bne_ft, Bool.not_true, Bool.not_false, Bool.true_and, Bool.false_and, Bool.and_true, Bool.and_false, Bool.or_true, Bool.or_false, Bool.true_or, Bool.false_or, bne_self_eq_false, beq_self_eq_true, fx, fy, t4, t5, p4, p5, at1] <;> rfl)
  case' m_16 => skip
  refine' (evSs_step ?e_17).trans ?m_17
  case' e_17 => (simp only [runFn, evSs, ev_var, ev_int, ev_bl, ev_non, ev_str, ev_glob, ev_bin, ev_neg, ev_not, ev_and, ev_or, ev_cmp, ev_chain, ev_isn, ev_isb, ev_ite, ev_tup, ev_lst, ev_idx, ev_slice, ev_call, ev_blt, ev_inst, ev_meth, ev_comp, evL_nil, evL_cons, evAnd_1, evOr_1, evAnd_cons, evOr_cons, evS_set, evS_par, evS_unp, evS_sub, evS_subs, evS_aug, evS_ex, evS_ret, evS_ite, evS_whl, evS_for, evS_brk, evS_pass, itE, pIter, srcOf, chk_nil, compEnd, evAnd1, evSub, evLT, evSubs, R.bind, R.thn, RS.turn, PR.fin, asB, kRef, kNeg, kNot, kIsn, kIsb, kTup, kInst, kSet, kPar, kPut, kAug, kSubs, isNon_non, isNon_bl, isNon_int, isNon_str, isNon_tup, isNon_lst, isNon_klst, isNon_ref, isT_non_int, isT_non_bool, isT_non_tuple, isT_non_list, isT_non_str, isT_non_tuple_list, isT_non_list_tuple, isT_bl_int, isT_bl_bool, isT_bl_tuple, isT_bl_list, isT_bl_str, isT_bl_tuple_list, isT_bl_list_tuple, isT_int_int, isT_int_bool, isT_int_tuple, isT_int_list, isT_int_str, isT_int_tuple_list, isT_int_list_tuple, isT_str_int, isT_str_bool, isT_str_tuple, isT_str_list, isT_str_str, isT_str_tuple_list, isT_str_list_tuple, isT_tup_int, isT_tup_bool, isT_tup_tuple, isT_tup_list, isT_tup_str, isT_tup_tuple_list, isT_tup_list_tuple, isT_lst_int, isT_lst_bool, isT_lst_tuple, isT_lst_list, isT_lst_str, isT_lst_tuple_list, isT_lst_list_tuple, isT_klst_int, isT_klst_bool, isT_klst_tuple, isT_klst_list, isT_klst_str, isT_klst_tuple_list, isT_klst_list_tuple, isT_ref_int, isT_ref_bool, isT_ref_tuple, isT_ref_list, isT_ref_str, isT_ref_tuple_list, isT_ref_list_tuple, cmp_eqI, cmp_neI, cmp_ltI, cmp_leI, cmp_gtI, cmp_geI, cmp_eqB, cmp_neB, idx_hand0, set_hand0, idx_hand1, set_hand1, idx_hand2, set_hand2, idx_hand3, set_hand3, idx_hand4, set_hand4, pBin, idx_tup0, idx_tup1, idx_tup2, idx_tup3, idx_tup4, idx_tup5, idx_tup6, idx_tup7, Int.cast_ofNat_Int, blt_abs, blt_int, blt_intB, blt_len_tup, blt_len_lst, blt_len_klst, blt_tuple_tup, blt_tuple_lst, blt_list_tup, blt_list_lst, blt_sum, blt_all_lst, blt_any_lst, blt_max2, blt_min2, intsD, boolsD, List.length_map, items, place, put, putL, wipe, Tg.names, Tg.namesL, deref, List.map_cons, List.map_nil, List.length_cons, List.length_nil, List.getElem?_cons_zero, List.getElem?_cons_succ, List.getElem?_nil, List.getElem?_append, List.set_cons_zero, List.set_cons_succ, List.set_nil, List.cons_append, List.nil_append, List.append_nil, List.replicate_succ, List.replicate_zero, Nat.sub_self, Nat.add_sub_cancel, Option.map_some, Option.map_none, Option.bind_some, Option.bind_none, Option.some.injEq, if_true, if_false, ite_true, ite_false, Bool.false_eq_true, reduceCtorEq, Nat.reduceSub, Nat.reduceAdd, Nat.reduceLT, Nat.reduceLeDiff, Nat.reduceEqDiff, Nat.reduceMul, Int.reduceLT, Int.reduceLE, Int.reduceEq, Int.reduceNe, Int.reducePow, Int.reduceToNat, Int.reduceNeg, Int.reduceNegSucc, Nat.zero_add, Int.reduceAdd, Int.reduceSub, Int.reduceMul, not_true_eq_false, not_false_eq_true, Nat.lt_irrefl, Nat.zero_le, Nat.zero_lt_succ, Nat.succ_sub_succ_eq_sub, Nat.reduceSucc, bne_tt, bne_tf, bne_ft, Bool.not_true, Bool.not_false, Bool.true_and, Bool.false_and, Bool.and_true, Bool.and_false, Bool.or_true, Bool.or_false, Bool.true_or, Bool.false_or, bne_self_eq_false, beq_self_eq_true, fw, t6] <;> rfl)
  case' m_17 => skip
  refine' (evSs_step ?e_18).trans ?m_18
  case' e_18 => (simp only [runFn, evSs, ev_var, ev_int, ev_bl, ev_non, ev_str, ev_glob, ev_bin, ev_neg, ev_not, ev_and, ev_or, ev_cmp, ev_chain, ev_isn, ev_isb, ev_ite, ev_tup, ev_lst, ev_idx, ev_slice, ev_call, ev_blt, ev_inst, ev_meth, ev_comp, evL_nil, evL_cons, evAnd_1, evOr_1, evAnd_cons, evOr_cons, evS_set, evS_par, evS_unp, evS_sub, evS_subs, evS_aug, evS_ex, evS_ret, evS_ite, evS_whl, evS_for, evS_brk, evS_pass, itE, pIter, srcOf, chk_nil, compEnd, evAnd1, evSub, evLT, evSubs, R.bind, R.thn, RS.turn, PR.fin, asB, kRef, kNeg, kNot, kIsn, kIsb, kTup, kInst, kSet, kPar, kPut, kAug, kSubs, isNon_non, isNon_bl, isNon_int, isNon_str, isNon_tup, isNon_lst, isNon_klst, isNon_ref, isT_non_int, isT_non_bool, isT_non_tuple, isT_non_list, isT_non_str, isT_non_tuple_list, isT_non_list_tuple, isT_bl_int, isT_bl_bool, isT_bl_tuple, isT_bl_list, isT_bl_str, isT_bl_tuple_list, isT_bl_list_tuple, isT_int_int, isT_int_bool, isT_int_tuple, isT_int_list, isT_int_str, isT_int_tuple_list, isT_int_list_tuple, isT_str_int, isT_str_bool, isT_str_tuple, isT_str_list, isT_str_str, isT_str_tuple_list, isT_str_list_tuple, isT_tup_int, isT_tup_bool, isT_tup_tuple, isT_tup_list, isT_tup_str, isT_tup_tuple_list, isT_tup_list_tuple, isT_lst_int, isT_lst_bool, isT_lst_tuple, isT_lst_list, isT_lst_str, isT_lst_tuple_list, isT_lst_list_tuple, isT_klst_int, isT_klst_bool, isT_klst_tuple, isT_klst_list, isT_klst_str, isT_klst_tuple_list, isT_klst_list_tuple, isT_ref_int, isT_ref_bool, isT_ref_tuple, isT_ref_list, isT_ref_str, isT_ref_tuple_list, isT_ref_list_tuple, cmp_eqI, cmp_neI, cmp_ltI, cmp_leI, cmp_gtI, cmp_geI, cmp_eqB, cmp_neB, idx_hand0, set_hand0, idx_hand1, set_hand1, idx_hand2, set_hand2, idx_hand3, set_hand3, idx_hand4, set_hand4, pBin, idx_tup0, idx_tup1, idx_tup2, idx_tup3, idx_tup4, idx_tup5, idx_tup6, idx_tup7, Int.cast_ofNat_Int, blt_abs, blt_int, blt_intB, blt_len_tup, blt_len_lst, blt_len_klst, blt_tuple_tup, blt_tuple_lst, blt_list_tup, blt_list_lst, blt_sum, blt_all_lst, blt_any_lst, blt_max2, blt_min2, intsD, boolsD, List.length_map, items, place, put, putL, wipe, Tg.names, Tg.namesL, deref, List.map_cons, List.map_nil, List.length_cons, List.length_nil, List.getElem?_cons_zero, List.getElem?_cons_succ, List.getElem?_nil, List.getElem?_append, List.set_cons_zero, List.set_cons_succ, List.set_nil, List.cons_append, List.nil_append, List.append_nil, List.replicate_succ, List.replicate_zero, Nat.sub_self, Nat.add_sub_cancel, Option.map_some, Option.map_none, Option.bind_some, Option.bind_none, Option.some.injEq, if_true, if_false, ite_true, ite_false, Bool.false_eq_true, reduceCtorEq, Nat.reduceSub, Nat.reduceAdd, Nat.reduceLT, Nat.reduceLeDiff, Nat.reduceEqDiff, Nat.reduceMul, Int.reduceLT, Int.reduceLE, Int.reduceEq, Int.reduceNe, Int.reducePow, Int.reduceToNat, Int.reduceNeg, Int.reduceNegSucc, Nat.zero_add, Int.reduceAdd, Int.reduceSub, Int.reduceMul, not_true_eq_false, not_false_eq_true, Nat.lt_irrefl, Nat.zero_le, Nat.zero_lt_succ, Nat.succ_sub_succ_eq_sub, Nat.reduceSucc, bne_tt, bne_tf, bne_ft, Bool.not_true, Bool.not_false, Bool.true_and, Bool.false_and, Bool.and_true, Bool.and_false, Bool.or_true, Bool.or_false, Bool.true_or, Bool.false_or, bne_self_eq_false, beq_self_eq_true, fp, mw, fww, ar] <;> rfl)
  case' m_18 => skip
  refine' (evSs_step ?e_19).trans ?m_19
  case' e_19 => (simp only [runFn, evSs, ev_var, ev_int, ev_bl, ev_non, ev_str, ev_glob, ev_bin, ev_neg, ev_not, ev_and, ev_or, ev_cmp, ev_chain, ev_isn, ev_isb, ev_ite, ev_tup, ev_lst, ev_idx, ev_slice, ev_call, ev_blt, ev_inst, ev_meth, ev_comp, evL_nil, evL_cons, evAnd_1, evOr_1, evAnd_cons, evOr_cons, evS_set, evS_par, evS_unp, evS_sub, evS_subs, evS_aug, evS_ex, evS_ret, evS_ite, evS_whl, evS_for, evS_brk, evS_pass, itE, pIter, srcOf, chk_nil, compEnd, evAnd1, evSub, evLT, evSubs, R.bind, R.thn, RS.turn, PR.fin, asB, kRef, kNeg, kNot, kIsn, kIsb, kTup, kInst, kSet, kPar, kPut, kAug, kSubs, isNon_non, isNon_bl, isNon_int, isNon_str, isNon_tup, isNon_lst, isNon_klst, isNon_ref, isT_non_int, isT_non_bool, isT_non_tuple, isT_non_list, isT_non_str, isT_non_tuple_list, isT_non_list_tuple, isT_bl_int, isT_bl_bool, isT_bl_tuple, isT_bl_list, isT_bl_str, isT_bl_tuple_list, isT_bl_list_tuple, isT_int_int, isT_int_bool, isT_int_tuple, isT_int_list, isT_int_str, isT_int_tuple_list, isT_int_list_tuple, isT_str_int, isT_str_bool, isT_str_tuple, isT_str_list, isT_str_str, isT_str_tuple_list, isT_str_list_tuple, isT_tup_int, isT_tup_bool, isT_tup_tuple, isT_tup_list, isT_tup_str, isT_tup_tuple_list, isT_tup_list_tuple, isT_lst_int, isT_lst_bool, isT_lst_tuple, isT_lst_list, isT_lst_str, isT_lst_tuple_list, isT_lst_list_tuple, isT_klst_int, isT_klst_bool, isT_klst_tuple, isT_klst_list, isT_klst_str, isT_klst_tuple_list, isT_klst_list_tuple, isT_ref_int, isT_ref_bool, isT_ref_tuple, isT_ref_list, isT_ref_str, isT_ref_tuple_list, isT_ref_list_tuple, cmp_eqI, cmp_neI, cmp_ltI, cmp_leI, cmp_gtI, cmp_geI, cmp_eqB, cmp_neB, idx_hand0, set_hand0, idx_hand1, set_hand1, idx_hand2, set_hand2, idx_hand3, set_hand3, idx_hand4, set_hand4, pBin, idx_tup0, idx_tup1, idx_tup2, idx_tup3, idx_tup4, idx_tup5, idx_tup6, idx_tup7, Int.cast_ofNat_Int, blt_abs, blt_int, blt_intB, blt_len_tup, blt_len_lst, blt_len_klst, blt_tuple_tup, blt_tuple_lst, blt_list_tup, blt_list_lst, blt_sum, blt_all_lst, blt_any_lst, blt_max2, blt_min2, intsD, boolsD, List.length_map, items, place, put, putL, wipe, Tg.names, Tg.namesL, deref, List.map_cons, List.map_nil, List.length_cons, List.length_nil, List.getElem?_cons_zero, List.getElem?_cons_succ, List.getElem?_nil, List.getElem?_append, List.set_cons_zero, List.set_cons_succ, List.set_nil, List.cons_append, List.nil_append, List.append_nil, List.replicate_succ, List.replicate_zero, Nat.sub_self, Nat.add_sub_cancel, Option.map_some, Option.map_none, Option.bind_some, Option.bind_none, Option.some.injEq, if_true, if_false, ite_true, ite_false, Bool.false_eq_true, reduceCtorEq, Nat.reduceSub, Nat.reduceAdd, Nat.reduceLT, Nat.reduceLeDiff, Nat.reduceEqDiff, Nat.reduceMul, Int.reduceLT, Int.reduceLE, Int.reduceEq, Int.reduceNe, Int.reducePow, Int.reduceToNat, Int.reduceNeg, Int.reduceNegSucc, Nat.zero_add, Int.reduceAdd, Int.reduceSub, Int.reduceMul, not_true_eq_false, not_false_eq_true, Nat.lt_irrefl, Nat.zero_le, Nat.zero_lt_succ, Nat.succ_sub_succ_eq_sub, Nat.reduceSucc, bne_tt, bne_tf, bne_ft, Bool.not_true, Bool.not_false, Bool.true_and, Bool.false_and, Bool.and_true, Bool.and_false, Bool.or_true, Bool.or_false, Bool.true_or, Bool.false_or, bne_self_eq_false, beq_self_eq_true, io] <;> rfl)
  case' m_19 => skip
  refine' (evSs_step ?e_20).trans ?m_20
  case' e_20 => (simp only [runFn, evSs, ev_var, ev_int, ev_bl, ev_non, ev_str, ev_glob, ev_bin, ev_neg, ev_not, ev_and, ev_or, ev_cmp, ev_chain, ev_isn, ev_isb, ev_ite, ev_tup, ev_lst, ev_idx, ev_slice, ev_call, ev_blt, ev_inst, ev_meth, ev_comp, evL_nil, evL_cons, evAnd_1, evOr_1, evAnd_cons, evOr_cons, evS_set, evS_par, evS_unp, evS_sub, evS_subs, evS_aug, evS_ex, evS_ret, evS_ite, evS_whl, evS_for, evS_brk, evS_pass, itE, pIter, srcOf, chk_nil, compEnd, evAnd1, evSub, evLT, evSubs, R.bind, R.thn, RS.turn, PR.fin, asB, kRef, kNeg, kNot, kIsn, kIsb, kTup, kInst, kSet, kPar, kPut, kAug, kSubs, isNon_non, isNon_bl, isNon_int, isNon_str, isNon_tup, isNon_lst, isNon_klst, isNon_ref, isT_non_int, isT_non_bool, isT_non_tuple, isT_non_list, isT_non_str, isT_non_tuple_list, isT_non_list_tuple, isT_bl_int, isT_bl_bool, isT_bl_tuple, isT_bl_list, isT_bl_str, isT_bl_tuple_list, isT_bl_list_tuple, isT_int_int, isT_int_bool, isT_int_tuple, isT_int_list, isT_int_str, isT_int_tuple_list, isT_int_list_tuple, isT_str_int, isT_str_bool, isT_str_tuple, isT_str_list, isT_str_str, isT_str_tuple_list, isT_str_list_tuple, isT_tup_int, isT_tup_bool, isT_tup_tuple, isT_tup_list, isT_tup_str, isT_tup_tuple_list, isT_tup_list_tuple, isT_lst_int, isT_lst_bool, isT_lst_tuple, isT_lst_list, isT_lst_str, isT_lst_tuple_list, isT_lst_list_tuple, isT_klst_int, isT_klst_bool, isT_klst_tuple, isT_klst_list, isT_klst_str, isT_klst_tuple_list, isT_klst_list_tuple, isT_ref_int, isT_ref_bool, isT_ref_tuple, isT_ref_list, isT_ref_str, isT_ref_tuple_list, isT_ref_list_tuple, cmp_eqI, cmp_neI, cmp_ltI, cmp_leI, cmp_gtI, cmp_geI, cmp_eqB, cmp_neB, idx_hand0, set_hand0, idx_hand1, set_hand1, idx_hand2, set_hand2, idx_hand3, set_hand3, idx_hand4, set_hand4, pBin, idx_tup0, idx_tup1, idx_tup2, idx_tup3, idx_tup4, idx_tup5, idx_tup6, idx_tup7, Int.cast_ofNat_Int, blt_abs, blt_int, blt_intB, blt_len_tup, blt_len_lst, blt_len_klst, blt_tuple_tup, blt_tuple_lst, blt_list_tup, blt_list_lst, blt_sum, blt_all_lst, blt_any_lst, blt_max2, blt_min2, intsD, boolsD, List.length_map, items, place, put, putL, wipe, Tg.names, Tg.namesL, deref, List.map_cons, List.map_nil, List.length_cons, List.length_nil, List.getElem?_cons_zero, List.getElem?_cons_succ, List.getElem?_nil, List.getElem?_append, List.set_cons_zero, List.set_cons_succ, List.set_nil, List.cons_append, List.nil_append, List.append_nil, List.replicate_succ, List.replicate_zero, Nat.sub_self, Nat.add_sub_cancel, Option.map_some, Option.map_none, Option.bind_some, Option.bind_none, Option.some.injEq, if_true, if_false, ite_true, ite_false, Bool.false_eq_true, reduceCtorEq, Nat.reduceSub, Nat.reduceAdd, Nat.reduceLT, Nat.reduceLeDiff, Nat.reduceEqDiff, Nat.reduceMul, Int.reduceLT, Int.reduceLE, Int.reduceEq, Int.reduceNe, Int.reducePow, Int.reduceToNat, Int.reduceNeg, Int.reduceNegSucc, Nat.zero_add, Int.reduceAdd, Int.reduceSub, Int.reduceMul, not_true_eq_false, not_false_eq_true, Nat.lt_irrefl, Nat.zero_le, Nat.zero_lt_succ, Nat.succ_sub_succ_eq_sub, Nat.reduceSucc, bne_tt, bne_tf, bne_ft, Bool.not_true, Bool.not_false, Bool.true_and, Bool.false_and, Bool.and_true, Bool.and_false, Bool.or_true, Bool.or_false, Bool.true_or, Bool.false_or, bne_self_eq_false, beq_self_eq_true, t7, is1] <;> rfl)
  case' m_20 => skip
  refine' (evSs_step ?e_21).trans ?m_21
  case' e_21 => (simp only [runFn, evSs, ev_var, ev_int, ev_bl, ev_non, ev_str, ev_glob, ev_bin, ev_neg, ev_not, ev_and, ev_or, ev_cmp, ev_chain, ev_isn, ev_isb, ev_ite, ev_tup, ev_lst, ev_idx, ev_slice, ev_call, ev_blt, ev_inst, ev_meth, ev_comp, evL_nil, evL_cons, evAnd_1, evOr_1, evAnd_cons, evOr_cons, evS_set, evS_par, evS_unp, evS_sub, evS_subs, evS_aug, evS_ex, evS_ret, evS_ite, evS_whl, evS_for, evS_brk, evS_pass, itE, pIter, srcOf, chk_nil, compEnd, evAnd1, evSub, evLT, evSubs, R.bind, R.thn, RS.turn, PR.fin, asB, kRef, kNeg, kNot, kIsn, kIsb, kTup, kInst, kSet, kPar, kPut, kAug, kSubs, isNon_non, isNon_bl, isNon_int, isNon_str, isNon_tup, isNon_lst, isNon_klst, isNon_ref, isT_non_int, isT_non_bool, isT_non_tuple, isT_non_list, isT_non_str, isT_non_tuple_list, isT_non_list_tuple, isT_bl_int, isT_bl_bool, isT_bl_tuple, isT_bl_list, isT_bl_str, isT_bl_tuple_list, isT_bl_list_tuple, isT_int_int, isT_int_bool, isT_int_tuple, isT_int_list, isT_int_str, isT_int_tuple_list, isT_int_list_tuple, isT_str_int, isT_str_bool, isT_str_tuple, isT_str_list, isT_str_str, isT_str_tuple_list, isT_str_list_tuple, isT_tup_int, isT_tup_bool, isT_tup_tuple, isT_tup_list, isT_tup_str, isT_tup_tuple_list, isT_tup_list_tuple, isT_lst_int, isT_lst_bool, isT_lst_tuple, isT_lst_list, isT_lst_str, isT_lst_tuple_list, isT_lst_list_tuple, isT_klst_int, isT_klst_bool, isT_klst_tuple, isT_klst_list, isT_klst_str, isT_klst_tuple_list, isT_klst_list_tuple, isT_ref_int, isT_ref_bool, isT_ref_tuple, isT_ref_list, isT_ref_str, isT_ref_tuple_list, isT_ref_list_tuple, cmp_eqI, cmp_neI, cmp_ltI, cmp_leI, cmp_gtI, cmp_geI, cmp_eqB, cmp_neB, idx_hand0, set_hand0, idx_hand1, set_hand1, idx_hand2, set_hand2, idx_hand3, set_hand3, idx_hand4, set_hand4, pBin, idx_tup0, idx_tup1, idx_tup2, idx_tup3, idx_tup4, idx_tup5, idx_tup6, idx_tup7, Int.cast_ofNat_Int, blt_abs, blt_int, blt_intB, blt_len_tup, blt_len_lst, blt_len_klst, blt_tuple_tup, blt_tuple_lst, blt_list_tup, blt_list_lst, blt_sum, blt_all_lst, blt_any_lst, blt_max2, blt_min2, intsD, boolsD, List.length_map, items, place, put, putL, wipe, Tg.names, Tg.namesL, deref, List.map_cons, List.map_nil, List.length_cons, List.length_nil, List.getElem?_cons_zero, List.getElem?_cons_succ, List.getElem?_nil, List.getElem?_append, List.set_cons_zero, List.set_cons_succ, List.set_nil, List.cons_append, List.nil_append, List.append_nil, List.replicate_succ, List.replicate_zero, Nat.sub_self, Nat.add_sub_cancel, Option.map_some, Option.map_none, Option.bind_some, Option.bind_none, Option.some.injEq, if_true, if_false, ite_true, ite_false, Bool.false_eq_true, reduceCtorEq, Nat.reduceSub, Nat.reduceAdd, Nat.reduceLT, Nat.reduceLeDiff, Nat.reduceEqDiff, Nat.reduceMul, Int.reduceLT, Int.reduceLE, Int.reduceEq, Int.reduceNe, Int.reducePow, Int.reduceToNat, Int.reduceNeg, Int.reduceNegSucc, Nat.zero_add, Int.reduceAdd, Int.reduceSub, Int.reduceMul, not_true_eq_false, not_false_eq_true, Nat.lt_irrefl, Nat.zero_le, Nat.zero_lt_succ, Nat.succ_sub_succ_eq_sub, Nat.reduceSucc, bne_tt, bne_tf, bne_ft, Bool.not_true, Bool.not_false, Bool.true_and, Bool.false_and, Bool.and_true, Bool.and_false, Bool.or_true, Bool.or_false, Bool.true_or, Bool.false_or, bne_self_eq_false, beq_self_eq_true, fw, t8, t9] <;> rfl)
  case' m_21 => skip
  refine' (evSs_step ?e_22).trans ?m_22
  case' e_22 => (simp only [runFn, evSs, ev_var, ev_int, ev_bl, ev_non, ev_str, ev_glob, ev_bin, ev_neg, ev_not, ev_and, ev_or, ev_cmp, ev_chain, ev_isn, ev_isb, ev_ite, ev_tup, ev_lst, ev_idx, ev_slice, ev_call, ev_blt, ev_inst, ev_meth, ev_comp, evL_nil, evL_cons, evAnd_1, evOr_1, evAnd_cons, evOr_cons, evS_set, evS_par, evS_unp, evS_sub, evS_subs, evS_aug, evS_ex, evS_ret, evS_ite, evS_whl, evS_for, evS_brk, evS_pass, itE, pIter, srcOf, chk_nil, compEnd, evAnd1, evSub, evLT, evSubs, R.bind, R.thn, RS.turn, PR.fin, asB, kRef, kNeg, kNot, kIsn, kIsb, kTup, kInst, kSet, kPar, kPut, kAug, kSubs, isNon_non, isNon_bl, isNon_int, isNon_str, isNon_tup, isNon_lst, isNon_klst, isNon_ref, isT_non_int, isT_non_bool, isT_non_tuple, isT_non_list, isT_non_str, isT_non_tuple_list, isT_non_list_tuple, isT_bl_int, isT_bl_bool, isT_bl_tuple, isT_bl_list, isT_bl_str, isT_bl_tuple_list, isT_bl_list_tuple, isT_int_int, isT_int_bool, isT_int_tuple, isT_int_list, isT_int_str, isT_int_tuple_list, isT_int_list_tuple, isT_str_int, isT_str_bool, isT_str_tuple, isT_str_list, isT_str_str, isT_str_tuple_list, isT_str_list_tuple, isT_tup_int, isT_tup_bool, isT_tup_tuple, isT_tup_list, isT_tup_str, isT_tup_tuple_list, isT_tup_list_tuple, isT_lst_int, isT_lst_bool, isT_lst_tuple, isT_lst_list, isT_lst_str, isT_lst_tuple_list, isT_lst_list_tuple, isT_klst_int, isT_klst_bool, isT_klst_tuple, isT_klst_list, isT_klst_str, isT_klst_tuple_list, isT_klst_list_tuple, isT_ref_int, isT_ref_bool, isT_ref_tuple, isT_ref_list, isT_ref_str, isT_ref_tuple_list, isT_ref_list_tuple, cmp_eqI, cmp_neI, cmp_ltI, cmp_leI, cmp_gtI, cmp_geI, cmp_eqB, cmp_neB, idx_hand0, set_hand0, idx_hand1, set_hand1, idx_hand2, set_hand2, idx_hand3, set_hand3, idx_hand4, set_hand4, pBin, idx_tup0, idx_tup1, idx_tup2, idx_tup3, idx_tup4, idx_tup5, idx_tup6, idx_tup7, Int.cast_ofNat_Int, blt_abs, blt_int, blt_intB, blt_len_tup, blt_len_lst, blt_len_klst, blt_tuple_tup, blt_tuple_lst, blt_list_tup, blt_list_lst, blt_sum, blt_all_lst, blt_any_lst, blt_max2, blt_min2, intsD, boolsD, List.length_map, items, place, put, putL, wipe, Tg.names, Tg.namesL, deref, List.map_cons, List.map_nil, List.length_cons, List.length_nil, List.getElem?_cons_zero, List.getElem?_cons_succ, List.getElem?_nil, List.getElem?_append, List.set_cons_zero, List.set_cons_succ, List.set_nil, List.cons_append, List.nil_append, List.append_nil, List.replicate_succ, List.replicate_zero, Nat.sub_self, Nat.add_sub_cancel, Option.map_some, Option.map_none, Option.bind_some, Option.bind_none, Option.some.injEq, if_true, if_false, ite_true, ite_false, Bool.false_eq_true, reduceCtorEq, Nat.reduceSub, Nat.reduceAdd, Nat.reduceLT, Nat.reduceLeDiff, Nat.reduceEqDiff, Nat.reduceMul, Int.reduceLT, Int.reduceLE, Int.reduceEq, Int.reduceNe, Int.reducePow, Int.reduceToNat, Int.reduceNeg, Int.reduceNegSucc, Nat.zero_add, Int.reduceAdd, Int.reduceSub, Int.reduceMul, not_true_eq_false, not_false_eq_true, Nat.lt_irrefl, Nat.zero_le, Nat.zero_lt_succ, Nat.succ_sub_succ_eq_sub, Nat.reduceSucc, bne_tt, bne_tf, bne_ft, Bool.not_true, Bool.not_false, Bool.true_and, Bool.false_and, Bool.and_true, Bool.and_false, Bool.or_true, Bool.or_false, Bool.true_or, Bool.false_or, bne_self_eq_false, beq_self_eq_true, fx, fy, p8, p9, at2, ar2] <;> rfl)
  case' m_22 => skip
  refine' (evSs_step ?e_23).trans ?m_23
  case' e_23 => (simp only [runFn, evSs, ev_var, ev_int, ev_bl, ev_non, ev_str, ev_glob, ev_bin, ev_neg, ev_not, ev_and, ev_or, ev_cmp, ev_chain, ev_isn, ev_isb, ev_ite, ev_tup, ev_lst, ev_idx, ev_slice, ev_call, ev_blt, ev_inst, ev_meth, ev_comp, evL_nil, evL_cons, evAnd_1, evOr_1, evAnd_cons, evOr_cons, evS_set, evS_par, evS_unp, evS_sub, evS_subs, evS_aug, evS_ex, evS_ret, evS_ite, evS_whl, evS_for, evS_brk, evS_pass, itE, pIter, srcOf, chk_nil, compEnd, evAnd1, evSub, evLT, evSubs, R.bind, R.thn, RS.turn, PR.fin, asB, kRef, kNeg, kNot, kIsn, kIsb, kTup, kInst, kSet, kPar, kPut, kAug, kSubs, isNon_non, isNon_bl, isNon_int, isNon_str, isNon_tup, isNon_lst, isNon_klst, isNon_ref, isT_non_int, isT_non_bool, isT_non_tuple, isT_non_list, isT_non_str, isT_non_tuple_list, isT_non_list_tuple, isT_bl_int, isT_bl_bool, isT_bl_tuple, isT_bl_list, isT_bl_str, isT_bl_tuple_list, isT_bl_list_tuple, isT_int_int, isT_int_bool, isT_int_tuple, isT_int_list, isT_int_str, isT_int_tuple_list, isT_int_list_tuple, isT_str_int, isT_str_bool, isT_str_tuple, isT_str_list, isT_str_str, isT_str_tuple_list, isT_str_list_tuple, isT_tup_int, isT_tup_bool, isT_tup_tuple, isT_tup_list, isT_tup_str, isT_tup_tuple_list, isT_tup_list_tuple, isT_lst_int, isT_lst_bool, isT_lst_tuple, isT_lst_list, isT_lst_str, isT_lst_tuple_list, isT_lst_list_tuple, isT_klst_int, isT_klst_bool, isT_klst_tuple, isT_klst_list, isT_klst_str, isT_klst_tuple_list, isT_klst_list_tuple, isT_ref_int, isT_ref_bool, isT_ref_tuple, isT_ref_list, isT_ref_str, isT_ref_tuple_list, isT_ref_list_tuple, cmp_eqI, cmp_neI, cmp_ltI, cmp_leI, cmp_gtI, cmp_geI, cmp_eqB, cmp_neB, idx_hand0, set_hand0, idx_hand1, set_hand1, idx_hand2, set_hand2, idx_hand3, set_hand3, idx_hand4, set_hand4, pBin, idx_tup0, idx_tup1, idx_tup2, idx_tup3, idx_tup4, idx_tup5, idx_tup6, idx_tup7, Int.cast_ofNat_Int, blt_abs, blt_int, blt_intB, blt_len_tup, blt_len_lst, blt_len_klst, blt_tuple_tup, blt_tuple_lst, blt_list_tup, blt_list_lst, blt_sum, blt_all_lst, blt_any_lst, blt_max2, blt_min2, intsD, boolsD, List.length_map, items, place, put, putL, wipe, Tg.names, Tg.namesL, deref, List.map_cons, List.map_nil, List.length_cons, List.length_nil, List.getElem?_cons_zero, List.getElem?_cons_succ, List.getElem?_nil, List.getElem?_append, List.set_cons_zero, List.set_cons_succ, List.set_nil, List.cons_append, List.nil_append, List.append_nil, List.replicate_succ, List.replicate_zero, Nat.sub_self, Nat.add_sub_cancel, Option.map_some, Option.map_none, Option.bind_some, Option.bind_none, Option.some.injEq, if_true, if_false, ite_true, ite_false, Bool.false_eq_true, reduceCtorEq, Nat.reduceSub, Nat.reduceAdd, Nat.reduceLT, Nat.reduceLeDiff, Nat.reduceEqDiff, Nat.reduceMul, Int.reduceLT, Int.reduceLE, Int.reduceEq, Int.reduceNe, Int.reducePow, Int.reduceToNat, Int.reduceNeg, Int.reduceNegSucc, Nat.zero_add, Int.reduceAdd, Int.reduceSub, Int.reduceMul, not_true_eq_false, not_false_eq_true, Nat.lt_irrefl, Nat.zero_le, Nat.zero_lt_succ, Nat.succ_sub_succ_eq_sub, Nat.reduceSucc, bne_tt, bne_tf, bne_ft, Bool.not_true, Bool.not_false, Bool.true_and, Bool.false_and, Bool.and_true, Bool.and_false, Bool.or_true, Bool.or_false, Bool.true_or, Bool.false_or, bne_self_eq_false, beq_self_eq_true, on1, on2] <;> rfl)
  case' m_23 => skip
  refine evSs_ret ?_
  simp only [runFn, evSs, ev_var, ev_int, ev_bl, ev_non, ev_str, ev_glob, ev_bin, ev_neg, ev_not, ev_and, ev_or, ev_cmp, ev_chain, ev_isn, ev_isb, ev_ite, ev_tup, ev_lst, ev_idx, ev_slice, ev_call, ev_blt, ev_inst, ev_meth, ev_comp, evL_nil, evL_cons, evAnd_1, evOr_1, evAnd_cons, evOr_cons, evS_set, evS_par, evS_unp, evS_sub, evS_subs, evS_aug, evS_ex, evS_ret, evS_ite, evS_whl, evS_for, evS_brk, evS_pass, itE, pIter, srcOf, chk_nil, compEnd, evAnd1, evSub, evLT, evSubs, R.bind, R.thn, RS.turn, PR.fin, asB, kRef, kNeg, kNot, kIsn, kIsb, kTup, kInst, kSet, kPar, kPut, kAug, kSubs, isNon_non, isNon_bl, isNon_int, isNon_str, isNon_tup, isNon_lst, isNon_klst, isNon_ref, isT_non_int, isT_non_bool, isT_non_tuple, isT_non_list, isT_non_str, isT_non_tuple_list, isT_non_list_tuple, isT_bl_int, isT_bl_bool, isT_bl_tuple, isT_bl_list, isT_bl_str, isT_bl_tuple_list, isT_bl_list_tuple, isT_int_int, isT_int_bool, isT_int_tuple, isT_int_list, isT_int_str, isT_int_tuple_list, isT_int_list_tuple, isT_str_int, isT_str_bool, isT_str_tuple, isT_str_list, isT_str_str, isT_str_tuple_list, isT_str_list_tuple, isT_tup_int, isT_tup_bool, isT_tup_tuple, isT_tup_list, isT_tup_str, isT_tup_tuple_list, isT_tup_list_tuple, isT_lst_int, isT_lst_bool, isT_lst_tuple, isT_lst_list, isT_lst_str, isT_lst_tuple_list, isT_lst_list_tuple, isT_klst_int, isT_klst_bool, isT_klst_tuple, isT_klst_list, isT_klst_str, isT_klst_tuple_list, isT_klst_list_tuple, isT_ref_int, isT_ref_bool, isT_ref_tuple, isT_ref_list, isT_ref_str, isT_ref_tuple_list, isT_ref_list_tuple, cmp_eqI, cmp_neI, cmp_ltI, cmp_leI, cmp_gtI, cmp_geI, cmp_eqB, cmp_neB, idx_hand0, set_hand0, idx_hand1, set_hand1, idx_hand2, set_hand2, idx_hand3, set_hand3, idx_hand4, set_hand4, pBin, idx_tup0, idx_tup1, idx_tup2, idx_tup3, idx_tup4, idx_tup5, idx_tup6, idx_tup7, Int.cast_ofNat_Int, blt_abs, blt_int, blt_intB, blt_len_tup, blt_len_lst, blt_len_klst, blt_tuple_tup, blt_tuple_lst, blt_list_tup, blt_list_lst, blt_sum, blt_all_lst, blt_any_lst, blt_max2, blt_min2, intsD, boolsD, List.length_map, items, place, put, putL, wipe, Tg.names, Tg.namesL, deref, List.map_cons, List.map_nil, List.length_cons, List.length_nil, List.getElem?_cons_zero, List.getElem?_cons_succ, List.getElem?_nil, List.getElem?_append, List.set_cons_zero, List.set_cons_succ, List.set_nil, List.cons_append, List.nil_append, List.append_nil, List.replicate_succ, List.replicate_zero, Nat.sub_self, Nat.add_sub_cancel, Option.map_some, Option.map_none, Option.bind_some, Option.bind_none, Option.some.injEq, if_true, if_false, ite_true, ite_false, Bool.false_eq_true, reduceCtorEq, Nat.reduceSub, Nat.reduceAdd, Nat.reduceLT, Nat.reduceLeDiff, Nat.reduceEqDiff, Nat.reduceMul, Int.reduceLT, Int.reduceLE, Int.reduceEq, Int.reduceNe, Int.reducePow, Int.reduceToNat, Int.reduceNeg, Int.reduceNegSucc, Nat.zero_add, Int.reduceAdd, Int.reduceSub, Int.reduceMul, not_true_eq_false, not_false_eq_true, Nat.lt_irrefl, Nat.zero_le, Nat.zero_lt_succ, Nat.succ_sub_succ_eq_sub, Nat.reduceSucc, bne_tt, bne_tf, bne_ft, Bool.not_true, Bool.not_false, Bool.true_and, Bool.false_and, Bool.and_true, Bool.and_false, Bool.or_true, Bool.or_false, Bool.true_or, Bool.false_or, bne_self_eq_false, beq_self_eq_true, tc, cmp_eqS ok ok]
end
theorem hand_ (ns : List Int) (hl : ns.length ≤ 63) : ∃ hd, IsHand hd ∧ run PP 39 488 [.klst (ns.map .int)] [] = .ok (.ref 0) [hd] := by
  have cutE : ∃ cs : List Int, cut (ns.map D.int) none (some 63) = cs.map .int ∧ cs.length ≤ 63 := by
    refine ⟨(ns.drop (cutIx ns.length 0 none)).take (cutIx ns.length ns.length (some 63) - cutIx ns.length 0 none), ?_, ?_⟩
    · unfold cut
      rw [List.length_map, List.map_take, List.map_drop]
    · have := List.length_take_le (cutIx ns.length ns.length (some 63) - cutIx ns.length 0 none) (ns.drop (cutIx ns.length 0 none))
      have h2 : cutIx ns.length ns.length (some 63) = min 63 ns.length := by simp [cutIx]
      omega
  obtain ⟨cs, hc, hcl⟩ := cutE
  have stepM : ∀ (A : D), ∀ x ∈ cs.map D.int, compStep PP.G (run PP 38) (.blt false .abs [.blt false .int [.var 2]]) (.n 2) [] [some A, none, none] x [] = .ok (some (match x with | .int z => .int (if z < 0 then -z else z) | d => d)) [] := by
    intro A x hx
    obtain ⟨z, _, rfl⟩ := List.mem_map.mp hx
    simp only [compStep, runFn, evSs, ev_var, ev_int, ev_bl, ev_non, ev_str, ev_glob, ev_bin, ev_neg, ev_not, ev_and, ev_or, ev_cmp, ev_chain, ev_isn, ev_isb, ev_ite, ev_tup, ev_lst, ev_idx, ev_slice, ev_call, ev_blt, ev_inst, ev_meth, ev_comp, evL_nil, evL_cons, evAnd_1, evOr_1, evAnd_cons, evOr_cons, evS_set, evS_par, evS_unp, evS_sub, evS_subs, evS_aug, evS_ex, evS_ret, evS_ite, evS_whl, evS_for, evS_brk, evS_pass, itE, pIter, srcOf, chk_nil, compEnd, evAnd1, evSub, evLT, evSubs, R.bind, R.thn, RS.turn, PR.fin, asB, kRef, kNeg, kNot, kIsn, kIsb, kTup, kInst, kSet, kPar, kPut, kAug, kSubs, isNon_non, isNon_bl, isNon_int, isNon_str, isNon_tup, isNon_lst, isNon_klst, isNon_ref, isT_non_int, isT_non_bool, isT_non_tuple, isT_non_list, isT_non_str, isT_non_tuple_list, isT_non_list_tuple, isT_bl_int, isT_bl_bool, isT_bl_tuple, isT_bl_list, isT_bl_str, isT_bl_tuple_list, isT_bl_list_tuple, isT_int_int, isT_int_bool, isT_int_tuple, isT_int_list, isT_int_str, isT_int_tuple_list, isT_int_list_tuple, isT_str_int, isT_str_bool, isT_str_tuple, isT_str_list, isT_str_str, isT_str_tuple_list, isT_str_list_tuple, isT_tup_int, isT_tup_bool, isT_tup_tuple, isT_tup_list, isT_tup_str, isT_tup_tuple_list, isT_tup_list_tuple, isT_lst_int, isT_lst_bool, isT_lst_tuple, isT_lst_list, isT_lst_str, isT_lst_tuple_list, isT_lst_list_tuple, isT_klst_int, isT_klst_bool, isT_klst_tuple, isT_klst_list, isT_klst_str, isT_klst_tuple_list, isT_klst_list_tuple, isT_ref_int, isT_ref_bool, isT_ref_tuple, isT_ref_list, isT_ref_str, isT_ref_tuple_list, isT_ref_list_tuple, cmp_eqI, cmp_neI, cmp_ltI, cmp_leI, cmp_gtI, cmp_geI, cmp_eqB, cmp_neB, idx_hand0, set_hand0, idx_hand1, set_hand1, idx_hand2, set_hand2, idx_hand3, set_hand3, idx_hand4, set_hand4, pBin, idx_tup0, idx_tup1, idx_tup2, idx_tup3, idx_tup4, idx_tup5, idx_tup6, idx_tup7, Int.cast_ofNat_Int, blt_abs, blt_int, blt_intB, blt_len_tup, blt_len_lst, blt_len_klst, blt_tuple_tup, blt_tuple_lst, blt_list_tup, blt_list_lst, blt_sum, blt_all_lst, blt_any_lst, blt_max2, blt_min2, intsD, boolsD, List.length_map, items, place, put, putL, wipe, Tg.names, Tg.namesL, deref, List.map_cons, List.map_nil, List.length_cons, List.length_nil, List.getElem?_cons_zero, List.getElem?_cons_succ, List.getElem?_nil, List.getElem?_append, List.set_cons_zero, List.set_cons_succ, List.set_nil, List.cons_append, List.nil_append, List.append_nil, List.replicate_succ, List.replicate_zero, Nat.sub_self, Nat.add_sub_cancel, Option.map_some, Option.map_none, Option.bind_some, Option.bind_none, Option.some.injEq, if_true, if_false, ite_true, ite_false, Bool.false_eq_true, reduceCtorEq, Nat.reduceSub, Nat.reduceAdd, Nat.reduceLT, Nat.reduceLeDiff, Nat.reduceEqDiff, Nat.reduceMul, Int.reduceLT, Int.reduceLE, Int.reduceEq, Int.reduceNe, Int.reducePow, Int.reduceToNat, Int.reduceNeg, Int.reduceNegSucc, Nat.zero_add, Int.reduceAdd, Int.reduceSub, Int.reduceMul, not_true_eq_false, not_false_eq_true, Nat.lt_irrefl, Nat.zero_le, Nat.zero_lt_succ, Nat.succ_sub_succ_eq_sub, Nat.reduceSucc, bne_tt, bne_tf, bne_ft, Bool.not_true, Bool.not_false, Bool.true_and, Bool.false_and, Bool.and_true, Bool.and_false, Bool.or_true, Bool.or_false, Bool.true_or, Bool.false_or, bne_self_eq_false, beq_self_eq_true]
  have cm := fun A => comp_map (cs.map D.int) [] (stepM A) (by simp; omega)
  have fm : (cs.map D.int).map (fun x => match x with | .int z => .int (if z < 0 then -z else z) | d => d) = (cs.map fun z => if z < 0 then -z else z).map D.int := by
    rw [List.map_map, List.map_map]
    rfl
  simp only [fm, List.nil_append] at cm
  have lz : cs.length ≤ 100000 := by omega
  have m13 : ∀ i, mulOk 13 i = true := fun i => mulOkL (by decide)
  have psl : pSlice [] (.klst (ns.map .int)) [] [.int 63] = .new (cs.map .int) := by
    simp only [pSlice, part, items, hc]
  refine ⟨_, ⟨cs.map fun z => if z < 0 then -z else z, 0, 0, 97 + 13 * cs.length, 0, rfl, by decide, by decide, fun c hc => ?_⟩, ?_⟩
  · obtain ⟨z, _, rfl⟩ := List.mem_map.mp hc
    split <;> omega
  · rw [has_run (n := 38) (F := Pl.F__law_hand_v52) (Q Pl.Q__law_hand_v52) (by decide) rfl]
    simp only [Pl.F__law_hand_v52, Pl.B__law_hand_v52, runFn, evSs, ev_var, ev_int, ev_bl, ev_non, ev_str, ev_glob, ev_bin, ev_neg, ev_not, ev_and, ev_or, ev_cmp, ev_chain, ev_isn, ev_isb, ev_ite, ev_tup, ev_lst, ev_idx, ev_slice, ev_call, ev_blt, ev_inst, ev_meth, ev_comp, evL_nil, evL_cons, evAnd_1, evOr_1, evAnd_cons, evOr_cons, evS_set, evS_par, evS_unp, evS_sub, evS_subs, evS_aug, evS_ex, evS_ret, evS_ite, evS_whl, evS_for, evS_brk, evS_pass, itE, pIter, srcOf, chk_nil, compEnd, evAnd1, evSub, evLT, evSubs, R.bind, R.thn, RS.turn, PR.fin, asB, kRef, kNeg, kNot, kIsn, kIsb, kTup, kInst, kSet, kPar, kPut, kAug, kSubs, isNon_non, isNon_bl, isNon_int, isNon_str, isNon_tup, isNon_lst, isNon_klst, isNon_ref, isT_non_int, isT_non_bool, isT_non_tuple, isT_non_list, isT_non_str, isT_non_tuple_list, isT_non_list_tuple, isT_bl_int, isT_bl_bool, isT_bl_tuple, isT_bl_list, isT_bl_str, isT_bl_tuple_list, isT_bl_list_tuple, isT_int_int, isT_int_bool, isT_int_tuple, isT_int_list, isT_int_str, isT_int_tuple_list, isT_int_list_tuple, isT_str_int, isT_str_bool, isT_str_tuple, isT_str_list, isT_str_str, isT_str_tuple_list, isT_str_list_tuple, isT_tup_int, isT_tup_bool, isT_tup_tuple, isT_tup_list, isT_tup_str, isT_tup_tuple_list, isT_tup_list_tuple, isT_lst_int, isT_lst_bool, isT_lst_tuple, isT_lst_list, isT_lst_str, isT_lst_tuple_list, isT_lst_list_tuple, isT_klst_int, isT_klst_bool, isT_klst_tuple, isT_klst_list, isT_klst_str, isT_klst_tuple_list, isT_klst_list_tuple, isT_ref_int, isT_ref_bool, isT_ref_tuple, isT_ref_list, isT_ref_str, isT_ref_tuple_list, isT_ref_list_tuple, cmp_eqI, cmp_neI, cmp_ltI, cmp_leI, cmp_gtI, cmp_geI, cmp_eqB, cmp_neB, idx_hand0, set_hand0, idx_hand1, set_hand1, idx_hand2, set_hand2, idx_hand3, set_hand3, idx_hand4, set_hand4, pBin, idx_tup0, idx_tup1, idx_tup2, idx_tup3, idx_tup4, idx_tup5, idx_tup6, idx_tup7, Int.cast_ofNat_Int, blt_abs, blt_int, blt_intB, blt_len_tup, blt_len_lst, blt_len_klst, blt_tuple_tup, blt_tuple_lst, blt_list_tup, blt_list_lst, blt_sum, blt_all_lst, blt_any_lst, blt_max2, blt_min2, intsD, boolsD, List.length_map, items, place, put, putL, wipe, Tg.names, Tg.namesL, deref, List.map_cons, List.map_nil, List.length_cons, List.length_nil, List.getElem?_cons_zero, List.getElem?_cons_succ, List.getElem?_nil, List.getElem?_append, List.set_cons_zero, List.set_cons_succ, List.set_nil, List.cons_append, List.nil_append, List.append_nil, List.replicate_succ, List.replicate_zero, Nat.sub_self, Nat.add_sub_cancel, Option.map_some, Option.map_none, Option.bind_some, Option.bind_none, Option.some.injEq, if_true, if_false, ite_true, ite_false, Bool.false_eq_true, reduceCtorEq, Nat.reduceSub, Nat.reduceAdd, Nat.reduceLT, Nat.reduceLeDiff, Nat.reduceEqDiff, Nat.reduceMul, Int.reduceLT, Int.reduceLE, Int.reduceEq, Int.reduceNe, Int.reducePow, Int.reduceToNat, Int.reduceNeg, Int.reduceNegSucc, Nat.zero_add, Int.reduceAdd, Int.reduceSub, Int.reduceMul, not_true_eq_false, not_false_eq_true, Nat.lt_irrefl, Nat.zero_le, Nat.zero_lt_succ, Nat.succ_sub_succ_eq_sub, Nat.reduceSucc, bne_tt, bne_tf, bne_ft, Bool.not_true, Bool.not_false, Bool.true_and, Bool.false_and, Bool.and_true, Bool.and_false, Bool.or_true, Bool.or_false, Bool.true_or, Bool.false_or, bne_self_eq_false, beq_self_eq_true, pOk, part, psl, lz, cm, m13]
theorem app1 {hd l : List D} {d : D} : pMeth [hd, l] .append (.ref 1) [d] = if l.length < 100000 then .ok .non [hd, l ++ [d]] else .bad := rfl
theorem turns {A B : Option D} : ∀ (xs acc : List D) (hd : List D) (t : Store), IsHand hd → acc.length + xs.length ≤ 100000 →
    ∃ s', compL (fun _ => true) (compStep PP.G (run PP 39) (.and [.call 520 [.var 1], .call 526 [.var 1]]) (.n 3) [] [A, some (.ref 0), B, none]) xs acc (hd :: t) = .ok (acc ++ xs.map fun _ => .bl true) s'
  | [], acc, hd, t, _, _ => ⟨hd :: t, by simp [compL]⟩
  | x :: xs, acc, hd, t, hh, hl => by
    obtain ⟨h1, t1, hh1, e1⟩ := closing (t := t) hh
    obtain ⟨h2, t2, hh2, e2⟩ := inner (t := t1) hh1
    obtain ⟨s', e⟩ := turns (A := A) (B := B) xs (acc ++ [.bl true]) h2 t2 hh2 (by simp at hl ⊢; omega)
    have step : compStep PP.G (run PP 39) (.and [.call 520 [.var 1], .call 526 [.var 1]]) (.n 3) [] [A, some (.ref 0), B, none] x (hd :: t) = .ok (some (.bl true)) (h2 :: t2) := by
      simp only [compStep, runFn, evSs, ev_var, ev_int, ev_bl, ev_non, ev_str, ev_glob, ev_bin, ev_neg, ev_not, ev_and, ev_or, ev_cmp, ev_chain, ev_isn, ev_isb, ev_ite, ev_tup, ev_lst, ev_idx, ev_slice, ev_call, ev_blt, ev_inst, ev_meth, ev_comp, evL_nil, evL_cons, evAnd_1, evOr_1, evAnd_cons, evOr_cons, evS_set, evS_par, evS_unp, evS_sub, evS_subs, evS_aug, evS_ex, evS_ret, evS_ite, evS_whl, evS_for, evS_brk, evS_pass, itE, pIter, srcOf, chk_nil, compEnd, evAnd1, evSub, evLT, evSubs, R.bind, R.thn, RS.turn, PR.fin, asB, kRef, kNeg, kNot, kIsn, kIsb, kTup, kInst, kSet, kPar, kPut, kAug, kSubs, isNon_non, isNon_bl, isNon_int, isNon_str, isNon_tup, isNon_lst, isNon_klst, isNon_ref, isT_non_int, isT_non_bool, isT_non_tuple, isT_non_list, isT_non_str, isT_non_tuple_list, isT_non_list_tuple, isT_bl_int, isT_bl_bool, isT_bl_tuple, isT_bl_list, isT_bl_str, isT_bl_tuple_list, isT_bl_list_tuple, isT_int_int, isT_int_bool, isT_int_tuple, isT_int_list, isT_int_str, isT_int_tuple_list, isT_int_list_tuple, isT_str_int, isT_str_bool, isT_str_tuple, isT_str_list, isT_str_str, isT_str_tuple_list, isT_str_list_tuple, isT_tup_int, isT_tup_bool, isT_tup_tuple, isT_tup_list, isT_tup_str, isT_tup_tuple_list, isT_tup_list_tuple, isT_lst_int, isT_lst_bool, isT_lst_tuple, isT_lst_list, isT_lst_str, isT_lst_tuple_list, isT_lst_list_tuple, isT_klst_int, isT_klst_bool, isT_klst_tuple, isT_klst_list, isT_klst_str, isT_klst_tuple_list, isT_klst_list_tuple, isT_ref_int, isT_ref_bool, isT_ref_tuple, isT_ref_list, isT_ref_str, isT_ref_tuple_list, isT_ref_list_tuple, cmp_eqI, cmp_neI, cmp_ltI, cmp_leI, cmp_gtI, cmp_geI, cmp_eqB, cmp_neB, idx_hand0, set_hand0, idx_hand1, set_hand1, idx_hand2, set_hand2, idx_hand3, set_hand3, idx_hand4, set_hand4, pBin, idx_tup0, idx_tup1, idx_tup2, idx_tup3, idx_tup4, idx_tup5, idx_tup6, idx_tup7, Int.cast_ofNat_Int, blt_abs, blt_int, blt_intB, blt_len_tup, blt_len_lst, blt_len_klst, blt_tuple_tup, blt_tuple_lst, blt_list_tup, blt_list_lst, blt_sum, blt_all_lst, blt_any_lst, blt_max2, blt_min2, intsD, boolsD, List.length_map, items, place, put, putL, wipe, Tg.names, Tg.namesL, deref, List.map_cons, List.map_nil, List.length_cons, List.length_nil, List.getElem?_cons_zero, List.getElem?_cons_succ, List.getElem?_nil, List.getElem?_append, List.set_cons_zero, List.set_cons_succ, List.set_nil, List.cons_append, List.nil_append, List.append_nil, List.replicate_succ, List.replicate_zero, Nat.sub_self, Nat.add_sub_cancel, Option.map_some, Option.map_none, Option.bind_some, Option.bind_none, Option.some.injEq, if_true, if_false, ite_true, ite_false, Bool.false_eq_true, reduceCtorEq, Nat.reduceSub, Nat.reduceAdd, Nat.reduceLT, Nat.reduceLeDiff, Nat.reduceEqDiff, Nat.reduceMul, Int.reduceLT, Int.reduceLE, Int.reduceEq, Int.reduceNe, Int.reducePow, Int.reduceToNat, Int.reduceNeg, Int.reduceNegSucc, Nat.zero_add, Int.reduceAdd, Int.reduceSub, Int.reduceMul, not_true_eq_false, not_false_eq_true, Nat.lt_irrefl, Nat.zero_le, Nat.zero_lt_succ, Nat.succ_sub_succ_eq_sub, Nat.reduceSucc, bne_tt, bne_tf, bne_ft, Bool.not_true, Bool.not_false, Bool.true_and, Bool.false_and, Bool.and_true, Bool.and_false, Bool.or_true, Bool.or_false, Bool.true_or, Bool.false_or, bne_self_eq_false, beq_self_eq_true, e1, e2]
    have hc : acc.length < 100000 := by simp at hl; omega
    refine ⟨s', ?_⟩
    simp only [compL, hc, and_self, if_true, step, R.bind, e]
    simp
theorem law_math : ∀ ns : List Int, ns.length ≤ 63 → ∃ s, run (progOf fns gs) 40 527 [.klst (ns.map .int)] [] = .ok (.bl true) s := by
  intro ns hl
  obtain ⟨hd, hh, e0⟩ := hand_ ns hl
  have i5 : Bq 5 (5 : Rat) := ⟨by decide, by decide⟩
  have i12 : Bq 5 (12 : Rat) := ⟨by decide, by decide⟩
  have i7 : Bq 5 (7 : Rat) := ⟨by decide, by decide⟩
  have i18 : Bq 5 (18 : Rat) := ⟨by decide, by decide⟩
  have T1 : ∀ s, run PP 39 511 [fr 5, fr 2, fr 5] s = .ok (.bl true) s := fun s => by
    have z : run PP 39 511 [fr 5, fr 2, fr 5] s = _ := three_eq (P := PP) (s := s) (Q _) (n := 35) 5 2 5 (by decide) (by decide)
    rw [z, decide_eq_true (by decide +kernel)]
  have T2 : ∀ s, run PP 39 511 [fr 5, fr 2, fr 4] s = .ok (.bl false) s := fun s => by
    have z : run PP 39 511 [fr 5, fr 2, fr 4] s = _ := three_eq (P := PP) (s := s) (Q _) (n := 35) 5 2 4 (by decide) (by decide)
    rw [z, decide_eq_false (by decide +kernel)]
  have T3 : ∀ s, run PP 39 512 [fr 12, fr 7, fr 18] s = .ok (.bl true) s := fun s => by
    have z : run PP 39 512 [fr 12, fr 7, fr 18] s = _ := four_eq (P := PP) (s := s) (Q _) (n := 35) 12 7 18 (by decide) (by decide) (by decide)
    rw [z, decide_eq_true (by decide +kernel)]
  have l5 : D.tup [.int 5, .int 1] = fr 5 := rfl
  have l2 : D.tup [.int 2, .int 1] = fr 2 := rfl
  have l4 : D.tup [.int 4, .int 1] = fr 4 := rfl
  have l12 : D.tup [.int 12, .int 1] = fr 12 := rfl
  have l7 : D.tup [.int 7, .int 1] = fr 7 := rfl
  have l18 : D.tup [.int 18, .int 1] = fr 18 := rfl
  have I1 : run PP 39 504 [.ref 1, .lst [.bl true, .bl false, .bl true]] [hd, [.bl true, .bl false, .bl true]] = .ok (.bl true) [hd, [.bl true, .bl false, .bl true]] := run_is3R (n := 36) (k := 1) (Q _) rfl (by simp) (by decide)
  obtain ⟨s', ts⟩ := turns (A := some (.klst (ns.map .int))) (B := some (.ref 1)) (upTo 0 4) [] hd [[.bl true, .bl false, .bl true]] hh (by decide)
  have ts' : compL (fun _ => true) (compStep PP.G (run PP 39) (.and [.call 520 [.var 1], .call 526 [.var 1]]) (.n 3) [] [some (.klst (ns.map .int)), some (.ref 0), some (.ref 1), none]) (upTo 0 4) [] [hd, [.bl true, .bl false, .bl true]] = .ok [.bl true, .bl true, .bl true, .bl true] s' := ts
  refine ⟨s', ?_⟩
  show run PP 40 527 _ _ = _
  rw [has_run (n := 39) (F := Pl.F_law) (Q Pl.Q_law) (by decide) rfl]
  refine runFn_rt rfl ⟨?rho, ?main⟩
  rotate_left
  show evSs _ _ Pl.B_law [some (.klst (ns.map .int)), none, none, none] _ = _
  unfold Pl.B_law
  refine' (evSs_step ?e_24).trans ?m_24
  case' e_24 => (simp only [runFn, evSs, ev_var, ev_int, ev_bl, ev_non, ev_str, ev_glob, ev_bin, ev_neg, ev_not, ev_and, ev_or, ev_cmp, ev_chain, ev_isn, ev_isb, ev_ite, ev_tup, ev_lst, ev_idx, ev_slice, ev_call, ev_blt, ev_inst, ev_meth, ev_comp, evL_nil, evL_cons, evAnd_1, evOr_1, evAnd_cons, evOr_cons, evS_set, evS_par, evS_unp, evS_sub, evS_subs, evS_aug, evS_ex, evS_ret, evS_ite, evS_whl, evS_for, evS_brk, evS_pass, itE, pIter, srcOf, chk_nil, compEnd, evAnd1, evSub, evLT, evSubs, R.bind, R.thn, RS.turn, PR.fin, asB, kRef, kNeg, kNot, kIsn, kIsb, kTup, kInst, kSet, kPar, kPut, kAug, kSubs, isNon_non, isNon_bl, isNon_int, isNon_str, isNon_tup, isNon_lst, isNon_klst, isNon_ref, isT_non_int, isT_non_bool, isT_non_tuple, isT_non_list, isT_non_str, isT_non_tuple_list, isT_non_list_tuple, isT_bl_int, isT_bl_bool, isT_bl_tuple, isT_bl_list, isT_bl_str, isT_bl_tuple_list, isT_bl_list_tuple, isT_int_int, isT_int_bool, isT_int_tuple, isT_int_list, isT_int_str, isT_int_tuple_list, isT_int_list_tuple, isT_str_int, isT_str_bool, isT_str_tuple, isT_str_list, isT_str_str, isT_str_tuple_list, isT_str_list_tuple, isT_tup_int, isT_tup_bool, isT_tup_tuple, isT_tup_list, isT_tup_str, isT_tup_tuple_list, isT_tup_list_tuple, isT_lst_int, isT_lst_bool, isT_lst_tuple, isT_lst_list, isT_lst_str, isT_lst_tuple_list, isT_lst_list_tuple, isT_klst_int, isT_klst_bool, isT_klst_tuple, isT_klst_list, isT_klst_str, isT_klst_tuple_list, isT_klst_list_tuple, isT_ref_int, isT_ref_bool, isT_ref_tuple, isT_ref_list, isT_ref_str, isT_ref_tuple_list, isT_ref_list_tuple, cmp_eqI, cmp_neI, cmp_ltI, cmp_leI, cmp_gtI, cmp_geI, cmp_eqB, cmp_neB, idx_hand0, set_hand0, idx_hand1, set_hand1, idx_hand2, set_hand2, idx_hand3, set_hand3, idx_hand4, set_hand4, pBin, idx_tup0, idx_tup1, idx_tup2, idx_tup3, idx_tup4, idx_tup5, idx_tup6, idx_tup7, Int.cast_ofNat_Int, blt_abs, blt_int, blt_intB, blt_len_tup, blt_len_lst, blt_len_klst, blt_tuple_tup, blt_tuple_lst, blt_list_tup, blt_list_lst, blt_sum, blt_all_lst, blt_any_lst, blt_max2, blt_min2, intsD, boolsD, List.length_map, items, place, put, putL, wipe, Tg.names, Tg.namesL, deref, List.map_cons, List.map_nil, List.length_cons, List.length_nil, List.getElem?_cons_zero, List.getElem?_cons_succ, List.getElem?_nil, List.getElem?_append, List.set_cons_zero, List.set_cons_succ, List.set_nil, List.cons_append, List.nil_append, List.append_nil, List.replicate_succ, List.replicate_zero, Nat.sub_self, Nat.add_sub_cancel, Option.map_some, Option.map_none, Option.bind_some, Option.bind_none, Option.some.injEq, if_true, if_false, ite_true, ite_false, Bool.false_eq_true, reduceCtorEq, Nat.reduceSub, Nat.reduceAdd, Nat.reduceLT, Nat.reduceLeDiff, Nat.reduceEqDiff, Nat.reduceMul, Int.reduceLT, Int.reduceLE, Int.reduceEq, Int.reduceNe, Int.reducePow, Int.reduceToNat, Int.reduceNeg, Int.reduceNegSucc, Nat.zero_add, Int.reduceAdd, Int.reduceSub, Int.reduceMul, not_true_eq_false, not_false_eq_true, Nat.lt_irrefl, Nat.zero_le, Nat.zero_lt_succ, Nat.succ_sub_succ_eq_sub, Nat.reduceSucc, bne_tt, bne_tf, bne_ft, Bool.not_true, Bool.not_false, Bool.true_and, Bool.false_and, Bool.and_true, Bool.and_false, Bool.or_true, Bool.or_false, Bool.true_or, Bool.false_or, bne_self_eq_false, beq_self_eq_true, e0] <;> rfl)
  case' m_24 => skip
  refine' (evSs_step ?e_25).trans ?m_25
  case' e_25 => (simp only [runFn, evSs, ev_var, ev_int, ev_bl, ev_non, ev_str, ev_glob, ev_bin, ev_neg, ev_not, ev_and, ev_or, ev_cmp, ev_chain, ev_isn, ev_isb, ev_ite, ev_tup, ev_lst, ev_idx, ev_slice, ev_call, ev_blt, ev_inst, ev_meth, ev_comp, evL_nil, evL_cons, evAnd_1, evOr_1, evAnd_cons, evOr_cons, evS_set, evS_par, evS_unp, evS_sub, evS_subs, evS_aug, evS_ex, evS_ret, evS_ite, evS_whl, evS_for, evS_brk, evS_pass, itE, pIter, srcOf, chk_nil, compEnd, evAnd1, evSub, evLT, evSubs, R.bind, R.thn, RS.turn, PR.fin, asB, kRef, kNeg, kNot, kIsn, kIsb, kTup, kInst, kSet, kPar, kPut, kAug, kSubs, isNon_non, isNon_bl, isNon_int, isNon_str, isNon_tup, isNon_lst, isNon_klst, isNon_ref, isT_non_int, isT_non_bool, isT_non_tuple, isT_non_list, isT_non_str, isT_non_tuple_list, isT_non_list_tuple, isT_bl_int, isT_bl_bool, isT_bl_tuple, isT_bl_list, isT_bl_str, isT_bl_tuple_list, isT_bl_list_tuple, isT_int_int, isT_int_bool, isT_int_tuple, isT_int_list, isT_int_str, isT_int_tuple_list, isT_int_list_tuple, isT_str_int, isT_str_bool, isT_str_tuple, isT_str_list, isT_str_str, isT_str_tuple_list, isT_str_list_tuple, isT_tup_int, isT_tup_bool, isT_tup_tuple, isT_tup_list, isT_tup_str, isT_tup_tuple_list, isT_tup_list_tuple, isT_lst_int, isT_lst_bool, isT_lst_tuple, isT_lst_list, isT_lst_str, isT_lst_tuple_list, isT_lst_list_tuple, isT_klst_int, isT_klst_bool, isT_klst_tuple, isT_klst_list, isT_klst_str, isT_klst_tuple_list, isT_klst_list_tuple, isT_ref_int, isT_ref_bool, isT_ref_tuple, isT_ref_list, isT_ref_str, isT_ref_tuple_list, isT_ref_list_tuple, cmp_eqI, cmp_neI, cmp_ltI, cmp_leI, cmp_gtI, cmp_geI, cmp_eqB, cmp_neB, idx_hand0, set_hand0, idx_hand1, set_hand1, idx_hand2, set_hand2, idx_hand3, set_hand3, idx_hand4, set_hand4, pBin, idx_tup0, idx_tup1, idx_tup2, idx_tup3, idx_tup4, idx_tup5, idx_tup6, idx_tup7, Int.cast_ofNat_Int, blt_abs, blt_int, blt_intB, blt_len_tup, blt_len_lst, blt_len_klst, blt_tuple_tup, blt_tuple_lst, blt_list_tup, blt_list_lst, blt_sum, blt_all_lst, blt_any_lst, blt_max2, blt_min2, intsD, boolsD, List.length_map, items, place, put, putL, wipe, Tg.names, Tg.namesL, deref, List.map_cons, List.map_nil, List.length_cons, List.length_nil, List.getElem?_cons_zero, List.getElem?_cons_succ, List.getElem?_nil, List.getElem?_append, List.set_cons_zero, List.set_cons_succ, List.set_nil, List.cons_append, List.nil_append, List.append_nil, List.replicate_succ, List.replicate_zero, Nat.sub_self, Nat.add_sub_cancel, Option.map_some, Option.map_none, Option.bind_some, Option.bind_none, Option.some.injEq, if_true, if_false, ite_true, ite_false, Bool.false_eq_true, reduceCtorEq, Nat.reduceSub, Nat.reduceAdd, Nat.reduceLT, Nat.reduceLeDiff, Nat.reduceEqDiff, Nat.reduceMul, Int.reduceLT, Int.reduceLE, Int.reduceEq, Int.reduceNe, Int.reducePow, Int.reduceToNat, Int.reduceNeg, Int.reduceNegSucc, Nat.zero_add, Int.reduceAdd, Int.reduceSub, Int.reduceMul, not_true_eq_false, not_false_eq_true, Nat.lt_irrefl, Nat.zero_le, Nat.zero_lt_succ, Nat.succ_sub_succ_eq_sub, Nat.reduceSucc, bne_tt, bne_tf, bne_ft, Bool.not_true, Bool.not_false, Bool.true_and, Bool.false_and, Bool.and_true, Bool.and_false, Bool.or_true, Bool.or_false, Bool.true_or, Bool.false_or, bne_self_eq_false, beq_self_eq_true, l5, l2, l4, T1, T2] <;> rfl)
  case' m_25 => skip
  refine' (evSs_step ?e_26).trans ?m_26
  case' e_26 => (simp only [runFn, evSs, ev_var, ev_int, ev_bl, ev_non, ev_str, ev_glob, ev_bin, ev_neg, ev_not, ev_and, ev_or, ev_cmp, ev_chain, ev_isn, ev_isb, ev_ite, ev_tup, ev_lst, ev_idx, ev_slice, ev_call, ev_blt, ev_inst, ev_meth, ev_comp, evL_nil, evL_cons, evAnd_1, evOr_1, evAnd_cons, evOr_cons, evS_set, evS_par, evS_unp, evS_sub, evS_subs, evS_aug, evS_ex, evS_ret, evS_ite, evS_whl, evS_for, evS_brk, evS_pass, itE, pIter, srcOf, chk_nil, compEnd, evAnd1, evSub, evLT, evSubs, R.bind, R.thn, RS.turn, PR.fin, asB, kRef, kNeg, kNot, kIsn, kIsb, kTup, kInst, kSet, kPar, kPut, kAug, kSubs, isNon_non, isNon_bl, isNon_int, isNon_str, isNon_tup, isNon_lst, isNon_klst, isNon_ref, isT_non_int, isT_non_bool, isT_non_tuple, isT_non_list, isT_non_str, isT_non_tuple_list, isT_non_list_tuple, isT_bl_int, isT_bl_bool, isT_bl_tuple, isT_bl_list, isT_bl_str, isT_bl_tuple_list, isT_bl_list_tuple, isT_int_int, isT_int_bool, isT_int_tuple, isT_int_list, isT_int_str, isT_int_tuple_list, isT_int_list_tuple, isT_str_int, isT_str_bool, isT_str_tuple, isT_str_list, isT_str_str, isT_str_tuple_list, isT_str_list_tuple, isT_tup_int, isT_tup_bool, isT_tup_tuple, isT_tup_list, isT_tup_str, isT_tup_tuple_list, isT_tup_list_tuple, isT_lst_int, isT_lst_bool, isT_lst_tuple, isT_lst_list, isT_lst_str, isT_lst_tuple_list, isT_lst_list_tuple, isT_klst_int, isT_klst_bool, isT_klst_tuple, isT_klst_list, isT_klst_str, isT_klst_tuple_list, isT_klst_list_tuple, isT_ref_int, isT_ref_bool, isT_ref_tuple, isT_ref_list, isT_ref_str, isT_ref_tuple_list, isT_ref_list_tuple, cmp_eqI, cmp_neI, cmp_ltI, cmp_leI, cmp_gtI, cmp_geI, cmp_eqB, cmp_neB, idx_hand0, set_hand0, idx_hand1, set_hand1, idx_hand2, set_hand2, idx_hand3, set_hand3, idx_hand4, set_hand4, pBin, idx_tup0, idx_tup1, idx_tup2, idx_tup3, idx_tup4, idx_tup5, idx_tup6, idx_tup7, Int.cast_ofNat_Int, blt_abs, blt_int, blt_intB, blt_len_tup, blt_len_lst, blt_len_klst, blt_tuple_tup, blt_tuple_lst, blt_list_tup, blt_list_lst, blt_sum, blt_all_lst, blt_any_lst, blt_max2, blt_min2, intsD, boolsD, List.length_map, items, place, put, putL, wipe, Tg.names, Tg.namesL, deref, List.map_cons, List.map_nil, List.length_cons, List.length_nil, List.getElem?_cons_zero, List.getElem?_cons_succ, List.getElem?_nil, List.getElem?_append, List.set_cons_zero, List.set_cons_succ, List.set_nil, List.cons_append, List.nil_append, List.append_nil, List.replicate_succ, List.replicate_zero, Nat.sub_self, Nat.add_sub_cancel, Option.map_some, Option.map_none, Option.bind_some, Option.bind_none, Option.some.injEq, if_true, if_false, ite_true, ite_false, Bool.false_eq_true, reduceCtorEq, Nat.reduceSub, Nat.reduceAdd, Nat.reduceLT, Nat.reduceLeDiff, Nat.reduceEqDiff, Nat.reduceMul, Int.reduceLT, Int.reduceLE, Int.reduceEq, Int.reduceNe, Int.reducePow, Int.reduceToNat, Int.reduceNeg, Int.reduceNegSucc, Nat.zero_add, Int.reduceAdd, Int.reduceSub, Int.reduceMul, not_true_eq_false, not_false_eq_true, Nat.lt_irrefl, Nat.zero_le, Nat.zero_lt_succ, Nat.succ_sub_succ_eq_sub, Nat.reduceSucc, bne_tt, bne_tf, bne_ft, Bool.not_true, Bool.not_false, Bool.true_and, Bool.false_and, Bool.and_true, Bool.and_false, Bool.or_true, Bool.or_false, Bool.true_or, Bool.false_or, bne_self_eq_false, beq_self_eq_true, l12, l7, l18, T3, app1] <;> rfl)
  case' m_26 => skip
  refine' (evSs_step ?e_27).trans ?m_27
  case' e_27 => (simp only [runFn, evSs, ev_var, ev_int, ev_bl, ev_non, ev_str, ev_glob, ev_bin, ev_neg, ev_not, ev_and, ev_or, ev_cmp, ev_chain, ev_isn, ev_isb, ev_ite, ev_tup, ev_lst, ev_idx, ev_slice, ev_call, ev_blt, ev_inst, ev_meth, ev_comp, evL_nil, evL_cons, evAnd_1, evOr_1, evAnd_cons, evOr_cons, evS_set, evS_par, evS_unp, evS_sub, evS_subs, evS_aug, evS_ex, evS_ret, evS_ite, evS_whl, evS_for, evS_brk, evS_pass, itE, pIter, srcOf, chk_nil, compEnd, evAnd1, evSub, evLT, evSubs, R.bind, R.thn, RS.turn, PR.fin, asB, kRef, kNeg, kNot, kIsn, kIsb, kTup, kInst, kSet, kPar, kPut, kAug, kSubs, isNon_non, isNon_bl, isNon_int, isNon_str, isNon_tup, isNon_lst, isNon_klst, isNon_ref, isT_non_int, isT_non_bool, isT_non_tuple, isT_non_list, isT_non_str, isT_non_tuple_list, isT_non_list_tuple, isT_bl_int, isT_bl_bool, isT_bl_tuple, isT_bl_list, isT_bl_str, isT_bl_tuple_list, isT_bl_list_tuple, isT_int_int, isT_int_bool, isT_int_tuple, isT_int_list, isT_int_str, isT_int_tuple_list, isT_int_list_tuple, isT_str_int, isT_str_bool, isT_str_tuple, isT_str_list, isT_str_str, isT_str_tuple_list, isT_str_list_tuple, isT_tup_int, isT_tup_bool, isT_tup_tuple, isT_tup_list, isT_tup_str, isT_tup_tuple_list, isT_tup_list_tuple, isT_lst_int, isT_lst_bool, isT_lst_tuple, isT_lst_list, isT_lst_str, isT_lst_tuple_list, isT_lst_list_tuple, isT_klst_int, isT_klst_bool, isT_klst_tuple, isT_klst_list, isT_klst_str, isT_klst_tuple_list, isT_klst_list_tuple, isT_ref_int, isT_ref_bool, isT_ref_tuple, isT_ref_list, isT_ref_str, isT_ref_tuple_list, isT_ref_list_tuple, cmp_eqI, cmp_neI, cmp_ltI, cmp_leI, cmp_gtI, cmp_geI, cmp_eqB, cmp_neB, idx_hand0, set_hand0, idx_hand1, set_hand1, idx_hand2, set_hand2, idx_hand3, set_hand3, idx_hand4, set_hand4, pBin, idx_tup0, idx_tup1, idx_tup2, idx_tup3, idx_tup4, idx_tup5, idx_tup6, idx_tup7, Int.cast_ofNat_Int, blt_abs, blt_int, blt_intB, blt_len_tup, blt_len_lst, blt_len_klst, blt_tuple_tup, blt_tuple_lst, blt_list_tup, blt_list_lst, blt_sum, blt_all_lst, blt_any_lst, blt_max2, blt_min2, intsD, boolsD, List.length_map, items, place, put, putL, wipe, Tg.names, Tg.namesL, deref, List.map_cons, List.map_nil, List.length_cons, List.length_nil, List.getElem?_cons_zero, List.getElem?_cons_succ, List.getElem?_nil, List.getElem?_append, List.set_cons_zero, List.set_cons_succ, List.set_nil, List.cons_append, List.nil_append, List.append_nil, List.replicate_succ, List.replicate_zero, Nat.sub_self, Nat.add_sub_cancel, Option.map_some, Option.map_none, Option.bind_some, Option.bind_none, Option.some.injEq, if_true, if_false, ite_true, ite_false, Bool.false_eq_true, reduceCtorEq, Nat.reduceSub, Nat.reduceAdd, Nat.reduceLT, Nat.reduceLeDiff, Nat.reduceEqDiff, Nat.reduceMul, Int.reduceLT, Int.reduceLE, Int.reduceEq, Int.reduceNe, Int.reducePow, Int.reduceToNat, Int.reduceNeg, Int.reduceNegSucc, Nat.zero_add, Int.reduceAdd, Int.reduceSub, Int.reduceMul, not_true_eq_false, not_false_eq_true, Nat.lt_irrefl, Nat.zero_le, Nat.zero_lt_succ, Nat.succ_sub_succ_eq_sub, Nat.reduceSucc, bne_tt, bne_tf, bne_ft, Bool.not_true, Bool.not_false, Bool.true_and, Bool.false_and, Bool.and_true, Bool.and_false, Bool.or_true, Bool.or_false, Bool.true_or, Bool.false_or, bne_self_eq_false, beq_self_eq_true, I1] <;> rfl)
  case' m_27 => skip
  refine evSs_ret ?_
  simp only [runFn, evSs, ev_var, ev_int, ev_bl, ev_non, ev_str, ev_glob, ev_bin, ev_neg, ev_not, ev_and, ev_or, ev_cmp, ev_chain, ev_isn, ev_isb, ev_ite, ev_tup, ev_lst, ev_idx, ev_slice, ev_call, ev_blt, ev_inst, ev_meth, ev_comp, evL_nil, evL_cons, evAnd_1, evOr_1, evAnd_cons, evOr_cons, evS_set, evS_par, evS_unp, evS_sub, evS_subs, evS_aug, evS_ex, evS_ret, evS_ite, evS_whl, evS_for, evS_brk, evS_pass, itE, pIter, srcOf, chk_nil, compEnd, evAnd1, evSub, evLT, evSubs, R.bind, R.thn, RS.turn, PR.fin, asB, kRef, kNeg, kNot, kIsn, kIsb, kTup, kInst, kSet, kPar, kPut, kAug, kSubs, isNon_non, isNon_bl, isNon_int, isNon_str, isNon_tup, isNon_lst, isNon_klst, isNon_ref, isT_non_int, isT_non_bool, isT_non_tuple, isT_non_list, isT_non_str, isT_non_tuple_list, isT_non_list_tuple, isT_bl_int, isT_bl_bool, isT_bl_tuple, isT_bl_list, isT_bl_str, isT_bl_tuple_list, isT_bl_list_tuple, isT_int_int, isT_int_bool, isT_int_tuple, isT_int_list, isT_int_str, isT_int_tuple_list, isT_int_list_tuple, isT_str_int, isT_str_bool, isT_str_tuple, isT_str_list, isT_str_str, isT_str_tuple_list, isT_str_list_tuple, isT_tup_int, isT_tup_bool, isT_tup_tuple, isT_tup_list, isT_tup_str, isT_tup_tuple_list, isT_tup_list_tuple, isT_lst_int, isT_lst_bool, isT_lst_tuple, isT_lst_list, isT_lst_str, isT_lst_tuple_list, isT_lst_list_tuple, isT_klst_int, isT_klst_bool, isT_klst_tuple, isT_klst_list, isT_klst_str, isT_klst_tuple_list, isT_klst_list_tuple, isT_ref_int, isT_ref_bool, isT_ref_tuple, isT_ref_list, isT_ref_str, isT_ref_tuple_list, isT_ref_list_tuple, cmp_eqI, cmp_neI, cmp_ltI, cmp_leI, cmp_gtI, cmp_geI, cmp_eqB, cmp_neB, idx_hand0, set_hand0, idx_hand1, set_hand1, idx_hand2, set_hand2, idx_hand3, set_hand3, idx_hand4, set_hand4, pBin, idx_tup0, idx_tup1, idx_tup2, idx_tup3, idx_tup4, idx_tup5, idx_tup6, idx_tup7, Int.cast_ofNat_Int, blt_abs, blt_int, blt_intB, blt_len_tup, blt_len_lst, blt_len_klst, blt_tuple_tup, blt_tuple_lst, blt_list_tup, blt_list_lst, blt_sum, blt_all_lst, blt_any_lst, blt_max2, blt_min2, intsD, boolsD, List.length_map, items, place, put, putL, wipe, Tg.names, Tg.namesL, deref, List.map_cons, List.map_nil, List.length_cons, List.length_nil, List.getElem?_cons_zero, List.getElem?_cons_succ, List.getElem?_nil, List.getElem?_append, List.set_cons_zero, List.set_cons_succ, List.set_nil, List.cons_append, List.nil_append, List.append_nil, List.replicate_succ, List.replicate_zero, Nat.sub_self, Nat.add_sub_cancel, Option.map_some, Option.map_none, Option.bind_some, Option.bind_none, Option.some.injEq, if_true, if_false, ite_true, ite_false, Bool.false_eq_true, reduceCtorEq, Nat.reduceSub, Nat.reduceAdd, Nat.reduceLT, Nat.reduceLeDiff, Nat.reduceEqDiff, Nat.reduceMul, Int.reduceLT, Int.reduceLE, Int.reduceEq, Int.reduceNe, Int.reducePow, Int.reduceToNat, Int.reduceNeg, Int.reduceNegSucc, Nat.zero_add, Int.reduceAdd, Int.reduceSub, Int.reduceMul, not_true_eq_false, not_false_eq_true, Nat.lt_irrefl, Nat.zero_le, Nat.zero_lt_succ, Nat.succ_sub_succ_eq_sub, Nat.reduceSucc, bne_tt, bne_tf, bne_ft, Bool.not_true, Bool.not_false, Bool.true_and, Bool.false_and, Bool.and_true, Bool.and_false, Bool.or_true, Bool.or_false, Bool.true_or, Bool.false_or, bne_self_eq_false, beq_self_eq_true, ts', Int.reducePow, Int.reduceNeg, and_self, List.all_cons, List.all_nil, id]
end K60

namespace K60
open Pi PySem
abbrev topS (i : Nat) : Stmt := PySem.Challenge.pw_drawnexact_k60_whole_closing_rounds_and.main.body.getD i (.Pass ⟨0, 0, 0, 0⟩)
def T__law_hand : List Tr := [.c (p3 187 4 55) (p3 187 4 12) [.nd (p3 187 15 55) ⟨0, 0, 0, 0⟩ ⟨.function, [(".0", .local), ("cell", .local), ("abs", .globalImplicit), ("int", .globalImplicit)], false, false, []⟩ [.c (p3 187 16 30) (p3 187 16 19) [.c (p3 187 20 29) (p3 187 20 23) [.a (p3 187 24 28)]], .a (p3 187 35 39), .b (p3 187 43 54) [.c (p3 187 43 54) (p3 187 50 53) [.a (p3 187 43 49), .a (p3 187 43 54), .b (p3 187 43 54) [.a (p3 187 51 53)]]], .a (p3 187 15 55)]], .b (p3 188 4 55) [.b (p3 188 11 55) [.a (p3 188 12 20), .a (p3 188 22 23), .a (p3 188 25 26), .b (p3 188 28 51) [.a (p3 188 28 30), .b (p3 188 33 51) [.a (p3 188 33 35), .c (p3 188 38 51) (p3 188 38 41) [.a (p3 188 42 50)]]], .a (p3 188 53 54)]]]
def S__law_hand : FSrc := ⟨"_law_hand", ["script"], ["script", "cells_so", "cell"], T__law_hand, topS 47⟩
def T_common : List Tr := [.b (p3 41 4 39) [.b (p3 41 4 14) [.a (p3 41 4 7), .a (p3 41 9 14)], .b (p3 41 17 39) [.c (p3 41 18 26) (p3 41 18 21) [.a (p3 41 22 25)], .c (p3 41 28 38) (p3 41 28 31) [.a (p3 41 32 37)]]], .b (p4 42 4 43 46) [.b (p3 42 10 19) [.a (p3 42 10 15), .a (p3 42 18 19)], .b (p4 42 4 43 46) [.b (p3 43 8 46) [.b (p3 43 8 18) [.a (p3 43 8 11), .a (p3 43 13 18)], .b (p3 43 21 46) [.a (p3 43 22 27), .b (p3 43 29 45) [.c (p3 43 29 37) (p3 43 29 32) [.a (p3 43 33 36)], .a (p3 43 40 45)]]]]], .b (p3 44 4 14) [.a (p3 44 11 14)]]
def S_common : FSrc := ⟨"common", ["one", "other"], ["one", "other"], T_common, topS 12⟩
def T_fraction : List Tr := [.b (p4 46 4 47 26) [.b (p3 46 7 18) [.a (p3 46 7 13), .a (p3 46 17 18)], .b (p4 46 4 47 26) [.c (p3 47 8 26) (p3 47 14 24) [.a (p3 47 14 26)]], .b (p4 46 4 47 26) []], .b (p4 48 4 49 37) [.b (p3 48 7 17) [.a (p3 48 7 13), .a (p3 48 16 17)], .b (p4 48 4 49 37) [.b (p3 49 8 37) [.b (p3 49 8 19) [.a (p3 49 8 11), .a (p3 49 13 19)], .b (p3 49 22 37) [.b (p3 49 23 27) [.a (p3 49 24 27)], .b (p3 49 29 36) [.a (p3 49 30 36)]]]], .b (p4 48 4 49 37) []], .c (p3 50 4 33) (p3 50 4 11) [.c (p3 50 14 33) (p3 50 14 20) [.a (p3 50 21 24), .a (p3 50 26 32)]], .b (p3 51 4 46) [.b (p3 51 11 46) [.b (p3 51 12 26) [.a (p3 51 12 15), .a (p3 51 19 26)], .b (p3 51 28 45) [.a (p3 51 28 34), .a (p3 51 38 45)]]]]
def S_fraction : FSrc := ⟨"fraction", ["top", "bottom"], ["top", "bottom", "divisor"], T_fraction, topS 13⟩
def T_minus : List Tr := [.b (p3 61 4 77) [.c (p3 61 11 77) (p3 61 11 19) [.b (p3 61 20 57) [.b (p3 61 20 37) [.b (p3 61 20 26) [.a (p3 61 20 23), .a (p3 61 24 25)], .b (p3 61 29 37) [.a (p3 61 29 34), .a (p3 61 35 36)]], .b (p3 61 40 57) [.b (p3 61 40 48) [.a (p3 61 40 45), .a (p3 61 46 47)], .b (p3 61 51 57) [.a (p3 61 51 54), .a (p3 61 55 56)]]], .b (p3 61 59 76) [.b (p3 61 59 65) [.a (p3 61 59 62), .a (p3 61 63 64)], .b (p3 61 68 76) [.a (p3 61 68 73), .a (p3 61 74 75)]]]]]
def S_minus : FSrc := ⟨"minus", ["one", "other"], ["one", "other"], T_minus, topS 17⟩
def T_times : List Tr := [.b (p3 63 4 57) [.c (p3 63 11 57) (p3 63 11 19) [.b (p3 63 20 37) [.b (p3 63 20 26) [.a (p3 63 20 23), .a (p3 63 24 25)], .b (p3 63 29 37) [.a (p3 63 29 34), .a (p3 63 35 36)]], .b (p3 63 39 56) [.b (p3 63 39 45) [.a (p3 63 39 42), .a (p3 63 43 44)], .b (p3 63 48 56) [.a (p3 63 48 53), .a (p3 63 54 55)]]]]]
def S_times : FSrc := ⟨"times", ["one", "other"], ["one", "other"], T_times, topS 18⟩
def T_three_closes : List Tr := [.b (p3 181 4 79) [.b (p3 181 11 79) [.c (p3 181 11 72) (p3 181 11 16) [.c (p3 181 17 36) (p3 181 17 22) [.a (p3 181 23 28), .a (p3 181 30 35)], .c (p3 181 38 71) (p3 181 38 43) [.b (p3 181 44 50) [.a (p3 181 45 46), .a (p3 181 48 49)], .c (p3 181 52 70) (p3 181 52 57) [.a (p3 181 58 63), .a (p3 181 65 69)]]], .a (p3 181 76 79)]]]
def S_three_closes : FSrc := ⟨"three_closes", ["first", "last", "far"], ["first", "last", "far"], T_three_closes, topS 44⟩
def T_plus : List Tr := [.b (p3 59 4 77) [.c (p3 59 11 77) (p3 59 11 19) [.b (p3 59 20 57) [.b (p3 59 20 37) [.b (p3 59 20 26) [.a (p3 59 20 23), .a (p3 59 24 25)], .b (p3 59 29 37) [.a (p3 59 29 34), .a (p3 59 35 36)]], .b (p3 59 40 57) [.b (p3 59 40 48) [.a (p3 59 40 45), .a (p3 59 46 47)], .b (p3 59 51 57) [.a (p3 59 51 54), .a (p3 59 55 56)]]], .b (p3 59 59 76) [.b (p3 59 59 65) [.a (p3 59 59 62), .a (p3 59 63 64)], .b (p3 59 68 76) [.a (p3 59 68 73), .a (p3 59 74 75)]]]]]
def S_plus : FSrc := ⟨"plus", ["one", "other"], ["one", "other"], T_plus, topS 16⟩
def T_four_closes : List Tr := [.b (p3 183 4 85) [.b (p3 183 4 17) [.a (p3 183 4 11), .a (p3 183 13 17)], .b (p3 183 20 85) [.c (p3 183 21 51) (p3 183 21 25) [.c (p3 183 26 45) (p3 183 26 31) [.a (p3 183 32 37), .a (p3 183 39 44)], .a (p3 183 47 50)], .c (p3 183 53 84) (p3 183 53 58) [.c (p3 183 59 78) (p3 183 59 64) [.a (p3 183 65 70), .a (p3 183 72 77)], .a (p3 183 80 83)]]], .b (p3 184 4 80) [.b (p3 184 11 80) [.c (p3 184 11 59) (p3 184 11 16) [.b (p3 184 17 23) [.a (p3 184 18 19), .a (p3 184 21 22)], .c (p3 184 25 58) (p3 184 25 30) [.c (p3 184 31 48) (p3 184 31 36) [.a (p3 184 37 41), .a (p3 184 43 47)], .a (p3 184 50 57)]], .c (p3 184 63 80) (p3 184 63 68) [.a (p3 184 69 73), .a (p3 184 75 79)]]]]
def S_four_closes : FSrc := ⟨"four_closes", ["first", "last", "far"], ["first", "last", "far", "squares", "rest"], T_four_closes, topS 45⟩
def T__law_is : List Tr := [.b (p4 208 4 209 44) [.b (p3 208 7 35) [.c (p3 208 7 18) (p3 208 14 18) [.a (p3 208 7 10)], .c (p3 208 22 35) (p3 208 31 35) [.a (p3 208 22 27)]], .b (p4 208 4 209 44) [.b (p3 209 8 44) [.b (p3 209 15 44) [.c (p3 209 15 26) (p3 209 22 26) [.a (p3 209 15 18)], .c (p3 209 31 44) (p3 209 40 44) [.a (p3 209 31 36)]]]], .b (p4 208 4 209 44) []], .b (p4 210 4 215 102) [.b (p3 210 7 54) [.c (p3 210 7 29) (p3 210 7 17) [.a (p3 210 18 21), .a (p3 210 23 28)], .c (p3 210 33 54) (p3 210 33 43) [.a (p3 210 44 47), .a (p3 210 49 53)]], .b (p4 210 4 215 102) [.b (p4 211 8 212 24) [.b (p3 211 11 61) [.c (p3 211 11 35) (p3 211 11 21) [.a (p3 211 22 27), .a (p3 211 29 34)], .c (p3 211 39 61) (p3 211 39 49) [.a (p3 211 50 53), .a (p3 211 55 60)]], .b (p4 211 8 212 24) [.b (p3 212 12 24) [.a (p3 212 19 24)]], .b (p4 211 8 212 24) []], .b (p4 213 8 214 24) [.b (p3 213 11 59) [.c (p3 213 11 34) (p3 213 11 21) [.a (p3 213 22 27), .a (p3 213 29 33)], .c (p3 213 38 59) (p3 213 38 48) [.a (p3 213 49 52), .a (p3 213 54 58)]], .b (p4 213 8 214 24) [.b (p3 214 12 24) [.a (p3 214 19 24)]], .b (p4 213 8 214 24) []], .b (p3 215 8 102) [.b (p3 215 15 102) [.b (p3 215 15 37) [.c (p3 215 15 25) (p3 215 15 18) [.a (p3 215 19 24)], .c (p3 215 29 37) (p3 215 29 32) [.a (p3 215 33 36)]], .c (p3 215 42 102) (p3 215 42 45) [.nd (p3 215 46 101) ⟨0, 0, 0, 0⟩ ⟨.function, [(".0", .local), ("one", .local), ("other", .local), ("_law_is", .globalImplicit)], false, false, []⟩ [.c (p3 215 47 66) (p3 215 47 54) [.a (p3 215 55 58), .a (p3 215 60 65)], .b (p3 215 71 81) [.a (p3 215 71 74), .a (p3 215 76 81)], .c (p3 215 85 100) (p3 215 85 88) [.a (p3 215 89 94), .a (p3 215 96 99)], .a (p3 215 46 101)]]]]], .b (p4 210 4 215 102) []], .b (p4 216 4 217 20) [.b (p3 216 7 105) [.b (p3 216 7 55) [.c (p3 216 7 30) (p3 216 7 17) [.a (p3 216 18 23), .a (p3 216 25 29)], .c (p3 216 34 55) (p3 216 34 44) [.a (p3 216 45 48), .a (p3 216 50 54)]], .b (p3 216 59 105) [.c (p3 216 59 81) (p3 216 59 69) [.a (p3 216 70 75), .a (p3 216 77 80)], .c (p3 216 85 105) (p3 216 85 95) [.a (p3 216 96 99), .a (p3 216 101 104)]]], .b (p4 216 4 217 20) [.b (p3 217 8 20) [.a (p3 217 15 20)]], .b (p4 216 4 217 20) []], .b (p3 218 4 74) [.b (p3 218 11 74) [.b (p3 218 11 57) [.c (p3 218 11 33) (p3 218 11 21) [.a (p3 218 22 27), .a (p3 218 29 32)], .c (p3 218 37 57) (p3 218 37 47) [.a (p3 218 48 51), .a (p3 218 53 56)]], .b (p3 218 62 74) [.a (p3 218 62 67), .a (p3 218 71 74)]]]]
def S__law_is : FSrc := ⟨"_law_is", ["given", "due"], ["given", "due", "one", "other"], T__law_is, topS 50⟩
def T__law_low : List Tr := [.b (p3 220 4 40) [.b (p3 220 4 14) [.a (p3 220 4 7), .a (p3 220 9 14)], .b (p3 220 17 40) [.c (p3 220 18 26) (p3 220 18 21) [.a (p3 220 22 25)], .c (p3 220 28 39) (p3 220 28 31) [.a (p3 220 32 38)]]], .b (p4 221 4 222 46) [.b (p3 221 10 19) [.a (p3 221 10 15), .a (p3 221 18 19)], .b (p4 221 4 222 46) [.b (p3 222 8 46) [.b (p3 222 8 18) [.a (p3 222 8 11), .a (p3 222 13 18)], .b (p3 222 21 46) [.a (p3 222 22 27), .b (p3 222 29 45) [.c (p3 222 29 37) (p3 222 29 32) [.a (p3 222 33 36)], .a (p3 222 40 45)]]]]], .c (p3 223 4 34) (p3 223 4 8) [.b (p3 223 11 34) [.b (p3 223 16 26) [.a (p3 223 16 22), .a (p3 223 25 26)], .a (p3 223 11 12), .b (p3 223 32 34) [.a (p3 223 33 34)]]], .b (p3 224 4 52) [.b (p3 224 11 52) [.b (p3 224 12 29) [.b (p3 224 12 22) [.a (p3 224 12 16), .a (p3 224 19 22)], .a (p3 224 26 29)], .b (p3 224 31 51) [.b (p3 224 31 44) [.a (p3 224 31 35), .a (p3 224 38 44)], .a (p3 224 48 51)]]]]
def S__law_low : FSrc := ⟨"_law_low", ["top", "bottom"], ["top", "bottom", "one", "other", "sign"], T__law_low, topS 51⟩
def T__law_draw : List Tr := [.b (p4 190 4 195 26) [.b (p3 190 7 46) [.b (p3 190 7 19) [.b (p3 190 7 14) [.a (p3 190 7 11), .a (p3 190 12 13)], .a (p3 190 18 19)], .b (p3 190 24 46) [.b (p3 190 24 31) [.a (p3 190 24 28), .a (p3 190 29 30)], .c (p3 190 34 46) (p3 190 34 37) [.b (p3 190 38 45) [.a (p3 190 38 42), .a (p3 190 43 44)]]]], .b (p4 190 4 195 26) [.c (p3 191 8 31) (p3 191 8 12) [.b (p3 191 15 31) [.b (p3 191 15 22) [.a (p3 191 15 19), .a (p3 191 20 21)], .b (p3 191 23 30) [.a (p3 191 23 27), .a (p3 191 28 29)]]], .c (p3 192 8 29) (p3 192 8 15) [.a (p3 192 8 12), .a (p3 192 13 14), .b (p3 192 18 29) [.b (p3 192 18 25) [.a (p3 192 18 22), .a (p3 192 23 24)], .a (p3 192 28 29)]], .c (p3 193 8 71) (p3 193 8 15) [.a (p3 193 8 12), .a (p3 193 13 14), .b (p3 193 18 71) [.c (p3 193 18 58) (p3 193 18 21) [.b (p3 193 22 57) [.b (p3 193 22 52) [.b (p3 193 22 37) [.b (p3 193 22 29) [.a (p3 193 22 26), .a (p3 193 27 28)], .a (p3 193 32 37)], .b (p3 193 40 52) [.a (p3 193 40 44), .a (p3 193 47 52)]], .a (p3 193 55 57)]], .a (p3 193 61 71)]], .b (p4 194 8 195 26) [.b (p3 194 11 27) [.a (p3 194 11 15), .b (p3 194 19 27) [.a (p3 194 19 21), .a (p3 194 25 27)]], .b (p4 194 8 195 26) [.c (p3 195 12 26) (p3 195 12 19) [.a (p3 195 12 16), .a (p3 195 17 18), .a (p3 195 22 26)]], .b (p4 194 8 195 26) []]], .b (p4 190 4 195 26) []], .b (p4 196 4 199 20) [.b (p3 196 7 18) [.b (p3 196 7 14) [.a (p3 196 7 11), .a (p3 196 12 13)], .a (p3 196 17 18)], .b (p4 196 4 199 20) [.c (p3 197 8 35) (p3 197 8 13) [.b (p3 197 16 35) [.c (p3 197 16 28) (p3 197 16 19) [.b (p3 197 20 27) [.a (p3 197 20 24), .a (p3 197 25 26)]], .a (p3 197 31 35)]], .c (p3 198 8 33) (p3 198 8 15) [.a (p3 198 8 12), .a (p3 198 13 14), .b (p3 198 18 33) [.b (p3 198 18 25) [.a (p3 198 18 22), .a (p3 198 23 24)], .a (p3 198 29 33)]], .b (p3 199 8 20) [.a (p3 199 15 20)]], .b (p4 196 4 199 20) []], .c (p3 200 4 25) (p3 200 4 11) [.a (p3 200 4 8), .a (p3 200 9 10), .b (p3 200 14 25) [.b (p3 200 14 21) [.a (p3 200 14 18), .a (p3 200 19 20)], .a (p3 200 24 25)]], .c (p3 201 4 68) (p3 201 4 10) [.b (p3 201 13 68) [.c (p3 201 13 55) (p3 201 13 16) [.b (p3 201 17 54) [.c (p3 201 17 46) (p3 201 17 20) [.b (p3 201 21 45) [.b (p3 201 21 28) [.a (p3 201 21 25), .a (p3 201 26 27)], .b (p3 201 31 45) [.a (p3 201 31 35), .b (p3 201 38 45) [.a (p3 201 38 42), .a (p3 201 43 44)]]]], .a (p3 201 49 54)]], .a (p3 201 58 68)]], .c (p3 202 4 64) (p3 202 4 10) [.b (p3 202 13 64) [.c (p3 202 13 51) (p3 202 13 16) [.b (p3 202 17 50) [.a (p3 202 17 23), .b (p3 202 27 49) [.b (p3 202 27 41) [.a (p3 202 27 33), .a (p3 202 37 41)], .a (p3 202 44 49)]]], .a (p3 202 54 64)]], .c (p3 203 4 64) (p3 203 4 10) [.b (p3 203 13 64) [.c (p3 203 13 51) (p3 203 13 16) [.b (p3 203 17 50) [.a (p3 203 17 23), .b (p3 203 27 49) [.b (p3 203 27 41) [.a (p3 203 27 33), .a (p3 203 37 41)], .a (p3 203 44 49)]]], .a (p3 203 54 64)]], .b (p3 204 4 35) [.b (p3 204 11 35) [.c (p3 204 11 28) (p3 204 11 14) [.b (p3 204 15 27) [.a (p3 204 15 21), .a (p3 204 25 27)]], .a (p3 204 31 35)]]]
def S__law_draw : FSrc := ⟨"_law_draw", ["hand", "many"], ["hand", "many", "cell", "digit", "number"], T__law_draw, topS 48⟩
def T__law_any : List Tr := [.b (p3 206 4 43) [.b (p3 206 11 43) [.a (p3 206 11 15), .c (p3 206 16 42) (p3 206 16 25) [.a (p3 206 26 30), .c (p3 206 32 41) (p3 206 32 35) [.a (p3 206 36 40)]]]]]
def S__law_any : FSrc := ⟨"_law_any", ["hand", "some"], ["hand", "some"], T__law_any, topS 49⟩
def T__law_times : List Tr := [.b (p3 230 4 57) [.c (p3 230 11 57) (p3 230 11 19) [.b (p3 230 20 37) [.b (p3 230 20 26) [.a (p3 230 20 23), .a (p3 230 24 25)], .b (p3 230 29 37) [.a (p3 230 29 34), .a (p3 230 35 36)]], .b (p3 230 39 56) [.b (p3 230 39 45) [.a (p3 230 39 42), .a (p3 230 43 44)], .b (p3 230 48 56) [.a (p3 230 48 53), .a (p3 230 54 55)]]]]]
def S__law_times : FSrc := ⟨"_law_times", ["one", "other"], ["one", "other"], T__law_times, topS 54⟩
def T__law_grown : List Tr := [.b (p3 247 4 30) [.b (p3 247 4 20) [.a (p3 247 4 9), .a (p3 247 11 15), .a (p3 247 17 20)], .a (p3 247 23 30)], .b (p3 248 4 93) [.b (p3 248 11 93) [.c (p3 248 12 33) (p3 248 12 22) [.a (p3 248 23 28), .a (p3 248 30 32)], .c (p3 248 35 55) (p3 248 35 45) [.a (p3 248 46 50), .a (p3 248 52 54)], .c (p3 248 57 92) (p3 248 57 67) [.a (p3 248 68 71), .c (p3 248 73 91) (p3 248 73 83) [.a (p3 248 84 86), .a (p3 248 88 90)]]]]]
def S__law_grown : FSrc := ⟨"_law_grown", ["numbers", "by"], ["numbers", "by", "first", "last", "far"], T__law_grown, topS 59⟩
def T__law_less : List Tr := [.b (p3 228 4 77) [.c (p3 228 11 77) (p3 228 11 19) [.b (p3 228 20 57) [.b (p3 228 20 37) [.b (p3 228 20 26) [.a (p3 228 20 23), .a (p3 228 24 25)], .b (p3 228 29 37) [.a (p3 228 29 34), .a (p3 228 35 36)]], .b (p3 228 40 57) [.b (p3 228 40 48) [.a (p3 228 40 45), .a (p3 228 46 47)], .b (p3 228 51 57) [.a (p3 228 51 54), .a (p3 228 55 56)]]], .b (p3 228 59 76) [.b (p3 228 59 65) [.a (p3 228 59 62), .a (p3 228 63 64)], .b (p3 228 68 76) [.a (p3 228 68 73), .a (p3 228 74 75)]]]]]
def S__law_less : FSrc := ⟨"_law_less", ["one", "other"], ["one", "other"], T__law_less, topS 53⟩
def T__law_three : List Tr := [.b (p3 250 4 30) [.b (p3 250 4 20) [.a (p3 250 4 9), .a (p3 250 11 15), .a (p3 250 17 20)], .a (p3 250 23 30)], .b (p3 251 4 79) [.b (p3 251 11 79) [.c (p3 251 11 72) (p3 251 11 21) [.a (p3 251 22 27), .c (p3 251 29 71) (p3 251 29 38) [.a (p3 251 39 44), .c (p3 251 46 70) (p3 251 46 56) [.b (p3 251 57 63) [.a (p3 251 58 59), .a (p3 251 61 62)], .a (p3 251 65 69)]]], .a (p3 251 76 79)]]]
def S__law_three : FSrc := ⟨"_law_three", ["numbers"], ["numbers", "first", "last", "far"], T__law_three, topS 60⟩
def T__law_plus : List Tr := [.b (p3 226 4 77) [.c (p3 226 11 77) (p3 226 11 19) [.b (p3 226 20 57) [.b (p3 226 20 37) [.b (p3 226 20 26) [.a (p3 226 20 23), .a (p3 226 24 25)], .b (p3 226 29 37) [.a (p3 226 29 34), .a (p3 226 35 36)]], .b (p3 226 40 57) [.b (p3 226 40 48) [.a (p3 226 40 45), .a (p3 226 46 47)], .b (p3 226 51 57) [.a (p3 226 51 54), .a (p3 226 55 56)]]], .b (p3 226 59 76) [.b (p3 226 59 65) [.a (p3 226 59 62), .a (p3 226 63 64)], .b (p3 226 68 76) [.a (p3 226 68 73), .a (p3 226 74 75)]]]]]
def S__law_plus : FSrc := ⟨"_law_plus", ["one", "other"], ["one", "other"], T__law_plus, topS 52⟩
def T__law_four : List Tr := [.b (p3 253 4 30) [.b (p3 253 4 20) [.a (p3 253 4 9), .a (p3 253 11 15), .a (p3 253 17 20)], .a (p3 253 23 30)], .b (p3 254 4 68) [.b (p3 254 4 15) [.a (p3 254 4 8), .a (p3 254 10 15)], .b (p3 254 18 68) [.c (p3 254 19 43) (p3 254 19 29) [.a (p3 254 30 35), .a (p3 254 37 42)], .c (p3 254 45 67) (p3 254 45 55) [.a (p3 254 56 60), .a (p3 254 62 66)]]], .c (p3 255 4 70) (p3 255 4 8) [.c (p3 255 11 70) (p3 255 11 21) [.c (p3 255 22 47) (p3 255 22 32) [.b (p3 255 33 39) [.a (p3 255 34 35), .a (p3 255 37 38)], .a (p3 255 41 46)], .c (p3 255 49 69) (p3 255 49 58) [.a (p3 255 59 63), .a (p3 255 65 68)]]], .c (p3 256 4 31) (p3 256 4 8) [.c (p3 256 11 31) (p3 256 11 20) [.a (p3 256 21 25), .a (p3 256 27 30)]], .b (p3 257 4 41) [.b (p3 257 11 41) [.a (p3 257 11 15), .c (p3 257 19 41) (p3 257 19 29) [.a (p3 257 30 34), .a (p3 257 36 40)]]]]
def S__law_four : FSrc := ⟨"_law_four", ["numbers"], ["numbers", "first", "last", "far", "wide", "small", "left", "rest"], T__law_four, topS 61⟩
def T__law_closing_right : List Tr := [.c (p3 259 4 65) (p3 259 4 6) [.c (p3 259 9 65) (p3 259 9 17) [.b (p3 259 18 40) [.a (p3 259 18 19), .c (p3 259 22 40) (p3 259 22 31) [.a (p3 259 32 36), .a (p3 259 38 39)]], .b (p3 259 42 64) [.a (p3 259 42 43), .c (p3 259 46 64) (p3 259 46 55) [.a (p3 259 56 60), .a (p3 259 62 63)]]]], .c (p3 260 4 106) (p3 260 4 9) [.c (p3 260 12 106) (p3 260 12 20) [.a (p3 260 21 25), .b (p3 260 27 105) [.b (p3 260 28 52) [.b (p3 260 29 35) [.a (p3 260 30 31), .a (p3 260 33 34)], .b (p3 260 37 43) [.a (p3 260 38 39), .a (p3 260 41 42)], .b (p3 260 45 51) [.a (p3 260 46 47), .a (p3 260 49 50)]], .b (p3 260 54 78) [.b (p3 260 55 61) [.a (p3 260 56 57), .a (p3 260 59 60)], .b (p3 260 63 69) [.a (p3 260 64 65), .a (p3 260 67 68)], .b (p3 260 71 77) [.a (p3 260 72 73), .a (p3 260 75 76)]], .b (p3 260 80 104) [.b (p3 260 81 87) [.a (p3 260 82 83), .a (p3 260 85 86)], .b (p3 260 89 95) [.a (p3 260 90 91), .a (p3 260 93 94)], .b (p3 260 97 103) [.a (p3 260 98 99), .a (p3 260 101 102)]]]]], .c (p3 261 4 84) (p3 261 4 8) [.c (p3 261 11 84) (p3 261 11 19) [.a (p3 261 20 24), .b (p3 261 26 83) [.b (p3 261 27 53) [.b (p3 261 28 35) [.a (p3 261 29 31), .a (p3 261 33 34)], .b (p3 261 37 43) [.a (p3 261 38 39), .a (p3 261 41 42)], .b (p3 261 45 52) [.a (p3 261 46 48), .a (p3 261 50 51)]], .b (p3 261 55 82) [.b (p3 261 56 63) [.a (p3 261 57 59), .a (p3 261 61 62)], .b (p3 261 65 71) [.a (p3 261 66 67), .a (p3 261 69 70)], .b (p3 261 73 81) [.a (p3 261 74 77), .a (p3 261 79 80)]]]]], .c (p3 262 4 13) (p3 262 4 8) [.a (p3 262 11 13)], .b (p4 263 4 264 69) [.a (p3 263 8 15), .b (p3 263 19 49) [.b (p3 263 19 49) [.a (p3 263 20 25), .c (p3 263 27 48) (p3 263 27 37) [.a (p3 263 38 43), .a (p3 263 45 47)]]], .b (p4 263 4 264 69) [.b (p3 264 8 69) [.c (p3 264 8 69) (p3 264 8 19) [.a (p3 264 8 12), .c (p3 264 20 68) (p3 264 20 32) [.b (p3 264 33 43) [.a (p3 264 33 40), .a (p3 264 41 42)], .b (p3 264 45 55) [.a (p3 264 45 52), .a (p3 264 53 54)], .b (p3 264 57 67) [.a (p3 264 57 64), .a (p3 264 65 66)]]]]]], .b (p4 265 4 266 68) [.a (p3 265 8 15), .b (p3 265 19 47) [.b (p3 265 19 47) [.a (p3 265 20 24), .c (p3 265 26 46) (p3 265 26 36) [.a (p3 265 37 41), .a (p3 265 43 45)]]], .b (p4 265 4 266 68) [.b (p3 266 8 68) [.c (p3 266 8 68) (p3 266 8 19) [.a (p3 266 8 12), .c (p3 266 20 67) (p3 266 20 31) [.b (p3 266 32 42) [.a (p3 266 32 39), .a (p3 266 40 41)], .b (p3 266 44 54) [.a (p3 266 44 51), .a (p3 266 52 53)], .b (p3 266 56 66) [.a (p3 266 56 63), .a (p3 266 64 65)]]]]]], .b (p4 267 4 268 20) [.b (p3 267 7 36) [.c (p3 267 11 36) (p3 267 11 18) [.a (p3 267 19 23), .b (p3 267 25 35) [.b (p3 267 25 31) [.a (p3 267 26 30)], .a (p3 267 34 35)]]], .b (p4 267 4 268 20) [.b (p3 268 8 20) [.a (p3 268 15 20)]], .b (p4 267 4 268 20) []], .c (p3 269 4 67) (p3 269 4 8) [.c (p3 269 11 67) (p3 269 11 19) [.b (p3 269 20 42) [.a (p3 269 20 21), .c (p3 269 24 42) (p3 269 24 33) [.a (p3 269 34 38), .a (p3 269 40 41)]], .b (p3 269 44 66) [.a (p3 269 44 45), .c (p3 269 48 66) (p3 269 48 57) [.a (p3 269 58 62), .a (p3 269 64 65)]]]], .c (p3 270 4 100) (p3 270 4 11) [.b (p3 270 14 100) [.a (p3 270 15 19), .c (p3 270 21 66) (p3 270 21 31) [.a (p3 270 32 36), .b (p3 270 38 65) [.a (p3 270 39 40), .b (p3 270 42 64) [.a (p3 270 42 43), .c (p3 270 46 64) (p3 270 46 55) [.a (p3 270 56 60), .a (p3 270 62 63)]]]], .c (p3 270 68 99) (p3 270 68 76) [.c (p3 270 77 95) (p3 270 77 86) [.a (p3 270 87 91), .a (p3 270 93 94)], .a (p3 270 97 98)]]], .c (p3 271 4 65) (p3 271 4 12) [.b (p3 271 15 65) [.c (p3 271 16 64) (p3 271 16 28) [.b (p3 271 29 39) [.a (p3 271 29 36), .a (p3 271 37 38)], .b (p3 271 41 51) [.a (p3 271 41 48), .a (p3 271 49 50)], .b (p3 271 53 63) [.a (p3 271 53 60), .a (p3 271 61 62)]]]], .b (p3 272 4 68) [.c (p3 272 4 68) (p3 272 4 19) [.a (p3 272 4 12), .c (p3 272 20 67) (p3 272 20 31) [.b (p3 272 32 42) [.a (p3 272 32 39), .a (p3 272 40 41)], .b (p3 272 44 54) [.a (p3 272 44 51), .a (p3 272 52 53)], .b (p3 272 56 66) [.a (p3 272 56 63), .a (p3 272 64 65)]]]], .b (p3 273 4 71) [.c (p3 273 11 71) (p3 273 11 18) [.a (p3 273 19 27), .b (p3 273 29 70) [.c (p3 273 30 49) (p3 273 30 40) [.a (p3 273 41 48)], .c (p3 273 51 69) (p3 273 51 60) [.a (p3 273 61 68)]]]]]
def S__law_closing_right : FSrc := ⟨"_law_closing_right", ["hand"], ["hand", "by", "three", "four", "told", "numbers", "wide", "flags_so"], T__law_closing_right, topS 62⟩
def T__law_some : List Tr := [.b (p3 234 4 68) [.c (p3 234 11 68) (p3 234 11 19) [.b (p3 234 20 43) [.c (p3 234 20 39) (p3 234 20 29) [.a (p3 234 30 34), .a (p3 234 36 38)], .a (p3 234 42 43)], .b (p3 234 45 67) [.a (p3 234 45 46), .c (p3 234 49 67) (p3 234 49 58) [.a (p3 234 59 63), .a (p3 234 65 66)]]]]]
def S__law_some : FSrc := ⟨"_law_some", ["hand"], ["hand"], T__law_some, topS 56⟩
def T__law_over : List Tr := [.b (p3 232 4 57) [.c (p3 232 11 57) (p3 232 11 19) [.b (p3 232 20 37) [.b (p3 232 20 26) [.a (p3 232 20 23), .a (p3 232 24 25)], .b (p3 232 29 37) [.a (p3 232 29 34), .a (p3 232 35 36)]], .b (p3 232 39 56) [.b (p3 232 39 45) [.a (p3 232 39 42), .a (p3 232 43 44)], .b (p3 232 48 56) [.a (p3 232 48 53), .a (p3 232 54 55)]]]]]
def S__law_over : FSrc := ⟨"_law_over", ["one", "other"], ["one", "other"], T__law_over, topS 55⟩
def T__law_lowest : List Tr := [.c (p3 236 4 12) (p3 236 4 8) [.a (p3 236 11 12)], .b (p4 237 4 240 46) [.a (p3 237 8 11), .b (p3 237 15 18) [.a (p3 237 15 18)], .b (p4 237 4 240 46) [.c (p3 238 8 22) (p3 238 8 11) [.c (p3 238 14 22) (p3 238 14 17) [.a (p3 238 18 21)]], .b (p4 239 8 240 46) [.b (p3 239 14 21) [.a (p3 239 14 17), .a (p3 239 20 21)], .b (p4 239 8 240 46) [.b (p3 240 12 46) [.b (p3 240 12 21) [.a (p3 240 12 16), .a (p3 240 18 21)], .b (p3 240 24 46) [.a (p3 240 25 28), .b (p3 240 30 45) [.c (p3 240 30 39) (p3 240 30 33) [.a (p3 240 34 38)], .a (p3 240 42 45)]]]]]]], .c (p3 241 4 44) (p3 241 4 9) [.nd (p3 241 12 44) ⟨0, 0, 0, 0⟩ ⟨.function, [(".0", .local), ("one", .local)], false, false, []⟩ [.a (p3 241 13 16), .a (p3 241 21 24), .b (p3 241 28 31) [.a (p3 241 28 31)], .b (p3 241 12 44) [.b (p3 241 35 43) [.a (p3 241 35 38), .a (p3 241 42 43)]]]], .c (p3 242 4 46) (p3 242 4 8) [.b (p3 242 11 46) [.b (p3 242 19 32) [.b (p3 242 19 28) [.a (p3 242 19 24), .b (p3 242 25 27) [.a (p3 242 26 27)]], .a (p3 242 31 32)], .a (p3 242 11 15), .b (p3 242 38 46) [.a (p3 242 38 39), .a (p3 242 42 46)]]], .b (p3 243 4 46) [.c (p3 243 11 46) (p3 243 11 16) [.nd (p3 243 17 45) ⟨0, 0, 0, 0⟩ ⟨.function, [(".0", .local), ("one", .local), ("part", .free)], false, false, []⟩ [.b (p3 243 18 29) [.a (p3 243 18 21), .a (p3 243 25 29)], .a (p3 243 34 37), .b (p3 243 41 44) [.a (p3 243 41 44)], .a (p3 243 17 45)]]]]
def S__law_lowest : FSrc := ⟨"_law_lowest", ["row"], ["row", "part", "one", "signs"], T__law_lowest, topS 57⟩
def T__law_at : List Tr := [.b (p3 245 4 63) [.c (p3 245 11 63) (p3 245 11 22) [.b (p3 245 23 62) [.b (p3 245 24 35) [.b (p3 245 24 28) [.a (p3 245 24 25), .a (p3 245 26 27)], .b (p3 245 31 35) [.a (p3 245 31 32), .a (p3 245 33 34)]], .b (p3 245 37 48) [.b (p3 245 37 41) [.a (p3 245 37 38), .a (p3 245 39 40)], .b (p3 245 44 48) [.a (p3 245 44 45), .a (p3 245 46 47)]], .b (p3 245 50 61) [.b (p3 245 50 54) [.a (p3 245 50 51), .a (p3 245 52 53)], .b (p3 245 57 61) [.a (p3 245 57 58), .a (p3 245 59 60)]]]]]]
def S__law_at : FSrc := ⟨"_law_at", ["x", "y"], ["x", "y"], T__law_at, topS 58⟩
def T_is_integer : List Tr := [.b (p3 37 4 67) [.b (p3 37 11 67) [.c (p3 37 11 33) (p3 37 11 21) [.a (p3 37 22 27), .a (p3 37 29 32)], .b (p3 37 39 66) [.c (p3 37 43 66) (p3 37 43 53) [.a (p3 37 54 59), .a (p3 37 61 65)]]]]]
def S_is_integer : FSrc := ⟨"is_integer", ["thing"], ["thing"], T_is_integer, topS 10⟩
def T_are_integers : List Tr := [.b (p3 39 4 102) [.b (p3 39 11 102) [.c (p3 39 11 35) (p3 39 11 21) [.a (p3 39 22 27), .a (p3 39 29 34)], .b (p3 39 40 58) [.c (p3 39 40 50) (p3 39 40 43) [.a (p3 39 44 49)], .a (p3 39 54 58)], .c (p3 39 63 102) (p3 39 63 66) [.nd (p3 39 67 101) ⟨0, 0, 0, 0⟩ ⟨.function, [(".0", .local), ("one", .local), ("is_integer", .globalImplicit)], false, false, []⟩ [.c (p3 39 68 83) (p3 39 68 78) [.a (p3 39 79 82)], .a (p3 39 88 91), .b (p3 39 95 100) [.a (p3 39 95 100)], .a (p3 39 67 101)]]]]]
def S_are_integers : FSrc := ⟨"are_integers", ["thing", "many"], ["thing", "many", "one"], T_are_integers, topS 11⟩
def T_lowest : List Tr := [.c (p3 65 4 15) (p3 65 4 11) [.a (p3 65 14 15)], .b (p4 66 4 67 38) [.a (p3 66 8 11), .b (p3 66 15 18) [.a (p3 66 15 18)], .b (p4 66 4 67 38) [.c (p3 67 8 38) (p3 67 8 15) [.c (p3 67 18 38) (p3 67 18 24) [.a (p3 67 25 32), .a (p3 67 34 37)]]]], .b (p4 68 4 69 25) [.b (p3 68 7 19) [.a (p3 68 7 14), .a (p3 68 18 19)], .b (p4 68 4 69 25) [.b (p3 69 8 25) [.c (p3 69 15 25) (p3 69 15 20) [.a (p3 69 21 24)]]], .b (p4 68 4 69 25) []], .c (p3 70 4 47) (p3 70 4 8) [.b (p3 70 11 47) [.nd (p3 70 11 43) ⟨0, 0, 0, 0⟩ ⟨.function, [(".0", .local), ("one", .local)], false, false, []⟩ [.a (p3 70 12 15), .a (p3 70 20 23), .b (p3 70 27 30) [.a (p3 70 27 30)], .b (p3 70 11 43) [.b (p3 70 34 42) [.a (p3 70 34 37), .a (p3 70 41 42)]]], .b (p3 70 44 46) [.a (p3 70 45 46)]]], .c (p3 71 4 47) (p3 71 4 11) [.b (p3 71 14 47) [.b (p3 71 26 34) [.a (p3 71 26 30), .a (p3 71 33 34)], .b (p3 71 14 22) [.a (p3 71 15 22)], .a (p3 71 40 47)]], .b (p3 72 4 49) [.c (p3 72 11 49) (p3 72 11 16) [.nd (p3 72 17 48) ⟨0, 0, 0, 0⟩ ⟨.function, [(".0", .local), ("one", .local), ("divisor", .free)], false, false, []⟩ [.b (p3 72 18 32) [.a (p3 72 18 21), .a (p3 72 25 32)], .a (p3 72 37 40), .b (p3 72 44 47) [.a (p3 72 44 47)], .a (p3 72 17 48)]]]]
def S_lowest : FSrc := ⟨"lowest", ["row"], ["row", "divisor", "one", "last"], T_lowest, topS 19⟩
def T_check_point : List Tr := [.b (p4 94 4 95 23) [.b (p3 94 7 81) [.b (p3 94 7 33) [.c (p3 94 11 33) (p3 94 11 23) [.a (p3 94 24 29), .a (p3 94 31 32)]], .b (p3 94 37 55) [.a (p3 94 37 42), .b (p3 94 46 55) [.a (p3 94 47 48), .a (p3 94 50 51), .a (p3 94 53 54)]], .b (p3 94 59 81) [.c (p3 94 59 72) (p3 94 59 65) [.a (p3 94 66 71)], .a (p3 94 76 81)]], .b (p4 94 4 95 23) [.c (p3 95 8 23) (p3 95 14 21) [.a (p3 95 14 23)]], .b (p4 94 4 95 23) []]]
def S_check_point : FSrc := ⟨"check_point", ["point"], ["point"], T_check_point, topS 24⟩
def T_places : List Tr := [.b (p3 101 4 20) [.c (p3 101 4 20) (p3 101 4 15) [.a (p3 101 16 19)]], .b (p4 102 4 103 23) [.b (p3 102 7 18) [.b (p3 102 7 13) [.a (p3 102 7 10), .a (p3 102 11 12)], .a (p3 102 17 18)], .b (p4 102 4 103 23) [.c (p3 103 8 23) (p3 103 14 21) [.a (p3 103 14 23)]], .b (p4 102 4 103 23) []], .b (p3 104 4 63) [.b (p3 104 11 63) [.c (p3 104 12 36) (p3 104 12 20) [.b (p3 104 21 27) [.a (p3 104 21 24), .a (p3 104 25 26)], .b (p3 104 29 35) [.a (p3 104 29 32), .a (p3 104 33 34)]], .c (p3 104 38 62) (p3 104 38 46) [.b (p3 104 47 53) [.a (p3 104 47 50), .a (p3 104 51 52)], .b (p3 104 55 61) [.a (p3 104 55 58), .a (p3 104 59 60)]]]]]
def S_places : FSrc := ⟨"places", ["one"], ["one"], T_places, topS 26⟩
def T_is_fraction : List Tr := [.b (p4 53 4 54 20) [.b (p3 53 7 103) [.b (p3 53 7 35) [.c (p3 53 11 35) (p3 53 11 21) [.a (p3 53 22 27), .a (p3 53 29 34)]], .b (p3 53 39 54) [.c (p3 53 39 49) (p3 53 39 42) [.a (p3 53 43 48)], .a (p3 53 53 54)], .b (p3 53 59 102) [.c (p3 53 63 102) (p3 53 63 66) [.nd (p3 53 67 101) ⟨0, 0, 0, 0⟩ ⟨.function, [(".0", .local), ("one", .local), ("is_integer", .globalImplicit)], false, false, []⟩ [.c (p3 53 68 83) (p3 53 68 78) [.a (p3 53 79 82)], .a (p3 53 88 91), .b (p3 53 95 100) [.a (p3 53 95 100)], .a (p3 53 67 101)]]]], .b (p4 53 4 54 20) [.b (p3 54 8 20) [.a (p3 54 15 20)]], .b (p4 53 4 54 20) []], .b (p3 55 4 59) [.b (p3 55 11 59) [.b (p3 55 11 23) [.b (p3 55 11 19) [.a (p3 55 11 16), .a (p3 55 17 18)], .a (p3 55 22 23)], .b (p3 55 28 59) [.c (p3 55 28 54) (p3 55 28 34) [.b (p3 55 35 43) [.a (p3 55 35 40), .a (p3 55 41 42)], .b (p3 55 45 53) [.a (p3 55 45 50), .a (p3 55 51 52)]], .a (p3 55 58 59)]]]]
def S_is_fraction : FSrc := ⟨"is_fraction", ["thing"], ["thing", "one"], T_is_fraction, topS 14⟩
def T_whole : List Tr := [.c (p3 74 4 14) (p3 74 4 10) [.a (p3 74 13 14)], .b (p4 75 4 76 58) [.a (p3 75 8 11), .b (p3 75 15 18) [.a (p3 75 15 18)], .b (p4 75 4 76 58) [.c (p3 76 8 58) (p3 76 8 14) [.b (p3 76 17 58) [.b (p3 76 17 49) [.a (p3 76 17 23), .c (p3 76 27 49) (p3 76 27 33) [.a (p3 76 34 40), .b (p3 76 42 48) [.a (p3 76 42 45), .a (p3 76 46 47)]]], .b (p3 76 52 58) [.a (p3 76 52 55), .a (p3 76 56 57)]]]]], .b (p3 77 4 63) [.c (p3 77 11 63) (p3 77 11 17) [.nd (p3 77 18 62) ⟨0, 0, 0, 0⟩ ⟨.function, [(".0", .local), ("one", .local), ("bottom", .free)], false, false, []⟩ [.b (p3 77 19 46) [.b (p3 77 19 25) [.a (p3 77 19 22), .a (p3 77 23 24)], .b (p3 77 29 45) [.a (p3 77 29 35), .b (p3 77 39 45) [.a (p3 77 39 42), .a (p3 77 43 44)]]], .a (p3 77 51 54), .b (p3 77 58 61) [.a (p3 77 58 61)], .a (p3 77 18 62)]]]]
def S_whole : FSrc := ⟨"whole", ["row"], ["row", "bottom", "one"], T_whole, topS 20⟩
def T_first_above : List Tr := [.c (p3 118 4 22) (p3 118 4 8) [.c (p3 118 11 22) (p3 118 11 17) [.a (p3 118 18 21)]], .b (p3 119 4 65) [.b (p3 119 11 65) [.b (p3 119 44 55) [.b (p3 119 44 51) [.a (p3 119 44 48), .a (p3 119 49 50)], .a (p3 119 54 55)], .c (p3 119 11 40) (p3 119 11 16) [.nd (p3 119 17 39) ⟨0, 0, 0, 0⟩ ⟨.function, [(".0", .local), ("one", .local)], false, false, []⟩ [.b (p3 119 18 22) [.a (p3 119 19 22)], .a (p3 119 27 30), .b (p3 119 34 38) [.a (p3 119 34 38)], .a (p3 119 17 39)]], .a (p3 119 61 65)]]]
def S_first_above : FSrc := ⟨"first_above", ["row"], ["row", "told", "one"], T_first_above, topS 31⟩
def T_around : List Tr := [.c (p3 124 4 22) (p3 124 4 8) [.c (p3 124 11 22) (p3 124 11 17) [.a (p3 124 18 21)]], .b (p4 125 4 126 24) [.b (p3 125 7 48) [.b (p3 125 7 30) [.c (p3 125 11 30) (p3 125 11 22) [.a (p3 125 23 29)]], .b (p3 125 34 48) [.b (p3 125 34 43) [.a (p3 125 34 40), .a (p3 125 41 42)], .a (p3 125 47 48)]], .b (p4 125 4 126 24) [.c (p3 126 8 24) (p3 126 14 22) [.a (p3 126 14 24)]], .b (p4 125 4 126 24) []], .c (p3 127 4 80) (p3 127 4 8) [.c (p3 127 11 80) (p3 127 11 16) [.c (p3 127 17 71) (p3 127 17 21) [.c (p3 127 22 45) (p3 127 22 27) [.b (p3 127 28 35) [.a (p3 127 28 32), .a (p3 127 33 34)], .b (p3 127 37 44) [.a (p3 127 37 41), .a (p3 127 42 43)]], .c (p3 127 47 70) (p3 127 47 52) [.b (p3 127 53 60) [.a (p3 127 53 57), .a (p3 127 58 59)], .b (p3 127 62 69) [.a (p3 127 62 66), .a (p3 127 67 68)]]], .a (p3 127 73 79)]], .c (p3 128 4 81) (p3 128 4 7) [.c (p3 128 10 81) (p3 128 10 15) [.b (p3 128 16 80) [.b (p3 128 17 23) [.a (p3 128 18 19), .a (p3 128 21 22)], .c (p3 128 25 48) (p3 128 25 30) [.b (p3 128 31 38) [.b (p3 128 32 34) [.a (p3 128 33 34)], .a (p3 128 36 37)], .b (p3 128 40 47) [.a (p3 128 40 44), .a (p3 128 45 46)]], .c (p3 128 50 73) (p3 128 50 55) [.b (p3 128 56 63) [.b (p3 128 57 59) [.a (p3 128 58 59)], .a (p3 128 61 62)], .b (p3 128 65 72) [.a (p3 128 65 69), .a (p3 128 70 71)]], .a (p3 128 75 79)]]], .b (p3 129 4 27) [.c (p3 129 11 27) (p3 129 11 22) [.a (p3 129 23 26)]]]
def S_around : FSrc := ⟨"around", ["one", "square"], ["one", "square", "here", "last", "row"], T_around, topS 33⟩
def T_root : List Tr := [.b (p4 79 4 80 19) [.b (p3 79 7 17) [.a (p3 79 7 13), .a (p3 79 16 17)], .b (p4 79 4 80 19) [.b (p3 80 8 19) [.a (p3 80 15 19)]], .b (p4 79 4 80 19) []], .b (p3 81 4 31) [.b (p3 81 4 13) [.a (p3 81 4 7), .a (p3 81 9 13)], .b (p3 81 16 31) [.a (p3 81 17 18), .b (p3 81 20 30) [.a (p3 81 20 26), .a (p3 81 29 30)]]], .b (p4 82 4 87 25) [.b (p3 82 10 24) [.b (p3 82 10 20) [.a (p3 82 10 14), .a (p3 82 17 20)], .a (p3 82 23 24)], .b (p4 82 4 87 25) [.c (p3 83 8 34) (p3 83 8 14) [.b (p3 83 17 34) [.b (p3 83 18 28) [.a (p3 83 18 21), .a (p3 83 24 28)], .a (p3 83 33 34)]], .b (p4 84 8 87 25) [.b (p3 84 11 36) [.b (p3 84 11 26) [.a (p3 84 11 17), .a (p3 84 20 26)], .a (p3 84 30 36)], .b (p4 84 8 87 25) [.c (p3 85 12 24) (p3 85 12 15) [.a (p3 85 18 24)]], .b (p4 84 8 87 25) [.c (p3 87 12 25) (p3 87 12 16) [.a (p3 87 19 25)]]]]], .b (p3 88 4 47) [.b (p3 88 11 47) [.b (p3 88 18 37) [.b (p3 88 18 27) [.a (p3 88 18 21), .a (p3 88 24 27)], .a (p3 88 31 37)], .a (p3 88 11 14), .a (p3 88 43 47)]]]
def S_root : FSrc := ⟨"root", ["number"], ["number", "low", "high", "middle"], T_root, topS 21⟩
def T_fraction_root : List Tr := [.b (p3 90 4 46) [.b (p3 90 4 15) [.a (p3 90 4 7), .a (p3 90 9 15)], .b (p3 90 18 46) [.c (p3 90 19 31) (p3 90 19 23) [.b (p3 90 24 30) [.a (p3 90 24 27), .a (p3 90 28 29)]], .c (p3 90 33 45) (p3 90 33 37) [.b (p3 90 38 44) [.a (p3 90 38 41), .a (p3 90 42 43)]]]], .b (p3 91 4 67) [.b (p3 91 11 67) [.b (p3 91 19 48) [.c (p3 91 19 30) (p3 91 26 30) [.a (p3 91 19 22)], .c (p3 91 34 48) (p3 91 44 48) [.a (p3 91 34 40)]], .a (p3 91 11 15), .b (p3 91 54 67) [.a (p3 91 55 58), .a (p3 91 60 66)]]]]
def S_fraction_root : FSrc := ⟨"fraction_root", ["one"], ["one", "top", "bottom"], T_fraction_root, topS 22⟩
def T_is_low : List Tr := [.c (p3 115 4 22) (p3 115 4 8) [.c (p3 115 11 22) (p3 115 11 17) [.a (p3 115 18 21)]], .b (p3 116 4 62) [.b (p3 116 11 62) [.b (p3 116 11 22) [.a (p3 116 11 15), .a (p3 116 19 22)], .b (p3 116 26 62) [.c (p3 116 26 55) (p3 116 26 31) [.nd (p3 116 32 54) ⟨0, 0, 0, 0⟩ ⟨.function, [(".0", .local), ("one", .local)], false, false, []⟩ [.b (p3 116 33 37) [.a (p3 116 34 37)], .a (p3 116 42 45), .b (p3 116 49 53) [.a (p3 116 49 53)], .a (p3 116 32 54)]], .a (p3 116 59 62)]]]]
def S_is_low : FSrc := ⟨"is_low", ["row"], ["row", "told", "one"], T_is_low, topS 30⟩
def T_is_circle : List Tr := [.b (p4 111 4 112 20) [.b (p3 111 7 73) [.b (p3 111 7 33) [.c (p3 111 11 33) (p3 111 11 23) [.a (p3 111 24 29), .a (p3 111 31 32)]], .b (p3 111 37 50) [.b (p3 111 37 45) [.a (p3 111 37 42), .a (p3 111 43 44)], .a (p3 111 49 50)], .b (p3 111 55 72) [.c (p3 111 59 72) (p3 111 59 65) [.a (p3 111 66 71)]]], .b (p4 111 4 112 20) [.b (p3 112 8 20) [.a (p3 112 15 20)]], .b (p4 111 4 112 20) []], .b (p3 113 4 82) [.b (p3 113 11 82) [.b (p3 113 11 78) [.b (p3 113 11 52) [.b (p3 113 11 30) [.b (p3 113 11 19) [.a (p3 113 11 16), .a (p3 113 17 18)], .b (p3 113 22 30) [.a (p3 113 22 27), .a (p3 113 28 29)]], .b (p3 113 33 52) [.b (p3 113 33 41) [.a (p3 113 33 38), .a (p3 113 39 40)], .b (p3 113 44 52) [.a (p3 113 44 49), .a (p3 113 50 51)]]], .b (p3 113 55 78) [.b (p3 113 55 67) [.a (p3 113 55 56), .b (p3 113 59 67) [.a (p3 113 59 64), .a (p3 113 65 66)]], .b (p3 113 70 78) [.a (p3 113 70 75), .a (p3 113 76 77)]]], .a (p3 113 81 82)]]]
def S_is_circle : FSrc := ⟨"is_circle", ["thing"], ["thing"], T_is_circle, topS 29⟩
def T_check_circle : List Tr := [.b (p4 121 4 122 24) [.b (p3 121 7 28) [.c (p3 121 11 28) (p3 121 11 20) [.a (p3 121 21 27)]], .b (p4 121 4 122 24) [.c (p3 122 8 24) (p3 122 14 22) [.a (p3 122 14 24)]], .b (p4 121 4 122 24) []]]
def S_check_circle : FSrc := ⟨"check_circle", ["circle"], ["circle"], T_check_circle, topS 32⟩
def T_square_of : List Tr := [.b (p3 134 4 22) [.c (p3 134 4 22) (p3 134 4 16) [.a (p3 134 17 21)]], .b (p3 135 4 105) [.c (p3 135 11 105) (p3 135 11 19) [.b (p3 135 20 81) [.b (p3 135 20 57) [.b (p3 135 20 37) [.b (p3 135 20 27) [.a (p3 135 20 24), .a (p3 135 25 26)], .b (p3 135 30 37) [.a (p3 135 30 34), .a (p3 135 35 36)]], .b (p3 135 40 57) [.b (p3 135 40 47) [.a (p3 135 40 44), .a (p3 135 45 46)], .b (p3 135 50 57) [.a (p3 135 50 54), .a (p3 135 55 56)]]], .b (p3 135 60 81) [.b (p3 135 60 71) [.a (p3 135 60 61), .b (p3 135 64 71) [.a (p3 135 64 68), .a (p3 135 69 70)]], .b (p3 135 74 81) [.a (p3 135 74 78), .a (p3 135 79 80)]]], .b (p3 135 83 104) [.b (p3 135 83 94) [.a (p3 135 83 84), .b (p3 135 87 94) [.a (p3 135 87 91), .a (p3 135 92 93)]], .b (p3 135 97 104) [.a (p3 135 97 101), .a (p3 135 102 103)]]]]]
def S_square_of : FSrc := ⟨"square_of", ["told"], ["told"], T_square_of, topS 35⟩
def T_width_of : List Tr := [.b (p3 149 4 41) [.c (p3 149 11 41) (p3 149 11 24) [.c (p3 149 25 40) (p3 149 25 34) [.a (p3 149 35 39)]]]]
def S_width_of : FSrc := ⟨"width_of", ["told"], ["told"], T_width_of, topS 40⟩
def T_check_width : List Tr := [.c (p3 151 4 26) (p3 151 4 9) [.c (p3 151 12 26) (p3 151 12 20) [.a (p3 151 21 25)]], .b (p4 152 4 153 25) [.c (p3 152 7 20) (p3 152 16 20) [.a (p3 152 7 12)], .b (p4 152 4 153 25) [.c (p3 153 8 25) (p3 153 14 23) [.a (p3 153 14 25)]], .b (p4 152 4 153 25) []], .b (p3 154 4 16) [.a (p3 154 11 16)]]
def S_check_width : FSrc := ⟨"check_width", ["told"], ["told", "found"], T_check_width, topS 41⟩
def T_are_fractions : List Tr := [.b (p3 57 4 103) [.b (p3 57 11 103) [.c (p3 57 11 35) (p3 57 11 21) [.a (p3 57 22 27), .a (p3 57 29 34)], .b (p3 57 40 58) [.c (p3 57 40 50) (p3 57 40 43) [.a (p3 57 44 49)], .a (p3 57 54 58)], .c (p3 57 63 103) (p3 57 63 66) [.nd (p3 57 67 102) ⟨0, 0, 0, 0⟩ ⟨.function, [(".0", .local), ("one", .local), ("is_fraction", .globalImplicit)], false, false, []⟩ [.c (p3 57 68 84) (p3 57 68 79) [.a (p3 57 80 83)], .a (p3 57 89 92), .b (p3 57 96 101) [.a (p3 57 96 101)], .a (p3 57 67 102)]]]]]
def S_are_fractions : FSrc := ⟨"are_fractions", ["thing", "many"], ["thing", "many", "one"], T_are_fractions, topS 15⟩
def T_at : List Tr := [.b (p4 97 4 98 23) [.b (p3 97 7 42) [.c (p3 97 11 42) (p3 97 11 24) [.b (p3 97 25 38) [.a (p3 97 26 31), .a (p3 97 33 37)], .a (p3 97 40 41)]], .b (p4 97 4 98 23) [.c (p3 98 8 23) (p3 98 14 21) [.a (p3 98 14 23)]], .b (p4 97 4 98 23) []], .b (p3 99 4 39) [.c (p3 99 11 39) (p3 99 11 16) [.b (p3 99 17 38) [.a (p3 99 18 23), .a (p3 99 25 29), .b (p3 99 31 37) [.a (p3 99 32 33), .a (p3 99 35 36)]]]]]
def S_at : FSrc := ⟨"at", ["first", "last"], ["first", "last"], T_at, topS 25⟩
def T_middle_of : List Tr := [.b (p3 131 4 22) [.c (p3 131 4 22) (p3 131 4 16) [.a (p3 131 17 21)]], .b (p3 132 4 79) [.c (p3 132 11 79) (p3 132 11 13) [.c (p3 132 14 45) (p3 132 14 22) [.b (p3 132 23 31) [.b (p3 132 24 31) [.a (p3 132 24 28), .a (p3 132 29 30)]], .b (p3 132 33 44) [.a (p3 132 33 34), .b (p3 132 37 44) [.a (p3 132 37 41), .a (p3 132 42 43)]]], .c (p3 132 47 78) (p3 132 47 55) [.b (p3 132 56 64) [.b (p3 132 57 64) [.a (p3 132 57 61), .a (p3 132 62 63)]], .b (p3 132 66 77) [.a (p3 132 66 67), .b (p3 132 70 77) [.a (p3 132 70 74), .a (p3 132 75 76)]]]]]]
def S_middle_of : FSrc := ⟨"middle_of", ["told"], ["told"], T_middle_of, topS 34⟩
def T_inner_of : List Tr := [.c (p3 170 4 30) (p3 170 4 9) [.c (p3 170 12 30) (p3 170 12 23) [.a (p3 170 24 29)]], .b (p3 171 4 22) [.b (p3 171 4 14) [.a (p3 171 4 8), .a (p3 171 10 14)], .a (p3 171 17 22)], .b (p4 172 4 173 24) [.b (p3 172 7 41) [.b (p3 172 7 19) [.b (p3 172 7 14) [.a (p3 172 7 11), .a (p3 172 12 13)], .a (p3 172 18 19)], .b (p3 172 23 41) [.b (p3 172 23 30) [.a (p3 172 23 27), .a (p3 172 28 29)], .b (p3 172 34 41) [.a (p3 172 34 38), .a (p3 172 39 40)]]], .b (p4 172 4 173 24) [.c (p3 173 8 24) (p3 173 14 22) [.a (p3 173 14 24)]], .b (p4 172 4 173 24) []], .c (p3 174 4 48) (p3 174 4 8) [.b (p3 174 11 48) [.b (p3 174 11 28) [.b (p3 174 11 18) [.a (p3 174 11 15), .a (p3 174 16 17)], .b (p3 174 21 28) [.a (p3 174 21 25), .a (p3 174 26 27)]], .b (p3 174 31 48) [.b (p3 174 31 38) [.a (p3 174 31 35), .a (p3 174 36 37)], .b (p3 174 41 48) [.a (p3 174 41 45), .a (p3 174 46 47)]]]], .c (p3 175 4 65) (p3 175 4 9) [.c (p3 175 12 65) (p3 175 12 20) [.b (p3 175 21 58) [.b (p3 175 21 38) [.b (p3 175 21 28) [.a (p3 175 21 25), .a (p3 175 26 27)], .b (p3 175 31 38) [.a (p3 175 31 35), .a (p3 175 36 37)]], .b (p3 175 41 58) [.b (p3 175 41 48) [.a (p3 175 41 45), .a (p3 175 46 47)], .b (p3 175 51 58) [.a (p3 175 51 55), .a (p3 175 56 57)]]], .a (p3 175 60 64)]], .c (p3 176 4 48) (p3 176 4 8) [.c (p3 176 11 48) (p3 176 11 19) [.b (p3 176 20 41) [.b (p3 176 20 31) [.a (p3 176 20 21), .b (p3 176 24 31) [.a (p3 176 24 28), .a (p3 176 29 30)]], .b (p3 176 34 41) [.a (p3 176 34 38), .a (p3 176 39 40)]], .a (p3 176 43 47)]], .b (p3 177 4 75) [.b (p3 177 4 14) [.a (p3 177 4 8), .a (p3 177 10 14)], .b (p3 177 17 75) [.c (p3 177 18 42) (p3 177 18 24) [.c (p3 177 25 41) (p3 177 25 34) [.a (p3 177 35 40)]], .c (p3 177 44 74) (p3 177 44 49) [.a (p3 177 50 55), .c (p3 177 57 73) (p3 177 57 62) [.a (p3 177 63 66), .a (p3 177 68 72)]]]], .c (p3 178 4 84) (p3 178 4 10) [.c (p3 178 13 84) (p3 178 13 15) [.c (p3 178 16 49) (p3 178 16 20) [.b (p3 178 21 28) [.a (p3 178 21 25), .a (p3 178 26 27)], .c (p3 178 30 48) (p3 178 30 35) [.a (p3 178 36 40), .a (p3 178 42 47)]], .c (p3 178 51 83) (p3 178 51 55) [.b (p3 178 56 63) [.a (p3 178 56 60), .a (p3 178 61 62)], .c (p3 178 65 82) (p3 178 65 70) [.a (p3 178 71 75), .a (p3 178 77 81)]]]], .b (p3 179 4 66) [.b (p3 179 11 66) [.a (p3 179 12 18), .c (p3 179 20 65) (p3 179 20 25) [.c (p3 179 26 44) (p3 179 26 31) [.a (p3 179 32 36), .a (p3 179 38 43)], .c (p3 179 46 64) (p3 179 46 51) [.a (p3 179 52 56), .a (p3 179 58 63)]]]]]
def S_inner_of : FSrc := ⟨"inner_of", ["outer", "share"], ["outer", "share", "width", "turn", "part", "size", "first", "last", "here", "rest", "middle"], T_inner_of, topS 43⟩
def T_squares_row : List Tr := [.b (p3 137 4 97) [.b (p3 137 11 97) [.b (p3 137 12 45) [.b (p3 137 12 27) [.b (p3 137 12 18) [.a (p3 137 12 15), .a (p3 137 16 17)], .b (p3 137 21 27) [.a (p3 137 21 24), .a (p3 137 25 26)]], .b (p3 137 30 45) [.b (p3 137 30 36) [.a (p3 137 30 33), .a (p3 137 34 35)], .b (p3 137 39 45) [.a (p3 137 39 42), .a (p3 137 43 44)]]], .b (p3 137 47 62) [.b (p3 137 47 53) [.a (p3 137 47 50), .a (p3 137 51 52)], .b (p3 137 56 62) [.a (p3 137 56 59), .a (p3 137 60 61)]], .b (p3 137 64 79) [.b (p3 137 64 70) [.a (p3 137 64 67), .a (p3 137 68 69)], .b (p3 137 73 79) [.a (p3 137 73 76), .a (p3 137 77 78)]], .b (p3 137 81 96) [.b (p3 137 81 87) [.a (p3 137 81 84), .a (p3 137 85 86)], .b (p3 137 90 96) [.a (p3 137 90 93), .a (p3 137 94 95)]]]]]
def S_squares_row : FSrc := ⟨"squares_row", ["one"], ["one"], T_squares_row, topS 36⟩
def T_power : List Tr := [.b (p3 139 4 22) [.c (p3 139 4 22) (p3 139 4 16) [.a (p3 139 17 21)]], .b (p3 140 4 20) [.c (p3 140 4 20) (p3 140 4 15) [.a (p3 140 16 19)]], .b (p4 141 4 142 23) [.b (p3 141 7 18) [.b (p3 141 7 13) [.a (p3 141 7 10), .a (p3 141 11 12)], .a (p3 141 17 18)], .b (p4 141 4 142 23) [.c (p3 142 8 23) (p3 142 14 21) [.a (p3 142 14 23)]], .b (p4 141 4 142 23) []], .c (p3 143 4 26) (p3 143 4 7) [.c (p3 143 10 26) (p3 143 10 21) [.a (p3 143 22 25)]], .b (p3 144 4 97) [.c (p3 144 11 97) (p3 144 11 19) [.c (p3 144 20 69) (p3 144 20 23) [.nd (p3 144 24 68) ⟨0, 0, 0, 0⟩ ⟨.function, [(".0", .local), ("mine", .local), ("its", .local)], false, false, []⟩ [.b (p3 144 25 35) [.a (p3 144 25 29), .a (p3 144 32 35)], .b (p3 144 40 49) [.a (p3 144 40 44), .a (p3 144 46 49)], .c (p3 144 53 67) (p3 144 53 56) [.a (p3 144 57 61), .a (p3 144 63 66)], .a (p3 144 24 68)]], .b (p3 144 71 96) [.b (p3 144 71 87) [.b (p3 144 71 78) [.a (p3 144 71 75), .a (p3 144 76 77)], .b (p3 144 81 87) [.a (p3 144 81 84), .a (p3 144 85 86)]], .b (p3 144 90 96) [.a (p3 144 90 93), .a (p3 144 94 95)]]]]]
def S_power : FSrc := ⟨"power", ["told", "one"], ["told", "one", "row", "mine", "its"], T_power, topS 37⟩
def T_is_on : List Tr := [.b (p3 146 4 35) [.b (p3 146 11 35) [.b (p3 146 11 30) [.c (p3 146 11 27) (p3 146 11 16) [.a (p3 146 17 21), .a (p3 146 23 26)], .a (p3 146 28 29)], .a (p3 146 34 35)]]]
def S_is_on : FSrc := ⟨"is_on", ["told", "one"], ["told", "one"], T_is_on, topS 38⟩
def T_square_between : List Tr := [.b (p3 106 4 46) [.b (p3 106 4 15) [.a (p3 106 4 8), .a (p3 106 10 15)], .b (p3 106 18 46) [.c (p3 106 19 30) (p3 106 19 25) [.a (p3 106 26 29)], .c (p3 106 32 45) (p3 106 32 38) [.a (p3 106 39 44)]]], .b (p3 107 4 70) [.b (p3 107 4 15) [.a (p3 107 4 9), .a (p3 107 11 15)], .b (p3 107 18 70) [.c (p3 107 19 43) (p3 107 19 24) [.b (p3 107 25 32) [.a (p3 107 25 29), .a (p3 107 30 31)], .b (p3 107 34 42) [.a (p3 107 34 39), .a (p3 107 40 41)]], .c (p3 107 45 69) (p3 107 45 50) [.b (p3 107 51 58) [.a (p3 107 51 55), .a (p3 107 56 57)], .b (p3 107 60 68) [.a (p3 107 60 65), .a (p3 107 66 67)]]]], .b (p3 108 4 55) [.c (p3 108 11 55) (p3 108 11 15) [.c (p3 108 16 35) (p3 108 16 21) [.a (p3 108 22 27), .a (p3 108 29 34)], .c (p3 108 37 54) (p3 108 37 42) [.a (p3 108 43 47), .a (p3 108 49 53)]]]]
def S_square_between : FSrc := ⟨"square_between", ["one", "other"], ["one", "other", "here", "there", "first", "last"], T_square_between, topS 27⟩
def T_touch_sort : List Tr := [.b (p3 156 4 21) [.c (p3 156 4 21) (p3 156 4 16) [.a (p3 156 17 20)]], .b (p3 157 4 23) [.c (p3 157 4 23) (p3 157 4 16) [.a (p3 157 17 22)]], .b (p4 158 4 159 21) [.b (p3 158 7 19) [.a (p3 158 7 10), .a (p3 158 14 19)], .b (p4 158 4 159 21) [.b (p3 159 8 21) [.a (p3 159 15 21)]], .b (p4 158 4 159 21) []], .c (p3 160 4 58) (p3 160 4 7) [.c (p3 160 10 58) (p3 160 10 24) [.c (p3 160 25 39) (p3 160 25 34) [.a (p3 160 35 38)], .c (p3 160 41 57) (p3 160 41 50) [.a (p3 160 51 56)]]], .b (p3 161 4 52) [.b (p3 161 4 15) [.a (p3 161 4 9), .a (p3 161 11 15)], .b (p3 161 18 52) [.c (p3 161 19 33) (p3 161 19 28) [.a (p3 161 29 32)], .c (p3 161 35 51) (p3 161 35 44) [.a (p3 161 45 50)]]], .c (p3 162 4 41) (p3 162 4 8) [.c (p3 162 11 41) (p3 162 11 16) [.c (p3 162 17 34) (p3 162 17 22) [.a (p3 162 23 26), .a (p3 162 28 33)], .a (p3 162 36 40)]], .c (p3 163 4 70) (p3 163 4 8) [.c (p3 163 11 70) (p3 163 11 16) [.c (p3 163 17 34) (p3 163 17 22) [.a (p3 163 23 27), .a (p3 163 29 33)], .c (p3 163 36 69) (p3 163 36 41) [.b (p3 163 42 48) [.a (p3 163 43 44), .a (p3 163 46 47)], .c (p3 163 50 68) (p3 163 50 55) [.a (p3 163 56 61), .a (p3 163 63 67)]]]], .b (p4 164 4 165 25) [.b (p3 164 7 18) [.b (p3 164 7 14) [.a (p3 164 7 11), .a (p3 164 12 13)], .a (p3 164 17 18)], .b (p4 164 4 165 25) [.b (p3 165 8 25) [.a (p3 165 15 25)]], .b (p4 164 4 165 25) []], .b (p4 166 4 167 71) [.b (p3 166 7 19) [.b (p3 166 7 14) [.a (p3 166 7 11), .a (p3 166 12 13)], .a (p3 166 18 19)], .b (p4 166 4 167 71) [.b (p3 167 8 71) [.b (p3 167 15 71) [.b (p3 167 37 48) [.b (p3 167 37 44) [.a (p3 167 37 41), .a (p3 167 42 43)], .a (p3 167 47 48)], .a (p3 167 15 33), .a (p3 167 54 71)]]], .b (p4 166 4 167 71) []], .b (p3 168 4 49) [.b (p3 168 11 49) [.b (p3 168 24 35) [.b (p3 168 24 31) [.a (p3 168 24 28), .a (p3 168 29 30)], .a (p3 168 34 35)], .a (p3 168 11 20), .a (p3 168 41 49)]]]
def S_touch_sort : FSrc := ⟨"touch_sort", ["one", "other"], ["one", "other", "far", "first", "last", "rest", "told"], T_touch_sort, topS 42⟩
def T__law_inner_right : List Tr := [.b (p3 275 4 89) [.b (p3 275 4 14) [.a (p3 275 4 5), .a (p3 275 7 8), .a (p3 275 10 14)], .b (p3 275 17 89) [.b (p3 275 18 40) [.c (p3 275 18 36) (p3 275 18 27) [.a (p3 275 28 32), .a (p3 275 34 35)], .a (p3 275 39 40)], .b (p3 275 42 64) [.c (p3 275 42 60) (p3 275 42 51) [.a (p3 275 52 56), .a (p3 275 58 59)], .a (p3 275 63 64)], .b (p3 275 66 88) [.a (p3 275 66 67), .c (p3 275 70 88) (p3 275 70 79) [.a (p3 275 80 84), .a (p3 275 86 87)]]]], .b (p3 276 4 71) [.b (p3 276 4 14) [.a (p3 276 4 8), .a (p3 276 10 14)], .b (p3 276 17 71) [.c (p3 276 18 33) (p3 276 18 27) [.a (p3 276 28 32)], .c (p3 276 35 70) (p3 276 35 43) [.b (p3 276 44 66) [.a (p3 276 44 45), .c (p3 276 48 66) (p3 276 48 57) [.a (p3 276 58 62), .a (p3 276 64 65)]], .a (p3 276 68 69)]]], .c (p3 277 4 35) (p3 277 4 10) [.c (p3 277 13 35) (p3 277 13 23) [.a (p3 277 24 28), .a (p3 277 30 34)]], .c (p3 278 4 40) (p3 278 4 12) [.c (p3 278 15 40) (p3 278 15 24) [.b (p3 278 25 31) [.a (p3 278 26 27), .a (p3 278 29 30)], .a (p3 278 33 39)]], .b (p3 279 4 111) [.b (p3 279 4 13) [.a (p3 279 4 9), .a (p3 279 11 13)], .b (p3 279 16 111) [.c (p3 279 17 63) (p3 279 17 26) [.c (p3 279 27 52) (p3 279 27 36) [.b (p3 279 37 43) [.a (p3 279 38 39), .a (p3 279 41 42)], .a (p3 279 45 51)], .a (p3 279 54 62)], .c (p3 279 65 110) (p3 279 65 74) [.c (p3 279 75 99) (p3 279 75 85) [.b (p3 279 86 92) [.a (p3 279 87 88), .a (p3 279 90 91)], .a (p3 279 94 98)], .a (p3 279 101 109)]]], .c (p3 280 4 57) (p3 280 4 8) [.c (p3 280 11 57) (p3 280 11 21) [.b (p3 280 22 31) [.a (p3 280 23 27), .a (p3 280 29 30)], .c (p3 280 33 56) (p3 280 33 42) [.b (p3 280 43 49) [.a (p3 280 44 45), .a (p3 280 47 48)], .a (p3 280 51 55)]]], .c (p3 281 4 108) (p3 281 4 13) [.c (p3 281 16 108) (p3 281 16 23) [.c (p3 281 24 66) (p3 281 24 33) [.b (p3 281 34 40) [.a (p3 281 35 36), .a (p3 281 38 39)], .c (p3 281 42 65) (p3 281 42 52) [.a (p3 281 53 57), .a (p3 281 59 64)]], .c (p3 281 68 107) (p3 281 68 77) [.b (p3 281 78 84) [.a (p3 281 79 80), .a (p3 281 82 83)], .c (p3 281 86 106) (p3 281 86 96) [.a (p3 281 97 101), .a (p3 281 103 105)]]]], .c (p3 282 4 39) (p3 282 4 9) [.c (p3 282 12 39) (p3 282 12 22) [.b (p3 282 23 32) [.a (p3 282 24 28), .a (p3 282 30 31)], .a (p3 282 34 38)]], .c (p3 283 4 47) (p3 283 4 9) [.c (p3 283 12 47) (p3 283 12 18) [.b (p3 283 19 28) [.a (p3 283 20 21), .a (p3 283 23 24), .a (p3 283 26 27)], .b (p3 283 30 46) [.b (p3 283 31 42) [.a (p3 283 31 35), .a (p3 283 38 42)], .a (p3 283 44 45)]]], .c (p3 284 4 40) (p3 284 4 8) [.c (p3 284 11 40) (p3 284 11 19) [.a (p3 284 20 25), .b (p3 284 27 39) [.a (p3 284 28 32), .a (p3 284 34 38)]]], .b (p4 285 4 286 20) [.b (p3 285 7 63) [.c (p3 285 11 63) (p3 285 11 18) [.a (p3 285 19 23), .b (p3 285 25 62) [.a (p3 285 26 35), .c (p3 285 37 61) (p3 285 37 47) [.a (p3 285 48 53), .a (p3 285 55 60)]]]], .b (p4 285 4 286 20) [.b (p3 286 8 20) [.a (p3 286 15 20)]], .b (p4 285 4 286 20) []], .b (p3 287 4 73) [.b (p3 287 4 13) [.a (p3 287 4 7), .a (p3 287 9 13)], .b (p3 287 16 73) [.c (p3 287 17 45) (p3 287 17 27) [.b (p3 287 28 37) [.a (p3 287 29 33), .a (p3 287 35 36)], .a (p3 287 39 44)], .c (p3 287 47 72) (p3 287 47 57) [.b (p3 287 58 67) [.a (p3 287 59 63), .a (p3 287 65 66)], .a (p3 287 69 71)]]], .b (p3 288 4 106) [.b (p3 288 4 19) [.a (p3 288 4 12), .a (p3 288 14 19)], .b (p3 288 22 106) [.c (p3 288 23 79) (p3 288 23 30) [.c (p3 288 31 53) (p3 288 31 40) [.b (p3 288 41 47) [.a (p3 288 42 43), .a (p3 288 45 46)], .a (p3 288 49 52)], .c (p3 288 55 78) (p3 288 55 64) [.b (p3 288 65 71) [.a (p3 288 66 67), .a (p3 288 69 70)], .a (p3 288 73 77)]], .c (p3 288 81 105) (p3 288 81 87) [.b (p3 288 88 95) [.a (p3 288 88 92), .a (p3 288 93 94)], .b (p3 288 97 104) [.a (p3 288 97 101), .a (p3 288 102 103)]]]], .b (p4 289 4 290 20) [.b (p3 289 7 79) [.c (p3 289 7 41) (p3 289 37 41) [.c (p3 289 7 29) (p3 289 7 12) [.a (p3 289 13 18), .a (p3 289 20 28)]], .c (p3 289 45 79) (p3 289 75 79) [.c (p3 289 45 67) (p3 289 45 50) [.a (p3 289 51 56), .a (p3 289 58 66)]]], .b (p4 289 4 290 20) [.b (p3 290 8 20) [.a (p3 290 15 20)]], .b (p4 289 4 290 20) []], .b (p3 291 4 56) [.b (p3 291 11 56) [.c (p3 291 11 35) (p3 291 11 21) [.a (p3 291 22 27), .a (p3 291 29 34)], .a (p3 291 39 56)]]]
def S__law_inner_right : FSrc := ⟨"_law_inner_right", ["hand"], ["hand", "x", "y", "wide", "half", "part", "square", "under_so", "right", "up", "rest", "middle_so", "small", "outer", "told", "far", "high", "point_so", "inner"], T__law_inner_right, topS 63⟩
def T_law : List Tr := [.c (p3 293 4 28) (p3 293 4 8) [.c (p3 293 11 28) (p3 293 11 20) [.a (p3 293 21 27)]], .c (p3 294 4 87) (p3 294 4 8) [.b (p3 294 11 87) [.c (p3 294 12 48) (p3 294 12 24) [.b (p3 294 25 31) [.a (p3 294 26 27), .a (p3 294 29 30)], .b (p3 294 33 39) [.a (p3 294 34 35), .a (p3 294 37 38)], .b (p3 294 41 47) [.a (p3 294 42 43), .a (p3 294 45 46)]], .c (p3 294 50 86) (p3 294 50 62) [.b (p3 294 63 69) [.a (p3 294 64 65), .a (p3 294 67 68)], .b (p3 294 71 77) [.a (p3 294 72 73), .a (p3 294 75 76)], .b (p3 294 79 85) [.a (p3 294 80 81), .a (p3 294 83 84)]]]], .b (p3 295 4 54) [.c (p3 295 4 54) (p3 295 4 15) [.a (p3 295 4 8), .c (p3 295 16 53) (p3 295 16 27) [.b (p3 295 28 35) [.a (p3 295 29 31), .a (p3 295 33 34)], .b (p3 295 37 43) [.a (p3 295 38 39), .a (p3 295 41 42)], .b (p3 295 45 52) [.a (p3 295 46 48), .a (p3 295 50 51)]]]], .b (p4 296 4 297 20) [.b (p3 296 7 45) [.c (p3 296 11 45) (p3 296 11 18) [.a (p3 296 19 23), .b (p3 296 25 44) [.a (p3 296 26 30), .a (p3 296 32 37), .a (p3 296 39 43)]]], .b (p4 296 4 297 20) [.b (p3 297 8 20) [.a (p3 297 15 20)]], .b (p4 296 4 297 20) []], .b (p3 298 4 93) [.c (p3 298 11 93) (p3 298 11 14) [.nd (p3 298 15 92) ⟨0, 0, 0, 0⟩ ⟨.function, [(".0", .local), ("turn_so", .local), ("_law_closing_right", .globalImplicit), ("_law_inner_right", .globalImplicit), ("hand", .free)], false, false, []⟩ [.b (p3 298 16 67) [.c (p3 298 16 40) (p3 298 16 34) [.a (p3 298 35 39)], .c (p3 298 45 67) (p3 298 45 61) [.a (p3 298 62 66)]], .a (p3 298 72 79), .c (p3 298 83 91) (p3 298 83 88) [.a (p3 298 89 90)], .a (p3 298 15 92)]]]]
def S_law : FSrc := ⟨"law", ["script"], ["script", "hand", "told", "turn_so"], T_law, topS 64⟩
def cs : List Str := ["NoFraction", "NoPoint", "SamePoints", "NoLine", "FarAway", "NotOnLine", "NoMap", "NoCircle", "OnLine", "NoMeeting", "NoCurve", "Flat", "NoNumber", "NoMove", "NoTriangle", "OtherSize"]
def srcs : List (Nat × FSrc) := [(488, S__law_hand), (101, S_common), (102, S_fraction), (116, S_minus), (117, S_times), (511, S_three_closes), (106, S_plus), (512, S_four_closes), (504, S__law_is), (513, S__law_low), (489, S__law_draw), (505, S__law_any), (514, S__law_times), (515, S__law_grown), (516, S__law_less), (517, S__law_three), (518, S__law_plus), (519, S__law_four), (520, S__law_closing_right), (521, S__law_some), (522, S__law_over), (523, S__law_lowest), (524, S__law_at), (133, S_is_integer), (134, S_are_integers), (104, S_lowest), (135, S_check_point), (142, S_places), (139, S_is_fraction), (105, S_whole), (251, S_first_above), (252, S_around), (115, S_root), (120, S_fraction_root), (255, S_is_low), (256, S_is_circle), (257, S_check_circle), (260, S_square_of), (507, S_width_of), (508, S_check_width), (140, S_are_fractions), (141, S_at), (262, S_middle_of), (525, S_inner_of), (253, S_squares_row), (258, S_power), (294, S_is_on), (160, S_square_between), (510, S_touch_sort), (526, S__law_inner_right), (527, S_law)]
theorem st__law_hand : SFact srcs gs cs S__law_hand Pl.F__law_hand_v52 := ⟨by rfl, by decide +kernel, fun _ _ _ _ _ _ _ _ us hl => match us, hl with | [_], _ => rfl⟩
theorem st_common : SFact srcs gs cs S_common Pl.F_common := ⟨by rfl, by decide +kernel, fun _ _ _ _ _ _ _ _ us hl => match us, hl with | [_, _], _ => rfl⟩
theorem st_fraction : SFact srcs gs cs S_fraction Pl.F_fraction := ⟨by rfl, by decide +kernel, fun _ _ _ _ _ _ _ _ us hl => match us, hl with | [_, _], _ => rfl⟩
theorem st_minus : SFact srcs gs cs S_minus Pl.F_minus := ⟨by rfl, by decide +kernel, fun _ _ _ _ _ _ _ _ us hl => match us, hl with | [_, _], _ => rfl⟩
theorem st_times : SFact srcs gs cs S_times Pl.F_times := ⟨by rfl, by decide +kernel, fun _ _ _ _ _ _ _ _ us hl => match us, hl with | [_, _], _ => rfl⟩
theorem st_three_closes : SFact srcs gs cs S_three_closes Pl.F_three_closes := ⟨by rfl, by decide +kernel, fun _ _ _ _ _ _ _ _ us hl => match us, hl with | [_, _, _], _ => rfl⟩
theorem st_plus : SFact srcs gs cs S_plus Pl.F_plus := ⟨by rfl, by decide +kernel, fun _ _ _ _ _ _ _ _ us hl => match us, hl with | [_, _], _ => rfl⟩
theorem st_four_closes : SFact srcs gs cs S_four_closes Pl.F_four_closes := ⟨by rfl, by decide +kernel, fun _ _ _ _ _ _ _ _ us hl => match us, hl with | [_, _, _], _ => rfl⟩
theorem st__law_is : SFact srcs gs cs S__law_is Pl.F__law_is_v3 := ⟨by rfl, by decide +kernel, fun _ _ _ _ _ _ _ _ us hl => match us, hl with | [_, _], _ => rfl⟩
theorem st__law_low : SFact srcs gs cs S__law_low Pl.F__law_low_v4 := ⟨by rfl, by decide +kernel, fun _ _ _ _ _ _ _ _ us hl => match us, hl with | [_, _], _ => rfl⟩
theorem st__law_draw : SFact srcs gs cs S__law_draw Pl.F__law_draw_v4 := ⟨by rfl, by decide +kernel, fun _ _ _ _ _ _ _ _ us hl => match us, hl with | [_, _], _ => rfl⟩
theorem st__law_any : SFact srcs gs cs S__law_any Pl.F__law_any_v4 := ⟨by rfl, by decide +kernel, fun _ _ _ _ _ _ _ _ us hl => match us, hl with | [_, _], _ => rfl⟩
theorem st__law_times : SFact srcs gs cs S__law_times Pl.F__law_times_v3 := ⟨by rfl, by decide +kernel, fun _ _ _ _ _ _ _ _ us hl => match us, hl with | [_, _], _ => rfl⟩
theorem st__law_grown : SFact srcs gs cs S__law_grown Pl.F__law_grown := ⟨by rfl, by decide +kernel, fun _ _ _ _ _ _ _ _ us hl => match us, hl with | [_, _], _ => rfl⟩
theorem st__law_less : SFact srcs gs cs S__law_less Pl.F__law_less_v2 := ⟨by rfl, by decide +kernel, fun _ _ _ _ _ _ _ _ us hl => match us, hl with | [_, _], _ => rfl⟩
theorem st__law_three : SFact srcs gs cs S__law_three Pl.F__law_three_v3 := ⟨by rfl, by decide +kernel, fun _ _ _ _ _ _ _ _ us hl => match us, hl with | [_], _ => rfl⟩
theorem st__law_plus : SFact srcs gs cs S__law_plus Pl.F__law_plus_v2 := ⟨by rfl, by decide +kernel, fun _ _ _ _ _ _ _ _ us hl => match us, hl with | [_, _], _ => rfl⟩
theorem st__law_four : SFact srcs gs cs S__law_four Pl.F__law_four_v3 := ⟨by rfl, by decide +kernel, fun _ _ _ _ _ _ _ _ us hl => match us, hl with | [_], _ => rfl⟩
theorem st__law_closing_right : SFact srcs gs cs S__law_closing_right Pl.F__law_closing_right := ⟨by rfl, by decide +kernel, fun _ _ _ _ _ _ _ _ us hl => match us, hl with | [_], _ => rfl⟩
theorem st__law_some : SFact srcs gs cs S__law_some Pl.F__law_some := ⟨by rfl, by decide +kernel, fun _ _ _ _ _ _ _ _ us hl => match us, hl with | [_], _ => rfl⟩
theorem st__law_over : SFact srcs gs cs S__law_over Pl.F__law_over_v2 := ⟨by rfl, by decide +kernel, fun _ _ _ _ _ _ _ _ us hl => match us, hl with | [_, _], _ => rfl⟩
theorem st__law_lowest : SFact srcs gs cs S__law_lowest Pl.F__law_lowest_v3 := ⟨by rfl, by decide +kernel, fun _ _ _ _ _ _ _ _ us hl => match us, hl with | [_], _ => rfl⟩
theorem st__law_at : SFact srcs gs cs S__law_at Pl.F__law_at := ⟨by rfl, by decide +kernel, fun _ _ _ _ _ _ _ _ us hl => match us, hl with | [_, _], _ => rfl⟩
theorem st_is_integer : SFact srcs gs cs S_is_integer Pl.F_is_integer := ⟨by rfl, by decide +kernel, fun _ _ _ _ _ _ _ _ us hl => match us, hl with | [_], _ => rfl⟩
theorem st_are_integers : SFact srcs gs cs S_are_integers Pl.F_are_integers := ⟨by rfl, by decide +kernel, fun _ _ _ _ _ _ _ _ us hl => match us, hl with | [_, _], _ => rfl⟩
theorem st_lowest : SFact srcs gs cs S_lowest Pl.F_lowest := ⟨by rfl, by decide +kernel, fun _ _ _ _ _ _ _ _ us hl => match us, hl with | [_], _ => rfl⟩
theorem st_check_point : SFact srcs gs cs S_check_point Pl.F_check_point := ⟨by rfl, by decide +kernel, fun _ _ _ _ _ _ _ _ us hl => match us, hl with | [_], _ => rfl⟩
theorem st_places : SFact srcs gs cs S_places Pl.F_places := ⟨by rfl, by decide +kernel, fun _ _ _ _ _ _ _ _ us hl => match us, hl with | [_], _ => rfl⟩
theorem st_is_fraction : SFact srcs gs cs S_is_fraction Pl.F_is_fraction := ⟨by rfl, by decide +kernel, fun _ _ _ _ _ _ _ _ us hl => match us, hl with | [_], _ => rfl⟩
theorem st_whole : SFact srcs gs cs S_whole Pl.F_whole := ⟨by rfl, by decide +kernel, fun _ _ _ _ _ _ _ _ us hl => match us, hl with | [_], _ => rfl⟩
theorem st_first_above : SFact srcs gs cs S_first_above Pl.F_first_above := ⟨by rfl, by decide +kernel, fun _ _ _ _ _ _ _ _ us hl => match us, hl with | [_], _ => rfl⟩
theorem st_around : SFact srcs gs cs S_around Pl.F_around := ⟨by rfl, by decide +kernel, fun _ _ _ _ _ _ _ _ us hl => match us, hl with | [_, _], _ => rfl⟩
theorem st_root : SFact srcs gs cs S_root Pl.F_root := ⟨by rfl, by decide +kernel, fun _ _ _ _ _ _ _ _ us hl => match us, hl with | [_], _ => rfl⟩
theorem st_fraction_root : SFact srcs gs cs S_fraction_root Pl.F_fraction_root := ⟨by rfl, by decide +kernel, fun _ _ _ _ _ _ _ _ us hl => match us, hl with | [_], _ => rfl⟩
theorem st_is_low : SFact srcs gs cs S_is_low Pl.F_is_low := ⟨by rfl, by decide +kernel, fun _ _ _ _ _ _ _ _ us hl => match us, hl with | [_], _ => rfl⟩
theorem st_is_circle : SFact srcs gs cs S_is_circle Pl.F_is_circle := ⟨by rfl, by decide +kernel, fun _ _ _ _ _ _ _ _ us hl => match us, hl with | [_], _ => rfl⟩
theorem st_check_circle : SFact srcs gs cs S_check_circle Pl.F_check_circle := ⟨by rfl, by decide +kernel, fun _ _ _ _ _ _ _ _ us hl => match us, hl with | [_], _ => rfl⟩
theorem st_square_of : SFact srcs gs cs S_square_of Pl.F_square_of := ⟨by rfl, by decide +kernel, fun _ _ _ _ _ _ _ _ us hl => match us, hl with | [_], _ => rfl⟩
theorem st_width_of : SFact srcs gs cs S_width_of Pl.F_width_of := ⟨by rfl, by decide +kernel, fun _ _ _ _ _ _ _ _ us hl => match us, hl with | [_], _ => rfl⟩
theorem st_check_width : SFact srcs gs cs S_check_width Pl.F_check_width := ⟨by rfl, by decide +kernel, fun _ _ _ _ _ _ _ _ us hl => match us, hl with | [_], _ => rfl⟩
theorem st_are_fractions : SFact srcs gs cs S_are_fractions Pl.F_are_fractions := ⟨by rfl, by decide +kernel, fun _ _ _ _ _ _ _ _ us hl => match us, hl with | [_, _], _ => rfl⟩
theorem st_at : SFact srcs gs cs S_at Pl.F_at := ⟨by rfl, by decide +kernel, fun _ _ _ _ _ _ _ _ us hl => match us, hl with | [_, _], _ => rfl⟩
theorem st_middle_of : SFact srcs gs cs S_middle_of Pl.F_middle_of := ⟨by rfl, by decide +kernel, fun _ _ _ _ _ _ _ _ us hl => match us, hl with | [_], _ => rfl⟩
theorem st_inner_of : SFact srcs gs cs S_inner_of Pl.F_inner_of := ⟨by rfl, by decide +kernel, fun _ _ _ _ _ _ _ _ us hl => match us, hl with | [_, _], _ => rfl⟩
theorem st_squares_row : SFact srcs gs cs S_squares_row Pl.F_squares_row := ⟨by rfl, by decide +kernel, fun _ _ _ _ _ _ _ _ us hl => match us, hl with | [_], _ => rfl⟩
theorem st_power : SFact srcs gs cs S_power Pl.F_power := ⟨by rfl, by decide +kernel, fun _ _ _ _ _ _ _ _ us hl => match us, hl with | [_, _], _ => rfl⟩
theorem st_is_on : SFact srcs gs cs S_is_on Pl.F_is_on_v2 := ⟨by rfl, by decide +kernel, fun _ _ _ _ _ _ _ _ us hl => match us, hl with | [_, _], _ => rfl⟩
theorem st_square_between : SFact srcs gs cs S_square_between Pl.F_square_between := ⟨by rfl, by decide +kernel, fun _ _ _ _ _ _ _ _ us hl => match us, hl with | [_, _], _ => rfl⟩
theorem st_touch_sort : SFact srcs gs cs S_touch_sort Pl.F_touch_sort := ⟨by rfl, by decide +kernel, fun _ _ _ _ _ _ _ _ us hl => match us, hl with | [_, _], _ => rfl⟩
theorem st__law_inner_right : SFact srcs gs cs S__law_inner_right Pl.F__law_inner_right := ⟨by rfl, by decide +kernel, fun _ _ _ _ _ _ _ _ us hl => match us, hl with | [_], _ => rfl⟩
theorem st_law : SFact srcs gs cs S_law Pl.F_law := ⟨by rfl, by decide +kernel, fun _ _ _ _ _ _ _ _ us hl => match us, hl with | [_], _ => rfl⟩
end K60
namespace K60
open Pi PySem PySem.W PyProof.Rows L2
abbrev lawDepth : Nat := 40
theorem law_last {K : PySem.W.Frag} {mg : Str → Option Value} {l : PySem.W.OpenLaw} {w : World} {fa : Addr} (hfa : mg "law" = some (.ref fa)) (hF : Facts K mg srcs fns gs cs) :
    ∃ fd : FuncData, (∀ (st : Shared) (u : Value), BindsTo st fd ⟨[u], []⟩ [("script", u)]) ∧ ∀ base : Heap, K.In base → base.Ns mainGlobals mg → FnOk l.prog w K mg base (L2.CX l.prog w) lawDepth fa fd [("script" : Str)] (Pi.spLaw K srcs fns gs lawDepth 527) :=
  law_fn (s := S_law) (F := Pl.F_law) rfl rfl hfa rfl rfl hF
end K60
open PySem PySem.W PyProof.Rows
set_option maxHeartbeats 0 in
set_option maxRecDepth 100000 in
theorem PySem.Challenge.cw_drawnexact_k60_whole_closing_rounds_and_holds : PySem.Challenge.rw_drawnexact_k60_whole_closing_rounds_and.Holds := by
  w_on; o_law; k_head; (case hw => w_witness2)
  k_fill
  refine L2.walk_of (l := PySem.Challenge.rw_drawnexact_k60_whole_closing_rounds_and) (n := 63) (k := K60.lawDepth) (x := "script") (CX := fun w => L2.CX PySem.Challenge.rw_drawnexact_k60_whole_closing_rounds_and.prog w) (sp := fun w => Pi.spLaw _ K60.srcs K60.fns K60.gs K60.lawDepth 527) rfl (by decide) rfl ⟨rfl, by decide, by decide⟩ (fun w h Y => PySem.W.kIn_of Y) ?F (fun w H a ns hl hO hS => Pi.law_sp K60.law_math H a ns hl hO hS) (fun _ _ _ _ _ h => Pi.law_cx h)
  case F =>
    intro w mg fa h KX G hmg
    refine K60.law_last hmg ⟨?pifns, ?pigs, ?piblt⟩
    case piblt =>
      refine Pi.blt_all (PySem.W.mg_none_of KX G ?pi_z0) (PySem.W.mg_none_of KX G ?pi_z1) (PySem.W.mg_none_of KX G ?pi_z2) (PySem.W.mg_none_of KX G ?pi_z3) (PySem.W.mg_none_of KX G ?pi_z4) (PySem.W.mg_none_of KX G ?pi_z5) (PySem.W.mg_none_of KX G ?pi_z6) (PySem.W.mg_none_of KX G ?pi_z7) (PySem.W.mg_none_of KX G ?pi_z8) (PySem.W.mg_none_of KX G ?pi_z9) (PySem.W.mg_none_of KX G ?pi_z10) (PySem.W.mg_none_of KX G ?pi_z11) (PySem.W.mg_none_of KX G ?pi_z12) (PySem.W.mg_none_of KX G ?pi_z13) (PySem.W.mg_none_of KX G ?pi_z14) (PySem.W.mg_none_of KX G ?pi_z15)
      all_goals k_is
    case pigs =>
      refine' ⟨Pi.gfact_tup (vs := [.int 1, .int 1]) (PySem.W.mg_of KX G ?pi_g0) ?pi_l0 ?pi_gc0 ?pi_gd0 ?pi_gz0 ?pi_gv0 (fun S ms H => ⟨_, _, rfl, rfl, ⟨_, _, rfl, rfl, rfl⟩⟩), True.intro⟩
      (case pi_g0 => k_is)
      (case pi_l0 => k_is); (case pi_gc0 => rfl); (case pi_gd0 => rfl); (case pi_gz0 => decide); (case pi_gv0 => exact .cons ⟨_, rfl⟩ (.cons ⟨_, rfl⟩ (.nil)))
    case pifns =>
      refine ⟨⟨rfl, ?pi_f0⟩, ⟨rfl, ?pi_f1⟩, ⟨rfl, ?pi_f2⟩, ⟨rfl, ?pi_f3⟩, ⟨rfl, ?pi_f4⟩, ⟨rfl, ?pi_f5⟩, ⟨rfl, ?pi_f6⟩, ⟨rfl, ?pi_f7⟩, ⟨rfl, ?pi_f8⟩, ⟨rfl, ?pi_f9⟩, ⟨rfl, ?pi_f10⟩, ⟨rfl, ?pi_f11⟩, ⟨rfl, ?pi_f12⟩, ⟨rfl, ?pi_f13⟩, ⟨rfl, ?pi_f14⟩, ⟨rfl, ?pi_f15⟩, ⟨rfl, ?pi_f16⟩, ⟨rfl, ?pi_f17⟩, ⟨rfl, ?pi_f18⟩, ⟨rfl, ?pi_f19⟩, ⟨rfl, ?pi_f20⟩, ⟨rfl, ?pi_f21⟩, ⟨rfl, ?pi_f22⟩, ⟨rfl, ?pi_f23⟩, ⟨rfl, ?pi_f24⟩, ⟨rfl, ?pi_f25⟩, ⟨rfl, ?pi_f26⟩, ⟨rfl, ?pi_f27⟩, ⟨rfl, ?pi_f28⟩, ⟨rfl, ?pi_f29⟩, ⟨rfl, ?pi_f30⟩, ⟨rfl, ?pi_f31⟩, ⟨rfl, ?pi_f32⟩, ⟨rfl, ?pi_f33⟩, ⟨rfl, ?pi_f34⟩, ⟨rfl, ?pi_f35⟩, ⟨rfl, ?pi_f36⟩, ⟨rfl, ?pi_f37⟩, ⟨rfl, ?pi_f38⟩, ⟨rfl, ?pi_f39⟩, ⟨rfl, ?pi_f40⟩, ⟨rfl, ?pi_f41⟩, ⟨rfl, ?pi_f42⟩, ⟨rfl, ?pi_f43⟩, ⟨rfl, ?pi_f44⟩, ⟨rfl, ?pi_f45⟩, ⟨rfl, ?pi_f46⟩, ⟨rfl, ?pi_f47⟩, ⟨rfl, ?pi_f48⟩, ⟨rfl, ?pi_f49⟩, ⟨rfl, ?pi_f50⟩, True.intro⟩
      (case pi_f0 => refine' Pi.ffact_mk KX G K60.st__law_hand ?a ?l ?c ?k; (case a => k_is); (case l => k_is); (case c => k_is); (case k => k_is))
      (case pi_f1 => refine' Pi.ffact_mk KX G K60.st_common ?a ?l ?c ?k; (case a => k_is); (case l => k_is); (case c => k_is); (case k => k_is))
      (case pi_f2 => refine' Pi.ffact_mk KX G K60.st_fraction ?a ?l ?c ?k; (case a => k_is); (case l => k_is); (case c => k_is); (case k => k_is))
      (case pi_f3 => refine' Pi.ffact_mk KX G K60.st_minus ?a ?l ?c ?k; (case a => k_is); (case l => k_is); (case c => k_is); (case k => k_is))
      (case pi_f4 => refine' Pi.ffact_mk KX G K60.st_times ?a ?l ?c ?k; (case a => k_is); (case l => k_is); (case c => k_is); (case k => k_is))
      (case pi_f5 => refine' Pi.ffact_mk KX G K60.st_three_closes ?a ?l ?c ?k; (case a => k_is); (case l => k_is); (case c => k_is); (case k => k_is))
      (case pi_f6 => refine' Pi.ffact_mk KX G K60.st_plus ?a ?l ?c ?k; (case a => k_is); (case l => k_is); (case c => k_is); (case k => k_is))
      (case pi_f7 => refine' Pi.ffact_mk KX G K60.st_four_closes ?a ?l ?c ?k; (case a => k_is); (case l => k_is); (case c => k_is); (case k => k_is))
      (case pi_f8 => refine' Pi.ffact_mk KX G K60.st__law_is ?a ?l ?c ?k; (case a => k_is); (case l => k_is); (case c => k_is); (case k => k_is))
      (case pi_f9 => refine' Pi.ffact_mk KX G K60.st__law_low ?a ?l ?c ?k; (case a => k_is); (case l => k_is); (case c => k_is); (case k => k_is))
      (case pi_f10 => refine' Pi.ffact_mk KX G K60.st__law_draw ?a ?l ?c ?k; (case a => k_is); (case l => k_is); (case c => k_is); (case k => k_is))
      (case pi_f11 => refine' Pi.ffact_mk KX G K60.st__law_any ?a ?l ?c ?k; (case a => k_is); (case l => k_is); (case c => k_is); (case k => k_is))
      (case pi_f12 => refine' Pi.ffact_mk KX G K60.st__law_times ?a ?l ?c ?k; (case a => k_is); (case l => k_is); (case c => k_is); (case k => k_is))
      (case pi_f13 => refine' Pi.ffact_mk KX G K60.st__law_grown ?a ?l ?c ?k; (case a => k_is); (case l => k_is); (case c => k_is); (case k => k_is))
      (case pi_f14 => refine' Pi.ffact_mk KX G K60.st__law_less ?a ?l ?c ?k; (case a => k_is); (case l => k_is); (case c => k_is); (case k => k_is))
      (case pi_f15 => refine' Pi.ffact_mk KX G K60.st__law_three ?a ?l ?c ?k; (case a => k_is); (case l => k_is); (case c => k_is); (case k => k_is))
      (case pi_f16 => refine' Pi.ffact_mk KX G K60.st__law_plus ?a ?l ?c ?k; (case a => k_is); (case l => k_is); (case c => k_is); (case k => k_is))
      (case pi_f17 => refine' Pi.ffact_mk KX G K60.st__law_four ?a ?l ?c ?k; (case a => k_is); (case l => k_is); (case c => k_is); (case k => k_is))
      (case pi_f18 => refine' Pi.ffact_mk KX G K60.st__law_closing_right ?a ?l ?c ?k; (case a => k_is); (case l => k_is); (case c => k_is); (case k => k_is))
      (case pi_f19 => refine' Pi.ffact_mk KX G K60.st__law_some ?a ?l ?c ?k; (case a => k_is); (case l => k_is); (case c => k_is); (case k => k_is))
      (case pi_f20 => refine' Pi.ffact_mk KX G K60.st__law_over ?a ?l ?c ?k; (case a => k_is); (case l => k_is); (case c => k_is); (case k => k_is))
      (case pi_f21 => refine' Pi.ffact_mk KX G K60.st__law_lowest ?a ?l ?c ?k; (case a => k_is); (case l => k_is); (case c => k_is); (case k => k_is))
      (case pi_f22 => refine' Pi.ffact_mk KX G K60.st__law_at ?a ?l ?c ?k; (case a => k_is); (case l => k_is); (case c => k_is); (case k => k_is))
      (case pi_f23 => refine' Pi.ffact_mk KX G K60.st_is_integer ?a ?l ?c ?k; (case a => k_is); (case l => k_is); (case c => k_is); (case k => k_is))
      (case pi_f24 => refine' Pi.ffact_mk KX G K60.st_are_integers ?a ?l ?c ?k; (case a => k_is); (case l => k_is); (case c => k_is); (case k => k_is))
      (case pi_f25 => refine' Pi.ffact_mk KX G K60.st_lowest ?a ?l ?c ?k; (case a => k_is); (case l => k_is); (case c => k_is); (case k => k_is))
      (case pi_f26 => refine' Pi.ffact_mk KX G K60.st_check_point ?a ?l ?c ?k; (case a => k_is); (case l => k_is); (case c => k_is); (case k => k_is))
      (case pi_f27 => refine' Pi.ffact_mk KX G K60.st_places ?a ?l ?c ?k; (case a => k_is); (case l => k_is); (case c => k_is); (case k => k_is))
      (case pi_f28 => refine' Pi.ffact_mk KX G K60.st_is_fraction ?a ?l ?c ?k; (case a => k_is); (case l => k_is); (case c => k_is); (case k => k_is))
      (case pi_f29 => refine' Pi.ffact_mk KX G K60.st_whole ?a ?l ?c ?k; (case a => k_is); (case l => k_is); (case c => k_is); (case k => k_is))
      (case pi_f30 => refine' Pi.ffact_mk KX G K60.st_first_above ?a ?l ?c ?k; (case a => k_is); (case l => k_is); (case c => k_is); (case k => k_is))
      (case pi_f31 => refine' Pi.ffact_mk KX G K60.st_around ?a ?l ?c ?k; (case a => k_is); (case l => k_is); (case c => k_is); (case k => k_is))
      (case pi_f32 => refine' Pi.ffact_mk KX G K60.st_root ?a ?l ?c ?k; (case a => k_is); (case l => k_is); (case c => k_is); (case k => k_is))
      (case pi_f33 => refine' Pi.ffact_mk KX G K60.st_fraction_root ?a ?l ?c ?k; (case a => k_is); (case l => k_is); (case c => k_is); (case k => k_is))
      (case pi_f34 => refine' Pi.ffact_mk KX G K60.st_is_low ?a ?l ?c ?k; (case a => k_is); (case l => k_is); (case c => k_is); (case k => k_is))
      (case pi_f35 => refine' Pi.ffact_mk KX G K60.st_is_circle ?a ?l ?c ?k; (case a => k_is); (case l => k_is); (case c => k_is); (case k => k_is))
      (case pi_f36 => refine' Pi.ffact_mk KX G K60.st_check_circle ?a ?l ?c ?k; (case a => k_is); (case l => k_is); (case c => k_is); (case k => k_is))
      (case pi_f37 => refine' Pi.ffact_mk KX G K60.st_square_of ?a ?l ?c ?k; (case a => k_is); (case l => k_is); (case c => k_is); (case k => k_is))
      (case pi_f38 => refine' Pi.ffact_mk KX G K60.st_width_of ?a ?l ?c ?k; (case a => k_is); (case l => k_is); (case c => k_is); (case k => k_is))
      (case pi_f39 => refine' Pi.ffact_mk KX G K60.st_check_width ?a ?l ?c ?k; (case a => k_is); (case l => k_is); (case c => k_is); (case k => k_is))
      (case pi_f40 => refine' Pi.ffact_mk KX G K60.st_are_fractions ?a ?l ?c ?k; (case a => k_is); (case l => k_is); (case c => k_is); (case k => k_is))
      (case pi_f41 => refine' Pi.ffact_mk KX G K60.st_at ?a ?l ?c ?k; (case a => k_is); (case l => k_is); (case c => k_is); (case k => k_is))
      (case pi_f42 => refine' Pi.ffact_mk KX G K60.st_middle_of ?a ?l ?c ?k; (case a => k_is); (case l => k_is); (case c => k_is); (case k => k_is))
      (case pi_f43 => refine' Pi.ffact_mk KX G K60.st_inner_of ?a ?l ?c ?k; (case a => k_is); (case l => k_is); (case c => k_is); (case k => k_is))
      (case pi_f44 => refine' Pi.ffact_mk KX G K60.st_squares_row ?a ?l ?c ?k; (case a => k_is); (case l => k_is); (case c => k_is); (case k => k_is))
      (case pi_f45 => refine' Pi.ffact_mk KX G K60.st_power ?a ?l ?c ?k; (case a => k_is); (case l => k_is); (case c => k_is); (case k => k_is))
      (case pi_f46 => refine' Pi.ffact_mk KX G K60.st_is_on ?a ?l ?c ?k; (case a => k_is); (case l => k_is); (case c => k_is); (case k => k_is))
      (case pi_f47 => refine' Pi.ffact_mk KX G K60.st_square_between ?a ?l ?c ?k; (case a => k_is); (case l => k_is); (case c => k_is); (case k => k_is))
      (case pi_f48 => refine' Pi.ffact_mk KX G K60.st_touch_sort ?a ?l ?c ?k; (case a => k_is); (case l => k_is); (case c => k_is); (case k => k_is))
      (case pi_f49 => refine' Pi.ffact_mk KX G K60.st__law_inner_right ?a ?l ?c ?k; (case a => k_is); (case l => k_is); (case c => k_is); (case k => k_is))
      (case pi_f50 => refine' Pi.ffact_mk KX G K60.st_law ?a ?l ?c ?k; (case a => k_is); (case l => k_is); (case c => k_is); (case k => k_is))
