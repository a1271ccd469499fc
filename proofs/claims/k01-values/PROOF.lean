import PyProof.Rows.All
import HandS.ForMost
import HandS.Wide
import HandS.IsInst
import HandS.Deep
import HandS.DeepEq
import HandS.Style
import HandS.Lambda
import HandS.TryMany
import HandS.Defaults
import HandS.Walk
import HandS.Strs
import HandS.Evl
import HandS.HeadHook4
import HandS.HeadWalk
import HandS.HeadEnd
import HandS.Head2
import HandS.Zip
import HandS.RevTup
import HandS.DictEq
import HandS.DictComp
import HandS.More
import HandS.Dict
import KE.GoesMore
import HandS.SetBool
import HandS.TupAny
import HandS.ListEq
import PySem.Challenge.RW_keptforraw_k01_values_judged
set_option Elab.async false
set_option linter.all false
set_option maxRecDepth 100000
/-! MiniPy 1: data by value, a mini heap of lists changed in place, and what a construct computes. -/
namespace MP
open PySem L2

/-- data: by value; h n: the n-th of the mini heap -/
inductive D where
  | non | bl (b : Bool) | int (i : Int) | str (s : Str)
  | tup (xs : List D) | lst (xs : List D) | dic (ks : List Key) (xs : List D)
  /-- a list of the module's own -/
  | kls (xs : List D)
  | h (n : Nat)
/-- what the mini heap holds: a list that may be changed; nothing to be told -/
inductive O where
  | lst (xs : List D) | dead
abbrev Mh := List O
abbrev Rho := List (Option D)
inductive R (α : Type) where
  | fail
  | ok (a : α) (M : Mh)
  | exc (x : Str) (ds : List D) (M : Mh)
def R.bind {α β : Type} : R α → (α → Mh → R β) → R β
  | .fail, _ => .fail
  | .ok a M, k => k a M
  | .exc x ds M, _ => .exc x ds M
/-- from an option -/
def opt {α β : Type} (o : Option α) (k : α → R β) : R β := match o with
  | some a => k a
  | none => .fail
def chk {β : Type} (b : Bool) (k : R β) : R β := if b = true then k else .fail

/-- what the defs compute; the same some calls deeper, within a lambda -/
structure Cf where
  call : Str → List D → Mh → R D
  low : Str → List D → Mh → R D
  deep : Bool
def Cf.lower (c : Cf) : Cf := ⟨c.low, c.low, false⟩
abbrev Fn (α : Type) := Cf → Rho → Mh → R α
abbrev ES := Fn D
abbrev TSm := Fn Bool
abbrev AS := Fn (List D)

/-- a handle seen as what it holds -/
def view (M : Mh) : D → D
  | .h n => match M[n]? with
    | some (.lst xs) => .lst xs
    | _ => .h n
  | d => d
/-- a new list (dict): by value, or a handle -/
def alloc (mt : Bool) (d : D) (M : Mh) : R D :=
  if mt = true then (match d with
    | .lst xs => .ok (.h M.length) (M ++ [.lst xs])
    | _ => .fail)
  else .ok d M

/-! ### operations on values -/
def line : Nat := 16777216
inductive Bop where | add | sub | mul | mod | fdiv | pow
def isZ (d : D) : Bool := match d with
  | .int _ => true
  | _ => false
def bop : Bop → D → D → Option D
  | .add, .int i, .int j => some (.int (i + j))
  | .add, .str s, .str t => if s.length + t.length ≤ line then some (.str (s ++ t)) else none
  | .add, .lst xs, .lst ys => if xs.length + ys.length ≤ line then some (.lst (xs ++ ys)) else none
  | .add, .tup xs, .tup ys => if xs.length + ys.length ≤ line then some (.tup (xs ++ ys)) else none
  | .sub, .int i, .int j => some (.int (i - j))
  | .mul, .int i, .int j => if i.natAbs.log2 + j.natAbs.log2 < 1000000 then some (.int (i * j)) else none
  | .mul, .str s, .int j => if 0 < j ∧ j ≤ 1000 ∧ s.length ≤ 1000 then some (.str (Txt.mul s j)) else none
  | .mod, .int i, .int j => if 0 < j then some (.int (i % j)) else none
  | .fdiv, .int i, .int j => if 0 < j ∧ j.natAbs.log2 < 9000 then some (.int (i / j)) else none
  | .pow, .int i, .int j => if 0 ≤ j ∧ j ≤ 1000000 ∧ i.natAbs < 2 ^ 64 then some (.int (i ^ j.toNat)) else none
  | _, _, _ => none

inductive Cmp where | eq | ne | lt | le | gt | ge | inn | nin
def flat : D → Bool
  | .non | .bl _ | .int _ | .str _ => true
  | _ => false
/-- == of flat data -/
def eqF : D → D → Bool
  | .non, .non => true
  | .bl a, .bl b => a == b
  | .bl a, .int b => (if a then 1 else 0) == b
  | .int a, .bl b => a == (if b then 1 else 0)
  | .int a, .int b => a == b
  | .str a, .str b => a == b
  | _, _ => false
mutual
def toPy : D → Option PyData
  | .non => some .none
  | .bl b => some (.bool b)
  | .int i => some (.int i)
  | .str s => some (.str s)
  | .tup xs => (toPys xs).map .tuple
  | .lst xs => (toPys xs).map .list
  | .dic _ _ => none
  | .kls _ => none
  | .h _ => none
def toPys : List D → Option (List PyData)
  | [] => some []
  | x :: xs => match toPy x, toPys xs with
    | some y, some ys => some (y :: ys)
    | _, _ => none
end
/-- the same flat data -/
def sameF : D → D → Bool
  | .non, .non => true
  | .bl a, .bl b => a == b
  | .int a, .int b => a == b
  | .str a, .str b => a == b
  | _, _ => false
def sameFs : List D → List D → Bool
  | [], [] => true
  | x :: xs, y :: ys => sameF x y && sameFs xs ys
  | _, _ => false
/-- == : scalars; data at any depth; dicts of flat values that agree -/
def eqD : D → D → Option Bool
  | .int i, .int j => some (decide (i = j))
  | .str s, .str t => some (decide (s = t))
  | .bl a, .bl b => some (decide (a = b))
  | .lst xs, .lst ys => if xs.isEmpty || ys.isEmpty then (if xs.isEmpty && ys.isEmpty then some true else some false) else
    (match toPys xs, toPys ys with
      | some a, some b => if SeqAt.shaped (.list a) && SeqAt.shaped (.list b) then some (PyData.eqv (.list a) (.list b)) else none
      | _, _ => none)
  | .tup xs, .tup ys => (match toPys xs, toPys ys with
      | some a, some b => if SeqAt.shaped (.tuple a) && SeqAt.shaped (.tuple b) then some (PyData.eqv (.tuple a) (.tuple b)) else none
      | _, _ => none)
  | .dic ks xs, .dic ls ys => if decide (ks = ls) && (decide ks.Nodup && sameFs xs ys) then some true else none
  | _, _ => none
def sign? (s : Str) : Option Nat := match s.cps.toList with
  | [c] => some c
  | _ => none
def inD : D → D → Option Bool
  | .str s, .str t => (sign? s).map fun c => decide (c ∈ t.cps.toList)
  | x, .lst ys => if flat x && ys.all flat then some (ys.any fun y => eqF y x) else none
  | x, .kls ys => if flat x && ys.all flat then some (ys.any fun y => eqF y x) else none
  | x, .tup ys => if flat x && ys.all flat then some (ys.any fun y => eqF y x) else none
  | _, _ => none
def cmp : Cmp → D → D → Option Bool
  | .eq, x, y => eqD x y
  | .ne, x, y => (eqD x y).map not
  | .lt, .int i, .int j => some (decide (i < j))
  | .le, .int i, .int j => some (decide (i ≤ j))
  | .gt, .int i, .int j => some (decide (j < i))
  | .ge, .int i, .int j => some (decide (j ≤ i))
  | .inn, x, y => inD x y
  | .nin, x, y => (inD x y).map not
  | _, _, _ => none
/-- truth -/
def truth : D → Option Bool
  | .non => some false
  | .bl b => some b
  | .int i => some (i != 0)
  | .str s => if s.length ≤ line then some ((s.length : Int) != 0) else none
  | .lst xs => some (!xs.isEmpty)
  | .tup xs => some (!xs.isEmpty)
  | .dic ks _ => some (!ks.isEmpty)
  | .kls _ => none
  | .h _ => none
def lenD : D → Option Nat
  | .str s => if s.length ≤ line then some s.length else none
  | .lst xs => some xs.length
  | .tup xs => some xs.length
  | .kls xs => some xs.length
  | _ => none
def idxD : D → D → Option D
  | .lst xs, .int i => atI xs i
  | .tup xs, .int i => atI xs i
  | .kls xs, .int i => atI xs i
  | .str s, .int i => if s.length ≤ line then (atI s.cps.toList i).map fun c => .str ⟨#[c]⟩ else none
  | _, _ => none
def cut (xs : List D) (lo hi : Option Int) : List D := (xs.drop (HT.sIx xs.length 0 lo)).take (HT.sIx xs.length xs.length hi - HT.sIx xs.length 0 lo)
def slcD (lo hi : Option Int) : D → Option D
  | .lst xs => some (.lst (cut xs lo hi))
  | .tup xs => some (.tup (cut xs lo hi))
  | .str s => if s.length ≤ line then some (.str (cutS s lo hi)) else none
  | _ => none
def revD : D → Option D
  | .lst xs => some (.lst xs.reverse)
  | .tup xs => some (.tup xs.reverse)
  | _ => none
/-- isinstance(x, T), T a built-in class by name -/
def tyN : D → Option String
  | .non => some "NoneType" | .bl _ => some "bool" | .int _ => some "int" | .str _ => some "str" | .tup _ => some "tuple" | .lst _ => some "list" | .dic _ _ => some "dict" | .kls _ => some "list"
  | .h _ => none
def isiD (d : D) (t : String) : Option Bool := (tyN d).bind fun n => L2.kitB n t
def allBl : List D → Option (List Bool)
  | [] => some []
  | .bl b :: r => (allBl r).map (b :: ·)
  | _ :: _ => none
def allStr : List D → Option (List Str)
  | [] => some []
  | .str b :: r => (allStr r).map (b :: ·)
  | _ :: _ => none
def signs (s : Str) : List D := s.cps.toList.map fun c => .str ⟨#[c]⟩

/-! ### expressions -/
def sC (d : D) : ES := fun _ _ M => .ok d M
def sVar (i : Nat) : ES := fun _ ρ M => match ρ[i]? with
  | some (some d) => .ok d M
  | _ => .fail
def sBop (o : Bop) (mt : Bool) (a b : ES) : ES := fun c ρ M => (a c ρ M).bind fun x M1 => (b c ρ M1).bind fun y M2 => opt (bop o (view M2 x) (view M2 y)) fun d => alloc mt d M2
def sCmp (o : Cmp) (a b : ES) : ES := fun c ρ M => (a c ρ M).bind fun x M1 => (b c ρ M1).bind fun y M2 => opt (cmp o (view M2 x) (view M2 y)) fun k => .ok (.bl k) M2
/-- a o b p c -/
def sChain (o p : Cmp) (a b e : ES) : ES := fun c ρ M => (a c ρ M).bind fun x M1 => (b c ρ M1).bind fun y M2 => opt (cmp o (view M2 x) (view M2 y)) fun k =>
  if k = true then (e c ρ M2).bind fun z M3 => opt (cmp p (view M3 y) (view M3 z)) fun k2 => .ok (.bl k2) M3 else .ok (.bl false) M2
/-- x is None, x is True, x is False -/
def isD : D → D → Option Bool
  | .non, .non => some true
  | .bl _, .non => some false
  | .bl b, .bl c => some (decide (b = c))
  | _, .non => some false
  | _, _ => none
def sIs (a : ES) (d : D) : ES := fun c ρ M => (a c ρ M).bind fun x M1 => opt (isD x d) fun k => .ok (.bl k) M1
def sNeg (a : ES) : ES := fun c ρ M => (a c ρ M).bind fun x M1 => match x with
  | .int i => .ok (.int (-i)) M1
  | _ => .fail
def sNot (a : ES) : ES := fun c ρ M => (a c ρ M).bind fun x M1 => match x with
  | .bl b => .ok (.bl (!b)) M1
  | _ => .fail
def sAnd (a b : ES) : ES := fun c ρ M => (a c ρ M).bind fun x M1 => match x with
  | .bl b' => if b' = true then b c ρ M1 else .ok (.bl false) M1
  | _ => .fail
def sOr (a b : ES) : ES := fun c ρ M => (a c ρ M).bind fun x M1 => match x with
  | .bl b' => if b' = true then .ok (.bl true) M1 else b c ρ M1
  | _ => .fail
/-- tests -/
def tVal (a : ES) : TSm := fun c ρ M => (a c ρ M).bind fun x M1 => opt (truth (view M1 x)) fun k => .ok k M1
def tAnd (a b : TSm) : TSm := fun c ρ M => (a c ρ M).bind fun k M1 => if k = true then b c ρ M1 else .ok false M1
def tOr (a b : TSm) : TSm := fun c ρ M => (a c ρ M).bind fun k M1 => if k = true then .ok true M1 else b c ρ M1
def tCmp (o : Cmp) (a b : ES) : TSm := fun c ρ M => (a c ρ M).bind fun x M1 => (b c ρ M1).bind fun y M2 => opt (cmp o (view M2 x) (view M2 y)) fun k => .ok k M2
def tChain (o p : Cmp) (a b e : ES) : TSm := fun c ρ M => (a c ρ M).bind fun x M1 => (b c ρ M1).bind fun y M2 => opt (cmp o (view M2 x) (view M2 y)) fun k =>
  if k = true then (e c ρ M2).bind fun z M3 => opt (cmp p (view M3 y) (view M3 z)) fun k2 => .ok k2 M3 else .ok false M2
def tIs (a : ES) (d : D) : TSm := fun c ρ M => (a c ρ M).bind fun x M1 => opt (isD x d) fun k => .ok k M1
def tNot (a : TSm) : TSm := fun c ρ M => (a c ρ M).bind fun k M1 => .ok (!k) M1
def sIte (t : TSm) (a b : ES) : ES := fun c ρ M => (t c ρ M).bind fun k M1 => if k = true then a c ρ M1 else b c ρ M1
def aNil : AS := fun _ _ M => .ok [] M
def aCons (a : ES) (r : AS) : AS := fun c ρ M => (a c ρ M).bind fun x M1 => (r c ρ M1).bind fun xs M2 => .ok (x :: xs) M2
def sTup (a : AS) : ES := fun c ρ M => (a c ρ M).bind fun xs M1 => chk (decide (xs.length ≤ line)) (.ok (.tup xs) M1)
def sLst (mt : Bool) (a : AS) : ES := fun c ρ M => (a c ρ M).bind fun xs M1 => chk (decide (xs.length ≤ line)) (alloc mt (.lst xs) M1)
def sIdx (a b : ES) : ES := fun c ρ M => (a c ρ M).bind fun x M1 => (b c ρ M1).bind fun y M2 => opt (idxD (view M2 x) y) fun d => .ok d M2
def part (a : Option ES) : Fn (Option Int) := fun c ρ M => match a with
  | none => .ok none M
  | some f => (f c ρ M).bind fun x M1 => match x with
    | .int i => .ok (some i) M1
    | _ => .fail
def sSlc (mt : Bool) (a : ES) (lo hi : Option ES) : ES := fun c ρ M => (a c ρ M).bind fun x M1 => (part lo c ρ M1).bind fun l M2 => (part hi c ρ M2).bind fun u M3 => opt (slcD l u (view M3 x)) fun d => alloc (mt && !(match d with | .lst _ => false | _ => true)) d M3
def sRev (a : ES) : ES := fun c ρ M => (a c ρ M).bind fun x M1 => opt (revD (view M1 x)) fun d => .ok d M1
def sIsi (a : ES) (t : String) : ES := fun c ρ M => (a c ρ M).bind fun x M1 => opt (isiD (view M1 x) t) fun k => .ok (.bl k) M1
def sLen (a : ES) : ES := fun c ρ M => (a c ρ M).bind fun x M1 => opt (lenD (view M1 x)) fun n => .ok (.int n) M1
def sInt (a : ES) : ES := fun c ρ M => (a c ρ M).bind fun x M1 => match x with
  | .int i => .ok (.int i) M1
  | _ => .fail
def sBool (a : ES) : ES := fun c ρ M => (a c ρ M).bind fun x M1 => match x with
  | .bl i => .ok (.bl i) M1
  | _ => .fail
def sMax (a b : ES) : ES := fun c ρ M => (a c ρ M).bind fun x M1 => (b c ρ M1).bind fun y M2 => match x, y with
  | .int i, .int j => .ok (.int (if j > i then j else i)) M2
  | _, _ => .fail
def sAll (a : ES) : ES := fun c ρ M => (a c ρ M).bind fun x M1 => match view M1 x with
  | .lst xs => opt (allBl xs) fun bs => .ok (.bl (bs.all id)) M1
  | _ => .fail
/-- list(x), tuple(x) -/
def sList (mt : Bool) (a : ES) : ES := fun c ρ M => (a c ρ M).bind fun x M1 => match view M1 x with
  | .lst xs => alloc mt (.lst xs) M1
  | .tup xs => alloc mt (.lst xs) M1
  | .str s => chk (decide (s.length ≤ line)) (alloc mt (.lst (signs s)) M1)
  | _ => .fail
def sTuple (a : ES) : ES := fun c ρ M => (a c ρ M).bind fun x M1 => match view M1 x with
  | .lst xs => .ok (.tup xs) M1
  | .tup xs => .ok (.tup xs) M1
  | _ => .fail
def sJoin (a b : ES) : ES := fun c ρ M => (a c ρ M).bind fun x M1 => match x with
  | .str s => (b c ρ M1).bind fun y M2 => (match view M2 y with
    | .lst xs => opt (allStr xs) fun ys => chk (decide ((ys.map (fun (y : Str) => y.length)).sum + ys.length * s.length ≤ 16777216)) (.ok (.str (Txt.join s ys)) M2)
    | _ => .fail)
  | _ => .fail
def sSplit (a b : ES) : ES := fun c ρ M => (a c ρ M).bind fun x M1 => match x with
  | .str s => (b c ρ M1).bind fun y M2 => (match y with
    | .str t => chk (decide ((t.length == 0) = false ∧ s.length + 2 ≤ line)) (.ok (.lst ((Txt.split s t).map .str)) M2)
    | _ => .fail)
  | _ => .fail

/-! ### walks -/
def noExc {α : Type} : R α → R α
  | .exc _ _ _ => .fail
  | r => r
/-- heard(lambda: e), which tells (word, e) -/
def sHear (word : Str) (e : ES) : ES := fun c ρ M => chk c.deep ((noExc (e c.lower ρ M)).bind fun d M1 => .ok (.tup [.str word, d]) M1)
def sCall (f : Str) (a : AS) : ES := fun c ρ M => (a c ρ M).bind fun xs M1 => noExc (c.call f xs M1)
inductive Tg where
  | nm (i : Nat) | tup (ts : List Tg)
mutual
def Tg.bind : Tg → D → Rho → Option Rho
  | .nm i, d, ρ => some (ρ.set i (some d))
  | .tup ts, d, ρ => match d with
    | .tup ds => if ds.length = ts.length then Tg.binds ts ds ρ else none
    | _ => none
def Tg.binds : List Tg → List D → Rho → Option Rho
  | [], [], ρ => some ρ
  | t :: ts, d :: ds, ρ => (Tg.bind t d ρ).bind fun ρ' => Tg.binds ts ds ρ'
  | _, _, _ => none
end
/-- what is walked: items that stand; a handle's list as it is at each turn -/
inductive Src where
  | fix (ds : List D) | live (n : Nat)
def Src.item : Src → Nat → Mh → Option D
  | .fix ds, i, _ => ds[i]?
  | .live n, i, M => match M[n]? with
    | some (.lst xs) => xs[i]?
    | _ => none
def Src.size : Src → Mh → Option Nat
  | .fix ds, _ => some ds.length
  | .live n, M => match M[n]? with
    | some (.lst xs) => some xs.length
    | _ => none
def Src.ends (S : Src) (i : Nat) (M : Mh) : Bool := match S.size M with
  | some n => decide (n ≤ i)
  | none => false
abbrev IS := Fn Src
def iVal (a : ES) : IS := fun c ρ M => (a c ρ M).bind fun x M1 => match x with
  | .lst xs => .ok (.fix xs) M1
  | .kls xs => .ok (.fix xs) M1
  | .tup xs => .ok (.fix xs) M1
  | .str s => chk (decide (s.length ≤ line)) (.ok (.fix (signs s)) M1)
  | .h n => (match M1[n]? with
    | some (.lst _) => .ok (.live n) M1
    | _ => .fail)
  | _ => .fail
def iRange (a : ES) : IS := fun c ρ M => (a c ρ M).bind fun x M1 => match x with
  | .int n => chk (decide (n ≤ 16777216 ∧ -(2 ^ 62) ≤ n)) (.ok (.fix ((List.range n.toNat).map fun (i : Nat) => D.int (i : Int))) M1)
  | _ => .fail
def pairs : List D → List D → List D
  | x :: xs, y :: ys => .tup [x, y] :: pairs xs ys
  | _, _ => []
/-- what stands still: a tuple, a list by value -/
def still : D → Option (List D)
  | .tup xs => some xs
  | .lst xs => some xs
  | .kls xs => some xs
  | _ => none
/-- zip of two things that stand still -/
def iZip (a b : ES) : IS := fun c ρ M => (a c ρ M).bind fun x M1 => (b c ρ M1).bind fun y M2 => opt (still x) fun xs => opt (still y) fun ys => .ok (.fix (pairs xs ys)) M2
def wipeR (ρ : Rho) : List Nat → Rho
  | [] => ρ
  | v :: vs => (wipeR ρ vs).set v none
def keepO (o : Option D) (r : List D) : List D := match o with
  | some x => x :: r
  | none => r
/-- the loop of a comprehension: f gives the new item, or none -/
def lcLoop (f : D → Mh → R (Option D)) (S : Src) : Nat → Nat → Mh → R (List D)
  | 0, i, M => chk (S.ends i M) (.ok [] M)
  | k + 1, i, M => opt (S.item i M) fun d => (f d M).bind fun o M1 => (lcLoop f S k (i + 1) M1).bind fun r M2 => .ok (keepO o r) M2
def lcTurn (g : Tg) (vs : List Nat) (t : TSm) (e : ES) (c : Cf) (ρ : Rho) (d : D) (M : Mh) : R (Option D) := opt (g.bind d (wipeR ρ vs)) fun ρ1 =>
  (t c ρ1 M).bind fun k M1 => if k = true then (e c ρ1 M1).bind fun x M2 => .ok (some x) M2 else .ok none M1
def lcAll (g : Tg) (vs : List Nat) (t : TSm) (e : ES) (c : Cf) (ρ : Rho) (S : Src) (M : Mh) : R (List D) := opt (S.size M) fun n => chk (decide (n ≤ line)) (noExc (lcLoop (lcTurn g vs t e c ρ) S n 0 M))
def sLc (mt : Bool) (i : IS) (g : Tg) (vs : List Nat) (t : TSm) (e : ES) : ES := fun c ρ M => (i c ρ M).bind fun S M1 => (lcAll g vs t e c ρ S M1).bind fun ys M2 => alloc mt (.lst ys) M2
def tYes : TSm := fun _ _ M => .ok true M
/-- len of a set of texts made by a comprehension -/
def dedup : List Str → List Str
  | [] => []
  | x :: r => if r.contains x then dedup r else x :: dedup r
def sLenSet (i : IS) (g : Tg) (vs : List Nat) (t : TSm) (e : ES) : ES := fun c ρ M => (i c ρ M).bind fun S M1 => (lcAll g vs t e c ρ S M1).bind fun ys M2 => opt (allStr ys) fun zs => chk (decide (zs.length < 1000)) (.ok (.int (dedup zs).length) M2)
/-- a written dict; dict(pairs) -/
def keyOf : D → Option Key
  | .int i => some (.inl i)
  | .str s => some (.inr s)
  | _ => none
def unpair : List D → Option (List Key × List D)
  | [] => some ([], [])
  | .tup [k, d] :: r => (keyOf k).bind fun k' => (unpair r).map fun p => (k' :: p.1, d :: p.2)
  | _ :: _ => none
def sDictOf (a : ES) : ES := fun c ρ M => (a c ρ M).bind fun x M1 => match view M1 x with
  | .lst xs => opt (unpair xs) fun p => chk (decide p.1.Nodup) (.ok (.dic p.1 p.2) M1)
  | _ => .fail
def sDict0 : ES := fun _ _ M => .ok (.dic [] []) M
/-- {k: v}, one entry, both written -/
def sDict1 (k : Key) (d : D) : ES := fun _ _ M => .ok (.dic [k] [d]) M

/-! ### methods that change a list -/
/-- xs.append(x), xs.extend(ys), xs.pop(i) -/
def getL (M : Mh) (n : Nat) : Option (List D) := match M[n]? with
  | some (.lst xs) => some xs
  | _ => none
def sAppend (a b : ES) : ES := fun c ρ M => (a c ρ M).bind fun x M1 => match x with
  | .h n => opt (getL M1 n) fun _ => (b c ρ M1).bind fun y M2 => opt (getL M2 n) fun xs => chk (decide (xs.length < line)) (.ok .non (M2.set n (.lst (xs ++ [y]))))
  | _ => .fail
def sExtend (a b : ES) : ES := fun c ρ M => (a c ρ M).bind fun x M1 => match x with
  | .h n => opt (getL M1 n) fun _ => (b c ρ M1).bind fun y M2 => opt (getL M2 n) fun xs => (match y with
    | .lst ys => chk (decide (xs.length + ys.length ≤ line)) (.ok .non (M2.set n (.lst (xs ++ ys))))
    | _ => .fail)
  | _ => .fail
def sPopAt (a b : ES) : ES := fun c ρ M => (a c ρ M).bind fun x M1 => match x with
  | .h n => opt (getL M1 n) fun _ => (b c ρ M1).bind fun y M2 => opt (getL M2 n) fun xs => (match y with
    | .int i => chk (decide (0 ≤ i ∧ i < xs.length ∧ i < 16777216)) (opt xs[i.toNat]? fun z => .ok z (M2.set n (.lst (xs.eraseIdx i.toNat))))
    | _ => .fail)
  | _ => .fail

/-! ### statements -/
inductive SR where
  | fail
  | nx (ρ : Rho) (M : Mh) | rt (d : D) (M : Mh) | bk (ρ : Rho) (M : Mh) | ct (ρ : Rho) (M : Mh)
  | exc (x : Str) (ds : List D) (ρ : Rho) (M : Mh)
abbrev SS := Cf → Rho → Mh → SR
def R.then {α : Type} (r : R α) (ρ : Rho) (k : α → Mh → SR) : SR := match r with
  | .fail => .fail
  | .ok a M => k a M
  | .exc x ds M => .exc x ds ρ M
def optS {α : Type} (o : Option α) (k : α → SR) : SR := match o with
  | some a => k a
  | none => .fail
def SR.seq (r : SR) (k : Rho → Mh → SR) : SR := match r with
  | .nx ρ M => k ρ M
  | r => r
def zNext : SS := fun _ ρ M => .nx ρ M
def zSeq (a b : SS) : SS := fun c ρ M => (a c ρ M).seq fun ρ1 M1 => b c ρ1 M1
def zExpr (e : ES) : SS := fun c ρ M => (e c ρ M).then ρ fun _ M1 => .nx ρ M1
def zSet (g : Tg) (e : ES) : SS := fun c ρ M => (e c ρ M).then ρ fun d M1 => optS (g.bind d ρ) fun ρ1 => .nx ρ1 M1
/-- a, b = x, y of two slots -/
def zPar (i j : Nat) (r : AS) : SS := fun c ρ M => (r c ρ M).then ρ fun ds M1 => match ds with
  | [d, e] => .nx ((ρ.set i (some d)).set j (some e)) M1
  | _ => .fail
def zSetIx (o i e : ES) : SS := fun c ρ M => (e c ρ M).then ρ fun d M1 => (o c ρ M1).then ρ fun x M2 => (i c ρ M2).then ρ fun j M3 => match x with
  | .h n => optS (getL M3 n) fun xs => (match j with
    | .int i => if 0 ≤ i ∧ i < xs.length then .nx ρ (M3.set n (.lst (xs.set i.toNat d))) else .fail
    | _ => .fail)
  | _ => .fail
def zRet (e : ES) : SS := fun c ρ M => (e c ρ M).then ρ fun d M1 => .rt d M1
def zIf (t : TSm) (a b : SS) : SS := fun c ρ M => (t c ρ M).then ρ fun k M1 => if k = true then a c ρ M1 else b c ρ M1
def forLoop (f : D → Rho → Mh → SR) (S : Src) : Nat → Nat → Rho → Mh → SR
  | 0, i, ρ, M => if S.ends i M = true then .nx ρ M else .fail
  | k + 1, i, ρ, M => optS (S.item i M) fun d => match f d ρ M with
    | .nx ρ1 M1 => forLoop f S k (i + 1) ρ1 M1
    | .ct ρ1 M1 => forLoop f S k (i + 1) ρ1 M1
    | .bk ρ1 M1 => .nx ρ1 M1
    | r => r
def zFor (i : IS) (g : Tg) (b : SS) : SS := fun c ρ M => (i c ρ M).then ρ fun S M1 => optS (S.size M1) fun n => forLoop (fun d ρ1 M2 => optS (g.bind d ρ1) fun ρ2 => b c ρ2 M2) S n 0 ρ M1
/-- try: body; it ends well -/
def zTry (b : SS) : SS := fun c ρ M => match b c ρ M with
  | .exc _ _ _ _ => .fail
  | r => r

/-! ### defs -/
mutual
def noH (n : Nat) : D → Bool
  | .h m => decide (m < n)
  | .tup xs => noHs n xs
  | .lst xs => noHs n xs
  | .dic _ xs => noHs n xs
  | .kls xs => noHs n xs
  | _ => true
def noHs (n : Nat) : List D → Bool
  | [] => true
  | x :: xs => noH n x && noHs n xs
end
def noHO (n : Nat) : O → Bool
  | .lst xs => noHs n xs
  | .dead => true
/-- a list that is handed back: by value from now on, the def's own handles forgotten -/
def fin (n : Nat) (d : D) (M : Mh) : R D :=
  if M.length = n then .ok d M else
    (match d with
      | .h m => if m < n then (if (M.take n).all (noHO n) then .ok (.h m) (M.take n) else .fail)
        else (match M[m]? with
          | some (.lst xs) => if noHs n xs && (M.take n).all (noHO n) then .ok (.lst xs) (M.take n) else .fail
          | _ => .fail)
      | d => if noH n d && (M.take n).all (noHO n) then .ok d (M.take n) else .fail)
structure Def where
  slots : Nat
  params : Nat
  keep : Bool
  body : SS
def Def.fin (f : Def) (n : Nat) (d : D) (M : Mh) : R D := if f.keep = true then .ok d M else MP.fin n d M
def SR.out (f : Def) (n : Nat) : SR → R D
  | .nx _ M1 => f.fin n .non M1
  | .rt d M1 => f.fin n d M1
  | .exc x ds _ M1 => .exc x ds M1
  | _ => .fail
def Def.run (f : Def) (c : Cf) (ds : List D) (M : Mh) : R D :=
  if ds.length = f.params then (f.body c (ds.map some ++ List.replicate (f.slots - ds.length) none) M).out f M.length else .fail
abbrev Prog := Str → Option Def
/-- a program's defs, called at most k deep -/
def callR (P : Prog) : Nat → Str → List D → Mh → R D
  | 0, _, _, _ => .fail
  | 1, x, ds, M => opt (P x) fun f => f.run ⟨callR P 0, fun _ _ _ => .fail, false⟩ ds M
  | k + 2, x, ds, M => opt (P x) fun f => f.run ⟨callR P (k + 1), (match k with | 0 => fun _ _ _ => .fail | j + 1 => callR P j), !(k == 0)⟩ ds M
@[irreducible] def callAt (P : Prog) (k : Nat) : Str → List D → Mh → R D := callR P k
theorem callAt_one (P : Prog) (x : Str) (ds : List D) (M : Mh) : callAt P 1 x ds M = opt (P x) fun f => f.run ⟨callAt P 0, fun _ _ _ => .fail, false⟩ ds M := by unfold callAt; rfl
theorem callAt_two (P : Prog) (k : Nat) (x : Str) (ds : List D) (M : Mh) : callAt P (k + 2) x ds M = opt (P x) fun f => f.run ⟨callAt P (k + 1), (match k with | 0 => fun _ _ _ => .fail | j + 1 => callAt P j), !(k == 0)⟩ ds M := by unfold callAt; cases k <;> rfl
theorem callAt_zero (P : Prog) (x : Str) (ds : List D) (M : Mh) : callAt P 0 x ds M = .fail := by unfold callAt; rfl
end MP

set_option Elab.async false
set_option linter.all false
set_option maxRecDepth 100000
/-! MiniPy 2: how data stand in the heap; expressions. -/
namespace MP
open PySem PySem.Spec PyProof.Rows L2
open Evl (Ex)

section
variable (K : PySem.W.Frag) (φ : List Addr) (F : Hp)
mutual
def Rp : D → V → Prop
  | .non, v => v = .non
  | .bl b, v => v = .bl b
  | .int i, v => v = .int i
  | .str s, v => v = .str s
  | .tup ds, v => ∃ a xs, v = .ref a ∧ SqT K F a xs ∧ Rps ds xs
  | .lst ds, v => ∃ a xs, v = .ref a ∧ Rd F a (.lst xs) ∧ Rps ds xs
  | .kls ds, v => ∃ a xs, v = .ref a ∧ SqL K F a xs ∧ Rps ds xs
  | .dic ks ds, v => ∃ a xs, v = .ref a ∧ F a = some (.dK (ks.zip xs)) ∧ ks.length = xs.length ∧ Rps ds xs
  | .h n, v => ∃ a, v = .ref a ∧ φ[n]? = some a
def Rps : List D → List V → Prop
  | [], xs => xs = []
  | d :: ds, xs => ∃ v vs, xs = v :: vs ∧ Rp d v ∧ Rps ds vs
end
end
/-- the mini heap's objects -/
def ORel (K : PySem.W.Frag) (φ : List Addr) (F H : Hp) (a : Addr) : O → Prop
  | .lst ds => ∃ xs, H a = some (.lst xs) ∧ Rps K φ F ds xs
  | .dead => ∃ xs, H a = some (.lst xs)
/-- the tables of code objects -/
class TabL where
  T : List (Addr × Str)
def Vac (H : Hp) (b : Addr) : Prop := ∀ o, H b = some o → ∃ ps, o = .tbl ps
theorem Vac.of {H : Hp} {b : Addr} (h : H b = none) : Vac H b := fun o e => by rw [h] at e; cases e
/-- neither a table nor a code object -/
def Pln (p : Addr) (o : HO) : Prop := (∀ ps, o ≠ .tbl ps) ∧ ∀ q, o ≠ LamX.CodeO p q
theorem pln_lst {p : Addr} {xs : List V} : Pln p (.lst xs) := ⟨fun _ z => (by cases z), fun _ z => (by unfold LamX.CodeO at z; cases z)⟩
theorem tabs_upd {T : List (Addr × Str)} {H : Hp} {p : Addr} (t : LamX.Tabs T H) (h : H p = none ∨ ∃ o, H p = some o ∧ Pln p o) (o : HO) : LamX.Tabs T (upd H p o) := fun x hx => by
  obtain ⟨ps, h1, h2, h3⟩ := t x hx
  have n : ∀ b u, H b = some u → ((∃ ps, u = .tbl ps) ∨ ∃ q, u = LamX.CodeO b q) → b ≠ p := fun b u e k z => by
    subst z
    rcases h with h | ⟨o', h, hp⟩
    · rw [h] at e; cases e
    · rw [h] at e
      cases e
      rcases k with ⟨ps, k⟩ | ⟨q, k⟩
      · exact hp.1 ps k
      · exact hp.2 q k
  refine ⟨ps, by rw [upd_ne (n _ _ h1 (.inl ⟨_, rfl⟩))]; exact h1, h2, fun pos cv hc => ?_⟩
  obtain ⟨c, e1, e2⟩ := h3 pos cv hc
  exact ⟨c, e1, by rw [upd_ne (n _ _ e2 (.inr ⟨_, rfl⟩))]; exact e2⟩
variable [TL : TabL]
structure Rel (K : PySem.W.Frag) (φ : List Addr) (F H : Hp) (M : Mh) : Prop where
  tab : LamX.Tabs TL.T H
  ntb : ∀ b ps, F b ≠ some (.tbl ps)
  len : φ.length = M.length
  ex : Ex F H
  apart : ∀ a ∈ φ, F a = none
  nd : φ.Nodup
  obj : ∀ (n : Nat) (o : O) (a : Addr), M[n]? = some o → φ[n]? = some a → ORel K φ F H a o
/-- the slots -/
def RR (K : PySem.W.Frag) (φ : List Addr) (F : Hp) (ρ : Rho) (σ : L2.St) : Prop :=
  ρ.length = σ.length ∧ ∀ (i : Nat) (d : D), ρ[i]? = some (some d) → ∃ v, σ[i]? = some (some v) ∧ Rp K φ F d v

section
variable {K : PySem.W.Frag} {φ φ' : List Addr} {F F' H H' : Hp} {M : Mh} {ρ : Rho} {σ : L2.St}
theorem pre_get {φ φ' : List Addr} (p : φ <+: φ') {n : Nat} {a : Addr} (h : φ[n]? = some a) : φ'[n]? = some a := by
  obtain ⟨r, rfl⟩ := p
  rw [List.getElem?_append_left (List.getElem?_eq_some_iff.mp h).1]
  exact h
mutual
theorem Rp.mono (p : φ <+: φ') (e : Ex F F') : ∀ (d : D) (v : V), Rp K φ F d v → Rp K φ' F' d v
  | .non, _, h => by simpa [Rp] using h
  | .bl _, _, h => by simpa [Rp] using h
  | .int _, _, h => by simpa [Rp] using h
  | .str _, _, h => by simpa [Rp] using h
  | .tup ds, v, h => by
    obtain ⟨a, xs, rfl, s, r⟩ := h
    exact ⟨a, xs, rfl, Evl.ex_t e s, Rps.mono p e ds xs r⟩
  | .lst ds, v, h => by
    obtain ⟨a, xs, rfl, s, r⟩ := h
    exact ⟨a, xs, rfl, Evl.ex_rd e s, Rps.mono p e ds xs r⟩
  | .kls ds, v, h => by
    obtain ⟨a, xs, rfl, s, r⟩ := h
    exact ⟨a, xs, rfl, Evl.ex_l e s, Rps.mono p e ds xs r⟩
  | .dic ks ds, v, h => by
    obtain ⟨a, xs, rfl, s, l, r⟩ := h
    exact ⟨a, xs, rfl, e _ _ s, l, Rps.mono p e ds xs r⟩
  | .h n, v, h => by
    obtain ⟨a, rfl, s⟩ := h
    exact ⟨a, rfl, pre_get p s⟩
theorem Rps.mono (p : φ <+: φ') (e : Ex F F') : ∀ (ds : List D) (xs : List V), Rps K φ F ds xs → Rps K φ' F' ds xs
  | [], _, h => by simpa [Rps] using h
  | d :: ds, xs, h => by
    obtain ⟨v, vs, rfl, r, rs⟩ := h
    exact ⟨v, vs, rfl, Rp.mono p e d v r, Rps.mono p e ds vs rs⟩
end
theorem RR.mono (p : φ <+: φ') (e : Ex F F') (h : RR K φ F ρ σ) : RR K φ' F' ρ σ :=
  ⟨h.1, fun i d q => let ⟨v, a, b⟩ := h.2 i d q; ⟨v, a, b.mono p e⟩⟩
theorem Rps.length : ∀ {ds : List D} {xs : List V}, Rps K φ F ds xs → ds.length = xs.length
  | [], xs, h => by
    cases (show xs = [] from h)
    rfl
  | d :: ds, _, h => by
    obtain ⟨v, vs, rfl, _, rs⟩ := h
    rw [List.length_cons, List.length_cons, Rps.length rs]
theorem Rps.get : ∀ {ds : List D} {xs : List V} {i : Nat} {d : D}, Rps K φ F ds xs → ds[i]? = some d → ∃ v, xs[i]? = some v ∧ Rp K φ F d v
  | [], _, _, _, _, e => by simp at e
  | d :: ds, _, 0, _, h, e => by
    obtain ⟨v, vs, rfl, r, _⟩ := h
    simp at e
    subst e
    exact ⟨v, by simp, r⟩
  | d :: ds, _, i + 1, x, h, e => by
    obtain ⟨v, vs, rfl, _, rs⟩ := h
    obtain ⟨u, h1, h2⟩ := Rps.get (i := i) (d := x) rs (by simpa using e)
    exact ⟨u, by simpa using h1, h2⟩
theorem Rps.append : ∀ {ds es : List D} {xs ys : List V}, Rps K φ F ds xs → Rps K φ F es ys → Rps K φ F (ds ++ es) (xs ++ ys)
  | [], _, _, _, h, k => by
    rw [show _ = [] from h]
    exact k
  | d :: ds, _, _, _, h, k => by
    obtain ⟨v, vs, rfl, r, rs⟩ := h
    exact ⟨v, _, rfl, r, Rps.append rs k⟩
theorem Rps.one {d : D} {v : V} (h : Rp K φ F d v) : Rps K φ F [d] [v] := ⟨v, [], rfl, h, rfl⟩
theorem Rps.drop : ∀ {ds : List D} {xs : List V} (n : Nat), Rps K φ F ds xs → Rps K φ F (ds.drop n) (xs.drop n)
  | _, _, 0, h => h
  | [], _, n + 1, h => by
    rw [show _ = [] from h]
    simp [Rps]
  | d :: ds, _, n + 1, h => by
    obtain ⟨v, vs, rfl, _, rs⟩ := h
    exact Rps.drop n rs
theorem Rps.take : ∀ {ds : List D} {xs : List V} (n : Nat), Rps K φ F ds xs → Rps K φ F (ds.take n) (xs.take n)
  | _, _, 0, h => by simp [Rps]
  | [], _, n + 1, h => by
    rw [show _ = [] from h]
    simp [Rps]
  | d :: ds, _, n + 1, h => by
    obtain ⟨v, vs, rfl, r, rs⟩ := h
    exact ⟨v, _, rfl, r, Rps.take n rs⟩
theorem Rps.rev : ∀ {ds : List D} {xs : List V}, Rps K φ F ds xs → Rps K φ F ds.reverse xs.reverse
  | [], _, h => by
    rw [show _ = [] from h]
    simp [Rps]
  | d :: ds, _, h => by
    obtain ⟨v, vs, rfl, r, rs⟩ := h
    rw [List.reverse_cons, List.reverse_cons]
    exact (Rps.rev rs).append (.one r)
theorem Rps.set : ∀ {ds : List D} {xs : List V} {d : D} {v : V} (n : Nat), Rps K φ F ds xs → Rp K φ F d v → Rps K φ F (ds.set n d) (xs.set n v)
  | [], _, _, _, _, h, _ => by
    rw [show _ = [] from h]
    simp [Rps]
  | _ :: ds, _, _, _, 0, h, k => by
    obtain ⟨v, vs, rfl, r, rs⟩ := h
    exact ⟨_, _, rfl, k, rs⟩
  | _ :: ds, _, _, _, n + 1, h, k => by
    obtain ⟨v, vs, rfl, r, rs⟩ := h
    exact ⟨_, _, rfl, r, Rps.set n rs k⟩
theorem Rps.erase : ∀ {ds : List D} {xs : List V} (n : Nat), Rps K φ F ds xs → Rps K φ F (ds.eraseIdx n) (xs.eraseIdx n)
  | [], _, _, h => by
    rw [show _ = [] from h]
    simp [Rps]
  | _ :: ds, _, 0, h => by
    obtain ⟨v, vs, rfl, r, rs⟩ := h
    exact rs
  | _ :: ds, _, n + 1, h => by
    obtain ⟨v, vs, rfl, r, rs⟩ := h
    exact ⟨_, _, rfl, r, Rps.erase n rs⟩
theorem Ex.none {F H : Hp} (e : Ex F H) {p : Addr} (h : H p = none) : F p = none := Evl.fresh_back e h

theorem view_h (M : Mh) (n : Nat) : (∃ xs, view M (.h n) = .lst xs) ∨ view M (.h n) = .h n := by
  unfold view
  simp only
  split
  · exact .inl ⟨_, rfl⟩
  · exact .inr rfl
/-- a view of a list: where it stands -/
theorem view_lst (rel : Rel K φ F H M) {d : D} {v : V} {ds : List D} (r : Rp K φ F d v) (e : view M d = .lst ds) : ∃ a xs, v = .ref a ∧ Rd H a (.lst xs) ∧ Rps K φ F ds xs := by
  cases d with
  | lst xs =>
    cases e
    obtain ⟨a, xs, rfl, s, r⟩ := r
    exact ⟨a, xs, rfl, Evl.ex_rd rel.ex s, r⟩
  | h n =>
    obtain ⟨a, rfl, q⟩ := r
    unfold view at e
    cases hM : M[n]? with
    | none =>
      simp [hM] at e
    | some o =>
      have ho := rel.obj n o a hM q
      cases o with
      | lst xs =>
        simp [hM] at e
        subst e
        obtain ⟨ys, h1, h2⟩ := ho
        exact ⟨a, ys, rfl, .of h1, h2⟩
      | dead => simp [hM] at e
  | _ => cases e
theorem view_tup (rel : Rel K φ F H M) {d : D} {v : V} {ds : List D} (r : Rp K φ F d v) (e : view M d = .tup ds) : ∃ a xs, v = .ref a ∧ SqT K H a xs ∧ Rps K φ F ds xs := by
  cases d with
  | tup xs =>
    cases e
    obtain ⟨a, xs, rfl, s, r⟩ := r
    exact ⟨a, xs, rfl, Evl.ex_t rel.ex s, r⟩
  | h n => rcases view_h M n with ⟨xs, q⟩ | q <;> rw [q] at e <;> cases e
  | _ => cases e
theorem view_kls (rel : Rel K φ F H M) {d : D} {v : V} {ds : List D} (r : Rp K φ F d v) (e : view M d = .kls ds) : ∃ a xs, v = .ref a ∧ SqL K H a xs ∧ Rps K φ F ds xs := by
  cases d with
  | kls xs =>
    cases e
    obtain ⟨a, xs, rfl, s, r⟩ := r
    exact ⟨a, xs, rfl, Evl.ex_l rel.ex s, r⟩
  | h n => rcases view_h M n with ⟨xs, q⟩ | q <;> rw [q] at e <;> cases e
  | _ => cases e
theorem view_dic (rel : Rel K φ F H M) {d : D} {v : V} {ks : List Key} {ds : List D} (r : Rp K φ F d v) (e : view M d = .dic ks ds) : ∃ a xs, v = .ref a ∧ H a = some (.dK (ks.zip xs)) ∧ ks.length = xs.length ∧ Rps K φ F ds xs := by
  cases d with
  | dic ks' xs =>
    cases e
    obtain ⟨a, xs, rfl, s, l, r⟩ := r
    exact ⟨a, xs, rfl, rel.ex _ _ s, l, r⟩
  | h n => rcases view_h M n with ⟨xs, q⟩ | q <;> rw [q] at e <;> cases e
  | _ => cases e
theorem view_sc {d : D} {v : V} {M : Mh} (r : Rp K φ F d v) : (∀ b, view M d = .bl b → v = .bl b) ∧ (∀ i, view M d = .int i → v = .int i) ∧ (∀ s, view M d = .str s → v = .str s) ∧ (view M d = .non → v = .non) := by
  refine ⟨fun b e => ?_, fun b e => ?_, fun b e => ?_, fun e => ?_⟩ <;>
  · cases d with
    | h n => rcases view_h M n with ⟨xs, q⟩ | q <;> rw [q] at e <;> cases e
    | _ => first | (cases e; done) | (cases e; exact r)
theorem view_int {d : D} {v : V} {M : Mh} {i : Int} (r : Rp K φ F d v) (e : view M d = .int i) : v = .int i := (view_sc r).2.1 i e
theorem view_str {d : D} {v : V} {M : Mh} {i : Str} (r : Rp K φ F d v) (e : view M d = .str i) : v = .str i := (view_sc r).2.2.1 i e
theorem view_bl {d : D} {v : V} {M : Mh} {i : Bool} (r : Rp K φ F d v) (e : view M d = .bl i) : v = .bl i := (view_sc r).1 i e
theorem view_non {d : D} {v : V} {M : Mh} (r : Rp K φ F d v) (e : view M d = .non) : v = .non := (view_sc r).2.2.2 e

/-- a new object, known from now on -/
theorem Rel.know (rel : Rel K φ F H M) {p : Addr} (hp : H p = none) (o : HO) (ho : ∀ ps, o ≠ .tbl ps := by intro _ z; cases z) : Rel K φ (upd F p o) (upd H p o) M where
  tab := tabs_upd rel.tab (.inl hp) o
  ntb := fun b ps e => by
    by_cases h : b = p
    · subst h
      rw [upd_same] at e
      exact ho ps (Option.some.inj e)
    · rw [upd_ne h] at e
      exact rel.ntb b ps e
  len := rel.len
  ex := fun a u e => by
    by_cases h : a = p
    · subst h
      rw [upd_same] at e ⊢
      exact e
    · rw [upd_ne h] at e ⊢
      exact rel.ex a u e
  apart := fun a ha => by
    have : a ≠ p := fun z => by
      subst z
      obtain ⟨n, hn⟩ := List.mem_iff_getElem?.mp ha
      obtain ⟨hl, _⟩ := List.getElem?_eq_some_iff.mp hn
      rw [rel.len] at hl
      have := rel.obj n M[n] a (List.getElem?_eq_getElem hl) hn
      cases q : M[n] with
      | lst xs => rw [q] at this; obtain ⟨_, h1, _⟩ := this; rw [h1] at hp; cases hp
      | dead => rw [q] at this; obtain ⟨_, h1⟩ := this; rw [h1] at hp; cases hp
    rw [upd_ne this]
    exact rel.apart a ha
  nd := rel.nd
  obj := fun n o' a h1 h2 => by
    have := rel.obj n o' a h1 h2
    have e : Ex F (upd F p o) := Evl.Ex.new (Ex.none rel.ex hp)
    have nap : ∀ u, H a = some u → a ≠ p := fun u q => ne_of_none q hp
    cases o' with
    | lst xs =>
      obtain ⟨ys, h3, h4⟩ := this
      exact ⟨ys, by rw [upd_ne (nap _ h3)]; exact h3, h4.mono (List.prefix_refl _) e⟩
    | dead =>
      obtain ⟨u, h3⟩ := this
      exact ⟨u, by rw [upd_ne (nap _ h3)]; exact h3⟩
theorem Rel.has (rel : Rel K φ F H M) {a : Addr} (ha : a ∈ φ) : ∃ o, H a = some o := by
  obtain ⟨n, hn⟩ := List.mem_iff_getElem?.mp ha
  obtain ⟨hl, _⟩ := List.getElem?_eq_some_iff.mp hn
  rw [rel.len] at hl
  have := rel.obj n M[n] a (List.getElem?_eq_getElem hl) hn
  cases q : M[n] with
  | lst xs => rw [q] at this; obtain ⟨_, h1, _⟩ := this; exact ⟨_, h1⟩
  | dead => rw [q] at this; obtain ⟨_, h1⟩ := this; exact ⟨_, h1⟩
/-- a new list, a handle -/
theorem Rel.push (rel : Rel K φ F H M) {p : Addr} (hp : H p = none) {ds : List D} {xs : List V} (r : Rps K φ F ds xs) : Rel K (φ ++ [p]) F (upd H p (.lst xs)) (M ++ [.lst ds]) where
  tab := tabs_upd rel.tab (.inl hp) _
  ntb := rel.ntb
  len := by simp [rel.len]
  ex := fun a u e => by
    rw [upd_ne (ne_of_none (rel.ex a u e) hp)]
    exact rel.ex a u e
  apart := fun a ha => by
    rcases List.mem_append.mp ha with h | h
    · exact rel.apart a h
    · rw [List.mem_singleton.mp h]
      exact Ex.none rel.ex hp
  nd := by
    refine List.nodup_append.mpr ⟨rel.nd, by simp, fun a ha b hb e => ?_⟩
    rw [List.mem_singleton.mp hb] at e
    obtain ⟨o, ho⟩ := rel.has ha
    rw [e, hp] at ho
    cases ho
  obj := fun n o a h1 h2 => by
    have pp : φ <+: φ ++ [p] := List.prefix_append _ _
    by_cases hn : n < M.length
    · rw [List.getElem?_append_left hn] at h1
      rw [List.getElem?_append_left (by rw [rel.len]; exact hn)] at h2
      have := rel.obj n o a h1 h2
      have nap : ∀ u, H a = some u → a ≠ p := fun u q => ne_of_none q hp
      cases o with
      | lst xs =>
        obtain ⟨ys, h3, h4⟩ := this
        exact ⟨ys, by rw [upd_ne (nap _ h3)]; exact h3, h4.mono pp (Evl.Ex.refl F)⟩
      | dead =>
        obtain ⟨u, h3⟩ := this
        exact ⟨u, by rw [upd_ne (nap _ h3)]; exact h3⟩
    · have hn' : n = M.length := by
        have := (List.getElem?_eq_some_iff.mp h1).1
        simp at this
        omega
      subst hn'
      rw [List.getElem?_append_right (Nat.le_refl _)] at h1
      rw [List.getElem?_append_right (by rw [rel.len]; exact Nat.le_refl _), rel.len] at h2
      simp at h1 h2
      subst h1 h2
      exact ⟨xs, upd_same, r.mono pp (Evl.Ex.refl F)⟩
theorem nodup_ixA {N : List Addr} (hN : N.Nodup) {i j : Nat} {x : Addr} (a : N[i]? = some x) (b : N[j]? = some x) : i = j := by
  obtain ⟨h1, e1⟩ := List.getElem?_eq_some_iff.mp a
  obtain ⟨h2, e2⟩ := List.getElem?_eq_some_iff.mp b
  exact (List.getElem_inj hN).mp (e1.trans e2.symm)
/-- a handle's list is changed -/
theorem Rel.write (rel : Rel K φ F H M) {n : Nat} {a : Addr} {ds : List D} {xs xs0 : List V} (ha : φ[n]? = some a) (h0 : H a = some (.lst xs0)) (r : Rps K φ F ds xs) : Rel K φ F (upd H a (.lst xs)) (M.set n (.lst ds)) where
  tab := tabs_upd rel.tab (.inr ⟨_, h0, pln_lst⟩) _
  ntb := rel.ntb
  len := by simp [rel.len]
  ex := fun b u e => by
    have : b ≠ a := fun z => by
      subst z
      rw [rel.apart b (List.mem_of_getElem? ha)] at e
      cases e
    rw [upd_ne this]
    exact rel.ex b u e
  apart := rel.apart
  nd := rel.nd
  obj := fun m o b h1 h2 => by
    by_cases hm : m = n
    · subst hm
      rw [ha] at h2
      cases h2
      have hl : m < M.length := by
        have := (List.getElem?_eq_some_iff.mp ha).1
        rw [rel.len] at this
        exact this
      rw [List.getElem?_set_self hl] at h1
      cases h1
      exact ⟨xs, upd_same, r⟩
    · rw [List.getElem?_set_ne (Ne.symm hm)] at h1
      have := rel.obj m o b h1 h2
      have nb : b ≠ a := fun z => by
        subst z
        exact hm (nodup_ixA rel.nd h2 ha)
      cases o with
      | lst xs =>
        obtain ⟨ys, h3, h4⟩ := this
        exact ⟨ys, by rw [upd_ne nb]; exact h3, h4⟩
      | dead =>
        obtain ⟨u, h3⟩ := this
        exact ⟨u, by rw [upd_ne nb]; exact h3⟩
/-- from one state to a later one: what is known stays, what is tracked and no handle stays, what is new is new -/
structure Fwd (φ : List Addr) (F H : Hp) (φ' : List Addr) (F' H' : Hp) : Prop where
  pre : φ <+: φ'
  ex : Ex F F'
  kp : ∀ b o, H b = some o → (∀ ps, o ≠ .tbl ps) → b ∉ φ → H' b = some o
  nf : ∀ b o, F' b = some o → F b = some o ∨ Vac H b
  nh : ∀ a ∈ φ', a ∈ φ ∨ Vac H a
  dom : ∀ b, Vac H' b → Vac H b
theorem Fwd.refl (φ : List Addr) (F H : Hp) : Fwd φ F H φ F H := ⟨List.prefix_refl _, Ex.refl _, fun _ _ h _ _ => h, fun _ _ h => .inl h, fun _ h => .inl h, fun _ h => h⟩
theorem Fwd.trans {φ' φ2 : List Addr} {F' F2 H' H2 : Hp} (a : Fwd φ F H φ' F' H') (b : Fwd φ' F' H' φ2 F2 H2) : Fwd φ F H φ2 F2 H2 where
  pre := a.pre.trans b.pre
  ex := a.ex.trans b.ex
  kp := fun x o h ht n => b.kp x o (a.kp x o h ht n) ht fun z => (a.nh x z).elim n fun q => (let ⟨ps, e⟩ := q o h; ht ps e)
  nf := fun x o h => (b.nf x o h).elim (fun q => a.nf x o q) fun q => .inr (a.dom x q)
  nh := fun x h => (b.nh x h).elim (fun q => a.nh x q) fun q => .inr (a.dom x q)
  dom := fun x h => a.dom x (b.dom x h)
theorem Fwd.know {p : Addr} (hp : H p = none) (o : HO) (ex : Ex F H) : Fwd φ F H φ (upd F p o) (upd H p o) where
  pre := List.prefix_refl _
  ex := Evl.Ex.new (Ex.none ex hp)
  kp := fun b u h _ _ => by rw [upd_ne (ne_of_none h hp)]; exact h
  nf := fun b u h => by
    by_cases e : b = p
    · exact .inr (.of (e ▸ hp))
    · rw [upd_ne e] at h
      exact .inl h
  nh := fun a h => .inl h
  dom := fun b h => by
    by_cases e : b = p
    · rw [e]; exact .of hp
    · exact fun o q => h o (by rw [upd_ne e]; exact q)
theorem Fwd.push {p : Addr} (hp : H p = none) (o : HO) : Fwd φ F H (φ ++ [p]) F (upd H p o) where
  pre := List.prefix_append _ _
  ex := Ex.refl _
  kp := fun b u h _ _ => by rw [upd_ne (ne_of_none h hp)]; exact h
  nf := fun b u h => .inl h
  nh := fun a h => (List.mem_append.mp h).elim .inl fun q => .inr (.of (by rw [List.mem_singleton.mp q]; exact hp))
  dom := fun b h => by
    by_cases e : b = p
    · rw [e]; exact .of hp
    · exact fun o q => h o (by rw [upd_ne e]; exact q)
theorem Fwd.write {a : Addr} (ha : a ∈ φ) (o : HO) (ho : ∀ ps, o ≠ .tbl ps := by intro _ z; cases z) : Fwd φ F H φ F (upd H a o) where
  pre := List.prefix_refl _
  ex := Ex.refl _
  kp := fun b u h _ n => by
    have nb : b ≠ a := fun z => by
      subst z
      exact n ha
    rw [upd_ne nb]
    exact h
  nf := fun b u h => .inl h
  nh := fun a h => .inl h
  dom := fun b h => by
    by_cases e : b = a
    · rw [e] at h
      obtain ⟨ps, q⟩ := h o upd_same
      exact (ho ps q).elim
    · exact fun o q => h o (by rw [upd_ne e]; exact q)
end
end MP

set_option Elab.async false
set_option linter.all false
set_option maxRecDepth 100000
/-! MiniPy 3: readings by what is computed; names, constants, operators. -/
namespace MP
open PySem PySem.Spec PyProof.Rows L2
open Evl (Ex)
variable [TL : TabL]

theorem wkE {X : Cx} {e : Expr} {t t' : TE} (h : PE X e t') (w : ∀ σ H Q, t σ H Q → t' σ H Q) : PE X e t := ⟨fun pins s σ H Q I q => h.run pins s σ H Q I (w σ H Q q)⟩
theorem wkT {X : Cx} {e : Expr} {t t' : TT} (h : PT X e t') (w : ∀ σ H Q, t σ H Q → t' σ H Q) : PT X e t := ⟨fun pins s σ H Q I q => h.run pins s σ H Q I (w σ H Q q)⟩
theorem wkW {X : Cx} {e : Expr} {t t' : TT} (h : PW X e t') (w : ∀ σ H Q, t σ H Q → t' σ H Q) : PW X e t := ⟨fun wh pins s σ H Q I q => h.run wh pins s σ H Q I (w σ H Q q)⟩
theorem wkA {X : Cx} {e : List Expr} {t t' : TA} (h : PA X e t') (w : ∀ σ H Q, t σ H Q → t' σ H Q) : PA X e t := ⟨fun p pins s σ H Q I q => h.run p pins s σ H Q I (w σ H Q q)⟩

/-- an own exception as it lies -/
def XR (X : Cx) (φ : List Addr) (F H : Hp) (x : Str) (ds : List D) (cls : Value) (dd : Option Addr) : Prop :=
  ∃ C d fs, X.mg x = some (.ref C) ∧ cls = .ref C ∧ dd = some d ∧ H d = some (.xd fs) ∧ Rps X.K φ F ds (fs.map (·.2))
abbrev Rep (α ν : Type) := List Addr → Hp → α → ν → Prop
/-- what is wanted behind -/
def Post {α ν : Type} (X : Cx) (rep : Rep α ν) (W : WX) (σ : L2.St) (φ : List Addr) (F H : Hp) (r : R α) (Q : ν → Hp → Prop) : Prop := match r with
  | .fail => False
  | .ok a M => ∀ φ' F' H' v, Fwd φ F H φ' F' H' → Rel X.K φ' F' H' M → rep φ' F' a v → Q v H'
  | .exc x ds M => ∀ φ' F' H' cls dd, Fwd φ F H φ' F' H' → Rel X.K φ' F' H' M → XR X φ' F' H' x ds cls dd → W cls dd σ H'
section
variable {α β ν μ : Type} {X : Cx} {rep : Rep α ν} {rep2 : Rep β μ} {W : WX} {σ : L2.St} {φ φ' : List Addr} {F F' H H' : Hp} {M : Mh} {ρ : Rho} {c : Cf}
theorem Post.env {r : R α} {Q : ν → Hp → Prop} (w : Fwd φ F H φ' F' H') (h : Post X rep W σ φ F H r Q) : Post X rep W σ φ' F' H' r Q := by
  cases r with
  | fail => exact h
  | ok a M => exact fun φ2 F2 H2 v w2 rel r => h φ2 F2 H2 v (w.trans w2) rel r
  | exc x ds M => exact fun φ2 F2 H2 cl dd w2 rel r => h φ2 F2 H2 cl dd (w.trans w2) rel r
theorem Post.mono {r : R α} {Q Q' : ν → Hp → Prop} (h : Post X rep W σ φ F H r Q) (w : ∀ v H, Q v H → Q' v H) : Post X rep W σ φ F H r Q' := by
  cases r with
  | fail => exact h
  | ok a M => exact fun φ2 F2 H2 v p2 rel r => w _ _ (h φ2 F2 H2 v p2 rel r)
  | exc x ds M => exact h
/-- known: the state behind a part -/
structure Now (X : Cx) (rep : Rep α ν) (φ : List Addr) (F H : Hp) (ρ : Rho) (σ : L2.St) (a : α) (v : ν) (φ1 : List Addr) (F1 H1 : Hp) (M1 : Mh) : Prop where
  fw : Fwd φ F H φ1 F1 H1
  rel : Rel X.K φ1 F1 H1 M1
  rr : RR X.K φ1 F1 ρ σ
  rp : rep φ1 F1 a v
theorem Now.p {φ1 : List Addr} {F1 H1 : Hp} {M1 : Mh} {a : α} {v : ν} (n : Now X rep φ F H ρ σ a v φ1 F1 H1 M1) : φ <+: φ1 := n.fw.pre
theorem Now.e {φ1 : List Addr} {F1 H1 : Hp} {M1 : Mh} {a : α} {v : ν} (n : Now X rep φ F H ρ σ a v φ1 F1 H1 M1) : Ex F F1 := n.fw.ex
theorem Post.bind {r : R α} {k : α → Mh → R β} {Q : μ → Hp → Prop} (h : Post X rep2 W σ φ F H (r.bind k) Q) (rr : RR X.K φ F ρ σ) :
    Post X rep W σ φ F H r (fun v H1 => ∃ φ1 F1 M1 a, Now X rep φ F H ρ σ a v φ1 F1 H1 M1 ∧ Post X rep2 W σ φ1 F1 H1 (k a M1) Q) := by
  cases r with
  | fail => exact h
  | ok a M => exact fun φ1 F1 H1 v w rel r => ⟨φ1, F1, M, a, ⟨w, rel, rr.mono w.pre w.ex, r⟩, Post.env w h⟩
  | exc x ds M => exact h
/-- a part's reading -/
def tG (X : Cx) (rep : Rep α ν) (W : WX) (c : Cf) (f : Fn α) : L2.St → Hp → (ν → Hp → Prop) → Prop := fun σ H Q =>
  ∃ φ F ρ M, Rel X.K φ F H M ∧ RR X.K φ F ρ σ ∧ Post X rep W σ φ F H (f c ρ M) Q
abbrev tE (X : Cx) (W : WX) (c : Cf) (f : ES) : TE := tG X (Rp X.K) W c f
abbrev tT (X : Cx) (W : WX) (c : Cf) (f : TSm) : TT := tG X (fun _ _ (a b : Bool) => a = b) W c f
abbrev tA (X : Cx) (W : WX) (c : Cf) (f : AS) : TA := tG X (Rps X.K) W c f
theorem tG.mono {f : Fn α} {H : Hp} {Q Q' : ν → Hp → Prop} (h : tG X rep W c f σ H Q) (w : ∀ v H, Q v H → Q' v H) : tG X rep W c f σ H Q' :=
  let ⟨φ, F, ρ, M, a, b, h⟩ := h; ⟨φ, F, ρ, M, a, b, h.mono w⟩
/-- first f, then the rest -/
theorem seq {f : Fn α} {k : α → Mh → R β} {H : Hp} {Q : μ → Hp → Prop} {Q' : ν → Hp → Prop} (rel : Rel X.K φ F H M) (rr : RR X.K φ F ρ σ) (h : Post X rep2 W σ φ F H ((f c ρ M).bind k) Q)
    (w : ∀ v H1 φ1 F1 M1 a, Now X rep φ F H ρ σ a v φ1 F1 H1 M1 → Post X rep2 W σ φ1 F1 H1 (k a M1) Q → Q' v H1) : tG X rep W c f σ H Q' :=
  ⟨φ, F, ρ, M, rel, rr, (h.bind rr).mono fun v H1 ⟨φ1, F1, M1, a, n, q⟩ => w v H1 φ1 F1 M1 a n q⟩
theorem Post.opt {γ : Type} {o : Option γ} {k : γ → R α} {Q : ν → Hp → Prop} (h : Post X rep W σ φ F H (MP.opt o k) Q) : ∃ a, o = some a ∧ Post X rep W σ φ F H (k a) Q := by
  cases o with
  | none => exact h.elim
  | some a => exact ⟨a, rfl, h⟩
theorem Post.chk {b : Bool} {k : R α} {Q : ν → Hp → Prop} (h : Post X rep W σ φ F H (MP.chk b k) Q) : b = true ∧ Post X rep W σ φ F H k Q := by
  cases b with
  | false => exact h.elim
  | true => exact ⟨rfl, h⟩
/-- it ends here, the heap as it is -/
theorem Post.here {a : α} {v : ν} {Q : ν → Hp → Prop} (rel : Rel X.K φ F H M) (r : rep φ F a v) (h : Post X rep W σ φ F H (.ok a M) Q) : Q v H := h φ F H v (Fwd.refl _ _ _) rel r
end

section
variable {X : Cx} {W : WX} {c : Cf} {σ : L2.St} {φ : List Addr} {F H : Hp} {M : Mh} {ρ : Rho} {f g : ES} {a b : Expr} {pos : Pos}
/-! ### names, constants -/
theorem pe_k (h : PE X a (tC v)) (r : ∀ φ F, Rp X.K φ F d v) : PE X a (tE X W c (sC d)) := wkE h fun σ H Q ⟨φ, F, ρ, M, rel, rr, q⟩ => Post.here rel (r φ F) q
theorem pe_v {i : Nat} (h : PE X a (tVar i)) : PE X a (tE X W c (sVar i)) := wkE h fun σ H Q ⟨φ, F, ρ, M, rel, rr, q⟩ => by
  unfold sVar at q
  cases e : ρ[i]? with
  | none => rw [e] at q; exact q.elim
  | some o =>
    rw [e] at q
    cases o with
    | none => exact q.elim
    | some d =>
      obtain ⟨v, h1, h2⟩ := rr.2 i d e
      exact ⟨v, h1, Post.here rel h2 q⟩

/-! ### what an operation hands on -/
/-- a new list stands anywhere; anything else is represented -/
def Res (X : Cx) (φ : List Addr) (F : Hp) (M : Mh) (z : D) (H : Hp) (Q : VK) : Prop := match z with
  | .lst ds => ∀ p xs, H p = none → Rps X.K φ F ds xs → Q (.ref p) (upd H p (.lst xs))
  | z => ∀ v F' H', Fwd φ F H φ F' H' → Rel X.K φ F' H' M → Rp X.K φ F' z v → Q v H'
theorem Post.alloc {mt : Bool} {z : D} {Q : VK} (rel : Rel X.K φ F H M) (h : Post X (Rp X.K) W σ φ F H (MP.alloc mt z M) Q) : Res X φ F M z H Q := by
  cases mt with
  | true =>
    cases z with
    | lst ds =>
      intro p xs hp r
      refine h (φ ++ [p]) F (upd H p (.lst xs)) (.ref p) (Fwd.push hp _) (rel.push hp r) ⟨p, rfl, ?_⟩
      rw [← rel.len, List.getElem?_append_right (Nat.le_refl _)]
      simp
    | _ => exact h.elim
  | false =>
    cases z with
    | lst ds =>
      intro p xs hp r
      exact h φ (upd F p (.lst xs)) (upd H p (.lst xs)) (.ref p) (Fwd.know hp _ rel.ex) (rel.know hp _) ⟨p, xs, rfl, .inl upd_same, r.mono (List.prefix_refl _) (Evl.Ex.new (Ex.none rel.ex hp))⟩
    | _ => exact fun v F' H' e rel' r => h φ F' H' v e rel' r
/-- flat things need no heap -/
theorem Res.flat {z : D} {v : V} {Q : VK} (rel : Rel X.K φ F H M) (h : Res X φ F M z H Q) (r : Rp X.K φ F z v) (nl : ∀ ds, z ≠ .lst ds) : Q v H := by
  cases z with
  | lst ds => exact absurd rfl (nl ds)
  | _ => exact h v F H (Fwd.refl _ _ _) rel r
/-- a new tuple -/
theorem Res.tup {ds : List D} {xs : List V} {p : Addr} {Q : VK} (rel : Rel X.K φ F H M) (h : Res X φ F M (.tup ds) H Q) (r : Rps X.K φ F ds xs) (hp : H p = none) : Q (.ref p) (upd H p (.tup xs)) :=
  h (.ref p) (upd F p (.tup xs)) (upd H p (.tup xs)) (Fwd.know hp _ rel.ex) (rel.know hp _) ⟨p, xs, rfl, .of upd_same, r.mono (List.prefix_refl _) (Evl.Ex.new (Ex.none rel.ex hp))⟩

/-! ### operators -/
/-- by values: what the operator f must do -/
def rBin (X : Cx) (o : D → D → Option D) : R2 := fun x y H Q => ∃ φ F M d e z, Rel X.K φ F H M ∧ Rp X.K φ F d x ∧ Rp X.K φ F e y ∧ o (view M d) (view M e) = some z ∧ Res X φ F M z H Q
theorem pe_bop {op : Operator} {o : Bop} {mt : Bool} (ho : OpR X (binaryOp op) (rBin X (bop o))) (ha : PE X a (tE X W c f)) (hb : PE X b (tE X W c g)) : PE X (.BinOp a op b pos) (tE X W c (sBop o mt f g)) := by
  refine wkE (pe_op ho ha hb) fun σ H Q ⟨φ, F, ρ, M, rel, rr, q⟩ => ?_
  refine seq rel rr q fun x H1 φ1 F1 M1 d n1 q1 => ?_
  refine seq n1.rel n1.rr q1 fun y H2 φ2 F2 M2 e n2 q2 => ?_
  obtain ⟨z, ez, q3⟩ := Post.opt q2
  exact ⟨φ2, F2, M2, d, e, z, n2.rel, n1.rp.mono n2.p n2.e, n2.rp, ez, Post.alloc n2.rel q3⟩
/-- comparisons -/
def rCmp (X : Cx) (o : D → D → Option Bool) : R2 := fun x y H Q => ∃ φ F M d e k, Rel X.K φ F H M ∧ Rp X.K φ F d x ∧ Rp X.K φ F e y ∧ o (view M d) (view M e) = some k ∧ Q (.bl k) H
theorem pe_cm {op : CmpOp} {o : Cmp} (ho : OpR X (compareOp op) (rCmp X (cmp o))) (ha : PE X a (tE X W c f)) (hb : PE X b (tE X W c g)) (hm : behindInMarks op b = false) : PE X (.Compare a [op] [b] pos) (tE X W c (sCmp o f g)) := by
  refine wkE (pe_cmpR ho ha hb hm) fun σ H Q ⟨φ, F, ρ, M, rel, rr, q⟩ => ?_
  refine seq rel rr q fun x H1 φ1 F1 M1 d n1 q1 => ?_
  refine seq n1.rel n1.rr q1 fun y H2 φ2 F2 M2 e n2 q2 => ?_
  obtain ⟨z, ez, q3⟩ := Post.opt q2
  exact ⟨φ2, F2, M2, d, e, z, n2.rel, n1.rp.mono n2.p n2.e, n2.rp, ez, Post.here n2.rel rfl q3⟩
theorem pt_cm {op : CmpOp} {o : Cmp} (ho : OpR X (compareOp op) (rCmp X (cmp o))) (ha : PE X a (tE X W c f)) (hb : PE X b (tE X W c g)) (hm : behindInMarks op b = false) : PT X (.Compare a [op] [b] pos) (tT X W c (tCmp o f g)) := by
  refine wkT (pt_cmpR ho ha hb hm) fun σ H Q ⟨φ, F, ρ, M, rel, rr, q⟩ => ?_
  refine seq rel rr q fun x H1 φ1 F1 M1 d n1 q1 => ?_
  refine seq n1.rel n1.rr q1 fun y H2 φ2 F2 M2 e n2 q2 => ?_
  obtain ⟨z, ez, q3⟩ := Post.opt q2
  exact ⟨φ2, F2, M2, d, e, z, n2.rel, n1.rp.mono n2.p n2.e, n2.rp, ez, z, rfl, Post.here n2.rel rfl q3⟩
/-- a o b p e -/
theorem pe_ch {op op' : CmpOp} {o o' : Cmp} {e : Expr} {h : ES} (ho : OpR X (compareOp op) (rCmp X (cmp o))) (ho' : OpR X (compareOp op') (rCmp X (cmp o'))) (ha : PE X a (tE X W c f)) (hb : PE X b (tE X W c g)) (he : PE X e (tE X W c h))
    (hm : lastMarks [op, op'] [b, e] = false) : PE X (.Compare a [op, op'] [b, e] pos) (tE X W c (sChain o o' f g h)) := by
  refine wkE (pe_chain ho ho' ha hb he hm) fun σ H Q ⟨φ, F, ρ, M, rel, rr, q⟩ => ?_
  refine seq rel rr q fun x H1 φ1 F1 M1 d n1 q1 => ?_
  refine seq n1.rel n1.rr q1 fun y H2 φ2 F2 M2 e n2 q2 => ?_
  obtain ⟨z, ez, q3⟩ := Post.opt q2
  refine ⟨φ2, F2, M2, d, e, z, n2.rel, n1.rp.mono n2.p n2.e, n2.rp, ez, z, rfl, ?_⟩
  cases z with
  | false => exact Post.here n2.rel rfl q3
  | true =>
    refine seq n2.rel n2.rr q3 fun u H3 φ3 F3 M3 e3 n3 q4 => ?_
    obtain ⟨z3, ez3, q5⟩ := Post.opt q4
    exact ⟨φ3, F3, M3, e, e3, z3, n3.rel, n2.rp.mono n3.p n3.e, n3.rp, ez3, Post.here n3.rel rfl q5⟩
theorem pt_ch {op op' : CmpOp} {o o' : Cmp} {e : Expr} {h : ES} (ho : OpR X (compareOp op) (rCmp X (cmp o))) (ho' : OpR X (compareOp op') (rCmp X (cmp o'))) (ha : PE X a (tE X W c f)) (hb : PE X b (tE X W c g)) (he : PE X e (tE X W c h))
    (hm : lastMarks [op, op'] [b, e] = false) : PT X (.Compare a [op, op'] [b, e] pos) (tT X W c (tChain o o' f g h)) := by
  refine wkT (L2.pt_chain ho ho' ha hb he hm) fun σ H Q ⟨φ, F, ρ, M, rel, rr, q⟩ => ?_
  refine seq rel rr q fun x H1 φ1 F1 M1 d n1 q1 => ?_
  refine seq n1.rel n1.rr q1 fun y H2 φ2 F2 M2 e n2 q2 => ?_
  obtain ⟨z, ez, q3⟩ := Post.opt q2
  refine ⟨φ2, F2, M2, d, e, z, n2.rel, n1.rp.mono n2.p n2.e, n2.rp, ez, z, rfl, ?_⟩
  cases z with
  | false => exact ⟨false, rfl, Post.here n2.rel rfl q3⟩
  | true =>
    refine seq n2.rel n2.rr q3 fun u H3 φ3 F3 M3 e3 n3 q4 => ?_
    obtain ⟨z3, ez3, q5⟩ := Post.opt q4
    exact ⟨φ3, F3, M3, e, e3, z3, n3.rel, n2.rp.mono n3.p n3.e, n3.rp, ez3, z3, rfl, Post.here n3.rel rfl q5⟩
end
end MP

set_option Elab.async false
set_option linter.all false
set_option maxRecDepth 100000
/-! MiniPy 4: tests, arguments, displays, subscripts, calls of built-ins. -/
namespace MP
open PySem PySem.Spec PyProof.Rows L2
open Evl (Ex)
variable [TL : TabL]
section
variable {X : Cx} {W : WX} {c : Cf} {σ : L2.St} {φ : List Addr} {F H : Hp} {M : Mh} {ρ : Rho} {f g h : ES} {t u : TSm} {a b d : Expr} {es : List Expr} {r : AS} {pos : Pos}
/-! ### tests -/
theorem pt_an (ha : PT X a (tT X W c t)) (hb : PT X b (tT X W c u)) : PW X (.BoolOp .And [a, b] pos) (tT X W c (tAnd t u)) := by
  refine wkW (pw_and ha (pw_and1 hb)) fun σ H Q ⟨φ, F, ρ, M, rel, rr, q⟩ => ?_
  refine seq rel rr q fun x H1 φ1 F1 M1 k n1 q1 => ?_
  cases (show k = x from n1.rp)
  cases x with
  | true => exact ⟨φ1, F1, ρ, M1, n1.rel, n1.rr, q1⟩
  | false => exact Post.here n1.rel rfl q1
theorem pt_an3 {e : Expr} {es : List Expr} (ha : PT X a (tT X W c t)) (hb : PW X (.BoolOp .And (b :: e :: es) pos) (tT X W c u)) : PW X (.BoolOp .And (a :: b :: e :: es) pos) (tT X W c (tAnd t u)) := by
  refine wkW (pw_and ha hb) fun σ H Q ⟨φ, F, ρ, M, rel, rr, q⟩ => ?_
  refine seq rel rr q fun x H1 φ1 F1 M1 k n1 q1 => ?_
  cases (show k = x from n1.rp)
  cases x with
  | true => exact ⟨φ1, F1, ρ, M1, n1.rel, n1.rr, q1⟩
  | false => exact Post.here n1.rel rfl q1
theorem pt_or (ha : PT X a (tT X W c t)) (hb : PT X b (tT X W c u)) : PW X (.BoolOp .Or [a, b] pos) (tT X W c (tOr t u)) := by
  refine wkW (pw_or ha (pw_or1 hb)) fun σ H Q ⟨φ, F, ρ, M, rel, rr, q⟩ => ?_
  refine seq rel rr q fun x H1 φ1 F1 M1 k n1 q1 => ?_
  cases (show k = x from n1.rp)
  cases x with
  | true => exact Post.here n1.rel rfl q1
  | false => exact ⟨φ1, F1, ρ, M1, n1.rel, n1.rr, q1⟩
theorem pt_or3 {e : Expr} {es : List Expr} (ha : PT X a (tT X W c t)) (hb : PW X (.BoolOp .Or (b :: e :: es) pos) (tT X W c u)) : PW X (.BoolOp .Or (a :: b :: e :: es) pos) (tT X W c (tOr t u)) := by
  refine wkW (pw_or ha hb) fun σ H Q ⟨φ, F, ρ, M, rel, rr, q⟩ => ?_
  refine seq rel rr q fun x H1 φ1 F1 M1 k n1 q1 => ?_
  cases (show k = x from n1.rp)
  cases x with
  | true => exact Post.here n1.rel rfl q1
  | false => exact ⟨φ1, F1, ρ, M1, n1.rel, n1.rr, q1⟩
theorem pt_no (ha : PT X a (tT X W c t)) : PT X (.UnaryOp .Not a pos) (tT X W c (tNot t)) := by
  refine wkT (L2.pt_not ha) fun σ H Q ⟨φ, F, ρ, M, rel, rr, q⟩ => ?_
  refine seq rel rr q fun x H1 φ1 F1 M1 k n1 q1 => ?_
  cases (show k = x from n1.rp)
  exact Post.here n1.rel rfl q1
/-- truth by the view -/
theorem tru_view {d : D} {v : V} {k : Bool} (rel : Rel X.K φ F H M) (r : Rp X.K φ F d v) (e : truth (view M d) = some k) : TruV X.K v H k := by
  cases hv : view M d with
  | non => rw [hv] at e; cases e; rw [view_non r hv]; rfl
  | bl b => rw [hv] at e; cases e; rw [view_bl r hv]; rfl
  | int i => rw [hv] at e; cases e; rw [view_int r hv]; rfl
  | str s =>
    rw [hv] at e
    rw [view_str r hv]
    unfold truth at e
    simp only at e
    by_cases hl : s.length ≤ line
    · rw [if_pos hl] at e
      cases e
      exact ⟨by rw [sizeLine_eq]; exact hl, rfl⟩
    · rw [if_neg hl] at e
      cases e
  | lst ds =>
    rw [hv] at e
    cases e
    obtain ⟨p, xs, rfl, s, rs⟩ := view_lst rel r hv
    refine .inl ⟨xs, .inl s, ?_⟩
    have := rs.length
    cases ds <;> cases xs <;> simp_all
  | tup ds =>
    rw [hv] at e
    cases e
    obtain ⟨p, xs, rfl, s, rs⟩ := view_tup rel r hv
    refine .inr (.inl ⟨xs, s, ?_⟩)
    have := rs.length
    cases ds <;> cases xs <;> simp_all
  | dic ks ds =>
    rw [hv] at e
    cases e
    obtain ⟨p, xs, rfl, s, l, rs⟩ := view_dic rel r hv
    refine .inr (.inr ⟨_, s, ?_⟩)
    cases ks <;> cases xs <;> simp_all
  | kls ds => rw [hv] at e; cases e
  | h n => rw [hv] at e; cases e
theorem pt_tr (ha : PE X a (tE X W c f)) (he : ∀ whole, isTrue a X.env whole = (do let v ← whole; standAt a.pos; holding [v] (truthy v))) : PT X a (tT X W c (tVal f)) := by
  refine wkT (pt_truth ha he) fun σ H Q ⟨φ, F, ρ, M, rel, rr, q⟩ => ?_
  refine seq rel rr q fun x H1 φ1 F1 M1 z n1 q1 => ?_
  obtain ⟨k, ek, q2⟩ := Post.opt q1
  exact ⟨k, tru_view n1.rel n1.rp ek, Post.here n1.rel rfl q2⟩
/-- is None | True | False -/
theorem is_none {p1 : Pos} {k : Nat} (ha : PE X a (tE X W c f)) : PE X (.Compare a [.Is] [.Constant .none k p1] pos) (tE X W c (sIs f .non)) := by
  refine wkE (pe_cmp (pc_isN ha)) fun σ H Q ⟨φ, F, ρ, M, rel, rr, q⟩ => ?_
  refine seq rel rr q fun x H1 φ1 F1 M1 z n1 q1 => ?_
  obtain ⟨k, ek, q2⟩ := Post.opt q1
  have e : k = decide (x = V.non) := by
    have rp := n1.rp
    cases z with
    | non => cases ek; cases rp; rfl
    | bl b => cases ek; cases rp; rfl
    | int b => cases ek; cases rp; rfl
    | str b => cases ek; cases rp; rfl
    | tup b => cases ek; obtain ⟨_, _, rfl, _⟩ := rp; rfl
    | lst b => cases ek; obtain ⟨_, _, rfl, _⟩ := rp; rfl
    | dic b b' => cases ek; obtain ⟨_, _, rfl, _⟩ := rp; rfl
    | kls b => cases ek; obtain ⟨_, _, rfl, _⟩ := rp; rfl
    | h b => cases ek; obtain ⟨_, rfl, _⟩ := rp; rfl
  rw [e] at q2
  exact Post.here n1.rel rfl q2
theorem is_noneT {p1 : Pos} {k : Nat} (ha : PE X a (tE X W c f)) : PT X (.Compare a [.Is] [.Constant .none k p1] pos) (tT X W c (tIs f .non)) := by
  refine wkT (pt_cmp (pc_isN ha)) fun σ H Q ⟨φ, F, ρ, M, rel, rr, q⟩ => ?_
  refine seq rel rr q fun x H1 φ1 F1 M1 z n1 q1 => ?_
  obtain ⟨k, ek, q2⟩ := Post.opt q1
  have e : k = decide (x = V.non) := by
    have rp := n1.rp
    cases z with
    | non => cases ek; cases rp; rfl
    | bl b => cases ek; cases rp; rfl
    | int b => cases ek; cases rp; rfl
    | str b => cases ek; cases rp; rfl
    | tup b => cases ek; obtain ⟨_, _, rfl, _⟩ := rp; rfl
    | lst b => cases ek; obtain ⟨_, _, rfl, _⟩ := rp; rfl
    | dic b b' => cases ek; obtain ⟨_, _, rfl, _⟩ := rp; rfl
    | kls b => cases ek; obtain ⟨_, _, rfl, _⟩ := rp; rfl
    | h b => cases ek; obtain ⟨_, rfl, _⟩ := rp; rfl
  rw [e] at q2
  exact ⟨_, rfl, Post.here n1.rel rfl q2⟩
theorem is_bool {p1 : Pos} {k : Nat} {b : Bool} (ha : PE X a (tE X W c f)) (hm : behindInMarks .Is (.Constant (.bool b) k p1) = false) : PE X (.Compare a [.Is] [.Constant (.bool b) k p1] pos) (tE X W c (sIs f (.bl b))) := by
  refine wkE (pe_cmpR op_isBl ha (pe_bl (b := b)) hm) fun σ H Q ⟨φ, F, ρ, M, rel, rr, q⟩ => ?_
  refine seq rel rr q fun x H1 φ1 F1 M1 z n1 q1 => ?_
  obtain ⟨k, ek, q2⟩ := Post.opt q1
  cases z with
  | bl b' => cases ek; cases n1.rp; exact ⟨b', b, rfl, rfl, Post.here n1.rel rfl q2⟩
  | _ => cases ek
theorem is_boolT {p1 : Pos} {k : Nat} {b : Bool} (ha : PE X a (tE X W c f)) (hm : behindInMarks .Is (.Constant (.bool b) k p1) = false) : PT X (.Compare a [.Is] [.Constant (.bool b) k p1] pos) (tT X W c (tIs f (.bl b))) := by
  refine wkT (pt_cmpR op_isBl ha (pe_bl (b := b)) hm) fun σ H Q ⟨φ, F, ρ, M, rel, rr, q⟩ => ?_
  refine seq rel rr q fun x H1 φ1 F1 M1 z n1 q1 => ?_
  obtain ⟨k, ek, q2⟩ := Post.opt q1
  cases z with
  | bl b' => cases ek; cases n1.rp; exact ⟨b', b, rfl, rfl, _, rfl, Post.here n1.rel rfl q2⟩
  | _ => cases ek
/-! ### values by and, or, not, if -/
theorem pe_an {e : Expr} {es : List Expr} (ha : PE X a (tE X W c f)) (hb : PE X (.BoolOp .And (b :: es) pos) (tE X W c g)) : PE X (.BoolOp .And (a :: b :: es) pos) (tE X W c (sAnd f g)) := by
  refine wkE (pe_and ha hb) fun σ H Q ⟨φ, F, ρ, M, rel, rr, q⟩ => ?_
  refine seq rel rr q fun x H1 φ1 F1 M1 k n1 q1 => ?_
  cases k with
  | bl k =>
    refine ⟨k, n1.rp, ?_⟩
    cases k with
    | true => exact ⟨φ1, F1, ρ, M1, n1.rel, n1.rr, q1⟩
    | false => exact Post.here n1.rel rfl q1
  | _ => exact q1.elim
theorem pe_ro {e : Expr} {es : List Expr} (ha : PE X a (tE X W c f)) (hb : PE X (.BoolOp .Or (b :: es) pos) (tE X W c g)) : PE X (.BoolOp .Or (a :: b :: es) pos) (tE X W c (sOr f g)) := by
  refine wkE (L2.pe_or ha hb) fun σ H Q ⟨φ, F, ρ, M, rel, rr, q⟩ => ?_
  refine seq rel rr q fun x H1 φ1 F1 M1 k n1 q1 => ?_
  cases k with
  | bl k =>
    refine ⟨k, n1.rp, ?_⟩
    cases k with
    | true => exact Post.here n1.rel rfl q1
    | false => exact ⟨φ1, F1, ρ, M1, n1.rel, n1.rr, q1⟩
  | _ => exact q1.elim
theorem pe_no (ha : PE X a (tE X W c f)) : PE X (.UnaryOp .Not a pos) (tE X W c (sNot f)) := by
  refine wkE (L2.pe_not ha) fun σ H Q ⟨φ, F, ρ, M, rel, rr, q⟩ => ?_
  refine seq rel rr q fun x H1 φ1 F1 M1 k n1 q1 => ?_
  cases k with
  | bl k => exact ⟨k, n1.rp, Post.here n1.rel rfl q1⟩
  | _ => exact q1.elim
theorem pe_ng (ha : PE X a (tE X W c f)) : PE X (.UnaryOp .USub a pos) (tE X W c (sNeg f)) := by
  refine wkE (L2.pe_un un_neg ha) fun σ H Q ⟨φ, F, ρ, M, rel, rr, q⟩ => ?_
  refine seq rel rr q fun x H1 φ1 F1 M1 k n1 q1 => ?_
  cases k with
  | int k => exact ⟨k, n1.rp, Post.here n1.rel rfl q1⟩
  | _ => exact q1.elim
theorem pe_it (ht : PT X d (tT X W c t)) (ha : PE X a (tE X W c f)) (hb : PE X b (tE X W c g)) : PE X (.IfExp d a b pos) (tE X W c (sIte t f g)) := by
  refine wkE (pe_ifExp ht ha hb) fun σ H Q ⟨φ, F, ρ, M, rel, rr, q⟩ => ?_
  refine seq rel rr q fun x H1 φ1 F1 M1 k n1 q1 => ?_
  cases (show k = x from n1.rp)
  cases x with
  | true => exact ⟨φ1, F1, ρ, M1, n1.rel, n1.rr, q1⟩
  | false => exact ⟨φ1, F1, ρ, M1, n1.rel, n1.rr, q1⟩
/-! ### arguments, displays -/
theorem pa_n : PA X [] (tA X W c aNil) := wkA pa_nil fun σ H Q ⟨φ, F, ρ, M, rel, rr, q⟩ => Post.here rel rfl q
theorem pa_c (ha : PE X a (tE X W c f)) (hr : PA X es (tA X W c r)) (hs : starEach (a :: es) X.env = (false, eval a X.env) :: starEach es X.env) : PA X (a :: es) (tA X W c (aCons f r)) := by
  refine wkA (pa_cons ha hr hs) fun σ H Q ⟨φ, F, ρ, M, rel, rr, q⟩ => ?_
  refine seq rel rr q fun x H1 φ1 F1 M1 d n1 q1 => ?_
  refine seq n1.rel n1.rr q1 fun xs H2 φ2 F2 M2 ds n2 q2 => ?_
  exact Post.here n2.rel ⟨x, xs, rfl, n1.rp.mono n2.p n2.e, n2.rp⟩ q2
theorem pe_tp {x1} (ha : PA X es (tA X W c r)) : PE X (.Tuple es x1 pos) (tE X W c (sTup r)) := by
  refine wkE (pe_tup ha) fun σ H Q ⟨φ, F, ρ, M, rel, rr, q⟩ => ?_
  refine seq rel rr q fun xs H1 φ1 F1 M1 ds n1 q1 => ?_
  obtain ⟨hl, q2⟩ := Post.chk q1
  have hl := of_decide_eq_true hl
  refine ⟨by rw [← n1.rp.length, sizeLine_eq]; exact hl, fun p hp => ?_⟩
  exact Res.tup (ds := ds) n1.rel (Post.alloc (mt := false) n1.rel q2) n1.rp hp
theorem pe_ls {mt : Bool} (ha : PA X es (tA X W c r)) : PE X (.List es pos) (tE X W c (sLst mt r)) := by
  refine wkE (pe_lst ha) fun σ H Q ⟨φ, F, ρ, M, rel, rr, q⟩ => ?_
  refine seq rel rr q fun xs H1 φ1 F1 M1 ds n1 q1 => ?_
  obtain ⟨hl, q2⟩ := Post.chk q1
  have hl := of_decide_eq_true hl
  exact ⟨by rw [← n1.rp.length, sizeLine_eq]; exact hl, fun p hp => Post.alloc n1.rel q2 p xs hp n1.rp⟩
/-! ### subscripts -/
theorem at_rep {α : Type} {ds : List D} {xs : List V} {i : Int} {z : D} {K : PySem.W.Frag} (r : Rps K φ F ds xs) (e : atI ds i = some z) : ∃ v, atI xs i = some v ∧ Rp K φ F z v := by
  unfold atI at e ⊢
  rw [← r.length]
  cases hj : ixN ds.length i with
  | none => rw [hj] at e; cases e
  | some j =>
    rw [hj] at e
    exact r.get e
def rIdx (X : Cx) : R2 := fun x y H Q => ((rIxL X.K x y H Q) ∨ (rIxT X.K x y H Q)) ∨ (rIxS x y H Q)
theorem pe_id (ha : PE X a (tE X W c f)) (hb : PE X b (tE X W c g)) (hs : PlainIx b) : PE X (.Subscript a b pos) (tE X W c (sIdx f g)) := by
  refine wkE (pe_ix (r := rIdx X) (IxR.or (IxR.or ix_list ix_tup) ix_str) ha hb hs) fun σ H Q ⟨φ, F, ρ, M, rel, rr, q⟩ => ?_
  refine seq rel rr q fun x H1 φ1 F1 M1 d n1 q1 => ?_
  refine seq n1.rel n1.rr q1 fun y H2 φ2 F2 M2 e n2 q2 => ?_
  obtain ⟨z, ez, q3⟩ := Post.opt q2
  have rd := n1.rp.mono n2.p n2.e
  cases hv : view M2 d with
  | lst ds =>
    rw [hv] at ez
    cases e with
    | int i =>
      cases n2.rp
      obtain ⟨p, xs, rfl, s, rs⟩ := view_lst n2.rel rd hv
      obtain ⟨v, h1, h2⟩ := at_rep (α := D) rs ez
      exact .inl (.inl ⟨p, xs, i, v, rfl, rfl, .inl s, h1, Post.here n2.rel h2 q3⟩)
    | _ => cases ez
  | kls ds =>
    rw [hv] at ez
    cases e with
    | int i =>
      cases n2.rp
      obtain ⟨p, xs, rfl, s, rs⟩ := view_kls n2.rel rd hv
      obtain ⟨v, h1, h2⟩ := at_rep (α := D) rs ez
      exact .inl (.inl ⟨p, xs, i, v, rfl, rfl, s, h1, Post.here n2.rel h2 q3⟩)
    | _ => cases ez
  | tup ds =>
    rw [hv] at ez
    cases e with
    | int i =>
      cases n2.rp
      obtain ⟨p, xs, rfl, s, rs⟩ := view_tup n2.rel rd hv
      obtain ⟨v, h1, h2⟩ := at_rep (α := D) rs ez
      exact .inl (.inr ⟨p, xs, i, v, rfl, rfl, s, h1, Post.here n2.rel h2 q3⟩)
    | _ => cases ez
  | str w =>
    rw [hv] at ez
    cases e with
    | int i =>
      cases n2.rp
      unfold idxD at ez
      simp only at ez
      by_cases hl : w.length ≤ line
      · rw [if_pos hl] at ez
        cases hc : atI w.cps.toList i with
        | none => rw [hc] at ez; cases ez
        | some k =>
          rw [hc] at ez
          cases ez
          rw [view_str rd hv]
          exact .inr ⟨w, i, k, rfl, rfl, by rw [sizeLine_eq]; exact hl, hc, Post.here n2.rel rfl q3⟩
      · rw [if_neg hl] at ez
        cases ez
    | _ => cases ez
  | _ => rw [hv] at ez; cases ez
end
end MP

set_option Elab.async false
set_option linter.all false
set_option maxRecDepth 100000
/-! MiniPy 5: what operators do to data. -/
namespace MP
open PySem PySem.Spec PyProof.Rows L2
open Evl (Ex)
variable [TL : TabL]
section
variable {X : Cx} {W : WX} {c : Cf} {σ : L2.St} {φ : List Addr} {F H : Hp} {M : Mh} {K : PySem.W.Frag}
theorem view_tupE {d : D} {ds : List D} (e : view M d = .tup ds) : d = .tup ds := by
  cases d with
  | tup xs => exact e
  | h n => rcases view_h M n with ⟨xs, q⟩ | q <;> rw [q] at e <;> cases e
  | _ => cases e
theorem rd_exact {pins : List (Addr × Obj)} {s : Shared} {a : Addr} {xs : List V} (I : Inv X pins σ H s) (h : Rd H a (.lst xs)) : xs.length ≤ sizeLine ∧ ∃ (its : List Value) (n : Nat), Vals xs its ∧ xs.length = its.length ∧ s.heap.get? a = some { cls := .type "list", data := .seq its.toArray n } := by
  obtain ⟨z, its, n, r, e⟩ := h.ok I.hok
  exact ⟨z, its, n, r, r.length, e⟩
theorem Res.at {z : D} {v : V} {Q : VK} (rel : Rel X.K φ F H M) (h : Res X φ F M z H Q) (r : Rp X.K φ F z v) (nl : ∀ ds, z ≠ .lst ds) : Q v H := Res.flat rel h r nl
theorem ok_add : OpR X (binaryOp .Add) (rBin X (bop .add)) := by
  intro pins s σ H x y v u Q I rx ry ⟨φ, F, M, d, e, z, rel, rd, re, ez, res⟩
  cases hv : view M d with
  | int i =>
    rw [hv] at ez
    cases hw : view M e with
    | int j =>
      rw [hw] at ez
      cases ez
      exact op_add pins s σ H x y v u Q I rx ry ⟨i, j, view_int rd hv, view_int re hw, Res.flat rel res rfl (fun _ z => nomatch z)⟩
    | _ => rw [hw] at ez; cases ez
  | str i =>
    rw [hv] at ez
    cases hw : view M e with
    | str j =>
      rw [hw] at ez
      by_cases hl : i.length + j.length ≤ line
      · have ez : (if i.length + j.length ≤ line then some (D.str (i ++ j)) else none) = some z := ez
        rw [if_pos hl] at ez
        cases ez
        exact op_add_str pins s σ H x y v u Q I rx ry ⟨i, j, view_str rd hv, view_str re hw, by rw [sizeLine_eq]; exact hl, Res.flat rel res rfl (fun _ z => nomatch z)⟩
      · have ez : (if i.length + j.length ≤ line then some (D.str (i ++ j)) else none) = some z := ez
        rw [if_neg hl] at ez
        cases ez
    | _ => rw [hw] at ez; cases ez
  | lst ds =>
    rw [hv] at ez
    cases hw : view M e with
    | lst es =>
      rw [hw] at ez
      have ez : (if ds.length + es.length ≤ line then some (D.lst (ds ++ es)) else none) = some z := ez
      by_cases hl : ds.length + es.length ≤ line
      · rw [if_pos hl] at ez
        cases ez
        obtain ⟨a, xs, rfl, h1, r1⟩ := view_lst rel rd hv
        obtain ⟨b, ys, rfl, h2, r2⟩ := view_lst rel re hw
        cases rx
        cases ry
        obtain ⟨z1, its, n, q1, l1, e1⟩ := rd_exact I h1
        obtain ⟨z2, its2, n2, q2, l2, e2⟩ := rd_exact I h2
        have hz : xs.length + ys.length ≤ sizeLine := by rw [← r1.length, ← r2.length, sizeLine_eq]; exact hl
        refine PySem.P.add_list e1 e2 ?_ (by rw [List.size_toArray, List.size_toArray]; omega)
        have ea : its.toArray ++ its2.toArray = (its ++ its2).toArray := by simp
        rw [ea]
        exact ⟨.ref _, _, I.lnew (t' := s.toks) (q1.append q2) (by rw [List.length_append]; omega), rfl, res _ _ I.fresh (r1.append r2)⟩
      · rw [if_neg hl] at ez
        cases ez
    | _ => rw [hw] at ez; cases ez
  | tup ds =>
    rw [hv] at ez
    cases hw : view M e with
    | tup es =>
      rw [hw] at ez
      have ez : (if ds.length + es.length ≤ line then some (D.tup (ds ++ es)) else none) = some z := ez
      by_cases hl : ds.length + es.length ≤ line
      · rw [if_pos hl] at ez
        cases ez
        obtain ⟨a, xs, ex, h1, r1⟩ := view_tup rel rd hv
        obtain ⟨b, ys, ey, h2, r2⟩ := view_tup rel re hw
        subst ex ey
        have e1 := r1.length
        have e2 := r2.length
        cases view_tupE hv
        cases view_tupE hw
        refine op_catA pins s σ H _ _ v u Q I rx ry ⟨a, b, xs, ys, rfl, rfl, h1, h2, by rw [← e1, ← e2, sizeLine_eq]; exact hl, fun h => ?_, fun h h' => ?_, fun h h' p hp => ?_⟩
        · have : ds = [] := by
            subst h
            cases ds with
            | nil => rfl
            | cons _ _ => cases e1
          subst this
          exact Res.flat rel res re (fun _ z => nomatch z)
        · have : es = [] := by
            subst h'
            cases es with
            | nil => rfl
            | cons _ _ => cases e2
          subst this
          rw [List.append_nil] at res
          exact Res.flat rel res rd (fun _ z => nomatch z)
        · exact Res.tup rel res (r1.append r2) hp
      · rw [if_neg hl] at ez
        cases ez
    | _ => rw [hw] at ez; cases ez
  | _ => rw [hv] at ez; cases ez
theorem two_ints {o : Bop} (hz : ∀ d e z, bop o d e = some z → (∃ i j, d = .int i ∧ e = .int j) ∨ ∃ i j, d = .str i ∧ e = .int j) {C : Int → Int → Prop} {g : Int → Int → Int} {f : Value → Value → Sem Value}
    (hg : ∀ i j z, bop o (.int i) (.int j) = some z → C i j ∧ z = .int (g i j)) (hs : ∀ i j, bop o (.str i) (.int j) = none) (h : OpR X f (rI C fun i j => .int (g i j))) : OpR X f (rBin X (bop o)) := by
  intro pins s σ H x y v u Q I rx ry ⟨φ, F, M, d, e, z, rel, rd, re, ez, res⟩
  rcases hz _ _ _ ez with ⟨i, j, h1, h2⟩ | ⟨i, j, h1, h2⟩
  · rw [h1, h2] at ez
    obtain ⟨hc, rfl⟩ := hg i j z ez
    exact h pins s σ H x y v u Q I rx ry ⟨i, j, view_int rd h1, view_int re h2, hc, Res.flat rel res rfl (fun _ z => nomatch z)⟩
  · rw [h1, h2, hs] at ez
    cases ez
theorem bop_shape {o : Bop} (ho : o ≠ .add) : ∀ d e z, bop o d e = some z → (∃ i j, d = .int i ∧ e = .int j) ∨ ∃ i j, d = .str i ∧ e = .int j := by
  intro d e z h
  cases o <;> cases d <;> cases e <;> first | exact absurd rfl ho | (cases h; done) | exact .inl ⟨_, _, rfl, rfl⟩ | exact .inr ⟨_, _, rfl, rfl⟩
theorem ok_sub : OpR X (binaryOp .Sub) (rBin X (bop .sub)) :=
  two_ints (C := fun _ _ => True) (g := fun i j => i - j) (bop_shape (o := .sub) (by intro z; cases z)) (fun i j z h => ⟨trivial, by cases h; rfl⟩) (fun _ _ => rfl) fun pins s σ H x y v u Q I rx ry ⟨i, j, a, b, _, q⟩ => op_sub pins s σ H x y v u Q I rx ry ⟨i, j, a, b, q⟩
theorem ok_mod : OpR X (binaryOp .Mod) (rBin X (bop .mod)) :=
  two_ints (bop_shape (o := .mod) (by intro z; cases z)) (fun i j z h => by
    have h : (if 0 < j then some (D.int (i % j)) else none) = some z := h
    by_cases hj : 0 < j
    · rw [if_pos hj] at h; exact ⟨hj, by cases h; rfl⟩
    · rw [if_neg hj] at h; cases h) (fun _ _ => rfl) op_mod
theorem ok_fdiv : OpR X (binaryOp .FloorDiv) (rBin X (bop .fdiv)) :=
  two_ints (bop_shape (o := .fdiv) (by intro z; cases z)) (fun i j z h => by
    have h : (if 0 < j ∧ j.natAbs.log2 < 9000 then some (D.int (i / j)) else none) = some z := h
    by_cases hj : 0 < j ∧ j.natAbs.log2 < 9000
    · rw [if_pos hj] at h; exact ⟨hj, by cases h; rfl⟩
    · rw [if_neg hj] at h; cases h) (fun _ _ => rfl) op_fdivW
theorem ok_pow : OpR X (binaryOp .Pow) (rBin X (bop .pow)) :=
  two_ints (bop_shape (o := .pow) (by intro z; cases z)) (fun i j z h => by
    have h : (if 0 ≤ j ∧ j ≤ 1000000 ∧ i.natAbs < 2 ^ 64 then some (D.int (i ^ j.toNat)) else none) = some z := h
    by_cases hj : 0 ≤ j ∧ j ≤ 1000000 ∧ i.natAbs < 2 ^ 64
    · rw [if_pos hj] at h; exact ⟨hj, by cases h; rfl⟩
    · rw [if_neg hj] at h; cases h) (fun _ _ => rfl) op_pow
theorem ok_mul : OpR X (binaryOp .Mult) (rBin X (bop .mul)) := by
  intro pins s σ H x y v u Q I rx ry ⟨φ, F, M, d, e, z, rel, rd, re, ez, res⟩
  rcases bop_shape (o := .mul) (by intro z; cases z) _ _ _ ez with ⟨i, j, h1, h2⟩ | ⟨i, j, h1, h2⟩
  · rw [h1, h2] at ez
    have h : (if i.natAbs.log2 + j.natAbs.log2 < 1000000 then some (D.int (i * j)) else none) = some z := ez
    by_cases hj : i.natAbs.log2 + j.natAbs.log2 < 1000000
    · rw [if_pos hj] at h
      cases h
      exact op_mulW pins s σ H x y v u Q I rx ry ⟨i, j, view_int rd h1, view_int re h2, hj, Res.flat rel res rfl (fun _ z => nomatch z)⟩
    · rw [if_neg hj] at h; cases h
  · rw [h1, h2] at ez
    have h : (if 0 < j ∧ j ≤ 1000 ∧ i.length ≤ 1000 then some (D.str (Txt.mul i j)) else none) = some z := ez
    by_cases hj : 0 < j ∧ j ≤ 1000 ∧ i.length ≤ 1000
    · rw [if_pos hj] at h
      cases h
      obtain ⟨j1, j2, j3⟩ := hj
      have q := Res.flat (v := .str (Txt.mul i j)) rel res rfl (fun _ z => nomatch z)
      cases view_str rd h1
      cases view_int re h2
      obtain ⟨t, rfl⟩ := rx
      obtain ⟨t', rfl⟩ := ry
      have hm : i.length * j.toNat ≤ 1000 * 1000 := Nat.mul_le_mul j3 (by omega)
      refine PySem.SB.mul ⟨by simp; omega, fun _ _ => ?_, fun _ _ => ?_⟩ fun t2 k => ⟨.str _, H, I.tok _, ⟨_, rfl⟩, q⟩
      · have h1 : (1000 : Int) ≤ (2 ^ 63 - 1) / j := by
          rw [Int.le_ediv_iff_mul_le j1]
          omega
        omega
      · show decide (i.length * j.toNat > sizeLine) = false
        rw [sizeLine_eq]
        exact decide_eq_false (by omega)
    · rw [if_neg hj] at h; cases h
/-! ### comparisons -/
theorem ok_lt : OpR X (compareOp .Lt) (rCmp X (cmp .lt)) := by
  intro pins s σ H x y v u Q I rx ry ⟨φ, F, M, d, e, k, rel, rd, re, ez, q⟩
  cases hv : view M d <;> rw [hv] at ez <;> first | (cases ez; done) | skip
  cases hw : view M e <;> rw [hw] at ez <;> first | (cases ez; done) | skip
  cases ez
  exact op_lt pins s σ H x y v u Q I rx ry ⟨_, _, view_int rd hv, view_int re hw, q⟩
theorem ok_le : OpR X (compareOp .LtE) (rCmp X (cmp .le)) := by
  intro pins s σ H x y v u Q I rx ry ⟨φ, F, M, d, e, k, rel, rd, re, ez, q⟩
  cases hv : view M d <;> rw [hv] at ez <;> first | (cases ez; done) | skip
  cases hw : view M e <;> rw [hw] at ez <;> first | (cases ez; done) | skip
  cases ez
  exact op_le pins s σ H x y v u Q I rx ry ⟨_, _, view_int rd hv, view_int re hw, q⟩
theorem ok_gt : OpR X (compareOp .Gt) (rCmp X (cmp .gt)) := by
  intro pins s σ H x y v u Q I rx ry ⟨φ, F, M, d, e, k, rel, rd, re, ez, q⟩
  cases hv : view M d <;> rw [hv] at ez <;> first | (cases ez; done) | skip
  cases hw : view M e <;> rw [hw] at ez <;> first | (cases ez; done) | skip
  cases ez
  exact op_gt pins s σ H x y v u Q I rx ry ⟨_, _, view_int rd hv, view_int re hw, q⟩
theorem ok_ge : OpR X (compareOp .GtE) (rCmp X (cmp .ge)) := by
  intro pins s σ H x y v u Q I rx ry ⟨φ, F, M, d, e, k, rel, rd, re, ez, q⟩
  cases hv : view M d <;> rw [hv] at ez <;> first | (cases ez; done) | skip
  cases hw : view M e <;> rw [hw] at ez <;> first | (cases ez; done) | skip
  cases ez
  exact op_ge pins s σ H x y v u Q I rx ry ⟨_, _, view_int rd hv, view_int re hw, q⟩
/-! ### in -/
theorem flat_rp {d : D} {v : V} (h : flat d = true) (r : Rp K φ F d v) : flatV v = true := by
  cases d <;> first | (cases h; done) | (cases r; rfl)
theorem flats_rp : ∀ {ds : List D} {xs : List V}, ds.all flat = true → Rps K φ F ds xs → xs.all flatV = true
  | [], xs, _, r => by cases (show xs = [] from r); rfl
  | d :: ds, _, h, r => by
    obtain ⟨v, vs, rfl, r, rs⟩ := r
    rw [List.all_cons, Bool.and_eq_true] at h
    rw [List.all_cons, flat_rp h.1 r, flats_rp h.2 rs] <;> rfl
theorem eq_rp {d e : D} {v u : V} (h : flat d = true) (h' : flat e = true) (r : Rp K φ F d v) (r' : Rp K φ F e u) : eqV v u = eqF d e := by
  cases d <;> first | (cases h; done) | skip
  all_goals (cases r; cases e <;> first | (cases h'; done) | (cases r'; rfl))
theorem any_rp {d : D} {v : V} (h : flat d = true) (r : Rp K φ F d v) : ∀ {ds : List D} {xs : List V}, ds.all flat = true → Rps K φ F ds xs → inV v xs = ds.any fun y => eqF y d
  | [], xs, _, rs => by cases (show xs = [] from rs); rfl
  | e :: ds, _, hs, rs => by
    obtain ⟨u, us, rfl, r1, rs⟩ := rs
    rw [List.all_cons, Bool.and_eq_true] at hs
    have ih := any_rp h r hs.2 rs
    unfold inV at ih ⊢
    rw [List.any_cons, List.any_cons, ih, eq_rp hs.1 h r1 r]
theorem sign_of {s : Str} {k : Nat} (h : sign? s = some k) : s = ⟨#[k]⟩ := by
  obtain ⟨⟨l⟩⟩ := s
  match l, h with
  | [], h => cases h
  | [c], h => cases h; rfl
  | _ :: _ :: _, h => cases h
theorem in_shape {d e : D} {k : Bool} (h : inD d e = some k) : (∃ s t c, d = .str s ∧ e = .str t ∧ sign? s = some c ∧ k = decide (c ∈ t.cps.toList)) ∨
    ∃ ys, (e = .lst ys ∨ e = .kls ys ∨ e = .tup ys) ∧ flat d = true ∧ ys.all flat = true ∧ k = ys.any fun y => eqF y d := by
  have seqs : ∀ ys : List D, (if flat d && ys.all flat then some (ys.any fun y => eqF y d) else none) = some k → flat d = true ∧ ys.all flat = true ∧ k = ys.any fun y => eqF y d := fun ys h => by
    split at h
    · rename_i hb
      rw [Bool.and_eq_true] at hb
      exact ⟨hb.1, hb.2, by cases h; rfl⟩
    · cases h
  cases e with
  | str t =>
    cases d with
    | str s =>
      left
      have h : ((sign? s).map fun c => decide (c ∈ t.cps.toList)) = some k := h
      cases hs : sign? s with
      | none => rw [hs] at h; cases h
      | some c => rw [hs] at h; cases h; exact ⟨s, t, c, rfl, rfl, hs, rfl⟩
    | _ => cases h
  | lst ys => exact .inr ⟨ys, .inl rfl, seqs ys (by cases d <;> exact h)⟩
  | kls ys => exact .inr ⟨ys, .inr (.inl rfl), seqs ys (by cases d <;> exact h)⟩
  | tup ys => exact .inr ⟨ys, .inr (.inr rfl), seqs ys (by cases d <;> exact h)⟩
  | _ => cases d <;> cases h
theorem flat_view {d : D} (h : flat (view M d) = true) : view M d = d := by
  cases d with
  | h n => rcases view_h M n with ⟨xs, q⟩ | q <;> rw [q] at h <;> cases h
  | _ => rfl
theorem seq_at (rel : Rel K φ F H M) {e : D} {u : V} {ys : List D} (r : Rp K φ F e u) (h : view M e = .lst ys ∨ view M e = .kls ys ∨ view M e = .tup ys) : ∃ p xs, u = .ref p ∧ (SqL K H p xs ∨ SqT K H p xs) ∧ Rps K φ F ys xs := by
  rcases h with h | h | h
  · obtain ⟨a, xs, rfl, h1, r1⟩ := view_lst rel r h
    exact ⟨a, xs, rfl, .inl (.inl h1), r1⟩
  · obtain ⟨a, xs, rfl, h1, r1⟩ := view_kls rel r h
    exact ⟨a, xs, rfl, .inl h1, r1⟩
  · obtain ⟨a, xs, rfl, h1, r1⟩ := view_tup rel r h
    exact ⟨a, xs, rfl, .inr h1, r1⟩
theorem ok_in : OpR X (compareOp .In) (rCmp X (cmp .inn)) := by
  intro pins s σ H x y v u Q I rx ry ⟨φ, F, M, d, e, k, rel, rd, re, ez, q⟩
  rcases in_shape ez with ⟨a, b, k, h1, h2, h3, rfl⟩ | ⟨ys, hy, h1, h2, rfl⟩
  · refine op_in_sign pins s σ H x y v u Q I rx ry ⟨k, b, ?_, view_str re h2, q⟩
    rw [← sign_of h3]
    exact view_str rd h1
  · obtain ⟨p, xs, e1, h4, r1⟩ := seq_at rel re hy
    have e0 := flat_view h1
    rw [e0] at h1 q
    refine op_in_seq pins s σ H x y v u Q I rx ry ⟨p, xs, e1, h4, flat_rp h1 rd, flats_rp h2 r1, ?_⟩
    show Q (.bl (inV x xs)) H
    rw [any_rp h1 rd h2 r1]
    exact q
theorem ok_nin : OpR X (compareOp .NotIn) (rCmp X (cmp .nin)) := by
  intro pins s σ H x y v u Q I rx ry ⟨φ, F, M, d, e, k, rel, rd, re, ez, q⟩
  have ez : (inD (view M d) (view M e)).map not = some k := ez
  cases hi : inD (view M d) (view M e) with
  | none => rw [hi] at ez; cases ez
  | some k' =>
    rw [hi] at ez
    cases ez
    rcases in_shape hi with ⟨a, b, k, h1, h2, h3, rfl⟩ | ⟨ys, hy, h1, h2, rfl⟩
    · refine op_notIn_sign pins s σ H x y v u Q I rx ry ⟨k, b, ?_, view_str re h2, q⟩
      rw [← sign_of h3]
      exact view_str rd h1
    · obtain ⟨p, xs, e1, h4, r1⟩ := seq_at rel re hy
      have e0 := flat_view h1
      rw [e0] at h1 q
      refine op_notIn_seq pins s σ H x y v u Q I rx ry ⟨p, xs, e1, h4, flat_rp h1 rd, flats_rp h2 r1, ?_⟩
      show Q (.bl (!inV x xs)) H
      rw [any_rp h1 rd h2 r1]
      exact q
end
end MP

set_option Elab.async false
set_option linter.all false
set_option maxRecDepth 100000
/-! MiniPy 6: ==; built-ins. -/
namespace MP
open PySem PySem.Spec PyProof.Rows L2
open Evl (Ex)
variable [TL : TabL]
section
variable {X : Cx} {W : WX} {c : Cf} {σ : L2.St} {φ : List Addr} {F H : Hp} {M : Mh} {K : PySem.W.Frag} {f g : ES} {r : AS} {e : Expr} {es : List Expr} {pos p : Pos}
/-! ### data as the library reads them -/
mutual
theorem py_dp (ex : Ex F H) : ∀ (d : D) (v : V) (y : PyData), Rp K φ F d v → toPy d = some y → Dp K H v y
  | .non, _, _, r, e => by cases r; cases e; exact .non
  | .bl b, _, _, r, e => by cases r; cases e; exact .bl b
  | .int b, _, _, r, e => by cases r; cases e; exact .int b
  | .str b, _, _, r, e => by cases r; cases e; exact .str b
  | .tup ds, v, y, r, e => by
    obtain ⟨a, xs, rfl, s, rs⟩ := r
    have e : (toPys ds).map PyData.tuple = some y := e
    cases q : toPys ds with
    | none => rw [q] at e; cases e
    | some ys =>
      rw [q] at e
      cases e
      exact .tup (Evl.ex_t ex s) (pys_dp ex ds xs ys rs q)
  | .lst ds, v, y, r, e => by
    obtain ⟨a, xs, rfl, s, rs⟩ := r
    have e : (toPys ds).map PyData.list = some y := e
    cases q : toPys ds with
    | none => rw [q] at e; cases e
    | some ys =>
      rw [q] at e
      cases e
      exact .lst (.inl (Evl.ex_rd ex s)) (pys_dp ex ds xs ys rs q)
  | .dic _ _, _, _, _, e => by cases e
  | .kls _, _, _, _, e => by cases e
  | .h _, _, _, _, e => by cases e
theorem pys_dp (ex : Ex F H) : ∀ (ds : List D) (xs : List V) (ys : List PyData), Rps K φ F ds xs → toPys ds = some ys → DpAll K H xs ys
  | [], xs, _, r, e => by cases (show xs = [] from r); cases e; exact .nil
  | d :: ds, _, ys, r, e => by
    obtain ⟨v, vs, rfl, r, rs⟩ := r
    have e : (match toPy d, toPys ds with | some y, some ys => some (y :: ys) | _, _ => none) = some ys := e
    cases q : toPy d with
    | none => rw [q] at e; cases e
    | some y =>
      cases q2 : toPys ds with
      | none => rw [q, q2] at e; cases e
      | some zs =>
        rw [q, q2] at e
        cases e
        exact .cons (py_dp ex d v y r q) (pys_dp ex ds vs zs rs q2)
end
theorem list_lens {pins : List (Addr × Obj)} {s : Shared} {a b : Addr} {xs ys : List V} {Q : Value → Shared → Prop} {E : Value → Shared → Prop} (I : Inv X pins σ H s) (h1 : Rd H a (.lst xs)) (h2 : Rd H b (.lst ys)) (hl : xs.length ≠ ys.length) (hu : X.A.units < cLine) :
    (Q (.bool false) s → wpAny (model X.prog X.w) X.A (compareOp .Eq (.ref a) (.ref b)) Q E s) ∧ (Q (.bool true) s → wpAny (model X.prog X.w) X.A (compareOp .NotEq (.ref a) (.ref b)) Q E s) := by
  obtain ⟨_, its, n, _, l1, e1⟩ := rd_exact I h1
  obtain ⟨_, its2, n2, _, l2, e2⟩ := rd_exact I h2
  have ta : s.TypeIs (.ref a) "list" := ⟨_, e1, rfl⟩
  have tb : s.TypeIs (.ref b) "list" := ⟨_, e2, rfl⟩
  have hs : (its.toArray.size != its2.toArray.size) = true := by
    rw [List.size_toArray, List.size_toArray, ← l1, ← l2]
    simpa using hl
  refine ⟨fun q => ?_, fun q => ?_⟩
  · exact wpAny_richCompare_same_room (op := .Eq) ta tb F.slot_list_eq (call_meets F.slot_list_eq ta F.entry_list_eq (F.args_list_eq_2 _ _) (SeqAt.list_eq_lengthsAt a b its.toArray its2.toArray n n2 none none #[] #[] hs) ⟨e1, e2, show Value.bool false ≠ Value.notImplemented ∧ Q (.bool false) s from ⟨(fun x => nomatch x), q⟩⟩) hu
  · exact wpAny_richCompare_same_room (op := .NotEq) ta tb F.slot_list_ne (call_meets F.slot_list_ne ta F.entry_list_ne (F.args_list_ne_2 _ _) (SeqAt.list_ne_lengthsAt a b its.toArray its2.toArray n n2 none none #[] #[] hs) ⟨e1, e2, show Value.bool true ≠ Value.notImplemented ∧ Q (.bool true) s from ⟨(fun x => nomatch x), q⟩⟩) hu
/-- how two data compare -/
inductive EqHow (X : Cx) (H : Hp) (x y : V) (k : Bool) : Prop where
  | sc (h : scal x y = true) (e : k = decide (x = y))
  | dat (d e : PyData) (h1 : Dp X.K H x d) (h2 : Dp X.K H y e) (s1 : SeqAt.shaped d = true) (s2 : SeqAt.shaped e = true) (e : k = PyData.eqv d e)
  | dct (a b : Addr) (ks : List (Key × V)) (ex : x = .ref a) (ey : y = .ref b) (h1 : H a = some (.dK ks)) (h2 : H b = some (.dK ks)) (nd : (ks.map (·.1)).Nodup) (fl : ∀ p ∈ ks, flatB p.2 = true) (e : k = true)
  | len (a b : Addr) (xs ys : List V) (ex : x = .ref a) (ey : y = .ref b) (h1 : Rd H a (.lst xs)) (h2 : Rd H b (.lst ys)) (hl : xs.length ≠ ys.length) (e : k = false)
theorem toPys_nil : toPys [] = some [] := rfl
theorem sameF_rp {d e : D} {x y : V} (h : sameF d e = true) (r1 : Rp X.K φ F d x) (r2 : Rp X.K φ F e y) : x = y ∧ flatB x = true := by
  cases d <;> cases e <;> first | (cases h; done) | (cases r1; cases r2; first | exact ⟨rfl, rfl⟩ | (rw [eq_of_beq (show (_ == _) = true from h)]; exact ⟨rfl, rfl⟩))
theorem sameFs_rp : ∀ {ds es : List D} {xs ys : List V}, sameFs ds es = true → Rps X.K φ F ds xs → Rps X.K φ F es ys → xs = ys ∧ ∀ x ∈ xs, flatB x = true
  | [], [], _, _, _, r1, r2 => by
    cases (show _ = [] from r1)
    cases (show _ = [] from r2)
    exact ⟨rfl, fun _ h => by cases h⟩
  | d :: ds, e :: es, _, _, h, r1, r2 => by
    obtain ⟨v, vs, rfl, a1, b1⟩ := r1
    obtain ⟨u, us, rfl, a2, b2⟩ := r2
    have h : (sameF d e && sameFs ds es) = true := h
    rw [Bool.and_eq_true] at h
    obtain ⟨c1, c2⟩ := sameF_rp h.1 a1 a2
    obtain ⟨c3, c4⟩ := sameFs_rp h.2 b1 b2
    refine ⟨by rw [c1, c3], fun x hx => ?_⟩
    rcases List.mem_cons.mp hx with z | z
    · rw [z]; exact c2
    · exact c4 x z
  | [], _ :: _, _, _, h, _, _ => by cases h
  | _ :: _, [], _, _, h, _, _ => by cases h
theorem eq_how {d e : D} {x y : V} {k : Bool} (rel : Rel X.K φ F H M) (rd : Rp X.K φ F d x) (re : Rp X.K φ F e y) (h : eqD (view M d) (view M e) = some k) : EqHow X H x y k := by
  cases hv : view M d with
  | int i =>
    rw [hv] at h
    cases hw : view M e with
    | int j =>
      rw [hw] at h
      cases h
      rw [view_int rd hv, view_int re hw]
      exact .sc rfl (by simp)
    | _ => rw [hw] at h; cases h
  | str i =>
    rw [hv] at h
    cases hw : view M e with
    | str j =>
      rw [hw] at h
      cases h
      rw [view_str rd hv, view_str re hw]
      exact .sc rfl (by simp)
    | _ => rw [hw] at h; cases h
  | bl i =>
    rw [hv] at h
    cases hw : view M e with
    | bl j =>
      rw [hw] at h
      cases h
      rw [view_bl rd hv, view_bl re hw]
      exact .sc rfl (by simp)
    | _ => rw [hw] at h; cases h
  | lst ds =>
    rw [hv] at h
    cases hw : view M e with
    | lst es =>
      rw [hw] at h
      obtain ⟨a, xs, rfl, h1, r1⟩ := view_lst rel rd hv
      obtain ⟨b, ys, rfl, h2, r2⟩ := view_lst rel re hw
      have h : (if (ds.isEmpty || es.isEmpty) = true then (if (ds.isEmpty && es.isEmpty) = true then some true else some false) else
        (match toPys ds, toPys es with
        | some a, some b => if (SeqAt.shaped (.list a) && SeqAt.shaped (.list b)) = true then some (PyData.eqv (.list a) (.list b)) else none
        | _, _ => none)) = some k := h
      by_cases hb : (ds.isEmpty || es.isEmpty) = true
      · rw [if_pos hb] at h
        by_cases hb2 : (ds.isEmpty && es.isEmpty) = true
        · rw [if_pos hb2] at h
          cases h
          rw [Bool.and_eq_true, List.isEmpty_iff, List.isEmpty_iff] at hb2
          obtain ⟨rfl, rfl⟩ := hb2
          cases (show xs = [] from r1)
          cases (show ys = [] from r2)
          exact .dat (.list []) (.list []) (.lst (.inl h1) .nil) (.lst (.inl h2) .nil) (by decide) (by decide) (by decide)
        · rw [if_neg hb2] at h
          cases h
          refine .len a b xs ys rfl rfl h1 h2 (fun z => hb2 ?_) rfl
          rw [← r1.length, ← r2.length] at z
          cases ds <;> cases es <;> simp_all
      · rw [if_neg hb] at h
        cases q1 : toPys ds with
        | none => rw [q1] at h; cases h
        | some a1 =>
          cases q2 : toPys es with
          | none => rw [q1, q2] at h; cases h
          | some b1 =>
            rw [q1, q2] at h
            simp only at h
            split at h
            · rename_i hs
              rw [Bool.and_eq_true] at hs
              cases h
              refine .dat (.list a1) (.list b1) (.lst (.inl h1) ?_) (.lst (.inl h2) ?_) hs.1 hs.2 rfl
              · exact pys_of r1 q1
              · exact pys_of r2 q2
            · cases h
    | _ => rw [hw] at h; cases h
  | tup ds =>
    rw [hv] at h
    cases hw : view M e with
    | tup es =>
      rw [hw] at h
      cases view_tupE hv
      cases view_tupE hw
      have h : (match toPys ds, toPys es with
        | some a, some b => if (SeqAt.shaped (.tuple a) && SeqAt.shaped (.tuple b)) = true then some (PyData.eqv (.tuple a) (.tuple b)) else none
        | _, _ => none) = some k := h
      cases q1 : toPys ds with
      | none => rw [q1] at h; cases h
      | some a1 =>
        cases q2 : toPys es with
        | none => rw [q1, q2] at h; cases h
        | some b1 =>
          rw [q1, q2] at h
          simp only at h
          split at h
          · rename_i hs
            rw [Bool.and_eq_true] at hs
            cases h
            exact .dat (.tuple a1) (.tuple b1) (py_dp rel.ex (.tup ds) x _ rd (by show (toPys ds).map _ = _; rw [q1]; rfl)) (py_dp rel.ex (.tup es) y _ re (by show (toPys es).map _ = _; rw [q2]; rfl)) hs.1 hs.2 rfl
          · cases h
    | _ => rw [hw] at h; cases h
  | dic ks ds =>
    rw [hv] at h
    cases hw : view M e with
    | dic ls es =>
      rw [hw] at h
      obtain ⟨a, xs, rfl, h1, l1, r1⟩ := view_dic rel rd hv
      obtain ⟨b, ys, rfl, h2, l2, r2⟩ := view_dic rel re hw
      have h : (if (decide (ks = ls) && (decide ks.Nodup && sameFs ds es)) = true then some true else none) = some k := h
      by_cases hb : (decide (ks = ls) && (decide ks.Nodup && sameFs ds es)) = true
      · rw [if_pos hb] at h
        cases h
        rw [Bool.and_eq_true, Bool.and_eq_true, decide_eq_true_eq, decide_eq_true_eq] at hb
        obtain ⟨e1, nd, sf⟩ := hb
        subst e1
        obtain ⟨e2, fl⟩ := sameFs_rp sf r1 r2
        subst e2
        refine .dct a b _ rfl rfl h1 h2 (by rw [List.map_fst_zip (by omega)]; exact nd) (fun p hp => fl _ (List.of_mem_zip hp).2) rfl
      · rw [if_neg hb] at h
        cases h
    | _ => rw [hw] at h; cases h
  | _ => rw [hv] at h; cases view M e <;> cases h
where pys_of {ds : List D} {xs : List V} {ys : List PyData} (r : Rps X.K φ F ds xs) (e : toPys ds = some ys) : DpAll X.K H xs ys := pys_dp rel.ex ds xs ys r e
end
end MP

set_option Elab.async false
set_option linter.all false
set_option maxRecDepth 100000
/-! MiniPy 7: ==; built-ins. -/
namespace MP
open PySem PySem.Spec PyProof.Rows L2
open Evl (Ex)
variable [TL : TabL]
section
variable {X : Cx} {W : WX} {c : Cf} {σ : L2.St} {φ : List Addr} {F H : Hp} {M : Mh} {K : PySem.W.Frag} {f g : ES} {r : AS} {a b e : Expr} {es : List Expr} {pos p : Pos}
theorem ok_eq (hu : X.A.units + 64 < cLine) : OpR X (compareOp .Eq) (rCmp X (cmp .eq)) := by
  intro pins s σ H x y v u Q I rx ry ⟨φ, F, M, d, e, k, rel, rd, re, ez, q⟩
  cases eq_how rel rd re ez with
  | sc h1 h2 => exact op_eq pins s σ H x y v u Q I rx ry ⟨h1, by rw [← h2]; exact q⟩
  | dat d' e' h1 h2 s1 s2 h3 => exact op_eqD hu pins s σ H x y v u Q I rx ry ⟨d', e', h1, h2, s1, s2, by rw [← h3]; exact q⟩
  | dct a b ks ex ey h1 h2 nd fl h3 =>
    subst ex ey h3
    exact op_eq_dictA (by omega) pins s σ H _ _ v u Q I rx ry ⟨a, b, ks, ks, rfl, rfl, h1, h2, rfl, fun p hp => ⟨val_nodup nd p hp, fl p hp⟩, q⟩
  | len a b xs ys ex ey h1 h2 hl h3 =>
    subst ex ey h3
    cases rx
    cases ry
    exact (list_lens I h1 h2 hl (by omega)).1 ⟨.bl false, H, I, rfl, q⟩
theorem ok_ne (hu : X.A.units + 64 < cLine) : OpR X (compareOp .NotEq) (rCmp X (cmp .ne)) := by
  intro pins s σ H x y v u Q I rx ry ⟨φ, F, M, d, e, k, rel, rd, re, ez, q⟩
  have ez : (eqD (view M d) (view M e)).map not = some k := ez
  cases hi : eqD (view M d) (view M e) with
  | none => rw [hi] at ez; cases ez
  | some k' =>
    rw [hi] at ez
    cases ez
    cases eq_how rel rd re hi with
    | sc h1 h2 => exact op_ne pins s σ H x y v u Q I rx ry ⟨h1, by rw [← h2]; exact q⟩
    | dat d' e' h1 h2 s1 s2 h3 => exact op_neD hu pins s σ H x y v u Q I rx ry ⟨d', e', h1, h2, s1, s2, by rw [← h3]; exact q⟩
    | dct a b ks ex ey h1 h2 nd fl h3 =>
      subst ex ey h3
      exact op_ne_dictA (by omega) pins s σ H _ _ v u Q I rx ry ⟨a, b, ks, ks, rfl, rfl, h1, h2, rfl, fun p hp => ⟨val_nodup nd p hp, fl p hp⟩, q⟩
    | len a b xs ys ex ey h1 h2 hl h3 =>
      subst ex ey h3
      cases rx
      cases ry
      exact (list_lens I h1 h2 hl (by omega)).2 ⟨.bl true, H, I, rfl, q⟩
/-! ### a call of a built-in, one argument -/
theorem tE1 {k : D → Mh → R D} {rd : List V → Hp → VK → Prop} (w : ∀ H Q φ F M d v, Rel X.K φ F H M → Rp X.K φ F d v → Post X (Rp X.K) W σ φ F H (k d M) Q → rd [v] H Q) :
    ∀ H Q, tE X W c (fun c ρ M => (f c ρ M).bind k) σ H Q → tCB rd (tCons (tE X W c f) tNil) σ H Q := fun H Q ⟨φ, F, ρ, M, rel, rr, q⟩ =>
  seq rel rr q fun x H1 φ1 F1 M1 d n1 q1 => w H1 Q φ1 F1 M1 d x n1.rel n1.rp q1
/-- names of built-ins in a place: global and not taken by the module -/
structure Bi (X : Cx) (x : Str) : Prop where
  gl : Gl X x
  mg : X.mg x = none
theorem pe_len (B : Bi X "len") (ha : PE X a (tE X W c f)) (hs : starEach [a] X.env = [(false, eval a X.env)]) : PE X (.Call (.Name "len" p) [a] [] pos) (tE X W c (sLen f)) := by
  refine wkE (pe_callB call_len B.gl B.mg boot_len (pa_cons ha pa_nil hs) (he := hs)) fun σ H Q h => ?_
  refine tE1 (fun H Q φ F M d v rel r q => ?_) H Q h
  obtain ⟨n, en, q⟩ := Post.opt q
  refine ⟨v, n, rfl, ?_, Post.here rel rfl q⟩
  cases hv : view M d with
  | str s =>
    rw [hv] at en
    rw [view_str r hv]
    have en : (if s.length ≤ line then some s.length else none) = some n := en
    by_cases hl : s.length ≤ line
    · rw [if_pos hl] at en; cases en; exact ⟨by rw [sizeLine_eq]; exact hl, rfl⟩
    · rw [if_neg hl] at en; cases en
  | lst ds =>
    rw [hv] at en
    cases en
    obtain ⟨p, xs, rfl, s, rs⟩ := view_lst rel r hv
    exact .inl ⟨xs, .inl s, rs.length⟩
  | kls ds =>
    rw [hv] at en
    cases en
    obtain ⟨p, xs, rfl, s, rs⟩ := view_kls rel r hv
    exact .inl ⟨xs, s, rs.length⟩
  | tup ds =>
    rw [hv] at en
    cases en
    obtain ⟨p, xs, rfl, s, rs⟩ := view_tup rel r hv
    exact .inr ⟨xs, s, rs.length⟩
  | _ => rw [hv] at en; cases en
theorem pe_intB (B : Bi X "int") (ha : PE X a (tE X W c f)) (hs : starEach [a] X.env = [(false, eval a X.env)]) : PE X (.Call (.Name "int" p) [a] [] pos) (tE X W c (sInt f)) := by
  refine wkE (pe_callTy call_int1 B.gl B.mg (by decide +kernel) (pa_cons ha pa_nil hs) (he := hs)) fun σ H Q h => ?_
  refine tE1 (fun H Q φ F M d v rel r q => ?_) H Q h
  cases d with
  | int i => cases r; exact .inl ⟨i, rfl, Post.here rel rfl q⟩
  | _ => exact q.elim
theorem pe_boolB (B : Bi X "bool") (ha : PE X a (tE X W c f)) (hs : starEach [a] X.env = [(false, eval a X.env)]) : PE X (.Call (.Name "bool" p) [a] [] pos) (tE X W c (sBool f)) := by
  refine wkE (pe_callTy call_bool1 B.gl B.mg (by decide +kernel) (pa_cons ha pa_nil hs) (he := hs)) fun σ H Q h => ?_
  refine tE1 (fun H Q φ F M d v rel r q => ?_) H Q h
  cases d with
  | bl i => cases r; exact .inr ⟨i, rfl, Post.here rel rfl q⟩
  | _ => exact q.elim
theorem allBl_rp : ∀ {ds : List D} {xs : List V} {bs : List Bool}, Rps K φ F ds xs → allBl ds = some bs → xs = bs.map V.bl
  | [], xs, _, r, e => by cases (show xs = [] from r); cases e; rfl
  | d :: ds, _, bs, r, e => by
    obtain ⟨v, vs, rfl, r, rs⟩ := r
    cases d with
    | bl b =>
      have e : (allBl ds).map (b :: ·) = some bs := e
      cases q : allBl ds with
      | none => rw [q] at e; cases e
      | some bs' =>
        rw [q] at e
        cases e
        cases r
        rw [allBl_rp rs q] <;> rfl
    | _ => cases e
theorem allStr_rp : ∀ {ds : List D} {xs : List V} {bs : List Str}, Rps K φ F ds xs → allStr ds = some bs → xs = bs.map V.str
  | [], xs, _, r, e => by cases (show xs = [] from r); cases e; rfl
  | d :: ds, _, bs, r, e => by
    obtain ⟨v, vs, rfl, r, rs⟩ := r
    cases d with
    | str b =>
      have e : (allStr ds).map (b :: ·) = some bs := e
      cases q : allStr ds with
      | none => rw [q] at e; cases e
      | some bs' =>
        rw [q] at e
        cases e
        cases r
        rw [allStr_rp rs q] <;> rfl
    | _ => cases e
theorem pe_allB (B : Bi X "all") (hc : X.calm = true) (ha : PE X a (tE X W c f)) (hs : starEach [a] X.env = [(false, eval a X.env)]) : PE X (.Call (.Name "all" p) [a] [] pos) (tE X W c (sAll f)) := by
  refine wkE (pe_callB (cr_all hc) B.gl B.mg (by decide +kernel) (pa_cons ha pa_nil hs) (he := hs)) fun σ H Q h => ?_
  refine tE1 (fun H Q φ F M d v rel r q => ?_) H Q h
  cases hv : view M d with
  | lst ds =>
    rw [hv] at q
    obtain ⟨bs, e1, q⟩ := Post.opt q
    obtain ⟨p, xs, rfl, s, rs⟩ := view_lst rel r hv
    cases allBl_rp rs e1
    exact ⟨p, bs, rfl, .inl s, Post.here rel rfl q⟩
  | _ => rw [hv] at q; exact q.elim
theorem pe_maxB (B : Bi X "max") (hc : X.calm = true) (ha : PE X a (tE X W c f)) (hb : PE X b (tE X W c g)) (hs : starEach [a, b] X.env = (false, eval a X.env) :: starEach [b] X.env) (hs2 : starEach [b] X.env = [(false, eval b X.env)]) :
    PE X (.Call (.Name "max" p) [a, b] [] pos) (tE X W c (sMax f g)) := by
  refine wkE (pe_callB (call_max2 hc) B.gl B.mg (by decide +kernel) (pa_cons ha (pa_cons hb pa_nil hs2) hs) (he := hs) (hpl := by rw [hs2]; rfl)) fun σ H Q ⟨φ, F, ρ, M, rel, rr, q⟩ => ?_
  refine seq rel rr q fun x H1 φ1 F1 M1 d n1 q1 => ?_
  refine seq n1.rel n1.rr q1 fun y H2 φ2 F2 M2 e n2 q2 => ?_
  cases d with
  | int i =>
    cases e with
    | int j =>
      cases n1.rp
      cases n2.rp
      exact ⟨i, j, rfl, Post.here n2.rel rfl q2⟩
    | _ => exact q2.elim
  | _ => exact q2.elim
/-! ### isinstance -/
/-- a name that is a built-in class -/
theorem pe_cls {x : Str} {t : String} {pt : Pos} (B : Bi X x) (hv : bootBuiltins x = some (.type t)) (hn : x ≠ "__name__") (hd : (x == ("__debug__" : Str)) = false) : PE X (.Name x pt) (tC (.ty t)) := pe_bltn B.gl B.mg hv rfl hn hd
theorem ty_of {d : D} {v : V} {n : String} (rel : Rel X.K φ F H M) (r : Rp X.K φ F d v) (h : tyN (view M d) = some n) : TyX X.K H v (.type n) := by
  cases hv : view M d with
  | non => rw [hv] at h; cases h; rw [view_non r hv]; exact .base .non
  | bl b => rw [hv] at h; cases h; rw [view_bl r hv]; exact .base (.bl b)
  | int b => rw [hv] at h; cases h; rw [view_int r hv]; exact .base (.int b)
  | str b => rw [hv] at h; cases h; rw [view_str r hv]; exact .base (.str b)
  | tup ds =>
    rw [hv] at h
    cases h
    obtain ⟨p, xs, rfl, s, rs⟩ := view_tup rel r hv
    rcases s with s | ⟨o, _, _, s, c, _⟩
    · rcases s with s | ⟨o, s⟩
      · exact .base (.tup s)
      · exact .fTuple s
    · exact .kTuple s c
  | lst ds =>
    rw [hv] at h
    cases h
    obtain ⟨p, xs, rfl, s, rs⟩ := view_lst rel r hv
    rcases s with s | ⟨o, s⟩
    · exact .base (.lst s)
    · exact .base (.frz s)
  | kls ds =>
    rw [hv] at h
    cases h
    obtain ⟨p, xs, rfl, s, rs⟩ := view_kls rel r hv
    rcases s with s | ⟨o, _, _, s, c, _⟩
    · rcases s with s | ⟨o, s⟩
      · exact .base (.lst s)
      · exact .base (.frz s)
    · exact .kList s c
  | dic ks ds =>
    rw [hv] at h
    cases h
    obtain ⟨p, xs, rfl, s, l, rs⟩ := view_dic rel r hv
    exact .base (.dK s)
  | h n' => rw [hv] at h; cases h
theorem pe_isiB {x : Str} {t : String} {pt : Pos} (B : Bi X "isinstance") (ha : PE X a (tE X W c f)) (ht : PE X (.Name x pt) (tC (.ty t))) (hs : starEach [a, .Name x pt] X.env = (false, eval a X.env) :: starEach [.Name x pt] X.env) :
    PE X (.Call (.Name "isinstance" p) [a, .Name x pt] [] pos) (tE X W c (sIsi f t)) := by
  refine wkE (pe_callB call_isi B.gl B.mg (by decide +kernel) (pa_cons ha (pa_cons ht pa_nil rfl) hs) (he := hs)) fun σ H Q ⟨φ, F, ρ, M, rel, rr, q⟩ => ?_
  refine seq rel rr q fun v H1 φ1 F1 M1 d n1 q1 => ?_
  obtain ⟨k, ek, q2⟩ := Post.opt q1
  have ek : ((tyN (view M1 d)).bind fun n => L2.kitB n t) = some k := ek
  cases hn : tyN (view M1 d) with
  | none => rw [hn] at ek; cases ek
  | some n =>
    rw [hn] at ek
    exact ⟨v, .ty t, .type n, .type t, k, rfl, .ty t, ty_of n1.rel n1.rp hn, kit_ty ek, Post.here n1.rel rfl q2⟩
/-! ### list(x), tuple(x) -/
theorem signs_rp : ∀ (l : List Nat), Rps K φ F (l.map fun c => D.str ⟨#[c]⟩) (l.map fun c => V.str ⟨#[c]⟩)
  | [] => rfl
  | c :: l => ⟨_, _, rfl, rfl, signs_rp l⟩
theorem vals_of_get : ∀ {xs : List V} {us : List Value}, xs.length = us.length → (∀ (i : Nat) (u : Value), us[i]? = some u → ∃ x, xs[i]? = some x ∧ RelV x u) → Vals xs us
  | [], [], _, _ => .nil
  | x :: xs, u :: us, hl, h => by
    obtain ⟨y, h1, h2⟩ := h 0 u rfl
    have h1 : some x = some y := h1
    cases h1
    exact .cons h2 (vals_of_get (by simpa using hl) fun i w hw => h (i + 1) w hw)
  | [], _ :: _, hl, _ => by simp at hl
  | _ :: _, [], hl, _ => by simp at hl
theorem call_list_txt (hc : X.calm = true) : CallR X (.type "list") (fun xs H Q => ∃ z, xs = [.str z] ∧ z.length ≤ sizeLine ∧ ∀ p, H p = none → Q (.ref p) (upd H p (.lst (z.cps.toList.map fun c => V.str ⟨#[c]⟩)))) := by
  intro pins s σ H xs us Q I r ⟨z, e, hz, q⟩
  subst e
  obtain ⟨u, rfl, t, rfl⟩ := vals1 r
  refine PySem.call_list_str (I.ok.hd hc) z t (hn := hz) fun h' tk acc' c' hk hS' hacc => ?_
  have hl : (z.cps.toList.map fun c => V.str ⟨#[c]⟩).length = z.length := by simp [Str.length]
  refine ⟨.ref s.heap.objs.size, _, I.laid (t' := tk) (o := .lst (z.cps.toList.map fun c => V.str ⟨#[c]⟩)) hk (Nat.le_refl _) ⟨by rw [hl]; exact hz, acc'.toList, c', ?_, by simpa using hS'⟩, rfl, q _ I.fresh⟩
  refine vals_of_get ?_ ?_
  · rw [hl]
    rw [Array.length_toList]
    exact hacc.1.symm
  · intro i v hv
    obtain ⟨k, u, hk2, rfl⟩ := hacc.2 i v (by rw [← Array.getElem?_toList]; exact hv)
    refine ⟨.str ⟨#[k]⟩, ?_, u, rfl⟩
    rw [List.getElem?_map, Array.getElem?_toList, hk2]
    rfl
theorem CallR.or {f : Value} {r r' : List V → Hp → VK → Prop} (h : CallR X f r) (h' : CallR X f r') : CallR X f (fun xs H Q => r xs H Q ∨ r' xs H Q) := by
  intro pins s σ H xs us Q I r q
  rcases q with q | q
  · exact h pins s σ H xs us Q I r q
  · exact h' pins s σ H xs us Q I r q
theorem pe_listB {mt : Bool} (B : Bi X "list") (hc : X.calm = true) (ha : PE X a (tE X W c f)) (hs : starEach [a] X.env = [(false, eval a X.env)]) : PE X (.Call (.Name "list" p) [a] [] pos) (tE X W c (sList mt f)) := by
  refine wkE (pe_callTy (CallR.or call_list_of (call_list_txt hc)) B.gl B.mg (by decide +kernel) (pa_cons ha pa_nil hs) (he := hs)) fun σ H Q h => ?_
  refine tE1 (fun H Q φ F M d v rel r q => ?_) H Q h
  cases hv : view M d with
  | lst ds =>
    rw [hv] at q
    obtain ⟨p, xs, rfl, s, rs⟩ := view_lst rel r hv
    exact .inl ⟨p, xs, rfl, .inl (.inl s), fun l hl => Post.alloc rel q l xs hl rs⟩
  | tup ds =>
    rw [hv] at q
    obtain ⟨p, xs, rfl, s, rs⟩ := view_tup rel r hv
    exact .inl ⟨p, xs, rfl, .inr s, fun l hl => Post.alloc rel q l xs hl rs⟩
  | str z =>
    rw [hv] at q
    rw [view_str r hv]
    obtain ⟨hl, q⟩ := Post.chk q
    exact .inr ⟨z, rfl, by rw [sizeLine_eq]; exact of_decide_eq_true hl, fun l hp => Post.alloc rel q l _ hp (signs_rp _)⟩
  | _ => rw [hv] at q; exact q.elim
theorem pe_tupleB (B : Bi X "tuple") (ha : PE X a (tE X W c f)) (hs : starEach [a] X.env = [(false, eval a X.env)]) : PE X (.Call (.Name "tuple" p) [a] [] pos) (tE X W c (sTuple f)) := by
  refine wkE (pe_callTy call_tuple_of B.gl B.mg (by decide +kernel) (pa_cons ha pa_nil hs) (he := hs)) fun σ H Q h => ?_
  refine tE1 (fun H Q φ F M d v rel r q => ?_) H Q h
  cases hv : view M d with
  | lst ds =>
    rw [hv] at q
    obtain ⟨p, xs, rfl, s, rs⟩ := view_lst rel r hv
    exact ⟨p, xs, rfl, .inl ⟨.inl s, fun l hl => Res.tup rel (Post.alloc (mt := false) rel q) rs hl⟩⟩
  | tup ds =>
    rw [hv] at q
    obtain ⟨p, xs, e, s, rs⟩ := view_tup rel r hv
    subst e
    cases view_tupE hv
    exact ⟨p, xs, rfl, .inr ⟨s, Post.here rel r q⟩⟩
  | _ => rw [hv] at q; exact q.elim
end
end MP

set_option Elab.async false
set_option linter.all false
set_option maxRecDepth 100000
/-! MiniPy 8: slices, texts' methods, what is walked. -/
namespace MP
open PySem PySem.Spec PyProof.Rows L2
open Evl (Ex)
variable [TL : TabL]
section
variable {X : Cx} {W : WX} {c : Cf} {σ : L2.St} {φ : List Addr} {F H : Hp} {M : Mh} {K : PySem.W.Frag} {ρ : Rho} {f g : ES} {r : AS} {a b e : Expr} {es : List Expr} {pos p apos : Pos}
/-! ### slices -/
abbrev tO (X : Cx) (W : WX) (c : Cf) (f : Fn (Option Int)) : TO := tG X (fun _ _ (a b : Option Int) => a = b) W c f
theorem wkO {e : Option Expr} {t t' : TO} (h : PO X e t') (w : ∀ σ H Q, t σ H Q → t' σ H Q) : PO X e t := ⟨fun pins s σ H Q I q => h.run pins s σ H Q I (w σ H Q q)⟩
theorem po_n : PO X none (tO X W c (part none)) := wkO po_none fun σ H Q ⟨φ, F, ρ, M, rel, rr, q⟩ => Post.here rel rfl q
theorem po_s (ha : PE X a (tE X W c f)) : PO X (some a) (tO X W c (part (some f))) := by
  refine wkO (po_some ha) fun σ H Q ⟨φ, F, ρ, M, rel, rr, q⟩ => ?_
  refine seq rel rr q fun x H1 φ1 F1 M1 d n1 q1 => ?_
  cases d with
  | int i =>
    cases n1.rp
    exact ⟨i, rfl, Post.here n1.rel rfl q1⟩
  | _ => exact q1.elim
def rSl (X : Cx) : V → Option Int → Option Int → Hp → VK → Prop := fun x lo hi H Q => (rSlL X.K x lo hi H Q ∨ rSlA X.K x lo hi H Q) ∨ rSlS x lo hi H Q
theorem cut_rp {ds : List D} {xs : List V} (r : Rps K φ F ds xs) (lo hi : Option Int) : Rps K φ F (cut ds lo hi) (cutV xs lo hi) := by
  unfold cut cutV
  rw [r.length]
  exact (r.drop _).take _
theorem cut_whole {ds : List D} {lo hi : Option Int} (h : HT.sIx ds.length 0 lo = 0 ∧ HT.sIx ds.length ds.length hi = ds.length) : cut ds lo hi = ds := by
  unfold cut
  rw [h.1, h.2]
  simp
theorem pe_sl {lo hi : Option Expr} {l u : Option ES} {p2 : Pos} {mt : Bool} (ha : PE X a (tE X W c f)) (hl : PO X lo (tO X W c (part l))) (hu : PO X hi (tO X W c (part u))) : PE X (.Subscript a (.Slice lo hi none p2) pos) (tE X W c (sSlc mt f l u)) := by
  refine wkE (pe_slice (r := rSl X) (SlR.or (SlR.or sl_list sl_tupA) sl_str) ha hl hu) fun σ H Q ⟨φ, F, ρ, M, rel, rr, q⟩ => ?_
  refine seq rel rr q fun x H1 φ1 F1 M1 d n1 q1 => ?_
  refine seq n1.rel n1.rr q1 fun o1 H2 φ2 F2 M2 o1' n2 q2 => ?_
  refine seq n2.rel n2.rr q2 fun o2 H3 φ3 F3 M3 o2' n3 q3 => ?_
  cases (show o1' = o1 from n2.rp)
  cases (show o2' = o2 from n3.rp)
  obtain ⟨z, ez, q4⟩ := Post.opt q3
  have rd : Rp X.K φ3 F3 d x := (n1.rp.mono n2.p n2.e).mono n3.p n3.e
  have res := Post.alloc n3.rel q4
  cases hv : view M3 d with
  | lst ds =>
    rw [hv] at ez
    cases ez
    obtain ⟨p, xs, rfl, s, rs⟩ := view_lst n3.rel rd hv
    exact .inl (.inl ⟨p, xs, rfl, .inl s, fun l hl => res l _ hl (cut_rp rs _ _)⟩)
  | tup ds =>
    rw [hv] at ez
    cases ez
    obtain ⟨p, xs, ex, s, rs⟩ := view_tup n3.rel rd hv
    subst ex
    cases view_tupE hv
    refine .inl (.inr ⟨p, xs, rfl, s, fun h => ?_, fun h l hl => Res.tup n3.rel res (cut_rp rs _ _) hl⟩)
    rw [← rs.length] at h
    rw [cut_whole h] at res
    exact Res.flat n3.rel res rd (fun _ z => nomatch z)
  | str w =>
    rw [hv] at ez
    rw [view_str rd hv]
    have ez : (if w.length ≤ line then some (D.str (cutS w o1 o2)) else none) = some z := ez
    by_cases hl : w.length ≤ line
    · rw [if_pos hl] at ez
      cases ez
      exact .inr ⟨w, rfl, by rw [sizeLine_eq]; exact hl, Res.flat n3.rel res rfl (fun _ z => nomatch z)⟩
    · rw [if_neg hl] at ez
      cases ez
  | _ => rw [hv] at ez; cases ez
/-! ### methods of texts -/
/-- e is no place where attributes are looked up otherwise -/
def baseOk : Expr → Bool
  | .Name .. | .Constant .. | .Subscript .. | .Attribute .. => true
  | _ => false
theorem base_ok {o : Expr} {n : Str} {env : Env} {w : Sem Value} (h : baseOk o = true) : attributeBase o n env w = w := by
  cases o <;> first | (cases h; done) | rfl
theorem strs_rp : ∀ (l : List Str), Rps K φ F (l.map D.str) (l.map V.str)
  | [] => rfl
  | c :: l => ⟨_, _, rfl, rfl, strs_rp l⟩
theorem pe_spl (ha : PE X a (tE X W c f)) (hb : PE X b (tE X W c g)) (hs : starEach [b] X.env = [(false, eval b X.env)]) (h1 : baseOk a = true) (h2 : (apos.endLine == pos.line) = true) : PE X (.Call (.Attribute a "split" apos) [b] [] pos) (tE X W c (sSplit f g)) := by
  refine wkE (pe_split ha hb hs (base_ok h1) h2) fun σ H Q ⟨φ, F, ρ, M, rel, rr, q⟩ => ?_
  refine seq rel rr q fun x H1 φ1 F1 M1 d n1 q1 => ?_
  cases d with
  | str s =>
    have ex : x = V.str s := n1.rp
    refine ⟨⟨s, ex⟩, ?_⟩
    refine seq n1.rel n1.rr q1 fun y H2 φ2 F2 M2 e n2 q2 => ?_
    cases e with
    | str t =>
      obtain ⟨hc, q3⟩ := Post.chk q2
      have hc := of_decide_eq_true hc
      refine ⟨s, t, ex, by rw [show y = V.str t from n2.rp], hc.1, by rw [sizeLine_eq]; exact hc.2, fun p hp => ?_⟩
      exact Post.alloc (mt := false) n2.rel q3 p _ hp (strs_rp _)
    | _ => exact q2.elim
  | _ => exact q1.elim
theorem pe_jn (ha : PE X a (tE X W c f)) (hb : PE X b (tE X W c g)) (hs : starEach [b] X.env = [(false, eval b X.env)]) (h1 : baseOk a = true) (h2 : (apos.endLine == pos.line) = true) : PE X (.Call (.Attribute a "join" apos) [b] [] pos) (tE X W c (sJoin f g)) := by
  refine wkE (pe_join ha hb hs (base_ok h1) h2) fun σ H Q ⟨φ, F, ρ, M, rel, rr, q⟩ => ?_
  refine seq rel rr q fun x H1 φ1 F1 M1 d n1 q1 => ?_
  cases d with
  | str s =>
    have ex : x = V.str s := n1.rp
    refine ⟨⟨s, ex⟩, ?_⟩
    refine seq n1.rel n1.rr q1 fun y H2 φ2 F2 M2 e n2 q2 => ?_
    cases hv : view M2 e with
    | lst ds =>
      rw [hv] at q2
      obtain ⟨ys, e1, q3⟩ := Post.opt q2
      obtain ⟨hc, q4⟩ := Post.chk q3
      obtain ⟨p, xs, rfl, s', rs⟩ := view_lst n2.rel n2.rp hv
      cases allStr_rp rs e1
      exact ⟨s, p, ys, ex, rfl, .inl (.inl s'), of_decide_eq_true hc, Post.here n2.rel rfl q4⟩
    | _ => rw [hv] at q2; exact q2.elim
  | _ => exact q1.elim
/-! ### what is walked -/
/-- J walks S -/
structure Wk (X : Cx) (φ : List Addr) (F : Hp) (S : Src) (J : It) : Prop where
  go : ∀ φ' F' H M i d, φ <+: φ' → Ex F F' → Rel X.K φ' F' H M → S.item i M = some d → J.go i H ∧ ∀ x H2, J.yld i H x H2 → ∃ F2, Fwd φ' F' H φ' F2 H2 ∧ Rel X.K φ' F2 H2 M ∧ Rp X.K φ' F2 d x
  stop : ∀ φ' F' H M i, φ <+: φ' → Ex F F' → Rel X.K φ' F' H M → S.ends i M = true → J.stop i H
def tI (X : Cx) (W : WX) (c : Cf) (f : IS) : TI := fun σ H R => tG X (fun φ F (S : Src) (J : It) => Wk X φ F S J) W c f σ H R
theorem ends_fix {ds : List D} {i : Nat} {M : Mh} (h : (Src.fix ds).ends i M = true) : ds.length ≤ i := of_decide_eq_true h
theorem wk_list {p : Addr} {xs : List V} {ds : List D} (s : SqL X.K F p xs) (r : Rps X.K φ F ds xs) : Wk X φ F (.fix ds) (Itl X.K p) where
  go := fun φ' F' H M i d pp e rel h => by
    obtain ⟨v, h1, h2⟩ := r.get (show ds[i]? = some d from h)
    have s' : SqL X.K H p xs := Evl.ex_l (e.trans rel.ex) s
    refine ⟨⟨xs, v, s', h1⟩, fun x H2 ⟨e2, y⟩ => ?_⟩
    subst e2
    have := y xs s'
    rw [h1] at this
    cases this
    exact ⟨F', Fwd.refl _ _ _, rel, h2.mono pp e⟩
  stop := fun φ' F' H M i pp e rel h => ⟨xs, Evl.ex_l (e.trans rel.ex) s, by rw [← r.length]; exact ends_fix h⟩
theorem wk_tup {p : Addr} {xs : List V} {ds : List D} (s : SqT X.K F p xs) (r : Rps X.K φ F ds xs) : Wk X φ F (.fix ds) (Itt X.K p) where
  go := fun φ' F' H M i d pp e rel h => by
    obtain ⟨v, h1, h2⟩ := r.get (show ds[i]? = some d from h)
    have s' : SqT X.K H p xs := Evl.ex_t (e.trans rel.ex) s
    refine ⟨⟨xs, v, s', h1⟩, fun x H2 ⟨e2, y⟩ => ?_⟩
    subst e2
    have := y xs s'
    rw [h1] at this
    cases this
    exact ⟨F', Fwd.refl _ _ _, rel, h2.mono pp e⟩
  stop := fun φ' F' H M i pp e rel h => ⟨xs, Evl.ex_t (e.trans rel.ex) s, by rw [← r.length]; exact ends_fix h⟩
theorem wk_str {z : Str} : Wk X φ F (.fix (signs z)) (Its z) where
  go := fun φ' F' H M i d pp e rel h => by
    have h : (z.cps.toList.map fun c => D.str ⟨#[c]⟩)[i]? = some d := h
    rw [List.getElem?_map] at h
    have hi : i < z.cps.size := by
      cases q : z.cps.toList[i]? with
      | none => rw [q] at h; cases h
      | some _ => simpa using (List.getElem?_eq_some_iff.mp q).1
    refine ⟨hi, fun x H2 ⟨e2, k, hk, ex⟩ => ?_⟩
    subst e2 ex
    rw [Array.getElem?_toList, hk] at h
    cases h
    exact ⟨F', Fwd.refl _ _ _, rel, rfl⟩
  stop := fun φ' F' H M i pp e rel h => by
    have := ends_fix h
    show z.cps.size ≤ i
    simpa [signs] using this
theorem wk_range {n : Int} : Wk X φ F (.fix ((List.range n.toNat).map fun (i : Nat) => D.int (i : Int))) (Itr 0 n.toNat) where
  go := fun φ' F' H M i d pp e rel h => by
    have h : ((List.range n.toNat).map fun (i : Nat) => D.int (i : Int))[i]? = some d := h
    rw [List.getElem?_map] at h
    cases q : (List.range n.toNat)[i]? with
    | none => rw [q] at h; cases h
    | some j =>
      rw [q] at h
      cases h
      obtain ⟨h1, h2⟩ := List.getElem?_eq_some_iff.mp q
      rw [List.length_range] at h1
      rw [List.getElem_range] at h2
      subst h2
      refine ⟨h1, fun x H2 ⟨e2, ex⟩ => ?_⟩
      subst e2 ex
      exact ⟨F', Fwd.refl _ _ _, rel, by show V.int (0 + (i : Int)) = V.int i; rw [Int.zero_add]⟩
  stop := fun φ' F' H M i pp e rel h => by
    have := ends_fix h
    show n.toNat ≤ i
    simpa using this
theorem live_at {φ' : List Addr} {F' : Hp} {n : Nat} {p : Addr} {xs : List D} (rel : Rel X.K φ' F' H M) (hp : φ'[n]? = some p) (h : M[n]? = some (.lst xs)) : ∃ vs, H p = some (.lst vs) ∧ Rps X.K φ' F' xs vs := rel.obj n _ p h hp
theorem wk_live {n : Nat} {p : Addr} (hp : φ[n]? = some p) : Wk X φ F (.live n) (Itl X.K p) where
  go := fun φ' F' H M i d pp e rel h => by
    have h : (match M[n]? with | some (.lst xs) => xs[i]? | _ => none) = some d := h
    cases hm : M[n]? with
    | none => rw [hm] at h; cases h
    | some o =>
      rw [hm] at h
      cases o with
      | dead => cases h
      | lst xs =>
        obtain ⟨vs, h1, r⟩ := live_at rel (pre_get pp hp) hm
        obtain ⟨v, h2, h3⟩ := r.get (show xs[i]? = some d from h)
        refine ⟨⟨vs, v, .of h1, h2⟩, fun x H2 ⟨e2, y⟩ => ?_⟩
        subst e2
        have := y vs (.of h1)
        rw [h2] at this
        cases this
        exact ⟨F', Fwd.refl _ _ _, rel, h3⟩
  stop := fun φ' F' H M i pp e rel h => by
    have h : (match (match M[n]? with | some (.lst xs) => some xs.length | _ => none) with | some n => decide (n ≤ i) | none => false) = true := h
    cases hm : M[n]? with
    | none => rw [hm] at h; cases h
    | some o =>
      rw [hm] at h
      cases o with
      | dead => cases h
      | lst xs =>
        obtain ⟨vs, h1, r⟩ := live_at rel (pre_get pp hp) hm
        exact ⟨vs, .of h1, by rw [← r.length]; exact of_decide_eq_true h⟩
/-- a value walked, whatever it is -/
theorem pi_any {tg l : Expr} {tl : TE} (hl : PE X l tl) : PI X tg l (fun σ H R => tl σ H fun x H1 => (∃ a xs, x = .ref a ∧ SqL X.K H1 a xs ∧ R (Itl X.K a) H1) ∨ (∃ a xs, x = .ref a ∧ SqT X.K H1 a xs ∧ R (Itt X.K a) H1) ∨ ∃ z, x = .str z ∧ R (Its z) H1) := by
  refine ⟨fun pins s σ H R I h => ?_⟩
  refine thn (hl.run pins s σ H _ I h) fun v s1 ⟨x, H1, I1, r1, q1⟩ => ?_
  rcases q1 with ⟨a, xs, e, hq, q⟩ | ⟨a, xs, e, hq, q⟩ | ⟨z, e, q⟩
  · subst e
    cases r1
    obtain ⟨its, rv, p, hz⟩ := I1.list hq
    refine wpAny_pyIter_list p.isList ?_
    refine ⟨s1.heap.objs.size, [s1.heap.objs.size], _, _, H1, rfl, I1.kept (t' := s1.toks) fun b o e => Heap.get?_push_of_some _ e, turn_list a _, ⟨_, Heap.get?_push_size _ rfl, rfl, rfl⟩, fun b hb => ?_, q⟩
    have e : b = s1.heap.objs.size := by simpa using hb
    subst e
    exact I1.fpOk (Nat.le_refl _) (I1.hok.fresh (Nat.le_refl _))
  · subst e
    cases r1
    obtain ⟨its, rv, p, hz⟩ := I1.tuple hq
    refine wpAny_pyIter_tuple (show s1.heap.IsTuple a its.toArray from p) ?_
    refine ⟨s1.heap.objs.size, [s1.heap.objs.size], _, _, H1, rfl, I1.kept (t' := s1.toks) fun b o e => Heap.get?_push_of_some _ e, turn_tuple a _, ⟨_, Heap.get?_push_size _ rfl, rfl, rfl⟩, fun b hb => ?_, q⟩
    have e : b = s1.heap.objs.size := by simpa using hb
    subst e
    exact I1.fpOk (Nat.le_refl _) (I1.hok.fresh (Nat.le_refl _))
  · subst e
    obtain ⟨t, rfl⟩ := r1
    cases ha : z.cps.all (· < 128)
    · exact wpAny_pyIter_wide ha (pi_one (tk := s1.toks) I1 _ (turn_str _ z t "str_iterator" (.inr rfl)) ⟨_, Heap.get?_push_size _ rfl, rfl, rfl⟩ q)
    · exact wpAny_pyIter_ascii ha (pi_one (tk := s1.toks) I1 _ (turn_str _ z t "str_ascii_iterator" (.inl rfl)) ⟨_, Heap.get?_push_size _ rfl, rfl, rfl⟩ q)
theorem wkI {tg e : Expr} {t t' : TI} (h : PI X tg e t') (w : ∀ σ H R, t σ H R → t' σ H R) : PI X tg e t := ⟨fun pins s σ H Q I q => h.run pins s σ H Q I (w σ H Q q)⟩
theorem pi_v {tg : Expr} (ha : PE X a (tE X W c f)) : PI X tg a (tI X W c (iVal f)) := by
  refine wkI (pi_any ha) fun σ H Q ⟨φ, F, ρ, M, rel, rr, q⟩ => ?_
  refine seq rel rr q fun x H1 φ1 F1 M1 d n1 q1 => ?_
  cases d with
  | lst ds =>
    obtain ⟨p, xs, rfl, s, rs⟩ := n1.rp
    exact .inl ⟨p, xs, rfl, .inl (Evl.ex_rd n1.rel.ex s), Post.here n1.rel (wk_list (.inl s) rs) q1⟩
  | kls ds =>
    obtain ⟨p, xs, rfl, s, rs⟩ := n1.rp
    exact .inl ⟨p, xs, rfl, Evl.ex_l n1.rel.ex s, Post.here n1.rel (wk_list s rs) q1⟩
  | tup ds =>
    obtain ⟨p, xs, rfl, s, rs⟩ := n1.rp
    exact .inr (.inl ⟨p, xs, rfl, Evl.ex_t n1.rel.ex s, Post.here n1.rel (wk_tup s rs) q1⟩)
  | str z =>
    obtain ⟨hl, q2⟩ := Post.chk q1
    cases n1.rp
    exact .inr (.inr ⟨z, rfl, Post.here n1.rel wk_str q2⟩)
  | h n =>
    obtain ⟨p, rfl, hp⟩ := n1.rp
    have q1 : Post X (fun φ F (S : Src) (J : It) => Wk X φ F S J) W σ φ1 F1 H1 (match M1[n]? with | some (.lst _) => (R.ok (Src.live n) M1 : R Src) | _ => R.fail) Q := q1
    cases ho : M1[n]? with
    | none => rw [ho] at q1; exact q1.elim
    | some o =>
      rw [ho] at q1
      cases o with
      | lst xs =>
        obtain ⟨vs, h1, _⟩ := live_at n1.rel hp ho
        exact .inl ⟨p, vs, rfl, .of h1, Post.here n1.rel (wk_live hp) q1⟩
      | dead => exact q1.elim
  | _ => exact q1.elim
theorem pi_r {tg : Expr} (B : Bi X "range") (ha : PE X a (tE X W c f)) (hs : starEach [a] X.env = [(false, eval a X.env)]) : PI X tg (.Call (.Name "range" p) [a] [] pos) (tI X W c (iRange f)) := by
  refine wkI (pi_range1 B.gl B.mg (pa_cons ha pa_nil hs) hs) fun σ H Q ⟨φ, F, ρ, M, rel, rr, q⟩ => ?_
  refine seq rel rr q fun x H1 φ1 F1 M1 d n1 q1 => ?_
  cases d with
  | int n =>
    obtain ⟨hl, q2⟩ := Post.chk q1
    have hl := of_decide_eq_true hl
    cases n1.rp
    exact ⟨n, rfl, hl.2, by omega, Post.here n1.rel wk_range q2⟩
  | _ => exact q1.elim
end
end MP

set_option Elab.async false
set_option linter.all false
set_option maxRecDepth 100000
/-! MiniPy 9: comprehensions, statements. -/
namespace MP
open PySem PySem.Spec PyProof.Rows L2
open Evl (Ex)
variable [TL : TabL]
section
variable {X : Cx} {W : WX} {c : Cf} {σ : L2.St} {φ : List Addr} {F H : Hp} {M : Mh} {K : PySem.W.Frag} {ρ : Rho} {f g : ES} {r : AS} {a b e : Expr} {es : List Expr} {pos p apos : Pos}
/-! ### targets -/
theorem RR.set {i : Nat} {d : D} {v : V} (h : RR K φ F ρ σ) (r : Rp K φ F d v) : RR K φ F (ρ.set i (some d)) (σ.set i (some v)) := by
  refine ⟨by simp [h.1], fun j e q => ?_⟩
  by_cases hj : j = i
  · subst hj
    have hl : j < ρ.length := by
      have := (List.getElem?_eq_some_iff.mp q).1
      simpa using this
    rw [List.getElem?_set_self hl] at q
    cases q
    exact ⟨v, by rw [List.getElem?_set_self (by rw [← h.1]; exact hl)], r⟩
  · rw [List.getElem?_set_ne (Ne.symm hj)] at q
    obtain ⟨u, h1, h2⟩ := h.2 j e q
    exact ⟨u, by rw [List.getElem?_set_ne (Ne.symm hj)]; exact h1, h2⟩
theorem RR.unset {i : Nat} (h : RR K φ F ρ σ) : RR K φ F (ρ.set i none) (σ.set i none) := by
  refine ⟨by simp [h.1], fun j e q => ?_⟩
  by_cases hj : j = i
  · subst hj
    have hl : j < ρ.length := by
      have := (List.getElem?_eq_some_iff.mp q).1
      simpa using this
    rw [List.getElem?_set_self hl] at q
    cases q
  · rw [List.getElem?_set_ne (Ne.symm hj)] at q
    obtain ⟨u, h1, h2⟩ := h.2 j e q
    exact ⟨u, by rw [List.getElem?_set_ne (Ne.symm hj)]; exact h1, h2⟩
theorem RR.wipe (h : RR K φ F ρ σ) : ∀ vs : List Nat, RR K φ F (wipeR ρ vs) (wipe σ vs)
  | [] => h
  | v :: vs => (RR.wipe h vs).unset
/-- the reading of a target's store: the slots in ss alone may change -/
def Tgt (X : Cx) (gt : TG) (ss : List Nat) (t : Tg) : Prop := ∀ (φ : List Addr) (F H : Hp) (M : Mh) (d : D) (v : V) (ρ ρ' : Rho) (σ : L2.St) (Q : L2.St → Hp → Prop), Rel X.K φ F H M → RR X.K φ F ρ σ → Rp X.K φ F d v → t.bind d ρ = some ρ' →
  (∀ σ', RR X.K φ F ρ' σ' → (∀ j, j ∉ ss → σ'[j]? = σ[j]?) → σ'.length = σ.length → Q σ' H) → gt v σ H Q
def Tgts (X : Cx) (gt : TGs) (ss : List Nat) (t : List Tg) : Prop := ∀ (φ : List Addr) (F H : Hp) (M : Mh) (d : List D) (v : List V) (ρ ρ' : Rho) (σ : L2.St) (Q : L2.St → Hp → Prop), Rel X.K φ F H M → RR X.K φ F ρ σ → Rps X.K φ F d v → Tg.binds t d ρ = some ρ' →
  (∀ σ', RR X.K φ F ρ' σ' → (∀ j, j ∉ ss → σ'[j]? = σ[j]?) → σ'.length = σ.length → Q σ' H) → gt v σ H Q
theorem tg_name {i : Nat} : Tgt X (gName i) [i] (.nm i) := fun φ F H M d v ρ ρ' σ Q rel rr r e q => by
  have e : some (ρ.set i (some d)) = some ρ' := by simpa [Tg.bind] using e
  cases e
  exact q _ (rr.set r) (fun j hj => by rw [List.getElem?_set_ne (fun z => hj (by simp [z]))]) (by simp)
theorem tgs_nil : Tgts X gNil [] [] := fun φ F H M d v ρ ρ' σ Q rel rr r e q => by
  cases d with
  | nil =>
    cases (show v = [] from r)
    have e : some ρ = some ρ' := by simpa [Tg.binds] using e
    cases e
    exact ⟨rfl, q σ rr (fun _ _ => rfl) rfl⟩
  | cons _ _ => simp [Tg.binds] at e
theorem tgs_cons {t : Tg} {ts : List Tg} {g1 : TG} {g2 : TGs} {s1 s2 : List Nat} (h1 : Tgt X g1 s1 t) (h2 : Tgts X g2 s2 ts) : Tgts X (gCons g1 g2) (s1 ++ s2) (t :: ts) := fun φ F H M d v ρ ρ' σ Q rel rr r e q => by
  cases d with
  | nil => simp [Tg.binds] at e
  | cons d ds =>
    obtain ⟨u, us, rfl, r1, rs⟩ := r
    have e : ((t.bind d ρ).bind fun ρ' => Tg.binds ts ds ρ') = some ρ' := by simpa only [Tg.binds] using e
    cases e1 : t.bind d ρ with
    | none => rw [e1] at e; cases e
    | some ρ1 =>
      rw [e1] at e
      refine ⟨u, us, rfl, h1 φ F H M d u ρ ρ1 σ _ rel rr r1 e1 fun σ1 rr1 k1 l1 => ?_⟩
      refine h2 φ F H M ds us ρ1 ρ' σ1 Q rel rr1 rs e fun σ2 rr2 k2 l2 => q σ2 rr2 (fun j hj => ?_) (l2.trans l1)
      rw [k2 j (fun z => hj (List.mem_append_right _ z)), k1 j (fun z => hj (List.mem_append_left _ z))]
theorem tg_tup {ts : List Tg} {gs : TGs} {ss : List Nat} (h : Tgts X gs ss ts) : Tgt X (gTup X.K ts.length gs) ss (.tup ts) := fun φ F H M d v ρ ρ' σ Q rel rr r e q => by
  cases d with
  | tup ds =>
    have e : (if ds.length = ts.length then Tg.binds ts ds ρ else none) = some ρ' := by simpa [Tg.bind] using e
    by_cases hl : ds.length = ts.length
    · rw [if_pos hl] at e
      obtain ⟨a, xs, rfl, s, rs⟩ := r
      exact ⟨a, xs, rfl, Evl.ex_t rel.ex s, by rw [← rs.length, hl], h φ F H M ds xs ρ ρ' σ Q rel rr rs e q⟩
    · rw [if_neg hl] at e
      cases e
  | _ => simp [Tg.bind] at e
/-! ### comprehensions -/
theorem lcLoop_len {f : D → Mh → R (Option D)} {S : Src} : ∀ {k i : Nat} {M M' : Mh} {ys : List D}, lcLoop f S k i M = .ok ys M' → ys.length ≤ k
  | 0, i, M, M', ys, h => by
    have h : chk (S.ends i M) (R.ok [] M) = .ok ys M' := h
    unfold chk at h
    split at h
    · cases h; exact Nat.le_refl _
    · cases h
  | k + 1, i, M, M', ys, h => by
    have h : (opt (S.item i M) fun d => (f d M).bind fun o M1 => (lcLoop f S k (i + 1) M1).bind fun r M2 => R.ok (keepO o r) M2) = .ok ys M' := h
    cases e1 : S.item i M with
    | none => rw [e1] at h; cases h
    | some d =>
      rw [e1] at h
      have h : ((f d M).bind fun o M1 => (lcLoop f S k (i + 1) M1).bind fun r M2 => R.ok (keepO o r) M2) = .ok ys M' := h
      cases e2 : f d M with
      | fail => rw [e2] at h; cases h
      | exc x ds M2 => rw [e2] at h; cases h
      | ok o M1 =>
        rw [e2] at h
        have h : ((lcLoop f S k (i + 1) M1).bind fun r M2 => R.ok (keepO o r) M2) = .ok ys M' := h
        cases e3 : lcLoop f S k (i + 1) M1 with
        | fail => rw [e3] at h; cases h
        | exc x ds M2 => rw [e3] at h; cases h
        | ok r M2 =>
          rw [e3] at h
          have ih := lcLoop_len e3
          have h : R.ok (keepO o r) M2 = R.ok ys M' := h
          cases o with
          | none => cases h; show r.length ≤ k + 1; omega
          | some x => cases h; show r.length + 1 ≤ k + 1; omega
end
end MP

set_option Elab.async false
set_option linter.all false
set_option maxRecDepth 100000
/-! MiniPy 10: comprehensions. -/
namespace MP
open PySem PySem.Spec PyProof.Rows L2
open Evl (Ex)
variable [TL : TabL]
section
variable {K : PySem.W.Frag} {φ φ' : List Addr} {F F' H H' : Hp} {M : Mh}
/-- an object that is neither known nor a handle changes, comes -/
theorem Rel.side (rel : Rel K φ F H M) {p : Addr} (o : HO) (h1 : F p = none) (h2 : p ∉ φ) (h3 : H p = none ∨ ∃ o, H p = some o ∧ Pln p o) : Rel K φ F (upd H p o) M where
  tab := tabs_upd rel.tab h3 o
  ntb := rel.ntb
  len := rel.len
  ex := fun a u e => by
    have : a ≠ p := fun z => by rw [z, h1] at e; cases e
    rw [upd_ne this]
    exact rel.ex a u e
  apart := rel.apart
  nd := rel.nd
  obj := fun n o' a e1 e2 => by
    have na : a ≠ p := fun z => by
      subst z
      exact h2 (List.mem_of_getElem? e2)
    have := rel.obj n o' a e1 e2
    cases o' with
    | lst xs =>
      obtain ⟨ys, h3, h4⟩ := this
      exact ⟨ys, by rw [upd_ne na]; exact h3, h4⟩
    | dead =>
      obtain ⟨u, h3⟩ := this
      exact ⟨u, by rw [upd_ne na]; exact h3⟩
theorem Rel.adopt (rel : Rel K φ F H M) {p : Addr} {o : HO} (h0 : H p = some o) (h1 : F p = none) (h2 : p ∉ φ) (ho : ∀ ps, o ≠ .tbl ps := by intro _ z; cases z) : Rel K φ (upd F p o) H M where
  tab := rel.tab
  ntb := fun b ps e => by
    by_cases h : b = p
    · subst h
      rw [upd_same] at e
      exact ho ps (Option.some.inj e)
    · rw [upd_ne h] at e
      exact rel.ntb b ps e
  len := rel.len
  ex := fun a u e => by
    by_cases h : a = p
    · subst h
      rw [upd_same] at e
      cases e
      exact h0
    · rw [upd_ne h] at e
      exact rel.ex a u e
  apart := fun a ha => by
    have na : a ≠ p := fun z => by
      subst z
      exact h2 ha
    rw [upd_ne na]
    exact rel.apart a ha
  nd := rel.nd
  obj := fun n o' a e1 e2 => by
    have := rel.obj n o' a e1 e2
    cases o' with
    | lst xs =>
      obtain ⟨ys, h3, h4⟩ := this
      exact ⟨ys, h3, h4.mono (List.prefix_refl _) (Evl.Ex.new h1)⟩
    | dead => exact this
theorem Rel.adoptH (rel : Rel K φ F H M) {p : Addr} {ds : List D} {xs : List V} (h0 : H p = some (.lst xs)) (h1 : F p = none) (h2 : p ∉ φ) (r : Rps K φ F ds xs) : Rel K (φ ++ [p]) F H (M ++ [.lst ds]) where
  tab := rel.tab
  ntb := rel.ntb
  len := by simp [rel.len]
  ex := rel.ex
  apart := fun a ha => by
    rcases List.mem_append.mp ha with h | h
    · exact rel.apart a h
    · rw [List.mem_singleton.mp h]
      exact h1
  nd := by
    refine List.nodup_append.mpr ⟨rel.nd, by simp, fun a ha b hb e => ?_⟩
    rw [List.mem_singleton.mp hb] at e
    exact h2 (e ▸ ha)
  obj := fun n o a e1 e2 => by
    have pp : φ <+: φ ++ [p] := List.prefix_append _ _
    by_cases hn : n < M.length
    · rw [List.getElem?_append_left hn] at e1
      rw [List.getElem?_append_left (by rw [rel.len]; exact hn)] at e2
      have := rel.obj n o a e1 e2
      cases o with
      | lst xs =>
        obtain ⟨ys, h3, h4⟩ := this
        exact ⟨ys, h3, h4.mono pp (Ex.refl F)⟩
      | dead => exact this
    · have hn' : n = M.length := by
        have := (List.getElem?_eq_some_iff.mp e1).1
        simp at this
        omega
      subst hn'
      rw [List.getElem?_append_right (Nat.le_refl _)] at e1
      rw [List.getElem?_append_right (by rw [rel.len]; exact Nat.le_refl _), rel.len] at e2
      simp at e1 e2
      subst e1 e2
      exact ⟨xs, h0, r.mono pp (Ex.refl F)⟩
theorem Fwd.side (w : Fwd φ F H φ' F' H') {p : Addr} (hp : H p = none) (o : HO) : Fwd φ F H φ' F' (upd H' p o) where
  pre := w.pre
  ex := w.ex
  kp := fun b u h ht n => by rw [upd_ne (ne_of_none h hp)]; exact w.kp b u h ht n
  nf := w.nf
  nh := w.nh
  dom := fun b h => by
    by_cases e : b = p
    · rw [e]; exact .of hp
    · exact w.dom b fun o q => h o (by rw [upd_ne e]; exact q)
theorem Fwd.adopt (w : Fwd φ F H φ' F' H') {p : Addr} (hp : H p = none) (o : HO) (ex : Ex F H) (hF : F' p = none) : Fwd φ F H φ' (upd F' p o) H' where
  pre := w.pre
  ex := fun a u e => by
    rw [upd_ne (fun z => by rw [z, Ex.none ex hp] at e; cases e)]
    exact w.ex a u e
  kp := w.kp
  nf := fun b u h => by
    by_cases e : b = p
    · exact .inr (.of (e ▸ hp))
    · rw [upd_ne e] at h
      exact w.nf b u h
  nh := w.nh
  dom := w.dom
theorem Fwd.adoptH (w : Fwd φ F H φ' F' H') {p : Addr} (hp : H p = none) : Fwd φ F H (φ' ++ [p]) F' H' where
  pre := w.pre.trans (List.prefix_append _ _)
  ex := w.ex
  kp := w.kp
  nf := w.nf
  nh := fun a h => (List.mem_append.mp h).elim (w.nh a) fun q => .inr (.of (by rw [List.mem_singleton.mp q]; exact hp))
  dom := w.dom
/-- what is new at p, neither known nor a handle, stays so -/
theorem Fwd.apart (w : Fwd φ F H φ' F' H') {p : Addr} {o : HO} (h0 : H p = some o) (h1 : F p = none) (h2 : p ∉ φ) (ho : ∀ ps, o ≠ .tbl ps := by intro _ z; cases z) : H' p = some o ∧ F' p = none ∧ p ∉ φ' := by
  refine ⟨w.kp p o h0 ho h2, ?_, fun z => ?_⟩
  · cases q : F' p with
    | none => rfl
    | some u =>
      rcases w.nf p u q with z | z
      · rw [h1] at z; cases z
      · obtain ⟨ps, z⟩ := z _ h0
        exact (ho ps z).elim
  · rcases w.nh p z with y | y
    · exact h2 y
    · obtain ⟨ps, y⟩ := y _ h0
      exact ho ps y
end
theorem wipe_get {σ : L2.St} {j : Nat} : ∀ {vs : List Nat}, j ∉ vs → (wipe σ vs)[j]? = σ[j]?
  | [], _ => rfl
  | v :: vs, h => by
    unfold wipe
    have hv : v ≠ j := fun z => by
      subst z
      exact h List.mem_cons_self
    rw [List.getElem?_set_ne hv]
    exact wipe_get (fun z => h (List.mem_cons_of_mem _ z))
theorem wipe_in {σ : L2.St} {j : Nat} (hl : j < σ.length) : ∀ {vs : List Nat}, j ∈ vs → (wipe σ vs)[j]? = some none
  | v :: vs, h => by
    unfold wipe
    by_cases e : v = j
    · subst e
      rw [List.getElem?_set_self (by rw [wipe_length]; exact hl)]
    · rw [List.getElem?_set_ne e]
      exact wipe_in hl ((List.mem_cons.mp h).resolve_left (Ne.symm e))
theorem wipe_same {σ σ' : L2.St} {vs ss : List Nat} (hs : ∀ j ∈ ss, j ∈ vs) (h : ∀ j, j ∉ ss → σ'[j]? = (wipe σ vs)[j]?) (hl : σ'.length = (wipe σ vs).length) : wipe σ' vs = wipe σ vs := by
  rw [wipe_length] at hl
  apply List.ext_getElem?
  intro j
  by_cases hj : j ∈ vs
  · by_cases hb : j < σ.length
    · rw [wipe_in hb hj, wipe_in (by rw [hl]; exact hb) hj]
    · rw [List.getElem?_eq_none (by rw [wipe_length]; omega), List.getElem?_eq_none (by rw [wipe_length]; omega)]
  · rw [wipe_get hj, h j (fun z => hj (hs j z))]
abbrev W0 : WX := fun _ _ _ _ => False
/-- a comprehension's tests -/
theorem wkTs {X : Cx} {e : List Expr} {t t' : TT} (h : PTs X e t') (w : ∀ σ H Q, t σ H Q → t' σ H Q) : PTs X e t := ⟨fun pins s σ H Q I q => h.run pins s σ H Q I (w σ H Q q)⟩
theorem pts_n {X : Cx} {W : WX} {c : Cf} : PTs X [] (tT X W c tYes) := wkTs pts_nil fun σ H Q ⟨φ, F, ρ, M, rel, rr, q⟩ => Post.here (v := true) rel rfl q
theorem pts_1 {X : Cx} {W : WX} {c : Cf} {a : Expr} {t : TSm} (h : PT X a (tT X W c t)) : PTs X [a] (tT X W c t) := pts_one h
section
variable {X : Cx} {W : WX} {c : Cf} {σ : L2.St} {φ : List Addr} {F H : Hp} {M : Mh} {ρ : Rho}
/-- a result that is known -/
theorem ok_of_bind {α β : Type} {r : R α} {k : α → Mh → R β} {z : β} {M' : Mh} (h : r.bind k = .ok z M') : ∃ a M1, r = .ok a M1 ∧ k a M1 = .ok z M' := by
  cases r with
  | fail => cases h
  | ok a M1 => exact ⟨a, M1, rfl, h⟩
  | exc x ds M1 => cases h
theorem ok_of_opt {α β : Type} {o : Option α} {k : α → R β} {z : β} {M' : Mh} (h : opt o k = .ok z M') : ∃ a, o = some a ∧ k a = .ok z M' := by
  cases o with
  | none => cases h
  | some a => exact ⟨a, rfl, h⟩
theorem ok_of_chk {β : Type} {b : Bool} {k : R β} {z : β} {M' : Mh} (h : chk b k = .ok z M') : b = true ∧ k = .ok z M' := by
  cases b with
  | false => cases h
  | true => exact ⟨rfl, h⟩
theorem ok_of_noExc {α : Type} {r : R α} {z : α} {M' : Mh} (h : noExc r = .ok z M') : r = .ok z M' := by
  cases r <;> first | exact h | cases h
theorem Post.okOf {α β ν : Type} {rep : Rep β ν} {r : R α} {k : α → Mh → R β} {Q : ν → Hp → Prop} (hx : ∀ x ds M1, r ≠ .exc x ds M1) (h : Post X rep W σ φ F H (r.bind k) Q) : ∃ a M1, r = .ok a M1 ∧ Post X rep W σ φ F H (k a M1) Q := by
  cases r with
  | fail => exact h.elim
  | ok a M1 => exact ⟨a, M1, rfl, h⟩
  | exc x ds M1 => exact absurd rfl (hx x ds M1)
theorem lcAll_noExc {g : Tg} {vs : List Nat} {t : TSm} {e : ES} {S : Src} (x : Str) (ds : List D) (M1 : Mh) : lcAll g vs t e c ρ S M ≠ .exc x ds M1 := by
  unfold lcAll
  intro h
  cases e1 : S.size M with
  | none => rw [e1] at h; cases h
  | some n =>
    rw [e1] at h
    have h : chk (decide (n ≤ line)) (noExc (lcLoop (lcTurn g vs t e c ρ) S n 0 M)) = .exc x ds M1 := h
    unfold chk at h
    split at h
    · cases e2 : lcLoop (lcTurn g vs t e c ρ) S n 0 M <;> rw [e2] at h <;> cases h
    · cases h
theorem alloc_done {mt : Bool} {ys : List D} {φ1 φ2 : List Addr} {F1 F2 H1 H2 : Hp} {Mend : Mh} {p : Addr} {xs : List V} {Q : VK} (h : Post X (Rp X.K) W σ φ1 F1 H1 (alloc mt (.lst ys) Mend) Q) (w : Fwd φ1 F1 H1 φ2 F2 H2) (ex1 : Ex F1 H1) (hp : H1 p = none)
    (rel : Rel X.K φ2 F2 H2 Mend) (h0 : H2 p = some (.lst xs)) (h1 : F2 p = none) (h2 : p ∉ φ2) (r : Rps X.K φ2 F2 ys xs) : Q (.ref p) H2 := by
  cases mt with
  | true =>
    refine h (φ2 ++ [p]) F2 H2 (.ref p) (w.adoptH hp) (rel.adoptH h0 h1 h2 r) ⟨p, rfl, ?_⟩
    rw [← rel.len, List.getElem?_append_right (Nat.le_refl _)]
    simp
  | false => exact h φ2 (upd F2 p (.lst xs)) H2 (.ref p) (w.adopt hp _ ex1 h1) (rel.adopt h0 h1 h2) ⟨p, xs, rfl, .inl upd_same, r.mono (List.prefix_refl _) (Evl.Ex.new h1)⟩
/-- the loop of a comprehension -/
theorem lc_run {g : Tg} {gt : TG} {vs ss : List Nat} {t : TSm} {e : ES} {S : Src} {J : It} {mt : Bool} {n : Nat} {Q : VK} {ys : List D} {Mend : Mh} (hg : Tgt X gt ss g) (hss : ∀ j ∈ ss, j ∈ vs) (rel : Rel X.K φ F H M) (rr : RR X.K φ F ρ σ) (wk : Wk X φ F S J) (hn : n ≤ line)
    (hl : lcLoop (lcTurn g vs t e c ρ) S n 0 M = .ok ys Mend) (hq : Post X (Rp X.K) W σ φ F H (alloc mt (.lst ys) Mend) Q) (D : Addr) (hD : H D = none) :
    ∃ Wv : Nat → Nat → Hp → Prop, (∃ m, Wv 0 m (upd H D (.lst []))) ∧ ∀ i m H, Wv i m H →
      (J.stop i H ∧ Q (.ref D) H) ∨ (J.go i H ∧ ∃ Nx : Hp → Prop, (∀ H', Nx H' → ∃ m', m' < m ∧ Wv (i + 1) m' H') ∧ ∀ x H', J.yld i H x H' → gt x (wipe σ vs) H' fun σ2 H2 => wipe σ2 vs = wipe σ vs ∧ tT X W0 c t σ2 H2 fun b H3 =>
        if b = true then tE X W0 c e σ2 H3 fun y H4 => ∃ acc, H4 D = some (.lst acc) ∧ acc.length < sizeLine ∧ Nx (upd H4 D (.lst (acc ++ [y]))) else Nx H3) := by
  refine ⟨fun i m H2 => ∃ φ2 F2 M2 acc vacc ys', Fwd φ F H φ2 F2 H2 ∧ Rel X.K φ2 F2 H2 M2 ∧ H2 D = some (.lst vacc) ∧ F2 D = none ∧ D ∉ φ2 ∧ Rps X.K φ2 F2 acc vacc ∧ lcLoop (lcTurn g vs t e c ρ) S m i M2 = .ok ys' Mend ∧ acc ++ ys' = ys ∧ acc.length ≤ i ∧ i + m = n,
    ⟨n, φ, F, M, [], [], ys, (Fwd.refl _ _ _).side hD _, rel.side _ (Ex.none rel.ex hD) (fun z => by obtain ⟨o, ho⟩ := rel.has z; rw [hD] at ho; cases ho) (.inl hD), upd_same, Ex.none rel.ex hD, (fun z => by obtain ⟨o, ho⟩ := rel.has z; rw [hD] at ho; cases ho), rfl, hl, rfl, Nat.le_refl _, by omega⟩, ?_⟩
  rintro i m H2 ⟨φ2, F2, M2, acc, vacc, ys', w, rel2, hD2, hF2, hφ2, racc, hl2, hys, hlen, him⟩
  cases m with
  | zero =>
    obtain ⟨h1, h2⟩ := ok_of_chk (show chk (S.ends i M2) (R.ok [] M2) = .ok ys' Mend from hl2)
    cases h2
    rw [List.append_nil] at hys
    subst hys
    exact .inl ⟨wk.stop φ2 F2 H2 _ i w.pre w.ex rel2 h1, alloc_done hq w rel.ex hD rel2 hD2 hF2 hφ2 racc⟩
  | succ m =>
    obtain ⟨d, e1, h1⟩ := ok_of_opt (show (opt (S.item i M2) fun d => (lcTurn g vs t e c ρ d M2).bind fun o M1 => (lcLoop (lcTurn g vs t e c ρ) S m (i + 1) M1).bind fun r M2 => R.ok (keepO o r) M2) = .ok ys' Mend from hl2)
    obtain ⟨o, M3, e2, h2⟩ := ok_of_bind h1
    obtain ⟨r, M4, e3, h3⟩ := ok_of_bind h2
    have h3 : R.ok (keepO o r) M4 = .ok ys' Mend := h3
    obtain ⟨go, yl⟩ := wk.go φ2 F2 H2 M2 i d w.pre w.ex rel2 e1
    refine .inr ⟨go, fun H' => ∃ φ2 F2 acc vacc, Fwd φ F H φ2 F2 H' ∧ Rel X.K φ2 F2 H' M3 ∧ H' D = some (.lst vacc) ∧ F2 D = none ∧ D ∉ φ2 ∧ Rps X.K φ2 F2 acc vacc ∧ acc ++ r = ys ∧ acc.length ≤ i + 1, ?_, ?_⟩
    · rintro H' ⟨φ', F', acc', vacc', q1, q2, q3, q4, q5, q6, q7, q8⟩
      have : M4 = Mend := by cases h3; rfl
      subst this
      exact ⟨m, Nat.lt_succ_self m, φ', F', M3, acc', vacc', r, q1, q2, q3, q4, q5, q6, e3, q7, q8, by omega⟩
    · intro x H' hy
      obtain ⟨F3, w3, rel3, rd⟩ := yl x H' hy
      obtain ⟨hD3, hF3, hφ3⟩ := w3.apart hD2 hF2 hφ2
      have w03 := w.trans w3
      obtain ⟨ρ1, e4, h4⟩ := ok_of_opt (show (opt (g.bind d (wipeR ρ vs)) fun ρ1 => (t c ρ1 M2).bind fun k M1 => if k = true then (e c ρ1 M1).bind fun x M2 => R.ok (some x) M2 else R.ok none M1) = .ok o M3 from e2)
      obtain ⟨k, M5, e5, h5⟩ := ok_of_bind h4
      refine hg φ2 F3 H' M2 d x (wipeR ρ vs) ρ1 (wipe σ vs) _ rel3 ((rr.mono w03.pre w03.ex).wipe vs) rd e4 fun σ' rr' same hl' => ⟨wipe_same hss same hl', ?_⟩
      refine ⟨φ2, F3, ρ1, M2, rel3, rr', ?_⟩
      rw [e5]
      intro φ4 F4 H4 b w4 rel4 hb
      have hb : k = b := hb
      subst hb
      obtain ⟨hD4, hF4, hφ4⟩ := w4.apart hD3 hF3 hφ3
      cases k with
      | false =>
        have h5 : R.ok none M5 = .ok o M3 := h5
        cases h5
        refine ⟨φ4, F4, acc, vacc, w03.trans w4, rel4, hD4, hF4, hφ4, (racc.mono w3.pre w3.ex).mono w4.pre w4.ex, ?_, by omega⟩
        rw [← hys]
        cases h3
        rfl
      | true =>
        obtain ⟨y, M6, e6, h6⟩ := ok_of_bind (show ((e c ρ1 M5).bind fun x M2 => R.ok (some x) M2) = .ok o M3 from h5)
        cases (show R.ok (some y) M6 = .ok o M3 from h6)
        refine ⟨φ4, F4, ρ1, M5, rel4, rr'.mono w4.pre w4.ex, ?_⟩
        rw [e6]
        intro φ5 F5 H5 v w5 rel5 ry
        obtain ⟨hD5, hF5, hφ5⟩ := w5.apart hD4 hF4 hφ4
        have racc5 := ((racc.mono w3.pre w3.ex).mono w4.pre w4.ex).mono w5.pre w5.ex
        have hlv : vacc.length < sizeLine := by
          rw [← racc5.length, sizeLine_eq]
          have : line = 16777216 := rfl
          omega
        refine ⟨vacc, hD5, hlv, φ5, F5, acc ++ [y], vacc ++ [v], ((w03.trans w4).trans w5).side hD _, rel5.side _ hF5 hφ5 (.inr ⟨_, hD5, pln_lst⟩), upd_same, hF5, hφ5, racc5.append (.one ry), ?_, by simp; omega⟩
        rw [List.append_assoc, ← hys]
        cases h3
        rfl
theorem pe_lcm {elt tg iter : Expr} {ifs : List Expr} {scope : Scope} {own : List (Str × Nat)} {pos : Pos} {i : IS} {g : Tg} {gt : TG} {ss : List Nat} {t : TSm} {e : ES} {mt : Bool} (hc : X.calm = true) (hN : X.N.Nodup) (hi : PI X tg iter (tI X W c i)) (ok : BlkOk X.N X.env.scope scope own)
    (hgt : Tgt X gt ss g) (hss : ∀ j ∈ ss, j ∈ own.map (·.2))
    (hg : ∀ (s : Shared) (H : Hp) (C : Addr) (cl : List (Str × Addr)) (fp : List Addr), PG (X.blk s H scope (compEnvC scope cl C X.env) fp) tg gt) (ht : ∀ (s : Shared) (H : Hp) (C : Addr) (cl : List (Str × Addr)) (fp : List Addr), PTs (X.blk s H scope (compEnvC scope cl C X.env) fp) ifs (tT X W0 c t))
    (he : ∀ (s : Shared) (H : Hp) (C : Addr) (cl : List (Str × Addr)) (fp : List Addr), PE (X.blk s H scope (compEnvC scope cl C X.env) fp) elt (tE X W0 c e)) (hs : ∀ x, foldedSetIterable iter X.env x = pure x) :
    PE X (.ListComp elt [⟨tg, iter, ifs, 0⟩] scope pos) (tE X W c (sLc mt i g (own.map (·.2)) t e)) := by
  refine wkE (pe_lc hc hN hi ok hg ht he hs) fun σ H Q ⟨φ, F, ρ, M, rel, rr, q⟩ => ?_
  refine seq rel rr q fun J H1 φ1 F1 M1 S n1 q1 => ?_
  obtain ⟨ys, M2, e1, q2⟩ := Post.okOf lcAll_noExc q1
  obtain ⟨n, e2, h2⟩ := ok_of_opt (show (opt (S.size M1) fun n => chk (decide (n ≤ line)) (noExc (lcLoop (lcTurn g (own.map (·.2)) t e c ρ) S n 0 M1))) = .ok ys M2 from e1)
  obtain ⟨h3, h4⟩ := ok_of_chk h2
  exact fun D hD => lc_run hgt hss n1.rel n1.rr n1.rp (of_decide_eq_true h3) (ok_of_noExc h4) q2 D hD
end
end MP

set_option Elab.async false
set_option linter.all false
set_option maxRecDepth 100000
/-! MiniPy 11: methods that change a list; statements. -/
namespace MP
open PySem PySem.Spec PyProof.Rows L2
open Evl (Ex)
variable [TL : TabL]
section
variable {X : Cx} {W : WX} {c : Cf} {σ : L2.St} {φ : List Addr} {F H : Hp} {M : Mh} {ρ : Rho} {K : PySem.W.Frag} {f g h : ES} {a b e : Expr} {es : List Expr} {pos p apos : Pos}
theorem getL_at {n : Nat} {xs : List D} {a : Addr} (rel : Rel K φ F H M) (ha : φ[n]? = some a) (h : getL M n = some xs) : M[n]? = some (.lst xs) ∧ ∃ vs, H a = some (.lst vs) ∧ Rps K φ F xs vs := by
  unfold getL at h
  cases hm : M[n]? with
  | none => rw [hm] at h; cases h
  | some o =>
    rw [hm] at h
    cases o with
    | dead => cases h
    | lst ys =>
      cases h
      exact ⟨rfl, rel.obj n _ a hm ha⟩
def rExtR (K : PySem.W.Frag) : V → List V → Hp → VK → Prop := fun x vs H Q => ∃ l b xs zs, x = .ref l ∧ vs = [.ref b] ∧ H l = some (.lst xs) ∧ Rd H b (.lst zs) ∧ xs.length + zs.length ≤ sizeLine ∧ Q .non (upd H l (.lst (xs ++ zs)))
theorem mt_extR : MtM X "list.extend" (rExtR X.K) := by
  intro pins s σ H x vs v us Q I rx rv h
  obtain ⟨l, b, xs, zs, rfl, rfl, hH, hB, hz, q⟩ := h
  cases rx
  obtain ⟨u, rfl, ru⟩ := rv.one
  cases ru
  obtain ⟨z, its, n, r, hl, e⟩ := I.lstM hH
  obtain ⟨z2, its2, n2, r2, hl2, e2⟩ := rd_exact I hB
  have hsz : its.toArray.size + its2.toArray.size ≤ sizeLine := by rw [List.size_toArray, List.size_toArray]; omega
  have hlong : ¬ (!its.toArray.isEmpty && Builtin.List.listTooLong (its.toArray.size + its2.toArray.size)) = true := by
    rw [notLongL hsz, Bool.and_false]
    exact Bool.false_ne_true
  refine call_meets F.slot_list_extend ⟨_, e, rfl⟩ F.entry_list_extend (F.args_list_extend_2 _ _)
    (AutoSeq1.list_extend_list_list_0 l its.toArray n b its2.toArray n2 hlong (by rw [List.size_toArray]; omega) (by omega)) ⟨e, e2, ?_⟩
  refine ⟨.non, _, I.lset (its' := its ++ its2) hH e (by simp) (r.append r2) ?_, rfl, q⟩
  rw [List.length_append]
  omega
/-- what a call of a list's method asks of its place -/
structure BmOk (X : Cx) (o e : Expr) (apos cpos : Pos) : Prop where
  base : baseOk o = true
  line : (apos.endLine == cpos.line) = true
  star : starEach [e] X.env = [(false, eval e X.env)]
theorem bm_few {e : Expr} {env : Env} {cpos : Pos} (h : starEach [e] env = [(false, eval e env)]) : ((backTo cpos (starEach [e] env)).all (fun x => !x.1) && (backToKw cpos (keywordEach [] env)).all (fun x => x.1.isSome)
      && decide (([e] : List Expr).length + ([] : List Keyword).length + (if ([] : List Keyword).isEmpty then 0 else 1) < 30)) = true := by
  rw [h]
  rfl
theorem pe_app (m : BmOk X a b apos pos) (ha : PE X a (tE X W c f)) (hb : PE X b (tE X W c g)) : PE X (.Call (.Attribute a "append" apos) [b] [] pos) (tE X W c (sAppend f g)) := by
  refine wkE (pe_bm PySem.F.plainAttrs_list PySem.F.slot_list_append PySem.F.type_list_append mt_append ha (pa_cons hb pa_nil m.star) (base_ok m.base) (bm_few m.star) m.line m.star rfl) fun σ H Q ⟨φ, F, ρ, M, rel, rr, q⟩ => ?_
  refine seq rel rr q fun x H1 φ1 F1 M1 d n1 q1 => ?_
  cases d with
  | h n =>
    obtain ⟨p, ex, hp⟩ := n1.rp
    subst ex
    obtain ⟨xs0, e0, q2⟩ := Post.opt q1
    obtain ⟨_, vs0, h0, _⟩ := getL_at n1.rel hp e0
    refine ⟨.inl ⟨rfl, vs0, .of h0⟩, ?_⟩
    refine seq n1.rel n1.rr q2 fun y H2 φ2 F2 M2 e n2 q3 => ?_
    obtain ⟨xs, e1, q4⟩ := Post.opt q3
    obtain ⟨hl, q5⟩ := Post.chk q4
    have hp2 := pre_get n2.p hp
    obtain ⟨_, vs, h1, r1⟩ := getL_at n2.rel hp2 e1
    refine ⟨p, vs, y, rfl, rfl, h1, by rw [← r1.length, sizeLine_eq]; exact of_decide_eq_true hl, ?_⟩
    exact q5 φ2 F2 _ .non (Fwd.write (List.mem_of_getElem? hp2) _) (n2.rel.write hp2 h1 (r1.append (.one n2.rp))) rfl
  | _ => exact q1.elim
theorem pe_ext (m : BmOk X a b apos pos) (ha : PE X a (tE X W c f)) (hb : PE X b (tE X W c g)) : PE X (.Call (.Attribute a "extend" apos) [b] [] pos) (tE X W c (sExtend f g)) := by
  refine wkE (pe_bm PySem.F.plainAttrs_list PySem.F.slot_list_extend PySem.F.type_list_extend mt_extR ha (pa_cons hb pa_nil m.star) (base_ok m.base) (bm_few m.star) m.line m.star rfl) fun σ H Q ⟨φ, F, ρ, M, rel, rr, q⟩ => ?_
  refine seq rel rr q fun x H1 φ1 F1 M1 d n1 q1 => ?_
  cases d with
  | h n =>
    obtain ⟨p, ex, hp⟩ := n1.rp
    subst ex
    obtain ⟨xs0, e0, q2⟩ := Post.opt q1
    obtain ⟨_, vs0, h0, _⟩ := getL_at n1.rel hp e0
    refine ⟨.inl ⟨rfl, vs0, .of h0⟩, ?_⟩
    refine seq n1.rel n1.rr q2 fun y H2 φ2 F2 M2 e n2 q3 => ?_
    obtain ⟨xs, e1, q4⟩ := Post.opt q3
    have hp2 := pre_get n2.p hp
    obtain ⟨_, vs, h1, r1⟩ := getL_at n2.rel hp2 e1
    cases e with
    | lst ys =>
      obtain ⟨hl, q5⟩ := Post.chk q4
      obtain ⟨b, zs, ey, hb, rb⟩ := n2.rp
      subst ey
      refine ⟨p, b, vs, zs, rfl, rfl, h1, Evl.ex_rd n2.rel.ex hb, by rw [← r1.length, ← rb.length, sizeLine_eq]; exact of_decide_eq_true hl, ?_⟩
      exact q5 φ2 F2 _ .non (Fwd.write (List.mem_of_getElem? hp2) _) (n2.rel.write hp2 h1 (r1.append rb)) rfl
    | _ => exact q4.elim
  | _ => exact q1.elim
theorem pe_pop (m : BmOk X a b apos pos) (ha : PE X a (tE X W c f)) (hb : PE X b (tE X W c g)) : PE X (.Call (.Attribute a "pop" apos) [b] [] pos) (tE X W c (sPopAt f g)) := by
  refine wkE (pe_bm PySem.F.plainAttrs_list PySem.F.slot_list_pop PySem.F.type_list_pop mt_popAt ha (pa_cons hb pa_nil m.star) (base_ok m.base) (bm_few m.star) m.line m.star rfl) fun σ H Q ⟨φ, F, ρ, M, rel, rr, q⟩ => ?_
  refine seq rel rr q fun x H1 φ1 F1 M1 d n1 q1 => ?_
  cases d with
  | h n =>
    obtain ⟨p, ex, hp⟩ := n1.rp
    subst ex
    obtain ⟨xs0, e0, q2⟩ := Post.opt q1
    obtain ⟨_, vs0, h0, _⟩ := getL_at n1.rel hp e0
    refine ⟨.inl ⟨rfl, vs0, .of h0⟩, ?_⟩
    refine seq n1.rel n1.rr q2 fun y H2 φ2 F2 M2 e n2 q3 => ?_
    obtain ⟨xs, e1, q4⟩ := Post.opt q3
    have hp2 := pre_get n2.p hp
    obtain ⟨_, vs, h1, r1⟩ := getL_at n2.rel hp2 e1
    cases e with
    | int i =>
      obtain ⟨hl, q5⟩ := Post.chk q4
      obtain ⟨z, ez, q6⟩ := Post.opt q5
      have hl := of_decide_eq_true hl
      cases (show y = V.int i from n2.rp)
      obtain ⟨w, h3, h4⟩ := r1.get ez
      have hl2 : i < (vs.length : Int) := by rw [← r1.length]; exact hl.2.1
      refine ⟨p, vs, i, i.toNat, w, rfl, rfl, h1, by omega, by omega, (ixN_seq ?_).1, h3, ?_⟩
      · unfold ixN
        rw [if_pos hl.1, if_pos hl2]
      · exact q6 φ2 F2 _ w (Fwd.write (List.mem_of_getElem? hp2) _) (n2.rel.write hp2 h1 (r1.erase _)) h4
    | _ => exact q4.elim
  | _ => exact q1.elim
/-! ### statements -/
def PostS (X : Cx) (W : WX) (φ : List Addr) (F H : Hp) (r : SR) (D : Ends) : Prop := match r with
  | .fail => False
  | .nx ρ M => ∀ φ' F' H' σ', Fwd φ F H φ' F' H' → Rel X.K φ' F' H' M → RR X.K φ' F' ρ σ' → D.nx σ' H'
  | .bk ρ M => ∀ φ' F' H' σ', Fwd φ F H φ' F' H' → Rel X.K φ' F' H' M → RR X.K φ' F' ρ σ' → D.bk σ' H'
  | .ct ρ M => ∀ φ' F' H' σ', Fwd φ F H φ' F' H' → Rel X.K φ' F' H' M → RR X.K φ' F' ρ σ' → D.ct σ' H'
  | .rt d M => ∀ φ' F' H' v, Fwd φ F H φ' F' H' → Rel X.K φ' F' H' M → Rp X.K φ' F' d v → D.rt v H'
  | .exc x ds ρ M => ∀ φ' F' H' σ' cls dd, Fwd φ F H φ' F' H' → Rel X.K φ' F' H' M → RR X.K φ' F' ρ σ' → XR X φ' F' H' x ds cls dd → W cls dd σ' H'
def tS (X : Cx) (W : WX) (c : Cf) (f : SS) : TS := fun D σ H => ∃ φ F ρ M, Rel X.K φ F H M ∧ RR X.K φ F ρ σ ∧ PostS X W φ F H (f c ρ M) D
theorem wkS {X : Cx} {e : Stmt} {t t' : TS} (h : PS X e t') (w : ∀ D σ H, t D σ H → t' D σ H) : PS X e t := ⟨fun pins s σ H D I q => h.run pins s σ H D I (w D σ H q)⟩
theorem wkSs {X : Cx} {e : List Stmt} {t t' : TS} (h : PSs X e t') (w : ∀ D σ H, t D σ H → t' D σ H) : PSs X e t := ⟨fun pins s σ H D I q => h.run pins s σ H D I (w D σ H q)⟩
theorem PostS.env {φ' : List Addr} {F' H' : Hp} {r : SR} {D : Ends} (w : Fwd φ F H φ' F' H') (h : PostS X W φ F H r D) : PostS X W φ' F' H' r D := by
  cases r with
  | fail => exact h
  | nx ρ M => exact fun φ2 F2 H2 v w2 rel r => h φ2 F2 H2 v (w.trans w2) rel r
  | bk ρ M => exact fun φ2 F2 H2 v w2 rel r => h φ2 F2 H2 v (w.trans w2) rel r
  | ct ρ M => exact fun φ2 F2 H2 v w2 rel r => h φ2 F2 H2 v (w.trans w2) rel r
  | rt ρ M => exact fun φ2 F2 H2 v w2 rel r => h φ2 F2 H2 v (w.trans w2) rel r
  | exc x ds ρ M => exact fun φ2 F2 H2 σ2 cl dd w2 rel r => h φ2 F2 H2 σ2 cl dd (w.trans w2) rel r
/-- an expression first -/
theorem seqS {α ν : Type} {rep : Rep α ν} {f : Fn α} {k : α → Mh → SR} {D : Ends} {Q' : ν → Hp → Prop} (rel : Rel X.K φ F H M) (rr : RR X.K φ F ρ σ) (h : PostS X W φ F H ((f c ρ M).then ρ k) D)
    (w : ∀ v H1 φ1 F1 M1 a, Now X rep φ F H ρ σ a v φ1 F1 H1 M1 → PostS X W φ1 F1 H1 (k a M1) D → Q' v H1) : tG X rep W c f σ H Q' := by
  refine ⟨φ, F, ρ, M, rel, rr, ?_⟩
  cases e : f c ρ M with
  | fail => rw [e] at h; exact h
  | ok a M1 =>
    rw [e] at h
    exact fun φ1 F1 H1 v w1 rel1 r => w v H1 φ1 F1 M1 a ⟨w1, rel1, rr.mono w1.pre w1.ex, r⟩ (PostS.env w1 h)
  | exc x ds M1 =>
    rw [e] at h
    exact fun φ1 F1 H1 cl dd w1 rel1 r => h φ1 F1 H1 σ cl dd w1 rel1 (rr.mono w1.pre w1.ex) r
theorem PostS.opt {γ : Type} {o : Option γ} {k : γ → SR} {D : Ends} (h : PostS X W φ F H (optS o k) D) : ∃ a, o = some a ∧ PostS X W φ F H (k a) D := by
  cases o with
  | none => exact h.elim
  | some a => exact ⟨a, rfl, h⟩
theorem PostS.here {D : Ends} (rel : Rel X.K φ F H M) (rr : RR X.K φ F ρ σ) (h : PostS X W φ F H (.nx ρ M) D) : D.nx σ H := h φ F H σ (Fwd.refl _ _ _) rel rr
theorem PostS.ret {D : Ends} {d : MP.D} {v : V} (rel : Rel X.K φ F H M) (r : Rp X.K φ F d v) (h : PostS X W φ F H (.rt d M) D) : D.rt v H := h φ F H v (Fwd.refl _ _ _) rel r
variable {z z' : SS} {st : Stmt} {sts rest : List Stmt}
theorem pss_n : PSs X [] (tS X W c zNext) := wkSs pss_nil fun D σ H ⟨φ, F, ρ, M, rel, rr, q⟩ => PostS.here rel rr q
theorem pss_c (h1 : PS X st (tS X W c z)) (h2 : PSs X rest (tS X W c z')) : PSs X (st :: rest) (tS X W c (zSeq z z')) := by
  refine wkSs (pss_cons h1 h2) fun D σ H ⟨φ, F, ρ, M, rel, rr, q⟩ => ?_
  refine ⟨φ, F, ρ, M, rel, rr, ?_⟩
  have q : PostS X W φ F H ((z c ρ M).seq fun ρ1 M1 => z' c ρ1 M1) D := q
  cases e : z c ρ M with
  | nx ρ1 M1 =>
    rw [e] at q
    exact fun φ' F' H' σ' w rel' rr' => ⟨φ', F', ρ1, M1, rel', rr', PostS.env w q⟩
  | fail => rw [e] at q; exact q
  | rt d M1 => rw [e] at q; exact q
  | bk ρ1 M1 => rw [e] at q; exact q
  | ct ρ1 M1 => rw [e] at q; exact q
  | exc x ds ρ1 M1 => rw [e] at q; exact q
theorem pss_1 (h1 : PS X st (tS X W c z)) : PSs X [st] (tS X W c z) := pss_one h1
theorem ps_ex (ha : PE X a (tE X W c f)) (hs : swapsWith a none pos.line X.env = pure false) : PS X (.Expr a pos) (tS X W c (zExpr f)) := by
  refine wkS (ps_expr ha hs) fun D σ H ⟨φ, F, ρ, M, rel, rr, q⟩ => ?_
  exact seqS rel rr q fun v H1 φ1 F1 M1 d n1 q1 => PostS.here n1.rel n1.rr q1
theorem ps_rt (ha : PE X a (tE X W c f)) : PS X (.Return (some a) pos) (tS X W c (zRet f)) := by
  refine wkS (ps_ret ha) fun D σ H ⟨φ, F, ρ, M, rel, rr, q⟩ => ?_
  exact seqS rel rr q fun v H1 φ1 F1 M1 d n1 q1 => PostS.ret n1.rel n1.rp q1
theorem ps_fi {t : TSm} {x y : List Stmt} (ht : PT X a (tT X W c t)) (h1 : PSs X x (tS X W c z)) (h2 : PSs X y (tS X W c z')) : PS X (.If a x y pos) (tS X W c (zIf t z z')) := by
  refine wkS (ps_if ht h1 h2) fun D σ H ⟨φ, F, ρ, M, rel, rr, q⟩ => ?_
  refine seqS rel rr q fun v H1 φ1 F1 M1 k n1 q1 => ?_
  cases (show k = v from n1.rp)
  cases v with
  | true => exact ⟨φ1, F1, ρ, M1, n1.rel, n1.rr, q1⟩
  | false => exact ⟨φ1, F1, ρ, M1, n1.rel, n1.rr, q1⟩
theorem ps_st {tg : Expr} {g : Tg} {gt : TG} {ss : List Nat} (ha : PE X a (tE X W c f)) (hg : PG X tg gt) (hgt : Tgt X gt ss g) (hs : swapsWithSole [tg] a pos.line X.env = pure false) (hw : swappedStores [tg] a X.env = pure none) (h1 : (assignEach [tg] X.env).map (·.2) = [assign tg X.env]) : PS X (.Assign [tg] a pos) (tS X W c (zSet g f)) := by
  refine wkS (ps_asg ha hg hs hw h1) fun D σ H ⟨φ, F, ρ, M, rel, rr, q⟩ => ?_
  refine seqS rel rr q fun v H1 φ1 F1 M1 d n1 q1 => ?_
  obtain ⟨ρ1, e1, q2⟩ := PostS.opt q1
  exact hgt φ1 F1 H1 M1 d v ρ ρ1 σ _ n1.rel n1.rr n1.rp e1 fun σ' rr' _ _ => PostS.here n1.rel rr' q2
theorem ps_ix {o i : Expr} {tpos : Pos} (ho : PE X o (tE X W c g)) (hi : PE X i (tE X W c h)) (he : PE X a (tE X W c f)) (hg : PG X (.Subscript o i tpos) (gSub (tE X W c g) (tE X W c h) rSetL)) (hs : swapsWithSole [.Subscript o i tpos] a pos.line X.env = pure false) (hw : swappedStores [.Subscript o i tpos] a X.env = pure none) :
    PS X (.Assign [.Subscript o i tpos] a pos) (tS X W c (zSetIx g h f)) := by
  refine wkS (ps_asg he hg hs hw) fun D σ H ⟨φ, F, ρ, M, rel, rr, q⟩ => ?_
  refine seqS rel rr q fun v H1 φ1 F1 M1 d n1 q1 => ?_
  refine seqS n1.rel n1.rr q1 fun x H2 φ2 F2 M2 e n2 q2 => ?_
  refine seqS n2.rel n2.rr q2 fun j H3 φ3 F3 M3 k n3 q3 => ?_
  cases e with
  | h n =>
    obtain ⟨p, ex, hp⟩ := n2.rp
    subst ex
    obtain ⟨xs, e1, q4⟩ := PostS.opt q3
    have hp3 := pre_get n3.p hp
    obtain ⟨_, vs, h1, r1⟩ := getL_at n3.rel hp3 e1
    cases k with
    | int i =>
      cases (show j = V.int i from n3.rp)
      have q4 : PostS X W φ3 F3 H3 (if 0 ≤ i ∧ i < xs.length then .nx ρ (M3.set n (.lst (xs.set i.toNat d))) else .fail) D := q4
      by_cases hi : 0 ≤ i ∧ i < xs.length
      · rw [if_pos hi] at q4
        refine ⟨p, vs, i, i.toNat, rfl, rfl, h1, ?_, ?_⟩
        · have := r1.length
          unfold ixN
          rw [if_pos hi.1, if_pos (by omega)]
        · exact q4 φ3 F3 _ σ (Fwd.write (List.mem_of_getElem? hp3) _) (n3.rel.write hp3 h1 (r1.set _ ((n1.rp.mono n2.p n2.e).mono n3.p n3.e))) n3.rr
      · rw [if_neg hi] at q4
        exact q4.elim
    | _ => exact q4.elim
  | _ => exact q3.elim
/-- a, b = x, y -/
theorem ps_pr {i j : Nat} {x y : Str} {u v : Expr} {r : AS} {px py pt : Pos} {kt k2 pt2} (hc : X.calm = true) (hN : X.N.Nodup) (hi : X.N[i]? = some x) (hj : X.N[j]? = some y) (hij : i ≠ j) (h : ∀ (ta : TA), PA X [u, v] ta → PS X (.Assign [.Tuple [.Name x px, .Name y py] kt pt] (.Tuple [u, v] k2 pt2) pos) (tPar i j ta))
    (ha : PA X [u, v] (tA X W c r)) : PS X (.Assign [.Tuple [.Name x px, .Name y py] kt pt] (.Tuple [u, v] k2 pt2) pos) (tS X W c (zPar i j r)) := by
  refine wkS (h _ ha) fun D σ H ⟨φ, F, ρ, M, rel, rr, q⟩ => ?_
  refine seqS rel rr q fun vs H1 φ1 F1 M1 ds n1 q1 => ?_
  match ds, n1.rp, q1 with
  | [d, e], r, q1 =>
    obtain ⟨v1, r1, rfl, a1, b1⟩ := r
    obtain ⟨v2, r2, rfl, a2, b2⟩ := b1
    cases (show r2 = [] from b2)
    exact ⟨v1, v2, rfl, PostS.here n1.rel ((n1.rr.set a1).set a2) q1⟩
/-- for -/
theorem ps_fr {tg iter : Expr} {body : List Stmt} {i : IS} {g : Tg} {gt : TG} {ss : List Nat} (hp : PassesOwn (model X.prog X.w) X.A X.env X.xe) (hc : X.calm = true) (hi : PI X tg iter (tI X W c i)) (hg : PG X tg gt) (hgt : Tgt X gt ss g) (hb : PSs X body (tS X W c z))
    (hs : ∀ x, foldedSetIterable iter X.env x = pure x) : PS X (.For tg iter body [] pos) (tS X W c (zFor i g z)) := by
  refine wkS (ps_for hp hc hi hg hb hs) fun D σ H ⟨φ, F, ρ, M, rel, rr, q⟩ => ?_
  refine seqS rel rr q fun J H1 φ1 F1 M1 S n1 q1 => ?_
  obtain ⟨n, e1, q2⟩ := PostS.opt q1
  have wk := n1.rp
  refine ⟨fun i m σ H => ∃ φ2 F2 ρ2 M2, Fwd φ1 F1 H1 φ2 F2 H ∧ Rel X.K φ2 F2 H M2 ∧ RR X.K φ2 F2 ρ2 σ ∧ PostS X W φ2 F2 H (forLoop (fun d ρ1 M2 => optS (g.bind d ρ1) fun ρ2 => z c ρ2 M2) S m i ρ2 M2) D,
    ⟨n, φ1, F1, ρ, M1, Fwd.refl _ _ _, n1.rel, n1.rr, q2⟩, ?_⟩
  rintro i m σ2 H2 ⟨φ2, F2, ρ2, M2', w, rel2, rr2, q3⟩
  cases m with
  | zero =>
    have q3 : PostS X W φ2 F2 H2 (if S.ends i M2' = true then .nx ρ2 M2' else .fail) D := q3
    by_cases he : S.ends i M2' = true
    · rw [if_pos he] at q3
      exact .inl ⟨wk.stop φ2 F2 H2 _ i w.pre w.ex rel2 he, PostS.here rel2 rr2 q3⟩
    · rw [if_neg he] at q3
      exact q3.elim
  | succ m =>
    obtain ⟨d, e2, q4⟩ := PostS.opt (show PostS X W φ2 F2 H2 (optS (S.item i M2') fun d => match (optS (g.bind d ρ2) fun ρ2 => z c ρ2 M2') with
      | .nx ρ1 M1 => forLoop (fun d ρ1 M2 => optS (g.bind d ρ1) fun ρ2 => z c ρ2 M2) S m (i + 1) ρ1 M1
      | .ct ρ1 M1 => forLoop (fun d ρ1 M2 => optS (g.bind d ρ1) fun ρ2 => z c ρ2 M2) S m (i + 1) ρ1 M1
      | .bk ρ1 M1 => .nx ρ1 M1
      | r => r) D from q3)
    obtain ⟨go, yl⟩ := wk.go φ2 F2 H2 M2' i d w.pre w.ex rel2 e2
    refine .inr ⟨go, fun σ' H' => ∃ φ3 F3 ρ3 M3, Fwd φ1 F1 H1 φ3 F3 H' ∧ Rel X.K φ3 F3 H' M3 ∧ RR X.K φ3 F3 ρ3 σ' ∧ PostS X W φ3 F3 H' (forLoop (fun d ρ1 M2 => optS (g.bind d ρ1) fun ρ2 => z c ρ2 M2) S m (i + 1) ρ3 M3) D, ?_, ?_⟩
    · rintro σ' H' ⟨φ3, F3, ρ3, M3, a1, a2, a3, a4⟩
      exact ⟨m, Nat.lt_succ_self m, φ3, F3, ρ3, M3, a1, a2, a3, a4⟩
    · intro x H' hy
      obtain ⟨F3, w3, rel3, rd⟩ := yl x H' hy
      cases eb : g.bind d ρ2 with
      | none => rw [eb] at q4; exact q4.elim
      | some ρ3 =>
        rw [eb] at q4
        have q5 := PostS.env w3 q4
        refine hgt φ2 F3 H' M2' d x ρ2 ρ3 σ2 _ rel3 (rr2.mono w3.pre w3.ex) rd eb fun σ3 rr3 _ _ => ?_
        refine ⟨φ2, F3, ρ3, M2', rel3, rr3, ?_⟩
        cases er : z c ρ3 M2' with
        | fail => rw [show (optS (some ρ3) fun ρ2 => z c ρ2 M2') = z c ρ3 M2' from rfl, er] at q5; exact q5
        | nx ρ4 M4 =>
          rw [show (optS (some ρ3) fun ρ2 => z c ρ2 M2') = z c ρ3 M2' from rfl, er] at q5
          exact fun φ4 F4 H4 σ4 w4 rel4 rr4 => ⟨φ4, F4, ρ4, M4, (w.trans w3).trans w4, rel4, rr4, PostS.env w4 q5⟩
        | ct ρ4 M4 =>
          rw [show (optS (some ρ3) fun ρ2 => z c ρ2 M2') = z c ρ3 M2' from rfl, er] at q5
          exact fun φ4 F4 H4 σ4 w4 rel4 rr4 => ⟨φ4, F4, ρ4, M4, (w.trans w3).trans w4, rel4, rr4, PostS.env w4 q5⟩
        | bk ρ4 M4 => rw [show (optS (some ρ3) fun ρ2 => z c ρ2 M2') = z c ρ3 M2' from rfl, er] at q5; exact q5
        | rt d4 M4 => rw [show (optS (some ρ3) fun ρ2 => z c ρ2 M2') = z c ρ3 M2' from rfl, er] at q5; exact q5
        | exc x4 ds4 ρ4 M4 => rw [show (optS (some ρ3) fun ρ2 => z c ρ2 M2') = z c ρ3 M2' from rfl, er] at q5; exact q5
end
end MP

set_option Elab.async false
set_option linter.all false
set_option maxRecDepth 100000
/-! MiniPy 11b: dicts written and made of pairs, lists backwards. -/
namespace MP
open PySem PySem.Spec PyProof.Rows L2
open Evl (Ex)
variable [TL : TabL]
section
variable {X : Cx} {W : WX} {c : Cf} {σ : L2.St} {φ : List Addr} {F H : Hp} {M : Mh} {K : PySem.W.Frag} {ρ : Rho} {f g : ES} {a b e : Expr} {pos p p1 p2 p3 : Pos}
theorem upd2 {H : Hp} {p : Addr} {a b : HO} : upd (upd H p a) p b = upd H p b := by
  funext x
  by_cases h : x = p
  · rw [h, upd_same, upd_same]
  · rw [upd_ne h, upd_ne h, upd_ne h]
/-- a dict by value, a new object -/
theorem dic_here {ks : List Key} {ds : List D} {xs : List V} {Q : VK} (rel : Rel X.K φ F H M) (r : Rps X.K φ F ds xs) (hl : ks.length = xs.length) (q : Post X (Rp X.K) W σ φ F H (.ok (.dic ks ds) M) Q) {p : Addr} (hp : H p = none) : Q (.ref p) (upd H p (.dK (ks.zip xs))) :=
  q φ (upd F p _) _ (.ref p) (Fwd.know hp _ rel.ex) (rel.know hp _) ⟨p, xs, rfl, upd_same, hl, r.mono (List.prefix_refl _) (Evl.Ex.new (Ex.none rel.ex hp))⟩
theorem pe_d0 : PE X (.Dict [] [] pos) (tE X W c sDict0) := wkE pe_dnewK fun σ H Q ⟨φ, F, ρ, M, rel, rr, q⟩ => fun p hp => dic_here (ks := []) rel (show Rps X.K φ F [] [] from rfl) rfl q hp
theorem kV_rp {k : Key} {d : D} (h : keyOf d = some k) {φ : List Addr} {F : Hp} {v : V} (r : Rp K φ F d v) : v = kV k := by
  cases d <;> first | (cases h; done) | (cases h; cases r; rfl)
/-- {k: v}, both written -/
theorem pe_d1 {k : Expr} {kk : Key} {d : D} {v : V} (hk : PE X k (tC (kV kk))) (he : PE X e (tC v)) (r : ∀ φ F, Rp X.K φ F d v) : PE X (.Dict [some k] [e] pos) (tE X W c (sDict1 kk d)) := by
  refine wkE (pe_disp (pps_cons hk he pps_nil) rfl rfl (by simp) (by show 1 ≤ 15; decide)) fun σ H Q ⟨φ, F, ρ, M, rel, rr, q⟩ => fun p hp => ?_
  refine ⟨upd_same, [(kk, v)], rfl, by show 1 ≤ 15; decide, ?_⟩
  have := dic_here (ks := [kk]) rel (.one (r φ F)) rfl q hp
  rw [upd2]
  exact this
theorem putK_new {kvs : List (Key × V)} {k : Key} {v : V} (h : k ∉ kvs.map (·.1)) : putK kvs k v = kvs ++ [(k, v)] := by
  unfold putK
  rw [if_neg]
  rw [List.any_eq_true]
  rintro ⟨x, hx, e⟩
  exact h (List.mem_map.mpr ⟨x, hx, of_decide_eq_true e⟩)
theorem mergeK_new : ∀ (more kvs : List (Key × V)), ((kvs ++ more).map (·.1)).Nodup → mergeK kvs more = kvs ++ more
  | [], kvs, _ => by simp [mergeK]
  | p :: r, kvs, h => by
    have e : mergeK kvs (p :: r) = mergeK (putK kvs p.1 p.2) r := rfl
    have h1 : p.1 ∉ kvs.map (·.1) := by
      rw [List.map_append, List.map_cons] at h
      have := (List.nodup_append.mp h).2.2
      exact fun z => this _ z _ List.mem_cons_self rfl
    rw [e, putK_new h1, mergeK_new r _ (by simpa using h)]
    simp
theorem unpair_rp : ∀ {ds : List D} {xs : List V} {p : List Key × List D}, Rps K φ F ds xs → unpair ds = some p → Ex F H → ∃ (ps : List Addr) (vs : List V), xs = ps.map V.ref ∧ Paired (fun p kv => SqT K H p [kV kv.1, kv.2]) ps (p.1.zip vs) ∧ Rps K φ F p.2 vs ∧ p.1.length = vs.length
  | [], _, _, r, h, _ => by
    cases (show _ = [] from r)
    cases h
    exact ⟨[], [], rfl, .nil, rfl, rfl⟩
  | d :: ds, _, p, r, h, ex => by
    obtain ⟨v, vs, rfl, r1, rs⟩ := r
    unfold unpair at h
    split at h
    · rename_i e; cases e
    · rename_i k d' r' e
      cases e
      cases hk : keyOf k with
      | none => rw [hk] at h; cases h
      | some k' =>
        rw [hk] at h
        cases hu : unpair ds with
        | none => rw [hu] at h; cases h
        | some q =>
          rw [hu] at h
          cases h
          obtain ⟨ps, ws, rfl, hp, hr, hl⟩ := unpair_rp rs hu ex
          obtain ⟨a, ys, rfl, s, k1⟩ := r1
          obtain ⟨y1, ys1, rfl, c1, y2, ys2, rfl, c2, c3⟩ := k1
          cases (show ys2 = [] from c3)
          have e1 := kV_rp hk c1
          subst e1
          exact ⟨a :: ps, y2 :: ws, rfl, .cons (Evl.ex_t ex s) hp, ⟨y2, ws, rfl, c2, hr⟩, by simp [hl]⟩
    · cases h
theorem pe_dcB (B : Bi X "dict") (hc : X.calm = true) (ha : PE X a (tE X W c f)) (hs : starEach [a] X.env = [(false, eval a X.env)]) : PE X (.Call (.Name "dict" p) [a] [] pos) (tE X W c (sDictOf f)) := by
  refine wkE (pe_callTy (call_dictP hc) B.gl B.mg (by decide +kernel) (pa_cons ha pa_nil hs) (he := hs)) fun σ H Q h => ?_
  refine tE1 (fun H Q φ F M d v rel r q => ?_) H Q h
  cases hv : view M d with
  | lst ds =>
    rw [hv] at q
    obtain ⟨pr, e1, q⟩ := Post.opt q
    obtain ⟨nd, q⟩ := Post.chk q
    obtain ⟨a, xs, rfl, s, rs⟩ := view_lst rel r hv
    obtain ⟨ps, vs, rfl, hp, hr, hl⟩ := unpair_rp rs e1 rel.ex
    refine ⟨a, ps, _, rfl, .inl s, hp, fun p hp' => ?_⟩
    rw [mergeK_new _ [] (by rw [List.nil_append, List.map_fst_zip (by omega)]; exact of_decide_eq_true nd)]
    exact dic_here rel hr hl q hp'
  | _ => rw [hv] at q; exact q.elim
/-- xs[::-1] of a list -/
theorem pe_rvL {k : Nat} (ha : PE X a (tE X W c f)) : PE X (.Subscript a (.Slice none none (some (.UnaryOp .USub (.Constant (.int 1) k p1) p2)) p3) pos) (tRevL X.K (tE X W c f)) := pe_revL ha
end
end MP

set_option Elab.async false
set_option linter.all false
set_option maxRecDepth 100000
/-! MiniPy 11c: tuples backwards. -/
namespace MP
open PySem PySem.Spec PyProof.Rows L2
section
variable {prog : Program} {w : World} {A : Around} {E : Value → Shared → Prop} {s : Shared}
theorem back_parts {sl : Addr} {vs : Value} {n : Nat} {Q : Int × Int × Nat → Shared → Prop} (hs : s.heap.IsSliceOf sl .none .none vs) (ps : IsPart vs (some (-1)))
    (h : Q ((n : Int) - 1, -1, n) s) : wpAny (model prog w) A (Builtin.Slice.sliceApplied (.ref sl) (pure (n : Int))) Q E s := by
  obtain ⟨ob, eo, ec, ed⟩ := id hs
  unfold Builtin.Slice.sliceApplied Builtin.Slice.sliceFields
  refine wpAny_bind (wpAny_bind (wpAny_field eo ed (x := .none) rfl (wpAny_bind (wpAny_field eo ed (x := .none) rfl (wpAny_bind (wpAny_field eo ed (x := vs) rfl (wpAny_pure ?_)))))))
  refine wpAny_bind (HT.slicePart_ ps ?_)
  show wpAny _ _ (if ((-1 : Int) == 0) = true then _ else _) _ _ s
  rw [if_neg (by decide)]
  refine wpAny_bind (HT.slicePart_ .none (wpAny_bind (HT.slicePart_ .none (wpAny_bind (wpAny_pure ?_)))))
  show wpAny _ _ (match Builtin.Slice.sliceAdjust none none (-1) (n : Int) with | (lo, hi) => pure (lo, (-1 : Int), Builtin.Slice.slicePlaces lo hi (-1))) _ _ s
  have e1 : Builtin.Slice.sliceAdjust none none (-1) (n : Int) = ((n : Int) - 1, -1) := by
    unfold Builtin.Slice.sliceAdjust
    simp
  rw [e1]
  show wpAny _ _ (pure ((n : Int) - 1, (-1 : Int), Builtin.Slice.slicePlaces ((n : Int) - 1) (-1) (-1))) _ _ s
  have e2 : Builtin.Slice.slicePlaces ((n : Int) - 1) (-1) (-1) = n := by
    unfold Builtin.Slice.slicePlaces
    simp
    try omega
  rw [e2]
  exact wpAny_pure h
theorem back_pick (xs : Array Value) : ((List.range xs.size).filterMap fun (m : Nat) => xs[((xs.size : Int) - 1 + (m : Int) * (-1)).toNat]?) = xs.toList.reverse := by
  have e : ∀ k, k ≤ xs.size → ((List.range k).filterMap fun (m : Nat) => xs[((xs.size : Int) - 1 + (m : Int) * (-1)).toNat]?) = xs.toList.reverse.take k := by
    intro k
    induction k with
    | zero => intro _; rfl
    | succ k ih =>
      intro hk
      rw [List.range_succ, List.filterMap_append, ih (by omega)]
      have e1 : ((xs.size : Int) - 1 + (k : Int) * (-1)).toNat = xs.size - 1 - k := by omega
      have e2 : xs[xs.size - 1 - k]? = some (xs[xs.size - 1 - k]'(by omega)) := Array.getElem?_eq_getElem (by omega)
      have e3 : xs.toList.reverse[k]? = some (xs[xs.size - 1 - k]'(by omega)) := by
        rw [List.getElem?_reverse (by simp; omega), Array.length_toList, Array.getElem?_toList, e2]
      rw [List.take_add_one, e3]
      simp only [List.filterMap_cons, e1, e2, List.filterMap_nil, Option.toList_some]
  rw [e xs.size (Nat.le_refl _)]
  exact List.take_of_length_le (by simp)
theorem tuple_back {t sl : Addr} {items : Array Value} {vs : Value} {Q : Value → Shared → Prop} (ht : IsTup s.heap t items) (hs : s.heap.IsSliceOf sl .none .none vs) (ps : IsPart vs (some (-1)))
    (h : Q (.ref s.heap.objs.size) { s with heap := s.heap.push { cls := .type "tuple", data := .seq items.toList.reverse.toArray } }) (hsz : items.size ≤ sizeLine) : wpAny (model prog w) A (getItem (.ref t) (.ref sl)) Q E s := by
  have fits : sizeOk (.seq items.toList.reverse.toArray) := by
    show items.toList.reverse.toArray.size ≤ sizeLine
    simpa using hsz
  obtain ⟨ob, eo, ec, ed⟩ := id hs
  have ty : s.TypeIs (.ref sl) "slice" := ⟨ob, eo, ec⟩
  unfold getItem
  try with_reducible refine wpAny_holding ?_
  first | refine wpAny_bind (wpAny_pure ?_) | skip
  refine wpAny_bind (wpAny_sequenceKey ht.typeIs (by decide) ?_)
  refine wpAny_bind (wpAny_callSpecial?_slot (name := Str.ofString "__getitem__") ht.typeIs slot_tuple_getitem (wpAny_call_entry slot_tuple_getitem ht.typeIs entry_tuple_getitem ?_ (args_tuple_getitem _ _)))
  show wpAny _ _ (Builtin.Tuple.tupleItemsOf (.ref t) >>= _) _ _ s
  refine wpAny_bind (tupleItemsOf_ ht ?_)
  refine wpAny_bind (wpAny_typeOf ty ?_)
  rw [if_pos (by decide)]
  refine wpAny_bind (back_parts hs ps ?_)
  have no : ¬ ((((items.size : Int) - 1) == 0 && (-1 : Int) == 1 && items.size == items.size) = true) := by
    simp
  show wpAny _ _ (if ((((items.size : Int) - 1) == 0 && (-1 : Int) == 1 && items.size == items.size) = true) then _ else _) _ _ s
  rw [if_neg no, back_pick]
  first
    | exact wpAny_bind (m := Builtin.Tuple.tupleExact _) (wpAny_newObj_type (wpAny_pure ⟨_, rfl, wpAny_pure h⟩) fits)
    | exact wpAny_bind (m := Builtin.Tuple.tupleExact _) (wpAny_newObj_type (wpAny_bind (wpAny_pure (wpAny_pure ⟨_, rfl, wpAny_pure h⟩))) fits)
    | exact wpAny_bind (wpAny_bind (m := Builtin.Tuple.tupleExact _) (wpAny_newObj_type (wpAny_pure (wpAny_pure ⟨_, rfl, wpAny_pure h⟩)) fits))
    | exact wpAny_bind (wpAny_bind (m := Builtin.Tuple.tupleExact _) (wpAny_newObj_type (wpAny_pure ⟨_, rfl, wpAny_pure h⟩) fits))
end
/-- x[::-1] of a list, of a tuple -/
def tBack (K : PySem.W.Frag) (te : TE) : TE := fun σ H Q => te σ H fun x H1 => (∃ a xs, x = .ref a ∧ SqL K H1 a xs ∧ ∀ p, H1 p = none → Q (.ref p) (upd H1 p (.lst xs.reverse))) ∨ (∃ a xs, x = .ref a ∧ SqT K H1 a xs ∧ ∀ p, H1 p = none → Q (.ref p) (upd H1 p (.tup xs.reverse)))
theorem pe_back {X : Cx} {e : Expr} {te : TE} {k : Nat} {p1 p2 p3 pos : Pos} (he : PE X e te) : PE X (.Subscript e (.Slice none none (some (.UnaryOp .USub (.Constant (.int 1) k p1) p2)) p3) pos) (tBack X.K te) := by
  refine ⟨fun pins s σ H Q I h => ?_⟩
  refine Subscript_ (thn (he.run pins s σ H _ I h) fun v s1 ⟨x, H1, I1, r1, q1⟩ => ?_)
  have step : PO X (some (.UnaryOp .USub (.Constant (.int 1) k p1) p2)) (tPart (tUn (rU fun i => .int (-i)) (tC (.int 1)))) := po_some (pe_un un_neg pe_int)
  refine wpAny_Slice ?_
  rw [evalPart_none]
  refine wpAny_pure (wpAny_pure ?_)
  refine thn (step.run pins s1 σ H1 (fun o H4 => o = some (-1) ∧ H4 = H1) I1 ⟨1, rfl, -1, rfl, rfl, rfl⟩) fun vs s4 ⟨o, H4, I4, ps, eo, e4⟩ => ?_
  subst eo e4
  have I5 : Inv X pins σ H4 { s4 with heap := s4.heap.push { cls := .type "slice", data := .fields #[.none, .none, vs] } } := I4.kept (t' := s4.toks) fun b ob q => Heap.get?_push_of_some _ q
  show wpAny (model X.prog X.w) X.A (subscriptTail e (.Slice none none (some (.UnaryOp .USub (.Constant (.int 1) k p1) p2)) p3) v (.ref s4.heap.objs.size)) (EP X pins σ Q) X.xe { s4 with heap := s4.heap.push { cls := .type "slice", data := .fields #[.none, .none, vs] } }
  rcases q1 with ⟨a, xs, ex, hx, q⟩ | ⟨a, xs, ex, hx, q⟩
  · subst ex
    cases r1
    obtain ⟨its, r, ht, hz⟩ := I5.list hx
    have hlen := r.length
    refine tail_any (ops := [.ref a, .ref s4.heap.objs.size]) ht.isList.typeIs (PySem.slot_list_getitem.lookup) ?_ (by with_unfolding_all rfl)
    refine wpAny_getItem_list_slice ht.isList (Heap.IsSliceOf.new _ .none .none vs) .none .none ps (by decide) ?_ (by rw [List.size_toArray]; omega)
    rw [PySem.W.krv_pick]
    refine ⟨.ref _, _, I5.laid (t' := s4.toks) (o := .lst xs.reverse) (fun b ob q => Heap.get?_push_of_some _ q) (Nat.le_refl _) ?_, rfl, q _ (I5.hok.fresh (Nat.le_refl _))⟩
    exact ⟨by rw [List.length_reverse]; exact hz, _, 0, r.reverse, Heap.get?_push_size _ rfl⟩
  · subst ex
    cases r1
    obtain ⟨its, r, ht, hz⟩ := I5.tuple hx
    have hlen := r.length
    refine tail_any (ops := [.ref a, .ref s4.heap.objs.size]) ht.typeIs slot_tuple_getitem.lookup ?_ (by with_unfolding_all rfl)
    refine tuple_back ht (Heap.IsSliceOf.new _ .none .none vs) ps ?_ (by rw [List.size_toArray]; omega)
    refine ⟨.ref _, _, I5.laid (t' := s4.toks) (o := .tup xs.reverse) (fun b ob q => Heap.get?_push_of_some _ q) (Nat.le_refl _) ?_, rfl, q _ (I5.hok.fresh (Nat.le_refl _))⟩
    exact ⟨by rw [List.length_reverse]; exact hz, _, r.reverse, IsTup.new _ _⟩
variable [TL : TabL]
theorem pe_rv {X : Cx} {W : WX} {c : Cf} {a : Expr} {f : ES} {k : Nat} {p1 p2 p3 pos : Pos} (ha : PE X a (tE X W c f)) : PE X (.Subscript a (.Slice none none (some (.UnaryOp .USub (.Constant (.int 1) k p1) p2)) p3) pos) (tE X W c (sRev f)) := by
  refine wkE (pe_back ha) fun σ H Q ⟨φ, F, ρ, M, rel, rr, q⟩ => ?_
  refine seq rel rr q fun x H1 φ1 F1 M1 d n1 q1 => ?_
  obtain ⟨z, ez, q2⟩ := Post.opt q1
  cases hv : view M1 d with
  | lst ds =>
    rw [hv] at ez
    cases ez
    obtain ⟨p, xs, rfl, s, rs⟩ := view_lst n1.rel n1.rp hv
    exact .inl ⟨p, xs, rfl, .inl s, fun p hp => q2 φ1 (upd F1 p _) _ (.ref p) (Fwd.know hp _ n1.rel.ex) (n1.rel.know hp _) ⟨p, xs.reverse, rfl, .inl upd_same, (rs.rev).mono (List.prefix_refl _) (Evl.Ex.new (Ex.none n1.rel.ex hp))⟩⟩
  | tup ds =>
    rw [hv] at ez
    cases ez
    obtain ⟨p, xs, rfl, s, rs⟩ := view_tup n1.rel n1.rp hv
    exact .inr ⟨p, xs, rfl, s, fun p hp => q2 φ1 (upd F1 p _) _ (.ref p) (Fwd.know hp _ n1.rel.ex) (n1.rel.know hp _) ⟨p, xs.reverse, rfl, .of upd_same, (rs.rev).mono (List.prefix_refl _) (Evl.Ex.new (Ex.none n1.rel.ex hp))⟩⟩
  | _ => rw [hv] at ez; cases ez
end MP

set_option Elab.async false
set_option linter.all false
set_option maxRecDepth 100000
set_option maxHeartbeats 1000000
/-! MiniPy 11d: zip of any two readers (lists, tuples). -/
namespace MP
open PySem PySem.Spec PyProof.Rows L2
/-- an iterator at it over l: B its state, O the state of what it reads, g the items -/
structure Rdr (prog : Program) (w : World) (it l : Addr) (B : Heap → Nat → Prop) (O : Heap → Prop) (g : Nat → Option Value) : Prop where
  bk : ∀ h h' i, B h i → (∀ o, h.get? it = some o → h'.get? it = some o) → B h' i
  ok : ∀ h h', O h → (∀ o, h.get? l = some o → h'.get? l = some o) → O h'
  obj : ∀ h i, B h i → ∃ o, h.get? it = some o ∧ ∀ v, o.data ≠ .cell v
  item : ∀ (A : Around) (E : Value → Shared → Prop) (s : Shared) (i : Nat) (x : Value) (Q : Value → Shared → Prop), B s.heap i → O s.heap → g i = some x →
    (∀ h', B h' (i + 1) → Heap.SameBut it s.heap h' → Q x { s with heap := h' }) → wpAny (model prog w) A (Builtin.SmallTypes.nextOf (.ref it)) Q E s
  done : ∀ (A : Around) (E : Value → Shared → Prop) (s : Shared) (i : Nat) (Q : Value → Shared → Prop), A.handled = none → B s.heap i → O s.heap → g i = none →
    (∀ h' e, Heap.ExtBut it s.heap h' → (∃ o, h'.get? e = some o ∧ o.cls = .type "StopIteration") → E (.ref e) { s with heap := h' }) → wpAny (model prog w) A (Builtin.SmallTypes.nextOf (.ref it)) Q E s
theorem rdr_tup {prog : Program} {w : World} (it l : Addr) (xs : Array Value) : Rdr prog w it l (fun h i => h.IsTupleIter it l i) (fun h => h.IsTuple l xs) (fun i => xs[i]?) where
  bk := fun h h' i b k => b.at k
  ok := fun h h' ⟨o, e, r⟩ k => ⟨o, k o e, r⟩
  obj := fun h i ⟨o, e, _, d⟩ => ⟨o, e, fun v z => by rw [d] at z; cases z⟩
  item := fun A E s i x Q b o g k => RZ.nextOf_tuple_item b o g k
  done := fun A E s i Q hh b o g k => RZ.nextOf_tuple_end hh b o g k
theorem rdr_lst {prog : Program} {w : World} (it l : Addr) (xs : Array Value) : Rdr prog w it l (fun h i => h.IsListIter it l i) (fun h => h.IsList l xs) (fun i => xs[i]?) where
  bk := fun h h' i b k => b.at k
  ok := fun h h' ⟨o, e, r⟩ k => ⟨o, k o e, r⟩
  obj := fun h i ⟨o, e, _, d⟩ => ⟨o, e, fun v z => by rw [d] at z; cases z⟩
  item := fun A E s i x Q b o g k => wpAny_nextOf_list_item b o g k
  done := fun A E s i Q hh b o g k => wpAny_nextOf_list_end hh b o g k
section
variable {prog : Program} {w : World} {A : Around} {E : Value → Shared → Prop} {s : Shared} {z TI TO i1 i2 l1 l2 : Addr} {B1 B2 : Heap → Nat → Prop} {O1 O2 : Heap → Prop} {g1 g2 : Nat → Option Value} {k1 k2 : Nat} {x y a b : Value}
theorem two_next (R1 : Rdr prog w i1 l1 B1 O1 g1) (R2 : Rdr prog w i2 l2 B2 O2 g2) {Q : Value → Shared → Prop} (D : ZipApart z TI TO i1 i2 l1 l2)
    (hz : IsZip s.heap z TI TO .none) (hTI : IsPair s.heap TI (.ref i1) (.ref i2)) (hTO : IsPair s.heap TO a b) (b1 : B1 s.heap k1) (b2 : B2 s.heap k2) (o1 : O1 s.heap) (o2 : O2 s.heap) (hx : g1 k1 = some x) (hy : g2 k2 = some y)
    (hQ : ∀ h', IsZip h' z TI TO (rawInt s.heap.objs.size) → IsPair h' TO x y → B1 h' (k1 + 1) → B2 h' (k2 + 1) → IsPair h' s.heap.objs.size x y → h'.objs.size = s.heap.objs.size + 1 →
      (∀ c o, c ≠ z → c ≠ TO → c ≠ i1 → c ≠ i2 → s.heap.get? c = some o → h'.get? c = some o) → Q (.ref s.heap.objs.size) { s with heap := h' }) :
    wpAny (model prog w) A (Builtin.«zip.__next__» ⟨[.ref z], []⟩) (fun fin s' => ∃ v, fin = .done (.ret v) ∧ Q v s') E s := by
  show wpAny _ _ (field (.ref z) 2 >>= _) _ _ _
  refine wpAny_bind (wpAny_field hz rfl (x := .bool false) rfl ?_)
  show wpAny _ _ (field (.ref z) 3 >>= _) _ _ _
  refine wpAny_bind (wpAny_field hz rfl (x := .ref TI) rfl (wpAny_bind (wpAny_seqItems hTI rfl ?_)))
  show wpAny _ _ (Builtin.SmallTypes.ownedTupleIsFree (.ref z) >>= _) _ _ _
  refine wpAny_bind ?_
  unfold Builtin.SmallTypes.ownedTupleIsFree
  refine wpAny_bind (wpAny_field hz rfl (x := .none) rfl (wpAny_pure ?_))
  simp only [if_true]
  refine wpAny_bind (wpAny_rule (wpAny_bind (wpAny_field hz rfl (x := .ref TO) rfl (wpAny_bind (wpAny_setField_rec hz (by simp) fun ha za sa => ?_)))))
  replace za : IsZip ha z TI TO .ellipsis := za
  refine wpAny_bind ?_
  simp only [List.zipIdx_cons, List.zipIdx_nil, List.forIn_cons, List.forIn_nil]
  refine wpAny_bind (wpAny_bind (wpAny_onRaise ?_))
  show wpAny _ _ (Builtin.SmallTypes.nextOf (.ref i1) >>= _) _ _ _
  refine wpAny_bind (R1.item _ _ _ k1 x _ (R1.bk _ _ _ b1 fun o => sa.extBut _ o D.i1z) (R1.ok _ _ o1 fun o => sa.extBut _ o D.l1z) hx fun hb b1' sb => wpAny_pure ?_)
  have tb : IsPair hb TO a b := sb.extBut _ _ D.TOi1 (sa.extBut _ _ D.TOz hTO)
  refine wpAny_bind (wpAny_seqItems tb rfl (wpAny_bind (wpAny_updateSeq_pair tb fun hc tc sc => ?_)))
  replace tc : IsPair hc TO x b := tc
  refine wpAny_bind (wpAny_letGo (wpAny_pure ?_))
  have up : ∀ c o, c ≠ z → c ≠ TO → c ≠ i1 → s.heap.get? c = some o → hc.get? c = some o := fun c o n1 n2 n3 e => sc.extBut _ _ n2 (sb.extBut _ _ n3 (sa.extBut _ _ n1 e))
  refine wpAny_bind (wpAny_bind (wpAny_onRaise ?_))
  show wpAny _ _ (Builtin.SmallTypes.nextOf (.ref i2) >>= _) _ _ _
  refine wpAny_bind (R2.item _ _ _ k2 y _ (R2.bk _ _ _ b2 fun o => up _ o D.i2z D.TOi2.symm D.i12.symm) (R2.ok _ _ o2 fun o => up _ o D.l2z D.l2TO D.l2i1) hy fun hd b2' sd => wpAny_pure ?_)
  have td : IsPair hd TO x b := sd.extBut _ _ D.TOi2 tc
  refine wpAny_bind (wpAny_seqItems td rfl (wpAny_bind (wpAny_updateSeq_pair td fun he te se => ?_)))
  replace te : IsPair he TO x y := te
  refine wpAny_bind (wpAny_letGo (wpAny_pure (wpAny_pure ?_)))
  refine wpAny_bind (wpAny_seqItems te rfl (wpAny_bind (wpAny_newTuple ?_)))
  have size : he.objs.size = s.heap.objs.size := by rw [se.1, sd.1, sc.1, sb.1, sa.1]
  have ze : IsZip he z TI TO .ellipsis := se.extBut _ _ D.TOz.symm (sd.extBut _ _ D.i2z.symm (sc.extBut _ _ D.TOz.symm (sb.extBut _ _ D.i1z.symm za)))
  have ke : ∀ c o, c ≠ z → c ≠ TO → c ≠ i1 → c ≠ i2 → s.heap.get? c = some o → he.get? c = some o := fun c o n1 n2 n3 n4 e => se.extBut _ _ n2 (sd.extBut _ _ n4 (up c o n1 n2 n3 e))
  have b1e : B1 he (k1 + 1) := R1.bk _ _ _ b1' fun o e => se.extBut _ _ D.TOi1.symm (sd.extBut _ _ D.i12 (sc.extBut _ _ D.TOi1.symm e))
  have b2e : B2 he (k2 + 1) := R2.bk _ _ _ b2' fun o e => se.extBut _ _ D.TOi2.symm e
  have zlt : z < he.objs.size := Heap.lt_size ze
  show wpAny _ _ (Builtin.SmallTypes.ownedTupleHandOut (.ref z) (.ref he.objs.size) >>= _) _ _ _
  refine wpAny_bind ?_
  unfold Builtin.SmallTypes.ownedTupleHandOut
  have zf : IsZip (he.push { cls := .type "tuple", data := .seq #[x, y] }) z TI TO .ellipsis := Heap.get?_push_of_some _ ze
  refine wpAny_bind (wpAny_setField_rec zf (by simp) fun hg zg sg => ?_)
  replace zg : IsZip hg z TI TO (rawInt he.objs.size) := zg
  refine wpAny_setField_rec zg (by simp) fun hi zi si => ?_
  replace zi : IsZip hi z TI TO (rawInt he.objs.size) := zi
  have fw : ∀ c o, c ≠ z → he.get? c = some o → hi.get? c = some o := fun c o n e => si.extBut _ _ n (sg.extBut _ _ n (Heap.get?_push_of_some _ e))
  have ti : IsPair hi he.objs.size x y := si.extBut _ _ (Nat.ne_of_gt zlt) (sg.extBut _ _ (Nat.ne_of_gt zlt) (Heap.get?_push_size _ rfl))
  have szi : hi.objs.size = he.objs.size + 1 := by rw [si.1, sg.1, Heap.size_push]
  rw [size] at zi ti szi
  refine wpAny_pure ⟨_, rfl, ?_⟩
  show Q (.ref he.objs.size) _
  rw [size]
  exact hQ hi zi (fw _ _ D.TOz te) (R1.bk _ _ _ b1e fun o e => fw _ o D.i1z e) (R2.bk _ _ _ b2e fun o e => fw _ o D.i2z e) ti szi fun c o n1 n2 n3 n4 e => fw c o n1 (ke c o n1 n2 n3 n4 e)
theorem two_end (R1 : Rdr prog w i1 l1 B1 O1 g1) (R2 : Rdr prog w i2 l2 B2 O2 g2) {Q : Fin → Shared → Prop} (hh : A.handled = none) (D : ZipApart z TI TO i1 i2 l1 l2)
    (hz : IsZip s.heap z TI TO .none) (hTI : IsPair s.heap TI (.ref i1) (.ref i2)) (hTO : IsPair s.heap TO a b) (b1 : B1 s.heap k1) (b2 : B2 s.heap k2) (o1 : O1 s.heap) (o2 : O2 s.heap) (hend : g1 k1 = none ∨ g2 k2 = none)
    (hE : ∀ h' e, (∀ c o, c ≠ z → c ≠ TO → c ≠ i1 → c ≠ i2 → s.heap.get? c = some o → h'.get? c = some o) → (∃ o, h'.get? e = some o ∧ o.cls = .type "StopIteration") → E (.ref e) { s with heap := h' }) :
    wpAny (model prog w) A (Builtin.«zip.__next__» ⟨[.ref z], []⟩) Q E s := by
  show wpAny _ _ (field (.ref z) 2 >>= _) _ _ _
  refine wpAny_bind (wpAny_field hz rfl (x := .bool false) rfl ?_)
  show wpAny _ _ (field (.ref z) 3 >>= _) _ _ _
  refine wpAny_bind (wpAny_field hz rfl (x := .ref TI) rfl (wpAny_bind (wpAny_seqItems hTI rfl ?_)))
  show wpAny _ _ (Builtin.SmallTypes.ownedTupleIsFree (.ref z) >>= _) _ _ _
  refine wpAny_bind ?_
  unfold Builtin.SmallTypes.ownedTupleIsFree
  refine wpAny_bind (wpAny_field hz rfl (x := .none) rfl (wpAny_pure ?_))
  simp only [if_true]
  refine wpAny_bind (wpAny_rule (wpAny_bind (wpAny_field hz rfl (x := .ref TO) rfl (wpAny_bind (wpAny_setField_rec hz (by simp) fun ha za sa => ?_)))))
  replace za : IsZip ha z TI TO .ellipsis := za
  refine wpAny_bind ?_
  simp only [List.zipIdx_cons, List.zipIdx_nil, List.forIn_cons, List.forIn_nil]
  refine wpAny_bind (wpAny_bind (wpAny_onRaise ?_))
  show wpAny _ _ (Builtin.SmallTypes.nextOf (.ref i1) >>= _) _ _ _
  have ba := R1.bk _ _ _ b1 fun o => sa.extBut _ o D.i1z
  have oa := R1.ok _ _ o1 fun o => sa.extBut _ o D.l1z
  cases hx : g1 k1 with
  | none =>
    refine wpAny_bind (R1.done _ _ _ k1 _ hh ba oa hx fun hb e sb he => ?_)
    obtain ⟨oe, hoe, hce⟩ := he
    have zb : IsZip hb z TI TO .ellipsis := sb _ _ D.i1z.symm za
    have ne : e ≠ z := fun q => by subst q; rw [zb] at hoe; cases hoe; simp at hce
    exact wpAny_setField_rec zb (by simp) fun hc _ sc => hE hc e (fun c o n1 _ n3 _ q => sc.extBut _ _ n1 (sb _ _ n3 (sa.extBut _ _ n1 q))) ⟨oe, sc.extBut _ _ ne hoe, hce⟩
  | some x =>
    have hy : g2 k2 = none := hend.resolve_left fun q => by rw [hx] at q; cases q
    refine wpAny_bind (R1.item _ _ _ k1 x _ ba oa hx fun hb b1' sb => wpAny_pure ?_)
    have tb : IsPair hb TO a b := sb.extBut _ _ D.TOi1 (sa.extBut _ _ D.TOz hTO)
    refine wpAny_bind (wpAny_seqItems tb rfl (wpAny_bind (wpAny_updateSeq_pair tb fun hc tc sc => ?_)))
    refine wpAny_bind (wpAny_letGo (wpAny_pure ?_))
    have up : ∀ c o, c ≠ z → c ≠ TO → c ≠ i1 → s.heap.get? c = some o → hc.get? c = some o := fun c o n1 n2 n3 e => sc.extBut _ _ n2 (sb.extBut _ _ n3 (sa.extBut _ _ n1 e))
    refine wpAny_bind (wpAny_bind (wpAny_onRaise ?_))
    show wpAny _ _ (Builtin.SmallTypes.nextOf (.ref i2) >>= _) _ _ _
    refine wpAny_bind (R2.done _ _ _ k2 _ hh (R2.bk _ _ _ b2 fun o => up _ o D.i2z D.TOi2.symm D.i12.symm) (R2.ok _ _ o2 fun o => up _ o D.l2z D.l2TO D.l2i1) hy fun hd e sd he => ?_)
    obtain ⟨oe, hoe, hce⟩ := he
    have zd : IsZip hd z TI TO .ellipsis := sd _ _ D.i2z.symm (sc.extBut _ _ D.TOz.symm (sb.extBut _ _ D.i1z.symm za))
    have ne : e ≠ z := fun q => by subst q; rw [zd] at hoe; cases hoe; simp at hce
    exact wpAny_setField_rec zd (by simp) fun hi _ si => hE hi e (fun c o n1 n2 n3 n4 q => si.extBut _ _ n1 (sd _ _ n4 (up c o n1 n2 n3 q))) ⟨oe, si.extBut _ _ ne hoe, hce⟩
theorem py_two (R1 : Rdr prog w i1 l1 B1 O1 g1) (R2 : Rdr prog w i2 l2 B2 O2 g2) {Q : Option Value → Shared → Prop} (D : ZipApart z TI TO i1 i2 l1 l2)
    (hz : IsZip s.heap z TI TO .none) (hTI : IsPair s.heap TI (.ref i1) (.ref i2)) (hTO : IsPair s.heap TO a b) (b1 : B1 s.heap k1) (b2 : B2 s.heap k2) (o1 : O1 s.heap) (o2 : O2 s.heap) (hx : g1 k1 = some x) (hy : g2 k2 = some y)
    (hQ : ∀ h', IsZip h' z TI TO (rawInt s.heap.objs.size) → IsPair h' TO x y → B1 h' (k1 + 1) → B2 h' (k2 + 1) → IsPair h' s.heap.objs.size x y → h'.objs.size = s.heap.objs.size + 1 →
      (∀ c o, c ≠ z → c ≠ TO → c ≠ i1 → c ≠ i2 → s.heap.get? c = some o → h'.get? c = some o) → Q (some (.ref s.heap.objs.size)) { s with heap := h' }) : wpAny (model prog w) A (pyNext (.ref z)) Q E s := by
  have ty : s.TypeIs (.ref z) "zip" := ⟨_, hz, rfl⟩
  unfold pyNext
  refine wpAny_bind (wpAny_attempt (wpAny_callSpecial?_slot (name := Str.ofString "__next__") ty F.slot_zip_next (wpAny_call_entry F.slot_zip_next ty F.entry_zip_next (two_next R1 R2 D hz hTI hTO b1 b2 o1 o2 hx hy fun h' c1 c2 c3 c4 c5 c6 c7 => wpAny_pure (hQ h' c1 c2 c3 c4 c5 c6 c7)) (F.args_zip_next_1 _))))
theorem py_two_end (R1 : Rdr prog w i1 l1 B1 O1 g1) (R2 : Rdr prog w i2 l2 B2 O2 g2) {Q : Option Value → Shared → Prop} (hh : A.handled = none) (D : ZipApart z TI TO i1 i2 l1 l2)
    (hz : IsZip s.heap z TI TO .none) (hTI : IsPair s.heap TI (.ref i1) (.ref i2)) (hTO : IsPair s.heap TO a b) (b1 : B1 s.heap k1) (b2 : B2 s.heap k2) (o1 : O1 s.heap) (o2 : O2 s.heap) (hend : g1 k1 = none ∨ g2 k2 = none)
    (hQ : ∀ h', (∀ c o, c ≠ z → c ≠ TO → c ≠ i1 → c ≠ i2 → s.heap.get? c = some o → h'.get? c = some o) → Q none { s with heap := h' }) : wpAny (model prog w) A (pyNext (.ref z)) Q E s := by
  have ty : s.TypeIs (.ref z) "zip" := ⟨_, hz, rfl⟩
  unfold pyNext
  refine wpAny_bind (wpAny_attempt (wpAny_callSpecial?_slot (name := Str.ofString "__next__") ty F.slot_zip_next (wpAny_call_entry F.slot_zip_next ty F.entry_zip_next (two_end R1 R2 hh D hz hTI hTO b1 b2 o1 o2 hend fun h' e hk he => ?_) (F.args_zip_next_1 _))))
  obtain ⟨o, ho, hc⟩ := he
  exact wpAny_bind (wpAny_isInstance (T := "StopIteration") (b := true) ⟨o, ho, hc⟩ isSubtype_stop (wpAny_pure (hQ _ hk)))
end
end MP

set_option Elab.async false
set_option linter.all false
set_option maxRecDepth 100000
set_option maxHeartbeats 1000000
/-! MiniPy 11e: walks over zip. -/
namespace MP
open PySem PySem.Spec PyProof.Rows L2
open Evl (Ex)
/-- k: a tuple; else a list -/
def SqK (K : PySem.W.Frag) (k : Bool) (H : Hp) (a : Addr) (xs : List V) : Prop := if k = true then SqT K H a xs else SqL K H a xs
def BK (k : Bool) (it l : Addr) (h : Heap) (i : Nat) : Prop := if k = true then h.IsTupleIter it l i else h.IsListIter it l i
def OK (k : Bool) (l : Addr) (xs : Array Value) (h : Heap) : Prop := if k = true then h.IsTuple l xs else h.IsList l xs
def iterO (k : Bool) (l : Addr) : Obj := { cls := .type (if k = true then "tuple_iterator" else "list_iterator"), data := .fields #[.ref l, .int 0 0] }
theorem rdr_of {prog : Program} {w : World} (k : Bool) (it l : Addr) (xs : Array Value) : Rdr prog w it l (BK k it l) (OK k l xs) (fun i => xs[i]?) := by
  cases k with
  | true => exact rdr_tup it l xs
  | false => exact rdr_lst it l xs
theorem begins_of (k : Bool) (l : Addr) (xs : Array Value) : Begins (.ref l) (iterO k l) (OK k l xs) := by
  cases k with
  | true => exact begins_tuple l xs
  | false => exact begins_list l xs
theorem bk_new {k : Bool} {it l : Addr} {h : Heap} (e : h.get? it = some (iterO k l)) : BK k it l h 0 := by
  cases k with
  | true => exact ⟨_, e, rfl, rfl⟩
  | false => exact ⟨_, e, rfl, rfl⟩
section
variable {X : Cx} {pins : List (Addr × Obj)} {σ : L2.St} {H : Hp} {s : Shared}
theorem sqk_at {k : Bool} {a : Addr} {xs : List V} (I : Inv X pins σ H s) (h : SqK X.K k H a xs) : ∃ its : List Value, Vals xs its ∧ OK k a its.toArray s.heap ∧ a < s.heap.objs.size := by
  cases k with
  | true =>
    obtain ⟨its, rv, p, _⟩ := I.tuple (show SqT X.K H a xs from h)
    obtain ⟨o, e, _⟩ := id p
    exact ⟨its, rv, p, Heap.lt_size e⟩
  | false =>
    obtain ⟨its, rv, p, _⟩ := I.list (show SqL X.K H a xs from h)
    exact ⟨its, rv, p.isList, p.lt⟩
theorem sqk_inj {k : Bool} {a : Addr} {xs ys : List V} (I : Inv X pins σ H s) (h : SqK X.K k H a xs) (h2 : SqK X.K k H a ys) : xs = ys := by
  cases k with
  | true => exact I.tuple_inj h h2
  | false => exact I.list_inj h h2
end
/-- zip of a and b as they stand at each turn -/
def ItzK (K : PySem.W.Frag) (k1 k2 : Bool) (a b : Addr) : It :=
  ⟨fun i H => ∃ (xs ys : List V) (x y : V), SqK K k1 H a xs ∧ SqK K k2 H b ys ∧ xs[i]? = some x ∧ ys[i]? = some y,
    fun i H v H' => ∃ T x y, v = .ref T ∧ H T = none ∧ H' = upd H T (.tup [x, y]) ∧ (∀ xs, SqK K k1 H a xs → xs[i]? = some x) ∧ ∀ ys, SqK K k2 H b ys → ys[i]? = some y,
    fun i H => ∃ xs ys : List V, SqK K k1 H a xs ∧ SqK K k2 H b ys ∧ (xs.length ≤ i ∨ ys.length ≤ i)⟩
theorem in5 {c z TI TO i1 i2 : Addr} (h : c ∈ [z, TI, TO, i1, i2]) : c = z ∨ c = TI ∨ c = TO ∨ c = i1 ∨ c = i2 := by simpa using h
theorem turn_zipK {P : Program} {w : World} {K : PySem.W.Frag} {elts : List Expr} {kk : Nat} {tpos : Pos} {k1 k2 : Bool} {a b z TI TO i1 i2 : Addr} (D : ZipApart z TI TO i1 i2 a b) :
    Turn P w K (.Tuple elts kk tpos) (ItzK K k1 k2 a b) [z, TI, TO, i1, i2] z (fun i h => IsZip h z TI TO .none ∧ IsPair h TI (.ref i1) (.ref i2) ∧ (∃ x y, IsPair h TO x y) ∧ BK k1 i1 a h i ∧ BK k2 i2 b h i) where
  mem := by simp
  obj := fun i h st c hc => by
    obtain ⟨hz, hTI, ⟨x, y, hTO⟩, b1, b2⟩ := st
    rcases in5 hc with q | q | q | q | q
    · rw [q]; exact ⟨_, hz, fun v q => nomatch q⟩
    · rw [q]; exact ⟨_, hTI, fun v q => nomatch q⟩
    · rw [q]; exact ⟨_, hTO, fun v q => nomatch q⟩
    · rw [q]; exact (rdr_of (prog := P) (w := w) k1 i1 a #[]).obj h i b1
    · rw [q]; exact (rdr_of (prog := P) (w := w) k2 i2 b #[]).obj h i b2
  keep := fun i h h' st k => by
    obtain ⟨hz, hTI, ⟨x, y, hTO⟩, b1, b2⟩ := st
    exact ⟨k z (by simp) _ hz, k TI (by simp) _ hTI, ⟨x, y, k TO (by simp) _ hTO⟩, (rdr_of (prog := P) (w := w) k1 i1 a #[]).bk h h' i b1 fun o q => k i1 (by simp) o q, (rdr_of (prog := P) (w := w) k2 i2 b #[]).bk h h' i b2 fun o q => k i2 (by simp) o q⟩
  item := by
    intro X hP hw hK hc i pins s σ H E I hf st hg
    subst hP hw hK
    obtain ⟨hz, hTI, ⟨x0, y0, hTO⟩, b1, b2⟩ := st
    obtain ⟨xs, ys, x, y, sx, sy, hx, hy⟩ := hg
    obtain ⟨us, rv, o1, _⟩ := sqk_at I sx
    obtain ⟨vs, rv2, o2, _⟩ := sqk_at I sy
    obtain ⟨u, hu, ru⟩ := rv.get hx
    obtain ⟨v, hv, ru2⟩ := rv2.get hy
    have hzl : z < s.heap.objs.size := Heap.lt_size hz
    refine py_two (rdr_of k1 i1 a us.toArray) (rdr_of k2 i2 b vs.toArray) D hz hTI hTO b1 b2 o1 o2 (x := u) (y := v) (by simpa using hu) (by simpa using hv) fun h' z' TO' c1 c2 hT hsz hk => ?_
    refine ⟨_, rfl, wpAny_letOwnedTupleGo_zip (s := { s with heap := h' }) z' fun h'' z'' sb => ?_⟩
    have hT2 : h''.get? s.heap.objs.size = some { cls := .type "tuple", data := .seq #[u, v] } := (sb.2 _ (Nat.ne_of_gt hzl)).trans hT
    have new : ObjOk X.prog X.w (upd H s.heap.objs.size (.tup [x, y])) h'' s.heap.objs.size (.tup [x, y]) := ⟨by show 2 ≤ sizeLine; decide, [u, v], .cons ru (.cons ru2 .nil), ⟨_, hT2, rfl, _, rfl⟩⟩
    have J : Inv X pins σ (upd H s.heap.objs.size (.tup [x, y])) { s with heap := h'' } :=
      I.turnedNew (t' := s.toks) (ch := [z, TI, TO, i1, i2]) (fun c o hb q => (sb.2 c (fun q' => hb (by simp [q']))).trans (hk c o (fun q' => hb (by simp [q'])) (fun q' => hb (by simp [q'])) (fun q' => hb (by simp [q'])) (fun q' => hb (by simp [q'])) q)) hf (Nat.le_refl _) new
    refine ⟨.ref s.heap.objs.size, _, J, rfl, ⟨_, x, y, rfl, I.hok.fresh (Nat.le_refl _), rfl, fun l hl => by rw [sqk_inj I hl sx]; exact hx, fun l hl => by rw [sqk_inj I hl sy]; exact hy⟩, ⟨z'', ?_, ⟨u, v, ?_⟩, ?_, ?_⟩, fun c hcm => ?_⟩
    · exact (sb.2 _ D.TIz).trans (hk _ _ D.TIz D.TITO D.TIi1 D.TIi2 hTI)
    · exact (sb.2 _ D.TOz).trans TO'
    · exact (rdr_of (prog := X.prog) (w := X.w) k1 i1 a #[]).bk _ _ _ c1 fun o q => (sb.2 _ D.i1z).trans q
    · exact (rdr_of (prog := X.prog) (w := X.w) k2 i2 b #[]).bk _ _ _ c2 fun o q => (sb.2 _ D.i2z).trans q
    · have hlt : c < s.heap.objs.size := by
        rcases in5 hcm with q | q | q | q | q
        · rw [q]; exact hzl
        · rw [q]; exact Heap.lt_size hTI
        · rw [q]; exact Heap.lt_size hTO
        · rw [q]; obtain ⟨_, e1, _⟩ := (rdr_of (prog := X.prog) (w := X.w) k1 i1 a #[]).obj _ i b1; exact Heap.lt_size e1
        · rw [q]; obtain ⟨_, e2, _⟩ := (rdr_of (prog := X.prog) (w := X.w) k2 i2 b #[]).obj _ i b2; exact Heap.lt_size e2
      rw [upd_ne (Nat.ne_of_lt hlt)]
      exact (hf c hcm).1
  done := by
    intro X hP hw hK hc i pins s σ H E I hf st hg
    subst hP hw hK
    obtain ⟨hz, hTI, ⟨x0, y0, hTO⟩, b1, b2⟩ := st
    obtain ⟨xs, ys, sx, sy, hend⟩ := hg
    obtain ⟨us, rv, o1, _⟩ := sqk_at I sx
    obtain ⟨vs, rv2, o2, _⟩ := sqk_at I sy
    have e1 := rv.length
    have e2 := rv2.length
    have he : us.toArray[i]? = none ∨ vs.toArray[i]? = none := by
      rcases hend with q | q
      · exact .inl (by simp; omega)
      · exact .inr (by simp; omega)
    exact py_two_end (rdr_of k1 i1 a us.toArray) (rdr_of k2 i2 b vs.toArray) (I.ok.hd hc) D hz hTI hTO b1 b2 o1 o2 he fun h' hk => ⟨rfl, I.turnedL (t' := s.toks) (ch := [z, TI, TO, i1, i2]) (fun c o hb q =>
      hk c o (fun q' => hb (by simp [q'])) (fun q' => hb (by simp [q'])) (fun q' => hb (by simp [q'])) (fun q' => hb (by simp [q'])) q) hf⟩
  self := fun A i s Q E st h => wpAny_pyIter_zip st.1 h
def iZipK (K : PySem.W.Frag) (ta : TA) : TI := fun σ H R => ta σ H fun vs H1 => ∃ k1 k2 a b xs ys, vs = [.ref a, .ref b] ∧ SqK K k1 H1 a xs ∧ SqK K k2 H1 b ys ∧ R (ItzK K k1 k2 a b) H1
theorem pi_zipK {X : Cx} {e e2 : Expr} {ta : TA} {p pos tpos : Pos} {elts : List Expr} {kk : Nat} (hg : Gl X "zip") (hm : X.mg "zip" = none) (ha : PA X [e, e2] ta)
    (hs : starEach [e, e2] X.env = (false, eval e X.env) :: starEach [e2] X.env) (hpl : (backTo pos (starEach [e2] X.env)).any (·.1) = false) : PI X (.Tuple elts kk tpos) (.Call (.Name "zip" p) [e, e2] [] pos) (iZipK X.K ta) := by
  refine ⟨fun pins s σ H R I h => ?_⟩
  refine Call_ (ld_blt I hg hm boot_zip (callWith_type1 (thn (ha.run pos pins s σ H _ I h) fun us s1 ⟨vs, H1, I1, r1, q1⟩ => ?_) hs hpl))
  obtain ⟨k1, k2, a, b, xs, ys, ex, sx, sy, q⟩ := q1
  subst ex
  obtain ⟨u, us', rfl, r, rr⟩ : ∃ u us', us = u :: us' ∧ RelV (.ref a) u ∧ Vals [.ref b] us' := by
    cases r1 with
    | cons r rr => exact ⟨_, _, rfl, r, rr⟩
  obtain ⟨u2, eu, r2⟩ := vals1 rr
  subst eu
  cases r
  cases r2
  have new : ∀ c, c ∈ [s1.heap.objs.size + 4, s1.heap.objs.size + 2, s1.heap.objs.size + 3, s1.heap.objs.size, s1.heap.objs.size + 1] → FpOk X pins H1 c := fun c hcm => by
    have hle : s1.heap.objs.size ≤ c := by
      rcases in5 hcm with q | q | q | q | q <;> rw [q] <;> first | exact Nat.le_refl _ | exact Nat.le_add_right _ _
    exact I1.fpOk hle (I1.hok.fresh hle)
  obtain ⟨vs1, rv, o1, lt1⟩ := sqk_at I1 sx
  obtain ⟨vs2, rv2, o2, lt2⟩ := sqk_at I1 sy
  refine zip_begins2 (begins_of k1 a vs1.toArray) (begins_of k2 b vs2.toArray) o1 o2 fun h' hz hTI hTO e1 e2 hsz hk => wpAny_pyIter_zip hz ?_
  have J : Inv X pins σ H1 { s1 with heap := h' } := I1.kept (t' := s1.toks) hk
  exact ⟨s1.heap.objs.size + 4, [s1.heap.objs.size + 4, s1.heap.objs.size + 2, s1.heap.objs.size + 3, s1.heap.objs.size, s1.heap.objs.size + 1], _, _, H1, rfl, J, turn_zipK (PySem.W.ktu_apart s1.heap.objs.size a b lt1 lt2), ⟨hz, hTI, ⟨_, _, hTO⟩, bk_new e1, bk_new e2⟩, new, q⟩
variable [TL : TabL]
section
variable {X : Cx} {W : WX} {c : Cf} {σ : L2.St} {φ : List Addr} {F H : Hp} {M : Mh} {K : PySem.W.Frag} {ρ : Rho} {f g : ES}
theorem still_rp {d : D} {v : V} {ds : List D} (r : Rp K φ F d v) (h : still d = some ds) : ∃ k a xs, v = .ref a ∧ SqK K k F a xs ∧ Rps K φ F ds xs := by
  cases d <;> first | (cases h; done) | skip
  · cases h
    obtain ⟨a, xs, rfl, s, rs⟩ := r
    exact ⟨true, a, xs, rfl, s, rs⟩
  · cases h
    obtain ⟨a, xs, rfl, s, rs⟩ := r
    exact ⟨false, a, xs, rfl, .inl s, rs⟩
  · cases h
    obtain ⟨a, xs, rfl, s, rs⟩ := r
    exact ⟨false, a, xs, rfl, s, rs⟩
theorem sqk_ex {k : Bool} {F F' : Hp} {a : Addr} {xs : List V} (e : Ex F F') (h : SqK K k F a xs) : SqK K k F' a xs := by
  cases k with
  | true => exact Evl.ex_t e h
  | false => exact Evl.ex_l e h
theorem pairs_get : ∀ {xs ys : List D} {i : Nat} {d : D}, (pairs xs ys)[i]? = some d → ∃ x y, d = .tup [x, y] ∧ xs[i]? = some x ∧ ys[i]? = some y
  | [], _, _, _, h => by simp [pairs] at h
  | _ :: _, [], _, _, h => by simp [pairs] at h
  | x :: xs, y :: ys, 0, d, h => by
    simp [pairs] at h
    exact ⟨x, y, h.symm, rfl, rfl⟩
  | x :: xs, y :: ys, i + 1, d, h => by
    obtain ⟨a, b, e1, e2, e3⟩ := pairs_get (xs := xs) (ys := ys) (i := i) (d := d) (by simpa [pairs] using h)
    exact ⟨a, b, e1, by simpa using e2, by simpa using e3⟩
theorem pairs_len : ∀ {xs ys : List D} {i : Nat}, (pairs xs ys).length ≤ i → xs.length ≤ i ∨ ys.length ≤ i
  | [], _, _, _ => .inl (Nat.zero_le _)
  | _ :: _, [], _, _ => .inr (Nat.zero_le _)
  | x :: xs, y :: ys, 0, h => by simp [pairs] at h
  | x :: xs, y :: ys, i + 1, h => by
    rcases pairs_len (xs := xs) (ys := ys) (i := i) (by simpa [pairs] using h) with q | q
    · exact .inl (by simpa using q)
    · exact .inr (by simpa using q)
theorem wk_zip {k1 k2 : Bool} {a b : Addr} {xs ys : List V} {ds es : List D} (s1 : SqK X.K k1 F a xs) (s2 : SqK X.K k2 F b ys) (r1 : Rps X.K φ F ds xs) (r2 : Rps X.K φ F es ys) : Wk X φ F (.fix (pairs ds es)) (ItzK X.K k1 k2 a b) where
  go := fun φ' F' H M i d pp e rel h => by
    obtain ⟨x, y, rfl, hx, hy⟩ := pairs_get (show (pairs ds es)[i]? = some d from h)
    obtain ⟨v, e1, q1⟩ := r1.get hx
    obtain ⟨u, e2, q2⟩ := r2.get hy
    have t1 : SqK X.K k1 H a xs := sqk_ex (e.trans rel.ex) s1
    have t2 : SqK X.K k2 H b ys := sqk_ex (e.trans rel.ex) s2
    refine ⟨⟨xs, ys, v, u, t1, t2, e1, e2⟩, fun z H2 ⟨T, x', y', ez, hT, eH, c1, c2⟩ => ?_⟩
    subst ez eH
    have a1 := c1 xs t1
    have a2 := c2 ys t2
    rw [e1] at a1
    rw [e2] at a2
    cases a1
    cases a2
    refine ⟨upd F' T (.tup [v, u]), Fwd.know hT _ rel.ex, rel.know hT _, ⟨T, [v, u], rfl, .of upd_same, ?_⟩⟩
    have nx : Ex F' (upd F' T (.tup [v, u])) := Evl.Ex.new (Ex.none rel.ex hT)
    exact ⟨v, [u], rfl, (q1.mono pp e).mono (List.prefix_refl _) nx, .one ((q2.mono pp e).mono (List.prefix_refl _) nx)⟩
  stop := fun φ' F' H M i pp e rel h => ⟨xs, ys, sqk_ex (e.trans rel.ex) s1, sqk_ex (e.trans rel.ex) s2, by rw [← r1.length, ← r2.length]; exact pairs_len (ends_fix h)⟩
theorem pi_z {e e2 : Expr} {p pos tpos : Pos} {elts : List Expr} {kk : Nat} (B : Bi X "zip") (ha : PE X e (tE X W c f)) (hb : PE X e2 (tE X W c g)) (hs1 : ∀ es, starEach (e :: es) X.env = (false, eval e X.env) :: starEach es X.env) (hs2 : starEach [e2] X.env = [(false, eval e2 X.env)]) :
    PI X (.Tuple elts kk tpos) (.Call (.Name "zip" p) [e, e2] [] pos) (tI X W c (iZip f g)) := by
  refine wkI (pi_zipK B.gl B.mg (pa_cons ha (pa_cons hb pa_nil hs2) (hs1 _)) (hs1 _) (by rw [hs2]; rfl)) fun σ H R ⟨φ, F, ρ, M, rel, rr, q⟩ => ?_
  refine seq rel rr q fun x H1 φ1 F1 M1 d n1 q1 => ?_
  refine seq n1.rel n1.rr q1 fun y H2 φ2 F2 M2 e n2 q2 => ?_
  obtain ⟨ds, e1, q3⟩ := Post.opt q2
  obtain ⟨es, e2, q4⟩ := Post.opt q3
  obtain ⟨k1, a, xs, rfl, s1, r1⟩ := still_rp n1.rp e1
  obtain ⟨k2, b, ys, rfl, s2, r2⟩ := still_rp n2.rp e2
  have t1 := sqk_ex n2.e s1
  exact ⟨k1, k2, a, b, xs, ys, rfl, sqk_ex n2.rel.ex t1, sqk_ex n2.rel.ex s2, Post.here n2.rel (wk_zip t1 s2 (r1.mono n2.p n2.e) r2) q4⟩
end
end MP

set_option Elab.async false
set_option linter.all false
set_option maxRecDepth 100000
set_option maxHeartbeats 2000000
/-! MiniPy 11f: a set of texts by a comprehension; its length. -/
namespace MP
open PySem PySem.Spec PyProof.Rows L2
open Evl (Ex)
/-- the set of texts at a: its members, their number -/
def StO (P : Program) (w : World) (a : Addr) (S : Str → Bool) (n : Nat) : HO := .ext fun h => h.SetOf (PySem.strKind P w) a S n
theorem st_keep {P : Program} {w : World} {h h' : Heap} {a : Addr} {S : Str → Bool} {n : Nat} (R : h.SetOf (PySem.strKind P w) a S n) (k : ∀ o, h.get? a = some o → h'.get? a = some o) : h'.SetOf (PySem.strKind P w) a S n := by
  obtain ⟨o, es, ep, t, ho, r⟩ := R
  exact ⟨o, es, ep, t, k o ho, r⟩
theorem st_new {P : Program} {w : World} {H : Hp} {h : Heap} {a : Addr} {S : Str → Bool} {n : Nat} (R : h.SetOf (PySem.strKind P w) a S n) : ObjOk P w H h a (StO P w a S n) := by
  have ⟨o, _, _, _, ho, _⟩ := R
  exact ⟨R, ⟨o, ho⟩, fun h1 h2 p k => st_keep p k⟩
theorem st_fresh {P : Program} {w : World} {h : Heap} : (h.push { cls := .type "set", dict := none, data := .set #[] 0 (.fresh 0 0 (!w.params.followText "set-order")) }).SetOf (PySem.strKind P w) h.objs.size (fun _ => false) 0 :=
  ⟨_, #[], 0, _, Heap.get?_push_size _ rfl, ⟨rfl, rfl, rfl⟩, rfl, (fun e he => by simp at he), (fun k => by simp), by decide, by rfl, rfl⟩
theorem st_pln {P : Program} {w : World} {p : Addr} {S : Str → Bool} {n : Nat} : Pln p (StO P w p S n) := by
  refine ⟨fun _ z => (by unfold StO at z; cases z), fun q z => ?_⟩
  unfold StO LamX.CodeO at z
  have e := HO.ext.inj z
  let oc : Obj := { cls := .none, data := .fields #[.none, .str q 0] }
  let h : Heap := { objs := Array.replicate (p + 1) oc }
  have g : h.get? p = some oc := by
    unfold Heap.get?
    have : h.objs[p]? = some oc := by
      show (Array.replicate (p + 1) oc)[p]? = some oc
      rw [Array.getElem?_replicate, if_pos (Nat.lt_succ_self _)]
    rw [this]
  have t : ∃ (oc : Obj) (vs : Array Value) (t : Tok), h.get? p = some oc ∧ oc.data = .fields vs ∧ vs[1]? = some (.str q t) := ⟨oc, #[.none, .str q 0], 0, g, rfl, rfl⟩
  have e2 := congrFun e h
  rw [← e2] at t
  obtain ⟨o, es, ep, tt, ho, _, hd, _⟩ := t
  rw [g] at ho
  cases ho
  cases hd
section
variable {X : Cx}
theorem addT_ok {pins : List (Addr × Obj)} {σ : L2.St} {H : Hp} {s : Shared} {E : Value → Shared → Prop} {D : Addr} {S : Str → Bool} {n : Nat} {y : Str} {t : Tok} {Q : Value → Shared → Prop} (I : Inv X pins σ H s) (hD : H D = some (StO X.prog X.w D S n)) (room : n + 1 < scanBound)
    (h : ∀ s', Inv X pins σ (upd H D (StO X.prog X.w D (fun j => S j || decide (j = y)) (if S y = true then n else n + 1))) s' → Q .none s') : wpAny (model X.prog X.w) X.A (call (.builtin "set.add") [.ref D, .str y t]) Q E s := by
  have R : s.heap.SetOf (PySem.strKind X.prog X.w) D S n := (I.hok D _ hD).1
  refine call_set_add (knd := PySem.strKind X.prog X.w) (k := y) (by show Value.isStrOf y (.str y t) = true; simp [Value.isStrOf]) rfl R room fun h' sb new => ?_
  have he : ∃ u, h'.get? D = some u := by
    have ⟨o, _, _, _, ho, _⟩ := new
    exact ⟨o, ho⟩
  exact h _ (I.write (e := D) (t' := s.toks + 1) (by rw [hD]; trivial) (.inl rfl) (fun b u hb hu => (sb.2 b hb).trans hu) he (st_new new))
theorem call_lenT : CallR X (.builtin "len") (fun xs H Q => ∃ D S n, xs = [.ref D] ∧ H D = some (StO X.prog X.w D S n) ∧ Q (.int (n : Nat)) H) := by
  intro pins s σ H xs us Q I r h
  obtain ⟨D, S, n, ex, hD, q⟩ := h
  subst ex
  obtain ⟨u, eu, rx⟩ := vals1 r
  subst eu
  cases rx
  have R : s.heap.SetOf (PySem.strKind X.prog X.w) D S n := (I.hok D _ hD).1
  obtain ⟨o, es, ep, t, ho, hex, hd, _, _, hb, hf, hn⟩ := R
  subst hn
  have hb : es.size < 4096 := hb
  refine call_len_set ho hex hd hf (by omega) ?_
  exact ⟨.int es.size, H, I.tok _, ⟨_, rfl⟩, q⟩
end
end MP

set_option Elab.async false
set_option linter.all false
set_option maxRecDepth 100000
set_option maxHeartbeats 2000000
/-! MiniPy 11g: a set of texts by a comprehension. -/
namespace MP
open PySem PySem.Spec PyProof.Rows L2
open Evl (Ex)
section
variable {X : Cx}
/-- {elt for target in iter if ..}, elt a text: D the new set -/
def tScT (P : Program) (w : World) (wi : TI) (g : TG) (tt : TT) (te : TE) (vs : List Nat) : TE := fun σ H Q => wi σ H fun J H1 => ∀ D, H1 D = none → ∃ W : Nat → Nat → Hp → Prop, (∃ m, W 0 m (upd H1 D (StO P w D (fun _ => false) 0))) ∧ ∀ i m H, W i m H →
  (J.stop i H ∧ Q (.ref D) H) ∨ (J.go i H ∧ ∃ Nx : Hp → Prop, (∀ H', Nx H' → ∃ m', m' < m ∧ W (i + 1) m' H') ∧ ∀ x H', J.yld i H x H' → g x (wipe σ vs) H' fun σ2 H2 => wipe σ2 vs = wipe σ vs ∧ tt σ2 H2 fun b H3 =>
    if b = true then te σ2 H3 fun y H4 => ∃ (c : Str) (S : Str → Bool) (n : Nat), y = .str c ∧ H4 D = some (StO P w D S n) ∧ n + 1 < scanBound ∧ Nx (upd H4 D (StO P w D (fun j => S j || decide (j = c)) (if S c = true then n else n + 1))) else Nx H3)
theorem pe_scT {elt tg iter : Expr} {ifs : List Expr} {scope : Scope} {own : List (Str × Nat)} {pos : Pos} {wi : TI} {g : TG} {tt : TT} {te : TE} (hc : X.calm = true) (hN : X.N.Nodup) (hi : PI X tg iter wi) (ok : BlkOk X.N X.env.scope scope own)
    (hg : ∀ (s : Shared) (H : Hp) (C : Addr) (cl : List (Str × Addr)) (fp : List Addr), PG (X.blk s H scope (compEnvC scope cl C X.env) fp) tg g) (ht : ∀ (s : Shared) (H : Hp) (C : Addr) (cl : List (Str × Addr)) (fp : List Addr), PTs (X.blk s H scope (compEnvC scope cl C X.env) fp) ifs tt)
    (he : ∀ (s : Shared) (H : Hp) (C : Addr) (cl : List (Str × Addr)) (fp : List Addr), PE (X.blk s H scope (compEnvC scope cl C X.env) fp) elt te) (hs : ∀ x, foldedSetIterable iter X.env x = pure x) :
    PE X (.SetComp elt [⟨tg, iter, ifs, 0⟩] scope pos) (tScT X.prog X.w wi g tt te (own.map (·.2))) := by
  refine ⟨fun pins s σ H Q I h => ?_⟩
  rw [PpSet.eval_SetComp]
  have hfree : ∀ y ∈ scope.names, y.2 = .free → ∃ c, X.env.cells.lookup y.1 = some c := fun y hy e => (ok.free y hy e).elim (fun k => I.ok.has _ (.inl k)) fun k => I.ok.has _ (.inr k)
  refine wpAny_comprehension_free (use := none) rfl hs (closure_ok hfree) ok.kind (fun y hy e => by rw [ok.uniq y hy, e]) (thn (hi.run pins s σ H _ I h) fun xv sa hx => thn hx fun itv sb hb => ?_)
  obtain ⟨it, fp, tn, J, Hb, e, Ib, T, stb, fb, q⟩ := hb
  subst e
  refine PpSet.newSet_ok (newEnv_comp ?_)
  generalize hD : sb.heap.objs.size = D
  have hDn : Hb D = none := Ib.hok.fresh (Nat.le_of_eq hD)
  obtain ⟨W, ⟨m0, w0⟩, turn⟩ := q D hDn
  generalize hsc : ({ sb with heap := sb.heap.push { cls := .type "set", dict := none, data := .set #[] 0 (.fresh 0 0 (!X.w.params.followText "set-order")) } } : Shared) = sc
  have Ic : Inv X pins σ (upd Hb D (StO X.prog X.w D (fun _ => false) 0)) sc := by
    rw [← hsc]
    refine Ib.laid (t' := sb.toks) (fun b o e => Heap.get?_push_of_some _ e) (Nat.le_of_eq hD) ?_
    rw [← hD]
    exact st_new st_fresh
  have hpc : sc.heap = sb.heap.push { cls := .type "set", dict := none, data := .set #[] 0 (.fresh 0 0 (!X.w.params.followText "set-order")) } := by rw [← hsc]
  have below : ∀ b ∈ fp, b < sb.heap.objs.size := fun b hb => by
    obtain ⟨o, e, _⟩ := T.obj _ _ stb b hb
    exact Heap.lt_size e
  have fc : ∀ b ∈ fp, FpOk X pins (upd Hb D (StO X.prog X.w D (fun _ => false) 0)) b ∧ b < sc.heap.objs.size := fun b hb => by
    have hlt := below b hb
    refine ⟨⟨?_, (fb b hb).2⟩, by rw [hpc, Heap.size_push]; exact Nat.lt_succ_of_lt hlt⟩
    rw [upd_ne (by rw [← hD]; exact Nat.ne_of_lt hlt)]
    exact (fb b hb).1
  have stc : tn 0 sc.heap := T.keep _ _ _ stb fun b _ o e => by rw [hpc]; exact Heap.get?_push_of_some _ e
  have Id := block_start Ic ok hN fc
  have pg := hg sc (upd Hb D (StO X.prog X.w D (fun _ => false) 0)) sc.heap.objs.size (cellsFrom (sc.heap.objs.size + 1) scope.names (cloFrom X.env.cells scope.names [])) fp
  have pt := ht sc (upd Hb D (StO X.prog X.w D (fun _ => false) 0)) sc.heap.objs.size (cellsFrom (sc.heap.objs.size + 1) scope.names (cloFrom X.env.cells scope.names [])) fp
  have pe := he sc (upd Hb D (StO X.prog X.w D (fun _ => false) 0)) sc.heap.objs.size (cellsFrom (sc.heap.objs.size + 1) scope.names (cloFrom X.env.cells scope.names [])) fp
  show codeAny _ _ (.compStart (.SetComp elt [⟨tg, iter, ifs, 0⟩] scope pos) 0 (.ref it) (.ref D) (compEnvC scope (cellsFrom (sc.heap.objs.size + 1) scope.names (cloFrom X.env.cells scope.names [])) sc.heap.objs.size X.env)) (compPost (model X.prog X.w) X.A X.xe none (EP X pins σ Q) (.ref D) sc.heap.objs.size) { sc with heap := pushCells (sc.heap.push { cls := .type "dict", data := .dict #[] }) scope.names }
  have nfp : ∀ b ∈ fp, (upd Hb D (StO X.prog X.w D (fun _ => false) 0)) b = none := fun b hb => (fc b hb).1.1
  generalize hce : compEnvC scope (cellsFrom (sc.heap.objs.size + 1) scope.names (cloFrom X.env.cells scope.names [])) sc.heap.objs.size X.env = ce at Id pg pt pe ⊢
  have cL : ce.locals = sc.heap.objs.size := by subst hce; rfl
  generalize hHc : upd Hb D (StO X.prog X.w D (fun _ => false) 0) = Hc at Ic Id pg pt pe w0 nfp fc
  generalize hsd : ({ sc with heap := pushCells (sc.heap.push { cls := .type "dict", data := .dict #[] }) scope.names } : Shared) = sd at Id ⊢
  have std : tn 0 sd.heap := T.keep _ _ _ stc fun b _ o e => by rw [← hsd]; exact pushCells_keeps _ _ _ _ (Heap.get?_push_of_some _ e)
  have stat : ∀ {σ' : L2.St} {H' : Hp} {s' : Shared}, Inv (X.blk sc Hc scope ce fp) [] σ' H' s' → (∀ b ∈ fp, H' b = none) → ∀ b ∈ fp, FpOk (X.blk sc Hc scope ce fp) [] H' b := fun {σ' H' s'} I' hn b hb =>
    ⟨hn b hb, (I'.ok.exf b hb).1, I'.ok.exfs b hb, .inl hb, fun x c e => (I'.ok.exf b hb).2 x c e, fun p hp => absurd (show p ∈ ([] : List (Addr × Obj)) ++ [] from hp) (by simp)⟩
  have loop : codeAny (model X.prog X.w) X.A (.compLoop (.SetComp elt [⟨tg, iter, ifs, 0⟩] scope pos) 0 (.ref it) (.ref D) ce) (compPost (model X.prog X.w) X.A X.xe none (EP X pins σ Q) (.ref D) sc.heap.objs.size) sd := by
    refine PpSet.compLoopS_any (fun n s' => ∃ i H', Inv (X.blk sc Hc scope ce fp) [] (wipe σ (own.map (·.2))) H' s' ∧ tn i s'.heap ∧ (∀ b ∈ fp, H' b = none) ∧ W i n H') ?_ m0 ⟨0, Hc, Id, std, nfp, w0⟩
    rintro n se ⟨i, He, Ie, ste, ne, we⟩
    rcases turn i n He we with ⟨stop, qq⟩ | ⟨go, Nx, hNx, step⟩
    · refine thnF (T.done (X.blk sc Hc scope ce fp) rfl rfl rfl hc i [] se _ He (fun _ _ => False) Ie (stat Ie ne) ste stop) fun r sf ⟨hr, If⟩ => ?_
      subst hr
      have Ig : Inv X pins σ He sf := Ic.call' (ch := fp) If.os If.base If.hok If.bare fun b hb => ⟨(fc b hb).1.2.2.2.1, (fc b hb).1.2.1, (fc b hb).1.2.2.2.2.1, (fc b hb).1.2.2.2.2.2⟩
      have nC : He sc.heap.objs.size = none := by
        have z : He ce.locals = none := If.free
        rw [cL] at z
        exact z
      obtain ⟨m, hn, _⟩ := If.loc
      have hn : sf.heap.Ns ce.locals m := hn
      rw [cL] at hn
      obtain ⟨f0, f1, f2, f3, f4, f5⟩ := Ic.fpOk (Nat.le_refl _) nC
      exact ⟨m, hn, fun h'' sb' => ⟨.ref D, He, Ig.turned (t' := sf.toks) (fun b o hb e => (sb'.2 b hb).trans e) f0 f1 f3 f4 f5, rfl, qq⟩⟩
    · refine thnF (T.item (X.blk sc Hc scope ce fp) rfl rfl rfl hc i [] se _ He (fun _ _ => False) Ie (stat Ie ne) ste go) fun r sf ⟨u, hr, hf⟩ => ?_
      subst hr
      refine thnF hf fun _ sg ⟨x, Hg, Ig, rg, yg, stg, ng⟩ => ?_
      have Ip := Ig.pinned (stat Ig ng) (T.obj _ _ stg)
      refine thnF (pg.run _ sg _ Hg x u _ Ip rg (step x Hg yg)) fun _ sh ⟨σh, Hh, Ih, hwh, qh⟩ => ?_
      refine thnF (pt.run _ sh σh Hh _ Ih qh) fun b si ⟨Hi, Ii, qi⟩ => ?_
      have fin : ∀ {s' : Shared} {H' : Hp}, Inv (X.blk sc Hc scope ce fp) ([] ++ pinsAt fp sg.heap) σh H' s' → Nx H' → ∃ m, m < n ∧ ∃ i H', Inv (X.blk sc Hc scope ce fp) [] (wipe σ (own.map (·.2))) H' s' ∧ tn i s'.heap ∧ (∀ b ∈ fp, H' b = none) ∧ W i m H' := fun {s' H'} I' nx => by
        obtain ⟨m', hm, w'⟩ := hNx H' nx
        have pin' : ∀ b ∈ fp, ∀ o, sg.heap.get? b = some o → s'.heap.get? b = some o ∧ H' b = none := fun b hb o e =>
          let z := I'.pin (b, o) (List.mem_append_right _ (List.mem_append_right _ (mem_pinsAt hb e)))
          ⟨z.1, z.2.1⟩
        have hl : (wipe σ (own.map (·.2))).length = σh.length := by rw [← hwh, wipe_length]
        refine ⟨m', hm, i + 1, H', (I'.unpinned (pins := [])).weak hl (fun j v e => ?_), T.keep _ _ _ stg fun b hb o e => (pin' b hb o e).1, fun b hb => ?_, w'⟩
        · rw [← hwh] at e
          exact (wipe_some e).1
        · obtain ⟨o, e, _⟩ := T.obj _ _ stg b hb
          exact (pin' b hb o e).2
      cases b with
      | false =>
        simp only [Bool.false_eq_true, if_false] at qi ⊢
        exact fin Ii qi
      | true =>
        simp only [if_true] at qi ⊢
        refine thnF (pe.run _ si σh Hi _ Ii qi) fun z sj ⟨yv, Hj, Ij, rj, cb, S0, n0, ey, hDj, hzj, nx⟩ => ?_
        subst ey
        obtain ⟨t, rfl⟩ := (show ∃ t, z = Value.str cb t from rj)
        exact addT_ok (X := X.blk sc Hc scope ce fp) Ij hDj hzj fun sk Ik => fin Ik nx
  exact PpSet.codeAny_compStart_set loop (T.self X.A 0 _ _ _ std loop)
end
end MP

set_option Elab.async false
set_option linter.all false
set_option maxRecDepth 100000
set_option maxHeartbeats 2000000
/-! MiniPy 11h: how many texts, each once. -/
namespace MP
open PySem PySem.Spec PyProof.Rows L2
open Evl (Ex)
variable [TL : TabL]
theorem dedup_mem {x : Str} : ∀ {l : List Str}, x ∈ dedup l ↔ x ∈ l
  | [] => Iff.rfl
  | y :: r => by
    unfold dedup
    split
    · rename_i h
      rw [dedup_mem, List.mem_cons]
      refine ⟨.inr, fun z => z.elim (fun e => ?_) id⟩
      rw [e]
      simpa using h
    · rw [List.mem_cons, List.mem_cons, dedup_mem]
theorem dedup_snoc {y : Str} : ∀ {l : List Str}, (dedup (l ++ [y])).length = if l.contains y = true then (dedup l).length else (dedup l).length + 1
  | [] => by simp [dedup]
  | x :: r => by
    have ih := @dedup_snoc y r
    have e : (x :: r) ++ [y] = x :: (r ++ [y]) := rfl
    rw [e]
    by_cases hx : x ∈ r
    · have h1 : (r ++ [y]).contains x = true := by simp [hx]
      have h2 : r.contains x = true := by simpa using hx
      have h3 : (x :: r).contains y = r.contains y := by
        by_cases hy : y = x
        · subst hy; simp [hx]
        · simp [hy]
      unfold dedup
      rw [if_pos h1, if_pos h2, h3]
      exact ih
    · have h2 : ¬ r.contains x = true := by simpa using hx
      by_cases hy : y = x
      · subst hy
        have h1 : (r ++ [y]).contains y = true := by simp
        unfold dedup
        rw [if_pos h1, if_neg h2, if_pos (by simp), ih, if_neg h2]
        rfl
      · have h1 : ¬ (r ++ [y]).contains x = true := by simpa [hx] using fun z : x = y => hy z.symm
        have h3 : (x :: r).contains y = r.contains y := by simp [hy]
        unfold dedup
        rw [if_neg h1, if_neg h2, h3, List.length_cons, List.length_cons, ih]
        split <;> rfl
theorem allStr_app : ∀ {a : List Str} {ys : List D} {zs : List Str}, allStr (a.map MP.D.str ++ ys) = some zs → ∃ r, allStr ys = some r ∧ zs = a ++ r
  | [], ys, zs, h => ⟨zs, h, rfl⟩
  | x :: a, ys, zs, h => by
    have h : (allStr (a.map MP.D.str ++ ys)).map (x :: ·) = some zs := h
    obtain ⟨q, e1, e2⟩ := Option.map_eq_some_iff.mp h
    obtain ⟨r, e3, e4⟩ := allStr_app e1
    exact ⟨r, e3, by rw [← e2, e4]; rfl⟩
theorem allStr_cons {d : D} {ys : List D} {zs : List Str} (h : allStr (d :: ys) = some zs) : ∃ x r, d = .str x ∧ zs = x :: r ∧ allStr ys = some r := by
  cases d <;> first | (cases h; done) | skip
  rename_i x
  obtain ⟨r, e1, e2⟩ := Option.map_eq_some_iff.mp (show (allStr ys).map (x :: ·) = some zs from h)
  exact ⟨x, r, rfl, e2.symm, e1⟩
section
variable {X : Cx} {W W0 : WX} {c : Cf} {σ : L2.St} {φ : List Addr} {F H : Hp} {M : Mh} {K : PySem.W.Frag} {ρ : Rho}
theorem sc_run {g : Tg} {gt : TG} {vs ss : List Nat} {t : TSm} {e : ES} {S : Src} {J : It} {n : Nat} {Q : VK} {ys : List D} {zs : List Str} {Mend : Mh} (hg : Tgt X gt ss g) (hss : ∀ j ∈ ss, j ∈ vs) (rel : Rel X.K φ F H M) (rr : RR X.K φ F ρ σ) (wk : Wk X φ F S J)
    (hl : lcLoop (lcTurn g vs t e c ρ) S n 0 M = .ok ys Mend) (hzs : allStr ys = some zs) (hz : zs.length < 1000) (D : Addr) (hD : H D = none)
    (hq : ∀ φ' F' H' So, Fwd φ F H φ' F' H' → Rel X.K φ' F' H' Mend → H' D = some (StO X.prog X.w D So (dedup zs).length) → Q (.ref D) H') :
    ∃ Wv : Nat → Nat → Hp → Prop, (∃ m, Wv 0 m (upd H D (StO X.prog X.w D (fun _ => false) 0))) ∧ ∀ i m H, Wv i m H →
      (J.stop i H ∧ Q (.ref D) H) ∨ (J.go i H ∧ ∃ Nx : Hp → Prop, (∀ H', Nx H' → ∃ m', m' < m ∧ Wv (i + 1) m' H') ∧ ∀ x H', J.yld i H x H' → gt x (wipe σ vs) H' fun σ2 H2 => wipe σ2 vs = wipe σ vs ∧ tT X W0 c t σ2 H2 fun b H3 =>
        if b = true then tE X W0 c e σ2 H3 fun y H4 => ∃ (c : Str) (S : Str → Bool) (n : Nat), y = .str c ∧ H4 D = some (StO X.prog X.w D S n) ∧ n + 1 < scanBound ∧ Nx (upd H4 D (StO X.prog X.w D (fun j => S j || decide (j = c)) (if S c = true then n else n + 1))) else Nx H3) := by
  have nt : ∀ {So : Str → Bool} {k : Nat} (ps : Array Value), StO X.prog X.w D So k ≠ .tbl ps := fun {So k} ps => (st_pln (p := D) (S := So) (n := k)).1 ps
  have d0 : ∀ {l : List Str}, (dedup l).length ≤ l.length := fun {l} => by
    induction l with
    | nil => exact Nat.le_refl _
    | cons x r ih =>
      unfold dedup
      split
      · exact Nat.le_succ_of_le ih
      · exact Nat.succ_le_succ ih
  have hnD : D ∉ φ := fun z => by obtain ⟨o, ho⟩ := rel.has z; rw [hD] at ho; cases ho
  refine ⟨fun i m H2 => ∃ φ2 F2 M2 acc ys', Fwd φ F H φ2 F2 H2 ∧ Rel X.K φ2 F2 H2 M2 ∧ H2 D = some (StO X.prog X.w D (fun j => acc.contains j) (dedup acc).length) ∧ F2 D = none ∧ D ∉ φ2 ∧ lcLoop (lcTurn g vs t e c ρ) S m i M2 = .ok ys' Mend ∧ acc.map MP.D.str ++ ys' = ys,
    ⟨n, φ, F, M, [], ys, (Fwd.refl _ _ _).side hD _, rel.side _ (Ex.none rel.ex hD) hnD (.inl hD), upd_same, Ex.none rel.ex hD, hnD, hl, rfl⟩, ?_⟩
  rintro i m H2 ⟨φ2, F2, M2, acc, ys', w, rel2, hD2, hF2, hφ2, hl2, hys⟩
  cases m with
  | zero =>
    obtain ⟨h1, h2⟩ := ok_of_chk (show chk (S.ends i M2) (R.ok [] M2) = .ok ys' Mend from hl2)
    cases h2
    rw [List.append_nil] at hys
    subst hys
    obtain ⟨r, e1, e2⟩ := allStr_app (ys := []) (by rw [List.append_nil]; exact hzs)
    cases e1
    rw [List.append_nil] at e2
    subst e2
    exact .inl ⟨wk.stop φ2 F2 H2 _ i w.pre w.ex rel2 h1, hq φ2 F2 H2 _ w rel2 hD2⟩
  | succ m =>
    obtain ⟨d, e1, h1⟩ := ok_of_opt (show (opt (S.item i M2) fun d => (lcTurn g vs t e c ρ d M2).bind fun o M1 => (lcLoop (lcTurn g vs t e c ρ) S m (i + 1) M1).bind fun r M2 => R.ok (keepO o r) M2) = .ok ys' Mend from hl2)
    obtain ⟨o, M3, e2, h2⟩ := ok_of_bind h1
    obtain ⟨r, M4, e3, h3⟩ := ok_of_bind h2
    have h3 : R.ok (keepO o r) M4 = .ok ys' Mend := h3
    obtain ⟨go, yl⟩ := wk.go φ2 F2 H2 M2 i d w.pre w.ex rel2 e1
    refine .inr ⟨go, fun H' => ∃ φ2 F2 acc, Fwd φ F H φ2 F2 H' ∧ Rel X.K φ2 F2 H' M3 ∧ H' D = some (StO X.prog X.w D (fun j => acc.contains j) (dedup acc).length) ∧ F2 D = none ∧ D ∉ φ2 ∧ acc.map MP.D.str ++ r = ys, ?_, ?_⟩
    · rintro H' ⟨φ', F', acc', q1, q2, q3, q4, q5, q7⟩
      have : M4 = Mend := by cases h3; rfl
      subst this
      exact ⟨m, Nat.lt_succ_self m, φ', F', M3, acc', r, q1, q2, q3, q4, q5, e3, q7⟩
    · intro x H' hy
      obtain ⟨F3, w3, rel3, rd⟩ := yl x H' hy
      obtain ⟨hD3, hF3, hφ3⟩ := w3.apart hD2 hF2 hφ2 nt
      have w03 := w.trans w3
      obtain ⟨ρ1, e4, h4⟩ := ok_of_opt (show (opt (g.bind d (wipeR ρ vs)) fun ρ1 => (t c ρ1 M2).bind fun k M1 => if k = true then (e c ρ1 M1).bind fun x M2 => R.ok (some x) M2 else R.ok none M1) = .ok o M3 from e2)
      obtain ⟨k, M5, e5, h5⟩ := ok_of_bind h4
      refine hg φ2 F3 H' M2 d x (wipeR ρ vs) ρ1 (wipe σ vs) _ rel3 ((rr.mono w03.pre w03.ex).wipe vs) rd e4 fun σ' rr' same hl' => ⟨wipe_same hss same hl', ?_⟩
      refine ⟨φ2, F3, ρ1, M2, rel3, rr', ?_⟩
      rw [e5]
      intro φ4 F4 H4 b w4 rel4 hb
      have hb : k = b := hb
      subst hb
      obtain ⟨hD4, hF4, hφ4⟩ := w4.apart hD3 hF3 hφ3 nt
      cases k with
      | false =>
        have h5 : R.ok none M5 = .ok o M3 := h5
        cases h5
        refine ⟨φ4, F4, acc, w03.trans w4, rel4, hD4, hF4, hφ4, ?_⟩
        rw [← hys]
        cases h3
        rfl
      | true =>
        obtain ⟨y, M6, e6, h6⟩ := ok_of_bind (show ((e c ρ1 M5).bind fun x M2 => R.ok (some x) M2) = .ok o M3 from h5)
        cases (show R.ok (some y) M6 = .ok o M3 from h6)
        refine ⟨φ4, F4, ρ1, M5, rel4, rr'.mono w4.pre w4.ex, ?_⟩
        rw [e6]
        intro φ5 F5 H5 v w5 rel5 ry
        obtain ⟨hD5, hF5, hφ5⟩ := w5.apart hD4 hF4 hφ4 nt
        have hys2 : acc.map MP.D.str ++ (y :: r) = ys := by
          rw [← hys]
          cases h3
          rfl
        obtain ⟨r1, a1, a2⟩ := allStr_app (show allStr (acc.map MP.D.str ++ (y :: r)) = some zs by rw [hys2]; exact hzs)
        obtain ⟨yt, r2, rfl, a4, a5⟩ := allStr_cons a1
        cases (show v = V.str yt from ry)
        have hlen : acc.length < 1000 := by
          rw [a2, List.length_append] at hz
          omega
        have hb : (dedup acc).length + 1 < scanBound := by
          have := @d0 acc
          show _ < 4096
          omega
        refine ⟨yt, _, _, rfl, hD5, hb, φ5, F5, acc ++ [yt], ((w03.trans w4).trans w5).side hD _, rel5.side _ hF5 hφ5 (.inr ⟨_, hD5, st_pln⟩), ?_, hF5, hφ5, ?_⟩
        · rw [upd_same, dedup_snoc]
          congr 1
          congr 1
          funext j
          rw [List.contains_append]
          congr 1
          simp [List.contains_cons]
          try (by_cases hj : j = yt <;> simp [hj])
        · rw [List.map_append, List.append_assoc]
          exact hys2
theorem pe_lnst {elt tg iter : Expr} {ifs : List Expr} {scope : Scope} {own : List (Str × Nat)} {p pos pos2 : Pos} {i : IS} {g : Tg} {gt : TG} {ss : List Nat} {t : TSm} {e : ES} (B : Bi X "len") (hc : X.calm = true) (hN : X.N.Nodup) (hi : PI X tg iter (tI X W c i)) (ok : BlkOk X.N X.env.scope scope own)
    (hgt : Tgt X gt ss g) (hss : ∀ j ∈ ss, j ∈ own.map (·.2))
    (hg : ∀ (s : Shared) (H : Hp) (C : Addr) (cl : List (Str × Addr)) (fp : List Addr), PG (X.blk s H scope (compEnvC scope cl C X.env) fp) tg gt) (ht : ∀ (s : Shared) (H : Hp) (C : Addr) (cl : List (Str × Addr)) (fp : List Addr), PTs (X.blk s H scope (compEnvC scope cl C X.env) fp) ifs (tT X W0 c t))
    (he : ∀ (s : Shared) (H : Hp) (C : Addr) (cl : List (Str × Addr)) (fp : List Addr), PE (X.blk s H scope (compEnvC scope cl C X.env) fp) elt (tE X W0 c e)) (hs : ∀ x, foldedSetIterable iter X.env x = pure x) :
    PE X (.Call (.Name "len" p) [.SetComp elt [⟨tg, iter, ifs, 0⟩] scope pos] [] pos2) (tE X W c (sLenSet i g (own.map (·.2)) t e)) := by
  refine wkE (pe_callB call_lenT B.gl B.mg boot_len (pa_cons (pe_scT hc hN hi ok hg ht he hs) pa_nil)) fun σ H Q ⟨φ, F, ρ, M, rel, rr, q⟩ => ?_
  refine seq rel rr q fun J H1 φ1 F1 M1 S n1 q1 => ?_
  obtain ⟨ys, M2, e1, q2⟩ := Post.okOf lcAll_noExc q1
  obtain ⟨n, e2, h2⟩ := ok_of_opt (show (opt (S.size M1) fun n => chk (decide (n ≤ line)) (noExc (lcLoop (lcTurn g (own.map (·.2)) t e c ρ) S n 0 M1))) = .ok ys M2 from e1)
  obtain ⟨h3, h4⟩ := ok_of_chk h2
  obtain ⟨zs, hz, q3⟩ := Post.opt q2
  obtain ⟨hl, q4⟩ := Post.chk q3
  intro D hD
  refine sc_run (W0 := W0) (Q := fun v H => (fun xs H Q => ∃ D S n, xs = [V.ref D] ∧ H D = some (StO X.prog X.w D S n) ∧ Q (.int (n : Nat)) H) [v] H Q) hgt hss n1.rel n1.rr n1.rp (ok_of_noExc h4) hz (of_decide_eq_true hl) D hD fun φ' F' H' So w' rel' hD' => ⟨D, So, _, rfl, hD', q4 φ' F' H' _ w' rel' rfl⟩
end
end MP

set_option Elab.async false
set_option linter.all false
set_option maxRecDepth 100000
/-! MiniPy 12: from the model's text to what is computed; it is sound. -/
namespace MP
open PySem PySem.Spec PyProof.Rows L2
open Evl (Ex)
variable [TL : TabL]

/-! ### looks at a text -/
def notStar : Expr → Bool
  | .Starred .. => false
  | _ => true
def noSlice : Expr → Bool
  | .Slice .. => false
  | _ => true
def noComp : Expr → Bool
  | .ListComp .. | .SetComp .. | .DictComp .. => false
  | _ => true
def noSet : Expr → Bool
  | .Set .. => false
  | _ => true
def noTup : Expr → Bool
  | .Tuple .. | .List .. => false
  | _ => true
def plainT : Expr → Bool
  | .UnaryOp .Not _ _ | .BoolOp .. | .IfExp .. | .Compare .. => false
  | _ => true
theorem star_c {e : Expr} (es : List Expr) {env : Env} (h : notStar e = true) : starEach (e :: es) env = (false, eval e env) :: starEach es env := by
  cases e <;> first | rfl | cases h
theorem star_1 {e : Expr} {env : Env} (h : notStar e = true) : starEach [e] env = [(false, eval e env)] := star_c [] h
theorem star_any (pos : Pos) {env : Env} : ∀ {es : List Expr}, es.all notStar = true → (backTo pos (starEach es env)).any (·.1) = false := by
  intro es h
  have e : ∀ {es : List Expr}, es.all notStar = true → (starEach es env).any (·.1) = false := by
    intro es
    induction es with
    | nil => intro _; rfl
    | cons e es ih =>
      intro h
      rw [List.all_cons, Bool.and_eq_true] at h
      rw [star_c es h.1, List.any_cons, ih h.2] <;> rfl
  unfold backTo
  rw [List.any_map]
  exact e h
theorem plain_ix {b : Expr} (h : noSlice b = true) : PlainIx b := by
  intro o i
  cases b <;> first | rfl | cases h
theorem plain_t {e : Expr} {env : Env} (h : plainT e = true) (whole : Sem Value) : isTrue e env whole = (do let v ← whole; standAt e.pos; holding [v] (truthy v)) := by
  cases e <;> first | rfl | (cases h; done) | skip
  rename_i op x p
  cases op <;> first | rfl | cases h
theorem swaps_ok {e : Expr} {t : Option Expr} {l : Nat} {env : Env} (h : noComp e = true) : swapsWith e t l env = pure false := by
  cases e <;> first | rfl | cases h
theorem swaps_sole {e t : Expr} {l : Nat} {env : Env} (h : noComp e = true) : swapsWithSole [t] e l env = pure false := swaps_ok h
theorem fold_ok {e : Expr} {env : Env} (h : noSet e = true) (x : Value) : foldedSetIterable e env x = pure x := by
  cases e <;> first | rfl | cases h
theorem stores_ok {t e : Expr} {env : Env} (h : noTup t = true ∨ noTup e = true) : swappedStores [t] e env = pure none := by
  rcases h with h | h
  · cases t <;> first | (cases h; done) | rfl
  · cases e <;> first | (cases h; done) | (cases t <;> rfl)

/-! ### the place of a text -/
structure Sta where
  N : List Str
  sc : Scope
  /-- the built-ins' names that the module leaves alone -/
  free : List Str
  /-- the module's constants -/
  cons : List (Str × D)
  /-- the module's defs that may be called -/
  fns : List Str
  /-- where a new list is a handle -/
  mtb : Pos → Bool
  /-- the module's defs that hear a lambda: the word that they tell -/
  hears : List (Str × Str)
  /-- a def's own block -/
  top : Bool
def Sta.vis (S : Sta) (x : Str) : Bool := match S.sc.names.lookup x with
  | some .local | some .cell | some .free => true
  | _ => false
def Sta.glo (S : Sta) (x : Str) : Bool := decide (S.sc.names.lookup x = some .globalImplicit)
def Sta.loc (S : Sta) (x : Str) : Bool := match S.sc.names.lookup x with
  | some .local => true
  | some .cell => S.top
  | _ => false
def Sta.bi (S : Sta) (x : Str) : Bool := S.glo x && S.free.contains x
/-- the promise of a def by what it computes -/
def PostC (K : PySem.W.Frag) (φ : List Addr) (F H : Hp) (r : R D) (Q : VK) : Prop := match r with
  | .ok d M => ∀ φ' F' H' v, Fwd φ F H φ' F' H' → Rel K φ' F' H' M → Rp K φ' F' d v → Q v H'
  | _ => False
def spC (K : PySem.W.Frag) (r : List D → Mh → R D) : Sp := fun vs H Q _ => ∃ φ F ds M, Rel K φ F H M ∧ Rps K φ F ds vs ∧ PostC K φ F H (r ds M) Q
/-- f: try: return (word, a()) except .. -/
def HearF (K : PySem.W.Frag) (mg : Str → Option Value) (f word : Str) : Prop :=
  ∃ (g : Addr) (od an : Option Addr) (oc dV kV doc pm cdv ct : Value) (osl : Array (Option Value)) (pg : Arguments) (sg : Scope) (Ng : List Str) (a : Str) (j kk : Nat) (q1 q2 p1 p2 p3 p8 : Pos) (h0 : ExceptHandler) (hs : List ExceptHandler),
    mg f = some (.ref g) ∧ PySem.W.keepIn K (.ref g) = true ∧ K.lookup g = some ⟨oc, od, .func (PySem.W.fnOf f f pg [.Try [.Return (some (.Tuple [.Constant (.str word) j q1, .Call (.Name a p1) [] [] p2] kk q2)) p3] (h0 :: hs) [] [] p8] sg dV kV doc pm an cdv ct), osl⟩ ∧
    PySem.W.codeIn K cdv f = true ∧ L2.Binds K (PySem.W.fnOf f f pg [.Try [.Return (some (.Tuple [.Constant (.str word) j q1, .Call (.Name a p1) [] [] p2] kk q2)) p3] (h0 :: hs) [] [] p8] sg dV kV doc pm an cdv ct) [a] [] ∧ FnScope Ng [a] sg ∧ Ng[0]? = some a ∧ Vis sg a ∧
    (f == ("__debug__" : Str)) = false ∧ (a == ("__debug__" : Str)) = false ∧ (a == ("__classdict__" : Str)) = false
/-- X may make lambdas -/
def MakF (X : Cx) : Prop := ∃ c P : Addr, LamX.TabB X.base X.mg c P ∧ X.env.code = .ref c ∧ (P, X.env.qual ++ "<lambda>") ∈ TL.T ∧ ∀ p ∈ TL.T, p.1 = P → p.2 = X.env.qual ++ "<lambda>"
/-- the defs keep their promises k deep -/
def FnsAt (P : Program) (w : World) (K : PySem.W.Frag) (mg : Str → Option Value) (base : Heap) (k : Nat) (fns : List Str) (call : Str → List D → Mh → R D) : Prop :=
  ∀ f ∈ fns, ∃ fa fd ps, mg f = some (.ref fa) ∧ PySem.W.keepIn K (.ref fa) = true ∧ Binds K fd ps [] ∧ FnOk P w K mg base L2.CX0 k fa fd ps (spC K (call f))
/-- how X stands to S; c: what the defs compute -/
structure GX (S : Sta) (c : Cf) (X : Cx) : Prop where
  N : X.N = S.N
  nd : S.N.Nodup
  sc : X.env.scope = S.sc
  calm : X.calm = true
  units : X.A.units + 65 < cLine
  free : ∀ x ∈ S.free, X.mg x = none
  cons : ∀ x d, S.cons.lookup x = some d → ∃ u v, X.mg x = some u ∧ RelV v u ∧ ∀ φ F, Rp X.K φ F d v
  fns : ∃ k, Room k X.A ∧ FnsAt X.prog X.w X.K X.mg X.base k S.fns c.call
  low : c.deep = true → ∃ k, Room (k + 2) X.A ∧ FnsAt X.prog X.w X.K X.mg X.base k S.fns c.low
  fnl : S.top = true → ∀ x, X.fn x = true
  hrs : ∀ f w, S.hears.lookup f = some w → HearF X.K X.mg f w ∧ MakF X
section
variable {S : Sta} {c : Cf} {X : Cx} {W : WX}
theorem GX.vis (G : GX S c X) {x : Str} (h : S.vis x = true) : Vis X.env.scope x := by
  unfold Sta.vis at h
  unfold Vis
  rw [G.sc]
  split at h <;> simp_all
theorem GX.gl (G : GX S c X) {x : Str} (h : S.glo x = true) : Gl X x := by
  have := of_decide_eq_true h
  unfold Gl Env.kindOf
  rw [G.sc]
  exact this
theorem GX.loc (G : GX S c X) {x : Str} (h : S.loc x = true) : L2.Loc X.env.scope x ∧ (X.fn x = true ∨ X.env.scope.names.lookup x = some .local) := by
  unfold Sta.loc at h
  unfold L2.Loc
  rw [G.sc]
  split at h
  · rename_i e
    exact ⟨.inl e, .inr e⟩
  · rename_i e
    exact ⟨.inr e, .inl (G.fnl h x)⟩
  · cases h
theorem GX.bi (G : GX S c X) {x : Str} (h : S.bi x = true) : Bi X x := by
  unfold Sta.bi at h
  rw [Bool.and_eq_true] at h
  exact ⟨G.gl h.1, G.free x (by simpa using h.2)⟩
theorem GX.xnd (G : GX S c X) : X.N.Nodup := by rw [G.N]; exact G.nd
/-- a comprehension's block -/
theorem GX.blk (G : GX S c X) {s : Shared} {H : Hp} {scope : Scope} {C : Addr} {cl : List (Str × Addr)} {fp : List Addr} : GX { S with sc := relS scope S.sc, hears := [], top := false } c (X.blk s H scope (compEnvC scope cl C X.env) fp) where
  N := G.N
  nd := G.nd
  sc := by
    show relabel scope X.env = relS scope S.sc
    rw [← G.sc]
    rfl
  calm := G.calm
  units := G.units
  free := G.free
  cons := G.cons
  fns := G.fns
  low := G.low
  fnl := fun h => by cases h
  hrs := fun _ _ h => by cases h
/-! ### a lambda heard -/
theorem Rel.extn {K : PySem.W.Frag} {φ : List Addr} {F H H1 : Hp} {M : Mh} (rel : Rel K φ F H M) (e : LamX.ExtN H H1) (t : LamX.Tabs TL.T H1) : Rel K φ F H1 M where
  tab := t
  ntb := rel.ntb
  len := rel.len
  ex := fun a u h => e a u (rel.ex a u h) fun ps z => rel.ntb a ps (z ▸ h)
  apart := rel.apart
  nd := rel.nd
  obj := fun n o a h1 h2 => by
    have := rel.obj n o a h1 h2
    cases o with
    | lst xs =>
      obtain ⟨ys, h3, h4⟩ := this
      exact ⟨ys, e _ _ h3 (fun _ z => by cases z), h4⟩
    | dead =>
      obtain ⟨u, h3⟩ := this
      exact ⟨u, e _ _ h3 (fun _ z => by cases z)⟩
theorem Fwd.extn {φ : List Addr} {F H H1 : Hp} (e : LamX.ExtN H H1) : Fwd φ F H φ F H1 where
  pre := List.prefix_refl _
  ex := Ex.refl _
  kp := fun b o h n _ => e b o h n
  nf := fun _ _ h => .inl h
  nh := fun _ h => .inl h
  dom := fun b h o q => by
    by_cases n : ∃ ps, o = .tbl ps
    · exact n
    · exact h o (e b o q fun ps z => n ⟨ps, z⟩)
/-- what a hearer makes of a lambda -/
def TTh (word : Str) : (XK → Hp → VK → Prop) → Hp → VK → Prop := fun tl H Q => tl (fun _ _ _ => False) H fun v H' => ([.str word, v] : List V).length ≤ sizeLine ∧ ∀ p, H' p = none → Q (.ref p) (upd H' p (.tup [.str word, v]))
theorem hear_gives {word f a : Str} {sg : Scope} {g : Addr} {cdg : Value} {q : Str} {Ng : List Str} {j kk : Nat} {q1 q2 p1 p2 p3 p8 : Pos} {h0 : ExceptHandler} {hs : List ExceptHandler} (hf : ∀ f : Addr, (L2.start Ng [V.ref f])[0]? = some (some (V.ref f))) :
    LamX.GivesTo X Ng f sg g cdg [.Try [.Return (some (.Tuple [.Constant (.str word) j q1, .Call (.Name a p1) [] [] p2] kk q2)) p3] (h0 :: hs) [] [] p8] a q (TTh word) := by
  intro fa c' s H Q tl act hc h
  refine ⟨_, pss_one (ps_try_thru0 (pss_one (ps_ret (pe_tup (pa_cons pe_str (pa_cons (act (fun _ _ _ _ => False) [] (fun _ _ => False) (fun _ _ _ => False) p1 p2 LamX.takes0 (fun _ _ _ _ z => z)) pa_nil)))))), ?_⟩
  exact ⟨hf fa, hc, h⟩
def noParams : Arguments → Bool
  | { posonlyargs := [], args := [], vararg := none, kwonlyargs := [], kw_defaults := [], kwarg := none, defaults := [] } => true
  | _ => false
/-- the state of a lambda's body -/
def Sta.lamb (S : Sta) (scope : Scope) : Sta := { S with sc := scope, hears := [], top := false }
theorem pe_hear {f word : Str} {params : Arguments} {body : Expr} {scope : Scope} {p lpos pos : Pos} {e : ES} (G : GX S c X) (hl : S.hears.lookup f = some word) (hg : Gl X f) (L : LamX.lamSB S.sc scope = true) (hp : noParams params = true)
    (hbody : ∀ Y, GX (S.lamb scope) c.lower Y → PE Y body (tE Y (fun _ _ _ _ => False) c.lower e)) : PE X (.Call (.Name f p) [.Lambda params body scope lpos] [] pos) (tE X W c (sHear word e)) := by
  by_cases hdp : c.deep = true
  · obtain ⟨⟨g, od, an, oc, dV, kV, doc, pm, cdv, ct, osl, pg, sg, Ng, a, j, kk, q1, q2, p1, p2, p3, p8, h0, hs, hm, hk, lk, hcg, hb, Sg, hNg, hva, d1, d2, d3⟩, cM, P, TB, hcode, hmT, hu⟩ := G.hrs f word hl
    obtain ⟨k, hr, hlow⟩ := G.low hdp
    have L' : LamX.LamS X.env.scope scope := by rw [G.sc]; exact LamX.lamS_by L
    obtain ⟨hdef, hbind⟩ : defaultsOf params X.env = ([], []) ∧ ∀ (q : Str) (cl : List (Str × Addr)) (pm cv ctv : Value), bindArgs (PySem.W.kla_fn "<lambda>" q params body scope cl pm cv ctv) ⟨[], []⟩ = pure [] := by
      unfold noParams at hp
      split at hp
      · exact ⟨rfl, fun _ _ _ _ _ => rfl⟩
      · cases hp
    have st : ∀ f : Addr, (L2.start Ng [V.ref f])[0]? = some (some (V.ref f)) := fun f => rfl
    refine wkE (LamX.pe_lamcall (k := k) (T := TL.T) (t := fun _ => tE X (fun _ _ _ _ => False) c.lower (fun c ρ M => noExc (e c ρ M))) hg hm hk lk hcg hb Sg hNg hva (hear_gives st) TB hcode hmT hu hr L' hdef hbind ?_ d1 d2 d3) ?_
    · intro A outer s H E f' c' hr2
      have GY : GX (S.lamb scope) c.lower (LamX.lamCx X A outer s H E scope f' c') := {
        N := G.N
        nd := G.nd
        sc := rfl
        calm := rfl
        units := by have := hr2.un; show (A.deeper (LamX.lamEnv X scope s.heap.objs.size f' c')).units + 65 < cLine; omega
        free := G.free
        cons := G.cons
        fns := ⟨k, hr2, hlow⟩
        low := fun h => by cases h
        fnl := fun h => by cases h
        hrs := fun _ _ h => by cases h }
      refine wkE (hbody _ GY) fun σ H Q ⟨φ, F, ρ, M, rel, rr, q⟩ => ⟨φ, F, ρ, M, rel, rr, ?_⟩
      have q : Post X (Rp X.K) (fun _ _ _ _ => False) σ φ F H (noExc (e c.lower ρ M)) Q := q
      show Post X (Rp X.K) (fun _ _ _ _ => False) σ φ F H (e c.lower ρ M) Q
      cases h : e c.lower ρ M with
      | fail => rw [h] at q; exact q
      | ok d M1 => rw [h] at q; exact q
      | exc x ds M1 => rw [h] at q; exact q.elim
    · intro σ H Q ⟨φ, F, ρ, M, rel, rr, q⟩
      refine ⟨rel.tab, fun H1 ex tb => ⟨φ, F, ρ, M, rel.extn ex tb, rr, ?_⟩⟩
      have q : Post X (Rp X.K) W σ φ F H (chk c.deep ((noExc (e c.lower ρ M)).bind fun d M1 => .ok (.tup [.str word, d]) M1)) Q := q
      obtain ⟨_, q⟩ := Post.chk q
      have q := Post.env (Fwd.extn ex) q
      show Post X (Rp X.K) (fun _ _ _ _ => False) σ φ F H1 (noExc (e c.lower ρ M)) _
      cases h : noExc (e c.lower ρ M) with
      | fail => rw [h] at q; exact q.elim
      | ok d M1 =>
        rw [h] at q
        intro φ' F' H' v w rel' r
        refine ⟨by show 2 ≤ sizeLine; decide, fun p hp => ?_⟩
        refine q φ' (upd F' p (.tup [.str word, v])) _ (.ref p) (w.trans (Fwd.know hp _ rel'.ex)) (rel'.know hp _) ⟨p, [.str word, v], rfl, .of upd_same, ?_⟩
        exact ⟨.str word, [v], rfl, rfl, v, [], rfl, r.mono (List.prefix_refl _) (Evl.Ex.new (Ex.none rel'.ex hp)), rfl⟩
      | exc x ds M1 =>
        cases h2 : e c.lower ρ M with
        | fail => rw [h2] at h; cases h
        | ok d M1 => rw [h2] at h; cases h
        | exc x ds M1 => rw [h2] at h; cases h
  · refine ⟨fun pins s σ H Q I ⟨φ, F, ρ, M, rel, rr, q⟩ => ?_⟩
    have q : Post X (Rp X.K) W σ φ F H (chk c.deep ((noExc (e c.lower ρ M)).bind fun d M1 => .ok (.tup [.str word, d]) M1)) Q := q
    exact absurd (Post.chk q).1 hdp
end
end MP

set_option Elab.async false
set_option linter.all false
set_option maxRecDepth 100000
/-! MiniPy 13: expressions compiled. -/
namespace MP
open PySem PySem.Spec PyProof.Rows L2
open Evl (Ex)
variable [TL : TabL]

def ixOf : List Str → Str → Option Nat
  | [], _ => none
  | y :: r, x => if x = y then some 0 else (ixOf r x).map (· + 1)
theorem ixOf_get : ∀ {N : List Str} {x : Str} {i : Nat}, ixOf N x = some i → N[i]? = some x
  | [], _, _, h => by cases h
  | y :: r, x, i, h => by
    have h : (if x = y then some 0 else (ixOf r x).map (· + 1)) = some i := h
    by_cases e : x = y
    · rw [if_pos e] at h
      cases h
      rw [e]
      rfl
    · rw [if_neg e] at h
      cases q : ixOf r x with
      | none => rw [q] at h; cases h
      | some j =>
        rw [q] at h
        cases h
        have := ixOf_get (N := r) q
        simpa using this
def okN (x : Str) : Bool := (x == ("__debug__" : Str)) == false && (x == ("__classdict__" : Str)) == false
theorem okN_1 {x : Str} (h : okN x = true) : (x == ("__debug__" : Str)) = false ∧ (x == ("__classdict__" : Str)) = false := by
  unfold okN at h
  rw [Bool.and_eq_true, beq_iff_eq, beq_iff_eq] at h
  exact h
def bopOf : Operator → Option Bop
  | .Add => some .add | .Sub => some .sub | .Mult => some .mul | .Mod => some .mod | .FloorDiv => some .fdiv | .Pow => some .pow
  | _ => none
def cmpOf : CmpOp → Option Cmp
  | .Eq => some .eq | .NotEq => some .ne | .Lt => some .lt | .LtE => some .le | .Gt => some .gt | .GtE => some .ge | .In => some .inn | .NotIn => some .nin
  | _ => none
def tyOf (x : Str) : Option String := if x = "int" then some "int" else if x = "str" then some "str" else if x = "bool" then some "bool" else if x = "tuple" then some "tuple" else if x = "list" then some "list" else if x = "dict" then some "dict" else none
theorem tyOf_boot {x : Str} {t : String} (h : tyOf x = some t) : bootBuiltins x = some (.type t) ∧ x ≠ "__name__" ∧ (x == ("__debug__" : Str)) = false := by
  unfold tyOf at h
  repeat' (split at h)
  all_goals first | (cases h; done) | (rename_i e; cases h; subst e; exact ⟨by decide +kernel, by decide +kernel, by decide +kernel⟩)
section
variable {X : Cx} {c : Cf}
theorem bop_ok {op : Operator} {o : Bop} (h : bopOf op = some o) : OpR X (binaryOp op) (rBin X (bop o)) := by
  cases op <;> first | (cases h; done) | (cases h; first | exact ok_add | exact ok_sub | exact ok_mul | exact ok_mod | exact ok_fdiv | exact ok_pow)
theorem cmp_ok {op : CmpOp} {o : Cmp} (hu : X.A.units + 65 < cLine) (h : cmpOf op = some o) : OpR X (compareOp op) (rCmp X (cmp o)) := by
  cases op <;> first | (cases h; done) | (cases h; first | exact ok_eq (by omega) | exact ok_ne (by omega) | exact ok_lt | exact ok_le | exact ok_gt | exact ok_ge | exact ok_in | exact ok_nin)
end
/-! ### targets -/
mutual
def gtOf (K : PySem.W.Frag) : Tg → TG
  | .nm i => gName i
  | .tup ts => gTup K ts.length (gtsOf K ts)
def gtsOf (K : PySem.W.Frag) : List Tg → TGs
  | [] => gNil
  | t :: ts => gCons (gtOf K t) (gtsOf K ts)
end
mutual
def Tg.slots : Tg → List Nat
  | .nm i => [i]
  | .tup ts => Tg.slotss ts
def Tg.slotss : List Tg → List Nat
  | [] => []
  | t :: ts => Tg.slots t ++ Tg.slotss ts
end
mutual
theorem tgt_of {X : Cx} : ∀ g : Tg, Tgt X (gtOf X.K g) g.slots g
  | .nm i => by
    have := @tg_name _ X i
    simpa [gtOf, Tg.slots] using this
  | .tup ts => by
    have := tg_tup (tgts_of (X := X) ts)
    simpa [gtOf, Tg.slots] using this
theorem tgts_of {X : Cx} : ∀ gs : List Tg, Tgts X (gtsOf X.K gs) (Tg.slotss gs) gs
  | [] => by
    have := @tgs_nil _ X
    simpa [gtsOf, Tg.slotss] using this
  | t :: ts => by
    have := tgs_cons (tgt_of (X := X) t) (tgts_of ts)
    simpa [gtsOf, Tg.slotss] using this
end
def cGs (f : Expr → Option Tg) : List Expr → Option (List Tg)
  | [] => some []
  | e :: es => (f e).bind fun t => if notStar e = true then (cGs f es).map (t :: ·) else none
def cG : Nat → Sta → Expr → Option Tg
  | 0, _, _ => none
  | n + 1, S, e => match e with
    | .Name x _ => (ixOf S.N x).bind fun i => if S.loc x = true then some (.nm i) else none
    | .Tuple es _ _ => (cGs (cG n S) es).map .tup
    | _ => none
theorem some_bind {α β : Type} {o : Option α} {k : α → Option β} {z : β} (h : o.bind k = some z) : ∃ a, o = some a ∧ k a = some z := by
  cases o with
  | none => cases h
  | some a => exact ⟨a, rfl, h⟩
theorem some_map {α β : Type} {o : Option α} {k : α → β} {z : β} (h : o.map k = some z) : ∃ a, o = some a ∧ k a = z := by
  cases o with
  | none => cases h
  | some a => exact ⟨a, rfl, Option.some.inj h⟩
theorem some_if {β : Type} {p : Prop} [Decidable p] {k : Option β} {z : β} (h : (if p then k else none) = some z) : p ∧ k = some z := by
  by_cases hp : p
  · rw [if_pos hp] at h; exact ⟨hp, h⟩
  · rw [if_neg hp] at h; cases h
theorem assign_c {e : Expr} (es : List Expr) {env : Env} (h : notStar e = true) : assignEach (e :: es) env = (false, assign e env) :: assignEach es env := by
  cases e <;> first | rfl | cases h
theorem cGs_len {f : Expr → Option Tg} : ∀ {es : List Expr} {ts : List Tg}, cGs f es = some ts → ts.length = es.length
  | [], ts, h => by cases h; rfl
  | e :: es, ts, h => by
    obtain ⟨t, h1, h2⟩ := some_bind (show ((f e).bind fun t => if notStar e = true then (cGs f es).map (t :: ·) else none) = some ts from h)
    obtain ⟨_, h3⟩ := some_if h2
    obtain ⟨r, h4, rfl⟩ := some_map h3
    simp [cGs_len h4]
theorem cGs_star {f : Expr → Option Tg} {env : Env} : ∀ {es : List Expr} {ts : List Tg}, cGs f es = some ts → (assignEach es env).length = es.length ∧ List.findIdx? (·.1) (assignEach es env) = none
  | [], ts, h => ⟨rfl, rfl⟩
  | e :: es, ts, h => by
    obtain ⟨t, h1, h2⟩ := some_bind (show ((f e).bind fun t => if notStar e = true then (cGs f es).map (t :: ·) else none) = some ts from h)
    obtain ⟨hn, h3⟩ := some_if h2
    obtain ⟨r, h4, rfl⟩ := some_map h3
    obtain ⟨a, b⟩ := cGs_star (env := env) h4
    rw [assign_c es hn]
    refine ⟨by simp [a], ?_⟩
    rw [List.findIdx?_cons]
    simp [b]
theorem sound_G {c : Cf} : ∀ (n : Nat) (S : Sta) (X : Cx) (e : Expr) (g : Tg), GX S c X → cG n S e = some g → PG X e (gtOf X.K g)
  | 0, _, _, _, _, _, h => by cases h
  | n + 1, S, X, e, g, G, h => by
    unfold cG at h
    split at h
    · rename_i x p
      obtain ⟨i, h1, h2⟩ := some_bind h
      obtain ⟨h3, h4⟩ := some_if h2
      cases h4
      have hl := G.loc h3
      have : PG X (.Name x p) (gName i) := pg_name G.xnd (by rw [G.N]; exact ixOf_get h1) hl.1 hl.2
      simpa [gtOf] using this
    · rename_i es k p
      obtain ⟨ts, h1, rfl⟩ := some_map h
      have all : ∀ {es : List Expr} {ts : List Tg}, cGs (cG n S) es = some ts → PGs X es (gtsOf X.K ts) := by
        intro es
        induction es with
        | nil =>
          intro ts h
          cases h
          have := @pgs_nil X
          simpa [gtsOf] using this
        | cons e es ih =>
          intro ts h
          obtain ⟨t, h1, h2⟩ := some_bind (show ((cG n S e).bind fun t => if notStar e = true then (cGs (cG n S) es).map (t :: ·) else none) = some ts from h)
          obtain ⟨hn, h3⟩ := some_if h2
          obtain ⟨r, h4, rfl⟩ := some_map h3
          have := pgs_cons (sound_G n S X e t G h1) (ih h4) (by rw [assign_c es hn]; rfl)
          simpa [gtsOf] using this
      obtain ⟨a, b⟩ := cGs_star (env := X.env) h1
      have := pg_tup (pos := p) (k := k) (n := ts.length) G.calm (all h1) (by rw [a, cGs_len h1]) b
      simpa [gtOf] using this
    · cases h
end MP

set_option Elab.async false
set_option linter.all false
set_option maxRecDepth 100000
/-! MiniPy 14: expressions compiled, sound. -/
namespace MP
open PySem PySem.Spec PyProof.Rows L2
open Evl (Ex)
variable [TL : TabL]

def cAs (f : Expr → Option ES) : List Expr → Option AS
  | [] => some aNil
  | e :: es => (f e).bind fun a => if notStar e = true then (cAs f es).map (aCons a) else none
def kOf : Const → Option D
  | .int i => some (.int i)
  | .bool b => some (.bl b)
  | .none => some .non
  | .str s => some (.str s)
  | _ => none
/-- a call by a name with one argument -/
def cB1 (S : Sta) (mt : Bool) (x : Str) (f : ES) : Option ES :=
  if x = "len" ∧ S.bi "len" = true then some (sLen f)
  else if x = "int" ∧ S.bi "int" = true then some (sInt f)
  else if x = "bool" ∧ S.bi "bool" = true then some (sBool f)
  else if x = "all" ∧ S.bi "all" = true then some (sAll f)
  else if x = "list" ∧ S.bi "list" = true then some (sList mt f)
  else if x = "tuple" ∧ S.bi "tuple" = true then some (sTuple f)
  else if x = "dict" ∧ S.bi "dict" = true then some (sDictOf f)
  else none
def cM1 (x : Str) (f g : ES) : Option ES :=
  if x = "append" then some (sAppend f g)
  else if x = "extend" then some (sExtend f g)
  else if x = "pop" then some (sPopAt f g)
  else if x = "split" then some (sSplit f g)
  else if x = "join" then some (sJoin f g)
  else none
def ownOf (S : Sta) (scope : Scope) : List (Str × Nat) := scope.names.filterMap fun y => match y.2 with
  | .local | .cell => (ixOf S.N y.1).map fun i => (y.1, i)
  | _ => none
def Sta.blk (S : Sta) (scope : Scope) : Sta := { S with sc := relS scope S.sc, hears := [], top := false }
def c0 (S : Sta) (x : Str) : Option ES := if S.fns.contains x = true ∧ (S.glo x && okN x) = true ∧ ixOf S.N x = none then some (sCall x aNil) else none
def c1 (S : Sta) (mt : Bool) (x : Str) (fa : Option ES) : Option ES := match ixOf S.N x with
  | some _ => none
  | none => if S.fns.contains x = true then (if (S.glo x && okN x) = true then fa.map fun f => sCall x (aCons f aNil) else none) else fa.bind fun f => cB1 S mt x f
def isiOf (S : Sta) (b : Expr) (r : List Expr) : Option String := match b, r with
  | .Name y _, [] => (tyOf y).bind fun t => if S.bi y = true ∧ ixOf S.N y = none then some t else none
  | _, _ => none
def c2 (S : Sta) (x : Str) (args : Option AS) (b : Expr) (r : List Expr) (fa fb : Option ES) : Option ES := match ixOf S.N x with
  | some _ => none
  | none => if S.fns.contains x = true then (if (S.glo x && okN x) = true then args.map (sCall x) else none)
    else if x = "isinstance" ∧ S.bi "isinstance" = true then (isiOf S b r).bind fun t => fa.map fun f => sIsi f t
    else if x = "max" ∧ S.bi "max" = true ∧ r.isEmpty = true then fa.bind fun f => fb.map fun g => sMax f g
    else none
def lcOf (t : Option TSm) (e : Option ES) (mt : Bool) (i : IS) (g : Tg) (vs : List Nat) : Option ES := t.bind fun t => e.map fun f => sLc mt i g vs t f
def isTup : Expr → Bool
  | .Tuple .. => true
  | _ => false
mutual
def cE : Nat → Sta → Expr → Option ES
  | 0, _, _ => none
  | n + 1, S, e => match e with
    | .Constant k _ _ => (kOf k).map sC
    | .Name x _ => match ixOf S.N x with
      | some i => if (S.vis x && okN x) = true then some (sVar i) else none
      | none => (S.cons.lookup x).bind fun d => if (S.glo x && okN x) = true then some (sC d) else none
    | .BinOp a op b pos => (bopOf op).bind fun o => (cE n S a).bind fun f => (cE n S b).bind fun g => some (sBop o (S.mtb pos) f g)
    | .UnaryOp .Not a _ => (cE n S a).map sNot
    | .UnaryOp .USub a _ => (cE n S a).map sNeg
    | .BoolOp _ [a] _ => cE n S a
    | .BoolOp .And (a :: b :: r) pos => (cE n S a).bind fun f => (cE n S (.BoolOp .And (b :: r) pos)).bind fun g => some (sAnd f g)
    | .BoolOp .Or (a :: b :: r) pos => (cE n S a).bind fun f => (cE n S (.BoolOp .Or (b :: r) pos)).bind fun g => some (sOr f g)
    | .Compare a [.Is] [.Constant .none _ _] _ => (cE n S a).map fun f => sIs f .non
    | .Compare a [.Is] [.Constant (.bool b) k p] _ => if behindInMarks .Is (.Constant (.bool b) k p) = false then (cE n S a).map fun f => sIs f (.bl b) else none
    | .Compare a [op] [b] _ => (cmpOf op).bind fun o => (cE n S a).bind fun f => (cE n S b).bind fun g => if behindInMarks op b = false then some (sCmp o f g) else none
    | .Compare a [op, op'] [b, d] _ => (cmpOf op).bind fun o => (cmpOf op').bind fun o' => (cE n S a).bind fun f => (cE n S b).bind fun g => (cE n S d).bind fun h => if lastMarks [op, op'] [b, d] = false then some (sChain o o' f g h) else none
    | .IfExp t a b _ => (cT n S t).bind fun t => (cE n S a).bind fun f => (cE n S b).bind fun g => some (sIte t f g)
    | .Tuple es _ _ => (cAs (cE n S) es).map sTup
    | .List es pos => (cAs (cE n S) es).map (sLst (S.mtb pos))
    | .Subscript a (.Slice none none (some (.UnaryOp .USub (.Constant (.int 1) _ _) _)) _) _ => (cE n S a).map sRev
    | .Dict [] [] _ => some sDict0
    | .Dict [some (.Constant kc _ _)] [.Constant vc _ _] _ => (kOf kc).bind fun d => (keyOf d).bind fun k => (kOf vc).map (sDict1 k)
    | .Subscript a (.Slice lo hi none _) pos => (cE n S a).bind fun f => (cP n S lo).bind fun l => (cP n S hi).bind fun u => some (sSlc (S.mtb pos) f l u)
    | .Subscript a b _ => if noSlice b = true then (cE n S a).bind fun f => (cE n S b).bind fun g => some (sIdx f g) else none
    | .Call (.Name x _) [] [] _ => c0 S x
    | .Call (.Name x _) [.Lambda params body scope _] [] _ => (S.hears.lookup x).bind fun w => if (S.glo x && LamX.lamSB S.sc scope && noParams params) = true then (cE n (S.lamb scope) body).map (sHear w) else none
    | .Call (.Name x _) [.SetComp elt [⟨tg, it, ifs, 0⟩] scope _] [] _ => if (decide (x = "len") && S.bi "len" && decide (ixOf S.N x = none) && blkC S.N S.sc scope (ownOf S scope) && noSet it) = true then (cI n S tg it).bind (fun i => (cG n (S.blk scope) tg).bind fun g =>
        if g.slots.all (fun j => decide (j ∈ (ownOf S scope).map (·.2))) = true then (cF n (S.blk scope) ifs).bind fun t => (cE n (S.blk scope) elt).map fun f => sLenSet i g ((ownOf S scope).map (·.2)) t f else none) else none
    | .Call (.Name x _) [a] [] pos => if notStar a = true then c1 S (S.mtb pos) x (cE n S a) else none
    | .Call (.Name x _) (a :: b :: r) [] _ => if (a :: b :: r).all notStar = true then c2 S x (cAs (cE n S) (a :: b :: r)) b r (cE n S a) (cE n S b) else none
    | .Call (.Attribute o x apos) [b] [] cpos => if (baseOk o && notStar b && (apos.endLine == cpos.line)) = true then (cE n S o).bind fun f => (cE n S b).bind fun g => cM1 x f g else none
    | .ListComp elt [⟨tg, it, ifs, 0⟩] scope pos => if (blkC S.N S.sc scope (ownOf S scope) && noSet it) = true then (cI n S tg it).bind (fun i => (cG n (S.blk scope) tg).bind fun g =>
        if g.slots.all (fun j => decide (j ∈ (ownOf S scope).map (·.2))) = true then lcOf (cF n (S.blk scope) ifs) (cE n (S.blk scope) elt) (S.mtb pos) i g ((ownOf S scope).map (·.2)) else none) else none
    | _ => none
def cT : Nat → Sta → Expr → Option TSm
  | 0, _, _ => none
  | n + 1, S, e => match e with
    | .UnaryOp .Not a _ => (cT n S a).map tNot
    | .BoolOp .And [a, b] _ => (cT n S a).bind fun f => (cT n S b).bind fun g => some (tAnd f g)
    | .BoolOp .Or [a, b] _ => (cT n S a).bind fun f => (cT n S b).bind fun g => some (tOr f g)
    | .BoolOp .And (a :: b :: d :: r) pos => (cT n S a).bind fun f => (cT n S (.BoolOp .And (b :: d :: r) pos)).bind fun g => some (tAnd f g)
    | .BoolOp .Or (a :: b :: d :: r) pos => (cT n S a).bind fun f => (cT n S (.BoolOp .Or (b :: d :: r) pos)).bind fun g => some (tOr f g)
    | .Compare a [.Is] [.Constant .none _ _] _ => (cE n S a).map fun f => tIs f .non
    | .Compare a [.Is] [.Constant (.bool b) k p] _ => if behindInMarks .Is (.Constant (.bool b) k p) = false then (cE n S a).map fun f => tIs f (.bl b) else none
    | .Compare a [op] [b] _ => (cmpOf op).bind fun o => (cE n S a).bind fun f => (cE n S b).bind fun g => if behindInMarks op b = false then some (tCmp o f g) else none
    | .Compare a [op, op'] [b, d] _ => (cmpOf op).bind fun o => (cmpOf op').bind fun o' => (cE n S a).bind fun f => (cE n S b).bind fun g => (cE n S d).bind fun h => if lastMarks [op, op'] [b, d] = false then some (tChain o o' f g h) else none
    | e => if plainT e = true then (cE n S e).map tVal else none
def cF : Nat → Sta → List Expr → Option TSm
  | 0, _, _ => none
  | n + 1, S, es => match es with
    | [] => some tYes
    | [d] => cT n S d
    | _ => none
def cI : Nat → Sta → Expr → Expr → Option IS
  | 0, _, _, _ => none
  | n + 1, S, tg, e => match e with
    | .Call (.Name x _) [a] [] _ => if x = "range" ∧ S.bi "range" = true ∧ ixOf S.N x = none ∧ notStar a = true then (cE n S a).map iRange else (cE n S e).map iVal
    | .Call (.Name x _) [a, b] [] _ => if x = "zip" ∧ S.bi "zip" = true ∧ ixOf S.N x = none ∧ notStar a = true ∧ notStar b = true then (if isTup tg = true then (cE n S a).bind fun f => (cE n S b).map fun g => iZip f g else none) else (cE n S e).map iVal
    | e => (cE n S e).map iVal
def cP : Nat → Sta → Option Expr → Option (Option ES)
  | 0, _, _ => none
  | _ + 1, _, none => some none
  | n + 1, S, some e => (cE n S e).map some
end
section
variable {S : Sta} {c : Cf} {X : Cx} {W : WX}
theorem call_ok {x : Str} {r : AS} {p pos : Pos} {e : Expr} {es : List Expr} (G : GX S c X) (hf : S.fns.contains x = true) (hg : (S.glo x && okN x) = true) (hs : (e :: es).all notStar = true) (ha : PA X (e :: es) (tA X W c r)) : PE X (.Call (.Name x p) (e :: es) [] pos) (tE X W c (sCall x r)) := by
  rw [Bool.and_eq_true] at hg
  rw [List.all_cons, Bool.and_eq_true] at hs
  obtain ⟨k, hr, hfs⟩ := G.fns
  obtain ⟨fa, fd, ps, hm, hk, hb, hF⟩ := hfs x (by simpa using hf)
  refine wkE (pe_call hF hr (G.gl hg.1) hm hk hb .nil pass0 ha (okN_1 hg.2).1 (star_c es hs.1) (star_any pos hs.2)) fun σ H Q ⟨φ, F, ρ, M, rel, rr, q⟩ => ?_
  refine seq rel rr q fun vs H1 φ1 F1 M1 ds n1 q1 => ?_
  refine ⟨φ1, F1, ds, M1, n1.rel, by rw [List.append_nil]; exact n1.rp, ?_⟩
  cases hc : c.call x ds M1 with
  | ok d M2 => rw [hc] at q1; exact q1
  | fail => rw [hc] at q1; exact q1.elim
  | exc y es M2 => rw [hc] at q1; exact q1.elim
theorem call_ok0 {x : Str} {p pos : Pos} (G : GX S c X) (hf : S.fns.contains x = true) (hg : (S.glo x && okN x) = true) : PE X (.Call (.Name x p) [] [] pos) (tE X W c (sCall x aNil)) := by
  rw [Bool.and_eq_true] at hg
  obtain ⟨k, hr, hfs⟩ := G.fns
  obtain ⟨fa, fd, ps, hm, hk, hb, hF⟩ := hfs x (by simpa using hf)
  refine wkE (pe_call0 hF hr (G.gl hg.1) hm hk hb .nil pass0 (okN_1 hg.2).1) fun σ H Q ⟨φ, F, ρ, M, rel, rr, q⟩ => ?_
  refine ⟨φ, F, [], M, rel, rfl, ?_⟩
  have q : Post X (Rp X.K) W σ φ F H (noExc (c.call x [] M)) Q := q
  cases hc : c.call x [] M with
  | ok d M2 => rw [hc] at q; exact q
  | fail => rw [hc] at q; exact q.elim
  | exc y es M2 => rw [hc] at q; exact q.elim
theorem const_ok {k : Const} {d : D} {j : Nat} {p : Pos} (h : kOf k = some d) : PE X (.Constant k j p) (tE X W c (sC d)) := by
  cases k <;> first | (cases h; done) | (cases h; first | exact pe_k pe_int (fun _ _ => rfl) | exact pe_k pe_bl (fun _ _ => rfl) | exact pe_k pe_non (fun _ _ => rfl) | exact pe_k pe_str (fun _ _ => rfl))
theorem args_ok {f : Expr → Option ES} (h : ∀ e a, f e = some a → PE X e (tE X W c a)) : ∀ {es : List Expr} {r : AS}, cAs f es = some r → PA X es (tA X W c r) ∧ es.all notStar = true
  | [], r, q => by
    cases q
    exact ⟨pa_n, rfl⟩
  | e :: es, r, q => by
    obtain ⟨a, h1, h2⟩ := some_bind (show ((f e).bind fun a => if notStar e = true then (cAs f es).map (aCons a) else none) = some r from q)
    obtain ⟨hn, h3⟩ := some_if h2
    obtain ⟨r', h4, rfl⟩ := some_map h3
    obtain ⟨b1, b2⟩ := args_ok h h4
    exact ⟨pa_c (h e a h1) b1 (star_c es hn), by rw [List.all_cons, hn, b2]; rfl⟩
theorem c0_ok {x : Str} {f : ES} {p pos : Pos} (G : GX S c X) (h : c0 S x = some f) : PE X (.Call (.Name x p) [] [] pos) (tE X W c f) := by
  unfold c0 at h
  obtain ⟨hh, h⟩ := some_if h
  cases h
  exact call_ok0 G hh.1 hh.2.1
theorem c1_ok {x : Str} {f : ES} {a : Expr} {fa : Option ES} {p pos : Pos} {mt : Bool} (G : GX S c X) (hn : notStar a = true) (ha : ∀ g, fa = some g → PE X a (tE X W c g)) (h : c1 S mt x fa = some f) : PE X (.Call (.Name x p) [a] [] pos) (tE X W c f) := by
  unfold c1 at h
  split at h
  · cases h
  · split at h
    · rename_i hf
      obtain ⟨hg, h⟩ := some_if h
      obtain ⟨g, h1, rfl⟩ := some_map h
      exact call_ok G hf hg (by rw [List.all_cons, hn]; rfl) (pa_c (ha g h1) pa_n (star_1 hn))
    · obtain ⟨g, h1, h2⟩ := some_bind h
      have pg := ha g h1
      have hs := star_1 (env := X.env) hn
      unfold cB1 at h2
      split at h2
      · rename_i e; cases h2; rw [e.1]; exact pe_len (G.bi e.2) pg hs
      split at h2
      · rename_i e; cases h2; rw [e.1]; exact pe_intB (G.bi e.2) pg hs
      split at h2
      · rename_i e; cases h2; rw [e.1]; exact pe_boolB (G.bi e.2) pg hs
      split at h2
      · rename_i e; cases h2; rw [e.1]; exact pe_allB (G.bi e.2) G.calm pg hs
      split at h2
      · rename_i e; cases h2; rw [e.1]; exact pe_listB (G.bi e.2) G.calm pg hs
      split at h2
      · rename_i e; cases h2; rw [e.1]; exact pe_tupleB (G.bi e.2) pg hs
      split at h2
      · rename_i e; cases h2; rw [e.1]; exact pe_dcB (G.bi e.2) G.calm pg hs
      · cases h2
theorem c2_ok {x : Str} {f : ES} {a b : Expr} {r : List Expr} {args : Option AS} {fa fb : Option ES} {p pos : Pos} (G : GX S c X) (hn : (a :: b :: r).all notStar = true) (hargs : ∀ g, args = some g → PA X (a :: b :: r) (tA X W c g)) (ha : ∀ g, fa = some g → PE X a (tE X W c g))
    (hb : ∀ g, fb = some g → PE X b (tE X W c g)) (h : c2 S x args b r fa fb = some f) : PE X (.Call (.Name x p) (a :: b :: r) [] pos) (tE X W c f) := by
  have hn' := hn
  rw [List.all_cons, List.all_cons, Bool.and_eq_true, Bool.and_eq_true] at hn'
  unfold c2 at h
  split at h
  · cases h
  split at h
  · rename_i hf
    obtain ⟨hg, h⟩ := some_if h
    obtain ⟨g, h1, rfl⟩ := some_map h
    exact call_ok G hf hg hn (hargs g h1)
  split at h
  · rename_i e
    obtain ⟨t, h1, h2⟩ := some_bind h
    obtain ⟨g, h3, rfl⟩ := some_map h2
    unfold isiOf at h1
    split at h1
    · rename_i y py
      obtain ⟨t', h4, h5⟩ := some_bind h1
      obtain ⟨h6, h7⟩ := some_if h5
      cases h7
      obtain ⟨k1, k2, k3⟩ := tyOf_boot h4
      rw [e.1]
      exact pe_isiB (G.bi e.2) (ha g h3) (pe_cls (G.bi h6.1) k1 k2 k3) (star_c _ hn'.1)
    · cases h1
  split at h
  · rename_i e
    obtain ⟨g, h1, h2⟩ := some_bind h
    obtain ⟨g', h3, rfl⟩ := some_map h2
    have hr : r = [] := List.isEmpty_iff.mp e.2.2
    subst hr
    rw [e.1]
    exact pe_maxB (G.bi e.2.1) G.calm (ha g h1) (hb g' h3) (star_c _ hn'.1) (star_1 hn'.2.1)
  · cases h
theorem m1_ok {x : Str} {f g z : ES} {o b : Expr} {apos cpos : Pos} (h1 : baseOk o = true) (h2 : notStar b = true) (h3 : (apos.endLine == cpos.line) = true) (ho : PE X o (tE X W c f)) (hb : PE X b (tE X W c g)) (h : cM1 x f g = some z) : PE X (.Call (.Attribute o x apos) [b] [] cpos) (tE X W c z) := by
  have m : BmOk X o b apos cpos := ⟨h1, h3, star_1 h2⟩
  unfold cM1 at h
  split at h
  · rename_i e; cases h; rw [e]; exact pe_app m ho hb
  split at h
  · rename_i e; cases h; rw [e]; exact pe_ext m ho hb
  split at h
  · rename_i e; cases h; rw [e]; exact pe_pop m ho hb
  split at h
  · rename_i e; cases h; rw [e]; exact pe_spl ho hb (star_1 h2) h1 h3
  split at h
  · rename_i e; cases h; rw [e]; exact pe_jn ho hb (star_1 h2) h1 h3
  · cases h
theorem GX.blk' (G : GX S c X) {s : Shared} {H : Hp} {scope : Scope} {C : Addr} {cl : List (Str × Addr)} {fp : List Addr} : GX (S.blk scope) c (X.blk s H scope (compEnvC scope cl C X.env) fp) := G.blk
end
end MP

set_option Elab.async false
set_option linter.all false
set_option maxRecDepth 100000
set_option maxHeartbeats 4000000
/-! MiniPy 15: expressions, sound. -/
namespace MP
open PySem PySem.Spec PyProof.Rows L2
open Evl (Ex)
variable [TL : TabL]
structure Sound (c : Cf) (n : Nat) : Prop where
  e : ∀ S X W e f, GX S c X → cE n S e = some f → PE X e (tE X W c f)
  t : ∀ S X W e f, GX S c X → cT n S e = some f → PT X e (tT X W c f)
  w : ∀ S X W op es pos f, GX S c X → cT n S (.BoolOp op es pos) = some f → PW X (.BoolOp op es pos) (tT X W c f)
  i : ∀ S X W tg e f, GX S c X → cI n S tg e = some f → PI X tg e (tI X W c f)
  p : ∀ S X W e f, GX S c X → cP n S e = some f → PO X e (tO X W c (part f))
  f : ∀ S X W es f, GX S c X → cF n S es = some f → PTs X es (tT X W c f)
theorem sound_0 (c : Cf) : Sound c 0 := by
  constructor
  all_goals (intros; rename_i h; simp only [cE, cT, cI, cP, cF] at h; cases h)
theorem dict1_ok {X : Cx} {W : WX} {c : Cf} {kc vc : Const} {d d2 : D} {k : Key} {j1 j2 : Nat} {p1 p2 pos : Pos} (h1 : kOf kc = some d) (h2 : keyOf d = some k) (h3 : kOf vc = some d2) : PE X (.Dict [some (.Constant kc j1 p1)] [.Constant vc j2 p2] pos) (tE X W c (sDict1 k d2)) := by
  have hk : PE X (.Constant kc j1 p1) (tC (kV k)) := by
    cases kc <;> first | (cases h1; done) | (cases h1; first | (cases h2; done) | (cases h2; first | exact pe_int | exact pe_str))
  have hv : ∃ v, PE X (.Constant vc j2 p2) (tC v) ∧ ∀ φ F, Rp X.K φ F d2 v := by
    cases vc <;> first | (cases h3; done) | (cases h3; first | exact ⟨_, pe_int, fun _ _ => rfl⟩ | exact ⟨_, pe_bl, fun _ _ => rfl⟩ | exact ⟨_, pe_non, fun _ _ => rfl⟩ | exact ⟨_, pe_str, fun _ _ => rfl⟩)
  obtain ⟨v, a, b⟩ := hv
  exact pe_d1 hk a b
theorem sound_E {c : Cf} {n : Nat} (ih : Sound c n) (ihl : Sound c.lower n) : ∀ S X W e f, GX S c X → cE (n + 1) S e = some f → PE X e (tE X W c f) := by
  intro S X W e f G h
  unfold cE at h
  split at h
  · -- constants
    obtain ⟨d, h1, rfl⟩ := some_map h
    exact const_ok h1
  · -- names
    rename_i x p
    split at h
    · rename_i i hi
      obtain ⟨h1, h2⟩ := some_if h
      cases h2
      rw [Bool.and_eq_true] at h1
      exact pe_v (pe_var (by rw [G.N]; exact ixOf_get hi) (G.vis h1.1) (okN_1 h1.2).1 (okN_1 h1.2).2)
    · obtain ⟨d, h1, h2⟩ := some_bind h
      obtain ⟨h3, h4⟩ := some_if h2
      cases h4
      rw [Bool.and_eq_true] at h3
      obtain ⟨u, v, hm, rv, rp⟩ := G.cons x d h1
      exact pe_k (pe_glob (G.gl h3.1) hm rv (okN_1 h3.2).1) rp
  · -- a op b
    obtain ⟨o, h1, h2⟩ := some_bind h
    obtain ⟨f1, h3, h4⟩ := some_bind h2
    obtain ⟨f2, h5, h6⟩ := some_bind h4
    cases h6
    exact pe_bop (bop_ok h1) (ih.e _ _ _ _ _ G h3) (ih.e _ _ _ _ _ G h5)
  · obtain ⟨f1, h1, rfl⟩ := some_map h
    exact pe_no (ih.e _ _ _ _ _ G h1)
  · obtain ⟨f1, h1, rfl⟩ := some_map h
    exact pe_ng (ih.e _ _ _ _ _ G h1)
  · exact pe_one (ih.e _ _ _ _ _ G h)
  · obtain ⟨f1, h1, h2⟩ := some_bind h
    obtain ⟨f2, h3, h4⟩ := some_bind h2
    cases h4
    rename_i a b r pos
    exact pe_an (e := a) (es := r) (ih.e _ _ _ _ _ G h1) (ih.e _ _ _ _ _ G h3)
  · obtain ⟨f1, h1, h2⟩ := some_bind h
    obtain ⟨f2, h3, h4⟩ := some_bind h2
    cases h4
    rename_i a b r pos
    exact pe_ro (e := a) (es := r) (ih.e _ _ _ _ _ G h1) (ih.e _ _ _ _ _ G h3)
  · obtain ⟨f1, h1, rfl⟩ := some_map h
    exact is_none (ih.e _ _ _ _ _ G h1)
  · obtain ⟨h0, h⟩ := some_if h
    obtain ⟨f1, h1, rfl⟩ := some_map h
    exact is_bool (ih.e _ _ _ _ _ G h1) h0
  · obtain ⟨o, h1, h2⟩ := some_bind h
    obtain ⟨f1, h3, h4⟩ := some_bind h2
    obtain ⟨f2, h5, h6⟩ := some_bind h4
    obtain ⟨h7, h8⟩ := some_if h6
    cases h8
    exact pe_cm (cmp_ok G.units h1) (ih.e _ _ _ _ _ G h3) (ih.e _ _ _ _ _ G h5) h7
  · obtain ⟨o, h1, h2⟩ := some_bind h
    obtain ⟨o', h3, h4⟩ := some_bind h2
    obtain ⟨f1, h5, h6⟩ := some_bind h4
    obtain ⟨f2, h7, h8⟩ := some_bind h6
    obtain ⟨f3, h9, h10⟩ := some_bind h8
    obtain ⟨h11, h12⟩ := some_if h10
    cases h12
    exact pe_ch (cmp_ok G.units h1) (cmp_ok G.units h3) (ih.e _ _ _ _ _ G h5) (ih.e _ _ _ _ _ G h7) (ih.e _ _ _ _ _ G h9) h11
  · obtain ⟨t, h1, h2⟩ := some_bind h
    obtain ⟨f1, h3, h4⟩ := some_bind h2
    obtain ⟨f2, h5, h6⟩ := some_bind h4
    cases h6
    exact pe_it (ih.t _ _ _ _ _ G h1) (ih.e _ _ _ _ _ G h3) (ih.e _ _ _ _ _ G h5)
  · obtain ⟨r, h1, rfl⟩ := some_map h
    exact pe_tp (args_ok (fun e a q => ih.e _ _ _ _ _ G q) h1).1
  · obtain ⟨r, h1, rfl⟩ := some_map h
    exact pe_ls (args_ok (fun e a q => ih.e _ _ _ _ _ G q) h1).1
  · obtain ⟨f1, h1, rfl⟩ := some_map h
    exact pe_rv (ih.e _ _ _ _ _ G h1)
  · cases h
    exact pe_d0
  · obtain ⟨d, h1, h2⟩ := some_bind h
    obtain ⟨k, h3, h4⟩ := some_bind h2
    obtain ⟨d2, h5, rfl⟩ := some_map h4
    exact dict1_ok h1 h3 h5
  · obtain ⟨f1, h1, h2⟩ := some_bind h
    obtain ⟨l, h3, h4⟩ := some_bind h2
    obtain ⟨u, h5, h6⟩ := some_bind h4
    cases h6
    exact pe_sl (ih.e _ _ _ _ _ G h1) (ih.p _ _ _ _ _ G h3) (ih.p _ _ _ _ _ G h5)
  · obtain ⟨h0, h⟩ := some_if h
    obtain ⟨f1, h1, h2⟩ := some_bind h
    obtain ⟨f2, h3, h4⟩ := some_bind h2
    cases h4
    exact pe_id (ih.e _ _ _ _ _ G h1) (ih.e _ _ _ _ _ G h3) (plain_ix h0)
  · exact c0_ok G h
  · obtain ⟨w, h0, h⟩ := some_bind h
    obtain ⟨h1, h⟩ := some_if h
    rw [Bool.and_eq_true, Bool.and_eq_true] at h1
    obtain ⟨f1, h2, rfl⟩ := some_map h
    exact pe_hear G h0 (G.gl h1.1.1) h1.1.2 h1.2 fun Y GY => ihl.e _ _ _ _ _ GY h2
  · obtain ⟨h0, h⟩ := some_if h
    simp only [Bool.and_eq_true, decide_eq_true_eq] at h0
    obtain ⟨⟨⟨⟨e0, hb⟩, _⟩, hk⟩, hset⟩ := h0
    obtain ⟨i, h1, h2⟩ := some_bind h
    obtain ⟨g, h3, h4⟩ := some_bind h2
    obtain ⟨h5, h6⟩ := some_if h4
    obtain ⟨t, h7, h8⟩ := some_bind h6
    obtain ⟨f1, h9, rfl⟩ := some_map h8
    rw [e0]
    exact pe_lnst (gt := gtOf X.K g) (ss := g.slots) (G.bi hb) G.calm G.xnd (ih.i _ _ _ _ _ _ G h1) (by rw [G.N, G.sc]; exact blkOk_by hk) (tgt_of g) (fun j hj => of_decide_eq_true (List.all_eq_true.mp h5 j hj)) (fun s H C cl fp => sound_G n _ _ _ _ G.blk' h3) (fun s H C cl fp => ih.f _ _ (fun _ _ _ _ => False) _ _ G.blk' h7) (fun s H C cl fp => ih.e _ _ _ _ _ G.blk' h9) (fold_ok hset)
  · obtain ⟨h0, h⟩ := some_if h
    exact c1_ok G h0 (fun g q => ih.e _ _ _ _ _ G q) h
  · obtain ⟨h0, h⟩ := some_if h
    exact c2_ok G h0 (fun g q => (args_ok (fun e a q => ih.e _ _ _ _ _ G q) q).1) (fun g q => ih.e _ _ _ _ _ G q) (fun g q => ih.e _ _ _ _ _ G q) h
  · obtain ⟨h0, h⟩ := some_if h
    rw [Bool.and_eq_true, Bool.and_eq_true] at h0
    obtain ⟨f1, h1, h2⟩ := some_bind h
    obtain ⟨f2, h3, h4⟩ := some_bind h2
    exact m1_ok h0.1.1 h0.1.2 h0.2 (ih.e _ _ _ _ _ G h1) (ih.e _ _ _ _ _ G h3) h4
  · obtain ⟨h0, h⟩ := some_if h
    rw [Bool.and_eq_true] at h0
    obtain ⟨i, h1, h2⟩ := some_bind h
    obtain ⟨g, h3, h4⟩ := some_bind h2
    obtain ⟨h5, h6⟩ := some_if h4
    obtain ⟨t, h7, h8⟩ := some_bind (show ((cF n _ _).bind fun t => _) = some f from h6)
    obtain ⟨f1, h9, rfl⟩ := some_map h8
    refine pe_lcm (gt := gtOf X.K g) (ss := g.slots) G.calm G.xnd (ih.i _ _ _ _ _ _ G h1) (by rw [G.N, G.sc]; exact blkOk_by h0.1) (tgt_of g) (fun j hj => of_decide_eq_true (List.all_eq_true.mp h5 j hj)) (fun s H C cl fp => sound_G n _ _ _ _ G.blk' h3) (fun s H C cl fp => ih.f _ _ _ _ _ G.blk' h7) (fun s H C cl fp => ih.e _ _ _ _ _ G.blk' h9) (fold_ok h0.2)
  · cases h
end MP

set_option Elab.async false
set_option linter.all false
set_option maxRecDepth 100000
set_option maxHeartbeats 4000000
/-! MiniPy 16: tests, walks; statements compiled. -/
namespace MP
open PySem PySem.Spec PyProof.Rows L2
open Evl (Ex)
variable [TL : TabL]
theorem sound_W {c : Cf} {n : Nat} (ih : Sound c n) : ∀ S X W op es pos f, GX S c X → cT (n + 1) S (.BoolOp op es pos) = some f → PW X (.BoolOp op es pos) (tT X W c f) := by
  intro S X W op es pos f G h
  unfold cT at h
  split at h
  · rename_i q; cases q
  · rename_i a b pos' q
    cases q
    obtain ⟨f1, h1, h2⟩ := some_bind h
    obtain ⟨f2, h3, h4⟩ := some_bind h2
    cases h4
    exact pt_an (ih.t _ _ _ _ _ G h1) (ih.t _ _ _ _ _ G h3)
  · rename_i a b pos' q
    cases q
    obtain ⟨f1, h1, h2⟩ := some_bind h
    obtain ⟨f2, h3, h4⟩ := some_bind h2
    cases h4
    exact pt_or (ih.t _ _ _ _ _ G h1) (ih.t _ _ _ _ _ G h3)
  · rename_i a b d r pos' q
    cases q
    obtain ⟨f1, h1, h2⟩ := some_bind h
    obtain ⟨f2, h3, h4⟩ := some_bind h2
    cases h4
    exact pt_an3 (ih.t _ _ _ _ _ G h1) (ih.w _ _ _ _ _ _ _ G h3)
  · rename_i a b d r pos' q
    cases q
    obtain ⟨f1, h1, h2⟩ := some_bind h
    obtain ⟨f2, h3, h4⟩ := some_bind h2
    cases h4
    exact pt_or3 (ih.t _ _ _ _ _ G h1) (ih.w _ _ _ _ _ _ _ G h3)
  · rename_i q; cases q
  · rename_i q; cases q
  · rename_i q; cases q
  · rename_i q; cases q
  · obtain ⟨h0, h⟩ := some_if h
    cases h0
theorem sound_T {c : Cf} {n : Nat} (ih : Sound c n) : ∀ S X W e f, GX S c X → cT (n + 1) S e = some f → PT X e (tT X W c f) := by
  intro S X W e f G h
  by_cases hb : ∃ op es pos, e = .BoolOp op es pos
  · obtain ⟨op, es, pos, rfl⟩ := hb
    exact (sound_W ih S X W op es pos f G h).pt
  unfold cT at h
  split at h
  · obtain ⟨f1, h1, rfl⟩ := some_map h
    exact pt_no (ih.t _ _ _ _ _ G h1)
  · exact absurd ⟨_, _, _, rfl⟩ hb
  · exact absurd ⟨_, _, _, rfl⟩ hb
  · exact absurd ⟨_, _, _, rfl⟩ hb
  · exact absurd ⟨_, _, _, rfl⟩ hb
  · obtain ⟨f1, h1, rfl⟩ := some_map h
    exact is_noneT (ih.e _ _ _ _ _ G h1)
  · obtain ⟨h0, h⟩ := some_if h
    obtain ⟨f1, h1, rfl⟩ := some_map h
    exact is_boolT (ih.e _ _ _ _ _ G h1) h0
  · obtain ⟨o, h1, h2⟩ := some_bind h
    obtain ⟨f1, h3, h4⟩ := some_bind h2
    obtain ⟨f2, h5, h6⟩ := some_bind h4
    obtain ⟨h7, h8⟩ := some_if h6
    cases h8
    exact pt_cm (cmp_ok G.units h1) (ih.e _ _ _ _ _ G h3) (ih.e _ _ _ _ _ G h5) h7
  · obtain ⟨o, h1, h2⟩ := some_bind h
    obtain ⟨o', h3, h4⟩ := some_bind h2
    obtain ⟨f1, h5, h6⟩ := some_bind h4
    obtain ⟨f2, h7, h8⟩ := some_bind h6
    obtain ⟨f3, h9, h10⟩ := some_bind h8
    obtain ⟨h11, h12⟩ := some_if h10
    cases h12
    exact pt_ch (cmp_ok G.units h1) (cmp_ok G.units h3) (ih.e _ _ _ _ _ G h5) (ih.e _ _ _ _ _ G h7) (ih.e _ _ _ _ _ G h9) h11
  · obtain ⟨h0, h⟩ := some_if h
    obtain ⟨f1, h1, rfl⟩ := some_map h
    exact pt_tr (ih.e _ _ _ _ _ G h1) (plain_t h0)
theorem sound_I {c : Cf} {n : Nat} (ih : Sound c n) : ∀ S X W tg e f, GX S c X → cI (n + 1) S tg e = some f → PI X tg e (tI X W c f) := by
  intro S X W tg e f G h
  unfold cI at h
  split at h
  · split at h
    · rename_i hh
      obtain ⟨f1, h1, rfl⟩ := some_map h
      rw [hh.1]
      exact pi_r (G.bi hh.2.1) (ih.e _ _ _ _ _ G h1) (star_1 hh.2.2.2)
    · obtain ⟨f1, h1, rfl⟩ := some_map h
      exact pi_v (ih.e _ _ _ _ _ G h1)
  · split at h
    · rename_i hh
      obtain ⟨h0, h⟩ := some_if h
      obtain ⟨f1, h1, h2⟩ := some_bind h
      obtain ⟨f2, h3, rfl⟩ := some_map h2
      rw [hh.1]
      cases tg <;> first | (cases h0; done) | exact pi_z (G.bi hh.2.1) (ih.e _ _ _ _ _ G h1) (ih.e _ _ _ _ _ G h3) (fun es => star_c es hh.2.2.2.1) (star_1 hh.2.2.2.2)
    · obtain ⟨f1, h1, rfl⟩ := some_map h
      exact pi_v (ih.e _ _ _ _ _ G h1)
  · obtain ⟨f1, h1, rfl⟩ := some_map h
    exact pi_v (ih.e _ _ _ _ _ G h1)
theorem sound_P {c : Cf} {n : Nat} (ih : Sound c n) : ∀ S X W e f, GX S c X → cP (n + 1) S e = some f → PO X e (tO X W c (part f)) := by
  intro S X W e f G h
  cases e with
  | none =>
    unfold cP at h
    cases h
    exact po_n
  | some e =>
    unfold cP at h
    obtain ⟨f1, h1, rfl⟩ := some_map h
    exact po_s (ih.e _ _ _ _ _ G h1)
theorem sound_F {c : Cf} {n : Nat} (ih : Sound c n) : ∀ S X W es f, GX S c X → cF (n + 1) S es = some f → PTs X es (tT X W c f) := by
  intro S X W es f G h
  unfold cF at h
  split at h
  · cases h
    exact pts_n
  · exact pts_1 (ih.t _ _ _ _ _ G h)
  · cases h
theorem sound_all : ∀ (n : Nat) (c : Cf), Sound c n
  | 0, c => sound_0 c
  | n + 1, c => ⟨sound_E (sound_all n c) (sound_all n c.lower), sound_T (sound_all n c), sound_W (sound_all n c), sound_I (sound_all n c), sound_P (sound_all n c), sound_F (sound_all n c)⟩
theorem sound (c : Cf) (n : Nat) : Sound c n := sound_all n c

/-! ### statements -/
/-- y = [..] -/
def lcPart (n : Nat) (S : Sta) (elt tg it : Expr) (ifs : List Expr) (scope : Scope) (pos : Pos) : Option ES := cE n S (.ListComp elt [⟨tg, it, ifs, 0⟩] scope pos)
/-- the comprehension's own names do not hold y -/
def swOk (S : Sta) (y : Str) (py pos : Pos) (scope : Scope) : Bool := decide (S.sc.kind = .function) && decide (S.sc.names.lookup y = some .local) && (py.line == pos.line) && !(scope.names.any fun (n, k) => n == y && (k == .local || k == .cell))
mutual
def cS : Nat → Sta → Stmt → Option SS
  | 0, _, _ => none
  | n + 1, S, st => match st with
    | .Expr (.Constant (.str _) _ _) _ => some zNext
    | .Expr e _ => if noComp e = true then (cE n S e).map zExpr else none
    | .Return (some e) _ => (cE n S e).map zRet
    | .If t a b _ => (cT n S t).bind fun t => (cSs n S a).bind fun a => (cSs n S b).map fun b => zIf t a b
    | .For tg it body [] _ => if noSet it = true then (cI n S tg it).bind fun i => (cG n S tg).bind fun g => (cSs n S body).map fun b => zFor i g b else none
    | .Assign [.Subscript o i _] e _ => if (noComp e && noSlice i) = true then (cE n S o).bind fun g => (cE n S i).bind fun h => (cE n S e).map fun f => zSetIx g h f else none
    | .Assign [.Tuple [.Name x px, .Name y py] k1 p1] (.Tuple [u, v] k2 p2) _ => if (foldedForSure 8 u && foldedForSure 8 v) = true then
        (cG n S (.Tuple [.Name x px, .Name y py] k1 p1)).bind fun g => (cE n S (.Tuple [u, v] k2 p2)).map fun f => zSet g f
      else if (decide (S.sc.kind = .function) && decide (S.sc.names.lookup x = some .local) && decide (S.sc.names.lookup y = some .local) && (py.line == px.line) && notStar u && notStar v && !(constantsAlone 8 u && constantsAlone 8 v)) = true then
        (ixOf S.N x).bind fun i => (ixOf S.N y).bind fun j => if i ≠ j then (cAs (cE n S) [u, v]).map fun r => zPar i j r else none else none
    | .Assign [.Name y py] (.ListComp elt [⟨tg, it, ifs, 0⟩] scope pos) _ => (ixOf S.N y).bind fun i =>
        if swOk S y py pos scope = true then (cE n S (.ListComp elt [⟨tg, it, ifs, 0⟩] scope pos)).map fun f => zSet (.nm i) f
        else if S.sc.names.lookup y = some .cell ∧ S.loc y = true then (cE n S (.ListComp elt [⟨tg, it, ifs, 0⟩] scope pos)).map fun f => zSet (.nm i) f else none
    | .Assign [tg] e _ => if (noComp e && (noTup tg || noTup e) && notStar tg) = true then (cG n S tg).bind fun g => (cE n S e).map fun f => zSet g f else none
    | .Pass _ => some zNext
    | _ => none
def cSs : Nat → Sta → List Stmt → Option SS
  | 0, _, _ => none
  | n + 1, S, sts => match sts with
    | [] => some zNext
    | [st] => cS n S st
    | st :: r => (cS n S st).bind fun a => (cSs n S r).map fun b => zSeq a b
end
structure SoundS (c : Cf) (n : Nat) : Prop where
  s : ∀ S X W st f, GX S c X → PassesOwn (model X.prog X.w) X.A X.env X.xe → cS n S st = some f → PS X st (tS X W c f)
  ss : ∀ S X W sts f, GX S c X → PassesOwn (model X.prog X.w) X.A X.env X.xe → cSs n S sts = some f → PSs X sts (tS X W c f)
theorem swap_cell {elt : Expr} {gs : List Comprehension} {scope : Scope} {pos py : Pos} {y : Str} {l : Nat} {env : Env} (h : env.kindOf y = some .cell) : swapsWith (.ListComp elt gs scope pos) (some (.Name y py)) l env = pure false := by
  unfold swapsWith
  simp only [h]
  have : (some NameKind.cell == some NameKind.local) = false := rfl
  rw [this, Bool.and_false, Bool.false_and, Bool.false_and]
/-- y = [..] where the list's place is stored within -/
theorem ps_lcm {X : Cx} {W : WX} {c : Cf} {elt tg iter : Expr} {ifs : List Expr} {scope : Scope} {own : List (Str × Nat)} {pos spos py : Pos} {y : Str} {k : Nat} {i : IS} {g : Tg} {gt : TG} {ss : List Nat} {t : TSm} {e : ES} {mt : Bool} (hc : X.calm = true) (hN : X.N.Nodup) (hy : X.N[k]? = some y) (hyl : X.env.scope.names.lookup y = some .local)
    (hsw : swapsWith (.ListComp elt [⟨tg, iter, ifs, 0⟩] scope pos) (some (.Name y py)) spos.line X.env = pure true) (hi : PI X tg iter (tI X W c i)) (ok : BlkOk X.N X.env.scope scope own)
    (hgt : Tgt X gt ss g) (hss : ∀ j ∈ ss, j ∈ own.map (·.2))
    (hg : ∀ (s : Shared) (H : Hp) (C : Addr) (cl : List (Str × Addr)) (fp : List Addr), PG (X.blk s H scope (compEnvC scope cl C X.env) fp) tg gt) (ht : ∀ (s : Shared) (H : Hp) (C : Addr) (cl : List (Str × Addr)) (fp : List Addr), PTs (X.blk s H scope (compEnvC scope cl C X.env) fp) ifs (tT X W0 c t))
    (he : ∀ (s : Shared) (H : Hp) (C : Addr) (cl : List (Str × Addr)) (fp : List Addr), PE (X.blk s H scope (compEnvC scope cl C X.env) fp) elt (tE X W0 c e)) (hs : ∀ x, foldedSetIterable iter X.env x = pure x) :
    PS X (.Assign [.Name y py] (.ListComp elt [⟨tg, iter, ifs, 0⟩] scope pos) spos) (tS X W c (zSet (.nm k) (sLc mt i g (own.map (·.2)) t e))) := by
  refine wkS (ps_setLc hc hN hy hyl hsw hi ok hg ht he hs) fun D σ H ⟨φ, F, ρ, M, rel, rr, q⟩ => ?_
  have w : tE X W c (sLc mt i g (own.map (·.2)) t e) σ H (fun x H1 => gName k x σ H1 D.nx) := by
    refine seqS rel rr q fun v H1 φ1 F1 M1 d n1 q1 => ?_
    obtain ⟨ρ1, e1, q2⟩ := PostS.opt q1
    exact tg_name φ1 F1 H1 M1 d v ρ ρ1 σ _ n1.rel n1.rr n1.rp e1 fun σ' rr' _ _ => PostS.here n1.rel rr' q2
  obtain ⟨φ, F, ρ, M, rel, rr, q⟩ := w
  refine seq rel rr q fun J H1 φ1 F1 M1 S n1 q1 => ?_
  obtain ⟨ys, M2, e1, q2⟩ := Post.okOf lcAll_noExc q1
  obtain ⟨n, e2, h2⟩ := ok_of_opt (show (opt (S.size M1) fun n => chk (decide (n ≤ line)) (noExc (lcLoop (lcTurn g (own.map (·.2)) t e c ρ) S n 0 M1))) = .ok ys M2 from e1)
  obtain ⟨h3, h4⟩ := ok_of_chk h2
  exact fun D hD => lc_run hgt hss n1.rel n1.rr n1.rp (of_decide_eq_true h3) (ok_of_noExc h4) q2 D hD
end MP

set_option Elab.async false
set_option linter.all false
set_option maxRecDepth 100000
set_option maxHeartbeats 4000000
/-! MiniPy 17: statements, sound. -/
namespace MP
open PySem PySem.Spec PyProof.Rows L2
open Evl (Ex)
variable [TL : TabL]
/-- a comprehension's parts -/
theorem lc_parts {n : Nat} {S : Sta} {elt tg it : Expr} {ifs : List Expr} {scope : Scope} {pos : Pos} {f : ES} (h : cE n S (.ListComp elt [⟨tg, it, ifs, 0⟩] scope pos) = some f) :
    ∃ m i g t e, blkC S.N S.sc scope (ownOf S scope) = true ∧ noSet it = true ∧ cI m S tg it = some i ∧ cG m (S.blk scope) tg = some g ∧ (∀ j ∈ g.slots, j ∈ (ownOf S scope).map (·.2)) ∧ cF m (S.blk scope) ifs = some t ∧ cE m (S.blk scope) elt = some e ∧
      f = sLc (S.mtb pos) i g ((ownOf S scope).map (·.2)) t e := by
  cases n with
  | zero => simp only [cE] at h; cases h
  | succ m =>
    have h : (if (blkC S.N S.sc scope (ownOf S scope) && noSet it) = true then (cI m S tg it).bind (fun i => (cG m (S.blk scope) tg).bind fun g =>
        if g.slots.all (fun j => decide (j ∈ (ownOf S scope).map (·.2))) = true then lcOf (cF m (S.blk scope) ifs) (cE m (S.blk scope) elt) (S.mtb pos) i g ((ownOf S scope).map (·.2)) else none) else none) = some f := by
      unfold cE at h
      exact h
    obtain ⟨h0, h⟩ := some_if h
    rw [Bool.and_eq_true] at h0
    obtain ⟨i, h1, h2⟩ := some_bind h
    obtain ⟨g, h3, h4⟩ := some_bind h2
    obtain ⟨h5, h6⟩ := some_if h4
    obtain ⟨t, h7, h8⟩ := some_bind (show ((cF m _ _).bind fun t => _) = some f from h6)
    obtain ⟨f1, h9, h10⟩ := some_map h8
    exact ⟨m, i, g, t, f1, h0.1, h0.2, h1, h3, fun j hj => of_decide_eq_true (List.all_eq_true.mp h5 j hj), h7, h9, h10.symm⟩
theorem sw_ok {S : Sta} {X : Cx} {c : Cf} {y : Str} {py pos : Pos} {scope : Scope} {elt : Expr} {gs : List Comprehension} {l : Nat} (G : GX S c X) (h : swOk S y py pos scope = true) : X.env.scope.names.lookup y = some .local ∧ swapsWith (.ListComp elt gs scope pos) (some (.Name y py)) l X.env = pure true := by
  unfold swOk at h
  rw [Bool.and_eq_true, Bool.and_eq_true, Bool.and_eq_true, decide_eq_true_eq, decide_eq_true_eq, Bool.not_eq_true'] at h
  obtain ⟨⟨⟨h1, h2⟩, h3⟩, h4⟩ := h
  have e2 : X.env.scope.names.lookup y = some .local := by rw [G.sc]; exact h2
  exact ⟨e2, sw_true (by rw [G.sc]; exact h1) e2 h3 h4⟩
theorem swp {x y : Str} {px py p1 p2 : Pos} {u v : Expr} {k1 k2 : Nat} {env : Env} (hb : env.blockKind = .function) (hx : env.scope.names.lookup x = some .local) (hy : env.scope.names.lookup y = some .local) (hl : (py.line == px.line) = true)
    (hxy : x ≠ y) (hu : notStar u = true) (hv : notStar v = true) (hf : (foldedForSure 8 u && foldedForSure 8 v) = false) (hc : (constantsAlone 8 u && constantsAlone 8 v) = false) :
    swappedStores [.Tuple [.Name x px, .Name y py] k1 p1] (.Tuple [u, v] k2 p2) env = pure (some [x, y]) := by
  have e1 : env.kindOf x = some .local := by unfold Env.kindOf; exact hx
  have e2 : env.kindOf y = some .local := by unfold Env.kindOf; exact hy
  have e5 : (y == x) = false := by simp; exact fun h => hxy h.symm
  unfold swappedStores
  simp [List.filterMap, List.eraseDups_cons, Expr.pos, e1, e2, e5, hb, eq_of_beq hl]
  rw [if_neg, if_neg, if_neg]
  · intro h; rw [h.1, h.2] at hc; cases hc
  · intro h; rw [h.1, h.2] at hf; cases hf
  · rintro (h | h)
    · cases u <;> first | (cases hu; done) | (cases h; done)
    · cases v <;> first | (cases hv; done) | (cases h; done)
theorem swn {x y : Str} {px py p1 p2 : Pos} {u v : Expr} {k1 k2 : Nat} {env : Env} (hf : (foldedForSure 8 u && foldedForSure 8 v) = true) :
    swappedStores [.Tuple [.Name x px, .Name y py] k1 p1] (.Tuple [u, v] k2 p2) env = pure none := by
  rw [Bool.and_eq_true] at hf
  unfold swappedStores
  simp [hf.1, hf.2]
theorem ixOf_ne {N : List Str} {x y : Str} {i j : Nat} (h : ixOf N x = some i) (h2 : ixOf N y = some j) (hij : i ≠ j) : x ≠ y := fun e => hij (by rw [e] at h; rw [h] at h2; exact Option.some.inj h2)
theorem blkK {env : Env} (h : env.scope.kind = .function) : env.blockKind = .function := by
  unfold Env.blockKind
  rw [h]
  rfl
theorem sound_s {c : Cf} {n : Nat} (ih : SoundS c n) : ∀ S X W st f, GX S c X → PassesOwn (model X.prog X.w) X.A X.env X.xe → cS (n + 1) S st = some f → PS X st (tS X W c f) := by
  intro S X W st f G hp h
  have so := sound c n
  unfold cS at h
  split at h
  · cases h
    exact wkS ps_doc fun D σ H ⟨φ, F, ρ, M, rel, rr, q⟩ => PostS.here rel rr q
  · obtain ⟨h0, h⟩ := some_if h
    obtain ⟨f1, h1, rfl⟩ := some_map h
    exact ps_ex (so.e _ _ _ _ _ G h1) (swaps_ok h0)
  · obtain ⟨f1, h1, rfl⟩ := some_map h
    exact ps_rt (so.e _ _ _ _ _ G h1)
  · obtain ⟨t, h1, h2⟩ := some_bind h
    obtain ⟨a, h3, h4⟩ := some_bind h2
    obtain ⟨b, h5, rfl⟩ := some_map h4
    exact ps_fi (so.t _ _ _ _ _ G h1) (ih.ss _ _ _ _ _ G hp h3) (ih.ss _ _ _ _ _ G hp h5)
  · obtain ⟨h0, h⟩ := some_if h
    obtain ⟨i, h1, h2⟩ := some_bind h
    obtain ⟨g, h3, h4⟩ := some_bind h2
    obtain ⟨b, h5, rfl⟩ := some_map h4
    exact ps_fr hp G.calm (so.i _ _ _ _ _ _ G h1) (sound_G n _ _ _ _ G h3) (tgt_of g) (ih.ss _ _ _ _ _ G hp h5) (fold_ok h0)
  · obtain ⟨h0, h⟩ := some_if h
    rw [Bool.and_eq_true] at h0
    obtain ⟨g, h1, h2⟩ := some_bind h
    obtain ⟨i, h3, h4⟩ := some_bind h2
    obtain ⟨f1, h5, rfl⟩ := some_map h4
    rename_i o ix p e p2 hprev
    have po := so.e _ _ W _ _ G h1
    have pi := so.e _ _ W _ _ G h3
    exact ps_ix po pi (so.e _ _ _ _ _ G h5) (pg_sub po pi set_list (fun v => by cases ix <;> first | rfl | (exact absurd h0.2 (by simp [noSlice])))) (swaps_sole h0.1) (stores_ok (.inl rfl))
  · split at h
    · rename_i hf
      obtain ⟨g, h1, h2⟩ := some_bind h
      obtain ⟨f1, h3, rfl⟩ := some_map h2
      exact ps_st (so.e _ _ _ _ _ G h3) (sound_G n _ _ _ _ G h1) (tgt_of g) (swaps_sole rfl) (swn hf) rfl
    · rename_i hf
      obtain ⟨h0, h⟩ := some_if h
      simp only [Bool.and_eq_true, decide_eq_true_eq, Bool.not_eq_true'] at h0
      obtain ⟨⟨⟨⟨⟨⟨h0, h1⟩, h2⟩, h2'⟩, h3⟩, h4⟩, h4'⟩ := h0
      obtain ⟨i, h5, h6⟩ := some_bind h
      obtain ⟨j, h7, h8⟩ := some_bind h6
      obtain ⟨hij, h9⟩ := some_if h8
      obtain ⟨r, h10, rfl⟩ := some_map h9
      have hi := ixOf_get h5
      have hj := ixOf_get h7
      rw [← G.N] at hi hj
      have hxy := ixOf_ne h5 h7 hij
      refine ps_pr G.calm G.xnd hi hj hij (fun ta hta => ps_par G.calm G.xnd hi hj hij (by rw [G.sc]; exact h1) (by rw [G.sc]; exact h2) hta ?_ rfl) (args_ok (fun e a q => so.e _ _ _ _ _ G q) h10).1
      exact swp (blkK (by rw [G.sc]; exact h0)) (by rw [G.sc]; exact h1) (by rw [G.sc]; exact h2) h2' hxy h3 h4 (by simpa using hf) h4'
  · obtain ⟨i, h1, h2⟩ := some_bind h
    have hi := ixOf_get h1
    rw [← G.N] at hi
    split at h2
    · rename_i hs
      obtain ⟨f1, h3, rfl⟩ := some_map h2
      obtain ⟨m, i', g, t, e, k1, k2, k3, k4, k5, k6, k7, rfl⟩ := lc_parts h3
      obtain ⟨e2, e3⟩ := sw_ok G hs
      have so' := sound c m
      exact ps_lcm (gt := gtOf X.K g) (ss := g.slots) G.calm G.xnd hi e2 e3 (so'.i _ _ _ _ _ _ G k3) (by rw [G.N, G.sc]; exact blkOk_by k1) (tgt_of g) k5 (fun s H C cl fp => sound_G m _ _ _ _ G.blk' k4) (fun s H C cl fp => so'.f _ _ _ _ _ G.blk' k6) (fun s H C cl fp => so'.e _ _ _ _ _ G.blk' k7) (fold_ok k2)
    · obtain ⟨hc, h3⟩ := some_if h2
      obtain ⟨f1, h4, rfl⟩ := some_map h3
      have hl := G.loc hc.2
      have hk := hc.1
      rw [← G.sc] at hk
      exact ps_st (so.e _ _ _ _ _ G h4) (pg_name G.xnd hi hl.1 hl.2) tg_name (by unfold swapsWithSole; exact swap_cell hk) (stores_ok (.inl rfl)) rfl
  · obtain ⟨h0, h⟩ := some_if h
    rw [Bool.and_eq_true, Bool.and_eq_true, Bool.or_eq_true] at h0
    obtain ⟨g, h1, h2⟩ := some_bind h
    obtain ⟨f1, h3, rfl⟩ := some_map h2
    exact ps_st (so.e _ _ _ _ _ G h3) (sound_G n _ _ _ _ G h1) (tgt_of g) (swaps_sole h0.1.1) (stores_ok h0.1.2) (by rw [assign_c [] h0.2]; rfl)
  · cases h
    exact wkS ps_pass fun D σ H ⟨φ, F, ρ, M, rel, rr, q⟩ => PostS.here rel rr q
  · cases h
theorem sound_ss {c : Cf} {n : Nat} (ih : SoundS c n) : ∀ S X W sts f, GX S c X → PassesOwn (model X.prog X.w) X.A X.env X.xe → cSs (n + 1) S sts = some f → PSs X sts (tS X W c f) := by
  intro S X W sts f G hp h
  unfold cSs at h
  split at h
  · cases h
    exact pss_n
  · exact pss_1 (ih.s _ _ _ _ _ G hp h)
  · obtain ⟨a, h1, h2⟩ := some_bind h
    obtain ⟨b, h3, rfl⟩ := some_map h2
    exact pss_c (ih.s _ _ _ _ _ G hp h1) (ih.ss _ _ _ _ _ G hp h3)
theorem soundS (c : Cf) : ∀ n, SoundS c n
  | 0 => ⟨fun _ _ _ _ _ _ _ h => (by simp only [cS] at h; cases h), fun _ _ _ _ _ _ _ h => (by simp only [cSs] at h; cases h)⟩
  | n + 1 => ⟨sound_s (soundS c n), sound_ss (soundS c n)⟩
end MP

set_option Elab.async false
set_option linter.all false
set_option maxRecDepth 100000
set_option maxHeartbeats 4000000
/-! MiniPy 18: defs. -/
namespace MP
open PySem PySem.Spec PyProof.Rows L2
open Evl (Ex)
variable [TL : TabL]
section
variable {K : PySem.W.Frag} {φ φ1 : List Addr} {F F1 H H1 : Hp} {M M1 M2 : Mh} {n : Nat}
mutual
theorem noH_rp : ∀ (d : D) (v : V), noH n d = true → Rp K φ F d v → Rp K (φ.take n) F d v
  | .non, _, _, h => by simpa [Rp] using h
  | .bl _, _, _, h => by simpa [Rp] using h
  | .int _, _, _, h => by simpa [Rp] using h
  | .str _, _, _, h => by simpa [Rp] using h
  | .tup ds, v, e, h => by
    obtain ⟨a, xs, rfl, s, r⟩ := h
    exact ⟨a, xs, rfl, s, noHs_rp ds xs e r⟩
  | .lst ds, v, e, h => by
    obtain ⟨a, xs, rfl, s, r⟩ := h
    exact ⟨a, xs, rfl, s, noHs_rp ds xs e r⟩
  | .kls ds, v, e, h => by
    obtain ⟨a, xs, rfl, s, r⟩ := h
    exact ⟨a, xs, rfl, s, noHs_rp ds xs e r⟩
  | .dic ks ds, v, e, h => by
    obtain ⟨a, xs, rfl, s, l, r⟩ := h
    exact ⟨a, xs, rfl, s, l, noHs_rp ds xs e r⟩
  | .h m, v, e, h => by
    obtain ⟨a, rfl, s⟩ := h
    have : m < n := of_decide_eq_true e
    exact ⟨a, rfl, by rw [List.getElem?_take_of_lt this]; exact s⟩
theorem noHs_rp : ∀ (ds : List D) (xs : List V), noHs n ds = true → Rps K φ F ds xs → Rps K (φ.take n) F ds xs
  | [], _, _, h => by simpa [Rps] using h
  | d :: ds, xs, e, h => by
    obtain ⟨v, vs, rfl, r, rs⟩ := h
    have e : (noH n d && noHs n ds) = true := e
    rw [Bool.and_eq_true] at e
    exact ⟨v, vs, rfl, noH_rp d v e.1 r, noHs_rp ds vs e.2 rs⟩
end
theorem Rel.take (rel : Rel K φ F H M) (h : (M.take n).all (noHO n) = true) : Rel K (φ.take n) F H (M.take n) where
  tab := rel.tab
  ntb := rel.ntb
  len := by rw [List.length_take, List.length_take, rel.len]
  ex := rel.ex
  apart := fun a ha => rel.apart a (List.mem_of_mem_take ha)
  nd := rel.nd.sublist (List.take_sublist _ _)
  obj := fun m o a h1 h2 => by
    have hm : m < n := by
      have := (List.getElem?_eq_some_iff.mp h1).1
      rw [List.length_take] at this
      omega
    have ho := List.all_eq_true.mp h o (List.mem_of_getElem? h1)
    rw [List.getElem?_take_of_lt hm] at h1 h2
    have := rel.obj m o a h1 h2
    cases o with
    | lst xs =>
      obtain ⟨ys, h3, h4⟩ := this
      exact ⟨ys, h3, noHs_rp _ _ ho h4⟩
    | dead => exact this
theorem Fwd.back (w : Fwd φ F H φ1 F1 H1) (hn : φ.length = n) : φ1.take n = φ := by
  obtain ⟨r, rfl⟩ := w.pre
  rw [← hn, List.take_left']
  rfl
theorem Fwd.take (w : Fwd φ F H φ1 F1 H1) (hn : φ.length = n) : Fwd φ F H (φ1.take n) F1 H1 := by
  rw [w.back hn]
  exact ⟨List.prefix_refl _, w.ex, w.kp, w.nf, fun _ h => .inl h, w.dom⟩
theorem Fwd.adoptV (w : Fwd φ F H φ1 F1 H1) {p : Addr} (hp : Vac H p) (o : HO) (rel : Rel K φ F H M) : Fwd φ F H φ1 (upd F1 p o) H1 where
  pre := w.pre
  ex := fun a u e => by
    have n : a ≠ p := fun z => by
      obtain ⟨ps, q⟩ := hp u (by rw [← z]; exact rel.ex a u e)
      exact rel.ntb a ps (by rw [e, q])
    rw [upd_ne n]
    exact w.ex a u e
  kp := w.kp
  nf := fun b u h => by
    by_cases e : b = p
    · exact .inr (e ▸ hp)
    · rw [upd_ne e] at h
      exact w.nf b u h
  nh := w.nh
  dom := w.dom
/-- a def's end -/
theorem fin_ok {d d' : D} {v : V} (rel : Rel K φ F H M) (w : Fwd φ F H φ1 F1 H1) (rel1 : Rel K φ1 F1 H1 M1) (r : Rp K φ1 F1 d v) (e : fin M.length d M1 = .ok d' M2) : ∃ φ2 F2, Fwd φ F H φ2 F2 H1 ∧ Rel K φ2 F2 H1 M2 ∧ Rp K φ2 F2 d' v := by
  unfold fin at e
  split at e
  · cases e
    exact ⟨φ1, F1, w, rel1, r⟩
  · split at e
    · rename_i m
      split at e
      · rename_i hm
        split at e
        · rename_i h2
          cases e
          refine ⟨_, F1, w.take rel.len, rel1.take h2, noH_rp _ _ (decide_eq_true hm) r⟩
        · cases e
      · rename_i hm
        split at e
        · rename_i xs hx
          split at e
          · rename_i h2
            cases e
            rw [Bool.and_eq_true] at h2
            obtain ⟨a, rfl, ha⟩ := r
            obtain ⟨ys, h3, h4⟩ := rel1.obj m _ a hx ha
            have hna : a ∉ φ1.take M.length := fun z => by
              obtain ⟨i, hi⟩ := List.mem_iff_getElem?.mp z
              have hi2 : i < M.length := by
                have := (List.getElem?_eq_some_iff.mp hi).1
                rw [List.length_take] at this
                omega
              rw [List.getElem?_take_of_lt hi2] at hi
              exact hm (nodup_ixA rel1.nd hi ha ▸ hi2)
            have hv : Vac H a := (w.nh a (List.mem_of_getElem? ha)).resolve_left (by rw [← w.back rel.len]; exact hna)
            have hF := rel1.apart a (List.mem_of_getElem? ha)
            refine ⟨_, upd F1 a (.lst ys), (w.take rel.len).adoptV hv _ rel, (rel1.take h2.2).adopt h3 hF hna, ⟨a, ys, rfl, .inl upd_same, (noHs_rp _ _ h2.1 h4).mono (List.prefix_refl _) (Evl.Ex.new hF)⟩⟩
          · cases e
        · cases e
    · split at e
      · rename_i h2
        cases e
        rw [Bool.and_eq_true] at h2
        exact ⟨_, F1, w.take rel.len, rel1.take h2.2, noH_rp _ _ h2.1 r⟩
      · cases e
theorem fin_post {f : Def} {d : D} {v : V} {Q : VK} (rel : Rel K φ F H M) (w : Fwd φ F H φ1 F1 H1) (rel1 : Rel K φ1 F1 H1 M1) (r : Rp K φ1 F1 d v) (h : PostC K φ F H (f.fin M.length d M1) Q) : Q v H1 := by
  unfold Def.fin at h
  split at h
  · exact h _ _ _ _ w rel1 r
  · cases e : fin M.length d M1 with
    | fail => rw [e] at h; exact h.elim
    | exc x ds M2 => rw [e] at h; exact h.elim
    | ok d' M2 =>
      rw [e] at h
      obtain ⟨φ2, F2, w2, rel2, r2⟩ := fin_ok rel w rel1 r e
      exact h _ _ _ _ w2 rel2 r2
end
theorem RR.start {K : PySem.W.Frag} {φ : List Addr} {F : Hp} {N : List Str} {ds : List D} {vs : List V} (h : Rps K φ F ds vs) : RR K φ F (ds.map some ++ List.replicate (N.length - ds.length) none) (L2.start N vs) := by
  have hl := h.length
  refine ⟨by simp [L2.start, hl], fun i d e => ?_⟩
  by_cases hi : i < ds.length
  · rw [List.getElem?_append_left (by simpa using hi), List.getElem?_map] at e
    cases q : ds[i]? with
    | none => rw [q] at e; cases e
    | some d' =>
      rw [q] at e
      cases e
      obtain ⟨v, h1, h2⟩ := h.get q
      refine ⟨v, ?_, h2⟩
      unfold L2.start
      rw [List.getElem?_append_left (by rw [List.length_map, ← hl]; exact hi), List.getElem?_map, h1]
      rfl
  · rw [List.getElem?_append_right (by simpa using hi), List.getElem?_replicate] at e
    split at e <;> cases e
/-- a def keeps its promise -/
theorem fnok {P : Program} {w : World} {K : PySem.W.Frag} {mg : Str → Option Value} {base : Heap} {x qual : Str} {params : Arguments} {body : List Stmt} {f : Addr} {fd : FuncData} {ps : List Str} {k n : Nat} {S : Sta} {c : Cf} {g : Def}
    (Fn : FunD K x qual params body S.sc [] [] f fd) (Sc : FnScope S.N ps S.sc) (htop : S.top = true) (hc : cSs n S body = some g.body) (hs : g.slots = S.N.length) (hp : g.params = ps.length)
    (free : ∀ x ∈ S.free, mg x = none) (cons : ∀ x d, S.cons.lookup x = some d → ∃ u v, mg x = some u ∧ RelV v u ∧ ∀ φ F, Rp K φ F d v)
    (fns : FnsAt P w K mg base k S.fns c.call) (low : c.deep = true → ∃ j, j + 2 ≤ k ∧ FnsAt P w K mg base j S.fns c.low)
    (hrs : ∀ y z, S.hears.lookup y = some z → HearF K mg y z ∧ ∀ cc, fd.code = .ref cc → ∃ T, LamX.TabB base mg cc T ∧ (∀ (m : Nat), (T, (envOfC qual S.sc m f fd.code).qual ++ "<lambda>") ∈ TL.T ∧ ∀ p ∈ TL.T, p.1 = T → p.2 = (envOfC qual S.sc m f fd.code).qual ++ "<lambda>")) :
    FnOk P w K mg base L2.CX0 (k + 1) f fd ps (spC K (g.run c)) := by
  obtain ⟨oc, od, dV, kV, doc, pm, an, cdv, ct, osl, rfl, lk, hcd, _, _⟩ := Fn.ex
  refine fn_of lk hcd Sc (fun vs H Q E h => ?_) fun A outer s H vs Q E hr h => ?_
  · obtain ⟨φ, F, ds, M, rel, rs, q⟩ := h
    rw [← rs.length]
    unfold Def.run at q
    split at q
    · rename_i e; rw [e, hp]
    · exact q.elim
  · obtain ⟨φ, F, ds, M, rel, rs, q⟩ := h
    unfold Def.run at q
    split at q
    · rename_i e
      have G : GX S c (cxOf L2.CX0 P w K mg base S.N qual S.sc f cdv A outer s H E).nox := {
        N := rfl
        nd := Sc.nd
        sc := rfl
        calm := rfl
        units := by have := hr.un; show (A.deeper (envOfC qual S.sc s.heap.objs.size f cdv)).units + 65 < cLine; omega
        free := free
        cons := cons
        fns := ⟨k, hr, fns⟩
        low := fun h => by
          obtain ⟨j, hj, hl⟩ := low h
          exact ⟨j, hr.mono hj, hl⟩
        fnl := fun _ _ => rfl
        hrs := fun y z hy => by
          obtain ⟨a, b⟩ := hrs y z hy
          refine ⟨a, ?_⟩
          obtain ⟨cc, rfl⟩ := He.codeIn_ref hcd
          obtain ⟨T, h1, h2⟩ := b cc rfl
          exact ⟨cc, T, h1, rfl, (h2 s.heap.objs.size).1, (h2 s.heap.objs.size).2⟩ }
      refine ⟨tS _ (fun _ _ _ _ => False) c g.body, PSs.nox ((soundS c n).ss S _ (fun _ _ _ _ => False) _ _ G PassesOwn.never hc), φ, F, _, M, rel, RR.start rs, ?_⟩
      rw [hs, hp] at *
      show PostS _ _ φ F H (g.body c (ds.map some ++ List.replicate (S.N.length - ds.length) none) M) _
      cases hb : g.body c (ds.map some ++ List.replicate (S.N.length - ds.length) none) M with
      | fail => rw [hb] at q; exact q
      | nx ρ1 M1 => rw [hb] at q; exact fun φ1 F1 H1 σ1 w1 rel1 rr1 => fin_post (d := .non) (v := .non) rel w1 rel1 rfl q
      | rt d M1 => rw [hb] at q; exact fun φ1 F1 H1 v w1 rel1 r1 => fin_post rel w1 rel1 r1 q
      | bk ρ1 M1 => rw [hb] at q; exact q.elim
      | ct ρ1 M1 => rw [hb] at q; exact q.elim
      | exc y es ρ1 M1 => rw [hb] at q; exact q.elim
    · exact q.elim
end MP

set_option Elab.async false
set_option linter.all false
set_option maxRecDepth 100000
set_option maxHeartbeats 4000000
/-! MiniPy 19: all defs of a text, so many calls deep. -/
namespace MP
open PySem PySem.Spec PyProof.Rows L2
open Evl (Ex)
variable [TL : TabL]
/-- a def as it stands: its function object, its text, its combinator -/
structure DefE (K : PySem.W.Frag) (mg : Str → Option Value) (base : Heap) (Pg : Prog) (fns : List Str) (x : Str) (fa : Addr) (fd : FuncData) (S : Sta) (g : Def) (ps : List Str) (params : Arguments) (body : List Stmt) : Prop where
  at_ : mg x = some (.ref fa)
  is : Pg x = some g
  fun_ : FunD K x x params body S.sc [] [] fa fd
  sco : FnScope S.N ps S.sc
  top : S.top = true
  code : cSs 60 S body = some g.body
  slots : g.slots = S.N.length
  prm : g.params = ps.length
  fns : S.fns = fns
  binds : Binds K fd ps []
  free : ∀ x ∈ S.free, mg x = none
  cons : ∀ x d, S.cons.lookup x = some d → ∃ u v, mg x = some u ∧ RelV v u ∧ ∀ φ F, Rp K φ F d v
  hrs : ∀ y z, S.hears.lookup y = some z → HearF K mg y z ∧ ∀ cc, fd.code = .ref cc → ∃ T, LamX.TabB base mg cc T ∧ (∀ (m : Nat), (T, (envOfC x S.sc m fa fd.code).qual ++ "<lambda>") ∈ TL.T ∧ ∀ p ∈ TL.T, p.1 = T → p.2 = (envOfC x S.sc m fa fd.code).qual ++ "<lambda>")
section
variable {P : Program} {w : World} {K : PySem.W.Frag} {mg : Str → Option Value} {base : Heap} {Pg : Prog} {fns : List Str}
theorem DefE.ok {x : Str} {fa : Addr} {fd : FuncData} {S : Sta} {g : Def} {ps : List Str} {params : Arguments} {body : List Stmt} {c : Cf} {k : Nat} (E : DefE K mg base Pg fns x fa fd S g ps params body) (hf : FnsAt P w K mg base k fns c.call) (hl : c.deep = true → ∃ j, j + 2 ≤ k ∧ FnsAt P w K mg base j fns c.low) :
    FnOk P w K mg base L2.CX0 (k + 1) fa fd ps (spC K (g.run c)) :=
  fnok E.fun_ E.sco E.top E.code E.slots E.prm E.free E.cons (by rw [E.fns]; exact hf) (by rw [E.fns]; exact hl) E.hrs
theorem fns_all (h : ∀ x ∈ fns, ∃ fa fd S g ps params body, DefE K mg base Pg fns x fa fd S g ps params body) : ∀ k, FnsAt P w K mg base k fns (callAt Pg k) := by
  intro k
  induction k using Nat.strongRecOn with
  | _ k ih =>
    intro x hx
    obtain ⟨fa, fd, S, g, ps, params, body, E⟩ := h x hx
    refine ⟨fa, fd, ps, E.at_, E.fun_.kp, E.binds, ?_⟩
    match k, ih with
    | 0, _ =>
      have no : ∀ vs H Q E', ¬ spC K (callAt Pg 0 x) vs H Q E' := fun vs H Q E' ⟨φ, F, ds, M, _, _, q⟩ => by rw [callAt_zero] at q; exact q.elim
      exact ⟨fun vs H Q E' z => absurd z (no vs H Q E'), fun A outer s H args us vs Q E' _ _ _ _ z => absurd z (no vs H Q E')⟩
    | 1, ih =>
      have e : callAt Pg 1 x = g.run ⟨callAt Pg 0, fun _ _ _ => .fail, false⟩ := by
        funext ds M
        rw [callAt_one, E.is]
        rfl
      rw [e]
      exact E.ok (ih 0 (by omega)) fun z => by cases z
    | 2, ih =>
      have e : callAt Pg 2 x = g.run ⟨callAt Pg 1, fun _ _ _ => .fail, false⟩ := by
        funext ds M
        rw [show (2 : Nat) = 0 + 2 from rfl, callAt_two, E.is]
        rfl
      rw [e]
      exact E.ok (ih 1 (by omega)) fun z => by cases z
    | j + 3, ih =>
      have e : callAt Pg (j + 3) x = g.run ⟨callAt Pg (j + 2), callAt Pg j, true⟩ := by
        funext ds M
        rw [show j + 3 = (j + 1) + 2 from rfl, callAt_two, E.is]
        rfl
      rw [e]
      exact E.ok (ih (j + 2) (by omega)) fun _ => ⟨j, by omega, ih j (by omega)⟩
end
/-- texts, ints, lists of texts of the module's own -/
theorem rps_strs {K : PySem.W.Frag} {φ : List Addr} {F : Hp} : ∀ xs : List Str, Rps K φ F (xs.map D.str) (xs.map V.str)
  | [] => rfl
  | x :: xs => ⟨.str x, _, rfl, rfl, rps_strs xs⟩
end MP

set_option Elab.async false
set_option linter.all false
set_option maxRecDepth 100000
set_option maxHeartbeats 4000000
/-! MiniPy, the mathematics 1: what must hold ahead for a construct to end so. -/
namespace MP
open PySem PySem.Spec PyProof.Rows L2
/-! ### ends -/
def wpR {α : Type} (r : R α) (Q : α → Mh → Prop) : Prop := match r with
  | .ok a M => Q a M
  | _ => False
def wpS (s : SR) (Qn : Rho → Mh → Prop) (Qr : D → Mh → Prop) : Prop := match s with
  | .nx ρ M => Qn ρ M
  | .rt d M => Qr d M
  | _ => False
def wO {α : Type} (o : Option α) (Q : α → Prop) : Prop := ∃ a, o = some a ∧ Q a
theorem wpR_ok {α : Type} {a : α} {M : Mh} {Q : α → Mh → Prop} : wpR (.ok a M) Q = Q a M := rfl
theorem wpR_imp {α : Type} {r : R α} {Q Q' : α → Mh → Prop} (h : wpR r Q) (hq : ∀ a M, Q a M → Q' a M) : wpR r Q' := by
  cases r with
  | ok a M => exact hq _ _ h
  | _ => exact h
theorem wpR_ex {α : Type} {r : R α} {Q : α → Mh → Prop} (h : wpR r Q) : ∃ a M, r = .ok a M ∧ Q a M := by
  cases r with
  | ok a M => exact ⟨a, M, rfl, h⟩
  | _ => exact h.elim
theorem wpR_of {α : Type} {r : R α} {Q : α → Mh → Prop} {a : α} {M : Mh} (e : r = .ok a M) (h : Q a M) : wpR r Q := by
  rw [e]; exact h
theorem wpS_imp {s : SR} {Qn Qn' : Rho → Mh → Prop} {Qr Qr' : D → Mh → Prop} (h : wpS s Qn Qr) (hn : ∀ ρ M, Qn ρ M → Qn' ρ M) (hr : ∀ d M, Qr d M → Qr' d M) : wpS s Qn' Qr' := by
  cases s with
  | nx ρ M => exact hn _ _ h
  | rt d M => exact hr _ _ h
  | _ => exact h
theorem wpR_bind {α β : Type} {r : R α} {k : α → Mh → R β} {Q : β → Mh → Prop} (h : wpR r fun a M => wpR (k a M) Q) : wpR (r.bind k) Q := by
  cases r with
  | ok a M => exact h
  | _ => exact h.elim
theorem wpS_then {α : Type} {r : R α} {ρ : Rho} {k : α → Mh → SR} {Qn : Rho → Mh → Prop} {Qr : D → Mh → Prop} (h : wpR r fun a M => wpS (k a M) Qn Qr) : wpS (r.then ρ k) Qn Qr := by
  cases r with
  | ok a M => exact h
  | _ => exact h.elim
theorem wpS_seq {s : SR} {k : Rho → Mh → SR} {Qn : Rho → Mh → Prop} {Qr : D → Mh → Prop} (h : wpS s (fun ρ M => wpS (k ρ M) Qn Qr) Qr) : wpS (s.seq k) Qn Qr := by
  cases s with
  | nx ρ M => exact h
  | rt d M => exact h
  | _ => exact h.elim
theorem wpR_opt {α β : Type} {o : Option α} {k : α → R β} {Q : β → Mh → Prop} (h : wO o fun a => wpR (k a) Q) : wpR (opt o k) Q := by
  obtain ⟨a, rfl, h⟩ := h
  exact h
theorem wpS_opt {α : Type} {o : Option α} {k : α → SR} {Qn : Rho → Mh → Prop} {Qr : D → Mh → Prop} (h : wO o fun a => wpS (k a) Qn Qr) : wpS (optS o k) Qn Qr := by
  obtain ⟨a, rfl, h⟩ := h
  exact h
theorem wpR_chk {β : Type} {b : Bool} {k : R β} {Q : β → Mh → Prop} (e : b = true) (h : wpR k Q) : wpR (chk b k) Q := by
  unfold chk
  rw [if_pos e]
  exact h
theorem wpR_noExc {α : Type} {r : R α} {Q : α → Mh → Prop} (h : wpR r Q) : wpR (noExc r) Q := by
  cases r with
  | ok a M => exact h
  | _ => exact h.elim
theorem wO_some {α : Type} {o : Option α} {a : α} {Q : α → Prop} (e : o = some a) (h : Q a) : wO o Q := ⟨a, e, h⟩
theorem wO_imp {α : Type} {o : Option α} {Q Q' : α → Prop} (h : wO o Q) (hq : ∀ a, Q a → Q' a) : wO o Q' := let ⟨a, e, q⟩ := h; ⟨a, e, hq a q⟩
section
variable {c : Cf} {ρ : Rho} {M : Mh} {a b e : ES} {t u : TSm} {as : AS}
/-! ### expressions -/
section
variable {Q : D → Mh → Prop}
theorem w_C {d : D} (q : Q d M) : wpR (sC d c ρ M) Q := q
theorem w_Var {i : Nat} {d : D} (h : ρ[i]? = some (some d)) (q : Q d M) : wpR (sVar i c ρ M) Q := by
  unfold sVar
  rw [h]
  exact q
theorem w_Bop {o : Bop} (h : wpR (a c ρ M) fun x M1 => wpR (b c ρ M1) fun y M2 => wO (bop o (view M2 x) (view M2 y)) fun d => Q d M2) : wpR (sBop o false a b c ρ M) Q :=
  wpR_bind (wpR_imp h fun x M1 h => wpR_bind (wpR_imp h fun y M2 h => wpR_opt (wO_imp h fun d h => h)))
theorem w_BopT {o : Bop} (h : wpR (a c ρ M) fun x M1 => wpR (b c ρ M1) fun y M2 => ∃ xs, bop o (view M2 x) (view M2 y) = some (.lst xs) ∧ Q (.h M2.length) (M2 ++ [.lst xs])) : wpR (sBop o true a b c ρ M) Q :=
  wpR_bind (wpR_imp h fun x M1 h => wpR_bind (wpR_imp h fun y M2 ⟨xs, e, h⟩ => wpR_opt ⟨_, e, h⟩))
theorem w_Cmp {o : Cmp} (h : wpR (a c ρ M) fun x M1 => wpR (b c ρ M1) fun y M2 => wO (cmp o (view M2 x) (view M2 y)) fun k => Q (.bl k) M2) : wpR (sCmp o a b c ρ M) Q :=
  wpR_bind (wpR_imp h fun x M1 h => wpR_bind (wpR_imp h fun y M2 h => wpR_opt h))
theorem w_Chain {o p : Cmp} (h : wpR (a c ρ M) fun x M1 => wpR (b c ρ M1) fun y M2 => wO (cmp o (view M2 x) (view M2 y)) fun k => (k = true → wpR (e c ρ M2) fun z M3 => wO (cmp p (view M3 y) (view M3 z)) fun k2 => Q (.bl k2) M3) ∧ (k = false → Q (.bl false) M2)) : wpR (sChain o p a b e c ρ M) Q :=
  wpR_bind (wpR_imp h fun x M1 h => wpR_bind (wpR_imp h fun y M2 h => wpR_opt (wO_imp h fun k h => by
    cases k with
    | true => exact wpR_bind (wpR_imp (h.1 rfl) fun z M3 h => wpR_opt h)
    | false => exact h.2 rfl)))
theorem w_Is {d : D} (h : wpR (a c ρ M) fun x M1 => wO (isD x d) fun k => Q (.bl k) M1) : wpR (sIs a d c ρ M) Q := wpR_bind (wpR_imp h fun x M1 h => wpR_opt h)
theorem w_Neg (h : wpR (a c ρ M) fun x M1 => ∃ i, x = .int i ∧ Q (.int (-i)) M1) : wpR (sNeg a c ρ M) Q := wpR_bind (wpR_imp h fun x M1 ⟨i, e, h⟩ => by subst e; exact h)
theorem w_Not (h : wpR (a c ρ M) fun x M1 => ∃ i, x = .bl i ∧ Q (.bl (!i)) M1) : wpR (sNot a c ρ M) Q := wpR_bind (wpR_imp h fun x M1 ⟨i, e, h⟩ => by subst e; exact h)
theorem w_And (h : wpR (a c ρ M) fun x M1 => ∃ i, x = .bl i ∧ (i = true → wpR (b c ρ M1) Q) ∧ (i = false → Q (.bl false) M1)) : wpR (sAnd a b c ρ M) Q := wpR_bind (wpR_imp h fun x M1 ⟨i, e, h⟩ => by
  subst e
  cases i with
  | true => exact h.1 rfl
  | false => exact h.2 rfl)
theorem w_Or (h : wpR (a c ρ M) fun x M1 => ∃ i, x = .bl i ∧ (i = true → Q (.bl true) M1) ∧ (i = false → wpR (b c ρ M1) Q)) : wpR (sOr a b c ρ M) Q := wpR_bind (wpR_imp h fun x M1 ⟨i, e, h⟩ => by
  subst e
  cases i with
  | true => exact h.1 rfl
  | false => exact h.2 rfl)
theorem w_Ite (h : wpR (t c ρ M) fun k M1 => (k = true → wpR (a c ρ M1) Q) ∧ (k = false → wpR (b c ρ M1) Q)) : wpR (sIte t a b c ρ M) Q := wpR_bind (wpR_imp h fun k M1 h => by
  cases k with
  | true => exact h.1 rfl
  | false => exact h.2 rfl)
theorem w_Tup (h : wpR (as c ρ M) fun xs M1 => xs.length ≤ line ∧ Q (.tup xs) M1) : wpR (sTup as c ρ M) Q := wpR_bind (wpR_imp h fun xs M1 h => wpR_chk (decide_eq_true h.1) h.2)
theorem w_Lst (h : wpR (as c ρ M) fun xs M1 => xs.length ≤ line ∧ Q (.lst xs) M1) : wpR (sLst false as c ρ M) Q := wpR_bind (wpR_imp h fun xs M1 h => wpR_chk (decide_eq_true h.1) h.2)
theorem w_LstT (h : wpR (as c ρ M) fun xs M1 => xs.length ≤ line ∧ Q (.h M1.length) (M1 ++ [.lst xs])) : wpR (sLst true as c ρ M) Q := wpR_bind (wpR_imp h fun xs M1 h => wpR_chk (decide_eq_true h.1) h.2)
theorem w_Idx (h : wpR (a c ρ M) fun x M1 => wpR (b c ρ M1) fun y M2 => wO (idxD (view M2 x) y) fun d => Q d M2) : wpR (sIdx a b c ρ M) Q :=
  wpR_bind (wpR_imp h fun x M1 h => wpR_bind (wpR_imp h fun y M2 h => wpR_opt h))
theorem w_SlcNN (h : wpR (a c ρ M) fun x M1 => wO (slcD none none (view M1 x)) fun d => Q d M1) : wpR (sSlc false a none none c ρ M) Q :=
  wpR_bind (wpR_imp h fun x M1 h => wpR_bind (r := .ok none M1) (wpR_bind (r := .ok none M1) (wpR_opt (wO_imp h fun d h => h))))
theorem w_SlcNS (h : wpR (a c ρ M) fun x M1 => wpR (b c ρ M1) fun y M2 => ∃ i, y = .int i ∧ wO (slcD none (some i) (view M2 x)) fun d => Q d M2) : wpR (sSlc false a none (some b) c ρ M) Q :=
  wpR_bind (wpR_imp h fun x M1 h => wpR_bind (r := .ok none M1) (wpR_bind (wpR_bind (wpR_imp h fun y M2 ⟨i, e, h⟩ => by subst e; exact wpR_opt (wO_imp h fun d h => h)))))
theorem w_SlcSN (h : wpR (a c ρ M) fun x M1 => wpR (b c ρ M1) fun y M2 => ∃ i, y = .int i ∧ wO (slcD (some i) none (view M2 x)) fun d => Q d M2) : wpR (sSlc false a (some b) none c ρ M) Q :=
  wpR_bind (wpR_imp h fun x M1 h => wpR_bind (wpR_bind (wpR_imp h fun y M2 ⟨i, e, h⟩ => by subst e; exact wpR_bind (r := .ok none M2) (wpR_opt (wO_imp h fun d h => h)))))
theorem w_Rev (h : wpR (a c ρ M) fun x M1 => wO (revD (view M1 x)) fun d => Q d M1) : wpR (sRev a c ρ M) Q := wpR_bind (wpR_imp h fun x M1 h => wpR_opt h)
theorem w_Isi {s : String} (h : wpR (a c ρ M) fun x M1 => wO (isiD (view M1 x) s) fun k => Q (.bl k) M1) : wpR (sIsi a s c ρ M) Q := wpR_bind (wpR_imp h fun x M1 h => wpR_opt h)
theorem w_Len (h : wpR (a c ρ M) fun x M1 => wO (lenD (view M1 x)) fun n => Q (.int n) M1) : wpR (sLen a c ρ M) Q := wpR_bind (wpR_imp h fun x M1 h => wpR_opt h)
theorem w_Int (h : wpR (a c ρ M) fun x M1 => ∃ i, x = .int i ∧ Q (.int i) M1) : wpR (sInt a c ρ M) Q := wpR_bind (wpR_imp h fun x M1 ⟨i, e, h⟩ => by subst e; exact h)
theorem w_Bool (h : wpR (a c ρ M) fun x M1 => ∃ i, x = .bl i ∧ Q (.bl i) M1) : wpR (sBool a c ρ M) Q := wpR_bind (wpR_imp h fun x M1 ⟨i, e, h⟩ => by subst e; exact h)
theorem w_Max (h : wpR (a c ρ M) fun x M1 => wpR (b c ρ M1) fun y M2 => ∃ i j, x = .int i ∧ y = .int j ∧ Q (.int (if j > i then j else i)) M2) : wpR (sMax a b c ρ M) Q :=
  wpR_bind (wpR_imp h fun x M1 h => wpR_bind (wpR_imp h fun y M2 ⟨i, j, e1, e2, q⟩ => by subst e1 e2; exact q))
theorem w_All (h : wpR (a c ρ M) fun x M1 => ∃ xs bs, view M1 x = .lst xs ∧ allBl xs = some bs ∧ Q (.bl (bs.all id)) M1) : wpR (sAll a c ρ M) Q := wpR_bind (wpR_imp h fun x M1 ⟨xs, bs, e1, e2, h⟩ => by
  show wpR (match view M1 x with | .lst xs => _ | _ => _) Q
  rw [e1]
  exact wpR_opt ⟨_, e2, h⟩)
def itemsD : D → Option (List D)
  | .lst xs => some xs
  | .tup xs => some xs
  | .str s => if s.length ≤ line then some (signs s) else none
  | _ => none
theorem w_List (h : wpR (a c ρ M) fun x M1 => wO (itemsD (view M1 x)) fun xs => Q (.lst xs) M1) : wpR (sList false a c ρ M) Q := wpR_bind (wpR_imp h fun x M1 ⟨xs, e, h⟩ => by
  show wpR (match view M1 x with | .lst xs => alloc false (.lst xs) M1 | .tup xs => alloc false (.lst xs) M1 | .str s => chk (decide (s.length ≤ line)) (alloc false (.lst (signs s)) M1) | _ => .fail) Q
  revert e
  cases view M1 x <;> intro e <;> first | (cases e; done) | (cases e; exact h) | skip
  rename_i s
  have e : (if s.length ≤ line then some (signs s) else none) = some xs := e
  split at e
  · cases e
    rename_i hs
    exact wpR_chk (decide_eq_true hs) h
  · cases e)
theorem w_ListT (h : wpR (a c ρ M) fun x M1 => wO (itemsD (view M1 x)) fun xs => Q (.h M1.length) (M1 ++ [.lst xs])) : wpR (sList true a c ρ M) Q := wpR_bind (wpR_imp h fun x M1 ⟨xs, e, h⟩ => by
  show wpR (match view M1 x with | .lst xs => alloc true (.lst xs) M1 | .tup xs => alloc true (.lst xs) M1 | .str s => chk (decide (s.length ≤ line)) (alloc true (.lst (signs s)) M1) | _ => .fail) Q
  revert e
  cases view M1 x <;> intro e <;> first | (cases e; done) | (cases e; exact h) | skip
  rename_i s
  have e : (if s.length ≤ line then some (signs s) else none) = some xs := e
  split at e
  · cases e
    rename_i hs
    exact wpR_chk (decide_eq_true hs) h
  · cases e)
theorem w_Tuple (h : wpR (a c ρ M) fun x M1 => ∃ xs, (view M1 x = .lst xs ∨ view M1 x = .tup xs) ∧ Q (.tup xs) M1) : wpR (sTuple a c ρ M) Q := wpR_bind (wpR_imp h fun x M1 ⟨xs, e, h⟩ => by
  show wpR (match view M1 x with | .lst xs => .ok (.tup xs) M1 | .tup xs => .ok (.tup xs) M1 | _ => .fail) Q
  rcases e with e | e <;> rw [e] <;> exact h)
theorem w_Join (h : wpR (a c ρ M) fun x M1 => ∃ s, x = .str s ∧ wpR (b c ρ M1) fun y M2 => ∃ xs ys, view M2 y = .lst xs ∧ allStr xs = some ys ∧ (ys.map (fun (y : Str) => y.length)).sum + ys.length * s.length ≤ 16777216 ∧ Q (.str (Txt.join s ys)) M2) : wpR (sJoin a b c ρ M) Q :=
  wpR_bind (wpR_imp h fun x M1 ⟨s, e, h⟩ => by
    subst e
    exact wpR_bind (wpR_imp h fun y M2 ⟨xs, ys, e1, e2, e3, h⟩ => by
      show wpR (match view M2 y with | .lst xs => _ | _ => _) Q
      rw [e1]
      exact wpR_opt ⟨_, e2, wpR_chk (decide_eq_true e3) h⟩))
theorem w_Split (h : wpR (a c ρ M) fun x M1 => ∃ s, x = .str s ∧ wpR (b c ρ M1) fun y M2 => ∃ t, y = .str t ∧ ((t.length == 0) = false ∧ s.length + 2 ≤ line) ∧ Q (.lst ((Txt.split s t).map .str)) M2) : wpR (sSplit a b c ρ M) Q :=
  wpR_bind (wpR_imp h fun x M1 ⟨s, e, h⟩ => by
    subst e
    exact wpR_bind (wpR_imp h fun y M2 ⟨t, e1, e3, h⟩ => by
      subst e1
      exact wpR_chk (decide_eq_true e3) h))
theorem w_Call {f : Str} (h : wpR (as c ρ M) fun xs M1 => wpR (c.call f xs M1) Q) : wpR (sCall f as c ρ M) Q := wpR_bind (wpR_imp h fun xs M1 h => wpR_noExc h)
theorem w_Hear {w : Str} (hd : c.deep = true) (h : wpR (a c.lower ρ M) fun d M1 => Q (.tup [.str w, d]) M1) : wpR (sHear w a c ρ M) Q := wpR_chk hd (wpR_bind (wpR_imp (wpR_noExc h) fun d M1 h => h))
theorem w_DictOf (h : wpR (a c ρ M) fun x M1 => ∃ xs p, view M1 x = .lst xs ∧ unpair xs = some p ∧ p.1.Nodup ∧ Q (.dic p.1 p.2) M1) : wpR (sDictOf a c ρ M) Q := wpR_bind (wpR_imp h fun x M1 ⟨xs, p, e1, e2, e3, h⟩ => by
  show wpR (match view M1 x with | .lst xs => _ | _ => _) Q
  rw [e1]
  exact wpR_opt ⟨_, e2, wpR_chk (decide_eq_true e3) h⟩)
theorem w_Dict0 (q : Q (.dic [] []) M) : wpR (sDict0 c ρ M) Q := q
theorem w_Dict1 {k : Key} {d : D} (q : Q (.dic [k] [d]) M) : wpR (sDict1 k d c ρ M) Q := q
theorem w_Append (h : wpR (a c ρ M) fun x M1 => ∃ n zs, x = .h n ∧ getL M1 n = some zs ∧ wpR (b c ρ M1) fun y M2 => ∃ xs, getL M2 n = some xs ∧ xs.length < line ∧ Q .non (M2.set n (.lst (xs ++ [y])))) : wpR (sAppend a b c ρ M) Q :=
  wpR_bind (wpR_imp h fun x M1 ⟨n, zs, e, e1, h⟩ => by
    subst e
    exact wpR_opt ⟨_, e1, wpR_bind (wpR_imp h fun y M2 ⟨xs, e2, e3, h⟩ => wpR_opt ⟨_, e2, wpR_chk (decide_eq_true e3) h⟩)⟩)
theorem w_Extend (h : wpR (a c ρ M) fun x M1 => ∃ n zs, x = .h n ∧ getL M1 n = some zs ∧ wpR (b c ρ M1) fun y M2 => ∃ xs ys, getL M2 n = some xs ∧ y = .lst ys ∧ xs.length + ys.length ≤ line ∧ Q .non (M2.set n (.lst (xs ++ ys)))) : wpR (sExtend a b c ρ M) Q :=
  wpR_bind (wpR_imp h fun x M1 ⟨n, zs, e, e1, h⟩ => by
    subst e
    exact wpR_opt ⟨_, e1, wpR_bind (wpR_imp h fun y M2 ⟨xs, ys, e2, e4, e3, h⟩ => by
      subst e4
      exact wpR_opt ⟨_, e2, wpR_chk (decide_eq_true e3) h⟩)⟩)
theorem w_PopAt (h : wpR (a c ρ M) fun x M1 => ∃ n zs, x = .h n ∧ getL M1 n = some zs ∧ wpR (b c ρ M1) fun y M2 => ∃ xs i z, getL M2 n = some xs ∧ y = .int i ∧ (0 ≤ i ∧ i < xs.length ∧ i < 16777216) ∧ xs[i.toNat]? = some z ∧ Q z (M2.set n (.lst (xs.eraseIdx i.toNat)))) : wpR (sPopAt a b c ρ M) Q :=
  wpR_bind (wpR_imp h fun x M1 ⟨n, zs, e, e1, h⟩ => by
    subst e
    exact wpR_opt ⟨_, e1, wpR_bind (wpR_imp h fun y M2 ⟨xs, i, z, e2, e4, e3, e5, h⟩ => by
      subst e4
      exact wpR_opt ⟨_, e2, wpR_chk (decide_eq_true e3) (wpR_opt ⟨_, e5, h⟩)⟩)⟩)
end
/-! ### lists of expressions, tests -/
theorem w_Nil {Q : List D → Mh → Prop} (q : Q [] M) : wpR (aNil c ρ M) Q := q
theorem w_Cons {Q : List D → Mh → Prop} (h : wpR (a c ρ M) fun x M1 => wpR (as c ρ M1) fun xs M2 => Q (x :: xs) M2) : wpR (aCons a as c ρ M) Q := wpR_bind (wpR_imp h fun x M1 h => wpR_bind (wpR_imp h fun xs M2 h => h))
section
variable {Q : Bool → Mh → Prop}
theorem v_Val (h : wpR (a c ρ M) fun x M1 => wO (truth (view M1 x)) fun k => Q k M1) : wpR (tVal a c ρ M) Q := wpR_bind (wpR_imp h fun x M1 h => wpR_opt h)
theorem v_And (h : wpR (t c ρ M) fun k M1 => (k = true → wpR (u c ρ M1) Q) ∧ (k = false → Q false M1)) : wpR (tAnd t u c ρ M) Q := wpR_bind (wpR_imp h fun k M1 h => by
  cases k with
  | true => exact h.1 rfl
  | false => exact h.2 rfl)
theorem v_Or (h : wpR (t c ρ M) fun k M1 => (k = true → Q true M1) ∧ (k = false → wpR (u c ρ M1) Q)) : wpR (tOr t u c ρ M) Q := wpR_bind (wpR_imp h fun k M1 h => by
  cases k with
  | true => exact h.1 rfl
  | false => exact h.2 rfl)
theorem v_Cmp {o : Cmp} (h : wpR (a c ρ M) fun x M1 => wpR (b c ρ M1) fun y M2 => wO (cmp o (view M2 x) (view M2 y)) fun k => Q k M2) : wpR (tCmp o a b c ρ M) Q :=
  wpR_bind (wpR_imp h fun x M1 h => wpR_bind (wpR_imp h fun y M2 h => wpR_opt h))
theorem v_Chain {o p : Cmp} (h : wpR (a c ρ M) fun x M1 => wpR (b c ρ M1) fun y M2 => wO (cmp o (view M2 x) (view M2 y)) fun k => (k = true → wpR (e c ρ M2) fun z M3 => wO (cmp p (view M3 y) (view M3 z)) fun k2 => Q k2 M3) ∧ (k = false → Q false M2)) : wpR (tChain o p a b e c ρ M) Q :=
  wpR_bind (wpR_imp h fun x M1 h => wpR_bind (wpR_imp h fun y M2 h => wpR_opt (wO_imp h fun k h => by
    cases k with
    | true => exact wpR_bind (wpR_imp (h.1 rfl) fun z M3 h => wpR_opt h)
    | false => exact h.2 rfl)))
theorem v_Is {d : D} (h : wpR (a c ρ M) fun x M1 => wO (isD x d) fun k => Q k M1) : wpR (tIs a d c ρ M) Q := wpR_bind (wpR_imp h fun x M1 h => wpR_opt h)
theorem v_Not (h : wpR (t c ρ M) fun k M1 => Q (!k) M1) : wpR (tNot t c ρ M) Q := wpR_bind (wpR_imp h fun k M1 h => h)
theorem v_Yes (q : Q true M) : wpR (tYes c ρ M) Q := q
end
/-! ### statements -/
section
variable {Qn : Rho → Mh → Prop} {Qr : D → Mh → Prop} {p q : SS}
theorem z_Next (h : Qn ρ M) : wpS (zNext c ρ M) Qn Qr := h
theorem z_Seq (h : wpS (p c ρ M) (fun ρ1 M1 => wpS (q c ρ1 M1) Qn Qr) Qr) : wpS (zSeq p q c ρ M) Qn Qr := wpS_seq h
theorem z_Expr (h : wpR (a c ρ M) fun _ M1 => Qn ρ M1) : wpS (zExpr a c ρ M) Qn Qr := wpS_then (wpR_imp h fun _ _ h => h)
theorem z_Set {g : Tg} (h : wpR (a c ρ M) fun d M1 => wO (g.bind d ρ) fun ρ1 => Qn ρ1 M1) : wpS (zSet g a c ρ M) Qn Qr := wpS_then (wpR_imp h fun d M1 h => wpS_opt h)
theorem z_SetN {i : Nat} (h : wpR (a c ρ M) fun d M1 => Qn (ρ.set i (some d)) M1) : wpS (zSet (.nm i) a c ρ M) Qn Qr := wpS_then (wpR_imp h fun d M1 h => wpS_opt ⟨_, rfl, h⟩)
theorem z_Par {i j : Nat} (h : wpR (as c ρ M) fun ds M1 => ∃ d e, ds = [d, e] ∧ Qn ((ρ.set i (some d)).set j (some e)) M1) : wpS (zPar i j as c ρ M) Qn Qr := wpS_then (wpR_imp h fun d M1 ⟨d', e', e, h⟩ => by subst e; exact h)
theorem z_SetIx {o i e : ES} (h : wpR (e c ρ M) fun d M1 => wpR (o c ρ M1) fun x M2 => wpR (i c ρ M2) fun j M3 => ∃ n xs k, x = .h n ∧ getL M3 n = some xs ∧ j = .int k ∧ (0 ≤ k ∧ k < xs.length) ∧ Qn ρ (M3.set n (.lst (xs.set k.toNat d)))) : wpS (zSetIx o i e c ρ M) Qn Qr :=
  wpS_then (wpR_imp h fun d M1 h => wpS_then (wpR_imp h fun x M2 h => wpS_then (wpR_imp h fun j M3 ⟨n, xs, k, e1, e2, e3, e4, q⟩ => by
    subst e1 e3
    show wpS (optS (getL M3 n) fun xs => if 0 ≤ k ∧ k < xs.length then .nx ρ (M3.set n (.lst (xs.set k.toNat d))) else .fail) Qn Qr
    refine wpS_opt ⟨_, e2, ?_⟩
    show wpS (if 0 ≤ k ∧ k < xs.length then _ else _) Qn Qr
    rw [if_pos e4]
    exact q)))
theorem z_Ret (h : wpR (a c ρ M) Qr) : wpS (zRet a c ρ M) Qn Qr := wpS_then (wpR_imp h fun d M1 h => h)
theorem z_If (h : wpR (t c ρ M) fun k M1 => (k = true → wpS (p c ρ M1) Qn Qr) ∧ (k = false → wpS (q c ρ M1) Qn Qr)) : wpS (zIf t p q c ρ M) Qn Qr := wpS_then (wpR_imp h fun k M1 h => by
  cases k with
  | true => exact h.1 rfl
  | false => exact h.2 rfl)
end
end
/-! ### walks -/
section
variable {c : Cf} {ρ : Rho} {M : Mh}
theorem size_live {n : Nat} {ds : List D} (e : M[n]? = some (O.lst ds)) : Src.size (.live n) M = some ds.length := by
  show (match M[n]? with | some (O.lst xs) => some xs.length | _ => none) = _
  rw [e]
theorem item_live {n i : Nat} {ds : List D} (e : M[n]? = some (O.lst ds)) : Src.item (.live n) i M = ds[i]? := by
  show (match M[n]? with | some (O.lst xs) => xs[i]? | _ => none) = _
  rw [e]
theorem ends_live {n i : Nat} {ds : List D} (e : M[n]? = some (O.lst ds)) (hi : ds.length ≤ i) : Src.ends (.live n) i M = true := by
  unfold Src.ends
  rw [size_live e]
  exact decide_eq_true hi
/-- a loop over items that stand: J i ρ M holds ahead of turn i -/
theorem for_fix {f : D → Rho → Mh → SR} {ds : List D} {Qn : Rho → Mh → Prop} {Qr : D → Mh → Prop} (J : Nat → Rho → Mh → Prop)
    (step : ∀ i d ρ M, ds[i]? = some d → J i ρ M → wpS (f d ρ M) (J (i + 1)) Qr) (last : ∀ ρ M, J ds.length ρ M → Qn ρ M) :
    ∀ (k i : Nat) (ρ : Rho) (M : Mh), i + k = ds.length → J i ρ M → wpS (forLoop f (.fix ds) k i ρ M) Qn Qr
  | 0, i, ρ, M, e, j => by
    have e1 : Src.ends (.fix ds) i M = true := decide_eq_true (by omega)
    show wpS (if Src.ends (.fix ds) i M = true then .nx ρ M else .fail) Qn Qr
    rw [if_pos e1]
    have : i = ds.length := by omega
    exact last _ _ (this ▸ j)
  | k + 1, i, ρ, M, e, j => by
    have hi : i < ds.length := by omega
    show wpS (optS (ds[i]?) fun d => match f d ρ M with
      | .nx ρ1 M1 => forLoop f (.fix ds) k (i + 1) ρ1 M1
      | .ct ρ1 M1 => forLoop f (.fix ds) k (i + 1) ρ1 M1
      | .bk ρ1 M1 => .nx ρ1 M1
      | r => r) Qn Qr
    refine wpS_opt ⟨ds[i], List.getElem?_eq_getElem hi, ?_⟩
    have s := step i ds[i] ρ M (List.getElem?_eq_getElem hi) j
    revert s
    show wpS (f ds[i] ρ M) _ _ → wpS (match f ds[i] ρ M with
      | .nx ρ1 M1 => forLoop f (.fix ds) k (i + 1) ρ1 M1
      | .ct ρ1 M1 => forLoop f (.fix ds) k (i + 1) ρ1 M1
      | .bk ρ1 M1 => .nx ρ1 M1
      | r => r) Qn Qr
    generalize f ds[i] ρ M = r
    intro s
    cases r <;> first | exact s.elim | exact s | skip
    exact for_fix J step last k (i + 1) _ _ (by omega) s
/-- over a handle's list that stands meanwhile -/
theorem for_live {f : D → Rho → Mh → SR} {n : Nat} {ds : List D} {Qn : Rho → Mh → Prop} {Qr : D → Mh → Prop} (J : Nat → Rho → Mh → Prop) (hJ : ∀ i ρ M, J i ρ M → M[n]? = some (O.lst ds))
    (step : ∀ i d ρ M, ds[i]? = some d → J i ρ M → wpS (f d ρ M) (J (i + 1)) Qr) (last : ∀ ρ M, J ds.length ρ M → Qn ρ M) :
    ∀ (k i : Nat) (ρ : Rho) (M : Mh), i + k = ds.length → J i ρ M → wpS (forLoop f (.live n) k i ρ M) Qn Qr
  | 0, i, ρ, M, e, j => by
    have e1 : Src.ends (.live n) i M = true := ends_live (hJ _ _ _ j) (by omega)
    show wpS (if Src.ends (.live n) i M = true then .nx ρ M else .fail) Qn Qr
    rw [if_pos e1]
    have : i = ds.length := by omega
    exact last _ _ (this ▸ j)
  | k + 1, i, ρ, M, e, j => by
    have hi : i < ds.length := by omega
    show wpS (optS (Src.item (.live n) i M) fun d => match f d ρ M with
      | .nx ρ1 M1 => forLoop f (.live n) k (i + 1) ρ1 M1
      | .ct ρ1 M1 => forLoop f (.live n) k (i + 1) ρ1 M1
      | .bk ρ1 M1 => .nx ρ1 M1
      | r => r) Qn Qr
    have e1 : Src.item (.live n) i M = some ds[i] := by
      rw [item_live (hJ _ _ _ j)]
      exact List.getElem?_eq_getElem hi
    refine wpS_opt ⟨ds[i], e1, ?_⟩
    have s := step i ds[i] ρ M (List.getElem?_eq_getElem hi) j
    revert s
    show wpS (f ds[i] ρ M) _ _ → wpS (match f ds[i] ρ M with
      | .nx ρ1 M1 => forLoop f (.live n) k (i + 1) ρ1 M1
      | .ct ρ1 M1 => forLoop f (.live n) k (i + 1) ρ1 M1
      | .bk ρ1 M1 => .nx ρ1 M1
      | r => r) Qn Qr
    generalize f ds[i] ρ M = r
    intro s
    cases r <;> first | exact s.elim | exact s | skip
    exact for_live J hJ step last k (i + 1) _ _ (by omega) s
theorem z_For {i : IS} {g : Tg} {b : SS} {Qn : Rho → Mh → Prop} {Qr : D → Mh → Prop} (h : wpR (i c ρ M) fun S M1 => ∃ n, S.size M1 = some n ∧ wpS (forLoop (fun d ρ1 M2 => optS (g.bind d ρ1) fun ρ2 => b c ρ2 M2) S n 0 ρ M1) Qn Qr) : wpS (zFor i g b c ρ M) Qn Qr :=
  wpS_then (wpR_imp h fun S M1 ⟨n, e, h⟩ => wpS_opt ⟨_, e, h⟩)
/-- a for over items that stand -/
theorem z_ForF {i : IS} {g : Tg} {b : SS} {Qn : Rho → Mh → Prop} {Qr : D → Mh → Prop} (h : wpR (i c ρ M) fun S M1 => ∃ (ds : List D) (J : Nat → Rho → Mh → Prop), S = .fix ds ∧ J 0 ρ M1 ∧ (∀ i d ρ M, ds[i]? = some d → J i ρ M → wO (g.bind d ρ) fun ρ2 => wpS (b c ρ2 M) (J (i + 1)) Qr) ∧ (∀ ρ M, J ds.length ρ M → Qn ρ M)) : wpS (zFor i g b c ρ M) Qn Qr :=
  z_For (wpR_imp h fun S M1 ⟨ds, J, e, j, s, l⟩ => by
    subst e
    exact ⟨ds.length, rfl, for_fix J (fun i d ρ M e j => wpS_opt (s i d ρ M e j)) l _ _ _ _ (Nat.zero_add _) j⟩)
theorem z_ForL {i : IS} {g : Tg} {b : SS} {Qn : Rho → Mh → Prop} {Qr : D → Mh → Prop} (h : wpR (i c ρ M) fun S M1 => ∃ (n : Nat) (ds : List D) (J : Nat → Rho → Mh → Prop), S = .live n ∧ (∀ i ρ M, J i ρ M → M[n]? = some (O.lst ds)) ∧ J 0 ρ M1 ∧ (∀ i d ρ M, ds[i]? = some d → J i ρ M → wO (g.bind d ρ) fun ρ2 => wpS (b c ρ2 M) (J (i + 1)) Qr) ∧ (∀ ρ M, J ds.length ρ M → Qn ρ M)) : wpS (zFor i g b c ρ M) Qn Qr :=
  z_For (wpR_imp h fun S M1 ⟨n, ds, J, e, hJ, j, s, l⟩ => by
    subst e
    refine ⟨ds.length, ?_, for_live J hJ (fun i d ρ M e j => wpS_opt (s i d ρ M e j)) l _ _ _ _ (Nat.zero_add _) j⟩
    exact size_live (hJ _ _ _ j))
/-! what is walked -/
def stillD : D → Option (List D)
  | .lst xs => some xs
  | .kls xs => some xs
  | .tup xs => some xs
  | .str s => if s.length ≤ line then some (signs s) else none
  | _ => none
theorem i_Val {a : ES} {Q : Src → Mh → Prop} (h : wpR (a c ρ M) fun x M1 => wO (stillD x) fun xs => Q (.fix xs) M1) : wpR (iVal a c ρ M) Q := wpR_bind (wpR_imp h fun x M1 ⟨xs, e, h⟩ => by
  cases x <;> first | (cases e; done) | (cases e; exact h) | skip
  rename_i s _
  have e : (if s.length ≤ line then some (signs s) else none) = some xs := e
  split at e
  · cases e
    rename_i hs
    exact wpR_chk (decide_eq_true hs) h
  · cases e)
theorem i_ValH {a : ES} {Q : Src → Mh → Prop} (h : wpR (a c ρ M) fun x M1 => ∃ (n : Nat) (xs : List D), x = .h n ∧ M1[n]? = some (O.lst xs) ∧ Q (.live n) M1) : wpR (iVal a c ρ M) Q := wpR_bind (wpR_imp h fun x M1 ⟨n, xs, e, e1, h⟩ => by
  subst e
  show wpR (match M1[n]? with | some (.lst _) => .ok (.live n) M1 | _ => .fail) Q
  rw [e1]
  exact h)
def nums (n : Nat) : List D := (List.range n).map fun (i : Nat) => D.int (i : Int)
theorem i_Range {a : ES} {Q : Src → Mh → Prop} (h : wpR (a c ρ M) fun x M1 => ∃ n : Nat, x = .int n ∧ n ≤ 16777216 ∧ Q (.fix (nums n)) M1) : wpR (iRange a c ρ M) Q := wpR_bind (wpR_imp h fun x M1 ⟨n, e, hn, h⟩ => by
  subst e
  exact wpR_chk (decide_eq_true ⟨by omega, by omega⟩) h)
theorem i_Zip {a b : ES} {Q : Src → Mh → Prop} (h : wpR (a c ρ M) fun x M1 => wpR (b c ρ M1) fun y M2 => wO (still x) fun xs => wO (still y) fun ys => Q (.fix (pairs xs ys)) M2) : wpR (iZip a b c ρ M) Q :=
  wpR_bind (wpR_imp h fun x M1 h => wpR_bind (wpR_imp h fun y M2 h => wpR_opt (wO_imp h fun xs h => wpR_opt h)))
theorem nums_get {n i : Nat} {d : D} (h : (nums n)[i]? = some d) : i < n ∧ d = .int i := by
  unfold nums at h
  rw [List.getElem?_map] at h
  by_cases hi : i < n
  · rw [List.getElem?_range hi] at h
    cases h
    exact ⟨hi, rfl⟩
  · rw [List.getElem?_eq_none (by rw [List.length_range]; omega)] at h
    cases h
theorem nums_len {n : Nat} : (nums n).length = n := by simp [nums]
/-! ### comprehensions -/
theorem lc_fix {f : D → Mh → R (Option D)} {ds : List D} (J : Nat → List D → Mh → Prop) (step : ∀ i d ys M, ds[i]? = some d → J i ys M → wpR (f d M) fun o M1 => J (i + 1) (ys ++ o.toList) M1) :
    ∀ (k i : Nat) (ys : List D) (M : Mh), i + k = ds.length → J i ys M → wpR (lcLoop f (.fix ds) k i M) fun zs M1 => J ds.length (ys ++ zs) M1
  | 0, i, ys, M, e, j => by
    refine wpR_chk (decide_eq_true (by omega)) ?_
    have : i = ds.length := by omega
    show J ds.length (ys ++ []) M
    rw [List.append_nil]
    exact this ▸ j
  | k + 1, i, ys, M, e, j => by
    have hi : i < ds.length := by omega
    refine wpR_opt ⟨ds[i], List.getElem?_eq_getElem hi, ?_⟩
    refine wpR_bind (wpR_imp (step i ds[i] ys M (List.getElem?_eq_getElem hi) j) fun o M1 j1 => ?_)
    refine wpR_bind (wpR_imp (lc_fix J step k (i + 1) _ _ (by omega) j1) fun zs M2 j2 => ?_)
    show J ds.length (ys ++ keepO o zs) M2
    cases o with
    | none => simpa [keepO] using j2
    | some x => simpa [keepO] using j2
theorem lc_live {f : D → Mh → R (Option D)} {n : Nat} {ds : List D} (J : Nat → List D → Mh → Prop) (hJ : ∀ i ys M, J i ys M → M[n]? = some (O.lst ds)) (step : ∀ i d ys M, ds[i]? = some d → J i ys M → wpR (f d M) fun o M1 => J (i + 1) (ys ++ o.toList) M1) :
    ∀ (k i : Nat) (ys : List D) (M : Mh), i + k = ds.length → J i ys M → wpR (lcLoop f (.live n) k i M) fun zs M1 => J ds.length (ys ++ zs) M1
  | 0, i, ys, M, e, j => by
    refine wpR_chk ?_ ?_
    · exact ends_live (hJ _ _ _ j) (by omega)
    · have : i = ds.length := by omega
      show J ds.length (ys ++ []) M
      rw [List.append_nil]
      exact this ▸ j
  | k + 1, i, ys, M, e, j => by
    have hi : i < ds.length := by omega
    have e1 : Src.item (.live n) i M = some ds[i] := by
      rw [item_live (hJ _ _ _ j)]
      exact List.getElem?_eq_getElem hi
    refine wpR_opt ⟨ds[i], e1, ?_⟩
    refine wpR_bind (wpR_imp (step i ds[i] ys M (List.getElem?_eq_getElem hi) j) fun o M1 j1 => ?_)
    refine wpR_bind (wpR_imp (lc_live J hJ step k (i + 1) _ _ (by omega) j1) fun zs M2 j2 => ?_)
    show J ds.length (ys ++ keepO o zs) M2
    cases o with
    | none => simpa [keepO] using j2
    | some x => simpa [keepO] using j2
/-- a turn -/
theorem wp_turn {g : Tg} {vs : List Nat} {t : TSm} {e : ES} {d : D} {Q : Option D → Mh → Prop} (h : wO (g.bind d (wipeR ρ vs)) fun ρ1 => wpR (t c ρ1 M) fun k M1 => (k = true → wpR (e c ρ1 M1) fun x M2 => Q (some x) M2) ∧ (k = false → Q none M1)) : wpR (lcTurn g vs t e c ρ d M) Q :=
  wpR_opt (wO_imp h fun ρ1 h => wpR_bind (wpR_imp h fun k M1 h => by
    cases k with
    | true => exact wpR_bind (wpR_imp (h.1 rfl) fun x M2 h => h)
    | false => exact h.2 rfl))
/-- a list comprehension over items that stand: J i ys M ahead of turn i -/
theorem lcAll_fix {g : Tg} {vs : List Nat} {t : TSm} {e : ES} {ds : List D} {Q : List D → Mh → Prop} (J : Nat → List D → Mh → Prop) (hl : ds.length ≤ line) (j : J 0 [] M)
    (step : ∀ i d ys M, ds[i]? = some d → J i ys M → wO (g.bind d (wipeR ρ vs)) fun ρ1 => wpR (t c ρ1 M) fun k M1 => (k = true → wpR (e c ρ1 M1) fun x M2 => J (i + 1) (ys ++ [x]) M2) ∧ (k = false → J (i + 1) ys M1))
    (last : ∀ ys M, J ds.length ys M → Q ys M) : wpR (lcAll g vs t e c ρ (.fix ds) M) Q := by
  refine wpR_opt ⟨_, rfl, wpR_chk (decide_eq_true hl) (wpR_noExc (wpR_imp (lc_fix J (fun i d ys M e1 j => wp_turn ?_) ds.length 0 [] M (Nat.zero_add _) j) fun zs M1 h => last _ _ h))⟩
  refine wO_imp (step i d ys M e1 j) fun ρ1 h => wpR_imp h fun k M1 h => ⟨h.1, fun hk => ?_⟩
  simpa using h.2 hk
theorem w_LcF {i : IS} {g : Tg} {vs : List Nat} {t : TSm} {e : ES} {Q : D → Mh → Prop} (h : wpR (i c ρ M) fun S M1 => ∃ (ds : List D) (J : Nat → List D → Mh → Prop), S = .fix ds ∧ ds.length ≤ line ∧ J 0 [] M1 ∧
    (∀ i d ys M, ds[i]? = some d → J i ys M → wO (g.bind d (wipeR ρ vs)) fun ρ1 => wpR (t c ρ1 M) fun k M1 => (k = true → wpR (e c ρ1 M1) fun x M2 => J (i + 1) (ys ++ [x]) M2) ∧ (k = false → J (i + 1) ys M1)) ∧
    (∀ ys M, J ds.length ys M → Q (.lst ys) M)) : wpR (sLc false i g vs t e c ρ M) Q :=
  wpR_bind (wpR_imp h fun S M1 ⟨ds, J, e, hl, j, s, l⟩ => by
    subst e
    exact wpR_bind (lcAll_fix J hl j s l))
/-- a pure one: h tells what becomes of an item -/
theorem w_LcP {i : IS} {g : Tg} {vs : List Nat} {t : TSm} {e : ES} {Q : D → Mh → Prop} (h : wpR (i c ρ M) fun S M1 => ∃ (ds : List D) (hh : D → Option D), S = .fix ds ∧ ds.length ≤ line ∧ (∀ d ∈ ds, lcTurn g vs t e c ρ d M1 = .ok (hh d) M1) ∧ Q (.lst (ds.filterMap hh)) M1) : wpR (sLc false i g vs t e c ρ M) Q :=
  wpR_bind (wpR_imp h fun S M1 ⟨ds, hh, e, hl, s, l⟩ => by
    subst e
    refine wpR_bind ?_
    refine wpR_opt ⟨_, rfl, wpR_chk (decide_eq_true hl) (wpR_noExc (wpR_imp (lc_fix (fun i ys M => M = M1 ∧ ys = (ds.take i).filterMap hh) (fun i d ys M e1 j => ?_) ds.length 0 [] M1 (Nat.zero_add _) ⟨rfl, rfl⟩) fun zs M2 h => ?_))⟩
    · obtain ⟨rfl, rfl⟩ := j
      have hd := List.mem_of_getElem? e1
      rw [s d hd]
      refine ⟨rfl, ?_⟩
      rw [List.take_add_one, e1, List.filterMap_append]
      congr 1
    · obtain ⟨rfl, e⟩ := h
      rw [List.take_length] at e
      show Q (.lst zs) M2
      rw [show zs = ds.filterMap hh from e]
      exact l)
end
/-! ### calls -/
/-- what a def's body calls, k + 1 deep -/
def cfl (P : Prog) : Nat → Cf
  | 0 => ⟨callAt P 0, fun _ _ _ => .fail, false⟩
  | k + 1 => ⟨callAt P (k + 1), (match k with | 0 => fun _ _ _ => .fail | j + 1 => callAt P j), !(k == 0)⟩
theorem cfl_call (P : Prog) (k : Nat) : (cfl P k).call = callAt P k := by cases k <;> rfl
theorem cfl_low (P : Prog) (k : Nat) : (cfl P (k + 2)).lower.call = callAt P k := rfl
theorem cfl_deep (P : Prog) (k : Nat) : (cfl P (k + 2)).deep = true := rfl
theorem at_run {P : Prog} {x : Str} {f : Def} (h : P x = some f) : ∀ (k : Nat) (ds : List D) (M : Mh), callAt P (k + 1) x ds M = f.run (cfl P k) ds M
  | 0, ds, M => by
    rw [callAt_one, h]
    rfl
  | k + 1, ds, M => by
    rw [callAt_two, h]
    rfl
theorem wp_fin_same {d : D} {M M1 : Mh} {Q : D → Mh → Prop} (e : M1.length = M.length) (h : Q d M1) : wpR (fin M.length d M1) Q := by
  unfold fin
  rw [if_pos e]
  exact h
/-- a def's end: nothing new is left; a list of its own is handed back; a value is handed back -/
def EndV (n : Nat) (d : D) (M1 : Mh) (Q : D → Mh → Prop) : Prop :=
  (M1.length = n ∧ Q d M1) ∨ ((M1.take n).all (noHO n) = true ∧ noH n d = true ∧ (∀ m, d ≠ .h m) ∧ Q d (M1.take n)) ∨ (∃ m xs, d = .h m ∧ n ≤ m ∧ M1[m]? = some (.lst xs) ∧ noHs n xs = true ∧ (M1.take n).all (noHO n) = true ∧ Q (.lst xs) (M1.take n))
theorem wp_fin {n : Nat} {d : D} {M1 : Mh} {Q : D → Mh → Prop} (h : EndV n d M1 Q) (hn : n ≤ M1.length) : wpR (fin n d M1) Q := by
  unfold fin
  split
  · rename_i e
    rcases h with ⟨_, h⟩ | ⟨h1, h2, h3, h⟩ | ⟨m, xs, rfl, h1, h2, _⟩
    · exact h
    · rw [List.take_of_length_le (by omega)] at h
      exact h
    · have := (List.getElem?_eq_some_iff.mp h2).1
      omega
  · rename_i ne
    rcases h with ⟨e, _⟩ | ⟨h1, h2, h3, h⟩ | ⟨m, xs, rfl, h1, h2, h3, h4, h⟩
    · exact (ne e).elim
    · cases d <;> first | (rename_i m; exact (h3 m rfl).elim) | (simp only [h1, h2, Bool.and_self, if_true]; exact h)
    · show wpR (if m < n then _ else _) Q
      rw [if_neg (by omega)]
      show wpR (match M1[m]? with | some (.lst xs) => _ | _ => _) Q
      rw [h2]
      show wpR (if (noHs n xs && (M1.take n).all (noHO n)) = true then _ else _) Q
      rw [h3, h4]
      exact h
/-- a def that hands its handles on -/
theorem wp_run {P : Prog} {x : Str} {f : Def} (h : P x = some f) {k : Nat} {ds : List D} {M : Mh} {Q : D → Mh → Prop} (hp : ds.length = f.params) (kp : f.keep = false) (hb : wpS (f.body (cfl P k) (ds.map some ++ List.replicate (f.slots - ds.length) none) M) (fun _ M1 => M.length ≤ M1.length ∧ EndV M.length .non M1 Q) fun d M1 => M.length ≤ M1.length ∧ EndV M.length d M1 Q) : wpR (callAt P (k + 1) x ds M) Q := by
  rw [at_run h]
  unfold Def.run
  rw [if_pos hp]
  revert hb
  cases f.body (cfl P k) (ds.map some ++ List.replicate (f.slots - ds.length) none) M <;> intro hb <;> first | exact hb.elim | skip
  · show wpR (f.fin M.length .non _) Q
    unfold Def.fin
    rw [kp]
    exact wp_fin hb.2 hb.1
  · show wpR (f.fin M.length _ _) Q
    unfold Def.fin
    rw [kp]
    exact wp_fin hb.2 hb.1
/-- its end changes no length: pure ends -/
theorem wp_run0 {P : Prog} {x : Str} {f : Def} (h : P x = some f) {k : Nat} {ds : List D} {M : Mh} {Q : D → Mh → Prop} (hp : ds.length = f.params) (kp : f.keep = false) (hb : wpS (f.body (cfl P k) (ds.map some ++ List.replicate (f.slots - ds.length) none) M) (fun _ M1 => M1.length = M.length ∧ Q .non M1) fun d M1 => M1.length = M.length ∧ Q d M1) : wpR (callAt P (k + 1) x ds M) Q :=
  wp_run h hp kp (wpS_imp hb (fun _ _ h => ⟨Nat.le_of_eq h.1.symm, .inl h⟩) fun _ _ h => ⟨Nat.le_of_eq h.1.symm, .inl h⟩)
theorem wp_runK {P : Prog} {x : Str} {f : Def} (h : P x = some f) {k : Nat} {ds : List D} {M : Mh} {Q : D → Mh → Prop} (hp : ds.length = f.params) (kp : f.keep = true) (hb : wpS (f.body (cfl P k) (ds.map some ++ List.replicate (f.slots - ds.length) none) M) (fun _ M1 => Q .non M1) fun d M1 => Q d M1) : wpR (callAt P (k + 1) x ds M) Q := by
  rw [at_run h]
  unfold Def.run
  rw [if_pos hp]
  revert hb
  cases f.body (cfl P k) (ds.map some ++ List.replicate (f.slots - ds.length) none) M <;> intro hb <;> first | exact hb.elim | skip
  · show wpR (f.fin M.length .non _) Q
    unfold Def.fin
    rw [kp]
    exact hb
  · show wpR (f.fin M.length _ _) Q
    unfold Def.fin
    rw [kp]
    exact hb
/-- from an end that is known -/
theorem run_eq {P : Prog} {x : Str} {f : Def} (h : P x = some f) {k : Nat} {ds : List D} {M : Mh} {d : D} (hp : ds.length = f.params) (hb : f.body (cfl P k) (ds.map some ++ List.replicate (f.slots - ds.length) none) M = .rt d M) : callAt P (k + 1) x ds M = .ok d M := by
  rw [at_run h]
  unfold Def.run
  rw [if_pos hp, hb]
  show f.fin M.length d M = _
  unfold Def.fin fin
  rw [if_pos rfl, ite_self]
end MP

set_option Elab.async false
set_option linter.all false
set_option maxRecDepth 100000
set_option maxHeartbeats 4000000
/-! MiniPy, the mathematics 2: stepping; the jar. -/
namespace MP
open PySem PySem.Spec PyProof.Rows L2
theorem log2_le {n k : Nat} (h : n < 2 ^ k) : n.log2 ≤ k := by
  by_cases h0 : n = 0
  · subst h0; simp
  · exact Nat.le_of_lt ((Nat.log2_lt h0).mpr h)
/-! ### the jar -/
def Jr (b : Nat) (T M : Mh) : Prop := ∃ d s n : Int, M = .lst [.int d, .int s, .int n] :: T ∧ (0 ≤ d ∧ d < 10 ^ 120) ∧ (0 ≤ s ∧ s < 2147483647) ∧ (0 ≤ n ∧ n ≤ b)
def m_take : Def := ⟨3, 2, false,
  (zSeq (zIf (tCmp .gt (sIdx (sVar 0) (sC (.int 0))) (sC (.int 0)))
  (zSeq (zSet (.nm 2) (sBop .mod false (sInt (sIdx (sVar 0) (sC (.int 0)))) (sVar 1)))
  (zSeq (zSetIx (sVar 0) (sC (.int 0)) (sBop .fdiv false (sIdx (sVar 0) (sC (.int 0))) (sVar 1)))
  (zRet (sVar 2))))
  zNext)
  (zSeq (zSetIx (sVar 0) (sC (.int 2)) (sBop .add false (sIdx (sVar 0) (sC (.int 2))) (sC (.int 1))))
  (zSeq (zSetIx (sVar 0) (sC (.int 1)) (sBop .mod false (sInt (sBop .add false (sBop .add false (sBop .mul false (sIdx (sVar 0) (sC (.int 1))) (sC (.int 39373))) (sBop .mul false (sC (.int 7919)) (sIdx (sVar 0) (sC (.int 2))))) (sC (.int 7)))) (sC (.int 2147483647))))
  (zRet (sBop .mod false (sInt (sBop .fdiv false (sBop .mod false (sInt (sBop .mul false (sIdx (sVar 0) (sC (.int 1))) (sIdx (sVar 0) (sC (.int 1))))) (sC (.int 2147483629))) (sC (.int 32)))) (sVar 1))))))⟩
theorem mul_ok {i j : Int} (hi : i.natAbs < 2 ^ 250) (hj : j.natAbs < 2 ^ 250) : bop .mul (.int i) (.int j) = some (.int (i * j)) := by
  have h1 := log2_le hi
  have h2 := log2_le hj
  exact if_pos (by omega)
theorem mod_ok {i j : Int} (hj : 0 < j) : bop .mod (.int i) (.int j) = some (.int (i % j)) := if_pos hj
theorem fdiv_ok {i j : Int} (hj : 0 < j) (h : j.natAbs < 2 ^ 250) : bop .fdiv (.int i) (.int j) = some (.int (i / j)) := by
  have h1 := log2_le h
  exact if_pos ⟨hj, by omega⟩
theorem add_ok {i j : Int} : bop .add (.int i) (.int j) = some (.int (i + j)) := rfl
theorem sub_ok {i j : Int} : bop .sub (.int i) (.int j) = some (.int (i - j)) := rfl
section
variable {P : Prog}
theorem r_take (hP : P "_law_take" = some m_take) {k b : Nat} {T M : Mh} {m : Int} (j : Jr b T M) (hm : 0 < m ∧ m < 2 ^ 60) (hb : b < 2 ^ 60) : wpR (callAt P (k + 1) "_law_take" [.h 0, .int m] M) fun d M' => ∃ i, d = .int i ∧ (0 ≤ i ∧ i < m) ∧ Jr (b + 1) T M' := by
  obtain ⟨d, s, n, rfl, hd, hs, hn⟩ := j
  refine wp_run0 hP rfl rfl ?_
  dsimp only [m_take, List.map, List.append, List.map_cons, List.map_nil, List.length_cons, List.length_nil, List.replicate, List.cons_append, List.nil_append, Nat.reduceSub, Nat.reduceAdd]
  (repeat (first | (with_reducible first | refine z_Seq ?_ | refine z_SetN ?_ | refine z_Set ?_ | refine z_Ret ?_ | refine z_If ?_ | refine z_Expr ?_ | refine z_Next ?_ | refine z_Par ?_ | refine z_SetIx ?_ | refine w_C ?_ | refine w_Bop ?_ | refine w_BopT ?_ | refine w_Cmp ?_ | refine w_Chain ?_ | refine w_Is ?_ | refine w_Neg ?_ | refine w_Not ?_ | refine w_And ?_ | refine w_Or ?_ | refine w_Ite ?_ | refine w_Tup ?_ | refine w_Lst ?_ | refine w_LstT ?_ | refine w_Idx ?_ | refine w_SlcNN ?_ | refine w_SlcNS ?_ | refine w_SlcSN ?_ | refine w_Rev ?_ | refine w_Isi ?_ | refine w_Len ?_ | refine w_Int ?_ | refine w_Bool ?_ | refine w_Max ?_ | refine w_All ?_ | refine w_List ?_ | refine w_ListT ?_ | refine w_Tuple ?_ | refine w_Join ?_ | refine w_Split ?_ | refine w_Call ?_ | refine w_DictOf ?_ | refine w_Dict0 ?_ | refine w_Dict1 ?_ | refine w_Append ?_ | refine w_Extend ?_ | refine w_PopAt ?_ | refine w_Nil ?_ | refine w_Cons ?_ | refine v_Val ?_ | refine v_And ?_ | refine v_Or ?_ | refine v_Cmp ?_ | refine v_Chain ?_ | refine v_Is ?_ | refine v_Not ?_ | refine v_Yes ?_) | ((with_reducible apply w_Var); (focus (exact rfl)))))
  (refine wO_some rfl ?_); (repeat (first | (with_reducible first | refine z_Seq ?_ | refine z_SetN ?_ | refine z_Set ?_ | refine z_Ret ?_ | refine z_If ?_ | refine z_Expr ?_ | refine z_Next ?_ | refine z_Par ?_ | refine z_SetIx ?_ | refine w_C ?_ | refine w_Bop ?_ | refine w_BopT ?_ | refine w_Cmp ?_ | refine w_Chain ?_ | refine w_Is ?_ | refine w_Neg ?_ | refine w_Not ?_ | refine w_And ?_ | refine w_Or ?_ | refine w_Ite ?_ | refine w_Tup ?_ | refine w_Lst ?_ | refine w_LstT ?_ | refine w_Idx ?_ | refine w_SlcNN ?_ | refine w_SlcNS ?_ | refine w_SlcSN ?_ | refine w_Rev ?_ | refine w_Isi ?_ | refine w_Len ?_ | refine w_Int ?_ | refine w_Bool ?_ | refine w_Max ?_ | refine w_All ?_ | refine w_List ?_ | refine w_ListT ?_ | refine w_Tuple ?_ | refine w_Join ?_ | refine w_Split ?_ | refine w_Call ?_ | refine w_DictOf ?_ | refine w_Dict0 ?_ | refine w_Dict1 ?_ | refine w_Append ?_ | refine w_Extend ?_ | refine w_PopAt ?_ | refine w_Nil ?_ | refine w_Cons ?_ | refine v_Val ?_ | refine v_And ?_ | refine v_Or ?_ | refine v_Cmp ?_ | refine v_Chain ?_ | refine v_Is ?_ | refine v_Not ?_ | refine v_Yes ?_) | ((with_reducible apply w_Var); (focus (exact rfl)))))
  (refine wO_some rfl ?_); refine ⟨fun h => ?_, fun h => ?_⟩
  · (repeat (first | (with_reducible first | refine z_Seq ?_ | refine z_SetN ?_ | refine z_Set ?_ | refine z_Ret ?_ | refine z_If ?_ | refine z_Expr ?_ | refine z_Next ?_ | refine z_Par ?_ | refine z_SetIx ?_ | refine w_C ?_ | refine w_Bop ?_ | refine w_BopT ?_ | refine w_Cmp ?_ | refine w_Chain ?_ | refine w_Is ?_ | refine w_Neg ?_ | refine w_Not ?_ | refine w_And ?_ | refine w_Or ?_ | refine w_Ite ?_ | refine w_Tup ?_ | refine w_Lst ?_ | refine w_LstT ?_ | refine w_Idx ?_ | refine w_SlcNN ?_ | refine w_SlcNS ?_ | refine w_SlcSN ?_ | refine w_Rev ?_ | refine w_Isi ?_ | refine w_Len ?_ | refine w_Int ?_ | refine w_Bool ?_ | refine w_Max ?_ | refine w_All ?_ | refine w_List ?_ | refine w_ListT ?_ | refine w_Tuple ?_ | refine w_Join ?_ | refine w_Split ?_ | refine w_Call ?_ | refine w_DictOf ?_ | refine w_Dict0 ?_ | refine w_Dict1 ?_ | refine w_Append ?_ | refine w_Extend ?_ | refine w_PopAt ?_ | refine w_Nil ?_ | refine w_Cons ?_ | refine v_Val ?_ | refine v_And ?_ | refine v_Or ?_ | refine v_Cmp ?_ | refine v_Chain ?_ | refine v_Is ?_ | refine v_Not ?_ | refine v_Yes ?_) | ((with_reducible apply w_Var); (focus (exact rfl)))))
    (refine wO_some rfl ?_); (repeat (first | (with_reducible first | refine z_Seq ?_ | refine z_SetN ?_ | refine z_Set ?_ | refine z_Ret ?_ | refine z_If ?_ | refine z_Expr ?_ | refine z_Next ?_ | refine z_Par ?_ | refine z_SetIx ?_ | refine w_C ?_ | refine w_Bop ?_ | refine w_BopT ?_ | refine w_Cmp ?_ | refine w_Chain ?_ | refine w_Is ?_ | refine w_Neg ?_ | refine w_Not ?_ | refine w_And ?_ | refine w_Or ?_ | refine w_Ite ?_ | refine w_Tup ?_ | refine w_Lst ?_ | refine w_LstT ?_ | refine w_Idx ?_ | refine w_SlcNN ?_ | refine w_SlcNS ?_ | refine w_SlcSN ?_ | refine w_Rev ?_ | refine w_Isi ?_ | refine w_Len ?_ | refine w_Int ?_ | refine w_Bool ?_ | refine w_Max ?_ | refine w_All ?_ | refine w_List ?_ | refine w_ListT ?_ | refine w_Tuple ?_ | refine w_Join ?_ | refine w_Split ?_ | refine w_Call ?_ | refine w_DictOf ?_ | refine w_Dict0 ?_ | refine w_Dict1 ?_ | refine w_Append ?_ | refine w_Extend ?_ | refine w_PopAt ?_ | refine w_Nil ?_ | refine w_Cons ?_ | refine v_Val ?_ | refine v_And ?_ | refine v_Or ?_ | refine v_Cmp ?_ | refine v_Chain ?_ | refine v_Is ?_ | refine v_Not ?_ | refine v_Yes ?_) | ((with_reducible apply w_Var); (focus (exact rfl)))))
    refine ⟨_, rfl, ?_⟩; (repeat (first | (with_reducible first | refine z_Seq ?_ | refine z_SetN ?_ | refine z_Set ?_ | refine z_Ret ?_ | refine z_If ?_ | refine z_Expr ?_ | refine z_Next ?_ | refine z_Par ?_ | refine z_SetIx ?_ | refine w_C ?_ | refine w_Bop ?_ | refine w_BopT ?_ | refine w_Cmp ?_ | refine w_Chain ?_ | refine w_Is ?_ | refine w_Neg ?_ | refine w_Not ?_ | refine w_And ?_ | refine w_Or ?_ | refine w_Ite ?_ | refine w_Tup ?_ | refine w_Lst ?_ | refine w_LstT ?_ | refine w_Idx ?_ | refine w_SlcNN ?_ | refine w_SlcNS ?_ | refine w_SlcSN ?_ | refine w_Rev ?_ | refine w_Isi ?_ | refine w_Len ?_ | refine w_Int ?_ | refine w_Bool ?_ | refine w_Max ?_ | refine w_All ?_ | refine w_List ?_ | refine w_ListT ?_ | refine w_Tuple ?_ | refine w_Join ?_ | refine w_Split ?_ | refine w_Call ?_ | refine w_DictOf ?_ | refine w_Dict0 ?_ | refine w_Dict1 ?_ | refine w_Append ?_ | refine w_Extend ?_ | refine w_PopAt ?_ | refine w_Nil ?_ | refine w_Cons ?_ | refine v_Val ?_ | refine v_And ?_ | refine v_Or ?_ | refine v_Cmp ?_ | refine v_Chain ?_ | refine v_Is ?_ | refine v_Not ?_ | refine v_Yes ?_) | ((with_reducible apply w_Var); (focus (exact rfl)))))
    refine wO_some (mod_ok hm.1) ?_
    (repeat (first | (with_reducible first | refine z_Seq ?_ | refine z_SetN ?_ | refine z_Set ?_ | refine z_Ret ?_ | refine z_If ?_ | refine z_Expr ?_ | refine z_Next ?_ | refine z_Par ?_ | refine z_SetIx ?_ | refine w_C ?_ | refine w_Bop ?_ | refine w_BopT ?_ | refine w_Cmp ?_ | refine w_Chain ?_ | refine w_Is ?_ | refine w_Neg ?_ | refine w_Not ?_ | refine w_And ?_ | refine w_Or ?_ | refine w_Ite ?_ | refine w_Tup ?_ | refine w_Lst ?_ | refine w_LstT ?_ | refine w_Idx ?_ | refine w_SlcNN ?_ | refine w_SlcNS ?_ | refine w_SlcSN ?_ | refine w_Rev ?_ | refine w_Isi ?_ | refine w_Len ?_ | refine w_Int ?_ | refine w_Bool ?_ | refine w_Max ?_ | refine w_All ?_ | refine w_List ?_ | refine w_ListT ?_ | refine w_Tuple ?_ | refine w_Join ?_ | refine w_Split ?_ | refine w_Call ?_ | refine w_DictOf ?_ | refine w_Dict0 ?_ | refine w_Dict1 ?_ | refine w_Append ?_ | refine w_Extend ?_ | refine w_PopAt ?_ | refine w_Nil ?_ | refine w_Cons ?_ | refine v_Val ?_ | refine v_And ?_ | refine v_Or ?_ | refine v_Cmp ?_ | refine v_Chain ?_ | refine v_Is ?_ | refine v_Not ?_ | refine v_Yes ?_) | ((with_reducible apply w_Var); (focus (exact rfl)))))
    (refine wO_some rfl ?_); (repeat (first | (with_reducible first | refine z_Seq ?_ | refine z_SetN ?_ | refine z_Set ?_ | refine z_Ret ?_ | refine z_If ?_ | refine z_Expr ?_ | refine z_Next ?_ | refine z_Par ?_ | refine z_SetIx ?_ | refine w_C ?_ | refine w_Bop ?_ | refine w_BopT ?_ | refine w_Cmp ?_ | refine w_Chain ?_ | refine w_Is ?_ | refine w_Neg ?_ | refine w_Not ?_ | refine w_And ?_ | refine w_Or ?_ | refine w_Ite ?_ | refine w_Tup ?_ | refine w_Lst ?_ | refine w_LstT ?_ | refine w_Idx ?_ | refine w_SlcNN ?_ | refine w_SlcNS ?_ | refine w_SlcSN ?_ | refine w_Rev ?_ | refine w_Isi ?_ | refine w_Len ?_ | refine w_Int ?_ | refine w_Bool ?_ | refine w_Max ?_ | refine w_All ?_ | refine w_List ?_ | refine w_ListT ?_ | refine w_Tuple ?_ | refine w_Join ?_ | refine w_Split ?_ | refine w_Call ?_ | refine w_DictOf ?_ | refine w_Dict0 ?_ | refine w_Dict1 ?_ | refine w_Append ?_ | refine w_Extend ?_ | refine w_PopAt ?_ | refine w_Nil ?_ | refine w_Cons ?_ | refine v_Val ?_ | refine v_And ?_ | refine v_Or ?_ | refine v_Cmp ?_ | refine v_Chain ?_ | refine v_Is ?_ | refine v_Not ?_ | refine v_Yes ?_) | ((with_reducible apply w_Var); (focus (exact rfl)))))
    refine wO_some (fdiv_ok hm.1 (by omega)) ?_
    (repeat (first | (with_reducible first | refine z_Seq ?_ | refine z_SetN ?_ | refine z_Set ?_ | refine z_Ret ?_ | refine z_If ?_ | refine z_Expr ?_ | refine z_Next ?_ | refine z_Par ?_ | refine z_SetIx ?_ | refine w_C ?_ | refine w_Bop ?_ | refine w_BopT ?_ | refine w_Cmp ?_ | refine w_Chain ?_ | refine w_Is ?_ | refine w_Neg ?_ | refine w_Not ?_ | refine w_And ?_ | refine w_Or ?_ | refine w_Ite ?_ | refine w_Tup ?_ | refine w_Lst ?_ | refine w_LstT ?_ | refine w_Idx ?_ | refine w_SlcNN ?_ | refine w_SlcNS ?_ | refine w_SlcSN ?_ | refine w_Rev ?_ | refine w_Isi ?_ | refine w_Len ?_ | refine w_Int ?_ | refine w_Bool ?_ | refine w_Max ?_ | refine w_All ?_ | refine w_List ?_ | refine w_ListT ?_ | refine w_Tuple ?_ | refine w_Join ?_ | refine w_Split ?_ | refine w_Call ?_ | refine w_DictOf ?_ | refine w_Dict0 ?_ | refine w_Dict1 ?_ | refine w_Append ?_ | refine w_Extend ?_ | refine w_PopAt ?_ | refine w_Nil ?_ | refine w_Cons ?_ | refine v_Val ?_ | refine v_And ?_ | refine v_Or ?_ | refine v_Cmp ?_ | refine v_Chain ?_ | refine v_Is ?_ | refine v_Not ?_ | refine v_Yes ?_) | ((with_reducible apply w_Var); (focus (exact rfl)))))
    refine ⟨_, _, _, rfl, rfl, rfl, ⟨by decide, by simp⟩, ?_⟩
    (repeat (first | (with_reducible first | refine z_Seq ?_ | refine z_SetN ?_ | refine z_Set ?_ | refine z_Ret ?_ | refine z_If ?_ | refine z_Expr ?_ | refine z_Next ?_ | refine z_Par ?_ | refine z_SetIx ?_ | refine w_C ?_ | refine w_Bop ?_ | refine w_BopT ?_ | refine w_Cmp ?_ | refine w_Chain ?_ | refine w_Is ?_ | refine w_Neg ?_ | refine w_Not ?_ | refine w_And ?_ | refine w_Or ?_ | refine w_Ite ?_ | refine w_Tup ?_ | refine w_Lst ?_ | refine w_LstT ?_ | refine w_Idx ?_ | refine w_SlcNN ?_ | refine w_SlcNS ?_ | refine w_SlcSN ?_ | refine w_Rev ?_ | refine w_Isi ?_ | refine w_Len ?_ | refine w_Int ?_ | refine w_Bool ?_ | refine w_Max ?_ | refine w_All ?_ | refine w_List ?_ | refine w_ListT ?_ | refine w_Tuple ?_ | refine w_Join ?_ | refine w_Split ?_ | refine w_Call ?_ | refine w_DictOf ?_ | refine w_Dict0 ?_ | refine w_Dict1 ?_ | refine w_Append ?_ | refine w_Extend ?_ | refine w_PopAt ?_ | refine w_Nil ?_ | refine w_Cons ?_ | refine v_Val ?_ | refine v_And ?_ | refine v_Or ?_ | refine v_Cmp ?_ | refine v_Chain ?_ | refine v_Is ?_ | refine v_Not ?_ | refine v_Yes ?_) | ((with_reducible apply w_Var); (focus (exact rfl)))))
    have h := of_decide_eq_true h
    have hq := Int.ediv_le_self m hd.1
    exact ⟨rfl, _, rfl, ⟨Int.emod_nonneg _ (by omega), Int.emod_lt_of_pos _ hm.1⟩, _, _, _, rfl, ⟨Int.ediv_nonneg hd.1 (by omega), by omega⟩, hs, ⟨hn.1, by omega⟩⟩
  · (repeat (first | (with_reducible first | refine z_Seq ?_ | refine z_SetN ?_ | refine z_Set ?_ | refine z_Ret ?_ | refine z_If ?_ | refine z_Expr ?_ | refine z_Next ?_ | refine z_Par ?_ | refine z_SetIx ?_ | refine w_C ?_ | refine w_Bop ?_ | refine w_BopT ?_ | refine w_Cmp ?_ | refine w_Chain ?_ | refine w_Is ?_ | refine w_Neg ?_ | refine w_Not ?_ | refine w_And ?_ | refine w_Or ?_ | refine w_Ite ?_ | refine w_Tup ?_ | refine w_Lst ?_ | refine w_LstT ?_ | refine w_Idx ?_ | refine w_SlcNN ?_ | refine w_SlcNS ?_ | refine w_SlcSN ?_ | refine w_Rev ?_ | refine w_Isi ?_ | refine w_Len ?_ | refine w_Int ?_ | refine w_Bool ?_ | refine w_Max ?_ | refine w_All ?_ | refine w_List ?_ | refine w_ListT ?_ | refine w_Tuple ?_ | refine w_Join ?_ | refine w_Split ?_ | refine w_Call ?_ | refine w_DictOf ?_ | refine w_Dict0 ?_ | refine w_Dict1 ?_ | refine w_Append ?_ | refine w_Extend ?_ | refine w_PopAt ?_ | refine w_Nil ?_ | refine w_Cons ?_ | refine v_Val ?_ | refine v_And ?_ | refine v_Or ?_ | refine v_Cmp ?_ | refine v_Chain ?_ | refine v_Is ?_ | refine v_Not ?_ | refine v_Yes ?_) | ((with_reducible apply w_Var); (focus (exact rfl)))))
    (refine wO_some rfl ?_); (repeat (first | (with_reducible first | refine z_Seq ?_ | refine z_SetN ?_ | refine z_Set ?_ | refine z_Ret ?_ | refine z_If ?_ | refine z_Expr ?_ | refine z_Next ?_ | refine z_Par ?_ | refine z_SetIx ?_ | refine w_C ?_ | refine w_Bop ?_ | refine w_BopT ?_ | refine w_Cmp ?_ | refine w_Chain ?_ | refine w_Is ?_ | refine w_Neg ?_ | refine w_Not ?_ | refine w_And ?_ | refine w_Or ?_ | refine w_Ite ?_ | refine w_Tup ?_ | refine w_Lst ?_ | refine w_LstT ?_ | refine w_Idx ?_ | refine w_SlcNN ?_ | refine w_SlcNS ?_ | refine w_SlcSN ?_ | refine w_Rev ?_ | refine w_Isi ?_ | refine w_Len ?_ | refine w_Int ?_ | refine w_Bool ?_ | refine w_Max ?_ | refine w_All ?_ | refine w_List ?_ | refine w_ListT ?_ | refine w_Tuple ?_ | refine w_Join ?_ | refine w_Split ?_ | refine w_Call ?_ | refine w_DictOf ?_ | refine w_Dict0 ?_ | refine w_Dict1 ?_ | refine w_Append ?_ | refine w_Extend ?_ | refine w_PopAt ?_ | refine w_Nil ?_ | refine w_Cons ?_ | refine v_Val ?_ | refine v_And ?_ | refine v_Or ?_ | refine v_Cmp ?_ | refine v_Chain ?_ | refine v_Is ?_ | refine v_Not ?_ | refine v_Yes ?_) | ((with_reducible apply w_Var); (focus (exact rfl)))))
    (refine wO_some rfl ?_); (repeat (first | (with_reducible first | refine z_Seq ?_ | refine z_SetN ?_ | refine z_Set ?_ | refine z_Ret ?_ | refine z_If ?_ | refine z_Expr ?_ | refine z_Next ?_ | refine z_Par ?_ | refine z_SetIx ?_ | refine w_C ?_ | refine w_Bop ?_ | refine w_BopT ?_ | refine w_Cmp ?_ | refine w_Chain ?_ | refine w_Is ?_ | refine w_Neg ?_ | refine w_Not ?_ | refine w_And ?_ | refine w_Or ?_ | refine w_Ite ?_ | refine w_Tup ?_ | refine w_Lst ?_ | refine w_LstT ?_ | refine w_Idx ?_ | refine w_SlcNN ?_ | refine w_SlcNS ?_ | refine w_SlcSN ?_ | refine w_Rev ?_ | refine w_Isi ?_ | refine w_Len ?_ | refine w_Int ?_ | refine w_Bool ?_ | refine w_Max ?_ | refine w_All ?_ | refine w_List ?_ | refine w_ListT ?_ | refine w_Tuple ?_ | refine w_Join ?_ | refine w_Split ?_ | refine w_Call ?_ | refine w_DictOf ?_ | refine w_Dict0 ?_ | refine w_Dict1 ?_ | refine w_Append ?_ | refine w_Extend ?_ | refine w_PopAt ?_ | refine w_Nil ?_ | refine w_Cons ?_ | refine v_Val ?_ | refine v_And ?_ | refine v_Or ?_ | refine v_Cmp ?_ | refine v_Chain ?_ | refine v_Is ?_ | refine v_Not ?_ | refine v_Yes ?_) | ((with_reducible apply w_Var); (focus (exact rfl)))))
    refine ⟨_, _, _, rfl, rfl, rfl, ⟨by decide, by simp⟩, ?_⟩
    (repeat (first | (with_reducible first | refine z_Seq ?_ | refine z_SetN ?_ | refine z_Set ?_ | refine z_Ret ?_ | refine z_If ?_ | refine z_Expr ?_ | refine z_Next ?_ | refine z_Par ?_ | refine z_SetIx ?_ | refine w_C ?_ | refine w_Bop ?_ | refine w_BopT ?_ | refine w_Cmp ?_ | refine w_Chain ?_ | refine w_Is ?_ | refine w_Neg ?_ | refine w_Not ?_ | refine w_And ?_ | refine w_Or ?_ | refine w_Ite ?_ | refine w_Tup ?_ | refine w_Lst ?_ | refine w_LstT ?_ | refine w_Idx ?_ | refine w_SlcNN ?_ | refine w_SlcNS ?_ | refine w_SlcSN ?_ | refine w_Rev ?_ | refine w_Isi ?_ | refine w_Len ?_ | refine w_Int ?_ | refine w_Bool ?_ | refine w_Max ?_ | refine w_All ?_ | refine w_List ?_ | refine w_ListT ?_ | refine w_Tuple ?_ | refine w_Join ?_ | refine w_Split ?_ | refine w_Call ?_ | refine w_DictOf ?_ | refine w_Dict0 ?_ | refine w_Dict1 ?_ | refine w_Append ?_ | refine w_Extend ?_ | refine w_PopAt ?_ | refine w_Nil ?_ | refine w_Cons ?_ | refine v_Val ?_ | refine v_And ?_ | refine v_Or ?_ | refine v_Cmp ?_ | refine v_Chain ?_ | refine v_Is ?_ | refine v_Not ?_ | refine v_Yes ?_) | ((with_reducible apply w_Var); (focus (exact rfl)))))
    (refine wO_some rfl ?_); (repeat (first | (with_reducible first | refine z_Seq ?_ | refine z_SetN ?_ | refine z_Set ?_ | refine z_Ret ?_ | refine z_If ?_ | refine z_Expr ?_ | refine z_Next ?_ | refine z_Par ?_ | refine z_SetIx ?_ | refine w_C ?_ | refine w_Bop ?_ | refine w_BopT ?_ | refine w_Cmp ?_ | refine w_Chain ?_ | refine w_Is ?_ | refine w_Neg ?_ | refine w_Not ?_ | refine w_And ?_ | refine w_Or ?_ | refine w_Ite ?_ | refine w_Tup ?_ | refine w_Lst ?_ | refine w_LstT ?_ | refine w_Idx ?_ | refine w_SlcNN ?_ | refine w_SlcNS ?_ | refine w_SlcSN ?_ | refine w_Rev ?_ | refine w_Isi ?_ | refine w_Len ?_ | refine w_Int ?_ | refine w_Bool ?_ | refine w_Max ?_ | refine w_All ?_ | refine w_List ?_ | refine w_ListT ?_ | refine w_Tuple ?_ | refine w_Join ?_ | refine w_Split ?_ | refine w_Call ?_ | refine w_DictOf ?_ | refine w_Dict0 ?_ | refine w_Dict1 ?_ | refine w_Append ?_ | refine w_Extend ?_ | refine w_PopAt ?_ | refine w_Nil ?_ | refine w_Cons ?_ | refine v_Val ?_ | refine v_And ?_ | refine v_Or ?_ | refine v_Cmp ?_ | refine v_Chain ?_ | refine v_Is ?_ | refine v_Not ?_ | refine v_Yes ?_) | ((with_reducible apply w_Var); (focus (exact rfl)))))
    refine wO_some (mul_ok (i := s) (j := 39373) (by omega) (by decide)) ?_
    (repeat (first | (with_reducible first | refine z_Seq ?_ | refine z_SetN ?_ | refine z_Set ?_ | refine z_Ret ?_ | refine z_If ?_ | refine z_Expr ?_ | refine z_Next ?_ | refine z_Par ?_ | refine z_SetIx ?_ | refine w_C ?_ | refine w_Bop ?_ | refine w_BopT ?_ | refine w_Cmp ?_ | refine w_Chain ?_ | refine w_Is ?_ | refine w_Neg ?_ | refine w_Not ?_ | refine w_And ?_ | refine w_Or ?_ | refine w_Ite ?_ | refine w_Tup ?_ | refine w_Lst ?_ | refine w_LstT ?_ | refine w_Idx ?_ | refine w_SlcNN ?_ | refine w_SlcNS ?_ | refine w_SlcSN ?_ | refine w_Rev ?_ | refine w_Isi ?_ | refine w_Len ?_ | refine w_Int ?_ | refine w_Bool ?_ | refine w_Max ?_ | refine w_All ?_ | refine w_List ?_ | refine w_ListT ?_ | refine w_Tuple ?_ | refine w_Join ?_ | refine w_Split ?_ | refine w_Call ?_ | refine w_DictOf ?_ | refine w_Dict0 ?_ | refine w_Dict1 ?_ | refine w_Append ?_ | refine w_Extend ?_ | refine w_PopAt ?_ | refine w_Nil ?_ | refine w_Cons ?_ | refine v_Val ?_ | refine v_And ?_ | refine v_Or ?_ | refine v_Cmp ?_ | refine v_Chain ?_ | refine v_Is ?_ | refine v_Not ?_ | refine v_Yes ?_) | ((with_reducible apply w_Var); (focus (exact rfl)))))
    (refine wO_some rfl ?_); (repeat (first | (with_reducible first | refine z_Seq ?_ | refine z_SetN ?_ | refine z_Set ?_ | refine z_Ret ?_ | refine z_If ?_ | refine z_Expr ?_ | refine z_Next ?_ | refine z_Par ?_ | refine z_SetIx ?_ | refine w_C ?_ | refine w_Bop ?_ | refine w_BopT ?_ | refine w_Cmp ?_ | refine w_Chain ?_ | refine w_Is ?_ | refine w_Neg ?_ | refine w_Not ?_ | refine w_And ?_ | refine w_Or ?_ | refine w_Ite ?_ | refine w_Tup ?_ | refine w_Lst ?_ | refine w_LstT ?_ | refine w_Idx ?_ | refine w_SlcNN ?_ | refine w_SlcNS ?_ | refine w_SlcSN ?_ | refine w_Rev ?_ | refine w_Isi ?_ | refine w_Len ?_ | refine w_Int ?_ | refine w_Bool ?_ | refine w_Max ?_ | refine w_All ?_ | refine w_List ?_ | refine w_ListT ?_ | refine w_Tuple ?_ | refine w_Join ?_ | refine w_Split ?_ | refine w_Call ?_ | refine w_DictOf ?_ | refine w_Dict0 ?_ | refine w_Dict1 ?_ | refine w_Append ?_ | refine w_Extend ?_ | refine w_PopAt ?_ | refine w_Nil ?_ | refine w_Cons ?_ | refine v_Val ?_ | refine v_And ?_ | refine v_Or ?_ | refine v_Cmp ?_ | refine v_Chain ?_ | refine v_Is ?_ | refine v_Not ?_ | refine v_Yes ?_) | ((with_reducible apply w_Var); (focus (exact rfl)))))
    refine wO_some (mul_ok (i := 7919) (j := n + 1) (by decide) (by omega)) ?_
    refine wO_some add_ok ?_
    (repeat (first | (with_reducible first | refine z_Seq ?_ | refine z_SetN ?_ | refine z_Set ?_ | refine z_Ret ?_ | refine z_If ?_ | refine z_Expr ?_ | refine z_Next ?_ | refine z_Par ?_ | refine z_SetIx ?_ | refine w_C ?_ | refine w_Bop ?_ | refine w_BopT ?_ | refine w_Cmp ?_ | refine w_Chain ?_ | refine w_Is ?_ | refine w_Neg ?_ | refine w_Not ?_ | refine w_And ?_ | refine w_Or ?_ | refine w_Ite ?_ | refine w_Tup ?_ | refine w_Lst ?_ | refine w_LstT ?_ | refine w_Idx ?_ | refine w_SlcNN ?_ | refine w_SlcNS ?_ | refine w_SlcSN ?_ | refine w_Rev ?_ | refine w_Isi ?_ | refine w_Len ?_ | refine w_Int ?_ | refine w_Bool ?_ | refine w_Max ?_ | refine w_All ?_ | refine w_List ?_ | refine w_ListT ?_ | refine w_Tuple ?_ | refine w_Join ?_ | refine w_Split ?_ | refine w_Call ?_ | refine w_DictOf ?_ | refine w_Dict0 ?_ | refine w_Dict1 ?_ | refine w_Append ?_ | refine w_Extend ?_ | refine w_PopAt ?_ | refine w_Nil ?_ | refine w_Cons ?_ | refine v_Val ?_ | refine v_And ?_ | refine v_Or ?_ | refine v_Cmp ?_ | refine v_Chain ?_ | refine v_Is ?_ | refine v_Not ?_ | refine v_Yes ?_) | ((with_reducible apply w_Var); (focus (exact rfl)))))
    refine wO_some add_ok ?_
    refine ⟨_, rfl, ?_⟩
    (repeat (first | (with_reducible first | refine z_Seq ?_ | refine z_SetN ?_ | refine z_Set ?_ | refine z_Ret ?_ | refine z_If ?_ | refine z_Expr ?_ | refine z_Next ?_ | refine z_Par ?_ | refine z_SetIx ?_ | refine w_C ?_ | refine w_Bop ?_ | refine w_BopT ?_ | refine w_Cmp ?_ | refine w_Chain ?_ | refine w_Is ?_ | refine w_Neg ?_ | refine w_Not ?_ | refine w_And ?_ | refine w_Or ?_ | refine w_Ite ?_ | refine w_Tup ?_ | refine w_Lst ?_ | refine w_LstT ?_ | refine w_Idx ?_ | refine w_SlcNN ?_ | refine w_SlcNS ?_ | refine w_SlcSN ?_ | refine w_Rev ?_ | refine w_Isi ?_ | refine w_Len ?_ | refine w_Int ?_ | refine w_Bool ?_ | refine w_Max ?_ | refine w_All ?_ | refine w_List ?_ | refine w_ListT ?_ | refine w_Tuple ?_ | refine w_Join ?_ | refine w_Split ?_ | refine w_Call ?_ | refine w_DictOf ?_ | refine w_Dict0 ?_ | refine w_Dict1 ?_ | refine w_Append ?_ | refine w_Extend ?_ | refine w_PopAt ?_ | refine w_Nil ?_ | refine w_Cons ?_ | refine v_Val ?_ | refine v_And ?_ | refine v_Or ?_ | refine v_Cmp ?_ | refine v_Chain ?_ | refine v_Is ?_ | refine v_Not ?_ | refine v_Yes ?_) | ((with_reducible apply w_Var); (focus (exact rfl)))))
    refine wO_some (mod_ok (by decide)) ?_
    (repeat (first | (with_reducible first | refine z_Seq ?_ | refine z_SetN ?_ | refine z_Set ?_ | refine z_Ret ?_ | refine z_If ?_ | refine z_Expr ?_ | refine z_Next ?_ | refine z_Par ?_ | refine z_SetIx ?_ | refine w_C ?_ | refine w_Bop ?_ | refine w_BopT ?_ | refine w_Cmp ?_ | refine w_Chain ?_ | refine w_Is ?_ | refine w_Neg ?_ | refine w_Not ?_ | refine w_And ?_ | refine w_Or ?_ | refine w_Ite ?_ | refine w_Tup ?_ | refine w_Lst ?_ | refine w_LstT ?_ | refine w_Idx ?_ | refine w_SlcNN ?_ | refine w_SlcNS ?_ | refine w_SlcSN ?_ | refine w_Rev ?_ | refine w_Isi ?_ | refine w_Len ?_ | refine w_Int ?_ | refine w_Bool ?_ | refine w_Max ?_ | refine w_All ?_ | refine w_List ?_ | refine w_ListT ?_ | refine w_Tuple ?_ | refine w_Join ?_ | refine w_Split ?_ | refine w_Call ?_ | refine w_DictOf ?_ | refine w_Dict0 ?_ | refine w_Dict1 ?_ | refine w_Append ?_ | refine w_Extend ?_ | refine w_PopAt ?_ | refine w_Nil ?_ | refine w_Cons ?_ | refine v_Val ?_ | refine v_And ?_ | refine v_Or ?_ | refine v_Cmp ?_ | refine v_Chain ?_ | refine v_Is ?_ | refine v_Not ?_ | refine v_Yes ?_) | ((with_reducible apply w_Var); (focus (exact rfl)))))
    refine ⟨_, _, _, rfl, rfl, rfl, ⟨by decide, by simp⟩, ?_⟩
    generalize hz : (s * 39373 + 7919 * (n + 1) + 7) % 2147483647 = z
    have hz1 : 0 ≤ z ∧ z < 2147483647 := by omega
    (repeat (first | (with_reducible first | refine z_Seq ?_ | refine z_SetN ?_ | refine z_Set ?_ | refine z_Ret ?_ | refine z_If ?_ | refine z_Expr ?_ | refine z_Next ?_ | refine z_Par ?_ | refine z_SetIx ?_ | refine w_C ?_ | refine w_Bop ?_ | refine w_BopT ?_ | refine w_Cmp ?_ | refine w_Chain ?_ | refine w_Is ?_ | refine w_Neg ?_ | refine w_Not ?_ | refine w_And ?_ | refine w_Or ?_ | refine w_Ite ?_ | refine w_Tup ?_ | refine w_Lst ?_ | refine w_LstT ?_ | refine w_Idx ?_ | refine w_SlcNN ?_ | refine w_SlcNS ?_ | refine w_SlcSN ?_ | refine w_Rev ?_ | refine w_Isi ?_ | refine w_Len ?_ | refine w_Int ?_ | refine w_Bool ?_ | refine w_Max ?_ | refine w_All ?_ | refine w_List ?_ | refine w_ListT ?_ | refine w_Tuple ?_ | refine w_Join ?_ | refine w_Split ?_ | refine w_Call ?_ | refine w_DictOf ?_ | refine w_Dict0 ?_ | refine w_Dict1 ?_ | refine w_Append ?_ | refine w_Extend ?_ | refine w_PopAt ?_ | refine w_Nil ?_ | refine w_Cons ?_ | refine v_Val ?_ | refine v_And ?_ | refine v_Or ?_ | refine v_Cmp ?_ | refine v_Chain ?_ | refine v_Is ?_ | refine v_Not ?_ | refine v_Yes ?_) | ((with_reducible apply w_Var); (focus (exact rfl)))))
    (refine wO_some rfl ?_); (repeat (first | (with_reducible first | refine z_Seq ?_ | refine z_SetN ?_ | refine z_Set ?_ | refine z_Ret ?_ | refine z_If ?_ | refine z_Expr ?_ | refine z_Next ?_ | refine z_Par ?_ | refine z_SetIx ?_ | refine w_C ?_ | refine w_Bop ?_ | refine w_BopT ?_ | refine w_Cmp ?_ | refine w_Chain ?_ | refine w_Is ?_ | refine w_Neg ?_ | refine w_Not ?_ | refine w_And ?_ | refine w_Or ?_ | refine w_Ite ?_ | refine w_Tup ?_ | refine w_Lst ?_ | refine w_LstT ?_ | refine w_Idx ?_ | refine w_SlcNN ?_ | refine w_SlcNS ?_ | refine w_SlcSN ?_ | refine w_Rev ?_ | refine w_Isi ?_ | refine w_Len ?_ | refine w_Int ?_ | refine w_Bool ?_ | refine w_Max ?_ | refine w_All ?_ | refine w_List ?_ | refine w_ListT ?_ | refine w_Tuple ?_ | refine w_Join ?_ | refine w_Split ?_ | refine w_Call ?_ | refine w_DictOf ?_ | refine w_Dict0 ?_ | refine w_Dict1 ?_ | refine w_Append ?_ | refine w_Extend ?_ | refine w_PopAt ?_ | refine w_Nil ?_ | refine w_Cons ?_ | refine v_Val ?_ | refine v_And ?_ | refine v_Or ?_ | refine v_Cmp ?_ | refine v_Chain ?_ | refine v_Is ?_ | refine v_Not ?_ | refine v_Yes ?_) | ((with_reducible apply w_Var); (focus (exact rfl)))))
    (refine wO_some rfl ?_)
    refine wO_some (mul_ok (i := z) (j := z) (by omega) (by omega)) ?_
    refine ⟨_, rfl, ?_⟩
    (repeat (first | (with_reducible first | refine z_Seq ?_ | refine z_SetN ?_ | refine z_Set ?_ | refine z_Ret ?_ | refine z_If ?_ | refine z_Expr ?_ | refine z_Next ?_ | refine z_Par ?_ | refine z_SetIx ?_ | refine w_C ?_ | refine w_Bop ?_ | refine w_BopT ?_ | refine w_Cmp ?_ | refine w_Chain ?_ | refine w_Is ?_ | refine w_Neg ?_ | refine w_Not ?_ | refine w_And ?_ | refine w_Or ?_ | refine w_Ite ?_ | refine w_Tup ?_ | refine w_Lst ?_ | refine w_LstT ?_ | refine w_Idx ?_ | refine w_SlcNN ?_ | refine w_SlcNS ?_ | refine w_SlcSN ?_ | refine w_Rev ?_ | refine w_Isi ?_ | refine w_Len ?_ | refine w_Int ?_ | refine w_Bool ?_ | refine w_Max ?_ | refine w_All ?_ | refine w_List ?_ | refine w_ListT ?_ | refine w_Tuple ?_ | refine w_Join ?_ | refine w_Split ?_ | refine w_Call ?_ | refine w_DictOf ?_ | refine w_Dict0 ?_ | refine w_Dict1 ?_ | refine w_Append ?_ | refine w_Extend ?_ | refine w_PopAt ?_ | refine w_Nil ?_ | refine w_Cons ?_ | refine v_Val ?_ | refine v_And ?_ | refine v_Or ?_ | refine v_Cmp ?_ | refine v_Chain ?_ | refine v_Is ?_ | refine v_Not ?_ | refine v_Yes ?_) | ((with_reducible apply w_Var); (focus (exact rfl)))))
    refine wO_some (mod_ok (by decide)) ?_
    (repeat (first | (with_reducible first | refine z_Seq ?_ | refine z_SetN ?_ | refine z_Set ?_ | refine z_Ret ?_ | refine z_If ?_ | refine z_Expr ?_ | refine z_Next ?_ | refine z_Par ?_ | refine z_SetIx ?_ | refine w_C ?_ | refine w_Bop ?_ | refine w_BopT ?_ | refine w_Cmp ?_ | refine w_Chain ?_ | refine w_Is ?_ | refine w_Neg ?_ | refine w_Not ?_ | refine w_And ?_ | refine w_Or ?_ | refine w_Ite ?_ | refine w_Tup ?_ | refine w_Lst ?_ | refine w_LstT ?_ | refine w_Idx ?_ | refine w_SlcNN ?_ | refine w_SlcNS ?_ | refine w_SlcSN ?_ | refine w_Rev ?_ | refine w_Isi ?_ | refine w_Len ?_ | refine w_Int ?_ | refine w_Bool ?_ | refine w_Max ?_ | refine w_All ?_ | refine w_List ?_ | refine w_ListT ?_ | refine w_Tuple ?_ | refine w_Join ?_ | refine w_Split ?_ | refine w_Call ?_ | refine w_DictOf ?_ | refine w_Dict0 ?_ | refine w_Dict1 ?_ | refine w_Append ?_ | refine w_Extend ?_ | refine w_PopAt ?_ | refine w_Nil ?_ | refine w_Cons ?_ | refine v_Val ?_ | refine v_And ?_ | refine v_Or ?_ | refine v_Cmp ?_ | refine v_Chain ?_ | refine v_Is ?_ | refine v_Not ?_ | refine v_Yes ?_) | ((with_reducible apply w_Var); (focus (exact rfl)))))
    refine wO_some (fdiv_ok (by decide) (by decide)) ?_
    refine ⟨_, rfl, ?_⟩
    (repeat (first | (with_reducible first | refine z_Seq ?_ | refine z_SetN ?_ | refine z_Set ?_ | refine z_Ret ?_ | refine z_If ?_ | refine z_Expr ?_ | refine z_Next ?_ | refine z_Par ?_ | refine z_SetIx ?_ | refine w_C ?_ | refine w_Bop ?_ | refine w_BopT ?_ | refine w_Cmp ?_ | refine w_Chain ?_ | refine w_Is ?_ | refine w_Neg ?_ | refine w_Not ?_ | refine w_And ?_ | refine w_Or ?_ | refine w_Ite ?_ | refine w_Tup ?_ | refine w_Lst ?_ | refine w_LstT ?_ | refine w_Idx ?_ | refine w_SlcNN ?_ | refine w_SlcNS ?_ | refine w_SlcSN ?_ | refine w_Rev ?_ | refine w_Isi ?_ | refine w_Len ?_ | refine w_Int ?_ | refine w_Bool ?_ | refine w_Max ?_ | refine w_All ?_ | refine w_List ?_ | refine w_ListT ?_ | refine w_Tuple ?_ | refine w_Join ?_ | refine w_Split ?_ | refine w_Call ?_ | refine w_DictOf ?_ | refine w_Dict0 ?_ | refine w_Dict1 ?_ | refine w_Append ?_ | refine w_Extend ?_ | refine w_PopAt ?_ | refine w_Nil ?_ | refine w_Cons ?_ | refine v_Val ?_ | refine v_And ?_ | refine v_Or ?_ | refine v_Cmp ?_ | refine v_Chain ?_ | refine v_Is ?_ | refine v_Not ?_ | refine v_Yes ?_) | ((with_reducible apply w_Var); (focus (exact rfl)))))
    refine wO_some (mod_ok hm.1) ?_
    exact ⟨rfl, _, rfl, ⟨Int.emod_nonneg _ (by omega), Int.emod_lt_of_pos _ hm.1⟩, _, _, _, rfl, hd, hz1, ⟨by omega, by omega⟩⟩

theorem Jr.mono {b b' : Nat} {T M : Mh} (j : Jr b T M) (h : b ≤ b') : Jr b' T M := by
  obtain ⟨d, s, n, e, hd, hs, hn⟩ := j
  exact ⟨d, s, n, e, hd, hs, hn.1, by omega⟩
theorem Jr.len {b : Nat} {T M : Mh} (j : Jr b T M) : M.length = T.length + 1 := by
  obtain ⟨d, s, n, rfl, _⟩ := j
  rfl
theorem Jr.get {b : Nat} {T M : Mh} (j : Jr b T M) (i : Nat) : M[i + 1]? = T[i]? := by
  obtain ⟨d, s, n, rfl, _⟩ := j
  rfl
theorem Jr.getL {b : Nat} {T M : Mh} (j : Jr b T M) (i : Nat) : getL M (i + 1) = getL T i := by
  unfold MP.getL
  rw [j.get]
theorem Jr.set {b : Nat} {T M : Mh} (j : Jr b T M) (i : Nat) (o : O) : Jr b (T.set i o) (M.set (i + 1) o) := by
  obtain ⟨d, s, n, rfl, h⟩ := j
  exact ⟨d, s, n, rfl, h⟩
theorem Jr.app {b : Nat} {T M : Mh} (j : Jr b T M) (S : Mh) : Jr b (T ++ S) (M ++ S) := by
  obtain ⟨d, s, n, rfl, h⟩ := j
  exact ⟨d, s, n, rfl, h⟩
theorem Jr.take {b n : Nat} {T M : Mh} (j : Jr b T M) : Jr b (T.take n) (M.take (n + 1)) := by
  obtain ⟨d, s, n, rfl, h⟩ := j
  exact ⟨d, s, n, rfl, h⟩
theorem Jr.noH {b n : Nat} {T M : Mh} (j : Jr b T M) (h : T.all (noHO n) = true) : M.all (noHO n) = true := by
  obtain ⟨d, s, m, rfl, _⟩ := j
  rw [List.all_cons, h]
  rfl
def m_one : Def := ⟨2, 2, false,
  (zRet (sIdx (sVar 1) (sCall "_law_take" (aCons (sVar 0) (aCons (sLen (sVar 1)) aNil)))))⟩
theorem atI_nat {xs : List D} {i : Int} (h : 0 ≤ i ∧ i < xs.length) : ∃ d, atI xs i = some d ∧ xs[i.toNat]? = some d := by
  have hl : i.toNat < xs.length := by omega
  refine ⟨xs[i.toNat], ?_, List.getElem?_eq_getElem hl⟩
  unfold atI ixN
  rw [if_pos h.1, if_pos h.2]
  exact List.getElem?_eq_getElem hl
theorem atI_at {xs : List D} {i : Nat} {d : D} (h : xs[i]? = some d) : atI xs (i : Int) = some d := by
  have hl := (List.getElem?_eq_some_iff.mp h).1
  unfold atI ixN
  rw [if_pos (by omega), if_pos (by omega)]
  exact h
theorem r_one (hP : P "_law_take" = some m_take) (hP1 : P "_law_one" = some m_one) {k b : Nat} {T M : Mh} {xs : List D} (j : Jr b T M) (hm : 0 < xs.length ∧ xs.length < 2 ^ 60) (hb : b < 2 ^ 60) : wpR (callAt P (k + 2) "_law_one" [.h 0, .lst xs] M) fun d M' => d ∈ xs ∧ Jr (b + 1) T M' := by
  refine wp_run0 hP1 rfl rfl ?_
  dsimp only [m_one, List.map, List.append, List.map_cons, List.map_nil, List.length_cons, List.length_nil, List.replicate, List.cons_append, List.nil_append, Nat.reduceSub, Nat.reduceAdd]
  (repeat (first | (with_reducible first | refine z_Seq ?_ | refine z_SetN ?_ | refine z_Set ?_ | refine z_Ret ?_ | refine z_If ?_ | refine z_Expr ?_ | refine z_Next ?_ | refine z_Par ?_ | refine z_SetIx ?_ | refine w_C ?_ | refine w_Bop ?_ | refine w_BopT ?_ | refine w_Cmp ?_ | refine w_Chain ?_ | refine w_Is ?_ | refine w_Neg ?_ | refine w_Not ?_ | refine w_And ?_ | refine w_Or ?_ | refine w_Ite ?_ | refine w_Tup ?_ | refine w_Lst ?_ | refine w_LstT ?_ | refine w_Idx ?_ | refine w_SlcNN ?_ | refine w_SlcNS ?_ | refine w_SlcSN ?_ | refine w_Rev ?_ | refine w_Isi ?_ | refine w_Len ?_ | refine w_Int ?_ | refine w_Bool ?_ | refine w_Max ?_ | refine w_All ?_ | refine w_List ?_ | refine w_ListT ?_ | refine w_Tuple ?_ | refine w_Join ?_ | refine w_Split ?_ | refine w_Call ?_ | refine w_DictOf ?_ | refine w_Dict0 ?_ | refine w_Dict1 ?_ | refine w_Append ?_ | refine w_Extend ?_ | refine w_PopAt ?_ | refine w_Nil ?_ | refine w_Cons ?_ | refine v_Val ?_ | refine v_And ?_ | refine v_Or ?_ | refine v_Cmp ?_ | refine v_Chain ?_ | refine v_Is ?_ | refine v_Not ?_ | refine v_Yes ?_) | ((with_reducible apply w_Var); (focus (exact rfl)))))
  (refine wO_some rfl ?_); (repeat (first | (with_reducible first | refine z_Seq ?_ | refine z_SetN ?_ | refine z_Set ?_ | refine z_Ret ?_ | refine z_If ?_ | refine z_Expr ?_ | refine z_Next ?_ | refine z_Par ?_ | refine z_SetIx ?_ | refine w_C ?_ | refine w_Bop ?_ | refine w_BopT ?_ | refine w_Cmp ?_ | refine w_Chain ?_ | refine w_Is ?_ | refine w_Neg ?_ | refine w_Not ?_ | refine w_And ?_ | refine w_Or ?_ | refine w_Ite ?_ | refine w_Tup ?_ | refine w_Lst ?_ | refine w_LstT ?_ | refine w_Idx ?_ | refine w_SlcNN ?_ | refine w_SlcNS ?_ | refine w_SlcSN ?_ | refine w_Rev ?_ | refine w_Isi ?_ | refine w_Len ?_ | refine w_Int ?_ | refine w_Bool ?_ | refine w_Max ?_ | refine w_All ?_ | refine w_List ?_ | refine w_ListT ?_ | refine w_Tuple ?_ | refine w_Join ?_ | refine w_Split ?_ | refine w_Call ?_ | refine w_DictOf ?_ | refine w_Dict0 ?_ | refine w_Dict1 ?_ | refine w_Append ?_ | refine w_Extend ?_ | refine w_PopAt ?_ | refine w_Nil ?_ | refine w_Cons ?_ | refine v_Val ?_ | refine v_And ?_ | refine v_Or ?_ | refine v_Cmp ?_ | refine v_Chain ?_ | refine v_Is ?_ | refine v_Not ?_ | refine v_Yes ?_) | ((with_reducible apply w_Var); (focus (exact rfl)))))
  rw [cfl_call]
  refine wpR_imp (r_take hP j (m := xs.length) (by omega) hb) ?_
  rintro _ M' ⟨i, rfl, hi, j'⟩
  obtain ⟨d, e1, e2⟩ := atI_nat hi
  refine wO_some (a := d) e1 ⟨by rw [j'.len, j.len], List.mem_of_getElem? e2, j'⟩

theorem r_oneS (hP : P "_law_take" = some m_take) (hP1 : P "_law_one" = some m_one) {k b : Nat} {T M : Mh} {s : Str} (j : Jr b T M) (hm : 0 < s.length ∧ s.length ≤ line) (hb : b < 2 ^ 60) : wpR (callAt P (k + 2) "_law_one" [.h 0, .str s] M) fun d M' => d ∈ signs s ∧ Jr (b + 1) T M' := by
  refine wp_run0 hP1 rfl rfl ?_
  have hl : s.length ≤ 16777216 := hm.2
  dsimp only [m_one, List.map, List.append, List.map_cons, List.map_nil, List.length_cons, List.length_nil, List.replicate, List.cons_append, List.nil_append, Nat.reduceSub, Nat.reduceAdd]
  (repeat (first | (with_reducible first | refine z_Seq ?_ | refine z_SetN ?_ | refine z_Set ?_ | refine z_Ret ?_ | refine z_If ?_ | refine z_Expr ?_ | refine z_Next ?_ | refine z_Par ?_ | refine z_SetIx ?_ | refine w_C ?_ | refine w_Bop ?_ | refine w_BopT ?_ | refine w_Cmp ?_ | refine w_Chain ?_ | refine w_Is ?_ | refine w_Neg ?_ | refine w_Not ?_ | refine w_And ?_ | refine w_Or ?_ | refine w_Ite ?_ | refine w_Tup ?_ | refine w_Lst ?_ | refine w_LstT ?_ | refine w_Idx ?_ | refine w_SlcNN ?_ | refine w_SlcNS ?_ | refine w_SlcSN ?_ | refine w_Rev ?_ | refine w_Isi ?_ | refine w_Len ?_ | refine w_Int ?_ | refine w_Bool ?_ | refine w_Max ?_ | refine w_All ?_ | refine w_List ?_ | refine w_ListT ?_ | refine w_Tuple ?_ | refine w_Join ?_ | refine w_Split ?_ | refine w_Call ?_ | refine w_DictOf ?_ | refine w_Dict0 ?_ | refine w_Dict1 ?_ | refine w_Append ?_ | refine w_Extend ?_ | refine w_PopAt ?_ | refine w_Nil ?_ | refine w_Cons ?_ | refine v_Val ?_ | refine v_And ?_ | refine v_Or ?_ | refine v_Cmp ?_ | refine v_Chain ?_ | refine v_Is ?_ | refine v_Not ?_ | refine v_Yes ?_) | ((with_reducible apply w_Var); (focus (exact rfl)))))
  refine wO_some (a := s.length) (if_pos hm.2) ?_; (repeat (first | (with_reducible first | refine z_Seq ?_ | refine z_SetN ?_ | refine z_Set ?_ | refine z_Ret ?_ | refine z_If ?_ | refine z_Expr ?_ | refine z_Next ?_ | refine z_Par ?_ | refine z_SetIx ?_ | refine w_C ?_ | refine w_Bop ?_ | refine w_BopT ?_ | refine w_Cmp ?_ | refine w_Chain ?_ | refine w_Is ?_ | refine w_Neg ?_ | refine w_Not ?_ | refine w_And ?_ | refine w_Or ?_ | refine w_Ite ?_ | refine w_Tup ?_ | refine w_Lst ?_ | refine w_LstT ?_ | refine w_Idx ?_ | refine w_SlcNN ?_ | refine w_SlcNS ?_ | refine w_SlcSN ?_ | refine w_Rev ?_ | refine w_Isi ?_ | refine w_Len ?_ | refine w_Int ?_ | refine w_Bool ?_ | refine w_Max ?_ | refine w_All ?_ | refine w_List ?_ | refine w_ListT ?_ | refine w_Tuple ?_ | refine w_Join ?_ | refine w_Split ?_ | refine w_Call ?_ | refine w_DictOf ?_ | refine w_Dict0 ?_ | refine w_Dict1 ?_ | refine w_Append ?_ | refine w_Extend ?_ | refine w_PopAt ?_ | refine w_Nil ?_ | refine w_Cons ?_ | refine v_Val ?_ | refine v_And ?_ | refine v_Or ?_ | refine v_Cmp ?_ | refine v_Chain ?_ | refine v_Is ?_ | refine v_Not ?_ | refine v_Yes ?_) | ((with_reducible apply w_Var); (focus (exact rfl)))))
  rw [cfl_call]
  refine wpR_imp (r_take hP j (m := s.length) (by omega) hb) ?_
  rintro _ M' ⟨i, rfl, hi, j'⟩
  have hz : s.cps.toList.length = s.length := rfl
  have hi' : i.toNat < s.cps.toList.length := by omega
  have e : atI s.cps.toList i = some s.cps.toList[i.toNat] := by
    unfold atI ixN
    rw [if_pos hi.1, if_pos (by omega)]
    exact List.getElem?_eq_getElem hi'
  refine wO_some (a := .str ⟨#[s.cps.toList[i.toNat]]⟩) ?_ ⟨by rw [j'.len, j.len], List.mem_map.mpr ⟨_, List.getElem_mem hi', rfl⟩, j'⟩
  show (if s.length ≤ line then (atI s.cps.toList i).map _ else none) = _
  rw [if_pos hm.2, e]
  rfl
theorem getL_app {T : Mh} {xs : List D} {S : Mh} {n : Nat} (h : T.length = n) : getL (T ++ .lst xs :: S) n = some xs := by
  subst h
  unfold getL
  rw [List.getElem?_append_right (Nat.le_refl _), Nat.sub_self]
  rfl
theorem set_app {T S : Mh} {x y : O} {n : Nat} (h : T.length = n) : (T ++ x :: S).set n y = T ++ y :: S := by
  subst h
  rw [List.set_append_right _ _ (Nat.le_refl _), Nat.sub_self]
  rfl
theorem noH_mono {n m : Nat} (h : n ≤ m) : (∀ d, noH n d = true → noH m d = true) ∧ ∀ ds, noHs n ds = true → noHs m ds = true := by
  suffices H : ∀ d, noH n d = true → noH m d = true from ⟨H, fun ds => by
    induction ds with
    | nil => exact fun _ => rfl
    | cons d ds ih =>
      intro e
      have e : (noH n d && noHs n ds) = true := e
      rw [Bool.and_eq_true] at e
      show (noH m d && noHs m ds) = true
      rw [H d e.1, ih e.2]
      rfl⟩
  intro d
  refine D.rec (motive_1 := fun d => noH n d = true → noH m d = true) (motive_2 := fun ds => noHs n ds = true → noHs m ds = true) ?_ ?_ ?_ ?_ ?_ ?_ ?_ ?_ ?_ ?_ ?_ d
  · exact fun _ => rfl
  · exact fun _ _ => rfl
  · exact fun _ _ => rfl
  · exact fun _ _ => rfl
  · exact fun _ ih e => ih e
  · exact fun _ ih e => ih e
  · exact fun _ _ ih e => ih e
  · exact fun _ ih e => ih e
  · intro k e
    have : k < n := of_decide_eq_true e
    exact decide_eq_true (by omega)
  · exact fun _ => rfl
  · intro d ds h1 h2 e
    have e : (noH n d && noHs n ds) = true := e
    rw [Bool.and_eq_true] at e
    show (noH m d && noHs m ds) = true
    rw [h1 e.1, h2 e.2]
    rfl
theorem noHO_mono {n m : Nat} (h : n ≤ m) {T : Mh} (e : T.all (noHO n) = true) : T.all (noHO m) = true := by
  rw [List.all_eq_true] at e ⊢
  intro o ho
  have := e o ho
  cases o with
  | lst xs => exact (noH_mono h).2 _ this
  | dead => rfl
theorem noHs_iff {n : Nat} {ds : List D} : noHs n ds = true ↔ ∀ d ∈ ds, noH n d = true := by
  induction ds with
  | nil => exact ⟨fun _ _ h => (List.not_mem_nil h).elim, fun _ => rfl⟩
  | cons d ds ih =>
    show (noH n d && noHs n ds) = true ↔ _
    rw [Bool.and_eq_true, ih]
    simp
/-- all in a drawn order -/
def m_mixed : Def := ⟨5, 2, false,
  (zSeq (zPar 3 4 (aCons (sList true (sVar 1)) (aCons (sLst true aNil) aNil)))
  (zSeq (zFor (iRange (sLen (sVar 1))) (.nm 2)
  (zExpr (sAppend (sVar 4) (sPopAt (sVar 3) (sCall "_law_take" (aCons (sVar 0) (aCons (sLen (sVar 3)) aNil)))))))
  (zRet (sVar 4))))⟩
theorem r_mixed (hP : P "_law_take" = some m_take) (hP1 : P "_law_mixed" = some m_mixed) {k b : Nat} {T M : Mh} {xs : List D} (j : Jr b T M) (hl : xs.length ≤ 1000) (hx : noHs 0 xs = true) (hT : T.all (noHO 0) = true) (hb : b < 2 ^ 50) :
    wpR (callAt P (k + 2) "_law_mixed" [.h 0, .lst xs] M) fun d M' => ∃ ys, d = .lst ys ∧ ys.Perm xs ∧ Jr (b + xs.length) T M' := by
  refine wp_run hP1 rfl rfl ?_
  dsimp only [m_mixed, List.map, List.append, List.map_cons, List.map_nil, List.length_cons, List.length_nil, List.replicate, List.cons_append, List.nil_append, Nat.reduceSub, Nat.reduceAdd]
  (repeat (first | (with_reducible first | refine z_Seq ?_ | refine z_SetN ?_ | refine z_Set ?_ | refine z_Ret ?_ | refine z_If ?_ | refine z_Expr ?_ | refine z_Next ?_ | refine z_Par ?_ | refine z_SetIx ?_ | refine w_C ?_ | refine w_Bop ?_ | refine w_BopT ?_ | refine w_Cmp ?_ | refine w_Chain ?_ | refine w_Is ?_ | refine w_Neg ?_ | refine w_Not ?_ | refine w_And ?_ | refine w_Or ?_ | refine w_Ite ?_ | refine w_Tup ?_ | refine w_Lst ?_ | refine w_LstT ?_ | refine w_Idx ?_ | refine w_SlcNN ?_ | refine w_SlcNS ?_ | refine w_SlcSN ?_ | refine w_Rev ?_ | refine w_Isi ?_ | refine w_Len ?_ | refine w_Int ?_ | refine w_Bool ?_ | refine w_Max ?_ | refine w_All ?_ | refine w_List ?_ | refine w_ListT ?_ | refine w_Tuple ?_ | refine w_Join ?_ | refine w_Split ?_ | refine w_Call ?_ | refine w_DictOf ?_ | refine w_Dict0 ?_ | refine w_Dict1 ?_ | refine w_Append ?_ | refine w_Extend ?_ | refine w_PopAt ?_ | refine w_Nil ?_ | refine w_Cons ?_ | refine v_Val ?_ | refine v_And ?_ | refine v_Or ?_ | refine v_Cmp ?_ | refine v_Chain ?_ | refine v_Is ?_ | refine v_Not ?_ | refine v_Yes ?_) | ((with_reducible apply w_Var); (focus (exact rfl)))))
  (refine wO_some rfl ?_); (repeat (first | (with_reducible first | refine z_Seq ?_ | refine z_SetN ?_ | refine z_Set ?_ | refine z_Ret ?_ | refine z_If ?_ | refine z_Expr ?_ | refine z_Next ?_ | refine z_Par ?_ | refine z_SetIx ?_ | refine w_C ?_ | refine w_Bop ?_ | refine w_BopT ?_ | refine w_Cmp ?_ | refine w_Chain ?_ | refine w_Is ?_ | refine w_Neg ?_ | refine w_Not ?_ | refine w_And ?_ | refine w_Or ?_ | refine w_Ite ?_ | refine w_Tup ?_ | refine w_Lst ?_ | refine w_LstT ?_ | refine w_Idx ?_ | refine w_SlcNN ?_ | refine w_SlcNS ?_ | refine w_SlcSN ?_ | refine w_Rev ?_ | refine w_Isi ?_ | refine w_Len ?_ | refine w_Int ?_ | refine w_Bool ?_ | refine w_Max ?_ | refine w_All ?_ | refine w_List ?_ | refine w_ListT ?_ | refine w_Tuple ?_ | refine w_Join ?_ | refine w_Split ?_ | refine w_Call ?_ | refine w_DictOf ?_ | refine w_Dict0 ?_ | refine w_Dict1 ?_ | refine w_Append ?_ | refine w_Extend ?_ | refine w_PopAt ?_ | refine w_Nil ?_ | refine w_Cons ?_ | refine v_Val ?_ | refine v_And ?_ | refine v_Or ?_ | refine v_Cmp ?_ | refine v_Chain ?_ | refine v_Is ?_ | refine v_Not ?_ | refine v_Yes ?_) | ((with_reducible apply w_Var); (focus (exact rfl)))))
  refine ⟨by decide, ?_⟩
  (repeat (first | (with_reducible first | refine z_Seq ?_ | refine z_SetN ?_ | refine z_Set ?_ | refine z_Ret ?_ | refine z_If ?_ | refine z_Expr ?_ | refine z_Next ?_ | refine z_Par ?_ | refine z_SetIx ?_ | refine w_C ?_ | refine w_Bop ?_ | refine w_BopT ?_ | refine w_Cmp ?_ | refine w_Chain ?_ | refine w_Is ?_ | refine w_Neg ?_ | refine w_Not ?_ | refine w_And ?_ | refine w_Or ?_ | refine w_Ite ?_ | refine w_Tup ?_ | refine w_Lst ?_ | refine w_LstT ?_ | refine w_Idx ?_ | refine w_SlcNN ?_ | refine w_SlcNS ?_ | refine w_SlcSN ?_ | refine w_Rev ?_ | refine w_Isi ?_ | refine w_Len ?_ | refine w_Int ?_ | refine w_Bool ?_ | refine w_Max ?_ | refine w_All ?_ | refine w_List ?_ | refine w_ListT ?_ | refine w_Tuple ?_ | refine w_Join ?_ | refine w_Split ?_ | refine w_Call ?_ | refine w_DictOf ?_ | refine w_Dict0 ?_ | refine w_Dict1 ?_ | refine w_Append ?_ | refine w_Extend ?_ | refine w_PopAt ?_ | refine w_Nil ?_ | refine w_Cons ?_ | refine v_Val ?_ | refine v_And ?_ | refine v_Or ?_ | refine v_Cmp ?_ | refine v_Chain ?_ | refine v_Is ?_ | refine v_Not ?_ | refine v_Yes ?_) | ((with_reducible apply w_Var); (focus (exact rfl)))))
  refine ⟨_, _, rfl, ?_⟩
  refine z_Seq ?_
  refine z_ForF (i_Range ?_)
  (repeat (first | (with_reducible first | refine z_Seq ?_ | refine z_SetN ?_ | refine z_Set ?_ | refine z_Ret ?_ | refine z_If ?_ | refine z_Expr ?_ | refine z_Next ?_ | refine z_Par ?_ | refine z_SetIx ?_ | refine w_C ?_ | refine w_Bop ?_ | refine w_BopT ?_ | refine w_Cmp ?_ | refine w_Chain ?_ | refine w_Is ?_ | refine w_Neg ?_ | refine w_Not ?_ | refine w_And ?_ | refine w_Or ?_ | refine w_Ite ?_ | refine w_Tup ?_ | refine w_Lst ?_ | refine w_LstT ?_ | refine w_Idx ?_ | refine w_SlcNN ?_ | refine w_SlcNS ?_ | refine w_SlcSN ?_ | refine w_Rev ?_ | refine w_Isi ?_ | refine w_Len ?_ | refine w_Int ?_ | refine w_Bool ?_ | refine w_Max ?_ | refine w_All ?_ | refine w_List ?_ | refine w_ListT ?_ | refine w_Tuple ?_ | refine w_Join ?_ | refine w_Split ?_ | refine w_Call ?_ | refine w_DictOf ?_ | refine w_Dict0 ?_ | refine w_Dict1 ?_ | refine w_Append ?_ | refine w_Extend ?_ | refine w_PopAt ?_ | refine w_Nil ?_ | refine w_Cons ?_ | refine v_Val ?_ | refine v_And ?_ | refine v_Or ?_ | refine v_Cmp ?_ | refine v_Chain ?_ | refine v_Is ?_ | refine v_Not ?_ | refine v_Yes ?_) | ((with_reducible apply w_Var); (focus (exact rfl)))))
  refine wO_some rfl ⟨xs.length, rfl, by omega, ?_⟩
  refine ⟨_, fun i ρ M1 => (∃ o, ρ = [some (.h 0), some (.lst xs), o, some (.h (T.length + 1)), some (.h (T.length + 2))]) ∧ ∃ sp fd, Jr (b + i) (T ++ [.lst sp, .lst fd]) M1 ∧ (fd ++ sp).Perm xs ∧ sp.length + i = xs.length, rfl, ?_, ?_, ?_⟩
  · refine ⟨⟨none, by rw [List.length_append, j.len]; rfl⟩, xs, [], ?_, by simp, by simp⟩
    have := j.app [.lst xs, .lst []]
    simpa using this
  · rintro i d ρ M1 hd ⟨⟨o, rfl⟩, sp, fd, j1, pm, hsp⟩
    obtain ⟨hi, rfl⟩ := nums_get hd
    refine wO_some rfl ?_
    (repeat (first | (with_reducible first | refine z_Seq ?_ | refine z_SetN ?_ | refine z_Set ?_ | refine z_Ret ?_ | refine z_If ?_ | refine z_Expr ?_ | refine z_Next ?_ | refine z_Par ?_ | refine z_SetIx ?_ | refine w_C ?_ | refine w_Bop ?_ | refine w_BopT ?_ | refine w_Cmp ?_ | refine w_Chain ?_ | refine w_Is ?_ | refine w_Neg ?_ | refine w_Not ?_ | refine w_And ?_ | refine w_Or ?_ | refine w_Ite ?_ | refine w_Tup ?_ | refine w_Lst ?_ | refine w_LstT ?_ | refine w_Idx ?_ | refine w_SlcNN ?_ | refine w_SlcNS ?_ | refine w_SlcSN ?_ | refine w_Rev ?_ | refine w_Isi ?_ | refine w_Len ?_ | refine w_Int ?_ | refine w_Bool ?_ | refine w_Max ?_ | refine w_All ?_ | refine w_List ?_ | refine w_ListT ?_ | refine w_Tuple ?_ | refine w_Join ?_ | refine w_Split ?_ | refine w_Call ?_ | refine w_DictOf ?_ | refine w_Dict0 ?_ | refine w_Dict1 ?_ | refine w_Append ?_ | refine w_Extend ?_ | refine w_PopAt ?_ | refine w_Nil ?_ | refine w_Cons ?_ | refine v_Val ?_ | refine v_And ?_ | refine v_Or ?_ | refine v_Cmp ?_ | refine v_Chain ?_ | refine v_Is ?_ | refine v_Not ?_ | refine v_Yes ?_) | ((with_reducible apply w_Var); (focus (exact rfl)))))
    refine ⟨_, fd, rfl, ?_, ?_⟩
    · rw [show T.length + 2 = (T.length + 1) + 1 from rfl, j1.getL, show T ++ [O.lst sp, O.lst fd] = (T ++ [O.lst sp]) ++ O.lst fd :: [] by simp]
      exact getL_app (by simp)
    have g1 : getL M1 (T.length + 1) = some sp := by
      rw [j1.getL]
      exact getL_app rfl
    have v1 : view M1 (.h (T.length + 1)) = .lst sp := by
      have : M1[T.length + 1]? = some (O.lst sp) := by
        rw [j1.get]
        simp
      show (match M1[T.length + 1]? with | some (O.lst xs) => D.lst xs | _ => _) = _
      rw [this]
    (repeat (first | (with_reducible first | refine z_Seq ?_ | refine z_SetN ?_ | refine z_Set ?_ | refine z_Ret ?_ | refine z_If ?_ | refine z_Expr ?_ | refine z_Next ?_ | refine z_Par ?_ | refine z_SetIx ?_ | refine w_C ?_ | refine w_Bop ?_ | refine w_BopT ?_ | refine w_Cmp ?_ | refine w_Chain ?_ | refine w_Is ?_ | refine w_Neg ?_ | refine w_Not ?_ | refine w_And ?_ | refine w_Or ?_ | refine w_Ite ?_ | refine w_Tup ?_ | refine w_Lst ?_ | refine w_LstT ?_ | refine w_Idx ?_ | refine w_SlcNN ?_ | refine w_SlcNS ?_ | refine w_SlcSN ?_ | refine w_Rev ?_ | refine w_Isi ?_ | refine w_Len ?_ | refine w_Int ?_ | refine w_Bool ?_ | refine w_Max ?_ | refine w_All ?_ | refine w_List ?_ | refine w_ListT ?_ | refine w_Tuple ?_ | refine w_Join ?_ | refine w_Split ?_ | refine w_Call ?_ | refine w_DictOf ?_ | refine w_Dict0 ?_ | refine w_Dict1 ?_ | refine w_Append ?_ | refine w_Extend ?_ | refine w_PopAt ?_ | refine w_Nil ?_ | refine w_Cons ?_ | refine v_Val ?_ | refine v_And ?_ | refine v_Or ?_ | refine v_Cmp ?_ | refine v_Chain ?_ | refine v_Is ?_ | refine v_Not ?_ | refine v_Yes ?_) | ((with_reducible apply w_Var); (focus (exact rfl)))))
    refine ⟨_, sp, rfl, g1, ?_⟩
    (repeat (first | (with_reducible first | refine z_Seq ?_ | refine z_SetN ?_ | refine z_Set ?_ | refine z_Ret ?_ | refine z_If ?_ | refine z_Expr ?_ | refine z_Next ?_ | refine z_Par ?_ | refine z_SetIx ?_ | refine w_C ?_ | refine w_Bop ?_ | refine w_BopT ?_ | refine w_Cmp ?_ | refine w_Chain ?_ | refine w_Is ?_ | refine w_Neg ?_ | refine w_Not ?_ | refine w_And ?_ | refine w_Or ?_ | refine w_Ite ?_ | refine w_Tup ?_ | refine w_Lst ?_ | refine w_LstT ?_ | refine w_Idx ?_ | refine w_SlcNN ?_ | refine w_SlcNS ?_ | refine w_SlcSN ?_ | refine w_Rev ?_ | refine w_Isi ?_ | refine w_Len ?_ | refine w_Int ?_ | refine w_Bool ?_ | refine w_Max ?_ | refine w_All ?_ | refine w_List ?_ | refine w_ListT ?_ | refine w_Tuple ?_ | refine w_Join ?_ | refine w_Split ?_ | refine w_Call ?_ | refine w_DictOf ?_ | refine w_Dict0 ?_ | refine w_Dict1 ?_ | refine w_Append ?_ | refine w_Extend ?_ | refine w_PopAt ?_ | refine w_Nil ?_ | refine w_Cons ?_ | refine v_Val ?_ | refine v_And ?_ | refine v_Or ?_ | refine v_Cmp ?_ | refine v_Chain ?_ | refine v_Is ?_ | refine v_Not ?_ | refine v_Yes ?_) | ((with_reducible apply w_Var); (focus (exact rfl)))))
    refine wO_some (a := sp.length) (by rw [v1]; rfl) ?_
    (repeat (first | (with_reducible first | refine z_Seq ?_ | refine z_SetN ?_ | refine z_Set ?_ | refine z_Ret ?_ | refine z_If ?_ | refine z_Expr ?_ | refine z_Next ?_ | refine z_Par ?_ | refine z_SetIx ?_ | refine w_C ?_ | refine w_Bop ?_ | refine w_BopT ?_ | refine w_Cmp ?_ | refine w_Chain ?_ | refine w_Is ?_ | refine w_Neg ?_ | refine w_Not ?_ | refine w_And ?_ | refine w_Or ?_ | refine w_Ite ?_ | refine w_Tup ?_ | refine w_Lst ?_ | refine w_LstT ?_ | refine w_Idx ?_ | refine w_SlcNN ?_ | refine w_SlcNS ?_ | refine w_SlcSN ?_ | refine w_Rev ?_ | refine w_Isi ?_ | refine w_Len ?_ | refine w_Int ?_ | refine w_Bool ?_ | refine w_Max ?_ | refine w_All ?_ | refine w_List ?_ | refine w_ListT ?_ | refine w_Tuple ?_ | refine w_Join ?_ | refine w_Split ?_ | refine w_Call ?_ | refine w_DictOf ?_ | refine w_Dict0 ?_ | refine w_Dict1 ?_ | refine w_Append ?_ | refine w_Extend ?_ | refine w_PopAt ?_ | refine w_Nil ?_ | refine w_Cons ?_ | refine v_Val ?_ | refine v_And ?_ | refine v_Or ?_ | refine v_Cmp ?_ | refine v_Chain ?_ | refine v_Is ?_ | refine v_Not ?_ | refine v_Yes ?_) | ((with_reducible apply w_Var); (focus (exact rfl)))))
    rw [cfl_call]
    refine wpR_imp (r_take hP j1 (m := sp.length) (by omega) (by omega)) ?_
    rintro _ M2 ⟨n, rfl, hn, j2⟩
    obtain ⟨z, z1, z2⟩ := atI_nat hn
    refine ⟨sp, n, z, by rw [j2.getL]; exact getL_app rfl, rfl, by omega, z2, ?_⟩
    have j3 := j2.set T.length (.lst (sp.eraseIdx n.toNat))
    rw [set_app rfl] at j3
    refine ⟨fd, ?_, ?_, ?_⟩
    · rw [show T.length + 2 = (T.length + 1) + 1 from rfl, j3.getL, show T ++ [O.lst (sp.eraseIdx n.toNat), O.lst fd] = (T ++ [O.lst (sp.eraseIdx n.toNat)]) ++ O.lst fd :: [] by simp]
      exact getL_app (by simp)
    · have := pm.length_eq
      simp only [List.length_append] at this
      show fd.length < 16777216
      omega
    refine ⟨⟨_, rfl⟩, sp.eraseIdx n.toNat, fd ++ [z], ?_, ?_, ?_⟩
    · have j4 := j3.set (T.length + 1) (.lst (fd ++ [z]))
      rw [show T ++ [O.lst (sp.eraseIdx n.toNat), O.lst fd] = (T ++ [O.lst (sp.eraseIdx n.toNat)]) ++ O.lst fd :: [] by simp, set_app (by simp)] at j4
      simpa [Nat.add_assoc] using j4
    · have hz : n.toNat < sp.length := by omega
      have ez : sp[n.toNat] = z := by
        rw [List.getElem?_eq_getElem hz] at z2
        exact Option.some.inj z2
      have p1 : (z :: sp.eraseIdx n.toNat).Perm sp := by
        rw [← ez, List.eraseIdx_eq_take_drop_succ]
        have e1 : sp = sp.take n.toNat ++ sp[n.toNat] :: sp.drop (n.toNat + 1) := by rw [← List.drop_eq_getElem_cons hz, List.take_append_drop]
        have p := List.perm_middle (a := sp[n.toNat]) (l₁ := sp.take n.toNat) (l₂ := sp.drop (n.toNat + 1))
        rw [← e1] at p
        exact p.symm
      have p2 : (fd ++ [z] ++ sp.eraseIdx n.toNat).Perm (fd ++ sp) := by
        rw [List.append_assoc]
        exact p1.append_left fd
      exact p2.trans pm
    · rw [List.length_eraseIdx_of_lt (by omega)]
      omega
  · rintro ρ M1 ⟨⟨o, rfl⟩, sp, fd, j1, pm, hsp⟩
    have hz : sp = [] := by
      have : (nums xs.length).length = xs.length := nums_len
      exact List.eq_nil_of_length_eq_zero (by omega)
    subst hz
    (repeat (first | (with_reducible first | refine z_Seq ?_ | refine z_SetN ?_ | refine z_Set ?_ | refine z_Ret ?_ | refine z_If ?_ | refine z_Expr ?_ | refine z_Next ?_ | refine z_Par ?_ | refine z_SetIx ?_ | refine w_C ?_ | refine w_Bop ?_ | refine w_BopT ?_ | refine w_Cmp ?_ | refine w_Chain ?_ | refine w_Is ?_ | refine w_Neg ?_ | refine w_Not ?_ | refine w_And ?_ | refine w_Or ?_ | refine w_Ite ?_ | refine w_Tup ?_ | refine w_Lst ?_ | refine w_LstT ?_ | refine w_Idx ?_ | refine w_SlcNN ?_ | refine w_SlcNS ?_ | refine w_SlcSN ?_ | refine w_Rev ?_ | refine w_Isi ?_ | refine w_Len ?_ | refine w_Int ?_ | refine w_Bool ?_ | refine w_Max ?_ | refine w_All ?_ | refine w_List ?_ | refine w_ListT ?_ | refine w_Tuple ?_ | refine w_Join ?_ | refine w_Split ?_ | refine w_Call ?_ | refine w_DictOf ?_ | refine w_Dict0 ?_ | refine w_Dict1 ?_ | refine w_Append ?_ | refine w_Extend ?_ | refine w_PopAt ?_ | refine w_Nil ?_ | refine w_Cons ?_ | refine v_Val ?_ | refine v_And ?_ | refine v_Or ?_ | refine v_Cmp ?_ | refine v_Chain ?_ | refine v_Is ?_ | refine v_Not ?_ | refine v_Yes ?_) | ((with_reducible apply w_Var); (focus (exact rfl)))))
    refine ⟨by rw [j.len, j1.len]; simp, .inr (.inr ⟨_, fd, rfl, by rw [j.len]; omega, ?_, ?_, ?_, fd, rfl, by simpa using pm, ?_⟩)⟩
    · rw [show T.length + 2 = (T.length + 1) + 1 from rfl, j1.get, show T ++ [O.lst [], O.lst fd] = (T ++ [O.lst []]) ++ O.lst fd :: [] by simp, List.getElem?_append_right (by simp)]
      simp
    · rw [noHs_iff] at hx ⊢
      exact fun d hd => (noH_mono (Nat.zero_le _)).1 _ (hx d (pm.subset (by simp [hd])))
    · have := j1.take (n := T.length)
      rw [List.take_left] at this
      rw [j.len]
      exact this.noH (noHO_mono (Nat.zero_le _) hT)
    · have := j1.take (n := T.length)
      rw [List.take_left, nums_len] at this
      rw [j.len]
      exact this
end
end MP

set_option Elab.async false
set_option linter.all false
set_option maxRecDepth 100000
set_option maxHeartbeats 4000000
/-! MiniPy, the mathematics 3: the pool, what may stand in things, equal things. -/
namespace MP
open PySem PySem.Spec PyProof.Rows L2
def m_pool : Def := ⟨5, 1, true,
  (zSeq (zSet (.tup [(.nm 2), (.nm 3)]) (sTup (aCons (sC (.int 0)) (aCons (sC (.int 7)) aNil))))
  (zSeq (zFor (iRange (sLen (sVar 0))) (.nm 1)
  (zSeq (zSet (.nm 4) (sMax (sInt (sIdx (sVar 0) (sVar 1))) (sInt (sBop .sub false (sNeg (sC (.int 1))) (sIdx (sVar 0) (sVar 1))))))
  (zSeq (zSet (.nm 3) (sBop .mod false (sInt (sBop .add false (sBop .add false (sBop .mul false (sVar 3) (sC (.int 48271))) (sBop .mod false (sVar 4) (sC (.int 2147483629)))) (sC (.int 11)))) (sC (.int 2147483647))))
  (zSet (.nm 2) (sIte (tAnd (tCmp .ge (sVar 4) (sBop .pow false (sC (.int 10)) (sC (.int 12)))) (tCmp .lt (sVar 2) (sBop .pow false (sC (.int 10)) (sC (.int 60))))) (sInt (sBop .add false (sBop .mul false (sVar 2) (sBop .pow false (sC (.int 10)) (sC (.int 60)))) (sBop .mod false (sVar 4) (sBop .pow false (sC (.int 10)) (sC (.int 60)))))) (sVar 2))))))
  (zRet (sLst true (aCons (sVar 2) (aCons (sVar 3) (aCons (sC (.int 0)) aNil)))))))⟩
theorem pow60 : bop .pow (.int 10) (.int 60) = some (.int (10 ^ 60)) := by kernel_rfl
theorem pow12 : bop .pow (.int 10) (.int 12) = some (.int (10 ^ 12)) := by kernel_rfl
section
variable {P : Prog}
theorem r_pool (hP : P "_law_pool" = some m_pool) {k : Nat} {ns : List Int} (hl : ns.length ≤ 63) : wpR (callAt P (k + 1) "_law_pool" [.kls (ns.map D.int)] []) fun d M' => d = .h 0 ∧ Jr 0 [] M' := by
  refine wp_runK hP rfl rfl ?_
  dsimp only [m_pool, List.map, List.append, List.map_cons, List.map_nil, List.length_cons, List.length_nil, List.replicate, List.cons_append, List.nil_append, Nat.reduceSub, Nat.reduceAdd]
  (repeat (first | (with_reducible first | refine z_Seq ?_ | refine z_SetN ?_ | refine z_Set ?_ | refine z_Ret ?_ | refine z_If ?_ | refine z_Expr ?_ | refine z_Next ?_ | refine z_Par ?_ | refine z_SetIx ?_ | refine w_C ?_ | refine w_Bop ?_ | refine w_BopT ?_ | refine w_Cmp ?_ | refine w_Chain ?_ | refine w_Is ?_ | refine w_Neg ?_ | refine w_Not ?_ | refine w_And ?_ | refine w_Or ?_ | refine w_Ite ?_ | refine w_Tup ?_ | refine w_Lst ?_ | refine w_LstT ?_ | refine w_Idx ?_ | refine w_SlcNN ?_ | refine w_SlcNS ?_ | refine w_SlcSN ?_ | refine w_Rev ?_ | refine w_Isi ?_ | refine w_Len ?_ | refine w_Int ?_ | refine w_Bool ?_ | refine w_Max ?_ | refine w_All ?_ | refine w_List ?_ | refine w_ListT ?_ | refine w_Tuple ?_ | refine w_Join ?_ | refine w_Split ?_ | refine w_Call ?_ | refine w_DictOf ?_ | refine w_Dict0 ?_ | refine w_Dict1 ?_ | refine w_Append ?_ | refine w_Extend ?_ | refine w_PopAt ?_ | refine w_Nil ?_ | refine w_Cons ?_ | refine v_Val ?_ | refine v_And ?_ | refine v_Or ?_ | refine v_Cmp ?_ | refine v_Chain ?_ | refine v_Is ?_ | refine v_Not ?_ | refine v_Yes ?_) | ((with_reducible apply w_Var); (focus (exact rfl)))))
  refine ⟨by decide, ?_⟩
  (refine wO_some rfl ?_)
  refine z_Seq ?_
  refine z_ForF (i_Range ?_)
  (repeat (first | (with_reducible first | refine z_Seq ?_ | refine z_SetN ?_ | refine z_Set ?_ | refine z_Ret ?_ | refine z_If ?_ | refine z_Expr ?_ | refine z_Next ?_ | refine z_Par ?_ | refine z_SetIx ?_ | refine w_C ?_ | refine w_Bop ?_ | refine w_BopT ?_ | refine w_Cmp ?_ | refine w_Chain ?_ | refine w_Is ?_ | refine w_Neg ?_ | refine w_Not ?_ | refine w_And ?_ | refine w_Or ?_ | refine w_Ite ?_ | refine w_Tup ?_ | refine w_Lst ?_ | refine w_LstT ?_ | refine w_Idx ?_ | refine w_SlcNN ?_ | refine w_SlcNS ?_ | refine w_SlcSN ?_ | refine w_Rev ?_ | refine w_Isi ?_ | refine w_Len ?_ | refine w_Int ?_ | refine w_Bool ?_ | refine w_Max ?_ | refine w_All ?_ | refine w_List ?_ | refine w_ListT ?_ | refine w_Tuple ?_ | refine w_Join ?_ | refine w_Split ?_ | refine w_Call ?_ | refine w_DictOf ?_ | refine w_Dict0 ?_ | refine w_Dict1 ?_ | refine w_Append ?_ | refine w_Extend ?_ | refine w_PopAt ?_ | refine w_Nil ?_ | refine w_Cons ?_ | refine v_Val ?_ | refine v_And ?_ | refine v_Or ?_ | refine v_Cmp ?_ | refine v_Chain ?_ | refine v_Is ?_ | refine v_Not ?_ | refine v_Yes ?_) | ((with_reducible apply w_Var); (focus (exact rfl)))))
  refine wO_some rfl ⟨(ns.map D.int).length, rfl, by rw [List.length_map]; omega, ?_⟩
  refine ⟨_, fun i ρ M1 => M1 = [] ∧ ∃ o1 o2 d s, ρ = [some (.kls (ns.map D.int)), o1, some (.int d), some (.int s), o2] ∧ (0 ≤ d ∧ d < 10 ^ 120) ∧ (0 ≤ s ∧ s < 2147483647), rfl, ⟨rfl, none, none, 0, 7, rfl, by decide, by decide⟩, ?_, ?_⟩
  · rintro i x ρ M1 hd ⟨rfl, o1, o2, d, s, rfl, hd0, hs0⟩
    obtain ⟨hi, rfl⟩ := nums_get hd
    rw [List.length_map] at hi
    have e : atI (ns.map D.int) (i : Int) = some (.int ns[i]) := atI_at (by rw [List.getElem?_map, List.getElem?_eq_getElem hi]; rfl)
    refine wO_some rfl ?_
    (repeat (first | (with_reducible first | refine z_Seq ?_ | refine z_SetN ?_ | refine z_Set ?_ | refine z_Ret ?_ | refine z_If ?_ | refine z_Expr ?_ | refine z_Next ?_ | refine z_Par ?_ | refine z_SetIx ?_ | refine w_C ?_ | refine w_Bop ?_ | refine w_BopT ?_ | refine w_Cmp ?_ | refine w_Chain ?_ | refine w_Is ?_ | refine w_Neg ?_ | refine w_Not ?_ | refine w_And ?_ | refine w_Or ?_ | refine w_Ite ?_ | refine w_Tup ?_ | refine w_Lst ?_ | refine w_LstT ?_ | refine w_Idx ?_ | refine w_SlcNN ?_ | refine w_SlcNS ?_ | refine w_SlcSN ?_ | refine w_Rev ?_ | refine w_Isi ?_ | refine w_Len ?_ | refine w_Int ?_ | refine w_Bool ?_ | refine w_Max ?_ | refine w_All ?_ | refine w_List ?_ | refine w_ListT ?_ | refine w_Tuple ?_ | refine w_Join ?_ | refine w_Split ?_ | refine w_Call ?_ | refine w_DictOf ?_ | refine w_Dict0 ?_ | refine w_Dict1 ?_ | refine w_Append ?_ | refine w_Extend ?_ | refine w_PopAt ?_ | refine w_Nil ?_ | refine w_Cons ?_ | refine v_Val ?_ | refine v_And ?_ | refine v_Or ?_ | refine v_Cmp ?_ | refine v_Chain ?_ | refine v_Is ?_ | refine v_Not ?_ | refine v_Yes ?_) | ((with_reducible apply w_Var); (focus (exact rfl)))))
    refine wO_some e ⟨_, rfl, ?_⟩
    (repeat (first | (with_reducible first | refine z_Seq ?_ | refine z_SetN ?_ | refine z_Set ?_ | refine z_Ret ?_ | refine z_If ?_ | refine z_Expr ?_ | refine z_Next ?_ | refine z_Par ?_ | refine z_SetIx ?_ | refine w_C ?_ | refine w_Bop ?_ | refine w_BopT ?_ | refine w_Cmp ?_ | refine w_Chain ?_ | refine w_Is ?_ | refine w_Neg ?_ | refine w_Not ?_ | refine w_And ?_ | refine w_Or ?_ | refine w_Ite ?_ | refine w_Tup ?_ | refine w_Lst ?_ | refine w_LstT ?_ | refine w_Idx ?_ | refine w_SlcNN ?_ | refine w_SlcNS ?_ | refine w_SlcSN ?_ | refine w_Rev ?_ | refine w_Isi ?_ | refine w_Len ?_ | refine w_Int ?_ | refine w_Bool ?_ | refine w_Max ?_ | refine w_All ?_ | refine w_List ?_ | refine w_ListT ?_ | refine w_Tuple ?_ | refine w_Join ?_ | refine w_Split ?_ | refine w_Call ?_ | refine w_DictOf ?_ | refine w_Dict0 ?_ | refine w_Dict1 ?_ | refine w_Append ?_ | refine w_Extend ?_ | refine w_PopAt ?_ | refine w_Nil ?_ | refine w_Cons ?_ | refine v_Val ?_ | refine v_And ?_ | refine v_Or ?_ | refine v_Cmp ?_ | refine v_Chain ?_ | refine v_Is ?_ | refine v_Not ?_ | refine v_Yes ?_) | ((with_reducible apply w_Var); (focus (exact rfl)))))
    refine ⟨_, rfl, ?_⟩
    (repeat (first | (with_reducible first | refine z_Seq ?_ | refine z_SetN ?_ | refine z_Set ?_ | refine z_Ret ?_ | refine z_If ?_ | refine z_Expr ?_ | refine z_Next ?_ | refine z_Par ?_ | refine z_SetIx ?_ | refine w_C ?_ | refine w_Bop ?_ | refine w_BopT ?_ | refine w_Cmp ?_ | refine w_Chain ?_ | refine w_Is ?_ | refine w_Neg ?_ | refine w_Not ?_ | refine w_And ?_ | refine w_Or ?_ | refine w_Ite ?_ | refine w_Tup ?_ | refine w_Lst ?_ | refine w_LstT ?_ | refine w_Idx ?_ | refine w_SlcNN ?_ | refine w_SlcNS ?_ | refine w_SlcSN ?_ | refine w_Rev ?_ | refine w_Isi ?_ | refine w_Len ?_ | refine w_Int ?_ | refine w_Bool ?_ | refine w_Max ?_ | refine w_All ?_ | refine w_List ?_ | refine w_ListT ?_ | refine w_Tuple ?_ | refine w_Join ?_ | refine w_Split ?_ | refine w_Call ?_ | refine w_DictOf ?_ | refine w_Dict0 ?_ | refine w_Dict1 ?_ | refine w_Append ?_ | refine w_Extend ?_ | refine w_PopAt ?_ | refine w_Nil ?_ | refine w_Cons ?_ | refine v_Val ?_ | refine v_And ?_ | refine v_Or ?_ | refine v_Cmp ?_ | refine v_Chain ?_ | refine v_Is ?_ | refine v_Not ?_ | refine v_Yes ?_) | ((with_reducible apply w_Var); (focus (exact rfl)))))
    refine wO_some e ?_
    refine wO_some sub_ok ⟨_, rfl, ?_⟩
    refine ⟨_, _, rfl, rfl, ?_⟩
    generalize (if -1 - ns[i] > ns[i] then -1 - ns[i] else ns[i]) = cell
    (repeat (first | (with_reducible first | refine z_Seq ?_ | refine z_SetN ?_ | refine z_Set ?_ | refine z_Ret ?_ | refine z_If ?_ | refine z_Expr ?_ | refine z_Next ?_ | refine z_Par ?_ | refine z_SetIx ?_ | refine w_C ?_ | refine w_Bop ?_ | refine w_BopT ?_ | refine w_Cmp ?_ | refine w_Chain ?_ | refine w_Is ?_ | refine w_Neg ?_ | refine w_Not ?_ | refine w_And ?_ | refine w_Or ?_ | refine w_Ite ?_ | refine w_Tup ?_ | refine w_Lst ?_ | refine w_LstT ?_ | refine w_Idx ?_ | refine w_SlcNN ?_ | refine w_SlcNS ?_ | refine w_SlcSN ?_ | refine w_Rev ?_ | refine w_Isi ?_ | refine w_Len ?_ | refine w_Int ?_ | refine w_Bool ?_ | refine w_Max ?_ | refine w_All ?_ | refine w_List ?_ | refine w_ListT ?_ | refine w_Tuple ?_ | refine w_Join ?_ | refine w_Split ?_ | refine w_Call ?_ | refine w_DictOf ?_ | refine w_Dict0 ?_ | refine w_Dict1 ?_ | refine w_Append ?_ | refine w_Extend ?_ | refine w_PopAt ?_ | refine w_Nil ?_ | refine w_Cons ?_ | refine v_Val ?_ | refine v_And ?_ | refine v_Or ?_ | refine v_Cmp ?_ | refine v_Chain ?_ | refine v_Is ?_ | refine v_Not ?_ | refine v_Yes ?_) | ((with_reducible apply w_Var); (focus (exact rfl)))))
    refine wO_some (mul_ok (by omega) (by decide)) ?_
    (repeat (first | (with_reducible first | refine z_Seq ?_ | refine z_SetN ?_ | refine z_Set ?_ | refine z_Ret ?_ | refine z_If ?_ | refine z_Expr ?_ | refine z_Next ?_ | refine z_Par ?_ | refine z_SetIx ?_ | refine w_C ?_ | refine w_Bop ?_ | refine w_BopT ?_ | refine w_Cmp ?_ | refine w_Chain ?_ | refine w_Is ?_ | refine w_Neg ?_ | refine w_Not ?_ | refine w_And ?_ | refine w_Or ?_ | refine w_Ite ?_ | refine w_Tup ?_ | refine w_Lst ?_ | refine w_LstT ?_ | refine w_Idx ?_ | refine w_SlcNN ?_ | refine w_SlcNS ?_ | refine w_SlcSN ?_ | refine w_Rev ?_ | refine w_Isi ?_ | refine w_Len ?_ | refine w_Int ?_ | refine w_Bool ?_ | refine w_Max ?_ | refine w_All ?_ | refine w_List ?_ | refine w_ListT ?_ | refine w_Tuple ?_ | refine w_Join ?_ | refine w_Split ?_ | refine w_Call ?_ | refine w_DictOf ?_ | refine w_Dict0 ?_ | refine w_Dict1 ?_ | refine w_Append ?_ | refine w_Extend ?_ | refine w_PopAt ?_ | refine w_Nil ?_ | refine w_Cons ?_ | refine v_Val ?_ | refine v_And ?_ | refine v_Or ?_ | refine v_Cmp ?_ | refine v_Chain ?_ | refine v_Is ?_ | refine v_Not ?_ | refine v_Yes ?_) | ((with_reducible apply w_Var); (focus (exact rfl)))))
    refine wO_some (mod_ok (by decide)) ?_
    refine wO_some add_ok ?_
    (repeat (first | (with_reducible first | refine z_Seq ?_ | refine z_SetN ?_ | refine z_Set ?_ | refine z_Ret ?_ | refine z_If ?_ | refine z_Expr ?_ | refine z_Next ?_ | refine z_Par ?_ | refine z_SetIx ?_ | refine w_C ?_ | refine w_Bop ?_ | refine w_BopT ?_ | refine w_Cmp ?_ | refine w_Chain ?_ | refine w_Is ?_ | refine w_Neg ?_ | refine w_Not ?_ | refine w_And ?_ | refine w_Or ?_ | refine w_Ite ?_ | refine w_Tup ?_ | refine w_Lst ?_ | refine w_LstT ?_ | refine w_Idx ?_ | refine w_SlcNN ?_ | refine w_SlcNS ?_ | refine w_SlcSN ?_ | refine w_Rev ?_ | refine w_Isi ?_ | refine w_Len ?_ | refine w_Int ?_ | refine w_Bool ?_ | refine w_Max ?_ | refine w_All ?_ | refine w_List ?_ | refine w_ListT ?_ | refine w_Tuple ?_ | refine w_Join ?_ | refine w_Split ?_ | refine w_Call ?_ | refine w_DictOf ?_ | refine w_Dict0 ?_ | refine w_Dict1 ?_ | refine w_Append ?_ | refine w_Extend ?_ | refine w_PopAt ?_ | refine w_Nil ?_ | refine w_Cons ?_ | refine v_Val ?_ | refine v_And ?_ | refine v_Or ?_ | refine v_Cmp ?_ | refine v_Chain ?_ | refine v_Is ?_ | refine v_Not ?_ | refine v_Yes ?_) | ((with_reducible apply w_Var); (focus (exact rfl)))))
    refine wO_some add_ok ⟨_, rfl, ?_⟩
    (repeat (first | (with_reducible first | refine z_Seq ?_ | refine z_SetN ?_ | refine z_Set ?_ | refine z_Ret ?_ | refine z_If ?_ | refine z_Expr ?_ | refine z_Next ?_ | refine z_Par ?_ | refine z_SetIx ?_ | refine w_C ?_ | refine w_Bop ?_ | refine w_BopT ?_ | refine w_Cmp ?_ | refine w_Chain ?_ | refine w_Is ?_ | refine w_Neg ?_ | refine w_Not ?_ | refine w_And ?_ | refine w_Or ?_ | refine w_Ite ?_ | refine w_Tup ?_ | refine w_Lst ?_ | refine w_LstT ?_ | refine w_Idx ?_ | refine w_SlcNN ?_ | refine w_SlcNS ?_ | refine w_SlcSN ?_ | refine w_Rev ?_ | refine w_Isi ?_ | refine w_Len ?_ | refine w_Int ?_ | refine w_Bool ?_ | refine w_Max ?_ | refine w_All ?_ | refine w_List ?_ | refine w_ListT ?_ | refine w_Tuple ?_ | refine w_Join ?_ | refine w_Split ?_ | refine w_Call ?_ | refine w_DictOf ?_ | refine w_Dict0 ?_ | refine w_Dict1 ?_ | refine w_Append ?_ | refine w_Extend ?_ | refine w_PopAt ?_ | refine w_Nil ?_ | refine w_Cons ?_ | refine v_Val ?_ | refine v_And ?_ | refine v_Or ?_ | refine v_Cmp ?_ | refine v_Chain ?_ | refine v_Is ?_ | refine v_Not ?_ | refine v_Yes ?_) | ((with_reducible apply w_Var); (focus (exact rfl)))))
    refine wO_some (mod_ok (by decide)) ?_
    (repeat (first | (with_reducible first | refine z_Seq ?_ | refine z_SetN ?_ | refine z_Set ?_ | refine z_Ret ?_ | refine z_If ?_ | refine z_Expr ?_ | refine z_Next ?_ | refine z_Par ?_ | refine z_SetIx ?_ | refine w_C ?_ | refine w_Bop ?_ | refine w_BopT ?_ | refine w_Cmp ?_ | refine w_Chain ?_ | refine w_Is ?_ | refine w_Neg ?_ | refine w_Not ?_ | refine w_And ?_ | refine w_Or ?_ | refine w_Ite ?_ | refine w_Tup ?_ | refine w_Lst ?_ | refine w_LstT ?_ | refine w_Idx ?_ | refine w_SlcNN ?_ | refine w_SlcNS ?_ | refine w_SlcSN ?_ | refine w_Rev ?_ | refine w_Isi ?_ | refine w_Len ?_ | refine w_Int ?_ | refine w_Bool ?_ | refine w_Max ?_ | refine w_All ?_ | refine w_List ?_ | refine w_ListT ?_ | refine w_Tuple ?_ | refine w_Join ?_ | refine w_Split ?_ | refine w_Call ?_ | refine w_DictOf ?_ | refine w_Dict0 ?_ | refine w_Dict1 ?_ | refine w_Append ?_ | refine w_Extend ?_ | refine w_PopAt ?_ | refine w_Nil ?_ | refine w_Cons ?_ | refine v_Val ?_ | refine v_And ?_ | refine v_Or ?_ | refine v_Cmp ?_ | refine v_Chain ?_ | refine v_Is ?_ | refine v_Not ?_ | refine v_Yes ?_) | ((with_reducible apply w_Var); (focus (exact rfl)))))
    refine wO_some pow12 ?_
    (refine wO_some rfl ?_)
    refine ⟨fun h1 => ?_, fun h1 => ?_⟩
    · (repeat (first | (with_reducible first | refine z_Seq ?_ | refine z_SetN ?_ | refine z_Set ?_ | refine z_Ret ?_ | refine z_If ?_ | refine z_Expr ?_ | refine z_Next ?_ | refine z_Par ?_ | refine z_SetIx ?_ | refine w_C ?_ | refine w_Bop ?_ | refine w_BopT ?_ | refine w_Cmp ?_ | refine w_Chain ?_ | refine w_Is ?_ | refine w_Neg ?_ | refine w_Not ?_ | refine w_And ?_ | refine w_Or ?_ | refine w_Ite ?_ | refine w_Tup ?_ | refine w_Lst ?_ | refine w_LstT ?_ | refine w_Idx ?_ | refine w_SlcNN ?_ | refine w_SlcNS ?_ | refine w_SlcSN ?_ | refine w_Rev ?_ | refine w_Isi ?_ | refine w_Len ?_ | refine w_Int ?_ | refine w_Bool ?_ | refine w_Max ?_ | refine w_All ?_ | refine w_List ?_ | refine w_ListT ?_ | refine w_Tuple ?_ | refine w_Join ?_ | refine w_Split ?_ | refine w_Call ?_ | refine w_DictOf ?_ | refine w_Dict0 ?_ | refine w_Dict1 ?_ | refine w_Append ?_ | refine w_Extend ?_ | refine w_PopAt ?_ | refine w_Nil ?_ | refine w_Cons ?_ | refine v_Val ?_ | refine v_And ?_ | refine v_Or ?_ | refine v_Cmp ?_ | refine v_Chain ?_ | refine v_Is ?_ | refine v_Not ?_ | refine v_Yes ?_) | ((with_reducible apply w_Var); (focus (exact rfl)))))
      refine wO_some pow60 ?_
      (refine wO_some rfl ?_)
      refine ⟨fun h2 => ?_, fun h2 => ?_⟩
      · have h2 := of_decide_eq_true h2
        (repeat (first | (with_reducible first | refine z_Seq ?_ | refine z_SetN ?_ | refine z_Set ?_ | refine z_Ret ?_ | refine z_If ?_ | refine z_Expr ?_ | refine z_Next ?_ | refine z_Par ?_ | refine z_SetIx ?_ | refine w_C ?_ | refine w_Bop ?_ | refine w_BopT ?_ | refine w_Cmp ?_ | refine w_Chain ?_ | refine w_Is ?_ | refine w_Neg ?_ | refine w_Not ?_ | refine w_And ?_ | refine w_Or ?_ | refine w_Ite ?_ | refine w_Tup ?_ | refine w_Lst ?_ | refine w_LstT ?_ | refine w_Idx ?_ | refine w_SlcNN ?_ | refine w_SlcNS ?_ | refine w_SlcSN ?_ | refine w_Rev ?_ | refine w_Isi ?_ | refine w_Len ?_ | refine w_Int ?_ | refine w_Bool ?_ | refine w_Max ?_ | refine w_All ?_ | refine w_List ?_ | refine w_ListT ?_ | refine w_Tuple ?_ | refine w_Join ?_ | refine w_Split ?_ | refine w_Call ?_ | refine w_DictOf ?_ | refine w_Dict0 ?_ | refine w_Dict1 ?_ | refine w_Append ?_ | refine w_Extend ?_ | refine w_PopAt ?_ | refine w_Nil ?_ | refine w_Cons ?_ | refine v_Val ?_ | refine v_And ?_ | refine v_Or ?_ | refine v_Cmp ?_ | refine v_Chain ?_ | refine v_Is ?_ | refine v_Not ?_ | refine v_Yes ?_) | ((with_reducible apply w_Var); (focus (exact rfl)))))
        refine wO_some pow60 ?_
        refine wO_some (mul_ok (by omega) (by decide)) ?_
        (repeat (first | (with_reducible first | refine z_Seq ?_ | refine z_SetN ?_ | refine z_Set ?_ | refine z_Ret ?_ | refine z_If ?_ | refine z_Expr ?_ | refine z_Next ?_ | refine z_Par ?_ | refine z_SetIx ?_ | refine w_C ?_ | refine w_Bop ?_ | refine w_BopT ?_ | refine w_Cmp ?_ | refine w_Chain ?_ | refine w_Is ?_ | refine w_Neg ?_ | refine w_Not ?_ | refine w_And ?_ | refine w_Or ?_ | refine w_Ite ?_ | refine w_Tup ?_ | refine w_Lst ?_ | refine w_LstT ?_ | refine w_Idx ?_ | refine w_SlcNN ?_ | refine w_SlcNS ?_ | refine w_SlcSN ?_ | refine w_Rev ?_ | refine w_Isi ?_ | refine w_Len ?_ | refine w_Int ?_ | refine w_Bool ?_ | refine w_Max ?_ | refine w_All ?_ | refine w_List ?_ | refine w_ListT ?_ | refine w_Tuple ?_ | refine w_Join ?_ | refine w_Split ?_ | refine w_Call ?_ | refine w_DictOf ?_ | refine w_Dict0 ?_ | refine w_Dict1 ?_ | refine w_Append ?_ | refine w_Extend ?_ | refine w_PopAt ?_ | refine w_Nil ?_ | refine w_Cons ?_ | refine v_Val ?_ | refine v_And ?_ | refine v_Or ?_ | refine v_Cmp ?_ | refine v_Chain ?_ | refine v_Is ?_ | refine v_Not ?_ | refine v_Yes ?_) | ((with_reducible apply w_Var); (focus (exact rfl)))))
        refine wO_some pow60 ?_
        refine wO_some (mod_ok (by decide)) ?_
        refine wO_some add_ok ⟨_, rfl, ?_⟩
        refine ⟨rfl, _, _, _, _, rfl, ?_, by omega⟩
        omega
      · (repeat (first | (with_reducible first | refine z_Seq ?_ | refine z_SetN ?_ | refine z_Set ?_ | refine z_Ret ?_ | refine z_If ?_ | refine z_Expr ?_ | refine z_Next ?_ | refine z_Par ?_ | refine z_SetIx ?_ | refine w_C ?_ | refine w_Bop ?_ | refine w_BopT ?_ | refine w_Cmp ?_ | refine w_Chain ?_ | refine w_Is ?_ | refine w_Neg ?_ | refine w_Not ?_ | refine w_And ?_ | refine w_Or ?_ | refine w_Ite ?_ | refine w_Tup ?_ | refine w_Lst ?_ | refine w_LstT ?_ | refine w_Idx ?_ | refine w_SlcNN ?_ | refine w_SlcNS ?_ | refine w_SlcSN ?_ | refine w_Rev ?_ | refine w_Isi ?_ | refine w_Len ?_ | refine w_Int ?_ | refine w_Bool ?_ | refine w_Max ?_ | refine w_All ?_ | refine w_List ?_ | refine w_ListT ?_ | refine w_Tuple ?_ | refine w_Join ?_ | refine w_Split ?_ | refine w_Call ?_ | refine w_DictOf ?_ | refine w_Dict0 ?_ | refine w_Dict1 ?_ | refine w_Append ?_ | refine w_Extend ?_ | refine w_PopAt ?_ | refine w_Nil ?_ | refine w_Cons ?_ | refine v_Val ?_ | refine v_And ?_ | refine v_Or ?_ | refine v_Cmp ?_ | refine v_Chain ?_ | refine v_Is ?_ | refine v_Not ?_ | refine v_Yes ?_) | ((with_reducible apply w_Var); (focus (exact rfl)))))
        exact ⟨rfl, _, _, _, _, rfl, hd0, by omega⟩
    · refine ⟨fun h => (by cases h), fun _ => ?_⟩
      (repeat (first | (with_reducible first | refine z_Seq ?_ | refine z_SetN ?_ | refine z_Set ?_ | refine z_Ret ?_ | refine z_If ?_ | refine z_Expr ?_ | refine z_Next ?_ | refine z_Par ?_ | refine z_SetIx ?_ | refine w_C ?_ | refine w_Bop ?_ | refine w_BopT ?_ | refine w_Cmp ?_ | refine w_Chain ?_ | refine w_Is ?_ | refine w_Neg ?_ | refine w_Not ?_ | refine w_And ?_ | refine w_Or ?_ | refine w_Ite ?_ | refine w_Tup ?_ | refine w_Lst ?_ | refine w_LstT ?_ | refine w_Idx ?_ | refine w_SlcNN ?_ | refine w_SlcNS ?_ | refine w_SlcSN ?_ | refine w_Rev ?_ | refine w_Isi ?_ | refine w_Len ?_ | refine w_Int ?_ | refine w_Bool ?_ | refine w_Max ?_ | refine w_All ?_ | refine w_List ?_ | refine w_ListT ?_ | refine w_Tuple ?_ | refine w_Join ?_ | refine w_Split ?_ | refine w_Call ?_ | refine w_DictOf ?_ | refine w_Dict0 ?_ | refine w_Dict1 ?_ | refine w_Append ?_ | refine w_Extend ?_ | refine w_PopAt ?_ | refine w_Nil ?_ | refine w_Cons ?_ | refine v_Val ?_ | refine v_And ?_ | refine v_Or ?_ | refine v_Cmp ?_ | refine v_Chain ?_ | refine v_Is ?_ | refine v_Not ?_ | refine v_Yes ?_) | ((with_reducible apply w_Var); (focus (exact rfl)))))
      exact ⟨rfl, _, _, _, _, rfl, hd0, by omega⟩
  · rintro ρ M1 ⟨rfl, o1, o2, d, s, rfl, hd0, hs0⟩
    (repeat (first | (with_reducible first | refine z_Seq ?_ | refine z_SetN ?_ | refine z_Set ?_ | refine z_Ret ?_ | refine z_If ?_ | refine z_Expr ?_ | refine z_Next ?_ | refine z_Par ?_ | refine z_SetIx ?_ | refine w_C ?_ | refine w_Bop ?_ | refine w_BopT ?_ | refine w_Cmp ?_ | refine w_Chain ?_ | refine w_Is ?_ | refine w_Neg ?_ | refine w_Not ?_ | refine w_And ?_ | refine w_Or ?_ | refine w_Ite ?_ | refine w_Tup ?_ | refine w_Lst ?_ | refine w_LstT ?_ | refine w_Idx ?_ | refine w_SlcNN ?_ | refine w_SlcNS ?_ | refine w_SlcSN ?_ | refine w_Rev ?_ | refine w_Isi ?_ | refine w_Len ?_ | refine w_Int ?_ | refine w_Bool ?_ | refine w_Max ?_ | refine w_All ?_ | refine w_List ?_ | refine w_ListT ?_ | refine w_Tuple ?_ | refine w_Join ?_ | refine w_Split ?_ | refine w_Call ?_ | refine w_DictOf ?_ | refine w_Dict0 ?_ | refine w_Dict1 ?_ | refine w_Append ?_ | refine w_Extend ?_ | refine w_PopAt ?_ | refine w_Nil ?_ | refine w_Cons ?_ | refine v_Val ?_ | refine v_And ?_ | refine v_Or ?_ | refine v_Cmp ?_ | refine v_Chain ?_ | refine v_Is ?_ | refine v_Not ?_ | refine v_Yes ?_) | ((with_reducible apply w_Var); (focus (exact rfl)))))
    exact ⟨by simp [line], rfl, d, s, 0, rfl, hd0, hs0, by decide⟩
end
/-! ### things -/
/-- no handle at the top -/
def val : D → Bool
  | .h _ => false
  | _ => true
def tyI : D → Bool
  | .int _ | .bl _ => true
  | _ => false
def tyB : D → Bool
  | .bl _ => true
  | _ => false
def tyS : D → Bool
  | .str _ => true
  | _ => false
def tyT : D → Bool
  | .tup _ => true
  | _ => false
def tyL : D → Bool
  | .lst _ | .kls _ => true
  | _ => false
theorem isi_I {d : D} (h : val d = true) : isiD d "int" = some (tyI d) := by cases d <;> first | (cases h; done) | kernel_rfl
theorem isi_B {d : D} (h : val d = true) : isiD d "bool" = some (tyB d) := by cases d <;> first | (cases h; done) | kernel_rfl
theorem isi_S {d : D} (h : val d = true) : isiD d "str" = some (tyS d) := by cases d <;> first | (cases h; done) | kernel_rfl
theorem isi_T {d : D} (h : val d = true) : isiD d "tuple" = some (tyT d) := by cases d <;> first | (cases h; done) | kernel_rfl
theorem isi_L {d : D} (h : val d = true) : isiD d "list" = some (tyL d) := by cases d <;> first | (cases h; done) | kernel_rfl
/-- what may stand in things, n lists deep -/
def fit : Nat → D → Bool
  | _, .non => true
  | _, .bl _ => true
  | _, .int _ => true
  | _, .str s => decide (s.length ≤ 1000)
  | _, .dic ks xs => decide ks.Nodup && xs.all flat
  | n + 1, .tup xs => xs.all (fit n) && decide (xs.length ≤ 1000)
  | n + 1, .lst xs => xs.all (fit n) && decide (xs.length ≤ 1000)
  | _, _ => false
theorem fit_val {n : Nat} {d : D} (h : fit n d = true) : val d = true := by
  cases d with
  | h m => cases n <;> cases h
  | _ => rfl
theorem fit_succ : ∀ {n : Nat} {d : D}, fit n d = true → fit (n + 1) d = true
  | n, .non, _ => rfl
  | n, .bl _, _ => rfl
  | n, .int _, _ => rfl
  | 0, .str _, h => h
  | n + 1, .str _, h => h
  | 0, .dic _ _, h => h
  | n + 1, .dic _ _, h => h
  | 0, .tup _, h => by cases h
  | 0, .lst _, h => by cases h
  | n + 1, .tup xs, h => by
    have h : (xs.all (fit n) && decide (xs.length ≤ 1000)) = true := h
    show (xs.all (fit (n + 1)) && decide (xs.length ≤ 1000)) = true
    rw [Bool.and_eq_true, List.all_eq_true] at h ⊢
    exact ⟨fun x hx => fit_succ (h.1 x hx), h.2⟩
  | n + 1, .lst xs, h => by
    have h : (xs.all (fit n) && decide (xs.length ≤ 1000)) = true := h
    show (xs.all (fit (n + 1)) && decide (xs.length ≤ 1000)) = true
    rw [Bool.and_eq_true, List.all_eq_true] at h ⊢
    exact ⟨fun x hx => fit_succ (h.1 x hx), h.2⟩
  | 0, .kls _, h => by cases h
  | n + 1, .kls _, h => by cases h
  | 0, .h _, h => by cases h
  | n + 1, .h _, h => by cases h
theorem fit_le {n m : Nat} (hm : n ≤ m) {d : D} (h : fit n d = true) : fit m d = true := by
  induction hm with
  | refl => exact h
  | step _ ih => exact fit_succ ih
theorem fit_lst {n : Nat} {xs : List D} : fit (n + 1) (.lst xs) = true ↔ (∀ x ∈ xs, fit n x = true) ∧ xs.length ≤ 1000 := by
  show (xs.all (fit n) && decide (xs.length ≤ 1000)) = true ↔ _
  rw [Bool.and_eq_true, List.all_eq_true, decide_eq_true_eq]
theorem fit_tup {n : Nat} {xs : List D} : fit (n + 1) (.tup xs) = true ↔ (∀ x ∈ xs, fit n x = true) ∧ xs.length ≤ 1000 := by
  show (xs.all (fit n) && decide (xs.length ≤ 1000)) = true ↔ _
  rw [Bool.and_eq_true, List.all_eq_true, decide_eq_true_eq]
theorem flat_noH {d : D} (h : flat d = true) : noH 0 d = true := by
  cases d <;> first | rfl | cases h
theorem fit_noH : ∀ {n : Nat} {d : D}, fit n d = true → noH 0 d = true
  | n, .non, _ => rfl
  | n, .bl _, _ => rfl
  | n, .int _, _ => rfl
  | n, .str _, _ => rfl
  | n, .dic ks xs, h => by
    have h : (decide ks.Nodup && xs.all flat) = true := by cases n <;> exact h
    rw [Bool.and_eq_true, List.all_eq_true] at h
    show noHs 0 xs = true
    exact noHs_iff.mpr fun d hd => flat_noH (h.2 d hd)
  | 0, .tup _, h => by cases h
  | 0, .lst _, h => by cases h
  | n + 1, .tup xs, h => by
    show noHs 0 xs = true
    exact noHs_iff.mpr fun d hd => fit_noH ((fit_tup.mp h).1 d hd)
  | n + 1, .lst xs, h => by
    show noHs 0 xs = true
    exact noHs_iff.mpr fun d hd => fit_noH ((fit_lst.mp h).1 d hd)
  | 0, .kls _, h => by cases h
  | n + 1, .kls _, h => by cases h
  | 0, .h _, h => by cases h
  | n + 1, .h _, h => by cases h
theorem view_val {M : Mh} {d : D} (h : val d = true) : view M d = d := by
  cases d <;> first | rfl | cases h
/-! ### equal things -/
def m_whole : Def := ⟨1, 1, false,
  (zRet (sAnd (sIsi (sVar 0) "int") (sNot (sIsi (sVar 0) "bool"))))⟩
def isI : D → Bool
  | .int _ => true
  | _ => false
theorem r_whole {P : Prog} {x : Str} (hP : P x = some m_whole) {k : Nat} {d : D} {M : Mh} (h : val d = true) : callAt P (k + 1) x [d] M = .ok (.bl (isI d)) M := by
  obtain ⟨a, M', e, q⟩ : ∃ a M', callAt P (k + 1) x [d] M = .ok a M' ∧ (a = .bl (isI d) ∧ M' = M) := by
    refine wpR_ex ?_
    refine wp_run0 hP rfl rfl ?_
    dsimp only [m_whole, List.map, List.append, List.map_cons, List.map_nil, List.length_cons, List.length_nil, List.replicate, List.cons_append, List.nil_append, Nat.reduceSub, Nat.reduceAdd]
    (repeat (first | (with_reducible first | refine z_Seq ?_ | refine z_SetN ?_ | refine z_Set ?_ | refine z_Ret ?_ | refine z_If ?_ | refine z_Expr ?_ | refine z_Next ?_ | refine z_Par ?_ | refine z_SetIx ?_ | refine w_C ?_ | refine w_Bop ?_ | refine w_BopT ?_ | refine w_Cmp ?_ | refine w_Chain ?_ | refine w_Is ?_ | refine w_Neg ?_ | refine w_Not ?_ | refine w_And ?_ | refine w_Or ?_ | refine w_Ite ?_ | refine w_Tup ?_ | refine w_Lst ?_ | refine w_LstT ?_ | refine w_Idx ?_ | refine w_SlcNN ?_ | refine w_SlcNS ?_ | refine w_SlcSN ?_ | refine w_Rev ?_ | refine w_Isi ?_ | refine w_Len ?_ | refine w_Int ?_ | refine w_Bool ?_ | refine w_Max ?_ | refine w_All ?_ | refine w_List ?_ | refine w_ListT ?_ | refine w_Tuple ?_ | refine w_Join ?_ | refine w_Split ?_ | refine w_Call ?_ | refine w_DictOf ?_ | refine w_Dict0 ?_ | refine w_Dict1 ?_ | refine w_Append ?_ | refine w_Extend ?_ | refine w_PopAt ?_ | refine w_Nil ?_ | refine w_Cons ?_ | refine v_Val ?_ | refine v_And ?_ | refine v_Or ?_ | refine v_Cmp ?_ | refine v_Chain ?_ | refine v_Is ?_ | refine v_Not ?_ | refine v_Yes ?_) | ((with_reducible apply w_Var); (focus (exact rfl)))))
    rw [view_val h]
    refine wO_some (isi_I h) ⟨_, rfl, fun e => ?_, fun e => ?_⟩
    · (repeat (first | (with_reducible first | refine z_Seq ?_ | refine z_SetN ?_ | refine z_Set ?_ | refine z_Ret ?_ | refine z_If ?_ | refine z_Expr ?_ | refine z_Next ?_ | refine z_Par ?_ | refine z_SetIx ?_ | refine w_C ?_ | refine w_Bop ?_ | refine w_BopT ?_ | refine w_Cmp ?_ | refine w_Chain ?_ | refine w_Is ?_ | refine w_Neg ?_ | refine w_Not ?_ | refine w_And ?_ | refine w_Or ?_ | refine w_Ite ?_ | refine w_Tup ?_ | refine w_Lst ?_ | refine w_LstT ?_ | refine w_Idx ?_ | refine w_SlcNN ?_ | refine w_SlcNS ?_ | refine w_SlcSN ?_ | refine w_Rev ?_ | refine w_Isi ?_ | refine w_Len ?_ | refine w_Int ?_ | refine w_Bool ?_ | refine w_Max ?_ | refine w_All ?_ | refine w_List ?_ | refine w_ListT ?_ | refine w_Tuple ?_ | refine w_Join ?_ | refine w_Split ?_ | refine w_Call ?_ | refine w_DictOf ?_ | refine w_Dict0 ?_ | refine w_Dict1 ?_ | refine w_Append ?_ | refine w_Extend ?_ | refine w_PopAt ?_ | refine w_Nil ?_ | refine w_Cons ?_ | refine v_Val ?_ | refine v_And ?_ | refine v_Or ?_ | refine v_Cmp ?_ | refine v_Chain ?_ | refine v_Is ?_ | refine v_Not ?_ | refine v_Yes ?_) | ((with_reducible apply w_Var); (focus (exact rfl)))))
      rw [view_val h]
      refine wO_some (isi_B h) ⟨_, rfl, rfl, ?_, rfl⟩
      cases d <;> first | rfl | cases e
    · refine ⟨rfl, ?_, rfl⟩
      cases d <;> first | rfl | cases e
  rw [e, q.1, q.2]
def m_same : Def := ⟨3, 2, false,
  (zSeq (zIf (tIs (sVar 1) .non)
  (zRet (sIs (sVar 0) .non))
  zNext)
  (zSeq (zIf (tVal (sIsi (sVar 1) "bool"))
  (zRet (sIte (tVal (sVar 1)) (sIs (sVar 0) (.bl true)) (sIs (sVar 0) (.bl false))))
  zNext)
  (zSeq (zIf (tVal (sIsi (sVar 1) "int"))
  (zRet (sAnd (sCall "_law_yq_is_whole" (aCons (sVar 0) aNil)) (sCmp .eq (sVar 0) (sVar 1))))
  zNext)
  (zSeq (zIf (tVal (sIsi (sVar 1) "str"))
  (zRet (sAnd (sIsi (sVar 0) "str") (sCmp .eq (sVar 0) (sVar 1))))
  zNext)
  (zSeq (zIf (tAnd (tNot (tVal (sIsi (sVar 1) "tuple"))) (tNot (tVal (sIsi (sVar 1) "list"))))
  (zRet (sBool (sCmp .eq (sVar 0) (sVar 1))))
  zNext)
  (zSeq (zIf (tCmp .ne (sIsi (sVar 1) "tuple") (sIsi (sVar 0) "tuple"))
  (zRet (sC (.bl false)))
  zNext)
  (zSeq (zIf (tCmp .ne (sIsi (sVar 1) "list") (sIsi (sVar 0) "list"))
  (zRet (sC (.bl false)))
  zNext)
  (zSeq (zIf (tCmp .ne (sLen (sVar 0)) (sLen (sVar 1)))
  (zRet (sC (.bl false)))
  zNext)
  (zSeq (zFor (iRange (sLen (sVar 1))) (.nm 2)
  (zIf (tNot (tVal (sCall "_law_yq_same" (aCons (sIdx (sVar 0) (sVar 2)) (aCons (sIdx (sVar 1) (sVar 2)) aNil)))))
  (zRet (sC (.bl false)))
  zNext))
  (zRet (sC (.bl true))))))))))))⟩
theorem sameFs_refl {xs : List D} (h : xs.all flat = true) : sameFs xs xs = true := by
  induction xs with
  | nil => rfl
  | cons x xs ih =>
    rw [List.all_cons, Bool.and_eq_true] at h
    show (sameF x x && sameFs xs xs) = true
    rw [ih h.2, Bool.and_true]
    cases x <;> first | (cases h.1; done) | rfl | exact beq_self_eq_true _
theorem ifT {A B : Prop} {b : Bool} (e : b = true) (h : A) : (b = true → A) ∧ (b = false → B) := ⟨fun _ => h, fun z => by rw [e] at z; cases z⟩
theorem ifF {A B : Prop} {b : Bool} (e : b = false) (h : B) : (b = true → A) ∧ (b = false → B) := ⟨fun z => (by rw [e] at z; cases z), fun _ => h⟩
theorem r_same {P : Prog} (hP : P "_law_yq_same" = some m_same) (hW : P "_law_yq_is_whole" = some m_whole) : ∀ (n : Nat) {k : Nat} {d : D} {M : Mh}, fit n d = true → wpR (callAt P (k + (n + 2)) "_law_yq_same" [d, d] M) fun r M' => r = .bl true ∧ M' = M := by
  have base : ∀ (k : Nat) (d : D) (M : Mh), (match d with | .non | .bl _ | .int _ | .str _ => true | .dic ks xs => decide ks.Nodup && xs.all flat | _ => false) = true → wpR (callAt P (k + 2) "_law_yq_same" [d, d] M) fun r M' => r = .bl true ∧ M' = M := by
    intro k d M h
    refine wp_run0 hP rfl rfl ?_
    dsimp only [m_same, List.map, List.append, List.map_cons, List.map_nil, List.length_cons, List.length_nil, List.replicate, List.cons_append, List.nil_append, Nat.reduceSub, Nat.reduceAdd]
    cases d <;> first | (cases h; done) | skip
    · (repeat (first | (with_reducible first | refine z_Seq ?_ | refine z_SetN ?_ | refine z_Set ?_ | refine z_Ret ?_ | refine z_If ?_ | refine z_Expr ?_ | refine z_Next ?_ | refine z_Par ?_ | refine z_SetIx ?_ | refine w_C ?_ | refine w_Bop ?_ | refine w_BopT ?_ | refine w_Cmp ?_ | refine w_Chain ?_ | refine w_Is ?_ | refine w_Neg ?_ | refine w_Not ?_ | refine w_And ?_ | refine w_Or ?_ | refine w_Ite ?_ | refine w_Tup ?_ | refine w_Lst ?_ | refine w_LstT ?_ | refine w_Idx ?_ | refine w_SlcNN ?_ | refine w_SlcNS ?_ | refine w_SlcSN ?_ | refine w_Rev ?_ | refine w_Isi ?_ | refine w_Len ?_ | refine w_Int ?_ | refine w_Bool ?_ | refine w_Max ?_ | refine w_All ?_ | refine w_List ?_ | refine w_ListT ?_ | refine w_Tuple ?_ | refine w_Join ?_ | refine w_Split ?_ | refine w_Call ?_ | refine w_DictOf ?_ | refine w_Dict0 ?_ | refine w_Dict1 ?_ | refine w_Append ?_ | refine w_Extend ?_ | refine w_PopAt ?_ | refine w_Nil ?_ | refine w_Cons ?_ | refine v_Val ?_ | refine v_And ?_ | refine v_Or ?_ | refine v_Cmp ?_ | refine v_Chain ?_ | refine v_Is ?_ | refine v_Not ?_ | refine v_Yes ?_) | ((with_reducible apply w_Var); (focus (exact rfl))) | (with_reducible first | refine wO_some (isi_I (by with_unfolding_all exact rfl)) ?_ | refine wO_some (isi_B (by with_unfolding_all exact rfl)) ?_ | refine wO_some (isi_S (by with_unfolding_all exact rfl)) ?_ | refine wO_some (isi_T (by with_unfolding_all exact rfl)) ?_ | refine wO_some (isi_L (by with_unfolding_all exact rfl)) ?_) | (first | refine ifT rfl ?_ | refine ifF rfl ?_) | (refine wO_some rfl ?_) | refine ⟨_, rfl, ?_⟩))
      exact ⟨rfl, rfl, rfl⟩
    · rename_i b
      cases b <;> (repeat (first | (with_reducible first | refine z_Seq ?_ | refine z_SetN ?_ | refine z_Set ?_ | refine z_Ret ?_ | refine z_If ?_ | refine z_Expr ?_ | refine z_Next ?_ | refine z_Par ?_ | refine z_SetIx ?_ | refine w_C ?_ | refine w_Bop ?_ | refine w_BopT ?_ | refine w_Cmp ?_ | refine w_Chain ?_ | refine w_Is ?_ | refine w_Neg ?_ | refine w_Not ?_ | refine w_And ?_ | refine w_Or ?_ | refine w_Ite ?_ | refine w_Tup ?_ | refine w_Lst ?_ | refine w_LstT ?_ | refine w_Idx ?_ | refine w_SlcNN ?_ | refine w_SlcNS ?_ | refine w_SlcSN ?_ | refine w_Rev ?_ | refine w_Isi ?_ | refine w_Len ?_ | refine w_Int ?_ | refine w_Bool ?_ | refine w_Max ?_ | refine w_All ?_ | refine w_List ?_ | refine w_ListT ?_ | refine w_Tuple ?_ | refine w_Join ?_ | refine w_Split ?_ | refine w_Call ?_ | refine w_DictOf ?_ | refine w_Dict0 ?_ | refine w_Dict1 ?_ | refine w_Append ?_ | refine w_Extend ?_ | refine w_PopAt ?_ | refine w_Nil ?_ | refine w_Cons ?_ | refine v_Val ?_ | refine v_And ?_ | refine v_Or ?_ | refine v_Cmp ?_ | refine v_Chain ?_ | refine v_Is ?_ | refine v_Not ?_ | refine v_Yes ?_) | ((with_reducible apply w_Var); (focus (exact rfl))) | (with_reducible first | refine wO_some (isi_I (by with_unfolding_all exact rfl)) ?_ | refine wO_some (isi_B (by with_unfolding_all exact rfl)) ?_ | refine wO_some (isi_S (by with_unfolding_all exact rfl)) ?_ | refine wO_some (isi_T (by with_unfolding_all exact rfl)) ?_ | refine wO_some (isi_L (by with_unfolding_all exact rfl)) ?_) | (first | refine ifT rfl ?_ | refine ifF rfl ?_) | (refine wO_some rfl ?_) | refine ⟨_, rfl, ?_⟩)) <;> exact ⟨rfl, rfl, rfl⟩
    · (repeat (first | (with_reducible first | refine z_Seq ?_ | refine z_SetN ?_ | refine z_Set ?_ | refine z_Ret ?_ | refine z_If ?_ | refine z_Expr ?_ | refine z_Next ?_ | refine z_Par ?_ | refine z_SetIx ?_ | refine w_C ?_ | refine w_Bop ?_ | refine w_BopT ?_ | refine w_Cmp ?_ | refine w_Chain ?_ | refine w_Is ?_ | refine w_Neg ?_ | refine w_Not ?_ | refine w_And ?_ | refine w_Or ?_ | refine w_Ite ?_ | refine w_Tup ?_ | refine w_Lst ?_ | refine w_LstT ?_ | refine w_Idx ?_ | refine w_SlcNN ?_ | refine w_SlcNS ?_ | refine w_SlcSN ?_ | refine w_Rev ?_ | refine w_Isi ?_ | refine w_Len ?_ | refine w_Int ?_ | refine w_Bool ?_ | refine w_Max ?_ | refine w_All ?_ | refine w_List ?_ | refine w_ListT ?_ | refine w_Tuple ?_ | refine w_Join ?_ | refine w_Split ?_ | refine w_Call ?_ | refine w_DictOf ?_ | refine w_Dict0 ?_ | refine w_Dict1 ?_ | refine w_Append ?_ | refine w_Extend ?_ | refine w_PopAt ?_ | refine w_Nil ?_ | refine w_Cons ?_ | refine v_Val ?_ | refine v_And ?_ | refine v_Or ?_ | refine v_Cmp ?_ | refine v_Chain ?_ | refine v_Is ?_ | refine v_Not ?_ | refine v_Yes ?_) | ((with_reducible apply w_Var); (focus (exact rfl))) | (with_reducible first | refine wO_some (isi_I (by with_unfolding_all exact rfl)) ?_ | refine wO_some (isi_B (by with_unfolding_all exact rfl)) ?_ | refine wO_some (isi_S (by with_unfolding_all exact rfl)) ?_ | refine wO_some (isi_T (by with_unfolding_all exact rfl)) ?_ | refine wO_some (isi_L (by with_unfolding_all exact rfl)) ?_) | (first | refine ifT rfl ?_ | refine ifF rfl ?_) | (refine wO_some rfl ?_) | refine ⟨_, rfl, ?_⟩))
      rw [cfl_call, r_whole hW rfl, wpR_ok]
      (repeat (first | (with_reducible first | refine z_Seq ?_ | refine z_SetN ?_ | refine z_Set ?_ | refine z_Ret ?_ | refine z_If ?_ | refine z_Expr ?_ | refine z_Next ?_ | refine z_Par ?_ | refine z_SetIx ?_ | refine w_C ?_ | refine w_Bop ?_ | refine w_BopT ?_ | refine w_Cmp ?_ | refine w_Chain ?_ | refine w_Is ?_ | refine w_Neg ?_ | refine w_Not ?_ | refine w_And ?_ | refine w_Or ?_ | refine w_Ite ?_ | refine w_Tup ?_ | refine w_Lst ?_ | refine w_LstT ?_ | refine w_Idx ?_ | refine w_SlcNN ?_ | refine w_SlcNS ?_ | refine w_SlcSN ?_ | refine w_Rev ?_ | refine w_Isi ?_ | refine w_Len ?_ | refine w_Int ?_ | refine w_Bool ?_ | refine w_Max ?_ | refine w_All ?_ | refine w_List ?_ | refine w_ListT ?_ | refine w_Tuple ?_ | refine w_Join ?_ | refine w_Split ?_ | refine w_Call ?_ | refine w_DictOf ?_ | refine w_Dict0 ?_ | refine w_Dict1 ?_ | refine w_Append ?_ | refine w_Extend ?_ | refine w_PopAt ?_ | refine w_Nil ?_ | refine w_Cons ?_ | refine v_Val ?_ | refine v_And ?_ | refine v_Or ?_ | refine v_Cmp ?_ | refine v_Chain ?_ | refine v_Is ?_ | refine v_Not ?_ | refine v_Yes ?_) | ((with_reducible apply w_Var); (focus (exact rfl))) | (with_reducible first | refine wO_some (isi_I (by with_unfolding_all exact rfl)) ?_ | refine wO_some (isi_B (by with_unfolding_all exact rfl)) ?_ | refine wO_some (isi_S (by with_unfolding_all exact rfl)) ?_ | refine wO_some (isi_T (by with_unfolding_all exact rfl)) ?_ | refine wO_some (isi_L (by with_unfolding_all exact rfl)) ?_) | (first | refine ifT rfl ?_ | refine ifF rfl ?_) | (refine wO_some rfl ?_) | refine ⟨_, rfl, ?_⟩))
      exact ⟨rfl, by simp, rfl⟩
    · (repeat (first | (with_reducible first | refine z_Seq ?_ | refine z_SetN ?_ | refine z_Set ?_ | refine z_Ret ?_ | refine z_If ?_ | refine z_Expr ?_ | refine z_Next ?_ | refine z_Par ?_ | refine z_SetIx ?_ | refine w_C ?_ | refine w_Bop ?_ | refine w_BopT ?_ | refine w_Cmp ?_ | refine w_Chain ?_ | refine w_Is ?_ | refine w_Neg ?_ | refine w_Not ?_ | refine w_And ?_ | refine w_Or ?_ | refine w_Ite ?_ | refine w_Tup ?_ | refine w_Lst ?_ | refine w_LstT ?_ | refine w_Idx ?_ | refine w_SlcNN ?_ | refine w_SlcNS ?_ | refine w_SlcSN ?_ | refine w_Rev ?_ | refine w_Isi ?_ | refine w_Len ?_ | refine w_Int ?_ | refine w_Bool ?_ | refine w_Max ?_ | refine w_All ?_ | refine w_List ?_ | refine w_ListT ?_ | refine w_Tuple ?_ | refine w_Join ?_ | refine w_Split ?_ | refine w_Call ?_ | refine w_DictOf ?_ | refine w_Dict0 ?_ | refine w_Dict1 ?_ | refine w_Append ?_ | refine w_Extend ?_ | refine w_PopAt ?_ | refine w_Nil ?_ | refine w_Cons ?_ | refine v_Val ?_ | refine v_And ?_ | refine v_Or ?_ | refine v_Cmp ?_ | refine v_Chain ?_ | refine v_Is ?_ | refine v_Not ?_ | refine v_Yes ?_) | ((with_reducible apply w_Var); (focus (exact rfl))) | (with_reducible first | refine wO_some (isi_I (by with_unfolding_all exact rfl)) ?_ | refine wO_some (isi_B (by with_unfolding_all exact rfl)) ?_ | refine wO_some (isi_S (by with_unfolding_all exact rfl)) ?_ | refine wO_some (isi_T (by with_unfolding_all exact rfl)) ?_ | refine wO_some (isi_L (by with_unfolding_all exact rfl)) ?_) | (first | refine ifT rfl ?_ | refine ifF rfl ?_) | (refine wO_some rfl ?_) | refine ⟨_, rfl, ?_⟩))
      exact ⟨rfl, by simp, rfl⟩
    · rename_i ks xs
      have h : (decide ks.Nodup && xs.all flat) = true := h
      rw [Bool.and_eq_true] at h
      (repeat (first | (with_reducible first | refine z_Seq ?_ | refine z_SetN ?_ | refine z_Set ?_ | refine z_Ret ?_ | refine z_If ?_ | refine z_Expr ?_ | refine z_Next ?_ | refine z_Par ?_ | refine z_SetIx ?_ | refine w_C ?_ | refine w_Bop ?_ | refine w_BopT ?_ | refine w_Cmp ?_ | refine w_Chain ?_ | refine w_Is ?_ | refine w_Neg ?_ | refine w_Not ?_ | refine w_And ?_ | refine w_Or ?_ | refine w_Ite ?_ | refine w_Tup ?_ | refine w_Lst ?_ | refine w_LstT ?_ | refine w_Idx ?_ | refine w_SlcNN ?_ | refine w_SlcNS ?_ | refine w_SlcSN ?_ | refine w_Rev ?_ | refine w_Isi ?_ | refine w_Len ?_ | refine w_Int ?_ | refine w_Bool ?_ | refine w_Max ?_ | refine w_All ?_ | refine w_List ?_ | refine w_ListT ?_ | refine w_Tuple ?_ | refine w_Join ?_ | refine w_Split ?_ | refine w_Call ?_ | refine w_DictOf ?_ | refine w_Dict0 ?_ | refine w_Dict1 ?_ | refine w_Append ?_ | refine w_Extend ?_ | refine w_PopAt ?_ | refine w_Nil ?_ | refine w_Cons ?_ | refine v_Val ?_ | refine v_And ?_ | refine v_Or ?_ | refine v_Cmp ?_ | refine v_Chain ?_ | refine v_Is ?_ | refine v_Not ?_ | refine v_Yes ?_) | ((with_reducible apply w_Var); (focus (exact rfl))) | (with_reducible first | refine wO_some (isi_I (by with_unfolding_all exact rfl)) ?_ | refine wO_some (isi_B (by with_unfolding_all exact rfl)) ?_ | refine wO_some (isi_S (by with_unfolding_all exact rfl)) ?_ | refine wO_some (isi_T (by with_unfolding_all exact rfl)) ?_ | refine wO_some (isi_L (by with_unfolding_all exact rfl)) ?_) | (first | refine ifT rfl ?_ | refine ifF rfl ?_) | (refine wO_some rfl ?_) | refine ⟨_, rfl, ?_⟩))
      have e : cmp .eq (view M (.dic ks xs)) (view M (.dic ks xs)) = some true := by
        show (if (decide (ks = ks) && (decide ks.Nodup && sameFs xs xs)) = true then some true else none) = some true
        rw [h.1, sameFs_refl h.2, decide_eq_true rfl]
        rfl
      exact wO_some e ⟨_, rfl, rfl, rfl, rfl⟩
  intro n
  induction n with
  | zero =>
    intro k d M h
    refine base k d M ?_
    cases d <;> first | rfl | exact h | cases h
  | succ n ih =>
    intro k d M h
    by_cases hl : ∃ xs, d = .lst xs ∨ d = .tup xs
    · obtain ⟨xs, hd⟩ := hl
      have hx : (∀ x ∈ xs, fit n x = true) ∧ xs.length ≤ 1000 := by
        rcases hd with rfl | rfl
        · exact fit_lst.mp h
        · exact fit_tup.mp h
      refine wp_run0 hP rfl rfl ?_
      dsimp only [m_same, List.map, List.append, List.map_cons, List.map_nil, List.length_cons, List.length_nil, List.replicate, List.cons_append, List.nil_append, Nat.reduceSub, Nat.reduceAdd]
      rcases hd with rfl | rfl
      · (repeat (first | (with_reducible first | refine z_Seq ?_ | refine z_SetN ?_ | refine z_Set ?_ | refine z_Ret ?_ | refine z_If ?_ | refine z_Expr ?_ | refine z_Next ?_ | refine z_Par ?_ | refine z_SetIx ?_ | refine w_C ?_ | refine w_Bop ?_ | refine w_BopT ?_ | refine w_Cmp ?_ | refine w_Chain ?_ | refine w_Is ?_ | refine w_Neg ?_ | refine w_Not ?_ | refine w_And ?_ | refine w_Or ?_ | refine w_Ite ?_ | refine w_Tup ?_ | refine w_Lst ?_ | refine w_LstT ?_ | refine w_Idx ?_ | refine w_SlcNN ?_ | refine w_SlcNS ?_ | refine w_SlcSN ?_ | refine w_Rev ?_ | refine w_Isi ?_ | refine w_Len ?_ | refine w_Int ?_ | refine w_Bool ?_ | refine w_Max ?_ | refine w_All ?_ | refine w_List ?_ | refine w_ListT ?_ | refine w_Tuple ?_ | refine w_Join ?_ | refine w_Split ?_ | refine w_Call ?_ | refine w_DictOf ?_ | refine w_Dict0 ?_ | refine w_Dict1 ?_ | refine w_Append ?_ | refine w_Extend ?_ | refine w_PopAt ?_ | refine w_Nil ?_ | refine w_Cons ?_ | refine v_Val ?_ | refine v_And ?_ | refine v_Or ?_ | refine v_Cmp ?_ | refine v_Chain ?_ | refine v_Is ?_ | refine v_Not ?_ | refine v_Yes ?_) | ((with_reducible apply w_Var); (focus (exact rfl))) | (with_reducible first | refine wO_some (isi_I (by with_unfolding_all exact rfl)) ?_ | refine wO_some (isi_B (by with_unfolding_all exact rfl)) ?_ | refine wO_some (isi_S (by with_unfolding_all exact rfl)) ?_ | refine wO_some (isi_T (by with_unfolding_all exact rfl)) ?_ | refine wO_some (isi_L (by with_unfolding_all exact rfl)) ?_) | (first | refine ifT rfl ?_ | refine ifF rfl ?_) | (refine wO_some rfl ?_) | refine ⟨_, rfl, ?_⟩))
        refine ifF (by simp) ?_
        (repeat (first | (with_reducible first | refine z_Seq ?_ | refine z_SetN ?_ | refine z_Set ?_ | refine z_Ret ?_ | refine z_If ?_ | refine z_Expr ?_ | refine z_Next ?_ | refine z_Par ?_ | refine z_SetIx ?_ | refine w_C ?_ | refine w_Bop ?_ | refine w_BopT ?_ | refine w_Cmp ?_ | refine w_Chain ?_ | refine w_Is ?_ | refine w_Neg ?_ | refine w_Not ?_ | refine w_And ?_ | refine w_Or ?_ | refine w_Ite ?_ | refine w_Tup ?_ | refine w_Lst ?_ | refine w_LstT ?_ | refine w_Idx ?_ | refine w_SlcNN ?_ | refine w_SlcNS ?_ | refine w_SlcSN ?_ | refine w_Rev ?_ | refine w_Isi ?_ | refine w_Len ?_ | refine w_Int ?_ | refine w_Bool ?_ | refine w_Max ?_ | refine w_All ?_ | refine w_List ?_ | refine w_ListT ?_ | refine w_Tuple ?_ | refine w_Join ?_ | refine w_Split ?_ | refine w_Call ?_ | refine w_DictOf ?_ | refine w_Dict0 ?_ | refine w_Dict1 ?_ | refine w_Append ?_ | refine w_Extend ?_ | refine w_PopAt ?_ | refine w_Nil ?_ | refine w_Cons ?_ | refine v_Val ?_ | refine v_And ?_ | refine v_Or ?_ | refine v_Cmp ?_ | refine v_Chain ?_ | refine v_Is ?_ | refine v_Not ?_ | refine v_Yes ?_) | ((with_reducible apply w_Var); (focus (exact rfl))) | (with_reducible first | refine wO_some (isi_I (by with_unfolding_all exact rfl)) ?_ | refine wO_some (isi_B (by with_unfolding_all exact rfl)) ?_ | refine wO_some (isi_S (by with_unfolding_all exact rfl)) ?_ | refine wO_some (isi_T (by with_unfolding_all exact rfl)) ?_ | refine wO_some (isi_L (by with_unfolding_all exact rfl)) ?_) | (first | refine ifT rfl ?_ | refine ifF rfl ?_) | (refine wO_some rfl ?_) | refine ⟨_, rfl, ?_⟩))
        refine z_ForF (i_Range ?_)
        (repeat (first | (with_reducible first | refine z_Seq ?_ | refine z_SetN ?_ | refine z_Set ?_ | refine z_Ret ?_ | refine z_If ?_ | refine z_Expr ?_ | refine z_Next ?_ | refine z_Par ?_ | refine z_SetIx ?_ | refine w_C ?_ | refine w_Bop ?_ | refine w_BopT ?_ | refine w_Cmp ?_ | refine w_Chain ?_ | refine w_Is ?_ | refine w_Neg ?_ | refine w_Not ?_ | refine w_And ?_ | refine w_Or ?_ | refine w_Ite ?_ | refine w_Tup ?_ | refine w_Lst ?_ | refine w_LstT ?_ | refine w_Idx ?_ | refine w_SlcNN ?_ | refine w_SlcNS ?_ | refine w_SlcSN ?_ | refine w_Rev ?_ | refine w_Isi ?_ | refine w_Len ?_ | refine w_Int ?_ | refine w_Bool ?_ | refine w_Max ?_ | refine w_All ?_ | refine w_List ?_ | refine w_ListT ?_ | refine w_Tuple ?_ | refine w_Join ?_ | refine w_Split ?_ | refine w_Call ?_ | refine w_DictOf ?_ | refine w_Dict0 ?_ | refine w_Dict1 ?_ | refine w_Append ?_ | refine w_Extend ?_ | refine w_PopAt ?_ | refine w_Nil ?_ | refine w_Cons ?_ | refine v_Val ?_ | refine v_And ?_ | refine v_Or ?_ | refine v_Cmp ?_ | refine v_Chain ?_ | refine v_Is ?_ | refine v_Not ?_ | refine v_Yes ?_) | ((with_reducible apply w_Var); (focus (exact rfl))) | (with_reducible first | refine wO_some (isi_I (by with_unfolding_all exact rfl)) ?_ | refine wO_some (isi_B (by with_unfolding_all exact rfl)) ?_ | refine wO_some (isi_S (by with_unfolding_all exact rfl)) ?_ | refine wO_some (isi_T (by with_unfolding_all exact rfl)) ?_ | refine wO_some (isi_L (by with_unfolding_all exact rfl)) ?_) | (first | refine ifT rfl ?_ | refine ifF rfl ?_) | (refine wO_some rfl ?_) | refine ⟨_, rfl, ?_⟩))
        refine ⟨by omega, ?_⟩
        refine ⟨_, fun i ρ M1 => M1 = M ∧ ∃ o, ρ = [some (D.lst xs), some (D.lst xs), o], rfl, ⟨rfl, _, rfl⟩, ?_, ?_⟩
        · rintro i x ρ M1 hd ⟨rfl, o, rfl⟩
          obtain ⟨hi, rfl⟩ := nums_get hd
          have e : atI xs (i : Int) = some xs[i] := atI_at (List.getElem?_eq_getElem hi)
          (refine wO_some rfl ?_)
          (repeat (first | (with_reducible first | refine z_Seq ?_ | refine z_SetN ?_ | refine z_Set ?_ | refine z_Ret ?_ | refine z_If ?_ | refine z_Expr ?_ | refine z_Next ?_ | refine z_Par ?_ | refine z_SetIx ?_ | refine w_C ?_ | refine w_Bop ?_ | refine w_BopT ?_ | refine w_Cmp ?_ | refine w_Chain ?_ | refine w_Is ?_ | refine w_Neg ?_ | refine w_Not ?_ | refine w_And ?_ | refine w_Or ?_ | refine w_Ite ?_ | refine w_Tup ?_ | refine w_Lst ?_ | refine w_LstT ?_ | refine w_Idx ?_ | refine w_SlcNN ?_ | refine w_SlcNS ?_ | refine w_SlcSN ?_ | refine w_Rev ?_ | refine w_Isi ?_ | refine w_Len ?_ | refine w_Int ?_ | refine w_Bool ?_ | refine w_Max ?_ | refine w_All ?_ | refine w_List ?_ | refine w_ListT ?_ | refine w_Tuple ?_ | refine w_Join ?_ | refine w_Split ?_ | refine w_Call ?_ | refine w_DictOf ?_ | refine w_Dict0 ?_ | refine w_Dict1 ?_ | refine w_Append ?_ | refine w_Extend ?_ | refine w_PopAt ?_ | refine w_Nil ?_ | refine w_Cons ?_ | refine v_Val ?_ | refine v_And ?_ | refine v_Or ?_ | refine v_Cmp ?_ | refine v_Chain ?_ | refine v_Is ?_ | refine v_Not ?_ | refine v_Yes ?_) | ((with_reducible apply w_Var); (focus (exact rfl)))))
          refine wO_some e ?_
          (repeat (first | (with_reducible first | refine z_Seq ?_ | refine z_SetN ?_ | refine z_Set ?_ | refine z_Ret ?_ | refine z_If ?_ | refine z_Expr ?_ | refine z_Next ?_ | refine z_Par ?_ | refine z_SetIx ?_ | refine w_C ?_ | refine w_Bop ?_ | refine w_BopT ?_ | refine w_Cmp ?_ | refine w_Chain ?_ | refine w_Is ?_ | refine w_Neg ?_ | refine w_Not ?_ | refine w_And ?_ | refine w_Or ?_ | refine w_Ite ?_ | refine w_Tup ?_ | refine w_Lst ?_ | refine w_LstT ?_ | refine w_Idx ?_ | refine w_SlcNN ?_ | refine w_SlcNS ?_ | refine w_SlcSN ?_ | refine w_Rev ?_ | refine w_Isi ?_ | refine w_Len ?_ | refine w_Int ?_ | refine w_Bool ?_ | refine w_Max ?_ | refine w_All ?_ | refine w_List ?_ | refine w_ListT ?_ | refine w_Tuple ?_ | refine w_Join ?_ | refine w_Split ?_ | refine w_Call ?_ | refine w_DictOf ?_ | refine w_Dict0 ?_ | refine w_Dict1 ?_ | refine w_Append ?_ | refine w_Extend ?_ | refine w_PopAt ?_ | refine w_Nil ?_ | refine w_Cons ?_ | refine v_Val ?_ | refine v_And ?_ | refine v_Or ?_ | refine v_Cmp ?_ | refine v_Chain ?_ | refine v_Is ?_ | refine v_Not ?_ | refine v_Yes ?_) | ((with_reducible apply w_Var); (focus (exact rfl)))))
          refine wO_some e ?_
          (repeat (first | (with_reducible first | refine z_Seq ?_ | refine z_SetN ?_ | refine z_Set ?_ | refine z_Ret ?_ | refine z_If ?_ | refine z_Expr ?_ | refine z_Next ?_ | refine z_Par ?_ | refine z_SetIx ?_ | refine w_C ?_ | refine w_Bop ?_ | refine w_BopT ?_ | refine w_Cmp ?_ | refine w_Chain ?_ | refine w_Is ?_ | refine w_Neg ?_ | refine w_Not ?_ | refine w_And ?_ | refine w_Or ?_ | refine w_Ite ?_ | refine w_Tup ?_ | refine w_Lst ?_ | refine w_LstT ?_ | refine w_Idx ?_ | refine w_SlcNN ?_ | refine w_SlcNS ?_ | refine w_SlcSN ?_ | refine w_Rev ?_ | refine w_Isi ?_ | refine w_Len ?_ | refine w_Int ?_ | refine w_Bool ?_ | refine w_Max ?_ | refine w_All ?_ | refine w_List ?_ | refine w_ListT ?_ | refine w_Tuple ?_ | refine w_Join ?_ | refine w_Split ?_ | refine w_Call ?_ | refine w_DictOf ?_ | refine w_Dict0 ?_ | refine w_Dict1 ?_ | refine w_Append ?_ | refine w_Extend ?_ | refine w_PopAt ?_ | refine w_Nil ?_ | refine w_Cons ?_ | refine v_Val ?_ | refine v_And ?_ | refine v_Or ?_ | refine v_Cmp ?_ | refine v_Chain ?_ | refine v_Is ?_ | refine v_Not ?_ | refine v_Yes ?_) | ((with_reducible apply w_Var); (focus (exact rfl)))))
          rw [cfl_call]
          refine wpR_imp (ih (hx.1 _ (List.getElem_mem hi))) ?_
          rintro _ M2 ⟨rfl, rfl⟩
          (repeat (first | (with_reducible first | refine z_Seq ?_ | refine z_SetN ?_ | refine z_Set ?_ | refine z_Ret ?_ | refine z_If ?_ | refine z_Expr ?_ | refine z_Next ?_ | refine z_Par ?_ | refine z_SetIx ?_ | refine w_C ?_ | refine w_Bop ?_ | refine w_BopT ?_ | refine w_Cmp ?_ | refine w_Chain ?_ | refine w_Is ?_ | refine w_Neg ?_ | refine w_Not ?_ | refine w_And ?_ | refine w_Or ?_ | refine w_Ite ?_ | refine w_Tup ?_ | refine w_Lst ?_ | refine w_LstT ?_ | refine w_Idx ?_ | refine w_SlcNN ?_ | refine w_SlcNS ?_ | refine w_SlcSN ?_ | refine w_Rev ?_ | refine w_Isi ?_ | refine w_Len ?_ | refine w_Int ?_ | refine w_Bool ?_ | refine w_Max ?_ | refine w_All ?_ | refine w_List ?_ | refine w_ListT ?_ | refine w_Tuple ?_ | refine w_Join ?_ | refine w_Split ?_ | refine w_Call ?_ | refine w_DictOf ?_ | refine w_Dict0 ?_ | refine w_Dict1 ?_ | refine w_Append ?_ | refine w_Extend ?_ | refine w_PopAt ?_ | refine w_Nil ?_ | refine w_Cons ?_ | refine v_Val ?_ | refine v_And ?_ | refine v_Or ?_ | refine v_Cmp ?_ | refine v_Chain ?_ | refine v_Is ?_ | refine v_Not ?_ | refine v_Yes ?_) | ((with_reducible apply w_Var); (focus (exact rfl))) | (with_reducible first | refine wO_some (isi_I (by with_unfolding_all exact rfl)) ?_ | refine wO_some (isi_B (by with_unfolding_all exact rfl)) ?_ | refine wO_some (isi_S (by with_unfolding_all exact rfl)) ?_ | refine wO_some (isi_T (by with_unfolding_all exact rfl)) ?_ | refine wO_some (isi_L (by with_unfolding_all exact rfl)) ?_) | (first | refine ifT rfl ?_ | refine ifF rfl ?_) | (refine wO_some rfl ?_) | refine ⟨_, rfl, ?_⟩))
          exact ⟨rfl, _, rfl⟩
        · rintro ρ M1 ⟨rfl, o, rfl⟩
          (repeat (first | (with_reducible first | refine z_Seq ?_ | refine z_SetN ?_ | refine z_Set ?_ | refine z_Ret ?_ | refine z_If ?_ | refine z_Expr ?_ | refine z_Next ?_ | refine z_Par ?_ | refine z_SetIx ?_ | refine w_C ?_ | refine w_Bop ?_ | refine w_BopT ?_ | refine w_Cmp ?_ | refine w_Chain ?_ | refine w_Is ?_ | refine w_Neg ?_ | refine w_Not ?_ | refine w_And ?_ | refine w_Or ?_ | refine w_Ite ?_ | refine w_Tup ?_ | refine w_Lst ?_ | refine w_LstT ?_ | refine w_Idx ?_ | refine w_SlcNN ?_ | refine w_SlcNS ?_ | refine w_SlcSN ?_ | refine w_Rev ?_ | refine w_Isi ?_ | refine w_Len ?_ | refine w_Int ?_ | refine w_Bool ?_ | refine w_Max ?_ | refine w_All ?_ | refine w_List ?_ | refine w_ListT ?_ | refine w_Tuple ?_ | refine w_Join ?_ | refine w_Split ?_ | refine w_Call ?_ | refine w_DictOf ?_ | refine w_Dict0 ?_ | refine w_Dict1 ?_ | refine w_Append ?_ | refine w_Extend ?_ | refine w_PopAt ?_ | refine w_Nil ?_ | refine w_Cons ?_ | refine v_Val ?_ | refine v_And ?_ | refine v_Or ?_ | refine v_Cmp ?_ | refine v_Chain ?_ | refine v_Is ?_ | refine v_Not ?_ | refine v_Yes ?_) | ((with_reducible apply w_Var); (focus (exact rfl))) | (with_reducible first | refine wO_some (isi_I (by with_unfolding_all exact rfl)) ?_ | refine wO_some (isi_B (by with_unfolding_all exact rfl)) ?_ | refine wO_some (isi_S (by with_unfolding_all exact rfl)) ?_ | refine wO_some (isi_T (by with_unfolding_all exact rfl)) ?_ | refine wO_some (isi_L (by with_unfolding_all exact rfl)) ?_) | (first | refine ifT rfl ?_ | refine ifF rfl ?_) | (refine wO_some rfl ?_) | refine ⟨_, rfl, ?_⟩))
          exact ⟨rfl, rfl, rfl⟩
      · (repeat (first | (with_reducible first | refine z_Seq ?_ | refine z_SetN ?_ | refine z_Set ?_ | refine z_Ret ?_ | refine z_If ?_ | refine z_Expr ?_ | refine z_Next ?_ | refine z_Par ?_ | refine z_SetIx ?_ | refine w_C ?_ | refine w_Bop ?_ | refine w_BopT ?_ | refine w_Cmp ?_ | refine w_Chain ?_ | refine w_Is ?_ | refine w_Neg ?_ | refine w_Not ?_ | refine w_And ?_ | refine w_Or ?_ | refine w_Ite ?_ | refine w_Tup ?_ | refine w_Lst ?_ | refine w_LstT ?_ | refine w_Idx ?_ | refine w_SlcNN ?_ | refine w_SlcNS ?_ | refine w_SlcSN ?_ | refine w_Rev ?_ | refine w_Isi ?_ | refine w_Len ?_ | refine w_Int ?_ | refine w_Bool ?_ | refine w_Max ?_ | refine w_All ?_ | refine w_List ?_ | refine w_ListT ?_ | refine w_Tuple ?_ | refine w_Join ?_ | refine w_Split ?_ | refine w_Call ?_ | refine w_DictOf ?_ | refine w_Dict0 ?_ | refine w_Dict1 ?_ | refine w_Append ?_ | refine w_Extend ?_ | refine w_PopAt ?_ | refine w_Nil ?_ | refine w_Cons ?_ | refine v_Val ?_ | refine v_And ?_ | refine v_Or ?_ | refine v_Cmp ?_ | refine v_Chain ?_ | refine v_Is ?_ | refine v_Not ?_ | refine v_Yes ?_) | ((with_reducible apply w_Var); (focus (exact rfl))) | (with_reducible first | refine wO_some (isi_I (by with_unfolding_all exact rfl)) ?_ | refine wO_some (isi_B (by with_unfolding_all exact rfl)) ?_ | refine wO_some (isi_S (by with_unfolding_all exact rfl)) ?_ | refine wO_some (isi_T (by with_unfolding_all exact rfl)) ?_ | refine wO_some (isi_L (by with_unfolding_all exact rfl)) ?_) | (first | refine ifT rfl ?_ | refine ifF rfl ?_) | (refine wO_some rfl ?_) | refine ⟨_, rfl, ?_⟩))
        refine ifF (by simp) ?_
        (repeat (first | (with_reducible first | refine z_Seq ?_ | refine z_SetN ?_ | refine z_Set ?_ | refine z_Ret ?_ | refine z_If ?_ | refine z_Expr ?_ | refine z_Next ?_ | refine z_Par ?_ | refine z_SetIx ?_ | refine w_C ?_ | refine w_Bop ?_ | refine w_BopT ?_ | refine w_Cmp ?_ | refine w_Chain ?_ | refine w_Is ?_ | refine w_Neg ?_ | refine w_Not ?_ | refine w_And ?_ | refine w_Or ?_ | refine w_Ite ?_ | refine w_Tup ?_ | refine w_Lst ?_ | refine w_LstT ?_ | refine w_Idx ?_ | refine w_SlcNN ?_ | refine w_SlcNS ?_ | refine w_SlcSN ?_ | refine w_Rev ?_ | refine w_Isi ?_ | refine w_Len ?_ | refine w_Int ?_ | refine w_Bool ?_ | refine w_Max ?_ | refine w_All ?_ | refine w_List ?_ | refine w_ListT ?_ | refine w_Tuple ?_ | refine w_Join ?_ | refine w_Split ?_ | refine w_Call ?_ | refine w_DictOf ?_ | refine w_Dict0 ?_ | refine w_Dict1 ?_ | refine w_Append ?_ | refine w_Extend ?_ | refine w_PopAt ?_ | refine w_Nil ?_ | refine w_Cons ?_ | refine v_Val ?_ | refine v_And ?_ | refine v_Or ?_ | refine v_Cmp ?_ | refine v_Chain ?_ | refine v_Is ?_ | refine v_Not ?_ | refine v_Yes ?_) | ((with_reducible apply w_Var); (focus (exact rfl))) | (with_reducible first | refine wO_some (isi_I (by with_unfolding_all exact rfl)) ?_ | refine wO_some (isi_B (by with_unfolding_all exact rfl)) ?_ | refine wO_some (isi_S (by with_unfolding_all exact rfl)) ?_ | refine wO_some (isi_T (by with_unfolding_all exact rfl)) ?_ | refine wO_some (isi_L (by with_unfolding_all exact rfl)) ?_) | (first | refine ifT rfl ?_ | refine ifF rfl ?_) | (refine wO_some rfl ?_) | refine ⟨_, rfl, ?_⟩))
        refine z_ForF (i_Range ?_)
        (repeat (first | (with_reducible first | refine z_Seq ?_ | refine z_SetN ?_ | refine z_Set ?_ | refine z_Ret ?_ | refine z_If ?_ | refine z_Expr ?_ | refine z_Next ?_ | refine z_Par ?_ | refine z_SetIx ?_ | refine w_C ?_ | refine w_Bop ?_ | refine w_BopT ?_ | refine w_Cmp ?_ | refine w_Chain ?_ | refine w_Is ?_ | refine w_Neg ?_ | refine w_Not ?_ | refine w_And ?_ | refine w_Or ?_ | refine w_Ite ?_ | refine w_Tup ?_ | refine w_Lst ?_ | refine w_LstT ?_ | refine w_Idx ?_ | refine w_SlcNN ?_ | refine w_SlcNS ?_ | refine w_SlcSN ?_ | refine w_Rev ?_ | refine w_Isi ?_ | refine w_Len ?_ | refine w_Int ?_ | refine w_Bool ?_ | refine w_Max ?_ | refine w_All ?_ | refine w_List ?_ | refine w_ListT ?_ | refine w_Tuple ?_ | refine w_Join ?_ | refine w_Split ?_ | refine w_Call ?_ | refine w_DictOf ?_ | refine w_Dict0 ?_ | refine w_Dict1 ?_ | refine w_Append ?_ | refine w_Extend ?_ | refine w_PopAt ?_ | refine w_Nil ?_ | refine w_Cons ?_ | refine v_Val ?_ | refine v_And ?_ | refine v_Or ?_ | refine v_Cmp ?_ | refine v_Chain ?_ | refine v_Is ?_ | refine v_Not ?_ | refine v_Yes ?_) | ((with_reducible apply w_Var); (focus (exact rfl))) | (with_reducible first | refine wO_some (isi_I (by with_unfolding_all exact rfl)) ?_ | refine wO_some (isi_B (by with_unfolding_all exact rfl)) ?_ | refine wO_some (isi_S (by with_unfolding_all exact rfl)) ?_ | refine wO_some (isi_T (by with_unfolding_all exact rfl)) ?_ | refine wO_some (isi_L (by with_unfolding_all exact rfl)) ?_) | (first | refine ifT rfl ?_ | refine ifF rfl ?_) | (refine wO_some rfl ?_) | refine ⟨_, rfl, ?_⟩))
        refine ⟨by omega, ?_⟩
        refine ⟨_, fun i ρ M1 => M1 = M ∧ ∃ o, ρ = [some (D.tup xs), some (D.tup xs), o], rfl, ⟨rfl, _, rfl⟩, ?_, ?_⟩
        · rintro i x ρ M1 hd ⟨rfl, o, rfl⟩
          obtain ⟨hi, rfl⟩ := nums_get hd
          have e : atI xs (i : Int) = some xs[i] := atI_at (List.getElem?_eq_getElem hi)
          (refine wO_some rfl ?_)
          (repeat (first | (with_reducible first | refine z_Seq ?_ | refine z_SetN ?_ | refine z_Set ?_ | refine z_Ret ?_ | refine z_If ?_ | refine z_Expr ?_ | refine z_Next ?_ | refine z_Par ?_ | refine z_SetIx ?_ | refine w_C ?_ | refine w_Bop ?_ | refine w_BopT ?_ | refine w_Cmp ?_ | refine w_Chain ?_ | refine w_Is ?_ | refine w_Neg ?_ | refine w_Not ?_ | refine w_And ?_ | refine w_Or ?_ | refine w_Ite ?_ | refine w_Tup ?_ | refine w_Lst ?_ | refine w_LstT ?_ | refine w_Idx ?_ | refine w_SlcNN ?_ | refine w_SlcNS ?_ | refine w_SlcSN ?_ | refine w_Rev ?_ | refine w_Isi ?_ | refine w_Len ?_ | refine w_Int ?_ | refine w_Bool ?_ | refine w_Max ?_ | refine w_All ?_ | refine w_List ?_ | refine w_ListT ?_ | refine w_Tuple ?_ | refine w_Join ?_ | refine w_Split ?_ | refine w_Call ?_ | refine w_DictOf ?_ | refine w_Dict0 ?_ | refine w_Dict1 ?_ | refine w_Append ?_ | refine w_Extend ?_ | refine w_PopAt ?_ | refine w_Nil ?_ | refine w_Cons ?_ | refine v_Val ?_ | refine v_And ?_ | refine v_Or ?_ | refine v_Cmp ?_ | refine v_Chain ?_ | refine v_Is ?_ | refine v_Not ?_ | refine v_Yes ?_) | ((with_reducible apply w_Var); (focus (exact rfl)))))
          refine wO_some e ?_
          (repeat (first | (with_reducible first | refine z_Seq ?_ | refine z_SetN ?_ | refine z_Set ?_ | refine z_Ret ?_ | refine z_If ?_ | refine z_Expr ?_ | refine z_Next ?_ | refine z_Par ?_ | refine z_SetIx ?_ | refine w_C ?_ | refine w_Bop ?_ | refine w_BopT ?_ | refine w_Cmp ?_ | refine w_Chain ?_ | refine w_Is ?_ | refine w_Neg ?_ | refine w_Not ?_ | refine w_And ?_ | refine w_Or ?_ | refine w_Ite ?_ | refine w_Tup ?_ | refine w_Lst ?_ | refine w_LstT ?_ | refine w_Idx ?_ | refine w_SlcNN ?_ | refine w_SlcNS ?_ | refine w_SlcSN ?_ | refine w_Rev ?_ | refine w_Isi ?_ | refine w_Len ?_ | refine w_Int ?_ | refine w_Bool ?_ | refine w_Max ?_ | refine w_All ?_ | refine w_List ?_ | refine w_ListT ?_ | refine w_Tuple ?_ | refine w_Join ?_ | refine w_Split ?_ | refine w_Call ?_ | refine w_DictOf ?_ | refine w_Dict0 ?_ | refine w_Dict1 ?_ | refine w_Append ?_ | refine w_Extend ?_ | refine w_PopAt ?_ | refine w_Nil ?_ | refine w_Cons ?_ | refine v_Val ?_ | refine v_And ?_ | refine v_Or ?_ | refine v_Cmp ?_ | refine v_Chain ?_ | refine v_Is ?_ | refine v_Not ?_ | refine v_Yes ?_) | ((with_reducible apply w_Var); (focus (exact rfl)))))
          refine wO_some e ?_
          (repeat (first | (with_reducible first | refine z_Seq ?_ | refine z_SetN ?_ | refine z_Set ?_ | refine z_Ret ?_ | refine z_If ?_ | refine z_Expr ?_ | refine z_Next ?_ | refine z_Par ?_ | refine z_SetIx ?_ | refine w_C ?_ | refine w_Bop ?_ | refine w_BopT ?_ | refine w_Cmp ?_ | refine w_Chain ?_ | refine w_Is ?_ | refine w_Neg ?_ | refine w_Not ?_ | refine w_And ?_ | refine w_Or ?_ | refine w_Ite ?_ | refine w_Tup ?_ | refine w_Lst ?_ | refine w_LstT ?_ | refine w_Idx ?_ | refine w_SlcNN ?_ | refine w_SlcNS ?_ | refine w_SlcSN ?_ | refine w_Rev ?_ | refine w_Isi ?_ | refine w_Len ?_ | refine w_Int ?_ | refine w_Bool ?_ | refine w_Max ?_ | refine w_All ?_ | refine w_List ?_ | refine w_ListT ?_ | refine w_Tuple ?_ | refine w_Join ?_ | refine w_Split ?_ | refine w_Call ?_ | refine w_DictOf ?_ | refine w_Dict0 ?_ | refine w_Dict1 ?_ | refine w_Append ?_ | refine w_Extend ?_ | refine w_PopAt ?_ | refine w_Nil ?_ | refine w_Cons ?_ | refine v_Val ?_ | refine v_And ?_ | refine v_Or ?_ | refine v_Cmp ?_ | refine v_Chain ?_ | refine v_Is ?_ | refine v_Not ?_ | refine v_Yes ?_) | ((with_reducible apply w_Var); (focus (exact rfl)))))
          rw [cfl_call]
          refine wpR_imp (ih (hx.1 _ (List.getElem_mem hi))) ?_
          rintro _ M2 ⟨rfl, rfl⟩
          (repeat (first | (with_reducible first | refine z_Seq ?_ | refine z_SetN ?_ | refine z_Set ?_ | refine z_Ret ?_ | refine z_If ?_ | refine z_Expr ?_ | refine z_Next ?_ | refine z_Par ?_ | refine z_SetIx ?_ | refine w_C ?_ | refine w_Bop ?_ | refine w_BopT ?_ | refine w_Cmp ?_ | refine w_Chain ?_ | refine w_Is ?_ | refine w_Neg ?_ | refine w_Not ?_ | refine w_And ?_ | refine w_Or ?_ | refine w_Ite ?_ | refine w_Tup ?_ | refine w_Lst ?_ | refine w_LstT ?_ | refine w_Idx ?_ | refine w_SlcNN ?_ | refine w_SlcNS ?_ | refine w_SlcSN ?_ | refine w_Rev ?_ | refine w_Isi ?_ | refine w_Len ?_ | refine w_Int ?_ | refine w_Bool ?_ | refine w_Max ?_ | refine w_All ?_ | refine w_List ?_ | refine w_ListT ?_ | refine w_Tuple ?_ | refine w_Join ?_ | refine w_Split ?_ | refine w_Call ?_ | refine w_DictOf ?_ | refine w_Dict0 ?_ | refine w_Dict1 ?_ | refine w_Append ?_ | refine w_Extend ?_ | refine w_PopAt ?_ | refine w_Nil ?_ | refine w_Cons ?_ | refine v_Val ?_ | refine v_And ?_ | refine v_Or ?_ | refine v_Cmp ?_ | refine v_Chain ?_ | refine v_Is ?_ | refine v_Not ?_ | refine v_Yes ?_) | ((with_reducible apply w_Var); (focus (exact rfl))) | (with_reducible first | refine wO_some (isi_I (by with_unfolding_all exact rfl)) ?_ | refine wO_some (isi_B (by with_unfolding_all exact rfl)) ?_ | refine wO_some (isi_S (by with_unfolding_all exact rfl)) ?_ | refine wO_some (isi_T (by with_unfolding_all exact rfl)) ?_ | refine wO_some (isi_L (by with_unfolding_all exact rfl)) ?_) | (first | refine ifT rfl ?_ | refine ifF rfl ?_) | (refine wO_some rfl ?_) | refine ⟨_, rfl, ?_⟩))
          exact ⟨rfl, _, rfl⟩
        · rintro ρ M1 ⟨rfl, o, rfl⟩
          (repeat (first | (with_reducible first | refine z_Seq ?_ | refine z_SetN ?_ | refine z_Set ?_ | refine z_Ret ?_ | refine z_If ?_ | refine z_Expr ?_ | refine z_Next ?_ | refine z_Par ?_ | refine z_SetIx ?_ | refine w_C ?_ | refine w_Bop ?_ | refine w_BopT ?_ | refine w_Cmp ?_ | refine w_Chain ?_ | refine w_Is ?_ | refine w_Neg ?_ | refine w_Not ?_ | refine w_And ?_ | refine w_Or ?_ | refine w_Ite ?_ | refine w_Tup ?_ | refine w_Lst ?_ | refine w_LstT ?_ | refine w_Idx ?_ | refine w_SlcNN ?_ | refine w_SlcNS ?_ | refine w_SlcSN ?_ | refine w_Rev ?_ | refine w_Isi ?_ | refine w_Len ?_ | refine w_Int ?_ | refine w_Bool ?_ | refine w_Max ?_ | refine w_All ?_ | refine w_List ?_ | refine w_ListT ?_ | refine w_Tuple ?_ | refine w_Join ?_ | refine w_Split ?_ | refine w_Call ?_ | refine w_DictOf ?_ | refine w_Dict0 ?_ | refine w_Dict1 ?_ | refine w_Append ?_ | refine w_Extend ?_ | refine w_PopAt ?_ | refine w_Nil ?_ | refine w_Cons ?_ | refine v_Val ?_ | refine v_And ?_ | refine v_Or ?_ | refine v_Cmp ?_ | refine v_Chain ?_ | refine v_Is ?_ | refine v_Not ?_ | refine v_Yes ?_) | ((with_reducible apply w_Var); (focus (exact rfl))) | (with_reducible first | refine wO_some (isi_I (by with_unfolding_all exact rfl)) ?_ | refine wO_some (isi_B (by with_unfolding_all exact rfl)) ?_ | refine wO_some (isi_S (by with_unfolding_all exact rfl)) ?_ | refine wO_some (isi_T (by with_unfolding_all exact rfl)) ?_ | refine wO_some (isi_L (by with_unfolding_all exact rfl)) ?_) | (first | refine ifT rfl ?_ | refine ifF rfl ?_) | (refine wO_some rfl ?_) | refine ⟨_, rfl, ?_⟩))
          exact ⟨rfl, rfl, rfl⟩
    · refine base (k + (n + 1)) d M ?_
      cases d <;> first | rfl | exact h | (exact (hl ⟨_, .inl rfl⟩).elim) | (exact (hl ⟨_, .inr rfl⟩).elim) | cases h
end MP

set_option Elab.async false
set_option linter.all false
set_option maxRecDepth 100000
set_option maxHeartbeats 4000000
/-! MiniPy, the mathematics 4: a list of one's own that grows behind the jar. -/
namespace MP
open PySem PySem.Spec PyProof.Rows L2
theorem add_lst {xs ys : List D} (h : xs.length + ys.length ≤ line) : bop .add (.lst xs) (.lst ys) = some (.lst (xs ++ ys)) := if_pos h
theorem add_tup {xs ys : List D} (h : xs.length + ys.length ≤ line) : bop .add (.tup xs) (.tup ys) = some (.tup (xs ++ ys)) := if_pos h
theorem add_str {s t : Str} (h : s.length + t.length ≤ line) : bop .add (.str s) (.str t) = some (.str (s ++ t)) := if_pos h
theorem str_add_len {s t : Str} : (s ++ t).length = s.length + t.length := by
  show (s.cps ++ t.cps).size = _
  rw [Array.size_append]
  rfl
/-- the list that stands at once behind T -/
theorem own_get {b : Nat} {T M : Mh} {xs : List D} (j : Jr b (T ++ [.lst xs]) M) : M[T.length + 1]? = some (.lst xs) := by
  rw [j.get]
  simp
theorem own_getL {b : Nat} {T M : Mh} {xs : List D} (j : Jr b (T ++ [.lst xs]) M) : getL M (T.length + 1) = some xs := by
  rw [j.getL]
  exact getL_app rfl
theorem own_view {b : Nat} {T M : Mh} {xs : List D} (j : Jr b (T ++ [.lst xs]) M) : view M (.h (T.length + 1)) = .lst xs := by
  show (match M[T.length + 1]? with | some (O.lst xs) => D.lst xs | _ => _) = _
  rw [own_get j]
theorem own_set {b : Nat} {T M : Mh} {xs ys : List D} (j : Jr b (T ++ [.lst xs]) M) : Jr b (T ++ [.lst ys]) (M.set (T.length + 1) (.lst ys)) := by
  have := j.set T.length (.lst ys)
  rw [set_app rfl] at this
  exact this
theorem own_new {b : Nat} {T M : Mh} {xs : List D} (j : Jr b T M) : M.length = T.length + 1 ∧ Jr b (T ++ [.lst xs]) (M ++ [.lst xs]) := ⟨j.len, j.app _⟩
section
variable {c : Cf} {ρ : Rho} {M : Mh} {T : Mh} {b : Nat} {xs : List D} {Qn : Rho → Mh → Prop} {Qr : D → Mh → Prop} {i : Nat} {e : ES}
theorem z_Ext (hv : ρ[i]? = some (some (.h (T.length + 1)))) (j : Jr b (T ++ [.lst xs]) M) (h : wpR (e c ρ M) fun y M2 => ∃ ys b', y = .lst ys ∧ Jr b' (T ++ [.lst xs]) M2 ∧ xs.length + ys.length ≤ line ∧ ∀ M3, Jr b' (T ++ [.lst (xs ++ ys)]) M3 → Qn ρ M3) : wpS (zExpr (sExtend (sVar i) e) c ρ M) Qn Qr :=
  z_Expr (w_Extend (w_Var hv ⟨_, _, rfl, own_getL j, wpR_imp h fun y M2 ⟨ys, b', e1, j2, hl, q⟩ => ⟨xs, ys, own_getL j2, e1, hl, q _ (own_set j2)⟩⟩))
theorem z_App (hv : ρ[i]? = some (some (.h (T.length + 1)))) (j : Jr b (T ++ [.lst xs]) M) (h : wpR (e c ρ M) fun y M2 => ∃ b', Jr b' (T ++ [.lst xs]) M2 ∧ xs.length < line ∧ ∀ M3, Jr b' (T ++ [.lst (xs ++ [y])]) M3 → Qn ρ M3) : wpS (zExpr (sAppend (sVar i) e) c ρ M) Qn Qr :=
  z_Expr (w_Append (w_Var hv ⟨_, _, rfl, own_getL j, wpR_imp h fun y M2 ⟨b', j2, hl, q⟩ => ⟨xs, own_getL j2, hl, q _ (own_set j2)⟩⟩))
end
theorem end_own {n0 b : Nat} {T M : Mh} {xs : List D} {Q : D → Mh → Prop} (j0 : n0 = T.length + 1) (j : Jr b (T ++ [.lst xs]) M) (hx : noHs 0 xs = true) (hT : T.all (noHO 0) = true) (q : ∀ M', Jr b T M' → Q (.lst xs) M') : n0 ≤ M.length ∧ EndV n0 (.h (T.length + 1)) M Q := by
  have jt := j.take (n := T.length)
  rw [List.take_left] at jt
  subst j0
  refine ⟨by rw [j.len]; simp, .inr (.inr ⟨_, xs, rfl, by omega, own_get j, (noH_mono (Nat.zero_le _)).2 _ hx, ?_, ?_⟩)⟩
  · exact jt.noH (noHO_mono (Nat.zero_le _) hT)
  · exact q _ jt
theorem end_val {n0 b : Nat} {T S M : Mh} {d : D} {Q : D → Mh → Prop} (j0 : n0 = T.length + 1) (j : Jr b (T ++ S) M) (hd : noH 0 d = true) (hT : T.all (noHO 0) = true) (q : ∀ M', Jr b T M' → Q d M') : n0 ≤ M.length ∧ EndV n0 d M Q := by
  have jt := j.take (n := T.length)
  rw [List.take_left] at jt
  subst j0
  refine ⟨by rw [j.len]; simp, .inr (.inl ⟨?_, (noH_mono (Nat.zero_le _)).1 _ hd, ?_, ?_⟩)⟩
  · exact jt.noH (noHO_mono (Nat.zero_le _) hT)
  · intro m e
    subst e
    have : m < 0 := of_decide_eq_true hd
    omega
  · exact q _ jt
/-- one sign -/
def sgn (d : D) : Prop := ∃ c, d = .str ⟨#[c]⟩
theorem sgn_signs {s : Str} {d : D} (h : d ∈ signs s) : sgn d := by
  obtain ⟨c, _, rfl⟩ := List.mem_map.mp h
  exact ⟨c, rfl⟩
theorem sgn_all {ys : List D} (h : ∀ y ∈ ys, sgn y) : ∃ zs : List Str, allStr ys = some zs ∧ zs.length = ys.length ∧ (zs.map (fun (y : Str) => y.length)).sum = ys.length := by
  induction ys with
  | nil => exact ⟨[], rfl, rfl, rfl⟩
  | cons y ys ih =>
    obtain ⟨zs, e1, e2, e3⟩ := ih fun z hz => h z (List.mem_cons_of_mem _ hz)
    obtain ⟨c, rfl⟩ := h y List.mem_cons_self
    refine ⟨⟨#[c]⟩ :: zs, ?_, by rw [List.length_cons, e2, List.length_cons], ?_⟩
    · show (allStr ys).map (_ :: ·) = _
      rw [e1]
      rfl
    · rw [List.map_cons, List.sum_cons, e3, List.length_cons]
      show 1 + _ = _
      omega
theorem join_len {ys : List D} {zs : List Str} {s : Str} (hs : s.length = 0) (h : (zs.map (fun (y : Str) => y.length)).sum = ys.length) : (Txt.join s zs).length = ys.length := by
  unfold Txt.join
  rw [PySem.size_glued, hs, Nat.mul_zero, Nat.add_zero]
  exact h
/-- "".join([.. for k in range(..)]) of single signs -/
theorem w_Word {c : Cf} {ρ : Rho} {M : Mh} (T : Mh) {m v : Nat} {s : Str} {r : ES} {e : ES} {Q : D → Mh → Prop} (hs : s.length = 0) (hm : m ≤ 1000)
    (hr : wpR (r c ρ M) fun x M1 => ∃ (n : Nat) (b1 : Nat), x = .int n ∧ n ≤ m ∧ Jr b1 T M1 ∧ (∀ i : Nat, ∀ M2, Jr (b1 + i) T M2 → i < n → wpR (e c ((wipeR ρ [v]).set v (some (.int i))) M2) fun y M3 => sgn y ∧ Jr (b1 + (i + 1)) T M3) ∧ ∀ (w : Str) (M4 : Mh), w.length ≤ m → Jr (b1 + n) T M4 → Q (.str w) M4) :
    wpR (sJoin (sC (.str s)) (sLc false (iRange r) (.nm v) [v] tYes e) c ρ M) Q := by
  refine w_Join (w_C ⟨_, rfl, w_LcF (i_Range (wpR_imp hr ?_))⟩)
  rintro x M1 ⟨n, b1, rfl, hn, j1, step, q⟩
  refine ⟨n, rfl, by omega, nums n, fun i ys M => Jr (b1 + i) T M ∧ ys.length = i ∧ ∀ y ∈ ys, sgn y, rfl, by rw [nums_len]; show n ≤ 16777216; omega, ⟨j1, rfl, fun y hy => by cases hy⟩, ?_, ?_⟩
  · rintro i d ys M2 hd ⟨j2, hl, hy⟩
    obtain ⟨hi, rfl⟩ := nums_get hd
    refine wO_some rfl (v_Yes (ifT rfl (wpR_imp (step i M2 j2 hi) ?_)))
    rintro y M3 ⟨hy1, j3⟩
    refine ⟨j3, by rw [List.length_append, hl]; rfl, fun z hz => ?_⟩
    rcases List.mem_append.mp hz with h | h
    · exact hy z h
    · rw [List.mem_singleton.mp h]
      exact hy1
  · rintro ys M2 ⟨j2, hl, hy⟩
    rw [nums_len] at hl j2
    obtain ⟨zs, e1, e2, e3⟩ := sgn_all hy
    refine ⟨ys, zs, rfl, e1, by rw [e3, hs]; omega, q _ _ ?_ j2⟩
    rw [join_len hs e3, hl]
    exact hn
/-! ### lists of fit things -/
def Fits (n m : Nat) (xs : List D) : Prop := (∀ x ∈ xs, fit n x = true) ∧ xs.length ≤ m
theorem Fits.app {n a b : Nat} {xs ys : List D} (h : Fits n a xs) (g : Fits n b ys) : Fits n (a + b) (xs ++ ys) := ⟨fun x hx => (List.mem_append.mp hx).elim (h.1 x) (g.1 x), by rw [List.length_append]; have := h.2; have := g.2; omega⟩
theorem Fits.of {n a : Nat} {xs : List D} (h : (xs.all (fit n) && decide (xs.length ≤ a)) = true) : Fits n a xs := by
  rw [Bool.and_eq_true, List.all_eq_true, decide_eq_true_eq] at h
  exact h
theorem Fits.one {n : Nat} {x : D} (h : fit n x = true) : Fits n 1 [x] := ⟨fun y hy => by rw [List.mem_singleton.mp hy]; exact h, Nat.le_refl _⟩
theorem Fits.le {n a b : Nat} {xs : List D} (h : Fits n a xs) (hb : a ≤ b) : Fits n b xs := ⟨h.1, by have := h.2; omega⟩
theorem Fits.up {n m a : Nat} {xs : List D} (h : Fits n a xs) (hb : n ≤ m) : Fits m a xs := ⟨fun x hx => fit_le hb (h.1 x hx), h.2⟩
theorem Fits.noH {n a : Nat} {xs : List D} (h : Fits n a xs) : noHs 0 xs = true := noHs_iff.mpr fun d hd => fit_noH (h.1 d hd)
theorem Fits.cons {n a : Nat} {x : D} {xs : List D} (h : fit n x = true) (g : Fits n a xs) : Fits n (a + 1) (x :: xs) := ⟨fun y hy => (List.mem_cons.mp hy).elim (fun e => by rw [e]; exact h) (g.1 y), by rw [List.length_cons]; have := g.2; omega⟩
theorem Fits.nil {n a : Nat} : Fits n a [] := ⟨fun y hy => (by cases hy), Nat.zero_le _⟩
theorem Fits.add_le {n m a b : Nat} {xs ys : List D} (h : Fits n a xs) (g : Fits m b ys) (hl : a + b ≤ 16777216) : xs.length + ys.length ≤ line := by
  have := h.2
  have := g.2
  show _ ≤ 16777216
  omega
section
variable {c : Cf} {ρ : Rho} {M : Mh} {T : Mh} {b n a : Nat} {xs : List D} {Qn : Rho → Mh → Prop} {Qr : D → Mh → Prop} {i : Nat} {e : ES}
theorem z_ExtF (hv : ρ[i]? = some (some (.h (T.length + 1)))) (j : Jr b (T ++ [.lst xs]) M) (f : Fits n a xs) (h : wpR (e c ρ M) fun y M2 => ∃ ys m b', y = .lst ys ∧ Jr b' (T ++ [.lst xs]) M2 ∧ Fits n m ys ∧ a + m ≤ 16777216 ∧ ∀ xs' M3, Fits n (a + m) xs' → Jr b' (T ++ [.lst xs']) M3 → Qn ρ M3) : wpS (zExpr (sExtend (sVar i) e) c ρ M) Qn Qr :=
  z_Ext hv j (wpR_imp h fun y M2 ⟨ys, m, b', e1, j2, g, hl, q⟩ => ⟨ys, b', e1, j2, f.add_le g hl, fun M3 j3 => q _ _ (f.app g) j3⟩)
theorem z_AppF (hv : ρ[i]? = some (some (.h (T.length + 1)))) (j : Jr b (T ++ [.lst xs]) M) (f : Fits n a xs) (ha : a < 16777216) (h : wpR (e c ρ M) fun y M2 => ∃ b', Jr b' (T ++ [.lst xs]) M2 ∧ fit n y = true ∧ ∀ xs' M3, Fits n (a + 1) xs' → Jr b' (T ++ [.lst xs']) M3 → Qn ρ M3) : wpS (zExpr (sAppend (sVar i) e) c ρ M) Qn Qr :=
  z_App hv j (wpR_imp h fun y M2 ⟨b', j2, g, q⟩ => ⟨b', j2, by have := f.2; show _ < 16777216; omega, fun M3 j3 => q _ _ (f.app (Fits.one g)) j3⟩)
end
def lstOf (s : SR) : List D := match s with
  | .rt (.lst xs) _ => xs
  | _ => []
end MP

set_option Elab.async false
set_option linter.all false
set_option maxRecDepth 100000
/-! the law's text, def by def. -/
namespace MP.K01
open PySem PySem.Spec PyProof.Rows L2 MP
def top (i : Nat) : Stmt := PySem.Challenge.pw_keptforraw_k01_values_judged.main.body.getD i (.Pass ⟨0, 0, 0, 0⟩)
def k_LETTERS : D := (.str "abcdefghijklmnopqrstuvwxyz")
def k_SIGNS : D := (.str "abcdefghijklmnopqrstuvwxyz0123456789 ")
def k_WORDS : D := (.kls [(.str "last"), (.str "where"), (.str "with"), (.str "keep"), (.str "rename"), (.str "join"), (.str "union"), (.str "minus"), (.str "group"), (.str "count"), (.str "sum"), (.str "least"), (.str "greatest"), (.str "and"), (.str "or"), (.str "not"), (.str "today")])
def k_KINDS : D := (.kls [(.str "number"), (.str "text")])
def k_LAST_DAY : D := (.int 999)
def k_MOST_COLUMNS : D := (.int 10)
def cons : List (Str × D) := [("LETTERS", k_LETTERS), ("SIGNS", k_SIGNS), ("WORDS", k_WORDS), ("KINDS", k_KINDS), ("LAST_DAY", k_LAST_DAY), ("MOST_COLUMNS", k_MOST_COLUMNS)]
def free : List Str := ["isinstance", "int", "bool", "str", "len", "all", "list", "tuple", "dict", "max", "range", "zip"]
def fns : List Str := (["is_integer", "is_name", "is_value", "kind_of", "is_day", "is_column", "is_columns", "is_row", "_law_pool", "_law_take", "_law_one", "_law_mixed", "_law_yq_is_whole", "_law_yq_same", "_law_kr_is_whole", "_law_kr_words", "_law_kr_is_name", "_law_kr_is_text", "_law_kr_is_value", "_law_kr_is_day", "_law_kr_is_column", "_law_kr_is_columns", "_law_kr_is_of", "_law_kr_is_row", "_law_kr_names", "_law_kr_drawn_value", "_law_kr_drawn_row", "_law_plain", "_law_name_things", "_law_value_things", "_law_day_things", "_law_columns_things", "_law_heard_judge", "_law_owed", "_law_heard_row", "_law_rows_right", "law"] : List String).map Str.ofString
def hearers : List (Str × Str) := [("_law_heard", "told")]
def S_is_integer : Sta := { N := ["value"], sc := defScope (top 7), free := free, cons := cons, fns := fns, hears := [], mtb := fun p => decide (p ∈ ([] : List Pos)), top := true }
def m_is_integer : Def := ⟨1, 1, false,
  (zRet (sAnd (sIsi (sVar 0) "int") (sNot (sIsi (sVar 0) "bool"))))⟩
theorem c_is_integer : cSs 60 S_is_integer (defBody (top 7)) = some m_is_integer.body := by kernel_rfl
def S_is_name : Sta := { N := ["value", "letter"], sc := defScope (top 8), free := free, cons := cons, fns := fns, hears := [], mtb := fun p => decide (p ∈ ([] : List Pos)), top := true }
def m_is_name : Def := ⟨2, 1, false,
  (zSeq (zIf (tOr (tNot (tVal (sIsi (sVar 0) "str"))) (tOr (tNot (tChain .le .le (sC (.int 1)) (sLen (sVar 0)) (sC (.int 8)))) (tCmp .inn (sVar 0) (sC k_WORDS))))
  (zRet (sC (.bl false)))
  zNext)
  (zRet (sAll (sLc false (iVal (sVar 0)) (.nm 1) [1] tYes (sCmp .inn (sVar 1) (sC k_LETTERS))))))⟩
theorem c_is_name : cSs 60 S_is_name (defBody (top 8)) = some m_is_name.body := by kernel_rfl
def S_is_value : Sta := { N := ["value", "sign"], sc := defScope (top 9), free := free, cons := cons, fns := fns, hears := [], mtb := fun p => decide (p ∈ ([] : List Pos)), top := true }
def m_is_value : Def := ⟨2, 1, false,
  (zSeq (zIf (tVal (sIsi (sVar 0) "str"))
  (zRet (sAnd (sCmp .le (sLen (sVar 0)) (sC (.int 20))) (sAll (sLc false (iVal (sVar 0)) (.nm 1) [1] tYes (sCmp .inn (sVar 1) (sC k_SIGNS))))))
  zNext)
  (zRet (sCall "is_integer" (aCons (sVar 0) aNil))))⟩
theorem c_is_value : cSs 60 S_is_value (defBody (top 9)) = some m_is_value.body := by kernel_rfl
def S_kind_of : Sta := { N := ["value"], sc := defScope (top 10), free := free, cons := cons, fns := fns, hears := [], mtb := fun p => decide (p ∈ ([] : List Pos)), top := true }
def m_kind_of : Def := ⟨1, 1, false,
  (zRet (sIte (tVal (sIsi (sVar 0) "str")) (sC (.str "text")) (sC (.str "number"))))⟩
theorem c_kind_of : cSs 60 S_kind_of (defBody (top 10)) = some m_kind_of.body := by kernel_rfl
def S_is_day : Sta := { N := ["value"], sc := defScope (top 11), free := free, cons := cons, fns := fns, hears := [], mtb := fun p => decide (p ∈ ([] : List Pos)), top := true }
def m_is_day : Def := ⟨1, 1, false,
  (zRet (sAnd (sCall "is_integer" (aCons (sVar 0) aNil)) (sChain .le .le (sC (.int 0)) (sVar 0) (sC k_LAST_DAY))))⟩
theorem c_is_day : cSs 60 S_is_day (defBody (top 11)) = some m_is_day.body := by kernel_rfl
def S_is_column : Sta := { N := ["value"], sc := defScope (top 12), free := free, cons := cons, fns := fns, hears := [], mtb := fun p => decide (p ∈ ([] : List Pos)), top := true }
def m_is_column : Def := ⟨1, 1, false,
  (zSeq (zIf (tOr (tNot (tVal (sIsi (sVar 0) "tuple"))) (tOr (tCmp .ne (sLen (sVar 0)) (sC (.int 2))) (tNot (tVal (sCall "is_name" (aCons (sIdx (sVar 0) (sC (.int 0))) aNil))))))
  (zRet (sC (.bl false)))
  zNext)
  (zRet (sAnd (sIsi (sIdx (sVar 0) (sC (.int 1))) "str") (sCmp .inn (sIdx (sVar 0) (sC (.int 1))) (sC k_KINDS)))))⟩
theorem c_is_column : cSs 60 S_is_column (defBody (top 12)) = some m_is_column.body := by kernel_rfl
def S_is_columns : Sta := { N := ["value", "column", "name", "kind"], sc := defScope (top 13), free := free, cons := cons, fns := fns, hears := [], mtb := fun p => decide (p ∈ ([] : List Pos)), top := true }
def m_is_columns : Def := ⟨4, 1, false,
  (zSeq (zIf (tOr (tNot (tVal (sIsi (sVar 0) "list"))) (tNot (tChain .le .le (sC (.int 1)) (sLen (sVar 0)) (sC k_MOST_COLUMNS))))
  (zRet (sC (.bl false)))
  zNext)
  (zSeq (zIf (tNot (tVal (sAll (sLc false (iVal (sVar 0)) (.nm 1) [1] tYes (sCall "is_column" (aCons (sVar 1) aNil))))))
  (zRet (sC (.bl false)))
  zNext)
  (zRet (sCmp .eq (sLenSet (iVal (sVar 0)) (.tup [(.nm 2), (.nm 3)]) [2, 3] tYes (sVar 2)) (sLen (sVar 0))))))⟩
theorem c_is_columns : cSs 60 S_is_columns (defBody (top 13)) = some m_is_columns.body := by kernel_rfl
def S_is_row : Sta := { N := ["value", "columns", "one", "name", "kind"], sc := defScope (top 14), free := free, cons := cons, fns := fns, hears := [], mtb := fun p => decide (p ∈ ([] : List Pos)), top := true }
def m_is_row : Def := ⟨5, 2, false,
  (zSeq (zIf (tOr (tNot (tVal (sIsi (sVar 0) "tuple"))) (tCmp .ne (sLen (sVar 0)) (sLen (sVar 1))))
  (zRet (sC (.bl false)))
  zNext)
  (zRet (sAll (sLc false (iZip (sVar 0) (sVar 1)) (.tup [(.nm 2), (.tup [(.nm 3), (.nm 4)])]) [2, 3, 4] tYes (sAnd (sCall "is_value" (aCons (sVar 2) aNil)) (sCmp .eq (sCall "kind_of" (aCons (sVar 2) aNil)) (sVar 4)))))))⟩
theorem c_is_row : cSs 60 S_is_row (defBody (top 14)) = some m_is_row.body := by kernel_rfl
def S__law_pool : Sta := { N := ["script", "at", "digits", "stirred", "cell"], sc := defScope (top 19), free := free, cons := cons, fns := fns, hears := [], mtb := fun p => decide (p ∈ ([⟨51, 11, 51, 31⟩] : List Pos)), top := true }
def m__law_pool : Def := ⟨5, 1, true,
  (zSeq (zSet (.tup [(.nm 2), (.nm 3)]) (sTup (aCons (sC (.int 0)) (aCons (sC (.int 7)) aNil))))
  (zSeq (zFor (iRange (sLen (sVar 0))) (.nm 1)
  (zSeq (zSet (.nm 4) (sMax (sInt (sIdx (sVar 0) (sVar 1))) (sInt (sBop .sub false (sNeg (sC (.int 1))) (sIdx (sVar 0) (sVar 1))))))
  (zSeq (zSet (.nm 3) (sBop .mod false (sInt (sBop .add false (sBop .add false (sBop .mul false (sVar 3) (sC (.int 48271))) (sBop .mod false (sVar 4) (sC (.int 2147483629)))) (sC (.int 11)))) (sC (.int 2147483647))))
  (zSet (.nm 2) (sIte (tAnd (tCmp .ge (sVar 4) (sBop .pow false (sC (.int 10)) (sC (.int 12)))) (tCmp .lt (sVar 2) (sBop .pow false (sC (.int 10)) (sC (.int 60))))) (sInt (sBop .add false (sBop .mul false (sVar 2) (sBop .pow false (sC (.int 10)) (sC (.int 60)))) (sBop .mod false (sVar 4) (sBop .pow false (sC (.int 10)) (sC (.int 60)))))) (sVar 2))))))
  (zRet (sLst true (aCons (sVar 2) (aCons (sVar 3) (aCons (sC (.int 0)) aNil)))))))⟩
theorem c__law_pool : cSs 60 S__law_pool (defBody (top 19)) = some m__law_pool.body := by kernel_rfl
def S__law_take : Sta := { N := ["jar", "many", "found"], sc := defScope (top 20), free := free, cons := cons, fns := fns, hears := [], mtb := fun p => decide (p ∈ ([] : List Pos)), top := true }
def m__law_take : Def := ⟨3, 2, false,
  (zSeq (zIf (tCmp .gt (sIdx (sVar 0) (sC (.int 0))) (sC (.int 0)))
  (zSeq (zSet (.nm 2) (sBop .mod false (sInt (sIdx (sVar 0) (sC (.int 0)))) (sVar 1)))
  (zSeq (zSetIx (sVar 0) (sC (.int 0)) (sBop .fdiv false (sIdx (sVar 0) (sC (.int 0))) (sVar 1)))
  (zRet (sVar 2))))
  zNext)
  (zSeq (zSetIx (sVar 0) (sC (.int 2)) (sBop .add false (sIdx (sVar 0) (sC (.int 2))) (sC (.int 1))))
  (zSeq (zSetIx (sVar 0) (sC (.int 1)) (sBop .mod false (sInt (sBop .add false (sBop .add false (sBop .mul false (sIdx (sVar 0) (sC (.int 1))) (sC (.int 39373))) (sBop .mul false (sC (.int 7919)) (sIdx (sVar 0) (sC (.int 2))))) (sC (.int 7)))) (sC (.int 2147483647))))
  (zRet (sBop .mod false (sInt (sBop .fdiv false (sBop .mod false (sInt (sBop .mul false (sIdx (sVar 0) (sC (.int 1))) (sIdx (sVar 0) (sC (.int 1))))) (sC (.int 2147483629))) (sC (.int 32)))) (sVar 1))))))⟩
theorem c__law_take : cSs 60 S__law_take (defBody (top 20)) = some m__law_take.body := by kernel_rfl
def S__law_one : Sta := { N := ["jar", "things"], sc := defScope (top 21), free := free, cons := cons, fns := fns, hears := [], mtb := fun p => decide (p ∈ ([] : List Pos)), top := true }
def m__law_one : Def := ⟨2, 2, false,
  (zRet (sIdx (sVar 1) (sCall "_law_take" (aCons (sVar 0) (aCons (sLen (sVar 1)) aNil)))))⟩
theorem c__law_one : cSs 60 S__law_one (defBody (top 21)) = some m__law_one.body := by kernel_rfl
def S__law_mixed : Sta := { N := ["jar", "things", "go", "spare", "found"], sc := defScope (top 22), free := free, cons := cons, fns := fns, hears := [], mtb := fun p => decide (p ∈ ([⟨63, 20, 63, 32⟩, ⟨63, 34, 63, 36⟩] : List Pos)), top := true }
def m__law_mixed : Def := ⟨5, 2, false,
  (zSeq (zPar 3 4 (aCons (sList true (sVar 1)) (aCons (sLst true aNil) aNil)))
  (zSeq (zFor (iRange (sLen (sVar 1))) (.nm 2)
  (zExpr (sAppend (sVar 4) (sPopAt (sVar 3) (sCall "_law_take" (aCons (sVar 0) (aCons (sLen (sVar 3)) aNil)))))))
  (zRet (sVar 4))))⟩
theorem c__law_mixed : cSs 60 S__law_mixed (defBody (top 22)) = some m__law_mixed.body := by kernel_rfl
def S__law_yq_is_whole : Sta := { N := ["thing"], sc := defScope (top 23), free := free, cons := cons, fns := fns, hears := [], mtb := fun p => decide (p ∈ ([] : List Pos)), top := true }
def m__law_yq_is_whole : Def := ⟨1, 1, false,
  (zRet (sAnd (sIsi (sVar 0) "int") (sNot (sIsi (sVar 0) "bool"))))⟩
theorem c__law_yq_is_whole : cSs 60 S__law_yq_is_whole (defBody (top 23)) = some m__law_yq_is_whole.body := by kernel_rfl
def S__law_yq_same : Sta := { N := ["heard_one", "owed", "at"], sc := defScope (top 24), free := free, cons := cons, fns := fns, hears := [], mtb := fun p => decide (p ∈ ([] : List Pos)), top := true }
def m__law_yq_same : Def := ⟨3, 2, false,
  (zSeq (zIf (tIs (sVar 1) .non)
  (zRet (sIs (sVar 0) .non))
  zNext)
  (zSeq (zIf (tVal (sIsi (sVar 1) "bool"))
  (zRet (sIte (tVal (sVar 1)) (sIs (sVar 0) (.bl true)) (sIs (sVar 0) (.bl false))))
  zNext)
  (zSeq (zIf (tVal (sIsi (sVar 1) "int"))
  (zRet (sAnd (sCall "_law_yq_is_whole" (aCons (sVar 0) aNil)) (sCmp .eq (sVar 0) (sVar 1))))
  zNext)
  (zSeq (zIf (tVal (sIsi (sVar 1) "str"))
  (zRet (sAnd (sIsi (sVar 0) "str") (sCmp .eq (sVar 0) (sVar 1))))
  zNext)
  (zSeq (zIf (tAnd (tNot (tVal (sIsi (sVar 1) "tuple"))) (tNot (tVal (sIsi (sVar 1) "list"))))
  (zRet (sBool (sCmp .eq (sVar 0) (sVar 1))))
  zNext)
  (zSeq (zIf (tCmp .ne (sIsi (sVar 1) "tuple") (sIsi (sVar 0) "tuple"))
  (zRet (sC (.bl false)))
  zNext)
  (zSeq (zIf (tCmp .ne (sIsi (sVar 1) "list") (sIsi (sVar 0) "list"))
  (zRet (sC (.bl false)))
  zNext)
  (zSeq (zIf (tCmp .ne (sLen (sVar 0)) (sLen (sVar 1)))
  (zRet (sC (.bl false)))
  zNext)
  (zSeq (zFor (iRange (sLen (sVar 1))) (.nm 2)
  (zIf (tNot (tVal (sCall "_law_yq_same" (aCons (sIdx (sVar 0) (sVar 2)) (aCons (sIdx (sVar 1) (sVar 2)) aNil)))))
  (zRet (sC (.bl false)))
  zNext))
  (zRet (sC (.bl true))))))))))))⟩
theorem c__law_yq_same : cSs 60 S__law_yq_same (defBody (top 24)) = some m__law_yq_same.body := by kernel_rfl
def S__law_kr_is_whole : Sta := { N := ["thing"], sc := defScope (top 25), free := free, cons := cons, fns := fns, hears := [], mtb := fun p => decide (p ∈ ([] : List Pos)), top := true }
def m__law_kr_is_whole : Def := ⟨1, 1, false,
  (zRet (sAnd (sIsi (sVar 0) "int") (sNot (sIsi (sVar 0) "bool"))))⟩
theorem c__law_kr_is_whole : cSs 60 S__law_kr_is_whole (defBody (top 25)) = some m__law_kr_is_whole.body := by kernel_rfl
def S__law_kr_words : Sta := { N := [], sc := defScope (top 26), free := free, cons := cons, fns := fns, hears := [], mtb := fun p => decide (p ∈ ([] : List Pos)), top := true }
def m__law_kr_words : Def := ⟨0, 0, false,
  (zRet (sSplit (sC (.str "last where with keep rename join union minus group count sum least greatest and or not today")) (sC (.str " "))))⟩
theorem c__law_kr_words : cSs 60 S__law_kr_words (defBody (top 26)) = some m__law_kr_words.body := by kernel_rfl
def S__law_kr_is_name : Sta := { N := ["thing", "sign"], sc := defScope (top 27), free := free, cons := cons, fns := fns, hears := [], mtb := fun p => decide (p ∈ ([] : List Pos)), top := true }
def m__law_kr_is_name : Def := ⟨2, 1, false,
  (zSeq (zIf (tOr (tNot (tVal (sIsi (sVar 0) "str"))) (tOr (tNot (tChain .le .le (sC (.int 1)) (sLen (sVar 0)) (sC (.int 8)))) (tCmp .inn (sVar 0) (sCall "_law_kr_words" aNil))))
  (zRet (sC (.bl false)))
  zNext)
  (zRet (sCmp .eq (sLc false (iVal (sVar 0)) (.nm 1) [1] (tCmp .nin (sVar 1) (sC (.str "abcdefghijklmnopqrstuvwxyz"))) (sVar 1)) (sLst false aNil))))⟩
theorem c__law_kr_is_name : cSs 60 S__law_kr_is_name (defBody (top 27)) = some m__law_kr_is_name.body := by kernel_rfl
def S__law_kr_is_text : Sta := { N := ["thing", "sign"], sc := defScope (top 28), free := free, cons := cons, fns := fns, hears := [], mtb := fun p => decide (p ∈ ([] : List Pos)), top := true }
def m__law_kr_is_text : Def := ⟨2, 1, false,
  (zSeq (zIf (tOr (tNot (tVal (sIsi (sVar 0) "str"))) (tCmp .gt (sLen (sVar 0)) (sC (.int 20))))
  (zRet (sC (.bl false)))
  zNext)
  (zRet (sCmp .eq (sLc false (iVal (sVar 0)) (.nm 1) [1] (tCmp .nin (sVar 1) (sC (.str "abcdefghijklmnopqrstuvwxyz0123456789 "))) (sVar 1)) (sLst false aNil))))⟩
theorem c__law_kr_is_text : cSs 60 S__law_kr_is_text (defBody (top 28)) = some m__law_kr_is_text.body := by kernel_rfl
def S__law_kr_is_value : Sta := { N := ["thing"], sc := defScope (top 29), free := free, cons := cons, fns := fns, hears := [], mtb := fun p => decide (p ∈ ([] : List Pos)), top := true }
def m__law_kr_is_value : Def := ⟨1, 1, false,
  (zRet (sOr (sCall "_law_kr_is_whole" (aCons (sVar 0) aNil)) (sCall "_law_kr_is_text" (aCons (sVar 0) aNil))))⟩
theorem c__law_kr_is_value : cSs 60 S__law_kr_is_value (defBody (top 29)) = some m__law_kr_is_value.body := by kernel_rfl
def S__law_kr_is_day : Sta := { N := ["thing"], sc := defScope (top 30), free := free, cons := cons, fns := fns, hears := [], mtb := fun p => decide (p ∈ ([] : List Pos)), top := true }
def m__law_kr_is_day : Def := ⟨1, 1, false,
  (zRet (sAnd (sCall "_law_kr_is_whole" (aCons (sVar 0) aNil)) (sChain .le .le (sC (.int 0)) (sVar 0) (sC (.int 999)))))⟩
theorem c__law_kr_is_day : cSs 60 S__law_kr_is_day (defBody (top 30)) = some m__law_kr_is_day.body := by kernel_rfl
def S__law_kr_is_column : Sta := { N := ["thing"], sc := defScope (top 31), free := free, cons := cons, fns := fns, hears := [], mtb := fun p => decide (p ∈ ([] : List Pos)), top := true }
def m__law_kr_is_column : Def := ⟨1, 1, false,
  (zSeq (zIf (tOr (tNot (tVal (sIsi (sVar 0) "tuple"))) (tOr (tCmp .ne (sLen (sVar 0)) (sC (.int 2))) (tNot (tVal (sCall "_law_kr_is_name" (aCons (sIdx (sVar 0) (sC (.int 0))) aNil))))))
  (zRet (sC (.bl false)))
  zNext)
  (zRet (sAnd (sIsi (sIdx (sVar 0) (sC (.int 1))) "str") (sCmp .inn (sIdx (sVar 0) (sC (.int 1))) (sLst false (aCons (sC (.str "number")) (aCons (sC (.str "text")) aNil)))))))⟩
theorem c__law_kr_is_column : cSs 60 S__law_kr_is_column (defBody (top 31)) = some m__law_kr_is_column.body := by kernel_rfl
def S__law_kr_is_columns : Sta := { N := ["thing", "names", "one", "i"], sc := defScope (top 32), free := free, cons := cons, fns := fns, hears := [], mtb := fun p => decide (p ∈ ([] : List Pos)), top := true }
def m__law_kr_is_columns : Def := ⟨4, 1, false,
  (zSeq (zIf (tOr (tNot (tVal (sIsi (sVar 0) "list"))) (tNot (tChain .le .le (sC (.int 1)) (sLen (sVar 0)) (sC (.int 10)))))
  (zRet (sC (.bl false)))
  zNext)
  (zSeq (zIf (tCmp .ne (sLc false (iVal (sVar 0)) (.nm 2) [2] (tNot (tVal (sCall "_law_kr_is_column" (aCons (sVar 2) aNil)))) (sVar 2)) (sLst false aNil))
  (zRet (sC (.bl false)))
  zNext)
  (zSeq (zSet (.nm 1) (sLc false (iVal (sVar 0)) (.nm 2) [2] tYes (sIdx (sVar 2) (sC (.int 0)))))
  (zRet (sCmp .eq (sLc false (iRange (sLen (sVar 1))) (.nm 3) [3] (tCmp .inn (sIdx (sVar 1) (sVar 3)) (sSlc false (sVar 1) none (some (sVar 3)))) (sVar 3)) (sLst false aNil))))))⟩
theorem c__law_kr_is_columns : cSs 60 S__law_kr_is_columns (defBody (top 32)) = some m__law_kr_is_columns.body := by kernel_rfl
def S__law_kr_is_of : Sta := { N := ["kind", "thing"], sc := defScope (top 33), free := free, cons := cons, fns := fns, hears := [], mtb := fun p => decide (p ∈ ([] : List Pos)), top := true }
def m__law_kr_is_of : Def := ⟨2, 2, false,
  (zRet (sIte (tCmp .eq (sVar 0) (sC (.str "number"))) (sCall "_law_kr_is_whole" (aCons (sVar 1) aNil)) (sCall "_law_kr_is_text" (aCons (sVar 1) aNil))))⟩
theorem c__law_kr_is_of : cSs 60 S__law_kr_is_of (defBody (top 33)) = some m__law_kr_is_of.body := by kernel_rfl
def S__law_kr_is_row : Sta := { N := ["thing", "columns_now", "i"], sc := defScope (top 34), free := free, cons := cons, fns := fns, hears := [], mtb := fun p => decide (p ∈ ([] : List Pos)), top := true }
def m__law_kr_is_row : Def := ⟨3, 2, false,
  (zSeq (zIf (tOr (tNot (tVal (sIsi (sVar 0) "tuple"))) (tCmp .ne (sLen (sVar 0)) (sLen (sVar 1))))
  (zRet (sC (.bl false)))
  zNext)
  (zRet (sCmp .eq (sLc false (iRange (sLen (sVar 0))) (.nm 2) [2] (tNot (tVal (sCall "_law_kr_is_of" (aCons (sIdx (sIdx (sVar 1) (sVar 2)) (sC (.int 1))) (aCons (sIdx (sVar 0) (sVar 2)) aNil))))) (sVar 2)) (sLst false aNil))))⟩
theorem c__law_kr_is_row : cSs 60 S__law_kr_is_row (defBody (top 34)) = some m__law_kr_is_row.body := by kernel_rfl
def S__law_kr_names : Sta := { N := ["made"], sc := defScope (top 35), free := free, cons := cons, fns := fns, hears := [], mtb := fun p => decide (p ∈ ([] : List Pos)), top := true }
def m__law_kr_names : Def := ⟨1, 0, false,
  (zSeq (zSet (.nm 0) (sLst false (aCons (sC (.str "a")) (aCons (sC (.str "b")) (aCons (sC (.str "c")) (aCons (sC (.str "shop")) (aCons (sC (.str "amount")) (aCons (sC (.str "total")) (aCons (sC (.str "abcdefgh")) (aCons (sC (.str "z")) (aCons (sC (.str "lasts")) (aCons (sC (.str "su")) (aCons (sC (.str "counts")) (aCons (sC (.str "nott")) (aCons (sC (.str "an")) (aCons (sC (.str "days")) aNil))))))))))))))))
  (zRet (sBop .add false (sVar 0) (sLst false (aCons (sC (.str "sales")) (aCons (sC (.str "big")) (aCons (sC (.str "trend")) (aCons (sC (.str "x")) (aCons (sC (.str "y")) (aCons (sC (.str "key")) (aCons (sC (.str "wither")) (aCons (sC (.str "zzzzzzzz")) (aCons (sC (.str "joiner")) (aCons (sC (.str "k")) aNil))))))))))))))⟩
theorem c__law_kr_names : cSs 60 S__law_kr_names (defBody (top 35)) = some m__law_kr_names.body := by kernel_rfl
def S__law_kr_drawn_value : Sta := { N := ["jar", "kind"], sc := defScope (top 36), free := free, cons := cons, fns := fns, hears := [], mtb := fun p => decide (p ∈ ([] : List Pos)), top := true }
def m__law_kr_drawn_value : Def := ⟨2, 2, false,
  (zSeq (zIf (tCmp .eq (sVar 1) (sC (.str "text")))
  (zRet (sCall "_law_one" (aCons (sVar 0) (aCons (sLst false (aCons (sC (.str "")) (aCons (sC (.str "a")) (aCons (sC (.str "b")) (aCons (sC (.str "east")) (aCons (sC (.str "west 2")) (aCons (sC (.str " ")) (aCons (sC (.str "abcdefghij klmno 789")) (aCons (sC (.str "0")) (aCons (sBop .mul false (sC (.str "z")) (sC (.int 20))) (aCons (sC (.str "10")) aNil))))))))))) aNil))))
  zNext)
  (zRet (sCall "_law_one" (aCons (sVar 0) (aCons (sLst false (aCons (sC (.int 0)) (aCons (sC (.int 1)) (aCons (sC (.int 2)) (aCons (sC (.int 3)) (aCons (sNeg (sC (.int 1))) (aCons (sNeg (sC (.int 2))) (aCons (sC (.int 5)) (aCons (sC (.int 10)) (aCons (sBop .sub false (sBop .pow false (sC (.int 10)) (sC (.int 40))) (sC (.int 1))) (aCons (sBop .sub false (sC (.int 1)) (sBop .pow false (sC (.int 10)) (sC (.int 40)))) (aCons (sBop .sub false (sCall "_law_take" (aCons (sVar 0) (aCons (sC (.int 9)) aNil))) (sC (.int 4))) aNil)))))))))))) aNil)))))⟩
theorem c__law_kr_drawn_value : cSs 60 S__law_kr_drawn_value (defBody (top 36)) = some m__law_kr_drawn_value.body := by kernel_rfl
def S__law_kr_drawn_row : Sta := { N := ["jar", "columns_now", "name", "kind"], sc := defScope (top 37), free := free, cons := cons, fns := fns, hears := [], mtb := fun p => decide (p ∈ ([] : List Pos)), top := true }
def m__law_kr_drawn_row : Def := ⟨4, 2, false,
  (zRet (sTuple (sLc false (iVal (sVar 1)) (.tup [(.nm 2), (.nm 3)]) [2, 3] tYes (sCall "_law_kr_drawn_value" (aCons (sVar 0) (aCons (sVar 3) aNil))))))⟩
theorem c__law_kr_drawn_row : cSs 60 S__law_kr_drawn_row (defBody (top 37)) = some m__law_kr_drawn_row.body := by kernel_rfl
def S__law_plain : Sta := { N := ["made"], sc := defScope (top 39), free := free, cons := cons, fns := fns, hears := [], mtb := fun p => decide (p ∈ ([] : List Pos)), top := true }
def m__law_plain : Def := ⟨1, 0, false,
  (zSeq (zSet (.nm 0) (sLst false (aCons (sC .non) (aCons (sC (.int 0)) (aCons (sC (.int 1)) (aCons (sNeg (sC (.int 1))) (aCons (sC (.bl true)) (aCons (sC (.bl false)) (aCons (sC (.str "")) (aCons (sC (.str "a")) (aCons (sTup aNil) (aCons (sLst false aNil) (aCons sDict0 (aCons (sTup (aCons (sC (.str "a")) aNil)) (aCons (sLst false (aCons (sC (.str "a")) aNil)) (aCons (sTup (aCons (sC (.str "a")) (aCons (sC (.str "number")) aNil))) aNil))))))))))))))))
  (zRet (sBop .add false (sVar 0) (sLst false (aCons (sLst false (aCons (sTup (aCons (sC (.str "a")) (aCons (sC (.str "number")) aNil))) aNil)) (aCons (sDict1 (.inr "a") (.int 1)) aNil))))))⟩
theorem c__law_plain : cSs 60 S__law_plain (defBody (top 39)) = some m__law_plain.body := by kernel_rfl
def S__law_name_things : Sta := { N := ["jar", "made", "letters", "go", "word", "k"], sc := defScope (top 40), free := free, cons := cons, fns := fns, hears := [], mtb := fun p => decide (p ∈ ([⟨143, 11, 143, 102⟩] : List Pos)), top := true }
def m__law_name_things : Def := ⟨6, 1, false,
  (zSeq (zSet (.nm 1) (sBop .add true (sBop .add false (sBop .add false (sCall "_law_plain" aNil) (sCall "_law_kr_words" aNil)) (sLc false (iVal (sCall "_law_kr_words" aNil)) (.nm 4) [4] tYes (sBop .add false (sVar 4) (sC (.str "s"))))) (sCall "_law_kr_names" aNil)))
  (zSeq (zExpr (sExtend (sVar 1) (sBop .add false (sLc false (iVal (sCall "_law_kr_words" aNil)) (.nm 4) [4] tYes (sSlc false (sVar 4) none (some (sNeg (sC (.int 1)))))) (sLst false (aCons (sC (.str "abcdefgh")) (aCons (sC (.str "abcdefghi")) (aCons (sC (.str "Last")) (aCons (sC (.str "LAST")) aNil))))))))
  (zSeq (zExpr (sExtend (sVar 1) (sLst false (aCons (sC (.str "a b")) (aCons (sC (.str " a")) (aCons (sC (.str "a ")) (aCons (sC (.str "a1")) (aCons (sC (.str "1")) aNil))))))))
  (zSeq (zExpr (sExtend (sVar 1) (sLst false (aCons (sC (.str "a_b")) (aCons (sC (.str "a.b")) (aCons (sC (.str "a-b")) (aCons (sC (.str "A")) (aCons (sC (.str "day")) (aCons (sC (.str "number")) (aCons (sC (.str "text")) (aCons (sC (.str "raw")) (aCons (sC (.str "code")) (aCons (sC (.str "put")) (aCons (sC (.str "table")) (aCons (sC (.str "a\n")) (aCons (sC (.str "\ta")) aNil))))))))))))))))
  (zSeq (zSet (.nm 2) (sC (.str "abcdefghijklmnopqrstuvwxyz")))
  (zSeq (zFor (iRange (sC (.int 20))) (.nm 3)
  (zExpr (sAppend (sVar 1) (sJoin (sC (.str "")) (sLc false (iRange (sBop .add false (sC (.int 1)) (sCall "_law_take" (aCons (sVar 0) (aCons (sC (.int 10)) aNil))))) (.nm 5) [5] tYes (sCall "_law_one" (aCons (sVar 0) (aCons (sVar 2) aNil))))))))
  (zRet (sVar 1))))))))⟩
theorem c__law_name_things : cSs 60 S__law_name_things (defBody (top 40)) = some m__law_name_things.body := by kernel_rfl
def S__law_value_things : Sta := { N := ["jar", "made", "signs", "sign", "go", "k"], sc := defScope (top 41), free := free, cons := cons, fns := fns, hears := [], mtb := fun p => decide (p ∈ ([⟨152, 11, 152, 86⟩] : List Pos)), top := true }
def m__law_value_things : Def := ⟨6, 1, false,
  (zSeq (zSet (.nm 1) (sBop .add true (sCall "_law_plain" aNil) (sLst false (aCons (sBop .mul false (sC (.str "z")) (sC (.int 20))) (aCons (sBop .mul false (sC (.str "z")) (sC (.int 21))) (aCons (sBop .mul false (sC (.str " ")) (sC (.int 20))) (aCons (sBop .mul false (sC (.str " ")) (sC (.int 21))) (aCons (sBop .mul false (sC (.str "0")) (sC (.int 20))) (aCons (sBop .mul false (sC (.str "0")) (sC (.int 21))) aNil)))))))))
  (zSeq (zExpr (sExtend (sVar 1) (sLst false (aCons (sC (.str "a b 9")) (aCons (sC (.str "A")) (aCons (sC (.str "a_b")) (aCons (sC (.str "a'b")) (aCons (sC (.str "a.")) (aCons (sC (.str "a\n")) (aCons (sC (.str "-1")) aNil))))))))))
  (zSeq (zExpr (sExtend (sVar 1) (sLst false (aCons (sBop .sub false (sBop .pow false (sC (.int 10)) (sC (.int 40))) (sC (.int 1))) (aCons (sBop .sub false (sC (.int 1)) (sBop .pow false (sC (.int 10)) (sC (.int 40)))) (aCons (sC (.int 999)) (aCons (sC (.int 1000)) (aCons (sNeg (sC (.int 1))) (aCons (sBop .pow false (sC (.int 2)) (sC (.int 60))) aNil)))))))))
  (zSeq (zSet (.nm 2) (sBop .add false (sBop .add false (sList false (sC (.str "abcxyz0189 "))) (sList false (sC (.str "AZ_-+.,:;'|()[]<=>*/")))) (sLst false (aCons (sC (.str "\t")) (aCons (sC (.str "\n")) aNil)))))
  (zSeq (zFor (iVal (sVar 2)) (.nm 3)
  (zExpr (sExtend (sVar 1) (sLst false (aCons (sVar 3) (aCons (sBop .add false (sC (.str "a")) (sVar 3)) (aCons (sBop .add false (sVar 3) (sBop .mul false (sC (.str "b")) (sC (.int 19)))) aNil)))))))
  (zSeq (zFor (iRange (sC (.int 20))) (.nm 4)
  (zExpr (sAppend (sVar 1) (sJoin (sC (.str "")) (sLc false (iRange (sCall "_law_take" (aCons (sVar 0) (aCons (sC (.int 23)) aNil)))) (.nm 5) [5] tYes (sCall "_law_one" (aCons (sVar 0) (aCons (sSlc false (sVar 2) none (some (sC (.int 12)))) aNil))))))))
  (zRet (sVar 1))))))))⟩
theorem c__law_value_things : cSs 60 S__law_value_things (defBody (top 41)) = some m__law_value_things.body := by kernel_rfl
def S__law_day_things : Sta := { N := ["jar"], sc := defScope (top 42), free := free, cons := cons, fns := fns, hears := [], mtb := fun p => decide (p ∈ ([] : List Pos)), top := true }
def m__law_day_things : Def := ⟨1, 1, false,
  (zRet (sBop .add false (sCall "_law_plain" aNil) (sLst false (aCons (sC (.int 999)) (aCons (sC (.int 1000)) (aCons (sC (.int 998)) (aCons (sNeg (sC (.int 999))) (aCons (sBop .pow false (sC (.int 10)) (sC (.int 39))) (aCons (sCall "_law_take" (aCons (sVar 0) (aCons (sC (.int 1000)) aNil))) (aCons (sC (.str "5")) (aCons (sC (.str "999")) (aCons (sTup (aCons (sC (.int 5)) aNil)) (aCons (sLst false (aCons (sC (.int 5)) aNil)) aNil)))))))))))))⟩
theorem c__law_day_things : cSs 60 S__law_day_things (defBody (top 42)) = some m__law_day_things.body := by kernel_rfl
def S__law_columns_things : Sta := { N := ["jar", "names", "good", "made", "i", "odds", "odd", "name"], sc := defScope (top 43), free := free, cons := cons, fns := fns, hears := [], mtb := fun p => decide (p ∈ ([⟨166, 11, 166, 91⟩] : List Pos)), top := true }
def m__law_columns_things : Def := ⟨8, 1, false,
  (zSeq (zSet (.nm 1) (sCall "_law_mixed" (aCons (sVar 0) (aCons (sLc false (iVal (sCall "_law_kr_names" aNil)) (.nm 7) [7] (tVal (sCall "_law_kr_is_name" (aCons (sVar 7) aNil))) (sVar 7)) aNil))))
  (zSeq (zSet (.nm 2) (sLc false (iVal (sSlc false (sVar 1) none (some (sC (.int 10))))) (.nm 7) [7] tYes (sTup (aCons (sVar 7) (aCons (sCall "_law_one" (aCons (sVar 0) (aCons (sLst false (aCons (sC (.str "number")) (aCons (sC (.str "text")) aNil))) aNil))) aNil)))))
  (zSeq (zSet (.nm 3) (sBop .add true (sCall "_law_plain" aNil) (sLst false (aCons (sVar 2) (aCons (sSlc false (sVar 2) none (some (sC (.int 9)))) (aCons (sSlc false (sVar 2) none (some (sC (.int 1)))) (aCons (sBop .add false (sVar 2) (sLst false (aCons (sTup (aCons (sC (.str "day")) (aCons (sC (.str "text")) aNil))) aNil))) (aCons (sTuple (sVar 2)) aNil))))))))
  (zSeq (zExpr (sExtend (sVar 3) (sLst false (aCons (sBop .add false (sSlc false (sVar 2) none (some (sC (.int 3)))) (sSlc false (sVar 2) none (some (sC (.int 1))))) (aCons (sRev (sVar 2)) aNil)))))
  (zSeq (zSet (.nm 4) (sCall "_law_take" (aCons (sVar 0) (aCons (sC (.int 10)) aNil))))
  (zSeq (zSet (.nm 5) (sLst false (aCons (sC .non) (aCons (sC (.int 5)) (aCons (sC (.str "a")) (aCons (sTup aNil) (aCons (sTup (aCons (sC (.str "a")) aNil)) (aCons (sLst false (aCons (sIdx (sIdx (sVar 2) (sVar 4)) (sC (.int 0))) (aCons (sIdx (sIdx (sVar 2) (sVar 4)) (sC (.int 1))) aNil))) (aCons (sBop .add false (sIdx (sVar 2) (sVar 4)) (sTup (aCons (sC (.str "number")) aNil))) aNil)))))))))
  (zSeq (zFor (iVal (sBop .add false (sVar 5) (sLst false (aCons (sTup (aCons (sIdx (sIdx (sVar 2) (sVar 4)) (sC (.int 0))) (aCons (sC (.str "Number")) aNil))) (aCons (sTup (aCons (sIdx (sIdx (sVar 2) (sVar 4)) (sC (.int 0))) (aCons (sC .non) aNil))) aNil))))) (.nm 6)
  (zExpr (sAppend (sVar 3) (sBop .add false (sBop .add false (sSlc false (sVar 2) none (some (sVar 4))) (sLst false (aCons (sVar 6) aNil))) (sSlc false (sVar 2) (some (sBop .add false (sVar 4) (sC (.int 1)))) none)))))
  (zSeq (zFor (iVal (sLst false (aCons (sC (.str "last")) (aCons (sC (.str "")) (aCons (sC (.str "A")) (aCons (sC (.str "abcdefghi")) (aCons (sC .non) (aCons (sC (.int 5)) (aCons (sTup (aCons (sC (.str "a")) aNil)) (aCons (sIdx (sIdx (sVar 2) (sBop .sub false (sVar 4) (sC (.int 1)))) (sC (.int 0))) (aCons (sC (.str "day")) aNil))))))))))) (.nm 6)
  (zExpr (sAppend (sVar 3) (sBop .add false (sBop .add false (sSlc false (sVar 2) none (some (sVar 4))) (sLst false (aCons (sTup (aCons (sVar 6) (aCons (sC (.str "number")) aNil))) aNil))) (sSlc false (sVar 2) (some (sBop .add false (sVar 4) (sC (.int 1)))) none)))))
  (zSeq (zFor (iVal (sLst false (aCons (sC (.str "numbers")) (aCons (sC (.str "")) (aCons (sC (.str "texts")) (aCons (sC (.int 0)) (aCons (sC (.bl true)) (aCons (sTup (aCons (sC (.str "number")) aNil)) (aCons (sLst false (aCons (sC (.str "text")) aNil)) (aCons (sC (.str "day")) aNil)))))))))) (.nm 6)
  (zExpr (sAppend (sVar 3) (sBop .add false (sBop .add false (sSlc false (sVar 2) none (some (sVar 4))) (sLst false (aCons (sTup (aCons (sIdx (sIdx (sVar 2) (sVar 4)) (sC (.int 0))) (aCons (sVar 6) aNil))) aNil))) (sSlc false (sVar 2) (some (sBop .add false (sVar 4) (sC (.int 1)))) none)))))
  (zRet (sBop .add false (sVar 3) (sLst false (aCons (sDict1 (.inr "a") (.str "number")) (aCons (sDictOf (sVar 2)) (aCons (sLst false (aCons (sVar 2) aNil)) (aCons (sIdx (sVar 2) (sC (.int 0))) (aCons (sLst false (aCons (sIdx (sVar 2) (sC (.int 0))) (aCons (sC .non) aNil))) aNil)))))))))))))))))⟩
theorem c__law_columns_things : cSs 60 S__law_columns_things (defBody (top 43)) = some m__law_columns_things.body := by kernel_rfl
def S__law_heard_judge : Sta := { N := ["sort", "thing"], sc := defScope (top 44), free := free, cons := cons, fns := fns, hears := hearers, mtb := fun p => decide (p ∈ ([] : List Pos)), top := true }
def m__law_heard_judge : Def := ⟨2, 2, false,
  (zSeq (zIf (tCmp .eq (sVar 0) (sC (.str "name")))
  (zRet (sHear "told" (sCall "is_name" (aCons (sVar 1) aNil))))
  zNext)
  (zSeq (zIf (tCmp .eq (sVar 0) (sC (.str "value")))
  (zRet (sHear "told" (sCall "is_value" (aCons (sVar 1) aNil))))
  zNext)
  (zSeq (zIf (tCmp .eq (sVar 0) (sC (.str "day")))
  (zRet (sHear "told" (sCall "is_day" (aCons (sVar 1) aNil))))
  zNext)
  (zRet (sHear "told" (sCall "is_columns" (aCons (sVar 1) aNil)))))))⟩
theorem c__law_heard_judge : cSs 60 S__law_heard_judge (defBody (top 44)) = some m__law_heard_judge.body := by kernel_rfl
def S__law_owed : Sta := { N := ["sort", "thing"], sc := defScope (top 45), free := free, cons := cons, fns := fns, hears := [], mtb := fun p => decide (p ∈ ([] : List Pos)), top := true }
def m__law_owed : Def := ⟨2, 2, false,
  (zSeq (zIf (tCmp .eq (sVar 0) (sC (.str "name")))
  (zRet (sCall "_law_kr_is_name" (aCons (sVar 1) aNil)))
  zNext)
  (zSeq (zIf (tCmp .eq (sVar 0) (sC (.str "value")))
  (zRet (sCall "_law_kr_is_value" (aCons (sVar 1) aNil)))
  zNext)
  (zRet (sIte (tCmp .eq (sVar 0) (sC (.str "day"))) (sCall "_law_kr_is_day" (aCons (sVar 1) aNil)) (sCall "_law_kr_is_columns" (aCons (sVar 1) aNil))))))⟩
theorem c__law_owed : cSs 60 S__law_owed (defBody (top 45)) = some m__law_owed.body := by kernel_rfl
def S__law_heard_row : Sta := { N := ["thing", "columns_now"], sc := defScope (top 46), free := free, cons := cons, fns := fns, hears := hearers, mtb := fun p => decide (p ∈ ([] : List Pos)), top := true }
def m__law_heard_row : Def := ⟨2, 2, false,
  (zRet (sHear "told" (sCall "is_row" (aCons (sVar 0) (aCons (sVar 1) aNil)))))⟩
theorem c__law_heard_row : cSs 60 S__law_heard_row (defBody (top 46)) = some m__law_heard_row.body := by kernel_rfl
def S__law_rows_right : Sta := { N := ["jar", "many", "columns_now", "row", "i", "things", "odd", "kept", "thing", "name"], sc := defScope (top 47), free := free, cons := cons, fns := fns, hears := [], mtb := fun p => decide (p ∈ ([⟨198, 17, 198, 103⟩] : List Pos)), top := true }
def m__law_rows_right : Def := ⟨10, 1, false,
  (zSeq (zFor (iVal (sLst false (aCons (sC (.int 1)) (aCons (sC (.int 2)) (aCons (sBop .add false (sC (.int 1)) (sCall "_law_take" (aCons (sVar 0) (aCons (sC (.int 10)) aNil)))) (aCons (sC (.int 10)) aNil)))))) (.nm 1)
  (zSeq (zSet (.nm 2) (sLc false (iVal (sSlc false (sCall "_law_mixed" (aCons (sVar 0) (aCons (sCall "_law_kr_names" aNil) aNil))) none (some (sVar 1)))) (.nm 9) [9] tYes (sTup (aCons (sVar 9) (aCons (sCall "_law_one" (aCons (sVar 0) (aCons (sLst false (aCons (sC (.str "number")) (aCons (sC (.str "text")) aNil))) aNil))) aNil)))))
  (zSeq (zSet (.nm 3) (sCall "_law_kr_drawn_row" (aCons (sVar 0) (aCons (sVar 2) aNil))))
  (zSeq (zSet (.nm 4) (sCall "_law_take" (aCons (sVar 0) (aCons (sVar 1) aNil))))
  (zSeq (zSet (.nm 5) (sBop .add true (sCall "_law_plain" aNil) (sLst false (aCons (sVar 3) (aCons (sList false (sVar 3)) (aCons (sSlc false (sVar 3) (some (sC (.int 1))) none) (aCons (sBop .add false (sVar 3) (sSlc false (sVar 3) none (some (sC (.int 1))))) (aCons (sBop .add false (sVar 3) (sTup (aCons (sC (.int 0)) aNil))) (aCons (sRev (sVar 3)) (aCons (sTup (aCons (sVar 3) aNil)) aNil))))))))))
  (zSeq (zExpr (sAppend (sVar 5) (sDictOf (sVar 2))))
  (zSeq (zFor (iVal (sLst false (aCons (sC .non) (aCons (sC (.bl true)) (aCons (sC (.str "A")) (aCons (sBop .mul false (sC (.str "z")) (sC (.int 21))) (aCons (sTup (aCons (sC (.int 1)) aNil)) (aCons (sLst false (aCons (sC (.int 1)) aNil)) (aCons (sC (.int 0)) (aCons (sC (.str "")) (aCons (sC (.str "a")) (aCons (sBop .sub false (sBop .pow false (sC (.int 10)) (sC (.int 40))) (sC (.int 1))) (aCons (sBop .mul false (sC (.str "z")) (sC (.int 20))) (aCons (sNeg (sC (.int 1))) aNil)))))))))))))) (.nm 6)
  (zExpr (sAppend (sVar 5) (sBop .add false (sBop .add false (sSlc false (sVar 3) none (some (sVar 4))) (sTup (aCons (sVar 6) aNil))) (sSlc false (sVar 3) (some (sBop .add false (sVar 4) (sC (.int 1)))) none)))))
  (zSeq (zSet (.nm 7) (sList false (sVar 2)))
  (zSeq (zFor (iVal (sVar 5)) (.nm 8)
  (zIf (tNot (tVal (sCall "_law_yq_same" (aCons (sCall "_law_heard_row" (aCons (sVar 8) (aCons (sVar 2) aNil))) (aCons (sTup (aCons (sC (.str "told")) (aCons (sCall "_law_kr_is_row" (aCons (sVar 8) (aCons (sVar 7) aNil))) aNil))) aNil)))))
  (zRet (sC (.bl false)))
  zNext))
  (zIf (tCmp .ne (sVar 2) (sVar 7))
  (zRet (sC (.bl false)))
  zNext))))))))))
  (zRet (sC (.bl true))))⟩
theorem c__law_rows_right : cSs 60 S__law_rows_right (defBody (top 47)) = some m__law_rows_right.body := by kernel_rfl
def S_law : Sta := { N := ["script", "jar", "lots", "sort", "things", "thing", "owed", "kept", "go"], sc := defScope (top 48), free := free, cons := cons, fns := fns, hears := [], mtb := fun p => decide (p ∈ ([⟨211, 11, 211, 110⟩] : List Pos)), top := true }
def m_law : Def := ⟨9, 1, false,
  (zSeq (zSet (.nm 1) (sCall "_law_pool" (aCons (sVar 0) aNil)))
  (zSeq (zSet (.nm 2) (sLst true (aCons (sTup (aCons (sC (.str "name")) (aCons (sCall "_law_name_things" (aCons (sVar 1) aNil)) aNil))) (aCons (sTup (aCons (sC (.str "value")) (aCons (sCall "_law_value_things" (aCons (sVar 1) aNil)) aNil))) (aCons (sTup (aCons (sC (.str "day")) (aCons (sCall "_law_day_things" (aCons (sVar 1) aNil)) aNil))) aNil)))))
  (zSeq (zExpr (sExtend (sVar 2) (sLc false (iRange (sC (.int 3))) (.nm 8) [8] tYes (sTup (aCons (sC (.str "columns")) (aCons (sCall "_law_columns_things" (aCons (sVar 1) aNil)) aNil))))))
  (zSeq (zExpr (sAppend (sVar 2) (sTup (aCons (sC (.str "columns")) (aCons (sSlc false (sCall "_law_name_things" (aCons (sVar 1) aNil)) none (some (sC (.int 60)))) aNil)))))
  (zSeq (zExpr (sExtend (sVar 2) (sLst false (aCons (sTup (aCons (sC (.str "name")) (aCons (sCall "_law_value_things" (aCons (sVar 1) aNil)) aNil))) (aCons (sTup (aCons (sC (.str "value")) (aCons (sCall "_law_name_things" (aCons (sVar 1) aNil)) aNil))) (aCons (sTup (aCons (sC (.str "day")) (aCons (sCall "_law_value_things" (aCons (sVar 1) aNil)) aNil))) aNil))))))
  (zSeq (zFor (iVal (sVar 2)) (.tup [(.nm 3), (.nm 4)])
  (zFor (iVal (sVar 4)) (.nm 5)
  (zSeq (zSet (.nm 6) (sTup (aCons (sC (.str "told")) (aCons (sCall "_law_owed" (aCons (sVar 3) (aCons (sVar 5) aNil))) aNil))))
  (zSeq (zSet (.nm 7) (sIte (tVal (sIsi (sVar 5) "list")) (sList false (sVar 5)) (sVar 5)))
  (zIf (tOr (tNot (tVal (sCall "_law_yq_same" (aCons (sCall "_law_heard_judge" (aCons (sVar 3) (aCons (sVar 5) aNil))) (aCons (sVar 6) aNil))))) (tNot (tVal (sCall "_law_yq_same" (aCons (sVar 5) (aCons (sVar 7) aNil))))))
  (zRet (sC (.bl false)))
  zNext)))))
  (zRet (sCall "_law_rows_right" (aCons (sVar 1) aNil)))))))))⟩
theorem c_law : cSs 60 S_law (defBody (top 48)) = some m_law.body := by kernel_rfl
def progL : List (Str × Def) := [(Str.ofString "is_integer", m_is_integer), (Str.ofString "is_name", m_is_name), (Str.ofString "is_value", m_is_value), (Str.ofString "kind_of", m_kind_of), (Str.ofString "is_day", m_is_day), (Str.ofString "is_column", m_is_column), (Str.ofString "is_columns", m_is_columns), (Str.ofString "is_row", m_is_row), (Str.ofString "_law_pool", m__law_pool), (Str.ofString "_law_take", m__law_take), (Str.ofString "_law_one", m__law_one), (Str.ofString "_law_mixed", m__law_mixed), (Str.ofString "_law_yq_is_whole", m__law_yq_is_whole), (Str.ofString "_law_yq_same", m__law_yq_same), (Str.ofString "_law_kr_is_whole", m__law_kr_is_whole), (Str.ofString "_law_kr_words", m__law_kr_words), (Str.ofString "_law_kr_is_name", m__law_kr_is_name), (Str.ofString "_law_kr_is_text", m__law_kr_is_text), (Str.ofString "_law_kr_is_value", m__law_kr_is_value), (Str.ofString "_law_kr_is_day", m__law_kr_is_day), (Str.ofString "_law_kr_is_column", m__law_kr_is_column), (Str.ofString "_law_kr_is_columns", m__law_kr_is_columns), (Str.ofString "_law_kr_is_of", m__law_kr_is_of), (Str.ofString "_law_kr_is_row", m__law_kr_is_row), (Str.ofString "_law_kr_names", m__law_kr_names), (Str.ofString "_law_kr_drawn_value", m__law_kr_drawn_value), (Str.ofString "_law_kr_drawn_row", m__law_kr_drawn_row), (Str.ofString "_law_plain", m__law_plain), (Str.ofString "_law_name_things", m__law_name_things), (Str.ofString "_law_value_things", m__law_value_things), (Str.ofString "_law_day_things", m__law_day_things), (Str.ofString "_law_columns_things", m__law_columns_things), (Str.ofString "_law_heard_judge", m__law_heard_judge), (Str.ofString "_law_owed", m__law_owed), (Str.ofString "_law_heard_row", m__law_heard_row), (Str.ofString "_law_rows_right", m__law_rows_right), (Str.ofString "law", m_law)]
def P : Prog := fun x => progL.lookup x
def topOf (x : Str) : Stmt := top ((([(Str.ofString "is_integer", 7), (Str.ofString "is_name", 8), (Str.ofString "is_value", 9), (Str.ofString "kind_of", 10), (Str.ofString "is_day", 11), (Str.ofString "is_column", 12), (Str.ofString "is_columns", 13), (Str.ofString "is_row", 14), (Str.ofString "_law_pool", 19), (Str.ofString "_law_take", 20), (Str.ofString "_law_one", 21), (Str.ofString "_law_mixed", 22), (Str.ofString "_law_yq_is_whole", 23), (Str.ofString "_law_yq_same", 24), (Str.ofString "_law_kr_is_whole", 25), (Str.ofString "_law_kr_words", 26), (Str.ofString "_law_kr_is_name", 27), (Str.ofString "_law_kr_is_text", 28), (Str.ofString "_law_kr_is_value", 29), (Str.ofString "_law_kr_is_day", 30), (Str.ofString "_law_kr_is_column", 31), (Str.ofString "_law_kr_is_columns", 32), (Str.ofString "_law_kr_is_of", 33), (Str.ofString "_law_kr_is_row", 34), (Str.ofString "_law_kr_names", 35), (Str.ofString "_law_kr_drawn_value", 36), (Str.ofString "_law_kr_drawn_row", 37), (Str.ofString "_law_heard", 38), (Str.ofString "_law_plain", 39), (Str.ofString "_law_name_things", 40), (Str.ofString "_law_value_things", 41), (Str.ofString "_law_day_things", 42), (Str.ofString "_law_columns_things", 43), (Str.ofString "_law_heard_judge", 44), (Str.ofString "_law_owed", 45), (Str.ofString "_law_heard_row", 46), (Str.ofString "_law_rows_right", 47), (Str.ofString "law", 48)] : List (Str × Nat)).lookup x).getD 0)
def makers : List Str := ["_law_heard_judge", "_law_heard_row"]
theorem kernel_all {p : Str → Prop} : ∀ {l : List Str}, (l.foldr (fun x q => p x ∧ q) True) → ∀ x ∈ l, p x
  | [], _, _, h => by cases h
  | y :: l, q, x, h => by
    rcases List.mem_cons.mp h with e | e
    · rw [e]; exact q.1
    · exact kernel_all q.2 x e
/-- what the head tells of the names of this text -/
structure Facts [TL : TabL] (K : PySem.W.Frag) (mg : Str → Option Value) (base : Heap) : Prop where
  glo : ∀ x ∈ fns, mg x = some (.ref (He.ga K x))
  free : ∀ x ∈ free, mg x = none
  cons : ∀ x d, cons.lookup x = some d → ∃ u v, mg x = some u ∧ RelV v u ∧ ∀ φ F, Rp K φ F d v
  hear : ∀ y z, hearers.lookup y = some z → HearF K mg y z
  make : ∀ (x : Str) (sc : Scope) (fd : FuncData), x ∈ makers → FunD K x x (defArgs (topOf x)) (defBody (topOf x)) (defScope (topOf x)) [] [] (He.ga K x) fd → ∀ cc, fd.code = .ref cc → ∃ T, LamX.TabB base mg cc T ∧ ((T, x ++ ".<locals>." ++ "<lambda>") ∈ TL.T ∧ ∀ p ∈ TL.T, p.1 = T → p.2 = x ++ ".<locals>." ++ "<lambda>")
  defs : ∀ x ∈ fns, ∃ fd, FunD K x x (defArgs (topOf x)) (defBody (topOf x)) (defScope (topOf x)) [] [] (He.ga K x) fd
section
variable [TL : TabL] {K : PySem.W.Frag} {mg : Str → Option Value} {base : Heap}
theorem e_is_integer (f : Facts K mg base) : ∃ fd, DefE K mg base P fns "is_integer" (He.ga K "is_integer") fd S_is_integer m_is_integer ["value"] (defArgs (top 7)) (defBody (top 7)) := by
  obtain ⟨fd, F⟩ := f.defs "is_integer" (by decide +kernel)
  have F : FunD K "is_integer" "is_integer" (defArgs (top 7)) (defBody (top 7)) (defScope (top 7)) [] [] (He.ga K "is_integer") fd := F
  exact ⟨fd, ⟨f.glo "is_integer" (by decide +kernel), by kernel_rfl, F, ⟨rfl, rfl, rfl, by decide +kernel, rfl, by decide +kernel, by decide +kernel⟩, rfl, c_is_integer, rfl, rfl, rfl, F.bindsN fun _ _ _ _ _ _ us hl => match us, hl with | [_], _ => rfl, f.free, f.cons, fun y z hy => by cases hy⟩⟩
theorem e_is_name (f : Facts K mg base) : ∃ fd, DefE K mg base P fns "is_name" (He.ga K "is_name") fd S_is_name m_is_name ["value"] (defArgs (top 8)) (defBody (top 8)) := by
  obtain ⟨fd, F⟩ := f.defs "is_name" (by decide +kernel)
  have F : FunD K "is_name" "is_name" (defArgs (top 8)) (defBody (top 8)) (defScope (top 8)) [] [] (He.ga K "is_name") fd := F
  exact ⟨fd, ⟨f.glo "is_name" (by decide +kernel), by kernel_rfl, F, ⟨rfl, rfl, rfl, by decide +kernel, rfl, by decide +kernel, by decide +kernel⟩, rfl, c_is_name, rfl, rfl, rfl, F.bindsN fun _ _ _ _ _ _ us hl => match us, hl with | [_], _ => rfl, f.free, f.cons, fun y z hy => by cases hy⟩⟩
theorem e_is_value (f : Facts K mg base) : ∃ fd, DefE K mg base P fns "is_value" (He.ga K "is_value") fd S_is_value m_is_value ["value"] (defArgs (top 9)) (defBody (top 9)) := by
  obtain ⟨fd, F⟩ := f.defs "is_value" (by decide +kernel)
  have F : FunD K "is_value" "is_value" (defArgs (top 9)) (defBody (top 9)) (defScope (top 9)) [] [] (He.ga K "is_value") fd := F
  exact ⟨fd, ⟨f.glo "is_value" (by decide +kernel), by kernel_rfl, F, ⟨rfl, rfl, rfl, by decide +kernel, rfl, by decide +kernel, by decide +kernel⟩, rfl, c_is_value, rfl, rfl, rfl, F.bindsN fun _ _ _ _ _ _ us hl => match us, hl with | [_], _ => rfl, f.free, f.cons, fun y z hy => by cases hy⟩⟩
theorem e_kind_of (f : Facts K mg base) : ∃ fd, DefE K mg base P fns "kind_of" (He.ga K "kind_of") fd S_kind_of m_kind_of ["value"] (defArgs (top 10)) (defBody (top 10)) := by
  obtain ⟨fd, F⟩ := f.defs "kind_of" (by decide +kernel)
  have F : FunD K "kind_of" "kind_of" (defArgs (top 10)) (defBody (top 10)) (defScope (top 10)) [] [] (He.ga K "kind_of") fd := F
  exact ⟨fd, ⟨f.glo "kind_of" (by decide +kernel), by kernel_rfl, F, ⟨rfl, rfl, rfl, by decide +kernel, rfl, by decide +kernel, by decide +kernel⟩, rfl, c_kind_of, rfl, rfl, rfl, F.bindsN fun _ _ _ _ _ _ us hl => match us, hl with | [_], _ => rfl, f.free, f.cons, fun y z hy => by cases hy⟩⟩
theorem e_is_day (f : Facts K mg base) : ∃ fd, DefE K mg base P fns "is_day" (He.ga K "is_day") fd S_is_day m_is_day ["value"] (defArgs (top 11)) (defBody (top 11)) := by
  obtain ⟨fd, F⟩ := f.defs "is_day" (by decide +kernel)
  have F : FunD K "is_day" "is_day" (defArgs (top 11)) (defBody (top 11)) (defScope (top 11)) [] [] (He.ga K "is_day") fd := F
  exact ⟨fd, ⟨f.glo "is_day" (by decide +kernel), by kernel_rfl, F, ⟨rfl, rfl, rfl, by decide +kernel, rfl, by decide +kernel, by decide +kernel⟩, rfl, c_is_day, rfl, rfl, rfl, F.bindsN fun _ _ _ _ _ _ us hl => match us, hl with | [_], _ => rfl, f.free, f.cons, fun y z hy => by cases hy⟩⟩
theorem e_is_column (f : Facts K mg base) : ∃ fd, DefE K mg base P fns "is_column" (He.ga K "is_column") fd S_is_column m_is_column ["value"] (defArgs (top 12)) (defBody (top 12)) := by
  obtain ⟨fd, F⟩ := f.defs "is_column" (by decide +kernel)
  have F : FunD K "is_column" "is_column" (defArgs (top 12)) (defBody (top 12)) (defScope (top 12)) [] [] (He.ga K "is_column") fd := F
  exact ⟨fd, ⟨f.glo "is_column" (by decide +kernel), by kernel_rfl, F, ⟨rfl, rfl, rfl, by decide +kernel, rfl, by decide +kernel, by decide +kernel⟩, rfl, c_is_column, rfl, rfl, rfl, F.bindsN fun _ _ _ _ _ _ us hl => match us, hl with | [_], _ => rfl, f.free, f.cons, fun y z hy => by cases hy⟩⟩
theorem e_is_columns (f : Facts K mg base) : ∃ fd, DefE K mg base P fns "is_columns" (He.ga K "is_columns") fd S_is_columns m_is_columns ["value"] (defArgs (top 13)) (defBody (top 13)) := by
  obtain ⟨fd, F⟩ := f.defs "is_columns" (by decide +kernel)
  have F : FunD K "is_columns" "is_columns" (defArgs (top 13)) (defBody (top 13)) (defScope (top 13)) [] [] (He.ga K "is_columns") fd := F
  exact ⟨fd, ⟨f.glo "is_columns" (by decide +kernel), by kernel_rfl, F, ⟨rfl, rfl, rfl, by decide +kernel, rfl, by decide +kernel, by decide +kernel⟩, rfl, c_is_columns, rfl, rfl, rfl, F.bindsN fun _ _ _ _ _ _ us hl => match us, hl with | [_], _ => rfl, f.free, f.cons, fun y z hy => by cases hy⟩⟩
theorem e_is_row (f : Facts K mg base) : ∃ fd, DefE K mg base P fns "is_row" (He.ga K "is_row") fd S_is_row m_is_row ["value", "columns"] (defArgs (top 14)) (defBody (top 14)) := by
  obtain ⟨fd, F⟩ := f.defs "is_row" (by decide +kernel)
  have F : FunD K "is_row" "is_row" (defArgs (top 14)) (defBody (top 14)) (defScope (top 14)) [] [] (He.ga K "is_row") fd := F
  exact ⟨fd, ⟨f.glo "is_row" (by decide +kernel), by kernel_rfl, F, ⟨rfl, rfl, rfl, by decide +kernel, rfl, by decide +kernel, by decide +kernel⟩, rfl, c_is_row, rfl, rfl, rfl, F.bindsN fun _ _ _ _ _ _ us hl => match us, hl with | [_, _], _ => rfl, f.free, f.cons, fun y z hy => by cases hy⟩⟩
theorem e__law_pool (f : Facts K mg base) : ∃ fd, DefE K mg base P fns "_law_pool" (He.ga K "_law_pool") fd S__law_pool m__law_pool ["script"] (defArgs (top 19)) (defBody (top 19)) := by
  obtain ⟨fd, F⟩ := f.defs "_law_pool" (by decide +kernel)
  have F : FunD K "_law_pool" "_law_pool" (defArgs (top 19)) (defBody (top 19)) (defScope (top 19)) [] [] (He.ga K "_law_pool") fd := F
  exact ⟨fd, ⟨f.glo "_law_pool" (by decide +kernel), by kernel_rfl, F, ⟨rfl, rfl, rfl, by decide +kernel, rfl, by decide +kernel, by decide +kernel⟩, rfl, c__law_pool, rfl, rfl, rfl, F.bindsN fun _ _ _ _ _ _ us hl => match us, hl with | [_], _ => rfl, f.free, f.cons, fun y z hy => by cases hy⟩⟩
theorem e__law_take (f : Facts K mg base) : ∃ fd, DefE K mg base P fns "_law_take" (He.ga K "_law_take") fd S__law_take m__law_take ["jar", "many"] (defArgs (top 20)) (defBody (top 20)) := by
  obtain ⟨fd, F⟩ := f.defs "_law_take" (by decide +kernel)
  have F : FunD K "_law_take" "_law_take" (defArgs (top 20)) (defBody (top 20)) (defScope (top 20)) [] [] (He.ga K "_law_take") fd := F
  exact ⟨fd, ⟨f.glo "_law_take" (by decide +kernel), by kernel_rfl, F, ⟨rfl, rfl, rfl, by decide +kernel, rfl, by decide +kernel, by decide +kernel⟩, rfl, c__law_take, rfl, rfl, rfl, F.bindsN fun _ _ _ _ _ _ us hl => match us, hl with | [_, _], _ => rfl, f.free, f.cons, fun y z hy => by cases hy⟩⟩
theorem e__law_one (f : Facts K mg base) : ∃ fd, DefE K mg base P fns "_law_one" (He.ga K "_law_one") fd S__law_one m__law_one ["jar", "things"] (defArgs (top 21)) (defBody (top 21)) := by
  obtain ⟨fd, F⟩ := f.defs "_law_one" (by decide +kernel)
  have F : FunD K "_law_one" "_law_one" (defArgs (top 21)) (defBody (top 21)) (defScope (top 21)) [] [] (He.ga K "_law_one") fd := F
  exact ⟨fd, ⟨f.glo "_law_one" (by decide +kernel), by kernel_rfl, F, ⟨rfl, rfl, rfl, by decide +kernel, rfl, by decide +kernel, by decide +kernel⟩, rfl, c__law_one, rfl, rfl, rfl, F.bindsN fun _ _ _ _ _ _ us hl => match us, hl with | [_, _], _ => rfl, f.free, f.cons, fun y z hy => by cases hy⟩⟩
theorem e__law_mixed (f : Facts K mg base) : ∃ fd, DefE K mg base P fns "_law_mixed" (He.ga K "_law_mixed") fd S__law_mixed m__law_mixed ["jar", "things"] (defArgs (top 22)) (defBody (top 22)) := by
  obtain ⟨fd, F⟩ := f.defs "_law_mixed" (by decide +kernel)
  have F : FunD K "_law_mixed" "_law_mixed" (defArgs (top 22)) (defBody (top 22)) (defScope (top 22)) [] [] (He.ga K "_law_mixed") fd := F
  exact ⟨fd, ⟨f.glo "_law_mixed" (by decide +kernel), by kernel_rfl, F, ⟨rfl, rfl, rfl, by decide +kernel, rfl, by decide +kernel, by decide +kernel⟩, rfl, c__law_mixed, rfl, rfl, rfl, F.bindsN fun _ _ _ _ _ _ us hl => match us, hl with | [_, _], _ => rfl, f.free, f.cons, fun y z hy => by cases hy⟩⟩
theorem e__law_yq_is_whole (f : Facts K mg base) : ∃ fd, DefE K mg base P fns "_law_yq_is_whole" (He.ga K "_law_yq_is_whole") fd S__law_yq_is_whole m__law_yq_is_whole ["thing"] (defArgs (top 23)) (defBody (top 23)) := by
  obtain ⟨fd, F⟩ := f.defs "_law_yq_is_whole" (by decide +kernel)
  have F : FunD K "_law_yq_is_whole" "_law_yq_is_whole" (defArgs (top 23)) (defBody (top 23)) (defScope (top 23)) [] [] (He.ga K "_law_yq_is_whole") fd := F
  exact ⟨fd, ⟨f.glo "_law_yq_is_whole" (by decide +kernel), by kernel_rfl, F, ⟨rfl, rfl, rfl, by decide +kernel, rfl, by decide +kernel, by decide +kernel⟩, rfl, c__law_yq_is_whole, rfl, rfl, rfl, F.bindsN fun _ _ _ _ _ _ us hl => match us, hl with | [_], _ => rfl, f.free, f.cons, fun y z hy => by cases hy⟩⟩
theorem e__law_yq_same (f : Facts K mg base) : ∃ fd, DefE K mg base P fns "_law_yq_same" (He.ga K "_law_yq_same") fd S__law_yq_same m__law_yq_same ["heard_one", "owed"] (defArgs (top 24)) (defBody (top 24)) := by
  obtain ⟨fd, F⟩ := f.defs "_law_yq_same" (by decide +kernel)
  have F : FunD K "_law_yq_same" "_law_yq_same" (defArgs (top 24)) (defBody (top 24)) (defScope (top 24)) [] [] (He.ga K "_law_yq_same") fd := F
  exact ⟨fd, ⟨f.glo "_law_yq_same" (by decide +kernel), by kernel_rfl, F, ⟨rfl, rfl, rfl, by decide +kernel, rfl, by decide +kernel, by decide +kernel⟩, rfl, c__law_yq_same, rfl, rfl, rfl, F.bindsN fun _ _ _ _ _ _ us hl => match us, hl with | [_, _], _ => rfl, f.free, f.cons, fun y z hy => by cases hy⟩⟩
theorem e__law_kr_is_whole (f : Facts K mg base) : ∃ fd, DefE K mg base P fns "_law_kr_is_whole" (He.ga K "_law_kr_is_whole") fd S__law_kr_is_whole m__law_kr_is_whole ["thing"] (defArgs (top 25)) (defBody (top 25)) := by
  obtain ⟨fd, F⟩ := f.defs "_law_kr_is_whole" (by decide +kernel)
  have F : FunD K "_law_kr_is_whole" "_law_kr_is_whole" (defArgs (top 25)) (defBody (top 25)) (defScope (top 25)) [] [] (He.ga K "_law_kr_is_whole") fd := F
  exact ⟨fd, ⟨f.glo "_law_kr_is_whole" (by decide +kernel), by kernel_rfl, F, ⟨rfl, rfl, rfl, by decide +kernel, rfl, by decide +kernel, by decide +kernel⟩, rfl, c__law_kr_is_whole, rfl, rfl, rfl, F.bindsN fun _ _ _ _ _ _ us hl => match us, hl with | [_], _ => rfl, f.free, f.cons, fun y z hy => by cases hy⟩⟩
theorem e__law_kr_words (f : Facts K mg base) : ∃ fd, DefE K mg base P fns "_law_kr_words" (He.ga K "_law_kr_words") fd S__law_kr_words m__law_kr_words [] (defArgs (top 26)) (defBody (top 26)) := by
  obtain ⟨fd, F⟩ := f.defs "_law_kr_words" (by decide +kernel)
  have F : FunD K "_law_kr_words" "_law_kr_words" (defArgs (top 26)) (defBody (top 26)) (defScope (top 26)) [] [] (He.ga K "_law_kr_words") fd := F
  exact ⟨fd, ⟨f.glo "_law_kr_words" (by decide +kernel), by kernel_rfl, F, ⟨rfl, rfl, rfl, by decide +kernel, rfl, by decide +kernel, by decide +kernel⟩, rfl, c__law_kr_words, rfl, rfl, rfl, F.bindsN fun _ _ _ _ _ _ us hl => match us, hl with | [], _ => rfl, f.free, f.cons, fun y z hy => by cases hy⟩⟩
theorem e__law_kr_is_name (f : Facts K mg base) : ∃ fd, DefE K mg base P fns "_law_kr_is_name" (He.ga K "_law_kr_is_name") fd S__law_kr_is_name m__law_kr_is_name ["thing"] (defArgs (top 27)) (defBody (top 27)) := by
  obtain ⟨fd, F⟩ := f.defs "_law_kr_is_name" (by decide +kernel)
  have F : FunD K "_law_kr_is_name" "_law_kr_is_name" (defArgs (top 27)) (defBody (top 27)) (defScope (top 27)) [] [] (He.ga K "_law_kr_is_name") fd := F
  exact ⟨fd, ⟨f.glo "_law_kr_is_name" (by decide +kernel), by kernel_rfl, F, ⟨rfl, rfl, rfl, by decide +kernel, rfl, by decide +kernel, by decide +kernel⟩, rfl, c__law_kr_is_name, rfl, rfl, rfl, F.bindsN fun _ _ _ _ _ _ us hl => match us, hl with | [_], _ => rfl, f.free, f.cons, fun y z hy => by cases hy⟩⟩
theorem e__law_kr_is_text (f : Facts K mg base) : ∃ fd, DefE K mg base P fns "_law_kr_is_text" (He.ga K "_law_kr_is_text") fd S__law_kr_is_text m__law_kr_is_text ["thing"] (defArgs (top 28)) (defBody (top 28)) := by
  obtain ⟨fd, F⟩ := f.defs "_law_kr_is_text" (by decide +kernel)
  have F : FunD K "_law_kr_is_text" "_law_kr_is_text" (defArgs (top 28)) (defBody (top 28)) (defScope (top 28)) [] [] (He.ga K "_law_kr_is_text") fd := F
  exact ⟨fd, ⟨f.glo "_law_kr_is_text" (by decide +kernel), by kernel_rfl, F, ⟨rfl, rfl, rfl, by decide +kernel, rfl, by decide +kernel, by decide +kernel⟩, rfl, c__law_kr_is_text, rfl, rfl, rfl, F.bindsN fun _ _ _ _ _ _ us hl => match us, hl with | [_], _ => rfl, f.free, f.cons, fun y z hy => by cases hy⟩⟩
theorem e__law_kr_is_value (f : Facts K mg base) : ∃ fd, DefE K mg base P fns "_law_kr_is_value" (He.ga K "_law_kr_is_value") fd S__law_kr_is_value m__law_kr_is_value ["thing"] (defArgs (top 29)) (defBody (top 29)) := by
  obtain ⟨fd, F⟩ := f.defs "_law_kr_is_value" (by decide +kernel)
  have F : FunD K "_law_kr_is_value" "_law_kr_is_value" (defArgs (top 29)) (defBody (top 29)) (defScope (top 29)) [] [] (He.ga K "_law_kr_is_value") fd := F
  exact ⟨fd, ⟨f.glo "_law_kr_is_value" (by decide +kernel), by kernel_rfl, F, ⟨rfl, rfl, rfl, by decide +kernel, rfl, by decide +kernel, by decide +kernel⟩, rfl, c__law_kr_is_value, rfl, rfl, rfl, F.bindsN fun _ _ _ _ _ _ us hl => match us, hl with | [_], _ => rfl, f.free, f.cons, fun y z hy => by cases hy⟩⟩
theorem e__law_kr_is_day (f : Facts K mg base) : ∃ fd, DefE K mg base P fns "_law_kr_is_day" (He.ga K "_law_kr_is_day") fd S__law_kr_is_day m__law_kr_is_day ["thing"] (defArgs (top 30)) (defBody (top 30)) := by
  obtain ⟨fd, F⟩ := f.defs "_law_kr_is_day" (by decide +kernel)
  have F : FunD K "_law_kr_is_day" "_law_kr_is_day" (defArgs (top 30)) (defBody (top 30)) (defScope (top 30)) [] [] (He.ga K "_law_kr_is_day") fd := F
  exact ⟨fd, ⟨f.glo "_law_kr_is_day" (by decide +kernel), by kernel_rfl, F, ⟨rfl, rfl, rfl, by decide +kernel, rfl, by decide +kernel, by decide +kernel⟩, rfl, c__law_kr_is_day, rfl, rfl, rfl, F.bindsN fun _ _ _ _ _ _ us hl => match us, hl with | [_], _ => rfl, f.free, f.cons, fun y z hy => by cases hy⟩⟩
theorem e__law_kr_is_column (f : Facts K mg base) : ∃ fd, DefE K mg base P fns "_law_kr_is_column" (He.ga K "_law_kr_is_column") fd S__law_kr_is_column m__law_kr_is_column ["thing"] (defArgs (top 31)) (defBody (top 31)) := by
  obtain ⟨fd, F⟩ := f.defs "_law_kr_is_column" (by decide +kernel)
  have F : FunD K "_law_kr_is_column" "_law_kr_is_column" (defArgs (top 31)) (defBody (top 31)) (defScope (top 31)) [] [] (He.ga K "_law_kr_is_column") fd := F
  exact ⟨fd, ⟨f.glo "_law_kr_is_column" (by decide +kernel), by kernel_rfl, F, ⟨rfl, rfl, rfl, by decide +kernel, rfl, by decide +kernel, by decide +kernel⟩, rfl, c__law_kr_is_column, rfl, rfl, rfl, F.bindsN fun _ _ _ _ _ _ us hl => match us, hl with | [_], _ => rfl, f.free, f.cons, fun y z hy => by cases hy⟩⟩
theorem e__law_kr_is_columns (f : Facts K mg base) : ∃ fd, DefE K mg base P fns "_law_kr_is_columns" (He.ga K "_law_kr_is_columns") fd S__law_kr_is_columns m__law_kr_is_columns ["thing"] (defArgs (top 32)) (defBody (top 32)) := by
  obtain ⟨fd, F⟩ := f.defs "_law_kr_is_columns" (by decide +kernel)
  have F : FunD K "_law_kr_is_columns" "_law_kr_is_columns" (defArgs (top 32)) (defBody (top 32)) (defScope (top 32)) [] [] (He.ga K "_law_kr_is_columns") fd := F
  exact ⟨fd, ⟨f.glo "_law_kr_is_columns" (by decide +kernel), by kernel_rfl, F, ⟨rfl, rfl, rfl, by decide +kernel, rfl, by decide +kernel, by decide +kernel⟩, rfl, c__law_kr_is_columns, rfl, rfl, rfl, F.bindsN fun _ _ _ _ _ _ us hl => match us, hl with | [_], _ => rfl, f.free, f.cons, fun y z hy => by cases hy⟩⟩
theorem e__law_kr_is_of (f : Facts K mg base) : ∃ fd, DefE K mg base P fns "_law_kr_is_of" (He.ga K "_law_kr_is_of") fd S__law_kr_is_of m__law_kr_is_of ["kind", "thing"] (defArgs (top 33)) (defBody (top 33)) := by
  obtain ⟨fd, F⟩ := f.defs "_law_kr_is_of" (by decide +kernel)
  have F : FunD K "_law_kr_is_of" "_law_kr_is_of" (defArgs (top 33)) (defBody (top 33)) (defScope (top 33)) [] [] (He.ga K "_law_kr_is_of") fd := F
  exact ⟨fd, ⟨f.glo "_law_kr_is_of" (by decide +kernel), by kernel_rfl, F, ⟨rfl, rfl, rfl, by decide +kernel, rfl, by decide +kernel, by decide +kernel⟩, rfl, c__law_kr_is_of, rfl, rfl, rfl, F.bindsN fun _ _ _ _ _ _ us hl => match us, hl with | [_, _], _ => rfl, f.free, f.cons, fun y z hy => by cases hy⟩⟩
theorem e__law_kr_is_row (f : Facts K mg base) : ∃ fd, DefE K mg base P fns "_law_kr_is_row" (He.ga K "_law_kr_is_row") fd S__law_kr_is_row m__law_kr_is_row ["thing", "columns_now"] (defArgs (top 34)) (defBody (top 34)) := by
  obtain ⟨fd, F⟩ := f.defs "_law_kr_is_row" (by decide +kernel)
  have F : FunD K "_law_kr_is_row" "_law_kr_is_row" (defArgs (top 34)) (defBody (top 34)) (defScope (top 34)) [] [] (He.ga K "_law_kr_is_row") fd := F
  exact ⟨fd, ⟨f.glo "_law_kr_is_row" (by decide +kernel), by kernel_rfl, F, ⟨rfl, rfl, rfl, by decide +kernel, rfl, by decide +kernel, by decide +kernel⟩, rfl, c__law_kr_is_row, rfl, rfl, rfl, F.bindsN fun _ _ _ _ _ _ us hl => match us, hl with | [_, _], _ => rfl, f.free, f.cons, fun y z hy => by cases hy⟩⟩
theorem e__law_kr_names (f : Facts K mg base) : ∃ fd, DefE K mg base P fns "_law_kr_names" (He.ga K "_law_kr_names") fd S__law_kr_names m__law_kr_names [] (defArgs (top 35)) (defBody (top 35)) := by
  obtain ⟨fd, F⟩ := f.defs "_law_kr_names" (by decide +kernel)
  have F : FunD K "_law_kr_names" "_law_kr_names" (defArgs (top 35)) (defBody (top 35)) (defScope (top 35)) [] [] (He.ga K "_law_kr_names") fd := F
  exact ⟨fd, ⟨f.glo "_law_kr_names" (by decide +kernel), by kernel_rfl, F, ⟨rfl, rfl, rfl, by decide +kernel, rfl, by decide +kernel, by decide +kernel⟩, rfl, c__law_kr_names, rfl, rfl, rfl, F.bindsN fun _ _ _ _ _ _ us hl => match us, hl with | [], _ => rfl, f.free, f.cons, fun y z hy => by cases hy⟩⟩
theorem e__law_kr_drawn_value (f : Facts K mg base) : ∃ fd, DefE K mg base P fns "_law_kr_drawn_value" (He.ga K "_law_kr_drawn_value") fd S__law_kr_drawn_value m__law_kr_drawn_value ["jar", "kind"] (defArgs (top 36)) (defBody (top 36)) := by
  obtain ⟨fd, F⟩ := f.defs "_law_kr_drawn_value" (by decide +kernel)
  have F : FunD K "_law_kr_drawn_value" "_law_kr_drawn_value" (defArgs (top 36)) (defBody (top 36)) (defScope (top 36)) [] [] (He.ga K "_law_kr_drawn_value") fd := F
  exact ⟨fd, ⟨f.glo "_law_kr_drawn_value" (by decide +kernel), by kernel_rfl, F, ⟨rfl, rfl, rfl, by decide +kernel, rfl, by decide +kernel, by decide +kernel⟩, rfl, c__law_kr_drawn_value, rfl, rfl, rfl, F.bindsN fun _ _ _ _ _ _ us hl => match us, hl with | [_, _], _ => rfl, f.free, f.cons, fun y z hy => by cases hy⟩⟩
theorem e__law_kr_drawn_row (f : Facts K mg base) : ∃ fd, DefE K mg base P fns "_law_kr_drawn_row" (He.ga K "_law_kr_drawn_row") fd S__law_kr_drawn_row m__law_kr_drawn_row ["jar", "columns_now"] (defArgs (top 37)) (defBody (top 37)) := by
  obtain ⟨fd, F⟩ := f.defs "_law_kr_drawn_row" (by decide +kernel)
  have F : FunD K "_law_kr_drawn_row" "_law_kr_drawn_row" (defArgs (top 37)) (defBody (top 37)) (defScope (top 37)) [] [] (He.ga K "_law_kr_drawn_row") fd := F
  exact ⟨fd, ⟨f.glo "_law_kr_drawn_row" (by decide +kernel), by kernel_rfl, F, ⟨rfl, rfl, rfl, by decide +kernel, rfl, by decide +kernel, by decide +kernel⟩, rfl, c__law_kr_drawn_row, rfl, rfl, rfl, F.bindsN fun _ _ _ _ _ _ us hl => match us, hl with | [_, _], _ => rfl, f.free, f.cons, fun y z hy => by cases hy⟩⟩
theorem e__law_plain (f : Facts K mg base) : ∃ fd, DefE K mg base P fns "_law_plain" (He.ga K "_law_plain") fd S__law_plain m__law_plain [] (defArgs (top 39)) (defBody (top 39)) := by
  obtain ⟨fd, F⟩ := f.defs "_law_plain" (by decide +kernel)
  have F : FunD K "_law_plain" "_law_plain" (defArgs (top 39)) (defBody (top 39)) (defScope (top 39)) [] [] (He.ga K "_law_plain") fd := F
  exact ⟨fd, ⟨f.glo "_law_plain" (by decide +kernel), by kernel_rfl, F, ⟨rfl, rfl, rfl, by decide +kernel, rfl, by decide +kernel, by decide +kernel⟩, rfl, c__law_plain, rfl, rfl, rfl, F.bindsN fun _ _ _ _ _ _ us hl => match us, hl with | [], _ => rfl, f.free, f.cons, fun y z hy => by cases hy⟩⟩
theorem e__law_name_things (f : Facts K mg base) : ∃ fd, DefE K mg base P fns "_law_name_things" (He.ga K "_law_name_things") fd S__law_name_things m__law_name_things ["jar"] (defArgs (top 40)) (defBody (top 40)) := by
  obtain ⟨fd, F⟩ := f.defs "_law_name_things" (by decide +kernel)
  have F : FunD K "_law_name_things" "_law_name_things" (defArgs (top 40)) (defBody (top 40)) (defScope (top 40)) [] [] (He.ga K "_law_name_things") fd := F
  exact ⟨fd, ⟨f.glo "_law_name_things" (by decide +kernel), by kernel_rfl, F, ⟨rfl, rfl, rfl, by decide +kernel, rfl, by decide +kernel, by decide +kernel⟩, rfl, c__law_name_things, rfl, rfl, rfl, F.bindsN fun _ _ _ _ _ _ us hl => match us, hl with | [_], _ => rfl, f.free, f.cons, fun y z hy => by cases hy⟩⟩
theorem e__law_value_things (f : Facts K mg base) : ∃ fd, DefE K mg base P fns "_law_value_things" (He.ga K "_law_value_things") fd S__law_value_things m__law_value_things ["jar"] (defArgs (top 41)) (defBody (top 41)) := by
  obtain ⟨fd, F⟩ := f.defs "_law_value_things" (by decide +kernel)
  have F : FunD K "_law_value_things" "_law_value_things" (defArgs (top 41)) (defBody (top 41)) (defScope (top 41)) [] [] (He.ga K "_law_value_things") fd := F
  exact ⟨fd, ⟨f.glo "_law_value_things" (by decide +kernel), by kernel_rfl, F, ⟨rfl, rfl, rfl, by decide +kernel, rfl, by decide +kernel, by decide +kernel⟩, rfl, c__law_value_things, rfl, rfl, rfl, F.bindsN fun _ _ _ _ _ _ us hl => match us, hl with | [_], _ => rfl, f.free, f.cons, fun y z hy => by cases hy⟩⟩
theorem e__law_day_things (f : Facts K mg base) : ∃ fd, DefE K mg base P fns "_law_day_things" (He.ga K "_law_day_things") fd S__law_day_things m__law_day_things ["jar"] (defArgs (top 42)) (defBody (top 42)) := by
  obtain ⟨fd, F⟩ := f.defs "_law_day_things" (by decide +kernel)
  have F : FunD K "_law_day_things" "_law_day_things" (defArgs (top 42)) (defBody (top 42)) (defScope (top 42)) [] [] (He.ga K "_law_day_things") fd := F
  exact ⟨fd, ⟨f.glo "_law_day_things" (by decide +kernel), by kernel_rfl, F, ⟨rfl, rfl, rfl, by decide +kernel, rfl, by decide +kernel, by decide +kernel⟩, rfl, c__law_day_things, rfl, rfl, rfl, F.bindsN fun _ _ _ _ _ _ us hl => match us, hl with | [_], _ => rfl, f.free, f.cons, fun y z hy => by cases hy⟩⟩
theorem e__law_columns_things (f : Facts K mg base) : ∃ fd, DefE K mg base P fns "_law_columns_things" (He.ga K "_law_columns_things") fd S__law_columns_things m__law_columns_things ["jar"] (defArgs (top 43)) (defBody (top 43)) := by
  obtain ⟨fd, F⟩ := f.defs "_law_columns_things" (by decide +kernel)
  have F : FunD K "_law_columns_things" "_law_columns_things" (defArgs (top 43)) (defBody (top 43)) (defScope (top 43)) [] [] (He.ga K "_law_columns_things") fd := F
  exact ⟨fd, ⟨f.glo "_law_columns_things" (by decide +kernel), by kernel_rfl, F, ⟨rfl, rfl, rfl, by decide +kernel, rfl, by decide +kernel, by decide +kernel⟩, rfl, c__law_columns_things, rfl, rfl, rfl, F.bindsN fun _ _ _ _ _ _ us hl => match us, hl with | [_], _ => rfl, f.free, f.cons, fun y z hy => by cases hy⟩⟩
theorem e__law_heard_judge (f : Facts K mg base) : ∃ fd, DefE K mg base P fns "_law_heard_judge" (He.ga K "_law_heard_judge") fd S__law_heard_judge m__law_heard_judge ["sort", "thing"] (defArgs (top 44)) (defBody (top 44)) := by
  obtain ⟨fd, F⟩ := f.defs "_law_heard_judge" (by decide +kernel)
  have F : FunD K "_law_heard_judge" "_law_heard_judge" (defArgs (top 44)) (defBody (top 44)) (defScope (top 44)) [] [] (He.ga K "_law_heard_judge") fd := F
  exact ⟨fd, ⟨f.glo "_law_heard_judge" (by decide +kernel), by kernel_rfl, F, ⟨rfl, rfl, rfl, by decide +kernel, rfl, by decide +kernel, by decide +kernel⟩, rfl, c__law_heard_judge, rfl, rfl, rfl, F.bindsN fun _ _ _ _ _ _ us hl => match us, hl with | [_, _], _ => rfl, f.free, f.cons, fun y z hy => ⟨f.hear y z hy, fun cc hcc => (let ⟨T, h1, h2⟩ := f.make "_law_heard_judge" (defScope (top 44)) fd (by decide +kernel) F cc hcc; ⟨T, h1, fun _ => h2⟩)⟩⟩⟩
theorem e__law_owed (f : Facts K mg base) : ∃ fd, DefE K mg base P fns "_law_owed" (He.ga K "_law_owed") fd S__law_owed m__law_owed ["sort", "thing"] (defArgs (top 45)) (defBody (top 45)) := by
  obtain ⟨fd, F⟩ := f.defs "_law_owed" (by decide +kernel)
  have F : FunD K "_law_owed" "_law_owed" (defArgs (top 45)) (defBody (top 45)) (defScope (top 45)) [] [] (He.ga K "_law_owed") fd := F
  exact ⟨fd, ⟨f.glo "_law_owed" (by decide +kernel), by kernel_rfl, F, ⟨rfl, rfl, rfl, by decide +kernel, rfl, by decide +kernel, by decide +kernel⟩, rfl, c__law_owed, rfl, rfl, rfl, F.bindsN fun _ _ _ _ _ _ us hl => match us, hl with | [_, _], _ => rfl, f.free, f.cons, fun y z hy => by cases hy⟩⟩
theorem e__law_heard_row (f : Facts K mg base) : ∃ fd, DefE K mg base P fns "_law_heard_row" (He.ga K "_law_heard_row") fd S__law_heard_row m__law_heard_row ["thing", "columns_now"] (defArgs (top 46)) (defBody (top 46)) := by
  obtain ⟨fd, F⟩ := f.defs "_law_heard_row" (by decide +kernel)
  have F : FunD K "_law_heard_row" "_law_heard_row" (defArgs (top 46)) (defBody (top 46)) (defScope (top 46)) [] [] (He.ga K "_law_heard_row") fd := F
  exact ⟨fd, ⟨f.glo "_law_heard_row" (by decide +kernel), by kernel_rfl, F, ⟨rfl, rfl, rfl, by decide +kernel, rfl, by decide +kernel, by decide +kernel⟩, rfl, c__law_heard_row, rfl, rfl, rfl, F.bindsN fun _ _ _ _ _ _ us hl => match us, hl with | [_, _], _ => rfl, f.free, f.cons, fun y z hy => ⟨f.hear y z hy, fun cc hcc => (let ⟨T, h1, h2⟩ := f.make "_law_heard_row" (defScope (top 46)) fd (by decide +kernel) F cc hcc; ⟨T, h1, fun _ => h2⟩)⟩⟩⟩
theorem e__law_rows_right (f : Facts K mg base) : ∃ fd, DefE K mg base P fns "_law_rows_right" (He.ga K "_law_rows_right") fd S__law_rows_right m__law_rows_right ["jar"] (defArgs (top 47)) (defBody (top 47)) := by
  obtain ⟨fd, F⟩ := f.defs "_law_rows_right" (by decide +kernel)
  have F : FunD K "_law_rows_right" "_law_rows_right" (defArgs (top 47)) (defBody (top 47)) (defScope (top 47)) [] [] (He.ga K "_law_rows_right") fd := F
  exact ⟨fd, ⟨f.glo "_law_rows_right" (by decide +kernel), by kernel_rfl, F, ⟨rfl, rfl, rfl, by decide +kernel, rfl, by decide +kernel, by decide +kernel⟩, rfl, c__law_rows_right, rfl, rfl, rfl, F.bindsN fun _ _ _ _ _ _ us hl => match us, hl with | [_], _ => rfl, f.free, f.cons, fun y z hy => by cases hy⟩⟩
theorem e_law (f : Facts K mg base) : ∃ fd, DefE K mg base P fns "law" (He.ga K "law") fd S_law m_law ["script"] (defArgs (top 48)) (defBody (top 48)) := by
  obtain ⟨fd, F⟩ := f.defs "law" (by decide +kernel)
  have F : FunD K "law" "law" (defArgs (top 48)) (defBody (top 48)) (defScope (top 48)) [] [] (He.ga K "law") fd := F
  exact ⟨fd, ⟨f.glo "law" (by decide +kernel), by kernel_rfl, F, ⟨rfl, rfl, rfl, by decide +kernel, rfl, by decide +kernel, by decide +kernel⟩, rfl, c_law, rfl, rfl, rfl, F.bindsN fun _ _ _ _ _ _ us hl => match us, hl with | [_], _ => rfl, f.free, f.cons, fun y z hy => by cases hy⟩⟩
theorem all_defs (f : Facts K mg base) : ∀ x ∈ fns, ∃ fa fd S g ps params body, DefE K mg base P fns x fa fd S g ps params body :=
  kernel_all (l := fns) ⟨(let ⟨fd, e⟩ := e_is_integer f; ⟨_, fd, _, _, _, _, _, e⟩), (let ⟨fd, e⟩ := e_is_name f; ⟨_, fd, _, _, _, _, _, e⟩), (let ⟨fd, e⟩ := e_is_value f; ⟨_, fd, _, _, _, _, _, e⟩), (let ⟨fd, e⟩ := e_kind_of f; ⟨_, fd, _, _, _, _, _, e⟩), (let ⟨fd, e⟩ := e_is_day f; ⟨_, fd, _, _, _, _, _, e⟩), (let ⟨fd, e⟩ := e_is_column f; ⟨_, fd, _, _, _, _, _, e⟩), (let ⟨fd, e⟩ := e_is_columns f; ⟨_, fd, _, _, _, _, _, e⟩), (let ⟨fd, e⟩ := e_is_row f; ⟨_, fd, _, _, _, _, _, e⟩), (let ⟨fd, e⟩ := e__law_pool f; ⟨_, fd, _, _, _, _, _, e⟩), (let ⟨fd, e⟩ := e__law_take f; ⟨_, fd, _, _, _, _, _, e⟩), (let ⟨fd, e⟩ := e__law_one f; ⟨_, fd, _, _, _, _, _, e⟩), (let ⟨fd, e⟩ := e__law_mixed f; ⟨_, fd, _, _, _, _, _, e⟩), (let ⟨fd, e⟩ := e__law_yq_is_whole f; ⟨_, fd, _, _, _, _, _, e⟩), (let ⟨fd, e⟩ := e__law_yq_same f; ⟨_, fd, _, _, _, _, _, e⟩), (let ⟨fd, e⟩ := e__law_kr_is_whole f; ⟨_, fd, _, _, _, _, _, e⟩), (let ⟨fd, e⟩ := e__law_kr_words f; ⟨_, fd, _, _, _, _, _, e⟩), (let ⟨fd, e⟩ := e__law_kr_is_name f; ⟨_, fd, _, _, _, _, _, e⟩), (let ⟨fd, e⟩ := e__law_kr_is_text f; ⟨_, fd, _, _, _, _, _, e⟩), (let ⟨fd, e⟩ := e__law_kr_is_value f; ⟨_, fd, _, _, _, _, _, e⟩), (let ⟨fd, e⟩ := e__law_kr_is_day f; ⟨_, fd, _, _, _, _, _, e⟩), (let ⟨fd, e⟩ := e__law_kr_is_column f; ⟨_, fd, _, _, _, _, _, e⟩), (let ⟨fd, e⟩ := e__law_kr_is_columns f; ⟨_, fd, _, _, _, _, _, e⟩), (let ⟨fd, e⟩ := e__law_kr_is_of f; ⟨_, fd, _, _, _, _, _, e⟩), (let ⟨fd, e⟩ := e__law_kr_is_row f; ⟨_, fd, _, _, _, _, _, e⟩), (let ⟨fd, e⟩ := e__law_kr_names f; ⟨_, fd, _, _, _, _, _, e⟩), (let ⟨fd, e⟩ := e__law_kr_drawn_value f; ⟨_, fd, _, _, _, _, _, e⟩), (let ⟨fd, e⟩ := e__law_kr_drawn_row f; ⟨_, fd, _, _, _, _, _, e⟩), (let ⟨fd, e⟩ := e__law_plain f; ⟨_, fd, _, _, _, _, _, e⟩), (let ⟨fd, e⟩ := e__law_name_things f; ⟨_, fd, _, _, _, _, _, e⟩), (let ⟨fd, e⟩ := e__law_value_things f; ⟨_, fd, _, _, _, _, _, e⟩), (let ⟨fd, e⟩ := e__law_day_things f; ⟨_, fd, _, _, _, _, _, e⟩), (let ⟨fd, e⟩ := e__law_columns_things f; ⟨_, fd, _, _, _, _, _, e⟩), (let ⟨fd, e⟩ := e__law_heard_judge f; ⟨_, fd, _, _, _, _, _, e⟩), (let ⟨fd, e⟩ := e__law_owed f; ⟨_, fd, _, _, _, _, _, e⟩), (let ⟨fd, e⟩ := e__law_heard_row f; ⟨_, fd, _, _, _, _, _, e⟩), (let ⟨fd, e⟩ := e__law_rows_right f; ⟨_, fd, _, _, _, _, _, e⟩), (let ⟨fd, e⟩ := e_law f; ⟨_, fd, _, _, _, _, _, e⟩), True.intro⟩
end
end MP.K01

set_option Elab.async false
set_option linter.all false
set_option maxRecDepth 100000
set_option maxHeartbeats 4000000
/-! k01: what the judges say. -/
namespace MP
open PySem PySem.Spec PyProof.Rows L2
theorem eq_of_wp {r : R D} {x : D} {M : Mh} (h : wpR r fun a M' => a = x ∧ M' = M) : r = .ok x M := by
  obtain ⟨a, M', e, rfl, rfl⟩ := wpR_ex h
  exact e
/-- all signs stand in t -/
def inS (t s : Str) : Bool := s.cps.toList.all fun c => decide (c ∈ t.cps.toList)
theorem allBl_map {α : Type} (l : List α) (f : α → Bool) : allBl (l.map fun c => D.bl (f c)) = some (l.map f) := by
  induction l with
  | nil => rfl
  | cons a l ih =>
    show (allBl (l.map fun c => D.bl (f c))).map (f a :: ·) = _
    rw [ih]
    rfl
theorem signs_len {s : Str} (h : s.length ≤ line) : (signs s).length ≤ line := by
  unfold signs
  rw [List.length_map, Array.length_toList]
  exact h
theorem stillD_str {s : Str} (h : s.length ≤ line) : stillD (.str s) = some (signs s) := if_pos h
theorem lenD_str {s : Str} (h : s.length ≤ line) : lenD (.str s) = some s.length := if_pos h
section
variable {c : Cf} {ρ : Rho} {M : Mh}
theorem turn_in {v : Nat} {t : Str} {x : Nat} (hv : v < ρ.length) : lcTurn (.nm v) [v] tYes (sCmp .inn (sVar v) (sC (.str t))) c ρ (.str ⟨#[x]⟩) M = .ok (some (.bl (decide (x ∈ t.cps.toList)))) M := by
  have e1 : wipeR ρ [v] = ρ.set v none := rfl
  have e2 : (ρ.set v none).set v (some (D.str ⟨#[x]⟩)) = ρ.set v (some (.str ⟨#[x]⟩)) := List.set_set ..
  have e3 : (ρ.set v (some (D.str ⟨#[x]⟩)))[v]? = some (some (.str ⟨#[x]⟩)) := by rw [List.getElem?_set_self hv]
  show opt (some ((wipeR ρ [v]).set v (some (D.str ⟨#[x]⟩)))) _ = _
  rw [e1, e2]
  show R.bind (R.bind (match (ρ.set v (some (D.str ⟨#[x]⟩)))[v]? with | some (some d) => R.ok d M | _ => .fail) _) _ = _
  rw [e3]
  rfl
theorem turn_out {v : Nat} {t : Str} {x : Nat} (hv : v < ρ.length) : lcTurn (.nm v) [v] (tCmp .nin (sVar v) (sC (.str t))) (sVar v) c ρ (.str ⟨#[x]⟩) M = .ok (if x ∈ t.cps.toList then none else some (.str ⟨#[x]⟩)) M := by
  have e1 : wipeR ρ [v] = ρ.set v none := rfl
  have e2 : (ρ.set v none).set v (some (D.str ⟨#[x]⟩)) = ρ.set v (some (.str ⟨#[x]⟩)) := List.set_set ..
  have e3 : (ρ.set v (some (D.str ⟨#[x]⟩)))[v]? = some (some (.str ⟨#[x]⟩)) := by rw [List.getElem?_set_self hv]
  show opt (some ((wipeR ρ [v]).set v (some (D.str ⟨#[x]⟩)))) _ = _
  rw [e1, e2]
  show R.bind (R.bind (match (ρ.set v (some (D.str ⟨#[x]⟩)))[v]? with | some (some d) => R.ok d M | _ => .fail) _) _ = _
  rw [e3]
  show (if (!decide (x ∈ t.cps.toList)) = true then R.bind (match (ρ.set v (some (D.str ⟨#[x]⟩)))[v]? with | some (some d) => R.ok d M | _ => .fail) _ else _) = _
  rw [e3]
  by_cases hx : x ∈ t.cps.toList
  · rw [decide_eq_true hx, if_neg (by decide), if_pos hx]
  · rw [decide_eq_false hx, if_pos (by decide), if_neg hx]
    rfl
theorem w_AllIn {Q : D → Mh → Prop} {j v : Nat} {t s : Str} (hv : v < ρ.length) (hj : ρ[j]? = some (some (.str s))) (hs : s.length ≤ line) (q : Q (.bl (inS t s)) M) : wpR (sAll (sLc false (iVal (sVar j)) (.nm v) [v] tYes (sCmp .inn (sVar v) (sC (.str t)))) c ρ M) Q := by
  refine w_All (w_LcP (i_Val (w_Var hj (wO_some (stillD_str hs) ?_))))
  refine ⟨_, fun d => match d with
    | .str y => (sign? y).map fun x => .bl (decide (x ∈ t.cps.toList))
    | _ => none, rfl, signs_len hs, fun d hd => ?_, ?_⟩
  · obtain ⟨x, _, rfl⟩ := List.mem_map.mp hd
    exact turn_in hv
  · refine ⟨_, s.cps.toList.map fun x => decide (x ∈ t.cps.toList), rfl, ?_, ?_⟩
    · unfold signs
      rw [List.filterMap_map]
      have e2 : ((fun d : D => match d with
        | .str y => (sign? y).map fun x => D.bl (decide (x ∈ t.cps.toList))
        | _ => none) ∘ fun c : Nat => D.str ⟨#[c]⟩) = fun x : Nat => some (D.bl (decide (x ∈ t.cps.toList))) := by
        funext x
        rfl
      rw [e2, List.filterMap_eq_map']
      exact allBl_map _ _
    · rw [List.all_map]
      exact q
theorem w_NoneOut {Q : D → Mh → Prop} {j v : Nat} {t s : Str} (hv : v < ρ.length) (hj : ρ[j]? = some (some (.str s))) (hs : s.length ≤ line) (q : Q (.bl (inS t s)) M) : wpR (sCmp .eq (sLc false (iVal (sVar j)) (.nm v) [v] (tCmp .nin (sVar v) (sC (.str t))) (sVar v)) (sLst false aNil) c ρ M) Q := by
  refine w_Cmp (w_LcP (i_Val (w_Var hj (wO_some (stillD_str hs) ?_))))
  refine ⟨_, fun d => match d with
    | .str y => (sign? y).bind fun x => if x ∈ t.cps.toList then none else some d
    | _ => none, rfl, signs_len hs, fun d hd => ?_, ?_⟩
  · obtain ⟨x, _, rfl⟩ := List.mem_map.mp hd
    exact turn_out hv
  · refine w_Lst (w_Nil ⟨Nat.zero_le _, ?_⟩)
    unfold signs
    rw [List.filterMap_map]
    have e2 : ((fun d : D => match d with
      | .str y => (sign? y).bind fun x => if x ∈ t.cps.toList then none else some d
      | _ => none) ∘ fun c : Nat => D.str ⟨#[c]⟩) = fun x : Nat => if x ∈ t.cps.toList then none else some (.str ⟨#[x]⟩) := by
      funext x
      rfl
    rw [e2]
    have e3 : (List.filterMap (fun x : Nat => if x ∈ t.cps.toList then none else some (D.str ⟨#[x]⟩)) s.cps.toList).isEmpty = inS t s := by
      unfold inS
      induction s.cps.toList with
      | nil => rfl
      | cons a l ih =>
        by_cases ha : a ∈ t.cps.toList
        · rw [List.filterMap_cons_none (by rw [if_pos ha]), List.all_cons, decide_eq_true ha, Bool.true_and]
          exact ih
        · rw [List.filterMap_cons_some (by rw [if_neg ha]), List.all_cons, decide_eq_false ha, Bool.false_and]
          rfl
    refine wO_some (a := inS t s) ?_ q
    rw [← e3]
    generalize (List.filterMap (fun x : Nat => if x ∈ t.cps.toList then none else some (D.str ⟨#[x]⟩)) s.cps.toList) = l
    cases l <;> rfl
end
end MP
namespace MP
end MP
namespace MP.K01
open PySem PySem.Spec PyProof.Rows L2 MP
def letS : Str := "abcdefghijklmnopqrstuvwxyz"
def signS : Str := "abcdefghijklmnopqrstuvwxyz0123456789 "
def wordL : List D := match k_WORDS with
  | .kls ds => ds
  | _ => []
def kindL : List D := match k_KINDS with
  | .kls ds => ds
  | _ => []
def inL (l : List D) (s : Str) : Bool := l.any fun y => eqF y (.str s)
def nameB : D → Bool
  | .str s => decide (1 ≤ s.length ∧ s.length ≤ 8) && (!inL wordL s && inS letS s)
  | _ => false
def textB : D → Bool
  | .str s => decide (s.length ≤ 20) && inS signS s
  | _ => false
def valueB (d : D) : Bool := isI d || textB d
def dayB : D → Bool
  | .int i => decide (0 ≤ i) && decide (i ≤ 999)
  | _ => false
def kindB : D → Bool
  | .str s => inL kindL s
  | _ => false
theorem p_is_integer : P "is_integer" = some m_whole := by kernel_rfl
theorem p_kr_is_whole : P "_law_kr_is_whole" = some m_whole := by kernel_rfl
theorem p_is_name : P "is_name" = some m_is_name := by kernel_rfl
theorem p_is_value : P "is_value" = some m_is_value := by kernel_rfl
theorem p_kind_of : P "kind_of" = some m_kind_of := by kernel_rfl
theorem p_is_day : P "is_day" = some m_is_day := by kernel_rfl
theorem p_is_column : P "is_column" = some m_is_column := by kernel_rfl
theorem p_is_columns : P "is_columns" = some m_is_columns := by kernel_rfl
theorem p_is_row : P "is_row" = some m_is_row := by kernel_rfl
theorem p_kr_words : P "_law_kr_words" = some m__law_kr_words := by kernel_rfl
theorem p_kr_is_name : P "_law_kr_is_name" = some m__law_kr_is_name := by kernel_rfl
theorem p_kr_is_text : P "_law_kr_is_text" = some m__law_kr_is_text := by kernel_rfl
theorem p_kr_is_value : P "_law_kr_is_value" = some m__law_kr_is_value := by kernel_rfl
theorem p_kr_is_day : P "_law_kr_is_day" = some m__law_kr_is_day := by kernel_rfl
theorem p_kr_is_column : P "_law_kr_is_column" = some m__law_kr_is_column := by kernel_rfl
theorem p_kr_is_columns : P "_law_kr_is_columns" = some m__law_kr_is_columns := by kernel_rfl
theorem p_kr_is_of : P "_law_kr_is_of" = some m__law_kr_is_of := by kernel_rfl
theorem p_kr_is_row : P "_law_kr_is_row" = some m__law_kr_is_row := by kernel_rfl
theorem fit_str {n : Nat} {s : Str} (h : fit n (.str s) = true) : s.length ≤ 1000 := by
  cases n <;> exact of_decide_eq_true h
theorem line_str {n : Nat} {s : Str} (h : fit n (.str s) = true) : s.length ≤ line := by
  have := fit_str h
  show s.length ≤ 16777216
  omega
theorem r_words {k : Nat} {M : Mh} : callAt P (k + 1) "_law_kr_words" [] M = .ok (.lst wordL) M := run_eq p_kr_words rfl (by kernel_rfl)
theorem r_is_name {k n : Nat} {d : D} {M : Mh} (h : fit n d = true) : callAt P (k + 1) "is_name" [d] M = .ok (.bl (nameB d)) M := by
  refine eq_of_wp (wp_run0 p_is_name rfl rfl ?_)
  dsimp only [m_is_name, List.map, List.append, List.map_cons, List.map_nil, List.length_cons, List.length_nil, List.replicate, List.cons_append, List.nil_append, Nat.reduceSub, Nat.reduceAdd]
  cases d <;> first | (cases n <;> cases h; done) | ((repeat (first | (with_reducible first | refine z_Seq ?_ | refine z_SetN ?_ | refine z_Set ?_ | refine z_Ret ?_ | refine z_If ?_ | refine z_Expr ?_ | refine z_Next ?_ | refine z_Par ?_ | refine z_SetIx ?_ | refine w_C ?_ | refine w_Bop ?_ | refine w_BopT ?_ | refine w_Cmp ?_ | refine w_Chain ?_ | refine w_Is ?_ | refine w_Neg ?_ | refine w_Not ?_ | refine w_And ?_ | refine w_Or ?_ | refine w_Ite ?_ | refine w_Tup ?_ | refine w_Lst ?_ | refine w_LstT ?_ | refine w_Idx ?_ | refine w_SlcNN ?_ | refine w_SlcNS ?_ | refine w_SlcSN ?_ | refine w_Rev ?_ | refine w_Isi ?_ | refine w_Len ?_ | refine w_Int ?_ | refine w_Bool ?_ | refine w_Max ?_ | refine w_All ?_ | refine w_List ?_ | refine w_ListT ?_ | refine w_Tuple ?_ | refine w_Join ?_ | refine w_Split ?_ | refine w_Call ?_ | refine w_DictOf ?_ | refine w_Dict0 ?_ | refine w_Dict1 ?_ | refine w_Append ?_ | refine w_Extend ?_ | refine w_PopAt ?_ | refine w_Nil ?_ | refine w_Cons ?_ | refine v_Val ?_ | refine v_And ?_ | refine v_Or ?_ | refine v_Cmp ?_ | refine v_Chain ?_ | refine v_Is ?_ | refine v_Not ?_ | refine v_Yes ?_) | ((with_reducible apply w_Var); (focus (exact rfl))) | (with_reducible first | refine wO_some (isi_I (by with_unfolding_all exact rfl)) ?_ | refine wO_some (isi_B (by with_unfolding_all exact rfl)) ?_ | refine wO_some (isi_S (by with_unfolding_all exact rfl)) ?_ | refine wO_some (isi_T (by with_unfolding_all exact rfl)) ?_ | refine wO_some (isi_L (by with_unfolding_all exact rfl)) ?_) | (first | refine ifT rfl ?_ | refine ifF rfl ?_) | (refine wO_some rfl ?_) | refine ⟨_, rfl, ?_⟩)); exact ⟨rfl, rfl, rfl⟩) | skip
  rename_i s
  have hs := line_str h
  (repeat (first | (with_reducible first | refine z_Seq ?_ | refine z_SetN ?_ | refine z_Set ?_ | refine z_Ret ?_ | refine z_If ?_ | refine z_Expr ?_ | refine z_Next ?_ | refine z_Par ?_ | refine z_SetIx ?_ | refine w_C ?_ | refine w_Bop ?_ | refine w_BopT ?_ | refine w_Cmp ?_ | refine w_Chain ?_ | refine w_Is ?_ | refine w_Neg ?_ | refine w_Not ?_ | refine w_And ?_ | refine w_Or ?_ | refine w_Ite ?_ | refine w_Tup ?_ | refine w_Lst ?_ | refine w_LstT ?_ | refine w_Idx ?_ | refine w_SlcNN ?_ | refine w_SlcNS ?_ | refine w_SlcSN ?_ | refine w_Rev ?_ | refine w_Isi ?_ | refine w_Len ?_ | refine w_Int ?_ | refine w_Bool ?_ | refine w_Max ?_ | refine w_All ?_ | refine w_List ?_ | refine w_ListT ?_ | refine w_Tuple ?_ | refine w_Join ?_ | refine w_Split ?_ | refine w_Call ?_ | refine w_DictOf ?_ | refine w_Dict0 ?_ | refine w_Dict1 ?_ | refine w_Append ?_ | refine w_Extend ?_ | refine w_PopAt ?_ | refine w_Nil ?_ | refine w_Cons ?_ | refine v_Val ?_ | refine v_And ?_ | refine v_Or ?_ | refine v_Cmp ?_ | refine v_Chain ?_ | refine v_Is ?_ | refine v_Not ?_ | refine v_Yes ?_) | ((with_reducible apply w_Var); (focus (exact rfl))) | (with_reducible first | refine wO_some (isi_I (by with_unfolding_all exact rfl)) ?_ | refine wO_some (isi_B (by with_unfolding_all exact rfl)) ?_ | refine wO_some (isi_S (by with_unfolding_all exact rfl)) ?_ | refine wO_some (isi_T (by with_unfolding_all exact rfl)) ?_ | refine wO_some (isi_L (by with_unfolding_all exact rfl)) ?_) | (first | refine ifT rfl ?_ | refine ifF rfl ?_) | (refine wO_some rfl ?_) | refine ⟨_, rfl, ?_⟩))
  refine wO_some (lenD_str hs) ?_
  (repeat (first | (with_reducible first | refine z_Seq ?_ | refine z_SetN ?_ | refine z_Set ?_ | refine z_Ret ?_ | refine z_If ?_ | refine z_Expr ?_ | refine z_Next ?_ | refine z_Par ?_ | refine z_SetIx ?_ | refine w_C ?_ | refine w_Bop ?_ | refine w_BopT ?_ | refine w_Cmp ?_ | refine w_Chain ?_ | refine w_Is ?_ | refine w_Neg ?_ | refine w_Not ?_ | refine w_And ?_ | refine w_Or ?_ | refine w_Ite ?_ | refine w_Tup ?_ | refine w_Lst ?_ | refine w_LstT ?_ | refine w_Idx ?_ | refine w_SlcNN ?_ | refine w_SlcNS ?_ | refine w_SlcSN ?_ | refine w_Rev ?_ | refine w_Isi ?_ | refine w_Len ?_ | refine w_Int ?_ | refine w_Bool ?_ | refine w_Max ?_ | refine w_All ?_ | refine w_List ?_ | refine w_ListT ?_ | refine w_Tuple ?_ | refine w_Join ?_ | refine w_Split ?_ | refine w_Call ?_ | refine w_DictOf ?_ | refine w_Dict0 ?_ | refine w_Dict1 ?_ | refine w_Append ?_ | refine w_Extend ?_ | refine w_PopAt ?_ | refine w_Nil ?_ | refine w_Cons ?_ | refine v_Val ?_ | refine v_And ?_ | refine v_Or ?_ | refine v_Cmp ?_ | refine v_Chain ?_ | refine v_Is ?_ | refine v_Not ?_ | refine v_Yes ?_) | ((with_reducible apply w_Var); (focus (exact rfl))) | (with_reducible first | refine wO_some (isi_I (by with_unfolding_all exact rfl)) ?_ | refine wO_some (isi_B (by with_unfolding_all exact rfl)) ?_ | refine wO_some (isi_S (by with_unfolding_all exact rfl)) ?_ | refine wO_some (isi_T (by with_unfolding_all exact rfl)) ?_ | refine wO_some (isi_L (by with_unfolding_all exact rfl)) ?_) | (first | refine ifT rfl ?_ | refine ifF rfl ?_) | (refine wO_some rfl ?_) | refine ⟨_, rfl, ?_⟩))
  by_cases h1 : 1 ≤ s.length
  · (first | refine ifT rfl ?_ | refine ifF rfl ?_ | (refine ifT ?_ ?_; focus ((simp only [Bool.not_eq_true', Bool.not_eq_false', decide_eq_true_eq, decide_eq_false_iff_not]); omega)) | (refine ifF ?_ ?_; focus ((simp only [Bool.not_eq_true', Bool.not_eq_false', decide_eq_true_eq, decide_eq_false_iff_not]); omega)) | (refine ifT ?_ ?_; focus (simp [h1]; done)) | (refine ifF ?_ ?_; focus (simp [h1]; done)))
    (repeat (first | (with_reducible first | refine z_Seq ?_ | refine z_SetN ?_ | refine z_Set ?_ | refine z_Ret ?_ | refine z_If ?_ | refine z_Expr ?_ | refine z_Next ?_ | refine z_Par ?_ | refine z_SetIx ?_ | refine w_C ?_ | refine w_Bop ?_ | refine w_BopT ?_ | refine w_Cmp ?_ | refine w_Chain ?_ | refine w_Is ?_ | refine w_Neg ?_ | refine w_Not ?_ | refine w_And ?_ | refine w_Or ?_ | refine w_Ite ?_ | refine w_Tup ?_ | refine w_Lst ?_ | refine w_LstT ?_ | refine w_Idx ?_ | refine w_SlcNN ?_ | refine w_SlcNS ?_ | refine w_SlcSN ?_ | refine w_Rev ?_ | refine w_Isi ?_ | refine w_Len ?_ | refine w_Int ?_ | refine w_Bool ?_ | refine w_Max ?_ | refine w_All ?_ | refine w_List ?_ | refine w_ListT ?_ | refine w_Tuple ?_ | refine w_Join ?_ | refine w_Split ?_ | refine w_Call ?_ | refine w_DictOf ?_ | refine w_Dict0 ?_ | refine w_Dict1 ?_ | refine w_Append ?_ | refine w_Extend ?_ | refine w_PopAt ?_ | refine w_Nil ?_ | refine w_Cons ?_ | refine v_Val ?_ | refine v_And ?_ | refine v_Or ?_ | refine v_Cmp ?_ | refine v_Chain ?_ | refine v_Is ?_ | refine v_Not ?_ | refine v_Yes ?_) | ((with_reducible apply w_Var); (focus (exact rfl))) | (with_reducible first | refine wO_some (isi_I (by with_unfolding_all exact rfl)) ?_ | refine wO_some (isi_B (by with_unfolding_all exact rfl)) ?_ | refine wO_some (isi_S (by with_unfolding_all exact rfl)) ?_ | refine wO_some (isi_T (by with_unfolding_all exact rfl)) ?_ | refine wO_some (isi_L (by with_unfolding_all exact rfl)) ?_) | (first | refine ifT rfl ?_ | refine ifF rfl ?_) | (refine wO_some rfl ?_) | refine ⟨_, rfl, ?_⟩))
    by_cases h2 : s.length ≤ 8
    · (first | refine ifT rfl ?_ | refine ifF rfl ?_ | (refine ifT ?_ ?_; focus ((simp only [Bool.not_eq_true', Bool.not_eq_false', decide_eq_true_eq, decide_eq_false_iff_not]); omega)) | (refine ifF ?_ ?_; focus ((simp only [Bool.not_eq_true', Bool.not_eq_false', decide_eq_true_eq, decide_eq_false_iff_not]); omega)) | (refine ifT ?_ ?_; focus (simp [h2]; done)) | (refine ifF ?_ ?_; focus (simp [h2]; done)))
      (repeat (first | (with_reducible first | refine z_Seq ?_ | refine z_SetN ?_ | refine z_Set ?_ | refine z_Ret ?_ | refine z_If ?_ | refine z_Expr ?_ | refine z_Next ?_ | refine z_Par ?_ | refine z_SetIx ?_ | refine w_C ?_ | refine w_Bop ?_ | refine w_BopT ?_ | refine w_Cmp ?_ | refine w_Chain ?_ | refine w_Is ?_ | refine w_Neg ?_ | refine w_Not ?_ | refine w_And ?_ | refine w_Or ?_ | refine w_Ite ?_ | refine w_Tup ?_ | refine w_Lst ?_ | refine w_LstT ?_ | refine w_Idx ?_ | refine w_SlcNN ?_ | refine w_SlcNS ?_ | refine w_SlcSN ?_ | refine w_Rev ?_ | refine w_Isi ?_ | refine w_Len ?_ | refine w_Int ?_ | refine w_Bool ?_ | refine w_Max ?_ | refine w_All ?_ | refine w_List ?_ | refine w_ListT ?_ | refine w_Tuple ?_ | refine w_Join ?_ | refine w_Split ?_ | refine w_Call ?_ | refine w_DictOf ?_ | refine w_Dict0 ?_ | refine w_Dict1 ?_ | refine w_Append ?_ | refine w_Extend ?_ | refine w_PopAt ?_ | refine w_Nil ?_ | refine w_Cons ?_ | refine v_Val ?_ | refine v_And ?_ | refine v_Or ?_ | refine v_Cmp ?_ | refine v_Chain ?_ | refine v_Is ?_ | refine v_Not ?_ | refine v_Yes ?_) | ((with_reducible apply w_Var); (focus (exact rfl)))))
      have hw : cmp .inn (view M (.str s)) (view M k_WORDS) = some (inL wordL s) := rfl
      refine wO_some hw ?_
      cases h3 : inL wordL s with
      | true =>
        (repeat (first | (with_reducible first | refine z_Seq ?_ | refine z_SetN ?_ | refine z_Set ?_ | refine z_Ret ?_ | refine z_If ?_ | refine z_Expr ?_ | refine z_Next ?_ | refine z_Par ?_ | refine z_SetIx ?_ | refine w_C ?_ | refine w_Bop ?_ | refine w_BopT ?_ | refine w_Cmp ?_ | refine w_Chain ?_ | refine w_Is ?_ | refine w_Neg ?_ | refine w_Not ?_ | refine w_And ?_ | refine w_Or ?_ | refine w_Ite ?_ | refine w_Tup ?_ | refine w_Lst ?_ | refine w_LstT ?_ | refine w_Idx ?_ | refine w_SlcNN ?_ | refine w_SlcNS ?_ | refine w_SlcSN ?_ | refine w_Rev ?_ | refine w_Isi ?_ | refine w_Len ?_ | refine w_Int ?_ | refine w_Bool ?_ | refine w_Max ?_ | refine w_All ?_ | refine w_List ?_ | refine w_ListT ?_ | refine w_Tuple ?_ | refine w_Join ?_ | refine w_Split ?_ | refine w_Call ?_ | refine w_DictOf ?_ | refine w_Dict0 ?_ | refine w_Dict1 ?_ | refine w_Append ?_ | refine w_Extend ?_ | refine w_PopAt ?_ | refine w_Nil ?_ | refine w_Cons ?_ | refine v_Val ?_ | refine v_And ?_ | refine v_Or ?_ | refine v_Cmp ?_ | refine v_Chain ?_ | refine v_Is ?_ | refine v_Not ?_ | refine v_Yes ?_) | ((with_reducible apply w_Var); (focus (exact rfl))) | (with_reducible first | refine wO_some (isi_I (by with_unfolding_all exact rfl)) ?_ | refine wO_some (isi_B (by with_unfolding_all exact rfl)) ?_ | refine wO_some (isi_S (by with_unfolding_all exact rfl)) ?_ | refine wO_some (isi_T (by with_unfolding_all exact rfl)) ?_ | refine wO_some (isi_L (by with_unfolding_all exact rfl)) ?_) | (first | refine ifT rfl ?_ | refine ifF rfl ?_) | (refine wO_some rfl ?_) | refine ⟨_, rfl, ?_⟩))
        refine ⟨rfl, ?_, rfl⟩
        simp [nameB, h1, h2, h3]
      | false =>
        refine ifF rfl ?_
        refine z_Next (z_Ret ?_)
        refine w_AllIn (t := letS) (by simp) rfl hs ⟨rfl, ?_, rfl⟩
        simp [nameB, h1, h2, h3]
    · (first | refine ifT rfl ?_ | refine ifF rfl ?_ | (refine ifT ?_ ?_; focus ((simp only [Bool.not_eq_true', Bool.not_eq_false', decide_eq_true_eq, decide_eq_false_iff_not]); omega)) | (refine ifF ?_ ?_; focus ((simp only [Bool.not_eq_true', Bool.not_eq_false', decide_eq_true_eq, decide_eq_false_iff_not]); omega)) | (refine ifT ?_ ?_; focus (simp [h2]; done)) | (refine ifF ?_ ?_; focus (simp [h2]; done)))
      (repeat (first | (with_reducible first | refine z_Seq ?_ | refine z_SetN ?_ | refine z_Set ?_ | refine z_Ret ?_ | refine z_If ?_ | refine z_Expr ?_ | refine z_Next ?_ | refine z_Par ?_ | refine z_SetIx ?_ | refine w_C ?_ | refine w_Bop ?_ | refine w_BopT ?_ | refine w_Cmp ?_ | refine w_Chain ?_ | refine w_Is ?_ | refine w_Neg ?_ | refine w_Not ?_ | refine w_And ?_ | refine w_Or ?_ | refine w_Ite ?_ | refine w_Tup ?_ | refine w_Lst ?_ | refine w_LstT ?_ | refine w_Idx ?_ | refine w_SlcNN ?_ | refine w_SlcNS ?_ | refine w_SlcSN ?_ | refine w_Rev ?_ | refine w_Isi ?_ | refine w_Len ?_ | refine w_Int ?_ | refine w_Bool ?_ | refine w_Max ?_ | refine w_All ?_ | refine w_List ?_ | refine w_ListT ?_ | refine w_Tuple ?_ | refine w_Join ?_ | refine w_Split ?_ | refine w_Call ?_ | refine w_DictOf ?_ | refine w_Dict0 ?_ | refine w_Dict1 ?_ | refine w_Append ?_ | refine w_Extend ?_ | refine w_PopAt ?_ | refine w_Nil ?_ | refine w_Cons ?_ | refine v_Val ?_ | refine v_And ?_ | refine v_Or ?_ | refine v_Cmp ?_ | refine v_Chain ?_ | refine v_Is ?_ | refine v_Not ?_ | refine v_Yes ?_) | ((with_reducible apply w_Var); (focus (exact rfl))) | (with_reducible first | refine wO_some (isi_I (by with_unfolding_all exact rfl)) ?_ | refine wO_some (isi_B (by with_unfolding_all exact rfl)) ?_ | refine wO_some (isi_S (by with_unfolding_all exact rfl)) ?_ | refine wO_some (isi_T (by with_unfolding_all exact rfl)) ?_ | refine wO_some (isi_L (by with_unfolding_all exact rfl)) ?_) | (first | refine ifT rfl ?_ | refine ifF rfl ?_) | (refine wO_some rfl ?_) | refine ⟨_, rfl, ?_⟩))
      refine ⟨rfl, ?_, rfl⟩
      simp [nameB, h1, h2]
  · (first | refine ifT rfl ?_ | refine ifF rfl ?_ | (refine ifT ?_ ?_; focus ((simp only [Bool.not_eq_true', Bool.not_eq_false', decide_eq_true_eq, decide_eq_false_iff_not]); omega)) | (refine ifF ?_ ?_; focus ((simp only [Bool.not_eq_true', Bool.not_eq_false', decide_eq_true_eq, decide_eq_false_iff_not]); omega)) | (refine ifT ?_ ?_; focus (simp [h1]; done)) | (refine ifF ?_ ?_; focus (simp [h1]; done)))
    (repeat (first | (with_reducible first | refine z_Seq ?_ | refine z_SetN ?_ | refine z_Set ?_ | refine z_Ret ?_ | refine z_If ?_ | refine z_Expr ?_ | refine z_Next ?_ | refine z_Par ?_ | refine z_SetIx ?_ | refine w_C ?_ | refine w_Bop ?_ | refine w_BopT ?_ | refine w_Cmp ?_ | refine w_Chain ?_ | refine w_Is ?_ | refine w_Neg ?_ | refine w_Not ?_ | refine w_And ?_ | refine w_Or ?_ | refine w_Ite ?_ | refine w_Tup ?_ | refine w_Lst ?_ | refine w_LstT ?_ | refine w_Idx ?_ | refine w_SlcNN ?_ | refine w_SlcNS ?_ | refine w_SlcSN ?_ | refine w_Rev ?_ | refine w_Isi ?_ | refine w_Len ?_ | refine w_Int ?_ | refine w_Bool ?_ | refine w_Max ?_ | refine w_All ?_ | refine w_List ?_ | refine w_ListT ?_ | refine w_Tuple ?_ | refine w_Join ?_ | refine w_Split ?_ | refine w_Call ?_ | refine w_DictOf ?_ | refine w_Dict0 ?_ | refine w_Dict1 ?_ | refine w_Append ?_ | refine w_Extend ?_ | refine w_PopAt ?_ | refine w_Nil ?_ | refine w_Cons ?_ | refine v_Val ?_ | refine v_And ?_ | refine v_Or ?_ | refine v_Cmp ?_ | refine v_Chain ?_ | refine v_Is ?_ | refine v_Not ?_ | refine v_Yes ?_) | ((with_reducible apply w_Var); (focus (exact rfl))) | (with_reducible first | refine wO_some (isi_I (by with_unfolding_all exact rfl)) ?_ | refine wO_some (isi_B (by with_unfolding_all exact rfl)) ?_ | refine wO_some (isi_S (by with_unfolding_all exact rfl)) ?_ | refine wO_some (isi_T (by with_unfolding_all exact rfl)) ?_ | refine wO_some (isi_L (by with_unfolding_all exact rfl)) ?_) | (first | refine ifT rfl ?_ | refine ifF rfl ?_) | (refine wO_some rfl ?_) | refine ⟨_, rfl, ?_⟩))
    refine ⟨rfl, ?_, rfl⟩
    simp [nameB, h1]
theorem r_kr_is_name {k n : Nat} {d : D} {M : Mh} (h : fit n d = true) : callAt P (k + 2) "_law_kr_is_name" [d] M = .ok (.bl (nameB d)) M := by
  refine eq_of_wp (wp_run0 p_kr_is_name rfl rfl ?_)
  dsimp only [m__law_kr_is_name, List.map, List.append, List.map_cons, List.map_nil, List.length_cons, List.length_nil, List.replicate, List.cons_append, List.nil_append, Nat.reduceSub, Nat.reduceAdd]
  cases d <;> first | (cases n <;> cases h; done) | ((repeat (first | (with_reducible first | refine z_Seq ?_ | refine z_SetN ?_ | refine z_Set ?_ | refine z_Ret ?_ | refine z_If ?_ | refine z_Expr ?_ | refine z_Next ?_ | refine z_Par ?_ | refine z_SetIx ?_ | refine w_C ?_ | refine w_Bop ?_ | refine w_BopT ?_ | refine w_Cmp ?_ | refine w_Chain ?_ | refine w_Is ?_ | refine w_Neg ?_ | refine w_Not ?_ | refine w_And ?_ | refine w_Or ?_ | refine w_Ite ?_ | refine w_Tup ?_ | refine w_Lst ?_ | refine w_LstT ?_ | refine w_Idx ?_ | refine w_SlcNN ?_ | refine w_SlcNS ?_ | refine w_SlcSN ?_ | refine w_Rev ?_ | refine w_Isi ?_ | refine w_Len ?_ | refine w_Int ?_ | refine w_Bool ?_ | refine w_Max ?_ | refine w_All ?_ | refine w_List ?_ | refine w_ListT ?_ | refine w_Tuple ?_ | refine w_Join ?_ | refine w_Split ?_ | refine w_Call ?_ | refine w_DictOf ?_ | refine w_Dict0 ?_ | refine w_Dict1 ?_ | refine w_Append ?_ | refine w_Extend ?_ | refine w_PopAt ?_ | refine w_Nil ?_ | refine w_Cons ?_ | refine v_Val ?_ | refine v_And ?_ | refine v_Or ?_ | refine v_Cmp ?_ | refine v_Chain ?_ | refine v_Is ?_ | refine v_Not ?_ | refine v_Yes ?_) | ((with_reducible apply w_Var); (focus (exact rfl))) | (with_reducible first | refine wO_some (isi_I (by with_unfolding_all exact rfl)) ?_ | refine wO_some (isi_B (by with_unfolding_all exact rfl)) ?_ | refine wO_some (isi_S (by with_unfolding_all exact rfl)) ?_ | refine wO_some (isi_T (by with_unfolding_all exact rfl)) ?_ | refine wO_some (isi_L (by with_unfolding_all exact rfl)) ?_) | (first | refine ifT rfl ?_ | refine ifF rfl ?_) | (refine wO_some rfl ?_) | refine ⟨_, rfl, ?_⟩)); exact ⟨rfl, rfl, rfl⟩) | skip
  rename_i s
  have hs := line_str h
  (repeat (first | (with_reducible first | refine z_Seq ?_ | refine z_SetN ?_ | refine z_Set ?_ | refine z_Ret ?_ | refine z_If ?_ | refine z_Expr ?_ | refine z_Next ?_ | refine z_Par ?_ | refine z_SetIx ?_ | refine w_C ?_ | refine w_Bop ?_ | refine w_BopT ?_ | refine w_Cmp ?_ | refine w_Chain ?_ | refine w_Is ?_ | refine w_Neg ?_ | refine w_Not ?_ | refine w_And ?_ | refine w_Or ?_ | refine w_Ite ?_ | refine w_Tup ?_ | refine w_Lst ?_ | refine w_LstT ?_ | refine w_Idx ?_ | refine w_SlcNN ?_ | refine w_SlcNS ?_ | refine w_SlcSN ?_ | refine w_Rev ?_ | refine w_Isi ?_ | refine w_Len ?_ | refine w_Int ?_ | refine w_Bool ?_ | refine w_Max ?_ | refine w_All ?_ | refine w_List ?_ | refine w_ListT ?_ | refine w_Tuple ?_ | refine w_Join ?_ | refine w_Split ?_ | refine w_Call ?_ | refine w_DictOf ?_ | refine w_Dict0 ?_ | refine w_Dict1 ?_ | refine w_Append ?_ | refine w_Extend ?_ | refine w_PopAt ?_ | refine w_Nil ?_ | refine w_Cons ?_ | refine v_Val ?_ | refine v_And ?_ | refine v_Or ?_ | refine v_Cmp ?_ | refine v_Chain ?_ | refine v_Is ?_ | refine v_Not ?_ | refine v_Yes ?_) | ((with_reducible apply w_Var); (focus (exact rfl))) | (with_reducible first | refine wO_some (isi_I (by with_unfolding_all exact rfl)) ?_ | refine wO_some (isi_B (by with_unfolding_all exact rfl)) ?_ | refine wO_some (isi_S (by with_unfolding_all exact rfl)) ?_ | refine wO_some (isi_T (by with_unfolding_all exact rfl)) ?_ | refine wO_some (isi_L (by with_unfolding_all exact rfl)) ?_) | (first | refine ifT rfl ?_ | refine ifF rfl ?_) | (refine wO_some rfl ?_) | refine ⟨_, rfl, ?_⟩))
  refine wO_some (lenD_str hs) ?_
  (repeat (first | (with_reducible first | refine z_Seq ?_ | refine z_SetN ?_ | refine z_Set ?_ | refine z_Ret ?_ | refine z_If ?_ | refine z_Expr ?_ | refine z_Next ?_ | refine z_Par ?_ | refine z_SetIx ?_ | refine w_C ?_ | refine w_Bop ?_ | refine w_BopT ?_ | refine w_Cmp ?_ | refine w_Chain ?_ | refine w_Is ?_ | refine w_Neg ?_ | refine w_Not ?_ | refine w_And ?_ | refine w_Or ?_ | refine w_Ite ?_ | refine w_Tup ?_ | refine w_Lst ?_ | refine w_LstT ?_ | refine w_Idx ?_ | refine w_SlcNN ?_ | refine w_SlcNS ?_ | refine w_SlcSN ?_ | refine w_Rev ?_ | refine w_Isi ?_ | refine w_Len ?_ | refine w_Int ?_ | refine w_Bool ?_ | refine w_Max ?_ | refine w_All ?_ | refine w_List ?_ | refine w_ListT ?_ | refine w_Tuple ?_ | refine w_Join ?_ | refine w_Split ?_ | refine w_Call ?_ | refine w_DictOf ?_ | refine w_Dict0 ?_ | refine w_Dict1 ?_ | refine w_Append ?_ | refine w_Extend ?_ | refine w_PopAt ?_ | refine w_Nil ?_ | refine w_Cons ?_ | refine v_Val ?_ | refine v_And ?_ | refine v_Or ?_ | refine v_Cmp ?_ | refine v_Chain ?_ | refine v_Is ?_ | refine v_Not ?_ | refine v_Yes ?_) | ((with_reducible apply w_Var); (focus (exact rfl))) | (with_reducible first | refine wO_some (isi_I (by with_unfolding_all exact rfl)) ?_ | refine wO_some (isi_B (by with_unfolding_all exact rfl)) ?_ | refine wO_some (isi_S (by with_unfolding_all exact rfl)) ?_ | refine wO_some (isi_T (by with_unfolding_all exact rfl)) ?_ | refine wO_some (isi_L (by with_unfolding_all exact rfl)) ?_) | (first | refine ifT rfl ?_ | refine ifF rfl ?_) | (refine wO_some rfl ?_) | refine ⟨_, rfl, ?_⟩))
  by_cases h1 : 1 ≤ s.length
  · (first | refine ifT rfl ?_ | refine ifF rfl ?_ | (refine ifT ?_ ?_; focus ((simp only [Bool.not_eq_true', Bool.not_eq_false', decide_eq_true_eq, decide_eq_false_iff_not]); omega)) | (refine ifF ?_ ?_; focus ((simp only [Bool.not_eq_true', Bool.not_eq_false', decide_eq_true_eq, decide_eq_false_iff_not]); omega)) | (refine ifT ?_ ?_; focus (simp [h1]; done)) | (refine ifF ?_ ?_; focus (simp [h1]; done)))
    (repeat (first | (with_reducible first | refine z_Seq ?_ | refine z_SetN ?_ | refine z_Set ?_ | refine z_Ret ?_ | refine z_If ?_ | refine z_Expr ?_ | refine z_Next ?_ | refine z_Par ?_ | refine z_SetIx ?_ | refine w_C ?_ | refine w_Bop ?_ | refine w_BopT ?_ | refine w_Cmp ?_ | refine w_Chain ?_ | refine w_Is ?_ | refine w_Neg ?_ | refine w_Not ?_ | refine w_And ?_ | refine w_Or ?_ | refine w_Ite ?_ | refine w_Tup ?_ | refine w_Lst ?_ | refine w_LstT ?_ | refine w_Idx ?_ | refine w_SlcNN ?_ | refine w_SlcNS ?_ | refine w_SlcSN ?_ | refine w_Rev ?_ | refine w_Isi ?_ | refine w_Len ?_ | refine w_Int ?_ | refine w_Bool ?_ | refine w_Max ?_ | refine w_All ?_ | refine w_List ?_ | refine w_ListT ?_ | refine w_Tuple ?_ | refine w_Join ?_ | refine w_Split ?_ | refine w_Call ?_ | refine w_DictOf ?_ | refine w_Dict0 ?_ | refine w_Dict1 ?_ | refine w_Append ?_ | refine w_Extend ?_ | refine w_PopAt ?_ | refine w_Nil ?_ | refine w_Cons ?_ | refine v_Val ?_ | refine v_And ?_ | refine v_Or ?_ | refine v_Cmp ?_ | refine v_Chain ?_ | refine v_Is ?_ | refine v_Not ?_ | refine v_Yes ?_) | ((with_reducible apply w_Var); (focus (exact rfl))) | (with_reducible first | refine wO_some (isi_I (by with_unfolding_all exact rfl)) ?_ | refine wO_some (isi_B (by with_unfolding_all exact rfl)) ?_ | refine wO_some (isi_S (by with_unfolding_all exact rfl)) ?_ | refine wO_some (isi_T (by with_unfolding_all exact rfl)) ?_ | refine wO_some (isi_L (by with_unfolding_all exact rfl)) ?_) | (first | refine ifT rfl ?_ | refine ifF rfl ?_) | (refine wO_some rfl ?_) | refine ⟨_, rfl, ?_⟩))
    by_cases h2 : s.length ≤ 8
    · (first | refine ifT rfl ?_ | refine ifF rfl ?_ | (refine ifT ?_ ?_; focus ((simp only [Bool.not_eq_true', Bool.not_eq_false', decide_eq_true_eq, decide_eq_false_iff_not]); omega)) | (refine ifF ?_ ?_; focus ((simp only [Bool.not_eq_true', Bool.not_eq_false', decide_eq_true_eq, decide_eq_false_iff_not]); omega)) | (refine ifT ?_ ?_; focus (simp [h2]; done)) | (refine ifF ?_ ?_; focus (simp [h2]; done)))
      (repeat (first | (with_reducible first | refine z_Seq ?_ | refine z_SetN ?_ | refine z_Set ?_ | refine z_Ret ?_ | refine z_If ?_ | refine z_Expr ?_ | refine z_Next ?_ | refine z_Par ?_ | refine z_SetIx ?_ | refine w_C ?_ | refine w_Bop ?_ | refine w_BopT ?_ | refine w_Cmp ?_ | refine w_Chain ?_ | refine w_Is ?_ | refine w_Neg ?_ | refine w_Not ?_ | refine w_And ?_ | refine w_Or ?_ | refine w_Ite ?_ | refine w_Tup ?_ | refine w_Lst ?_ | refine w_LstT ?_ | refine w_Idx ?_ | refine w_SlcNN ?_ | refine w_SlcNS ?_ | refine w_SlcSN ?_ | refine w_Rev ?_ | refine w_Isi ?_ | refine w_Len ?_ | refine w_Int ?_ | refine w_Bool ?_ | refine w_Max ?_ | refine w_All ?_ | refine w_List ?_ | refine w_ListT ?_ | refine w_Tuple ?_ | refine w_Join ?_ | refine w_Split ?_ | refine w_Call ?_ | refine w_DictOf ?_ | refine w_Dict0 ?_ | refine w_Dict1 ?_ | refine w_Append ?_ | refine w_Extend ?_ | refine w_PopAt ?_ | refine w_Nil ?_ | refine w_Cons ?_ | refine v_Val ?_ | refine v_And ?_ | refine v_Or ?_ | refine v_Cmp ?_ | refine v_Chain ?_ | refine v_Is ?_ | refine v_Not ?_ | refine v_Yes ?_) | ((with_reducible apply w_Var); (focus (exact rfl))) | (with_reducible first | refine wO_some (isi_I (by with_unfolding_all exact rfl)) ?_ | refine wO_some (isi_B (by with_unfolding_all exact rfl)) ?_ | refine wO_some (isi_S (by with_unfolding_all exact rfl)) ?_ | refine wO_some (isi_T (by with_unfolding_all exact rfl)) ?_ | refine wO_some (isi_L (by with_unfolding_all exact rfl)) ?_) | (first | refine ifT rfl ?_ | refine ifF rfl ?_) | (refine wO_some rfl ?_) | refine ⟨_, rfl, ?_⟩))
      rw [cfl_call, r_words, wpR_ok]
      have hw : cmp .inn (view M (.str s)) (view M (.lst wordL)) = some (inL wordL s) := rfl
      refine wO_some hw ?_
      cases h3 : inL wordL s with
      | true =>
        (repeat (first | (with_reducible first | refine z_Seq ?_ | refine z_SetN ?_ | refine z_Set ?_ | refine z_Ret ?_ | refine z_If ?_ | refine z_Expr ?_ | refine z_Next ?_ | refine z_Par ?_ | refine z_SetIx ?_ | refine w_C ?_ | refine w_Bop ?_ | refine w_BopT ?_ | refine w_Cmp ?_ | refine w_Chain ?_ | refine w_Is ?_ | refine w_Neg ?_ | refine w_Not ?_ | refine w_And ?_ | refine w_Or ?_ | refine w_Ite ?_ | refine w_Tup ?_ | refine w_Lst ?_ | refine w_LstT ?_ | refine w_Idx ?_ | refine w_SlcNN ?_ | refine w_SlcNS ?_ | refine w_SlcSN ?_ | refine w_Rev ?_ | refine w_Isi ?_ | refine w_Len ?_ | refine w_Int ?_ | refine w_Bool ?_ | refine w_Max ?_ | refine w_All ?_ | refine w_List ?_ | refine w_ListT ?_ | refine w_Tuple ?_ | refine w_Join ?_ | refine w_Split ?_ | refine w_Call ?_ | refine w_DictOf ?_ | refine w_Dict0 ?_ | refine w_Dict1 ?_ | refine w_Append ?_ | refine w_Extend ?_ | refine w_PopAt ?_ | refine w_Nil ?_ | refine w_Cons ?_ | refine v_Val ?_ | refine v_And ?_ | refine v_Or ?_ | refine v_Cmp ?_ | refine v_Chain ?_ | refine v_Is ?_ | refine v_Not ?_ | refine v_Yes ?_) | ((with_reducible apply w_Var); (focus (exact rfl))) | (with_reducible first | refine wO_some (isi_I (by with_unfolding_all exact rfl)) ?_ | refine wO_some (isi_B (by with_unfolding_all exact rfl)) ?_ | refine wO_some (isi_S (by with_unfolding_all exact rfl)) ?_ | refine wO_some (isi_T (by with_unfolding_all exact rfl)) ?_ | refine wO_some (isi_L (by with_unfolding_all exact rfl)) ?_) | (first | refine ifT rfl ?_ | refine ifF rfl ?_) | (refine wO_some rfl ?_) | refine ⟨_, rfl, ?_⟩))
        refine ⟨rfl, ?_, rfl⟩
        simp [nameB, h1, h2, h3]
      | false =>
        refine ifF rfl ?_
        refine z_Next (z_Ret ?_)
        refine w_NoneOut (t := letS) (by simp) rfl hs ⟨rfl, ?_, rfl⟩
        simp [nameB, h1, h2, h3]
    · (first | refine ifT rfl ?_ | refine ifF rfl ?_ | (refine ifT ?_ ?_; focus ((simp only [Bool.not_eq_true', Bool.not_eq_false', decide_eq_true_eq, decide_eq_false_iff_not]); omega)) | (refine ifF ?_ ?_; focus ((simp only [Bool.not_eq_true', Bool.not_eq_false', decide_eq_true_eq, decide_eq_false_iff_not]); omega)) | (refine ifT ?_ ?_; focus (simp [h2]; done)) | (refine ifF ?_ ?_; focus (simp [h2]; done)))
      (repeat (first | (with_reducible first | refine z_Seq ?_ | refine z_SetN ?_ | refine z_Set ?_ | refine z_Ret ?_ | refine z_If ?_ | refine z_Expr ?_ | refine z_Next ?_ | refine z_Par ?_ | refine z_SetIx ?_ | refine w_C ?_ | refine w_Bop ?_ | refine w_BopT ?_ | refine w_Cmp ?_ | refine w_Chain ?_ | refine w_Is ?_ | refine w_Neg ?_ | refine w_Not ?_ | refine w_And ?_ | refine w_Or ?_ | refine w_Ite ?_ | refine w_Tup ?_ | refine w_Lst ?_ | refine w_LstT ?_ | refine w_Idx ?_ | refine w_SlcNN ?_ | refine w_SlcNS ?_ | refine w_SlcSN ?_ | refine w_Rev ?_ | refine w_Isi ?_ | refine w_Len ?_ | refine w_Int ?_ | refine w_Bool ?_ | refine w_Max ?_ | refine w_All ?_ | refine w_List ?_ | refine w_ListT ?_ | refine w_Tuple ?_ | refine w_Join ?_ | refine w_Split ?_ | refine w_Call ?_ | refine w_DictOf ?_ | refine w_Dict0 ?_ | refine w_Dict1 ?_ | refine w_Append ?_ | refine w_Extend ?_ | refine w_PopAt ?_ | refine w_Nil ?_ | refine w_Cons ?_ | refine v_Val ?_ | refine v_And ?_ | refine v_Or ?_ | refine v_Cmp ?_ | refine v_Chain ?_ | refine v_Is ?_ | refine v_Not ?_ | refine v_Yes ?_) | ((with_reducible apply w_Var); (focus (exact rfl))) | (with_reducible first | refine wO_some (isi_I (by with_unfolding_all exact rfl)) ?_ | refine wO_some (isi_B (by with_unfolding_all exact rfl)) ?_ | refine wO_some (isi_S (by with_unfolding_all exact rfl)) ?_ | refine wO_some (isi_T (by with_unfolding_all exact rfl)) ?_ | refine wO_some (isi_L (by with_unfolding_all exact rfl)) ?_) | (first | refine ifT rfl ?_ | refine ifF rfl ?_) | (refine wO_some rfl ?_) | refine ⟨_, rfl, ?_⟩))
      refine ⟨rfl, ?_, rfl⟩
      simp [nameB, h1, h2]
  · (first | refine ifT rfl ?_ | refine ifF rfl ?_ | (refine ifT ?_ ?_; focus ((simp only [Bool.not_eq_true', Bool.not_eq_false', decide_eq_true_eq, decide_eq_false_iff_not]); omega)) | (refine ifF ?_ ?_; focus ((simp only [Bool.not_eq_true', Bool.not_eq_false', decide_eq_true_eq, decide_eq_false_iff_not]); omega)) | (refine ifT ?_ ?_; focus (simp [h1]; done)) | (refine ifF ?_ ?_; focus (simp [h1]; done)))
    (repeat (first | (with_reducible first | refine z_Seq ?_ | refine z_SetN ?_ | refine z_Set ?_ | refine z_Ret ?_ | refine z_If ?_ | refine z_Expr ?_ | refine z_Next ?_ | refine z_Par ?_ | refine z_SetIx ?_ | refine w_C ?_ | refine w_Bop ?_ | refine w_BopT ?_ | refine w_Cmp ?_ | refine w_Chain ?_ | refine w_Is ?_ | refine w_Neg ?_ | refine w_Not ?_ | refine w_And ?_ | refine w_Or ?_ | refine w_Ite ?_ | refine w_Tup ?_ | refine w_Lst ?_ | refine w_LstT ?_ | refine w_Idx ?_ | refine w_SlcNN ?_ | refine w_SlcNS ?_ | refine w_SlcSN ?_ | refine w_Rev ?_ | refine w_Isi ?_ | refine w_Len ?_ | refine w_Int ?_ | refine w_Bool ?_ | refine w_Max ?_ | refine w_All ?_ | refine w_List ?_ | refine w_ListT ?_ | refine w_Tuple ?_ | refine w_Join ?_ | refine w_Split ?_ | refine w_Call ?_ | refine w_DictOf ?_ | refine w_Dict0 ?_ | refine w_Dict1 ?_ | refine w_Append ?_ | refine w_Extend ?_ | refine w_PopAt ?_ | refine w_Nil ?_ | refine w_Cons ?_ | refine v_Val ?_ | refine v_And ?_ | refine v_Or ?_ | refine v_Cmp ?_ | refine v_Chain ?_ | refine v_Is ?_ | refine v_Not ?_ | refine v_Yes ?_) | ((with_reducible apply w_Var); (focus (exact rfl))) | (with_reducible first | refine wO_some (isi_I (by with_unfolding_all exact rfl)) ?_ | refine wO_some (isi_B (by with_unfolding_all exact rfl)) ?_ | refine wO_some (isi_S (by with_unfolding_all exact rfl)) ?_ | refine wO_some (isi_T (by with_unfolding_all exact rfl)) ?_ | refine wO_some (isi_L (by with_unfolding_all exact rfl)) ?_) | (first | refine ifT rfl ?_ | refine ifF rfl ?_) | (refine wO_some rfl ?_) | refine ⟨_, rfl, ?_⟩))
    refine ⟨rfl, ?_, rfl⟩
    simp [nameB, h1]
theorem r_kr_is_text {k n : Nat} {d : D} {M : Mh} (h : fit n d = true) : callAt P (k + 1) "_law_kr_is_text" [d] M = .ok (.bl (textB d)) M := by
  refine eq_of_wp (wp_run0 p_kr_is_text rfl rfl ?_)
  dsimp only [m__law_kr_is_text, List.map, List.append, List.map_cons, List.map_nil, List.length_cons, List.length_nil, List.replicate, List.cons_append, List.nil_append, Nat.reduceSub, Nat.reduceAdd]
  cases d <;> first | (cases n <;> cases h; done) | ((repeat (first | (with_reducible first | refine z_Seq ?_ | refine z_SetN ?_ | refine z_Set ?_ | refine z_Ret ?_ | refine z_If ?_ | refine z_Expr ?_ | refine z_Next ?_ | refine z_Par ?_ | refine z_SetIx ?_ | refine w_C ?_ | refine w_Bop ?_ | refine w_BopT ?_ | refine w_Cmp ?_ | refine w_Chain ?_ | refine w_Is ?_ | refine w_Neg ?_ | refine w_Not ?_ | refine w_And ?_ | refine w_Or ?_ | refine w_Ite ?_ | refine w_Tup ?_ | refine w_Lst ?_ | refine w_LstT ?_ | refine w_Idx ?_ | refine w_SlcNN ?_ | refine w_SlcNS ?_ | refine w_SlcSN ?_ | refine w_Rev ?_ | refine w_Isi ?_ | refine w_Len ?_ | refine w_Int ?_ | refine w_Bool ?_ | refine w_Max ?_ | refine w_All ?_ | refine w_List ?_ | refine w_ListT ?_ | refine w_Tuple ?_ | refine w_Join ?_ | refine w_Split ?_ | refine w_Call ?_ | refine w_DictOf ?_ | refine w_Dict0 ?_ | refine w_Dict1 ?_ | refine w_Append ?_ | refine w_Extend ?_ | refine w_PopAt ?_ | refine w_Nil ?_ | refine w_Cons ?_ | refine v_Val ?_ | refine v_And ?_ | refine v_Or ?_ | refine v_Cmp ?_ | refine v_Chain ?_ | refine v_Is ?_ | refine v_Not ?_ | refine v_Yes ?_) | ((with_reducible apply w_Var); (focus (exact rfl))) | (with_reducible first | refine wO_some (isi_I (by with_unfolding_all exact rfl)) ?_ | refine wO_some (isi_B (by with_unfolding_all exact rfl)) ?_ | refine wO_some (isi_S (by with_unfolding_all exact rfl)) ?_ | refine wO_some (isi_T (by with_unfolding_all exact rfl)) ?_ | refine wO_some (isi_L (by with_unfolding_all exact rfl)) ?_) | (first | refine ifT rfl ?_ | refine ifF rfl ?_) | (refine wO_some rfl ?_) | refine ⟨_, rfl, ?_⟩)); exact ⟨rfl, rfl, rfl⟩) | skip
  rename_i s
  have hs := line_str h
  (repeat (first | (with_reducible first | refine z_Seq ?_ | refine z_SetN ?_ | refine z_Set ?_ | refine z_Ret ?_ | refine z_If ?_ | refine z_Expr ?_ | refine z_Next ?_ | refine z_Par ?_ | refine z_SetIx ?_ | refine w_C ?_ | refine w_Bop ?_ | refine w_BopT ?_ | refine w_Cmp ?_ | refine w_Chain ?_ | refine w_Is ?_ | refine w_Neg ?_ | refine w_Not ?_ | refine w_And ?_ | refine w_Or ?_ | refine w_Ite ?_ | refine w_Tup ?_ | refine w_Lst ?_ | refine w_LstT ?_ | refine w_Idx ?_ | refine w_SlcNN ?_ | refine w_SlcNS ?_ | refine w_SlcSN ?_ | refine w_Rev ?_ | refine w_Isi ?_ | refine w_Len ?_ | refine w_Int ?_ | refine w_Bool ?_ | refine w_Max ?_ | refine w_All ?_ | refine w_List ?_ | refine w_ListT ?_ | refine w_Tuple ?_ | refine w_Join ?_ | refine w_Split ?_ | refine w_Call ?_ | refine w_DictOf ?_ | refine w_Dict0 ?_ | refine w_Dict1 ?_ | refine w_Append ?_ | refine w_Extend ?_ | refine w_PopAt ?_ | refine w_Nil ?_ | refine w_Cons ?_ | refine v_Val ?_ | refine v_And ?_ | refine v_Or ?_ | refine v_Cmp ?_ | refine v_Chain ?_ | refine v_Is ?_ | refine v_Not ?_ | refine v_Yes ?_) | ((with_reducible apply w_Var); (focus (exact rfl))) | (with_reducible first | refine wO_some (isi_I (by with_unfolding_all exact rfl)) ?_ | refine wO_some (isi_B (by with_unfolding_all exact rfl)) ?_ | refine wO_some (isi_S (by with_unfolding_all exact rfl)) ?_ | refine wO_some (isi_T (by with_unfolding_all exact rfl)) ?_ | refine wO_some (isi_L (by with_unfolding_all exact rfl)) ?_) | (first | refine ifT rfl ?_ | refine ifF rfl ?_) | (refine wO_some rfl ?_) | refine ⟨_, rfl, ?_⟩))
  refine wO_some (lenD_str hs) ?_
  (repeat (first | (with_reducible first | refine z_Seq ?_ | refine z_SetN ?_ | refine z_Set ?_ | refine z_Ret ?_ | refine z_If ?_ | refine z_Expr ?_ | refine z_Next ?_ | refine z_Par ?_ | refine z_SetIx ?_ | refine w_C ?_ | refine w_Bop ?_ | refine w_BopT ?_ | refine w_Cmp ?_ | refine w_Chain ?_ | refine w_Is ?_ | refine w_Neg ?_ | refine w_Not ?_ | refine w_And ?_ | refine w_Or ?_ | refine w_Ite ?_ | refine w_Tup ?_ | refine w_Lst ?_ | refine w_LstT ?_ | refine w_Idx ?_ | refine w_SlcNN ?_ | refine w_SlcNS ?_ | refine w_SlcSN ?_ | refine w_Rev ?_ | refine w_Isi ?_ | refine w_Len ?_ | refine w_Int ?_ | refine w_Bool ?_ | refine w_Max ?_ | refine w_All ?_ | refine w_List ?_ | refine w_ListT ?_ | refine w_Tuple ?_ | refine w_Join ?_ | refine w_Split ?_ | refine w_Call ?_ | refine w_DictOf ?_ | refine w_Dict0 ?_ | refine w_Dict1 ?_ | refine w_Append ?_ | refine w_Extend ?_ | refine w_PopAt ?_ | refine w_Nil ?_ | refine w_Cons ?_ | refine v_Val ?_ | refine v_And ?_ | refine v_Or ?_ | refine v_Cmp ?_ | refine v_Chain ?_ | refine v_Is ?_ | refine v_Not ?_ | refine v_Yes ?_) | ((with_reducible apply w_Var); (focus (exact rfl))) | (with_reducible first | refine wO_some (isi_I (by with_unfolding_all exact rfl)) ?_ | refine wO_some (isi_B (by with_unfolding_all exact rfl)) ?_ | refine wO_some (isi_S (by with_unfolding_all exact rfl)) ?_ | refine wO_some (isi_T (by with_unfolding_all exact rfl)) ?_ | refine wO_some (isi_L (by with_unfolding_all exact rfl)) ?_) | (first | refine ifT rfl ?_ | refine ifF rfl ?_) | (refine wO_some rfl ?_) | refine ⟨_, rfl, ?_⟩))
  by_cases h2 : s.length ≤ 20
  · (first | refine ifT rfl ?_ | refine ifF rfl ?_ | (refine ifT ?_ ?_; focus ((simp only [Bool.not_eq_true', Bool.not_eq_false', decide_eq_true_eq, decide_eq_false_iff_not]); omega)) | (refine ifF ?_ ?_; focus ((simp only [Bool.not_eq_true', Bool.not_eq_false', decide_eq_true_eq, decide_eq_false_iff_not]); omega)) | (refine ifT ?_ ?_; focus (simp [h2]; done)) | (refine ifF ?_ ?_; focus (simp [h2]; done)))
    refine z_Next (z_Ret ?_)
    refine w_NoneOut (t := signS) (by simp) rfl hs ⟨rfl, ?_, rfl⟩
    simp [textB, h2]
  · (first | refine ifT rfl ?_ | refine ifF rfl ?_ | (refine ifT ?_ ?_; focus ((simp only [Bool.not_eq_true', Bool.not_eq_false', decide_eq_true_eq, decide_eq_false_iff_not]); omega)) | (refine ifF ?_ ?_; focus ((simp only [Bool.not_eq_true', Bool.not_eq_false', decide_eq_true_eq, decide_eq_false_iff_not]); omega)) | (refine ifT ?_ ?_; focus (simp [h2]; done)) | (refine ifF ?_ ?_; focus (simp [h2]; done)))
    (repeat (first | (with_reducible first | refine z_Seq ?_ | refine z_SetN ?_ | refine z_Set ?_ | refine z_Ret ?_ | refine z_If ?_ | refine z_Expr ?_ | refine z_Next ?_ | refine z_Par ?_ | refine z_SetIx ?_ | refine w_C ?_ | refine w_Bop ?_ | refine w_BopT ?_ | refine w_Cmp ?_ | refine w_Chain ?_ | refine w_Is ?_ | refine w_Neg ?_ | refine w_Not ?_ | refine w_And ?_ | refine w_Or ?_ | refine w_Ite ?_ | refine w_Tup ?_ | refine w_Lst ?_ | refine w_LstT ?_ | refine w_Idx ?_ | refine w_SlcNN ?_ | refine w_SlcNS ?_ | refine w_SlcSN ?_ | refine w_Rev ?_ | refine w_Isi ?_ | refine w_Len ?_ | refine w_Int ?_ | refine w_Bool ?_ | refine w_Max ?_ | refine w_All ?_ | refine w_List ?_ | refine w_ListT ?_ | refine w_Tuple ?_ | refine w_Join ?_ | refine w_Split ?_ | refine w_Call ?_ | refine w_DictOf ?_ | refine w_Dict0 ?_ | refine w_Dict1 ?_ | refine w_Append ?_ | refine w_Extend ?_ | refine w_PopAt ?_ | refine w_Nil ?_ | refine w_Cons ?_ | refine v_Val ?_ | refine v_And ?_ | refine v_Or ?_ | refine v_Cmp ?_ | refine v_Chain ?_ | refine v_Is ?_ | refine v_Not ?_ | refine v_Yes ?_) | ((with_reducible apply w_Var); (focus (exact rfl))) | (with_reducible first | refine wO_some (isi_I (by with_unfolding_all exact rfl)) ?_ | refine wO_some (isi_B (by with_unfolding_all exact rfl)) ?_ | refine wO_some (isi_S (by with_unfolding_all exact rfl)) ?_ | refine wO_some (isi_T (by with_unfolding_all exact rfl)) ?_ | refine wO_some (isi_L (by with_unfolding_all exact rfl)) ?_) | (first | refine ifT rfl ?_ | refine ifF rfl ?_) | (refine wO_some rfl ?_) | refine ⟨_, rfl, ?_⟩))
    refine ⟨rfl, ?_, rfl⟩
    simp [textB, h2]
theorem r_is_value {k n : Nat} {d : D} {M : Mh} (h : fit n d = true) : callAt P (k + 2) "is_value" [d] M = .ok (.bl (valueB d)) M := by
  refine eq_of_wp (wp_run0 p_is_value rfl rfl ?_)
  dsimp only [m_is_value, List.map, List.append, List.map_cons, List.map_nil, List.length_cons, List.length_nil, List.replicate, List.cons_append, List.nil_append, Nat.reduceSub, Nat.reduceAdd]
  cases d <;> first | (cases n <;> cases h; done) | ((repeat (first | (with_reducible first | refine z_Seq ?_ | refine z_SetN ?_ | refine z_Set ?_ | refine z_Ret ?_ | refine z_If ?_ | refine z_Expr ?_ | refine z_Next ?_ | refine z_Par ?_ | refine z_SetIx ?_ | refine w_C ?_ | refine w_Bop ?_ | refine w_BopT ?_ | refine w_Cmp ?_ | refine w_Chain ?_ | refine w_Is ?_ | refine w_Neg ?_ | refine w_Not ?_ | refine w_And ?_ | refine w_Or ?_ | refine w_Ite ?_ | refine w_Tup ?_ | refine w_Lst ?_ | refine w_LstT ?_ | refine w_Idx ?_ | refine w_SlcNN ?_ | refine w_SlcNS ?_ | refine w_SlcSN ?_ | refine w_Rev ?_ | refine w_Isi ?_ | refine w_Len ?_ | refine w_Int ?_ | refine w_Bool ?_ | refine w_Max ?_ | refine w_All ?_ | refine w_List ?_ | refine w_ListT ?_ | refine w_Tuple ?_ | refine w_Join ?_ | refine w_Split ?_ | refine w_Call ?_ | refine w_DictOf ?_ | refine w_Dict0 ?_ | refine w_Dict1 ?_ | refine w_Append ?_ | refine w_Extend ?_ | refine w_PopAt ?_ | refine w_Nil ?_ | refine w_Cons ?_ | refine v_Val ?_ | refine v_And ?_ | refine v_Or ?_ | refine v_Cmp ?_ | refine v_Chain ?_ | refine v_Is ?_ | refine v_Not ?_ | refine v_Yes ?_) | ((with_reducible apply w_Var); (focus (exact rfl))) | (with_reducible first | refine wO_some (isi_I (by with_unfolding_all exact rfl)) ?_ | refine wO_some (isi_B (by with_unfolding_all exact rfl)) ?_ | refine wO_some (isi_S (by with_unfolding_all exact rfl)) ?_ | refine wO_some (isi_T (by with_unfolding_all exact rfl)) ?_ | refine wO_some (isi_L (by with_unfolding_all exact rfl)) ?_) | (first | refine ifT rfl ?_ | refine ifF rfl ?_) | (refine wO_some rfl ?_) | refine ⟨_, rfl, ?_⟩)); rw [cfl_call, r_whole p_is_integer rfl, wpR_ok]; exact ⟨rfl, rfl, rfl⟩) | skip
  rename_i s
  have hs := line_str h
  (repeat (first | (with_reducible first | refine z_Seq ?_ | refine z_SetN ?_ | refine z_Set ?_ | refine z_Ret ?_ | refine z_If ?_ | refine z_Expr ?_ | refine z_Next ?_ | refine z_Par ?_ | refine z_SetIx ?_ | refine w_C ?_ | refine w_Bop ?_ | refine w_BopT ?_ | refine w_Cmp ?_ | refine w_Chain ?_ | refine w_Is ?_ | refine w_Neg ?_ | refine w_Not ?_ | refine w_And ?_ | refine w_Or ?_ | refine w_Ite ?_ | refine w_Tup ?_ | refine w_Lst ?_ | refine w_LstT ?_ | refine w_Idx ?_ | refine w_SlcNN ?_ | refine w_SlcNS ?_ | refine w_SlcSN ?_ | refine w_Rev ?_ | refine w_Isi ?_ | refine w_Len ?_ | refine w_Int ?_ | refine w_Bool ?_ | refine w_Max ?_ | refine w_All ?_ | refine w_List ?_ | refine w_ListT ?_ | refine w_Tuple ?_ | refine w_Join ?_ | refine w_Split ?_ | refine w_Call ?_ | refine w_DictOf ?_ | refine w_Dict0 ?_ | refine w_Dict1 ?_ | refine w_Append ?_ | refine w_Extend ?_ | refine w_PopAt ?_ | refine w_Nil ?_ | refine w_Cons ?_ | refine v_Val ?_ | refine v_And ?_ | refine v_Or ?_ | refine v_Cmp ?_ | refine v_Chain ?_ | refine v_Is ?_ | refine v_Not ?_ | refine v_Yes ?_) | ((with_reducible apply w_Var); (focus (exact rfl))) | (with_reducible first | refine wO_some (isi_I (by with_unfolding_all exact rfl)) ?_ | refine wO_some (isi_B (by with_unfolding_all exact rfl)) ?_ | refine wO_some (isi_S (by with_unfolding_all exact rfl)) ?_ | refine wO_some (isi_T (by with_unfolding_all exact rfl)) ?_ | refine wO_some (isi_L (by with_unfolding_all exact rfl)) ?_) | (first | refine ifT rfl ?_ | refine ifF rfl ?_) | (refine wO_some rfl ?_) | refine ⟨_, rfl, ?_⟩))
  refine wO_some (lenD_str hs) ?_
  (repeat (first | (with_reducible first | refine z_Seq ?_ | refine z_SetN ?_ | refine z_Set ?_ | refine z_Ret ?_ | refine z_If ?_ | refine z_Expr ?_ | refine z_Next ?_ | refine z_Par ?_ | refine z_SetIx ?_ | refine w_C ?_ | refine w_Bop ?_ | refine w_BopT ?_ | refine w_Cmp ?_ | refine w_Chain ?_ | refine w_Is ?_ | refine w_Neg ?_ | refine w_Not ?_ | refine w_And ?_ | refine w_Or ?_ | refine w_Ite ?_ | refine w_Tup ?_ | refine w_Lst ?_ | refine w_LstT ?_ | refine w_Idx ?_ | refine w_SlcNN ?_ | refine w_SlcNS ?_ | refine w_SlcSN ?_ | refine w_Rev ?_ | refine w_Isi ?_ | refine w_Len ?_ | refine w_Int ?_ | refine w_Bool ?_ | refine w_Max ?_ | refine w_All ?_ | refine w_List ?_ | refine w_ListT ?_ | refine w_Tuple ?_ | refine w_Join ?_ | refine w_Split ?_ | refine w_Call ?_ | refine w_DictOf ?_ | refine w_Dict0 ?_ | refine w_Dict1 ?_ | refine w_Append ?_ | refine w_Extend ?_ | refine w_PopAt ?_ | refine w_Nil ?_ | refine w_Cons ?_ | refine v_Val ?_ | refine v_And ?_ | refine v_Or ?_ | refine v_Cmp ?_ | refine v_Chain ?_ | refine v_Is ?_ | refine v_Not ?_ | refine v_Yes ?_) | ((with_reducible apply w_Var); (focus (exact rfl))) | (with_reducible first | refine wO_some (isi_I (by with_unfolding_all exact rfl)) ?_ | refine wO_some (isi_B (by with_unfolding_all exact rfl)) ?_ | refine wO_some (isi_S (by with_unfolding_all exact rfl)) ?_ | refine wO_some (isi_T (by with_unfolding_all exact rfl)) ?_ | refine wO_some (isi_L (by with_unfolding_all exact rfl)) ?_) | (first | refine ifT rfl ?_ | refine ifF rfl ?_) | (refine wO_some rfl ?_) | refine ⟨_, rfl, ?_⟩))
  by_cases h2 : s.length ≤ 20
  · (first | refine ifT rfl ?_ | refine ifF rfl ?_ | (refine ifT ?_ ?_; focus ((simp only [Bool.not_eq_true', Bool.not_eq_false', decide_eq_true_eq, decide_eq_false_iff_not]); omega)) | (refine ifF ?_ ?_; focus ((simp only [Bool.not_eq_true', Bool.not_eq_false', decide_eq_true_eq, decide_eq_false_iff_not]); omega)) | (refine ifT ?_ ?_; focus (simp [h2]; done)) | (refine ifF ?_ ?_; focus (simp [h2]; done)))
    refine w_AllIn (t := signS) (by simp) rfl hs ⟨rfl, ?_, rfl⟩
    simp [valueB, isI, textB, h2]
  · (first | refine ifT rfl ?_ | refine ifF rfl ?_ | (refine ifT ?_ ?_; focus ((simp only [Bool.not_eq_true', Bool.not_eq_false', decide_eq_true_eq, decide_eq_false_iff_not]); omega)) | (refine ifF ?_ ?_; focus ((simp only [Bool.not_eq_true', Bool.not_eq_false', decide_eq_true_eq, decide_eq_false_iff_not]); omega)) | (refine ifT ?_ ?_; focus (simp [h2]; done)) | (refine ifF ?_ ?_; focus (simp [h2]; done)))
    refine ⟨rfl, ?_, rfl⟩
    simp [valueB, isI, textB, h2]
theorem r_kr_is_value {k n : Nat} {d : D} {M : Mh} (h : fit n d = true) : callAt P (k + 2) "_law_kr_is_value" [d] M = .ok (.bl (valueB d)) M := by
  refine eq_of_wp (wp_run0 p_kr_is_value rfl rfl ?_)
  dsimp only [m__law_kr_is_value, List.map, List.append, List.map_cons, List.map_nil, List.length_cons, List.length_nil, List.replicate, List.cons_append, List.nil_append, Nat.reduceSub, Nat.reduceAdd]
  (repeat (first | (with_reducible first | refine z_Seq ?_ | refine z_SetN ?_ | refine z_Set ?_ | refine z_Ret ?_ | refine z_If ?_ | refine z_Expr ?_ | refine z_Next ?_ | refine z_Par ?_ | refine z_SetIx ?_ | refine w_C ?_ | refine w_Bop ?_ | refine w_BopT ?_ | refine w_Cmp ?_ | refine w_Chain ?_ | refine w_Is ?_ | refine w_Neg ?_ | refine w_Not ?_ | refine w_And ?_ | refine w_Or ?_ | refine w_Ite ?_ | refine w_Tup ?_ | refine w_Lst ?_ | refine w_LstT ?_ | refine w_Idx ?_ | refine w_SlcNN ?_ | refine w_SlcNS ?_ | refine w_SlcSN ?_ | refine w_Rev ?_ | refine w_Isi ?_ | refine w_Len ?_ | refine w_Int ?_ | refine w_Bool ?_ | refine w_Max ?_ | refine w_All ?_ | refine w_List ?_ | refine w_ListT ?_ | refine w_Tuple ?_ | refine w_Join ?_ | refine w_Split ?_ | refine w_Call ?_ | refine w_DictOf ?_ | refine w_Dict0 ?_ | refine w_Dict1 ?_ | refine w_Append ?_ | refine w_Extend ?_ | refine w_PopAt ?_ | refine w_Nil ?_ | refine w_Cons ?_ | refine v_Val ?_ | refine v_And ?_ | refine v_Or ?_ | refine v_Cmp ?_ | refine v_Chain ?_ | refine v_Is ?_ | refine v_Not ?_ | refine v_Yes ?_) | ((with_reducible apply w_Var); (focus (exact rfl))) | (with_reducible first | refine wO_some (isi_I (by with_unfolding_all exact rfl)) ?_ | refine wO_some (isi_B (by with_unfolding_all exact rfl)) ?_ | refine wO_some (isi_S (by with_unfolding_all exact rfl)) ?_ | refine wO_some (isi_T (by with_unfolding_all exact rfl)) ?_ | refine wO_some (isi_L (by with_unfolding_all exact rfl)) ?_) | (first | refine ifT rfl ?_ | refine ifF rfl ?_) | (refine wO_some rfl ?_) | refine ⟨_, rfl, ?_⟩))
  rw [cfl_call, r_whole p_kr_is_whole (fit_val h), wpR_ok]
  refine ⟨_, rfl, fun e => ?_, fun e => ?_⟩
  · exact ⟨rfl, by simp [valueB, e], rfl⟩
  · (repeat (first | (with_reducible first | refine z_Seq ?_ | refine z_SetN ?_ | refine z_Set ?_ | refine z_Ret ?_ | refine z_If ?_ | refine z_Expr ?_ | refine z_Next ?_ | refine z_Par ?_ | refine z_SetIx ?_ | refine w_C ?_ | refine w_Bop ?_ | refine w_BopT ?_ | refine w_Cmp ?_ | refine w_Chain ?_ | refine w_Is ?_ | refine w_Neg ?_ | refine w_Not ?_ | refine w_And ?_ | refine w_Or ?_ | refine w_Ite ?_ | refine w_Tup ?_ | refine w_Lst ?_ | refine w_LstT ?_ | refine w_Idx ?_ | refine w_SlcNN ?_ | refine w_SlcNS ?_ | refine w_SlcSN ?_ | refine w_Rev ?_ | refine w_Isi ?_ | refine w_Len ?_ | refine w_Int ?_ | refine w_Bool ?_ | refine w_Max ?_ | refine w_All ?_ | refine w_List ?_ | refine w_ListT ?_ | refine w_Tuple ?_ | refine w_Join ?_ | refine w_Split ?_ | refine w_Call ?_ | refine w_DictOf ?_ | refine w_Dict0 ?_ | refine w_Dict1 ?_ | refine w_Append ?_ | refine w_Extend ?_ | refine w_PopAt ?_ | refine w_Nil ?_ | refine w_Cons ?_ | refine v_Val ?_ | refine v_And ?_ | refine v_Or ?_ | refine v_Cmp ?_ | refine v_Chain ?_ | refine v_Is ?_ | refine v_Not ?_ | refine v_Yes ?_) | ((with_reducible apply w_Var); (focus (exact rfl))) | (with_reducible first | refine wO_some (isi_I (by with_unfolding_all exact rfl)) ?_ | refine wO_some (isi_B (by with_unfolding_all exact rfl)) ?_ | refine wO_some (isi_S (by with_unfolding_all exact rfl)) ?_ | refine wO_some (isi_T (by with_unfolding_all exact rfl)) ?_ | refine wO_some (isi_L (by with_unfolding_all exact rfl)) ?_) | (first | refine ifT rfl ?_ | refine ifF rfl ?_) | (refine wO_some rfl ?_) | refine ⟨_, rfl, ?_⟩))
    rw [cfl_call, r_kr_is_text h, wpR_ok]
    exact ⟨rfl, by simp [valueB, e], rfl⟩
theorem r_is_day {k n : Nat} {d : D} {M : Mh} (h : fit n d = true) : callAt P (k + 2) "is_day" [d] M = .ok (.bl (dayB d)) M := by
  refine eq_of_wp (wp_run0 p_is_day rfl rfl ?_)
  dsimp only [m_is_day, List.map, List.append, List.map_cons, List.map_nil, List.length_cons, List.length_nil, List.replicate, List.cons_append, List.nil_append, Nat.reduceSub, Nat.reduceAdd]
  (repeat (first | (with_reducible first | refine z_Seq ?_ | refine z_SetN ?_ | refine z_Set ?_ | refine z_Ret ?_ | refine z_If ?_ | refine z_Expr ?_ | refine z_Next ?_ | refine z_Par ?_ | refine z_SetIx ?_ | refine w_C ?_ | refine w_Bop ?_ | refine w_BopT ?_ | refine w_Cmp ?_ | refine w_Chain ?_ | refine w_Is ?_ | refine w_Neg ?_ | refine w_Not ?_ | refine w_And ?_ | refine w_Or ?_ | refine w_Ite ?_ | refine w_Tup ?_ | refine w_Lst ?_ | refine w_LstT ?_ | refine w_Idx ?_ | refine w_SlcNN ?_ | refine w_SlcNS ?_ | refine w_SlcSN ?_ | refine w_Rev ?_ | refine w_Isi ?_ | refine w_Len ?_ | refine w_Int ?_ | refine w_Bool ?_ | refine w_Max ?_ | refine w_All ?_ | refine w_List ?_ | refine w_ListT ?_ | refine w_Tuple ?_ | refine w_Join ?_ | refine w_Split ?_ | refine w_Call ?_ | refine w_DictOf ?_ | refine w_Dict0 ?_ | refine w_Dict1 ?_ | refine w_Append ?_ | refine w_Extend ?_ | refine w_PopAt ?_ | refine w_Nil ?_ | refine w_Cons ?_ | refine v_Val ?_ | refine v_And ?_ | refine v_Or ?_ | refine v_Cmp ?_ | refine v_Chain ?_ | refine v_Is ?_ | refine v_Not ?_ | refine v_Yes ?_) | ((with_reducible apply w_Var); (focus (exact rfl))) | (with_reducible first | refine wO_some (isi_I (by with_unfolding_all exact rfl)) ?_ | refine wO_some (isi_B (by with_unfolding_all exact rfl)) ?_ | refine wO_some (isi_S (by with_unfolding_all exact rfl)) ?_ | refine wO_some (isi_T (by with_unfolding_all exact rfl)) ?_ | refine wO_some (isi_L (by with_unfolding_all exact rfl)) ?_) | (first | refine ifT rfl ?_ | refine ifF rfl ?_) | (refine wO_some rfl ?_) | refine ⟨_, rfl, ?_⟩))
  rw [cfl_call, r_whole p_is_integer (fit_val h), wpR_ok]
  refine ⟨_, rfl, fun e => ?_, fun e => ?_⟩
  · cases d <;> first | (cases e; done) | skip
    (repeat (first | (with_reducible first | refine z_Seq ?_ | refine z_SetN ?_ | refine z_Set ?_ | refine z_Ret ?_ | refine z_If ?_ | refine z_Expr ?_ | refine z_Next ?_ | refine z_Par ?_ | refine z_SetIx ?_ | refine w_C ?_ | refine w_Bop ?_ | refine w_BopT ?_ | refine w_Cmp ?_ | refine w_Chain ?_ | refine w_Is ?_ | refine w_Neg ?_ | refine w_Not ?_ | refine w_And ?_ | refine w_Or ?_ | refine w_Ite ?_ | refine w_Tup ?_ | refine w_Lst ?_ | refine w_LstT ?_ | refine w_Idx ?_ | refine w_SlcNN ?_ | refine w_SlcNS ?_ | refine w_SlcSN ?_ | refine w_Rev ?_ | refine w_Isi ?_ | refine w_Len ?_ | refine w_Int ?_ | refine w_Bool ?_ | refine w_Max ?_ | refine w_All ?_ | refine w_List ?_ | refine w_ListT ?_ | refine w_Tuple ?_ | refine w_Join ?_ | refine w_Split ?_ | refine w_Call ?_ | refine w_DictOf ?_ | refine w_Dict0 ?_ | refine w_Dict1 ?_ | refine w_Append ?_ | refine w_Extend ?_ | refine w_PopAt ?_ | refine w_Nil ?_ | refine w_Cons ?_ | refine v_Val ?_ | refine v_And ?_ | refine v_Or ?_ | refine v_Cmp ?_ | refine v_Chain ?_ | refine v_Is ?_ | refine v_Not ?_ | refine v_Yes ?_) | ((with_reducible apply w_Var); (focus (exact rfl))) | (with_reducible first | refine wO_some (isi_I (by with_unfolding_all exact rfl)) ?_ | refine wO_some (isi_B (by with_unfolding_all exact rfl)) ?_ | refine wO_some (isi_S (by with_unfolding_all exact rfl)) ?_ | refine wO_some (isi_T (by with_unfolding_all exact rfl)) ?_ | refine wO_some (isi_L (by with_unfolding_all exact rfl)) ?_) | (first | refine ifT rfl ?_ | refine ifF rfl ?_) | (refine wO_some rfl ?_) | refine ⟨_, rfl, ?_⟩))
    refine ⟨fun e => ?_, fun e => ?_⟩
    · (repeat (first | (with_reducible first | refine z_Seq ?_ | refine z_SetN ?_ | refine z_Set ?_ | refine z_Ret ?_ | refine z_If ?_ | refine z_Expr ?_ | refine z_Next ?_ | refine z_Par ?_ | refine z_SetIx ?_ | refine w_C ?_ | refine w_Bop ?_ | refine w_BopT ?_ | refine w_Cmp ?_ | refine w_Chain ?_ | refine w_Is ?_ | refine w_Neg ?_ | refine w_Not ?_ | refine w_And ?_ | refine w_Or ?_ | refine w_Ite ?_ | refine w_Tup ?_ | refine w_Lst ?_ | refine w_LstT ?_ | refine w_Idx ?_ | refine w_SlcNN ?_ | refine w_SlcNS ?_ | refine w_SlcSN ?_ | refine w_Rev ?_ | refine w_Isi ?_ | refine w_Len ?_ | refine w_Int ?_ | refine w_Bool ?_ | refine w_Max ?_ | refine w_All ?_ | refine w_List ?_ | refine w_ListT ?_ | refine w_Tuple ?_ | refine w_Join ?_ | refine w_Split ?_ | refine w_Call ?_ | refine w_DictOf ?_ | refine w_Dict0 ?_ | refine w_Dict1 ?_ | refine w_Append ?_ | refine w_Extend ?_ | refine w_PopAt ?_ | refine w_Nil ?_ | refine w_Cons ?_ | refine v_Val ?_ | refine v_And ?_ | refine v_Or ?_ | refine v_Cmp ?_ | refine v_Chain ?_ | refine v_Is ?_ | refine v_Not ?_ | refine v_Yes ?_) | ((with_reducible apply w_Var); (focus (exact rfl))) | (with_reducible first | refine wO_some (isi_I (by with_unfolding_all exact rfl)) ?_ | refine wO_some (isi_B (by with_unfolding_all exact rfl)) ?_ | refine wO_some (isi_S (by with_unfolding_all exact rfl)) ?_ | refine wO_some (isi_T (by with_unfolding_all exact rfl)) ?_ | refine wO_some (isi_L (by with_unfolding_all exact rfl)) ?_) | (first | refine ifT rfl ?_ | refine ifF rfl ?_) | (refine wO_some rfl ?_) | refine ⟨_, rfl, ?_⟩))
      refine ⟨rfl, ?_, rfl⟩
      show D.bl (decide (_ ≤ (999 : Int))) = D.bl (_ && _)
      rw [e, Bool.true_and]
    · refine ⟨rfl, ?_, rfl⟩
      show D.bl false = D.bl (_ && _)
      rw [e, Bool.false_and]
  · refine ⟨rfl, ?_, rfl⟩
    cases d <;> first | rfl | cases e
theorem r_kr_is_day {k n : Nat} {d : D} {M : Mh} (h : fit n d = true) : callAt P (k + 2) "_law_kr_is_day" [d] M = .ok (.bl (dayB d)) M := by
  refine eq_of_wp (wp_run0 p_kr_is_day rfl rfl ?_)
  dsimp only [m__law_kr_is_day, List.map, List.append, List.map_cons, List.map_nil, List.length_cons, List.length_nil, List.replicate, List.cons_append, List.nil_append, Nat.reduceSub, Nat.reduceAdd]
  (repeat (first | (with_reducible first | refine z_Seq ?_ | refine z_SetN ?_ | refine z_Set ?_ | refine z_Ret ?_ | refine z_If ?_ | refine z_Expr ?_ | refine z_Next ?_ | refine z_Par ?_ | refine z_SetIx ?_ | refine w_C ?_ | refine w_Bop ?_ | refine w_BopT ?_ | refine w_Cmp ?_ | refine w_Chain ?_ | refine w_Is ?_ | refine w_Neg ?_ | refine w_Not ?_ | refine w_And ?_ | refine w_Or ?_ | refine w_Ite ?_ | refine w_Tup ?_ | refine w_Lst ?_ | refine w_LstT ?_ | refine w_Idx ?_ | refine w_SlcNN ?_ | refine w_SlcNS ?_ | refine w_SlcSN ?_ | refine w_Rev ?_ | refine w_Isi ?_ | refine w_Len ?_ | refine w_Int ?_ | refine w_Bool ?_ | refine w_Max ?_ | refine w_All ?_ | refine w_List ?_ | refine w_ListT ?_ | refine w_Tuple ?_ | refine w_Join ?_ | refine w_Split ?_ | refine w_Call ?_ | refine w_DictOf ?_ | refine w_Dict0 ?_ | refine w_Dict1 ?_ | refine w_Append ?_ | refine w_Extend ?_ | refine w_PopAt ?_ | refine w_Nil ?_ | refine w_Cons ?_ | refine v_Val ?_ | refine v_And ?_ | refine v_Or ?_ | refine v_Cmp ?_ | refine v_Chain ?_ | refine v_Is ?_ | refine v_Not ?_ | refine v_Yes ?_) | ((with_reducible apply w_Var); (focus (exact rfl))) | (with_reducible first | refine wO_some (isi_I (by with_unfolding_all exact rfl)) ?_ | refine wO_some (isi_B (by with_unfolding_all exact rfl)) ?_ | refine wO_some (isi_S (by with_unfolding_all exact rfl)) ?_ | refine wO_some (isi_T (by with_unfolding_all exact rfl)) ?_ | refine wO_some (isi_L (by with_unfolding_all exact rfl)) ?_) | (first | refine ifT rfl ?_ | refine ifF rfl ?_) | (refine wO_some rfl ?_) | refine ⟨_, rfl, ?_⟩))
  rw [cfl_call, r_whole p_kr_is_whole (fit_val h), wpR_ok]
  refine ⟨_, rfl, fun e => ?_, fun e => ?_⟩
  · cases d <;> first | (cases e; done) | skip
    (repeat (first | (with_reducible first | refine z_Seq ?_ | refine z_SetN ?_ | refine z_Set ?_ | refine z_Ret ?_ | refine z_If ?_ | refine z_Expr ?_ | refine z_Next ?_ | refine z_Par ?_ | refine z_SetIx ?_ | refine w_C ?_ | refine w_Bop ?_ | refine w_BopT ?_ | refine w_Cmp ?_ | refine w_Chain ?_ | refine w_Is ?_ | refine w_Neg ?_ | refine w_Not ?_ | refine w_And ?_ | refine w_Or ?_ | refine w_Ite ?_ | refine w_Tup ?_ | refine w_Lst ?_ | refine w_LstT ?_ | refine w_Idx ?_ | refine w_SlcNN ?_ | refine w_SlcNS ?_ | refine w_SlcSN ?_ | refine w_Rev ?_ | refine w_Isi ?_ | refine w_Len ?_ | refine w_Int ?_ | refine w_Bool ?_ | refine w_Max ?_ | refine w_All ?_ | refine w_List ?_ | refine w_ListT ?_ | refine w_Tuple ?_ | refine w_Join ?_ | refine w_Split ?_ | refine w_Call ?_ | refine w_DictOf ?_ | refine w_Dict0 ?_ | refine w_Dict1 ?_ | refine w_Append ?_ | refine w_Extend ?_ | refine w_PopAt ?_ | refine w_Nil ?_ | refine w_Cons ?_ | refine v_Val ?_ | refine v_And ?_ | refine v_Or ?_ | refine v_Cmp ?_ | refine v_Chain ?_ | refine v_Is ?_ | refine v_Not ?_ | refine v_Yes ?_) | ((with_reducible apply w_Var); (focus (exact rfl))) | (with_reducible first | refine wO_some (isi_I (by with_unfolding_all exact rfl)) ?_ | refine wO_some (isi_B (by with_unfolding_all exact rfl)) ?_ | refine wO_some (isi_S (by with_unfolding_all exact rfl)) ?_ | refine wO_some (isi_T (by with_unfolding_all exact rfl)) ?_ | refine wO_some (isi_L (by with_unfolding_all exact rfl)) ?_) | (first | refine ifT rfl ?_ | refine ifF rfl ?_) | (refine wO_some rfl ?_) | refine ⟨_, rfl, ?_⟩))
    refine ⟨fun e => ?_, fun e => ?_⟩
    · (repeat (first | (with_reducible first | refine z_Seq ?_ | refine z_SetN ?_ | refine z_Set ?_ | refine z_Ret ?_ | refine z_If ?_ | refine z_Expr ?_ | refine z_Next ?_ | refine z_Par ?_ | refine z_SetIx ?_ | refine w_C ?_ | refine w_Bop ?_ | refine w_BopT ?_ | refine w_Cmp ?_ | refine w_Chain ?_ | refine w_Is ?_ | refine w_Neg ?_ | refine w_Not ?_ | refine w_And ?_ | refine w_Or ?_ | refine w_Ite ?_ | refine w_Tup ?_ | refine w_Lst ?_ | refine w_LstT ?_ | refine w_Idx ?_ | refine w_SlcNN ?_ | refine w_SlcNS ?_ | refine w_SlcSN ?_ | refine w_Rev ?_ | refine w_Isi ?_ | refine w_Len ?_ | refine w_Int ?_ | refine w_Bool ?_ | refine w_Max ?_ | refine w_All ?_ | refine w_List ?_ | refine w_ListT ?_ | refine w_Tuple ?_ | refine w_Join ?_ | refine w_Split ?_ | refine w_Call ?_ | refine w_DictOf ?_ | refine w_Dict0 ?_ | refine w_Dict1 ?_ | refine w_Append ?_ | refine w_Extend ?_ | refine w_PopAt ?_ | refine w_Nil ?_ | refine w_Cons ?_ | refine v_Val ?_ | refine v_And ?_ | refine v_Or ?_ | refine v_Cmp ?_ | refine v_Chain ?_ | refine v_Is ?_ | refine v_Not ?_ | refine v_Yes ?_) | ((with_reducible apply w_Var); (focus (exact rfl))) | (with_reducible first | refine wO_some (isi_I (by with_unfolding_all exact rfl)) ?_ | refine wO_some (isi_B (by with_unfolding_all exact rfl)) ?_ | refine wO_some (isi_S (by with_unfolding_all exact rfl)) ?_ | refine wO_some (isi_T (by with_unfolding_all exact rfl)) ?_ | refine wO_some (isi_L (by with_unfolding_all exact rfl)) ?_) | (first | refine ifT rfl ?_ | refine ifF rfl ?_) | (refine wO_some rfl ?_) | refine ⟨_, rfl, ?_⟩))
      refine ⟨rfl, ?_, rfl⟩
      show D.bl (decide (_ ≤ (999 : Int))) = D.bl (_ && _)
      rw [e, Bool.true_and]
    · refine ⟨rfl, ?_, rfl⟩
      show D.bl false = D.bl (_ && _)
      rw [e, Bool.false_and]
  · refine ⟨rfl, ?_, rfl⟩
    cases d <;> first | rfl | cases e
end MP.K01

set_option Elab.async false
set_option linter.all false
set_option maxRecDepth 100000
set_option maxHeartbeats 4000000
/-! k01: columns and rows judged. -/
namespace MP
open PySem PySem.Spec PyProof.Rows L2
theorem eqR {α : Type} {r : R α} {x : α} {M : Mh} (h : wpR r fun a M' => a = x ∧ M' = M) : r = .ok x M := by
  obtain ⟨a, M', e, rfl, rfl⟩ := wpR_ex h
  exact e
section
variable {c : Cf} {ρ : Rho} {M : Mh}
theorem lcAll_pure {g : Tg} {vs : List Nat} {t : TSm} {e : ES} {ds : List D} (hh : D → Option D) (hl : ds.length ≤ line) (s : ∀ d ∈ ds, lcTurn g vs t e c ρ d M = .ok (hh d) M) : lcAll g vs t e c ρ (.fix ds) M = .ok (ds.filterMap hh) M := by
  refine eqR (wpR_opt ⟨_, rfl, wpR_chk (decide_eq_true hl) (wpR_noExc (wpR_imp (lc_fix (fun i ys M1 => M1 = M ∧ ys = (ds.take i).filterMap hh) (fun i d ys M2 e1 j => ?_) ds.length 0 [] M (Nat.zero_add _) ⟨rfl, rfl⟩) fun zs M2 h => ?_))⟩)
  · obtain ⟨rfl, rfl⟩ := j
    have hd := List.mem_of_getElem? e1
    rw [s d hd]
    refine ⟨rfl, ?_⟩
    rw [List.take_add_one, e1, List.filterMap_append]
    congr 1
  · obtain ⟨rfl, e⟩ := h
    rw [List.take_length] at e
    exact ⟨e, rfl⟩
theorem w_LenSet {i : IS} {g : Tg} {vs : List Nat} {t : TSm} {e : ES} {Q : D → Mh → Prop} (h : wpR (i c ρ M) fun S M1 => ∃ (ds : List D) (hh : D → Option D), S = .fix ds ∧ ds.length ≤ line ∧ (∀ d ∈ ds, lcTurn g vs t e c ρ d M1 = .ok (hh d) M1) ∧ ∃ zs, allStr (ds.filterMap hh) = some zs ∧ zs.length < 1000 ∧ Q (.int (dedup zs).length) M1) : wpR (sLenSet i g vs t e c ρ M) Q :=
  wpR_bind (wpR_imp h fun S M1 ⟨ds, hh, e, hl, s, zs, e1, e2, q⟩ => by
    subst e
    rw [lcAll_pure hh hl s]
    exact wpR_opt ⟨_, e1, wpR_chk (decide_eq_true e2) q⟩)
/-- [f(x) for x in ..] -/
theorem turn_call {v : Nat} {f : Str} {d r : D} (hv : v < ρ.length) (hc : c.call f [d] M = .ok r M) : lcTurn (.nm v) [v] tYes (sCall f (aCons (sVar v) aNil)) c ρ d M = .ok (some r) M := by
  have e1 : wipeR ρ [v] = ρ.set v none := rfl
  have e2 : (ρ.set v none).set v (some d) = ρ.set v (some d) := List.set_set ..
  have e3 : (ρ.set v (some d))[v]? = some (some d) := by rw [List.getElem?_set_self hv]
  refine eqR (wp_turn (wO_some (a := ρ.set v (some d)) (by rw [e1, ← e2]; rfl) (v_Yes (ifT rfl (w_Call (w_Cons (w_Var e3 (w_Nil ?_))))))))
  rw [hc]
  exact ⟨rfl, rfl⟩
/-- [x for x in .. if not f(x)] -/
theorem turn_not {v : Nat} {f : Str} {d : D} {b : Bool} (hv : v < ρ.length) (hc : c.call f [d] M = .ok (.bl b) M) : lcTurn (.nm v) [v] (tNot (tVal (sCall f (aCons (sVar v) aNil)))) (sVar v) c ρ d M = .ok (if b = true then none else some d) M := by
  have e1 : wipeR ρ [v] = ρ.set v none := rfl
  have e2 : (ρ.set v none).set v (some d) = ρ.set v (some d) := List.set_set ..
  have e3 : (ρ.set v (some d))[v]? = some (some d) := by rw [List.getElem?_set_self hv]
  refine eqR (wp_turn (wO_some (a := ρ.set v (some d)) (by rw [e1, ← e2]; rfl) (v_Not (v_Val (w_Call (w_Cons (w_Var e3 (w_Nil ?_))))))))
  rw [hc, wpR_ok]
  cases b with
  | true => exact wO_some rfl (ifF rfl ⟨rfl, rfl⟩)
  | false => exact wO_some rfl (ifT rfl (w_Var e3 ⟨rfl, rfl⟩))
end
theorem dedup_len : ∀ zs : List Str, (dedup zs).length ≤ zs.length ∧ ((dedup zs).length = zs.length ↔ zs.Nodup)
  | [] => ⟨Nat.le_refl _, fun _ => List.nodup_nil, fun _ => rfl⟩
  | z :: zs => by
    have ih := dedup_len zs
    by_cases h : zs.contains z = true
    · have e : dedup (z :: zs) = dedup zs := if_pos h
      rw [e, List.length_cons]
      refine ⟨by omega, fun h2 => by omega, fun h2 => ?_⟩
      rw [List.nodup_cons] at h2
      exact (h2.1 (List.contains_iff_mem.mp h)).elim
    · have e : dedup (z :: zs) = z :: dedup zs := if_neg h
      rw [e, List.length_cons, List.length_cons, List.nodup_cons]
      refine ⟨by omega, fun h2 => ⟨fun h3 => h (List.contains_iff_mem.mpr h3), ih.2.mp (by omega)⟩, fun h2 => ?_⟩
      rw [ih.2.mpr h2.2]
theorem nodup_take {zs : List Str} : zs.Nodup ↔ ∀ (i : Nat) (z : Str), zs[i]? = some z → z ∉ zs.take i := by
  rw [List.Nodup, List.pairwise_iff_getElem]
  constructor
  · intro h i z hz hm
    obtain ⟨hi, rfl⟩ := List.getElem?_eq_some_iff.mp hz
    obtain ⟨j, hj, e⟩ := List.mem_take_iff_getElem.mp hm
    exact h j i (by omega) hi (by omega) e
  · intro h i j hi hj hij e
    refine h j zs[j] (List.getElem?_eq_getElem hj) (List.mem_take_iff_getElem.mpr ⟨i, by omega, e⟩)
theorem cut_lo {xs : List D} {i : Nat} : cut xs none (some (i : Int)) = xs.take i := by
  unfold cut
  rw [HT.sIx_none, HT.sIx_nat, List.drop_zero, Nat.sub_zero]
  by_cases h : i ≤ xs.length
  · rw [Nat.min_eq_left h]
  · rw [Nat.min_eq_right (by omega), List.take_length, List.take_of_length_le (by omega)]
theorem cut_hi {xs : List D} {i : Nat} : cut xs (some (i : Int)) none = xs.drop i := by
  unfold cut
  rw [HT.sIx_none, HT.sIx_nat]
  by_cases h : i ≤ xs.length
  · rw [Nat.min_eq_left h, List.take_of_length_le (by rw [List.length_drop]; omega)]
  · rw [Nat.min_eq_right (by omega), Nat.sub_self, List.take_zero, List.drop_of_length_le (by omega)]
theorem any_eqF {zs : List Str} {z : Str} : ((zs.map D.str).any fun y => eqF y (.str z)) = decide (z ∈ zs) := by
  rw [List.any_map]
  induction zs with
  | nil => rfl
  | cons a l ih =>
    rw [List.any_cons, ih]
    show ((a == z) || _) = _
    by_cases h : a = z
    · subst h; simp
    · rw [beq_eq_false_iff_ne.mpr h, Bool.false_or]
      simp [Ne.symm h]
theorem flat_strs (zs : List Str) : (zs.map D.str).all flat = true := by
  rw [List.all_map, List.all_eq_true]
  exact fun _ _ => rfl
theorem in_strs {zs : List Str} {z : Str} : inD (.str z) (.lst (zs.map D.str)) = some (decide (z ∈ zs)) := by
  show (if (flat (.str z) && (zs.map D.str).all flat) = true then some _ else none) = _
  rw [flat_strs]
  show some _ = _
  rw [any_eqF]
end MP
namespace MP.K01
open PySem PySem.Spec PyProof.Rows L2 MP
def columnB : D → Bool
  | .tup [a, b] => nameB a && kindB b
  | _ => false
def nm : D → Str
  | .tup (.str s :: _) => s
  | _ => ""
def columnsB : D → Bool
  | .lst xs => decide (1 ≤ xs.length ∧ xs.length ≤ 10) && (xs.all columnB && decide ((xs.map nm).Nodup))
  | _ => false
theorem kind_in {b : D} {M : Mh} (hb : tyS b = true) : cmp .inn (view M b) (view M k_KINDS) = some (kindB b) := by
  cases b <;> first | (cases hb; done) | rfl
theorem kind_in' {b : D} {M : Mh} (hb : tyS b = true) : cmp .inn (view M b) (view M (.lst [.str "number", .str "text"])) = some (kindB b) := by
  cases b <;> first | (cases hb; done) | rfl
theorem r_is_column {k n : Nat} {d : D} {M : Mh} (h : fit n d = true) : callAt P (k + 2) "is_column" [d] M = .ok (.bl (columnB d)) M := by
  refine eq_of_wp (wp_run0 p_is_column rfl rfl ?_)
  dsimp only [m_is_column, List.map, List.append, List.map_cons, List.map_nil, List.length_cons, List.length_nil, List.replicate, List.cons_append, List.nil_append, Nat.reduceSub, Nat.reduceAdd]
  cases d <;> first | (cases n <;> cases h; done) | ((repeat (first | (with_reducible first | refine z_Seq ?_ | refine z_SetN ?_ | refine z_Set ?_ | refine z_Ret ?_ | refine z_If ?_ | refine z_Expr ?_ | refine z_Next ?_ | refine z_Par ?_ | refine z_SetIx ?_ | refine w_C ?_ | refine w_Bop ?_ | refine w_BopT ?_ | refine w_Cmp ?_ | refine w_Chain ?_ | refine w_Is ?_ | refine w_Neg ?_ | refine w_Not ?_ | refine w_And ?_ | refine w_Or ?_ | refine w_Ite ?_ | refine w_Tup ?_ | refine w_Lst ?_ | refine w_LstT ?_ | refine w_Idx ?_ | refine w_SlcNN ?_ | refine w_SlcNS ?_ | refine w_SlcSN ?_ | refine w_Rev ?_ | refine w_Isi ?_ | refine w_Len ?_ | refine w_Int ?_ | refine w_Bool ?_ | refine w_Max ?_ | refine w_All ?_ | refine w_List ?_ | refine w_ListT ?_ | refine w_Tuple ?_ | refine w_Join ?_ | refine w_Split ?_ | refine w_Call ?_ | refine w_DictOf ?_ | refine w_Dict0 ?_ | refine w_Dict1 ?_ | refine w_Append ?_ | refine w_Extend ?_ | refine w_PopAt ?_ | refine w_Nil ?_ | refine w_Cons ?_ | refine v_Val ?_ | refine v_And ?_ | refine v_Or ?_ | refine v_Cmp ?_ | refine v_Chain ?_ | refine v_Is ?_ | refine v_Not ?_ | refine v_Yes ?_) | ((with_reducible apply w_Var); (focus (exact rfl))) | (with_reducible first | refine wO_some (isi_I (by with_unfolding_all exact rfl)) ?_ | refine wO_some (isi_B (by with_unfolding_all exact rfl)) ?_ | refine wO_some (isi_S (by with_unfolding_all exact rfl)) ?_ | refine wO_some (isi_T (by with_unfolding_all exact rfl)) ?_ | refine wO_some (isi_L (by with_unfolding_all exact rfl)) ?_) | (first | refine ifT rfl ?_ | refine ifF rfl ?_) | (refine wO_some rfl ?_) | refine ⟨_, rfl, ?_⟩)); exact ⟨rfl, rfl, rfl⟩) | skip
  rename_i xs
  cases n with
  | zero => cases h
  | succ n =>
  have hx := (fit_tup.mp h).1
  match xs, hx with
  | [], _ => (repeat (first | (with_reducible first | refine z_Seq ?_ | refine z_SetN ?_ | refine z_Set ?_ | refine z_Ret ?_ | refine z_If ?_ | refine z_Expr ?_ | refine z_Next ?_ | refine z_Par ?_ | refine z_SetIx ?_ | refine w_C ?_ | refine w_Bop ?_ | refine w_BopT ?_ | refine w_Cmp ?_ | refine w_Chain ?_ | refine w_Is ?_ | refine w_Neg ?_ | refine w_Not ?_ | refine w_And ?_ | refine w_Or ?_ | refine w_Ite ?_ | refine w_Tup ?_ | refine w_Lst ?_ | refine w_LstT ?_ | refine w_Idx ?_ | refine w_SlcNN ?_ | refine w_SlcNS ?_ | refine w_SlcSN ?_ | refine w_Rev ?_ | refine w_Isi ?_ | refine w_Len ?_ | refine w_Int ?_ | refine w_Bool ?_ | refine w_Max ?_ | refine w_All ?_ | refine w_List ?_ | refine w_ListT ?_ | refine w_Tuple ?_ | refine w_Join ?_ | refine w_Split ?_ | refine w_Call ?_ | refine w_DictOf ?_ | refine w_Dict0 ?_ | refine w_Dict1 ?_ | refine w_Append ?_ | refine w_Extend ?_ | refine w_PopAt ?_ | refine w_Nil ?_ | refine w_Cons ?_ | refine v_Val ?_ | refine v_And ?_ | refine v_Or ?_ | refine v_Cmp ?_ | refine v_Chain ?_ | refine v_Is ?_ | refine v_Not ?_ | refine v_Yes ?_) | ((with_reducible apply w_Var); (focus (exact rfl))) | (with_reducible first | refine wO_some (isi_I (by with_unfolding_all exact rfl)) ?_ | refine wO_some (isi_B (by with_unfolding_all exact rfl)) ?_ | refine wO_some (isi_S (by with_unfolding_all exact rfl)) ?_ | refine wO_some (isi_T (by with_unfolding_all exact rfl)) ?_ | refine wO_some (isi_L (by with_unfolding_all exact rfl)) ?_) | (first | refine ifT rfl ?_ | refine ifF rfl ?_) | (refine wO_some rfl ?_) | refine ⟨_, rfl, ?_⟩)); exact ⟨rfl, rfl, rfl⟩
  | [a], _ => (repeat (first | (with_reducible first | refine z_Seq ?_ | refine z_SetN ?_ | refine z_Set ?_ | refine z_Ret ?_ | refine z_If ?_ | refine z_Expr ?_ | refine z_Next ?_ | refine z_Par ?_ | refine z_SetIx ?_ | refine w_C ?_ | refine w_Bop ?_ | refine w_BopT ?_ | refine w_Cmp ?_ | refine w_Chain ?_ | refine w_Is ?_ | refine w_Neg ?_ | refine w_Not ?_ | refine w_And ?_ | refine w_Or ?_ | refine w_Ite ?_ | refine w_Tup ?_ | refine w_Lst ?_ | refine w_LstT ?_ | refine w_Idx ?_ | refine w_SlcNN ?_ | refine w_SlcNS ?_ | refine w_SlcSN ?_ | refine w_Rev ?_ | refine w_Isi ?_ | refine w_Len ?_ | refine w_Int ?_ | refine w_Bool ?_ | refine w_Max ?_ | refine w_All ?_ | refine w_List ?_ | refine w_ListT ?_ | refine w_Tuple ?_ | refine w_Join ?_ | refine w_Split ?_ | refine w_Call ?_ | refine w_DictOf ?_ | refine w_Dict0 ?_ | refine w_Dict1 ?_ | refine w_Append ?_ | refine w_Extend ?_ | refine w_PopAt ?_ | refine w_Nil ?_ | refine w_Cons ?_ | refine v_Val ?_ | refine v_And ?_ | refine v_Or ?_ | refine v_Cmp ?_ | refine v_Chain ?_ | refine v_Is ?_ | refine v_Not ?_ | refine v_Yes ?_) | ((with_reducible apply w_Var); (focus (exact rfl))) | (with_reducible first | refine wO_some (isi_I (by with_unfolding_all exact rfl)) ?_ | refine wO_some (isi_B (by with_unfolding_all exact rfl)) ?_ | refine wO_some (isi_S (by with_unfolding_all exact rfl)) ?_ | refine wO_some (isi_T (by with_unfolding_all exact rfl)) ?_ | refine wO_some (isi_L (by with_unfolding_all exact rfl)) ?_) | (first | refine ifT rfl ?_ | refine ifF rfl ?_) | (refine wO_some rfl ?_) | refine ⟨_, rfl, ?_⟩)); exact ⟨rfl, rfl, rfl⟩
  | a :: b :: e :: xs, _ =>
    (repeat (first | (with_reducible first | refine z_Seq ?_ | refine z_SetN ?_ | refine z_Set ?_ | refine z_Ret ?_ | refine z_If ?_ | refine z_Expr ?_ | refine z_Next ?_ | refine z_Par ?_ | refine z_SetIx ?_ | refine w_C ?_ | refine w_Bop ?_ | refine w_BopT ?_ | refine w_Cmp ?_ | refine w_Chain ?_ | refine w_Is ?_ | refine w_Neg ?_ | refine w_Not ?_ | refine w_And ?_ | refine w_Or ?_ | refine w_Ite ?_ | refine w_Tup ?_ | refine w_Lst ?_ | refine w_LstT ?_ | refine w_Idx ?_ | refine w_SlcNN ?_ | refine w_SlcNS ?_ | refine w_SlcSN ?_ | refine w_Rev ?_ | refine w_Isi ?_ | refine w_Len ?_ | refine w_Int ?_ | refine w_Bool ?_ | refine w_Max ?_ | refine w_All ?_ | refine w_List ?_ | refine w_ListT ?_ | refine w_Tuple ?_ | refine w_Join ?_ | refine w_Split ?_ | refine w_Call ?_ | refine w_DictOf ?_ | refine w_Dict0 ?_ | refine w_Dict1 ?_ | refine w_Append ?_ | refine w_Extend ?_ | refine w_PopAt ?_ | refine w_Nil ?_ | refine w_Cons ?_ | refine v_Val ?_ | refine v_And ?_ | refine v_Or ?_ | refine v_Cmp ?_ | refine v_Chain ?_ | refine v_Is ?_ | refine v_Not ?_ | refine v_Yes ?_) | ((with_reducible apply w_Var); (focus (exact rfl))) | (with_reducible first | refine wO_some (isi_I (by with_unfolding_all exact rfl)) ?_ | refine wO_some (isi_B (by with_unfolding_all exact rfl)) ?_ | refine wO_some (isi_S (by with_unfolding_all exact rfl)) ?_ | refine wO_some (isi_T (by with_unfolding_all exact rfl)) ?_ | refine wO_some (isi_L (by with_unfolding_all exact rfl)) ?_) | (first | refine ifT rfl ?_ | refine ifF rfl ?_) | (refine wO_some rfl ?_) | refine ⟨_, rfl, ?_⟩))
    exact ⟨rfl, rfl, rfl⟩
  | [a, b], hx =>
    have ha := hx a (by simp)
    have hb := hx b (by simp)
    (repeat (first | (with_reducible first | refine z_Seq ?_ | refine z_SetN ?_ | refine z_Set ?_ | refine z_Ret ?_ | refine z_If ?_ | refine z_Expr ?_ | refine z_Next ?_ | refine z_Par ?_ | refine z_SetIx ?_ | refine w_C ?_ | refine w_Bop ?_ | refine w_BopT ?_ | refine w_Cmp ?_ | refine w_Chain ?_ | refine w_Is ?_ | refine w_Neg ?_ | refine w_Not ?_ | refine w_And ?_ | refine w_Or ?_ | refine w_Ite ?_ | refine w_Tup ?_ | refine w_Lst ?_ | refine w_LstT ?_ | refine w_Idx ?_ | refine w_SlcNN ?_ | refine w_SlcNS ?_ | refine w_SlcSN ?_ | refine w_Rev ?_ | refine w_Isi ?_ | refine w_Len ?_ | refine w_Int ?_ | refine w_Bool ?_ | refine w_Max ?_ | refine w_All ?_ | refine w_List ?_ | refine w_ListT ?_ | refine w_Tuple ?_ | refine w_Join ?_ | refine w_Split ?_ | refine w_Call ?_ | refine w_DictOf ?_ | refine w_Dict0 ?_ | refine w_Dict1 ?_ | refine w_Append ?_ | refine w_Extend ?_ | refine w_PopAt ?_ | refine w_Nil ?_ | refine w_Cons ?_ | refine v_Val ?_ | refine v_And ?_ | refine v_Or ?_ | refine v_Cmp ?_ | refine v_Chain ?_ | refine v_Is ?_ | refine v_Not ?_ | refine v_Yes ?_) | ((with_reducible apply w_Var); (focus (exact rfl))) | (with_reducible first | refine wO_some (isi_I (by with_unfolding_all exact rfl)) ?_ | refine wO_some (isi_B (by with_unfolding_all exact rfl)) ?_ | refine wO_some (isi_S (by with_unfolding_all exact rfl)) ?_ | refine wO_some (isi_T (by with_unfolding_all exact rfl)) ?_ | refine wO_some (isi_L (by with_unfolding_all exact rfl)) ?_) | (first | refine ifT rfl ?_ | refine ifF rfl ?_) | (refine wO_some rfl ?_) | refine ⟨_, rfl, ?_⟩))
    rw [cfl_call, r_is_name ha, wpR_ok]
    (repeat (first | (with_reducible first | refine z_Seq ?_ | refine z_SetN ?_ | refine z_Set ?_ | refine z_Ret ?_ | refine z_If ?_ | refine z_Expr ?_ | refine z_Next ?_ | refine z_Par ?_ | refine z_SetIx ?_ | refine w_C ?_ | refine w_Bop ?_ | refine w_BopT ?_ | refine w_Cmp ?_ | refine w_Chain ?_ | refine w_Is ?_ | refine w_Neg ?_ | refine w_Not ?_ | refine w_And ?_ | refine w_Or ?_ | refine w_Ite ?_ | refine w_Tup ?_ | refine w_Lst ?_ | refine w_LstT ?_ | refine w_Idx ?_ | refine w_SlcNN ?_ | refine w_SlcNS ?_ | refine w_SlcSN ?_ | refine w_Rev ?_ | refine w_Isi ?_ | refine w_Len ?_ | refine w_Int ?_ | refine w_Bool ?_ | refine w_Max ?_ | refine w_All ?_ | refine w_List ?_ | refine w_ListT ?_ | refine w_Tuple ?_ | refine w_Join ?_ | refine w_Split ?_ | refine w_Call ?_ | refine w_DictOf ?_ | refine w_Dict0 ?_ | refine w_Dict1 ?_ | refine w_Append ?_ | refine w_Extend ?_ | refine w_PopAt ?_ | refine w_Nil ?_ | refine w_Cons ?_ | refine v_Val ?_ | refine v_And ?_ | refine v_Or ?_ | refine v_Cmp ?_ | refine v_Chain ?_ | refine v_Is ?_ | refine v_Not ?_ | refine v_Yes ?_) | ((with_reducible apply w_Var); (focus (exact rfl))) | (with_reducible first | refine wO_some (isi_I (by with_unfolding_all exact rfl)) ?_ | refine wO_some (isi_B (by with_unfolding_all exact rfl)) ?_ | refine wO_some (isi_S (by with_unfolding_all exact rfl)) ?_ | refine wO_some (isi_T (by with_unfolding_all exact rfl)) ?_ | refine wO_some (isi_L (by with_unfolding_all exact rfl)) ?_) | (first | refine ifT rfl ?_ | refine ifF rfl ?_) | (refine wO_some rfl ?_) | refine ⟨_, rfl, ?_⟩))
    cases hn : nameB a with
    | false =>
      (repeat (first | (with_reducible first | refine z_Seq ?_ | refine z_SetN ?_ | refine z_Set ?_ | refine z_Ret ?_ | refine z_If ?_ | refine z_Expr ?_ | refine z_Next ?_ | refine z_Par ?_ | refine z_SetIx ?_ | refine w_C ?_ | refine w_Bop ?_ | refine w_BopT ?_ | refine w_Cmp ?_ | refine w_Chain ?_ | refine w_Is ?_ | refine w_Neg ?_ | refine w_Not ?_ | refine w_And ?_ | refine w_Or ?_ | refine w_Ite ?_ | refine w_Tup ?_ | refine w_Lst ?_ | refine w_LstT ?_ | refine w_Idx ?_ | refine w_SlcNN ?_ | refine w_SlcNS ?_ | refine w_SlcSN ?_ | refine w_Rev ?_ | refine w_Isi ?_ | refine w_Len ?_ | refine w_Int ?_ | refine w_Bool ?_ | refine w_Max ?_ | refine w_All ?_ | refine w_List ?_ | refine w_ListT ?_ | refine w_Tuple ?_ | refine w_Join ?_ | refine w_Split ?_ | refine w_Call ?_ | refine w_DictOf ?_ | refine w_Dict0 ?_ | refine w_Dict1 ?_ | refine w_Append ?_ | refine w_Extend ?_ | refine w_PopAt ?_ | refine w_Nil ?_ | refine w_Cons ?_ | refine v_Val ?_ | refine v_And ?_ | refine v_Or ?_ | refine v_Cmp ?_ | refine v_Chain ?_ | refine v_Is ?_ | refine v_Not ?_ | refine v_Yes ?_) | ((with_reducible apply w_Var); (focus (exact rfl))) | (with_reducible first | refine wO_some (isi_I (by with_unfolding_all exact rfl)) ?_ | refine wO_some (isi_B (by with_unfolding_all exact rfl)) ?_ | refine wO_some (isi_S (by with_unfolding_all exact rfl)) ?_ | refine wO_some (isi_T (by with_unfolding_all exact rfl)) ?_ | refine wO_some (isi_L (by with_unfolding_all exact rfl)) ?_) | (first | refine ifT rfl ?_ | refine ifF rfl ?_) | (refine wO_some rfl ?_) | refine ⟨_, rfl, ?_⟩))
      exact ⟨rfl, by simp [columnB, hn], rfl⟩
    | true =>
      (first | refine ifT rfl ?_ | refine ifF rfl ?_ | (refine ifT ?_ ?_; focus ((simp only [Bool.not_eq_true', Bool.not_eq_false', decide_eq_true_eq, decide_eq_false_iff_not]); omega)) | (refine ifF ?_ ?_; focus ((simp only [Bool.not_eq_true', Bool.not_eq_false', decide_eq_true_eq, decide_eq_false_iff_not]); omega)) | (refine ifT ?_ ?_; focus (simp []; done)) | (refine ifF ?_ ?_; focus (simp []; done)))
      (repeat (first | (with_reducible first | refine z_Seq ?_ | refine z_SetN ?_ | refine z_Set ?_ | refine z_Ret ?_ | refine z_If ?_ | refine z_Expr ?_ | refine z_Next ?_ | refine z_Par ?_ | refine z_SetIx ?_ | refine w_C ?_ | refine w_Bop ?_ | refine w_BopT ?_ | refine w_Cmp ?_ | refine w_Chain ?_ | refine w_Is ?_ | refine w_Neg ?_ | refine w_Not ?_ | refine w_And ?_ | refine w_Or ?_ | refine w_Ite ?_ | refine w_Tup ?_ | refine w_Lst ?_ | refine w_LstT ?_ | refine w_Idx ?_ | refine w_SlcNN ?_ | refine w_SlcNS ?_ | refine w_SlcSN ?_ | refine w_Rev ?_ | refine w_Isi ?_ | refine w_Len ?_ | refine w_Int ?_ | refine w_Bool ?_ | refine w_Max ?_ | refine w_All ?_ | refine w_List ?_ | refine w_ListT ?_ | refine w_Tuple ?_ | refine w_Join ?_ | refine w_Split ?_ | refine w_Call ?_ | refine w_DictOf ?_ | refine w_Dict0 ?_ | refine w_Dict1 ?_ | refine w_Append ?_ | refine w_Extend ?_ | refine w_PopAt ?_ | refine w_Nil ?_ | refine w_Cons ?_ | refine v_Val ?_ | refine v_And ?_ | refine v_Or ?_ | refine v_Cmp ?_ | refine v_Chain ?_ | refine v_Is ?_ | refine v_Not ?_ | refine v_Yes ?_) | ((with_reducible apply w_Var); (focus (exact rfl)))))
      (refine wO_some rfl ?_)
      rw [view_val (fit_val hb)]
      refine wO_some (isi_S (fit_val hb)) ⟨_, rfl, fun e => ?_, fun e => ?_⟩
      · (repeat (first | (with_reducible first | refine z_Seq ?_ | refine z_SetN ?_ | refine z_Set ?_ | refine z_Ret ?_ | refine z_If ?_ | refine z_Expr ?_ | refine z_Next ?_ | refine z_Par ?_ | refine z_SetIx ?_ | refine w_C ?_ | refine w_Bop ?_ | refine w_BopT ?_ | refine w_Cmp ?_ | refine w_Chain ?_ | refine w_Is ?_ | refine w_Neg ?_ | refine w_Not ?_ | refine w_And ?_ | refine w_Or ?_ | refine w_Ite ?_ | refine w_Tup ?_ | refine w_Lst ?_ | refine w_LstT ?_ | refine w_Idx ?_ | refine w_SlcNN ?_ | refine w_SlcNS ?_ | refine w_SlcSN ?_ | refine w_Rev ?_ | refine w_Isi ?_ | refine w_Len ?_ | refine w_Int ?_ | refine w_Bool ?_ | refine w_Max ?_ | refine w_All ?_ | refine w_List ?_ | refine w_ListT ?_ | refine w_Tuple ?_ | refine w_Join ?_ | refine w_Split ?_ | refine w_Call ?_ | refine w_DictOf ?_ | refine w_Dict0 ?_ | refine w_Dict1 ?_ | refine w_Append ?_ | refine w_Extend ?_ | refine w_PopAt ?_ | refine w_Nil ?_ | refine w_Cons ?_ | refine v_Val ?_ | refine v_And ?_ | refine v_Or ?_ | refine v_Cmp ?_ | refine v_Chain ?_ | refine v_Is ?_ | refine v_Not ?_ | refine v_Yes ?_) | ((with_reducible apply w_Var); (focus (exact rfl)))))
        (refine wO_some rfl ?_)
        (repeat (first | (with_reducible first | refine z_Seq ?_ | refine z_SetN ?_ | refine z_Set ?_ | refine z_Ret ?_ | refine z_If ?_ | refine z_Expr ?_ | refine z_Next ?_ | refine z_Par ?_ | refine z_SetIx ?_ | refine w_C ?_ | refine w_Bop ?_ | refine w_BopT ?_ | refine w_Cmp ?_ | refine w_Chain ?_ | refine w_Is ?_ | refine w_Neg ?_ | refine w_Not ?_ | refine w_And ?_ | refine w_Or ?_ | refine w_Ite ?_ | refine w_Tup ?_ | refine w_Lst ?_ | refine w_LstT ?_ | refine w_Idx ?_ | refine w_SlcNN ?_ | refine w_SlcNS ?_ | refine w_SlcSN ?_ | refine w_Rev ?_ | refine w_Isi ?_ | refine w_Len ?_ | refine w_Int ?_ | refine w_Bool ?_ | refine w_Max ?_ | refine w_All ?_ | refine w_List ?_ | refine w_ListT ?_ | refine w_Tuple ?_ | refine w_Join ?_ | refine w_Split ?_ | refine w_Call ?_ | refine w_DictOf ?_ | refine w_Dict0 ?_ | refine w_Dict1 ?_ | refine w_Append ?_ | refine w_Extend ?_ | refine w_PopAt ?_ | refine w_Nil ?_ | refine w_Cons ?_ | refine v_Val ?_ | refine v_And ?_ | refine v_Or ?_ | refine v_Cmp ?_ | refine v_Chain ?_ | refine v_Is ?_ | refine v_Not ?_ | refine v_Yes ?_) | ((with_reducible apply w_Var); (focus (exact rfl)))))
        refine wO_some (kind_in e) ⟨rfl, by simp [columnB, hn], rfl⟩
      · refine ⟨rfl, ?_, rfl⟩
        have : kindB b = false := by cases b <;> first | rfl | cases e
        simp [columnB, hn, this]
theorem r_kr_is_column {k n : Nat} {d : D} {M : Mh} (h : fit n d = true) : callAt P (k + 3) "_law_kr_is_column" [d] M = .ok (.bl (columnB d)) M := by
  refine eq_of_wp (wp_run0 p_kr_is_column rfl rfl ?_)
  dsimp only [m__law_kr_is_column, List.map, List.append, List.map_cons, List.map_nil, List.length_cons, List.length_nil, List.replicate, List.cons_append, List.nil_append, Nat.reduceSub, Nat.reduceAdd]
  cases d <;> first | (cases n <;> cases h; done) | ((repeat (first | (with_reducible first | refine z_Seq ?_ | refine z_SetN ?_ | refine z_Set ?_ | refine z_Ret ?_ | refine z_If ?_ | refine z_Expr ?_ | refine z_Next ?_ | refine z_Par ?_ | refine z_SetIx ?_ | refine w_C ?_ | refine w_Bop ?_ | refine w_BopT ?_ | refine w_Cmp ?_ | refine w_Chain ?_ | refine w_Is ?_ | refine w_Neg ?_ | refine w_Not ?_ | refine w_And ?_ | refine w_Or ?_ | refine w_Ite ?_ | refine w_Tup ?_ | refine w_Lst ?_ | refine w_LstT ?_ | refine w_Idx ?_ | refine w_SlcNN ?_ | refine w_SlcNS ?_ | refine w_SlcSN ?_ | refine w_Rev ?_ | refine w_Isi ?_ | refine w_Len ?_ | refine w_Int ?_ | refine w_Bool ?_ | refine w_Max ?_ | refine w_All ?_ | refine w_List ?_ | refine w_ListT ?_ | refine w_Tuple ?_ | refine w_Join ?_ | refine w_Split ?_ | refine w_Call ?_ | refine w_DictOf ?_ | refine w_Dict0 ?_ | refine w_Dict1 ?_ | refine w_Append ?_ | refine w_Extend ?_ | refine w_PopAt ?_ | refine w_Nil ?_ | refine w_Cons ?_ | refine v_Val ?_ | refine v_And ?_ | refine v_Or ?_ | refine v_Cmp ?_ | refine v_Chain ?_ | refine v_Is ?_ | refine v_Not ?_ | refine v_Yes ?_) | ((with_reducible apply w_Var); (focus (exact rfl))) | (with_reducible first | refine wO_some (isi_I (by with_unfolding_all exact rfl)) ?_ | refine wO_some (isi_B (by with_unfolding_all exact rfl)) ?_ | refine wO_some (isi_S (by with_unfolding_all exact rfl)) ?_ | refine wO_some (isi_T (by with_unfolding_all exact rfl)) ?_ | refine wO_some (isi_L (by with_unfolding_all exact rfl)) ?_) | (first | refine ifT rfl ?_ | refine ifF rfl ?_) | (refine wO_some rfl ?_) | refine ⟨_, rfl, ?_⟩)); exact ⟨rfl, rfl, rfl⟩) | skip
  rename_i xs
  cases n with
  | zero => cases h
  | succ n =>
  have hx := (fit_tup.mp h).1
  match xs, hx with
  | [], _ => (repeat (first | (with_reducible first | refine z_Seq ?_ | refine z_SetN ?_ | refine z_Set ?_ | refine z_Ret ?_ | refine z_If ?_ | refine z_Expr ?_ | refine z_Next ?_ | refine z_Par ?_ | refine z_SetIx ?_ | refine w_C ?_ | refine w_Bop ?_ | refine w_BopT ?_ | refine w_Cmp ?_ | refine w_Chain ?_ | refine w_Is ?_ | refine w_Neg ?_ | refine w_Not ?_ | refine w_And ?_ | refine w_Or ?_ | refine w_Ite ?_ | refine w_Tup ?_ | refine w_Lst ?_ | refine w_LstT ?_ | refine w_Idx ?_ | refine w_SlcNN ?_ | refine w_SlcNS ?_ | refine w_SlcSN ?_ | refine w_Rev ?_ | refine w_Isi ?_ | refine w_Len ?_ | refine w_Int ?_ | refine w_Bool ?_ | refine w_Max ?_ | refine w_All ?_ | refine w_List ?_ | refine w_ListT ?_ | refine w_Tuple ?_ | refine w_Join ?_ | refine w_Split ?_ | refine w_Call ?_ | refine w_DictOf ?_ | refine w_Dict0 ?_ | refine w_Dict1 ?_ | refine w_Append ?_ | refine w_Extend ?_ | refine w_PopAt ?_ | refine w_Nil ?_ | refine w_Cons ?_ | refine v_Val ?_ | refine v_And ?_ | refine v_Or ?_ | refine v_Cmp ?_ | refine v_Chain ?_ | refine v_Is ?_ | refine v_Not ?_ | refine v_Yes ?_) | ((with_reducible apply w_Var); (focus (exact rfl))) | (with_reducible first | refine wO_some (isi_I (by with_unfolding_all exact rfl)) ?_ | refine wO_some (isi_B (by with_unfolding_all exact rfl)) ?_ | refine wO_some (isi_S (by with_unfolding_all exact rfl)) ?_ | refine wO_some (isi_T (by with_unfolding_all exact rfl)) ?_ | refine wO_some (isi_L (by with_unfolding_all exact rfl)) ?_) | (first | refine ifT rfl ?_ | refine ifF rfl ?_) | (refine wO_some rfl ?_) | refine ⟨_, rfl, ?_⟩)); exact ⟨rfl, rfl, rfl⟩
  | [a], _ => (repeat (first | (with_reducible first | refine z_Seq ?_ | refine z_SetN ?_ | refine z_Set ?_ | refine z_Ret ?_ | refine z_If ?_ | refine z_Expr ?_ | refine z_Next ?_ | refine z_Par ?_ | refine z_SetIx ?_ | refine w_C ?_ | refine w_Bop ?_ | refine w_BopT ?_ | refine w_Cmp ?_ | refine w_Chain ?_ | refine w_Is ?_ | refine w_Neg ?_ | refine w_Not ?_ | refine w_And ?_ | refine w_Or ?_ | refine w_Ite ?_ | refine w_Tup ?_ | refine w_Lst ?_ | refine w_LstT ?_ | refine w_Idx ?_ | refine w_SlcNN ?_ | refine w_SlcNS ?_ | refine w_SlcSN ?_ | refine w_Rev ?_ | refine w_Isi ?_ | refine w_Len ?_ | refine w_Int ?_ | refine w_Bool ?_ | refine w_Max ?_ | refine w_All ?_ | refine w_List ?_ | refine w_ListT ?_ | refine w_Tuple ?_ | refine w_Join ?_ | refine w_Split ?_ | refine w_Call ?_ | refine w_DictOf ?_ | refine w_Dict0 ?_ | refine w_Dict1 ?_ | refine w_Append ?_ | refine w_Extend ?_ | refine w_PopAt ?_ | refine w_Nil ?_ | refine w_Cons ?_ | refine v_Val ?_ | refine v_And ?_ | refine v_Or ?_ | refine v_Cmp ?_ | refine v_Chain ?_ | refine v_Is ?_ | refine v_Not ?_ | refine v_Yes ?_) | ((with_reducible apply w_Var); (focus (exact rfl))) | (with_reducible first | refine wO_some (isi_I (by with_unfolding_all exact rfl)) ?_ | refine wO_some (isi_B (by with_unfolding_all exact rfl)) ?_ | refine wO_some (isi_S (by with_unfolding_all exact rfl)) ?_ | refine wO_some (isi_T (by with_unfolding_all exact rfl)) ?_ | refine wO_some (isi_L (by with_unfolding_all exact rfl)) ?_) | (first | refine ifT rfl ?_ | refine ifF rfl ?_) | (refine wO_some rfl ?_) | refine ⟨_, rfl, ?_⟩)); exact ⟨rfl, rfl, rfl⟩
  | a :: b :: e :: xs, _ =>
    (repeat (first | (with_reducible first | refine z_Seq ?_ | refine z_SetN ?_ | refine z_Set ?_ | refine z_Ret ?_ | refine z_If ?_ | refine z_Expr ?_ | refine z_Next ?_ | refine z_Par ?_ | refine z_SetIx ?_ | refine w_C ?_ | refine w_Bop ?_ | refine w_BopT ?_ | refine w_Cmp ?_ | refine w_Chain ?_ | refine w_Is ?_ | refine w_Neg ?_ | refine w_Not ?_ | refine w_And ?_ | refine w_Or ?_ | refine w_Ite ?_ | refine w_Tup ?_ | refine w_Lst ?_ | refine w_LstT ?_ | refine w_Idx ?_ | refine w_SlcNN ?_ | refine w_SlcNS ?_ | refine w_SlcSN ?_ | refine w_Rev ?_ | refine w_Isi ?_ | refine w_Len ?_ | refine w_Int ?_ | refine w_Bool ?_ | refine w_Max ?_ | refine w_All ?_ | refine w_List ?_ | refine w_ListT ?_ | refine w_Tuple ?_ | refine w_Join ?_ | refine w_Split ?_ | refine w_Call ?_ | refine w_DictOf ?_ | refine w_Dict0 ?_ | refine w_Dict1 ?_ | refine w_Append ?_ | refine w_Extend ?_ | refine w_PopAt ?_ | refine w_Nil ?_ | refine w_Cons ?_ | refine v_Val ?_ | refine v_And ?_ | refine v_Or ?_ | refine v_Cmp ?_ | refine v_Chain ?_ | refine v_Is ?_ | refine v_Not ?_ | refine v_Yes ?_) | ((with_reducible apply w_Var); (focus (exact rfl))) | (with_reducible first | refine wO_some (isi_I (by with_unfolding_all exact rfl)) ?_ | refine wO_some (isi_B (by with_unfolding_all exact rfl)) ?_ | refine wO_some (isi_S (by with_unfolding_all exact rfl)) ?_ | refine wO_some (isi_T (by with_unfolding_all exact rfl)) ?_ | refine wO_some (isi_L (by with_unfolding_all exact rfl)) ?_) | (first | refine ifT rfl ?_ | refine ifF rfl ?_) | (refine wO_some rfl ?_) | refine ⟨_, rfl, ?_⟩))
    exact ⟨rfl, rfl, rfl⟩
  | [a, b], hx =>
    have ha := hx a (by simp)
    have hb := hx b (by simp)
    (repeat (first | (with_reducible first | refine z_Seq ?_ | refine z_SetN ?_ | refine z_Set ?_ | refine z_Ret ?_ | refine z_If ?_ | refine z_Expr ?_ | refine z_Next ?_ | refine z_Par ?_ | refine z_SetIx ?_ | refine w_C ?_ | refine w_Bop ?_ | refine w_BopT ?_ | refine w_Cmp ?_ | refine w_Chain ?_ | refine w_Is ?_ | refine w_Neg ?_ | refine w_Not ?_ | refine w_And ?_ | refine w_Or ?_ | refine w_Ite ?_ | refine w_Tup ?_ | refine w_Lst ?_ | refine w_LstT ?_ | refine w_Idx ?_ | refine w_SlcNN ?_ | refine w_SlcNS ?_ | refine w_SlcSN ?_ | refine w_Rev ?_ | refine w_Isi ?_ | refine w_Len ?_ | refine w_Int ?_ | refine w_Bool ?_ | refine w_Max ?_ | refine w_All ?_ | refine w_List ?_ | refine w_ListT ?_ | refine w_Tuple ?_ | refine w_Join ?_ | refine w_Split ?_ | refine w_Call ?_ | refine w_DictOf ?_ | refine w_Dict0 ?_ | refine w_Dict1 ?_ | refine w_Append ?_ | refine w_Extend ?_ | refine w_PopAt ?_ | refine w_Nil ?_ | refine w_Cons ?_ | refine v_Val ?_ | refine v_And ?_ | refine v_Or ?_ | refine v_Cmp ?_ | refine v_Chain ?_ | refine v_Is ?_ | refine v_Not ?_ | refine v_Yes ?_) | ((with_reducible apply w_Var); (focus (exact rfl))) | (with_reducible first | refine wO_some (isi_I (by with_unfolding_all exact rfl)) ?_ | refine wO_some (isi_B (by with_unfolding_all exact rfl)) ?_ | refine wO_some (isi_S (by with_unfolding_all exact rfl)) ?_ | refine wO_some (isi_T (by with_unfolding_all exact rfl)) ?_ | refine wO_some (isi_L (by with_unfolding_all exact rfl)) ?_) | (first | refine ifT rfl ?_ | refine ifF rfl ?_) | (refine wO_some rfl ?_) | refine ⟨_, rfl, ?_⟩))
    rw [cfl_call, r_kr_is_name ha, wpR_ok]
    (repeat (first | (with_reducible first | refine z_Seq ?_ | refine z_SetN ?_ | refine z_Set ?_ | refine z_Ret ?_ | refine z_If ?_ | refine z_Expr ?_ | refine z_Next ?_ | refine z_Par ?_ | refine z_SetIx ?_ | refine w_C ?_ | refine w_Bop ?_ | refine w_BopT ?_ | refine w_Cmp ?_ | refine w_Chain ?_ | refine w_Is ?_ | refine w_Neg ?_ | refine w_Not ?_ | refine w_And ?_ | refine w_Or ?_ | refine w_Ite ?_ | refine w_Tup ?_ | refine w_Lst ?_ | refine w_LstT ?_ | refine w_Idx ?_ | refine w_SlcNN ?_ | refine w_SlcNS ?_ | refine w_SlcSN ?_ | refine w_Rev ?_ | refine w_Isi ?_ | refine w_Len ?_ | refine w_Int ?_ | refine w_Bool ?_ | refine w_Max ?_ | refine w_All ?_ | refine w_List ?_ | refine w_ListT ?_ | refine w_Tuple ?_ | refine w_Join ?_ | refine w_Split ?_ | refine w_Call ?_ | refine w_DictOf ?_ | refine w_Dict0 ?_ | refine w_Dict1 ?_ | refine w_Append ?_ | refine w_Extend ?_ | refine w_PopAt ?_ | refine w_Nil ?_ | refine w_Cons ?_ | refine v_Val ?_ | refine v_And ?_ | refine v_Or ?_ | refine v_Cmp ?_ | refine v_Chain ?_ | refine v_Is ?_ | refine v_Not ?_ | refine v_Yes ?_) | ((with_reducible apply w_Var); (focus (exact rfl))) | (with_reducible first | refine wO_some (isi_I (by with_unfolding_all exact rfl)) ?_ | refine wO_some (isi_B (by with_unfolding_all exact rfl)) ?_ | refine wO_some (isi_S (by with_unfolding_all exact rfl)) ?_ | refine wO_some (isi_T (by with_unfolding_all exact rfl)) ?_ | refine wO_some (isi_L (by with_unfolding_all exact rfl)) ?_) | (first | refine ifT rfl ?_ | refine ifF rfl ?_) | (refine wO_some rfl ?_) | refine ⟨_, rfl, ?_⟩))
    cases hn : nameB a with
    | false =>
      (repeat (first | (with_reducible first | refine z_Seq ?_ | refine z_SetN ?_ | refine z_Set ?_ | refine z_Ret ?_ | refine z_If ?_ | refine z_Expr ?_ | refine z_Next ?_ | refine z_Par ?_ | refine z_SetIx ?_ | refine w_C ?_ | refine w_Bop ?_ | refine w_BopT ?_ | refine w_Cmp ?_ | refine w_Chain ?_ | refine w_Is ?_ | refine w_Neg ?_ | refine w_Not ?_ | refine w_And ?_ | refine w_Or ?_ | refine w_Ite ?_ | refine w_Tup ?_ | refine w_Lst ?_ | refine w_LstT ?_ | refine w_Idx ?_ | refine w_SlcNN ?_ | refine w_SlcNS ?_ | refine w_SlcSN ?_ | refine w_Rev ?_ | refine w_Isi ?_ | refine w_Len ?_ | refine w_Int ?_ | refine w_Bool ?_ | refine w_Max ?_ | refine w_All ?_ | refine w_List ?_ | refine w_ListT ?_ | refine w_Tuple ?_ | refine w_Join ?_ | refine w_Split ?_ | refine w_Call ?_ | refine w_DictOf ?_ | refine w_Dict0 ?_ | refine w_Dict1 ?_ | refine w_Append ?_ | refine w_Extend ?_ | refine w_PopAt ?_ | refine w_Nil ?_ | refine w_Cons ?_ | refine v_Val ?_ | refine v_And ?_ | refine v_Or ?_ | refine v_Cmp ?_ | refine v_Chain ?_ | refine v_Is ?_ | refine v_Not ?_ | refine v_Yes ?_) | ((with_reducible apply w_Var); (focus (exact rfl))) | (with_reducible first | refine wO_some (isi_I (by with_unfolding_all exact rfl)) ?_ | refine wO_some (isi_B (by with_unfolding_all exact rfl)) ?_ | refine wO_some (isi_S (by with_unfolding_all exact rfl)) ?_ | refine wO_some (isi_T (by with_unfolding_all exact rfl)) ?_ | refine wO_some (isi_L (by with_unfolding_all exact rfl)) ?_) | (first | refine ifT rfl ?_ | refine ifF rfl ?_) | (refine wO_some rfl ?_) | refine ⟨_, rfl, ?_⟩))
      exact ⟨rfl, by simp [columnB, hn], rfl⟩
    | true =>
      (first | refine ifT rfl ?_ | refine ifF rfl ?_ | (refine ifT ?_ ?_; focus ((simp only [Bool.not_eq_true', Bool.not_eq_false', decide_eq_true_eq, decide_eq_false_iff_not]); omega)) | (refine ifF ?_ ?_; focus ((simp only [Bool.not_eq_true', Bool.not_eq_false', decide_eq_true_eq, decide_eq_false_iff_not]); omega)) | (refine ifT ?_ ?_; focus (simp []; done)) | (refine ifF ?_ ?_; focus (simp []; done)))
      (repeat (first | (with_reducible first | refine z_Seq ?_ | refine z_SetN ?_ | refine z_Set ?_ | refine z_Ret ?_ | refine z_If ?_ | refine z_Expr ?_ | refine z_Next ?_ | refine z_Par ?_ | refine z_SetIx ?_ | refine w_C ?_ | refine w_Bop ?_ | refine w_BopT ?_ | refine w_Cmp ?_ | refine w_Chain ?_ | refine w_Is ?_ | refine w_Neg ?_ | refine w_Not ?_ | refine w_And ?_ | refine w_Or ?_ | refine w_Ite ?_ | refine w_Tup ?_ | refine w_Lst ?_ | refine w_LstT ?_ | refine w_Idx ?_ | refine w_SlcNN ?_ | refine w_SlcNS ?_ | refine w_SlcSN ?_ | refine w_Rev ?_ | refine w_Isi ?_ | refine w_Len ?_ | refine w_Int ?_ | refine w_Bool ?_ | refine w_Max ?_ | refine w_All ?_ | refine w_List ?_ | refine w_ListT ?_ | refine w_Tuple ?_ | refine w_Join ?_ | refine w_Split ?_ | refine w_Call ?_ | refine w_DictOf ?_ | refine w_Dict0 ?_ | refine w_Dict1 ?_ | refine w_Append ?_ | refine w_Extend ?_ | refine w_PopAt ?_ | refine w_Nil ?_ | refine w_Cons ?_ | refine v_Val ?_ | refine v_And ?_ | refine v_Or ?_ | refine v_Cmp ?_ | refine v_Chain ?_ | refine v_Is ?_ | refine v_Not ?_ | refine v_Yes ?_) | ((with_reducible apply w_Var); (focus (exact rfl)))))
      (refine wO_some rfl ?_)
      rw [view_val (fit_val hb)]
      refine wO_some (isi_S (fit_val hb)) ⟨_, rfl, fun e => ?_, fun e => ?_⟩
      · (repeat (first | (with_reducible first | refine z_Seq ?_ | refine z_SetN ?_ | refine z_Set ?_ | refine z_Ret ?_ | refine z_If ?_ | refine z_Expr ?_ | refine z_Next ?_ | refine z_Par ?_ | refine z_SetIx ?_ | refine w_C ?_ | refine w_Bop ?_ | refine w_BopT ?_ | refine w_Cmp ?_ | refine w_Chain ?_ | refine w_Is ?_ | refine w_Neg ?_ | refine w_Not ?_ | refine w_And ?_ | refine w_Or ?_ | refine w_Ite ?_ | refine w_Tup ?_ | refine w_Lst ?_ | refine w_LstT ?_ | refine w_Idx ?_ | refine w_SlcNN ?_ | refine w_SlcNS ?_ | refine w_SlcSN ?_ | refine w_Rev ?_ | refine w_Isi ?_ | refine w_Len ?_ | refine w_Int ?_ | refine w_Bool ?_ | refine w_Max ?_ | refine w_All ?_ | refine w_List ?_ | refine w_ListT ?_ | refine w_Tuple ?_ | refine w_Join ?_ | refine w_Split ?_ | refine w_Call ?_ | refine w_DictOf ?_ | refine w_Dict0 ?_ | refine w_Dict1 ?_ | refine w_Append ?_ | refine w_Extend ?_ | refine w_PopAt ?_ | refine w_Nil ?_ | refine w_Cons ?_ | refine v_Val ?_ | refine v_And ?_ | refine v_Or ?_ | refine v_Cmp ?_ | refine v_Chain ?_ | refine v_Is ?_ | refine v_Not ?_ | refine v_Yes ?_) | ((with_reducible apply w_Var); (focus (exact rfl)))))
        (refine wO_some rfl ?_)
        (repeat (first | (with_reducible first | refine z_Seq ?_ | refine z_SetN ?_ | refine z_Set ?_ | refine z_Ret ?_ | refine z_If ?_ | refine z_Expr ?_ | refine z_Next ?_ | refine z_Par ?_ | refine z_SetIx ?_ | refine w_C ?_ | refine w_Bop ?_ | refine w_BopT ?_ | refine w_Cmp ?_ | refine w_Chain ?_ | refine w_Is ?_ | refine w_Neg ?_ | refine w_Not ?_ | refine w_And ?_ | refine w_Or ?_ | refine w_Ite ?_ | refine w_Tup ?_ | refine w_Lst ?_ | refine w_LstT ?_ | refine w_Idx ?_ | refine w_SlcNN ?_ | refine w_SlcNS ?_ | refine w_SlcSN ?_ | refine w_Rev ?_ | refine w_Isi ?_ | refine w_Len ?_ | refine w_Int ?_ | refine w_Bool ?_ | refine w_Max ?_ | refine w_All ?_ | refine w_List ?_ | refine w_ListT ?_ | refine w_Tuple ?_ | refine w_Join ?_ | refine w_Split ?_ | refine w_Call ?_ | refine w_DictOf ?_ | refine w_Dict0 ?_ | refine w_Dict1 ?_ | refine w_Append ?_ | refine w_Extend ?_ | refine w_PopAt ?_ | refine w_Nil ?_ | refine w_Cons ?_ | refine v_Val ?_ | refine v_And ?_ | refine v_Or ?_ | refine v_Cmp ?_ | refine v_Chain ?_ | refine v_Is ?_ | refine v_Not ?_ | refine v_Yes ?_) | ((with_reducible apply w_Var); (focus (exact rfl)))))
        refine ⟨by simp [line], ?_⟩
        refine wO_some (kind_in' e) ⟨rfl, by simp [columnB, hn], rfl⟩
      · refine ⟨rfl, ?_, rfl⟩
        have : kindB b = false := by cases b <;> first | rfl | cases e
        simp [columnB, hn, this]

theorem column_ex {d : D} (h : columnB d = true) : ∃ s b, d = .tup [.str s, b] ∧ nm d = s ∧ kindB b = true ∧ nameB (.str s) = true := by
  cases d <;> first | (cases h; done) | skip
  rename_i xs
  match xs, h with
  | [a, b], h =>
    have h : (nameB a && kindB b) = true := h
    rw [Bool.and_eq_true] at h
    cases a <;> first | (cases h.1; done) | skip
    rename_i s _
    exact ⟨s, b, rfl, rfl, h.2, h.1⟩
theorem names_of {xs : List D} (h : xs.all columnB = true) {α : Type} (f : D → Option D) (hf : ∀ s b, f (.tup [.str s, b]) = some (.str s)) : xs.filterMap f = (xs.map nm).map D.str := by
  induction xs with
  | nil => rfl
  | cons x xs ih =>
    rw [List.all_cons, Bool.and_eq_true] at h
    obtain ⟨s, b, rfl, e, _, _⟩ := column_ex h.1
    rw [List.filterMap_cons_some (hf s b), ih h.2, List.map_cons, List.map_cons, e]
theorem allStr_map (zs : List Str) : allStr (zs.map D.str) = some zs := by
  induction zs with
  | nil => rfl
  | cons z zs ih =>
    show (allStr (zs.map D.str)).map (z :: ·) = _
    rw [ih]
    rfl
theorem r_is_columns {k n : Nat} {d : D} {M : Mh} (h : fit n d = true) : callAt P (k + 3) "is_columns" [d] M = .ok (.bl (columnsB d)) M := by
  refine eq_of_wp (wp_run0 p_is_columns rfl rfl ?_)
  dsimp only [m_is_columns, List.map, List.append, List.map_cons, List.map_nil, List.length_cons, List.length_nil, List.replicate, List.cons_append, List.nil_append, Nat.reduceSub, Nat.reduceAdd]
  cases d <;> first | (cases n <;> cases h; done) | ((repeat (first | (with_reducible first | refine z_Seq ?_ | refine z_SetN ?_ | refine z_Set ?_ | refine z_Ret ?_ | refine z_If ?_ | refine z_Expr ?_ | refine z_Next ?_ | refine z_Par ?_ | refine z_SetIx ?_ | refine w_C ?_ | refine w_Bop ?_ | refine w_BopT ?_ | refine w_Cmp ?_ | refine w_Chain ?_ | refine w_Is ?_ | refine w_Neg ?_ | refine w_Not ?_ | refine w_And ?_ | refine w_Or ?_ | refine w_Ite ?_ | refine w_Tup ?_ | refine w_Lst ?_ | refine w_LstT ?_ | refine w_Idx ?_ | refine w_SlcNN ?_ | refine w_SlcNS ?_ | refine w_SlcSN ?_ | refine w_Rev ?_ | refine w_Isi ?_ | refine w_Len ?_ | refine w_Int ?_ | refine w_Bool ?_ | refine w_Max ?_ | refine w_All ?_ | refine w_List ?_ | refine w_ListT ?_ | refine w_Tuple ?_ | refine w_Join ?_ | refine w_Split ?_ | refine w_Call ?_ | refine w_DictOf ?_ | refine w_Dict0 ?_ | refine w_Dict1 ?_ | refine w_Append ?_ | refine w_Extend ?_ | refine w_PopAt ?_ | refine w_Nil ?_ | refine w_Cons ?_ | refine v_Val ?_ | refine v_And ?_ | refine v_Or ?_ | refine v_Cmp ?_ | refine v_Chain ?_ | refine v_Is ?_ | refine v_Not ?_ | refine v_Yes ?_) | ((with_reducible apply w_Var); (focus (exact rfl))) | (with_reducible first | refine wO_some (isi_I (by with_unfolding_all exact rfl)) ?_ | refine wO_some (isi_B (by with_unfolding_all exact rfl)) ?_ | refine wO_some (isi_S (by with_unfolding_all exact rfl)) ?_ | refine wO_some (isi_T (by with_unfolding_all exact rfl)) ?_ | refine wO_some (isi_L (by with_unfolding_all exact rfl)) ?_) | (first | refine ifT rfl ?_ | refine ifF rfl ?_) | (refine wO_some rfl ?_) | refine ⟨_, rfl, ?_⟩)); exact ⟨rfl, rfl, rfl⟩) | skip
  rename_i xs
  cases n with
  | zero => cases h
  | succ n =>
  have hx := fit_lst.mp h
  (repeat (first | (with_reducible first | refine z_Seq ?_ | refine z_SetN ?_ | refine z_Set ?_ | refine z_Ret ?_ | refine z_If ?_ | refine z_Expr ?_ | refine z_Next ?_ | refine z_Par ?_ | refine z_SetIx ?_ | refine w_C ?_ | refine w_Bop ?_ | refine w_BopT ?_ | refine w_Cmp ?_ | refine w_Chain ?_ | refine w_Is ?_ | refine w_Neg ?_ | refine w_Not ?_ | refine w_And ?_ | refine w_Or ?_ | refine w_Ite ?_ | refine w_Tup ?_ | refine w_Lst ?_ | refine w_LstT ?_ | refine w_Idx ?_ | refine w_SlcNN ?_ | refine w_SlcNS ?_ | refine w_SlcSN ?_ | refine w_Rev ?_ | refine w_Isi ?_ | refine w_Len ?_ | refine w_Int ?_ | refine w_Bool ?_ | refine w_Max ?_ | refine w_All ?_ | refine w_List ?_ | refine w_ListT ?_ | refine w_Tuple ?_ | refine w_Join ?_ | refine w_Split ?_ | refine w_Call ?_ | refine w_DictOf ?_ | refine w_Dict0 ?_ | refine w_Dict1 ?_ | refine w_Append ?_ | refine w_Extend ?_ | refine w_PopAt ?_ | refine w_Nil ?_ | refine w_Cons ?_ | refine v_Val ?_ | refine v_And ?_ | refine v_Or ?_ | refine v_Cmp ?_ | refine v_Chain ?_ | refine v_Is ?_ | refine v_Not ?_ | refine v_Yes ?_) | ((with_reducible apply w_Var); (focus (exact rfl))) | (with_reducible first | refine wO_some (isi_I (by with_unfolding_all exact rfl)) ?_ | refine wO_some (isi_B (by with_unfolding_all exact rfl)) ?_ | refine wO_some (isi_S (by with_unfolding_all exact rfl)) ?_ | refine wO_some (isi_T (by with_unfolding_all exact rfl)) ?_ | refine wO_some (isi_L (by with_unfolding_all exact rfl)) ?_) | (first | refine ifT rfl ?_ | refine ifF rfl ?_) | (refine wO_some rfl ?_) | refine ⟨_, rfl, ?_⟩))
  by_cases h1 : 1 ≤ xs.length
  · (first | refine ifT rfl ?_ | refine ifF rfl ?_ | (refine ifT ?_ ?_; focus ((simp only [Bool.not_eq_true', Bool.not_eq_false', decide_eq_true_eq, decide_eq_false_iff_not]); omega)) | (refine ifF ?_ ?_; focus ((simp only [Bool.not_eq_true', Bool.not_eq_false', decide_eq_true_eq, decide_eq_false_iff_not]); omega)) | (refine ifT ?_ ?_; focus (simp [h1]; done)) | (refine ifF ?_ ?_; focus (simp [h1]; done)))
    (repeat (first | (with_reducible first | refine z_Seq ?_ | refine z_SetN ?_ | refine z_Set ?_ | refine z_Ret ?_ | refine z_If ?_ | refine z_Expr ?_ | refine z_Next ?_ | refine z_Par ?_ | refine z_SetIx ?_ | refine w_C ?_ | refine w_Bop ?_ | refine w_BopT ?_ | refine w_Cmp ?_ | refine w_Chain ?_ | refine w_Is ?_ | refine w_Neg ?_ | refine w_Not ?_ | refine w_And ?_ | refine w_Or ?_ | refine w_Ite ?_ | refine w_Tup ?_ | refine w_Lst ?_ | refine w_LstT ?_ | refine w_Idx ?_ | refine w_SlcNN ?_ | refine w_SlcNS ?_ | refine w_SlcSN ?_ | refine w_Rev ?_ | refine w_Isi ?_ | refine w_Len ?_ | refine w_Int ?_ | refine w_Bool ?_ | refine w_Max ?_ | refine w_All ?_ | refine w_List ?_ | refine w_ListT ?_ | refine w_Tuple ?_ | refine w_Join ?_ | refine w_Split ?_ | refine w_Call ?_ | refine w_DictOf ?_ | refine w_Dict0 ?_ | refine w_Dict1 ?_ | refine w_Append ?_ | refine w_Extend ?_ | refine w_PopAt ?_ | refine w_Nil ?_ | refine w_Cons ?_ | refine v_Val ?_ | refine v_And ?_ | refine v_Or ?_ | refine v_Cmp ?_ | refine v_Chain ?_ | refine v_Is ?_ | refine v_Not ?_ | refine v_Yes ?_) | ((with_reducible apply w_Var); (focus (exact rfl))) | (with_reducible first | refine wO_some (isi_I (by with_unfolding_all exact rfl)) ?_ | refine wO_some (isi_B (by with_unfolding_all exact rfl)) ?_ | refine wO_some (isi_S (by with_unfolding_all exact rfl)) ?_ | refine wO_some (isi_T (by with_unfolding_all exact rfl)) ?_ | refine wO_some (isi_L (by with_unfolding_all exact rfl)) ?_) | (first | refine ifT rfl ?_ | refine ifF rfl ?_) | (refine wO_some rfl ?_) | refine ⟨_, rfl, ?_⟩))
    by_cases h2 : xs.length ≤ 10
    · have hl : xs.length ≤ line := by show xs.length ≤ 16777216; omega
      (first | refine ifT rfl ?_ | refine ifF rfl ?_ | (refine ifT ?_ ?_; focus ((simp only [Bool.not_eq_true', Bool.not_eq_false', decide_eq_true_eq, decide_eq_false_iff_not]); omega)) | (refine ifF ?_ ?_; focus ((simp only [Bool.not_eq_true', Bool.not_eq_false', decide_eq_true_eq, decide_eq_false_iff_not]); omega)) | (refine ifT ?_ ?_; focus (simp [h2]; done)) | (refine ifF ?_ ?_; focus (simp [h2]; done)))
      refine z_Next (z_Seq (z_If (v_Not (v_Val (w_All (w_LcP (i_Val (w_Var rfl (wO_some rfl ?_)))))))))
      refine ⟨_, fun d => some (.bl (columnB d)), rfl, hl, fun d hd => ?_, ?_⟩
      · refine turn_call (by simp) ?_
        rw [cfl_call]
        exact r_is_column (hx.1 d hd)
      · refine ⟨_, xs.map columnB, rfl, by rw [List.filterMap_eq_map']; exact allBl_map _ _, ?_⟩
        have hall : ((xs.map columnB).all id) = xs.all columnB := by rw [List.all_map]; rfl
        rw [hall]
        cases h3 : xs.all columnB with
        | false =>
          (repeat (first | (with_reducible first | refine z_Seq ?_ | refine z_SetN ?_ | refine z_Set ?_ | refine z_Ret ?_ | refine z_If ?_ | refine z_Expr ?_ | refine z_Next ?_ | refine z_Par ?_ | refine z_SetIx ?_ | refine w_C ?_ | refine w_Bop ?_ | refine w_BopT ?_ | refine w_Cmp ?_ | refine w_Chain ?_ | refine w_Is ?_ | refine w_Neg ?_ | refine w_Not ?_ | refine w_And ?_ | refine w_Or ?_ | refine w_Ite ?_ | refine w_Tup ?_ | refine w_Lst ?_ | refine w_LstT ?_ | refine w_Idx ?_ | refine w_SlcNN ?_ | refine w_SlcNS ?_ | refine w_SlcSN ?_ | refine w_Rev ?_ | refine w_Isi ?_ | refine w_Len ?_ | refine w_Int ?_ | refine w_Bool ?_ | refine w_Max ?_ | refine w_All ?_ | refine w_List ?_ | refine w_ListT ?_ | refine w_Tuple ?_ | refine w_Join ?_ | refine w_Split ?_ | refine w_Call ?_ | refine w_DictOf ?_ | refine w_Dict0 ?_ | refine w_Dict1 ?_ | refine w_Append ?_ | refine w_Extend ?_ | refine w_PopAt ?_ | refine w_Nil ?_ | refine w_Cons ?_ | refine v_Val ?_ | refine v_And ?_ | refine v_Or ?_ | refine v_Cmp ?_ | refine v_Chain ?_ | refine v_Is ?_ | refine v_Not ?_ | refine v_Yes ?_) | ((with_reducible apply w_Var); (focus (exact rfl))) | (with_reducible first | refine wO_some (isi_I (by with_unfolding_all exact rfl)) ?_ | refine wO_some (isi_B (by with_unfolding_all exact rfl)) ?_ | refine wO_some (isi_S (by with_unfolding_all exact rfl)) ?_ | refine wO_some (isi_T (by with_unfolding_all exact rfl)) ?_ | refine wO_some (isi_L (by with_unfolding_all exact rfl)) ?_) | (first | refine ifT rfl ?_ | refine ifF rfl ?_) | (refine wO_some rfl ?_) | refine ⟨_, rfl, ?_⟩))
          refine ⟨rfl, ?_, rfl⟩
          show D.bl false = D.bl (_ && (xs.all columnB && _))
          rw [h3, Bool.false_and, Bool.and_false]
        | true =>
          (refine wO_some rfl ?_)
          (first | refine ifT rfl ?_ | refine ifF rfl ?_ | (refine ifT ?_ ?_; focus ((simp only [Bool.not_eq_true', Bool.not_eq_false', decide_eq_true_eq, decide_eq_false_iff_not]); omega)) | (refine ifF ?_ ?_; focus ((simp only [Bool.not_eq_true', Bool.not_eq_false', decide_eq_true_eq, decide_eq_false_iff_not]); omega)) | (refine ifT ?_ ?_; focus (simp []; done)) | (refine ifF ?_ ?_; focus (simp []; done)))
          refine z_Next (z_Ret (w_Cmp (w_LenSet (i_Val (w_Var rfl (wO_some rfl ?_))))))
          refine ⟨_, fun d => match d with
            | .tup [a, b] => some a
            | _ => none, rfl, hl, fun d hd => ?_, xs.map nm, ?_, by rw [List.length_map]; omega, ?_⟩
          · obtain ⟨s, b, rfl, _⟩ := column_ex (List.all_eq_true.mp h3 d hd)
            rfl
          · rw [names_of (α := D) h3 _ fun s b => rfl]
            exact allStr_map _
          · (repeat (first | (with_reducible first | refine z_Seq ?_ | refine z_SetN ?_ | refine z_Set ?_ | refine z_Ret ?_ | refine z_If ?_ | refine z_Expr ?_ | refine z_Next ?_ | refine z_Par ?_ | refine z_SetIx ?_ | refine w_C ?_ | refine w_Bop ?_ | refine w_BopT ?_ | refine w_Cmp ?_ | refine w_Chain ?_ | refine w_Is ?_ | refine w_Neg ?_ | refine w_Not ?_ | refine w_And ?_ | refine w_Or ?_ | refine w_Ite ?_ | refine w_Tup ?_ | refine w_Lst ?_ | refine w_LstT ?_ | refine w_Idx ?_ | refine w_SlcNN ?_ | refine w_SlcNS ?_ | refine w_SlcSN ?_ | refine w_Rev ?_ | refine w_Isi ?_ | refine w_Len ?_ | refine w_Int ?_ | refine w_Bool ?_ | refine w_Max ?_ | refine w_All ?_ | refine w_List ?_ | refine w_ListT ?_ | refine w_Tuple ?_ | refine w_Join ?_ | refine w_Split ?_ | refine w_Call ?_ | refine w_DictOf ?_ | refine w_Dict0 ?_ | refine w_Dict1 ?_ | refine w_Append ?_ | refine w_Extend ?_ | refine w_PopAt ?_ | refine w_Nil ?_ | refine w_Cons ?_ | refine v_Val ?_ | refine v_And ?_ | refine v_Or ?_ | refine v_Cmp ?_ | refine v_Chain ?_ | refine v_Is ?_ | refine v_Not ?_ | refine v_Yes ?_) | ((with_reducible apply w_Var); (focus (exact rfl))) | (with_reducible first | refine wO_some (isi_I (by with_unfolding_all exact rfl)) ?_ | refine wO_some (isi_B (by with_unfolding_all exact rfl)) ?_ | refine wO_some (isi_S (by with_unfolding_all exact rfl)) ?_ | refine wO_some (isi_T (by with_unfolding_all exact rfl)) ?_ | refine wO_some (isi_L (by with_unfolding_all exact rfl)) ?_) | (first | refine ifT rfl ?_ | refine ifF rfl ?_) | (refine wO_some rfl ?_) | refine ⟨_, rfl, ?_⟩))
            refine ⟨rfl, ?_, rfl⟩
            have e := (dedup_len (xs.map nm)).2
            rw [List.length_map] at e
            show D.bl (decide _) = D.bl (decide _ && (xs.all columnB && decide _))
            rw [h3, decide_eq_true (show 1 ≤ xs.length ∧ xs.length ≤ 10 from ⟨h1, h2⟩), Bool.true_and, Bool.true_and]
            congr 1
            rw [decide_eq_decide]
            rw [← e]
            omega
    · (first | refine ifT rfl ?_ | refine ifF rfl ?_ | (refine ifT ?_ ?_; focus ((simp only [Bool.not_eq_true', Bool.not_eq_false', decide_eq_true_eq, decide_eq_false_iff_not]); omega)) | (refine ifF ?_ ?_; focus ((simp only [Bool.not_eq_true', Bool.not_eq_false', decide_eq_true_eq, decide_eq_false_iff_not]); omega)) | (refine ifT ?_ ?_; focus (simp [h2]; done)) | (refine ifF ?_ ?_; focus (simp [h2]; done)))
      (repeat (first | (with_reducible first | refine z_Seq ?_ | refine z_SetN ?_ | refine z_Set ?_ | refine z_Ret ?_ | refine z_If ?_ | refine z_Expr ?_ | refine z_Next ?_ | refine z_Par ?_ | refine z_SetIx ?_ | refine w_C ?_ | refine w_Bop ?_ | refine w_BopT ?_ | refine w_Cmp ?_ | refine w_Chain ?_ | refine w_Is ?_ | refine w_Neg ?_ | refine w_Not ?_ | refine w_And ?_ | refine w_Or ?_ | refine w_Ite ?_ | refine w_Tup ?_ | refine w_Lst ?_ | refine w_LstT ?_ | refine w_Idx ?_ | refine w_SlcNN ?_ | refine w_SlcNS ?_ | refine w_SlcSN ?_ | refine w_Rev ?_ | refine w_Isi ?_ | refine w_Len ?_ | refine w_Int ?_ | refine w_Bool ?_ | refine w_Max ?_ | refine w_All ?_ | refine w_List ?_ | refine w_ListT ?_ | refine w_Tuple ?_ | refine w_Join ?_ | refine w_Split ?_ | refine w_Call ?_ | refine w_DictOf ?_ | refine w_Dict0 ?_ | refine w_Dict1 ?_ | refine w_Append ?_ | refine w_Extend ?_ | refine w_PopAt ?_ | refine w_Nil ?_ | refine w_Cons ?_ | refine v_Val ?_ | refine v_And ?_ | refine v_Or ?_ | refine v_Cmp ?_ | refine v_Chain ?_ | refine v_Is ?_ | refine v_Not ?_ | refine v_Yes ?_) | ((with_reducible apply w_Var); (focus (exact rfl))) | (with_reducible first | refine wO_some (isi_I (by with_unfolding_all exact rfl)) ?_ | refine wO_some (isi_B (by with_unfolding_all exact rfl)) ?_ | refine wO_some (isi_S (by with_unfolding_all exact rfl)) ?_ | refine wO_some (isi_T (by with_unfolding_all exact rfl)) ?_ | refine wO_some (isi_L (by with_unfolding_all exact rfl)) ?_) | (first | refine ifT rfl ?_ | refine ifF rfl ?_) | (refine wO_some rfl ?_) | refine ⟨_, rfl, ?_⟩))
      refine ⟨rfl, ?_, rfl⟩
      show D.bl false = D.bl (decide _ && _)
      rw [decide_eq_false (fun z => h2 z.2), Bool.false_and]
  · (first | refine ifT rfl ?_ | refine ifF rfl ?_ | (refine ifT ?_ ?_; focus ((simp only [Bool.not_eq_true', Bool.not_eq_false', decide_eq_true_eq, decide_eq_false_iff_not]); omega)) | (refine ifF ?_ ?_; focus ((simp only [Bool.not_eq_true', Bool.not_eq_false', decide_eq_true_eq, decide_eq_false_iff_not]); omega)) | (refine ifT ?_ ?_; focus (simp [h1]; done)) | (refine ifF ?_ ?_; focus (simp [h1]; done)))
    (repeat (first | (with_reducible first | refine z_Seq ?_ | refine z_SetN ?_ | refine z_Set ?_ | refine z_Ret ?_ | refine z_If ?_ | refine z_Expr ?_ | refine z_Next ?_ | refine z_Par ?_ | refine z_SetIx ?_ | refine w_C ?_ | refine w_Bop ?_ | refine w_BopT ?_ | refine w_Cmp ?_ | refine w_Chain ?_ | refine w_Is ?_ | refine w_Neg ?_ | refine w_Not ?_ | refine w_And ?_ | refine w_Or ?_ | refine w_Ite ?_ | refine w_Tup ?_ | refine w_Lst ?_ | refine w_LstT ?_ | refine w_Idx ?_ | refine w_SlcNN ?_ | refine w_SlcNS ?_ | refine w_SlcSN ?_ | refine w_Rev ?_ | refine w_Isi ?_ | refine w_Len ?_ | refine w_Int ?_ | refine w_Bool ?_ | refine w_Max ?_ | refine w_All ?_ | refine w_List ?_ | refine w_ListT ?_ | refine w_Tuple ?_ | refine w_Join ?_ | refine w_Split ?_ | refine w_Call ?_ | refine w_DictOf ?_ | refine w_Dict0 ?_ | refine w_Dict1 ?_ | refine w_Append ?_ | refine w_Extend ?_ | refine w_PopAt ?_ | refine w_Nil ?_ | refine w_Cons ?_ | refine v_Val ?_ | refine v_And ?_ | refine v_Or ?_ | refine v_Cmp ?_ | refine v_Chain ?_ | refine v_Is ?_ | refine v_Not ?_ | refine v_Yes ?_) | ((with_reducible apply w_Var); (focus (exact rfl))) | (with_reducible first | refine wO_some (isi_I (by with_unfolding_all exact rfl)) ?_ | refine wO_some (isi_B (by with_unfolding_all exact rfl)) ?_ | refine wO_some (isi_S (by with_unfolding_all exact rfl)) ?_ | refine wO_some (isi_T (by with_unfolding_all exact rfl)) ?_ | refine wO_some (isi_L (by with_unfolding_all exact rfl)) ?_) | (first | refine ifT rfl ?_ | refine ifF rfl ?_) | (refine wO_some rfl ?_) | refine ⟨_, rfl, ?_⟩))
    refine ⟨rfl, ?_, rfl⟩
    show D.bl false = D.bl (decide _ && _)
    rw [decide_eq_false (fun z => h1 z.1), Bool.false_and]
theorem r_kr_is_columns {k n : Nat} {d : D} {M : Mh} (h : fit n d = true) : callAt P (k + 4) "_law_kr_is_columns" [d] M = .ok (.bl (columnsB d)) M := by
  refine eq_of_wp (wp_run0 p_kr_is_columns rfl rfl ?_)
  dsimp only [m__law_kr_is_columns, List.map, List.append, List.map_cons, List.map_nil, List.length_cons, List.length_nil, List.replicate, List.cons_append, List.nil_append, Nat.reduceSub, Nat.reduceAdd]
  cases d <;> first | (cases n <;> cases h; done) | ((repeat (first | (with_reducible first | refine z_Seq ?_ | refine z_SetN ?_ | refine z_Set ?_ | refine z_Ret ?_ | refine z_If ?_ | refine z_Expr ?_ | refine z_Next ?_ | refine z_Par ?_ | refine z_SetIx ?_ | refine w_C ?_ | refine w_Bop ?_ | refine w_BopT ?_ | refine w_Cmp ?_ | refine w_Chain ?_ | refine w_Is ?_ | refine w_Neg ?_ | refine w_Not ?_ | refine w_And ?_ | refine w_Or ?_ | refine w_Ite ?_ | refine w_Tup ?_ | refine w_Lst ?_ | refine w_LstT ?_ | refine w_Idx ?_ | refine w_SlcNN ?_ | refine w_SlcNS ?_ | refine w_SlcSN ?_ | refine w_Rev ?_ | refine w_Isi ?_ | refine w_Len ?_ | refine w_Int ?_ | refine w_Bool ?_ | refine w_Max ?_ | refine w_All ?_ | refine w_List ?_ | refine w_ListT ?_ | refine w_Tuple ?_ | refine w_Join ?_ | refine w_Split ?_ | refine w_Call ?_ | refine w_DictOf ?_ | refine w_Dict0 ?_ | refine w_Dict1 ?_ | refine w_Append ?_ | refine w_Extend ?_ | refine w_PopAt ?_ | refine w_Nil ?_ | refine w_Cons ?_ | refine v_Val ?_ | refine v_And ?_ | refine v_Or ?_ | refine v_Cmp ?_ | refine v_Chain ?_ | refine v_Is ?_ | refine v_Not ?_ | refine v_Yes ?_) | ((with_reducible apply w_Var); (focus (exact rfl))) | (with_reducible first | refine wO_some (isi_I (by with_unfolding_all exact rfl)) ?_ | refine wO_some (isi_B (by with_unfolding_all exact rfl)) ?_ | refine wO_some (isi_S (by with_unfolding_all exact rfl)) ?_ | refine wO_some (isi_T (by with_unfolding_all exact rfl)) ?_ | refine wO_some (isi_L (by with_unfolding_all exact rfl)) ?_) | (first | refine ifT rfl ?_ | refine ifF rfl ?_) | (refine wO_some rfl ?_) | refine ⟨_, rfl, ?_⟩)); exact ⟨rfl, rfl, rfl⟩) | skip
  rename_i xs
  cases n with
  | zero => cases h
  | succ n =>
  have hx := fit_lst.mp h
  (repeat (first | (with_reducible first | refine z_Seq ?_ | refine z_SetN ?_ | refine z_Set ?_ | refine z_Ret ?_ | refine z_If ?_ | refine z_Expr ?_ | refine z_Next ?_ | refine z_Par ?_ | refine z_SetIx ?_ | refine w_C ?_ | refine w_Bop ?_ | refine w_BopT ?_ | refine w_Cmp ?_ | refine w_Chain ?_ | refine w_Is ?_ | refine w_Neg ?_ | refine w_Not ?_ | refine w_And ?_ | refine w_Or ?_ | refine w_Ite ?_ | refine w_Tup ?_ | refine w_Lst ?_ | refine w_LstT ?_ | refine w_Idx ?_ | refine w_SlcNN ?_ | refine w_SlcNS ?_ | refine w_SlcSN ?_ | refine w_Rev ?_ | refine w_Isi ?_ | refine w_Len ?_ | refine w_Int ?_ | refine w_Bool ?_ | refine w_Max ?_ | refine w_All ?_ | refine w_List ?_ | refine w_ListT ?_ | refine w_Tuple ?_ | refine w_Join ?_ | refine w_Split ?_ | refine w_Call ?_ | refine w_DictOf ?_ | refine w_Dict0 ?_ | refine w_Dict1 ?_ | refine w_Append ?_ | refine w_Extend ?_ | refine w_PopAt ?_ | refine w_Nil ?_ | refine w_Cons ?_ | refine v_Val ?_ | refine v_And ?_ | refine v_Or ?_ | refine v_Cmp ?_ | refine v_Chain ?_ | refine v_Is ?_ | refine v_Not ?_ | refine v_Yes ?_) | ((with_reducible apply w_Var); (focus (exact rfl))) | (with_reducible first | refine wO_some (isi_I (by with_unfolding_all exact rfl)) ?_ | refine wO_some (isi_B (by with_unfolding_all exact rfl)) ?_ | refine wO_some (isi_S (by with_unfolding_all exact rfl)) ?_ | refine wO_some (isi_T (by with_unfolding_all exact rfl)) ?_ | refine wO_some (isi_L (by with_unfolding_all exact rfl)) ?_) | (first | refine ifT rfl ?_ | refine ifF rfl ?_) | (refine wO_some rfl ?_) | refine ⟨_, rfl, ?_⟩))
  by_cases h1 : 1 ≤ xs.length
  · (first | refine ifT rfl ?_ | refine ifF rfl ?_ | (refine ifT ?_ ?_; focus ((simp only [Bool.not_eq_true', Bool.not_eq_false', decide_eq_true_eq, decide_eq_false_iff_not]); omega)) | (refine ifF ?_ ?_; focus ((simp only [Bool.not_eq_true', Bool.not_eq_false', decide_eq_true_eq, decide_eq_false_iff_not]); omega)) | (refine ifT ?_ ?_; focus (simp [h1]; done)) | (refine ifF ?_ ?_; focus (simp [h1]; done)))
    (repeat (first | (with_reducible first | refine z_Seq ?_ | refine z_SetN ?_ | refine z_Set ?_ | refine z_Ret ?_ | refine z_If ?_ | refine z_Expr ?_ | refine z_Next ?_ | refine z_Par ?_ | refine z_SetIx ?_ | refine w_C ?_ | refine w_Bop ?_ | refine w_BopT ?_ | refine w_Cmp ?_ | refine w_Chain ?_ | refine w_Is ?_ | refine w_Neg ?_ | refine w_Not ?_ | refine w_And ?_ | refine w_Or ?_ | refine w_Ite ?_ | refine w_Tup ?_ | refine w_Lst ?_ | refine w_LstT ?_ | refine w_Idx ?_ | refine w_SlcNN ?_ | refine w_SlcNS ?_ | refine w_SlcSN ?_ | refine w_Rev ?_ | refine w_Isi ?_ | refine w_Len ?_ | refine w_Int ?_ | refine w_Bool ?_ | refine w_Max ?_ | refine w_All ?_ | refine w_List ?_ | refine w_ListT ?_ | refine w_Tuple ?_ | refine w_Join ?_ | refine w_Split ?_ | refine w_Call ?_ | refine w_DictOf ?_ | refine w_Dict0 ?_ | refine w_Dict1 ?_ | refine w_Append ?_ | refine w_Extend ?_ | refine w_PopAt ?_ | refine w_Nil ?_ | refine w_Cons ?_ | refine v_Val ?_ | refine v_And ?_ | refine v_Or ?_ | refine v_Cmp ?_ | refine v_Chain ?_ | refine v_Is ?_ | refine v_Not ?_ | refine v_Yes ?_) | ((with_reducible apply w_Var); (focus (exact rfl))) | (with_reducible first | refine wO_some (isi_I (by with_unfolding_all exact rfl)) ?_ | refine wO_some (isi_B (by with_unfolding_all exact rfl)) ?_ | refine wO_some (isi_S (by with_unfolding_all exact rfl)) ?_ | refine wO_some (isi_T (by with_unfolding_all exact rfl)) ?_ | refine wO_some (isi_L (by with_unfolding_all exact rfl)) ?_) | (first | refine ifT rfl ?_ | refine ifF rfl ?_) | (refine wO_some rfl ?_) | refine ⟨_, rfl, ?_⟩))
    by_cases h2 : xs.length ≤ 10
    · have hl : xs.length ≤ line := by show xs.length ≤ 16777216; omega
      (first | refine ifT rfl ?_ | refine ifF rfl ?_ | (refine ifT ?_ ?_; focus ((simp only [Bool.not_eq_true', Bool.not_eq_false', decide_eq_true_eq, decide_eq_false_iff_not]); omega)) | (refine ifF ?_ ?_; focus ((simp only [Bool.not_eq_true', Bool.not_eq_false', decide_eq_true_eq, decide_eq_false_iff_not]); omega)) | (refine ifT ?_ ?_; focus (simp [h2]; done)) | (refine ifF ?_ ?_; focus (simp [h2]; done)))
      refine z_Next (z_Seq (z_If (v_Cmp (w_LcP (i_Val (w_Var rfl (wO_some rfl ?_)))))))
      refine ⟨_, fun d => if columnB d = true then none else some d, rfl, hl, fun d hd => ?_, ?_⟩
      · refine turn_not (by simp) ?_
        rw [cfl_call]
        exact r_kr_is_column (hx.1 d hd)
      · refine w_Lst (w_Nil ⟨Nat.zero_le _, ?_⟩)
        have e3 : (List.filterMap (fun d : D => if columnB d = true then none else some d) xs).isEmpty = xs.all columnB := by
          clear h hx h1 h2 hl
          induction xs with
          | nil => rfl
          | cons a l ih =>
            cases ha : columnB a with
            | true =>
              rw [List.filterMap_cons_none (by rw [ha]; rfl), List.all_cons, ha, Bool.true_and]
              exact ih
            | false =>
              rw [List.filterMap_cons_some (by rw [ha]; rfl), List.all_cons, ha, Bool.false_and]
              rfl
        have e4 : cmp .ne (view M (.lst (List.filterMap (fun d : D => if columnB d = true then none else some d) xs))) (view M (.lst [])) = some (!xs.all columnB) := by
          rw [← e3]
          generalize (List.filterMap (fun d : D => if columnB d = true then none else some d) xs) = l
          cases l <;> rfl
        refine wO_some e4 ?_
        cases h3 : xs.all columnB with
        | false =>
          (repeat (first | (with_reducible first | refine z_Seq ?_ | refine z_SetN ?_ | refine z_Set ?_ | refine z_Ret ?_ | refine z_If ?_ | refine z_Expr ?_ | refine z_Next ?_ | refine z_Par ?_ | refine z_SetIx ?_ | refine w_C ?_ | refine w_Bop ?_ | refine w_BopT ?_ | refine w_Cmp ?_ | refine w_Chain ?_ | refine w_Is ?_ | refine w_Neg ?_ | refine w_Not ?_ | refine w_And ?_ | refine w_Or ?_ | refine w_Ite ?_ | refine w_Tup ?_ | refine w_Lst ?_ | refine w_LstT ?_ | refine w_Idx ?_ | refine w_SlcNN ?_ | refine w_SlcNS ?_ | refine w_SlcSN ?_ | refine w_Rev ?_ | refine w_Isi ?_ | refine w_Len ?_ | refine w_Int ?_ | refine w_Bool ?_ | refine w_Max ?_ | refine w_All ?_ | refine w_List ?_ | refine w_ListT ?_ | refine w_Tuple ?_ | refine w_Join ?_ | refine w_Split ?_ | refine w_Call ?_ | refine w_DictOf ?_ | refine w_Dict0 ?_ | refine w_Dict1 ?_ | refine w_Append ?_ | refine w_Extend ?_ | refine w_PopAt ?_ | refine w_Nil ?_ | refine w_Cons ?_ | refine v_Val ?_ | refine v_And ?_ | refine v_Or ?_ | refine v_Cmp ?_ | refine v_Chain ?_ | refine v_Is ?_ | refine v_Not ?_ | refine v_Yes ?_) | ((with_reducible apply w_Var); (focus (exact rfl))) | (with_reducible first | refine wO_some (isi_I (by with_unfolding_all exact rfl)) ?_ | refine wO_some (isi_B (by with_unfolding_all exact rfl)) ?_ | refine wO_some (isi_S (by with_unfolding_all exact rfl)) ?_ | refine wO_some (isi_T (by with_unfolding_all exact rfl)) ?_ | refine wO_some (isi_L (by with_unfolding_all exact rfl)) ?_) | (first | refine ifT rfl ?_ | refine ifF rfl ?_) | (refine wO_some rfl ?_) | refine ⟨_, rfl, ?_⟩))
          refine ⟨rfl, ?_, rfl⟩
          show D.bl false = D.bl (_ && (xs.all columnB && _))
          rw [h3, Bool.false_and, Bool.and_false]
        | true =>
          (first | refine ifT rfl ?_ | refine ifF rfl ?_ | (refine ifT ?_ ?_; focus ((simp only [Bool.not_eq_true', Bool.not_eq_false', decide_eq_true_eq, decide_eq_false_iff_not]); omega)) | (refine ifF ?_ ?_; focus ((simp only [Bool.not_eq_true', Bool.not_eq_false', decide_eq_true_eq, decide_eq_false_iff_not]); omega)) | (refine ifT ?_ ?_; focus (simp []; done)) | (refine ifF ?_ ?_; focus (simp []; done)))
          refine z_Next (z_Seq (z_SetN (w_LcP (i_Val (w_Var rfl (wO_some rfl ?_))))))
          refine ⟨_, fun d => match d with
            | .tup [a, b] => some a
            | _ => none, rfl, hl, fun d hd => ?_, ?_⟩
          · obtain ⟨s, b, rfl, _⟩ := column_ex (List.all_eq_true.mp h3 d hd)
            rfl
          · rw [names_of (α := D) h3 _ fun s b => rfl]
            have hn : (xs.map nm).length = xs.length := List.length_map _
            generalize ez : xs.map nm = zs at hn ⊢
            have ez := ez.symm
            refine z_Ret (w_Cmp (w_LcP (i_Range ?_)))
            (repeat (first | (with_reducible first | refine z_Seq ?_ | refine z_SetN ?_ | refine z_Set ?_ | refine z_Ret ?_ | refine z_If ?_ | refine z_Expr ?_ | refine z_Next ?_ | refine z_Par ?_ | refine z_SetIx ?_ | refine w_C ?_ | refine w_Bop ?_ | refine w_BopT ?_ | refine w_Cmp ?_ | refine w_Chain ?_ | refine w_Is ?_ | refine w_Neg ?_ | refine w_Not ?_ | refine w_And ?_ | refine w_Or ?_ | refine w_Ite ?_ | refine w_Tup ?_ | refine w_Lst ?_ | refine w_LstT ?_ | refine w_Idx ?_ | refine w_SlcNN ?_ | refine w_SlcNS ?_ | refine w_SlcSN ?_ | refine w_Rev ?_ | refine w_Isi ?_ | refine w_Len ?_ | refine w_Int ?_ | refine w_Bool ?_ | refine w_Max ?_ | refine w_All ?_ | refine w_List ?_ | refine w_ListT ?_ | refine w_Tuple ?_ | refine w_Join ?_ | refine w_Split ?_ | refine w_Call ?_ | refine w_DictOf ?_ | refine w_Dict0 ?_ | refine w_Dict1 ?_ | refine w_Append ?_ | refine w_Extend ?_ | refine w_PopAt ?_ | refine w_Nil ?_ | refine w_Cons ?_ | refine v_Val ?_ | refine v_And ?_ | refine v_Or ?_ | refine v_Cmp ?_ | refine v_Chain ?_ | refine v_Is ?_ | refine v_Not ?_ | refine v_Yes ?_) | ((with_reducible apply w_Var); (focus (exact rfl))) | (with_reducible first | refine wO_some (isi_I (by with_unfolding_all exact rfl)) ?_ | refine wO_some (isi_B (by with_unfolding_all exact rfl)) ?_ | refine wO_some (isi_S (by with_unfolding_all exact rfl)) ?_ | refine wO_some (isi_T (by with_unfolding_all exact rfl)) ?_ | refine wO_some (isi_L (by with_unfolding_all exact rfl)) ?_) | (first | refine ifT rfl ?_ | refine ifF rfl ?_) | (refine wO_some rfl ?_) | refine ⟨_, rfl, ?_⟩))
            refine ⟨by rw [List.length_map]; omega, _, fun d => match d with
              | .int i => (zs[i.toNat]?).bind fun z => if z ∈ zs.take i.toNat then some d else none
              | _ => none, rfl, by rw [nums_len, List.length_map]; show zs.length ≤ 16777216; omega, fun d hd => ?_, ?_⟩
            · obtain ⟨i, hi0⟩ := List.mem_iff_getElem?.mp hd
              obtain ⟨hi, rfl⟩ := nums_get hi0
              clear hi0
              rw [List.length_map] at hi
              have e1 : atI (zs.map D.str) (i : Int) = some (.str zs[i]) := atI_at (by rw [List.getElem?_map, List.getElem?_eq_getElem hi]; rfl)
              have e2 : slcD none (some (i : Int)) (view M (.lst (zs.map D.str))) = some (.lst ((zs.take i).map D.str)) := by
                show some (D.lst (cut _ _ _)) = _
                rw [cut_lo, List.map_take]
              refine eqR (wp_turn ?_)
              (refine wO_some rfl ?_)
              (repeat (first | (with_reducible first | refine z_Seq ?_ | refine z_SetN ?_ | refine z_Set ?_ | refine z_Ret ?_ | refine z_If ?_ | refine z_Expr ?_ | refine z_Next ?_ | refine z_Par ?_ | refine z_SetIx ?_ | refine w_C ?_ | refine w_Bop ?_ | refine w_BopT ?_ | refine w_Cmp ?_ | refine w_Chain ?_ | refine w_Is ?_ | refine w_Neg ?_ | refine w_Not ?_ | refine w_And ?_ | refine w_Or ?_ | refine w_Ite ?_ | refine w_Tup ?_ | refine w_Lst ?_ | refine w_LstT ?_ | refine w_Idx ?_ | refine w_SlcNN ?_ | refine w_SlcNS ?_ | refine w_SlcSN ?_ | refine w_Rev ?_ | refine w_Isi ?_ | refine w_Len ?_ | refine w_Int ?_ | refine w_Bool ?_ | refine w_Max ?_ | refine w_All ?_ | refine w_List ?_ | refine w_ListT ?_ | refine w_Tuple ?_ | refine w_Join ?_ | refine w_Split ?_ | refine w_Call ?_ | refine w_DictOf ?_ | refine w_Dict0 ?_ | refine w_Dict1 ?_ | refine w_Append ?_ | refine w_Extend ?_ | refine w_PopAt ?_ | refine w_Nil ?_ | refine w_Cons ?_ | refine v_Val ?_ | refine v_And ?_ | refine v_Or ?_ | refine v_Cmp ?_ | refine v_Chain ?_ | refine v_Is ?_ | refine v_Not ?_ | refine v_Yes ?_) | ((with_reducible apply w_Var); (focus (exact rfl)))))
              refine wO_some e1 ?_
              (repeat (first | (with_reducible first | refine z_Seq ?_ | refine z_SetN ?_ | refine z_Set ?_ | refine z_Ret ?_ | refine z_If ?_ | refine z_Expr ?_ | refine z_Next ?_ | refine z_Par ?_ | refine z_SetIx ?_ | refine w_C ?_ | refine w_Bop ?_ | refine w_BopT ?_ | refine w_Cmp ?_ | refine w_Chain ?_ | refine w_Is ?_ | refine w_Neg ?_ | refine w_Not ?_ | refine w_And ?_ | refine w_Or ?_ | refine w_Ite ?_ | refine w_Tup ?_ | refine w_Lst ?_ | refine w_LstT ?_ | refine w_Idx ?_ | refine w_SlcNN ?_ | refine w_SlcNS ?_ | refine w_SlcSN ?_ | refine w_Rev ?_ | refine w_Isi ?_ | refine w_Len ?_ | refine w_Int ?_ | refine w_Bool ?_ | refine w_Max ?_ | refine w_All ?_ | refine w_List ?_ | refine w_ListT ?_ | refine w_Tuple ?_ | refine w_Join ?_ | refine w_Split ?_ | refine w_Call ?_ | refine w_DictOf ?_ | refine w_Dict0 ?_ | refine w_Dict1 ?_ | refine w_Append ?_ | refine w_Extend ?_ | refine w_PopAt ?_ | refine w_Nil ?_ | refine w_Cons ?_ | refine v_Val ?_ | refine v_And ?_ | refine v_Or ?_ | refine v_Cmp ?_ | refine v_Chain ?_ | refine v_Is ?_ | refine v_Not ?_ | refine v_Yes ?_) | ((with_reducible apply w_Var); (focus (exact rfl)))))
              refine ⟨_, rfl, wO_some e2 ?_⟩
              refine wO_some in_strs ⟨fun e => ?_, fun e => ?_⟩
              · have e := of_decide_eq_true e
                (repeat (first | (with_reducible first | refine z_Seq ?_ | refine z_SetN ?_ | refine z_Set ?_ | refine z_Ret ?_ | refine z_If ?_ | refine z_Expr ?_ | refine z_Next ?_ | refine z_Par ?_ | refine z_SetIx ?_ | refine w_C ?_ | refine w_Bop ?_ | refine w_BopT ?_ | refine w_Cmp ?_ | refine w_Chain ?_ | refine w_Is ?_ | refine w_Neg ?_ | refine w_Not ?_ | refine w_And ?_ | refine w_Or ?_ | refine w_Ite ?_ | refine w_Tup ?_ | refine w_Lst ?_ | refine w_LstT ?_ | refine w_Idx ?_ | refine w_SlcNN ?_ | refine w_SlcNS ?_ | refine w_SlcSN ?_ | refine w_Rev ?_ | refine w_Isi ?_ | refine w_Len ?_ | refine w_Int ?_ | refine w_Bool ?_ | refine w_Max ?_ | refine w_All ?_ | refine w_List ?_ | refine w_ListT ?_ | refine w_Tuple ?_ | refine w_Join ?_ | refine w_Split ?_ | refine w_Call ?_ | refine w_DictOf ?_ | refine w_Dict0 ?_ | refine w_Dict1 ?_ | refine w_Append ?_ | refine w_Extend ?_ | refine w_PopAt ?_ | refine w_Nil ?_ | refine w_Cons ?_ | refine v_Val ?_ | refine v_And ?_ | refine v_Or ?_ | refine v_Cmp ?_ | refine v_Chain ?_ | refine v_Is ?_ | refine v_Not ?_ | refine v_Yes ?_) | ((with_reducible apply w_Var); (focus (exact rfl)))))
                refine ⟨?_, rfl⟩
                show _ = (zs[i]?).bind _
                rw [List.getElem?_eq_getElem hi]
                exact (if_pos e).symm
              · have e := of_decide_eq_false e
                refine ⟨?_, rfl⟩
                show _ = (zs[i]?).bind _
                rw [List.getElem?_eq_getElem hi]
                exact (if_neg e).symm
            · (repeat (first | (with_reducible first | refine z_Seq ?_ | refine z_SetN ?_ | refine z_Set ?_ | refine z_Ret ?_ | refine z_If ?_ | refine z_Expr ?_ | refine z_Next ?_ | refine z_Par ?_ | refine z_SetIx ?_ | refine w_C ?_ | refine w_Bop ?_ | refine w_BopT ?_ | refine w_Cmp ?_ | refine w_Chain ?_ | refine w_Is ?_ | refine w_Neg ?_ | refine w_Not ?_ | refine w_And ?_ | refine w_Or ?_ | refine w_Ite ?_ | refine w_Tup ?_ | refine w_Lst ?_ | refine w_LstT ?_ | refine w_Idx ?_ | refine w_SlcNN ?_ | refine w_SlcNS ?_ | refine w_SlcSN ?_ | refine w_Rev ?_ | refine w_Isi ?_ | refine w_Len ?_ | refine w_Int ?_ | refine w_Bool ?_ | refine w_Max ?_ | refine w_All ?_ | refine w_List ?_ | refine w_ListT ?_ | refine w_Tuple ?_ | refine w_Join ?_ | refine w_Split ?_ | refine w_Call ?_ | refine w_DictOf ?_ | refine w_Dict0 ?_ | refine w_Dict1 ?_ | refine w_Append ?_ | refine w_Extend ?_ | refine w_PopAt ?_ | refine w_Nil ?_ | refine w_Cons ?_ | refine v_Val ?_ | refine v_And ?_ | refine v_Or ?_ | refine v_Cmp ?_ | refine v_Chain ?_ | refine v_Is ?_ | refine v_Not ?_ | refine v_Yes ?_) | ((with_reducible apply w_Var); (focus (exact rfl))) | (with_reducible first | refine wO_some (isi_I (by with_unfolding_all exact rfl)) ?_ | refine wO_some (isi_B (by with_unfolding_all exact rfl)) ?_ | refine wO_some (isi_S (by with_unfolding_all exact rfl)) ?_ | refine wO_some (isi_T (by with_unfolding_all exact rfl)) ?_ | refine wO_some (isi_L (by with_unfolding_all exact rfl)) ?_) | (first | refine ifT rfl ?_ | refine ifF rfl ?_) | (refine wO_some rfl ?_) | refine ⟨_, rfl, ?_⟩))
              refine ⟨Nat.zero_le _, ?_⟩
              generalize hfm : List.filterMap _ _ = fm
              have e6 : fm.isEmpty = true ↔ zs.Nodup := by
                rw [← hfm, List.isEmpty_iff, List.filterMap_eq_nil_iff, nodup_take]
                constructor
                · intro q i z hz hm
                  have hi := (List.getElem?_eq_some_iff.mp hz).1
                  have q := q (.int i) (List.mem_iff_getElem?.mpr ⟨i, by
                    unfold nums
                    rw [List.getElem?_map, List.getElem?_range (by rw [List.length_map]; exact hi)]
                    rfl⟩)
                  have q : (zs[i]?).bind (fun z => if z ∈ zs.take i then some (D.int i) else none) = none := q
                  rw [hz] at q
                  have q : (if z ∈ zs.take i then some (D.int i) else none) = none := q
                  rw [if_pos hm] at q
                  cases q
                · intro q d hd
                  obtain ⟨i, hi0⟩ := List.mem_iff_getElem?.mp hd
                  obtain ⟨hi, rfl⟩ := nums_get hi0
                  rw [List.length_map] at hi
                  show (zs[i]?).bind _ = none
                  rw [List.getElem?_eq_getElem hi]
                  exact if_neg (q i _ (List.getElem?_eq_getElem hi))
              have e5 : fm.isEmpty = decide zs.Nodup := by
                rw [Bool.eq_iff_iff, decide_eq_true_eq]
                exact e6
              refine wO_some (a := fm.isEmpty) (by cases fm <;> rfl) ⟨rfl, ?_, rfl⟩
              rw [e5, ez]
              show D.bl _ = D.bl (decide _ && (xs.all columnB && _))
              rw [h3, decide_eq_true (show 1 ≤ xs.length ∧ xs.length ≤ 10 from ⟨h1, h2⟩), Bool.true_and, Bool.true_and]
    · (first | refine ifT rfl ?_ | refine ifF rfl ?_ | (refine ifT ?_ ?_; focus ((simp only [Bool.not_eq_true', Bool.not_eq_false', decide_eq_true_eq, decide_eq_false_iff_not]); omega)) | (refine ifF ?_ ?_; focus ((simp only [Bool.not_eq_true', Bool.not_eq_false', decide_eq_true_eq, decide_eq_false_iff_not]); omega)) | (refine ifT ?_ ?_; focus (simp [h2]; done)) | (refine ifF ?_ ?_; focus (simp [h2]; done)))
      (repeat (first | (with_reducible first | refine z_Seq ?_ | refine z_SetN ?_ | refine z_Set ?_ | refine z_Ret ?_ | refine z_If ?_ | refine z_Expr ?_ | refine z_Next ?_ | refine z_Par ?_ | refine z_SetIx ?_ | refine w_C ?_ | refine w_Bop ?_ | refine w_BopT ?_ | refine w_Cmp ?_ | refine w_Chain ?_ | refine w_Is ?_ | refine w_Neg ?_ | refine w_Not ?_ | refine w_And ?_ | refine w_Or ?_ | refine w_Ite ?_ | refine w_Tup ?_ | refine w_Lst ?_ | refine w_LstT ?_ | refine w_Idx ?_ | refine w_SlcNN ?_ | refine w_SlcNS ?_ | refine w_SlcSN ?_ | refine w_Rev ?_ | refine w_Isi ?_ | refine w_Len ?_ | refine w_Int ?_ | refine w_Bool ?_ | refine w_Max ?_ | refine w_All ?_ | refine w_List ?_ | refine w_ListT ?_ | refine w_Tuple ?_ | refine w_Join ?_ | refine w_Split ?_ | refine w_Call ?_ | refine w_DictOf ?_ | refine w_Dict0 ?_ | refine w_Dict1 ?_ | refine w_Append ?_ | refine w_Extend ?_ | refine w_PopAt ?_ | refine w_Nil ?_ | refine w_Cons ?_ | refine v_Val ?_ | refine v_And ?_ | refine v_Or ?_ | refine v_Cmp ?_ | refine v_Chain ?_ | refine v_Is ?_ | refine v_Not ?_ | refine v_Yes ?_) | ((with_reducible apply w_Var); (focus (exact rfl))) | (with_reducible first | refine wO_some (isi_I (by with_unfolding_all exact rfl)) ?_ | refine wO_some (isi_B (by with_unfolding_all exact rfl)) ?_ | refine wO_some (isi_S (by with_unfolding_all exact rfl)) ?_ | refine wO_some (isi_T (by with_unfolding_all exact rfl)) ?_ | refine wO_some (isi_L (by with_unfolding_all exact rfl)) ?_) | (first | refine ifT rfl ?_ | refine ifF rfl ?_) | (refine wO_some rfl ?_) | refine ⟨_, rfl, ?_⟩))
      refine ⟨rfl, ?_, rfl⟩
      show D.bl false = D.bl (decide _ && _)
      rw [decide_eq_false (fun z => h2 z.2), Bool.false_and]
  · (first | refine ifT rfl ?_ | refine ifF rfl ?_ | (refine ifT ?_ ?_; focus ((simp only [Bool.not_eq_true', Bool.not_eq_false', decide_eq_true_eq, decide_eq_false_iff_not]); omega)) | (refine ifF ?_ ?_; focus ((simp only [Bool.not_eq_true', Bool.not_eq_false', decide_eq_true_eq, decide_eq_false_iff_not]); omega)) | (refine ifT ?_ ?_; focus (simp [h1]; done)) | (refine ifF ?_ ?_; focus (simp [h1]; done)))
    (repeat (first | (with_reducible first | refine z_Seq ?_ | refine z_SetN ?_ | refine z_Set ?_ | refine z_Ret ?_ | refine z_If ?_ | refine z_Expr ?_ | refine z_Next ?_ | refine z_Par ?_ | refine z_SetIx ?_ | refine w_C ?_ | refine w_Bop ?_ | refine w_BopT ?_ | refine w_Cmp ?_ | refine w_Chain ?_ | refine w_Is ?_ | refine w_Neg ?_ | refine w_Not ?_ | refine w_And ?_ | refine w_Or ?_ | refine w_Ite ?_ | refine w_Tup ?_ | refine w_Lst ?_ | refine w_LstT ?_ | refine w_Idx ?_ | refine w_SlcNN ?_ | refine w_SlcNS ?_ | refine w_SlcSN ?_ | refine w_Rev ?_ | refine w_Isi ?_ | refine w_Len ?_ | refine w_Int ?_ | refine w_Bool ?_ | refine w_Max ?_ | refine w_All ?_ | refine w_List ?_ | refine w_ListT ?_ | refine w_Tuple ?_ | refine w_Join ?_ | refine w_Split ?_ | refine w_Call ?_ | refine w_DictOf ?_ | refine w_Dict0 ?_ | refine w_Dict1 ?_ | refine w_Append ?_ | refine w_Extend ?_ | refine w_PopAt ?_ | refine w_Nil ?_ | refine w_Cons ?_ | refine v_Val ?_ | refine v_And ?_ | refine v_Or ?_ | refine v_Cmp ?_ | refine v_Chain ?_ | refine v_Is ?_ | refine v_Not ?_ | refine v_Yes ?_) | ((with_reducible apply w_Var); (focus (exact rfl))) | (with_reducible first | refine wO_some (isi_I (by with_unfolding_all exact rfl)) ?_ | refine wO_some (isi_B (by with_unfolding_all exact rfl)) ?_ | refine wO_some (isi_S (by with_unfolding_all exact rfl)) ?_ | refine wO_some (isi_T (by with_unfolding_all exact rfl)) ?_ | refine wO_some (isi_L (by with_unfolding_all exact rfl)) ?_) | (first | refine ifT rfl ?_ | refine ifF rfl ?_) | (refine wO_some rfl ?_) | refine ⟨_, rfl, ?_⟩))
    refine ⟨rfl, ?_, rfl⟩
    show D.bl false = D.bl (decide _ && _)
    rw [decide_eq_false (fun z => h1 z.1), Bool.false_and]
end MP.K01

set_option Elab.async false
set_option linter.all false
set_option maxRecDepth 100000
set_option maxHeartbeats 4000000
/-! k01: rows judged; hearing. -/
namespace MP.K01
open PySem PySem.Spec PyProof.Rows L2 MP
def numS : Str := "number"
def txtS : Str := "text"
def colD (p : Str × Str) : D := .tup [.str p.1, .str p.2]
def okC (p : Str × Str) : Prop := p.2 = numS ∨ p.2 = txtS
def ofK (k : Str) (d : D) : Bool := if k = numS then isI d else textB d
def rowL (xs : List D) (cs : List (Str × Str)) : Bool := decide (xs.length = cs.length) && (xs.zip cs).all fun q => ofK q.2.2 q.1
def rowB (d : D) (cs : List (Str × Str)) : Bool := match d with
  | .tup xs => rowL xs cs
  | _ => false
def kindOf (d : D) : Str := if tyS d = true then txtS else numS
theorem r_kind_of {k n : Nat} {d : D} {M : Mh} (h : fit n d = true) : callAt P (k + 1) "kind_of" [d] M = .ok (.str (kindOf d)) M := by
  refine eq_of_wp (wp_run0 p_kind_of rfl rfl ?_)
  dsimp only [m_kind_of, List.map, List.append, List.map_cons, List.map_nil, List.length_cons, List.length_nil, List.replicate, List.cons_append, List.nil_append, Nat.reduceSub, Nat.reduceAdd]
  (repeat (first | (with_reducible first | refine z_Seq ?_ | refine z_SetN ?_ | refine z_Set ?_ | refine z_Ret ?_ | refine z_If ?_ | refine z_Expr ?_ | refine z_Next ?_ | refine z_Par ?_ | refine z_SetIx ?_ | refine w_C ?_ | refine w_Bop ?_ | refine w_BopT ?_ | refine w_Cmp ?_ | refine w_Chain ?_ | refine w_Is ?_ | refine w_Neg ?_ | refine w_Not ?_ | refine w_And ?_ | refine w_Or ?_ | refine w_Ite ?_ | refine w_Tup ?_ | refine w_Lst ?_ | refine w_LstT ?_ | refine w_Idx ?_ | refine w_SlcNN ?_ | refine w_SlcNS ?_ | refine w_SlcSN ?_ | refine w_Rev ?_ | refine w_Isi ?_ | refine w_Len ?_ | refine w_Int ?_ | refine w_Bool ?_ | refine w_Max ?_ | refine w_All ?_ | refine w_List ?_ | refine w_ListT ?_ | refine w_Tuple ?_ | refine w_Join ?_ | refine w_Split ?_ | refine w_Call ?_ | refine w_DictOf ?_ | refine w_Dict0 ?_ | refine w_Dict1 ?_ | refine w_Append ?_ | refine w_Extend ?_ | refine w_PopAt ?_ | refine w_Nil ?_ | refine w_Cons ?_ | refine v_Val ?_ | refine v_And ?_ | refine v_Or ?_ | refine v_Cmp ?_ | refine v_Chain ?_ | refine v_Is ?_ | refine v_Not ?_ | refine v_Yes ?_) | ((with_reducible apply w_Var); (focus (exact rfl)))))
  rw [view_val (fit_val h)]
  refine wO_some (isi_S (fit_val h)) (wO_some rfl ⟨fun e => ?_, fun e => ?_⟩)
  · (repeat (first | (with_reducible first | refine z_Seq ?_ | refine z_SetN ?_ | refine z_Set ?_ | refine z_Ret ?_ | refine z_If ?_ | refine z_Expr ?_ | refine z_Next ?_ | refine z_Par ?_ | refine z_SetIx ?_ | refine w_C ?_ | refine w_Bop ?_ | refine w_BopT ?_ | refine w_Cmp ?_ | refine w_Chain ?_ | refine w_Is ?_ | refine w_Neg ?_ | refine w_Not ?_ | refine w_And ?_ | refine w_Or ?_ | refine w_Ite ?_ | refine w_Tup ?_ | refine w_Lst ?_ | refine w_LstT ?_ | refine w_Idx ?_ | refine w_SlcNN ?_ | refine w_SlcNS ?_ | refine w_SlcSN ?_ | refine w_Rev ?_ | refine w_Isi ?_ | refine w_Len ?_ | refine w_Int ?_ | refine w_Bool ?_ | refine w_Max ?_ | refine w_All ?_ | refine w_List ?_ | refine w_ListT ?_ | refine w_Tuple ?_ | refine w_Join ?_ | refine w_Split ?_ | refine w_Call ?_ | refine w_DictOf ?_ | refine w_Dict0 ?_ | refine w_Dict1 ?_ | refine w_Append ?_ | refine w_Extend ?_ | refine w_PopAt ?_ | refine w_Nil ?_ | refine w_Cons ?_ | refine v_Val ?_ | refine v_And ?_ | refine v_Or ?_ | refine v_Cmp ?_ | refine v_Chain ?_ | refine v_Is ?_ | refine v_Not ?_ | refine v_Yes ?_) | ((with_reducible apply w_Var); (focus (exact rfl)))))
    refine ⟨rfl, ?_, rfl⟩
    unfold kindOf
    rw [if_pos e]
    rfl
  · (repeat (first | (with_reducible first | refine z_Seq ?_ | refine z_SetN ?_ | refine z_Set ?_ | refine z_Ret ?_ | refine z_If ?_ | refine z_Expr ?_ | refine z_Next ?_ | refine z_Par ?_ | refine z_SetIx ?_ | refine w_C ?_ | refine w_Bop ?_ | refine w_BopT ?_ | refine w_Cmp ?_ | refine w_Chain ?_ | refine w_Is ?_ | refine w_Neg ?_ | refine w_Not ?_ | refine w_And ?_ | refine w_Or ?_ | refine w_Ite ?_ | refine w_Tup ?_ | refine w_Lst ?_ | refine w_LstT ?_ | refine w_Idx ?_ | refine w_SlcNN ?_ | refine w_SlcNS ?_ | refine w_SlcSN ?_ | refine w_Rev ?_ | refine w_Isi ?_ | refine w_Len ?_ | refine w_Int ?_ | refine w_Bool ?_ | refine w_Max ?_ | refine w_All ?_ | refine w_List ?_ | refine w_ListT ?_ | refine w_Tuple ?_ | refine w_Join ?_ | refine w_Split ?_ | refine w_Call ?_ | refine w_DictOf ?_ | refine w_Dict0 ?_ | refine w_Dict1 ?_ | refine w_Append ?_ | refine w_Extend ?_ | refine w_PopAt ?_ | refine w_Nil ?_ | refine w_Cons ?_ | refine v_Val ?_ | refine v_And ?_ | refine v_Or ?_ | refine v_Cmp ?_ | refine v_Chain ?_ | refine v_Is ?_ | refine v_Not ?_ | refine v_Yes ?_) | ((with_reducible apply w_Var); (focus (exact rfl)))))
    refine ⟨rfl, ?_, rfl⟩
    unfold kindOf
    rw [if_neg (by rw [e]; decide)]
    rfl
theorem r_kr_is_of {k n : Nat} {d : D} {kd : Str} {M : Mh} (h : fit n d = true) : callAt P (k + 2) "_law_kr_is_of" [.str kd, d] M = .ok (.bl (ofK kd d)) M := by
  refine eq_of_wp (wp_run0 p_kr_is_of rfl rfl ?_)
  dsimp only [m__law_kr_is_of, List.map, List.append, List.map_cons, List.map_nil, List.length_cons, List.length_nil, List.replicate, List.cons_append, List.nil_append, Nat.reduceSub, Nat.reduceAdd]
  (repeat (first | (with_reducible first | refine z_Seq ?_ | refine z_SetN ?_ | refine z_Set ?_ | refine z_Ret ?_ | refine z_If ?_ | refine z_Expr ?_ | refine z_Next ?_ | refine z_Par ?_ | refine z_SetIx ?_ | refine w_C ?_ | refine w_Bop ?_ | refine w_BopT ?_ | refine w_Cmp ?_ | refine w_Chain ?_ | refine w_Is ?_ | refine w_Neg ?_ | refine w_Not ?_ | refine w_And ?_ | refine w_Or ?_ | refine w_Ite ?_ | refine w_Tup ?_ | refine w_Lst ?_ | refine w_LstT ?_ | refine w_Idx ?_ | refine w_SlcNN ?_ | refine w_SlcNS ?_ | refine w_SlcSN ?_ | refine w_Rev ?_ | refine w_Isi ?_ | refine w_Len ?_ | refine w_Int ?_ | refine w_Bool ?_ | refine w_Max ?_ | refine w_All ?_ | refine w_List ?_ | refine w_ListT ?_ | refine w_Tuple ?_ | refine w_Join ?_ | refine w_Split ?_ | refine w_Call ?_ | refine w_DictOf ?_ | refine w_Dict0 ?_ | refine w_Dict1 ?_ | refine w_Append ?_ | refine w_Extend ?_ | refine w_PopAt ?_ | refine w_Nil ?_ | refine w_Cons ?_ | refine v_Val ?_ | refine v_And ?_ | refine v_Or ?_ | refine v_Cmp ?_ | refine v_Chain ?_ | refine v_Is ?_ | refine v_Not ?_ | refine v_Yes ?_) | ((with_reducible apply w_Var); (focus (exact rfl)))))
  refine wO_some (a := decide (kd = numS)) rfl ⟨fun e => ?_, fun e => ?_⟩
  · (repeat (first | (with_reducible first | refine z_Seq ?_ | refine z_SetN ?_ | refine z_Set ?_ | refine z_Ret ?_ | refine z_If ?_ | refine z_Expr ?_ | refine z_Next ?_ | refine z_Par ?_ | refine z_SetIx ?_ | refine w_C ?_ | refine w_Bop ?_ | refine w_BopT ?_ | refine w_Cmp ?_ | refine w_Chain ?_ | refine w_Is ?_ | refine w_Neg ?_ | refine w_Not ?_ | refine w_And ?_ | refine w_Or ?_ | refine w_Ite ?_ | refine w_Tup ?_ | refine w_Lst ?_ | refine w_LstT ?_ | refine w_Idx ?_ | refine w_SlcNN ?_ | refine w_SlcNS ?_ | refine w_SlcSN ?_ | refine w_Rev ?_ | refine w_Isi ?_ | refine w_Len ?_ | refine w_Int ?_ | refine w_Bool ?_ | refine w_Max ?_ | refine w_All ?_ | refine w_List ?_ | refine w_ListT ?_ | refine w_Tuple ?_ | refine w_Join ?_ | refine w_Split ?_ | refine w_Call ?_ | refine w_DictOf ?_ | refine w_Dict0 ?_ | refine w_Dict1 ?_ | refine w_Append ?_ | refine w_Extend ?_ | refine w_PopAt ?_ | refine w_Nil ?_ | refine w_Cons ?_ | refine v_Val ?_ | refine v_And ?_ | refine v_Or ?_ | refine v_Cmp ?_ | refine v_Chain ?_ | refine v_Is ?_ | refine v_Not ?_ | refine v_Yes ?_) | ((with_reducible apply w_Var); (focus (exact rfl)))))
    rw [cfl_call, r_whole p_kr_is_whole (fit_val h), wpR_ok]
    refine ⟨rfl, ?_, rfl⟩
    unfold ofK
    rw [if_pos (of_decide_eq_true e)]
  · (repeat (first | (with_reducible first | refine z_Seq ?_ | refine z_SetN ?_ | refine z_Set ?_ | refine z_Ret ?_ | refine z_If ?_ | refine z_Expr ?_ | refine z_Next ?_ | refine z_Par ?_ | refine z_SetIx ?_ | refine w_C ?_ | refine w_Bop ?_ | refine w_BopT ?_ | refine w_Cmp ?_ | refine w_Chain ?_ | refine w_Is ?_ | refine w_Neg ?_ | refine w_Not ?_ | refine w_And ?_ | refine w_Or ?_ | refine w_Ite ?_ | refine w_Tup ?_ | refine w_Lst ?_ | refine w_LstT ?_ | refine w_Idx ?_ | refine w_SlcNN ?_ | refine w_SlcNS ?_ | refine w_SlcSN ?_ | refine w_Rev ?_ | refine w_Isi ?_ | refine w_Len ?_ | refine w_Int ?_ | refine w_Bool ?_ | refine w_Max ?_ | refine w_All ?_ | refine w_List ?_ | refine w_ListT ?_ | refine w_Tuple ?_ | refine w_Join ?_ | refine w_Split ?_ | refine w_Call ?_ | refine w_DictOf ?_ | refine w_Dict0 ?_ | refine w_Dict1 ?_ | refine w_Append ?_ | refine w_Extend ?_ | refine w_PopAt ?_ | refine w_Nil ?_ | refine w_Cons ?_ | refine v_Val ?_ | refine v_And ?_ | refine v_Or ?_ | refine v_Cmp ?_ | refine v_Chain ?_ | refine v_Is ?_ | refine v_Not ?_ | refine v_Yes ?_) | ((with_reducible apply w_Var); (focus (exact rfl)))))
    rw [cfl_call, r_kr_is_text h, wpR_ok]
    refine ⟨rfl, ?_, rfl⟩
    unfold ofK
    rw [if_neg (of_decide_eq_false e)]
theorem pairs_zip : ∀ (xs : List D) (cs : List (Str × Str)), pairs xs (cs.map colD) = (xs.zip cs).map fun q => .tup [q.1, colD q.2]
  | [], _ => by cases ‹List (Str × Str)› <;> rfl
  | x :: xs, [] => rfl
  | x :: xs, c :: cs => by
    show D.tup [x, colD c] :: pairs xs (cs.map colD) = _
    rw [pairs_zip xs cs]
    rfl
theorem fm_congr {α β : Type} {f g : α → Option β} : ∀ {l : List α}, (∀ x ∈ l, f x = g x) → l.filterMap f = l.filterMap g
  | [], _ => rfl
  | a :: l, h => by
    rw [List.filterMap_cons, List.filterMap_cons, h a List.mem_cons_self, fm_congr fun x hx => h x (List.mem_cons_of_mem _ hx)]
theorem num_txt : (numS = txtS) = False := by simp [show numS ≠ txtS from by decide +kernel]
theorem of_eq {n : Nat} {x : D} {p : Str × Str} (h : okC p) : (valueB x && decide (kindOf x = p.2)) = ofK p.2 x := by
  have ne : ¬ txtS = numS := by decide +kernel
  have ne2 : ¬ numS = txtS := by decide +kernel
  rcases h with h | h <;> rw [h] <;> unfold valueB ofK kindOf <;> cases x <;> simp [isI, textB, tyS, ne, ne2]
theorem r_is_row {k n : Nat} {d : D} {cs : List (Str × Str)} {M : Mh} (h : fit n d = true) (hc : ∀ p ∈ cs, okC p) (hl : cs.length ≤ 1000) : callAt P (k + 3) "is_row" [d, .lst (cs.map colD)] M = .ok (.bl (rowB d cs)) M := by
  refine eq_of_wp (wp_run0 p_is_row rfl rfl ?_)
  dsimp only [m_is_row, List.map, List.append, List.map_cons, List.map_nil, List.length_cons, List.length_nil, List.replicate, List.cons_append, List.nil_append, Nat.reduceSub, Nat.reduceAdd]
  cases d <;> first | (cases n <;> cases h; done) | ((repeat (first | (with_reducible first | refine z_Seq ?_ | refine z_SetN ?_ | refine z_Set ?_ | refine z_Ret ?_ | refine z_If ?_ | refine z_Expr ?_ | refine z_Next ?_ | refine z_Par ?_ | refine z_SetIx ?_ | refine w_C ?_ | refine w_Bop ?_ | refine w_BopT ?_ | refine w_Cmp ?_ | refine w_Chain ?_ | refine w_Is ?_ | refine w_Neg ?_ | refine w_Not ?_ | refine w_And ?_ | refine w_Or ?_ | refine w_Ite ?_ | refine w_Tup ?_ | refine w_Lst ?_ | refine w_LstT ?_ | refine w_Idx ?_ | refine w_SlcNN ?_ | refine w_SlcNS ?_ | refine w_SlcSN ?_ | refine w_Rev ?_ | refine w_Isi ?_ | refine w_Len ?_ | refine w_Int ?_ | refine w_Bool ?_ | refine w_Max ?_ | refine w_All ?_ | refine w_List ?_ | refine w_ListT ?_ | refine w_Tuple ?_ | refine w_Join ?_ | refine w_Split ?_ | refine w_Call ?_ | refine w_DictOf ?_ | refine w_Dict0 ?_ | refine w_Dict1 ?_ | refine w_Append ?_ | refine w_Extend ?_ | refine w_PopAt ?_ | refine w_Nil ?_ | refine w_Cons ?_ | refine v_Val ?_ | refine v_And ?_ | refine v_Or ?_ | refine v_Cmp ?_ | refine v_Chain ?_ | refine v_Is ?_ | refine v_Not ?_ | refine v_Yes ?_) | ((with_reducible apply w_Var); (focus (exact rfl))) | (with_reducible first | refine wO_some (isi_I (by with_unfolding_all exact rfl)) ?_ | refine wO_some (isi_B (by with_unfolding_all exact rfl)) ?_ | refine wO_some (isi_S (by with_unfolding_all exact rfl)) ?_ | refine wO_some (isi_T (by with_unfolding_all exact rfl)) ?_ | refine wO_some (isi_L (by with_unfolding_all exact rfl)) ?_) | (first | refine ifT rfl ?_ | refine ifF rfl ?_) | (refine wO_some rfl ?_) | refine ⟨_, rfl, ?_⟩)); exact ⟨rfl, rfl, rfl⟩) | skip
  rename_i xs
  cases n with
  | zero => cases h
  | succ n =>
  have hx := fit_tup.mp h
  (repeat (first | (with_reducible first | refine z_Seq ?_ | refine z_SetN ?_ | refine z_Set ?_ | refine z_Ret ?_ | refine z_If ?_ | refine z_Expr ?_ | refine z_Next ?_ | refine z_Par ?_ | refine z_SetIx ?_ | refine w_C ?_ | refine w_Bop ?_ | refine w_BopT ?_ | refine w_Cmp ?_ | refine w_Chain ?_ | refine w_Is ?_ | refine w_Neg ?_ | refine w_Not ?_ | refine w_And ?_ | refine w_Or ?_ | refine w_Ite ?_ | refine w_Tup ?_ | refine w_Lst ?_ | refine w_LstT ?_ | refine w_Idx ?_ | refine w_SlcNN ?_ | refine w_SlcNS ?_ | refine w_SlcSN ?_ | refine w_Rev ?_ | refine w_Isi ?_ | refine w_Len ?_ | refine w_Int ?_ | refine w_Bool ?_ | refine w_Max ?_ | refine w_All ?_ | refine w_List ?_ | refine w_ListT ?_ | refine w_Tuple ?_ | refine w_Join ?_ | refine w_Split ?_ | refine w_Call ?_ | refine w_DictOf ?_ | refine w_Dict0 ?_ | refine w_Dict1 ?_ | refine w_Append ?_ | refine w_Extend ?_ | refine w_PopAt ?_ | refine w_Nil ?_ | refine w_Cons ?_ | refine v_Val ?_ | refine v_And ?_ | refine v_Or ?_ | refine v_Cmp ?_ | refine v_Chain ?_ | refine v_Is ?_ | refine v_Not ?_ | refine v_Yes ?_) | ((with_reducible apply w_Var); (focus (exact rfl)))))
  refine wO_some (isi_T rfl) ?_
  (repeat (first | (with_reducible first | refine z_Seq ?_ | refine z_SetN ?_ | refine z_Set ?_ | refine z_Ret ?_ | refine z_If ?_ | refine z_Expr ?_ | refine z_Next ?_ | refine z_Par ?_ | refine z_SetIx ?_ | refine w_C ?_ | refine w_Bop ?_ | refine w_BopT ?_ | refine w_Cmp ?_ | refine w_Chain ?_ | refine w_Is ?_ | refine w_Neg ?_ | refine w_Not ?_ | refine w_And ?_ | refine w_Or ?_ | refine w_Ite ?_ | refine w_Tup ?_ | refine w_Lst ?_ | refine w_LstT ?_ | refine w_Idx ?_ | refine w_SlcNN ?_ | refine w_SlcNS ?_ | refine w_SlcSN ?_ | refine w_Rev ?_ | refine w_Isi ?_ | refine w_Len ?_ | refine w_Int ?_ | refine w_Bool ?_ | refine w_Max ?_ | refine w_All ?_ | refine w_List ?_ | refine w_ListT ?_ | refine w_Tuple ?_ | refine w_Join ?_ | refine w_Split ?_ | refine w_Call ?_ | refine w_DictOf ?_ | refine w_Dict0 ?_ | refine w_Dict1 ?_ | refine w_Append ?_ | refine w_Extend ?_ | refine w_PopAt ?_ | refine w_Nil ?_ | refine w_Cons ?_ | refine v_Val ?_ | refine v_And ?_ | refine v_Or ?_ | refine v_Cmp ?_ | refine v_Chain ?_ | refine v_Is ?_ | refine v_Not ?_ | refine v_Yes ?_) | ((with_reducible apply w_Var); (focus (exact rfl))) | (with_reducible first | refine wO_some (isi_I (by with_unfolding_all exact rfl)) ?_ | refine wO_some (isi_B (by with_unfolding_all exact rfl)) ?_ | refine wO_some (isi_S (by with_unfolding_all exact rfl)) ?_ | refine wO_some (isi_T (by with_unfolding_all exact rfl)) ?_ | refine wO_some (isi_L (by with_unfolding_all exact rfl)) ?_) | (first | refine ifT rfl ?_ | refine ifF rfl ?_) | (refine wO_some rfl ?_) | refine ⟨_, rfl, ?_⟩))
  have el : (cs.map colD).length = cs.length := List.length_map _
  by_cases h1 : xs.length = cs.length
  · refine ifF (by simp [el, h1]) ?_
    refine z_Next (z_Ret (w_All (w_LcP (i_Zip (w_Var rfl (w_Var rfl (wO_some rfl (wO_some rfl ?_))))))))
    refine ⟨_, fun d => match d with
      | .tup [x, .tup [_, .str kd]] => some (.bl (valueB x && decide (kindOf x = kd)))
      | _ => none, rfl, ?_, fun d hd => ?_, ?_⟩
    · rw [pairs_zip, List.length_map, List.length_zip]
      show _ ≤ 16777216
      omega
    · rw [pairs_zip] at hd
      obtain ⟨⟨x, p⟩, hq, rfl⟩ := List.mem_map.mp hd
      have hx1 := hx.1 x (List.of_mem_zip hq).1
      refine eqR (wp_turn ?_)
      (refine wO_some rfl ?_)
      (repeat (first | (with_reducible first | refine z_Seq ?_ | refine z_SetN ?_ | refine z_Set ?_ | refine z_Ret ?_ | refine z_If ?_ | refine z_Expr ?_ | refine z_Next ?_ | refine z_Par ?_ | refine z_SetIx ?_ | refine w_C ?_ | refine w_Bop ?_ | refine w_BopT ?_ | refine w_Cmp ?_ | refine w_Chain ?_ | refine w_Is ?_ | refine w_Neg ?_ | refine w_Not ?_ | refine w_And ?_ | refine w_Or ?_ | refine w_Ite ?_ | refine w_Tup ?_ | refine w_Lst ?_ | refine w_LstT ?_ | refine w_Idx ?_ | refine w_SlcNN ?_ | refine w_SlcNS ?_ | refine w_SlcSN ?_ | refine w_Rev ?_ | refine w_Isi ?_ | refine w_Len ?_ | refine w_Int ?_ | refine w_Bool ?_ | refine w_Max ?_ | refine w_All ?_ | refine w_List ?_ | refine w_ListT ?_ | refine w_Tuple ?_ | refine w_Join ?_ | refine w_Split ?_ | refine w_Call ?_ | refine w_DictOf ?_ | refine w_Dict0 ?_ | refine w_Dict1 ?_ | refine w_Append ?_ | refine w_Extend ?_ | refine w_PopAt ?_ | refine w_Nil ?_ | refine w_Cons ?_ | refine v_Val ?_ | refine v_And ?_ | refine v_Or ?_ | refine v_Cmp ?_ | refine v_Chain ?_ | refine v_Is ?_ | refine v_Not ?_ | refine v_Yes ?_) | ((with_reducible apply w_Var); (focus (exact rfl)))))
      refine ifT rfl ?_
      (repeat (first | (with_reducible first | refine z_Seq ?_ | refine z_SetN ?_ | refine z_Set ?_ | refine z_Ret ?_ | refine z_If ?_ | refine z_Expr ?_ | refine z_Next ?_ | refine z_Par ?_ | refine z_SetIx ?_ | refine w_C ?_ | refine w_Bop ?_ | refine w_BopT ?_ | refine w_Cmp ?_ | refine w_Chain ?_ | refine w_Is ?_ | refine w_Neg ?_ | refine w_Not ?_ | refine w_And ?_ | refine w_Or ?_ | refine w_Ite ?_ | refine w_Tup ?_ | refine w_Lst ?_ | refine w_LstT ?_ | refine w_Idx ?_ | refine w_SlcNN ?_ | refine w_SlcNS ?_ | refine w_SlcSN ?_ | refine w_Rev ?_ | refine w_Isi ?_ | refine w_Len ?_ | refine w_Int ?_ | refine w_Bool ?_ | refine w_Max ?_ | refine w_All ?_ | refine w_List ?_ | refine w_ListT ?_ | refine w_Tuple ?_ | refine w_Join ?_ | refine w_Split ?_ | refine w_Call ?_ | refine w_DictOf ?_ | refine w_Dict0 ?_ | refine w_Dict1 ?_ | refine w_Append ?_ | refine w_Extend ?_ | refine w_PopAt ?_ | refine w_Nil ?_ | refine w_Cons ?_ | refine v_Val ?_ | refine v_And ?_ | refine v_Or ?_ | refine v_Cmp ?_ | refine v_Chain ?_ | refine v_Is ?_ | refine v_Not ?_ | refine v_Yes ?_) | ((with_reducible apply w_Var); (focus (exact rfl)))))
      rw [cfl_call, r_is_value hx1, wpR_ok]
      refine ⟨_, rfl, fun e => ?_, fun e => ?_⟩
      · (repeat (first | (with_reducible first | refine z_Seq ?_ | refine z_SetN ?_ | refine z_Set ?_ | refine z_Ret ?_ | refine z_If ?_ | refine z_Expr ?_ | refine z_Next ?_ | refine z_Par ?_ | refine z_SetIx ?_ | refine w_C ?_ | refine w_Bop ?_ | refine w_BopT ?_ | refine w_Cmp ?_ | refine w_Chain ?_ | refine w_Is ?_ | refine w_Neg ?_ | refine w_Not ?_ | refine w_And ?_ | refine w_Or ?_ | refine w_Ite ?_ | refine w_Tup ?_ | refine w_Lst ?_ | refine w_LstT ?_ | refine w_Idx ?_ | refine w_SlcNN ?_ | refine w_SlcNS ?_ | refine w_SlcSN ?_ | refine w_Rev ?_ | refine w_Isi ?_ | refine w_Len ?_ | refine w_Int ?_ | refine w_Bool ?_ | refine w_Max ?_ | refine w_All ?_ | refine w_List ?_ | refine w_ListT ?_ | refine w_Tuple ?_ | refine w_Join ?_ | refine w_Split ?_ | refine w_Call ?_ | refine w_DictOf ?_ | refine w_Dict0 ?_ | refine w_Dict1 ?_ | refine w_Append ?_ | refine w_Extend ?_ | refine w_PopAt ?_ | refine w_Nil ?_ | refine w_Cons ?_ | refine v_Val ?_ | refine v_And ?_ | refine v_Or ?_ | refine v_Cmp ?_ | refine v_Chain ?_ | refine v_Is ?_ | refine v_Not ?_ | refine v_Yes ?_) | ((with_reducible apply w_Var); (focus (exact rfl)))))
        rw [cfl_call, r_kind_of hx1, wpR_ok]
        (repeat (first | (with_reducible first | refine z_Seq ?_ | refine z_SetN ?_ | refine z_Set ?_ | refine z_Ret ?_ | refine z_If ?_ | refine z_Expr ?_ | refine z_Next ?_ | refine z_Par ?_ | refine z_SetIx ?_ | refine w_C ?_ | refine w_Bop ?_ | refine w_BopT ?_ | refine w_Cmp ?_ | refine w_Chain ?_ | refine w_Is ?_ | refine w_Neg ?_ | refine w_Not ?_ | refine w_And ?_ | refine w_Or ?_ | refine w_Ite ?_ | refine w_Tup ?_ | refine w_Lst ?_ | refine w_LstT ?_ | refine w_Idx ?_ | refine w_SlcNN ?_ | refine w_SlcNS ?_ | refine w_SlcSN ?_ | refine w_Rev ?_ | refine w_Isi ?_ | refine w_Len ?_ | refine w_Int ?_ | refine w_Bool ?_ | refine w_Max ?_ | refine w_All ?_ | refine w_List ?_ | refine w_ListT ?_ | refine w_Tuple ?_ | refine w_Join ?_ | refine w_Split ?_ | refine w_Call ?_ | refine w_DictOf ?_ | refine w_Dict0 ?_ | refine w_Dict1 ?_ | refine w_Append ?_ | refine w_Extend ?_ | refine w_PopAt ?_ | refine w_Nil ?_ | refine w_Cons ?_ | refine v_Val ?_ | refine v_And ?_ | refine v_Or ?_ | refine v_Cmp ?_ | refine v_Chain ?_ | refine v_Is ?_ | refine v_Not ?_ | refine v_Yes ?_) | ((with_reducible apply w_Var); (focus (exact rfl)))))
        refine wO_some (a := decide (kindOf x = p.2)) rfl ⟨?_, rfl⟩
        show _ = some (D.bl (valueB x && _))
        rw [e, Bool.true_and]
      · refine ⟨?_, rfl⟩
        show _ = some (D.bl (valueB x && _))
        rw [e, Bool.false_and]
    · refine ⟨_, (xs.zip cs).map fun q => ofK q.2.2 q.1, rfl, ?_, ?_⟩
      · rw [pairs_zip, List.filterMap_map, ← allBl_map, ← List.filterMap_eq_map']
        refine congrArg allBl (fm_congr fun q hq => ?_)
        show some (D.bl (valueB q.1 && decide (kindOf q.1 = q.2.2))) = some (D.bl (ofK q.2.2 q.1))
        rw [of_eq (n := 0) (hc q.2 (List.of_mem_zip hq).2)]
      · refine ⟨rfl, ?_, rfl⟩
        show D.bl _ = D.bl (decide _ && _)
        rw [decide_eq_true h1, Bool.true_and, List.all_map]
        rfl
  · refine ifT (by simp [el]; omega) ?_
    (repeat (first | (with_reducible first | refine z_Seq ?_ | refine z_SetN ?_ | refine z_Set ?_ | refine z_Ret ?_ | refine z_If ?_ | refine z_Expr ?_ | refine z_Next ?_ | refine z_Par ?_ | refine z_SetIx ?_ | refine w_C ?_ | refine w_Bop ?_ | refine w_BopT ?_ | refine w_Cmp ?_ | refine w_Chain ?_ | refine w_Is ?_ | refine w_Neg ?_ | refine w_Not ?_ | refine w_And ?_ | refine w_Or ?_ | refine w_Ite ?_ | refine w_Tup ?_ | refine w_Lst ?_ | refine w_LstT ?_ | refine w_Idx ?_ | refine w_SlcNN ?_ | refine w_SlcNS ?_ | refine w_SlcSN ?_ | refine w_Rev ?_ | refine w_Isi ?_ | refine w_Len ?_ | refine w_Int ?_ | refine w_Bool ?_ | refine w_Max ?_ | refine w_All ?_ | refine w_List ?_ | refine w_ListT ?_ | refine w_Tuple ?_ | refine w_Join ?_ | refine w_Split ?_ | refine w_Call ?_ | refine w_DictOf ?_ | refine w_Dict0 ?_ | refine w_Dict1 ?_ | refine w_Append ?_ | refine w_Extend ?_ | refine w_PopAt ?_ | refine w_Nil ?_ | refine w_Cons ?_ | refine v_Val ?_ | refine v_And ?_ | refine v_Or ?_ | refine v_Cmp ?_ | refine v_Chain ?_ | refine v_Is ?_ | refine v_Not ?_ | refine v_Yes ?_) | ((with_reducible apply w_Var); (focus (exact rfl))) | (with_reducible first | refine wO_some (isi_I (by with_unfolding_all exact rfl)) ?_ | refine wO_some (isi_B (by with_unfolding_all exact rfl)) ?_ | refine wO_some (isi_S (by with_unfolding_all exact rfl)) ?_ | refine wO_some (isi_T (by with_unfolding_all exact rfl)) ?_ | refine wO_some (isi_L (by with_unfolding_all exact rfl)) ?_) | (first | refine ifT rfl ?_ | refine ifF rfl ?_) | (refine wO_some rfl ?_) | refine ⟨_, rfl, ?_⟩))
    refine ⟨rfl, ?_, rfl⟩
    show D.bl false = D.bl (decide _ && _)
    rw [decide_eq_false h1, Bool.false_and]
theorem r_kr_is_row {k n : Nat} {d : D} {cs : List (Str × Str)} {M : Mh} (h : fit n d = true) (hl : cs.length ≤ 1000) : callAt P (k + 3) "_law_kr_is_row" [d, .lst (cs.map colD)] M = .ok (.bl (rowB d cs)) M := by
  refine eq_of_wp (wp_run0 p_kr_is_row rfl rfl ?_)
  dsimp only [m__law_kr_is_row, List.map, List.append, List.map_cons, List.map_nil, List.length_cons, List.length_nil, List.replicate, List.cons_append, List.nil_append, Nat.reduceSub, Nat.reduceAdd]
  cases d <;> first | (cases n <;> cases h; done) | ((repeat (first | (with_reducible first | refine z_Seq ?_ | refine z_SetN ?_ | refine z_Set ?_ | refine z_Ret ?_ | refine z_If ?_ | refine z_Expr ?_ | refine z_Next ?_ | refine z_Par ?_ | refine z_SetIx ?_ | refine w_C ?_ | refine w_Bop ?_ | refine w_BopT ?_ | refine w_Cmp ?_ | refine w_Chain ?_ | refine w_Is ?_ | refine w_Neg ?_ | refine w_Not ?_ | refine w_And ?_ | refine w_Or ?_ | refine w_Ite ?_ | refine w_Tup ?_ | refine w_Lst ?_ | refine w_LstT ?_ | refine w_Idx ?_ | refine w_SlcNN ?_ | refine w_SlcNS ?_ | refine w_SlcSN ?_ | refine w_Rev ?_ | refine w_Isi ?_ | refine w_Len ?_ | refine w_Int ?_ | refine w_Bool ?_ | refine w_Max ?_ | refine w_All ?_ | refine w_List ?_ | refine w_ListT ?_ | refine w_Tuple ?_ | refine w_Join ?_ | refine w_Split ?_ | refine w_Call ?_ | refine w_DictOf ?_ | refine w_Dict0 ?_ | refine w_Dict1 ?_ | refine w_Append ?_ | refine w_Extend ?_ | refine w_PopAt ?_ | refine w_Nil ?_ | refine w_Cons ?_ | refine v_Val ?_ | refine v_And ?_ | refine v_Or ?_ | refine v_Cmp ?_ | refine v_Chain ?_ | refine v_Is ?_ | refine v_Not ?_ | refine v_Yes ?_) | ((with_reducible apply w_Var); (focus (exact rfl))) | (with_reducible first | refine wO_some (isi_I (by with_unfolding_all exact rfl)) ?_ | refine wO_some (isi_B (by with_unfolding_all exact rfl)) ?_ | refine wO_some (isi_S (by with_unfolding_all exact rfl)) ?_ | refine wO_some (isi_T (by with_unfolding_all exact rfl)) ?_ | refine wO_some (isi_L (by with_unfolding_all exact rfl)) ?_) | (first | refine ifT rfl ?_ | refine ifF rfl ?_) | (refine wO_some rfl ?_) | refine ⟨_, rfl, ?_⟩)); exact ⟨rfl, rfl, rfl⟩) | skip
  rename_i xs
  cases n with
  | zero => cases h
  | succ n =>
  have hx := fit_tup.mp h
  (repeat (first | (with_reducible first | refine z_Seq ?_ | refine z_SetN ?_ | refine z_Set ?_ | refine z_Ret ?_ | refine z_If ?_ | refine z_Expr ?_ | refine z_Next ?_ | refine z_Par ?_ | refine z_SetIx ?_ | refine w_C ?_ | refine w_Bop ?_ | refine w_BopT ?_ | refine w_Cmp ?_ | refine w_Chain ?_ | refine w_Is ?_ | refine w_Neg ?_ | refine w_Not ?_ | refine w_And ?_ | refine w_Or ?_ | refine w_Ite ?_ | refine w_Tup ?_ | refine w_Lst ?_ | refine w_LstT ?_ | refine w_Idx ?_ | refine w_SlcNN ?_ | refine w_SlcNS ?_ | refine w_SlcSN ?_ | refine w_Rev ?_ | refine w_Isi ?_ | refine w_Len ?_ | refine w_Int ?_ | refine w_Bool ?_ | refine w_Max ?_ | refine w_All ?_ | refine w_List ?_ | refine w_ListT ?_ | refine w_Tuple ?_ | refine w_Join ?_ | refine w_Split ?_ | refine w_Call ?_ | refine w_DictOf ?_ | refine w_Dict0 ?_ | refine w_Dict1 ?_ | refine w_Append ?_ | refine w_Extend ?_ | refine w_PopAt ?_ | refine w_Nil ?_ | refine w_Cons ?_ | refine v_Val ?_ | refine v_And ?_ | refine v_Or ?_ | refine v_Cmp ?_ | refine v_Chain ?_ | refine v_Is ?_ | refine v_Not ?_ | refine v_Yes ?_) | ((with_reducible apply w_Var); (focus (exact rfl)))))
  refine wO_some (isi_T rfl) ?_
  (repeat (first | (with_reducible first | refine z_Seq ?_ | refine z_SetN ?_ | refine z_Set ?_ | refine z_Ret ?_ | refine z_If ?_ | refine z_Expr ?_ | refine z_Next ?_ | refine z_Par ?_ | refine z_SetIx ?_ | refine w_C ?_ | refine w_Bop ?_ | refine w_BopT ?_ | refine w_Cmp ?_ | refine w_Chain ?_ | refine w_Is ?_ | refine w_Neg ?_ | refine w_Not ?_ | refine w_And ?_ | refine w_Or ?_ | refine w_Ite ?_ | refine w_Tup ?_ | refine w_Lst ?_ | refine w_LstT ?_ | refine w_Idx ?_ | refine w_SlcNN ?_ | refine w_SlcNS ?_ | refine w_SlcSN ?_ | refine w_Rev ?_ | refine w_Isi ?_ | refine w_Len ?_ | refine w_Int ?_ | refine w_Bool ?_ | refine w_Max ?_ | refine w_All ?_ | refine w_List ?_ | refine w_ListT ?_ | refine w_Tuple ?_ | refine w_Join ?_ | refine w_Split ?_ | refine w_Call ?_ | refine w_DictOf ?_ | refine w_Dict0 ?_ | refine w_Dict1 ?_ | refine w_Append ?_ | refine w_Extend ?_ | refine w_PopAt ?_ | refine w_Nil ?_ | refine w_Cons ?_ | refine v_Val ?_ | refine v_And ?_ | refine v_Or ?_ | refine v_Cmp ?_ | refine v_Chain ?_ | refine v_Is ?_ | refine v_Not ?_ | refine v_Yes ?_) | ((with_reducible apply w_Var); (focus (exact rfl))) | (with_reducible first | refine wO_some (isi_I (by with_unfolding_all exact rfl)) ?_ | refine wO_some (isi_B (by with_unfolding_all exact rfl)) ?_ | refine wO_some (isi_S (by with_unfolding_all exact rfl)) ?_ | refine wO_some (isi_T (by with_unfolding_all exact rfl)) ?_ | refine wO_some (isi_L (by with_unfolding_all exact rfl)) ?_) | (first | refine ifT rfl ?_ | refine ifF rfl ?_) | (refine wO_some rfl ?_) | refine ⟨_, rfl, ?_⟩))
  have el : (cs.map colD).length = cs.length := List.length_map _
  by_cases h1 : xs.length = cs.length
  · refine ifF (by simp [el, h1]) ?_
    refine z_Next (z_Ret (w_Cmp (w_LcP (i_Range ?_))))
    (repeat (first | (with_reducible first | refine z_Seq ?_ | refine z_SetN ?_ | refine z_Set ?_ | refine z_Ret ?_ | refine z_If ?_ | refine z_Expr ?_ | refine z_Next ?_ | refine z_Par ?_ | refine z_SetIx ?_ | refine w_C ?_ | refine w_Bop ?_ | refine w_BopT ?_ | refine w_Cmp ?_ | refine w_Chain ?_ | refine w_Is ?_ | refine w_Neg ?_ | refine w_Not ?_ | refine w_And ?_ | refine w_Or ?_ | refine w_Ite ?_ | refine w_Tup ?_ | refine w_Lst ?_ | refine w_LstT ?_ | refine w_Idx ?_ | refine w_SlcNN ?_ | refine w_SlcNS ?_ | refine w_SlcSN ?_ | refine w_Rev ?_ | refine w_Isi ?_ | refine w_Len ?_ | refine w_Int ?_ | refine w_Bool ?_ | refine w_Max ?_ | refine w_All ?_ | refine w_List ?_ | refine w_ListT ?_ | refine w_Tuple ?_ | refine w_Join ?_ | refine w_Split ?_ | refine w_Call ?_ | refine w_DictOf ?_ | refine w_Dict0 ?_ | refine w_Dict1 ?_ | refine w_Append ?_ | refine w_Extend ?_ | refine w_PopAt ?_ | refine w_Nil ?_ | refine w_Cons ?_ | refine v_Val ?_ | refine v_And ?_ | refine v_Or ?_ | refine v_Cmp ?_ | refine v_Chain ?_ | refine v_Is ?_ | refine v_Not ?_ | refine v_Yes ?_) | ((with_reducible apply w_Var); (focus (exact rfl))) | (with_reducible first | refine wO_some (isi_I (by with_unfolding_all exact rfl)) ?_ | refine wO_some (isi_B (by with_unfolding_all exact rfl)) ?_ | refine wO_some (isi_S (by with_unfolding_all exact rfl)) ?_ | refine wO_some (isi_T (by with_unfolding_all exact rfl)) ?_ | refine wO_some (isi_L (by with_unfolding_all exact rfl)) ?_) | (first | refine ifT rfl ?_ | refine ifF rfl ?_) | (refine wO_some rfl ?_) | refine ⟨_, rfl, ?_⟩))
    refine ⟨by omega, _, fun d => match d with
      | .int i => ((xs.zip cs)[i.toNat]?).bind fun q => if ofK q.2.2 q.1 = true then none else some d
      | _ => none, rfl, by rw [nums_len]; show xs.length ≤ 16777216; omega, fun d hd => ?_, ?_⟩
    · obtain ⟨i, hi0⟩ := List.mem_iff_getElem?.mp hd
      obtain ⟨hi, rfl⟩ := nums_get hi0
      clear hi0
      have hc : i < cs.length := by omega
      have e1 : atI (cs.map colD) (i : Int) = some (colD cs[i]) := atI_at (by rw [List.getElem?_map, List.getElem?_eq_getElem hc]; rfl)
      have e2 : atI xs (i : Int) = some xs[i] := atI_at (List.getElem?_eq_getElem hi)
      refine eqR (wp_turn ?_)
      (refine wO_some rfl ?_)
      (repeat (first | (with_reducible first | refine z_Seq ?_ | refine z_SetN ?_ | refine z_Set ?_ | refine z_Ret ?_ | refine z_If ?_ | refine z_Expr ?_ | refine z_Next ?_ | refine z_Par ?_ | refine z_SetIx ?_ | refine w_C ?_ | refine w_Bop ?_ | refine w_BopT ?_ | refine w_Cmp ?_ | refine w_Chain ?_ | refine w_Is ?_ | refine w_Neg ?_ | refine w_Not ?_ | refine w_And ?_ | refine w_Or ?_ | refine w_Ite ?_ | refine w_Tup ?_ | refine w_Lst ?_ | refine w_LstT ?_ | refine w_Idx ?_ | refine w_SlcNN ?_ | refine w_SlcNS ?_ | refine w_SlcSN ?_ | refine w_Rev ?_ | refine w_Isi ?_ | refine w_Len ?_ | refine w_Int ?_ | refine w_Bool ?_ | refine w_Max ?_ | refine w_All ?_ | refine w_List ?_ | refine w_ListT ?_ | refine w_Tuple ?_ | refine w_Join ?_ | refine w_Split ?_ | refine w_Call ?_ | refine w_DictOf ?_ | refine w_Dict0 ?_ | refine w_Dict1 ?_ | refine w_Append ?_ | refine w_Extend ?_ | refine w_PopAt ?_ | refine w_Nil ?_ | refine w_Cons ?_ | refine v_Val ?_ | refine v_And ?_ | refine v_Or ?_ | refine v_Cmp ?_ | refine v_Chain ?_ | refine v_Is ?_ | refine v_Not ?_ | refine v_Yes ?_) | ((with_reducible apply w_Var); (focus (exact rfl)))))
      refine wO_some e1 ?_
      (repeat (first | (with_reducible first | refine z_Seq ?_ | refine z_SetN ?_ | refine z_Set ?_ | refine z_Ret ?_ | refine z_If ?_ | refine z_Expr ?_ | refine z_Next ?_ | refine z_Par ?_ | refine z_SetIx ?_ | refine w_C ?_ | refine w_Bop ?_ | refine w_BopT ?_ | refine w_Cmp ?_ | refine w_Chain ?_ | refine w_Is ?_ | refine w_Neg ?_ | refine w_Not ?_ | refine w_And ?_ | refine w_Or ?_ | refine w_Ite ?_ | refine w_Tup ?_ | refine w_Lst ?_ | refine w_LstT ?_ | refine w_Idx ?_ | refine w_SlcNN ?_ | refine w_SlcNS ?_ | refine w_SlcSN ?_ | refine w_Rev ?_ | refine w_Isi ?_ | refine w_Len ?_ | refine w_Int ?_ | refine w_Bool ?_ | refine w_Max ?_ | refine w_All ?_ | refine w_List ?_ | refine w_ListT ?_ | refine w_Tuple ?_ | refine w_Join ?_ | refine w_Split ?_ | refine w_Call ?_ | refine w_DictOf ?_ | refine w_Dict0 ?_ | refine w_Dict1 ?_ | refine w_Append ?_ | refine w_Extend ?_ | refine w_PopAt ?_ | refine w_Nil ?_ | refine w_Cons ?_ | refine v_Val ?_ | refine v_And ?_ | refine v_Or ?_ | refine v_Cmp ?_ | refine v_Chain ?_ | refine v_Is ?_ | refine v_Not ?_ | refine v_Yes ?_) | ((with_reducible apply w_Var); (focus (exact rfl)))))
      (refine wO_some rfl ?_)
      (repeat (first | (with_reducible first | refine z_Seq ?_ | refine z_SetN ?_ | refine z_Set ?_ | refine z_Ret ?_ | refine z_If ?_ | refine z_Expr ?_ | refine z_Next ?_ | refine z_Par ?_ | refine z_SetIx ?_ | refine w_C ?_ | refine w_Bop ?_ | refine w_BopT ?_ | refine w_Cmp ?_ | refine w_Chain ?_ | refine w_Is ?_ | refine w_Neg ?_ | refine w_Not ?_ | refine w_And ?_ | refine w_Or ?_ | refine w_Ite ?_ | refine w_Tup ?_ | refine w_Lst ?_ | refine w_LstT ?_ | refine w_Idx ?_ | refine w_SlcNN ?_ | refine w_SlcNS ?_ | refine w_SlcSN ?_ | refine w_Rev ?_ | refine w_Isi ?_ | refine w_Len ?_ | refine w_Int ?_ | refine w_Bool ?_ | refine w_Max ?_ | refine w_All ?_ | refine w_List ?_ | refine w_ListT ?_ | refine w_Tuple ?_ | refine w_Join ?_ | refine w_Split ?_ | refine w_Call ?_ | refine w_DictOf ?_ | refine w_Dict0 ?_ | refine w_Dict1 ?_ | refine w_Append ?_ | refine w_Extend ?_ | refine w_PopAt ?_ | refine w_Nil ?_ | refine w_Cons ?_ | refine v_Val ?_ | refine v_And ?_ | refine v_Or ?_ | refine v_Cmp ?_ | refine v_Chain ?_ | refine v_Is ?_ | refine v_Not ?_ | refine v_Yes ?_) | ((with_reducible apply w_Var); (focus (exact rfl)))))
      refine wO_some e2 ?_
      (repeat (first | (with_reducible first | refine z_Seq ?_ | refine z_SetN ?_ | refine z_Set ?_ | refine z_Ret ?_ | refine z_If ?_ | refine z_Expr ?_ | refine z_Next ?_ | refine z_Par ?_ | refine z_SetIx ?_ | refine w_C ?_ | refine w_Bop ?_ | refine w_BopT ?_ | refine w_Cmp ?_ | refine w_Chain ?_ | refine w_Is ?_ | refine w_Neg ?_ | refine w_Not ?_ | refine w_And ?_ | refine w_Or ?_ | refine w_Ite ?_ | refine w_Tup ?_ | refine w_Lst ?_ | refine w_LstT ?_ | refine w_Idx ?_ | refine w_SlcNN ?_ | refine w_SlcNS ?_ | refine w_SlcSN ?_ | refine w_Rev ?_ | refine w_Isi ?_ | refine w_Len ?_ | refine w_Int ?_ | refine w_Bool ?_ | refine w_Max ?_ | refine w_All ?_ | refine w_List ?_ | refine w_ListT ?_ | refine w_Tuple ?_ | refine w_Join ?_ | refine w_Split ?_ | refine w_Call ?_ | refine w_DictOf ?_ | refine w_Dict0 ?_ | refine w_Dict1 ?_ | refine w_Append ?_ | refine w_Extend ?_ | refine w_PopAt ?_ | refine w_Nil ?_ | refine w_Cons ?_ | refine v_Val ?_ | refine v_And ?_ | refine v_Or ?_ | refine v_Cmp ?_ | refine v_Chain ?_ | refine v_Is ?_ | refine v_Not ?_ | refine v_Yes ?_) | ((with_reducible apply w_Var); (focus (exact rfl)))))
      rw [cfl_call, r_kr_is_of (hx.1 _ (List.getElem_mem hi)), wpR_ok]
      have ez : (xs.zip cs)[i]? = some (xs[i], cs[i]) := by
        rw [List.getElem?_eq_getElem (by rw [List.length_zip]; omega), List.getElem_zip]
      cases e : ofK cs[i].2 xs[i] with
      | true =>
        (repeat (first | (with_reducible first | refine z_Seq ?_ | refine z_SetN ?_ | refine z_Set ?_ | refine z_Ret ?_ | refine z_If ?_ | refine z_Expr ?_ | refine z_Next ?_ | refine z_Par ?_ | refine z_SetIx ?_ | refine w_C ?_ | refine w_Bop ?_ | refine w_BopT ?_ | refine w_Cmp ?_ | refine w_Chain ?_ | refine w_Is ?_ | refine w_Neg ?_ | refine w_Not ?_ | refine w_And ?_ | refine w_Or ?_ | refine w_Ite ?_ | refine w_Tup ?_ | refine w_Lst ?_ | refine w_LstT ?_ | refine w_Idx ?_ | refine w_SlcNN ?_ | refine w_SlcNS ?_ | refine w_SlcSN ?_ | refine w_Rev ?_ | refine w_Isi ?_ | refine w_Len ?_ | refine w_Int ?_ | refine w_Bool ?_ | refine w_Max ?_ | refine w_All ?_ | refine w_List ?_ | refine w_ListT ?_ | refine w_Tuple ?_ | refine w_Join ?_ | refine w_Split ?_ | refine w_Call ?_ | refine w_DictOf ?_ | refine w_Dict0 ?_ | refine w_Dict1 ?_ | refine w_Append ?_ | refine w_Extend ?_ | refine w_PopAt ?_ | refine w_Nil ?_ | refine w_Cons ?_ | refine v_Val ?_ | refine v_And ?_ | refine v_Or ?_ | refine v_Cmp ?_ | refine v_Chain ?_ | refine v_Is ?_ | refine v_Not ?_ | refine v_Yes ?_) | ((with_reducible apply w_Var); (focus (exact rfl))) | (with_reducible first | refine wO_some (isi_I (by with_unfolding_all exact rfl)) ?_ | refine wO_some (isi_B (by with_unfolding_all exact rfl)) ?_ | refine wO_some (isi_S (by with_unfolding_all exact rfl)) ?_ | refine wO_some (isi_T (by with_unfolding_all exact rfl)) ?_ | refine wO_some (isi_L (by with_unfolding_all exact rfl)) ?_) | (first | refine ifT rfl ?_ | refine ifF rfl ?_) | (refine wO_some rfl ?_) | refine ⟨_, rfl, ?_⟩))
        refine ⟨?_, rfl⟩
        show _ = ((xs.zip cs)[i]?).bind _
        rw [ez]
        exact (if_pos e).symm
      | false =>
        (repeat (first | (with_reducible first | refine z_Seq ?_ | refine z_SetN ?_ | refine z_Set ?_ | refine z_Ret ?_ | refine z_If ?_ | refine z_Expr ?_ | refine z_Next ?_ | refine z_Par ?_ | refine z_SetIx ?_ | refine w_C ?_ | refine w_Bop ?_ | refine w_BopT ?_ | refine w_Cmp ?_ | refine w_Chain ?_ | refine w_Is ?_ | refine w_Neg ?_ | refine w_Not ?_ | refine w_And ?_ | refine w_Or ?_ | refine w_Ite ?_ | refine w_Tup ?_ | refine w_Lst ?_ | refine w_LstT ?_ | refine w_Idx ?_ | refine w_SlcNN ?_ | refine w_SlcNS ?_ | refine w_SlcSN ?_ | refine w_Rev ?_ | refine w_Isi ?_ | refine w_Len ?_ | refine w_Int ?_ | refine w_Bool ?_ | refine w_Max ?_ | refine w_All ?_ | refine w_List ?_ | refine w_ListT ?_ | refine w_Tuple ?_ | refine w_Join ?_ | refine w_Split ?_ | refine w_Call ?_ | refine w_DictOf ?_ | refine w_Dict0 ?_ | refine w_Dict1 ?_ | refine w_Append ?_ | refine w_Extend ?_ | refine w_PopAt ?_ | refine w_Nil ?_ | refine w_Cons ?_ | refine v_Val ?_ | refine v_And ?_ | refine v_Or ?_ | refine v_Cmp ?_ | refine v_Chain ?_ | refine v_Is ?_ | refine v_Not ?_ | refine v_Yes ?_) | ((with_reducible apply w_Var); (focus (exact rfl))) | (with_reducible first | refine wO_some (isi_I (by with_unfolding_all exact rfl)) ?_ | refine wO_some (isi_B (by with_unfolding_all exact rfl)) ?_ | refine wO_some (isi_S (by with_unfolding_all exact rfl)) ?_ | refine wO_some (isi_T (by with_unfolding_all exact rfl)) ?_ | refine wO_some (isi_L (by with_unfolding_all exact rfl)) ?_) | (first | refine ifT rfl ?_ | refine ifF rfl ?_) | (refine wO_some rfl ?_) | refine ⟨_, rfl, ?_⟩))
        refine ⟨?_, rfl⟩
        show _ = ((xs.zip cs)[i]?).bind _
        rw [ez]
        exact (if_neg (by rw [e]; decide)).symm
    · (repeat (first | (with_reducible first | refine z_Seq ?_ | refine z_SetN ?_ | refine z_Set ?_ | refine z_Ret ?_ | refine z_If ?_ | refine z_Expr ?_ | refine z_Next ?_ | refine z_Par ?_ | refine z_SetIx ?_ | refine w_C ?_ | refine w_Bop ?_ | refine w_BopT ?_ | refine w_Cmp ?_ | refine w_Chain ?_ | refine w_Is ?_ | refine w_Neg ?_ | refine w_Not ?_ | refine w_And ?_ | refine w_Or ?_ | refine w_Ite ?_ | refine w_Tup ?_ | refine w_Lst ?_ | refine w_LstT ?_ | refine w_Idx ?_ | refine w_SlcNN ?_ | refine w_SlcNS ?_ | refine w_SlcSN ?_ | refine w_Rev ?_ | refine w_Isi ?_ | refine w_Len ?_ | refine w_Int ?_ | refine w_Bool ?_ | refine w_Max ?_ | refine w_All ?_ | refine w_List ?_ | refine w_ListT ?_ | refine w_Tuple ?_ | refine w_Join ?_ | refine w_Split ?_ | refine w_Call ?_ | refine w_DictOf ?_ | refine w_Dict0 ?_ | refine w_Dict1 ?_ | refine w_Append ?_ | refine w_Extend ?_ | refine w_PopAt ?_ | refine w_Nil ?_ | refine w_Cons ?_ | refine v_Val ?_ | refine v_And ?_ | refine v_Or ?_ | refine v_Cmp ?_ | refine v_Chain ?_ | refine v_Is ?_ | refine v_Not ?_ | refine v_Yes ?_) | ((with_reducible apply w_Var); (focus (exact rfl))) | (with_reducible first | refine wO_some (isi_I (by with_unfolding_all exact rfl)) ?_ | refine wO_some (isi_B (by with_unfolding_all exact rfl)) ?_ | refine wO_some (isi_S (by with_unfolding_all exact rfl)) ?_ | refine wO_some (isi_T (by with_unfolding_all exact rfl)) ?_ | refine wO_some (isi_L (by with_unfolding_all exact rfl)) ?_) | (first | refine ifT rfl ?_ | refine ifF rfl ?_) | (refine wO_some rfl ?_) | refine ⟨_, rfl, ?_⟩))
      refine ⟨Nat.zero_le _, ?_⟩
      generalize hfm : List.filterMap _ _ = fm
      have hz : (xs.zip cs).length = xs.length := by rw [List.length_zip]; omega
      have e6 : fm.isEmpty = true ↔ ((xs.zip cs).all fun q => ofK q.2.2 q.1) = true := by
        rw [← hfm, List.isEmpty_iff, List.filterMap_eq_nil_iff, List.all_eq_true]
        constructor
        · intro q z hz2
          obtain ⟨i, hi⟩ := List.mem_iff_getElem?.mp hz2
          have hi2 := (List.getElem?_eq_some_iff.mp hi).1
          have q := q (.int i) (List.mem_iff_getElem?.mpr ⟨i, by
            unfold nums
            rw [List.getElem?_map, List.getElem?_range (by omega)]
            rfl⟩)
          have q : ((xs.zip cs)[i]?).bind (fun q => if ofK q.2.2 q.1 = true then none else some (D.int i)) = none := q
          rw [hi] at q
          have q : (if ofK z.2.2 z.1 = true then none else some (D.int i)) = none := q
          by_cases hk : ofK z.2.2 z.1 = true
          · exact hk
          · rw [if_neg hk] at q
            cases q
        · intro q d hd
          obtain ⟨i, hi0⟩ := List.mem_iff_getElem?.mp hd
          obtain ⟨hi, rfl⟩ := nums_get hi0
          show ((xs.zip cs)[i]?).bind _ = none
          have hi2 : i < (xs.zip cs).length := by omega
          rw [List.getElem?_eq_getElem hi2]
          exact if_pos (q _ (List.getElem_mem hi2))
      refine wO_some (a := fm.isEmpty) (by cases fm <;> rfl) ⟨rfl, ?_, rfl⟩
      rw [Bool.eq_iff_iff.mpr e6]
      show D.bl _ = D.bl (decide _ && _)
      rw [decide_eq_true h1, Bool.true_and]
  · refine ifT (by simp [el]; omega) ?_
    (repeat (first | (with_reducible first | refine z_Seq ?_ | refine z_SetN ?_ | refine z_Set ?_ | refine z_Ret ?_ | refine z_If ?_ | refine z_Expr ?_ | refine z_Next ?_ | refine z_Par ?_ | refine z_SetIx ?_ | refine w_C ?_ | refine w_Bop ?_ | refine w_BopT ?_ | refine w_Cmp ?_ | refine w_Chain ?_ | refine w_Is ?_ | refine w_Neg ?_ | refine w_Not ?_ | refine w_And ?_ | refine w_Or ?_ | refine w_Ite ?_ | refine w_Tup ?_ | refine w_Lst ?_ | refine w_LstT ?_ | refine w_Idx ?_ | refine w_SlcNN ?_ | refine w_SlcNS ?_ | refine w_SlcSN ?_ | refine w_Rev ?_ | refine w_Isi ?_ | refine w_Len ?_ | refine w_Int ?_ | refine w_Bool ?_ | refine w_Max ?_ | refine w_All ?_ | refine w_List ?_ | refine w_ListT ?_ | refine w_Tuple ?_ | refine w_Join ?_ | refine w_Split ?_ | refine w_Call ?_ | refine w_DictOf ?_ | refine w_Dict0 ?_ | refine w_Dict1 ?_ | refine w_Append ?_ | refine w_Extend ?_ | refine w_PopAt ?_ | refine w_Nil ?_ | refine w_Cons ?_ | refine v_Val ?_ | refine v_And ?_ | refine v_Or ?_ | refine v_Cmp ?_ | refine v_Chain ?_ | refine v_Is ?_ | refine v_Not ?_ | refine v_Yes ?_) | ((with_reducible apply w_Var); (focus (exact rfl))) | (with_reducible first | refine wO_some (isi_I (by with_unfolding_all exact rfl)) ?_ | refine wO_some (isi_B (by with_unfolding_all exact rfl)) ?_ | refine wO_some (isi_S (by with_unfolding_all exact rfl)) ?_ | refine wO_some (isi_T (by with_unfolding_all exact rfl)) ?_ | refine wO_some (isi_L (by with_unfolding_all exact rfl)) ?_) | (first | refine ifT rfl ?_ | refine ifF rfl ?_) | (refine wO_some rfl ?_) | refine ⟨_, rfl, ?_⟩))
    refine ⟨rfl, ?_, rfl⟩
    show D.bl false = D.bl (decide _ && _)
    rw [decide_eq_false h1, Bool.false_and]
end MP.K01

set_option Elab.async false
set_option linter.all false
set_option maxRecDepth 100000
set_option maxHeartbeats 4000000
/-! k01: things made. -/
namespace MP.K01
open PySem PySem.Spec PyProof.Rows L2 MP
theorem p_take : P "_law_take" = some m_take := by kernel_rfl
theorem p_one : P "_law_one" = some m_one := by kernel_rfl
theorem p_mixed : P "_law_mixed" = some m_mixed := by kernel_rfl
theorem p_pool : P "_law_pool" = some m_pool := by kernel_rfl
theorem p_same : P "_law_yq_same" = some m_same := by kernel_rfl
theorem p_yq_whole : P "_law_yq_is_whole" = some m_whole := by kernel_rfl
theorem p_kr_names : P "_law_kr_names" = some m__law_kr_names := by kernel_rfl
theorem p_plain : P "_law_plain" = some m__law_plain := by kernel_rfl
theorem p_drawn_value : P "_law_kr_drawn_value" = some m__law_kr_drawn_value := by kernel_rfl
theorem p_drawn_row : P "_law_kr_drawn_row" = some m__law_kr_drawn_row := by kernel_rfl
theorem p_name_things : P "_law_name_things" = some m__law_name_things := by kernel_rfl
theorem p_value_things : P "_law_value_things" = some m__law_value_things := by kernel_rfl
theorem p_day_things : P "_law_day_things" = some m__law_day_things := by kernel_rfl
theorem p_columns_things : P "_law_columns_things" = some m__law_columns_things := by kernel_rfl
theorem p_heard_judge : P "_law_heard_judge" = some m__law_heard_judge := by kernel_rfl
theorem p_owed : P "_law_owed" = some m__law_owed := by kernel_rfl
theorem p_heard_row : P "_law_heard_row" = some m__law_heard_row := by kernel_rfl
theorem p_rows_right : P "_law_rows_right" = some m__law_rows_right := by kernel_rfl
theorem p_law : P "law" = some m_law := by kernel_rfl
def plainL : List D := lstOf (m__law_plain.body (cfl P 0) [none] [])
def namesL : List D := lstOf (m__law_kr_names.body (cfl P 0) [none] [])
theorem r_plain {k : Nat} {M : Mh} : callAt P (k + 1) "_law_plain" [] M = .ok (.lst plainL) M := run_eq p_plain rfl (by kernel_rfl)
theorem r_names {k : Nat} {M : Mh} : callAt P (k + 1) "_law_kr_names" [] M = .ok (.lst namesL) M := run_eq p_kr_names rfl (by kernel_rfl)
theorem plain_fit : plainL.all (fit 2) = true := by decide +kernel
theorem plain_len : plainL.length = 16 := by decide +kernel
theorem names_len : namesL.length = 24 := by decide +kernel
theorem words_len : wordL.length = 17 := by decide +kernel
theorem word_str {d : D} (h : d ∈ wordL) : ∃ s, d = .str s ∧ s.length ≤ 10 := by
  have e : (wordL.all fun d => match d with | .str s => decide (s.length ≤ 10) | _ => false) = true := by decide +kernel
  have := List.all_eq_true.mp e d h
  cases d <;> first | (cases this; done) | exact ⟨_, rfl, of_decide_eq_true this⟩
def wordsS : List D := wordL.filterMap fun d => bop .add d (.str "s")
def wordsC : List D := wordL.filterMap fun d => slcD none (some (-1)) d
theorem r_name_things {k b : Nat} {T M : Mh} (j : Jr b T M) (hb : b < 2 ^ 40) (hT : T.all (noHO 0) = true) : wpR (callAt P (k + 4) "_law_name_things" [.h 0] M) fun d M' => ∃ xs, d = .lst xs ∧ Fits 3 200 xs ∧ Jr (b + 1000) T M' := by
  refine wp_run p_name_things rfl rfl ?_
  dsimp only [m__law_name_things, List.map, List.append, List.map_cons, List.map_nil, List.length_cons, List.length_nil, List.replicate, List.cons_append, List.nil_append, Nat.reduceSub, Nat.reduceAdd]
  (repeat (first | (with_reducible first | refine z_Seq ?_ | refine z_SetN ?_ | refine z_Set ?_ | refine z_Ret ?_ | refine z_If ?_ | refine z_Expr ?_ | refine z_Next ?_ | refine z_Par ?_ | refine z_SetIx ?_ | refine w_C ?_ | refine w_Bop ?_ | refine w_BopT ?_ | refine w_Cmp ?_ | refine w_Chain ?_ | refine w_Is ?_ | refine w_Neg ?_ | refine w_Not ?_ | refine w_And ?_ | refine w_Or ?_ | refine w_Ite ?_ | refine w_Tup ?_ | refine w_Lst ?_ | refine w_LstT ?_ | refine w_Idx ?_ | refine w_SlcNN ?_ | refine w_SlcNS ?_ | refine w_SlcSN ?_ | refine w_Rev ?_ | refine w_Isi ?_ | refine w_Len ?_ | refine w_Int ?_ | refine w_Bool ?_ | refine w_Max ?_ | refine w_All ?_ | refine w_List ?_ | refine w_ListT ?_ | refine w_Tuple ?_ | refine w_Join ?_ | refine w_Split ?_ | refine w_Call ?_ | refine w_DictOf ?_ | refine w_Dict0 ?_ | refine w_Dict1 ?_ | refine w_Append ?_ | refine w_Extend ?_ | refine w_PopAt ?_ | refine w_Nil ?_ | refine w_Cons ?_ | refine v_Val ?_ | refine v_And ?_ | refine v_Or ?_ | refine v_Cmp ?_ | refine v_Chain ?_ | refine v_Is ?_ | refine v_Not ?_ | refine v_Yes ?_) | ((with_reducible apply w_Var); (focus (exact rfl)))))
  rw [cfl_call, r_plain, wpR_ok]
  (repeat (first | (with_reducible first | refine z_Seq ?_ | refine z_SetN ?_ | refine z_Set ?_ | refine z_Ret ?_ | refine z_If ?_ | refine z_Expr ?_ | refine z_Next ?_ | refine z_Par ?_ | refine z_SetIx ?_ | refine w_C ?_ | refine w_Bop ?_ | refine w_BopT ?_ | refine w_Cmp ?_ | refine w_Chain ?_ | refine w_Is ?_ | refine w_Neg ?_ | refine w_Not ?_ | refine w_And ?_ | refine w_Or ?_ | refine w_Ite ?_ | refine w_Tup ?_ | refine w_Lst ?_ | refine w_LstT ?_ | refine w_Idx ?_ | refine w_SlcNN ?_ | refine w_SlcNS ?_ | refine w_SlcSN ?_ | refine w_Rev ?_ | refine w_Isi ?_ | refine w_Len ?_ | refine w_Int ?_ | refine w_Bool ?_ | refine w_Max ?_ | refine w_All ?_ | refine w_List ?_ | refine w_ListT ?_ | refine w_Tuple ?_ | refine w_Join ?_ | refine w_Split ?_ | refine w_Call ?_ | refine w_DictOf ?_ | refine w_Dict0 ?_ | refine w_Dict1 ?_ | refine w_Append ?_ | refine w_Extend ?_ | refine w_PopAt ?_ | refine w_Nil ?_ | refine w_Cons ?_ | refine v_Val ?_ | refine v_And ?_ | refine v_Or ?_ | refine v_Cmp ?_ | refine v_Chain ?_ | refine v_Is ?_ | refine v_Not ?_ | refine v_Yes ?_) | ((with_reducible apply w_Var); (focus (exact rfl)))))
  rw [cfl_call, r_words, wpR_ok]
  refine wO_some (add_lst (by decide +kernel)) ?_
  refine w_LcP (i_Val (w_Call (w_Nil ?_)))
  rw [cfl_call, r_words, wpR_ok]
  refine wO_some rfl ⟨wordL, fun d => bop .add d (.str "s"), rfl, by decide +kernel, fun d hd => ?_, ?_⟩
  · obtain ⟨s, rfl, hs⟩ := word_str hd
    have e : bop .add (.str s) (.str "s") = some (.str (s ++ ("s" : Str))) := add_str (by have : ("s" : Str).length = 1 := (by decide +kernel); show _ ≤ 16777216; omega)
    refine eqR (wp_turn ?_)
    (refine wO_some rfl ?_)
    (repeat (first | (with_reducible first | refine z_Seq ?_ | refine z_SetN ?_ | refine z_Set ?_ | refine z_Ret ?_ | refine z_If ?_ | refine z_Expr ?_ | refine z_Next ?_ | refine z_Par ?_ | refine z_SetIx ?_ | refine w_C ?_ | refine w_Bop ?_ | refine w_BopT ?_ | refine w_Cmp ?_ | refine w_Chain ?_ | refine w_Is ?_ | refine w_Neg ?_ | refine w_Not ?_ | refine w_And ?_ | refine w_Or ?_ | refine w_Ite ?_ | refine w_Tup ?_ | refine w_Lst ?_ | refine w_LstT ?_ | refine w_Idx ?_ | refine w_SlcNN ?_ | refine w_SlcNS ?_ | refine w_SlcSN ?_ | refine w_Rev ?_ | refine w_Isi ?_ | refine w_Len ?_ | refine w_Int ?_ | refine w_Bool ?_ | refine w_Max ?_ | refine w_All ?_ | refine w_List ?_ | refine w_ListT ?_ | refine w_Tuple ?_ | refine w_Join ?_ | refine w_Split ?_ | refine w_Call ?_ | refine w_DictOf ?_ | refine w_Dict0 ?_ | refine w_Dict1 ?_ | refine w_Append ?_ | refine w_Extend ?_ | refine w_PopAt ?_ | refine w_Nil ?_ | refine w_Cons ?_ | refine v_Val ?_ | refine v_And ?_ | refine v_Or ?_ | refine v_Cmp ?_ | refine v_Chain ?_ | refine v_Is ?_ | refine v_Not ?_ | refine v_Yes ?_) | ((with_reducible apply w_Var); (focus (exact rfl)))))
    refine ifT rfl ?_
    (repeat (first | (with_reducible first | refine z_Seq ?_ | refine z_SetN ?_ | refine z_Set ?_ | refine z_Ret ?_ | refine z_If ?_ | refine z_Expr ?_ | refine z_Next ?_ | refine z_Par ?_ | refine z_SetIx ?_ | refine w_C ?_ | refine w_Bop ?_ | refine w_BopT ?_ | refine w_Cmp ?_ | refine w_Chain ?_ | refine w_Is ?_ | refine w_Neg ?_ | refine w_Not ?_ | refine w_And ?_ | refine w_Or ?_ | refine w_Ite ?_ | refine w_Tup ?_ | refine w_Lst ?_ | refine w_LstT ?_ | refine w_Idx ?_ | refine w_SlcNN ?_ | refine w_SlcNS ?_ | refine w_SlcSN ?_ | refine w_Rev ?_ | refine w_Isi ?_ | refine w_Len ?_ | refine w_Int ?_ | refine w_Bool ?_ | refine w_Max ?_ | refine w_All ?_ | refine w_List ?_ | refine w_ListT ?_ | refine w_Tuple ?_ | refine w_Join ?_ | refine w_Split ?_ | refine w_Call ?_ | refine w_DictOf ?_ | refine w_Dict0 ?_ | refine w_Dict1 ?_ | refine w_Append ?_ | refine w_Extend ?_ | refine w_PopAt ?_ | refine w_Nil ?_ | refine w_Cons ?_ | refine v_Val ?_ | refine v_And ?_ | refine v_Or ?_ | refine v_Cmp ?_ | refine v_Chain ?_ | refine v_Is ?_ | refine v_Not ?_ | refine v_Yes ?_) | ((with_reducible apply w_Var); (focus (exact rfl)))))
    exact wO_some e ⟨e.symm, rfl⟩
  refine wO_some (add_lst (by decide +kernel)) ?_
  (repeat (first | (with_reducible first | refine z_Seq ?_ | refine z_SetN ?_ | refine z_Set ?_ | refine z_Ret ?_ | refine z_If ?_ | refine z_Expr ?_ | refine z_Next ?_ | refine z_Par ?_ | refine z_SetIx ?_ | refine w_C ?_ | refine w_Bop ?_ | refine w_BopT ?_ | refine w_Cmp ?_ | refine w_Chain ?_ | refine w_Is ?_ | refine w_Neg ?_ | refine w_Not ?_ | refine w_And ?_ | refine w_Or ?_ | refine w_Ite ?_ | refine w_Tup ?_ | refine w_Lst ?_ | refine w_LstT ?_ | refine w_Idx ?_ | refine w_SlcNN ?_ | refine w_SlcNS ?_ | refine w_SlcSN ?_ | refine w_Rev ?_ | refine w_Isi ?_ | refine w_Len ?_ | refine w_Int ?_ | refine w_Bool ?_ | refine w_Max ?_ | refine w_All ?_ | refine w_List ?_ | refine w_ListT ?_ | refine w_Tuple ?_ | refine w_Join ?_ | refine w_Split ?_ | refine w_Call ?_ | refine w_DictOf ?_ | refine w_Dict0 ?_ | refine w_Dict1 ?_ | refine w_Append ?_ | refine w_Extend ?_ | refine w_PopAt ?_ | refine w_Nil ?_ | refine w_Cons ?_ | refine v_Val ?_ | refine v_And ?_ | refine v_Or ?_ | refine v_Cmp ?_ | refine v_Chain ?_ | refine v_Is ?_ | refine v_Not ?_ | refine v_Yes ?_) | ((with_reducible apply w_Var); (focus (exact rfl)))))
  rw [cfl_call, r_names, wpR_ok]
  refine ⟨_, add_lst (by decide +kernel), ?_⟩
  have f0 : Fits 3 100 (plainL ++ wordL ++ wordsS ++ namesL) := Fits.of (by decide +kernel)
  have j0 := j.app [.lst (plainL ++ wordL ++ wordsS ++ namesL)]
  rw [show List.length M = T.length + 1 from j.len]
  refine z_Seq (z_ExtF rfl j0 f0 ?_)
  refine w_Bop (w_LcP (i_Val (w_Call (w_Nil ?_))))
  rw [cfl_call, r_words, wpR_ok]
  refine wO_some rfl ⟨wordL, fun d => slcD none (some (-1)) d, rfl, by decide +kernel, fun d hd => ?_, ?_⟩
  · obtain ⟨s, rfl, hs⟩ := word_str hd
    have e : slcD none (some (-1)) (.str s) = some (.str (cutS s none (some (-1)))) := if_pos (by show _ ≤ 16777216; omega)
    refine eqR (wp_turn ?_)
    (refine wO_some rfl ?_)
    (repeat (first | (with_reducible first | refine z_Seq ?_ | refine z_SetN ?_ | refine z_Set ?_ | refine z_Ret ?_ | refine z_If ?_ | refine z_Expr ?_ | refine z_Next ?_ | refine z_Par ?_ | refine z_SetIx ?_ | refine w_C ?_ | refine w_Bop ?_ | refine w_BopT ?_ | refine w_Cmp ?_ | refine w_Chain ?_ | refine w_Is ?_ | refine w_Neg ?_ | refine w_Not ?_ | refine w_And ?_ | refine w_Or ?_ | refine w_Ite ?_ | refine w_Tup ?_ | refine w_Lst ?_ | refine w_LstT ?_ | refine w_Idx ?_ | refine w_SlcNN ?_ | refine w_SlcNS ?_ | refine w_SlcSN ?_ | refine w_Rev ?_ | refine w_Isi ?_ | refine w_Len ?_ | refine w_Int ?_ | refine w_Bool ?_ | refine w_Max ?_ | refine w_All ?_ | refine w_List ?_ | refine w_ListT ?_ | refine w_Tuple ?_ | refine w_Join ?_ | refine w_Split ?_ | refine w_Call ?_ | refine w_DictOf ?_ | refine w_Dict0 ?_ | refine w_Dict1 ?_ | refine w_Append ?_ | refine w_Extend ?_ | refine w_PopAt ?_ | refine w_Nil ?_ | refine w_Cons ?_ | refine v_Val ?_ | refine v_And ?_ | refine v_Or ?_ | refine v_Cmp ?_ | refine v_Chain ?_ | refine v_Is ?_ | refine v_Not ?_ | refine v_Yes ?_) | ((with_reducible apply w_Var); (focus (exact rfl)))))
    refine ifT rfl ?_
    (repeat (first | (with_reducible first | refine z_Seq ?_ | refine z_SetN ?_ | refine z_Set ?_ | refine z_Ret ?_ | refine z_If ?_ | refine z_Expr ?_ | refine z_Next ?_ | refine z_Par ?_ | refine z_SetIx ?_ | refine w_C ?_ | refine w_Bop ?_ | refine w_BopT ?_ | refine w_Cmp ?_ | refine w_Chain ?_ | refine w_Is ?_ | refine w_Neg ?_ | refine w_Not ?_ | refine w_And ?_ | refine w_Or ?_ | refine w_Ite ?_ | refine w_Tup ?_ | refine w_Lst ?_ | refine w_LstT ?_ | refine w_Idx ?_ | refine w_SlcNN ?_ | refine w_SlcNS ?_ | refine w_SlcSN ?_ | refine w_Rev ?_ | refine w_Isi ?_ | refine w_Len ?_ | refine w_Int ?_ | refine w_Bool ?_ | refine w_Max ?_ | refine w_All ?_ | refine w_List ?_ | refine w_ListT ?_ | refine w_Tuple ?_ | refine w_Join ?_ | refine w_Split ?_ | refine w_Call ?_ | refine w_DictOf ?_ | refine w_Dict0 ?_ | refine w_Dict1 ?_ | refine w_Append ?_ | refine w_Extend ?_ | refine w_PopAt ?_ | refine w_Nil ?_ | refine w_Cons ?_ | refine v_Val ?_ | refine v_And ?_ | refine v_Or ?_ | refine v_Cmp ?_ | refine v_Chain ?_ | refine v_Is ?_ | refine v_Not ?_ | refine v_Yes ?_) | ((with_reducible apply w_Var); (focus (exact rfl)))))
    refine ⟨_, rfl, _, rfl, ?_⟩
    exact wO_some e ⟨e.symm, rfl⟩
  (repeat (first | (with_reducible first | refine z_Seq ?_ | refine z_SetN ?_ | refine z_Set ?_ | refine z_Ret ?_ | refine z_If ?_ | refine z_Expr ?_ | refine z_Next ?_ | refine z_Par ?_ | refine z_SetIx ?_ | refine w_C ?_ | refine w_Bop ?_ | refine w_BopT ?_ | refine w_Cmp ?_ | refine w_Chain ?_ | refine w_Is ?_ | refine w_Neg ?_ | refine w_Not ?_ | refine w_And ?_ | refine w_Or ?_ | refine w_Ite ?_ | refine w_Tup ?_ | refine w_Lst ?_ | refine w_LstT ?_ | refine w_Idx ?_ | refine w_SlcNN ?_ | refine w_SlcNS ?_ | refine w_SlcSN ?_ | refine w_Rev ?_ | refine w_Isi ?_ | refine w_Len ?_ | refine w_Int ?_ | refine w_Bool ?_ | refine w_Max ?_ | refine w_All ?_ | refine w_List ?_ | refine w_ListT ?_ | refine w_Tuple ?_ | refine w_Join ?_ | refine w_Split ?_ | refine w_Call ?_ | refine w_DictOf ?_ | refine w_Dict0 ?_ | refine w_Dict1 ?_ | refine w_Append ?_ | refine w_Extend ?_ | refine w_PopAt ?_ | refine w_Nil ?_ | refine w_Cons ?_ | refine v_Val ?_ | refine v_And ?_ | refine v_Or ?_ | refine v_Cmp ?_ | refine v_Chain ?_ | refine v_Is ?_ | refine v_Not ?_ | refine v_Yes ?_) | ((with_reducible apply w_Var); (focus (exact rfl)))))
  refine ⟨by simp [line], ?_⟩
  refine wO_some (add_lst (by decide +kernel)) ?_
  refine ⟨_, 21, b, rfl, j0, Fits.of (by decide +kernel), by decide, fun x1 M1 f1 j1 => ?_⟩
  clear j0 f0
  refine z_Seq (z_ExtF rfl j1 f1 ?_)
  (repeat (first | (with_reducible first | refine z_Seq ?_ | refine z_SetN ?_ | refine z_Set ?_ | refine z_Ret ?_ | refine z_If ?_ | refine z_Expr ?_ | refine z_Next ?_ | refine z_Par ?_ | refine z_SetIx ?_ | refine w_C ?_ | refine w_Bop ?_ | refine w_BopT ?_ | refine w_Cmp ?_ | refine w_Chain ?_ | refine w_Is ?_ | refine w_Neg ?_ | refine w_Not ?_ | refine w_And ?_ | refine w_Or ?_ | refine w_Ite ?_ | refine w_Tup ?_ | refine w_Lst ?_ | refine w_LstT ?_ | refine w_Idx ?_ | refine w_SlcNN ?_ | refine w_SlcNS ?_ | refine w_SlcSN ?_ | refine w_Rev ?_ | refine w_Isi ?_ | refine w_Len ?_ | refine w_Int ?_ | refine w_Bool ?_ | refine w_Max ?_ | refine w_All ?_ | refine w_List ?_ | refine w_ListT ?_ | refine w_Tuple ?_ | refine w_Join ?_ | refine w_Split ?_ | refine w_Call ?_ | refine w_DictOf ?_ | refine w_Dict0 ?_ | refine w_Dict1 ?_ | refine w_Append ?_ | refine w_Extend ?_ | refine w_PopAt ?_ | refine w_Nil ?_ | refine w_Cons ?_ | refine v_Val ?_ | refine v_And ?_ | refine v_Or ?_ | refine v_Cmp ?_ | refine v_Chain ?_ | refine v_Is ?_ | refine v_Not ?_ | refine v_Yes ?_) | ((with_reducible apply w_Var); (focus (exact rfl)))))
  refine ⟨by simp [line], ?_⟩
  refine ⟨_, 5, b, rfl, j1, Fits.of (by decide +kernel), by decide, fun x2 M2 f2 j2 => ?_⟩
  clear j1 f1
  refine z_Seq (z_ExtF rfl j2 f2 ?_)
  (repeat (first | (with_reducible first | refine z_Seq ?_ | refine z_SetN ?_ | refine z_Set ?_ | refine z_Ret ?_ | refine z_If ?_ | refine z_Expr ?_ | refine z_Next ?_ | refine z_Par ?_ | refine z_SetIx ?_ | refine w_C ?_ | refine w_Bop ?_ | refine w_BopT ?_ | refine w_Cmp ?_ | refine w_Chain ?_ | refine w_Is ?_ | refine w_Neg ?_ | refine w_Not ?_ | refine w_And ?_ | refine w_Or ?_ | refine w_Ite ?_ | refine w_Tup ?_ | refine w_Lst ?_ | refine w_LstT ?_ | refine w_Idx ?_ | refine w_SlcNN ?_ | refine w_SlcNS ?_ | refine w_SlcSN ?_ | refine w_Rev ?_ | refine w_Isi ?_ | refine w_Len ?_ | refine w_Int ?_ | refine w_Bool ?_ | refine w_Max ?_ | refine w_All ?_ | refine w_List ?_ | refine w_ListT ?_ | refine w_Tuple ?_ | refine w_Join ?_ | refine w_Split ?_ | refine w_Call ?_ | refine w_DictOf ?_ | refine w_Dict0 ?_ | refine w_Dict1 ?_ | refine w_Append ?_ | refine w_Extend ?_ | refine w_PopAt ?_ | refine w_Nil ?_ | refine w_Cons ?_ | refine v_Val ?_ | refine v_And ?_ | refine v_Or ?_ | refine v_Cmp ?_ | refine v_Chain ?_ | refine v_Is ?_ | refine v_Not ?_ | refine v_Yes ?_) | ((with_reducible apply w_Var); (focus (exact rfl)))))
  refine ⟨by simp [line], ?_⟩
  refine ⟨_, 13, b, rfl, j2, Fits.of (by decide +kernel), by decide, fun x3 M3 f3 j3 => ?_⟩
  clear j2 f2
  refine z_Seq (z_SetN (w_C ?_))
  refine z_Seq (z_ForF (i_Range (w_C ?_)))
  refine ⟨20, rfl, by decide, _, fun i ρ M1 => (∃ o3 o4 o5, ρ = [some (.h 0), some (.h (T.length + 1)), some (.str letS), o3, o4, o5]) ∧ ∃ xs, Fits 3 (139 + i) xs ∧ Jr (b + 20 * i) (T ++ [.lst xs]) M1, rfl, ⟨⟨_, _, _, rfl⟩, x3, f3, j3⟩, ?_, ?_⟩
  · rintro i d ρ M4 hd ⟨⟨o3, o4, o5, rfl⟩, xs, f, j4⟩
    obtain ⟨hi, rfl⟩ := nums_get hd
    (refine wO_some rfl ?_)
    refine z_AppF rfl j4 f (by omega) ?_
    refine w_Word (T ++ [.lst xs]) (by decide +kernel) (m := 10) (by decide) ?_
    (repeat (first | (with_reducible first | refine z_Seq ?_ | refine z_SetN ?_ | refine z_Set ?_ | refine z_Ret ?_ | refine z_If ?_ | refine z_Expr ?_ | refine z_Next ?_ | refine z_Par ?_ | refine z_SetIx ?_ | refine w_C ?_ | refine w_Bop ?_ | refine w_BopT ?_ | refine w_Cmp ?_ | refine w_Chain ?_ | refine w_Is ?_ | refine w_Neg ?_ | refine w_Not ?_ | refine w_And ?_ | refine w_Or ?_ | refine w_Ite ?_ | refine w_Tup ?_ | refine w_Lst ?_ | refine w_LstT ?_ | refine w_Idx ?_ | refine w_SlcNN ?_ | refine w_SlcNS ?_ | refine w_SlcSN ?_ | refine w_Rev ?_ | refine w_Isi ?_ | refine w_Len ?_ | refine w_Int ?_ | refine w_Bool ?_ | refine w_Max ?_ | refine w_All ?_ | refine w_List ?_ | refine w_ListT ?_ | refine w_Tuple ?_ | refine w_Join ?_ | refine w_Split ?_ | refine w_Call ?_ | refine w_DictOf ?_ | refine w_Dict0 ?_ | refine w_Dict1 ?_ | refine w_Append ?_ | refine w_Extend ?_ | refine w_PopAt ?_ | refine w_Nil ?_ | refine w_Cons ?_ | refine v_Val ?_ | refine v_And ?_ | refine v_Or ?_ | refine v_Cmp ?_ | refine v_Chain ?_ | refine v_Is ?_ | refine v_Not ?_ | refine v_Yes ?_) | ((with_reducible apply w_Var); (focus (exact rfl)))))
    rw [cfl_call]
    refine wpR_imp (r_take p_take j4 (m := 10) (by decide) (by omega)) ?_
    rintro _ M5 ⟨n, rfl, hn, j5⟩
    refine wO_some add_ok ⟨(1 + n).toNat, _, by congr 1; omega, by omega, j5, fun m M6 j6 hm => ?_, fun w M6 hw j6 => ?_⟩
    · (repeat (first | (with_reducible first | refine z_Seq ?_ | refine z_SetN ?_ | refine z_Set ?_ | refine z_Ret ?_ | refine z_If ?_ | refine z_Expr ?_ | refine z_Next ?_ | refine z_Par ?_ | refine z_SetIx ?_ | refine w_C ?_ | refine w_Bop ?_ | refine w_BopT ?_ | refine w_Cmp ?_ | refine w_Chain ?_ | refine w_Is ?_ | refine w_Neg ?_ | refine w_Not ?_ | refine w_And ?_ | refine w_Or ?_ | refine w_Ite ?_ | refine w_Tup ?_ | refine w_Lst ?_ | refine w_LstT ?_ | refine w_Idx ?_ | refine w_SlcNN ?_ | refine w_SlcNS ?_ | refine w_SlcSN ?_ | refine w_Rev ?_ | refine w_Isi ?_ | refine w_Len ?_ | refine w_Int ?_ | refine w_Bool ?_ | refine w_Max ?_ | refine w_All ?_ | refine w_List ?_ | refine w_ListT ?_ | refine w_Tuple ?_ | refine w_Join ?_ | refine w_Split ?_ | refine w_Call ?_ | refine w_DictOf ?_ | refine w_Dict0 ?_ | refine w_Dict1 ?_ | refine w_Append ?_ | refine w_Extend ?_ | refine w_PopAt ?_ | refine w_Nil ?_ | refine w_Cons ?_ | refine v_Val ?_ | refine v_And ?_ | refine v_Or ?_ | refine v_Cmp ?_ | refine v_Chain ?_ | refine v_Is ?_ | refine v_Not ?_ | refine v_Yes ?_) | ((with_reducible apply w_Var); (focus (exact rfl)))))
      rw [cfl_call]
      refine wpR_imp (r_oneS p_take p_one j6 (s := letS) (by decide +kernel) (by omega)) ?_
      rintro d M7 ⟨hd, j7⟩
      exact ⟨sgn_signs hd, j7⟩
    · refine ⟨b + 20 * (i + 1), j6.mono (by omega), decide_eq_true (by omega), fun xs' M7 f7 j7 => ?_⟩
      exact ⟨⟨_, _, _, rfl⟩, xs', f7, j7⟩
  · rintro ρ M4 ⟨⟨o3, o4, o5, rfl⟩, xs, f, j4⟩
    (repeat (first | (with_reducible first | refine z_Seq ?_ | refine z_SetN ?_ | refine z_Set ?_ | refine z_Ret ?_ | refine z_If ?_ | refine z_Expr ?_ | refine z_Next ?_ | refine z_Par ?_ | refine z_SetIx ?_ | refine w_C ?_ | refine w_Bop ?_ | refine w_BopT ?_ | refine w_Cmp ?_ | refine w_Chain ?_ | refine w_Is ?_ | refine w_Neg ?_ | refine w_Not ?_ | refine w_And ?_ | refine w_Or ?_ | refine w_Ite ?_ | refine w_Tup ?_ | refine w_Lst ?_ | refine w_LstT ?_ | refine w_Idx ?_ | refine w_SlcNN ?_ | refine w_SlcNS ?_ | refine w_SlcSN ?_ | refine w_Rev ?_ | refine w_Isi ?_ | refine w_Len ?_ | refine w_Int ?_ | refine w_Bool ?_ | refine w_Max ?_ | refine w_All ?_ | refine w_List ?_ | refine w_ListT ?_ | refine w_Tuple ?_ | refine w_Join ?_ | refine w_Split ?_ | refine w_Call ?_ | refine w_DictOf ?_ | refine w_Dict0 ?_ | refine w_Dict1 ?_ | refine w_Append ?_ | refine w_Extend ?_ | refine w_PopAt ?_ | refine w_Nil ?_ | refine w_Cons ?_ | refine v_Val ?_ | refine v_And ?_ | refine v_Or ?_ | refine v_Cmp ?_ | refine v_Chain ?_ | refine v_Is ?_ | refine v_Not ?_ | refine v_Yes ?_) | ((with_reducible apply w_Var); (focus (exact rfl)))))
    rw [nums_len] at f j4
    exact end_own rfl j4 f.noH hT fun M' j' => ⟨xs, rfl, f.le (by decide), j'.mono (by omega)⟩
end MP.K01

set_option Elab.async false
set_option linter.all false
set_option maxRecDepth 100000
set_option maxHeartbeats 4000000
/-! k01: things made, 2. -/
namespace MP
open PySem PySem.Spec PyProof.Rows L2
theorem w_NegC {c : Cf} {ρ : Rho} {M : Mh} {i : Int} {Q : D → Mh → Prop} (q : Q (.int (-i)) M) : wpR (sNeg (sC (.int i)) c ρ M) Q := q
theorem mul_str {s : Str} {j : Int} (h : 0 < j ∧ j ≤ 1000 ∧ s.length ≤ 1000) : bop .mul (.str s) (.int j) = some (.str (Txt.mul s j)) := if_pos h
theorem itemsD_str {s : Str} (h : s.length ≤ line) : itemsD (.str s) = some (signs s) := if_pos h
theorem pow_int {i j : Int} (h : 0 ≤ j ∧ j ≤ 1000000 ∧ i.natAbs < 2 ^ 64) : bop .pow (.int i) (.int j) = some (.int (i ^ j.toNat)) := if_pos h
end MP
namespace MP.K01
open PySem PySem.Spec PyProof.Rows L2 MP
def signsL : List D := signs "abcxyz0189 " ++ signs "AZ_-+.,:;'|()[]<=>*/" ++ [.str "\t", .str "\n"]
theorem signsL_sgn {d : D} (h : d ∈ signsL) : sgn d := by
  rcases List.mem_append.mp h with h | h
  · rcases List.mem_append.mp h with h | h
    · exact sgn_signs h
    · exact sgn_signs h
  · rcases List.mem_cons.mp h with h | h
    · exact ⟨9, by rw [h]; kernel_rfl⟩
    · rw [List.mem_singleton.mp h]
      exact ⟨10, by kernel_rfl⟩
theorem r_value_things {k b : Nat} {T M : Mh} (j : Jr b T M) (hb : b < 2 ^ 40) (hT : T.all (noHO 0) = true) : wpR (callAt P (k + 4) "_law_value_things" [.h 0] M) fun d M' => ∃ xs, d = .lst xs ∧ Fits 3 200 xs ∧ Jr (b + 1000) T M' := by
  refine wp_run p_value_things rfl rfl ?_
  dsimp only [m__law_value_things, List.map, List.append, List.map_cons, List.map_nil, List.length_cons, List.length_nil, List.replicate, List.cons_append, List.nil_append, Nat.reduceSub, Nat.reduceAdd]
  (repeat (first | (with_reducible first | refine z_Seq ?_ | refine z_SetN ?_ | refine z_Set ?_ | refine z_Ret ?_ | refine z_If ?_ | refine z_Expr ?_ | refine z_Next ?_ | refine z_Par ?_ | refine z_SetIx ?_ | refine w_C ?_ | refine w_Bop ?_ | refine w_BopT ?_ | refine w_Cmp ?_ | refine w_Chain ?_ | refine w_Is ?_ | refine w_Neg ?_ | refine w_Not ?_ | refine w_And ?_ | refine w_Or ?_ | refine w_Ite ?_ | refine w_Tup ?_ | refine w_Lst ?_ | refine w_LstT ?_ | refine w_Idx ?_ | refine w_SlcNN ?_ | refine w_SlcNS ?_ | refine w_SlcSN ?_ | refine w_Rev ?_ | refine w_Isi ?_ | refine w_Len ?_ | refine w_Int ?_ | refine w_Bool ?_ | refine w_Max ?_ | refine w_All ?_ | refine w_List ?_ | refine w_ListT ?_ | refine w_Tuple ?_ | refine w_Join ?_ | refine w_Split ?_ | refine w_Call ?_ | refine w_DictOf ?_ | refine w_Dict0 ?_ | refine w_Dict1 ?_ | refine w_Append ?_ | refine w_Extend ?_ | refine w_PopAt ?_ | refine w_Nil ?_ | refine w_Cons ?_ | refine v_Val ?_ | refine v_And ?_ | refine v_Or ?_ | refine v_Cmp ?_ | refine v_Chain ?_ | refine v_Is ?_ | refine v_Not ?_ | refine v_Yes ?_) | ((with_reducible apply w_Var); (focus (exact rfl)))))
  rw [cfl_call, r_plain, wpR_ok]
  (repeat (first | (with_reducible refine w_NegC ?_) | (with_reducible first | refine z_Seq ?_ | refine z_SetN ?_ | refine z_Set ?_ | refine z_Ret ?_ | refine z_If ?_ | refine z_Expr ?_ | refine z_Next ?_ | refine z_Par ?_ | refine z_SetIx ?_ | refine w_C ?_ | refine w_Bop ?_ | refine w_BopT ?_ | refine w_Cmp ?_ | refine w_Chain ?_ | refine w_Is ?_ | refine w_Neg ?_ | refine w_Not ?_ | refine w_And ?_ | refine w_Or ?_ | refine w_Ite ?_ | refine w_Tup ?_ | refine w_Lst ?_ | refine w_LstT ?_ | refine w_Idx ?_ | refine w_SlcNN ?_ | refine w_SlcNS ?_ | refine w_SlcSN ?_ | refine w_Rev ?_ | refine w_Isi ?_ | refine w_Len ?_ | refine w_Int ?_ | refine w_Bool ?_ | refine w_Max ?_ | refine w_All ?_ | refine w_List ?_ | refine w_ListT ?_ | refine w_Tuple ?_ | refine w_Join ?_ | refine w_Split ?_ | refine w_Call ?_ | refine w_DictOf ?_ | refine w_Dict0 ?_ | refine w_Dict1 ?_ | refine w_Append ?_ | refine w_Extend ?_ | refine w_PopAt ?_ | refine w_Nil ?_ | refine w_Cons ?_ | refine v_Val ?_ | refine v_And ?_ | refine v_Or ?_ | refine v_Cmp ?_ | refine v_Chain ?_ | refine v_Is ?_ | refine v_Not ?_ | refine v_Yes ?_) | ((with_reducible apply w_Var); (focus (exact rfl))) | refine wO_some (mul_str (by decide +kernel)) ?_ | refine wO_some (pow_int (by decide)) ?_ | (refine wO_some sub_ok ?_) | refine And.intro (by simp [line]; done) ?_))
  refine ⟨_, add_lst (by decide +kernel), ?_⟩
  have f0 : Fits 3 22 (plainL ++ [D.str (Txt.mul "z" 20), D.str (Txt.mul "z" 21), D.str (Txt.mul " " 20), D.str (Txt.mul " " 21), D.str (Txt.mul "0" 20), D.str (Txt.mul "0" 21)]) := Fits.of (by decide +kernel)
  have j0 := j.app [.lst (plainL ++ [D.str (Txt.mul "z" 20), D.str (Txt.mul "z" 21), D.str (Txt.mul " " 20), D.str (Txt.mul " " 21), D.str (Txt.mul "0" 20), D.str (Txt.mul "0" 21)])]
  rw [show List.length M = T.length + 1 from j.len]
  refine z_Seq (z_ExtF rfl j0 f0 ?_)
  (repeat (first | (with_reducible refine w_NegC ?_) | (with_reducible first | refine z_Seq ?_ | refine z_SetN ?_ | refine z_Set ?_ | refine z_Ret ?_ | refine z_If ?_ | refine z_Expr ?_ | refine z_Next ?_ | refine z_Par ?_ | refine z_SetIx ?_ | refine w_C ?_ | refine w_Bop ?_ | refine w_BopT ?_ | refine w_Cmp ?_ | refine w_Chain ?_ | refine w_Is ?_ | refine w_Neg ?_ | refine w_Not ?_ | refine w_And ?_ | refine w_Or ?_ | refine w_Ite ?_ | refine w_Tup ?_ | refine w_Lst ?_ | refine w_LstT ?_ | refine w_Idx ?_ | refine w_SlcNN ?_ | refine w_SlcNS ?_ | refine w_SlcSN ?_ | refine w_Rev ?_ | refine w_Isi ?_ | refine w_Len ?_ | refine w_Int ?_ | refine w_Bool ?_ | refine w_Max ?_ | refine w_All ?_ | refine w_List ?_ | refine w_ListT ?_ | refine w_Tuple ?_ | refine w_Join ?_ | refine w_Split ?_ | refine w_Call ?_ | refine w_DictOf ?_ | refine w_Dict0 ?_ | refine w_Dict1 ?_ | refine w_Append ?_ | refine w_Extend ?_ | refine w_PopAt ?_ | refine w_Nil ?_ | refine w_Cons ?_ | refine v_Val ?_ | refine v_And ?_ | refine v_Or ?_ | refine v_Cmp ?_ | refine v_Chain ?_ | refine v_Is ?_ | refine v_Not ?_ | refine v_Yes ?_) | ((with_reducible apply w_Var); (focus (exact rfl))) | refine wO_some (mul_str (by decide +kernel)) ?_ | refine wO_some (pow_int (by decide)) ?_ | (refine wO_some sub_ok ?_) | refine And.intro (by simp [line]; done) ?_))
  refine ⟨_, 7, b, rfl, j0, Fits.of (by decide +kernel), by decide, fun x1 M1 f1 j1 => ?_⟩
  clear j0 f0
  refine z_Seq (z_ExtF rfl j1 f1 ?_)
  (repeat (first | (with_reducible refine w_NegC ?_) | (with_reducible first | refine z_Seq ?_ | refine z_SetN ?_ | refine z_Set ?_ | refine z_Ret ?_ | refine z_If ?_ | refine z_Expr ?_ | refine z_Next ?_ | refine z_Par ?_ | refine z_SetIx ?_ | refine w_C ?_ | refine w_Bop ?_ | refine w_BopT ?_ | refine w_Cmp ?_ | refine w_Chain ?_ | refine w_Is ?_ | refine w_Neg ?_ | refine w_Not ?_ | refine w_And ?_ | refine w_Or ?_ | refine w_Ite ?_ | refine w_Tup ?_ | refine w_Lst ?_ | refine w_LstT ?_ | refine w_Idx ?_ | refine w_SlcNN ?_ | refine w_SlcNS ?_ | refine w_SlcSN ?_ | refine w_Rev ?_ | refine w_Isi ?_ | refine w_Len ?_ | refine w_Int ?_ | refine w_Bool ?_ | refine w_Max ?_ | refine w_All ?_ | refine w_List ?_ | refine w_ListT ?_ | refine w_Tuple ?_ | refine w_Join ?_ | refine w_Split ?_ | refine w_Call ?_ | refine w_DictOf ?_ | refine w_Dict0 ?_ | refine w_Dict1 ?_ | refine w_Append ?_ | refine w_Extend ?_ | refine w_PopAt ?_ | refine w_Nil ?_ | refine w_Cons ?_ | refine v_Val ?_ | refine v_And ?_ | refine v_Or ?_ | refine v_Cmp ?_ | refine v_Chain ?_ | refine v_Is ?_ | refine v_Not ?_ | refine v_Yes ?_) | ((with_reducible apply w_Var); (focus (exact rfl))) | refine wO_some (mul_str (by decide +kernel)) ?_ | refine wO_some (pow_int (by decide)) ?_ | (refine wO_some sub_ok ?_) | refine And.intro (by simp [line]; done) ?_))
  refine ⟨_, 6, b, rfl, j1, Fits.of (by decide +kernel), by decide, fun x2 M2 f2 j2 => ?_⟩
  clear j1 f1
  refine z_Seq (z_SetN ?_)
  (repeat (first | (with_reducible first | refine z_Seq ?_ | refine z_SetN ?_ | refine z_Set ?_ | refine z_Ret ?_ | refine z_If ?_ | refine z_Expr ?_ | refine z_Next ?_ | refine z_Par ?_ | refine z_SetIx ?_ | refine w_C ?_ | refine w_Bop ?_ | refine w_BopT ?_ | refine w_Cmp ?_ | refine w_Chain ?_ | refine w_Is ?_ | refine w_Neg ?_ | refine w_Not ?_ | refine w_And ?_ | refine w_Or ?_ | refine w_Ite ?_ | refine w_Tup ?_ | refine w_Lst ?_ | refine w_LstT ?_ | refine w_Idx ?_ | refine w_SlcNN ?_ | refine w_SlcNS ?_ | refine w_SlcSN ?_ | refine w_Rev ?_ | refine w_Isi ?_ | refine w_Len ?_ | refine w_Int ?_ | refine w_Bool ?_ | refine w_Max ?_ | refine w_All ?_ | refine w_List ?_ | refine w_ListT ?_ | refine w_Tuple ?_ | refine w_Join ?_ | refine w_Split ?_ | refine w_Call ?_ | refine w_DictOf ?_ | refine w_Dict0 ?_ | refine w_Dict1 ?_ | refine w_Append ?_ | refine w_Extend ?_ | refine w_PopAt ?_ | refine w_Nil ?_ | refine w_Cons ?_ | refine v_Val ?_ | refine v_And ?_ | refine v_Or ?_ | refine v_Cmp ?_ | refine v_Chain ?_ | refine v_Is ?_ | refine v_Not ?_ | refine v_Yes ?_) | ((with_reducible apply w_Var); (focus (exact rfl)))))
  refine wO_some (itemsD_str (by decide +kernel)) ?_
  (repeat (first | (with_reducible first | refine z_Seq ?_ | refine z_SetN ?_ | refine z_Set ?_ | refine z_Ret ?_ | refine z_If ?_ | refine z_Expr ?_ | refine z_Next ?_ | refine z_Par ?_ | refine z_SetIx ?_ | refine w_C ?_ | refine w_Bop ?_ | refine w_BopT ?_ | refine w_Cmp ?_ | refine w_Chain ?_ | refine w_Is ?_ | refine w_Neg ?_ | refine w_Not ?_ | refine w_And ?_ | refine w_Or ?_ | refine w_Ite ?_ | refine w_Tup ?_ | refine w_Lst ?_ | refine w_LstT ?_ | refine w_Idx ?_ | refine w_SlcNN ?_ | refine w_SlcNS ?_ | refine w_SlcSN ?_ | refine w_Rev ?_ | refine w_Isi ?_ | refine w_Len ?_ | refine w_Int ?_ | refine w_Bool ?_ | refine w_Max ?_ | refine w_All ?_ | refine w_List ?_ | refine w_ListT ?_ | refine w_Tuple ?_ | refine w_Join ?_ | refine w_Split ?_ | refine w_Call ?_ | refine w_DictOf ?_ | refine w_Dict0 ?_ | refine w_Dict1 ?_ | refine w_Append ?_ | refine w_Extend ?_ | refine w_PopAt ?_ | refine w_Nil ?_ | refine w_Cons ?_ | refine v_Val ?_ | refine v_And ?_ | refine v_Or ?_ | refine v_Cmp ?_ | refine v_Chain ?_ | refine v_Is ?_ | refine v_Not ?_ | refine v_Yes ?_) | ((with_reducible apply w_Var); (focus (exact rfl)))))
  refine wO_some (itemsD_str (by decide +kernel)) ?_
  refine wO_some (add_lst (by decide +kernel)) ?_
  (repeat (first | (with_reducible refine w_NegC ?_) | (with_reducible first | refine z_Seq ?_ | refine z_SetN ?_ | refine z_Set ?_ | refine z_Ret ?_ | refine z_If ?_ | refine z_Expr ?_ | refine z_Next ?_ | refine z_Par ?_ | refine z_SetIx ?_ | refine w_C ?_ | refine w_Bop ?_ | refine w_BopT ?_ | refine w_Cmp ?_ | refine w_Chain ?_ | refine w_Is ?_ | refine w_Neg ?_ | refine w_Not ?_ | refine w_And ?_ | refine w_Or ?_ | refine w_Ite ?_ | refine w_Tup ?_ | refine w_Lst ?_ | refine w_LstT ?_ | refine w_Idx ?_ | refine w_SlcNN ?_ | refine w_SlcNS ?_ | refine w_SlcSN ?_ | refine w_Rev ?_ | refine w_Isi ?_ | refine w_Len ?_ | refine w_Int ?_ | refine w_Bool ?_ | refine w_Max ?_ | refine w_All ?_ | refine w_List ?_ | refine w_ListT ?_ | refine w_Tuple ?_ | refine w_Join ?_ | refine w_Split ?_ | refine w_Call ?_ | refine w_DictOf ?_ | refine w_Dict0 ?_ | refine w_Dict1 ?_ | refine w_Append ?_ | refine w_Extend ?_ | refine w_PopAt ?_ | refine w_Nil ?_ | refine w_Cons ?_ | refine v_Val ?_ | refine v_And ?_ | refine v_Or ?_ | refine v_Cmp ?_ | refine v_Chain ?_ | refine v_Is ?_ | refine v_Not ?_ | refine v_Yes ?_) | ((with_reducible apply w_Var); (focus (exact rfl))) | refine wO_some (mul_str (by decide +kernel)) ?_ | refine wO_some (pow_int (by decide)) ?_ | (refine wO_some sub_ok ?_) | refine And.intro (by simp [line]; done) ?_))
  refine wO_some (add_lst (by decide +kernel)) ?_
  refine z_Seq (z_ForF (i_Val (w_Var rfl (wO_some rfl ?_))))
  have hsl : signsL.length = 33 := by decide +kernel
  refine ⟨signsL, fun i ρ M1 => (∃ o3 o4 o5, ρ = [some (.h 0), some (.h (T.length + 1)), some (.lst signsL), o3, o4, o5]) ∧ ∃ xs, Fits 3 (35 + 3 * i) xs ∧ Jr b (T ++ [.lst xs]) M1, rfl, ⟨⟨_, _, _, rfl⟩, x2, f2, j2⟩, ?_, ?_⟩
  · rintro i d ρ M4 hd ⟨⟨o3, o4, o5, rfl⟩, xs, f, j4⟩
    obtain ⟨c, rfl⟩ := signsL_sgn (List.mem_of_getElem? hd)
    have hi := (List.getElem?_eq_some_iff.mp hd).1
    (refine wO_some rfl ?_)
    refine z_ExtF rfl j4 f ?_
    have la : ("a" : Str).length = 1 := by decide +kernel
    have lb : (Txt.mul "b" 19).length = 19 := by decide +kernel
    have lc : (⟨#[c]⟩ : Str).length = 1 := rfl
    (repeat (first | (with_reducible first | refine z_Seq ?_ | refine z_SetN ?_ | refine z_Set ?_ | refine z_Ret ?_ | refine z_If ?_ | refine z_Expr ?_ | refine z_Next ?_ | refine z_Par ?_ | refine z_SetIx ?_ | refine w_C ?_ | refine w_Bop ?_ | refine w_BopT ?_ | refine w_Cmp ?_ | refine w_Chain ?_ | refine w_Is ?_ | refine w_Neg ?_ | refine w_Not ?_ | refine w_And ?_ | refine w_Or ?_ | refine w_Ite ?_ | refine w_Tup ?_ | refine w_Lst ?_ | refine w_LstT ?_ | refine w_Idx ?_ | refine w_SlcNN ?_ | refine w_SlcNS ?_ | refine w_SlcSN ?_ | refine w_Rev ?_ | refine w_Isi ?_ | refine w_Len ?_ | refine w_Int ?_ | refine w_Bool ?_ | refine w_Max ?_ | refine w_All ?_ | refine w_List ?_ | refine w_ListT ?_ | refine w_Tuple ?_ | refine w_Join ?_ | refine w_Split ?_ | refine w_Call ?_ | refine w_DictOf ?_ | refine w_Dict0 ?_ | refine w_Dict1 ?_ | refine w_Append ?_ | refine w_Extend ?_ | refine w_PopAt ?_ | refine w_Nil ?_ | refine w_Cons ?_ | refine v_Val ?_ | refine v_And ?_ | refine v_Or ?_ | refine v_Cmp ?_ | refine v_Chain ?_ | refine v_Is ?_ | refine v_Not ?_ | refine v_Yes ?_) | ((with_reducible apply w_Var); (focus (exact rfl)))))
    refine wO_some (add_str (by rw [la, lc]; decide)) ?_
    (repeat (first | (with_reducible first | refine z_Seq ?_ | refine z_SetN ?_ | refine z_Set ?_ | refine z_Ret ?_ | refine z_If ?_ | refine z_Expr ?_ | refine z_Next ?_ | refine z_Par ?_ | refine z_SetIx ?_ | refine w_C ?_ | refine w_Bop ?_ | refine w_BopT ?_ | refine w_Cmp ?_ | refine w_Chain ?_ | refine w_Is ?_ | refine w_Neg ?_ | refine w_Not ?_ | refine w_And ?_ | refine w_Or ?_ | refine w_Ite ?_ | refine w_Tup ?_ | refine w_Lst ?_ | refine w_LstT ?_ | refine w_Idx ?_ | refine w_SlcNN ?_ | refine w_SlcNS ?_ | refine w_SlcSN ?_ | refine w_Rev ?_ | refine w_Isi ?_ | refine w_Len ?_ | refine w_Int ?_ | refine w_Bool ?_ | refine w_Max ?_ | refine w_All ?_ | refine w_List ?_ | refine w_ListT ?_ | refine w_Tuple ?_ | refine w_Join ?_ | refine w_Split ?_ | refine w_Call ?_ | refine w_DictOf ?_ | refine w_Dict0 ?_ | refine w_Dict1 ?_ | refine w_Append ?_ | refine w_Extend ?_ | refine w_PopAt ?_ | refine w_Nil ?_ | refine w_Cons ?_ | refine v_Val ?_ | refine v_And ?_ | refine v_Or ?_ | refine v_Cmp ?_ | refine v_Chain ?_ | refine v_Is ?_ | refine v_Not ?_ | refine v_Yes ?_) | ((with_reducible apply w_Var); (focus (exact rfl)))))
    refine wO_some (mul_str (by decide +kernel)) ?_
    refine wO_some (add_str (by rw [lb, lc]; decide)) ?_
    (repeat (first | (with_reducible refine w_NegC ?_) | (with_reducible first | refine z_Seq ?_ | refine z_SetN ?_ | refine z_Set ?_ | refine z_Ret ?_ | refine z_If ?_ | refine z_Expr ?_ | refine z_Next ?_ | refine z_Par ?_ | refine z_SetIx ?_ | refine w_C ?_ | refine w_Bop ?_ | refine w_BopT ?_ | refine w_Cmp ?_ | refine w_Chain ?_ | refine w_Is ?_ | refine w_Neg ?_ | refine w_Not ?_ | refine w_And ?_ | refine w_Or ?_ | refine w_Ite ?_ | refine w_Tup ?_ | refine w_Lst ?_ | refine w_LstT ?_ | refine w_Idx ?_ | refine w_SlcNN ?_ | refine w_SlcNS ?_ | refine w_SlcSN ?_ | refine w_Rev ?_ | refine w_Isi ?_ | refine w_Len ?_ | refine w_Int ?_ | refine w_Bool ?_ | refine w_Max ?_ | refine w_All ?_ | refine w_List ?_ | refine w_ListT ?_ | refine w_Tuple ?_ | refine w_Join ?_ | refine w_Split ?_ | refine w_Call ?_ | refine w_DictOf ?_ | refine w_Dict0 ?_ | refine w_Dict1 ?_ | refine w_Append ?_ | refine w_Extend ?_ | refine w_PopAt ?_ | refine w_Nil ?_ | refine w_Cons ?_ | refine v_Val ?_ | refine v_And ?_ | refine v_Or ?_ | refine v_Cmp ?_ | refine v_Chain ?_ | refine v_Is ?_ | refine v_Not ?_ | refine v_Yes ?_) | ((with_reducible apply w_Var); (focus (exact rfl))) | refine wO_some (mul_str (by decide +kernel)) ?_ | refine wO_some (pow_int (by decide)) ?_ | (refine wO_some sub_ok ?_) | refine And.intro (by simp [line]; done) ?_))
    refine ⟨_, 3, b, rfl, j4, ?_, by omega, fun x5 M5 f5 j5 => ⟨⟨_, _, _, rfl⟩, x5, f5, j5⟩⟩
    exact Fits.cons (a := 2) rfl (Fits.cons (a := 1) (decide_eq_true (by rw [str_add_len, la, lc]; decide)) (Fits.cons (a := 0) (decide_eq_true (by rw [str_add_len, lb, lc]; decide)) Fits.nil))
  rintro ρ M3 ⟨⟨o3, o4, o5, rfl⟩, x3, f3, j3⟩
  rw [hsl] at f3
  refine z_Seq (z_ForF (i_Range (w_C ?_)))
  refine ⟨20, rfl, by decide, _, fun i ρ M1 => (∃ o3 o4 o5, ρ = [some (.h 0), some (.h (T.length + 1)), some (.lst signsL), o3, o4, o5]) ∧ ∃ xs, Fits 3 (134 + i) xs ∧ Jr (b + 30 * i) (T ++ [.lst xs]) M1, rfl, ⟨⟨_, _, _, rfl⟩, x3, f3, j3⟩, ?_, ?_⟩
  · rintro i d ρ M4 hd ⟨⟨o3, o4, o5, rfl⟩, xs, f, j4⟩
    obtain ⟨hi, rfl⟩ := nums_get hd
    (refine wO_some rfl ?_)
    refine z_AppF rfl j4 f (by omega) ?_
    refine w_Word (T ++ [.lst xs]) (by decide +kernel) (m := 23) (by decide) ?_
    (repeat (first | (with_reducible first | refine z_Seq ?_ | refine z_SetN ?_ | refine z_Set ?_ | refine z_Ret ?_ | refine z_If ?_ | refine z_Expr ?_ | refine z_Next ?_ | refine z_Par ?_ | refine z_SetIx ?_ | refine w_C ?_ | refine w_Bop ?_ | refine w_BopT ?_ | refine w_Cmp ?_ | refine w_Chain ?_ | refine w_Is ?_ | refine w_Neg ?_ | refine w_Not ?_ | refine w_And ?_ | refine w_Or ?_ | refine w_Ite ?_ | refine w_Tup ?_ | refine w_Lst ?_ | refine w_LstT ?_ | refine w_Idx ?_ | refine w_SlcNN ?_ | refine w_SlcNS ?_ | refine w_SlcSN ?_ | refine w_Rev ?_ | refine w_Isi ?_ | refine w_Len ?_ | refine w_Int ?_ | refine w_Bool ?_ | refine w_Max ?_ | refine w_All ?_ | refine w_List ?_ | refine w_ListT ?_ | refine w_Tuple ?_ | refine w_Join ?_ | refine w_Split ?_ | refine w_Call ?_ | refine w_DictOf ?_ | refine w_Dict0 ?_ | refine w_Dict1 ?_ | refine w_Append ?_ | refine w_Extend ?_ | refine w_PopAt ?_ | refine w_Nil ?_ | refine w_Cons ?_ | refine v_Val ?_ | refine v_And ?_ | refine v_Or ?_ | refine v_Cmp ?_ | refine v_Chain ?_ | refine v_Is ?_ | refine v_Not ?_ | refine v_Yes ?_) | ((with_reducible apply w_Var); (focus (exact rfl)))))
    rw [cfl_call]
    refine wpR_imp (r_take p_take j4 (m := 23) (by decide) (by omega)) ?_
    rintro _ M5 ⟨n, rfl, hn, j5⟩
    refine ⟨n.toNat, _, by congr 1; omega, by omega, j5, fun m M6 j6 hm => ?_, fun w M6 hw j6 => ?_⟩
    · (repeat (first | (with_reducible first | refine z_Seq ?_ | refine z_SetN ?_ | refine z_Set ?_ | refine z_Ret ?_ | refine z_If ?_ | refine z_Expr ?_ | refine z_Next ?_ | refine z_Par ?_ | refine z_SetIx ?_ | refine w_C ?_ | refine w_Bop ?_ | refine w_BopT ?_ | refine w_Cmp ?_ | refine w_Chain ?_ | refine w_Is ?_ | refine w_Neg ?_ | refine w_Not ?_ | refine w_And ?_ | refine w_Or ?_ | refine w_Ite ?_ | refine w_Tup ?_ | refine w_Lst ?_ | refine w_LstT ?_ | refine w_Idx ?_ | refine w_SlcNN ?_ | refine w_SlcNS ?_ | refine w_SlcSN ?_ | refine w_Rev ?_ | refine w_Isi ?_ | refine w_Len ?_ | refine w_Int ?_ | refine w_Bool ?_ | refine w_Max ?_ | refine w_All ?_ | refine w_List ?_ | refine w_ListT ?_ | refine w_Tuple ?_ | refine w_Join ?_ | refine w_Split ?_ | refine w_Call ?_ | refine w_DictOf ?_ | refine w_Dict0 ?_ | refine w_Dict1 ?_ | refine w_Append ?_ | refine w_Extend ?_ | refine w_PopAt ?_ | refine w_Nil ?_ | refine w_Cons ?_ | refine v_Val ?_ | refine v_And ?_ | refine v_Or ?_ | refine v_Cmp ?_ | refine v_Chain ?_ | refine v_Is ?_ | refine v_Not ?_ | refine v_Yes ?_) | ((with_reducible apply w_Var); (focus (exact rfl)))))
      refine ⟨_, rfl, ?_⟩
      have e : slcD none (some 12) (view M6 (.lst signsL)) = some (.lst (signsL.take 12)) := by
        show some (D.lst (cut _ _ _)) = _
        rw [show (12 : Int) = ((12 : Nat) : Int) from rfl, cut_lo]
      refine wO_some e ?_
      (repeat (first | (with_reducible first | refine z_Seq ?_ | refine z_SetN ?_ | refine z_Set ?_ | refine z_Ret ?_ | refine z_If ?_ | refine z_Expr ?_ | refine z_Next ?_ | refine z_Par ?_ | refine z_SetIx ?_ | refine w_C ?_ | refine w_Bop ?_ | refine w_BopT ?_ | refine w_Cmp ?_ | refine w_Chain ?_ | refine w_Is ?_ | refine w_Neg ?_ | refine w_Not ?_ | refine w_And ?_ | refine w_Or ?_ | refine w_Ite ?_ | refine w_Tup ?_ | refine w_Lst ?_ | refine w_LstT ?_ | refine w_Idx ?_ | refine w_SlcNN ?_ | refine w_SlcNS ?_ | refine w_SlcSN ?_ | refine w_Rev ?_ | refine w_Isi ?_ | refine w_Len ?_ | refine w_Int ?_ | refine w_Bool ?_ | refine w_Max ?_ | refine w_All ?_ | refine w_List ?_ | refine w_ListT ?_ | refine w_Tuple ?_ | refine w_Join ?_ | refine w_Split ?_ | refine w_Call ?_ | refine w_DictOf ?_ | refine w_Dict0 ?_ | refine w_Dict1 ?_ | refine w_Append ?_ | refine w_Extend ?_ | refine w_PopAt ?_ | refine w_Nil ?_ | refine w_Cons ?_ | refine v_Val ?_ | refine v_And ?_ | refine v_Or ?_ | refine v_Cmp ?_ | refine v_Chain ?_ | refine v_Is ?_ | refine v_Not ?_ | refine v_Yes ?_) | ((with_reducible apply w_Var); (focus (exact rfl)))))
      rw [cfl_call]
      refine wpR_imp (r_one p_take p_one j6 (xs := signsL.take 12) (by decide +kernel) (by omega)) ?_
      rintro d M7 ⟨hd, j7⟩
      exact ⟨signsL_sgn (List.mem_of_mem_take hd), j7⟩
    · refine ⟨b + 30 * (i + 1), j6.mono (by omega), decide_eq_true (by omega), fun xs' M7 f7 j7 => ?_⟩
      exact ⟨⟨_, _, _, rfl⟩, xs', f7, j7⟩
  · rintro ρ M4 ⟨⟨o3, o4, o5, rfl⟩, xs, f, j4⟩
    (repeat (first | (with_reducible first | refine z_Seq ?_ | refine z_SetN ?_ | refine z_Set ?_ | refine z_Ret ?_ | refine z_If ?_ | refine z_Expr ?_ | refine z_Next ?_ | refine z_Par ?_ | refine z_SetIx ?_ | refine w_C ?_ | refine w_Bop ?_ | refine w_BopT ?_ | refine w_Cmp ?_ | refine w_Chain ?_ | refine w_Is ?_ | refine w_Neg ?_ | refine w_Not ?_ | refine w_And ?_ | refine w_Or ?_ | refine w_Ite ?_ | refine w_Tup ?_ | refine w_Lst ?_ | refine w_LstT ?_ | refine w_Idx ?_ | refine w_SlcNN ?_ | refine w_SlcNS ?_ | refine w_SlcSN ?_ | refine w_Rev ?_ | refine w_Isi ?_ | refine w_Len ?_ | refine w_Int ?_ | refine w_Bool ?_ | refine w_Max ?_ | refine w_All ?_ | refine w_List ?_ | refine w_ListT ?_ | refine w_Tuple ?_ | refine w_Join ?_ | refine w_Split ?_ | refine w_Call ?_ | refine w_DictOf ?_ | refine w_Dict0 ?_ | refine w_Dict1 ?_ | refine w_Append ?_ | refine w_Extend ?_ | refine w_PopAt ?_ | refine w_Nil ?_ | refine w_Cons ?_ | refine v_Val ?_ | refine v_And ?_ | refine v_Or ?_ | refine v_Cmp ?_ | refine v_Chain ?_ | refine v_Is ?_ | refine v_Not ?_ | refine v_Yes ?_) | ((with_reducible apply w_Var); (focus (exact rfl)))))
    rw [nums_len] at f j4
    exact end_own rfl j4 f.noH hT fun M' j' => ⟨xs, rfl, f.le (by decide), j'.mono (by omega)⟩
theorem r_day_things {k b : Nat} {T M : Mh} (j : Jr b T M) (hb : b < 2 ^ 40) : wpR (callAt P (k + 4) "_law_day_things" [.h 0] M) fun d M' => ∃ xs, d = .lst xs ∧ Fits 3 200 xs ∧ Jr (b + 1000) T M' := by
  refine wp_run0 p_day_things rfl rfl ?_
  dsimp only [m__law_day_things, List.map, List.append, List.map_cons, List.map_nil, List.length_cons, List.length_nil, List.replicate, List.cons_append, List.nil_append, Nat.reduceSub, Nat.reduceAdd]
  (repeat (first | (with_reducible first | refine z_Seq ?_ | refine z_SetN ?_ | refine z_Set ?_ | refine z_Ret ?_ | refine z_If ?_ | refine z_Expr ?_ | refine z_Next ?_ | refine z_Par ?_ | refine z_SetIx ?_ | refine w_C ?_ | refine w_Bop ?_ | refine w_BopT ?_ | refine w_Cmp ?_ | refine w_Chain ?_ | refine w_Is ?_ | refine w_Neg ?_ | refine w_Not ?_ | refine w_And ?_ | refine w_Or ?_ | refine w_Ite ?_ | refine w_Tup ?_ | refine w_Lst ?_ | refine w_LstT ?_ | refine w_Idx ?_ | refine w_SlcNN ?_ | refine w_SlcNS ?_ | refine w_SlcSN ?_ | refine w_Rev ?_ | refine w_Isi ?_ | refine w_Len ?_ | refine w_Int ?_ | refine w_Bool ?_ | refine w_Max ?_ | refine w_All ?_ | refine w_List ?_ | refine w_ListT ?_ | refine w_Tuple ?_ | refine w_Join ?_ | refine w_Split ?_ | refine w_Call ?_ | refine w_DictOf ?_ | refine w_Dict0 ?_ | refine w_Dict1 ?_ | refine w_Append ?_ | refine w_Extend ?_ | refine w_PopAt ?_ | refine w_Nil ?_ | refine w_Cons ?_ | refine v_Val ?_ | refine v_And ?_ | refine v_Or ?_ | refine v_Cmp ?_ | refine v_Chain ?_ | refine v_Is ?_ | refine v_Not ?_ | refine v_Yes ?_) | ((with_reducible apply w_Var); (focus (exact rfl)))))
  rw [cfl_call, r_plain, wpR_ok]
  (repeat (first | (with_reducible refine w_NegC ?_) | (with_reducible first | refine z_Seq ?_ | refine z_SetN ?_ | refine z_Set ?_ | refine z_Ret ?_ | refine z_If ?_ | refine z_Expr ?_ | refine z_Next ?_ | refine z_Par ?_ | refine z_SetIx ?_ | refine w_C ?_ | refine w_Bop ?_ | refine w_BopT ?_ | refine w_Cmp ?_ | refine w_Chain ?_ | refine w_Is ?_ | refine w_Neg ?_ | refine w_Not ?_ | refine w_And ?_ | refine w_Or ?_ | refine w_Ite ?_ | refine w_Tup ?_ | refine w_Lst ?_ | refine w_LstT ?_ | refine w_Idx ?_ | refine w_SlcNN ?_ | refine w_SlcNS ?_ | refine w_SlcSN ?_ | refine w_Rev ?_ | refine w_Isi ?_ | refine w_Len ?_ | refine w_Int ?_ | refine w_Bool ?_ | refine w_Max ?_ | refine w_All ?_ | refine w_List ?_ | refine w_ListT ?_ | refine w_Tuple ?_ | refine w_Join ?_ | refine w_Split ?_ | refine w_Call ?_ | refine w_DictOf ?_ | refine w_Dict0 ?_ | refine w_Dict1 ?_ | refine w_Append ?_ | refine w_Extend ?_ | refine w_PopAt ?_ | refine w_Nil ?_ | refine w_Cons ?_ | refine v_Val ?_ | refine v_And ?_ | refine v_Or ?_ | refine v_Cmp ?_ | refine v_Chain ?_ | refine v_Is ?_ | refine v_Not ?_ | refine v_Yes ?_) | ((with_reducible apply w_Var); (focus (exact rfl))) | refine wO_some (mul_str (by decide +kernel)) ?_ | refine wO_some (pow_int (by decide)) ?_ | (refine wO_some sub_ok ?_) | refine And.intro (by simp [line]; done) ?_))
  rw [cfl_call]
  refine wpR_imp (r_take p_take j (m := 1000) (by decide) (by omega)) ?_
  rintro _ M5 ⟨n, rfl, hn, j5⟩
  (repeat (first | (with_reducible refine w_NegC ?_) | (with_reducible first | refine z_Seq ?_ | refine z_SetN ?_ | refine z_Set ?_ | refine z_Ret ?_ | refine z_If ?_ | refine z_Expr ?_ | refine z_Next ?_ | refine z_Par ?_ | refine z_SetIx ?_ | refine w_C ?_ | refine w_Bop ?_ | refine w_BopT ?_ | refine w_Cmp ?_ | refine w_Chain ?_ | refine w_Is ?_ | refine w_Neg ?_ | refine w_Not ?_ | refine w_And ?_ | refine w_Or ?_ | refine w_Ite ?_ | refine w_Tup ?_ | refine w_Lst ?_ | refine w_LstT ?_ | refine w_Idx ?_ | refine w_SlcNN ?_ | refine w_SlcNS ?_ | refine w_SlcSN ?_ | refine w_Rev ?_ | refine w_Isi ?_ | refine w_Len ?_ | refine w_Int ?_ | refine w_Bool ?_ | refine w_Max ?_ | refine w_All ?_ | refine w_List ?_ | refine w_ListT ?_ | refine w_Tuple ?_ | refine w_Join ?_ | refine w_Split ?_ | refine w_Call ?_ | refine w_DictOf ?_ | refine w_Dict0 ?_ | refine w_Dict1 ?_ | refine w_Append ?_ | refine w_Extend ?_ | refine w_PopAt ?_ | refine w_Nil ?_ | refine w_Cons ?_ | refine v_Val ?_ | refine v_And ?_ | refine v_Or ?_ | refine v_Cmp ?_ | refine v_Chain ?_ | refine v_Is ?_ | refine v_Not ?_ | refine v_Yes ?_) | ((with_reducible apply w_Var); (focus (exact rfl))) | refine wO_some (mul_str (by decide +kernel)) ?_ | refine wO_some (pow_int (by decide)) ?_ | (refine wO_some sub_ok ?_) | refine And.intro (by simp [line]; done) ?_))
  refine wO_some (add_lst (by rw [plain_len]; show _ ≤ 16777216; simp)) ?_
  refine ⟨by rw [j.len, j5.len], _, rfl, ?_, j5.mono (by omega)⟩
  exact ((Fits.of (by decide +kernel) : Fits 3 16 plainL).app (Fits.of rfl : Fits 3 10 _)).le (by decide)
end MP.K01

set_option Elab.async false
set_option linter.all false
set_option maxRecDepth 100000
set_option maxHeartbeats 4000000
/-! k01: columns drawn, rows drawn, columns bent. -/
namespace MP.K01
open PySem PySem.Spec PyProof.Rows L2 MP
def strOf : D → Option Str
  | .str s => some s
  | _ => none
def namesS : List Str := namesL.filterMap strOf
theorem names_map : namesL = namesS.map D.str := by kernel_rfl
theorem names_nodup : namesS.Nodup := by decide +kernel
theorem names_short : ∀ s ∈ namesS, s.length ≤ 10 := by decide +kernel
theorem names_chars : ∀ s ∈ namesS, s.cps.all (· < 0x110000) = true := by decide +kernel
theorem namesS_len : namesS.length = 24 := by decide +kernel
theorem perm_strs {ys : List D} {l : List Str} (h : ys.Perm (l.map D.str)) : ∃ ns : List Str, ys = ns.map D.str ∧ ns.Perm l := by
  refine ⟨ys.filterMap strOf, ?_, ?_⟩
  · have hm : ∀ y ∈ ys, ∃ s, y = .str s := fun y hy => by
      obtain ⟨s, _, rfl⟩ := List.mem_map.mp (h.subset hy)
      exact ⟨s, rfl⟩
    clear h
    induction ys with
    | nil => rfl
    | cons y ys ih =>
      obtain ⟨s, rfl⟩ := hm y List.mem_cons_self
      rw [List.filterMap_cons_some (show strOf (.str s) = some s from rfl), List.map_cons, ← ih fun z hz => hm z (List.mem_cons_of_mem _ hz)]
  · have := h.filterMap strOf
    rw [List.filterMap_map] at this
    have e : (strOf ∘ D.str) = some := by funext s; rfl
    rw [e, List.filterMap_some] at this
    exact this
structure Cols (cs : List (Str × Str)) : Prop where
  ok : ∀ p ∈ cs, okC p
  nd : (cs.map (·.1)).Nodup
  short : ∀ p ∈ cs, p.1.length ≤ 10
  chars : ∀ p ∈ cs, p.1.cps.all (· < 0x110000) = true
theorem okC_short {p : Str × Str} (h : okC p) : p.2.length ≤ 10 := by
  rcases h with h | h <;> rw [h] <;> decide +kernel
theorem Cols.fits {cs : List (Str × Str)} (h : Cols cs) (hl : cs.length ≤ 10) : Fits 1 10 (cs.map colD) := by
  refine ⟨fun x hx => ?_, by rw [List.length_map]; exact hl⟩
  obtain ⟨p, hp, rfl⟩ := List.mem_map.mp hx
  have h1 := h.short p hp
  have h2 := okC_short (h.ok p hp)
  refine fit_tup.mpr ⟨fun x hx => ?_, by simp⟩
  simp at hx
  rcases hx with rfl | rfl
  · exact decide_eq_true (by omega)
  · exact decide_eq_true (by omega)
theorem unpair_cols (cs : List (Str × Str)) : unpair (cs.map colD) = some (cs.map fun p => .inr p.1, cs.map fun p => .str p.2) := by
  induction cs with
  | nil => rfl
  | cons p cs ih =>
    show (keyOf (.str p.1)).bind (fun k' => (unpair (cs.map colD)).map fun q => (k' :: q.1, D.str p.2 :: q.2)) = _
    rw [ih]
    rfl
theorem Cols.keys {cs : List (Str × Str)} (h : Cols cs) : (cs.map fun p => (.inr p.1 : Key)).Nodup := by
  have := h.nd
  rw [show (cs.map fun p => (.inr p.1 : Key)) = (cs.map (·.1)).map Sum.inr by rw [List.map_map]; rfl]
  rw [List.Nodup, List.pairwise_map]
  exact this.imp fun h e => h (Sum.inr.inj e)
theorem Cols.dict {cs : List (Str × Str)} (h : Cols cs) {n : Nat} : fit n (.dic (cs.map fun p => .inr p.1) (cs.map fun p => .str p.2)) = true := by
  have : (decide (cs.map fun p => (.inr p.1 : Key)).Nodup && (cs.map fun p => D.str p.2).all flat) = true := by
    rw [decide_eq_true h.keys, Bool.true_and, List.all_map, List.all_eq_true]
    exact fun _ _ => rfl
  cases n <;> exact this
theorem cols_py : ∀ cs : List (Str × Str), toPys (cs.map colD) = some (cs.map fun p => .tuple [.str p.1, .str p.2])
  | [] => rfl
  | p :: cs => by
    show (match toPy (colD p), toPys (cs.map colD) with | some y, some ys => some (y :: ys) | _, _ => none) = _
    rw [cols_py cs]
    rfl
theorem cols_lay : ∀ {cs : List (Str × Str)}, (∀ p ∈ cs, p.1.cps.all (· < 0x110000) = true) → (∀ p ∈ cs, okC p) → PyData.canLayAll0 (cs.map fun p => .tuple [.str p.1, .str p.2]) = true ∧ PyData.depthAll (cs.map fun p => .tuple [.str p.1, .str p.2]) ≤ 1
  | [], _, _ => ⟨rfl, Nat.zero_le _⟩
  | p :: cs, h, g => by
    have ih := cols_lay (cs := cs) (fun q hq => h q (List.mem_cons_of_mem _ hq)) fun q hq => g q (List.mem_cons_of_mem _ hq)
    have h1 := h p List.mem_cons_self
    have h2 : p.2.cps.all (· < 0x110000) = true := by
      rcases g p List.mem_cons_self with e | e <;> rw [e] <;> decide +kernel
    constructor
    · show ((p.1.cps.all (· < 0x110000) && (p.2.cps.all (· < 0x110000) && true)) && _) = true
      rw [h1, h2, ih.1]
      rfl
    · show max (max 0 (max 0 0) + 1) _ ≤ 1
      have := ih.2
      omega
/-- the same columns -/
theorem cols_eq {cs : List (Str × Str)} (h : Cols cs) (hn : cs ≠ []) : eqD (.lst (cs.map colD)) (.lst (cs.map colD)) = some true := by
  have he : (cs.map colD).isEmpty = false := by
    cases cs with
    | nil => exact (hn rfl).elim
    | cons p cs => rfl
  obtain ⟨l1, l2⟩ := cols_lay h.chars h.ok
  show (if ((cs.map colD).isEmpty || (cs.map colD).isEmpty) = true then _ else match toPys (cs.map colD), toPys (cs.map colD) with | some a, some b => if SeqAt.shaped (.list a) && SeqAt.shaped (.list b) then some (PyData.eqv (.list a) (.list b)) else none | _, _ => none) = _
  rw [he, cols_py]
  have hs : SeqAt.shaped (.list (cs.map fun p => .tuple [.str p.1, .str p.2])) = true := by
    show (PyData.canLayAll0 _ && decide (PyData.depthAll _ + 1 ≤ 64)) = true
    rw [l1, Bool.true_and]
    exact decide_eq_true (by omega)
  show (if (SeqAt.shaped (.list (cs.map fun p => .tuple [.str p.1, .str p.2])) && SeqAt.shaped (.list (cs.map fun p => .tuple [.str p.1, .str p.2]))) = true then some _ else none) = _
  rw [hs]
  exact congrArg some (PySem.SeqAt.eqv_refl (.list (cs.map fun p : Str × Str => .tuple [.str p.1, .str p.2])) l1)
section
variable {ρ : Rho} {M T : Mh} {k : Nat}
theorem w_Cols {i : IS} {v : Nat} {Q : D → Mh → Prop} (hv : v < ρ.length) (hv0 : 0 < v) (h0 : ρ[0]? = some (some (.h 0))) (h : wpR (i (cfl P (k + 2)) ρ M) fun S M1 => ∃ (ns : List Str) (b1 : Nat), S = .fix (ns.map D.str) ∧ ns.length ≤ 1000 ∧ b1 < 2 ^ 50 ∧ Jr b1 T M1 ∧ ∀ (cs : List (Str × Str)) (M2 : Mh), cs.map (·.1) = ns → (∀ p ∈ cs, okC p) → Jr (b1 + ns.length) T M2 → Q (.lst (cs.map colD)) M2) :
    wpR (sLc false i (.nm v) [v] tYes (sTup (aCons (sVar v) (aCons (sCall "_law_one" (aCons (sVar 0) (aCons (sLst false (aCons (sC (.str "number")) (aCons (sC (.str "text")) aNil))) aNil))) aNil))) (cfl P (k + 2)) ρ M) Q := by
  refine w_LcF (wpR_imp h ?_)
  rintro _ M1 ⟨ns, b1, rfl, hn, hb, j1, q⟩
  refine ⟨ns.map D.str, fun i ys M => Jr (b1 + i) T M ∧ ∃ cs : List (Str × Str), ys = cs.map colD ∧ cs.map (·.1) = ns.take i ∧ ∀ p ∈ cs, okC p, rfl, by rw [List.length_map]; show _ ≤ 16777216; omega, ⟨j1, [], rfl, rfl, fun p hp => (by cases hp)⟩, ?_, ?_⟩
  · rintro i d ys M2 hd ⟨j2, cs, rfl, hc, hk⟩
    rw [List.getElem?_map] at hd
    obtain ⟨s, hs, rfl⟩ := Option.map_eq_some_iff.mp hd
    have hi := (List.getElem?_eq_some_iff.mp hs).1
    have e1 : wipeR ρ [v] = ρ.set v none := rfl
    have e2 : (ρ.set v none).set v (some (D.str s)) = ρ.set v (some (D.str s)) := List.set_set ..
    have e3 : (ρ.set v (some (D.str s)))[v]? = some (some (D.str s)) := by rw [List.getElem?_set_self hv]
    have e4 : (ρ.set v (some (D.str s)))[0]? = some (some (.h 0)) := by rw [List.getElem?_set_ne (by omega)]; exact h0
    refine wO_some (a := ρ.set v (some (D.str s))) (by rw [e1, ← e2]; rfl) (v_Yes (ifT rfl ?_))
    refine w_Tup (w_Cons (w_Var e3 (w_Cons (w_Call (w_Cons (w_Var e4 (w_Cons ?_)))))))
    (repeat (first | (with_reducible first | refine z_Seq ?_ | refine z_SetN ?_ | refine z_Set ?_ | refine z_Ret ?_ | refine z_If ?_ | refine z_Expr ?_ | refine z_Next ?_ | refine z_Par ?_ | refine z_SetIx ?_ | refine w_C ?_ | refine w_Bop ?_ | refine w_BopT ?_ | refine w_Cmp ?_ | refine w_Chain ?_ | refine w_Is ?_ | refine w_Neg ?_ | refine w_Not ?_ | refine w_And ?_ | refine w_Or ?_ | refine w_Ite ?_ | refine w_Tup ?_ | refine w_Lst ?_ | refine w_LstT ?_ | refine w_Idx ?_ | refine w_SlcNN ?_ | refine w_SlcNS ?_ | refine w_SlcSN ?_ | refine w_Rev ?_ | refine w_Isi ?_ | refine w_Len ?_ | refine w_Int ?_ | refine w_Bool ?_ | refine w_Max ?_ | refine w_All ?_ | refine w_List ?_ | refine w_ListT ?_ | refine w_Tuple ?_ | refine w_Join ?_ | refine w_Split ?_ | refine w_Call ?_ | refine w_DictOf ?_ | refine w_Dict0 ?_ | refine w_Dict1 ?_ | refine w_Append ?_ | refine w_Extend ?_ | refine w_PopAt ?_ | refine w_Nil ?_ | refine w_Cons ?_ | refine v_Val ?_ | refine v_And ?_ | refine v_Or ?_ | refine v_Cmp ?_ | refine v_Chain ?_ | refine v_Is ?_ | refine v_Not ?_ | refine v_Yes ?_) | ((with_reducible apply w_Var); (focus (exact rfl)))))
    refine ⟨by simp [line], ?_⟩
    (repeat (first | (with_reducible first | refine z_Seq ?_ | refine z_SetN ?_ | refine z_Set ?_ | refine z_Ret ?_ | refine z_If ?_ | refine z_Expr ?_ | refine z_Next ?_ | refine z_Par ?_ | refine z_SetIx ?_ | refine w_C ?_ | refine w_Bop ?_ | refine w_BopT ?_ | refine w_Cmp ?_ | refine w_Chain ?_ | refine w_Is ?_ | refine w_Neg ?_ | refine w_Not ?_ | refine w_And ?_ | refine w_Or ?_ | refine w_Ite ?_ | refine w_Tup ?_ | refine w_Lst ?_ | refine w_LstT ?_ | refine w_Idx ?_ | refine w_SlcNN ?_ | refine w_SlcNS ?_ | refine w_SlcSN ?_ | refine w_Rev ?_ | refine w_Isi ?_ | refine w_Len ?_ | refine w_Int ?_ | refine w_Bool ?_ | refine w_Max ?_ | refine w_All ?_ | refine w_List ?_ | refine w_ListT ?_ | refine w_Tuple ?_ | refine w_Join ?_ | refine w_Split ?_ | refine w_Call ?_ | refine w_DictOf ?_ | refine w_Dict0 ?_ | refine w_Dict1 ?_ | refine w_Append ?_ | refine w_Extend ?_ | refine w_PopAt ?_ | refine w_Nil ?_ | refine w_Cons ?_ | refine v_Val ?_ | refine v_And ?_ | refine v_Or ?_ | refine v_Cmp ?_ | refine v_Chain ?_ | refine v_Is ?_ | refine v_Not ?_ | refine v_Yes ?_) | ((with_reducible apply w_Var); (focus (exact rfl)))))
    rw [cfl_call]
    refine wpR_imp (r_one p_take p_one j2 (xs := [.str "number", .str "text"]) (by decide) (by omega)) ?_
    rintro d M3 ⟨hd, j3⟩
    (repeat (first | (with_reducible first | refine z_Seq ?_ | refine z_SetN ?_ | refine z_Set ?_ | refine z_Ret ?_ | refine z_If ?_ | refine z_Expr ?_ | refine z_Next ?_ | refine z_Par ?_ | refine z_SetIx ?_ | refine w_C ?_ | refine w_Bop ?_ | refine w_BopT ?_ | refine w_Cmp ?_ | refine w_Chain ?_ | refine w_Is ?_ | refine w_Neg ?_ | refine w_Not ?_ | refine w_And ?_ | refine w_Or ?_ | refine w_Ite ?_ | refine w_Tup ?_ | refine w_Lst ?_ | refine w_LstT ?_ | refine w_Idx ?_ | refine w_SlcNN ?_ | refine w_SlcNS ?_ | refine w_SlcSN ?_ | refine w_Rev ?_ | refine w_Isi ?_ | refine w_Len ?_ | refine w_Int ?_ | refine w_Bool ?_ | refine w_Max ?_ | refine w_All ?_ | refine w_List ?_ | refine w_ListT ?_ | refine w_Tuple ?_ | refine w_Join ?_ | refine w_Split ?_ | refine w_Call ?_ | refine w_DictOf ?_ | refine w_Dict0 ?_ | refine w_Dict1 ?_ | refine w_Append ?_ | refine w_Extend ?_ | refine w_PopAt ?_ | refine w_Nil ?_ | refine w_Cons ?_ | refine v_Val ?_ | refine v_And ?_ | refine v_Or ?_ | refine v_Cmp ?_ | refine v_Chain ?_ | refine v_Is ?_ | refine v_Not ?_ | refine v_Yes ?_) | ((with_reducible apply w_Var); (focus (exact rfl)))))
    refine ⟨by simp [line], j3, ?_⟩
    have hd : ∃ z, d = .str z ∧ (z = numS ∨ z = txtS) := by
      simp at hd
      rcases hd with rfl | rfl
      · exact ⟨_, rfl, .inl rfl⟩
      · exact ⟨_, rfl, .inr rfl⟩
    obtain ⟨z, rfl, hz⟩ := hd
    refine ⟨cs ++ [(s, z)], by rw [List.map_append]; rfl, ?_, fun p hp => ?_⟩
    · rw [List.map_append, hc, List.take_add_one, hs]
      rfl
    · rcases List.mem_append.mp hp with h | h
      · exact hk p h
      · rw [List.mem_singleton.mp h]
        exact hz
  · rintro ys M2 ⟨j2, cs, rfl, hc, hk⟩
    rw [List.length_map] at hc j2
    rw [List.take_length] at hc
    exact q cs M2 hc hk j2
end
end MP.K01
namespace MP
open PySem PySem.Spec PyProof.Rows L2
theorem cut_mem {xs : List D} {lo hi : Option Int} {x : D} (h : x ∈ cut xs lo hi) : x ∈ xs := List.mem_of_mem_drop (List.mem_of_mem_take h)
theorem cut_fits {n a : Nat} {xs : List D} {lo hi : Option Int} (h : Fits n a xs) : Fits n a (cut xs lo hi) := ⟨fun x hx => h.1 x (cut_mem hx), by
  unfold cut
  rw [List.length_take, List.length_drop]
  have := h.2
  omega⟩
theorem rev_fits {n a : Nat} {xs : List D} (h : Fits n a xs) : Fits n a xs.reverse := ⟨fun x hx => h.1 x (List.mem_reverse.mp hx), by rw [List.length_reverse]; exact h.2⟩
theorem Fits.lst {n a : Nat} {xs : List D} (h : Fits n a xs) (ha : a ≤ 1000) : fit (n + 1) (.lst xs) = true := fit_lst.mpr ⟨h.1, by have := h.2; omega⟩
theorem Fits.tup {n a : Nat} {xs : List D} (h : Fits n a xs) (ha : a ≤ 1000) : fit (n + 1) (.tup xs) = true := fit_tup.mpr ⟨h.1, by have := h.2; omega⟩
/-- a for that lets the own list grow -/
theorem z_ForGrow {c : Cf} {ρ : Rho} {M T : Mh} {it : IS} {body : SS} {v n : Nat} {Qn : Rho → Mh → Prop} {Qr : D → Mh → Prop} (s w : Nat) (hv : v < ρ.length)
    (h : wpR (it c ρ M) fun S M1 => ∃ (ds xs : List D) (a b : Nat), S = .fix ds ∧ Fits n a xs ∧ Jr b (T ++ [.lst xs]) M1 ∧
      (∀ i d M2 xs, i < ds.length → d ∈ ds → Fits n (a + s * i) xs → Jr (b + w * i) (T ++ [.lst xs]) M2 → wpS (body c (ρ.set v (some d)) M2) (fun ρ1 M3 => ρ1 = ρ.set v (some d) ∧ ∃ xs', Fits n (a + s * i + s) xs' ∧ Jr (b + w * i + w) (T ++ [.lst xs']) M3) Qr) ∧
      (∀ o M2 xs, Fits n (a + s * ds.length) xs → Jr (b + w * ds.length) (T ++ [.lst xs]) M2 → Qn (ρ.set v o) M2)) : wpS (zFor it (.nm v) body c ρ M) Qn Qr := by
  refine z_ForF (wpR_imp h ?_)
  rintro _ M1 ⟨ds, xs, a, b, rfl, f, j, step, last⟩
  refine ⟨ds, fun i ρ1 M2 => (∃ o, ρ1 = ρ.set v o) ∧ ∃ xs, Fits n (a + s * i) xs ∧ Jr (b + w * i) (T ++ [.lst xs]) M2, rfl, ⟨⟨ρ[v], (List.set_getElem_self hv).symm⟩, xs, f, j⟩, ?_, ?_⟩
  · rintro i d ρ1 M2 hd ⟨⟨o, rfl⟩, xs, f, j⟩
    refine wO_some (a := ρ.set v (some d)) (by show some _ = some _; rw [List.set_set]) ?_
    refine wpS_imp (step i d M2 xs (List.getElem?_eq_some_iff.mp hd).1 (List.mem_of_getElem? hd) f j) ?_ (fun _ _ h => h)
    rintro ρ1 M3 ⟨rfl, xs', f', j'⟩
    exact ⟨⟨_, rfl⟩, xs', f'.le (by rw [Nat.mul_add]; omega), j'.mono (by rw [Nat.mul_add]; omega)⟩
  · rintro ρ1 M2 ⟨⟨o, rfl⟩, xs, f, j⟩
    exact last o M2 xs f j
section
variable {c : Cf} {ρ : Rho} {M : Mh} {g n a m : Nat} {G : List D} {i : Int} {e : ES} {Q : D → Mh → Prop}
/-- xs[:i] + [e] + xs[i + 1:] -/
theorem w_Bent (hg : ρ[g]? = some (some (.lst G))) (hn : ρ[n]? = some (some (.int i))) (f : Fits a m G) (hm : m ≤ 400) (h : wpR (e c ρ M) fun x M1 => fit a x = true ∧ ∀ ys, Fits a (m + 1 + m) ys → Q (.lst ys) M1) :
    wpR (sBop .add false (sBop .add false (sSlc false (sVar g) none (some (sVar n))) (sLst false (aCons e aNil))) (sSlc false (sVar g) (some (sBop .add false (sVar n) (sC (.int 1)))) none) c ρ M) Q := by
  refine w_Bop (w_Bop (w_SlcNS (w_Var hg (w_Var hn ⟨_, rfl, wO_some rfl (w_Lst (w_Cons (wpR_imp h ?_)))⟩))))
  rintro x M1 ⟨hx, q⟩
  have f1 := cut_fits (lo := none) (hi := some i) f
  have f2 := f1.app (Fits.one hx)
  have f3 := cut_fits (lo := some (i + 1)) (hi := none) f
  refine w_Nil ⟨by simp [line], wO_some (add_lst (f1.add_le (Fits.one hx) (by omega))) (w_SlcSN (w_Var hg (w_Bop (w_Var hn (w_C (wO_some add_ok ⟨_, rfl, wO_some rfl ?_⟩))))))⟩
  exact wO_some (add_lst (f2.add_le f3 (by omega))) (q _ (f2.app f3))
theorem w_BentT (hg : ρ[g]? = some (some (.tup G))) (hn : ρ[n]? = some (some (.int i))) (f : Fits a m G) (hm : m ≤ 400) (h : wpR (e c ρ M) fun x M1 => fit a x = true ∧ ∀ ys, Fits a (m + 1 + m) ys → Q (.tup ys) M1) :
    wpR (sBop .add false (sBop .add false (sSlc false (sVar g) none (some (sVar n))) (sTup (aCons e aNil))) (sSlc false (sVar g) (some (sBop .add false (sVar n) (sC (.int 1)))) none) c ρ M) Q := by
  refine w_Bop (w_Bop (w_SlcNS (w_Var hg (w_Var hn ⟨_, rfl, wO_some rfl (w_Tup (w_Cons (wpR_imp h ?_)))⟩))))
  rintro x M1 ⟨hx, q⟩
  have f1 := cut_fits (lo := none) (hi := some i) f
  have f2 := f1.app (Fits.one hx)
  have f3 := cut_fits (lo := some (i + 1)) (hi := none) f
  refine w_Nil ⟨by simp [line], wO_some (add_tup (f1.add_le (Fits.one hx) (by omega))) (w_SlcSN (w_Var hg (w_Bop (w_Var hn (w_C (wO_some add_ok ⟨_, rfl, wO_some rfl ?_⟩))))))⟩
  exact wO_some (add_tup (f2.add_le f3 (by omega))) (q _ (f2.app f3))
end
end MP
namespace MP.K01
open PySem PySem.Spec PyProof.Rows L2 MP
theorem r_drawn_value {k b : Nat} {T M : Mh} {kd : Str} (j : Jr b T M) (hb : b < 2 ^ 50) : wpR (callAt P (k + 3) "_law_kr_drawn_value" [.h 0, .str kd] M) fun d M' => fit 0 d = true ∧ Jr (b + 2) T M' := by
  refine wp_run0 p_drawn_value rfl rfl ?_
  dsimp only [m__law_kr_drawn_value, List.map, List.append, List.map_cons, List.map_nil, List.length_cons, List.length_nil, List.replicate, List.cons_append, List.nil_append, Nat.reduceSub, Nat.reduceAdd]
  (repeat (first | (with_reducible first | refine z_Seq ?_ | refine z_SetN ?_ | refine z_Set ?_ | refine z_Ret ?_ | refine z_If ?_ | refine z_Expr ?_ | refine z_Next ?_ | refine z_Par ?_ | refine z_SetIx ?_ | refine w_C ?_ | refine w_Bop ?_ | refine w_BopT ?_ | refine w_Cmp ?_ | refine w_Chain ?_ | refine w_Is ?_ | refine w_Neg ?_ | refine w_Not ?_ | refine w_And ?_ | refine w_Or ?_ | refine w_Ite ?_ | refine w_Tup ?_ | refine w_Lst ?_ | refine w_LstT ?_ | refine w_Idx ?_ | refine w_SlcNN ?_ | refine w_SlcNS ?_ | refine w_SlcSN ?_ | refine w_Rev ?_ | refine w_Isi ?_ | refine w_Len ?_ | refine w_Int ?_ | refine w_Bool ?_ | refine w_Max ?_ | refine w_All ?_ | refine w_List ?_ | refine w_ListT ?_ | refine w_Tuple ?_ | refine w_Join ?_ | refine w_Split ?_ | refine w_Call ?_ | refine w_DictOf ?_ | refine w_Dict0 ?_ | refine w_Dict1 ?_ | refine w_Append ?_ | refine w_Extend ?_ | refine w_PopAt ?_ | refine w_Nil ?_ | refine w_Cons ?_ | refine v_Val ?_ | refine v_And ?_ | refine v_Or ?_ | refine v_Cmp ?_ | refine v_Chain ?_ | refine v_Is ?_ | refine v_Not ?_ | refine v_Yes ?_) | ((with_reducible apply w_Var); (focus (exact rfl)))))
  refine wO_some rfl ⟨fun e => ?_, fun e => ?_⟩
  · (repeat (first | (with_reducible refine w_NegC ?_) | (with_reducible first | refine z_Seq ?_ | refine z_SetN ?_ | refine z_Set ?_ | refine z_Ret ?_ | refine z_If ?_ | refine z_Expr ?_ | refine z_Next ?_ | refine z_Par ?_ | refine z_SetIx ?_ | refine w_C ?_ | refine w_Bop ?_ | refine w_BopT ?_ | refine w_Cmp ?_ | refine w_Chain ?_ | refine w_Is ?_ | refine w_Neg ?_ | refine w_Not ?_ | refine w_And ?_ | refine w_Or ?_ | refine w_Ite ?_ | refine w_Tup ?_ | refine w_Lst ?_ | refine w_LstT ?_ | refine w_Idx ?_ | refine w_SlcNN ?_ | refine w_SlcNS ?_ | refine w_SlcSN ?_ | refine w_Rev ?_ | refine w_Isi ?_ | refine w_Len ?_ | refine w_Int ?_ | refine w_Bool ?_ | refine w_Max ?_ | refine w_All ?_ | refine w_List ?_ | refine w_ListT ?_ | refine w_Tuple ?_ | refine w_Join ?_ | refine w_Split ?_ | refine w_Call ?_ | refine w_DictOf ?_ | refine w_Dict0 ?_ | refine w_Dict1 ?_ | refine w_Append ?_ | refine w_Extend ?_ | refine w_PopAt ?_ | refine w_Nil ?_ | refine w_Cons ?_ | refine v_Val ?_ | refine v_And ?_ | refine v_Or ?_ | refine v_Cmp ?_ | refine v_Chain ?_ | refine v_Is ?_ | refine v_Not ?_ | refine v_Yes ?_) | ((with_reducible apply w_Var); (focus (exact rfl))) | refine wO_some (mul_str (by decide +kernel)) ?_ | refine wO_some (pow_int (by decide)) ?_ | (refine wO_some sub_ok ?_) | refine And.intro (by simp [line]; done) ?_))
    rw [cfl_call]
    have hf : ([.str "", .str "a", .str "b", .str "east", .str "west 2", .str " ", .str "abcdefghij klmno 789", .str "0", .str (Txt.mul "z" 20), .str "10"] : List D).all (fit 0) = true := by decide +kernel
    refine wpR_imp (r_one p_take p_one j (by simp) (by omega)) ?_
    rintro d M1 ⟨hd, j1⟩
    exact ⟨by rw [j.len, j1.len], List.all_eq_true.mp hf d hd, j1.mono (by omega)⟩
  · (repeat (first | (with_reducible refine w_NegC ?_) | (with_reducible first | refine z_Seq ?_ | refine z_SetN ?_ | refine z_Set ?_ | refine z_Ret ?_ | refine z_If ?_ | refine z_Expr ?_ | refine z_Next ?_ | refine z_Par ?_ | refine z_SetIx ?_ | refine w_C ?_ | refine w_Bop ?_ | refine w_BopT ?_ | refine w_Cmp ?_ | refine w_Chain ?_ | refine w_Is ?_ | refine w_Neg ?_ | refine w_Not ?_ | refine w_And ?_ | refine w_Or ?_ | refine w_Ite ?_ | refine w_Tup ?_ | refine w_Lst ?_ | refine w_LstT ?_ | refine w_Idx ?_ | refine w_SlcNN ?_ | refine w_SlcNS ?_ | refine w_SlcSN ?_ | refine w_Rev ?_ | refine w_Isi ?_ | refine w_Len ?_ | refine w_Int ?_ | refine w_Bool ?_ | refine w_Max ?_ | refine w_All ?_ | refine w_List ?_ | refine w_ListT ?_ | refine w_Tuple ?_ | refine w_Join ?_ | refine w_Split ?_ | refine w_Call ?_ | refine w_DictOf ?_ | refine w_Dict0 ?_ | refine w_Dict1 ?_ | refine w_Append ?_ | refine w_Extend ?_ | refine w_PopAt ?_ | refine w_Nil ?_ | refine w_Cons ?_ | refine v_Val ?_ | refine v_And ?_ | refine v_Or ?_ | refine v_Cmp ?_ | refine v_Chain ?_ | refine v_Is ?_ | refine v_Not ?_ | refine v_Yes ?_) | ((with_reducible apply w_Var); (focus (exact rfl))) | refine wO_some (mul_str (by decide +kernel)) ?_ | refine wO_some (pow_int (by decide)) ?_ | (refine wO_some sub_ok ?_) | refine And.intro (by simp [line]; done) ?_))
    rw [cfl_call]
    refine wpR_imp (r_take p_take j (m := 9) (by decide) (by omega)) ?_
    rintro _ M1 ⟨n, rfl, hn, j1⟩
    (repeat (first | (with_reducible refine w_NegC ?_) | (with_reducible first | refine z_Seq ?_ | refine z_SetN ?_ | refine z_Set ?_ | refine z_Ret ?_ | refine z_If ?_ | refine z_Expr ?_ | refine z_Next ?_ | refine z_Par ?_ | refine z_SetIx ?_ | refine w_C ?_ | refine w_Bop ?_ | refine w_BopT ?_ | refine w_Cmp ?_ | refine w_Chain ?_ | refine w_Is ?_ | refine w_Neg ?_ | refine w_Not ?_ | refine w_And ?_ | refine w_Or ?_ | refine w_Ite ?_ | refine w_Tup ?_ | refine w_Lst ?_ | refine w_LstT ?_ | refine w_Idx ?_ | refine w_SlcNN ?_ | refine w_SlcNS ?_ | refine w_SlcSN ?_ | refine w_Rev ?_ | refine w_Isi ?_ | refine w_Len ?_ | refine w_Int ?_ | refine w_Bool ?_ | refine w_Max ?_ | refine w_All ?_ | refine w_List ?_ | refine w_ListT ?_ | refine w_Tuple ?_ | refine w_Join ?_ | refine w_Split ?_ | refine w_Call ?_ | refine w_DictOf ?_ | refine w_Dict0 ?_ | refine w_Dict1 ?_ | refine w_Append ?_ | refine w_Extend ?_ | refine w_PopAt ?_ | refine w_Nil ?_ | refine w_Cons ?_ | refine v_Val ?_ | refine v_And ?_ | refine v_Or ?_ | refine v_Cmp ?_ | refine v_Chain ?_ | refine v_Is ?_ | refine v_Not ?_ | refine v_Yes ?_) | ((with_reducible apply w_Var); (focus (exact rfl))) | refine wO_some (mul_str (by decide +kernel)) ?_ | refine wO_some (pow_int (by decide)) ?_ | (refine wO_some sub_ok ?_) | refine And.intro (by simp [line]; done) ?_))
    refine wpR_imp (r_one p_take p_one j1 (by simp) (by omega)) ?_
    rintro d M2 ⟨hd, j2⟩
    refine ⟨by rw [j.len, j2.len], ?_, j2.mono (by omega)⟩
    simp at hd
    rcases hd with rfl | rfl | rfl | rfl | rfl | rfl | rfl | rfl | rfl | rfl | rfl <;> rfl
theorem r_drawn_row {k b : Nat} {T M : Mh} {cs : List (Str × Str)} (j : Jr b T M) (hb : b < 2 ^ 40) (hl : cs.length ≤ 1000) : wpR (callAt P (k + 4) "_law_kr_drawn_row" [.h 0, .lst (cs.map colD)] M) fun d M' => ∃ xs, d = .tup xs ∧ Fits 0 cs.length xs ∧ xs.length = cs.length ∧ Jr (b + 2 * cs.length) T M' := by
  refine wp_run0 p_drawn_row rfl rfl ?_
  dsimp only [m__law_kr_drawn_row, List.map, List.append, List.map_cons, List.map_nil, List.length_cons, List.length_nil, List.replicate, List.cons_append, List.nil_append, Nat.reduceSub, Nat.reduceAdd]
  refine z_Ret (w_Tuple (w_LcF (i_Val (w_Var rfl (wO_some rfl ?_)))))
  refine ⟨_, fun i ys M => Jr (b + 2 * i) T M ∧ ys.length = i ∧ ∀ y ∈ ys, fit 0 y = true, rfl, by rw [List.length_map]; show _ ≤ 16777216; omega, ⟨j, rfl, fun y hy => (by cases hy)⟩, ?_, ?_⟩
  · rintro i d ys M1 hd ⟨j1, hy, hf⟩
    rw [List.getElem?_map] at hd
    obtain ⟨p, hp, rfl⟩ := Option.map_eq_some_iff.mp hd
    have hi := (List.getElem?_eq_some_iff.mp hp).1
    (refine wO_some rfl ?_)
    (repeat (first | (with_reducible first | refine z_Seq ?_ | refine z_SetN ?_ | refine z_Set ?_ | refine z_Ret ?_ | refine z_If ?_ | refine z_Expr ?_ | refine z_Next ?_ | refine z_Par ?_ | refine z_SetIx ?_ | refine w_C ?_ | refine w_Bop ?_ | refine w_BopT ?_ | refine w_Cmp ?_ | refine w_Chain ?_ | refine w_Is ?_ | refine w_Neg ?_ | refine w_Not ?_ | refine w_And ?_ | refine w_Or ?_ | refine w_Ite ?_ | refine w_Tup ?_ | refine w_Lst ?_ | refine w_LstT ?_ | refine w_Idx ?_ | refine w_SlcNN ?_ | refine w_SlcNS ?_ | refine w_SlcSN ?_ | refine w_Rev ?_ | refine w_Isi ?_ | refine w_Len ?_ | refine w_Int ?_ | refine w_Bool ?_ | refine w_Max ?_ | refine w_All ?_ | refine w_List ?_ | refine w_ListT ?_ | refine w_Tuple ?_ | refine w_Join ?_ | refine w_Split ?_ | refine w_Call ?_ | refine w_DictOf ?_ | refine w_Dict0 ?_ | refine w_Dict1 ?_ | refine w_Append ?_ | refine w_Extend ?_ | refine w_PopAt ?_ | refine w_Nil ?_ | refine w_Cons ?_ | refine v_Val ?_ | refine v_And ?_ | refine v_Or ?_ | refine v_Cmp ?_ | refine v_Chain ?_ | refine v_Is ?_ | refine v_Not ?_ | refine v_Yes ?_) | ((with_reducible apply w_Var); (focus (exact rfl)))))
    refine ifT rfl ?_
    (repeat (first | (with_reducible first | refine z_Seq ?_ | refine z_SetN ?_ | refine z_Set ?_ | refine z_Ret ?_ | refine z_If ?_ | refine z_Expr ?_ | refine z_Next ?_ | refine z_Par ?_ | refine z_SetIx ?_ | refine w_C ?_ | refine w_Bop ?_ | refine w_BopT ?_ | refine w_Cmp ?_ | refine w_Chain ?_ | refine w_Is ?_ | refine w_Neg ?_ | refine w_Not ?_ | refine w_And ?_ | refine w_Or ?_ | refine w_Ite ?_ | refine w_Tup ?_ | refine w_Lst ?_ | refine w_LstT ?_ | refine w_Idx ?_ | refine w_SlcNN ?_ | refine w_SlcNS ?_ | refine w_SlcSN ?_ | refine w_Rev ?_ | refine w_Isi ?_ | refine w_Len ?_ | refine w_Int ?_ | refine w_Bool ?_ | refine w_Max ?_ | refine w_All ?_ | refine w_List ?_ | refine w_ListT ?_ | refine w_Tuple ?_ | refine w_Join ?_ | refine w_Split ?_ | refine w_Call ?_ | refine w_DictOf ?_ | refine w_Dict0 ?_ | refine w_Dict1 ?_ | refine w_Append ?_ | refine w_Extend ?_ | refine w_PopAt ?_ | refine w_Nil ?_ | refine w_Cons ?_ | refine v_Val ?_ | refine v_And ?_ | refine v_Or ?_ | refine v_Cmp ?_ | refine v_Chain ?_ | refine v_Is ?_ | refine v_Not ?_ | refine v_Yes ?_) | ((with_reducible apply w_Var); (focus (exact rfl)))))
    rw [cfl_call]
    refine wpR_imp (r_drawn_value j1 (by omega)) ?_
    rintro d M2 ⟨hd, j2⟩
    refine ⟨j2, by rw [List.length_append, hy]; rfl, fun y hy => ?_⟩
    rcases List.mem_append.mp hy with h | h
    · exact hf y h
    · rw [List.mem_singleton.mp h]
      exact hd
  · rintro ys M1 ⟨j1, hy, hf⟩
    rw [List.length_map] at j1 hy
    exact ⟨_, .inl rfl, by rw [j.len, j1.len], ys, rfl, ⟨hf, Nat.le_of_eq hy⟩, hy, j1⟩
end MP.K01

set_option Elab.async false
set_option linter.all false
set_option maxRecDepth 100000
set_option maxHeartbeats 4000000
/-! k01: columns bent. -/
namespace MP.K01
open PySem PySem.Spec PyProof.Rows L2 MP
theorem fit_str1 {n : Nat} {s : Str} (h : s.length ≤ 1000) : fit n (.str s) = true := by cases n <;> exact decide_eq_true h
theorem r_columns_things {k b : Nat} {T M : Mh} (j : Jr b T M) (hb : b < 2 ^ 40) (hT : T.all (noHO 0) = true) : wpR (callAt P (k + 5) "_law_columns_things" [.h 0] M) fun d M' => ∃ xs, d = .lst xs ∧ Fits 3 200 xs ∧ Jr (b + 1000) T M' := by
  refine wp_run p_columns_things rfl rfl ?_
  dsimp only [m__law_columns_things, List.map, List.append, List.map_cons, List.map_nil, List.length_cons, List.length_nil, List.replicate, List.cons_append, List.nil_append, Nat.reduceSub, Nat.reduceAdd]
  refine z_Seq (z_SetN (w_Call (w_Cons (w_Var rfl (w_Cons (w_LcP (i_Val (w_Call (w_Nil ?_)))))))))
  rw [cfl_call, r_names, wpR_ok]
  refine wO_some rfl ⟨namesL, fun d => if nameB d = true then some d else none, rfl, by decide +kernel, fun d hd => ?_, ?_⟩
  · have hd : fit 0 d = true := by
      have : (namesL.all (fit 0)) = true := by decide +kernel
      exact List.all_eq_true.mp this d hd
    refine eqR (wp_turn ?_)
    (refine wO_some rfl ?_)
    (repeat (first | (with_reducible first | refine z_Seq ?_ | refine z_SetN ?_ | refine z_Set ?_ | refine z_Ret ?_ | refine z_If ?_ | refine z_Expr ?_ | refine z_Next ?_ | refine z_Par ?_ | refine z_SetIx ?_ | refine w_C ?_ | refine w_Bop ?_ | refine w_BopT ?_ | refine w_Cmp ?_ | refine w_Chain ?_ | refine w_Is ?_ | refine w_Neg ?_ | refine w_Not ?_ | refine w_And ?_ | refine w_Or ?_ | refine w_Ite ?_ | refine w_Tup ?_ | refine w_Lst ?_ | refine w_LstT ?_ | refine w_Idx ?_ | refine w_SlcNN ?_ | refine w_SlcNS ?_ | refine w_SlcSN ?_ | refine w_Rev ?_ | refine w_Isi ?_ | refine w_Len ?_ | refine w_Int ?_ | refine w_Bool ?_ | refine w_Max ?_ | refine w_All ?_ | refine w_List ?_ | refine w_ListT ?_ | refine w_Tuple ?_ | refine w_Join ?_ | refine w_Split ?_ | refine w_Call ?_ | refine w_DictOf ?_ | refine w_Dict0 ?_ | refine w_Dict1 ?_ | refine w_Append ?_ | refine w_Extend ?_ | refine w_PopAt ?_ | refine w_Nil ?_ | refine w_Cons ?_ | refine v_Val ?_ | refine v_And ?_ | refine v_Or ?_ | refine v_Cmp ?_ | refine v_Chain ?_ | refine v_Is ?_ | refine v_Not ?_ | refine v_Yes ?_) | ((with_reducible apply w_Var); (focus (exact rfl)))))
    rw [cfl_call, r_kr_is_name hd, wpR_ok]
    cases hN : nameB d with
    | true => (repeat (first | (with_reducible first | refine z_Seq ?_ | refine z_SetN ?_ | refine z_Set ?_ | refine z_Ret ?_ | refine z_If ?_ | refine z_Expr ?_ | refine z_Next ?_ | refine z_Par ?_ | refine z_SetIx ?_ | refine w_C ?_ | refine w_Bop ?_ | refine w_BopT ?_ | refine w_Cmp ?_ | refine w_Chain ?_ | refine w_Is ?_ | refine w_Neg ?_ | refine w_Not ?_ | refine w_And ?_ | refine w_Or ?_ | refine w_Ite ?_ | refine w_Tup ?_ | refine w_Lst ?_ | refine w_LstT ?_ | refine w_Idx ?_ | refine w_SlcNN ?_ | refine w_SlcNS ?_ | refine w_SlcSN ?_ | refine w_Rev ?_ | refine w_Isi ?_ | refine w_Len ?_ | refine w_Int ?_ | refine w_Bool ?_ | refine w_Max ?_ | refine w_All ?_ | refine w_List ?_ | refine w_ListT ?_ | refine w_Tuple ?_ | refine w_Join ?_ | refine w_Split ?_ | refine w_Call ?_ | refine w_DictOf ?_ | refine w_Dict0 ?_ | refine w_Dict1 ?_ | refine w_Append ?_ | refine w_Extend ?_ | refine w_PopAt ?_ | refine w_Nil ?_ | refine w_Cons ?_ | refine v_Val ?_ | refine v_And ?_ | refine v_Or ?_ | refine v_Cmp ?_ | refine v_Chain ?_ | refine v_Is ?_ | refine v_Not ?_ | refine v_Yes ?_) | ((with_reducible apply w_Var); (focus (exact rfl))) | (with_reducible first | refine wO_some (isi_I (by with_unfolding_all exact rfl)) ?_ | refine wO_some (isi_B (by with_unfolding_all exact rfl)) ?_ | refine wO_some (isi_S (by with_unfolding_all exact rfl)) ?_ | refine wO_some (isi_T (by with_unfolding_all exact rfl)) ?_ | refine wO_some (isi_L (by with_unfolding_all exact rfl)) ?_) | (first | refine ifT rfl ?_ | refine ifF rfl ?_) | (refine wO_some rfl ?_) | refine ⟨_, rfl, ?_⟩)); exact ⟨(if_pos hN).symm, rfl⟩
    | false => (repeat (first | (with_reducible first | refine z_Seq ?_ | refine z_SetN ?_ | refine z_Set ?_ | refine z_Ret ?_ | refine z_If ?_ | refine z_Expr ?_ | refine z_Next ?_ | refine z_Par ?_ | refine z_SetIx ?_ | refine w_C ?_ | refine w_Bop ?_ | refine w_BopT ?_ | refine w_Cmp ?_ | refine w_Chain ?_ | refine w_Is ?_ | refine w_Neg ?_ | refine w_Not ?_ | refine w_And ?_ | refine w_Or ?_ | refine w_Ite ?_ | refine w_Tup ?_ | refine w_Lst ?_ | refine w_LstT ?_ | refine w_Idx ?_ | refine w_SlcNN ?_ | refine w_SlcNS ?_ | refine w_SlcSN ?_ | refine w_Rev ?_ | refine w_Isi ?_ | refine w_Len ?_ | refine w_Int ?_ | refine w_Bool ?_ | refine w_Max ?_ | refine w_All ?_ | refine w_List ?_ | refine w_ListT ?_ | refine w_Tuple ?_ | refine w_Join ?_ | refine w_Split ?_ | refine w_Call ?_ | refine w_DictOf ?_ | refine w_Dict0 ?_ | refine w_Dict1 ?_ | refine w_Append ?_ | refine w_Extend ?_ | refine w_PopAt ?_ | refine w_Nil ?_ | refine w_Cons ?_ | refine v_Val ?_ | refine v_And ?_ | refine v_Or ?_ | refine v_Cmp ?_ | refine v_Chain ?_ | refine v_Is ?_ | refine v_Not ?_ | refine v_Yes ?_) | ((with_reducible apply w_Var); (focus (exact rfl))) | (with_reducible first | refine wO_some (isi_I (by with_unfolding_all exact rfl)) ?_ | refine wO_some (isi_B (by with_unfolding_all exact rfl)) ?_ | refine wO_some (isi_S (by with_unfolding_all exact rfl)) ?_ | refine wO_some (isi_T (by with_unfolding_all exact rfl)) ?_ | refine wO_some (isi_L (by with_unfolding_all exact rfl)) ?_) | (first | refine ifT rfl ?_ | refine ifF rfl ?_) | (refine wO_some rfl ?_) | refine ⟨_, rfl, ?_⟩)); exact ⟨(if_neg (by rw [hN]; decide)).symm, rfl⟩
  have en : namesL.filterMap (fun d => if nameB d = true then some d else none) = namesS.map D.str := by kernel_rfl
  rw [en]
  (repeat (first | (with_reducible first | refine z_Seq ?_ | refine z_SetN ?_ | refine z_Set ?_ | refine z_Ret ?_ | refine z_If ?_ | refine z_Expr ?_ | refine z_Next ?_ | refine z_Par ?_ | refine z_SetIx ?_ | refine w_C ?_ | refine w_Bop ?_ | refine w_BopT ?_ | refine w_Cmp ?_ | refine w_Chain ?_ | refine w_Is ?_ | refine w_Neg ?_ | refine w_Not ?_ | refine w_And ?_ | refine w_Or ?_ | refine w_Ite ?_ | refine w_Tup ?_ | refine w_Lst ?_ | refine w_LstT ?_ | refine w_Idx ?_ | refine w_SlcNN ?_ | refine w_SlcNS ?_ | refine w_SlcSN ?_ | refine w_Rev ?_ | refine w_Isi ?_ | refine w_Len ?_ | refine w_Int ?_ | refine w_Bool ?_ | refine w_Max ?_ | refine w_All ?_ | refine w_List ?_ | refine w_ListT ?_ | refine w_Tuple ?_ | refine w_Join ?_ | refine w_Split ?_ | refine w_Call ?_ | refine w_DictOf ?_ | refine w_Dict0 ?_ | refine w_Dict1 ?_ | refine w_Append ?_ | refine w_Extend ?_ | refine w_PopAt ?_ | refine w_Nil ?_ | refine w_Cons ?_ | refine v_Val ?_ | refine v_And ?_ | refine v_Or ?_ | refine v_Cmp ?_ | refine v_Chain ?_ | refine v_Is ?_ | refine v_Not ?_ | refine v_Yes ?_) | ((with_reducible apply w_Var); (focus (exact rfl)))))
  refine wpR_imp (r_mixed p_take p_mixed j (by decide +kernel) (by decide +kernel) hT (by omega)) ?_
  rintro _ M1 ⟨ys, rfl, hp0, j1⟩
  obtain ⟨ns, rfl, hp⟩ := perm_strs hp0
  clear hp0
  rw [List.length_map, namesS_len] at j1
  have hnl : ns.length = 24 := by rw [hp.length_eq, namesS_len]
  have hnd : ns.Nodup := hp.nodup_iff.mpr names_nodup
  have hns : ∀ s ∈ ns, s.length ≤ 10 := fun s hs => names_short s (hp.subset hs)
  have hnc : ∀ s ∈ ns, s.cps.all (· < 0x110000) = true := fun s hs => names_chars s (hp.subset hs)
  clear hp en
  refine z_Seq (z_SetN (w_Cols (T := T) (by simp) (by decide) rfl (i_Val (w_SlcNS (w_Var rfl (w_C ⟨_, rfl, ?_⟩))))))
  have e10 : slcD none (some 10) (view M1 (.lst (ns.map D.str))) = some (.lst ((ns.take 10).map D.str)) := by
    show some (D.lst (cut _ _ _)) = _
    rw [show (10 : Int) = ((10 : Nat) : Int) from rfl, cut_lo, List.map_take]
  refine wO_some e10 (wO_some rfl ⟨ns.take 10, b + 24, rfl, by rw [List.length_take]; omega, by omega, j1, fun cs M2 hc hk j2 => ?_⟩)
  have hC : Cols cs := ⟨hk, by rw [hc]; exact hnd.sublist (List.take_sublist _ _), fun p hp => hns _ (List.mem_of_mem_take (by rw [← hc]; exact List.mem_map_of_mem hp)), fun p hp => hnc _ (List.mem_of_mem_take (by rw [← hc]; exact List.mem_map_of_mem hp))⟩
  have hcl : cs.length = 10 := by
    have := congrArg List.length hc
    rw [List.length_map, List.length_take] at this
    omega
  rw [List.length_take, hnl] at j2
  clear e10 hc hk
  have fG := hC.fits (by omega)
  have fGl : fit 2 (.lst (cs.map colD)) = true := fG.lst (by decide)
  have eG : (cs.map colD).length = 10 := by rw [List.length_map, hcl]
  have jM2 := j2.len
  -- made
  refine z_Seq (z_SetN (w_BopT ?_))
  (repeat (first | (with_reducible first | refine z_Seq ?_ | refine z_SetN ?_ | refine z_Set ?_ | refine z_Ret ?_ | refine z_If ?_ | refine z_Expr ?_ | refine z_Next ?_ | refine z_Par ?_ | refine z_SetIx ?_ | refine w_C ?_ | refine w_Bop ?_ | refine w_BopT ?_ | refine w_Cmp ?_ | refine w_Chain ?_ | refine w_Is ?_ | refine w_Neg ?_ | refine w_Not ?_ | refine w_And ?_ | refine w_Or ?_ | refine w_Ite ?_ | refine w_Tup ?_ | refine w_Lst ?_ | refine w_LstT ?_ | refine w_Idx ?_ | refine w_SlcNN ?_ | refine w_SlcNS ?_ | refine w_SlcSN ?_ | refine w_Rev ?_ | refine w_Isi ?_ | refine w_Len ?_ | refine w_Int ?_ | refine w_Bool ?_ | refine w_Max ?_ | refine w_All ?_ | refine w_List ?_ | refine w_ListT ?_ | refine w_Tuple ?_ | refine w_Join ?_ | refine w_Split ?_ | refine w_Call ?_ | refine w_DictOf ?_ | refine w_Dict0 ?_ | refine w_Dict1 ?_ | refine w_Append ?_ | refine w_Extend ?_ | refine w_PopAt ?_ | refine w_Nil ?_ | refine w_Cons ?_ | refine v_Val ?_ | refine v_And ?_ | refine v_Or ?_ | refine v_Cmp ?_ | refine v_Chain ?_ | refine v_Is ?_ | refine v_Not ?_ | refine v_Yes ?_) | ((with_reducible apply w_Var); (focus (exact rfl)))))
  rw [cfl_call, r_plain, wpR_ok]
  refine w_Lst (w_Cons (w_Var rfl (w_Cons (w_SlcNS (w_Var rfl (w_C ⟨_, rfl, wO_some rfl ?_⟩))))))
  refine w_Cons (w_SlcNS (w_Var rfl (w_C ⟨_, rfl, wO_some rfl ?_⟩)))
  (repeat (first | (with_reducible first | refine z_Seq ?_ | refine z_SetN ?_ | refine z_Set ?_ | refine z_Ret ?_ | refine z_If ?_ | refine z_Expr ?_ | refine z_Next ?_ | refine z_Par ?_ | refine z_SetIx ?_ | refine w_C ?_ | refine w_Bop ?_ | refine w_BopT ?_ | refine w_Cmp ?_ | refine w_Chain ?_ | refine w_Is ?_ | refine w_Neg ?_ | refine w_Not ?_ | refine w_And ?_ | refine w_Or ?_ | refine w_Ite ?_ | refine w_Tup ?_ | refine w_Lst ?_ | refine w_LstT ?_ | refine w_Idx ?_ | refine w_SlcNN ?_ | refine w_SlcNS ?_ | refine w_SlcSN ?_ | refine w_Rev ?_ | refine w_Isi ?_ | refine w_Len ?_ | refine w_Int ?_ | refine w_Bool ?_ | refine w_Max ?_ | refine w_All ?_ | refine w_List ?_ | refine w_ListT ?_ | refine w_Tuple ?_ | refine w_Join ?_ | refine w_Split ?_ | refine w_Call ?_ | refine w_DictOf ?_ | refine w_Dict0 ?_ | refine w_Dict1 ?_ | refine w_Append ?_ | refine w_Extend ?_ | refine w_PopAt ?_ | refine w_Nil ?_ | refine w_Cons ?_ | refine v_Val ?_ | refine v_And ?_ | refine v_Or ?_ | refine v_Cmp ?_ | refine v_Chain ?_ | refine v_Is ?_ | refine v_Not ?_ | refine v_Yes ?_) | ((with_reducible apply w_Var); (focus (exact rfl)))))
  refine ⟨by simp [line], ?_⟩
  (repeat (first | (with_reducible first | refine z_Seq ?_ | refine z_SetN ?_ | refine z_Set ?_ | refine z_Ret ?_ | refine z_If ?_ | refine z_Expr ?_ | refine z_Next ?_ | refine z_Par ?_ | refine z_SetIx ?_ | refine w_C ?_ | refine w_Bop ?_ | refine w_BopT ?_ | refine w_Cmp ?_ | refine w_Chain ?_ | refine w_Is ?_ | refine w_Neg ?_ | refine w_Not ?_ | refine w_And ?_ | refine w_Or ?_ | refine w_Ite ?_ | refine w_Tup ?_ | refine w_Lst ?_ | refine w_LstT ?_ | refine w_Idx ?_ | refine w_SlcNN ?_ | refine w_SlcNS ?_ | refine w_SlcSN ?_ | refine w_Rev ?_ | refine w_Isi ?_ | refine w_Len ?_ | refine w_Int ?_ | refine w_Bool ?_ | refine w_Max ?_ | refine w_All ?_ | refine w_List ?_ | refine w_ListT ?_ | refine w_Tuple ?_ | refine w_Join ?_ | refine w_Split ?_ | refine w_Call ?_ | refine w_DictOf ?_ | refine w_Dict0 ?_ | refine w_Dict1 ?_ | refine w_Append ?_ | refine w_Extend ?_ | refine w_PopAt ?_ | refine w_Nil ?_ | refine w_Cons ?_ | refine v_Val ?_ | refine v_And ?_ | refine v_Or ?_ | refine v_Cmp ?_ | refine v_Chain ?_ | refine v_Is ?_ | refine v_Not ?_ | refine v_Yes ?_) | ((with_reducible apply w_Var); (focus (exact rfl)))))
  refine ⟨by simp [line], ?_⟩
  refine wO_some (add_lst (by rw [eG]; decide)) ?_
  (repeat (first | (with_reducible first | refine z_Seq ?_ | refine z_SetN ?_ | refine z_Set ?_ | refine z_Ret ?_ | refine z_If ?_ | refine z_Expr ?_ | refine z_Next ?_ | refine z_Par ?_ | refine z_SetIx ?_ | refine w_C ?_ | refine w_Bop ?_ | refine w_BopT ?_ | refine w_Cmp ?_ | refine w_Chain ?_ | refine w_Is ?_ | refine w_Neg ?_ | refine w_Not ?_ | refine w_And ?_ | refine w_Or ?_ | refine w_Ite ?_ | refine w_Tup ?_ | refine w_Lst ?_ | refine w_LstT ?_ | refine w_Idx ?_ | refine w_SlcNN ?_ | refine w_SlcNS ?_ | refine w_SlcSN ?_ | refine w_Rev ?_ | refine w_Isi ?_ | refine w_Len ?_ | refine w_Int ?_ | refine w_Bool ?_ | refine w_Max ?_ | refine w_All ?_ | refine w_List ?_ | refine w_ListT ?_ | refine w_Tuple ?_ | refine w_Join ?_ | refine w_Split ?_ | refine w_Call ?_ | refine w_DictOf ?_ | refine w_Dict0 ?_ | refine w_Dict1 ?_ | refine w_Append ?_ | refine w_Extend ?_ | refine w_PopAt ?_ | refine w_Nil ?_ | refine w_Cons ?_ | refine v_Val ?_ | refine v_And ?_ | refine v_Or ?_ | refine v_Cmp ?_ | refine v_Chain ?_ | refine v_Is ?_ | refine v_Not ?_ | refine v_Yes ?_) | ((with_reducible apply w_Var); (focus (exact rfl)))))
  refine ⟨_, .inl rfl, ?_⟩
  (repeat (first | (with_reducible first | refine z_Seq ?_ | refine z_SetN ?_ | refine z_Set ?_ | refine z_Ret ?_ | refine z_If ?_ | refine z_Expr ?_ | refine z_Next ?_ | refine z_Par ?_ | refine z_SetIx ?_ | refine w_C ?_ | refine w_Bop ?_ | refine w_BopT ?_ | refine w_Cmp ?_ | refine w_Chain ?_ | refine w_Is ?_ | refine w_Neg ?_ | refine w_Not ?_ | refine w_And ?_ | refine w_Or ?_ | refine w_Ite ?_ | refine w_Tup ?_ | refine w_Lst ?_ | refine w_LstT ?_ | refine w_Idx ?_ | refine w_SlcNN ?_ | refine w_SlcNS ?_ | refine w_SlcSN ?_ | refine w_Rev ?_ | refine w_Isi ?_ | refine w_Len ?_ | refine w_Int ?_ | refine w_Bool ?_ | refine w_Max ?_ | refine w_All ?_ | refine w_List ?_ | refine w_ListT ?_ | refine w_Tuple ?_ | refine w_Join ?_ | refine w_Split ?_ | refine w_Call ?_ | refine w_DictOf ?_ | refine w_Dict0 ?_ | refine w_Dict1 ?_ | refine w_Append ?_ | refine w_Extend ?_ | refine w_PopAt ?_ | refine w_Nil ?_ | refine w_Cons ?_ | refine v_Val ?_ | refine v_And ?_ | refine v_Or ?_ | refine v_Cmp ?_ | refine v_Chain ?_ | refine v_Is ?_ | refine v_Not ?_ | refine v_Yes ?_) | ((with_reducible apply w_Var); (focus (exact rfl)))))
  refine ⟨by simp [line], ?_⟩
  refine ⟨_, add_lst (by rw [plain_len]; show _ ≤ 16777216; simp), ?_⟩
  have fday : Fits 1 1 ([.tup [.str "day", .str "text"]] : List D) := Fits.of (by decide +kernel)
  have f0 : Fits 3 21 (plainL ++ [.lst (cs.map colD), .lst (cut (cs.map colD) none (some 9)), .lst (cut (cs.map colD) none (some 1)), .lst (cs.map colD ++ [.tup [.str "day", .str "text"]]), .tup (cs.map colD)]) := by
    refine Fits.app (a := 16) (b := 5) ((Fits.of (by decide +kernel) : Fits 2 16 plainL).up (by decide)) ?_
    exact Fits.cons (fit_succ fGl) (Fits.cons (fit_succ ((cut_fits fG).lst (by decide))) (Fits.cons (fit_succ ((cut_fits fG).lst (by decide))) (Fits.cons (fit_succ ((fG.app fday).lst (by decide))) (Fits.cons (fit_succ (fG.tup (by decide))) (Fits.nil (a := 0))))))
  have j0 := j2.app [.lst (plainL ++ [.lst (cs.map colD), .lst (cut (cs.map colD) none (some 9)), .lst (cut (cs.map colD) none (some 1)), .lst (cs.map colD ++ [.tup [.str "day", .str "text"]]), .tup (cs.map colD)])]
  rw [jM2]
  -- extend
  refine z_Seq (z_ExtF rfl j0 f0 ?_)
  refine w_Lst (w_Cons (w_Bop (w_SlcNS (w_Var rfl (w_C ⟨_, rfl, wO_some rfl (w_SlcNS (w_Var rfl (w_C ⟨_, rfl, wO_some rfl ?_⟩)))⟩)))))
  refine wO_some (add_lst ((cut_fits fG).add_le (cut_fits fG) (by decide))) ?_
  (repeat (first | (with_reducible first | refine z_Seq ?_ | refine z_SetN ?_ | refine z_Set ?_ | refine z_Ret ?_ | refine z_If ?_ | refine z_Expr ?_ | refine z_Next ?_ | refine z_Par ?_ | refine z_SetIx ?_ | refine w_C ?_ | refine w_Bop ?_ | refine w_BopT ?_ | refine w_Cmp ?_ | refine w_Chain ?_ | refine w_Is ?_ | refine w_Neg ?_ | refine w_Not ?_ | refine w_And ?_ | refine w_Or ?_ | refine w_Ite ?_ | refine w_Tup ?_ | refine w_Lst ?_ | refine w_LstT ?_ | refine w_Idx ?_ | refine w_SlcNN ?_ | refine w_SlcNS ?_ | refine w_SlcSN ?_ | refine w_Rev ?_ | refine w_Isi ?_ | refine w_Len ?_ | refine w_Int ?_ | refine w_Bool ?_ | refine w_Max ?_ | refine w_All ?_ | refine w_List ?_ | refine w_ListT ?_ | refine w_Tuple ?_ | refine w_Join ?_ | refine w_Split ?_ | refine w_Call ?_ | refine w_DictOf ?_ | refine w_Dict0 ?_ | refine w_Dict1 ?_ | refine w_Append ?_ | refine w_Extend ?_ | refine w_PopAt ?_ | refine w_Nil ?_ | refine w_Cons ?_ | refine v_Val ?_ | refine v_And ?_ | refine v_Or ?_ | refine v_Cmp ?_ | refine v_Chain ?_ | refine v_Is ?_ | refine v_Not ?_ | refine v_Yes ?_) | ((with_reducible apply w_Var); (focus (exact rfl)))))
  (refine wO_some rfl ?_)
  (repeat (first | (with_reducible first | refine z_Seq ?_ | refine z_SetN ?_ | refine z_Set ?_ | refine z_Ret ?_ | refine z_If ?_ | refine z_Expr ?_ | refine z_Next ?_ | refine z_Par ?_ | refine z_SetIx ?_ | refine w_C ?_ | refine w_Bop ?_ | refine w_BopT ?_ | refine w_Cmp ?_ | refine w_Chain ?_ | refine w_Is ?_ | refine w_Neg ?_ | refine w_Not ?_ | refine w_And ?_ | refine w_Or ?_ | refine w_Ite ?_ | refine w_Tup ?_ | refine w_Lst ?_ | refine w_LstT ?_ | refine w_Idx ?_ | refine w_SlcNN ?_ | refine w_SlcNS ?_ | refine w_SlcSN ?_ | refine w_Rev ?_ | refine w_Isi ?_ | refine w_Len ?_ | refine w_Int ?_ | refine w_Bool ?_ | refine w_Max ?_ | refine w_All ?_ | refine w_List ?_ | refine w_ListT ?_ | refine w_Tuple ?_ | refine w_Join ?_ | refine w_Split ?_ | refine w_Call ?_ | refine w_DictOf ?_ | refine w_Dict0 ?_ | refine w_Dict1 ?_ | refine w_Append ?_ | refine w_Extend ?_ | refine w_PopAt ?_ | refine w_Nil ?_ | refine w_Cons ?_ | refine v_Val ?_ | refine v_And ?_ | refine v_Or ?_ | refine v_Cmp ?_ | refine v_Chain ?_ | refine v_Is ?_ | refine v_Not ?_ | refine v_Yes ?_) | ((with_reducible apply w_Var); (focus (exact rfl)))))
  refine ⟨by simp [line], ?_⟩
  refine ⟨_, 2, b + 24 + 10, rfl, j0, Fits.cons (fit_succ (((cut_fits fG).app (cut_fits fG)).lst (by decide))) (Fits.cons (fit_succ ((rev_fits fG).lst (by decide))) (Fits.nil (a := 0))), by decide, fun x1 M3 f1 j3 => ?_⟩
  clear j0 f0
  refine z_Seq (z_SetN (w_Call (w_Cons (w_Var rfl (w_Cons (w_C (w_Nil ?_)))))))
  rw [cfl_call]
  refine wpR_imp (r_take p_take j3 (m := 10) (by decide) (by omega)) ?_
  rintro _ M4 ⟨n, rfl, hn, j4⟩
  have hi : n.toNat < cs.length := by omega
  have eI : atI (cs.map colD) n = some (colD cs[n.toNat]) := by
    obtain ⟨d, e1, e2⟩ := atI_nat (xs := cs.map colD) (i := n) (by rw [eG]; omega)
    rw [List.getElem?_map, List.getElem?_eq_getElem hi] at e2
    rw [e1, ← e2]
    rfl
  generalize hpp : cs[n.toNat] = p at eI
  have hp1 : p.1.length ≤ 10 := hC.short p (by rw [← hpp]; exact List.getElem_mem hi)
  have hp2 : p.2.length ≤ 10 := okC_short (hC.ok p (by rw [← hpp]; exact List.getElem_mem hi))
  clear hpp hi
  -- odds
  refine z_Seq (z_SetN (w_Lst ?_))
  (repeat (first | (with_reducible first | refine z_Seq ?_ | refine z_SetN ?_ | refine z_Set ?_ | refine z_Ret ?_ | refine z_If ?_ | refine z_Expr ?_ | refine z_Next ?_ | refine z_Par ?_ | refine z_SetIx ?_ | refine w_C ?_ | refine w_Bop ?_ | refine w_BopT ?_ | refine w_Cmp ?_ | refine w_Chain ?_ | refine w_Is ?_ | refine w_Neg ?_ | refine w_Not ?_ | refine w_And ?_ | refine w_Or ?_ | refine w_Ite ?_ | refine w_Tup ?_ | refine w_Lst ?_ | refine w_LstT ?_ | refine w_Idx ?_ | refine w_SlcNN ?_ | refine w_SlcNS ?_ | refine w_SlcSN ?_ | refine w_Rev ?_ | refine w_Isi ?_ | refine w_Len ?_ | refine w_Int ?_ | refine w_Bool ?_ | refine w_Max ?_ | refine w_All ?_ | refine w_List ?_ | refine w_ListT ?_ | refine w_Tuple ?_ | refine w_Join ?_ | refine w_Split ?_ | refine w_Call ?_ | refine w_DictOf ?_ | refine w_Dict0 ?_ | refine w_Dict1 ?_ | refine w_Append ?_ | refine w_Extend ?_ | refine w_PopAt ?_ | refine w_Nil ?_ | refine w_Cons ?_ | refine v_Val ?_ | refine v_And ?_ | refine v_Or ?_ | refine v_Cmp ?_ | refine v_Chain ?_ | refine v_Is ?_ | refine v_Not ?_ | refine v_Yes ?_) | ((with_reducible apply w_Var); (focus (exact rfl)))))
  refine ⟨by simp [line], ?_⟩
  (repeat (first | (with_reducible first | refine z_Seq ?_ | refine z_SetN ?_ | refine z_Set ?_ | refine z_Ret ?_ | refine z_If ?_ | refine z_Expr ?_ | refine z_Next ?_ | refine z_Par ?_ | refine z_SetIx ?_ | refine w_C ?_ | refine w_Bop ?_ | refine w_BopT ?_ | refine w_Cmp ?_ | refine w_Chain ?_ | refine w_Is ?_ | refine w_Neg ?_ | refine w_Not ?_ | refine w_And ?_ | refine w_Or ?_ | refine w_Ite ?_ | refine w_Tup ?_ | refine w_Lst ?_ | refine w_LstT ?_ | refine w_Idx ?_ | refine w_SlcNN ?_ | refine w_SlcNS ?_ | refine w_SlcSN ?_ | refine w_Rev ?_ | refine w_Isi ?_ | refine w_Len ?_ | refine w_Int ?_ | refine w_Bool ?_ | refine w_Max ?_ | refine w_All ?_ | refine w_List ?_ | refine w_ListT ?_ | refine w_Tuple ?_ | refine w_Join ?_ | refine w_Split ?_ | refine w_Call ?_ | refine w_DictOf ?_ | refine w_Dict0 ?_ | refine w_Dict1 ?_ | refine w_Append ?_ | refine w_Extend ?_ | refine w_PopAt ?_ | refine w_Nil ?_ | refine w_Cons ?_ | refine v_Val ?_ | refine v_And ?_ | refine v_Or ?_ | refine v_Cmp ?_ | refine v_Chain ?_ | refine v_Is ?_ | refine v_Not ?_ | refine v_Yes ?_) | ((with_reducible apply w_Var); (focus (exact rfl)))))
  refine ⟨by simp [line], ?_⟩
  (repeat (first | (with_reducible first | refine z_Seq ?_ | refine z_SetN ?_ | refine z_Set ?_ | refine z_Ret ?_ | refine z_If ?_ | refine z_Expr ?_ | refine z_Next ?_ | refine z_Par ?_ | refine z_SetIx ?_ | refine w_C ?_ | refine w_Bop ?_ | refine w_BopT ?_ | refine w_Cmp ?_ | refine w_Chain ?_ | refine w_Is ?_ | refine w_Neg ?_ | refine w_Not ?_ | refine w_And ?_ | refine w_Or ?_ | refine w_Ite ?_ | refine w_Tup ?_ | refine w_Lst ?_ | refine w_LstT ?_ | refine w_Idx ?_ | refine w_SlcNN ?_ | refine w_SlcNS ?_ | refine w_SlcSN ?_ | refine w_Rev ?_ | refine w_Isi ?_ | refine w_Len ?_ | refine w_Int ?_ | refine w_Bool ?_ | refine w_Max ?_ | refine w_All ?_ | refine w_List ?_ | refine w_ListT ?_ | refine w_Tuple ?_ | refine w_Join ?_ | refine w_Split ?_ | refine w_Call ?_ | refine w_DictOf ?_ | refine w_Dict0 ?_ | refine w_Dict1 ?_ | refine w_Append ?_ | refine w_Extend ?_ | refine w_PopAt ?_ | refine w_Nil ?_ | refine w_Cons ?_ | refine v_Val ?_ | refine v_And ?_ | refine v_Or ?_ | refine v_Cmp ?_ | refine v_Chain ?_ | refine v_Is ?_ | refine v_Not ?_ | refine v_Yes ?_) | ((with_reducible apply w_Var); (focus (exact rfl)))))
  refine wO_some eI ?_
  (repeat (first | (with_reducible first | refine z_Seq ?_ | refine z_SetN ?_ | refine z_Set ?_ | refine z_Ret ?_ | refine z_If ?_ | refine z_Expr ?_ | refine z_Next ?_ | refine z_Par ?_ | refine z_SetIx ?_ | refine w_C ?_ | refine w_Bop ?_ | refine w_BopT ?_ | refine w_Cmp ?_ | refine w_Chain ?_ | refine w_Is ?_ | refine w_Neg ?_ | refine w_Not ?_ | refine w_And ?_ | refine w_Or ?_ | refine w_Ite ?_ | refine w_Tup ?_ | refine w_Lst ?_ | refine w_LstT ?_ | refine w_Idx ?_ | refine w_SlcNN ?_ | refine w_SlcNS ?_ | refine w_SlcSN ?_ | refine w_Rev ?_ | refine w_Isi ?_ | refine w_Len ?_ | refine w_Int ?_ | refine w_Bool ?_ | refine w_Max ?_ | refine w_All ?_ | refine w_List ?_ | refine w_ListT ?_ | refine w_Tuple ?_ | refine w_Join ?_ | refine w_Split ?_ | refine w_Call ?_ | refine w_DictOf ?_ | refine w_Dict0 ?_ | refine w_Dict1 ?_ | refine w_Append ?_ | refine w_Extend ?_ | refine w_PopAt ?_ | refine w_Nil ?_ | refine w_Cons ?_ | refine v_Val ?_ | refine v_And ?_ | refine v_Or ?_ | refine v_Cmp ?_ | refine v_Chain ?_ | refine v_Is ?_ | refine v_Not ?_ | refine v_Yes ?_) | ((with_reducible apply w_Var); (focus (exact rfl)))))
  (refine wO_some rfl ?_)
  (repeat (first | (with_reducible first | refine z_Seq ?_ | refine z_SetN ?_ | refine z_Set ?_ | refine z_Ret ?_ | refine z_If ?_ | refine z_Expr ?_ | refine z_Next ?_ | refine z_Par ?_ | refine z_SetIx ?_ | refine w_C ?_ | refine w_Bop ?_ | refine w_BopT ?_ | refine w_Cmp ?_ | refine w_Chain ?_ | refine w_Is ?_ | refine w_Neg ?_ | refine w_Not ?_ | refine w_And ?_ | refine w_Or ?_ | refine w_Ite ?_ | refine w_Tup ?_ | refine w_Lst ?_ | refine w_LstT ?_ | refine w_Idx ?_ | refine w_SlcNN ?_ | refine w_SlcNS ?_ | refine w_SlcSN ?_ | refine w_Rev ?_ | refine w_Isi ?_ | refine w_Len ?_ | refine w_Int ?_ | refine w_Bool ?_ | refine w_Max ?_ | refine w_All ?_ | refine w_List ?_ | refine w_ListT ?_ | refine w_Tuple ?_ | refine w_Join ?_ | refine w_Split ?_ | refine w_Call ?_ | refine w_DictOf ?_ | refine w_Dict0 ?_ | refine w_Dict1 ?_ | refine w_Append ?_ | refine w_Extend ?_ | refine w_PopAt ?_ | refine w_Nil ?_ | refine w_Cons ?_ | refine v_Val ?_ | refine v_And ?_ | refine v_Or ?_ | refine v_Cmp ?_ | refine v_Chain ?_ | refine v_Is ?_ | refine v_Not ?_ | refine v_Yes ?_) | ((with_reducible apply w_Var); (focus (exact rfl)))))
  refine wO_some eI ?_
  (repeat (first | (with_reducible first | refine z_Seq ?_ | refine z_SetN ?_ | refine z_Set ?_ | refine z_Ret ?_ | refine z_If ?_ | refine z_Expr ?_ | refine z_Next ?_ | refine z_Par ?_ | refine z_SetIx ?_ | refine w_C ?_ | refine w_Bop ?_ | refine w_BopT ?_ | refine w_Cmp ?_ | refine w_Chain ?_ | refine w_Is ?_ | refine w_Neg ?_ | refine w_Not ?_ | refine w_And ?_ | refine w_Or ?_ | refine w_Ite ?_ | refine w_Tup ?_ | refine w_Lst ?_ | refine w_LstT ?_ | refine w_Idx ?_ | refine w_SlcNN ?_ | refine w_SlcNS ?_ | refine w_SlcSN ?_ | refine w_Rev ?_ | refine w_Isi ?_ | refine w_Len ?_ | refine w_Int ?_ | refine w_Bool ?_ | refine w_Max ?_ | refine w_All ?_ | refine w_List ?_ | refine w_ListT ?_ | refine w_Tuple ?_ | refine w_Join ?_ | refine w_Split ?_ | refine w_Call ?_ | refine w_DictOf ?_ | refine w_Dict0 ?_ | refine w_Dict1 ?_ | refine w_Append ?_ | refine w_Extend ?_ | refine w_PopAt ?_ | refine w_Nil ?_ | refine w_Cons ?_ | refine v_Val ?_ | refine v_And ?_ | refine v_Or ?_ | refine v_Cmp ?_ | refine v_Chain ?_ | refine v_Is ?_ | refine v_Not ?_ | refine v_Yes ?_) | ((with_reducible apply w_Var); (focus (exact rfl)))))
  (refine wO_some rfl ?_)
  (repeat (first | (with_reducible first | refine z_Seq ?_ | refine z_SetN ?_ | refine z_Set ?_ | refine z_Ret ?_ | refine z_If ?_ | refine z_Expr ?_ | refine z_Next ?_ | refine z_Par ?_ | refine z_SetIx ?_ | refine w_C ?_ | refine w_Bop ?_ | refine w_BopT ?_ | refine w_Cmp ?_ | refine w_Chain ?_ | refine w_Is ?_ | refine w_Neg ?_ | refine w_Not ?_ | refine w_And ?_ | refine w_Or ?_ | refine w_Ite ?_ | refine w_Tup ?_ | refine w_Lst ?_ | refine w_LstT ?_ | refine w_Idx ?_ | refine w_SlcNN ?_ | refine w_SlcNS ?_ | refine w_SlcSN ?_ | refine w_Rev ?_ | refine w_Isi ?_ | refine w_Len ?_ | refine w_Int ?_ | refine w_Bool ?_ | refine w_Max ?_ | refine w_All ?_ | refine w_List ?_ | refine w_ListT ?_ | refine w_Tuple ?_ | refine w_Join ?_ | refine w_Split ?_ | refine w_Call ?_ | refine w_DictOf ?_ | refine w_Dict0 ?_ | refine w_Dict1 ?_ | refine w_Append ?_ | refine w_Extend ?_ | refine w_PopAt ?_ | refine w_Nil ?_ | refine w_Cons ?_ | refine v_Val ?_ | refine v_And ?_ | refine v_Or ?_ | refine v_Cmp ?_ | refine v_Chain ?_ | refine v_Is ?_ | refine v_Not ?_ | refine v_Yes ?_) | ((with_reducible apply w_Var); (focus (exact rfl)))))
  refine ⟨by simp [line], ?_⟩
  (repeat (first | (with_reducible first | refine z_Seq ?_ | refine z_SetN ?_ | refine z_Set ?_ | refine z_Ret ?_ | refine z_If ?_ | refine z_Expr ?_ | refine z_Next ?_ | refine z_Par ?_ | refine z_SetIx ?_ | refine w_C ?_ | refine w_Bop ?_ | refine w_BopT ?_ | refine w_Cmp ?_ | refine w_Chain ?_ | refine w_Is ?_ | refine w_Neg ?_ | refine w_Not ?_ | refine w_And ?_ | refine w_Or ?_ | refine w_Ite ?_ | refine w_Tup ?_ | refine w_Lst ?_ | refine w_LstT ?_ | refine w_Idx ?_ | refine w_SlcNN ?_ | refine w_SlcNS ?_ | refine w_SlcSN ?_ | refine w_Rev ?_ | refine w_Isi ?_ | refine w_Len ?_ | refine w_Int ?_ | refine w_Bool ?_ | refine w_Max ?_ | refine w_All ?_ | refine w_List ?_ | refine w_ListT ?_ | refine w_Tuple ?_ | refine w_Join ?_ | refine w_Split ?_ | refine w_Call ?_ | refine w_DictOf ?_ | refine w_Dict0 ?_ | refine w_Dict1 ?_ | refine w_Append ?_ | refine w_Extend ?_ | refine w_PopAt ?_ | refine w_Nil ?_ | refine w_Cons ?_ | refine v_Val ?_ | refine v_And ?_ | refine v_Or ?_ | refine v_Cmp ?_ | refine v_Chain ?_ | refine v_Is ?_ | refine v_Not ?_ | refine v_Yes ?_) | ((with_reducible apply w_Var); (focus (exact rfl)))))
  refine wO_some eI ?_
  (repeat (first | (with_reducible first | refine z_Seq ?_ | refine z_SetN ?_ | refine z_Set ?_ | refine z_Ret ?_ | refine z_If ?_ | refine z_Expr ?_ | refine z_Next ?_ | refine z_Par ?_ | refine z_SetIx ?_ | refine w_C ?_ | refine w_Bop ?_ | refine w_BopT ?_ | refine w_Cmp ?_ | refine w_Chain ?_ | refine w_Is ?_ | refine w_Neg ?_ | refine w_Not ?_ | refine w_And ?_ | refine w_Or ?_ | refine w_Ite ?_ | refine w_Tup ?_ | refine w_Lst ?_ | refine w_LstT ?_ | refine w_Idx ?_ | refine w_SlcNN ?_ | refine w_SlcNS ?_ | refine w_SlcSN ?_ | refine w_Rev ?_ | refine w_Isi ?_ | refine w_Len ?_ | refine w_Int ?_ | refine w_Bool ?_ | refine w_Max ?_ | refine w_All ?_ | refine w_List ?_ | refine w_ListT ?_ | refine w_Tuple ?_ | refine w_Join ?_ | refine w_Split ?_ | refine w_Call ?_ | refine w_DictOf ?_ | refine w_Dict0 ?_ | refine w_Dict1 ?_ | refine w_Append ?_ | refine w_Extend ?_ | refine w_PopAt ?_ | refine w_Nil ?_ | refine w_Cons ?_ | refine v_Val ?_ | refine v_And ?_ | refine v_Or ?_ | refine v_Cmp ?_ | refine v_Chain ?_ | refine v_Is ?_ | refine v_Not ?_ | refine v_Yes ?_) | ((with_reducible apply w_Var); (focus (exact rfl)))))
  refine ⟨by simp [line], ?_⟩
  refine wO_some (add_tup (by show _ ≤ 16777216; simp)) ?_
  (repeat (first | (with_reducible first | refine z_Seq ?_ | refine z_SetN ?_ | refine z_Set ?_ | refine z_Ret ?_ | refine z_If ?_ | refine z_Expr ?_ | refine z_Next ?_ | refine z_Par ?_ | refine z_SetIx ?_ | refine w_C ?_ | refine w_Bop ?_ | refine w_BopT ?_ | refine w_Cmp ?_ | refine w_Chain ?_ | refine w_Is ?_ | refine w_Neg ?_ | refine w_Not ?_ | refine w_And ?_ | refine w_Or ?_ | refine w_Ite ?_ | refine w_Tup ?_ | refine w_Lst ?_ | refine w_LstT ?_ | refine w_Idx ?_ | refine w_SlcNN ?_ | refine w_SlcNS ?_ | refine w_SlcSN ?_ | refine w_Rev ?_ | refine w_Isi ?_ | refine w_Len ?_ | refine w_Int ?_ | refine w_Bool ?_ | refine w_Max ?_ | refine w_All ?_ | refine w_List ?_ | refine w_ListT ?_ | refine w_Tuple ?_ | refine w_Join ?_ | refine w_Split ?_ | refine w_Call ?_ | refine w_DictOf ?_ | refine w_Dict0 ?_ | refine w_Dict1 ?_ | refine w_Append ?_ | refine w_Extend ?_ | refine w_PopAt ?_ | refine w_Nil ?_ | refine w_Cons ?_ | refine v_Val ?_ | refine v_And ?_ | refine v_Or ?_ | refine v_Cmp ?_ | refine v_Chain ?_ | refine v_Is ?_ | refine v_Not ?_ | refine v_Yes ?_) | ((with_reducible apply w_Var); (focus (exact rfl)))))
  refine ⟨by simp [line], ?_⟩
  have hp1' : p.1.length ≤ 1000 := by omega
  have hp2' : p.2.length ≤ 1000 := by omega
  have fp1 : ∀ n, fit n (.str p.1) = true := fun n => fit_str1 hp1'
  have fp2 : ∀ n, fit n (.str p.2) = true := fun n => fit_str1 hp2'
  have fnm : ∀ n, fit n (.str "number") = true := fun n => fit_str1 (by decide +kernel)
  have fNm : ∀ n, fit n (.str "Number") = true := fun n => fit_str1 (by decide +kernel)
  have fa : ∀ n, fit n (.str "a") = true := fun n => fit_str1 (by decide +kernel)
  have fO : Fits 1 7 ([.non, .int 5, .str "a", .tup [], .tup [.str "a"], .lst [.str p.1, .str p.2], .tup ([.str p.1, .str p.2] ++ [.str "number"])] : List D) := by
    refine Fits.cons rfl (Fits.cons rfl (Fits.cons (fa _) (Fits.cons rfl (Fits.cons ?_ (Fits.cons ?_ (Fits.cons ?_ (Fits.nil (a := 0))))))))
    · exact (Fits.one (fa 0)).tup (by decide)
    · exact (Fits.cons (fp1 0) (Fits.one (fp2 0))).lst (by decide)
    · exact (Fits.cons (fp1 0) (Fits.cons (fp2 0) (Fits.one (fnm 0)))).tup (by decide)
  -- the loops
  refine z_Seq (z_ForGrow (T := T) (n := 3) 1 0 (by simp) (i_Val ?_))
  (repeat (first | (with_reducible first | refine z_Seq ?_ | refine z_SetN ?_ | refine z_Set ?_ | refine z_Ret ?_ | refine z_If ?_ | refine z_Expr ?_ | refine z_Next ?_ | refine z_Par ?_ | refine z_SetIx ?_ | refine w_C ?_ | refine w_Bop ?_ | refine w_BopT ?_ | refine w_Cmp ?_ | refine w_Chain ?_ | refine w_Is ?_ | refine w_Neg ?_ | refine w_Not ?_ | refine w_And ?_ | refine w_Or ?_ | refine w_Ite ?_ | refine w_Tup ?_ | refine w_Lst ?_ | refine w_LstT ?_ | refine w_Idx ?_ | refine w_SlcNN ?_ | refine w_SlcNS ?_ | refine w_SlcSN ?_ | refine w_Rev ?_ | refine w_Isi ?_ | refine w_Len ?_ | refine w_Int ?_ | refine w_Bool ?_ | refine w_Max ?_ | refine w_All ?_ | refine w_List ?_ | refine w_ListT ?_ | refine w_Tuple ?_ | refine w_Join ?_ | refine w_Split ?_ | refine w_Call ?_ | refine w_DictOf ?_ | refine w_Dict0 ?_ | refine w_Dict1 ?_ | refine w_Append ?_ | refine w_Extend ?_ | refine w_PopAt ?_ | refine w_Nil ?_ | refine w_Cons ?_ | refine v_Val ?_ | refine v_And ?_ | refine v_Or ?_ | refine v_Cmp ?_ | refine v_Chain ?_ | refine v_Is ?_ | refine v_Not ?_ | refine v_Yes ?_) | ((with_reducible apply w_Var); (focus (exact rfl)))))
  refine wO_some eI ?_
  (repeat (first | (with_reducible first | refine z_Seq ?_ | refine z_SetN ?_ | refine z_Set ?_ | refine z_Ret ?_ | refine z_If ?_ | refine z_Expr ?_ | refine z_Next ?_ | refine z_Par ?_ | refine z_SetIx ?_ | refine w_C ?_ | refine w_Bop ?_ | refine w_BopT ?_ | refine w_Cmp ?_ | refine w_Chain ?_ | refine w_Is ?_ | refine w_Neg ?_ | refine w_Not ?_ | refine w_And ?_ | refine w_Or ?_ | refine w_Ite ?_ | refine w_Tup ?_ | refine w_Lst ?_ | refine w_LstT ?_ | refine w_Idx ?_ | refine w_SlcNN ?_ | refine w_SlcNS ?_ | refine w_SlcSN ?_ | refine w_Rev ?_ | refine w_Isi ?_ | refine w_Len ?_ | refine w_Int ?_ | refine w_Bool ?_ | refine w_Max ?_ | refine w_All ?_ | refine w_List ?_ | refine w_ListT ?_ | refine w_Tuple ?_ | refine w_Join ?_ | refine w_Split ?_ | refine w_Call ?_ | refine w_DictOf ?_ | refine w_Dict0 ?_ | refine w_Dict1 ?_ | refine w_Append ?_ | refine w_Extend ?_ | refine w_PopAt ?_ | refine w_Nil ?_ | refine w_Cons ?_ | refine v_Val ?_ | refine v_And ?_ | refine v_Or ?_ | refine v_Cmp ?_ | refine v_Chain ?_ | refine v_Is ?_ | refine v_Not ?_ | refine v_Yes ?_) | ((with_reducible apply w_Var); (focus (exact rfl)))))
  (refine wO_some rfl ?_)
  (repeat (first | (with_reducible first | refine z_Seq ?_ | refine z_SetN ?_ | refine z_Set ?_ | refine z_Ret ?_ | refine z_If ?_ | refine z_Expr ?_ | refine z_Next ?_ | refine z_Par ?_ | refine z_SetIx ?_ | refine w_C ?_ | refine w_Bop ?_ | refine w_BopT ?_ | refine w_Cmp ?_ | refine w_Chain ?_ | refine w_Is ?_ | refine w_Neg ?_ | refine w_Not ?_ | refine w_And ?_ | refine w_Or ?_ | refine w_Ite ?_ | refine w_Tup ?_ | refine w_Lst ?_ | refine w_LstT ?_ | refine w_Idx ?_ | refine w_SlcNN ?_ | refine w_SlcNS ?_ | refine w_SlcSN ?_ | refine w_Rev ?_ | refine w_Isi ?_ | refine w_Len ?_ | refine w_Int ?_ | refine w_Bool ?_ | refine w_Max ?_ | refine w_All ?_ | refine w_List ?_ | refine w_ListT ?_ | refine w_Tuple ?_ | refine w_Join ?_ | refine w_Split ?_ | refine w_Call ?_ | refine w_DictOf ?_ | refine w_Dict0 ?_ | refine w_Dict1 ?_ | refine w_Append ?_ | refine w_Extend ?_ | refine w_PopAt ?_ | refine w_Nil ?_ | refine w_Cons ?_ | refine v_Val ?_ | refine v_And ?_ | refine v_Or ?_ | refine v_Cmp ?_ | refine v_Chain ?_ | refine v_Is ?_ | refine v_Not ?_ | refine v_Yes ?_) | ((with_reducible apply w_Var); (focus (exact rfl)))))
  refine ⟨by simp [line], ?_⟩
  (repeat (first | (with_reducible first | refine z_Seq ?_ | refine z_SetN ?_ | refine z_Set ?_ | refine z_Ret ?_ | refine z_If ?_ | refine z_Expr ?_ | refine z_Next ?_ | refine z_Par ?_ | refine z_SetIx ?_ | refine w_C ?_ | refine w_Bop ?_ | refine w_BopT ?_ | refine w_Cmp ?_ | refine w_Chain ?_ | refine w_Is ?_ | refine w_Neg ?_ | refine w_Not ?_ | refine w_And ?_ | refine w_Or ?_ | refine w_Ite ?_ | refine w_Tup ?_ | refine w_Lst ?_ | refine w_LstT ?_ | refine w_Idx ?_ | refine w_SlcNN ?_ | refine w_SlcNS ?_ | refine w_SlcSN ?_ | refine w_Rev ?_ | refine w_Isi ?_ | refine w_Len ?_ | refine w_Int ?_ | refine w_Bool ?_ | refine w_Max ?_ | refine w_All ?_ | refine w_List ?_ | refine w_ListT ?_ | refine w_Tuple ?_ | refine w_Join ?_ | refine w_Split ?_ | refine w_Call ?_ | refine w_DictOf ?_ | refine w_Dict0 ?_ | refine w_Dict1 ?_ | refine w_Append ?_ | refine w_Extend ?_ | refine w_PopAt ?_ | refine w_Nil ?_ | refine w_Cons ?_ | refine v_Val ?_ | refine v_And ?_ | refine v_Or ?_ | refine v_Cmp ?_ | refine v_Chain ?_ | refine v_Is ?_ | refine v_Not ?_ | refine v_Yes ?_) | ((with_reducible apply w_Var); (focus (exact rfl)))))
  refine wO_some eI ?_
  (repeat (first | (with_reducible first | refine z_Seq ?_ | refine z_SetN ?_ | refine z_Set ?_ | refine z_Ret ?_ | refine z_If ?_ | refine z_Expr ?_ | refine z_Next ?_ | refine z_Par ?_ | refine z_SetIx ?_ | refine w_C ?_ | refine w_Bop ?_ | refine w_BopT ?_ | refine w_Cmp ?_ | refine w_Chain ?_ | refine w_Is ?_ | refine w_Neg ?_ | refine w_Not ?_ | refine w_And ?_ | refine w_Or ?_ | refine w_Ite ?_ | refine w_Tup ?_ | refine w_Lst ?_ | refine w_LstT ?_ | refine w_Idx ?_ | refine w_SlcNN ?_ | refine w_SlcNS ?_ | refine w_SlcSN ?_ | refine w_Rev ?_ | refine w_Isi ?_ | refine w_Len ?_ | refine w_Int ?_ | refine w_Bool ?_ | refine w_Max ?_ | refine w_All ?_ | refine w_List ?_ | refine w_ListT ?_ | refine w_Tuple ?_ | refine w_Join ?_ | refine w_Split ?_ | refine w_Call ?_ | refine w_DictOf ?_ | refine w_Dict0 ?_ | refine w_Dict1 ?_ | refine w_Append ?_ | refine w_Extend ?_ | refine w_PopAt ?_ | refine w_Nil ?_ | refine w_Cons ?_ | refine v_Val ?_ | refine v_And ?_ | refine v_Or ?_ | refine v_Cmp ?_ | refine v_Chain ?_ | refine v_Is ?_ | refine v_Not ?_ | refine v_Yes ?_) | ((with_reducible apply w_Var); (focus (exact rfl)))))
  (refine wO_some rfl ?_)
  (repeat (first | (with_reducible first | refine z_Seq ?_ | refine z_SetN ?_ | refine z_Set ?_ | refine z_Ret ?_ | refine z_If ?_ | refine z_Expr ?_ | refine z_Next ?_ | refine z_Par ?_ | refine z_SetIx ?_ | refine w_C ?_ | refine w_Bop ?_ | refine w_BopT ?_ | refine w_Cmp ?_ | refine w_Chain ?_ | refine w_Is ?_ | refine w_Neg ?_ | refine w_Not ?_ | refine w_And ?_ | refine w_Or ?_ | refine w_Ite ?_ | refine w_Tup ?_ | refine w_Lst ?_ | refine w_LstT ?_ | refine w_Idx ?_ | refine w_SlcNN ?_ | refine w_SlcNS ?_ | refine w_SlcSN ?_ | refine w_Rev ?_ | refine w_Isi ?_ | refine w_Len ?_ | refine w_Int ?_ | refine w_Bool ?_ | refine w_Max ?_ | refine w_All ?_ | refine w_List ?_ | refine w_ListT ?_ | refine w_Tuple ?_ | refine w_Join ?_ | refine w_Split ?_ | refine w_Call ?_ | refine w_DictOf ?_ | refine w_Dict0 ?_ | refine w_Dict1 ?_ | refine w_Append ?_ | refine w_Extend ?_ | refine w_PopAt ?_ | refine w_Nil ?_ | refine w_Cons ?_ | refine v_Val ?_ | refine v_And ?_ | refine v_Or ?_ | refine v_Cmp ?_ | refine v_Chain ?_ | refine v_Is ?_ | refine v_Not ?_ | refine v_Yes ?_) | ((with_reducible apply w_Var); (focus (exact rfl)))))
  refine ⟨by simp [line], ?_⟩
  refine ⟨by simp [line], ?_⟩
  refine wO_some (add_lst (by show _ ≤ 16777216; simp)) (wO_some rfl ?_)
  have fO2 := fO.app (b := 2) (ys := [.tup [.str p.1, .str "Number"], .tup [.str p.1, .non]]) (Fits.cons ((Fits.cons (fp1 0) (Fits.one (fNm 0))).tup (by decide)) (Fits.one ((Fits.cons (fp1 0) (Fits.one (x := .non) rfl)).tup (by decide))))
  generalize hO : ([.non, .int 5, .str "a", .tup [], .tup [.str "a"], .lst [.str p.1, .str p.2], .tup ([.str p.1, .str p.2] ++ [.str "number"])] : List D) ++ [.tup [.str p.1, .str "Number"], .tup [.str p.1, .non]] = os at fO2
  refine ⟨os, x1, 23, _, by rw [← hO], f1, j4, ?_, ?_⟩
  · intro i d M5 xs hi hd f j5
    have hl := fO2.2
    refine z_AppF rfl j5 f (by omega) (w_Bent rfl rfl fG (by decide) (w_Var rfl ⟨fO2.1 d hd, fun ys fy => ⟨_, j5, fit_succ (fy.lst (by decide)), fun xs' M6 f6 j6 => ⟨rfl, xs', f6, j6⟩⟩⟩))
  intro o M5 x2 f2 j5
  have hol : os.length = 9 := by rw [← hO]; rfl
  rw [hol] at f2 j5
  clear hol hO
  refine z_Seq (z_ForGrow (T := T) (n := 3) 1 0 (by simp) (i_Val ?_))
  (repeat (first | (with_reducible first | refine z_Seq ?_ | refine z_SetN ?_ | refine z_Set ?_ | refine z_Ret ?_ | refine z_If ?_ | refine z_Expr ?_ | refine z_Next ?_ | refine z_Par ?_ | refine z_SetIx ?_ | refine w_C ?_ | refine w_Bop ?_ | refine w_BopT ?_ | refine w_Cmp ?_ | refine w_Chain ?_ | refine w_Is ?_ | refine w_Neg ?_ | refine w_Not ?_ | refine w_And ?_ | refine w_Or ?_ | refine w_Ite ?_ | refine w_Tup ?_ | refine w_Lst ?_ | refine w_LstT ?_ | refine w_Idx ?_ | refine w_SlcNN ?_ | refine w_SlcNS ?_ | refine w_SlcSN ?_ | refine w_Rev ?_ | refine w_Isi ?_ | refine w_Len ?_ | refine w_Int ?_ | refine w_Bool ?_ | refine w_Max ?_ | refine w_All ?_ | refine w_List ?_ | refine w_ListT ?_ | refine w_Tuple ?_ | refine w_Join ?_ | refine w_Split ?_ | refine w_Call ?_ | refine w_DictOf ?_ | refine w_Dict0 ?_ | refine w_Dict1 ?_ | refine w_Append ?_ | refine w_Extend ?_ | refine w_PopAt ?_ | refine w_Nil ?_ | refine w_Cons ?_ | refine v_Val ?_ | refine v_And ?_ | refine v_Or ?_ | refine v_Cmp ?_ | refine v_Chain ?_ | refine v_Is ?_ | refine v_Not ?_ | refine v_Yes ?_) | ((with_reducible apply w_Var); (focus (exact rfl)))))
  refine ⟨by simp [line], ?_⟩
  have eJ : ∃ q : Str × Str, atI (cs.map colD) (n - 1) = some (colD q) ∧ q.1.length ≤ 10 := by
    have : ∀ (i : Nat) (hi : i < cs.length), (cs.map colD)[i]? = some (colD cs[i]) := fun i hi => by
      rw [List.getElem?_map, List.getElem?_eq_getElem hi]
      rfl
    by_cases h0 : n = 0
    · subst h0
      refine ⟨cs[9], ?_, hC.short _ (List.getElem_mem _)⟩
      unfold atI ixN
      rw [eG]
      exact this 9 (by omega)
    · refine ⟨cs[(n - 1).toNat]'(by omega), ?_, hC.short _ (List.getElem_mem _)⟩
      unfold atI ixN
      rw [eG, if_pos (by omega), if_pos (by omega)]
      exact this (n - 1).toNat (by omega)
  obtain ⟨q, eJ, hq⟩ := eJ
  (repeat (first | (with_reducible first | refine z_Seq ?_ | refine z_SetN ?_ | refine z_Set ?_ | refine z_Ret ?_ | refine z_If ?_ | refine z_Expr ?_ | refine z_Next ?_ | refine z_Par ?_ | refine z_SetIx ?_ | refine w_C ?_ | refine w_Bop ?_ | refine w_BopT ?_ | refine w_Cmp ?_ | refine w_Chain ?_ | refine w_Is ?_ | refine w_Neg ?_ | refine w_Not ?_ | refine w_And ?_ | refine w_Or ?_ | refine w_Ite ?_ | refine w_Tup ?_ | refine w_Lst ?_ | refine w_LstT ?_ | refine w_Idx ?_ | refine w_SlcNN ?_ | refine w_SlcNS ?_ | refine w_SlcSN ?_ | refine w_Rev ?_ | refine w_Isi ?_ | refine w_Len ?_ | refine w_Int ?_ | refine w_Bool ?_ | refine w_Max ?_ | refine w_All ?_ | refine w_List ?_ | refine w_ListT ?_ | refine w_Tuple ?_ | refine w_Join ?_ | refine w_Split ?_ | refine w_Call ?_ | refine w_DictOf ?_ | refine w_Dict0 ?_ | refine w_Dict1 ?_ | refine w_Append ?_ | refine w_Extend ?_ | refine w_PopAt ?_ | refine w_Nil ?_ | refine w_Cons ?_ | refine v_Val ?_ | refine v_And ?_ | refine v_Or ?_ | refine v_Cmp ?_ | refine v_Chain ?_ | refine v_Is ?_ | refine v_Not ?_ | refine v_Yes ?_) | ((with_reducible apply w_Var); (focus (exact rfl)))))
  refine wO_some sub_ok ?_
  refine wO_some eJ ?_
  (repeat (first | (with_reducible first | refine z_Seq ?_ | refine z_SetN ?_ | refine z_Set ?_ | refine z_Ret ?_ | refine z_If ?_ | refine z_Expr ?_ | refine z_Next ?_ | refine z_Par ?_ | refine z_SetIx ?_ | refine w_C ?_ | refine w_Bop ?_ | refine w_BopT ?_ | refine w_Cmp ?_ | refine w_Chain ?_ | refine w_Is ?_ | refine w_Neg ?_ | refine w_Not ?_ | refine w_And ?_ | refine w_Or ?_ | refine w_Ite ?_ | refine w_Tup ?_ | refine w_Lst ?_ | refine w_LstT ?_ | refine w_Idx ?_ | refine w_SlcNN ?_ | refine w_SlcNS ?_ | refine w_SlcSN ?_ | refine w_Rev ?_ | refine w_Isi ?_ | refine w_Len ?_ | refine w_Int ?_ | refine w_Bool ?_ | refine w_Max ?_ | refine w_All ?_ | refine w_List ?_ | refine w_ListT ?_ | refine w_Tuple ?_ | refine w_Join ?_ | refine w_Split ?_ | refine w_Call ?_ | refine w_DictOf ?_ | refine w_Dict0 ?_ | refine w_Dict1 ?_ | refine w_Append ?_ | refine w_Extend ?_ | refine w_PopAt ?_ | refine w_Nil ?_ | refine w_Cons ?_ | refine v_Val ?_ | refine v_And ?_ | refine v_Or ?_ | refine v_Cmp ?_ | refine v_Chain ?_ | refine v_Is ?_ | refine v_Not ?_ | refine v_Yes ?_) | ((with_reducible apply w_Var); (focus (exact rfl)))))
  (refine wO_some rfl ?_)
  (repeat (first | (with_reducible first | refine z_Seq ?_ | refine z_SetN ?_ | refine z_Set ?_ | refine z_Ret ?_ | refine z_If ?_ | refine z_Expr ?_ | refine z_Next ?_ | refine z_Par ?_ | refine z_SetIx ?_ | refine w_C ?_ | refine w_Bop ?_ | refine w_BopT ?_ | refine w_Cmp ?_ | refine w_Chain ?_ | refine w_Is ?_ | refine w_Neg ?_ | refine w_Not ?_ | refine w_And ?_ | refine w_Or ?_ | refine w_Ite ?_ | refine w_Tup ?_ | refine w_Lst ?_ | refine w_LstT ?_ | refine w_Idx ?_ | refine w_SlcNN ?_ | refine w_SlcNS ?_ | refine w_SlcSN ?_ | refine w_Rev ?_ | refine w_Isi ?_ | refine w_Len ?_ | refine w_Int ?_ | refine w_Bool ?_ | refine w_Max ?_ | refine w_All ?_ | refine w_List ?_ | refine w_ListT ?_ | refine w_Tuple ?_ | refine w_Join ?_ | refine w_Split ?_ | refine w_Call ?_ | refine w_DictOf ?_ | refine w_Dict0 ?_ | refine w_Dict1 ?_ | refine w_Append ?_ | refine w_Extend ?_ | refine w_PopAt ?_ | refine w_Nil ?_ | refine w_Cons ?_ | refine v_Val ?_ | refine v_And ?_ | refine v_Or ?_ | refine v_Cmp ?_ | refine v_Chain ?_ | refine v_Is ?_ | refine v_Not ?_ | refine v_Yes ?_) | ((with_reducible apply w_Var); (focus (exact rfl)))))
  refine ⟨by simp [line], ?_⟩
  refine wO_some rfl ⟨_, x2, _, _, rfl, f2, j5, ?_, ?_⟩
  · intro i d M6 xs hi hd f j6
    have hi : i < 9 := hi
    have fd : fit 1 d = true := by
      have : Fits 1 9 ([.str "last", .str "", .str "A", .str "abcdefghi", .non, .int 5, .tup [.str "a"], .str q.1, .str "day"] : List D) := by
        have f7 : Fits 1 7 ([.str "last", .str "", .str "A", .str "abcdefghi", .non, .int 5, .tup [.str "a"]] : List D) := Fits.of (by decide +kernel)
        have f2 : Fits 1 2 ([.str q.1, .str "day"] : List D) := Fits.cons (fit_str1 (by omega)) (Fits.one (by decide +kernel))
        exact f7.app f2
      exact this.1 d hd
    refine z_AppF rfl j6 f (by omega) (w_Bent rfl rfl (fG.up (m := 2) (by decide)) (by decide) (w_Tup (w_Cons (w_Var rfl (w_Cons (w_C (w_Nil ⟨by simp [line], ?_⟩)))))))
    exact ⟨(Fits.cons fd (Fits.one (fnm 1))).tup (by decide), fun ys fy => ⟨_, j6, fy.lst (by decide), fun xs' M7 f7 j7 => ⟨rfl, xs', f7, j7⟩⟩⟩
  intro o M6 x3 f3 j6
  refine z_Seq (z_ForGrow (T := T) (n := 3) 1 0 (by simp) (i_Val ?_))
  (repeat (first | (with_reducible first | refine z_Seq ?_ | refine z_SetN ?_ | refine z_Set ?_ | refine z_Ret ?_ | refine z_If ?_ | refine z_Expr ?_ | refine z_Next ?_ | refine z_Par ?_ | refine z_SetIx ?_ | refine w_C ?_ | refine w_Bop ?_ | refine w_BopT ?_ | refine w_Cmp ?_ | refine w_Chain ?_ | refine w_Is ?_ | refine w_Neg ?_ | refine w_Not ?_ | refine w_And ?_ | refine w_Or ?_ | refine w_Ite ?_ | refine w_Tup ?_ | refine w_Lst ?_ | refine w_LstT ?_ | refine w_Idx ?_ | refine w_SlcNN ?_ | refine w_SlcNS ?_ | refine w_SlcSN ?_ | refine w_Rev ?_ | refine w_Isi ?_ | refine w_Len ?_ | refine w_Int ?_ | refine w_Bool ?_ | refine w_Max ?_ | refine w_All ?_ | refine w_List ?_ | refine w_ListT ?_ | refine w_Tuple ?_ | refine w_Join ?_ | refine w_Split ?_ | refine w_Call ?_ | refine w_DictOf ?_ | refine w_Dict0 ?_ | refine w_Dict1 ?_ | refine w_Append ?_ | refine w_Extend ?_ | refine w_PopAt ?_ | refine w_Nil ?_ | refine w_Cons ?_ | refine v_Val ?_ | refine v_And ?_ | refine v_Or ?_ | refine v_Cmp ?_ | refine v_Chain ?_ | refine v_Is ?_ | refine v_Not ?_ | refine v_Yes ?_) | ((with_reducible apply w_Var); (focus (exact rfl)))))
  refine ⟨by simp [line], ?_⟩
  (repeat (first | (with_reducible first | refine z_Seq ?_ | refine z_SetN ?_ | refine z_Set ?_ | refine z_Ret ?_ | refine z_If ?_ | refine z_Expr ?_ | refine z_Next ?_ | refine z_Par ?_ | refine z_SetIx ?_ | refine w_C ?_ | refine w_Bop ?_ | refine w_BopT ?_ | refine w_Cmp ?_ | refine w_Chain ?_ | refine w_Is ?_ | refine w_Neg ?_ | refine w_Not ?_ | refine w_And ?_ | refine w_Or ?_ | refine w_Ite ?_ | refine w_Tup ?_ | refine w_Lst ?_ | refine w_LstT ?_ | refine w_Idx ?_ | refine w_SlcNN ?_ | refine w_SlcNS ?_ | refine w_SlcSN ?_ | refine w_Rev ?_ | refine w_Isi ?_ | refine w_Len ?_ | refine w_Int ?_ | refine w_Bool ?_ | refine w_Max ?_ | refine w_All ?_ | refine w_List ?_ | refine w_ListT ?_ | refine w_Tuple ?_ | refine w_Join ?_ | refine w_Split ?_ | refine w_Call ?_ | refine w_DictOf ?_ | refine w_Dict0 ?_ | refine w_Dict1 ?_ | refine w_Append ?_ | refine w_Extend ?_ | refine w_PopAt ?_ | refine w_Nil ?_ | refine w_Cons ?_ | refine v_Val ?_ | refine v_And ?_ | refine v_Or ?_ | refine v_Cmp ?_ | refine v_Chain ?_ | refine v_Is ?_ | refine v_Not ?_ | refine v_Yes ?_) | ((with_reducible apply w_Var); (focus (exact rfl)))))
  refine ⟨by simp [line], ?_⟩
  (repeat (first | (with_reducible first | refine z_Seq ?_ | refine z_SetN ?_ | refine z_Set ?_ | refine z_Ret ?_ | refine z_If ?_ | refine z_Expr ?_ | refine z_Next ?_ | refine z_Par ?_ | refine z_SetIx ?_ | refine w_C ?_ | refine w_Bop ?_ | refine w_BopT ?_ | refine w_Cmp ?_ | refine w_Chain ?_ | refine w_Is ?_ | refine w_Neg ?_ | refine w_Not ?_ | refine w_And ?_ | refine w_Or ?_ | refine w_Ite ?_ | refine w_Tup ?_ | refine w_Lst ?_ | refine w_LstT ?_ | refine w_Idx ?_ | refine w_SlcNN ?_ | refine w_SlcNS ?_ | refine w_SlcSN ?_ | refine w_Rev ?_ | refine w_Isi ?_ | refine w_Len ?_ | refine w_Int ?_ | refine w_Bool ?_ | refine w_Max ?_ | refine w_All ?_ | refine w_List ?_ | refine w_ListT ?_ | refine w_Tuple ?_ | refine w_Join ?_ | refine w_Split ?_ | refine w_Call ?_ | refine w_DictOf ?_ | refine w_Dict0 ?_ | refine w_Dict1 ?_ | refine w_Append ?_ | refine w_Extend ?_ | refine w_PopAt ?_ | refine w_Nil ?_ | refine w_Cons ?_ | refine v_Val ?_ | refine v_And ?_ | refine v_Or ?_ | refine v_Cmp ?_ | refine v_Chain ?_ | refine v_Is ?_ | refine v_Not ?_ | refine v_Yes ?_) | ((with_reducible apply w_Var); (focus (exact rfl)))))
  refine ⟨by simp [line], ?_⟩
  refine wO_some rfl ⟨_, x3, _, _, rfl, f3, j6, ?_, ?_⟩
  · intro i d M7 xs hi hd f j7
    have hi : i < 8 := hi
    have fd : fit 1 d = true := by
      have f7 : Fits 1 8 ([.str "numbers", .str "", .str "texts", .int 0, .bl true, .tup [.str "number"], .lst [.str "text"], .str "day"] : List D) := Fits.of (by decide +kernel)
      exact f7.1 d hd
    have fl : ∀ (l : List D), l.length = 9 → 23 + 1 * 9 + 1 * l.length + 1 * i < 16777216 := fun l h => by omega
    refine z_AppF rfl j7 f (fl _ rfl) (w_Bent rfl rfl (fG.up (m := 2) (by decide)) (by decide) (w_Tup (w_Cons (w_Idx (w_Idx (w_Var rfl (w_Var rfl (wO_some eI (w_C (wO_some rfl ?_))))))))))
    (repeat (first | (with_reducible first | refine z_Seq ?_ | refine z_SetN ?_ | refine z_Set ?_ | refine z_Ret ?_ | refine z_If ?_ | refine z_Expr ?_ | refine z_Next ?_ | refine z_Par ?_ | refine z_SetIx ?_ | refine w_C ?_ | refine w_Bop ?_ | refine w_BopT ?_ | refine w_Cmp ?_ | refine w_Chain ?_ | refine w_Is ?_ | refine w_Neg ?_ | refine w_Not ?_ | refine w_And ?_ | refine w_Or ?_ | refine w_Ite ?_ | refine w_Tup ?_ | refine w_Lst ?_ | refine w_LstT ?_ | refine w_Idx ?_ | refine w_SlcNN ?_ | refine w_SlcNS ?_ | refine w_SlcSN ?_ | refine w_Rev ?_ | refine w_Isi ?_ | refine w_Len ?_ | refine w_Int ?_ | refine w_Bool ?_ | refine w_Max ?_ | refine w_All ?_ | refine w_List ?_ | refine w_ListT ?_ | refine w_Tuple ?_ | refine w_Join ?_ | refine w_Split ?_ | refine w_Call ?_ | refine w_DictOf ?_ | refine w_Dict0 ?_ | refine w_Dict1 ?_ | refine w_Append ?_ | refine w_Extend ?_ | refine w_PopAt ?_ | refine w_Nil ?_ | refine w_Cons ?_ | refine v_Val ?_ | refine v_And ?_ | refine v_Or ?_ | refine v_Cmp ?_ | refine v_Chain ?_ | refine v_Is ?_ | refine v_Not ?_ | refine v_Yes ?_) | ((with_reducible apply w_Var); (focus (exact rfl)))))
    refine ⟨by simp [line], ?_⟩
    exact ⟨(Fits.cons (fp1 1) (Fits.one fd)).tup (by decide), fun ys fy => ⟨_, j7, fy.lst (by decide), fun xs' M7 f7 j7 => ⟨rfl, xs', f7, j7⟩⟩⟩
  intro o M7 x4 f4 j7
  have f4 : Fits 3 49 x4 := f4
  -- the end
  refine z_Ret (w_Bop (w_Var rfl (w_Lst (w_Cons (w_Dict1 (w_Cons (w_DictOf (w_Var rfl ?_))))))))
  refine ⟨_, _, rfl, unpair_cols cs, hC.keys, ?_⟩
  (repeat (first | (with_reducible first | refine z_Seq ?_ | refine z_SetN ?_ | refine z_Set ?_ | refine z_Ret ?_ | refine z_If ?_ | refine z_Expr ?_ | refine z_Next ?_ | refine z_Par ?_ | refine z_SetIx ?_ | refine w_C ?_ | refine w_Bop ?_ | refine w_BopT ?_ | refine w_Cmp ?_ | refine w_Chain ?_ | refine w_Is ?_ | refine w_Neg ?_ | refine w_Not ?_ | refine w_And ?_ | refine w_Or ?_ | refine w_Ite ?_ | refine w_Tup ?_ | refine w_Lst ?_ | refine w_LstT ?_ | refine w_Idx ?_ | refine w_SlcNN ?_ | refine w_SlcNS ?_ | refine w_SlcSN ?_ | refine w_Rev ?_ | refine w_Isi ?_ | refine w_Len ?_ | refine w_Int ?_ | refine w_Bool ?_ | refine w_Max ?_ | refine w_All ?_ | refine w_List ?_ | refine w_ListT ?_ | refine w_Tuple ?_ | refine w_Join ?_ | refine w_Split ?_ | refine w_Call ?_ | refine w_DictOf ?_ | refine w_Dict0 ?_ | refine w_Dict1 ?_ | refine w_Append ?_ | refine w_Extend ?_ | refine w_PopAt ?_ | refine w_Nil ?_ | refine w_Cons ?_ | refine v_Val ?_ | refine v_And ?_ | refine v_Or ?_ | refine v_Cmp ?_ | refine v_Chain ?_ | refine v_Is ?_ | refine v_Not ?_ | refine v_Yes ?_) | ((with_reducible apply w_Var); (focus (exact rfl)))))
  refine ⟨by simp [line], ?_⟩
  obtain ⟨p0, e0, hp0⟩ : ∃ q : Str × Str, atI (cs.map colD) 0 = some (colD q) ∧ fit 1 (colD q) = true := by
    refine ⟨cs[0], ?_, fG.1 _ (List.mem_map_of_mem (List.getElem_mem _))⟩
    exact atI_at (i := 0) (by rw [List.getElem?_map, List.getElem?_eq_getElem (by omega)]; rfl)
  (repeat (first | (with_reducible first | refine z_Seq ?_ | refine z_SetN ?_ | refine z_Set ?_ | refine z_Ret ?_ | refine z_If ?_ | refine z_Expr ?_ | refine z_Next ?_ | refine z_Par ?_ | refine z_SetIx ?_ | refine w_C ?_ | refine w_Bop ?_ | refine w_BopT ?_ | refine w_Cmp ?_ | refine w_Chain ?_ | refine w_Is ?_ | refine w_Neg ?_ | refine w_Not ?_ | refine w_And ?_ | refine w_Or ?_ | refine w_Ite ?_ | refine w_Tup ?_ | refine w_Lst ?_ | refine w_LstT ?_ | refine w_Idx ?_ | refine w_SlcNN ?_ | refine w_SlcNS ?_ | refine w_SlcSN ?_ | refine w_Rev ?_ | refine w_Isi ?_ | refine w_Len ?_ | refine w_Int ?_ | refine w_Bool ?_ | refine w_Max ?_ | refine w_All ?_ | refine w_List ?_ | refine w_ListT ?_ | refine w_Tuple ?_ | refine w_Join ?_ | refine w_Split ?_ | refine w_Call ?_ | refine w_DictOf ?_ | refine w_Dict0 ?_ | refine w_Dict1 ?_ | refine w_Append ?_ | refine w_Extend ?_ | refine w_PopAt ?_ | refine w_Nil ?_ | refine w_Cons ?_ | refine v_Val ?_ | refine v_And ?_ | refine v_Or ?_ | refine v_Cmp ?_ | refine v_Chain ?_ | refine v_Is ?_ | refine v_Not ?_ | refine v_Yes ?_) | ((with_reducible apply w_Var); (focus (exact rfl)))))
  refine wO_some e0 ?_
  (repeat (first | (with_reducible first | refine z_Seq ?_ | refine z_SetN ?_ | refine z_Set ?_ | refine z_Ret ?_ | refine z_If ?_ | refine z_Expr ?_ | refine z_Next ?_ | refine z_Par ?_ | refine z_SetIx ?_ | refine w_C ?_ | refine w_Bop ?_ | refine w_BopT ?_ | refine w_Cmp ?_ | refine w_Chain ?_ | refine w_Is ?_ | refine w_Neg ?_ | refine w_Not ?_ | refine w_And ?_ | refine w_Or ?_ | refine w_Ite ?_ | refine w_Tup ?_ | refine w_Lst ?_ | refine w_LstT ?_ | refine w_Idx ?_ | refine w_SlcNN ?_ | refine w_SlcNS ?_ | refine w_SlcSN ?_ | refine w_Rev ?_ | refine w_Isi ?_ | refine w_Len ?_ | refine w_Int ?_ | refine w_Bool ?_ | refine w_Max ?_ | refine w_All ?_ | refine w_List ?_ | refine w_ListT ?_ | refine w_Tuple ?_ | refine w_Join ?_ | refine w_Split ?_ | refine w_Call ?_ | refine w_DictOf ?_ | refine w_Dict0 ?_ | refine w_Dict1 ?_ | refine w_Append ?_ | refine w_Extend ?_ | refine w_PopAt ?_ | refine w_Nil ?_ | refine w_Cons ?_ | refine v_Val ?_ | refine v_And ?_ | refine v_Or ?_ | refine v_Cmp ?_ | refine v_Chain ?_ | refine v_Is ?_ | refine v_Not ?_ | refine v_Yes ?_) | ((with_reducible apply w_Var); (focus (exact rfl)))))
  refine wO_some e0 ?_
  (repeat (first | (with_reducible first | refine z_Seq ?_ | refine z_SetN ?_ | refine z_Set ?_ | refine z_Ret ?_ | refine z_If ?_ | refine z_Expr ?_ | refine z_Next ?_ | refine z_Par ?_ | refine z_SetIx ?_ | refine w_C ?_ | refine w_Bop ?_ | refine w_BopT ?_ | refine w_Cmp ?_ | refine w_Chain ?_ | refine w_Is ?_ | refine w_Neg ?_ | refine w_Not ?_ | refine w_And ?_ | refine w_Or ?_ | refine w_Ite ?_ | refine w_Tup ?_ | refine w_Lst ?_ | refine w_LstT ?_ | refine w_Idx ?_ | refine w_SlcNN ?_ | refine w_SlcNS ?_ | refine w_SlcSN ?_ | refine w_Rev ?_ | refine w_Isi ?_ | refine w_Len ?_ | refine w_Int ?_ | refine w_Bool ?_ | refine w_Max ?_ | refine w_All ?_ | refine w_List ?_ | refine w_ListT ?_ | refine w_Tuple ?_ | refine w_Join ?_ | refine w_Split ?_ | refine w_Call ?_ | refine w_DictOf ?_ | refine w_Dict0 ?_ | refine w_Dict1 ?_ | refine w_Append ?_ | refine w_Extend ?_ | refine w_PopAt ?_ | refine w_Nil ?_ | refine w_Cons ?_ | refine v_Val ?_ | refine v_And ?_ | refine v_Or ?_ | refine v_Cmp ?_ | refine v_Chain ?_ | refine v_Is ?_ | refine v_Not ?_ | refine v_Yes ?_) | ((with_reducible apply w_Var); (focus (exact rfl)))))
  refine ⟨by simp [line], ?_⟩
  refine ⟨by simp [line], ?_⟩
  rw [own_view j7]
  refine wO_some (add_lst (by have := f4.2; show _ ≤ 16777216; simp; omega)) ?_
  have fe : Fits 3 5 ([.dic [.inr "a"] [.str "number"], .dic (cs.map fun p => .inr p.1) (cs.map fun p => .str p.2), .lst [.lst (cs.map colD)], colD p0, .lst [colD p0, .non]] : List D) := by
    refine Fits.cons rfl (Fits.cons hC.dict (Fits.cons ((Fits.one fGl).lst (by decide)) (Fits.cons (fit_le (by decide) hp0) (Fits.one (fit_succ ((Fits.cons hp0 (Fits.one rfl)).lst (by decide)))))))
  exact end_val j.len j7 ((f4.app fe).noH) hT fun M' j' => ⟨_, rfl, (f4.app fe).le (by decide), j'.mono (by simp)⟩
end MP.K01

set_option Elab.async false
set_option linter.all false
set_option maxRecDepth 100000
set_option maxHeartbeats 4000000
/-! k01: hearing and owing; all rows right; the law. -/
namespace MP.K01
open PySem PySem.Spec PyProof.Rows L2 MP
theorem r_heard_row {k n : Nat} {d : D} {cs : List (Str × Str)} {M : Mh} (h : fit n d = true) (hc : ∀ p ∈ cs, okC p) (hl : cs.length ≤ 1000) : callAt P (k + 6) "_law_heard_row" [d, .lst (cs.map colD)] M = .ok (.tup [.str "told", .bl (rowB d cs)]) M := by
  refine eqR (wp_run0 p_heard_row rfl rfl ?_)
  dsimp only [m__law_heard_row, List.map, List.append, List.map_cons, List.map_nil, List.length_cons, List.length_nil, List.replicate, List.cons_append, List.nil_append, Nat.reduceSub, Nat.reduceAdd]
  refine z_Ret (w_Hear rfl (w_Call (w_Cons (w_Var rfl (w_Cons (w_Var rfl (w_Nil ?_)))))))
  rw [show (cfl P (k + 5)).lower.call = callAt P (k + 3) from rfl, r_is_row h hc hl, wpR_ok]
  exact ⟨rfl, rfl, rfl⟩
def judge (s : Str) (d : D) : Bool := if s = "name" then nameB d else if s = "value" then valueB d else if s = "day" then dayB d else columnsB d
theorem r_heard_judge {k n : Nat} {s : Str} {d : D} {M : Mh} (h : fit n d = true) : callAt P (k + 6) "_law_heard_judge" [.str s, d] M = .ok (.tup [.str "told", .bl (judge s d)]) M := by
  refine eqR (wp_run0 p_heard_judge rfl rfl ?_)
  dsimp only [m__law_heard_judge, List.map, List.append, List.map_cons, List.map_nil, List.length_cons, List.length_nil, List.replicate, List.cons_append, List.nil_append, Nat.reduceSub, Nat.reduceAdd]
  unfold judge
  (repeat (first | (with_reducible first | refine z_Seq ?_ | refine z_SetN ?_ | refine z_Set ?_ | refine z_Ret ?_ | refine z_If ?_ | refine z_Expr ?_ | refine z_Next ?_ | refine z_Par ?_ | refine z_SetIx ?_ | refine w_C ?_ | refine w_Bop ?_ | refine w_BopT ?_ | refine w_Cmp ?_ | refine w_Chain ?_ | refine w_Is ?_ | refine w_Neg ?_ | refine w_Not ?_ | refine w_And ?_ | refine w_Or ?_ | refine w_Ite ?_ | refine w_Tup ?_ | refine w_Lst ?_ | refine w_LstT ?_ | refine w_Idx ?_ | refine w_SlcNN ?_ | refine w_SlcNS ?_ | refine w_SlcSN ?_ | refine w_Rev ?_ | refine w_Isi ?_ | refine w_Len ?_ | refine w_Int ?_ | refine w_Bool ?_ | refine w_Max ?_ | refine w_All ?_ | refine w_List ?_ | refine w_ListT ?_ | refine w_Tuple ?_ | refine w_Join ?_ | refine w_Split ?_ | refine w_Call ?_ | refine w_DictOf ?_ | refine w_Dict0 ?_ | refine w_Dict1 ?_ | refine w_Append ?_ | refine w_Extend ?_ | refine w_PopAt ?_ | refine w_Nil ?_ | refine w_Cons ?_ | refine v_Val ?_ | refine v_And ?_ | refine v_Or ?_ | refine v_Cmp ?_ | refine v_Chain ?_ | refine v_Is ?_ | refine v_Not ?_ | refine v_Yes ?_) | ((with_reducible apply w_Var); (focus (exact rfl)))))
  refine wO_some rfl ⟨fun e => ?_, fun e => ?_⟩
  · rw [if_pos (of_decide_eq_true e)]
    refine z_Ret (w_Hear rfl (w_Call (w_Cons (w_Var rfl (w_Nil ?_)))))
    rw [show (cfl P (k + 5)).lower.call = callAt P (k + 3) from rfl, r_is_name h, wpR_ok]
    exact ⟨rfl, rfl, rfl⟩
  rw [if_neg (of_decide_eq_false e)]
  (repeat (first | (with_reducible first | refine z_Seq ?_ | refine z_SetN ?_ | refine z_Set ?_ | refine z_Ret ?_ | refine z_If ?_ | refine z_Expr ?_ | refine z_Next ?_ | refine z_Par ?_ | refine z_SetIx ?_ | refine w_C ?_ | refine w_Bop ?_ | refine w_BopT ?_ | refine w_Cmp ?_ | refine w_Chain ?_ | refine w_Is ?_ | refine w_Neg ?_ | refine w_Not ?_ | refine w_And ?_ | refine w_Or ?_ | refine w_Ite ?_ | refine w_Tup ?_ | refine w_Lst ?_ | refine w_LstT ?_ | refine w_Idx ?_ | refine w_SlcNN ?_ | refine w_SlcNS ?_ | refine w_SlcSN ?_ | refine w_Rev ?_ | refine w_Isi ?_ | refine w_Len ?_ | refine w_Int ?_ | refine w_Bool ?_ | refine w_Max ?_ | refine w_All ?_ | refine w_List ?_ | refine w_ListT ?_ | refine w_Tuple ?_ | refine w_Join ?_ | refine w_Split ?_ | refine w_Call ?_ | refine w_DictOf ?_ | refine w_Dict0 ?_ | refine w_Dict1 ?_ | refine w_Append ?_ | refine w_Extend ?_ | refine w_PopAt ?_ | refine w_Nil ?_ | refine w_Cons ?_ | refine v_Val ?_ | refine v_And ?_ | refine v_Or ?_ | refine v_Cmp ?_ | refine v_Chain ?_ | refine v_Is ?_ | refine v_Not ?_ | refine v_Yes ?_) | ((with_reducible apply w_Var); (focus (exact rfl)))))
  refine wO_some rfl ⟨fun e => ?_, fun e => ?_⟩
  · rw [if_pos (of_decide_eq_true e)]
    refine z_Ret (w_Hear rfl (w_Call (w_Cons (w_Var rfl (w_Nil ?_)))))
    rw [show (cfl P (k + 5)).lower.call = callAt P (k + 3) from rfl, r_is_value h, wpR_ok]
    exact ⟨rfl, rfl, rfl⟩
  rw [if_neg (of_decide_eq_false e)]
  (repeat (first | (with_reducible first | refine z_Seq ?_ | refine z_SetN ?_ | refine z_Set ?_ | refine z_Ret ?_ | refine z_If ?_ | refine z_Expr ?_ | refine z_Next ?_ | refine z_Par ?_ | refine z_SetIx ?_ | refine w_C ?_ | refine w_Bop ?_ | refine w_BopT ?_ | refine w_Cmp ?_ | refine w_Chain ?_ | refine w_Is ?_ | refine w_Neg ?_ | refine w_Not ?_ | refine w_And ?_ | refine w_Or ?_ | refine w_Ite ?_ | refine w_Tup ?_ | refine w_Lst ?_ | refine w_LstT ?_ | refine w_Idx ?_ | refine w_SlcNN ?_ | refine w_SlcNS ?_ | refine w_SlcSN ?_ | refine w_Rev ?_ | refine w_Isi ?_ | refine w_Len ?_ | refine w_Int ?_ | refine w_Bool ?_ | refine w_Max ?_ | refine w_All ?_ | refine w_List ?_ | refine w_ListT ?_ | refine w_Tuple ?_ | refine w_Join ?_ | refine w_Split ?_ | refine w_Call ?_ | refine w_DictOf ?_ | refine w_Dict0 ?_ | refine w_Dict1 ?_ | refine w_Append ?_ | refine w_Extend ?_ | refine w_PopAt ?_ | refine w_Nil ?_ | refine w_Cons ?_ | refine v_Val ?_ | refine v_And ?_ | refine v_Or ?_ | refine v_Cmp ?_ | refine v_Chain ?_ | refine v_Is ?_ | refine v_Not ?_ | refine v_Yes ?_) | ((with_reducible apply w_Var); (focus (exact rfl)))))
  refine wO_some rfl ⟨fun e => ?_, fun e => ?_⟩
  · rw [if_pos (of_decide_eq_true e)]
    refine z_Ret (w_Hear rfl (w_Call (w_Cons (w_Var rfl (w_Nil ?_)))))
    rw [show (cfl P (k + 5)).lower.call = callAt P (k + 3) from rfl, r_is_day h, wpR_ok]
    exact ⟨rfl, rfl, rfl⟩
  rw [if_neg (of_decide_eq_false e)]
  refine z_Next (z_Ret (w_Hear rfl (w_Call (w_Cons (w_Var rfl (w_Nil ?_))))))
  rw [show (cfl P (k + 5)).lower.call = callAt P (k + 3) from rfl, r_is_columns h, wpR_ok]
  exact ⟨rfl, rfl, rfl⟩
theorem r_owed {k n : Nat} {s : Str} {d : D} {M : Mh} (h : fit n d = true) : callAt P (k + 6) "_law_owed" [.str s, d] M = .ok (.bl (judge s d)) M := by
  refine eqR (wp_run0 p_owed rfl rfl ?_)
  dsimp only [m__law_owed, List.map, List.append, List.map_cons, List.map_nil, List.length_cons, List.length_nil, List.replicate, List.cons_append, List.nil_append, Nat.reduceSub, Nat.reduceAdd]
  unfold judge
  (repeat (first | (with_reducible first | refine z_Seq ?_ | refine z_SetN ?_ | refine z_Set ?_ | refine z_Ret ?_ | refine z_If ?_ | refine z_Expr ?_ | refine z_Next ?_ | refine z_Par ?_ | refine z_SetIx ?_ | refine w_C ?_ | refine w_Bop ?_ | refine w_BopT ?_ | refine w_Cmp ?_ | refine w_Chain ?_ | refine w_Is ?_ | refine w_Neg ?_ | refine w_Not ?_ | refine w_And ?_ | refine w_Or ?_ | refine w_Ite ?_ | refine w_Tup ?_ | refine w_Lst ?_ | refine w_LstT ?_ | refine w_Idx ?_ | refine w_SlcNN ?_ | refine w_SlcNS ?_ | refine w_SlcSN ?_ | refine w_Rev ?_ | refine w_Isi ?_ | refine w_Len ?_ | refine w_Int ?_ | refine w_Bool ?_ | refine w_Max ?_ | refine w_All ?_ | refine w_List ?_ | refine w_ListT ?_ | refine w_Tuple ?_ | refine w_Join ?_ | refine w_Split ?_ | refine w_Call ?_ | refine w_DictOf ?_ | refine w_Dict0 ?_ | refine w_Dict1 ?_ | refine w_Append ?_ | refine w_Extend ?_ | refine w_PopAt ?_ | refine w_Nil ?_ | refine w_Cons ?_ | refine v_Val ?_ | refine v_And ?_ | refine v_Or ?_ | refine v_Cmp ?_ | refine v_Chain ?_ | refine v_Is ?_ | refine v_Not ?_ | refine v_Yes ?_) | ((with_reducible apply w_Var); (focus (exact rfl)))))
  refine wO_some rfl ⟨fun e => ?_, fun e => ?_⟩
  · rw [if_pos (of_decide_eq_true e)]
    (repeat (first | (with_reducible first | refine z_Seq ?_ | refine z_SetN ?_ | refine z_Set ?_ | refine z_Ret ?_ | refine z_If ?_ | refine z_Expr ?_ | refine z_Next ?_ | refine z_Par ?_ | refine z_SetIx ?_ | refine w_C ?_ | refine w_Bop ?_ | refine w_BopT ?_ | refine w_Cmp ?_ | refine w_Chain ?_ | refine w_Is ?_ | refine w_Neg ?_ | refine w_Not ?_ | refine w_And ?_ | refine w_Or ?_ | refine w_Ite ?_ | refine w_Tup ?_ | refine w_Lst ?_ | refine w_LstT ?_ | refine w_Idx ?_ | refine w_SlcNN ?_ | refine w_SlcNS ?_ | refine w_SlcSN ?_ | refine w_Rev ?_ | refine w_Isi ?_ | refine w_Len ?_ | refine w_Int ?_ | refine w_Bool ?_ | refine w_Max ?_ | refine w_All ?_ | refine w_List ?_ | refine w_ListT ?_ | refine w_Tuple ?_ | refine w_Join ?_ | refine w_Split ?_ | refine w_Call ?_ | refine w_DictOf ?_ | refine w_Dict0 ?_ | refine w_Dict1 ?_ | refine w_Append ?_ | refine w_Extend ?_ | refine w_PopAt ?_ | refine w_Nil ?_ | refine w_Cons ?_ | refine v_Val ?_ | refine v_And ?_ | refine v_Or ?_ | refine v_Cmp ?_ | refine v_Chain ?_ | refine v_Is ?_ | refine v_Not ?_ | refine v_Yes ?_) | ((with_reducible apply w_Var); (focus (exact rfl)))))
    rw [cfl_call, r_kr_is_name h, wpR_ok]
    exact ⟨rfl, rfl, rfl⟩
  rw [if_neg (of_decide_eq_false e)]
  (repeat (first | (with_reducible first | refine z_Seq ?_ | refine z_SetN ?_ | refine z_Set ?_ | refine z_Ret ?_ | refine z_If ?_ | refine z_Expr ?_ | refine z_Next ?_ | refine z_Par ?_ | refine z_SetIx ?_ | refine w_C ?_ | refine w_Bop ?_ | refine w_BopT ?_ | refine w_Cmp ?_ | refine w_Chain ?_ | refine w_Is ?_ | refine w_Neg ?_ | refine w_Not ?_ | refine w_And ?_ | refine w_Or ?_ | refine w_Ite ?_ | refine w_Tup ?_ | refine w_Lst ?_ | refine w_LstT ?_ | refine w_Idx ?_ | refine w_SlcNN ?_ | refine w_SlcNS ?_ | refine w_SlcSN ?_ | refine w_Rev ?_ | refine w_Isi ?_ | refine w_Len ?_ | refine w_Int ?_ | refine w_Bool ?_ | refine w_Max ?_ | refine w_All ?_ | refine w_List ?_ | refine w_ListT ?_ | refine w_Tuple ?_ | refine w_Join ?_ | refine w_Split ?_ | refine w_Call ?_ | refine w_DictOf ?_ | refine w_Dict0 ?_ | refine w_Dict1 ?_ | refine w_Append ?_ | refine w_Extend ?_ | refine w_PopAt ?_ | refine w_Nil ?_ | refine w_Cons ?_ | refine v_Val ?_ | refine v_And ?_ | refine v_Or ?_ | refine v_Cmp ?_ | refine v_Chain ?_ | refine v_Is ?_ | refine v_Not ?_ | refine v_Yes ?_) | ((with_reducible apply w_Var); (focus (exact rfl)))))
  refine wO_some rfl ⟨fun e => ?_, fun e => ?_⟩
  · rw [if_pos (of_decide_eq_true e)]
    (repeat (first | (with_reducible first | refine z_Seq ?_ | refine z_SetN ?_ | refine z_Set ?_ | refine z_Ret ?_ | refine z_If ?_ | refine z_Expr ?_ | refine z_Next ?_ | refine z_Par ?_ | refine z_SetIx ?_ | refine w_C ?_ | refine w_Bop ?_ | refine w_BopT ?_ | refine w_Cmp ?_ | refine w_Chain ?_ | refine w_Is ?_ | refine w_Neg ?_ | refine w_Not ?_ | refine w_And ?_ | refine w_Or ?_ | refine w_Ite ?_ | refine w_Tup ?_ | refine w_Lst ?_ | refine w_LstT ?_ | refine w_Idx ?_ | refine w_SlcNN ?_ | refine w_SlcNS ?_ | refine w_SlcSN ?_ | refine w_Rev ?_ | refine w_Isi ?_ | refine w_Len ?_ | refine w_Int ?_ | refine w_Bool ?_ | refine w_Max ?_ | refine w_All ?_ | refine w_List ?_ | refine w_ListT ?_ | refine w_Tuple ?_ | refine w_Join ?_ | refine w_Split ?_ | refine w_Call ?_ | refine w_DictOf ?_ | refine w_Dict0 ?_ | refine w_Dict1 ?_ | refine w_Append ?_ | refine w_Extend ?_ | refine w_PopAt ?_ | refine w_Nil ?_ | refine w_Cons ?_ | refine v_Val ?_ | refine v_And ?_ | refine v_Or ?_ | refine v_Cmp ?_ | refine v_Chain ?_ | refine v_Is ?_ | refine v_Not ?_ | refine v_Yes ?_) | ((with_reducible apply w_Var); (focus (exact rfl)))))
    rw [cfl_call, r_kr_is_value h, wpR_ok]
    exact ⟨rfl, rfl, rfl⟩
  rw [if_neg (of_decide_eq_false e)]
  (repeat (first | (with_reducible first | refine z_Seq ?_ | refine z_SetN ?_ | refine z_Set ?_ | refine z_Ret ?_ | refine z_If ?_ | refine z_Expr ?_ | refine z_Next ?_ | refine z_Par ?_ | refine z_SetIx ?_ | refine w_C ?_ | refine w_Bop ?_ | refine w_BopT ?_ | refine w_Cmp ?_ | refine w_Chain ?_ | refine w_Is ?_ | refine w_Neg ?_ | refine w_Not ?_ | refine w_And ?_ | refine w_Or ?_ | refine w_Ite ?_ | refine w_Tup ?_ | refine w_Lst ?_ | refine w_LstT ?_ | refine w_Idx ?_ | refine w_SlcNN ?_ | refine w_SlcNS ?_ | refine w_SlcSN ?_ | refine w_Rev ?_ | refine w_Isi ?_ | refine w_Len ?_ | refine w_Int ?_ | refine w_Bool ?_ | refine w_Max ?_ | refine w_All ?_ | refine w_List ?_ | refine w_ListT ?_ | refine w_Tuple ?_ | refine w_Join ?_ | refine w_Split ?_ | refine w_Call ?_ | refine w_DictOf ?_ | refine w_Dict0 ?_ | refine w_Dict1 ?_ | refine w_Append ?_ | refine w_Extend ?_ | refine w_PopAt ?_ | refine w_Nil ?_ | refine w_Cons ?_ | refine v_Val ?_ | refine v_And ?_ | refine v_Or ?_ | refine v_Cmp ?_ | refine v_Chain ?_ | refine v_Is ?_ | refine v_Not ?_ | refine v_Yes ?_) | ((with_reducible apply w_Var); (focus (exact rfl)))))
  refine wO_some rfl ⟨fun e => ?_, fun e => ?_⟩
  · rw [if_pos (of_decide_eq_true e)]
    (repeat (first | (with_reducible first | refine z_Seq ?_ | refine z_SetN ?_ | refine z_Set ?_ | refine z_Ret ?_ | refine z_If ?_ | refine z_Expr ?_ | refine z_Next ?_ | refine z_Par ?_ | refine z_SetIx ?_ | refine w_C ?_ | refine w_Bop ?_ | refine w_BopT ?_ | refine w_Cmp ?_ | refine w_Chain ?_ | refine w_Is ?_ | refine w_Neg ?_ | refine w_Not ?_ | refine w_And ?_ | refine w_Or ?_ | refine w_Ite ?_ | refine w_Tup ?_ | refine w_Lst ?_ | refine w_LstT ?_ | refine w_Idx ?_ | refine w_SlcNN ?_ | refine w_SlcNS ?_ | refine w_SlcSN ?_ | refine w_Rev ?_ | refine w_Isi ?_ | refine w_Len ?_ | refine w_Int ?_ | refine w_Bool ?_ | refine w_Max ?_ | refine w_All ?_ | refine w_List ?_ | refine w_ListT ?_ | refine w_Tuple ?_ | refine w_Join ?_ | refine w_Split ?_ | refine w_Call ?_ | refine w_DictOf ?_ | refine w_Dict0 ?_ | refine w_Dict1 ?_ | refine w_Append ?_ | refine w_Extend ?_ | refine w_PopAt ?_ | refine w_Nil ?_ | refine w_Cons ?_ | refine v_Val ?_ | refine v_And ?_ | refine v_Or ?_ | refine v_Cmp ?_ | refine v_Chain ?_ | refine v_Is ?_ | refine v_Not ?_ | refine v_Yes ?_) | ((with_reducible apply w_Var); (focus (exact rfl)))))
    rw [cfl_call, r_kr_is_day h, wpR_ok]
    exact ⟨rfl, rfl, rfl⟩
  rw [if_neg (of_decide_eq_false e)]
  (repeat (first | (with_reducible first | refine z_Seq ?_ | refine z_SetN ?_ | refine z_Set ?_ | refine z_Ret ?_ | refine z_If ?_ | refine z_Expr ?_ | refine z_Next ?_ | refine z_Par ?_ | refine z_SetIx ?_ | refine w_C ?_ | refine w_Bop ?_ | refine w_BopT ?_ | refine w_Cmp ?_ | refine w_Chain ?_ | refine w_Is ?_ | refine w_Neg ?_ | refine w_Not ?_ | refine w_And ?_ | refine w_Or ?_ | refine w_Ite ?_ | refine w_Tup ?_ | refine w_Lst ?_ | refine w_LstT ?_ | refine w_Idx ?_ | refine w_SlcNN ?_ | refine w_SlcNS ?_ | refine w_SlcSN ?_ | refine w_Rev ?_ | refine w_Isi ?_ | refine w_Len ?_ | refine w_Int ?_ | refine w_Bool ?_ | refine w_Max ?_ | refine w_All ?_ | refine w_List ?_ | refine w_ListT ?_ | refine w_Tuple ?_ | refine w_Join ?_ | refine w_Split ?_ | refine w_Call ?_ | refine w_DictOf ?_ | refine w_Dict0 ?_ | refine w_Dict1 ?_ | refine w_Append ?_ | refine w_Extend ?_ | refine w_PopAt ?_ | refine w_Nil ?_ | refine w_Cons ?_ | refine v_Val ?_ | refine v_And ?_ | refine v_Or ?_ | refine v_Cmp ?_ | refine v_Chain ?_ | refine v_Is ?_ | refine v_Not ?_ | refine v_Yes ?_) | ((with_reducible apply w_Var); (focus (exact rfl)))))
  rw [cfl_call, r_kr_is_columns h, wpR_ok]
  exact ⟨rfl, rfl, rfl⟩
theorem r_sameK {n K : Nat} {d : D} {M : Mh} (hK : n + 2 ≤ K) (h : fit n d = true) : wpR (callAt P K "_law_yq_same" [d, d] M) fun r M' => r = .bl true ∧ M' = M := by
  obtain ⟨k, rfl⟩ : ∃ k, K = k + (n + 2) := ⟨K - (n + 2), by omega⟩
  exact r_same p_same p_yq_whole n h
theorem told_fit {b : Bool} : fit 1 (.tup [.str "told", .bl b]) = true := by cases b <;> decide +kernel
theorem r_told {K : Nat} {b : Bool} {M : Mh} (hK : 3 ≤ K) : callAt P K "_law_yq_same" [.tup [.str "told", .bl b], .tup [.str "told", .bl b]] M = .ok (.bl true) M := eqR (r_sameK (n := 1) (d := .tup [.str "told", .bl b]) hK told_fit)
theorem r_rows_right {k b : Nat} {T M : Mh} (j : Jr b T M) (hb : b < 2 ^ 30) (hT : T.all (noHO 0) = true) : wpR (callAt P (k + 8) "_law_rows_right" [.h 0] M) fun d M' => d = .bl true ∧ Jr (b + 1000) T M' := by
  refine wp_run p_rows_right rfl rfl ?_
  dsimp only [m__law_rows_right, List.map, List.append, List.map_cons, List.map_nil, List.length_cons, List.length_nil, List.replicate, List.cons_append, List.nil_append, Nat.reduceSub, Nat.reduceAdd]
  refine z_Seq (z_ForF (i_Val ?_))
  (repeat (first | (with_reducible first | refine z_Seq ?_ | refine z_SetN ?_ | refine z_Set ?_ | refine z_Ret ?_ | refine z_If ?_ | refine z_Expr ?_ | refine z_Next ?_ | refine z_Par ?_ | refine z_SetIx ?_ | refine w_C ?_ | refine w_Bop ?_ | refine w_BopT ?_ | refine w_Cmp ?_ | refine w_Chain ?_ | refine w_Is ?_ | refine w_Neg ?_ | refine w_Not ?_ | refine w_And ?_ | refine w_Or ?_ | refine w_Ite ?_ | refine w_Tup ?_ | refine w_Lst ?_ | refine w_LstT ?_ | refine w_Idx ?_ | refine w_SlcNN ?_ | refine w_SlcNS ?_ | refine w_SlcSN ?_ | refine w_Rev ?_ | refine w_Isi ?_ | refine w_Len ?_ | refine w_Int ?_ | refine w_Bool ?_ | refine w_Max ?_ | refine w_All ?_ | refine w_List ?_ | refine w_ListT ?_ | refine w_Tuple ?_ | refine w_Join ?_ | refine w_Split ?_ | refine w_Call ?_ | refine w_DictOf ?_ | refine w_Dict0 ?_ | refine w_Dict1 ?_ | refine w_Append ?_ | refine w_Extend ?_ | refine w_PopAt ?_ | refine w_Nil ?_ | refine w_Cons ?_ | refine v_Val ?_ | refine v_And ?_ | refine v_Or ?_ | refine v_Cmp ?_ | refine v_Chain ?_ | refine v_Is ?_ | refine v_Not ?_ | refine v_Yes ?_) | ((with_reducible apply w_Var); (focus (exact rfl)))))
  rw [cfl_call]
  refine wpR_imp (r_take p_take j (m := 10) (by decide) (by omega)) ?_
  rintro _ M1 ⟨n, rfl, hn, j1⟩
  refine wO_some add_ok ?_
  (repeat (first | (with_reducible first | refine z_Seq ?_ | refine z_SetN ?_ | refine z_Set ?_ | refine z_Ret ?_ | refine z_If ?_ | refine z_Expr ?_ | refine z_Next ?_ | refine z_Par ?_ | refine z_SetIx ?_ | refine w_C ?_ | refine w_Bop ?_ | refine w_BopT ?_ | refine w_Cmp ?_ | refine w_Chain ?_ | refine w_Is ?_ | refine w_Neg ?_ | refine w_Not ?_ | refine w_And ?_ | refine w_Or ?_ | refine w_Ite ?_ | refine w_Tup ?_ | refine w_Lst ?_ | refine w_LstT ?_ | refine w_Idx ?_ | refine w_SlcNN ?_ | refine w_SlcNS ?_ | refine w_SlcSN ?_ | refine w_Rev ?_ | refine w_Isi ?_ | refine w_Len ?_ | refine w_Int ?_ | refine w_Bool ?_ | refine w_Max ?_ | refine w_All ?_ | refine w_List ?_ | refine w_ListT ?_ | refine w_Tuple ?_ | refine w_Join ?_ | refine w_Split ?_ | refine w_Call ?_ | refine w_DictOf ?_ | refine w_Dict0 ?_ | refine w_Dict1 ?_ | refine w_Append ?_ | refine w_Extend ?_ | refine w_PopAt ?_ | refine w_Nil ?_ | refine w_Cons ?_ | refine v_Val ?_ | refine v_And ?_ | refine v_Or ?_ | refine v_Cmp ?_ | refine v_Chain ?_ | refine v_Is ?_ | refine v_Not ?_ | refine v_Yes ?_) | ((with_reducible apply w_Var); (focus (exact rfl)))))
  refine ⟨by simp [line], wO_some rfl ?_⟩
  have hmany : ∀ d ∈ ([.int 1, .int 2, .int (1 + n), .int 10] : List D), ∃ m : Nat, d = .int m ∧ 1 ≤ m ∧ m ≤ 10 := by
    intro d hd
    simp at hd
    rcases hd with rfl | rfl | rfl | rfl
    · exact ⟨1, rfl, by decide, by decide⟩
    · exact ⟨2, rfl, by decide, by decide⟩
    · exact ⟨(1 + n).toNat, by congr 1; omega, by omega, by omega⟩
    · exact ⟨10, rfl, by decide, by decide⟩
  refine ⟨_, fun i ρ M => (∃ o1 o2 o3 o4 o5 o6 o7 o8 o9, ρ = [some (.h 0), o1, o2, o3, o4, o5, o6, o7, o8, o9]) ∧ ∃ S, Jr (b + 1 + 200 * i) (T ++ S) M ∧ (T ++ S).all (noHO 0) = true, rfl, ⟨⟨_, _, _, _, _, _, _, _, _, rfl⟩, [], by rw [List.append_nil]; exact j1, by rw [List.append_nil]; exact hT⟩, ?_, ?_⟩
  · rintro i d ρ M2 hd ⟨⟨o1, o2, o3, o4, o5, o6, o7, o8, o9, rfl⟩, S, j2, hS⟩
    have hi : i < 4 := (List.getElem?_eq_some_iff.mp hd).1
    obtain ⟨m, rfl, hm1, hm2⟩ := hmany d (List.mem_of_getElem? hd)
    clear hd
    (refine wO_some rfl ?_)
    refine z_Seq (z_SetN (w_Cols (T := T ++ S) (by simp) (by decide) rfl (i_Val (w_SlcNS (w_Call (w_Cons (w_Var rfl (w_Cons (w_Call (w_Nil ?_))))))))))
    rw [cfl_call, r_names, wpR_ok, names_map]
    (repeat (first | (with_reducible first | refine z_Seq ?_ | refine z_SetN ?_ | refine z_Set ?_ | refine z_Ret ?_ | refine z_If ?_ | refine z_Expr ?_ | refine z_Next ?_ | refine z_Par ?_ | refine z_SetIx ?_ | refine w_C ?_ | refine w_Bop ?_ | refine w_BopT ?_ | refine w_Cmp ?_ | refine w_Chain ?_ | refine w_Is ?_ | refine w_Neg ?_ | refine w_Not ?_ | refine w_And ?_ | refine w_Or ?_ | refine w_Ite ?_ | refine w_Tup ?_ | refine w_Lst ?_ | refine w_LstT ?_ | refine w_Idx ?_ | refine w_SlcNN ?_ | refine w_SlcNS ?_ | refine w_SlcSN ?_ | refine w_Rev ?_ | refine w_Isi ?_ | refine w_Len ?_ | refine w_Int ?_ | refine w_Bool ?_ | refine w_Max ?_ | refine w_All ?_ | refine w_List ?_ | refine w_ListT ?_ | refine w_Tuple ?_ | refine w_Join ?_ | refine w_Split ?_ | refine w_Call ?_ | refine w_DictOf ?_ | refine w_Dict0 ?_ | refine w_Dict1 ?_ | refine w_Append ?_ | refine w_Extend ?_ | refine w_PopAt ?_ | refine w_Nil ?_ | refine w_Cons ?_ | refine v_Val ?_ | refine v_And ?_ | refine v_Or ?_ | refine v_Cmp ?_ | refine v_Chain ?_ | refine v_Is ?_ | refine v_Not ?_ | refine v_Yes ?_) | ((with_reducible apply w_Var); (focus (exact rfl)))))
    refine wpR_imp (r_mixed p_take p_mixed j2 (by decide +kernel) (by decide +kernel) hS (by omega)) ?_
    rintro _ M3 ⟨ys, rfl, hp0, j3⟩
    obtain ⟨ns, rfl, hp⟩ := perm_strs hp0
    clear hp0
    rw [List.length_map, namesS_len] at j3
    have hnl : ns.length = 24 := by rw [hp.length_eq, namesS_len]
    have hnd : ns.Nodup := hp.nodup_iff.mpr names_nodup
    have hns : ∀ s ∈ ns, s.length ≤ 10 := fun s hs => names_short s (hp.subset hs)
    have hnc : ∀ s ∈ ns, s.cps.all (· < 0x110000) = true := fun s hs => names_chars s (hp.subset hs)
    clear hp
    (repeat (first | (with_reducible first | refine z_Seq ?_ | refine z_SetN ?_ | refine z_Set ?_ | refine z_Ret ?_ | refine z_If ?_ | refine z_Expr ?_ | refine z_Next ?_ | refine z_Par ?_ | refine z_SetIx ?_ | refine w_C ?_ | refine w_Bop ?_ | refine w_BopT ?_ | refine w_Cmp ?_ | refine w_Chain ?_ | refine w_Is ?_ | refine w_Neg ?_ | refine w_Not ?_ | refine w_And ?_ | refine w_Or ?_ | refine w_Ite ?_ | refine w_Tup ?_ | refine w_Lst ?_ | refine w_LstT ?_ | refine w_Idx ?_ | refine w_SlcNN ?_ | refine w_SlcNS ?_ | refine w_SlcSN ?_ | refine w_Rev ?_ | refine w_Isi ?_ | refine w_Len ?_ | refine w_Int ?_ | refine w_Bool ?_ | refine w_Max ?_ | refine w_All ?_ | refine w_List ?_ | refine w_ListT ?_ | refine w_Tuple ?_ | refine w_Join ?_ | refine w_Split ?_ | refine w_Call ?_ | refine w_DictOf ?_ | refine w_Dict0 ?_ | refine w_Dict1 ?_ | refine w_Append ?_ | refine w_Extend ?_ | refine w_PopAt ?_ | refine w_Nil ?_ | refine w_Cons ?_ | refine v_Val ?_ | refine v_And ?_ | refine v_Or ?_ | refine v_Cmp ?_ | refine v_Chain ?_ | refine v_Is ?_ | refine v_Not ?_ | refine v_Yes ?_) | ((with_reducible apply w_Var); (focus (exact rfl)))))
    refine ⟨_, rfl, ?_⟩
    have e10 : slcD none (some (m : Int)) (view M3 (.lst (ns.map D.str))) = some (.lst ((ns.take m).map D.str)) := by
      show some (D.lst (cut _ _ _)) = _
      rw [cut_lo, List.map_take]
    refine wO_some e10 (wO_some rfl ⟨ns.take m, _, rfl, by rw [List.length_take]; omega, by omega, j3, fun cs M4 hc hk j4 => ?_⟩)
    have hC : Cols cs := ⟨hk, by rw [hc]; exact hnd.sublist (List.take_sublist _ _), fun p hp => hns _ (List.mem_of_mem_take (by rw [← hc]; exact List.mem_map_of_mem hp)), fun p hp => hnc _ (List.mem_of_mem_take (by rw [← hc]; exact List.mem_map_of_mem hp))⟩
    have hcl : cs.length = m := by
      have := congrArg List.length hc
      rw [List.length_map, List.length_take] at this
      omega
    rw [List.length_take, hnl] at j4
    have j4 := j4.mono (b' := b + 1 + 200 * i + 34) (by omega)
    clear e10 hc hk j3 hnd hns hnc hnl
    have fG := hC.fits (by omega)
    -- the row
    refine z_Seq (z_SetN (w_Call (w_Cons (w_Var rfl (w_Cons (w_Var rfl (w_Nil ?_)))))))
    rw [cfl_call]
    refine wpR_imp (r_drawn_row j4 (by omega) (by omega)) ?_
    rintro _ M5 ⟨xs, rfl, fx, hxl, j5⟩
    rw [hcl] at fx hxl j5
    have fx : Fits 0 10 xs := fx.le hm2
    refine z_Seq (z_SetN (w_Call (w_Cons (w_Var rfl (w_Cons (w_Var rfl (w_Nil ?_)))))))
    rw [cfl_call]
    refine wpR_imp (r_take p_take j5 (m := (m : Int)) (by omega) (by omega)) ?_
    rintro _ M6 ⟨at_, rfl, hat, j6⟩
    have j6 := j6.mono (b' := b + 1 + 200 * i + 60) (by omega)
    -- things
    refine z_Seq (z_SetN (w_BopT ?_))
    (repeat (first | (with_reducible first | refine z_Seq ?_ | refine z_SetN ?_ | refine z_Set ?_ | refine z_Ret ?_ | refine z_If ?_ | refine z_Expr ?_ | refine z_Next ?_ | refine z_Par ?_ | refine z_SetIx ?_ | refine w_C ?_ | refine w_Bop ?_ | refine w_BopT ?_ | refine w_Cmp ?_ | refine w_Chain ?_ | refine w_Is ?_ | refine w_Neg ?_ | refine w_Not ?_ | refine w_And ?_ | refine w_Or ?_ | refine w_Ite ?_ | refine w_Tup ?_ | refine w_Lst ?_ | refine w_LstT ?_ | refine w_Idx ?_ | refine w_SlcNN ?_ | refine w_SlcNS ?_ | refine w_SlcSN ?_ | refine w_Rev ?_ | refine w_Isi ?_ | refine w_Len ?_ | refine w_Int ?_ | refine w_Bool ?_ | refine w_Max ?_ | refine w_All ?_ | refine w_List ?_ | refine w_ListT ?_ | refine w_Tuple ?_ | refine w_Join ?_ | refine w_Split ?_ | refine w_Call ?_ | refine w_DictOf ?_ | refine w_Dict0 ?_ | refine w_Dict1 ?_ | refine w_Append ?_ | refine w_Extend ?_ | refine w_PopAt ?_ | refine w_Nil ?_ | refine w_Cons ?_ | refine v_Val ?_ | refine v_And ?_ | refine v_Or ?_ | refine v_Cmp ?_ | refine v_Chain ?_ | refine v_Is ?_ | refine v_Not ?_ | refine v_Yes ?_) | ((with_reducible apply w_Var); (focus (exact rfl)))))
    rw [cfl_call, r_plain, wpR_ok]
    (repeat (first | (with_reducible first | refine z_Seq ?_ | refine z_SetN ?_ | refine z_Set ?_ | refine z_Ret ?_ | refine z_If ?_ | refine z_Expr ?_ | refine z_Next ?_ | refine z_Par ?_ | refine z_SetIx ?_ | refine w_C ?_ | refine w_Bop ?_ | refine w_BopT ?_ | refine w_Cmp ?_ | refine w_Chain ?_ | refine w_Is ?_ | refine w_Neg ?_ | refine w_Not ?_ | refine w_And ?_ | refine w_Or ?_ | refine w_Ite ?_ | refine w_Tup ?_ | refine w_Lst ?_ | refine w_LstT ?_ | refine w_Idx ?_ | refine w_SlcNN ?_ | refine w_SlcNS ?_ | refine w_SlcSN ?_ | refine w_Rev ?_ | refine w_Isi ?_ | refine w_Len ?_ | refine w_Int ?_ | refine w_Bool ?_ | refine w_Max ?_ | refine w_All ?_ | refine w_List ?_ | refine w_ListT ?_ | refine w_Tuple ?_ | refine w_Join ?_ | refine w_Split ?_ | refine w_Call ?_ | refine w_DictOf ?_ | refine w_Dict0 ?_ | refine w_Dict1 ?_ | refine w_Append ?_ | refine w_Extend ?_ | refine w_PopAt ?_ | refine w_Nil ?_ | refine w_Cons ?_ | refine v_Val ?_ | refine v_And ?_ | refine v_Or ?_ | refine v_Cmp ?_ | refine v_Chain ?_ | refine v_Is ?_ | refine v_Not ?_ | refine v_Yes ?_) | ((with_reducible apply w_Var); (focus (exact rfl)))))
    (refine wO_some rfl ?_)
    (repeat (first | (with_reducible first | refine z_Seq ?_ | refine z_SetN ?_ | refine z_Set ?_ | refine z_Ret ?_ | refine z_If ?_ | refine z_Expr ?_ | refine z_Next ?_ | refine z_Par ?_ | refine z_SetIx ?_ | refine w_C ?_ | refine w_Bop ?_ | refine w_BopT ?_ | refine w_Cmp ?_ | refine w_Chain ?_ | refine w_Is ?_ | refine w_Neg ?_ | refine w_Not ?_ | refine w_And ?_ | refine w_Or ?_ | refine w_Ite ?_ | refine w_Tup ?_ | refine w_Lst ?_ | refine w_LstT ?_ | refine w_Idx ?_ | refine w_SlcNN ?_ | refine w_SlcNS ?_ | refine w_SlcSN ?_ | refine w_Rev ?_ | refine w_Isi ?_ | refine w_Len ?_ | refine w_Int ?_ | refine w_Bool ?_ | refine w_Max ?_ | refine w_All ?_ | refine w_List ?_ | refine w_ListT ?_ | refine w_Tuple ?_ | refine w_Join ?_ | refine w_Split ?_ | refine w_Call ?_ | refine w_DictOf ?_ | refine w_Dict0 ?_ | refine w_Dict1 ?_ | refine w_Append ?_ | refine w_Extend ?_ | refine w_PopAt ?_ | refine w_Nil ?_ | refine w_Cons ?_ | refine v_Val ?_ | refine v_And ?_ | refine v_Or ?_ | refine v_Cmp ?_ | refine v_Chain ?_ | refine v_Is ?_ | refine v_Not ?_ | refine v_Yes ?_) | ((with_reducible apply w_Var); (focus (exact rfl)))))
    refine ⟨_, rfl, wO_some rfl ?_⟩
    (repeat (first | (with_reducible first | refine z_Seq ?_ | refine z_SetN ?_ | refine z_Set ?_ | refine z_Ret ?_ | refine z_If ?_ | refine z_Expr ?_ | refine z_Next ?_ | refine z_Par ?_ | refine z_SetIx ?_ | refine w_C ?_ | refine w_Bop ?_ | refine w_BopT ?_ | refine w_Cmp ?_ | refine w_Chain ?_ | refine w_Is ?_ | refine w_Neg ?_ | refine w_Not ?_ | refine w_And ?_ | refine w_Or ?_ | refine w_Ite ?_ | refine w_Tup ?_ | refine w_Lst ?_ | refine w_LstT ?_ | refine w_Idx ?_ | refine w_SlcNN ?_ | refine w_SlcNS ?_ | refine w_SlcSN ?_ | refine w_Rev ?_ | refine w_Isi ?_ | refine w_Len ?_ | refine w_Int ?_ | refine w_Bool ?_ | refine w_Max ?_ | refine w_All ?_ | refine w_List ?_ | refine w_ListT ?_ | refine w_Tuple ?_ | refine w_Join ?_ | refine w_Split ?_ | refine w_Call ?_ | refine w_DictOf ?_ | refine w_Dict0 ?_ | refine w_Dict1 ?_ | refine w_Append ?_ | refine w_Extend ?_ | refine w_PopAt ?_ | refine w_Nil ?_ | refine w_Cons ?_ | refine v_Val ?_ | refine v_And ?_ | refine v_Or ?_ | refine v_Cmp ?_ | refine v_Chain ?_ | refine v_Is ?_ | refine v_Not ?_ | refine v_Yes ?_) | ((with_reducible apply w_Var); (focus (exact rfl)))))
    refine ⟨_, rfl, wO_some rfl ?_⟩
    refine wO_some (add_tup (fx.add_le (cut_fits fx) (by decide))) ?_
    (repeat (first | (with_reducible first | refine z_Seq ?_ | refine z_SetN ?_ | refine z_Set ?_ | refine z_Ret ?_ | refine z_If ?_ | refine z_Expr ?_ | refine z_Next ?_ | refine z_Par ?_ | refine z_SetIx ?_ | refine w_C ?_ | refine w_Bop ?_ | refine w_BopT ?_ | refine w_Cmp ?_ | refine w_Chain ?_ | refine w_Is ?_ | refine w_Neg ?_ | refine w_Not ?_ | refine w_And ?_ | refine w_Or ?_ | refine w_Ite ?_ | refine w_Tup ?_ | refine w_Lst ?_ | refine w_LstT ?_ | refine w_Idx ?_ | refine w_SlcNN ?_ | refine w_SlcNS ?_ | refine w_SlcSN ?_ | refine w_Rev ?_ | refine w_Isi ?_ | refine w_Len ?_ | refine w_Int ?_ | refine w_Bool ?_ | refine w_Max ?_ | refine w_All ?_ | refine w_List ?_ | refine w_ListT ?_ | refine w_Tuple ?_ | refine w_Join ?_ | refine w_Split ?_ | refine w_Call ?_ | refine w_DictOf ?_ | refine w_Dict0 ?_ | refine w_Dict1 ?_ | refine w_Append ?_ | refine w_Extend ?_ | refine w_PopAt ?_ | refine w_Nil ?_ | refine w_Cons ?_ | refine v_Val ?_ | refine v_And ?_ | refine v_Or ?_ | refine v_Cmp ?_ | refine v_Chain ?_ | refine v_Is ?_ | refine v_Not ?_ | refine v_Yes ?_) | ((with_reducible apply w_Var); (focus (exact rfl)))))
    refine ⟨by simp [line], ?_⟩
    refine wO_some (add_tup (by have := fx.2; show _ ≤ 16777216; simp; omega)) ?_
    (repeat (first | (with_reducible first | refine z_Seq ?_ | refine z_SetN ?_ | refine z_Set ?_ | refine z_Ret ?_ | refine z_If ?_ | refine z_Expr ?_ | refine z_Next ?_ | refine z_Par ?_ | refine z_SetIx ?_ | refine w_C ?_ | refine w_Bop ?_ | refine w_BopT ?_ | refine w_Cmp ?_ | refine w_Chain ?_ | refine w_Is ?_ | refine w_Neg ?_ | refine w_Not ?_ | refine w_And ?_ | refine w_Or ?_ | refine w_Ite ?_ | refine w_Tup ?_ | refine w_Lst ?_ | refine w_LstT ?_ | refine w_Idx ?_ | refine w_SlcNN ?_ | refine w_SlcNS ?_ | refine w_SlcSN ?_ | refine w_Rev ?_ | refine w_Isi ?_ | refine w_Len ?_ | refine w_Int ?_ | refine w_Bool ?_ | refine w_Max ?_ | refine w_All ?_ | refine w_List ?_ | refine w_ListT ?_ | refine w_Tuple ?_ | refine w_Join ?_ | refine w_Split ?_ | refine w_Call ?_ | refine w_DictOf ?_ | refine w_Dict0 ?_ | refine w_Dict1 ?_ | refine w_Append ?_ | refine w_Extend ?_ | refine w_PopAt ?_ | refine w_Nil ?_ | refine w_Cons ?_ | refine v_Val ?_ | refine v_And ?_ | refine v_Or ?_ | refine v_Cmp ?_ | refine v_Chain ?_ | refine v_Is ?_ | refine v_Not ?_ | refine v_Yes ?_) | ((with_reducible apply w_Var); (focus (exact rfl)))))
    (refine wO_some rfl ?_)
    (repeat (first | (with_reducible first | refine z_Seq ?_ | refine z_SetN ?_ | refine z_Set ?_ | refine z_Ret ?_ | refine z_If ?_ | refine z_Expr ?_ | refine z_Next ?_ | refine z_Par ?_ | refine z_SetIx ?_ | refine w_C ?_ | refine w_Bop ?_ | refine w_BopT ?_ | refine w_Cmp ?_ | refine w_Chain ?_ | refine w_Is ?_ | refine w_Neg ?_ | refine w_Not ?_ | refine w_And ?_ | refine w_Or ?_ | refine w_Ite ?_ | refine w_Tup ?_ | refine w_Lst ?_ | refine w_LstT ?_ | refine w_Idx ?_ | refine w_SlcNN ?_ | refine w_SlcNS ?_ | refine w_SlcSN ?_ | refine w_Rev ?_ | refine w_Isi ?_ | refine w_Len ?_ | refine w_Int ?_ | refine w_Bool ?_ | refine w_Max ?_ | refine w_All ?_ | refine w_List ?_ | refine w_ListT ?_ | refine w_Tuple ?_ | refine w_Join ?_ | refine w_Split ?_ | refine w_Call ?_ | refine w_DictOf ?_ | refine w_Dict0 ?_ | refine w_Dict1 ?_ | refine w_Append ?_ | refine w_Extend ?_ | refine w_PopAt ?_ | refine w_Nil ?_ | refine w_Cons ?_ | refine v_Val ?_ | refine v_And ?_ | refine v_Or ?_ | refine v_Cmp ?_ | refine v_Chain ?_ | refine v_Is ?_ | refine v_Not ?_ | refine v_Yes ?_) | ((with_reducible apply w_Var); (focus (exact rfl)))))
    refine ⟨by simp [line], ?_⟩
    (repeat (first | (with_reducible first | refine z_Seq ?_ | refine z_SetN ?_ | refine z_Set ?_ | refine z_Ret ?_ | refine z_If ?_ | refine z_Expr ?_ | refine z_Next ?_ | refine z_Par ?_ | refine z_SetIx ?_ | refine w_C ?_ | refine w_Bop ?_ | refine w_BopT ?_ | refine w_Cmp ?_ | refine w_Chain ?_ | refine w_Is ?_ | refine w_Neg ?_ | refine w_Not ?_ | refine w_And ?_ | refine w_Or ?_ | refine w_Ite ?_ | refine w_Tup ?_ | refine w_Lst ?_ | refine w_LstT ?_ | refine w_Idx ?_ | refine w_SlcNN ?_ | refine w_SlcNS ?_ | refine w_SlcSN ?_ | refine w_Rev ?_ | refine w_Isi ?_ | refine w_Len ?_ | refine w_Int ?_ | refine w_Bool ?_ | refine w_Max ?_ | refine w_All ?_ | refine w_List ?_ | refine w_ListT ?_ | refine w_Tuple ?_ | refine w_Join ?_ | refine w_Split ?_ | refine w_Call ?_ | refine w_DictOf ?_ | refine w_Dict0 ?_ | refine w_Dict1 ?_ | refine w_Append ?_ | refine w_Extend ?_ | refine w_PopAt ?_ | refine w_Nil ?_ | refine w_Cons ?_ | refine v_Val ?_ | refine v_And ?_ | refine v_Or ?_ | refine v_Cmp ?_ | refine v_Chain ?_ | refine v_Is ?_ | refine v_Not ?_ | refine v_Yes ?_) | ((with_reducible apply w_Var); (focus (exact rfl)))))
    refine ⟨by simp [line], ?_⟩
    refine ⟨_, add_lst (by rw [plain_len]; show _ ≤ 16777216; simp), ?_⟩
    have fx1 : fit 1 (.tup xs) = true := fx.tup (by decide)
    have ff : Fits 3 7 ([.tup xs, .lst xs, .tup (cut xs (some 1) none), .tup (xs ++ cut xs none (some 1)), .tup (xs ++ [.int 0]), .tup xs.reverse, .tup [.tup xs]] : List D) := by
      refine Fits.cons (fit_le (by decide) fx1) (Fits.cons (fit_le (by decide) (fx.lst (by decide))) (Fits.cons (fit_le (by decide) ((cut_fits fx).tup (by decide))) (Fits.cons (fit_le (by decide) ((fx.app (cut_fits fx)).tup (by decide))) (Fits.cons (fit_le (by decide) ((fx.app (Fits.one rfl)).tup (by decide))) (Fits.cons (fit_le (by decide) ((rev_fits fx).tup (by decide))) (Fits.one (fit_le (n := 2) (by decide) ((Fits.one fx1).tup (by decide)))))))))
    have f0 := Fits.app ((Fits.of (by decide +kernel) : Fits 2 16 plainL).up (m := 3) (by decide)) ff
    have j7 := j6.app [.lst (plainL ++ [.tup xs, .lst xs, .tup (cut xs (some 1) none), .tup (xs ++ cut xs none (some 1)), .tup (xs ++ [.int 0]), .tup xs.reverse, .tup [.tup xs]])]
    rw [show List.length M6 = (T ++ S).length + 1 from j6.len]
    generalize (plainL ++ [.tup xs, .lst xs, .tup (cut xs (some 1) none), .tup (xs ++ cut xs none (some 1)), .tup (xs ++ [.int 0]), .tup xs.reverse, .tup [.tup xs]]) = x0 at f0 j7
    generalize (M6 ++ [O.lst x0]) = M7 at j7
    refine z_Seq (z_AppF rfl j7 f0 (by decide) (w_DictOf (w_Var rfl ?_)))
    refine ⟨_, _, rfl, unpair_cols cs, hC.keys, _, j7, hC.dict, fun x1 M8 f1 j8 => ?_⟩
    clear ff f0 j7
    -- odds
    refine z_Seq (z_ForGrow (T := T ++ S) (n := 3) 1 0 (by simp) (i_Val ?_))
    (repeat (first | (with_reducible refine w_NegC ?_) | (with_reducible first | refine z_Seq ?_ | refine z_SetN ?_ | refine z_Set ?_ | refine z_Ret ?_ | refine z_If ?_ | refine z_Expr ?_ | refine z_Next ?_ | refine z_Par ?_ | refine z_SetIx ?_ | refine w_C ?_ | refine w_Bop ?_ | refine w_BopT ?_ | refine w_Cmp ?_ | refine w_Chain ?_ | refine w_Is ?_ | refine w_Neg ?_ | refine w_Not ?_ | refine w_And ?_ | refine w_Or ?_ | refine w_Ite ?_ | refine w_Tup ?_ | refine w_Lst ?_ | refine w_LstT ?_ | refine w_Idx ?_ | refine w_SlcNN ?_ | refine w_SlcNS ?_ | refine w_SlcSN ?_ | refine w_Rev ?_ | refine w_Isi ?_ | refine w_Len ?_ | refine w_Int ?_ | refine w_Bool ?_ | refine w_Max ?_ | refine w_All ?_ | refine w_List ?_ | refine w_ListT ?_ | refine w_Tuple ?_ | refine w_Join ?_ | refine w_Split ?_ | refine w_Call ?_ | refine w_DictOf ?_ | refine w_Dict0 ?_ | refine w_Dict1 ?_ | refine w_Append ?_ | refine w_Extend ?_ | refine w_PopAt ?_ | refine w_Nil ?_ | refine w_Cons ?_ | refine v_Val ?_ | refine v_And ?_ | refine v_Or ?_ | refine v_Cmp ?_ | refine v_Chain ?_ | refine v_Is ?_ | refine v_Not ?_ | refine v_Yes ?_) | ((with_reducible apply w_Var); (focus (exact rfl))) | refine wO_some (mul_str (by decide +kernel)) ?_ | refine wO_some (pow_int (by decide)) ?_ | (refine wO_some sub_ok ?_) | refine And.intro (by simp [line]; done) ?_))
    refine wO_some rfl ⟨_, x1, _, _, rfl, f1, j8, ?_, ?_⟩
    · intro i2 d M9 ys hi2 hd f j9
      have hi2 : i2 < 12 := hi2
      have fd : fit 1 d = true := by
        have f7 : Fits 1 12 ([.non, .bl true, .str "A", .str (Txt.mul "z" 21), .tup [.int 1], .lst [.int 1], .int 0, .str "", .str "a", .int (10 ^ Int.toNat 40 - 1), .str (Txt.mul "z" 20), .int (-1)] : List D) := Fits.of (by decide +kernel)
        exact f7.1 d hd
      refine z_AppF rfl j9 f (by omega) (w_BentT rfl rfl (fx.up (m := 2) (by decide)) (by decide) (w_Var rfl ⟨fit_succ fd, fun ys fy => ⟨_, j9, fy.tup (by decide), fun xs' M7 f7 j7 => ⟨rfl, xs', f7, j7⟩⟩⟩))
    intro o M9 x2 f2 j9
    have f2 : Fits 3 36 x2 := f2
    have j9 : Jr (b + 1 + 200 * i + 60) (T ++ S ++ [O.lst x2]) M9 := j9
    refine z_Seq (z_SetN (w_List (w_Var rfl (wO_some rfl ?_))))
    -- all things
    refine z_Seq (z_ForL (i_ValH (w_Var rfl ⟨_, x2, rfl, own_get j9, ?_⟩)))
    refine ⟨_, x2, fun i3 ρ M => M = M9 ∧ ∃ o6 o8 o9, ρ = [some (.h 0), some (.int m), some (.lst (cs.map colD)), some (.tup xs), some (.int at_), some (.h ((T ++ S).length + 1)), o6, some (.lst (cs.map colD)), o8, o9], rfl, fun i3 ρ M hJ => by rw [hJ.1]; exact own_get j9, ⟨rfl, _, _, _, rfl⟩, ?_, ?_⟩
    · rintro i3 d ρ M hd ⟨rfl, o6, o8, o9, rfl⟩
      have hf := f2.1 d (List.mem_of_getElem? hd)
      (refine wO_some rfl ?_)
      refine z_If (v_Not (v_Val (w_Call (w_Cons (w_Call (w_Cons (w_Var rfl (w_Cons (w_Var rfl (w_Nil ?_))))))))))
      rw [cfl_call, r_heard_row hf hC.ok (by omega), wpR_ok]
      refine w_Cons (w_Tup (w_Cons (w_C (w_Cons (w_Call (w_Cons (w_Var rfl (w_Cons (w_Var rfl (w_Nil ?_))))))))))
      rw [cfl_call, r_kr_is_row hf (by omega), wpR_ok]
      (repeat (first | (with_reducible first | refine z_Seq ?_ | refine z_SetN ?_ | refine z_Set ?_ | refine z_Ret ?_ | refine z_If ?_ | refine z_Expr ?_ | refine z_Next ?_ | refine z_Par ?_ | refine z_SetIx ?_ | refine w_C ?_ | refine w_Bop ?_ | refine w_BopT ?_ | refine w_Cmp ?_ | refine w_Chain ?_ | refine w_Is ?_ | refine w_Neg ?_ | refine w_Not ?_ | refine w_And ?_ | refine w_Or ?_ | refine w_Ite ?_ | refine w_Tup ?_ | refine w_Lst ?_ | refine w_LstT ?_ | refine w_Idx ?_ | refine w_SlcNN ?_ | refine w_SlcNS ?_ | refine w_SlcSN ?_ | refine w_Rev ?_ | refine w_Isi ?_ | refine w_Len ?_ | refine w_Int ?_ | refine w_Bool ?_ | refine w_Max ?_ | refine w_All ?_ | refine w_List ?_ | refine w_ListT ?_ | refine w_Tuple ?_ | refine w_Join ?_ | refine w_Split ?_ | refine w_Call ?_ | refine w_DictOf ?_ | refine w_Dict0 ?_ | refine w_Dict1 ?_ | refine w_Append ?_ | refine w_Extend ?_ | refine w_PopAt ?_ | refine w_Nil ?_ | refine w_Cons ?_ | refine v_Val ?_ | refine v_And ?_ | refine v_Or ?_ | refine v_Cmp ?_ | refine v_Chain ?_ | refine v_Is ?_ | refine v_Not ?_ | refine v_Yes ?_) | ((with_reducible apply w_Var); (focus (exact rfl)))))
      refine ⟨by simp [line], ?_⟩
      (with_reducible first | refine z_Seq ?_ | refine z_SetN ?_ | refine z_Set ?_ | refine z_Ret ?_ | refine z_If ?_ | refine z_Expr ?_ | refine z_Next ?_ | refine z_Par ?_ | refine z_SetIx ?_ | refine w_C ?_ | refine w_Bop ?_ | refine w_BopT ?_ | refine w_Cmp ?_ | refine w_Chain ?_ | refine w_Is ?_ | refine w_Neg ?_ | refine w_Not ?_ | refine w_And ?_ | refine w_Or ?_ | refine w_Ite ?_ | refine w_Tup ?_ | refine w_Lst ?_ | refine w_LstT ?_ | refine w_Idx ?_ | refine w_SlcNN ?_ | refine w_SlcNS ?_ | refine w_SlcSN ?_ | refine w_Rev ?_ | refine w_Isi ?_ | refine w_Len ?_ | refine w_Int ?_ | refine w_Bool ?_ | refine w_Max ?_ | refine w_All ?_ | refine w_List ?_ | refine w_ListT ?_ | refine w_Tuple ?_ | refine w_Join ?_ | refine w_Split ?_ | refine w_Call ?_ | refine w_DictOf ?_ | refine w_Dict0 ?_ | refine w_Dict1 ?_ | refine w_Append ?_ | refine w_Extend ?_ | refine w_PopAt ?_ | refine w_Nil ?_ | refine w_Cons ?_ | refine v_Val ?_ | refine v_And ?_ | refine v_Or ?_ | refine v_Cmp ?_ | refine v_Chain ?_ | refine v_Is ?_ | refine v_Not ?_ | refine v_Yes ?_)
      have hK : 3 ≤ k + 7 := by omega
      have e2 := r_told (M := M) (b := rowB d cs) hK
      have e3 := e2
      clear e2 hK
      revert e3
      generalize callAt P (k + 7) "_law_yq_same" = F
      intro e3
      refine wpR_of e3 ?_
      (repeat (first | (with_reducible first | refine z_Seq ?_ | refine z_SetN ?_ | refine z_Set ?_ | refine z_Ret ?_ | refine z_If ?_ | refine z_Expr ?_ | refine z_Next ?_ | refine z_Par ?_ | refine z_SetIx ?_ | refine w_C ?_ | refine w_Bop ?_ | refine w_BopT ?_ | refine w_Cmp ?_ | refine w_Chain ?_ | refine w_Is ?_ | refine w_Neg ?_ | refine w_Not ?_ | refine w_And ?_ | refine w_Or ?_ | refine w_Ite ?_ | refine w_Tup ?_ | refine w_Lst ?_ | refine w_LstT ?_ | refine w_Idx ?_ | refine w_SlcNN ?_ | refine w_SlcNS ?_ | refine w_SlcSN ?_ | refine w_Rev ?_ | refine w_Isi ?_ | refine w_Len ?_ | refine w_Int ?_ | refine w_Bool ?_ | refine w_Max ?_ | refine w_All ?_ | refine w_List ?_ | refine w_ListT ?_ | refine w_Tuple ?_ | refine w_Join ?_ | refine w_Split ?_ | refine w_Call ?_ | refine w_DictOf ?_ | refine w_Dict0 ?_ | refine w_Dict1 ?_ | refine w_Append ?_ | refine w_Extend ?_ | refine w_PopAt ?_ | refine w_Nil ?_ | refine w_Cons ?_ | refine v_Val ?_ | refine v_And ?_ | refine v_Or ?_ | refine v_Cmp ?_ | refine v_Chain ?_ | refine v_Is ?_ | refine v_Not ?_ | refine v_Yes ?_) | ((with_reducible apply w_Var); (focus (exact rfl))) | (with_reducible first | refine wO_some (isi_I (by with_unfolding_all exact rfl)) ?_ | refine wO_some (isi_B (by with_unfolding_all exact rfl)) ?_ | refine wO_some (isi_S (by with_unfolding_all exact rfl)) ?_ | refine wO_some (isi_T (by with_unfolding_all exact rfl)) ?_ | refine wO_some (isi_L (by with_unfolding_all exact rfl)) ?_) | (first | refine ifT rfl ?_ | refine ifF rfl ?_) | (refine wO_some rfl ?_) | refine ⟨_, rfl, ?_⟩))
      exact ⟨rfl, _, _, _, rfl⟩
    · rintro ρ M ⟨rfl, o6, o8, o9, rfl⟩
      refine z_If (v_Cmp (w_Var rfl (w_Var rfl ?_)))
      have e : cmp .ne (view M (.lst (cs.map colD))) (view M (.lst (cs.map colD))) = some false := by
        show (eqD (.lst (cs.map colD)) (.lst (cs.map colD))).map not = _
        rw [cols_eq hC (by intro h; rw [h] at hcl; simp at hcl; omega)]
        rfl
      refine wO_some e (ifF rfl (z_Next ?_))
      refine ⟨⟨_, _, _, _, _, _, _, _, _, rfl⟩, S ++ [.lst x2], ?_, ?_⟩
      · rw [← List.append_assoc]
        exact j9.mono (by omega)
      · rw [← List.append_assoc, List.all_append, hS, Bool.true_and, List.all_cons, List.all_nil, Bool.and_true]
        exact f2.noH
  · rintro ρ M2 ⟨⟨o1, o2, o3, o4, o5, o6, o7, o8, o9, rfl⟩, S, j2, hS⟩
    refine z_Ret (w_C ?_)
    exact end_val j.len j2 rfl hT fun M' j' => ⟨rfl, j'.mono (by simp)⟩

def Lot (d : D) : Prop := ∃ s xs, d = .tup [.str s, .lst xs] ∧ Fits 3 200 xs
theorem lots_noH {L : List D} (h : ∀ d ∈ L, Lot d) : noHs 0 L = true := by
  refine noHs_iff.mpr fun d hd => ?_
  obtain ⟨s, xs, rfl, f⟩ := h d hd
  show (noH 0 (.str s) && (noHs 0 xs && true)) = true
  rw [f.noH]
  rfl
theorem lots_all {L : List D} (h : ∀ d ∈ L, Lot d) : ([O.lst L] : Mh).all (noHO 0) = true := by
  rw [List.all_cons, List.all_nil, Bool.and_true]
  exact lots_noH h
theorem lots_app {L K : List D} (h : ∀ d ∈ L, Lot d) (g : ∀ d ∈ K, Lot d) : ∀ d ∈ L ++ K, Lot d := fun d hd => (List.mem_append.mp hd).elim (h d) (g d)
theorem lots_cons {L : List D} {d : D} (h : Lot d) (g : ∀ d ∈ L, Lot d) : ∀ x ∈ d :: L, Lot x := fun x hx => (List.mem_cons.mp hx).elim (fun e => by rw [e]; exact h) (g x)
theorem lots_nil : ∀ x ∈ ([] : List D), Lot x := fun x hx => by cases hx
theorem r_law {k : Nat} {ns : List Int} (hl : ns.length ≤ 63) : wpR (callAt P (k + 9) "law" [.kls (ns.map D.int)] []) fun d _ => d = .bl true := by
  refine wp_run p_law rfl rfl ?_
  dsimp only [m_law, List.map, List.append, List.map_cons, List.map_nil, List.length_cons, List.length_nil, List.replicate, List.cons_append, List.nil_append, Nat.reduceSub, Nat.reduceAdd]
  refine z_Seq (z_SetN (w_Call (w_Cons (w_Var rfl (w_Nil ?_)))))
  rw [cfl_call]
  refine wpR_imp (r_pool p_pool hl) ?_
  rintro _ M0 ⟨rfl, j0⟩
  -- lots
  refine z_Seq (z_SetN (w_LstT (w_Cons (w_Tup (w_Cons (w_C (w_Cons (w_Call (w_Cons (w_Var rfl (w_Nil ?_)))))))))))
  rw [cfl_call]
  refine wpR_imp (r_name_things j0 (by decide) rfl) ?_
  rintro _ M1 ⟨x1, rfl, f1, j1⟩
  refine w_Nil ⟨by simp [line], w_Cons (w_Tup (w_Cons (w_C (w_Cons (w_Call (w_Cons (w_Var rfl (w_Nil ?_))))))))⟩
  refine wpR_imp (r_value_things j1 (by decide) rfl) ?_
  rintro _ M2 ⟨x2, rfl, f2, j2⟩
  refine w_Nil ⟨by simp [line], w_Cons (w_Tup (w_Cons (w_C (w_Cons (w_Call (w_Cons (w_Var rfl (w_Nil ?_))))))))⟩
  refine wpR_imp (r_day_things j2 (by decide)) ?_
  rintro _ M3 ⟨x3, rfl, f3, j3⟩
  refine w_Nil ⟨by simp [line], w_Nil ⟨by simp [line], ?_⟩⟩
  have l0 : ∀ d ∈ ([.tup [.str "name", .lst x1], .tup [.str "value", .lst x2], .tup [.str "day", .lst x3]] : List D), Lot d := lots_cons ⟨_, _, rfl, f1⟩ (lots_cons ⟨_, _, rfl, f2⟩ (lots_cons ⟨_, _, rfl, f3⟩ lots_nil))
  have hL0 : ([.tup [.str "name", .lst x1], .tup [.str "value", .lst x2], .tup [.str "day", .lst x3]] : List D).length = 3 := rfl
  have j4 := j3.app [.lst [.tup [.str "name", .lst x1], .tup [.str "value", .lst x2], .tup [.str "day", .lst x3]]]
  rw [show List.length M3 = ([] : Mh).length + 1 from j3.len]
  generalize ([.tup [.str "name", .lst x1], .tup [.str "value", .lst x2], .tup [.str "day", .lst x3]] : List D) = L0 at l0 j4 hL0
  generalize (M3 ++ [O.lst L0]) = M4 at j4
  clear j3 j2 j1 j0
  -- columns
  refine z_Seq (z_Ext (T := []) rfl j4 (w_LcF (i_Range (w_C ⟨3, rfl, by decide, ?_⟩))))
  refine ⟨_, fun i ys M => Jr (3000 + 1000 * i) [.lst L0] M ∧ ys.length = i ∧ ∀ y ∈ ys, Lot y, rfl, by decide, ⟨j4, rfl, lots_nil⟩, ?_, ?_⟩
  · rintro i d ys M hd ⟨j5, hy, hl5⟩
    obtain ⟨hi, rfl⟩ := nums_get hd
    refine wO_some rfl (v_Yes (ifT rfl (w_Tup (w_Cons (w_C (w_Cons (w_Call (w_Cons (w_Var rfl (w_Nil ?_))))))))))
    rw [cfl_call]
    refine wpR_imp (r_columns_things j5 (by omega) (lots_all l0)) ?_
    rintro _ M5 ⟨x4, rfl, f4, j6⟩
    refine w_Nil ⟨by simp [line], j6, by rw [List.length_append, hy]; rfl, lots_app hl5 (lots_cons ⟨_, _, rfl, f4⟩ lots_nil)⟩
  rintro ys M5 ⟨j5, hy, hl5⟩
  rw [nums_len] at j5 hy
  refine ⟨ys, _, rfl, j5, by rw [hL0, hy]; decide, fun M6 j6 => ?_⟩
  have l1 := lots_app l0 hl5
  have hL1 : (L0 ++ ys).length = 6 := by rw [List.length_append, hL0, hy]
  generalize L0 ++ ys = L1 at l1 j6 hL1
  clear j4 j5 l0 hl5 hy
  -- names for columns
  refine z_Seq (z_App (T := []) rfl j6 (w_Tup (w_Cons (w_C (w_Cons (w_SlcNS (w_Call (w_Cons (w_Var rfl (w_Nil ?_))))))))))
  rw [cfl_call]
  refine wpR_imp (r_name_things j6 (by decide) (lots_all l1)) ?_
  rintro _ M7 ⟨x4, rfl, f4, j7⟩
  refine w_C ⟨_, rfl, wO_some rfl (w_Nil ⟨by simp [line], _, j7, by rw [hL1]; decide, fun M8 j8 => ?_⟩)⟩
  have l2 := lots_app l1 (lots_cons ⟨"columns", _, rfl, cut_fits f4 (lo := none) (hi := some 60)⟩ lots_nil)
  have hL2 : (L1 ++ [D.tup [.str "columns", .lst (cut x4 none (some 60))]]).length = 7 := by rw [List.length_append, hL1]; rfl
  generalize L1 ++ [D.tup [.str "columns", .lst (cut x4 none (some 60))]] = L2 at l2 j8 hL2
  clear j6 j7 l1
  -- three more
  refine z_Seq (z_Ext (T := []) rfl j8 (w_Lst (w_Cons (w_Tup (w_Cons (w_C (w_Cons (w_Call (w_Cons (w_Var rfl (w_Nil ?_)))))))))))
  rw [cfl_call]
  refine wpR_imp (r_value_things j8 (by decide) (lots_all l2)) ?_
  rintro _ M9 ⟨x5, rfl, f5, j9⟩
  refine w_Nil ⟨by simp [line], w_Cons (w_Tup (w_Cons (w_C (w_Cons (w_Call (w_Cons (w_Var rfl (w_Nil ?_))))))))⟩
  refine wpR_imp (r_name_things j9 (by decide) (lots_all l2)) ?_
  rintro _ M10 ⟨x6, rfl, f6, j10⟩
  refine w_Nil ⟨by simp [line], w_Cons (w_Tup (w_Cons (w_C (w_Cons (w_Call (w_Cons (w_Var rfl (w_Nil ?_))))))))⟩
  refine wpR_imp (r_value_things j10 (by decide) (lots_all l2)) ?_
  rintro _ M11 ⟨x7, rfl, f7, j11⟩
  refine w_Nil ⟨by simp [line], w_Nil ⟨by simp [line], _, _, rfl, j11, by rw [hL2]; show _ ≤ 16777216; simp, fun M12 j12 => ?_⟩⟩
  have l3 := lots_app l2 (lots_cons ⟨"name", _, rfl, f5⟩ (lots_cons ⟨"value", _, rfl, f6⟩ (lots_cons ⟨"day", _, rfl, f7⟩ lots_nil)))
  generalize L2 ++ [D.tup [.str "name", .lst x5], .tup [.str "value", .lst x6], .tup [.str "day", .lst x7]] = L at l3 j12
  clear j8 j9 j10 j11 l2
  -- all of them
  refine z_Seq (z_ForL (i_ValH (w_Var rfl ⟨_, L, rfl, own_get (T := []) j12, ?_⟩)))
  refine ⟨_, L, fun i ρ M => M = M12 ∧ ∃ o3 o4 o5 o6 o7 o8, ρ = [some (.kls (ns.map D.int)), some (.h 0), some (.h 1), o3, o4, o5, o6, o7, o8], rfl, fun i ρ M hJ => by rw [hJ.1]; exact own_get (T := []) j12, ⟨rfl, _, _, _, _, _, _, rfl⟩, ?_, ?_⟩
  · rintro i d ρ M hd ⟨rfl, o3, o4, o5, o6, o7, o8, rfl⟩
    obtain ⟨s, xs, rfl, f⟩ := l3 d (List.mem_of_getElem? hd)
    (refine wO_some rfl ?_)
    refine z_ForF (i_Val (w_Var rfl (wO_some rfl ?_)))
    refine ⟨xs, fun i ρ M' => M' = M ∧ ∃ o5 o6 o7, ρ = [some (.kls (ns.map D.int)), some (.h 0), some (.h 1), some (.str s), some (.lst xs), o5, o6, o7, o8], rfl, ⟨rfl, _, _, _, rfl⟩, ?_, ?_⟩
    · rintro i2 d ρ M' hd ⟨rfl, o5, o6, o7, rfl⟩
      have hf := f.1 d (List.mem_of_getElem? hd)
      refine wO_some rfl ?_
      (repeat (first | (with_reducible first | refine z_Seq ?_ | refine z_SetN ?_ | refine z_Set ?_ | refine z_Ret ?_ | refine z_If ?_ | refine z_Expr ?_ | refine z_Next ?_ | refine z_Par ?_ | refine z_SetIx ?_ | refine w_C ?_ | refine w_Bop ?_ | refine w_BopT ?_ | refine w_Cmp ?_ | refine w_Chain ?_ | refine w_Is ?_ | refine w_Neg ?_ | refine w_Not ?_ | refine w_And ?_ | refine w_Or ?_ | refine w_Ite ?_ | refine w_Tup ?_ | refine w_Lst ?_ | refine w_LstT ?_ | refine w_Idx ?_ | refine w_SlcNN ?_ | refine w_SlcNS ?_ | refine w_SlcSN ?_ | refine w_Rev ?_ | refine w_Isi ?_ | refine w_Len ?_ | refine w_Int ?_ | refine w_Bool ?_ | refine w_Max ?_ | refine w_All ?_ | refine w_List ?_ | refine w_ListT ?_ | refine w_Tuple ?_ | refine w_Join ?_ | refine w_Split ?_ | refine w_Call ?_ | refine w_DictOf ?_ | refine w_Dict0 ?_ | refine w_Dict1 ?_ | refine w_Append ?_ | refine w_Extend ?_ | refine w_PopAt ?_ | refine w_Nil ?_ | refine w_Cons ?_ | refine v_Val ?_ | refine v_And ?_ | refine v_Or ?_ | refine v_Cmp ?_ | refine v_Chain ?_ | refine v_Is ?_ | refine v_Not ?_ | refine v_Yes ?_) | ((with_reducible apply w_Var); (focus (exact rfl)))))
      rw [cfl_call, r_owed hf, wpR_ok]
      refine w_Nil ⟨by simp [line], ?_⟩
      refine z_Seq (z_SetN ?_)
      have hk : ∀ {Q : D → Mh → Prop} {ρ : Rho} {c : Cf}, ρ[5]? = some (some d) → Q d M' → wpR (sIte (tVal (sIsi (sVar 5) "list")) (sList false (sVar 5)) (sVar 5) c ρ M') Q := fun {Q ρ c} h5 q => by
        refine w_Ite (v_Val (w_Isi (w_Var h5 ?_)))
        rw [view_val (fit_val hf)]
        refine wO_some (isi_L (fit_val hf)) (wO_some rfl ⟨fun e => w_List (w_Var h5 ?_), fun e => w_Var h5 q⟩)
        cases d <;> first | (cases e; done) | skip
        · exact wO_some rfl q
        · cases hf
      refine hk rfl ?_
      (repeat (first | (with_reducible first | refine z_Seq ?_ | refine z_SetN ?_ | refine z_Set ?_ | refine z_Ret ?_ | refine z_If ?_ | refine z_Expr ?_ | refine z_Next ?_ | refine z_Par ?_ | refine z_SetIx ?_ | refine w_C ?_ | refine w_Bop ?_ | refine w_BopT ?_ | refine w_Cmp ?_ | refine w_Chain ?_ | refine w_Is ?_ | refine w_Neg ?_ | refine w_Not ?_ | refine w_And ?_ | refine w_Or ?_ | refine w_Ite ?_ | refine w_Tup ?_ | refine w_Lst ?_ | refine w_LstT ?_ | refine w_Idx ?_ | refine w_SlcNN ?_ | refine w_SlcNS ?_ | refine w_SlcSN ?_ | refine w_Rev ?_ | refine w_Isi ?_ | refine w_Len ?_ | refine w_Int ?_ | refine w_Bool ?_ | refine w_Max ?_ | refine w_All ?_ | refine w_List ?_ | refine w_ListT ?_ | refine w_Tuple ?_ | refine w_Join ?_ | refine w_Split ?_ | refine w_Call ?_ | refine w_DictOf ?_ | refine w_Dict0 ?_ | refine w_Dict1 ?_ | refine w_Append ?_ | refine w_Extend ?_ | refine w_PopAt ?_ | refine w_Nil ?_ | refine w_Cons ?_ | refine v_Val ?_ | refine v_And ?_ | refine v_Or ?_ | refine v_Cmp ?_ | refine v_Chain ?_ | refine v_Is ?_ | refine v_Not ?_ | refine v_Yes ?_) | ((with_reducible apply w_Var); (focus (exact rfl)))))
      rw [cfl_call, r_heard_judge hf, wpR_ok]
      refine w_Cons (w_Var rfl (w_Nil ?_))
      have e1 := r_told (K := k + 8) (b := judge s d) (M := M') (by omega)
      have e2 := eqR (r_sameK (n := 3) (K := k + 8) (d := d) (M := M') (by omega) hf)
      refine wpR_of e1 (wO_some rfl (ifF rfl ?_))
      (repeat (first | (with_reducible first | refine z_Seq ?_ | refine z_SetN ?_ | refine z_Set ?_ | refine z_Ret ?_ | refine z_If ?_ | refine z_Expr ?_ | refine z_Next ?_ | refine z_Par ?_ | refine z_SetIx ?_ | refine w_C ?_ | refine w_Bop ?_ | refine w_BopT ?_ | refine w_Cmp ?_ | refine w_Chain ?_ | refine w_Is ?_ | refine w_Neg ?_ | refine w_Not ?_ | refine w_And ?_ | refine w_Or ?_ | refine w_Ite ?_ | refine w_Tup ?_ | refine w_Lst ?_ | refine w_LstT ?_ | refine w_Idx ?_ | refine w_SlcNN ?_ | refine w_SlcNS ?_ | refine w_SlcSN ?_ | refine w_Rev ?_ | refine w_Isi ?_ | refine w_Len ?_ | refine w_Int ?_ | refine w_Bool ?_ | refine w_Max ?_ | refine w_All ?_ | refine w_List ?_ | refine w_ListT ?_ | refine w_Tuple ?_ | refine w_Join ?_ | refine w_Split ?_ | refine w_Call ?_ | refine w_DictOf ?_ | refine w_Dict0 ?_ | refine w_Dict1 ?_ | refine w_Append ?_ | refine w_Extend ?_ | refine w_PopAt ?_ | refine w_Nil ?_ | refine w_Cons ?_ | refine v_Val ?_ | refine v_And ?_ | refine v_Or ?_ | refine v_Cmp ?_ | refine v_Chain ?_ | refine v_Is ?_ | refine v_Not ?_ | refine v_Yes ?_) | ((with_reducible apply w_Var); (focus (exact rfl)))))
      rw [cfl_call]
      refine wpR_of e2 (wO_some rfl (ifF rfl (z_Next ?_)))
      exact ⟨rfl, _, _, _, rfl⟩
    · rintro ρ M' ⟨rfl, o5, o6, o7, rfl⟩
      exact ⟨rfl, _, _, _, _, _, _, rfl⟩
  · rintro ρ M ⟨rfl, o3, o4, o5, o6, o7, o8, rfl⟩
    refine z_Ret (w_Call (w_Cons (w_Var rfl (w_Nil ?_))))
    rw [cfl_call]
    refine wpR_imp (r_rows_right j12 (by decide) (lots_all l3)) ?_
    rintro _ M13 ⟨rfl, j13⟩
    exact ⟨Nat.zero_le _, .inr (.inl ⟨rfl, rfl, fun m h => (by cases h), rfl⟩)⟩
theorem law_good (ns : List Int) (hl : ns.length ≤ 63) : ∃ M, callAt P 14 "law" [.kls (ns.map D.int)] [] = .ok (.bl true) M := by
  obtain ⟨a, M, e, rfl⟩ := wpR_ex (r_law (k := 5) hl)
  exact ⟨M, e⟩
end MP.K01

set_option Elab.async false
set_option linter.all false
set_option maxRecDepth 100000
set_option maxHeartbeats 0
/-! the head, the law's end. -/
namespace MP.K01
open PySem PySem.Spec PyProof.Rows L2 MP
open Evl (Ex)
def allN : List Str := fns ++ hearers.map (·.1)
def df (x : Str) : He.DefD := ⟨(x, none), x, x, defArgs (topOf x), defBody (topOf x), defScope (topOf x), [], []⟩
def fn : List He.DefD := allN.map df
def faC : List (Str × D) → List He.Fa
  | [] => []
  | (x, .str s) :: r => .str x s :: faC r
  | (x, .int i) :: r => .int x i :: faC r
  | (x, _) :: r => .glo x :: faC r
def fa : List He.Fa := allN.map He.Fa.glo ++ (free.map He.Fa.free ++ faC cons)
def dvs : List D → List He.Dv
  | .str s :: r => .str s :: dvs r
  | .int i :: r => .int i :: dvs r
  | _ :: r => .non :: dvs r
  | [] => []
def tf : List He.Defn := makers.map fun x => (x, none)
/-- lists of the module: what stands at the names -/
def lstsB (K : PySem.W.Frag) : List (Str × D) → Bool
  | (x, .kls ds) :: r => He.lstB K x (dvs ds) && lstsB K r
  | _ :: r => lstsB K r
  | [] => true
def ex (K : PySem.W.Frag) : Bool := lstsB K cons && decide ((tf.map fun p => (He.cT K p).2).Nodup)
abbrev Rw : PySem.W.OpenRow := PySem.W.OpenLaw.row PySem.Challenge.rw_keptforraw_k01_values_judged
abbrev hk : PySem.W.Hook := He.hookX 4 fa fn [] tf ex
def ob (s : PySem.W.SharedT) : He.AlX := He.obsX 4 fa fn [] tf ex (HandSHeadRun.getT s)
theorem ob_eq (s : PySem.W.SharedT) : ob s = hk.obs s.abs := He.obsX_eq (HandSHeadRun.getT_eq s)
def loose : List Str := (allN.filter fun x => decide (x ≠ Str.ofString "law")) ++ (cons.map (·.1) ++ ([Str.ofString "KeptforrawError", Str.ofString "BadName"] : List Str))
theorem run (w : World) : HandSHeadRun.RunEq Rw (PySem.W.view Rw.prog [48]) hk ob 2000 loose w := by
  intro os
  kernel_rfl
theorem nodup_inj {α β : Type} {f : α → β} {l : List α} (nd : (l.map f).Nodup) {x y : α} (hx : x ∈ l) (hy : y ∈ l) (e : f x = f y) : x = y := by
  induction l with
  | nil => cases hx
  | cons a l ih =>
    rw [List.map_cons, List.nodup_cons] at nd
    rcases List.mem_cons.mp hx with h1 | h1 <;> rcases List.mem_cons.mp hy with h2 | h2
    · rw [h1, h2]
    · exact (nd.1 (by rw [← h1, e]; exact List.mem_map_of_mem h2)).elim
    · exact (nd.1 (by rw [← h2, ← e]; exact List.mem_map_of_mem h1)).elim
    · exact ih nd.2 h1 h2
def scK : D → Bool
  | .str _ => true
  | .int _ => true
  | _ => false
def conK : D → Bool
  | .str _ => true
  | .int _ => true
  | .kls ds => ds.all scK
  | _ => false
/-- the tables of code objects -/
def tabs (K : PySem.W.Frag) : List (Addr × Str) := tf.map fun p => ((He.cT K p).2, p.1 ++ ".<locals>." ++ "<lambda>")
theorem dvs_rp {K : PySem.W.Frag} {φ : List Addr} {F : Hp} : ∀ {ds : List D}, (ds.all scK) = true → Rps K φ F ds ((dvs ds).map (He.Dv.v K))
  | [], _ => rfl
  | d :: ds, h => by
    rw [List.all_cons, Bool.and_eq_true] at h
    have ih := dvs_rp (K := K) (φ := φ) (F := F) h.2
    cases d <;> first | (cases h.1; done) | exact ⟨_, _, rfl, rfl, ih⟩
theorem lsts_at {K : PySem.W.Frag} : ∀ {l : List (Str × D)} {x : Str} {ds : List D}, lstsB K l = true → l.lookup x = some (.kls ds) → He.lstB K x (dvs ds) = true
  | [], _, _, _, h => by cases h
  | (y, d) :: l, x, ds, hb, h => by
    rw [List.lookup_cons] at h
    by_cases e : x = y
    · subst e
      simp at h
      subst h
      have hb : (He.lstB K x (dvs ds) && lstsB K l) = true := hb
      rw [Bool.and_eq_true] at hb
      exact hb.1
    · have : (x == y) = false := by simp [e]
      rw [this] at h
      have hb' : lstsB K l = true := by
        cases d <;> first | exact hb | exact (Bool.and_eq_true _ _ ▸ (show (He.lstB K y _ && lstsB K l) = true from hb)).2
      exact lsts_at hb' h
theorem faC_mem : ∀ {l : List (Str × D)} {x : Str} {d : D}, l.lookup x = some d → (match d with | .str s => He.Fa.str x s | .int i => He.Fa.int x i | _ => He.Fa.glo x) ∈ faC l
  | [], _, _, h => by cases h
  | (y, d') :: l, x, d, h => by
    rw [List.lookup_cons] at h
    by_cases e : x = y
    · subst e
      simp at h
      subst h
      cases d' <;> exact List.mem_cons_self
    · have : (x == y) = false := by simp [e]
      rw [this] at h
      have ih := faC_mem h
      cases d' <;> exact List.mem_cons_of_mem _ ih
theorem consts_ok : (cons.all fun p => conK p.2) = true := by decide +kernel
def isHear : List Stmt → Str → Str → Bool
  | [.Try [.Return (some (.Tuple [.Constant (.str w) _ _, .Call (.Name a _) [] [] _] _ _)) _] (_ :: _) [] [] _], word, b => decide (w = word) && decide (a = b)
  | _, _, _ => false
theorem isHear_eq {body : List Stmt} {word b : Str} (h : isHear body word b = true) : ∃ (j kk : Nat) (q1 q2 p1 p2 p3 p8 : Pos) (h0 : ExceptHandler) (hs : List ExceptHandler), body = [.Try [.Return (some (.Tuple [.Constant (.str word) j q1, .Call (.Name b p1) [] [] p2] kk q2)) p3] (h0 :: hs) [] [] p8] := by
  unfold isHear at h
  split at h
  · rw [Bool.and_eq_true, decide_eq_true_eq, decide_eq_true_eq] at h
    obtain ⟨rfl, rfl⟩ := h
    exact ⟨_, _, _, _, _, _, _, _, _, _, rfl⟩
  · cases h
theorem hear_of {K : PySem.W.Frag} {mg : Str → Option Value} {f word a : Str} {st : Stmt} {fd : FuncData} (hm : mg f = some (.ref (He.ga K f))) (F : FunD K f f (defArgs st) (defBody st) (defScope st) [] [] (He.ga K f) fd) (hb : isHear (defBody st) word a = true)
    (bd : ∀ (kV doc pm : Value) (an : Option Addr) (cdv ct : Value) (us : List Value), us.length = [a].length → bindArgs (PySem.W.fnOf f f (defArgs st) (defBody st) (defScope st) .none kV doc pm an cdv ct) ⟨us, []⟩ = pure ([a].zip us))
    (sc : FnScope [a] [a] (defScope st)) (hv : Vis (defScope st) a) (d1 : (f == ("__debug__" : Str)) = false) (d2 : (a == ("__debug__" : Str)) = false) (d3 : (a == ("__classdict__" : Str)) = false) : HearF K mg f word := by
  obtain ⟨j, kk, q1, q2, p1, p2, p3, p8, h0, hs, eb⟩ := isHear_eq hb
  have bn := F.bindsN bd
  obtain ⟨oc, od, dV, kV, doc, pm, an, cdv, ct, osl, rfl, lk, hcd, _, _⟩ := F.ex
  rw [eb] at lk bn
  exact ⟨He.ga K f, od, an, oc, dV, kV, doc, pm, cdv, ct, osl, defArgs st, defScope st, [a], a, j, kk, q1, q2, p1, p2, p3, p8, h0, hs, hm, F.kp, lk, hcd, bn, sc, rfl, hv, d1, d2, d3⟩
theorem facts {K : PySem.W.Frag} {h base : Heap} {mg : Str → Option Value} {w : World} (X : K.In h) (G : h.Ns mainGlobals mg) (c : He.SaysX fa fn [] tf ex w h K) (tb : ∀ p ∈ tf.map (He.cT K), LamX.TabB base mg p.1 p.2) :
    @Facts ⟨tabs K⟩ K mg base := by
  letI : TabL := ⟨tabs K⟩
  have sub : ∀ x ∈ fns, x ∈ allN := fun x hx => List.mem_append_left _ hx
  have glo : ∀ x ∈ allN, mg x = some (.ref (He.ga K x)) := fun x hx => He.glo_ok X G (c.t.d.facts (List.mem_append_left _ (List.mem_map_of_mem hx)))
  have more : lstsB K cons = true ∧ ((tf.map fun p => (He.cT K p).2).Nodup) := by
    have := c.more
    unfold ex at this
    rw [Bool.and_eq_true, decide_eq_true_eq] at this
    exact this
  have defs : ∀ x ∈ allN, ∃ fd, FunD K x x (defArgs (topOf x)) (defBody (topOf x)) (defScope (topOf x)) [] [] (He.ga K x) fd := fun x hx => c.t.d.defs (d := df x) (List.mem_map_of_mem hx)
  refine ⟨fun x hx => glo x (sub x hx), fun x hx => He.free_ok X G (c.t.d.facts (List.mem_append_right _ (List.mem_append_left _ (List.mem_map_of_mem hx)))), fun x d hd => ?_, fun y z hy => ?_, fun x sc fd hx F cc hcc => ?_, fun x hx => defs x (sub x hx)⟩
  · have m := c.t.d.facts (List.mem_append_right _ (List.mem_append_right _ (faC_mem hd)))
    have cs : conK d = true := List.all_eq_true.mp consts_ok (x, d) (PySem.mem_of_lookup hd)
    cases d with
    | str s =>
      obtain ⟨t, e⟩ := He.str_ok X G m
      exact ⟨_, .str s, e, ⟨t, rfl⟩, fun _ _ => rfl⟩
    | int i =>
      obtain ⟨t, e⟩ := He.int_ok X G m
      exact ⟨_, .int i, e, ⟨t, rfl⟩, fun _ _ => rfl⟩
    | kls ds => exact ⟨_, .ref (He.ga K x), He.glo_ok X G m, rfl, fun φ F => ⟨_, _, rfl, He.lstB_ok (lsts_at more.1 hd) F, dvs_rp cs⟩⟩
    | _ => cases cs
  · have e : (y, z) = ((Str.ofString "_law_heard", Str.ofString "told") : Str × Str) := List.mem_singleton.mp (PySem.mem_of_lookup hy)
    cases e
    have hn : Str.ofString "_law_heard" ∈ allN := by decide +kernel
    obtain ⟨fd, F⟩ := defs _ hn
    exact hear_of (a := "asked_now") (glo _ hn) F (by kernel_rfl) (fun _ _ _ _ _ _ us hl => match us, hl with | [_], _ => rfl) ⟨rfl, rfl, rfl, by decide +kernel, rfl, by decide +kernel, by decide +kernel⟩ (.inl (by decide +kernel)) (by decide +kernel) (by decide +kernel) (by decide +kernel)
  · obtain ⟨oc, od, dV, kV, doc, pm, an, cdv, ct, osl, e, lk, hcd, _, _⟩ := F.ex
    have hp : (x, none) ∈ tf := List.mem_map_of_mem hx
    have ec : He.codeOf K (x, none) = cc := He.codeOf_eq (p := (x, none)) lk hcc
    refine ⟨(He.cT K (x, none)).2, ?_, List.mem_map.mpr ⟨(x, none), hp, rfl⟩, fun p hp2 ep => ?_⟩
    · have := tb (He.cT K (x, none)) (List.mem_map_of_mem hp)
      rw [← ec]
      exact this
    · obtain ⟨q, hq, rfl⟩ := List.mem_map.mp hp2
      have : q = (x, none) := by
        have nd := more.2
        exact nodup_inj nd hq hp ep
      rw [this]
/-- the law's own promise at the script -/
theorem at_start {K : PySem.W.Frag} {H : Hp} {a : Addr} {ns : List Int} {r : List D → Mh → R D} {E : XK} (hT : ∀ p ∈ tf.map (He.cT K), H p.2 = some (.tbl #[])) (hS : SqL K H a (ns.map V.int)) {M : Mh} (hr : r [.kls (ns.map D.int)] [] = .ok (.bl true) M) :
    letI : TabL := ⟨tabs K⟩
    spC K r [.ref a] H (fun v _ => v = .bl true) E := by
  letI : TabL := ⟨tabs K⟩
  let F : Hp := fun b => match H b with
    | some (.tbl _) => none
    | o => o
  have hF : ∀ b u, F b = some u → H b = some u ∧ ∀ ps, u ≠ .tbl ps := fun b u e => by
    show H b = some u ∧ _
    have e : (match H b with | some (.tbl _) => none | o => o) = some u := e
    split at e
    · cases e
    · rename_i n
      exact ⟨e, fun ps z => n ps (by rw [e, z])⟩
  have hG : ∀ b u, H b = some u → (∀ ps, u ≠ .tbl ps) → F b = some u := fun b u e n => by
    show (match H b with | some (.tbl _) => none | o => o) = some u
    rw [e]
    cases u <;> first | rfl | exact (n _ rfl).elim
  refine ⟨[], F, [.kls (ns.map D.int)], [], ?_, ⟨.ref a, [], rfl, ⟨a, _, rfl, ?_, rp_ints ns⟩, rfl⟩, ?_⟩
  · exact {
      tab := fun p hp => by
        obtain ⟨q, hq, rfl⟩ := List.mem_map.mp (show p ∈ tabs K from hp)
        exact LamX.TabS.nil (hT _ (List.mem_map_of_mem hq))
      ntb := fun b ps e => (hF b _ e).2 ps rfl
      len := rfl
      ex := fun b u e => (hF b u e).1
      apart := fun b hb => by cases hb
      nd := List.nodup_nil
      obj := fun n o b h1 h2 => by simp at h1 }
  · rcases hS with h | h
    · rcases h with h | ⟨o, h⟩
      · exact .inl (.inl (hG _ _ h fun ps z => by cases z))
      · exact .inl (.inr ⟨o, hG _ _ h fun ps z => by cases z⟩)
    · exact .inr h
  · rw [hr]
    exact fun φ' F' H' v _ _ rv => rv
where rp_ints {K : PySem.W.Frag} {φ : List Addr} {F : Hp} : ∀ ns : List Int, Rps K φ F (ns.map D.int) (ns.map V.int)
  | [] => rfl
  | n :: ns => ⟨.int n, _, rfl, rfl, rp_ints ns⟩
theorem fd_one {K : PySem.W.Frag} {x q x' q' : Str} {p p' : Arguments} {b b' : List Stmt} {s s' : Scope} {f : Addr} {fd fd' : FuncData} (h : FunD K x q p b s [] [] f fd) (h' : FunD K x' q' p' b' s' [] [] f fd') : fd = fd' := by
  obtain ⟨_, _, _, _, _, _, _, _, _, _, _, lk, _⟩ := h.ex
  obtain ⟨_, _, _, _, _, _, _, _, _, _, _, lk', _⟩ := h'.ex
  rw [lk] at lk'
  cases lk'
  rfl
/-- what the law computes is true at every script -/
def Good : Prop := ∀ ns : List Int, ns.length ≤ 63 → (∀ z ∈ ns, Builtin.Int.intBits z ≤ 1048576) → ∃ M, callAt P 14 "law" [.kls (ns.map D.int)] [] = .ok (.bl true) M
theorem at_law {K : PySem.W.Frag} {h : Heap} {mg : Str → Option Value} {w : World} {fa' : Addr} (good : Good) (X : K.In h) (G : h.Ns mainGlobals mg) (c : He.SaysX fa fn [] tf ex w h K) (hmg : mg ("law" : Str) = some (.ref fa')) :
    LamX.LawAtS PySem.Challenge.rw_keptforraw_k01_values_judged w K L2.CX0 14 63 "script" mg fa' h := by
  letI : TabL := ⟨tabs K⟩
  have hn : Str.ofString "law" ∈ allN := by decide +kernel
  obtain ⟨fd, F⟩ : ∃ fd, FunD K "law" "law" (defArgs (topOf "law")) (defBody (topOf "law")) (defScope (topOf "law")) [] [] (He.ga K "law") fd := c.t.d.defs (d := df "law") (List.mem_map_of_mem hn)
  have e := hmg.symm.trans (He.glo_ok X G (c.t.d.facts (f := .glo "law") (List.mem_append_left _ (List.mem_map_of_mem hn))))
  cases e
  have bd := FunD.bindsA (ps := ["script"]) F fun _ _ _ _ _ _ us hl => match us, hl with | [_], _ => rfl
  refine ⟨fd, tf.map (He.cT K), spC K (callAt P 14 "law"), fun p hp => ?_, fun p hp => ?_, fun p hp => ?_, fun s u => bd s [u] rfl, fun H a ns hl hb hT hS => ?_, fun base hK hN tb => ?_⟩
  · obtain ⟨q, hq, rfl⟩ := List.mem_map.mp hp
    exact c.empty q hq
  · obtain ⟨q, hq, rfl⟩ := List.mem_map.mp hp
    exact c.out q hq
  · obtain ⟨q, hq, rfl⟩ := List.mem_map.mp hp
    exact PySem.W.codeHd_of_K X (c.hd q hq)
  · obtain ⟨M, hr⟩ := good ns hl hb
    exact at_start hT hS hr
  · have f := facts (base := base) X G c tb
    obtain ⟨fd3, E3⟩ := e_law f
    have ef : fd = fd3 := fd_one F E3.fun_
    subst ef
    have e : callAt P 14 "law" = m_law.run ⟨callAt P 13, callAt P 11, true⟩ := by
      funext ds M
      rw [show (14 : Nat) = 12 + 2 from rfl, callAt_two, E3.is]
      rfl
    rw [e]
    exact E3.ok (k := 13) (c := ⟨callAt P 13, callAt P 11, true⟩) (fns_all (all_defs f) 13) fun _ => ⟨11, by decide, fns_all (all_defs f) 11⟩
end MP.K01

set_option Elab.async false
set_option linter.all false
set_option maxRecDepth 100000
set_option maxHeartbeats 0
namespace E01
open PySem PySem.W PySem.Calls PyProof.Rows
abbrev rr : OpenRow := OpenLaw.row PySem.Challenge.rw_keptforraw_k01_values_judged
abbrev qq : Program := PySem.W.view rr.prog [48]
abbrev dd : DefRec := HandSHeadRun.topDef rr.prog 48
theorem a1 : opening rr.prog = plainProg rr.prog.main.scope.names := by kernel_rfl
theorem a2 (s) : fenceModules? rr.prog s = some s := by kernel_rfl
theorem a3 : defOf qq rr.name = some (dd, []) := by kernel_rfl
theorem a4 : rr.prog.theDef rr.name = some (dd.params, dd.body, dd.scope) := by kernel_rfl
theorem a5 : kwWritten? dd.params.kwonlyargs dd.params.kw_defaults = some [] := by kernel_rfl
theorem a6 : (!rr.writes || rr.records.isEmpty) = true := by rfl
theorem a8 : (chainsOk qq && opensWell rr.prog && (frees rr.toRowW && rr.within.isEmpty)) = true := by decide +kernel
theorem a9 : rr.prog.bare := ⟨rfl, rfl, rfl, rfl, rfl, by decide +kernel⟩
theorem wrap (k1 : rr.wellSaid = true) (hw : rr.toRowW.promised) (call : WalkO qq MP.K01.loose (XL qq []) MP.K01.hk.says rr.toRowW dd [] fun f vs => PySem.call f vs) : rr.Holds :=
  @HandSHeadRun.head_any rr qq MP.K01.hk MP.K01.ob 2000 MP.K01.loose dd [] MP.K01.ob_eq a1 a2 MP.K01.run a3 a4 a5 a6 k1 a8 a9 hw call

theorem b1 : PySem.Challenge.rw_keptforraw_k01_values_judged.most = some 63 := rfl
theorem b2 : dd.params.defaults = [] := by kernel_rfl
theorem call_ok (good : MP.K01.Good) : WalkO qq MP.K01.loose (XL qq []) MP.K01.hk.says rr.toRowW dd [] fun f vs => PySem.call f vs := by
  refine @LamX.walk_ofTsE PySem.Challenge.rw_keptforraw_k01_values_judged 63 14 qq MP.K01.loose (XL qq []) MP.K01.hk.says dd (fun _ => L2.CX0) "script" b1 (by decide) b2 ⟨rfl, by decide, by decide⟩ ?F (fun _ _ _ _ _ z => z)
  intro w mg fa h Y G hmg0
  obtain ⟨K, KX, c⟩ := Y
  have hmg : mg ("law" : PySem.Str) = some (.ref fa) := by
    have e : dd.name = ("law" : PySem.Str) := by kernel_rfl
    rw [← e]
    exact hmg0
  exact ⟨K, KX, MP.K01.at_law good KX G c hmg⟩
theorem holds_of (good : MP.K01.Good) : PySem.Challenge.rw_keptforraw_k01_values_judged.Holds := by
  w_on; o_law
  refine wrap ?k1 ?hw (call_ok good)
  case k1 => first | assumption | decide +kernel
  case hw => w_witness2
end E01

set_option maxRecDepth 100000 in
set_option maxHeartbeats 0 in
theorem PySem.Challenge.cw_keptforraw_k01_values_judged_holds : PySem.Challenge.rw_keptforraw_k01_values_judged.Holds := by
  exact E01.holds_of (fun ns hl _ => MP.K01.law_good ns hl)
