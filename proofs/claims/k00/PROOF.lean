import PyProof.Rows.All
import Wide.All
import OpenK.AllK
import Wide.FinOn
import HandS.ForMost
import HandS.Wide
import HandS.TupAny
import HandS.TupMul
import HandS.IsInst
import HandS.EndBits
import HandS.Head0
import HandS.Head1
import HandS.Head2
import HandS.HeadEnd
import HandS.HeadHook1
import HandS.HeadHook2
import HandS.Style
import HandS.Flow
import HandS.Evl
import HandS.ExcOwn
import HandS.Defaults
import KE.SortData
import KE.DataEq
import KE.DataIsa
import KE.DataAny
import KE.KDictKeyed
import PySem.Challenge.RW_wholedigits_k00_whole_digits_there_and_b
set_option Elab.async false
set_option linter.all false
set_option maxRecDepth 100000
set_option maxHeartbeats 0
/-! Z1: the small language, its values, what it comes to. -/
namespace Z
open PySem

/-- a value: a datum; a thing that may change; a function made on the way with what it took along -/
inductive D where
  | dat (d : PyData)
  | ref (n : Nat)
  | clo (g : Nat) (caps : List D)
  | scr (ns : List Int)
instance : Inhabited D := ⟨.ref 0⟩
/-- what stands at a number -/
inductive O where
  | lst (l : List D)
  | dct (l : List (PyData × D))
  | dead
abbrev S := List (Option D)
abbrev H := List O
abbrev G := Nat → List D → H → Option (D × H)
abbrev D.int (i : Int) : D := .dat (.int i)
abbrev D.bl (b : Bool) : D := .dat (.bool b)
abbrev D.non : D := .dat .none
abbrev D.str (x : Str) : D := .dat (.str x)
abbrev D.tup (l : List PyData) : D := .dat (.tuple l)
abbrev D.lst (l : List PyData) : D := .dat (.list l)
abbrev dints (l : List Int) : List PyData := l.map PyData.int

inductive Bin where
  | add | sub | mul | fdiv | mod | pow
  deriving DecidableEq
inductive Cmp where
  | eq | ne | lt | le | gt | ge | is | isnot | «in» | notin
  deriving DecidableEq
inductive Blt where
  | len | sum | all | any | tuple | list | int | max2 | min2 | abs
  deriving DecidableEq
inductive Ty where
  | int | bool | str | tuple | list | dict
  deriving DecidableEq

inductive T where
  | nil | cons (a b : T)
  | var (i : Nat) | cst (d : PyData) | gint (x : Str) (i : Int)
  | bin (o : Bin) (a b : T) | neg (a : T) | not (a : T) | and (a b : T) | or (a b : T)
  | cmp (o : Cmp) (a b : T) | chain (o o' : Cmp) (a b c : T) | ite (c a b : T)
  | tup (l : T) | lst (l : T) | lstM (l : T) | addM (a b : T)
  | idx (a b : T) | slc (a lo hi : T) | rev (a : T)
  | call (g : Nat) (l : T) | callk (g : Nat) (l : T) (ks : List Str) (k : T) (perm : List Nat)
  | blt (b : Blt) (l : T) | isin (a : T) (tys : List Ty) (many : Bool)
  | frz (a : T) | app (o x : T)
  | lc (own : List (Str × Nat)) (tg it cs elt : T)
  | tv (i : Nat) | tt (l : T)
  | itv (a : T) | rng1 (a : T) | rng2 (a b : T)
  | skip | seq (a b : T) | asg (i : Nat) (e : T) | asgc (i : Nat) (e : T) | par (is : List Nat) (l : T) | asgT (tg e : T) | asgI (o i e : T)
  | aug (i : Nat) (o : Bin) (e : T) | augI (a i : T) (o : Bin) (e : T)
  | ex (e : T) | ifs (c a b : T) | whl (c b : T) | «for» (tg it b : T) | ret (e : T) | brk | cnt | nev

/-! ### values -/
def dats : List D → Option (List PyData)
  | [] => some []
  | .dat d :: r => (dats r).map (d :: ·)
  | _ :: _ => none
/-- the items of a list, of a tuple -/
def seqOf (h : H) : D → Option (List D)
  | .dat (.list l) => some (l.map .dat)
  | .dat (.tuple l) => some (l.map .dat)
  | .ref n => match h[n]? with
    | some (.lst l) => some l
    | _ => none
  | _ => none
/-- a value as a datum -/
def datOf (h : H) : D → Option PyData
  | .dat d => some d
  | .ref n => match h[n]? with
    | some (.lst l) => (dats l).map .list
    | _ => none
  | _ => none
def truthy (h : H) : D → Option Bool
  | .dat (.bool b) => some b
  | .dat (.int i) => some (i != 0)
  | .dat .none => some false
  | .dat (.tuple l) => some (!l.isEmpty)
  | .dat (.list l) => some (!l.isEmpty)
  | .dat (.str x) => if x.length ≤ sizeLine then some (x.length != 0) else none
  | .ref n => match h[n]? with
    | some (.lst l) => some (!l.isEmpty)
    | some (.dct l) => some (!l.isEmpty)
    | _ => none
  | _ => none
def mulOk (i j : Int) : Bool := decide (i.natAbs < 2 ^ 64) || decide (j.natAbs < 2 ^ 64) || (decide (i.natAbs < 2 ^ 4000) && decide (j.natAbs < 2 ^ 4000))
def divOk (j : Int) : Bool := decide (0 < j) && decide (j.natAbs < 2 ^ 4000)
def binop (h : H) : Bin → D → D → Option D
  | .add, .dat (.int a), .dat (.int b) => some (.int (a + b))
  | .add, .dat (.str a), .dat (.str b) => if a.length + b.length ≤ sizeLine then some (.str (a ++ b)) else none
  | .add, .dat (.tuple a), .dat (.tuple b) => if a.length + b.length ≤ sizeLine then some (.tup (a ++ b)) else none
  | .add, x, y => match datOf h x, datOf h y with
    | some (.list a), some (.list b) => if a.length + b.length ≤ sizeLine then some (.lst (a ++ b)) else none
    | _, _ => none
  | .sub, .dat (.int a), .dat (.int b) => some (.int (a - b))
  | .mul, .dat (.int a), .dat (.int b) => if mulOk a b then some (.int (a * b)) else none
  | .mul, .dat (.tuple a), .dat (.int b) => if -1000 ≤ b ∧ b < 1000 ∧ a.length ≤ 1000 then some (.tup (List.replicate b.toNat a).flatten) else none
  | .fdiv, .dat (.int a), .dat (.int b) => if divOk b then some (.int (a / b)) else none
  | .mod, .dat (.int a), .dat (.int b) => if 0 < b then some (.int (a % b)) else none
  | .pow, .dat (.int a), .dat (.int b) => if decide (0 ≤ b) && decide (b ≤ 1000000) && decide (a.natAbs < 2 ^ 64) then some (.int (a ^ b.toNat)) else none
  | _, _, _ => none
/-- == of two data -/
def eqD (p q : PyData) : Option Bool := match p, q with
  | .int a, .int b => some (decide (a = b))
  | p, q => if p.depth ≤ 64 then some (PyData.eqv p q) else none
def ordOp : Cmp → Int → Int → Bool
  | .lt, a, b => decide (a < b)
  | .le, a, b => decide (a ≤ b)
  | .gt, a, b => decide (b < a)
  | .ge, a, b => decide (b ≤ a)
  | _, _, _ => false
def isOp : D → D → Option Bool
  | .dat (.bool a), .dat (.bool b) => some (decide (a = b))
  | .dat .none, .dat .none => some true
  | .dat (.bool _), .dat .none => some false
  | .dat (.int _), .dat .none => some false
  | .dat (.str _), .dat .none => some false
  | .dat (.tuple _), .dat .none => some false
  | .dat (.list _), .dat .none => some false
  | .ref _, .dat .none => some false
  | _, _ => none
def inOp (h : H) (x y : D) : Option Bool := match x, datOf h y with
  | .dat p, some (.list l) => if p.depth ≤ 64 then some (l.any fun z => PyData.eqv z p) else none
  | .dat p, some (.tuple l) => if p.depth ≤ 64 then some (l.any fun z => PyData.eqv z p) else none
  | _, _ => none
def cmpop (h : H) (o : Cmp) (x y : D) : Option Bool := match o with
  | .eq => match datOf h x, datOf h y with
    | some p, some q => eqD p q
    | _, _ => none
  | .ne => match datOf h x, datOf h y with
    | some p, some q => (eqD p q).map (!·)
    | _, _ => none
  | .is => isOp x y
  | .isnot => (isOp x y).map (!·)
  | .«in» => inOp h x y
  | .notin => (inOp h x y).map (!·)
  | o => match x, y with
    | .dat (.int a), .dat (.int b) => some (ordOp o a b)
    | _, _ => none
def nthI {α : Type} (l : List α) : Int → Option α
  | .ofNat j => l[j]?
  | .negSucc j => if j < l.length then l[l.length - 1 - j]? else none
def cut {α : Type} (l : List α) (lo hi : Option Int) : List α := (l.drop (HT.sIx l.length 0 lo)).take (HT.sIx l.length l.length hi - HT.sIx l.length 0 lo)
def indexD (h : H) (x y : D) : Option D := match y with
  | .dat (.int i) => match x with
    | .dat (.tuple l) => (nthI l i).map .dat
    | .dat (.list l) => (nthI l i).map .dat
    | .ref n => match h[n]? with
      | some (.lst l) => nthI l i
      | _ => none
    | _ => none
  | _ => none
def sliceD (h : H) (x : D) (lo hi : Option Int) : Option D := match x with
  | .dat (.tuple l) => some (.tup (cut l lo hi))
  | x => match datOf h x with
    | some (.list l) => some (.lst (cut l lo hi))
    | _ => none
def partD : D → Option (Option Int)
  | .dat (.int i) => some (some i)
  | _ => none
def revD (h : H) (x : D) : Option D := match x with
  | .dat (.tuple l) => some (.tup l.reverse)
  | x => match datOf h x with
    | some (.list l) => some (.lst l.reverse)
    | _ => none
def isTy : Ty → D → H → Option Bool
  | t, .dat (.int _), _ => some (decide (t = .int))
  | t, .dat (.bool _), _ => some (decide (t = .bool) || decide (t = .int))
  | t, .dat (.str _), _ => some (decide (t = .str))
  | _, .dat .none, _ => some false
  | t, .dat (.tuple _), _ => some (decide (t = .tuple))
  | t, .dat (.list _), _ => some (decide (t = .list))
  | t, .ref n, h => match h[n]? with
    | some (.lst _) => some (decide (t = .list))
    | some (.dct _) => some (decide (t = .dict))
    | _ => none
  | _, _, _ => none
def isTys : List Ty → D → H → Option Bool
  | [], _, _ => some false
  | t :: r, d, h => (isTy t d h).bind fun b => if b then some true else isTys r d h
def intsOf : List PyData → Option (List Int)
  | [] => some []
  | .int i :: r => (intsOf r).map (i :: ·)
  | _ :: _ => none
def boolsOf : List PyData → Option (List Bool)
  | [] => some []
  | .bool i :: r => (boolsOf r).map (i :: ·)
  | _ :: _ => none
def bltD (h : H) : Blt → List D → Option D
  | .len, [x] => match x with
    | .dat (.tuple l) => some (.int l.length)
    | .dat (.list l) => some (.int l.length)
    | .dat (.str x) => if x.length ≤ sizeLine then some (.int x.length) else none
    | .ref n => match h[n]? with
      | some (.lst l) => some (.int l.length)
      | some (.dct l) => some (.int l.length)
      | _ => none
    | _ => none
  | .sum, [x] => match datOf h x with
    | some (.list l) => (intsOf l).map fun ns => .int ns.sum
    | some (.tuple l) => (intsOf l).map fun ns => .int ns.sum
    | _ => none
  | .all, [x] => match datOf h x with
    | some (.list l) => (boolsOf l).map fun bs => .bl (bs.all id)
    | _ => none
  | .any, [x] => match datOf h x with
    | some (.list l) => (boolsOf l).map fun bs => .bl (bs.any id)
    | _ => none
  | .tuple, [x] => match datOf h x with
    | some (.list l) => some (.tup l)
    | some (.tuple l) => some (.tup l)
    | _ => none
  | .list, [.scr ns] => some (.lst (dints ns))
  | .list, [x] => match datOf h x with
    | some (.list l) => some (.lst l)
    | some (.tuple l) => some (.lst l)
    | _ => none
  | .int, [.dat (.int i)] => some (.int i)
  | .max2, [.dat (.int i), .dat (.int j)] => some (.int (if j > i then j else i))
  | .min2, [.dat (.int i), .dat (.int j)] => some (.int (if j < i then j else i))
  | .abs, [.dat (.int i)] => some (.int (if i < 0 then -i else i))
  | _, _ => none

/-! ### targets, slots -/
def wipeS (s : S) : List Nat → S
  | [] => s
  | v :: vs => (wipeS s vs).set v none
def asgn : T → D → S → Option S
  | .tv i, d, s => some (s.set i (some d))
  | .tt l, .dat (.tuple xs), s => asgn l (.dat (.tuple xs)) s
  | .nil, .dat (.tuple xs), s => match xs with
    | [] => some s
    | _ => none
  | .cons a b, .dat (.tuple xs), s => match xs with
    | x :: r => (asgn a (.dat x) s).bind fun s1 => asgn b (.dat (.tuple r)) s1
    | _ => none
  | _, _, _ => none
inductive Out where
  | nx (s : S) (h : H) | rt (d : D) (h : H) | bk (s : S) (h : H) | ct (s : S) (h : H)

/-! ### loops -/
/-- turns of a while loop: at most so many -/
def most : Nat := 2 ^ 60
def whl (c : S → H → Option (Bool × H)) (b : S → H → Option Out) : Nat → S → H → Option Out
  | 0, _, _ => none
  | n + 1, s, h => (c s h).bind fun r => if r.1 then (b s r.2).bind fun
      | .nx s1 h1 => whl c b n s1 h1
      | .ct s1 h1 => whl c b n s1 h1
      | .bk s1 h1 => some (.nx s1 h1)
      | .rt d h1 => some (.rt d h1)
    else some (.nx s r.2)
def fors (b : D → S → H → Option Out) : List D → S → H → Option Out
  | [], s, h => some (.nx s h)
  | x :: r, s, h => (b x s h).bind fun
      | .nx s1 h1 => fors b r s1 h1
      | .ct s1 h1 => fors b r s1 h1
      | .bk s1 h1 => some (.nx s1 h1)
      | .rt d h1 => some (.rt d h1)
/-- a comprehension's turns: what each gives, or nothing -/
def comp (f : D → H → Option (Option PyData × H)) : List D → H → Option (List PyData × H)
  | [], h => some ([], h)
  | x :: r, h => (f x h).bind fun r1 => (comp f r r1.2).map fun r2 => (match r1.1 with
      | some y => y :: r2.1
      | none => r2.1, r2.2)
def rngD (lo : Int) (n : Nat) : List D := (List.range n).map fun (i : Nat) => D.int (lo + (i : Int))
def small62 (i : Int) : Bool := decide (-(2 ^ 62) ≤ i) && decide (i < 2 ^ 62)

/-! ### what the language comes to -/
def permD (l : List D) (perm : List Nat) : List D := perm.filterMap (l[·]?)
def augop : Bin → D → D → Option D
  | .add, .dat (.int a), .dat (.int b) => some (.int (a + b))
  | .sub, .dat (.int a), .dat (.int b) => some (.int (a - b))
  | _, _, _ => none
def setO (h : H) (x y z : D) : Option H := match x, y with
  | .ref n, .dat (.int i) => match h[n]?, z with
    | some (.lst l), .dat z => (match i with
      | .ofNat j => if j < l.length then some (h.set n (.lst (l.set j (.dat z)))) else none
      | .negSucc _ => none)
    | _, _ => none
  | _, _ => none

def isL (h : H) (n : Nat) : Bool := match h[n]? with
  | some (.lst _) => true
  | _ => false
def appD (h : H) (n : Nat) (d : D) : Option (D × H) := match h[n]? with
  | some (.lst l) => if l.length < sizeLine then some (.non, h.set n (.lst (l ++ [d]))) else none
  | _ => none
mutual
def evalE (Γ : G) : T → S → H → Option (D × H)
  | .var i, s, h => match s[i]? with
    | some (some d) => some (d, h)
    | _ => none
  | .cst d, _, h => some (.dat d, h)
  | .gint _ i, _, h => some (.int i, h)
  | .bin o a b, s, h => (evalE Γ a s h).bind fun x => (evalE Γ b s x.2).bind fun y => (binop y.2 o x.1 y.1).map (·, y.2)
  | .neg a, s, h => (evalE Γ a s h).bind fun x => match x.1 with
    | .dat (.int i) => some (.int (-i), x.2)
    | _ => none
  | .not a, s, h => (evalE Γ a s h).bind fun x => (truthy x.2 x.1).map fun b => (.bl (!b), x.2)
  | .and a b, s, h => (evalE Γ a s h).bind fun x => (truthy x.2 x.1).bind fun t => if t then evalE Γ b s x.2 else some x
  | .or a b, s, h => (evalE Γ a s h).bind fun x => (truthy x.2 x.1).bind fun t => if t then some x else evalE Γ b s x.2
  | .cmp o a b, s, h => (evalE Γ a s h).bind fun x => (evalE Γ b s x.2).bind fun y => (cmpop y.2 o x.1 y.1).map fun t => (.bl t, y.2)
  | .chain o o' a b c, s, h => (evalE Γ a s h).bind fun x => (evalE Γ b s x.2).bind fun y => (cmpop y.2 o x.1 y.1).bind fun t =>
      if t then (evalE Γ c s y.2).bind fun z => (cmpop z.2 o' y.1 z.1).map fun t => (.bl t, z.2) else some (.bl false, y.2)
  | .ite c a b, s, h => (evalE Γ c s h).bind fun x => (truthy x.2 x.1).bind fun t => if t then evalE Γ a s x.2 else evalE Γ b s x.2
  | .tup l, s, h => (evalA Γ l s h).bind fun x => (dats x.1).bind fun l => if l.length ≤ sizeLine then some (.tup l, x.2) else none
  | .lst l, s, h => (evalA Γ l s h).bind fun x => (dats x.1).bind fun l => if l.length ≤ sizeLine then some (.lst l, x.2) else none
  | .lstM l, s, h => (evalA Γ l s h).bind fun x => if x.1.length ≤ sizeLine then some (.ref x.2.length, x.2 ++ [.lst x.1]) else none
  | .addM a b, s, h => (evalE Γ a s h).bind fun x => (evalE Γ b s x.2).bind fun y => (match datOf y.2 x.1, datOf y.2 y.1 with
      | some (.list l), some (.list m) => if l.length + m.length ≤ sizeLine then some (.ref y.2.length, y.2 ++ [.lst ((l ++ m).map .dat)]) else none
      | _, _ => none)
  | .idx a b, s, h => (evalE Γ a s h).bind fun x => (evalE Γ b s x.2).bind fun y => (indexD y.2 x.1 y.1).map (·, y.2)
  | .slc a lo hi, s, h => (evalE Γ a s h).bind fun x => (evalP Γ lo s x.2).bind fun l => (evalP Γ hi s l.2).bind fun r => (sliceD r.2 x.1 l.1 r.1).map (·, r.2)
  | .rev a, s, h => (evalE Γ a s h).bind fun x => (revD x.2 x.1).map (·, x.2)
  | .call g l, s, h => (evalA Γ l s h).bind fun x => Γ g x.1 x.2
  | .callk g l _ k perm, s, h => (evalA Γ l s h).bind fun x => (evalA Γ k s x.2).bind fun y => Γ g (permD (x.1 ++ y.1) perm) y.2
  | .blt b l, s, h => (evalA Γ l s h).bind fun x => (bltD x.2 b x.1).map (·, x.2)
  | .isin a ts _, s, h => (evalE Γ a s h).bind fun x => (isTys ts x.1 x.2).map fun b => (.bl b, x.2)
  | .frz a, s, h => (evalE Γ a s h).bind fun x => match x.1 with
    | .ref n => (datOf x.2 (.ref n)).map fun d => (.dat d, x.2.set n .dead)
    | _ => none
  | .app o a, s, h => (evalE Γ o s h).bind fun x => match x.1 with
    | .ref n => if isL x.2 n then (evalE Γ a s x.2).bind fun y => appD y.2 n y.1 else none
    | _ => none
  | .lc own tg it cs elt, s, h => (evalI Γ it s h).bind fun x => if x.1.length ≤ sizeLine then (comp (fun d h => (asgn tg d (wipeS s (own.map (·.2)))).bind fun s1 =>
      (evalC Γ cs s1 h).bind fun r => if r.1 then (evalE Γ elt s1 r.2).bind fun y => (match y.1 with
        | .dat p => some (some p, y.2)
        | _ => none) else some (none, r.2)) x.1 x.2).map fun r => (.lst r.1, r.2) else none
  | _, _, _ => none
def evalA (Γ : G) : T → S → H → Option (List D × H)
  | .nil, _, h => some ([], h)
  | .cons a b, s, h => (evalE Γ a s h).bind fun x => (evalA Γ b s x.2).map fun y => (x.1 :: y.1, y.2)
  | _, _, _ => none
/-- a part of a slice -/
def evalP (Γ : G) : T → S → H → Option (Option Int × H)
  | .nil, _, h => some (none, h)
  | .cons a _, s, h => (evalE Γ a s h).bind fun x => (partD x.1).map (·, x.2)
  | _, _, _ => none
/-- a comprehension's tests: none, or one -/
def evalC (Γ : G) : T → S → H → Option (Bool × H)
  | .nil, _, h => some (true, h)
  | .cons a _, s, h => (evalE Γ a s h).bind fun x => (truthy x.2 x.1).map (·, x.2)
  | _, _, _ => none
/-- what is walked -/
def evalI (Γ : G) : T → S → H → Option (List D × H)
  | .itv a, s, h => (evalE Γ a s h).bind fun x => match x.1 with
    | .dat (.tuple l) => some (l.map .dat, x.2)
    | .dat (.list l) => some (l.map .dat, x.2)
    | _ => none
  | .rng1 a, s, h => (evalE Γ a s h).bind fun x => match x.1 with
    | .dat (.int i) => if small62 i then some (rngD 0 i.toNat, x.2) else none
    | _ => none
  | .rng2 a b, s, h => (evalE Γ a s h).bind fun x => (evalE Γ b s x.2).bind fun y => match x.1, y.1 with
    | .dat (.int i), .dat (.int j) => if small62 i && small62 j then some (rngD i (j - i).toNat, y.2) else none
    | _, _ => none
  | _, _, _ => none
end
def test (Γ : G) (c : T) (s : S) (h : H) : Option (Bool × H) := (evalE Γ c s h).bind fun x => (truthy x.2 x.1).map (·, x.2)
def exec (Γ : G) : T → S → H → Option Out
  | .skip, s, h => some (.nx s h)
  | .seq a b, s, h => (exec Γ a s h).bind fun
      | .nx s1 h1 => exec Γ b s1 h1
      | o => some o
  | .asg i e, s, h => (evalE Γ e s h).map fun x => .nx (s.set i (some x.1)) x.2
  | .asgc i e, s, h => (evalE Γ e s h).map fun x => .nx (s.set i (some x.1)) x.2
  | .par is l, s, h => (evalA Γ l s h).bind fun x => if x.1.length = is.length then some (.nx ((is.zip x.1).foldl (fun s p => s.set p.1 (some p.2)) s) x.2) else none
  | .asgT tg e, s, h => (evalE Γ e s h).bind fun x => (asgn tg x.1 s).map fun s1 => .nx s1 x.2
  | .asgI o i e, s, h => (evalE Γ e s h).bind fun z => (evalE Γ o s z.2).bind fun x => (evalE Γ i s x.2).bind fun y => (setO y.2 x.1 y.1 z.1).map fun h1 => .nx s h1
  | .aug i o e, s, h => (match s[i]? with
      | some (some d) => (evalE Γ e s h).bind fun x => (augop o d x.1).map fun z => .nx (s.set i (some z)) x.2
      | _ => none)
  | .augI a i o e, s, h => (evalE Γ a s h).bind fun x => (evalE Γ i s x.2).bind fun y => (indexD y.2 x.1 y.1).bind fun v => (evalE Γ e s y.2).bind fun w =>
      (augop o v w.1).bind fun z => (setO w.2 x.1 y.1 z).map fun h1 => .nx s h1
  | .ex e, s, h => (evalE Γ e s h).map fun x => .nx s x.2
  | .ifs c a b, s, h => (test Γ c s h).bind fun r => if r.1 then exec Γ a s r.2 else exec Γ b s r.2
  | .whl c b, s, h => whl (test Γ c) (exec Γ b) most s h
  | .for tg it b, s, h => (evalI Γ it s h).bind fun x => fors (fun d s h => (asgn tg d s).bind fun s1 => exec Γ b s1 h) x.1 s x.2
  | .ret e, s, h => (evalE Γ e s h).map fun x => .rt x.1 x.2
  | .brk, s, h => some (.bk s h)
  | .cnt, s, h => some (.ct s h)
  | _, _, _ => none

/-! ### defs -/
structure Fn where
  ps : Nat
  slots : Nat
  body : T
/-- it names nothing that was made since -/
def D.under (n : Nat) : D → Bool
  | .dat _ => true
  | .ref m => decide (m < n)
  | .clo _ _ => false
  | .scr _ => true
def O.under (n : Nat) : O → Bool
  | .lst l => l.all (·.under n)
  | .dct l => l.all (·.2.under n)
  | .dead => true
/-- a call's end: what was made since is forgotten, but for a thing that is given back -/
def close (n : Nat) (d : D) (h : H) : Option (D × H) := if (h.take n).all (·.under n) then
    if d.under n then some (d, h.take n) else match d with
    | .ref m => match h[m]? with
      | some o => if o.under n then some (.ref n, h.take n ++ [o]) else none
      | none => none
    | _ => none
  else none
def starts (f : Fn) (l : List D) : S := l.map some ++ List.replicate (f.slots - l.length) none
def runs (f : Fn) (Γ : G) (l : List D) (h : H) : Option (D × H) := if l.length = f.ps then
    match exec Γ f.body (starts f l) h with
    | some (.rt d h1) => close h.length d h1
    | some (.nx _ h1) => close h.length .non h1
    | _ => none
  else none
/-- the defs of a text, calls so deep -/
def run (P : Nat → Option Fn) : Nat → G
  | 0 => fun _ _ _ => none
  | k + 1 => fun g l h => match P g with
    | some f => runs f (run P k) l h
    | none => none
end Z

/-! Z2: how the small language's values lie in the heap. -/
namespace Z
open PySem PySem.Spec PyProof.Rows L2
/-- what stands behind the top, the same for the whole of a run -/
class KF where
  K : PySem.W.Frag
variable [KF]
abbrev Ext (H H' : Hp) : Prop := Evl.Ex H H'

mutual
inductive DQ (F : Hp) : V → PyData → Prop
  | non : DQ F .non .none
  | bl (b : Bool) : DQ F (.bl b) (.bool b)
  | int (i : Int) : DQ F (.int i) (.int i)
  | str (x : Str) : DQ F (.str x) (.str x)
  | lst {a : Addr} {xs : List V} {ds : List PyData} : F a = some (.lst xs) → DQs F xs ds → DQ F (.ref a) (.list ds)
  | tup {a : Addr} {xs : List V} {ds : List PyData} : F a = some (.tup xs) → DQs F xs ds → DQ F (.ref a) (.tuple ds)
inductive DQs (F : Hp) : List V → List PyData → Prop
  | nil : DQs F [] []
  | cons {v : V} {vs : List V} {d : PyData} {ds : List PyData} : DQ F v d → DQs F vs ds → DQs F (v :: vs) (d :: ds)
end
section
variable {F F' : Hp}
mutual
theorem DQ.mono (e : Ext F F') : ∀ (d : PyData) (v : V), DQ F v d → DQ F' v d
  | .none, _, h => by cases h; exact .non
  | .bool b, _, h => by cases h; exact .bl b
  | .int b, _, h => by cases h; exact .int b
  | .str b, _, h => by cases h; exact .str b
  | .list l, _, h => by
    cases h with
    | lst a b => exact .lst (e _ _ a) (DQs.mono e l _ b)
  | .tuple l, _, h => by
    cases h with
    | tup a b => exact .tup (e _ _ a) (DQs.mono e l _ b)
  | .dict l, _, h => by cases h
theorem DQs.mono (e : Ext F F') : ∀ (d : List PyData) (v : List V), DQs F v d → DQs F' v d
  | [], _, h => by cases h; exact .nil
  | d :: ds, _, h => by
    cases h with
    | cons a b => exact .cons (DQ.mono e d _ a) (DQs.mono e ds _ b)
end
mutual
theorem DQ.dp (K : PySem.W.Frag) (e : Ext F F') : ∀ (d : PyData) (v : V), DQ F v d → Dp K F' v d
  | .none, _, h => by cases h; exact .non
  | .bool b, _, h => by cases h; exact .bl b
  | .int b, _, h => by cases h; exact .int b
  | .str b, _, h => by cases h; exact .str b
  | .list l, _, h => by
    cases h with
    | lst a b => exact .lst (SqL.of (e _ _ a)) (DQs.dp K e l _ b)
  | .tuple l, _, h => by
    cases h with
    | tup a b => exact .tup (SqT.of (e _ _ a)) (DQs.dp K e l _ b)
  | .dict l, _, h => by cases h
theorem DQs.dp (K : PySem.W.Frag) (e : Ext F F') : ∀ (d : List PyData) (v : List V), DQs F v d → DpAll K F' v d
  | [], _, h => by cases h; exact .nil
  | d :: ds, _, h => by
    cases h with
    | cons a b => exact .cons (DQ.dp K e d _ a) (DQs.dp K e ds _ b)
end
theorem DQs.len : ∀ {vs : List V} {ds : List PyData}, DQs F vs ds → vs.length = ds.length
  | _, _, .nil => rfl
  | _, _, .cons _ t => by simp [DQs.len t]
theorem DQs.append : ∀ {vs ws : List V} {ds es : List PyData}, DQs F vs ds → DQs F ws es → DQs F (vs ++ ws) (ds ++ es)
  | _, _, _, _, .nil, h => h
  | _, _, _, _, .cons a t, h => .cons a (DQs.append t h)
theorem DQs.get : ∀ {vs : List V} {ds : List PyData} {i : Nat} {d : PyData}, DQs F vs ds → ds[i]? = some d → ∃ v, vs[i]? = some v ∧ DQ F v d
  | _, _, _, _, .nil, h => by simp at h
  | _, _, 0, _, .cons a t, h => by simp at h; subst h; exact ⟨_, rfl, a⟩
  | _, _, i + 1, _, .cons a t, h => by
    obtain ⟨v, e, q⟩ := DQs.get (i := i) t (by simpa using h)
    exact ⟨v, by simpa using e, q⟩
theorem DQs.drop : ∀ {vs : List V} {ds : List PyData} (n : Nat), DQs F vs ds → DQs F (vs.drop n) (ds.drop n)
  | _, _, 0, h => h
  | _, _, _ + 1, .nil => .nil
  | _, _, n + 1, .cons _ t => DQs.drop n t
theorem DQs.take : ∀ {vs : List V} {ds : List PyData} (n : Nat), DQs F vs ds → DQs F (vs.take n) (ds.take n)
  | _, _, 0, h => .nil
  | _, _, _ + 1, .nil => .nil
  | _, _, n + 1, .cons a t => .cons a (DQs.take n t)
theorem DQs.rev : ∀ {vs : List V} {ds : List PyData}, DQs F vs ds → DQs F vs.reverse ds.reverse
  | _, _, .nil => .nil
  | _, _, .cons a t => by
    rw [List.reverse_cons, List.reverse_cons]
    exact DQs.append (DQs.rev t) (.cons a .nil)
theorem DQs.ints : ∀ {ns : List Int} {vs : List V} {ds : List PyData}, DQs F vs ds → intsOf ds = some ns → vs = ns.map V.int
  | ns, _, _, .nil, h => by simp [intsOf] at h; subst h; rfl
  | ns, _, _, .cons (d := d) (ds := ds) a t, h => by
    cases d with
    | int i =>
      cases a
      simp only [intsOf, Option.map_eq_some_iff] at h
      obtain ⟨r, h1, rfl⟩ := h
      rw [DQs.ints t h1]; rfl
    | _ => simp [intsOf] at h
theorem DQs.bools : ∀ {ns : List Bool} {vs : List V} {ds : List PyData}, DQs F vs ds → boolsOf ds = some ns → vs = ns.map V.bl
  | ns, _, _, .nil, h => by simp [boolsOf] at h; subst h; rfl
  | ns, _, _, .cons (d := d) (ds := ds) a t, h => by
    cases d with
    | bool i =>
      cases a
      simp only [boolsOf, Option.map_eq_some_iff] at h
      obtain ⟨r, h1, rfl⟩ := h
      rw [DQs.bools t h1]; rfl
    | _ => simp [boolsOf] at h
theorem DQs.of_ints : ∀ (ns : List Int), DQs F (ns.map V.int) (dints ns)
  | [] => .nil
  | _ :: r => .cons (.int _) (DQs.of_ints r)
theorem DQs.rep {vs : List V} {ds : List PyData} (h : DQs F vs ds) : ∀ n : Nat, DQs F (List.replicate n vs).flatten (List.replicate n ds).flatten
  | 0 => .nil
  | n + 1 => by
    rw [List.replicate_succ, List.replicate_succ, List.flatten_cons, List.flatten_cons]
    exact h.append (DQs.rep h n)
end

/-! ### values, the changing things, the slots -/
def DV (F : Hp) (ρ : List Addr) : D → V → Prop
  | .dat d, v => DQ F v d
  | .ref n, v => ∃ a, ρ[n]? = some a ∧ v = .ref a
  | .clo _ _, _ => False
  | .scr ns, v => ∃ a, v = .ref a ∧ SqL KF.K F a (ns.map V.int)
abbrev DVs (F : Hp) (ρ : List Addr) : List D → List V → Prop := Paired (DV F ρ)
def Sub (ρ ρ' : List Addr) : Prop := ∀ (i : Nat) (a : Addr), ρ[i]? = some a → ρ'[i]? = some a
theorem Sub.refl (ρ : List Addr) : Sub ρ ρ := fun _ _ h => h
theorem Sub.trans {a b c : List Addr} (x : Sub a b) (y : Sub b c) : Sub a c := fun i p h => y i p (x i p h)
theorem Ext.refl (F : Hp) : Ext F F := Evl.Ex.refl F
theorem Ext.trans {a b c : Hp} (x : Ext a b) (y : Ext b c) : Ext a c := Evl.Ex.trans x y
section
variable {F F' Hq : Hp} {ρ ρ' : List Addr} {h : H}
theorem DV.mono (e : Ext F F') (s : Sub ρ ρ') : ∀ {d : D} {v : V}, DV F ρ d v → DV F' ρ' d v
  | .dat d, v, h => DQ.mono e d v h
  | .ref n, v, h => let ⟨a, h1, h2⟩ := h; ⟨a, s _ _ h1, h2⟩
  | .clo _ _, _, h => h
  | .scr ns, v, h => let ⟨a, h1, h2⟩ := h; ⟨a, h1, h2.imp (fun r => r.imp (e _ _) fun ⟨o, z⟩ => ⟨o, e _ _ z⟩) id⟩
theorem DVs.mono (e : Ext F F') (s : Sub ρ ρ') : ∀ {l : List D} {vs : List V}, DVs F ρ l vs → DVs F' ρ' l vs
  | _, _, .nil => .nil
  | _, _, .cons a t => .cons (a.mono e s) (DVs.mono e s t)
theorem DVs.len : ∀ {l : List D} {vs : List V}, DVs F ρ l vs → l.length = vs.length := Paired.length
theorem DVs.append : ∀ {l m : List D} {vs ws : List V}, DVs F ρ l vs → DVs F ρ m ws → DVs F ρ (l ++ m) (vs ++ ws)
  | _, _, _, _, .nil, h => h
  | _, _, _, _, .cons a t, h => .cons a (DVs.append t h)
theorem DVs.get : ∀ {l : List D} {vs : List V} {i : Nat} {d : D}, DVs F ρ l vs → l[i]? = some d → ∃ v, vs[i]? = some v ∧ DV F ρ d v
  | _, _, _, _, .nil, h => by simp at h
  | _, _, 0, _, .cons a t, h => by simp at h; subst h; exact ⟨_, rfl, a⟩
  | _, _, i + 1, _, .cons a t, h => by
    obtain ⟨v, e, q⟩ := DVs.get (i := i) t (by simpa using h)
    exact ⟨v, by simpa using e, q⟩
theorem DVs.set {d : D} {v : V} (r : DV F ρ d v) : ∀ {l : List D} {vs : List V} (i : Nat), DVs F ρ l vs → DVs F ρ (l.set i d) (vs.set i v)
  | _, _, _, .nil => .nil
  | _, _, 0, .cons _ t => .cons r t
  | _, _, i + 1, .cons q t => .cons q (DVs.set r i t)
/-- all data -/
theorem DVs.dats : ∀ {l : List D} {vs : List V} {ds : List PyData}, DVs F ρ l vs → dats l = some ds → DQs F vs ds
  | _, _, _, .nil, h => by simp [Z.dats] at h; subst h; exact .nil
  | .dat d :: _, _, _, .cons a t, h => by
    simp only [Z.dats, Option.map_eq_some_iff] at h
    obtain ⟨r, h1, rfl⟩ := h
    exact .cons a (DVs.dats t h1)
  | .ref _ :: _, _, _, .cons a t, h => by simp [Z.dats] at h
  | .clo _ _ :: _, _, _, .cons a t, h => by simp [Z.dats] at h
  | .scr _ :: _, _, _, .cons a t, h => by simp [Z.dats] at h
theorem DVs.of_dats : ∀ {vs : List V} {ds : List PyData}, DQs F vs ds → DVs F ρ (ds.map .dat) vs
  | _, _, .nil => .nil
  | _, _, .cons a t => .cons a (DVs.of_dats t)
theorem dats_len : ∀ {l : List D} {ds : List PyData}, dats l = some ds → ds.length = l.length
  | [], _, h => by simp [Z.dats] at h; subst h; rfl
  | .dat d :: r, _, h => by
    simp only [Z.dats, Option.map_eq_some_iff] at h
    obtain ⟨r, h1, rfl⟩ := h
    simp [dats_len h1]
  | .ref _ :: _, _, h => by simp [Z.dats] at h
  | .clo _ _ :: _, _, h => by simp [Z.dats] at h
  | .scr _ :: _, _, h => by simp [Z.dats] at h
end
/-- a thing that may change, at its address -/
def OR (F : Hp) (ρ : List Addr) (Hq : Hp) (a : Addr) : O → Prop
  | .lst l => F a = none ∧ ∃ vs, Hq a = some (.lst vs) ∧ DVs F ρ l vs
  | .dct _ => False
  | .dead => ∃ u, Hq a = some u
structure At (F : Hp) (ρ : List Addr) (h : H) (Hq : Hp) : Prop where
  ex : Ext F Hq
  len : ρ.length = h.length
  nd : ρ.Nodup
  ob : ∀ (i : Nat) (o : O) (a : Addr), h[i]? = some o → ρ[i]? = some a → OR F ρ Hq a o
def SR (F : Hp) (ρ : List Addr) (s : S) (σ : L2.St) : Prop := ∀ (i : Nat) (d : D), s[i]? = some (some d) → ∃ v, σ[i]? = some (some v) ∧ DV F ρ d v
section
variable {F F' Hq Hr : Hp} {ρ ρ' : List Addr} {h h' : H} {s : S} {σ : L2.St} {a : Addr} {o : HO}
theorem SR.mono (e : Ext F F') (q : Sub ρ ρ') (r : SR F ρ s σ) : SR F' ρ' s σ := fun i d hi => let ⟨v, h1, h2⟩ := r i d hi; ⟨v, h1, h2.mono e q⟩
theorem At.have_ (x : At F ρ h Hq) {i : Nat} {o : O} (e : h[i]? = some o) : ∃ a, ρ[i]? = some a ∧ OR F ρ Hq a o := by
  have hi : i < ρ.length := by rw [x.len]; exact (List.getElem?_eq_some_iff.mp e).1
  exact ⟨ρ[i], by simp [hi], x.ob i o _ e (by simp [hi])⟩
theorem At.free (x : At F ρ h Hq) (hn : Hq a = none) : F a = none := by
  cases e : F a with
  | none => rfl
  | some u => rw [x.ex a u e] at hn; cases hn
theorem At.not_mem (x : At F ρ h Hq) (hn : Hq a = none) : a ∉ ρ := fun hm => by
  obtain ⟨i, hi, e⟩ := List.mem_iff_getElem.mp hm
  have hl : i < h.length := by rw [← x.len]; exact hi
  have q := x.ob i h[i] a (by simp [hl]) (by simp [hi, e])
  generalize h[i] = o at q
  cases o with
  | lst l => obtain ⟨_, vs, e2, _⟩ := q; rw [hn] at e2; cases e2
  | dct l => exact q
  | dead => obtain ⟨u, e2⟩ := q; rw [hn] at e2; cases e2
theorem ext_upd (e : Ext F Hq) (hn : Hq a = none) : Ext (upd F a o) (upd Hq a o) := fun b u q => by
  by_cases hb : b = a
  · subst hb; rw [upd_same] at q ⊢; exact q
  · rw [upd_ne hb] at q ⊢; exact e b u q
theorem OR.mono {b : Addr} {ob : O} (e : Ext F F') (sb : Sub ρ ρ') (fr : F b = none → F' b = none) (k : ∀ u, Hq b = some u → Hr b = some u) : OR F ρ Hq b ob → OR F' ρ' Hr b ob := by
  cases ob with
  | lst l => exact fun ⟨h1, vs, h2, h3⟩ => ⟨fr h1, vs, k _ h2, DVs.mono e sb h3⟩
  | dct l => exact fun h => h
  | dead => exact fun ⟨u, h⟩ => ⟨u, k _ h⟩
/-- a new datum's object -/
theorem At.new (x : At F ρ h Hq) (hn : Hq a = none) : At (upd F a o) ρ h (upd Hq a o) where
  ex := ext_upd x.ex hn
  len := x.len
  nd := x.nd
  ob := fun i ob b h1 h2 => by
    have hb : b ≠ a := fun e => x.not_mem hn (e ▸ List.mem_of_getElem? h2)
    exact (x.ob i ob b h1 h2).mono (Evl.Ex.new (x.free hn)) (Sub.refl _) (fun h => by rw [upd_ne hb]; exact h) fun u h => by rw [upd_ne hb]; exact h
theorem At.ext_new (x : At F ρ h Hq) (hn : Hq a = none) : Ext F (upd F a o) := Evl.Ex.new (x.free hn)
/-- a heap that grows -/
theorem At.grow (x : At F ρ h Hq) (e : Ext Hq Hr) : At F ρ h Hr where
  ex := x.ex.trans e
  len := x.len
  nd := x.nd
  ob := fun i ob b h1 h2 => (x.ob i ob b h1 h2).mono (Ext.refl _) (Sub.refl _) (fun h => h) fun u h => e _ _ h
theorem getl {α : Type} {l : List α} {x : α} : (l ++ [x])[l.length]? = some x := by simp
/-- a new list that may change -/
theorem At.alloc (x : At F ρ h Hq) (hn : Hq a = none) {l : List D} {vs : List V} (r : DVs F ρ l vs) : At F (ρ ++ [a]) (h ++ [.lst l]) (upd Hq a (.lst vs)) := by
  have sb : Sub ρ (ρ ++ [a]) := fun i b e => by rw [List.getElem?_append_left (List.getElem?_eq_some_iff.mp e).1]; exact e
  refine ⟨x.ex.trans (Evl.Ex.new hn), by simp [x.len], ?_, fun i ob b h1 h2 => ?_⟩
  · rw [List.nodup_append]
    exact ⟨x.nd, by simp, fun p hp q hq e => by simp at hq; subst hq; subst e; exact x.not_mem hn hp⟩
  · by_cases hi : i < h.length
    · rw [List.getElem?_append_left hi] at h1
      rw [List.getElem?_append_left (by rw [x.len]; exact hi)] at h2
      have hb : b ≠ a := fun e => x.not_mem hn (e ▸ List.mem_of_getElem? h2)
      exact (x.ob i ob b h1 h2).mono (Ext.refl _) sb (fun h => h) fun u h => by rw [upd_ne hb]; exact h
    · have hi2 : i = h.length := by
        have := (List.getElem?_eq_some_iff.mp h1).1
        simp at this
        omega
      subst hi2
      rw [getl] at h1
      rw [← x.len, getl] at h2
      cases h1; cases h2
      exact ⟨x.free hn, vs, upd_same, DVs.mono (Ext.refl _) sb r⟩
theorem sub_alloc : Sub ρ (ρ ++ [a]) := fun i b e => by rw [List.getElem?_append_left (List.getElem?_eq_some_iff.mp e).1]; exact e
/-- a thing changed in its place -/
theorem At.put (x : At F ρ h Hq) {n : Nat} {l : List D} (ha : ρ[n]? = some a) (hf : F a = none) {vs : List V} (r : DVs F ρ l vs) : At F ρ (h.set n (.lst l)) (upd Hq a (.lst vs)) := by
  refine ⟨Evl.Ex.mut x.ex hf, by simp [x.len], x.nd, fun i ob b h1 h2 => ?_⟩
  by_cases hi : i = n
  · subst hi
    rw [ha] at h2; cases h2
    rw [List.getElem?_set_self (by have := (List.getElem?_eq_some_iff.mp ha).1; rw [← x.len]; exact this)] at h1
    cases h1
    exact ⟨hf, vs, upd_same, r⟩
  · rw [List.getElem?_set_ne (Ne.symm hi)] at h1
    have hb : b ≠ a := fun e => hi (nd_ix x.nd (e ▸ h2 : ρ[i]? = some a) ha)
    exact (x.ob i ob b h1 h2).mono (Ext.refl _) (Sub.refl _) (fun h => h) fun u h => by rw [upd_ne hb]; exact h
/-- a thing that will change no more -/
theorem At.freeze (x : At F ρ h Hq) {n : Nat} {vs : List V} (ha : ρ[n]? = some a) (hf : F a = none) (hq : Hq a = some (.lst vs)) : At (upd F a (.lst vs)) ρ (h.set n .dead) Hq := by
  refine ⟨fun b u q => ?_, by simp [x.len], x.nd, fun i ob b h1 h2 => ?_⟩
  · by_cases hb : b = a
    · subst hb; rw [upd_same] at q; cases q; exact hq
    · rw [upd_ne hb] at q; exact x.ex b u q
  by_cases hi : i = n
  · subst hi
    rw [ha] at h2; cases h2
    rw [List.getElem?_set_self (by have := (List.getElem?_eq_some_iff.mp ha).1; rw [← x.len]; exact this)] at h1
    cases h1
    exact ⟨_, hq⟩
  · rw [List.getElem?_set_ne (Ne.symm hi)] at h1
    have hb : b ≠ a := fun e => hi (nd_ix x.nd (e ▸ h2 : ρ[i]? = some a) ha)
    exact (x.ob i ob b h1 h2).mono (Evl.Ex.new hf) (Sub.refl _) (fun h => by rw [upd_ne hb]; exact h) fun u h => h
end

/-- from one heap to a later one: what was there and may not change is there; what froze had been free or could change -/
structure Step (F F' : Hp) (ρ ρ' : List Addr) (Hq Hr : Hp) : Prop where
  sub : Sub ρ ρ'
  new : ∀ a ∈ ρ', a ∈ ρ ∨ Hq a = none
  keep : ∀ a o, Hq a = some o → a ∉ ρ → Hr a = some o
  fz : ∀ a, F a = none → F' a = none ∨ a ∈ ρ ∨ Hq a = none
theorem Step.refl (F : Hp) (ρ : List Addr) (Hq : Hp) : Step F F ρ ρ Hq Hq := ⟨Sub.refl _, fun _ h => .inl h, fun _ _ h _ => h, fun _ h => .inl h⟩
theorem Step.trans {F F1 F2 : Hp} {ρ ρ1 ρ2 : List Addr} {H0 H1 H2 : Hp} (x : Step F F1 ρ ρ1 H0 H1) (y : Step F1 F2 ρ1 ρ2 H1 H2) : Step F F2 ρ ρ2 H0 H2 where
  sub := x.sub.trans y.sub
  new := fun a ha => by
    rcases y.new a ha with h | h
    · exact x.new a h
    · by_cases hm : a ∈ ρ
      · exact .inl hm
      · refine .inr ?_
        cases e : H0 a with
        | none => rfl
        | some o => rw [x.keep a o e hm] at h; cases h
  keep := fun a o e hm => y.keep a o (x.keep a o e hm) fun h => by
    rcases x.new a h with z | z
    · exact hm z
    · rw [e] at z; cases z
  fz := fun a h => by
    rcases x.fz a h with h1 | h1
    · rcases y.fz a h1 with h2 | h2 | h2
      · exact .inl h2
      · exact .inr (x.new a h2)
      · by_cases hm : a ∈ ρ
        · exact .inr (.inl hm)
        · refine .inr (.inr ?_)
          cases e : H0 a with
          | none => rfl
          | some o => rw [x.keep a o e hm] at h2; cases h2
    · exact .inr h1
/-- something new was laid -/
theorem Step.laid0 {F : Hp} {ρ : List Addr} {Hq : Hp} {p : Addr} {o : HO} (hp : Hq p = none) : Step F F ρ ρ Hq (upd Hq p o) := ⟨Sub.refl _, fun _ h => .inl h, fun a u e _ => by rw [upd_ne (ne_of_none e hp)]; exact e, fun _ h => .inl h⟩
theorem Step.laid {F : Hp} {ρ : List Addr} {Hq : Hp} {p : Addr} {o : HO} (hp : Hq p = none) : Step F (upd F p o) ρ ρ Hq (upd Hq p o) := ⟨Sub.refl _, fun _ h => .inl h, fun a u e _ => by rw [upd_ne (ne_of_none e hp)]; exact e, fun a h => by
  by_cases e : a = p
  · subst e; exact .inr (.inr hp)
  · exact .inl (by rw [upd_ne e]; exact h)⟩
/-- a thing that may change did -/
theorem Step.put {F : Hp} {ρ : List Addr} {Hq : Hp} {n : Nat} {p : Addr} {o : HO} (hp : ρ[n]? = some p) : Step F F ρ ρ Hq (upd Hq p o) := ⟨Sub.refl _, fun _ h => .inl h, fun a u e hm => by
  have ne : a ≠ p := fun z => hm (by rw [z]; exact List.mem_of_getElem? hp)
  rw [upd_ne ne]; exact e, fun _ h => .inl h⟩
/-- a thing that could change froze -/
theorem Step.frz {F : Hp} {ρ : List Addr} {Hq : Hp} {n : Nat} {p : Addr} {o : HO} (hp : ρ[n]? = some p) : Step F (upd F p o) ρ ρ Hq Hq := ⟨Sub.refl _, fun _ h => .inl h, fun a u e hm => e, fun a h => by
  by_cases e : a = p
  · subst e; exact .inr (.inl (List.mem_of_getElem? hp))
  · exact .inl (by rw [upd_ne e]; exact h)⟩
/-- a new thing that may change -/
theorem Step.alloc {F : Hp} {ρ : List Addr} {Hq : Hp} {p : Addr} {o : HO} (hp : Hq p = none) : Step F F ρ (ρ ++ [p]) Hq (upd Hq p o) := ⟨sub_alloc, fun a ha => by
  rcases List.mem_append.mp ha with h | h
  · exact .inl h
  · simp at h; subst h; exact .inr hp, fun a u e _ => by rw [upd_ne (ne_of_none e hp)]; exact e, fun _ h => .inl h⟩
/-- what is wanted of a value that comes -/
def Ret (F : Hp) (ρ : List Addr) (Hq : Hp) (d : D) (h : H) (Q : VK) : Prop := ∀ F' ρ' v Hr, Ext F F' → Step F F' ρ ρ' Hq Hr → At F' ρ' h Hr → DV F' ρ' d v → Q v Hr
section
variable {F F' Hq Hr : Hp} {ρ ρ' : List Addr} {h h' : H} {s : S} {σ : L2.St} {a : Addr} {o : HO} {d : D} {v : V} {Q : VK} {l : List PyData}
theorem Ret.go (r : Ret F ρ Hq d h Q) (x : At F ρ h Hq) (y : DV F ρ d v) : Q v Hq := r F ρ v Hq (Ext.refl _) (Step.refl _ _ _) x y
theorem Ret.mono (r : Ret F ρ Hq d h Q) (e : Ext F F') (st : Step F F' ρ ρ' Hq Hr) : Ret F' ρ' Hr d h Q := fun F2 ρ2 v H2 e2 s2 => r F2 ρ2 v H2 (e.trans e2) (st.trans s2)
/-- a new tuple -/
theorem Ret.tup (r : Ret F ρ Hq (.tup l) h Q) (x : At F ρ h Hq) {vs : List V} (q : DQs F vs l) : ∀ p, Hq p = none → Q (.ref p) (upd Hq p (.tup vs)) := fun p hp =>
  r (upd F p (.tup vs)) ρ _ _ (x.ext_new hp) (Step.laid hp) (x.new hp) (.tup upd_same (q.mono (x.ext_new hp)))
theorem Ret.lst (r : Ret F ρ Hq (.lst l) h Q) (x : At F ρ h Hq) {vs : List V} (q : DQs F vs l) : ∀ p, Hq p = none → Q (.ref p) (upd Hq p (.lst vs)) := fun p hp =>
  r (upd F p (.lst vs)) ρ _ _ (x.ext_new hp) (Step.laid hp) (x.new hp) (.lst upd_same (q.mono (x.ext_new hp)))
end
end Z

/-! Z3: operators and built-in functions by values. -/
namespace Z
open PySem PySem.Spec PyProof.Rows L2
variable [KF]
def opOf : Bin → Operator
  | .add => .Add | .sub => .Sub | .mul => .Mult | .fdiv => .FloorDiv | .mod => .Mod | .pow => .Pow
def cmpOf : Cmp → CmpOp
  | .eq => .Eq | .ne => .NotEq | .lt => .Lt | .le => .LtE | .gt => .Gt | .ge => .GtE | .is => .Is | .isnot => .IsNot | .«in» => .In | .notin => .NotIn
section
variable {F Hq : Hp} {ρ : List Addr} {h : H}
/-- a list as a datum -/
theorem datOf_list (x : At F ρ h Hq) {d : D} {v : V} {l : List PyData} (r : DV F ρ d v) (e : datOf h d = some (.list l)) : ∃ a vs, v = .ref a ∧ Hq a = some (.lst vs) ∧ DQs F vs l := by
  cases d with
  | dat p =>
    simp only [datOf, Option.some.injEq] at e
    subst e
    cases r with
    | lst a b => exact ⟨_, _, rfl, x.ex _ _ a, b⟩
  | ref n =>
    obtain ⟨a, h1, rfl⟩ := r
    simp only [datOf] at e
    split at e
    · rename_i l' hl
      obtain ⟨a', h2, q⟩ := x.have_ hl
      rw [h1] at h2; cases h2
      obtain ⟨hf, vs, h3, h4⟩ := q
      simp only [Option.map_eq_some_iff] at e
      obtain ⟨ds, h5, h6⟩ := e
      cases h6
      exact ⟨a, vs, rfl, h3, h4.dats h5⟩
    · cases e
  | clo g c => cases e
  | scr ns => cases e
theorem datOf_tuple (x : At F ρ h Hq) {d : D} {v : V} {l : List PyData} (r : DV F ρ d v) (e : datOf h d = some (.tuple l)) : ∃ a vs, v = .ref a ∧ F a = some (.tup vs) ∧ DQs F vs l := by
  cases d with
  | dat p =>
    simp only [datOf, Option.some.injEq] at e
    subst e
    cases r with
    | tup a b => exact ⟨_, _, rfl, a, b⟩
  | ref n =>
    simp only [datOf] at e
    split at e
    · simp only [Option.map_eq_some_iff] at e
      obtain ⟨ds, h5, h6⟩ := e
      cases h6
    · cases e
  | clo g c => cases e
  | scr ns => cases e
/-- as data over the whole heap -/
theorem datOf_dp (K : PySem.W.Frag) (x : At F ρ h Hq) {d : D} {v : V} {p : PyData} (r : DV F ρ d v) (e : datOf h d = some p) : Dp K Hq v p := by
  cases d with
  | dat q =>
    simp only [datOf, Option.some.injEq] at e
    subst e
    exact DQ.dp K x.ex _ _ r
  | ref n =>
    have e0 := e
    simp only [datOf] at e
    split at e
    · simp only [Option.map_eq_some_iff] at e
      obtain ⟨ds, h5, rfl⟩ := e
      obtain ⟨a, vs, rfl, h1, h2⟩ := datOf_list x r e0
      exact .lst (SqL.of h1) (h2.dp K x.ex)
    · cases e
  | clo g c => cases e
  | scr ns => cases e
end
mutual
theorem DQ.plain {F : Hp} : ∀ (d : PyData) (v : V), DQ F v d → d.plain = true
  | .none, _, _ => by rfl
  | .bool b, _, _ => by rfl
  | .int b, _, _ => by rfl
  | .str b, _, _ => by rfl
  | .list l, _, h => by
    cases h with
    | lst a b => simp only [PyData.plain]; exact DQs.plain l _ b
  | .tuple l, _, h => by
    cases h with
    | tup a b => simp only [PyData.plain]; exact DQs.plain l _ b
  | .dict l, _, h => by cases h
theorem DQs.plain {F : Hp} : ∀ (d : List PyData) (v : List V), DQs F v d → PyData.plainAll d = true
  | [], _, _ => by rfl
  | d :: ds, _, h => by
    cases h with
    | cons a b => simp only [PyData.plainAll]; rw [DQ.plain d _ a, DQs.plain ds _ b]; rfl
end
theorem datOf_plain {F Hq : Hp} {ρ : List Addr} {h : H} (x : At F ρ h Hq) {d : D} {v : V} {p : PyData} (r : DV F ρ d v) (e : datOf h d = some p) : p.plain = true := by
  cases d with
  | dat q =>
    simp only [datOf, Option.some.injEq] at e
    subst e
    exact DQ.plain _ _ r
  | ref n =>
    have e0 := e
    simp only [datOf] at e
    split at e
    · simp only [Option.map_eq_some_iff] at e
      obtain ⟨ds, h5, rfl⟩ := e
      obtain ⟨a, vs, rfl, h1, h2⟩ := datOf_list x r e0
      simp only [PyData.plain]
      exact DQs.plain _ _ h2
    · cases e
  | clo g c => cases e
  | scr ns => cases e
theorem pow64 : (2 : Nat) ^ 64 = 18446744073709551616 := by decide
theorem mulOk_ok {i j : Int} (h : mulOk i j = true) : IntMulOk i j := by
  unfold mulOk at h
  simp only [Bool.or_eq_true, Bool.and_eq_true, decide_eq_true_eq] at h
  rcases h with (h | h) | ⟨h1, h2⟩
  · exact .of_left (intBits_le_64 (by rw [pow64] at h; omega) (by rw [pow64] at h; omega))
  · exact .of_right (intBits_le_64 (by rw [pow64] at h; omega) (by rw [pow64] at h; omega))
  · exact (mulw_of h1 h2).ok
where mulw_of {i j : Int} (h1 : i.natAbs < 2 ^ 4000) (h2 : j.natAbs < 2 ^ 4000) : CMulW i j := wide_mul h1 h2 (by omega) (by omega) (by omega)
theorem divOk_ok {j : Int} (h : divOk j = true) : CDivW 0 j := by
  unfold divOk at h
  simp only [Bool.and_eq_true, decide_eq_true_eq] at h
  exact wide_div h.1 h.2 (by omega) (by omega)
/-- once, or nothing to repeat: the tuple itself -/
theorem tup_mul1 (l : Addr) (its : Array Value) (n : Nat) (dd : Option Addr) (sl : Array (Option Value)) (k : Int) (u : Tok) (hk : k < 1000) (hk2 : -1000 ≤ k) (hs : (its.isEmpty || k == 1) = true) :
    Meets (Builtin.«tuple.__mul__» ⟨[.ref l, .int k u], []⟩) (fun _ R s => s.heap.get? l = some { cls := .type "tuple", dict := dd, data := .seq its n, slots := sl } ∧ R (.ok (.ret (.ref l))) s) :=
  .of_wp fun prog w A R s hh => by
    obtain ⟨hp, g, d, tk, os⟩ := s
    obtain ⟨hl, hr⟩ := hh
    have fi := AutoSeq1.idx_int
    have z0 : (decide (k < -(2 ^ 63)) || decide (k ≥ 2 ^ 63)) = false := by
      rw [decide_eq_false (by omega), decide_eq_false (by omega)] <;> rfl
    wp_walk using wpAny_loadPart' hl
    refine wpAny_ite_false (decide_eq_false (by rw [z0]; exact Bool.false_ne_true)) ?_
    wp_walk using wpAny_loadPart' hl
    exact ⟨_, rfl, hr⟩
/-- not once -/
theorem tup_mul0 (l : Addr) (its : Array Value) (n : Nat) (dd : Option Addr) (sl : Array (Option Value)) (k : Int) (u : Tok) (hk : k ≤ 0) (hk2 : -1000 ≤ k) (hs : (its.isEmpty || k == 1) = false) :
    Meets (Builtin.«tuple.__mul__» ⟨[.ref l, .int k u], []⟩) (fun _ R s => s.heap.get? l = some { cls := .type "tuple", dict := dd, data := .seq its n, slots := sl } ∧
      R (.ok (.ret (.ref s.heap.objs.size))) { s with heap := s.heap.push { cls := Value.type "tuple", data := Data.seq #[] } }) :=
  .of_wp fun prog w A R s hh => by
    obtain ⟨hp, g, d, tk, os⟩ := s
    obtain ⟨hl, hr⟩ := hh
    have fi := AutoSeq1.idx_int
    have z0 : (decide (k < -(2 ^ 63)) || decide (k ≥ 2 ^ 63)) = false := by
      rw [decide_eq_false (by omega), decide_eq_false (by omega)] <;> rfl
    have z2 : (decide (k ≤ 0) || its.isEmpty) = true := by rw [decide_eq_true hk]; rfl
    wp_walk using wpAny_loadPart' hl
    refine wpAny_ite_false (decide_eq_false (by rw [z0]; exact Bool.false_ne_true)) ?_
    wp_walk using wpAny_loadPart' hl
    exact ⟨_, rfl, hr⟩
section
variable {X : Cx}
def rRepA : R2 := fun x y H Q => ∃ l k xs, x = .ref l ∧ y = .int k ∧ H l = some (.tup xs) ∧ -1000 ≤ k ∧ k < 1000 ∧ xs.length ≤ 1000 ∧
  ((List.replicate k.toNat xs).flatten = xs → Q (.ref l) H) ∧ (∀ p, H p = none → Q (.ref p) (upd H p (.tup (List.replicate k.toNat xs).flatten)))
theorem op_repAny : OpR X (binaryOp .Mult) rRepA := by
  intro pins s σ Hq x y v u Q I rx ry hq
  obtain ⟨l, k, xs, rfl, rfl, hT, h1, h2, hz, qs, qn⟩ := hq
  by_cases c : xs = [] ∨ k ≤ 1
  · cases rx
    obtain ⟨t, rfl⟩ := ry
    obtain ⟨its, r, ⟨⟨cls, dd, data, sl⟩, ho, hc, n, hd⟩, hs⟩ := I.tuple (SqT.of hT)
    simp only at hc hd
    subst hc hd
    have hle : its.length = xs.length := r.length.symm
    have em : its.toArray.isEmpty = xs.isEmpty := by
      cases r <;> rfl
    have hn : PySem.fillsNumberSlot (.type "int") "mul" = pure true := F.fills_int_mul
    by_cases c1 : (its.toArray.isEmpty || k == 1) = true
    · have eq : (List.replicate k.toNat xs).flatten = xs := by
        rw [em, Bool.or_eq_true] at c1
        rcases c1 with e | e
        · rw [List.isEmpty_iff.mp e]; simp
        · rw [beq_iff_eq.mp e]; simp
      exact wpAny_binaryOp_repeat_ref (T := "tuple") (U := "int") (by decide) ⟨_, ho, rfl⟩ (fun s' => typeIs_int s' k t) noFill_tuple_mul hn F.slot_int_rmul repeat_tuple F.slot_int_index.lookup
        (call_meets F.slot_int_rmul (typeIs_int s k t) F.entry_int_rmul (F.args_int_rmul_2 _ _) (int_rmul_tuple k t l its.toArray n dd sl)
          ⟨ho, rfl, ⟨_, ho, rfl⟩, call_meets F.slot_tuple_mul ⟨_, ho, rfl⟩ F.entry_tuple_mul (F.args_tuple_mul_2 _ _) (tup_mul1 l its.toArray n dd sl k t h2 h1 c1) ⟨ho, ⟨.ref l, Hq, I, rfl, qs eq⟩⟩⟩)
    · have c2 : (its.toArray.isEmpty || k == 1) = false := by simpa using c1
      have hk : k ≤ 0 := by
        rw [Bool.or_eq_false_iff] at c2
        have n1 : k ≠ 1 := by simpa using c2.2
        have n2 : xs ≠ [] := fun e => by rw [em, e] at c2; simp at c2
        rcases c with e | e
        · exact absurd e n2
        · omega
      have ez : k.toNat = 0 := by omega
      rw [ez] at qn
      refine wpAny_binaryOp_repeat_ref (T := "tuple") (U := "int") (by decide) ⟨_, ho, rfl⟩ (fun s' => typeIs_int s' k t) noFill_tuple_mul hn F.slot_int_rmul repeat_tuple F.slot_int_index.lookup
        (call_meets F.slot_int_rmul (typeIs_int s k t) F.entry_int_rmul (F.args_int_rmul_2 _ _) (int_rmul_tuple k t l its.toArray n dd sl)
          ⟨ho, rfl, ⟨_, ho, rfl⟩, call_meets F.slot_tuple_mul ⟨_, ho, rfl⟩ F.entry_tuple_mul (F.args_tuple_mul_2 _ _) (tup_mul0 l its.toArray n dd sl k t hk h1 c2) ⟨ho, ?_⟩⟩)
      refine ⟨.ref s.heap.objs.size, _, I.laid (t' := s.toks) (o := .tup []) (fun b ob q => Heap.get?_push_of_some _ q) (Nat.le_refl _) ?_, rfl, qn _ (I.hok.fresh (Nat.le_refl _))⟩
      exact ⟨by decide, [], .nil, IsTup.new _ _⟩
  · exact op_repT pins s σ Hq _ _ v u Q I rx ry ⟨l, k, xs, rfl, rfl, SqT.of hT, fun e => c (.inl e), by omega, by omega, hz, qn⟩
end
section
variable {X : Cx}
def rBin (o : Bin) : R2 := fun x y Hq Q => ∃ F ρ h a b d, At F ρ h Hq ∧ DV F ρ a x ∧ DV F ρ b y ∧ binop h o a b = some d ∧ Ret F ρ Hq d h Q
theorem op_bin (o : Bin) : OpR X (binaryOp (opOf o)) (rBin o) := by
  intro pins s σ Hq x y v u Q I rx ry q
  obtain ⟨F, ρ, h, a, b, d, at_, ra, rb, e, ret⟩ := q
  unfold binop at e
  split at e
  · cases ra; cases rb; cases e
    exact op_add pins s σ Hq _ _ v u Q I rx ry ⟨_, _, rfl, rfl, ret.go at_ (.int _)⟩
  · cases ra; cases rb
    split at e <;> cases e
    exact op_add_str pins s σ Hq _ _ v u Q I rx ry ⟨_, _, rfl, rfl, by assumption, ret.go at_ (.str _)⟩
  · split at e <;> cases e
    rename_i hz
    cases ra with
    | tup a1 a2 =>
      cases rb with
      | tup b1 b2 =>
        have la := a2.len
        have lb := b2.len
        refine op_catA pins s σ Hq _ _ v u Q I rx ry ⟨_, _, _, _, rfl, rfl, SqT.of (at_.ex _ _ a1), SqT.of (at_.ex _ _ b1), by omega, fun e => ?_, fun _ e => ?_, fun _ _ => ret.tup at_ (a2.append b2)⟩
        · subst e
          cases a2
          exact ret.go at_ (.tup b1 b2)
        · subst e
          cases b2
          rw [List.append_nil] at ret
          exact ret.go at_ (.tup a1 a2)
  · split at e
    · rename_i h1 h2
      split at e <;> cases e
      rename_i hz
      obtain ⟨p, vs, rfl, g1, g2⟩ := datOf_list at_ ra h1
      obtain ⟨p', vs', rfl, g1', g2'⟩ := datOf_list at_ rb h2
      have la := g2.len
      have lb := g2'.len
      exact op_cat pins s σ Hq _ _ v u Q I rx ry ⟨_, _, _, _, rfl, rfl, g1, g1', by omega, ret.lst at_ (g2.append g2')⟩
    · cases e
  · cases ra; cases rb; cases e
    exact op_sub pins s σ Hq _ _ v u Q I rx ry ⟨_, _, rfl, rfl, ret.go at_ (.int _)⟩
  · cases ra; cases rb
    split at e <;> cases e
    rename_i hz
    exact opI (C := IntMulOk) (g := fun i j => i * j) (fun _ _ _ _ _ _ _ hc q => mul_int q hc) pins s σ Hq _ _ v u Q I rx ry ⟨_, _, rfl, rfl, mulOk_ok hz, ret.go at_ (.int _)⟩
  · split at e <;> cases e
    rename_i hz
    cases rb
    cases ra with
    | tup a1 a2 =>
      have la := a2.len
      refine op_repAny pins s σ Hq _ _ v u Q I rx ry ⟨_, _, _, rfl, rfl, at_.ex _ _ a1, hz.1, hz.2.1, by omega, fun eq => ?_, ret.tup at_ (a2.rep _)⟩
      refine ret.go at_ (.tup a1 ?_)
      have r := a2.rep (Int.toNat ‹Int›)
      rw [eq] at r
      exact r
  · cases ra; cases rb
    split at e <;> cases e
    rename_i hz
    exact op_fdivW pins s σ Hq _ _ v u Q I rx ry ⟨_, _, rfl, rfl, divOk_ok hz, ret.go at_ (.int _)⟩
  · cases ra; cases rb
    split at e <;> cases e
    rename_i hz
    exact op_mod pins s σ Hq _ _ v u Q I rx ry ⟨_, _, rfl, rfl, hz, ret.go at_ (.int _)⟩
  · cases ra; cases rb
    split at e <;> cases e
    rename_i hz
    simp only [Bool.and_eq_true, decide_eq_true_eq] at hz
    exact op_pow pins s σ Hq _ _ v u Q I rx ry ⟨_, _, rfl, rfl, ⟨hz.1.1, hz.1.2, hz.2⟩, ret.go at_ (.int _)⟩
  · cases e

/-- in place: what does not change -/
def rIpB (o : Bin) : TIp := fun x y Hq Q => ∃ F ρ h i j d, At F ρ h Hq ∧ DV F ρ (.int i) x ∧ DV F ρ (.int j) y ∧ binop h o (.int i) (.int j) = some d ∧ (o = .add ∨ o = .sub) ∧ Ret F ρ Hq d h Q
theorem ip_bin (o : Bin) : PIp X (opOf o) (rIpB o) := by
  intro pins s σ Hq x y v u Q I rx ry q
  obtain ⟨F, ρ, h, i, j, d, at_, ra, rb, e, ho, ret⟩ := q
  rcases ho with rfl | rfl
  · cases e; cases ra; cases rb
    exact ip_add pins s σ Hq _ _ v u Q I rx ry ⟨_, _, rfl, rfl, ret.go at_ (.int _)⟩
  · cases e; cases ra; cases rb
    exact ip_sub pins s σ Hq _ _ v u Q I rx ry ⟨_, _, rfl, rfl, ret.go at_ (.int _)⟩

/-! ### comparisons -/
def rCmp (o : Cmp) : R2 := fun x y Hq Q => ∃ F ρ h a b t, At F ρ h Hq ∧ DV F ρ a x ∧ DV F ρ b y ∧ cmpop h o a b = some t ∧ Ret F ρ Hq (.bl t) h Q
theorem op_eqd {k : Nat} (hr : Room k X.A) : OpR X (compareOp .Eq) (fun x y Hq Q => ∃ F ρ h a b p q t, At F ρ h Hq ∧ DV F ρ a x ∧ DV F ρ b y ∧ datOf h a = some p ∧ datOf h b = some q ∧ eqD p q = some t ∧ Q (.bl t) Hq) := by
  intro pins s σ Hq x y v u Q I rx ry ⟨F, ρ, h, a, b, p, q, t, at_, ra, rb, ea, eb, e, w⟩
  obtain ⟨as, r1⟩ := Dp.reads I p x v (datOf_dp X.K at_ ra ea) rx
  obtain ⟨bs, r2⟩ := Dp.reads I q y u (datOf_dp X.K at_ rb eb) ry
  have p1 := datOf_plain at_ ra ea
  have p2 := datOf_plain at_ rb eb
  have hu := hr.units
  unfold eqD at e
  split at e
  · cases e
    cases r1; cases r2
    exact eq_int (by rw [Bool.beq_eq_decide_eq]; exact ⟨.bl _, Hq, I, rfl, w⟩)
  · split at e <;> cases e
    exact PySem.SeqAt.eq_plain r1 r2 p1 p2 (by omega) ⟨.bl _, Hq, I, rfl, w⟩
theorem op_ned {k : Nat} (hr : Room k X.A) : OpR X (compareOp .NotEq) (fun x y Hq Q => ∃ F ρ h a b p q t, At F ρ h Hq ∧ DV F ρ a x ∧ DV F ρ b y ∧ datOf h a = some p ∧ datOf h b = some q ∧ eqD p q = some t ∧ Q (.bl (!t)) Hq) := by
  intro pins s σ Hq x y v u Q I rx ry ⟨F, ρ, h, a, b, p, q, t, at_, ra, rb, ea, eb, e, w⟩
  obtain ⟨as, r1⟩ := Dp.reads I p x v (datOf_dp X.K at_ ra ea) rx
  obtain ⟨bs, r2⟩ := Dp.reads I q y u (datOf_dp X.K at_ rb eb) ry
  have p1 := datOf_plain at_ ra ea
  have p2 := datOf_plain at_ rb eb
  have hu := hr.units
  unfold eqD at e
  split at e
  · cases e
    cases r1; cases r2
    exact ne_int (by rw [bne, Bool.beq_eq_decide_eq]; exact ⟨.bl _, Hq, I, rfl, w⟩)
  · split at e <;> cases e
    exact PySem.SeqAt.ne_plain r1 r2 p1 p2 (by omega) ⟨.bl _, Hq, I, rfl, w⟩
theorem op_ind {k : Nat} (hr : Room k X.A) (neg : Bool) : OpR X (compareOp (if neg then .NotIn else .In)) (fun x y Hq Q => ∃ F ρ h a b t, At F ρ h Hq ∧ DV F ρ a x ∧ DV F ρ b y ∧ inOp h a b = some t ∧ Q (.bl (if neg then !t else t)) Hq) := by
  intro pins s σ Hq x y v u Q I rx ry ⟨F, ρ, h, a, b, t, at_, ra, rb, e, w⟩
  have hu := hr.un
  unfold inOp at e
  have fin : EP X pins σ Q (.bool (if neg then !t else t)) s := ⟨.bl _, Hq, I, rfl, w⟩
  split at e
  · rename_i p l hb
    split at e <;> cases e
    obtain ⟨as, r1⟩ := Dp.reads I p x v (datOf_dp X.K at_ ra rfl) rx
    obtain ⟨bs, r2⟩ := Dp.reads I _ y u (datOf_dp X.K at_ rb hb) ry
    have p1 := datOf_plain at_ ra rfl
    have p2 := datOf_plain at_ rb hb
    cases neg with
    | false => exact PySem.SeqAt.in_list_data r2 r1 p2 p1 (by omega) fin
    | true => exact PySem.SeqAt.notIn_list_data r2 r1 p2 p1 (by omega) fin
  · rename_i p l hb
    split at e <;> cases e
    obtain ⟨as, r1⟩ := Dp.reads I p x v (datOf_dp X.K at_ ra rfl) rx
    obtain ⟨bs, r2⟩ := Dp.reads I _ y u (datOf_dp X.K at_ rb hb) ry
    have p1 := datOf_plain at_ ra rfl
    have p2 := datOf_plain at_ rb hb
    cases neg with
    | false => exact PySem.SeqAt.in_tuple_data r2 r1 p2 p1 (by omega) fin
    | true => exact PySem.SeqAt.notIn_tuple_data r2 r1 p2 p1 (by omega) fin
  · cases e
theorem op_isd (neg : Bool) : OpR X (compareOp (if neg then .IsNot else .Is)) (fun x y Hq Q => ∃ F ρ h a b t, At F ρ h Hq ∧ DV F ρ a x ∧ DV F ρ b y ∧ isOp a b = some t ∧ Q (.bl (if neg then !t else t)) Hq) := by
  intro pins s σ Hq x y v u Q I rx ry ⟨F, ρ, h, a, b, t, at_, ra, rb, e, w⟩
  have nn : x ≠ .non → y = .non → t = false → wpAny (model X.prog X.w) X.A (compareOp (if neg then .IsNot else .Is) v u) (EP X pins σ Q) X.xe s := by
    intro hc hy ht
    subst ht
    have dx : decide (x = .non) = false := decide_eq_false hc
    cases neg with
    | false => exact op_isN pins s σ Hq x y v u Q I rx ry ⟨hy, by rw [dx]; exact w⟩
    | true => exact op_notN pins s σ Hq x y v u Q I rx ry ⟨hy, by rw [dx]; exact w⟩
  unfold isOp at e
  split at e <;> cases e
  · cases ra; cases rb
    cases neg with
    | false => exact op_isBl pins s σ Hq _ _ v u Q I rx ry ⟨_, _, rfl, rfl, w⟩
    | true => exact op_notBl pins s σ Hq _ _ v u Q I rx ry ⟨_, _, rfl, rfl, w⟩
  · cases ra; cases rb
    cases neg with
    | false => exact op_isN pins s σ Hq _ _ v u Q I rx ry ⟨rfl, w⟩
    | true => exact op_notN pins s σ Hq _ _ v u Q I rx ry ⟨rfl, w⟩
  · have hy : y = .non := by cases rb; rfl
    exact nn (by cases ra <;> exact fun z => nomatch z) hy rfl
  · have hy : y = .non := by cases rb; rfl
    exact nn (by cases ra <;> exact fun z => nomatch z) hy rfl
  · have hy : y = .non := by cases rb; rfl
    exact nn (by cases ra <;> exact fun z => nomatch z) hy rfl
  · have hy : y = .non := by cases rb; rfl
    exact nn (by cases ra <;> exact fun z => nomatch z) hy rfl
  · have hy : y = .non := by cases rb; rfl
    exact nn (by cases ra <;> exact fun z => nomatch z) hy rfl
  · have hy : y = .non := by cases rb; rfl
    obtain ⟨a, _, e⟩ := ra; exact nn (by rw [e]; exact fun z => nomatch z) hy rfl
theorem op_cmp {k : Nat} (hr : Room k X.A) (o : Cmp) : OpR X (compareOp (cmpOf o)) (rCmp o) := by
  intro pins s σ Hq x y v u Q I rx ry q
  obtain ⟨F, ρ, h, a, b, t, at_, ra, rb, e, ret⟩ := q
  have fin : ∀ t', t' = t → Q (.bl t') Hq := fun t' e => ret.go at_ (by rw [← e]; exact .bl _)
  cases o with
  | eq =>
    simp only [cmpop] at e
    split at e
    · exact op_eqd hr pins s σ Hq x y v u Q I rx ry ⟨F, ρ, h, a, b, _, _, t, at_, ra, rb, by assumption, by assumption, e, fin _ rfl⟩
    · cases e
  | ne =>
    simp only [cmpop] at e
    split at e
    · simp only [Option.map_eq_some_iff] at e
      obtain ⟨t', e1, e2⟩ := e
      exact op_ned hr pins s σ Hq x y v u Q I rx ry ⟨F, ρ, h, a, b, _, _, t', at_, ra, rb, by assumption, by assumption, e1, fin _ e2⟩
    · cases e
  | is => exact op_isd false pins s σ Hq x y v u Q I rx ry ⟨F, ρ, h, a, b, t, at_, ra, rb, e, fin _ rfl⟩
  | isnot =>
    simp only [cmpop, Option.map_eq_some_iff] at e
    obtain ⟨t', e1, e2⟩ := e
    exact op_isd true pins s σ Hq x y v u Q I rx ry ⟨F, ρ, h, a, b, t', at_, ra, rb, e1, fin _ e2⟩
  | «in» => exact op_ind hr false pins s σ Hq x y v u Q I rx ry ⟨F, ρ, h, a, b, t, at_, ra, rb, e, fin _ rfl⟩
  | notin =>
    simp only [cmpop, Option.map_eq_some_iff] at e
    obtain ⟨t', e1, e2⟩ := e
    exact op_ind hr true pins s σ Hq x y v u Q I rx ry ⟨F, ρ, h, a, b, t', at_, ra, rb, e1, fin _ e2⟩
  | lt =>
    simp only [cmpop] at e
    split at e <;> cases e
    cases ra; cases rb
    exact op_lt pins s σ Hq _ _ v u Q I rx ry ⟨_, _, rfl, rfl, fin _ rfl⟩
  | le =>
    simp only [cmpop] at e
    split at e <;> cases e
    cases ra; cases rb
    exact op_le pins s σ Hq _ _ v u Q I rx ry ⟨_, _, rfl, rfl, fin _ rfl⟩
  | gt =>
    simp only [cmpop] at e
    split at e <;> cases e
    cases ra; cases rb
    exact op_gt pins s σ Hq _ _ v u Q I rx ry ⟨_, _, rfl, rfl, fin _ rfl⟩
  | ge =>
    simp only [cmpop] at e
    split at e <;> cases e
    cases ra; cases rb
    exact op_ge pins s σ Hq _ _ v u Q I rx ry ⟨_, _, rfl, rfl, fin _ rfl⟩

/-! ### truth -/
def rTru : V → Hp → (Bool → Hp → Prop) → Prop := fun x Hq Q => ∃ F ρ h a t, At F ρ h Hq ∧ DV F ρ a x ∧ truthy h a = some t ∧ Q t Hq
theorem truV {F Hq : Hp} {ρ : List Addr} {h : H} {a : D} {x : V} {t : Bool} (at_ : At F ρ h Hq) (ra : DV F ρ a x) (e : truthy h a = some t) : TruV X.K x Hq t := by
  unfold truthy at e
  split at e
  · cases e; cases ra; rfl
  · cases e; cases ra; rfl
  · cases e; cases ra; rfl
  · cases e
    cases ra with
    | tup a1 a2 =>
      refine .inr (.inl ⟨_, SqT.of (at_.ex _ _ a1), ?_⟩)
      cases a2 <;> rfl
  · cases e
    cases ra with
    | lst a1 a2 =>
      refine .inl ⟨_, SqL.of (at_.ex _ _ a1), ?_⟩
      cases a2 <;> rfl
  · split at e <;> cases e
    cases ra
    refine ⟨by assumption, ?_⟩
    rename_i x _
    show (x.length != 0) = ((x.length : Int) != 0)
    cases hx : x.length with
    | zero => rfl
    | succ n =>
      have e1 : ((n + 1 : Nat) != 0) = true := by simp
      have e2 : (((n + 1 : Nat) : Int) != 0) = true := by simp; omega
      rw [e1, e2]
  · obtain ⟨p, h1, rfl⟩ := ra
    split at e
    · rename_i l hl
      cases e
      obtain ⟨p', h2, q⟩ := at_.have_ hl
      rw [h1] at h2; cases h2
      obtain ⟨_, vs, h3, h4⟩ := q
      refine .inl ⟨vs, SqL.of h3, ?_⟩
      cases h4 <;> rfl
    · rename_i l hl
      obtain ⟨p', h2, q⟩ := at_.have_ hl
      exact False.elim q
    · cases e
  · cases e
theorem tru_z : TruR X rTru := by
  intro pins s σ Hq x v Q I rx ⟨F, ρ, h, a, t, at_, ra, e, q⟩
  exact tru_ok pins s σ Hq x v Q I rx ⟨t, truV at_ ra e, q⟩

/-! ### places, slices -/
theorem nthI_at {α : Type} {l : List α} {i : Int} {x : α} (e : nthI l i = some x) : atI l i = some x := by
  unfold nthI at e
  split at e
  · rename_i j
    have hj := (List.getElem?_eq_some_iff.mp e).1
    unfold atI ixN
    have h1 : (0 : Int) ≤ Int.ofNat j := by simp
    have h2 : Int.ofNat j < (l.length : Int) := by simpa using hj
    rw [if_pos h1, if_pos h2]
    simpa using e
  · rename_i j
    split at e
    · rename_i hj
      unfold atI ixN
      have h1 : ¬ (0 : Int) ≤ Int.negSucc j := by omega
      have h2 : -(l.length : Int) ≤ Int.negSucc j := by omega
      rw [if_neg h1, if_pos h2]
      have h3 : (Int.negSucc j + (l.length : Int)).toNat = l.length - 1 - j := by omega
      simp only [Option.bind_some, h3]
      exact e
    · cases e
theorem at_len {α β : Type} {l : List α} {m : List β} {i : Int} {x : α} (hl : l.length = m.length) (e : atI l i = some x) : ∃ j : Nat, l[j]? = some x ∧ ∀ y, m[j]? = some y → atI m i = some y := by
  unfold atI at e
  obtain ⟨j, e1, e2⟩ := Option.bind_eq_some_iff.mp e
  refine ⟨j, e2, fun y hy => ?_⟩
  unfold atI
  rw [← hl, e1]
  exact hy
def rIdx : R2 := fun x y Hq Q => ∃ F ρ h a b d, At F ρ h Hq ∧ DV F ρ a x ∧ DV F ρ b y ∧ indexD h a b = some d ∧ Ret F ρ Hq d h Q
theorem ix_z : IxR X rIdx := by
  intro value slice pins s σ Hq x y v u Q I rx ry ⟨F, ρ, h, a, b, d, at_, ra, rb, e, ret⟩ hs
  unfold indexD at e
  split at e
  · rename_i i
    split at e
    · rename_i l
      simp only [Option.map_eq_some_iff] at e
      obtain ⟨p, e1, rfl⟩ := e
      cases rb
      cases ra with
      | tup a1 a2 =>
        obtain ⟨j, e2, e3⟩ := at_len a2.len.symm (nthI_at e1)
        obtain ⟨w, e4, e5⟩ := a2.get e2
        exact ix_tup value slice pins s σ Hq _ _ v u Q I rx ry ⟨_, _, _, w, rfl, rfl, SqT.of (at_.ex _ _ a1), e3 w e4, ret.go at_ e5⟩ hs
    · rename_i l
      simp only [Option.map_eq_some_iff] at e
      obtain ⟨p, e1, rfl⟩ := e
      cases rb
      cases ra with
      | lst a1 a2 =>
        obtain ⟨j, e2, e3⟩ := at_len a2.len.symm (nthI_at e1)
        obtain ⟨w, e4, e5⟩ := a2.get e2
        exact ix_list value slice pins s σ Hq _ _ v u Q I rx ry ⟨_, _, _, w, rfl, rfl, SqL.of (at_.ex _ _ a1), e3 w e4, ret.go at_ e5⟩ hs
    · rename_i n
      split at e
      · rename_i l hl
        cases rb
        obtain ⟨p, h1, rfl⟩ := ra
        obtain ⟨p', h2, q⟩ := at_.have_ hl
        rw [h1] at h2; cases h2
        obtain ⟨_, vs, h3, h4⟩ := q
        obtain ⟨j, e2, e3⟩ := at_len h4.len (nthI_at e)
        obtain ⟨w, e4, e5⟩ := h4.get e2
        exact ix_list value slice pins s σ Hq _ _ v u Q I rx ry ⟨_, _, _, w, rfl, rfl, SqL.of h3, e3 w e4, ret.go at_ e5⟩ hs
      · cases e
    · cases e
  · cases e
def rSlc : V → Option Int → Option Int → Hp → VK → Prop := fun x lo hi Hq Q => ∃ F ρ h a d, At F ρ h Hq ∧ DV F ρ a x ∧ sliceD h a lo hi = some d ∧ Ret F ρ Hq d h Q
theorem cut_dq {F : Hp} {vs : List V} {l : List PyData} (r : DQs F vs l) (lo hi : Option Int) : DQs F (cutV vs lo hi) (cut l lo hi) := by
  unfold cutV cut
  rw [r.len]
  exact (r.drop _).take _
theorem cut_all {α : Type} {l : List α} {lo hi : Option Int} (e : HT.sIx l.length 0 lo = 0 ∧ HT.sIx l.length l.length hi = l.length) : cut l lo hi = l := by
  unfold cut
  rw [e.1, e.2]
  simp
theorem sl_z : SlR X rSlc := by
  intro pins s σ Hq x v vl vu lo hi sl Q I rx hs pl pu ⟨F, ρ, h, a, d, at_, ra, e, ret⟩
  unfold sliceD at e
  split at e
  · cases e
    cases ra with
    | tup a1 a2 =>
      have hl := a2.len
      refine sl_tupA pins s σ Hq _ v vl vu lo hi sl Q I rx hs pl pu ⟨_, _, rfl, SqT.of (at_.ex _ _ a1), fun c => ?_, fun _ => ret.tup at_ (cut_dq a2 lo hi)⟩
      rw [hl] at c
      rw [cut_all c] at ret
      exact ret.go at_ (.tup a1 a2)
  · split at e
    · cases e
      rename_i l hl
      obtain ⟨p, vs, rfl, h1, h2⟩ := datOf_list at_ ra hl
      exact sl_list pins s σ Hq _ v vl vu lo hi sl Q I rx hs pl pu ⟨_, _, rfl, SqL.of h1, ret.lst at_ (cut_dq h2 lo hi)⟩
    · cases e
end
end Z

/-! Z4: built-in functions by values. -/
namespace Z
open PySem PySem.Spec PyProof.Rows L2
variable [KF]
section
variable {prog : Program} {w : World} {A : Around} {E : Value → Shared → Prop} {s : Shared} {t : Addr} {its : List Value} {ns : List Int} {Q : Value → Shared → Prop}
theorem sum_tupR (hh : A.handled = none) (ht : IsTup s.heap t its.toArray) (hi : IntsAre its ns)
    (h : ∀ h' tk t', (∀ b o, s.heap.get? b = some o → h'.get? b = some o) → Q (.int ns.sum t') { s with heap := h', toks := tk }) : wpAny (model prog w) A (call (.builtin "sum") [.ref t]) Q E s := by
  obtain ⟨xs, e⟩ := hi.allInts.items
  have hn : numsOf (intItems xs).toList = ns := by rw [← e]; exact hi.numsOf
  rw [nums_intItems] at hn
  rw [e] at ht
  have ht' : s.heap.IsTuple t (intItems xs) := ht
  have hlt : t < s.heap.objs.size := ht.lt
  refine PySem.call_sum_walkG (wpAny_pyIter_tuple ht' ⟨_, _, _, _, _, _, numAt xs, rfl, Walks.tuple (A := A.in1) hh s.heap.objs.size t (Nat.ne_of_lt hlt) (intItems xs), ⟨⟨_, Heap.get?_push_size _ rfl, rfl, rfl⟩, ?_⟩, fun b hb => ?_, fun _ _ => intItems_at, fun h' tk t' hk => ?_⟩)
  · obtain ⟨o, e1, e2, n, e3⟩ := ht
    exact ⟨o, Heap.get?_push_of_some _ e1, e2, n, e3⟩
  · rw [Heap.size_push]
    simp at hb
    rcases hb with rfl | rfl
    · exact Nat.lt_succ_self _
    · exact Nat.lt_succ_of_lt hlt
  · have := h h' tk t' fun b o q => hk b o (by simp; exact Nat.ne_of_lt (Heap.lt_size q)) (Heap.get?_push_of_some _ q)
    rw [← hn] at this
    rw [preSum_eq, List.take_of_length_le (by simp [intItems])]
    exact this
end
section
variable {X : Cx}
theorem vals_ints_of {ns : List Int} {its : List Value} (r : Vals (ns.map V.int) its) : IntsAre its ns := intsAre_of r
def bltV : Blt → Value
  | .len => .builtin "len" | .sum => .builtin "sum" | .all => .builtin "all" | .any => .builtin "any" | .tuple => .type "tuple" | .list => .type "list" | .int => .type "int"
  | .max2 => .builtin "max" | .min2 => .builtin "min" | .abs => .builtin "abs"
def rBlt (b : Blt) : List V → Hp → VK → Prop := fun xs Hq Q => ∃ F ρ h ds d, At F ρ h Hq ∧ DVs F ρ ds xs ∧ bltD h b ds = some d ∧ Ret F ρ Hq d h Q
theorem one_of {F : Hp} {ρ : List Addr} {d : D} {xs : List V} (r : DVs F ρ [d] xs) : ∃ x, xs = [x] ∧ DV F ρ d x := by
  cases r with
  | cons a t => cases t; exact ⟨_, rfl, a⟩
theorem two_of {F : Hp} {ρ : List Addr} {d e : D} {xs : List V} (r : DVs F ρ [d, e] xs) : ∃ x y, xs = [x, y] ∧ DV F ρ d x ∧ DV F ρ e y := by
  cases r with
  | cons a t =>
    obtain ⟨y, rfl, b⟩ := one_of t
    exact ⟨_, _, rfl, a, b⟩
theorem blt_z (hk : X.K = KF.K) (hc : X.calm = true) (b : Blt) : CallR X (bltV b) (rBlt b) := by
  intro pins s σ Hq xs us Q I rx ⟨F, ρ, h, ds, d, at_, ra, e, ret⟩
  unfold bltD at e
  split at e
  · -- len
    obtain ⟨x, rfl, r⟩ := one_of ra
    split at e
    · cases e
      cases r with
      | tup a1 a2 =>
        rw [← a2.len] at ret
        exact call_len_seq pins s σ Hq _ us Q I rx ⟨_, _, rfl, .inr (SqT.of (at_.ex _ _ a1)), ret.go at_ (.int _)⟩
    · cases e
      cases r with
      | lst a1 a2 =>
        rw [← a2.len] at ret
        exact call_len_seq pins s σ Hq _ us Q I rx ⟨_, _, rfl, .inl (SqL.of (at_.ex _ _ a1)), ret.go at_ (.int _)⟩
    · split at e <;> cases e
      cases r
      exact call_len_str pins s σ Hq _ us Q I rx ⟨_, rfl, by assumption, ret.go at_ (.int _)⟩
    · obtain ⟨p, h1, rfl⟩ := r
      split at e
      · rename_i l hl
        cases e
        obtain ⟨p', h2, q⟩ := at_.have_ hl
        rw [h1] at h2; cases h2
        obtain ⟨_, vs, h3, h4⟩ := q
        rw [h4.len] at ret
        exact call_len_seq pins s σ Hq _ us Q I rx ⟨_, _, rfl, .inl (SqL.of h3), ret.go at_ (.int _)⟩
      · rename_i l hl
        obtain ⟨p', h2, q⟩ := at_.have_ hl
        exact False.elim q
      · cases e
    · cases e
  · -- sum
    obtain ⟨x, rfl, r⟩ := one_of ra
    split at e
    · rename_i l hl
      obtain ⟨p, vs, rfl, h1, h2⟩ := datOf_list at_ r hl
      simp only [Option.map_eq_some_iff] at e
      obtain ⟨ns, h3, rfl⟩ := e
      have hv := h2.ints h3
      subst hv
      exact cr_sum hc pins s σ Hq _ us Q I rx ⟨_, _, rfl, SqL.of h1, ret.go at_ (.int _)⟩
    · rename_i l hl
      obtain ⟨p, vs, rfl, h1, h2⟩ := datOf_tuple at_ r hl
      simp only [Option.map_eq_some_iff] at e
      obtain ⟨ns, h3, rfl⟩ := e
      have hv := h2.ints h3
      subst hv
      obtain ⟨its, rv, ht, _⟩ := I.tuple (SqT.of (at_.ex _ _ h1))
      obtain ⟨u, rfl, e2⟩ := rx.one
      cases e2
      exact sum_tupR (I.ok.hd hc) ht (vals_ints_of rv) fun h' tk t' hk => ⟨.int _, Hq, I.kept hk, ⟨_, rfl⟩, ret.go at_ (.int _)⟩
    · cases e
  · -- all
    obtain ⟨x, rfl, r⟩ := one_of ra
    split at e
    · rename_i l hl
      obtain ⟨p, vs, rfl, h1, h2⟩ := datOf_list at_ r hl
      simp only [Option.map_eq_some_iff] at e
      obtain ⟨ns, h3, rfl⟩ := e
      have hv := h2.bools h3
      subst hv
      exact cr_all hc pins s σ Hq _ us Q I rx ⟨_, _, rfl, SqL.of h1, ret.go at_ (.bl _)⟩
    · cases e
  · -- any
    obtain ⟨x, rfl, r⟩ := one_of ra
    split at e
    · rename_i l hl
      obtain ⟨p, vs, rfl, h1, h2⟩ := datOf_list at_ r hl
      simp only [Option.map_eq_some_iff] at e
      obtain ⟨ns, h3, rfl⟩ := e
      have hv := h2.bools h3
      subst hv
      exact cr_any hc pins s σ Hq _ us Q I rx ⟨_, _, rfl, SqL.of h1, ret.go at_ (.bl _)⟩
    · cases e
  · -- tuple
    obtain ⟨x, rfl, r⟩ := one_of ra
    split at e
    · rename_i l hl
      cases e
      obtain ⟨p, vs, rfl, h1, h2⟩ := datOf_list at_ r hl
      exact call_tuple_of pins s σ Hq _ us Q I rx ⟨_, _, rfl, .inl ⟨SqL.of h1, ret.tup at_ h2⟩⟩
    · rename_i l hl
      cases e
      obtain ⟨p, vs, rfl, h1, h2⟩ := datOf_tuple at_ r hl
      exact call_tuple_of pins s σ Hq _ us Q I rx ⟨_, _, rfl, .inr ⟨SqT.of (at_.ex _ _ h1), ret.go at_ (.tup h1 h2)⟩⟩
    · cases e
  · -- the script
    cases e
    obtain ⟨x, rfl, r⟩ := one_of ra
    obtain ⟨p, rfl, hq⟩ := r
    rw [← hk] at hq
    exact call_list_of pins s σ Hq _ us Q I rx ⟨_, _, rfl, .inl (hq.imp (fun r => r.imp (at_.ex _ _) fun ⟨o, z⟩ => ⟨o, at_.ex _ _ z⟩) id), ret.lst at_ (DQs.of_ints _)⟩
  · -- list
    obtain ⟨x, rfl, r⟩ := one_of ra
    split at e
    · rename_i l hl
      cases e
      obtain ⟨p, vs, rfl, h1, h2⟩ := datOf_list at_ r hl
      exact call_list_of pins s σ Hq _ us Q I rx ⟨_, _, rfl, .inl (SqL.of h1), ret.lst at_ h2⟩
    · rename_i l hl
      cases e
      obtain ⟨p, vs, rfl, h1, h2⟩ := datOf_tuple at_ r hl
      exact call_list_of pins s σ Hq _ us Q I rx ⟨_, _, rfl, .inr (SqT.of (at_.ex _ _ h1)), ret.lst at_ h2⟩
    · cases e
  · -- int
    cases e
    obtain ⟨x, rfl, r⟩ := one_of ra
    cases r
    exact call_int1 pins s σ Hq _ us Q I rx (.inl ⟨_, rfl, ret.go at_ (.int _)⟩)
  · cases e
    obtain ⟨x, y, rfl, r, r'⟩ := two_of ra
    cases r; cases r'
    exact call_max2 hc pins s σ Hq _ us Q I rx ⟨_, _, rfl, ret.go at_ (.int _)⟩
  · cases e
    obtain ⟨x, y, rfl, r, r'⟩ := two_of ra
    cases r; cases r'
    exact call_min2 hc pins s σ Hq _ us Q I rx ⟨_, _, rfl, ret.go at_ (.int _)⟩
  · cases e
    obtain ⟨x, rfl, r⟩ := one_of ra
    cases r
    exact call_abs pins s σ Hq _ us Q I rx ⟨_, rfl, ret.go at_ (.int _)⟩
  · cases e

/-! ### isinstance -/
def tyName : Ty → String
  | .int => "int" | .bool => "bool" | .str => "str" | .tuple => "tuple" | .list => "list" | .dict => "dict"
def tyD : PyData → String
  | .none => "NoneType" | .bool _ => "bool" | .int _ => "int" | .str _ => "str" | .list _ => "list" | .tuple _ => "tuple" | .dict _ => "dict"
theorem tyx {F Hq : Hp} {ρ : List Addr} {h : H} {d : D} {x : V} {t : Ty} {b : Bool} {K : PySem.W.Frag} (at_ : At F ρ h Hq) (r : DV F ρ d x) (e : isTy t d h = some b) : ∃ n, TyX K Hq x (.type n) ∧ ∀ t' b', isTy t' d h = some b' → L2.kitB n (tyName t') = some b' := by
  have go : ∀ n, TyX K Hq x (.type n) → (∀ t' b', isTy t' d h = some b' → L2.kitB n (tyName t') = some b') → ∃ n, TyX K Hq x (.type n) ∧ ∀ t' b', isTy t' d h = some b' → L2.kitB n (tyName t') = some b' := fun n a b => ⟨n, a, b⟩
  cases d with
  | dat p =>
    cases p with
    | int i =>
      cases r
      refine go "int" (.base (.int i)) fun t' b' e' => ?_
      cases t' <;> (simp only [isTy] at e'; cases e'; decide +kernel)
    | bool i =>
      cases r
      refine go "bool" (.base (.bl i)) fun t' b' e' => ?_
      cases t' <;> (simp only [isTy] at e'; cases e'; decide +kernel)
    | str i =>
      cases r
      refine go "str" (.base (.str i)) fun t' b' e' => ?_
      cases t' <;> (simp only [isTy] at e'; cases e'; decide +kernel)
    | none =>
      cases r
      refine go "NoneType" (.base .non) fun t' b' e' => ?_
      cases t' <;> (simp only [isTy] at e'; cases e'; decide +kernel)
    | tuple l =>
      cases r with
      | tup a1 a2 =>
        refine go "tuple" (.base (.tup (at_.ex _ _ a1))) fun t' b' e' => ?_
        cases t' <;> (simp only [isTy] at e'; cases e'; decide +kernel)
    | list l =>
      cases r with
      | lst a1 a2 =>
        refine go "list" (.base (.lst (at_.ex _ _ a1))) fun t' b' e' => ?_
        cases t' <;> (simp only [isTy] at e'; cases e'; decide +kernel)
    | dict l => cases r
  | ref n =>
    obtain ⟨p, h1, rfl⟩ := r
    have e0 := e
    simp only [isTy] at e
    split at e
    · rename_i l hl
      obtain ⟨p', h2, q⟩ := at_.have_ hl
      rw [h1] at h2; cases h2
      obtain ⟨_, vs, h3, h4⟩ := q
      refine go "list" (.base (.lst h3)) fun t' b' e' => ?_
      simp only [isTy, hl] at e'
      cases t' <;> (cases e'; decide +kernel)
    · rename_i l hl
      obtain ⟨p', h2, q⟩ := at_.have_ hl
      exact False.elim q
    · cases e
  | clo g c => exact False.elim r
  | scr ns => simp [isTy] at e
theorem kit_tys {K : PySem.W.Frag} {n : String} {d : D} {h : H} (k : ∀ t' b', isTy t' d h = some b' → L2.kitB n (tyName t') = some b') : ∀ {ts : List Ty} {b : Bool}, isTys ts d h = some b → PySem.W.kitAny K (.type n) (ts.map fun t => .type (tyName t)) = some b
  | [], b, e => by cases e; rfl
  | t :: ts, b, e => by
    simp only [isTys] at e
    obtain ⟨c, e1, e2⟩ := Option.bind_eq_some_iff.mp e
    rw [List.map_cons]
    cases c with
    | true =>
      rw [if_pos rfl] at e2
      cases e2
      exact kitAny_cons (kit_ty (k _ _ e1)) (fun z => nomatch z) fun _ => rfl
    | false =>
      rw [if_neg Bool.false_ne_true] at e2
      exact kitAny_cons (kit_ty (k _ _ e1)) (fun _ => kit_tys k e2) fun z => nomatch z
end
/-! ### places stored, items put behind -/
section
variable {X : Cx}
def rApp : V → List V → Hp → VK → Prop := fun x xs Hq Q => ∃ F ρ h n l d, At F ρ h Hq ∧ DV F ρ (.ref n) x ∧ DVs F ρ [d] xs ∧ h[n]? = some (.lst l) ∧ l.length < sizeLine ∧ Ret F ρ Hq .non (h.set n (.lst (l ++ [d]))) Q
theorem mt_app : MtM X "list.append" rApp := by
  intro pins s σ Hq x xs v us Q I rx rs ⟨F, ρ, h, n, l, d, at_, r, r', e, hz, ret⟩
  obtain ⟨y, rfl, ry⟩ := one_of r'
  obtain ⟨a, h1, rfl⟩ := r
  obtain ⟨a', h2, q⟩ := at_.have_ e
  rw [h1] at h2; cases h2
  obtain ⟨hf, vs, h3, h4⟩ := q
  have hl := h4.len
  exact mt_append pins s σ Hq _ _ v us Q I rx rs ⟨_, _, _, rfl, rfl, h3, by omega, ret F ρ _ _ (Ext.refl _) (Step.put h1) (at_.put h1 hf (h4.append (.cons ry .nil))) .non⟩
def rSet : TSet := fun o i v Hq Q => ∃ F ρ h x y z h1, At F ρ h Hq ∧ DV F ρ x o ∧ DV F ρ y i ∧ DV F ρ z v ∧ setO h x y z = some h1 ∧ ∀ Hr, Step F F ρ ρ Hq Hr → At F ρ h1 Hr → Q Hr
theorem set_z : PSet X rSet := by
  intro pins s σ Hq o i v ov iv u Q I ro ri rv ⟨F, ρ, h, x, y, z, h1, at_, rx, ry, rz, e, q⟩
  unfold setO at e
  split at e
  · rename_i n k
    obtain ⟨a, e1, rfl⟩ := rx
    cases ry
    split at e
    · rename_i l z' hl
      split at e
      · rename_i j
        split at e <;> cases e
        rename_i hj
        obtain ⟨a', e2, q2⟩ := at_.have_ hl
        rw [e1] at e2; cases e2
        obtain ⟨hf, vs, h3, h4⟩ := q2
        have hn := h4.len
        refine set_list pins s σ Hq _ _ v ov iv u Q I ro ri rv ⟨_, vs, _, j, rfl, rfl, h3, ?_, q _ (Step.put e1) (at_.put e1 hf (DVs.set rz j h4))⟩
        unfold ixN
        rw [if_pos (by simp), if_pos (by simp; omega)]
        simp
      · cases e
    · cases e
  · cases e
end
end Z

/-! Z5: when a text is told by the small language. -/
namespace Z
open PySem PySem.Spec PyProof.Rows L2
variable [KF]
/-! ### forms -/
/-- no star, no slice, no set: it stands for a value wherever it is -/
def okForm : Expr → Bool
  | .Starred .. => false
  | .Slice .. => false
  | .Set .. => false
  | _ => true
theorem star_cons {e : Expr} (h : okForm e = true) (es : List Expr) (env : Env) : starEach (e :: es) env = (false, eval e env) :: starEach es env := by
  cases e <;> first | rfl | cases h
theorem star_any : ∀ {es : List Expr} (env : Env) (pos : Pos), (es.all okForm) = true → (backTo pos (starEach es env)).any (·.1) = false
  | [], _, _, _ => rfl
  | e :: es, env, pos, h => by
    simp only [List.all_cons, Bool.and_eq_true] at h
    rw [star_cons h.1]
    have ih := star_any env pos h.2
    unfold backTo at ih ⊢
    rw [List.map_cons, List.any_cons, ih]
    rfl
theorem plain_ix {e : Expr} (h : okForm e = true) : PlainIx e := fun o i => by
  cases e <;> first | rfl | cases h
theorem not_set {e : Expr} (h : okForm e = true) (env : Env) (x : Value) : foldedSetIterable e env x = pure x := by
  cases e <;> first | rfl | cases h
theorem behind {e : Expr} (h : okForm e = true) (o : CmpOp) : behindInMarks o e = false := by
  cases e <;> first | rfl | cases h

/-- keywords that name parameters which have no value yet -/
def kwFit (ps : List Str) : List Str → List Str → Bool
  | _, [] => true
  | have_, k :: r => ps.contains k && !have_.contains k && kwFit ps (have_ ++ [k]) r
theorem look_none {k : Str} : ∀ {l : List (Str × Value)}, (l.map (·.1)).contains k = false → l.lookup k = none
  | [], _ => rfl
  | (n, v) :: r, h => by
    simp only [List.map_cons, List.contains_cons, Bool.or_eq_false_iff] at h
    rw [List.lookup_cons, h.1]
    exact look_none h.2
theorem kw_loop {ps : List Str} (f : Str × Value → List (Str × Value) × List (Str × Value) → Sem (ForInStep (List (Str × Value) × List (Str × Value))))
    (hf : ∀ x st, ps.contains x.1 = true → (st.1.lookup x.1).isSome = false → f x st = pure (.yield (st.1 ++ [(x.1, x.2)], st.2))) :
    ∀ (kw sl ex : List (Str × Value)), kwFit ps (sl.map (·.1)) (kw.map (·.1)) = true → forIn kw (sl, ex) f = pure (sl ++ kw, ex)
  | [], sl, ex, _ => by rw [List.forIn_nil, List.append_nil]
  | x :: kw, sl, ex, h => by
    simp only [List.map_cons, kwFit, Bool.and_eq_true, Bool.not_eq_true'] at h
    obtain ⟨⟨h1, h2⟩, h3⟩ := h
    rw [List.forIn_cons, hf x (sl, ex) h1 (by rw [look_none h2]; rfl)]
    have ih := kw_loop f hf kw (sl ++ [x]) ex (by rw [List.map_append]; exact h3)
    rw [List.append_assoc] at ih
    exact ih
theorem zip_keys : ∀ (ps : List Str) (us : List Value), us.length ≤ ps.length → (ps.zip us).map (·.1) = ps.take us.length
  | [], us, h => by simp
  | p :: ps, [], h => by simp
  | p :: ps, u :: us, h => by
    simp only [List.zip_cons_cons, List.map_cons, List.length_cons, List.take_succ_cons]
    rw [zip_keys ps us (by simpa using h)]
theorem bind_kw {fd : FuncData} {ps : List Str} (h0 : fd.params.posonlyargs = []) (h1 : fd.params.args.map (·.arg) = ps) (h2 : fd.params.vararg = none) (h3 : fd.params.kwonlyargs = []) (h4 : fd.params.kwarg = none) (h5 : fd.defaults = .none)
    {us : List Value} {kw : List (Str × Value)} (hl : us.length ≤ ps.length) (hk : kwFit ps (ps.take us.length) (kw.map (·.1)) = true) (hall : (ps.all fun n => ((ps.zip us ++ kw).lookup n).isSome) = true) :
    bindArgs fd ⟨us, kw⟩ = pure (ps.filterMap fun n => ((ps.zip us ++ kw).lookup n).map (n, ·)) := by
  unfold bindArgs
  simp only [h0, h1, h2, h3, h4, h5, List.map_nil, List.nil_append, List.append_nil]
  rw [kw_loop (ps := ps) _ (fun x st a b => by
    rw [if_pos (by rw [a]; rfl), if_neg (by rw [b]; exact Bool.false_ne_true)]) kw (ps.zip us) [] (by rw [zip_keys ps us hl]; exact hk)]
  have e1 : (decide (us.length > ps.length) && (none : Option Arg).isNone) = false := by rw [decide_eq_false (by omega)]; rfl
  have e2 : (ps.filter fun n => (List.lookup n (ps.zip us ++ kw)).isNone) = [] := by
    rw [List.filter_eq_nil_iff]
    intro a ha
    have := List.all_eq_true.mp hall a ha
    rw [Option.isNone_iff_eq_none]
    intro z
    rw [z] at this
    cases this
  have e3 : (seqItems? Value.none : Sem (Option (Array Value))) = pure none := by rfl
  simp only [pure_bind, e1, e3, Option.getD_none, List.length_nil, Nat.zero_sub, List.drop_nil, Nat.sub_zero, List.take_length, e2, List.isEmpty_nil, Bool.not_true, Bool.false_eq_true, if_false, List.drop_length, List.zip_nil_left, List.forIn_nil]

/-! ### what a def's text is read against -/
structure CC where
  N : List Str
  sc : Scope
  fn : Str → Bool
/-- the text's own names: defs by number, whole numbers -/
structure Txt where
  defs : List (Str × List Str)
  nums : List (Str × Int)
def vis (sc : Scope) (x : Str) : Bool := match sc.names.lookup x with
  | some .local => true
  | some .cell => true
  | some .free => true
  | _ => false
def glb (sc : Scope) (x : Str) : Bool := match sc.names.lookup x with
  | some .globalImplicit => decide (x ≠ "__debug__")
  | _ => false
/-- a name that may be stored -/
def lcl (C : CC) (x : Str) : Bool := match C.sc.names.lookup x with
  | some .local => true
  | some .cell => C.fn x
  | _ => false
theorem vis_ok {sc : Scope} {x : Str} (h : vis sc x = true) : Vis sc x := by
  unfold vis at h
  split at h
  · exact .inl (by assumption)
  · exact .inr (.inl (by assumption))
  · exact .inr (.inr (by assumption))
  · cases h
theorem lcl_ok {C : CC} {x : Str} (h : lcl C x = true) : Loc C.sc x ∧ (C.fn x = true ∨ C.sc.names.lookup x = some .local) := by
  unfold lcl at h
  split at h
  · exact ⟨.inl (by assumption), .inr (by assumption)⟩
  · exact ⟨.inr (by assumption), .inl h⟩
  · cases h
def bltN : Blt → Str
  | .len => "len" | .sum => "sum" | .all => "all" | .any => "any" | .tuple => "tuple" | .list => "list" | .int => "int" | .max2 => "max" | .min2 => "min" | .abs => "abs"
def cstOk : PyData → Const → Bool
  | .int i, .int j => decide (i = j)
  | .bool i, .bool j => decide (i = j)
  | .str i, .str j => decide (i = j)
  | .none, .none => true
  | _, _ => false
def tysOk (sc : Scope) : List Ty → List Expr → Bool
  | [], [] => true
  | t :: ts, .Name x _ :: es => decide (x = Str.ofString (tyName t)) && glb sc x && tysOk sc ts es
  | _, _ => false
/-- a target: names, tuples of such; the places it stores -/
def chkG (C : CC) : T → Expr → Bool
  | .tv i, .Name x _ => decide (C.N[i]? = some x) && lcl C x
  | .tt l, .Tuple es _ _ => chkGs C l es
  | _, _ => false
where chkGs (C : CC) : T → List Expr → Bool
  | .nil, [] => true
  | .cons a b, e :: es => chkG C a e && okForm e && chkGs C b es
  | _, _ => false
def opB (o : Bin) (q : Operator) : Bool := match o, q with
  | .add, .Add => true | .sub, .Sub => true | .mul, .Mult => true | .fdiv, .FloorDiv => true | .mod, .Mod => true | .pow, .Pow => true
  | _, _ => false
def cmpB (o : Cmp) (q : CmpOp) : Bool := match o, q with
  | .eq, .Eq => true | .ne, .NotEq => true | .lt, .Lt => true | .le, .LtE => true | .gt, .Gt => true | .ge, .GtE => true | .is, .Is => true | .isnot, .IsNot => true
  | .«in», .In => true | .notin, .NotIn => true
  | _, _ => false
theorem opB_ok {o : Bin} {q : Operator} (h : opB o q = true) : q = opOf o := by cases o <;> cases q <;> first | rfl | cases h
theorem cmpB_ok {o : Cmp} {q : CmpOp} (h : cmpB o q = true) : q = cmpOf o := by cases o <;> cases q <;> first | rfl | cases h
/-- the places that a target stores -/
def tgs : T → List Nat
  | .tv i => [i]
  | .tt l => tgs l
  | .cons a b => tgs a ++ tgs b
  | _ => []
/-- the names and values of a call's keywords -/
def kwNames (kws : List Keyword) : List (Option Str) := kws.map (·.arg)
/-- where each parameter's value comes from -/
def permOk (ps : List Str) (n : Nat) (ks : List Str) (perm : List Nat) : Bool :=
  kwFit ps (ps.take n) ks && decide (n ≤ ps.length) && decide (perm.map ((ps.take n ++ ks)[·]?) = ps.map some) && decide ((ps.take n ++ ks).Nodup)
def namesOf : List Keyword → Option (List Str)
  | [] => some []
  | ⟨some x, _, _⟩ :: r => (namesOf r).map (x :: ·)
  | _ :: _ => none
def lenT : T → Nat
  | .cons _ b => lenT b + 1
  | _ => 0

mutual
def chkE (P : Txt) (C : CC) : T → Expr → Bool
  | .var i, .Name x _ => decide (C.N[i]? = some x) && vis C.sc x && decide (x ≠ "__debug__") && decide (x ≠ "__classdict__")
  | .cst d, .Constant c _ _ => cstOk d c
  | .gint y i, .Name x _ => decide (x = y) && glb C.sc x && decide ((x, i) ∈ P.nums)
  | .bin o a b, .BinOp x q y _ => opB o q && chkE P C a x && chkE P C b y
  | .neg a, .UnaryOp .USub x _ => chkE P C a x
  | .not a, .UnaryOp .Not x _ => chkE P C a x
  | .and a b, .BoolOp .And (x :: y :: r) pos => chkE P C a x && (match r with
    | [] => chkE P C b y
    | _ => chkE P C b (.BoolOp .And (y :: r) pos))
  | .or a b, .BoolOp .Or (x :: y :: r) pos => chkE P C a x && (match r with
    | [] => chkE P C b y
    | _ => chkE P C b (.BoolOp .Or (y :: r) pos))
  | .cmp o a b, .Compare x [q] [y] _ => cmpB o q && okForm y && chkE P C a x && chkE P C b y
  | .chain o o' a b c, .Compare x [q, q'] [y, z] _ => cmpB o q && cmpB o' q' && okForm y && okForm z && chkE P C a x && chkE P C b y && chkE P C c z
  | .ite c a b, .IfExp x y z _ => chkE P C c x && chkE P C a y && chkE P C b z
  | .tup l, .Tuple es _ _ => chkA P C l es
  | .lst l, .List es _ => chkA P C l es
  | .lstM l, .List es _ => chkA P C l es
  | .addM a b, .BinOp x q y _ => opB .add q && chkE P C a x && chkE P C b y
  | .idx a b, .Subscript x y _ => okForm y && chkE P C a x && chkE P C b y
  | .slc a lo hi, .Subscript x (.Slice l h none _) _ => chkE P C a x && chkP P C lo l && chkP P C hi h
  | .rev a, .Subscript x (.Slice none none (some (.UnaryOp .USub (.Constant (.int i) _ _) _)) _) _ => decide (i = 1) && chkE P C a x
  | .call g l, .Call (.Name x _) (e :: es) [] _ => glb C.sc x && decide ((P.defs[g]?).map (·.1) = some x) && chkA P C l (e :: es)
  | .callk g l ks k perm, .Call (.Name x _) es kws _ => (match P.defs[g]? with
    | some (y, ps) => glb C.sc x && decide (x = y) && decide (namesOf kws = some ks) && permOk ps (lenT l) ks perm && chkA P C l es && chkK P C k kws
    | none => false)
  | .blt b l, .Call (.Name x _) (e :: es) [] _ => glb C.sc x && decide (x = bltN b) && chkA P C l (e :: es)
  | .isin a ts many, .Call (.Name x _) [e, c] [] _ => glb C.sc x && decide (x = "isinstance") && chkE P C a e && okForm e && (match many, c with
    | false, c => (match ts with
      | [t] => tysOk C.sc [t] [c]
      | _ => false)
    | true, .Tuple cs _ _ => tysOk C.sc ts cs && decide (2 ≤ ts.length ∧ ts.length ≤ 100)
    | _, _ => false)
  | .frz a, .Name x pos => chkE P C a (.Name x pos)
  | .app o a, .Call (.Attribute (.Name x p) m apos) [e] [] cpos => decide (m = "append") && chkE P C o (.Name x p) && chkE P C a e && okForm e && decide (apos.endLine = cpos.line)
  | .lc own tg it cs elt, .ListComp e [⟨etg, eit, ifs, 0⟩] scope _ => okForm eit && L2.blkC C.N C.sc scope own && chkI P C it eit &&
    (let B : CC := ⟨C.N, relS scope C.sc, fun x => scope.names.lookup x == some .cell⟩
     chkG B tg etg && (tgs tg).all (own.map (·.2)).contains && chkC P B cs ifs && chkE P B elt e)
  | _, _ => false
def chkA (P : Txt) (C : CC) : T → List Expr → Bool
  | .nil, [] => true
  | .cons a b, e :: es => okForm e && chkE P C a e && chkA P C b es
  | _, _ => false
def chkK (P : Txt) (C : CC) : T → List Keyword → Bool
  | .nil, [] => true
  | .cons a b, ⟨_, e, _⟩ :: es => chkE P C a e && chkK P C b es
  | _, _ => false
def chkP (P : Txt) (C : CC) : T → Option Expr → Bool
  | .nil, none => true
  | .cons a .nil, some e => chkE P C a e
  | _, _ => false
def chkC (P : Txt) (C : CC) : T → List Expr → Bool
  | .nil, [] => true
  | .cons a .nil, [e] => chkE P C a e
  | _, _ => false
def chkI (P : Txt) (C : CC) : T → Expr → Bool
  | .itv a, e => chkE P C a e
  | .rng1 a, .Call (.Name x _) [e] [] _ => glb C.sc x && decide (x = "range") && okForm e && chkE P C a e
  | .rng2 a b, .Call (.Name x _) [e, e'] [] _ => glb C.sc x && decide (x = "range") && okForm e && okForm e' && chkE P C a e && chkE P C b e'
  | _, _ => false
end
end Z

/-! Z6: what the small language comes to is what the text does: expressions. -/
namespace Z
open PySem PySem.Spec PyProof.Rows L2
variable [KF]
/-! ### what a def promises -/
def spOf (Γ : G) (g n : Nat) : Sp := fun vs Hq Q _ => ∃ F ρ ds h d h1, vs.length = n ∧ At F ρ h Hq ∧ DVs F ρ ds vs ∧ Γ g ds h = some (d, h1) ∧ Ret F ρ Hq d h1 Q
/-- plain parameters, without defaults -/
structure Plain (fd : FuncData) (ps : List Str) : Prop where
  h0 : fd.params.posonlyargs = []
  h1 : fd.params.args.map (·.arg) = ps
  h2 : fd.params.vararg = none
  h3 : fd.params.kwonlyargs = []
  h4 : fd.params.kwarg = none
  h5 : fd.defaults = .none
  nd : ps.Nodup
structure Wok (P : Txt) (Γ : G) (k : Nat) (prog : Program) (w : World) (K : PySem.W.Frag) (mg : Str → Option Value) (base : Heap) : Prop where
  kf : K = KF.K
  blt : ∀ b, mg (bltN b) = none
  isi : mg "isinstance" = none
  rng : mg "range" = none
  tys : ∀ t, mg (Str.ofString (tyName t)) = none
  num : ∀ x i, (x, i) ∈ P.nums → ∃ t, mg x = some (.int i t)
  fns : ∀ (g : Nat) (x : Str) (ps : List Str), P.defs[g]? = some (x, ps) → ∃ f fd, mg x = some (.ref f) ∧ PySem.W.keepIn K (.ref f) = true ∧ FnOk prog w K mg base CX0 k f fd ps (spOf Γ g ps.length) ∧ Plain fd ps ∧ ∀ ds h r, Γ g ds h = some r → ds.length = ps.length
structure Cok (P : Txt) (Γ : G) (k : Nat) (X : Cx) (C : CC) : Prop where
  N : X.N = C.N
  sc : X.env.scope = C.sc
  fn : X.fn = C.fn
  nd : C.N.Nodup
  calm : X.calm = true
  room : Room k X.A
  W : Wok P Γ k X.prog X.w X.K X.mg X.base
theorem Cok.gl {P : Txt} {Γ : G} {k : Nat} {X : Cx} {C : CC} (c : Cok P Γ k X C) {x : Str} (h : glb C.sc x = true) : Gl X x ∧ (x == ("__debug__" : Str)) = false := by
  unfold glb at h
  split at h
  · rename_i e
    refine ⟨?_, by simpa using h⟩
    show X.env.scope.names.lookup x = _
    rw [c.sc]; exact e
  · cases h

/-! ### binding -/
theorem zip_look {names : List Str} {vals : List Value} (nd : names.Nodup) : ∀ {i : Nat} {n : Str}, names[i]? = some n → i < vals.length → (names.zip vals).lookup n = vals[i]? := by
  induction names generalizing vals with
  | nil => intro i n h; simp at h
  | cons a r ih =>
    intro i n h hi
    cases vals with
    | nil => simp at hi
    | cons v vs =>
      rw [List.zip_cons_cons, List.lookup_cons]
      cases i with
      | zero => simp at h; subst h; simp
      | succ i =>
        simp only [List.getElem?_cons_succ] at h
        have ne : n ≠ a := fun e => (List.nodup_cons.mp nd).1 (e ▸ List.mem_of_getElem? h)
        rw [beq_eq_false_iff_ne.mpr ne]
        simp only [List.getElem?_cons_succ]
        exact ih (List.nodup_cons.mp nd).2 h (by simpa using hi)
theorem bound_zip {l : List (Str × Value)} : ∀ {ps : List Str} {vals : List Value}, vals.length = ps.length → (∀ (j : Nat) (n : Str), ps[j]? = some n → l.lookup n = vals[j]?) → (ps.filterMap fun n => (l.lookup n).map (n, ·)) = ps.zip vals
  | [], vals, _, _ => by simp
  | p :: ps, [], h, _ => by simp at h
  | p :: ps, v :: vals, h, e => by
    have e0 : l.lookup p = some v := e 0 p rfl
    rw [List.filterMap_cons, e0, List.zip_cons_cons]
    show (p, v) :: _ = _
    rw [bound_zip (by simpa using h) fun j n hj => e (j + 1) n hj]
theorem Plain.binds {K : PySem.W.Frag} {fd : FuncData} {ps : List Str} (p : Plain fd ps) : Binds K fd ps [] := .all fun us hl => by
  have look : ∀ (j : Nat) (n : Str), ps[j]? = some n → (ps.zip us ++ []).lookup n = us[j]? := fun j n hj => by
    rw [List.append_nil]
    exact zip_look p.nd hj (by rw [hl]; exact (List.getElem?_eq_some_iff.mp hj).1)
  rw [bind_kw p.h0 p.h1 p.h2 p.h3 p.h4 p.h5 (us := us) (kw := []) (by omega) rfl (List.all_eq_true.mpr fun n hn => ?_), bound_zip hl look]
  obtain ⟨j, hj, e⟩ := List.mem_iff_getElem.mp hn
  rw [look j n (by simp [hj, e])]
  simp [hl, hj]
def permV {α : Type} (l : List α) (perm : List Nat) : List α := perm.filterMap (l[·]?)
theorem take_zip : ∀ (ps : List Str) (us : List Value), (ps.take us.length).zip us = ps.zip us
  | [], us => by simp
  | p :: ps, [] => by simp
  | p :: ps, u :: us => by simp [take_zip ps us]
theorem perm_get {α : Type} {l : List α} : ∀ {perm : List Nat}, (∀ p ∈ perm, p < l.length) → (permV l perm).length = perm.length ∧ ∀ (j p : Nat), perm[j]? = some p → (permV l perm)[j]? = l[p]?
  | [], _ => ⟨rfl, fun j p h => by simp at h⟩
  | q :: r, h => by
    have hq := h q (List.mem_cons_self ..)
    obtain ⟨i1, i2⟩ := perm_get (perm := r) fun p hp => h p (List.mem_cons_of_mem _ hp)
    have e : permV l (q :: r) = l[q] :: permV l r := by
      unfold permV
      rw [List.filterMap_cons, List.getElem?_eq_getElem hq]
    rw [e]
    refine ⟨by simp [i1], fun j p hj => ?_⟩
    cases j with
    | zero => simp at hj; subst hj; simp [hq]
    | succ j => simpa using i2 j p (by simpa using hj)
theorem Plain.kbn {K : PySem.W.Frag} {fd : FuncData} {ps ks : List Str} {n : Nat} {perm : List Nat} (p : Plain fd ps) (h : permOk ps n ks perm = true) : KBn K fd ps n ks (fun us ws => permV (us ++ ws) perm) (fun us ws => permV (us ++ ws) perm) := by
  unfold permOk at h
  simp only [Bool.and_eq_true, decide_eq_true_eq] at h
  obtain ⟨⟨⟨h1, h2⟩, h3⟩, h4⟩ := h
  have hlen : perm.length = ps.length := by simpa using congrArg List.length h3
  have hp : ∀ (j q : Nat) (x : Str), perm[j]? = some q → ps[j]? = some x → (ps.take n ++ ks)[q]? = some x := fun j q x e1 e2 => by
    have := congrArg (·[j]?) h3
    simp only [List.getElem?_map, e1, e2, Option.map_some] at this
    exact Option.some.inj this
  have hlt : ∀ q ∈ perm, q < (ps.take n ++ ks).length := fun q hq => by
    obtain ⟨j, hj, e⟩ := List.mem_iff_getElem.mp hq
    have := hp j q (ps[j]'(by omega)) (by simp [hj, e]) (by simp)
    exact (List.getElem?_eq_some_iff.mp this).1
  have htk : (ps.take n).length = n := by rw [List.length_take]; omega
  refine ⟨fun s us ws X l1 l2 => .of_eq ?_, fun {vs us zs ws} r1 r2 => ?_⟩
  · have hl : (us ++ ws).length = (ps.take n ++ ks).length := by simp [l1, l2, h2]
    have ez : ps.zip us ++ ks.zip ws = (ps.take n ++ ks).zip (us ++ ws) := by
      rw [List.zip_append (by rw [htk, l1]), ← take_zip ps us, l1]
    have lt2 : ∀ q ∈ perm, q < (us ++ ws).length := fun q hq => by rw [hl]; exact hlt q hq
    obtain ⟨g1, g2⟩ := perm_get lt2
    have look : ∀ (j : Nat) (x : Str), ps[j]? = some x → (ps.zip us ++ ks.zip ws).lookup x = (permV (us ++ ws) perm)[j]? := fun j x hj => by
      have hj2 : j < perm.length := by rw [hlen]; exact (List.getElem?_eq_some_iff.mp hj).1
      have e1 : perm[j]? = some perm[j] := by simp [hj2]
      rw [ez, g2 j _ e1]
      exact zip_look h4 (hp j _ x e1 hj) (lt2 _ (List.getElem_mem hj2))
    have hk : (ks.zip ws).map (·.1) = ks := by
      rw [zip_keys ks ws (by omega), l2, List.take_length]
    rw [bind_kw p.h0 p.h1 p.h2 p.h3 p.h4 p.h5 (us := us) (kw := ks.zip ws) (by omega) (by rw [l1, hk]; exact h1) (List.all_eq_true.mpr fun x hx => ?_), bound_zip (by rw [g1, hlen]) look]
    obtain ⟨j, hj, e⟩ := List.mem_iff_getElem.mp hx
    rw [look j x (by simp [hj, e])]
    simp [g1, hlen, hj]
  · have r := r1.append r2
    clear h1 h2 h3 h4 hlen hp hlt htk
    induction perm with
    | nil => exact .nil
    | cons q rest ih =>
      unfold permV at ih ⊢
      rw [List.filterMap_cons, List.filterMap_cons]
      cases e : (vs ++ zs)[q]? with
      | none =>
        rw [r.none_of e]
        exact ih
      | some x =>
        obtain ⟨u, eu, ru⟩ := r.get e
        rw [eu]
        exact .cons ru ih

/-! ### the readings -/
def RetA (F : Hp) (ρ : List Addr) (Hq : Hp) (ds : List D) (h : H) (Q : List V → Hp → Prop) : Prop := ∀ F' ρ' vs Hr, Ext F F' → Step F F' ρ ρ' Hq Hr → At F' ρ' h Hr → DVs F' ρ' ds vs → Q vs Hr
def RetH (F : Hp) (ρ : List Addr) (Hq : Hp) (h : H) (Q : Hp → Prop) : Prop := ∀ F' ρ' Hr, Ext F F' → Step F F' ρ ρ' Hq Hr → At F' ρ' h Hr → Q Hr
/-- an iterator goes over these, wherever what it leans on stands -/
structure WI (J : It) (F : Hp) (ρ : List Addr) (xs : List D) : Prop where
  go : ∀ (i : Nat) Hq, Ext F Hq → i < xs.length → J.go i Hq
  yld : ∀ (i : Nat) Hq x H', Ext F Hq → i < xs.length → J.yld i Hq x H' → H' = Hq ∧ ∃ d, xs[i]? = some d ∧ DV F ρ d x
  stop : ∀ Hq, Ext F Hq → J.stop xs.length Hq
def RetI (F : Hp) (ρ : List Addr) (Hq : Hp) (xs : List D) (h : H) (R : It → Hp → Prop) : Prop := ∀ F' ρ' J Hr, Ext F F' → Step F F' ρ ρ' Hq Hr → At F' ρ' h Hr → WI J F' ρ' xs → R J Hr
section
variable {F F' Hq Hr : Hp} {ρ ρ' : List Addr} {ds : List D} {h : H}
theorem RetA.mono {Q : List V → Hp → Prop} (r : RetA F ρ Hq ds h Q) (e : Ext F F') (sb : Step F F' ρ ρ' Hq Hr) : RetA F' ρ' Hr ds h Q := fun F2 ρ2 v H2 e2 s2 => r F2 ρ2 v H2 (e.trans e2) (sb.trans s2)
theorem RetH.mono {Q : Hp → Prop} (r : RetH F ρ Hq h Q) (e : Ext F F') (sb : Step F F' ρ ρ' Hq Hr) : RetH F' ρ' Hr h Q := fun F2 ρ2 H2 e2 s2 => r F2 ρ2 H2 (e.trans e2) (sb.trans s2)
theorem RetI.mono {Q : It → Hp → Prop} (r : RetI F ρ Hq ds h Q) (e : Ext F F') (sb : Step F F' ρ ρ' Hq Hr) : RetI F' ρ' Hr ds h Q := fun F2 ρ2 v H2 e2 s2 => r F2 ρ2 v H2 (e.trans e2) (sb.trans s2)
end
def rE (Γ : G) (t : T) : TE := fun σ Hq Q => ∃ F ρ s h d h1, At F ρ h Hq ∧ SR F ρ s σ ∧ evalE Γ t s h = some (d, h1) ∧ Ret F ρ Hq d h1 Q
def rT (Γ : G) (t : T) : TT := fun σ Hq Q => ∃ F ρ s h b h1, At F ρ h Hq ∧ SR F ρ s σ ∧ test Γ t s h = some (b, h1) ∧ RetH F ρ Hq h1 (Q b)
def rA (Γ : G) (t : T) : TA := fun σ Hq Q => ∃ F ρ s h ds h1, At F ρ h Hq ∧ SR F ρ s σ ∧ evalA Γ t s h = some (ds, h1) ∧ RetA F ρ Hq ds h1 Q
def rP (Γ : G) (t : T) : TO := fun σ Hq Q => ∃ F ρ s h o h1, At F ρ h Hq ∧ SR F ρ s σ ∧ evalP Γ t s h = some (o, h1) ∧ RetH F ρ Hq h1 (Q o)
def rC (Γ : G) (t : T) : TT := fun σ Hq Q => ∃ F ρ s h b h1, At F ρ h Hq ∧ SR F ρ s σ ∧ evalC Γ t s h = some (b, h1) ∧ RetH F ρ Hq h1 (Q b)
def rI (Γ : G) (t : T) : TI := fun σ Hq R => ∃ F ρ s h xs h1, At F ρ h Hq ∧ SR F ρ s σ ∧ evalI Γ t s h = some (xs, h1) ∧ RetI F ρ Hq xs h1 R
theorem PE.weaken {X : Cx} {e : Expr} {t t' : TE} (h : PE X e t) (m : ∀ σ Hq Q, t' σ Hq Q → t σ Hq Q) : PE X e t' := ⟨fun pins s σ Hq Q I q => h.run pins s σ Hq Q I (m _ _ _ q)⟩
theorem PT.weaken {X : Cx} {e : Expr} {t t' : TT} (h : PT X e t) (m : ∀ σ Hq Q, t' σ Hq Q → t σ Hq Q) : PT X e t' := ⟨fun pins s σ Hq Q I q => h.run pins s σ Hq Q I (m _ _ _ q)⟩
theorem PA.weaken {X : Cx} {e : List Expr} {t t' : TA} (h : PA X e t) (m : ∀ σ Hq Q, t' σ Hq Q → t σ Hq Q) : PA X e t' := ⟨fun pos pins s σ Hq Q I q => h.run pos pins s σ Hq Q I (m _ _ _ q)⟩
theorem PK.weaken {X : Cx} {e : List Keyword} {t t' : TA} (h : PK X e t) (m : ∀ σ Hq Q, t' σ Hq Q → t σ Hq Q) : PK X e t' := ⟨fun pos pins s σ Hq Q I q => h.run pos pins s σ Hq Q I (m _ _ _ q)⟩
theorem PO.weaken {X : Cx} {e : Option Expr} {t t' : TO} (h : PO X e t) (m : ∀ σ Hq Q, t' σ Hq Q → t σ Hq Q) : PO X e t' := ⟨fun pins s σ Hq Q I q => h.run pins s σ Hq Q I (m _ _ _ q)⟩
theorem PTs.weaken {X : Cx} {e : List Expr} {t t' : TT} (h : PTs X e t) (m : ∀ σ Hq Q, t' σ Hq Q → t σ Hq Q) : PTs X e t' := ⟨fun pins s σ Hq Q I q => h.run pins s σ Hq Q I (m _ _ _ q)⟩
theorem PI.weaken {X : Cx} {tg e : Expr} {t t' : TI} (h : PI X tg e t) (m : ∀ σ Hq Q, t' σ Hq Q → t σ Hq Q) : PI X tg e t' := ⟨fun pins s σ Hq Q I q => h.run pins s σ Hq Q I (m _ _ _ q)⟩

section
variable (P : Txt) (Γ : G) (k : Nat)
def SE (t : T) : Prop := ∀ X C e, Cok P Γ k X C → chkE P C t e = true → PE X e (rE Γ t)
def ST (t : T) : Prop := ∀ X C e, Cok P Γ k X C → chkE P C t e = true → PT X e (rT Γ t)
def SA (t : T) : Prop := ∀ X C es, Cok P Γ k X C → chkA P C t es = true → PA X es (rA Γ t)
def SK (t : T) : Prop := ∀ X C es, Cok P Γ k X C → chkK P C t es = true → PK X es (rA Γ t)
def SP' (t : T) : Prop := ∀ X C e, Cok P Γ k X C → chkP P C t e = true → PO X e (rP Γ t)
def SC (t : T) : Prop := ∀ X C e, Cok P Γ k X C → chkC P C t e = true → PTs X e (rC Γ t)
def SI (t : T) : Prop := ∀ X C e tg, Cok P Γ k X C → chkI P C t e = true → PI X tg e (rI Γ t)
end
section
variable {P : Txt} {Γ : G} {k : Nat} {t a b c l : T}
/-- a test that is no and, or, not, comparison -/
theorem st_of (h : SE P Γ k t) (hf : ∀ C e, chkE P C t e = true → ∀ env whole, isTrue e env whole = (do let v ← whole; standAt e.pos; holding [v] (PySem.truthy v))) : ST P Γ k t := fun X C e ok hc => by
  have he := h X C e ok hc
  refine ⟨fun pins s σ Hq Q I q => ?_⟩
  obtain ⟨F, ρ, st, h0, b, h1, at_, sr, e1, ret⟩ := q
  unfold test at e1
  obtain ⟨⟨d, h2⟩, e2, e3⟩ := Option.bind_eq_some_iff.mp e1
  simp only [Option.map_eq_some_iff, Prod.mk.injEq] at e3
  obtain ⟨b', e3, rfl, rfl⟩ := e3
  refine isTrue_plain (thn (he.run pins s σ Hq (fun v Hr => rTru v Hr Q) I ⟨F, ρ, st, h0, d, h2, at_, sr, e2, fun F' ρ' v Hr e s a dv => ⟨F', ρ', h2, d, b', a, dv, e3, ret F' ρ' Hr e s a⟩⟩) fun v s1 ⟨x, H1, I1, r1, q1⟩ => ?_) (hf C e hc X.env _)
  exact tru_z pins s1 σ H1 x v Q I1 r1 q1

/-! names, constants -/
theorem se_var {i : Nat} : SE P Γ k (.var i) := fun X C e ok hc => by
  cases e with
  | Name x pos =>
    simp only [chkE, Bool.and_eq_true, decide_eq_true_eq] at hc
    obtain ⟨⟨⟨h1, h2⟩, h3⟩, h4⟩ := hc
    refine PE.weaken (pe_var (i := i) (by rw [ok.N]; exact h1) (by rw [ok.sc]; exact vis_ok h2) (by simpa using h3) (by simpa using h4)) fun σ Hq Q q => ?_
    obtain ⟨F, ρ, st, h0, d, h1, at_, sr, e1, ret⟩ := q
    simp only [evalE] at e1
    split at e1
    · rename_i d' hd
      cases e1
      obtain ⟨v, hv, dv⟩ := sr i _ hd
      exact ⟨v, hv, ret.go at_ dv⟩
    · cases e1
  | _ => simp [chkE] at hc
theorem se_cst {d : PyData} : SE P Γ k (.cst d) := fun X C e ok hc => by
  cases e with
  | Constant cv j pos =>
    simp only [chkE] at hc
    have fin : ∀ (v : V), PE X (.Constant cv j pos) (tC v) → (∀ F, DQ F v d) → PE X (.Constant cv j pos) (rE Γ (.cst d)) := fun v h dq => PE.weaken h fun σ Hq Q q => by
      obtain ⟨F, ρ, st, h0, d', h1, at_, sr, e1, ret⟩ := q
      cases e1
      exact ret.go at_ (dq F)
    cases d with
    | int i =>
      cases cv <;> simp [cstOk] at hc
      subst hc
      exact fin (.int i) pe_int fun F => .int i
    | bool i =>
      cases cv <;> simp [cstOk] at hc
      subst hc
      exact fin (.bl i) pe_bl fun F => .bl i
    | str i =>
      cases cv <;> simp [cstOk] at hc
      subst hc
      exact fin (.str i) pe_str fun F => .str i
    | none =>
      cases cv <;> simp [cstOk] at hc
      exact fin .non pe_non fun F => .non
    | _ => simp [cstOk] at hc
  | _ => simp [chkE] at hc
theorem se_gint {x : Str} {i : Int} : SE P Γ k (.gint x i) := fun X C e ok hc => by
  cases e with
  | Name y pos =>
    simp only [chkE, Bool.and_eq_true, decide_eq_true_eq] at hc
    obtain ⟨⟨rfl, h2⟩, h3⟩ := hc
    obtain ⟨g1, g2⟩ := ok.gl h2
    obtain ⟨t, ht⟩ := ok.W.num _ _ h3
    refine PE.weaken (pe_glob (v := .int i) g1 ht ⟨t, rfl⟩ g2) fun σ Hq Q q => ?_
    obtain ⟨F, ρ, st, h0, d', h1, at_, sr, e1, ret⟩ := q
    cases e1
    exact ret.go at_ (.int i)
  | _ => simp [chkE] at hc

/-! operators -/
/-- two in a row -/
theorem two_rd {r : R2} {σ : L2.St} {Hq : Hp} {Q : VK} {F : Hp} {ρ : List Addr} {s : S} {h : H} {x y : D} {h1 h2 : H} (at_ : At F ρ h Hq) (sr : SR F ρ s σ) (e1 : evalE Γ a s h = some (x, h1)) (e2 : evalE Γ b s h1 = some (y, h2))
    (q : ∀ F' ρ' v w Hr, Ext F F' → Step F F' ρ ρ' Hq Hr → At F' ρ' h2 Hr → DV F' ρ' x v → DV F' ρ' y w → r v w Hr Q) : tOp r (rE Γ a) (rE Γ b) σ Hq Q :=
  ⟨F, ρ, s, h, x, h1, at_, sr, e1, fun F1 ρ1 v H1 x1 s1 a1 d1 => ⟨F1, ρ1, s, h1, y, h2, a1, sr.mono x1 s1.sub, e2, fun F2 ρ2 w H2 x2 s2 a2 d2 => q F2 ρ2 v w H2 (x1.trans x2) (s1.trans s2) a2 (d1.mono x2 s2.sub) d2⟩⟩
theorem se_bin {o : Bin} (ha : SE P Γ k a) (hb : SE P Γ k b) : SE P Γ k (.bin o a b) := fun X C e ok hc => by
  cases e with
  | BinOp x q y pos =>
    simp only [chkE, Bool.and_eq_true] at hc
    obtain ⟨⟨h1, h2⟩, h3⟩ := hc
    rw [opB_ok h1]
    refine PE.weaken (pe_op (op_bin o) (ha X C x ok h2) (hb X C y ok h3)) fun σ Hq Q q => ?_
    obtain ⟨F, ρ, st, h0, d, h1, at_, sr, e1, ret⟩ := q
    simp only [evalE] at e1
    obtain ⟨⟨x1, hx⟩, ex, e1⟩ := Option.bind_eq_some_iff.mp e1
    obtain ⟨⟨y1, hy⟩, ey, e1⟩ := Option.bind_eq_some_iff.mp e1
    simp only [Option.map_eq_some_iff, Prod.mk.injEq] at e1
    obtain ⟨z, ez, rfl, rfl⟩ := e1
    exact two_rd at_ sr ex ey fun F' ρ' v w Hr e s a d1 d2 => ⟨F', ρ', hy, x1, y1, z, a, d1, d2, ez, ret.mono e s⟩
  | _ => simp [chkE] at hc
theorem se_neg (ha : SE P Γ k a) : SE P Γ k (.neg a) := fun X C e ok hc => by
  cases e with
  | UnaryOp q x pos =>
    cases q with
    | USub =>
      simp only [chkE] at hc
      refine PE.weaken (pe_un un_neg (ha X C x ok hc)) fun σ Hq Q q => ?_
      obtain ⟨F, ρ, st, h0, d, h1, at_, sr, e1, ret⟩ := q
      simp only [evalE] at e1
      obtain ⟨⟨x1, hx⟩, ex, e1⟩ := Option.bind_eq_some_iff.mp e1
      simp only at e1
      split at e1 <;> cases e1
      exact ⟨F, ρ, st, h0, _, _, at_, sr, ex, fun F1 ρ1 v H1 x1 s1 a1 d1 => by
        cases d1
        exact ⟨_, rfl, ret F1 ρ1 _ H1 x1 s1 a1 (.int _)⟩⟩
    | _ => simp [chkE] at hc
  | _ => simp [chkE] at hc
theorem test_eq {s : S} {h : H} : test Γ t s h = (evalE Γ t s h).bind fun x => (truthy x.2 x.1).map (·, x.2) := rfl
theorem st_not (ha : ST P Γ k a) : ST P Γ k (.not a) := fun X C e ok hc => by
  cases e with
  | UnaryOp q x pos =>
    cases q with
    | Not =>
      simp only [chkE] at hc
      refine PT.weaken (pt_not (ha X C x ok hc)) fun σ Hq Q q => ?_
      obtain ⟨F, ρ, st, h0, d, h1, at_, sr, e1, ret⟩ := q
      simp only [test, evalE] at e1
      obtain ⟨⟨x1, hx⟩, ex, e1⟩ := Option.bind_eq_some_iff.mp e1
      obtain ⟨⟨y1, hy⟩, ey, e2⟩ := Option.bind_eq_some_iff.mp ex
      simp only [Option.map_eq_some_iff, Prod.mk.injEq] at e1 e2
      obtain ⟨b1, e3, rfl, rfl⟩ := e2
      obtain ⟨b2, e4, rfl, rfl⟩ := e1
      simp only [truthy, Option.some.injEq] at e4
      subst e4
      exact ⟨F, ρ, st, h0, b1, hy, at_, sr, by rw [test_eq, ey]; simp [e3], fun F1 ρ1 H1 x1 s1 a1 => ret F1 ρ1 H1 x1 s1 a1⟩
    | _ => simp [chkE] at hc
  | _ => simp [chkE] at hc
/-- a test as a value: not x -/
theorem se_not (ha : SE P Γ k a) : SE P Γ k (.not a) := fun X C e ok hc => by
  cases e with
  | UnaryOp q x pos =>
    cases q with
    | Not =>
      simp only [chkE] at hc
      refine PE.weaken (pe_notT (ha X C x ok hc)) fun σ Hq Q q => ?_
      obtain ⟨F, ρ, st, h0, d, h1, at_, sr, e1, ret⟩ := q
      simp only [evalE] at e1
      obtain ⟨⟨y1, hy⟩, ey, e2⟩ := Option.bind_eq_some_iff.mp e1
      simp only [Option.map_eq_some_iff, Prod.mk.injEq] at e2
      obtain ⟨b1, e3, rfl, rfl⟩ := e2
      exact ⟨F, ρ, st, h0, y1, hy, at_, sr, ey, fun F1 ρ1 v H1 x1 s1 a1 d1 => ⟨b1, truV a1 d1 e3, ret F1 ρ1 _ H1 x1 s1 a1 (.bl _)⟩⟩
    | _ => simp [chkE] at hc
  | _ => simp [chkE] at hc
theorem se_and (ha : SE P Γ k a) (hb : SE P Γ k b) : SE P Γ k (.and a b) := fun X C e ok hc => by
  cases e with
  | BoolOp q xs pos =>
    cases q with
    | And =>
      match xs, hc with
      | x :: y :: r, hc =>
        simp only [chkE, Bool.and_eq_true] at hc
        obtain ⟨h1, h2⟩ := hc
        have pb : PE X (.BoolOp .And (y :: r) pos) (rE Γ b) := by
          cases r with
          | nil => exact pe_one (hb X C y ok h2)
          | cons z r => exact hb X C _ ok h2
        refine PE.weaken (pe_andT (ha X C x ok h1) pb) fun σ Hq Q q => ?_
        obtain ⟨F, ρ, st, h0, d, h1, at_, sr, e1, ret⟩ := q
        simp only [evalE] at e1
        obtain ⟨⟨y1, hy⟩, ey, e2⟩ := Option.bind_eq_some_iff.mp e1
        obtain ⟨b1, e3, e4⟩ := Option.bind_eq_some_iff.mp e2
        refine ⟨F, ρ, st, h0, y1, hy, at_, sr, ey, fun F1 ρ1 v H1 x1 s1 a1 d1 => ⟨b1, truV a1 d1 e3, ?_⟩⟩
        cases b1 with
        | true =>
          rw [if_pos rfl] at e4 ⊢
          exact ⟨F1, ρ1, st, hy, d, _, a1, sr.mono x1 s1.sub, e4, ret.mono x1 s1⟩
        | false =>
          rw [if_neg Bool.false_ne_true] at e4 ⊢
          cases e4
          exact ret F1 ρ1 _ H1 x1 s1 a1 d1
      | [], hc => simp [chkE] at hc
      | [x], hc => simp [chkE] at hc
    | Or => simp [chkE] at hc
  | _ => simp [chkE] at hc
theorem se_or (ha : SE P Γ k a) (hb : SE P Γ k b) : SE P Γ k (.or a b) := fun X C e ok hc => by
  cases e with
  | BoolOp q xs pos =>
    cases q with
    | Or =>
      match xs, hc with
      | x :: y :: r, hc =>
        simp only [chkE, Bool.and_eq_true] at hc
        obtain ⟨h1, h2⟩ := hc
        have pb : PE X (.BoolOp .Or (y :: r) pos) (rE Γ b) := by
          cases r with
          | nil => exact pe_one (hb X C y ok h2)
          | cons z r => exact hb X C _ ok h2
        refine PE.weaken (pe_orT (ha X C x ok h1) pb) fun σ Hq Q q => ?_
        obtain ⟨F, ρ, st, h0, d, h1, at_, sr, e1, ret⟩ := q
        simp only [evalE] at e1
        obtain ⟨⟨y1, hy⟩, ey, e2⟩ := Option.bind_eq_some_iff.mp e1
        obtain ⟨b1, e3, e4⟩ := Option.bind_eq_some_iff.mp e2
        refine ⟨F, ρ, st, h0, y1, hy, at_, sr, ey, fun F1 ρ1 v H1 x1 s1 a1 d1 => ⟨b1, truV a1 d1 e3, ?_⟩⟩
        cases b1 with
        | false =>
          rw [if_neg Bool.false_ne_true] at e4 ⊢
          exact ⟨F1, ρ1, st, hy, d, _, a1, sr.mono x1 s1.sub, e4, ret.mono x1 s1⟩
        | true =>
          rw [if_pos rfl] at e4 ⊢
          cases e4
          exact ret F1 ρ1 _ H1 x1 s1 a1 d1
      | [], hc => simp [chkE] at hc
      | [x], hc => simp [chkE] at hc
    | And => simp [chkE] at hc
  | _ => simp [chkE] at hc
end
end Z

namespace Z
open PySem PySem.Spec PyProof.Rows L2
variable [KF]
section
variable {P : Txt} {Γ : G} {k : Nat} {t a b c l : T}
/-! tests -/
def SB (P : Txt) (Γ : G) (k : Nat) (t : T) : Prop := ∀ X C op xs pos, Cok P Γ k X C → chkE P C t (.BoolOp op xs pos) = true → PW X (.BoolOp op xs pos) (rT Γ t)
theorem test_and {s : S} {h : H} : test Γ (.and a b) s h = (test Γ a s h).bind fun r => if r.1 then test Γ b s r.2 else some (false, r.2) := by
  simp only [test, evalE]
  cases evalE Γ a s h with
  | none => rfl
  | some x =>
    obtain ⟨d, h1⟩ := x
    simp only [Option.bind_some]
    cases e : truthy h1 d with
    | none => rfl
    | some t =>
      cases t with
      | true => simp
      | false => simp [e]
theorem test_or {s : S} {h : H} : test Γ (.or a b) s h = (test Γ a s h).bind fun r => if r.1 then some (true, r.2) else test Γ b s r.2 := by
  simp only [test, evalE]
  cases evalE Γ a s h with
  | none => rfl
  | some x =>
    obtain ⟨d, h1⟩ := x
    simp only [Option.bind_some]
    cases e : truthy h1 d with
    | none => rfl
    | some t =>
      cases t with
      | true => simp [e]
      | false => simp
theorem test_ite {s : S} {h : H} : test Γ (.ite c a b) s h = (test Γ c s h).bind fun r => if r.1 then test Γ a s r.2 else test Γ b s r.2 := by
  simp only [test, evalE]
  cases evalE Γ c s h with
  | none => rfl
  | some x =>
    obtain ⟨d, h1⟩ := x
    simp only [Option.bind_some]
    cases e : truthy h1 d with
    | none => rfl
    | some t =>
      cases t with
      | true => simp
      | false => simp
theorem PW.weaken {X : Cx} {e : Expr} {t t' : TT} (h : PW X e t) (m : ∀ σ Hq Q, t' σ Hq Q → t σ Hq Q) : PW X e t' := ⟨fun whole pins s σ Hq Q I q => h.run whole pins s σ Hq Q I (m _ _ _ q)⟩
theorem sb_and (ha : ST P Γ k a) (hb : ST P Γ k b) (hb2 : SB P Γ k b) : SB P Γ k (.and a b) := fun X C op xs pos ok hc => by
  cases op with
  | Or => simp [chkE] at hc
  | And =>
    match xs, hc with
    | x :: y :: r, hc =>
      simp only [chkE, Bool.and_eq_true] at hc
      obtain ⟨h1, h2⟩ := hc
      have pb : PW X (.BoolOp .And (y :: r) pos) (rT Γ b) := by
        cases r with
        | nil => exact pw_and1 (hb X C y ok h2)
        | cons z r => exact hb2 X C _ _ _ ok h2
      refine PW.weaken (pw_and (ha X C x ok h1) pb) fun σ Hq Q q => ?_
      obtain ⟨F, ρ, st, h0, d, h1, at_, sr, e1, ret⟩ := q
      rw [test_and] at e1
      obtain ⟨⟨b1, h2⟩, e2, e3⟩ := Option.bind_eq_some_iff.mp e1
      refine ⟨F, ρ, st, h0, b1, h2, at_, sr, e2, fun F1 ρ1 H1 x1 s1 a1 => ?_⟩
      cases b1 with
      | true =>
        rw [if_pos rfl] at e3 ⊢
        exact ⟨F1, ρ1, st, h2, d, _, a1, sr.mono x1 s1.sub, e3, ret.mono x1 s1⟩
      | false =>
        rw [if_neg Bool.false_ne_true] at e3 ⊢
        cases e3
        exact ret F1 ρ1 H1 x1 s1 a1
    | [], hc => simp [chkE] at hc
    | [x], hc => simp [chkE] at hc
theorem sb_or (ha : ST P Γ k a) (hb : ST P Γ k b) (hb2 : SB P Γ k b) : SB P Γ k (.or a b) := fun X C op xs pos ok hc => by
  cases op with
  | And => simp [chkE] at hc
  | Or =>
    match xs, hc with
    | x :: y :: r, hc =>
      simp only [chkE, Bool.and_eq_true] at hc
      obtain ⟨h1, h2⟩ := hc
      have pb : PW X (.BoolOp .Or (y :: r) pos) (rT Γ b) := by
        cases r with
        | nil => exact pw_or1 (hb X C y ok h2)
        | cons z r => exact hb2 X C _ _ _ ok h2
      refine PW.weaken (pw_or (ha X C x ok h1) pb) fun σ Hq Q q => ?_
      obtain ⟨F, ρ, st, h0, d, h1, at_, sr, e1, ret⟩ := q
      rw [test_or] at e1
      obtain ⟨⟨b1, h2⟩, e2, e3⟩ := Option.bind_eq_some_iff.mp e1
      refine ⟨F, ρ, st, h0, b1, h2, at_, sr, e2, fun F1 ρ1 H1 x1 s1 a1 => ?_⟩
      cases b1 with
      | false =>
        rw [if_neg Bool.false_ne_true] at e3 ⊢
        exact ⟨F1, ρ1, st, h2, d, _, a1, sr.mono x1 s1.sub, e3, ret.mono x1 s1⟩
      | true =>
        rw [if_pos rfl] at e3 ⊢
        cases e3
        exact ret F1 ρ1 H1 x1 s1 a1
    | [], hc => simp [chkE] at hc
    | [x], hc => simp [chkE] at hc
theorem st_bool (hs : SB P Γ k t) (hf : ∀ C e, chkE P C t e = true → ∃ op xs pos, e = .BoolOp op xs pos) : ST P Γ k t := fun X C e ok hc => by
  obtain ⟨op, xs, pos, rfl⟩ := hf C e hc
  exact (hs X C op xs pos ok hc).pt
theorem se_cmp {o : Cmp} (ha : SE P Γ k a) (hb : SE P Γ k b) : SE P Γ k (.cmp o a b) := fun X C e ok hc => by
  cases e with
  | Compare x ops ys pos =>
    match ops, ys, hc with
    | [q], [y], hc =>
      simp only [chkE, Bool.and_eq_true] at hc
      obtain ⟨⟨⟨h1, h2⟩, h3⟩, h4⟩ := hc
      rw [cmpB_ok h1]
      refine PE.weaken (pe_cmpR (op_cmp ok.room o) (ha X C x ok h3) (hb X C y ok h4) (behind h2 _)) fun σ Hq Q q => ?_
      obtain ⟨F, ρ, st, h0, d, h1, at_, sr, e1, ret⟩ := q
      simp only [evalE] at e1
      obtain ⟨⟨x1, hx⟩, ex, e1⟩ := Option.bind_eq_some_iff.mp e1
      obtain ⟨⟨y1, hy⟩, ey, e1⟩ := Option.bind_eq_some_iff.mp e1
      simp only [Option.map_eq_some_iff, Prod.mk.injEq] at e1
      obtain ⟨z, ez, rfl, rfl⟩ := e1
      exact two_rd at_ sr ex ey fun F' ρ' v w Hr e s a d1 d2 => ⟨F', ρ', hy, x1, y1, z, a, d1, d2, ez, ret.mono e s⟩
    | [], _, hc => simp [chkE] at hc
    | _ :: _ :: _, [], hc => simp [chkE] at hc
    | _ :: _ :: _, [_], hc => simp [chkE] at hc
    | _ :: _ :: _, _ :: _ :: _, hc => simp [chkE] at hc
    | [_], [], hc => simp [chkE] at hc
    | [_], _ :: _ :: _, hc => simp [chkE] at hc
  | _ => simp [chkE] at hc
theorem st_cmp {o : Cmp} (ha : SE P Γ k a) (hb : SE P Γ k b) : ST P Γ k (.cmp o a b) := fun X C e ok hc => by
  cases e with
  | Compare x ops ys pos =>
    match ops, ys, hc with
    | [q], [y], hc =>
      simp only [chkE, Bool.and_eq_true] at hc
      obtain ⟨⟨⟨h1, h2⟩, h3⟩, h4⟩ := hc
      rw [cmpB_ok h1]
      refine PT.weaken (pt_cmpR (op_cmp ok.room o) (ha X C x ok h3) (hb X C y ok h4) (behind h2 _)) fun σ Hq Q q => ?_
      obtain ⟨F, ρ, st, h0, d, h1, at_, sr, e1, ret⟩ := q
      simp only [test, evalE] at e1
      obtain ⟨⟨x1, hx⟩, ex, e1⟩ := Option.bind_eq_some_iff.mp e1
      obtain ⟨⟨x2, hx2⟩, ex2, ex⟩ := Option.bind_eq_some_iff.mp ex
      obtain ⟨⟨y1, hy⟩, ey, ex⟩ := Option.bind_eq_some_iff.mp ex
      simp only [Option.map_eq_some_iff, Prod.mk.injEq] at e1 ex
      obtain ⟨z, ez, rfl, rfl⟩ := ex
      obtain ⟨b2, e4, rfl, rfl⟩ := e1
      simp only [truthy, Option.some.injEq] at e4
      subst e4
      exact two_rd at_ sr ex2 ey fun F' ρ' v w Hr e s a d1 d2 => ⟨F', ρ', hy, x2, y1, z, a, d1, d2, ez, fun F2 ρ2 v2 H2 e2 s2 a2 d2 => by
        cases d2
        exact ⟨z, rfl, ret F2 ρ2 H2 (e.trans e2) (s.trans s2) a2⟩⟩
    | [], _, hc => simp [chkE] at hc
    | _ :: _ :: _, [], hc => simp [chkE] at hc
    | _ :: _ :: _, [_], hc => simp [chkE] at hc
    | _ :: _ :: _, _ :: _ :: _, hc => simp [chkE] at hc
    | [_], [], hc => simp [chkE] at hc
    | [_], _ :: _ :: _, hc => simp [chkE] at hc
  | _ => simp [chkE] at hc
theorem chain_inv {o o' : Cmp} {C : CC} {e : Expr} (hc : chkE P C (.chain o o' a b c) e = true) : ∃ x y z pos, e = .Compare x [cmpOf o, cmpOf o'] [y, z] pos ∧ okForm y = true ∧ okForm z = true ∧ chkE P C a x = true ∧ chkE P C b y = true ∧ chkE P C c z = true := by
  cases e with
  | Compare x ops ys pos =>
    match ops, ys, hc with
    | [q, q'], [y, z], hc =>
      simp only [chkE, Bool.and_eq_true] at hc
      obtain ⟨⟨⟨⟨⟨⟨h1, h2⟩, h3⟩, h4⟩, h5⟩, h6⟩, h7⟩ := hc
      exact ⟨x, y, z, pos, by rw [cmpB_ok h1, cmpB_ok h2], h3, h4, h5, h6, h7⟩
    | [], _, hc => simp [chkE] at hc
    | [_], _, hc => simp [chkE] at hc
    | _ :: _ :: _ :: _, _, hc => simp [chkE] at hc
    | [_, _], [], hc => simp [chkE] at hc
    | [_, _], [_], hc => simp [chkE] at hc
    | [_, _], _ :: _ :: _ :: _, hc => simp [chkE] at hc
  | _ => simp [chkE] at hc
theorem chain_rd {o o' : Cmp} {σ : L2.St} {Hq : Hp} {Q : VK} (q : rE Γ (.chain o o' a b c) σ Hq Q) : tChain (rCmp o) (rCmp o') (rE Γ a) (rE Γ b) (rE Γ c) σ Hq Q := by
  obtain ⟨F, ρ, st, h0, d, h1, at_, sr, e1, ret⟩ := q
  simp only [evalE] at e1
  obtain ⟨⟨x1, hx⟩, ex, e1⟩ := Option.bind_eq_some_iff.mp e1
  obtain ⟨⟨y1, hy⟩, ey, e1⟩ := Option.bind_eq_some_iff.mp e1
  obtain ⟨t1, et, e1⟩ := Option.bind_eq_some_iff.mp e1
  refine ⟨F, ρ, st, h0, x1, hx, at_, sr, ex, fun F1 ρ1 v H1 e_1 s_1 a_1 d_1 => ⟨F1, ρ1, st, hx, y1, hy, a_1, sr.mono e_1 s_1.sub, ey, fun F2 ρ2 w H2 e_2 s_2 a_2 d_2 => ?_⟩⟩
  refine ⟨F2, ρ2, hy, x1, y1, t1, a_2, d_1.mono e_2 s_2.sub, d_2, et, fun F3 ρ3 z H3 e_3 s_3 a_3 d_3 => ?_⟩
  cases d_3
  refine ⟨t1, rfl, ?_⟩
  have eF := (e_1.trans e_2).trans e_3
  have sF := (s_1.trans s_2).trans s_3
  cases t1 with
  | true =>
    rw [if_pos rfl] at e1 ⊢
    obtain ⟨⟨z1, hz⟩, ez, e1⟩ := Option.bind_eq_some_iff.mp e1
    simp only [Option.map_eq_some_iff, Prod.mk.injEq] at e1
    obtain ⟨t2, et2, rfl, rfl⟩ := e1
    exact ⟨F3, ρ3, st, hy, z1, hz, a_3, sr.mono eF sF.sub, ez, fun F4 ρ4 u H4 e_4 s_4 a_4 d_4 => ⟨F4, ρ4, hz, y1, z1, t2, a_4, (d_2.mono e_3 s_3.sub).mono e_4 s_4.sub, d_4, et2, (ret.mono eF sF).mono e_4 s_4⟩⟩
  | false =>
    rw [if_neg Bool.false_ne_true] at e1 ⊢
    cases e1
    exact ret F3 ρ3 _ H3 eF sF a_3 (.bl _)
theorem se_chain {o o' : Cmp} (ha : SE P Γ k a) (hb : SE P Γ k b) (hcc : SE P Γ k c) : SE P Γ k (.chain o o' a b c) := fun X C e ok hc => by
  obtain ⟨x, y, z, pos, rfl, h2, h3, h4, h5, h6⟩ := chain_inv hc
  exact PE.weaken (pe_chain (op_cmp ok.room o) (op_cmp ok.room o') (ha X C x ok h4) (hb X C y ok h5) (hcc X C z ok h6) (behind h3 _)) fun σ Hq Q q => chain_rd q
theorem st_chain {o o' : Cmp} (ha : SE P Γ k a) (hb : SE P Γ k b) (hcc : SE P Γ k c) : ST P Γ k (.chain o o' a b c) := fun X C e ok hc => by
  obtain ⟨x, y, z, pos, rfl, h2, h3, h4, h5, h6⟩ := chain_inv hc
  refine PT.weaken (pt_chain (op_cmp ok.room o) (op_cmp ok.room o') (ha X C x ok h4) (hb X C y ok h5) (hcc X C z ok h6) (behind h3 _)) fun σ Hq Q q => ?_
  obtain ⟨F, ρ, st, h0, d, h1, at_, sr, e1, ret⟩ := q
  simp only [test] at e1
  obtain ⟨⟨x1, hx⟩, ex, e1⟩ := Option.bind_eq_some_iff.mp e1
  simp only [Option.map_eq_some_iff, Prod.mk.injEq] at e1
  obtain ⟨b1, e2, rfl, rfl⟩ := e1
  refine chain_rd ⟨F, ρ, st, h0, x1, hx, at_, sr, ex, fun F1 ρ1 v H1 e_1 s_1 a_1 d_1 => ?_⟩
  have isb : ∃ b, x1 = .bl b := by
    simp only [evalE] at ex
    obtain ⟨_, _, ex⟩ := Option.bind_eq_some_iff.mp ex
    obtain ⟨_, _, ex⟩ := Option.bind_eq_some_iff.mp ex
    obtain ⟨t1, _, ex⟩ := Option.bind_eq_some_iff.mp ex
    cases t1 with
    | true =>
      rw [if_pos rfl] at ex
      obtain ⟨_, _, ex⟩ := Option.bind_eq_some_iff.mp ex
      simp only [Option.map_eq_some_iff, Prod.mk.injEq] at ex
      obtain ⟨t, _, rfl, _⟩ := ex
      exact ⟨_, rfl⟩
    | false =>
      rw [if_neg Bool.false_ne_true] at ex
      cases ex
      exact ⟨_, rfl⟩
  obtain ⟨b2, rfl⟩ := isb
  simp only [truthy, Option.some.injEq] at e2
  subst e2
  cases d_1
  exact ⟨b2, rfl, ret F1 ρ1 H1 e_1 s_1 a_1⟩
theorem se_ite (hcc : ST P Γ k c) (ha : SE P Γ k a) (hb : SE P Γ k b) : SE P Γ k (.ite c a b) := fun X C e ok hc => by
  cases e with
  | IfExp x y z pos =>
    simp only [chkE, Bool.and_eq_true] at hc
    obtain ⟨⟨h1, h2⟩, h3⟩ := hc
    refine PE.weaken (pe_ifExp (hcc X C x ok h1) (ha X C y ok h2) (hb X C z ok h3)) fun σ Hq Q q => ?_
    obtain ⟨F, ρ, st, h0, d, h1, at_, sr, e1, ret⟩ := q
    simp only [evalE] at e1
    obtain ⟨⟨y1, hy⟩, ey, e2⟩ := Option.bind_eq_some_iff.mp e1
    obtain ⟨b1, e3, e4⟩ := Option.bind_eq_some_iff.mp e2
    refine ⟨F, ρ, st, h0, b1, hy, at_, sr, by rw [test_eq, ey]; simp [e3], fun F1 ρ1 H1 x1 s1 a1 => ?_⟩
    cases b1 with
    | true =>
      rw [if_pos rfl] at e4 ⊢
      exact ⟨F1, ρ1, st, hy, d, _, a1, sr.mono x1 s1.sub, e4, ret.mono x1 s1⟩
    | false =>
      rw [if_neg Bool.false_ne_true] at e4 ⊢
      exact ⟨F1, ρ1, st, hy, d, _, a1, sr.mono x1 s1.sub, e4, ret.mono x1 s1⟩
  | _ => simp [chkE] at hc
theorem st_ite (hcc : ST P Γ k c) (ha : ST P Γ k a) (hb : ST P Γ k b) : ST P Γ k (.ite c a b) := fun X C e ok hc => by
  cases e with
  | IfExp x y z pos =>
    simp only [chkE, Bool.and_eq_true] at hc
    obtain ⟨⟨g1, g2⟩, g3⟩ := hc
    refine ⟨fun pins s σ Hq Q I q => ?_⟩
    obtain ⟨F, ρ, st, h0, d, h1, at_, sr, e1, ret⟩ := q
    rw [test_ite] at e1
    obtain ⟨⟨b1, h2⟩, e2, e3⟩ := Option.bind_eq_some_iff.mp e1
    have pc := (hcc X C x ok g1).run pins s σ Hq (fun b' Hr => if b' = true then rT Γ a σ Hr Q else rT Γ b σ Hr Q) I ⟨F, ρ, st, h0, b1, h2, at_, sr, e2, fun F1 ρ1 H1 x1 s1 a1 => by
      cases b1 with
      | true =>
        rw [if_pos rfl] at e3 ⊢
        exact ⟨F1, ρ1, st, h2, d, _, a1, sr.mono x1 s1.sub, e3, ret.mono x1 s1⟩
      | false =>
        rw [if_neg Bool.false_ne_true] at e3 ⊢
        exact ⟨F1, ρ1, st, h2, d, _, a1, sr.mono x1 s1.sub, e3, ret.mono x1 s1⟩⟩
    have eq : PySem.isTrue (.IfExp x y z pos) X.env (eval (.IfExp x y z pos) X.env) = (do if ← PySem.isTrue x X.env (eval x X.env) then PySem.isTrue y X.env (eval y X.env) else PySem.isTrue z X.env (eval z X.env)) := by rfl
    rw [eq]
    refine wpAny_bind (thn pc fun b' s1 ⟨H1, I1, q1⟩ => ?_)
    cases b' with
    | true =>
      rw [if_pos rfl] at q1 ⊢
      exact (ha X C y ok g2).run pins s1 σ H1 Q I1 q1
    | false =>
      rw [if_neg Bool.false_ne_true] at q1 ⊢
      exact (hb X C z ok g3).run pins s1 σ H1 Q I1 q1
  | _ => simp [chkE] at hc
end
end Z

namespace Z
open PySem PySem.Spec PyProof.Rows L2
variable [KF]
section
variable {P : Txt} {Γ : G} {k : Nat} {t a b c l : T}
/-! arguments -/
theorem sa_nil : SA P Γ k .nil := fun X C es ok hc => by
  cases es with
  | nil =>
    refine PA.weaken pa_nil fun σ Hq Q q => ?_
    obtain ⟨F, ρ, st, h0, d, h1, at_, sr, e1, ret⟩ := q
    cases e1
    exact ret F ρ _ Hq (Ext.refl _) (Step.refl _ _ _) at_ .nil
  | cons e es => simp [chkA] at hc
theorem sa_cons (ha : SE P Γ k a) (hb : SA P Γ k b) : SA P Γ k (.cons a b) := fun X C es ok hc => by
  cases es with
  | nil => simp [chkA] at hc
  | cons e es =>
    simp only [chkA, Bool.and_eq_true] at hc
    obtain ⟨⟨h1, h2⟩, h3⟩ := hc
    refine PA.weaken (pa_cons (ha X C e ok h2) (hb X C es ok h3) (star_cons h1 _ _)) fun σ Hq Q q => ?_
    obtain ⟨F, ρ, st, h0, d, h1, at_, sr, e1, ret⟩ := q
    simp only [evalA] at e1
    obtain ⟨⟨x1, hx⟩, ex, e1⟩ := Option.bind_eq_some_iff.mp e1
    simp only [Option.map_eq_some_iff, Prod.mk.injEq] at e1
    obtain ⟨⟨ys, hy⟩, ey, rfl, rfl⟩ := e1
    exact ⟨F, ρ, st, h0, x1, hx, at_, sr, ex, fun F1 ρ1 v H1 x1 s1 a1 d1 => ⟨F1, ρ1, st, hx, ys, hy, a1, sr.mono x1 s1.sub, ey, fun F2 ρ2 vs H2 x2 s2 a2 d2 => ret F2 ρ2 _ H2 (x1.trans x2) (s1.trans s2) a2 (.cons (d1.mono x2 s2.sub) d2)⟩⟩
theorem sk_nil : SK P Γ k .nil := fun X C es ok hc => by
  cases es with
  | nil =>
    refine PK.weaken pk_nil fun σ Hq Q q => ?_
    obtain ⟨F, ρ, st, h0, d, h1, at_, sr, e1, ret⟩ := q
    cases e1
    exact ret F ρ _ Hq (Ext.refl _) (Step.refl _ _ _) at_ .nil
  | cons e es => simp [chkK] at hc
theorem sk_cons (ha : SE P Γ k a) (hb : SK P Γ k b) : SK P Γ k (.cons a b) := fun X C es ok hc => by
  cases es with
  | nil => simp [chkK] at hc
  | cons e es =>
    obtain ⟨nm, e, kp⟩ := e
    simp only [chkK, Bool.and_eq_true] at hc
    obtain ⟨h2, h3⟩ := hc
    refine PK.weaken (pk_cons (ha X C e ok h2) (hb X C es ok h3)) fun σ Hq Q q => ?_
    obtain ⟨F, ρ, st, h0, d, h1, at_, sr, e1, ret⟩ := q
    simp only [evalA] at e1
    obtain ⟨⟨x1, hx⟩, ex, e1⟩ := Option.bind_eq_some_iff.mp e1
    simp only [Option.map_eq_some_iff, Prod.mk.injEq] at e1
    obtain ⟨⟨ys, hy⟩, ey, rfl, rfl⟩ := e1
    exact ⟨F, ρ, st, h0, x1, hx, at_, sr, ex, fun F1 ρ1 v H1 x1 s1 a1 d1 => ⟨F1, ρ1, st, hx, ys, hy, a1, sr.mono x1 s1.sub, ey, fun F2 ρ2 vs H2 x2 s2 a2 d2 => ret F2 ρ2 _ H2 (x1.trans x2) (s1.trans s2) a2 (.cons (d1.mono x2 s2.sub) d2)⟩⟩
theorem evalA_len : ∀ {l : T} {s : S} {h : H} {ds : List D} {h1 : H}, evalA Γ l s h = some (ds, h1) → ds.length = lenT l
  | .nil, _, _, _, _, e => by cases e; rfl
  | .cons a b, s, h, ds, h1, e => by
    simp only [evalA] at e
    obtain ⟨⟨x1, hx⟩, ex, e1⟩ := Option.bind_eq_some_iff.mp e
    simp only [Option.map_eq_some_iff, Prod.mk.injEq] at e1
    obtain ⟨⟨ys, hy⟩, ey, rfl, rfl⟩ := e1
    simp [lenT, evalA_len ey]
  | .var _, _, _, _, _, e | .cst _, _, _, _, _, e | .gint _ _, _, _, _, _, e | .bin .., _, _, _, _, e | .neg _, _, _, _, _, e | .not _, _, _, _, _, e | .and _ _, _, _, _, _, e | .or _ _, _, _, _, _, e | .cmp .., _, _, _, _, e | .chain .., _, _, _, _, e | .ite .., _, _, _, _, e
  | .tup _, _, _, _, _, e | .lst _, _, _, _, _, e | .lstM _, _, _, _, _, e | .idx .., _, _, _, _, e | .slc .., _, _, _, _, e | .rev _, _, _, _, _, e | .call .., _, _, _, _, e | .callk .., _, _, _, _, e | .blt .., _, _, _, _, e | .isin .., _, _, _, _, e | .frz _, _, _, _, _, e
  | .app .., _, _, _, _, e | .lc .., _, _, _, _, e | .tv _, _, _, _, _, e | .tt _, _, _, _, _, e | .itv _, _, _, _, _, e | .rng1 _, _, _, _, _, e | .rng2 .., _, _, _, _, e | .skip, _, _, _, _, e | .seq .., _, _, _, _, e | .asg .., _, _, _, _, e | .asgc .., _, _, _, _, e
  | .par .., _, _, _, _, e | .asgT .., _, _, _, _, e | .asgI .., _, _, _, _, e | .aug .., _, _, _, _, e | .augI .., _, _, _, _, e | .ex _, _, _, _, _, e | .ifs .., _, _, _, _, e | .whl .., _, _, _, _, e | .for .., _, _, _, _, e | .ret _, _, _, _, _, e | .brk, _, _, _, _, e | .cnt, _, _, _, _, e | .nev, _, _, _, _, e => by simp [evalA] at e
theorem chkA_ok : ∀ {l : T} {C : CC} {es : List Expr}, chkA P C l es = true → es.all okForm = true ∧ lenT l = es.length
  | .nil, C, [], _ => ⟨rfl, rfl⟩
  | .nil, C, e :: es, h => by simp [chkA] at h
  | .cons a b, C, [], h => by simp [chkA] at h
  | .cons a b, C, e :: es, h => by
    simp only [chkA, Bool.and_eq_true] at h
    obtain ⟨i1, i2⟩ := chkA_ok h.2
    simp [h.1.1, i1, lenT, i2]
  | .var _, _, _, e | .cst _, _, _, e | .gint _ _, _, _, e | .bin .., _, _, e | .neg _, _, _, e | .not _, _, _, e | .and _ _, _, _, e | .or _ _, _, _, e | .cmp .., _, _, e | .chain .., _, _, e | .ite .., _, _, e
  | .tup _, _, _, e | .lst _, _, _, e | .lstM _, _, _, e | .idx .., _, _, e | .slc .., _, _, e | .rev _, _, _, e | .call .., _, _, e | .callk .., _, _, e | .blt .., _, _, e | .isin .., _, _, e | .frz _, _, _, e
  | .app .., _, _, e | .lc .., _, _, e | .tv _, _, _, e | .tt _, _, _, e | .itv _, _, _, e | .rng1 _, _, _, e | .rng2 .., _, _, e | .skip, _, _, e | .seq .., _, _, e | .asg .., _, _, e | .asgc .., _, _, e
  | .par .., _, _, e | .asgT .., _, _, e | .asgI .., _, _, e | .aug .., _, _, e | .augI .., _, _, e | .ex _, _, _, e | .ifs .., _, _, e | .whl .., _, _, e | .for .., _, _, e | .ret _, _, _, e | .brk, _, _, e | .cnt, _, _, e | .nev, _, _, e => by simp [chkA] at e

/-! containers -/
theorem se_tup (hl : SA P Γ k l) : SE P Γ k (.tup l) := fun X C e ok hc => by
  cases e with
  | Tuple es j pos =>
    simp only [chkE] at hc
    refine PE.weaken (pe_tup (hl X C es ok hc)) fun σ Hq Q q => ?_
    obtain ⟨F, ρ, st, h0, d, h1, at_, sr, e1, ret⟩ := q
    simp only [evalE] at e1
    obtain ⟨⟨ds, hx⟩, ex, e1⟩ := Option.bind_eq_some_iff.mp e1
    obtain ⟨ps, ep, e1⟩ := Option.bind_eq_some_iff.mp e1
    simp only [Option.ite_none_right_eq_some, Option.some.injEq, Prod.mk.injEq] at e1
    obtain ⟨hz, rfl, rfl⟩ := e1
    refine ⟨F, ρ, st, h0, ds, _, at_, sr, ex, fun F1 ρ1 vs H1 x1 s1 a1 d1 => ?_⟩
    have dq := d1.dats ep
    exact ⟨by rw [dq.len]; exact hz, (ret.mono x1 s1).tup a1 dq⟩
  | _ => simp [chkE] at hc
theorem se_lst (hl : SA P Γ k l) : SE P Γ k (.lst l) := fun X C e ok hc => by
  cases e with
  | List es pos =>
    simp only [chkE] at hc
    refine PE.weaken (pe_lst (hl X C es ok hc)) fun σ Hq Q q => ?_
    obtain ⟨F, ρ, st, h0, d, h1, at_, sr, e1, ret⟩ := q
    simp only [evalE] at e1
    obtain ⟨⟨ds, hx⟩, ex, e1⟩ := Option.bind_eq_some_iff.mp e1
    obtain ⟨ps, ep, e1⟩ := Option.bind_eq_some_iff.mp e1
    simp only [Option.ite_none_right_eq_some, Option.some.injEq, Prod.mk.injEq] at e1
    obtain ⟨hz, rfl, rfl⟩ := e1
    refine ⟨F, ρ, st, h0, ds, _, at_, sr, ex, fun F1 ρ1 vs H1 x1 s1 a1 d1 => ?_⟩
    have dq := d1.dats ep
    exact ⟨by rw [dq.len]; exact hz, (ret.mono x1 s1).lst a1 dq⟩
  | _ => simp [chkE] at hc
def rAddM : R2 := fun x y Hq Q => ∃ F ρ h a b l m, At F ρ h Hq ∧ DV F ρ a x ∧ DV F ρ b y ∧ datOf h a = some (.list l) ∧ datOf h b = some (.list m) ∧ l.length + m.length ≤ sizeLine ∧ Ret F ρ Hq (.ref h.length) (h ++ [.lst ((l ++ m).map .dat)]) Q
theorem op_addM {X : Cx} : OpR X (binaryOp (opOf .add)) rAddM := by
  intro pins s σ Hq x y v u Q I rx ry q
  obtain ⟨F, ρ, h, a, b, l, m, at_, ra, rb, e1, e2, hz, ret⟩ := q
  obtain ⟨p, vs, rfl, g1, g2⟩ := datOf_list at_ ra e1
  obtain ⟨p', vs', rfl, g1', g2'⟩ := datOf_list at_ rb e2
  have la := g2.len
  have lb := g2'.len
  refine op_cat pins s σ Hq _ _ v u Q I rx ry ⟨_, _, _, _, rfl, rfl, g1, g1', by omega, fun r hr => ?_⟩
  refine ret F (ρ ++ [r]) _ _ (Ext.refl _) (Step.alloc hr) (at_.alloc hr (DVs.of_dats (g2.append g2'))) ⟨r, ?_, rfl⟩
  rw [← at_.len, getl]
theorem se_addM (ha : SE P Γ k a) (hb : SE P Γ k b) : SE P Γ k (.addM a b) := fun X C e ok hc => by
  cases e with
  | BinOp x q y pos =>
    simp only [chkE, Bool.and_eq_true] at hc
    obtain ⟨⟨h1, h2⟩, h3⟩ := hc
    rw [opB_ok h1]
    refine PE.weaken (pe_op op_addM (ha X C x ok h2) (hb X C y ok h3)) fun σ Hq Q q => ?_
    obtain ⟨F, ρ, st, h0, d, h1, at_, sr, e1, ret⟩ := q
    simp only [evalE] at e1
    obtain ⟨⟨x1, hx⟩, ex, e1⟩ := Option.bind_eq_some_iff.mp e1
    obtain ⟨⟨y1, hy⟩, ey, e1⟩ := Option.bind_eq_some_iff.mp e1
    simp only at e1 ey
    split at e1
    · rename_i l m d1 d2
      simp only [Option.ite_none_right_eq_some, Option.some.injEq, Prod.mk.injEq] at e1
      obtain ⟨hz, rfl, rfl⟩ := e1
      exact two_rd at_ sr ex ey fun F' ρ' v w Hr e s a b1 b2 => ⟨F', ρ', hy, x1, y1, l, m, a, b1, b2, d1, d2, hz, ret.mono e s⟩
    · cases e1
  | _ => simp [chkE] at hc
theorem se_lstM (hl : SA P Γ k l) : SE P Γ k (.lstM l) := fun X C e ok hc => by
  cases e with
  | List es pos =>
    simp only [chkE] at hc
    refine PE.weaken (pe_lst (hl X C es ok hc)) fun σ Hq Q q => ?_
    obtain ⟨F, ρ, st, h0, d, h1, at_, sr, e1, ret⟩ := q
    simp only [evalE] at e1
    obtain ⟨⟨ds, hx⟩, ex, e1⟩ := Option.bind_eq_some_iff.mp e1
    simp only at e1
    split at e1 <;> cases e1
    rename_i hz
    refine ⟨F, ρ, st, h0, ds, _, at_, sr, ex, fun F1 ρ1 vs H1 x1 s1 a1 d1 => ⟨by rw [← d1.len]; exact hz, fun p hp => ?_⟩⟩
    refine ret F1 (ρ1 ++ [p]) _ _ x1 (s1.trans (Step.alloc hp)) (a1.alloc hp d1) ⟨p, ?_, rfl⟩
    rw [← a1.len]
    exact getl
  | _ => simp [chkE] at hc
theorem se_idx (ha : SE P Γ k a) (hb : SE P Γ k b) : SE P Γ k (.idx a b) := fun X C e ok hc => by
  cases e with
  | Subscript x y pos =>
    simp only [chkE, Bool.and_eq_true] at hc
    obtain ⟨⟨h1, h2⟩, h3⟩ := hc
    refine PE.weaken (pe_ix ix_z (ha X C x ok h2) (hb X C y ok h3) (plain_ix h1)) fun σ Hq Q q => ?_
    obtain ⟨F, ρ, st, h0, d, h1, at_, sr, e1, ret⟩ := q
    simp only [evalE] at e1
    obtain ⟨⟨x1, hx⟩, ex, e1⟩ := Option.bind_eq_some_iff.mp e1
    obtain ⟨⟨y1, hy⟩, ey, e1⟩ := Option.bind_eq_some_iff.mp e1
    simp only [Option.map_eq_some_iff, Prod.mk.injEq] at e1
    obtain ⟨z, ez, rfl, rfl⟩ := e1
    exact two_rd at_ sr ex ey fun F' ρ' v w Hr e s a d1 d2 => ⟨F', ρ', hy, x1, y1, z, a, d1, d2, ez, ret.mono e s⟩
  | _ => simp [chkE] at hc
theorem sp_nil : SP' P Γ k .nil := fun X C e ok hc => by
  cases e with
  | none =>
    refine PO.weaken po_none fun σ Hq Q q => ?_
    obtain ⟨F, ρ, st, h0, d, h1, at_, sr, e1, ret⟩ := q
    cases e1
    exact ret F ρ Hq (Ext.refl _) (Step.refl _ _ _) at_
  | some e => simp [chkP] at hc
theorem sp_one (ha : SE P Γ k a) : SP' P Γ k (.cons a b) := fun X C e ok hc => by
  cases e with
  | none => cases b <;> cases hc
  | some e =>
    cases b <;> simp only [chkP] at hc
    all_goals first
      | (exact absurd hc Bool.false_ne_true)
      | skip
    refine PO.weaken (po_some (ha X C e ok hc)) fun σ Hq Q q => ?_
    obtain ⟨F, ρ, st, h0, o, h1, at_, sr, e1, ret⟩ := q
    simp only [evalP] at e1
    obtain ⟨⟨x1, hx⟩, ex, e1⟩ := Option.bind_eq_some_iff.mp e1
    simp only [Option.map_eq_some_iff, Prod.mk.injEq] at e1
    obtain ⟨z, ez, rfl, rfl⟩ := e1
    refine ⟨F, ρ, st, h0, x1, hx, at_, sr, ex, fun F1 ρ1 v H1 x1 s1 a1 d1 => ?_⟩
    unfold partD at ez
    split at ez <;> cases ez
    cases d1
    exact ⟨_, rfl, ret F1 ρ1 H1 x1 s1 a1⟩
theorem se_slc (ha : SE P Γ k a) (hb : SP' P Γ k b) (hcc : SP' P Γ k c) : SE P Γ k (.slc a b c) := fun X C e ok hc => by
  cases e with
  | Subscript x y pos =>
    cases y with
    | Slice lo hi st ps =>
      cases st with
      | some z => simp [chkE] at hc
      | none =>
        simp only [chkE, Bool.and_eq_true] at hc
        obtain ⟨⟨h1, h2⟩, h3⟩ := hc
        refine PE.weaken (pe_slice sl_z (ha X C x ok h1) (hb X C lo ok h2) (hcc X C hi ok h3)) fun σ Hq Q q => ?_
        obtain ⟨F, ρ, st, h0, d, h1, at_, sr, e1, ret⟩ := q
        simp only [evalE] at e1
        obtain ⟨⟨x1, hx⟩, ex, e1⟩ := Option.bind_eq_some_iff.mp e1
        obtain ⟨⟨y1, hy⟩, ey, e1⟩ := Option.bind_eq_some_iff.mp e1
        obtain ⟨⟨z1, hz⟩, ez, e1⟩ := Option.bind_eq_some_iff.mp e1
        simp only [Option.map_eq_some_iff, Prod.mk.injEq] at e1
        obtain ⟨w, ew, rfl, rfl⟩ := e1
        refine ⟨F, ρ, st, h0, x1, hx, at_, sr, ex, fun F1 ρ1 v H1 e_1 s_1 a_1 d_1 => ⟨F1, ρ1, st, hx, y1, hy, a_1, sr.mono e_1 s_1.sub, ey, fun F2 ρ2 H2 e_2 s_2 a_2 => ⟨F2, ρ2, st, hy, z1, hz, a_2, (sr.mono e_1 s_1.sub).mono e_2 s_2.sub, ez, fun F3 ρ3 H3 e_3 s_3 a_3 => ?_⟩⟩⟩
        exact ⟨F3, ρ3, hz, x1, w, a_3, (d_1.mono e_2 s_2.sub).mono e_3 s_3.sub, ew, ret.mono ((e_1.trans e_2).trans e_3) ((s_1.trans s_2).trans s_3)⟩
    | _ => simp [chkE] at hc
  | _ => simp [chkE] at hc
end
end Z

namespace Z
open PySem PySem.Spec PyProof.Rows L2
variable [KF]
section
variable {P : Txt} {Γ : G} {k : Nat} {t a b c l : T}
/-! calls -/
theorem se_call {g : Nat} (hl : SA P Γ k l) : SE P Γ k (.call g l) := fun X C e ok hc => by
  cases e with
  | Call fe es kws pos =>
    cases fe with
    | Name x p =>
      match es, kws, hc with
      | e :: es, [], hc =>
        simp only [chkE, Bool.and_eq_true, decide_eq_true_eq] at hc
        obtain ⟨⟨h1, h2⟩, h3⟩ := hc
        obtain ⟨⟨x', ps⟩, hg, rfl⟩ := Option.map_eq_some_iff.mp h2
        obtain ⟨f, fd, hm, hk, F, pl, hlen⟩ := ok.W.fns g x' ps hg
        obtain ⟨g1, g2⟩ := ok.gl h1
        have hf := (chkA_ok h3).1
        simp only [List.all_cons, Bool.and_eq_true] at hf
        refine PE.weaken (pe_call F ok.room g1 hm hk pl.binds .nil pass0 (hl X C _ ok h3) g2 (star_cons hf.1 _ _) (star_any _ _ hf.2)) fun σ Hq Q q => ?_
        obtain ⟨F, ρ, st, h0, d, h1, at_, sr, e1, ret⟩ := q
        simp only [evalE] at e1
        obtain ⟨⟨ds, hx⟩, ex, e1⟩ := Option.bind_eq_some_iff.mp e1
        refine ⟨F, ρ, st, h0, ds, hx, at_, sr, ex, fun F1 ρ1 vs H1 x1 s1 a1 d1 => ?_⟩
        show spOf Γ g ps.length (vs ++ []) H1 Q E0
        rw [List.append_nil]
        exact ⟨F1, ρ1, ds, hx, d, h1, by rw [← d1.len]; exact hlen _ _ _ e1, a1, d1, e1, ret.mono x1 s1⟩
      | [], _, hc => simp [chkE] at hc
      | _ :: _, _ :: _, hc => simp [chkE] at hc
    | _ => simp [chkE] at hc
  | _ => simp [chkE] at hc
theorem names_kw : ∀ {kws : List Keyword} {ks : List Str} (pos : Pos) (env : Env), namesOf kws = some ks → (backToKw pos (keywordEach kws env)).all (·.1.isSome) = true ∧ (backToKw pos (keywordEach kws env)).filterMap (·.1) = ks ∧ (backToKw pos (keywordEach kws env)).any (·.1.isNone) = false ∧ kws.length = ks.length
  | [], ks, pos, env, h => by cases h; exact ⟨rfl, rfl, rfl, rfl⟩
  | ⟨some x, e, p⟩ :: r, ks, pos, env, h => by
    simp only [namesOf, Option.map_eq_some_iff] at h
    obtain ⟨ks', h1, rfl⟩ := h
    obtain ⟨i1, i2, i3, i4⟩ := names_kw pos env h1
    unfold backToKw at i1 i2 i3 ⊢
    refine ⟨?_, ?_, ?_, by simp [i4]⟩
    · rw [keywordEach, List.map_cons, List.all_cons, i1]; rfl
    · rw [keywordEach, List.map_cons, List.filterMap_cons, i2]
    · rw [keywordEach, List.map_cons, List.any_cons, i3]; rfl
  | ⟨none, e, p⟩ :: r, ks, pos, env, h => by simp [namesOf] at h
theorem chkK_len : ∀ {l : T} {C : CC} {es : List Keyword}, chkK P C l es = true → lenT l = es.length
  | .nil, C, [], _ => rfl
  | .nil, C, e :: es, h => by simp [chkK] at h
  | .cons a b, C, [], h => by simp [chkK] at h
  | .cons a b, C, ⟨_, e, _⟩ :: es, h => by
    simp only [chkK, Bool.and_eq_true] at h
    simp [lenT, chkK_len h.2]
  | .var _, _, _, e | .cst _, _, _, e | .gint _ _, _, _, e | .bin .., _, _, e | .neg _, _, _, e | .not _, _, _, e | .and _ _, _, _, e | .or _ _, _, _, e | .cmp .., _, _, e | .chain .., _, _, e | .ite .., _, _, e
  | .tup _, _, _, e | .lst _, _, _, e | .lstM _, _, _, e | .idx .., _, _, e | .slc .., _, _, e | .rev _, _, _, e | .call .., _, _, e | .callk .., _, _, e | .blt .., _, _, e | .isin .., _, _, e | .frz _, _, _, e
  | .app .., _, _, e | .lc .., _, _, e | .tv _, _, _, e | .tt _, _, _, e | .itv _, _, _, e | .rng1 _, _, _, e | .rng2 .., _, _, e | .skip, _, _, e | .seq .., _, _, e | .asg .., _, _, e | .asgc .., _, _, e
  | .par .., _, _, e | .asgT .., _, _, e | .asgI .., _, _, e | .aug .., _, _, e | .augI .., _, _, e | .ex _, _, _, e | .ifs .., _, _, e | .whl .., _, _, e | .for .., _, _, e | .ret _, _, _, e | .brk, _, _, e | .cnt, _, _, e | .nev, _, _, e => by simp [chkK] at e
/-- f(k = v, ..) -/
theorem pe_callN0 {X : Cx} {CX : CXT} {k : Nat} {f : Addr} {fd : FuncData} {ps ks : List Str} {sp : Sp} {E : XK} {x : Str} {p pos : Pos} {kws : List Keyword} {tk : TA} {g : List Value → List Value → List Value} {gV : List V → List V → List V}
    (F : FnOk X.prog X.w X.K X.mg X.base CX k f fd ps sp) (hr : Room k X.A) (hg : Gl X x) (hm : X.mg x = some (.ref f)) (hk : PySem.W.keepIn X.K (.ref f) = true) (hb : KBn X.K fd ps 0 ks g gV) (hx : Passes CX X E)
    (hkw : PK X kws tk) (hall : (backToKw pos (keywordEach kws X.env)).all (·.1.isSome) = true) (hks : (backToKw pos (keywordEach kws X.env)).filterMap (·.1) = ks)
    (hdb : (x == ("__debug__" : Str)) = false) (hno : (backToKw pos (keywordEach kws X.env)).any (·.1.isNone) = false) :
    PE X (.Call (.Name x p) [] kws pos) (tCallN 0 ks.length sp gV E tNil tk) := by
  refine ⟨fun pins s σ Hq Q I h => ?_⟩
  refine wpAny_Call_Name_kw (ld_glob I hg hm ?_ hdb)
  refine PySem.W.callWith_KW0 (h₀ := X.base) I.ok.mod.kin hk hall (thn (hkw.run pos pins s σ Hq _ I h) fun ws s2 ⟨zs, H2, I2, rz, l1, l2, q2⟩ => ⟨I2.kIn, ?_⟩) (by rw [hno]; rfl)
  rw [hks]
  exact run_fnN (us := []) (vs := []) F hr hb hx I2 .nil rz rfl l2 q2
theorem se_callk {g : Nat} {ks : List Str} {perm : List Nat} (hl : SA P Γ k l) (hk2 : SK P Γ k b) : SE P Γ k (.callk g l ks b perm) := fun X C e ok hc => by
  cases e with
  | Call fe es kws pos =>
    cases fe with
    | Name x p =>
      simp only [chkE] at hc
      split at hc
      · rename_i y ps hg
        simp only [Bool.and_eq_true, decide_eq_true_eq] at hc
        obtain ⟨⟨⟨⟨⟨h1, rfl⟩, h3⟩, h4⟩, h5⟩, h6⟩ := hc
        obtain ⟨f, fd, hm, hk, F, pl, hlen⟩ := ok.W.fns g x ps hg
        obtain ⟨g1, g2⟩ := ok.gl h1
        obtain ⟨n1, n2, n3, n4⟩ := names_kw pos X.env h3
        obtain ⟨hf, hf2⟩ := chkA_ok h5
        have kb := pl.kbn (K := X.K) h4
        have hk3 := chkK_len h6
        have fin : ∀ (σ : L2.St) Hq Q, rE Γ (.callk g l ks b perm) σ Hq Q → tCallN (lenT l) ks.length (spOf Γ g ps.length) (fun us ws => permV (us ++ ws) perm) E0 (rA Γ l) (rA Γ b) σ Hq Q := fun σ Hq Q q => by
          obtain ⟨F, ρ, st, h0, d, h1, at_, sr, e1, ret⟩ := q
          simp only [evalE] at e1
          obtain ⟨⟨ds, hx⟩, ex, e1⟩ := Option.bind_eq_some_iff.mp e1
          obtain ⟨⟨es, hy⟩, ey, e1⟩ := Option.bind_eq_some_iff.mp e1
          refine ⟨F, ρ, st, h0, ds, hx, at_, sr, ex, fun F1 ρ1 vs H1 x1 s1 a1 d1 => ⟨F1, ρ1, st, hx, es, hy, a1, sr.mono x1 s1.sub, ey, fun F2 ρ2 ws H2 x2 s2 a2 d2 => ⟨?_, ?_, F2, ρ2, permD (ds ++ es) perm, hy, d, h1, ?_, a2, ?_, e1, ret.mono (x1.trans x2) (s1.trans s2)⟩⟩⟩
          · rw [← d1.len, evalA_len ex]
          · rw [← d2.len, evalA_len ey, hk3, n4]
          · have dd := DVs.perm ((DVs.mono x2 s2.sub d1).append d2) perm
            rw [← dd.len]
            exact hlen _ _ _ e1
          · exact DVs.perm ((DVs.mono x2 s2.sub d1).append d2) perm
        cases es with
        | nil =>
          rw [hf2] at kb fin
          refine PE.weaken (pe_callN0 F ok.room g1 hm hk kb pass0 (hk2 X C _ ok h6) n1 n2 g2 n3) fun σ Hq Q q => ?_
          obtain ⟨F, ρ, st, h0, ds, hx, at_, sr, ex, rest⟩ := fin σ Hq Q q
          have l0 : l = .nil := by
            cases l <;> first | rfl | (simp [lenT] at hf2; done) | (simp [chkA] at h5; done)
          subst l0
          cases ex
          exact rest F ρ [] Hq (Ext.refl _) (Step.refl _ _ _) at_ .nil
        | cons e es =>
          simp only [List.all_cons, Bool.and_eq_true] at hf
          exact PE.weaken (pe_callN F ok.room g1 hm hk kb pass0 (hl X C _ ok h5) (hk2 X C _ ok h6) n1 n2 g2 (star_cons hf.1 _ _) (by rw [n3, star_any _ _ (by simp [hf.1, hf.2])]; rfl)) fin
      · cases hc
    | _ => simp [chkE] at hc
  | _ => simp [chkE] at hc
where DVs.perm {F : Hp} {ρ : List Addr} {ds : List D} {vs : List V} (r : DVs F ρ ds vs) : ∀ perm : List Nat, DVs F ρ (permD ds perm) (permV vs perm)
  | [] => .nil
  | q :: rest => by
    have ih := DVs.perm r rest
    unfold permD permV at ih ⊢
    rw [List.filterMap_cons, List.filterMap_cons]
    cases e : ds[q]? with
    | none =>
      have e2 : vs[q]? = none := by rw [List.getElem?_eq_none_iff] at e ⊢; rw [← r.len]; exact e
      rw [e2]
      exact ih
    | some x =>
      obtain ⟨v, ev, dv⟩ := r.get e
      rw [ev]
      exact .cons dv ih
theorem boot_blt (b : Blt) : bootBuiltins (bltN b) = some (bltV b) := by cases b <;> decide +kernel
theorem bltN_name (b : Blt) : bltN b ≠ "__name__" := by cases b <;> decide
theorem se_blt {f : Blt} (hl : SA P Γ k l) : SE P Γ k (.blt f l) := fun X C e ok hc => by
  cases e with
  | Call fe es kws pos =>
    cases fe with
    | Name x p =>
      match es, kws, hc with
      | e :: es, [], hc =>
        simp only [chkE, Bool.and_eq_true, decide_eq_true_eq] at hc
        obtain ⟨⟨h1, rfl⟩, h3⟩ := hc
        obtain ⟨g1, g2⟩ := ok.gl h1
        have hf := (chkA_ok h3).1
        simp only [List.all_cons, Bool.and_eq_true] at hf
        have rd : ∀ σ Hq Q, rE Γ (.blt f l) σ Hq Q → tCB (rBlt f) (rA Γ l) σ Hq Q := fun σ Hq Q q => by
          obtain ⟨F, ρ, st, h0, d, h1, at_, sr, e1, ret⟩ := q
          simp only [evalE] at e1
          obtain ⟨⟨ds, hx⟩, ex, e1⟩ := Option.bind_eq_some_iff.mp e1
          simp only [Option.map_eq_some_iff, Prod.mk.injEq] at e1
          obtain ⟨z, ez, rfl, rfl⟩ := e1
          exact ⟨F, ρ, st, h0, ds, hx, at_, sr, ex, fun F1 ρ1 vs H1 x1 s1 a1 d1 => ⟨F1, ρ1, hx, ds, z, a1, d1, ez, ret.mono x1 s1⟩⟩
        have hb := boot_blt f
        have hz := blt_z ok.W.kf ok.calm f
        have pa := hl X C _ ok h3
        have m := ok.W.blt f
        have hn := bltN_name f
        cases f with
        | tuple => exact PE.weaken (pe_callTy hz g1 m hb pa hn g2 (star_cons hf.1 _ _) (star_any _ _ hf.2)) rd
        | list => exact PE.weaken (pe_callTy hz g1 m hb pa hn g2 (star_cons hf.1 _ _) (star_any _ _ hf.2)) rd
        | int => exact PE.weaken (pe_callTy hz g1 m hb pa hn g2 (star_cons hf.1 _ _) (star_any _ _ hf.2)) rd
        | len => exact PE.weaken (pe_callB hz g1 m hb pa hn g2 (star_cons hf.1 _ _) (star_any _ _ hf.2)) rd
        | sum => exact PE.weaken (pe_callB hz g1 m hb pa hn g2 (star_cons hf.1 _ _) (star_any _ _ hf.2)) rd
        | all => exact PE.weaken (pe_callB hz g1 m hb pa hn g2 (star_cons hf.1 _ _) (star_any _ _ hf.2)) rd
        | any => exact PE.weaken (pe_callB hz g1 m hb pa hn g2 (star_cons hf.1 _ _) (star_any _ _ hf.2)) rd
        | max2 => exact PE.weaken (pe_callB hz g1 m hb pa hn g2 (star_cons hf.1 _ _) (star_any _ _ hf.2)) rd
        | min2 => exact PE.weaken (pe_callB hz g1 m hb pa hn g2 (star_cons hf.1 _ _) (star_any _ _ hf.2)) rd
        | abs => exact PE.weaken (pe_callB hz g1 m hb pa hn g2 (star_cons hf.1 _ _) (star_any _ _ hf.2)) rd
      | [], _, hc => simp [chkE] at hc
      | _ :: _, _ :: _, hc => simp [chkE] at hc
    | _ => simp [chkE] at hc
  | _ => simp [chkE] at hc
end
end Z

namespace Z
open PySem PySem.Spec PyProof.Rows L2
variable [KF]
section
variable {P : Txt} {Γ : G} {k : Nat} {t a b c l : T}
/-! isinstance -/
theorem boot_ty (t : Ty) : bootBuiltins (Str.ofString (tyName t)) = some (.type (tyName t)) := by cases t <;> decide +kernel
theorem ty_name (t : Ty) : (Str.ofString (tyName t)) ≠ "__name__" := by cases t <;> decide
theorem pe_ty {X : Cx} {C : CC} (ok : Cok P Γ k X C) {t : Ty} {p : Pos} (h : glb C.sc (Str.ofString (tyName t)) = true) : PE X (.Name (Str.ofString (tyName t)) p) (tC (.ty (tyName t))) := by
  obtain ⟨g1, g2⟩ := ok.gl h
  exact pe_bltn g1 (ok.W.tys t) (boot_ty t) rfl (ty_name t) g2
def tTys : List Ty → TA
  | [] => tNil
  | t :: ts => tCons (tC (.ty (tyName t))) (tTys ts)
theorem pa_tys {X : Cx} {C : CC} (ok : Cok P Γ k X C) : ∀ {ts : List Ty} {es : List Expr}, tysOk C.sc ts es = true → PA X es (tTys ts)
  | [], [], _ => pa_nil
  | [], _ :: _, h => by simp [tysOk] at h
  | _ :: _, [], h => by simp [tysOk] at h
  | t :: ts, e :: es, h => by
    cases e with
    | Name x p =>
      simp only [tysOk, Bool.and_eq_true, decide_eq_true_eq] at h
      obtain ⟨⟨rfl, h2⟩, h3⟩ := h
      exact pa_cons (pe_ty ok h2) (pa_tys ok h3) rfl
    | _ => simp [tysOk] at h
theorem tTys_go : ∀ {ts : List Ty} {σ : L2.St} {Hq : Hp} {Q : List V → Hp → Prop}, Q (ts.map fun t => .ty (tyName t)) Hq → tTys ts σ Hq Q
  | [], _, _, _, h => h
  | t :: ts, σ, Hq, Q, h => tTys_go (ts := ts) (Q := fun xs H2 => Q (.ty (tyName t) :: xs) H2) h
theorem clsV_tys : ∀ ts : List Ty, Paired ClsV (ts.map fun t => V.ty (tyName t)) (ts.map fun t => Value.type (tyName t))
  | [] => .nil
  | t :: ts => .cons (.ty _) (clsV_tys ts)
theorem isTys_some : ∀ {ts : List Ty} {d : D} {h : H} {b : Bool}, ts ≠ [] → isTys ts d h = some b → ∃ t b', isTy t d h = some b'
  | [], _, _, _, hn, _ => absurd rfl hn
  | t :: ts, d, h, b, _, e => by
    simp only [isTys] at e
    obtain ⟨b', e1, _⟩ := Option.bind_eq_some_iff.mp e
    exact ⟨t, b', e1⟩
theorem se_isin {ts : List Ty} {many : Bool} (ha : SE P Γ k a) : SE P Γ k (.isin a ts many) := fun X C e ok hc => by
  cases e with
  | Call fe es kws pos =>
    cases fe with
    | Name x p =>
      match es, kws, hc with
      | [e, cl], [], hc =>
        simp only [chkE, Bool.and_eq_true, decide_eq_true_eq] at hc
        obtain ⟨⟨⟨⟨h1, rfl⟩, h3⟩, h4⟩, h5⟩ := hc
        obtain ⟨g1, g2⟩ := ok.gl h1
        have hb : bootBuiltins "isinstance" = some (.builtin "isinstance") := by decide +kernel
        cases many with
        | false =>
          match ts, h5 with
          | [t], h5 =>
            cases cl with
            | Name y py =>
              have pt := pa_tys ok (ts := [t]) (es := [.Name y py]) h5
              refine PE.weaken (pe_callB call_isi g1 ok.W.isi hb (pa_cons (ha X C e ok h3) pt (star_cons h4 _ _)) (by decide) g2 (star_cons h4 _ _) rfl) fun σ Hq Q q => ?_
              obtain ⟨F, ρ, st, h0, d, h1, at_, sr, e1, ret⟩ := q
              simp only [evalE] at e1
              obtain ⟨⟨x1', hx⟩, ex, e1⟩ := Option.bind_eq_some_iff.mp e1
              simp only [Option.map_eq_some_iff, Prod.mk.injEq] at e1
              obtain ⟨z, ez, rfl, rfl⟩ := e1
              refine ⟨F, ρ, st, h0, x1', hx, at_, sr, ex, fun F1 ρ1 v H1 x1 s1 a1 d1 => tTys_go ?_⟩
              obtain ⟨t', b', e2⟩ := isTys_some (by simp) ez
              obtain ⟨n, y1, y2⟩ := tyx (K := X.K) a1 d1 e2
              have ez' : isTy t x1' hx = some z := by
                simp only [isTys] at ez
                obtain ⟨b2, e3, e4⟩ := Option.bind_eq_some_iff.mp ez
                cases b2 <;> simp at e4 <;> subst e4 <;> exact e3
              exact ⟨v, .ty (tyName t), .type n, .type (tyName t), z, rfl, .ty _, y1, kit_ty (y2 _ _ ez'), ret F1 ρ1 _ H1 x1 s1 a1 (.bl _)⟩
            | _ => simp [tysOk] at h5
          | [], h5 => simp at h5
          | _ :: _ :: _, h5 => simp at h5
        | true =>
          cases cl with
          | Tuple cs kt pt =>
            simp only [Bool.and_eq_true, decide_eq_true_eq] at h5
            obtain ⟨h5, h6, h7⟩ := h5
            refine PE.weaken (pe_callB call_isiT g1 ok.W.isi hb (pa_cons (ha X C e ok h3) (pa_cons (pe_tup (pa_tys ok h5)) pa_nil rfl) (star_cons h4 _ _)) (by decide) g2 (star_cons h4 _ _) rfl) fun σ Hq Q q => ?_
            obtain ⟨F, ρ, st, h0, d, h1, at_, sr, e1, ret⟩ := q
            simp only [evalE] at e1
            obtain ⟨⟨x1, hx⟩, ex, e1⟩ := Option.bind_eq_some_iff.mp e1
            simp only [Option.map_eq_some_iff, Prod.mk.injEq] at e1
            obtain ⟨z, ez, rfl, rfl⟩ := e1
            refine ⟨F, ρ, st, h0, x1, hx, at_, sr, ex, fun F1 ρ1 v H1 x1 s1 a1 d1 => tTys_go ⟨?_, fun tp htp => ?_⟩⟩
            · rw [List.length_map]
              exact Nat.le_trans h7 (by decide)
            · have a2 := a1.new (o := .tup (ts.map fun t => V.ty (tyName t))) htp
              have d2 := d1.mono (a1.ext_new (o := .tup (ts.map fun t => V.ty (tyName t))) htp) (Sub.refl ρ1)
              obtain ⟨t', b', e2⟩ := isTys_some (by intro e; rw [e] at h6; simp at h6) ez
              obtain ⟨n, y1, y2⟩ := tyx (K := X.K) a2 d2 e2
              exact ⟨v, tp, _, .type n, _, z, rfl, upd_same, clsV_tys ts, y1, kit_tys y2 ez, ret _ ρ1 _ _ (x1.trans (a1.ext_new htp)) (s1.trans (Step.laid htp)) a2 (.bl _)⟩
          | _ => simp at h5
      | [], _, hc => simp [chkE] at hc
      | [_], _, hc => simp [chkE] at hc
      | _ :: _ :: _ :: _, _, hc => simp [chkE] at hc
      | [_, _], _ :: _, hc => simp [chkE] at hc
    | _ => simp [chkE] at hc
  | _ => simp [chkE] at hc

/-! a list that changes no more; an item put behind; the other way round -/
theorem se_frz (ha : SE P Γ k a) : SE P Γ k (.frz a) := fun X C e ok hc => by
  cases e with
  | Name x p =>
    simp only [chkE] at hc
    refine PE.weaken (ha X C _ ok hc) fun σ Hq Q q => ?_
    obtain ⟨F, ρ, st, h0, d, h1, at_, sr, e1, ret⟩ := q
    simp only [evalE] at e1
    obtain ⟨⟨x1, hx⟩, ex, e1⟩ := Option.bind_eq_some_iff.mp e1
    simp only at e1
    split at e1
    · rename_i n
      simp only [Option.map_eq_some_iff, Prod.mk.injEq] at e1
      obtain ⟨p1, e2, rfl, rfl⟩ := e1
      refine ⟨F, ρ, st, h0, _, hx, at_, sr, ex, fun F1 ρ1 v H1 x1 s1 a1 d1 => ?_⟩
      have e3 := e2
      simp only [datOf] at e2
      split at e2
      · rename_i l hl
        simp only [Option.map_eq_some_iff] at e2
        obtain ⟨ds, e4, rfl⟩ := e2
        obtain ⟨p2, h1, rfl⟩ := d1
        obtain ⟨p', h2, q⟩ := a1.have_ hl
        rw [h1] at h2; cases h2
        obtain ⟨hf, vs, h3, h4⟩ := q
        have a2 := a1.freeze h1 hf h3
        have x2 : Ext F1 (upd F1 p2 (.lst vs)) := Evl.Ex.new hf
        exact ret _ ρ1 _ H1 (x1.trans x2) (s1.trans (Step.frz h1)) a2 (.lst upd_same ((h4.dats e4).mono x2))
      · cases e2
    · cases e1
  | _ => simp [chkE] at hc
theorem se_app (ha : SE P Γ k a) (hb : SE P Γ k b) : SE P Γ k (.app a b) := fun X C e ok hc => by
  cases e with
  | Call fe es kws pos =>
    cases fe with
    | Attribute o m apos =>
      cases o with
      | Name x p =>
        match es, kws, hc with
        | [e], [], hc =>
          simp only [chkE, Bool.and_eq_true, decide_eq_true_eq] at hc
          obtain ⟨⟨⟨⟨rfl, h2⟩, h3⟩, h4⟩, h5⟩ := hc
          refine PE.weaken (pe_bm PySem.F.plainAttrs_list PySem.F.slot_list_append PySem.F.type_list_append mt_app (ha X C _ ok h2) (pa_cons (hb X C e ok h3) pa_nil (star_cons h4 _ _)) rfl (by rw [star_cons h4]; rfl) (by simp [h5]) (star_cons h4 _ _) rfl) fun σ Hq Q q => ?_
          obtain ⟨F, ρ, st, h0, d, h1, at_, sr, e1, ret⟩ := q
          simp only [evalE] at e1
          obtain ⟨⟨x1, hx⟩, ex, e1⟩ := Option.bind_eq_some_iff.mp e1
          simp only at e1
          split at e1
          · rename_i n
            split at e1
            · rename_i hl
              obtain ⟨⟨y1, hy⟩, ey, e1⟩ := Option.bind_eq_some_iff.mp e1
              refine ⟨F, ρ, st, h0, _, hx, at_, sr, ex, fun F1 ρ1 v H1 x1 s1 a1 d1 => ⟨?_, F1, ρ1, st, hx, y1, hy, a1, sr.mono x1 s1.sub, ey, fun F2 ρ2 w H2 x2 s2 a2 d2 => ?_⟩⟩
              · obtain ⟨l0, hl0⟩ : ∃ l, hx[n]? = some (.lst l) := by
                  unfold isL at hl
                  split at hl
                  · exact ⟨_, by assumption⟩
                  · cases hl
                obtain ⟨p2, g1, rfl⟩ := d1
                obtain ⟨p', g2, q⟩ := a1.have_ hl0
                rw [g1] at g2; cases g2
                obtain ⟨_, vs, g3, _⟩ := q
                exact Or.inl ⟨rfl, vs, SqL.of g3⟩
              · obtain ⟨l0, hl0, hz, rfl, rfl⟩ : ∃ l, hy[n]? = some (.lst l) ∧ l.length < sizeLine ∧ d = .non ∧ h1 = hy.set n (.lst (l ++ [y1])) := by
                  unfold appD at e1
                  split at e1
                  · simp only [Option.ite_none_right_eq_some, Option.some.injEq, Prod.mk.injEq] at e1
                    exact ⟨_, by assumption, e1.1, e1.2.1.symm, e1.2.2.symm⟩
                  · cases e1
                exact ⟨F2, ρ2, hy, n, l0, y1, a2, d1.mono x2 s2.sub, .cons d2 .nil, hl0, hz, ret.mono (x1.trans x2) (s1.trans s2)⟩
            · cases e1
          · cases e1
        | [], _, hc => simp [chkE] at hc
        | _ :: _ :: _, _, hc => simp [chkE] at hc
        | [_], _ :: _, hc => simp [chkE] at hc
      | _ => simp [chkE] at hc
    | _ => simp [chkE] at hc
  | _ => simp [chkE] at hc
theorem adjust_rev (n : Nat) : Builtin.Slice.sliceAdjust none none (-1) (n : Int) = ((n : Int) - 1, -1) := by rfl
theorem places_rev (n : Nat) : Builtin.Slice.slicePlaces ((n : Int) - 1) (-1) (-1) = n := by
  unfold Builtin.Slice.slicePlaces
  rw [if_neg (by omega)]
  by_cases h : (n : Int) - 1 > -1
  · rw [if_pos h, Int.neg_neg, Int.ediv_one]; omega
  · rw [if_neg h]; omega
theorem pick_rev (xs : Array Value) : ((List.range xs.size).filterMap fun (m : Nat) => xs[((xs.size : Int) - 1 + (m : Int) * (-1)).toNat]?) = xs.toList.reverse := by
  have e : ∀ m ∈ List.range xs.size, xs[((xs.size : Int) - 1 + (m : Int) * (-1)).toNat]? = xs[xs.size - 1 - m]? := fun m hm => by
    have h := List.mem_range.mp hm
    have : ((xs.size : Int) - 1 + (m : Int) * (-1)).toNat = xs.size - 1 - m := by omega
    rw [this]
  have go : ∀ l : List Nat, (∀ m ∈ l, xs[((xs.size : Int) - 1 + (m : Int) * (-1)).toNat]? = xs[xs.size - 1 - m]?) → (l.filterMap fun (m : Nat) => xs[((xs.size : Int) - 1 + (m : Int) * (-1)).toNat]?) = (l.map fun k => xs.size - 1 - k).filterMap (xs[·]?) := by
    intro l
    induction l with
    | nil => intro _; rfl
    | cons a r ih =>
      intro h
      rw [List.filterMap_cons, List.map_cons, List.filterMap_cons, h a (List.mem_cons_self ..), ih fun m hm => h m (List.mem_cons_of_mem _ hm)]
  rw [go _ e, PySem.W.krv_range xs.size, List.filterMap_reverse, PySem.W.krv_all]
theorem getItem_tuple_rev {prog : Program} {w : World} {A : Around} {E : Value → Shared → Prop} {s : Shared} {t sl : Addr} {its : Array Value} {u : Tok} {Q : Value → Shared → Prop} (ht : IsTup s.heap t its) (hs : s.heap.IsSliceOf sl .none .none (.int (-1) u))
    (h : Q (.ref s.heap.objs.size) { s with heap := s.heap.push { cls := .type "tuple", data := .seq its.toList.reverse.toArray } }) (hsz : its.size ≤ sizeLine) : wpAny (model prog w) A (getItem (.ref t) (.ref sl)) Q E s := by
  have hok : sizeOk (.seq its.toList.reverse.toArray) := by
    show its.toList.reverse.toArray.size ≤ sizeLine
    simpa using hsz
  obtain ⟨os, hos, hcs, hds⟩ := id hs
  have hTs : s.TypeIs (.ref sl) "slice" := ⟨os, hos, hcs⟩
  unfold getItem
  try with_reducible refine wpAny_holding ?_
  first | refine wpAny_bind (wpAny_pure ?_) | skip
  refine wpAny_bind (wpAny_sequenceKey ht.typeIs (by decide) ?_)
  refine wpAny_bind (wpAny_callSpecial?_slot (T := "tuple") (name := Str.ofString "__getitem__") ht.typeIs slot_tuple_getitem (wpAny_call_entry slot_tuple_getitem ht.typeIs entry_tuple_getitem ?_ (args_tuple_getitem _ _)))
  show wpAny _ _ (Builtin.Tuple.tupleItemsOf (.ref t) >>= _) _ _ s
  refine wpAny_bind (tupleItemsOf_ ht (wpAny_bind (wpAny_typeOf hTs ?_)))
  rw [if_pos (by decide)]
  have app : ∀ {R : Int × Int × Nat → Shared → Prop}, R ((its.size : Int) - 1, -1, its.size) s → wpAny (model prog w) A.in1 (Builtin.Slice.sliceApplied (.ref sl) (pure (its.size : Int))) R (fun e' s' => E e' s') s := by
    intro R r
    unfold Builtin.Slice.sliceApplied Builtin.Slice.sliceFields
    refine wpAny_bind (wpAny_bind (wpAny_field hos hds (x := .none) rfl (wpAny_bind (wpAny_field hos hds (x := .none) rfl (wpAny_bind (wpAny_field hos hds (x := .int (-1) u) rfl (wpAny_pure ?_)))))))
    refine wpAny_bind (slicePart_int ?_)
    show wpAny _ _ (if ((-1 : Int) == 0) = true then _ else _) _ _ s
    rw [if_neg (by decide)]
    refine wpAny_bind (slicePart_none (wpAny_bind (slicePart_none (wpAny_bind (wpAny_pure ?_)))))
    show wpAny _ _ (match Builtin.Slice.sliceAdjust none none (-1) (its.size : Int) with | (lo, hi) => pure (lo, (-1 : Int), Builtin.Slice.slicePlaces lo hi (-1))) _ _ s
    rw [adjust_rev]
    show wpAny _ _ (pure ((its.size : Int) - 1, (-1 : Int), Builtin.Slice.slicePlaces ((its.size : Int) - 1) (-1) (-1))) _ _ s
    rw [places_rev]
    exact wpAny_pure r
  refine wpAny_bind (app ?_)
  have hno : ¬ (((its.size : Int) - 1 == 0 && (-1 : Int) == 1 && its.size == its.size) = true) := by
    intro q
    rw [Bool.and_eq_true, Bool.and_eq_true] at q
    exact absurd q.1.2 (by decide)
  show wpAny _ _ (if ((its.size : Int) - 1 == 0 && (-1 : Int) == 1 && its.size == its.size) = true then _ else _) _ _ s
  rw [if_neg hno, pick_rev]
  first
    | exact wpAny_bind (m := Builtin.Tuple.tupleExact _) (wpAny_newObj_type (wpAny_pure ⟨_, rfl, wpAny_pure h⟩) hok)
    | exact wpAny_bind (m := Builtin.Tuple.tupleExact _) (wpAny_newObj_type (wpAny_bind (wpAny_pure (wpAny_pure ⟨_, rfl, wpAny_pure h⟩))) hok)
    | exact wpAny_bind (wpAny_bind (m := Builtin.Tuple.tupleExact _) (wpAny_newObj_type (wpAny_pure (wpAny_pure ⟨_, rfl, wpAny_pure h⟩)) hok))
    | exact wpAny_bind (wpAny_bind (m := Builtin.Tuple.tupleExact _) (wpAny_newObj_type (wpAny_pure ⟨_, rfl, wpAny_pure h⟩) hok))
theorem rev_inv {C : CC} {x z : Expr} {ps pos : Pos} (hc : chkE P C (.rev a) (.Subscript x (.Slice none none (some z) ps) pos) = true) : ∃ j1 p1 p2, z = .UnaryOp .USub (.Constant (.int 1) j1 p1) p2 ∧ chkE P C a x = true := by
  cases z with
  | UnaryOp op y p2 =>
    cases op with
    | USub =>
      cases y with
      | Constant c j1 p1 =>
        cases c with
        | int i =>
          simp only [chkE, Bool.and_eq_true, decide_eq_true_eq] at hc
          obtain ⟨rfl, h1⟩ := hc
          exact ⟨j1, p1, p2, rfl, h1⟩
        | _ => simp [chkE] at hc
      | _ => simp [chkE] at hc
    | _ => simp [chkE] at hc
  | _ => simp [chkE] at hc
theorem se_rev (ha : SE P Γ k a) : SE P Γ k (.rev a) := fun X C e ok hc => by
  cases e with
  | Subscript x y pos =>
    cases y with
    | Slice lo hi st ps =>
      match lo, hi, st, hc with
      | none, none, some z, hc =>
        obtain ⟨j1, p1, p2, rfl, h1⟩ := rev_inv hc
        have pa := ha X C x ok h1
        refine ⟨fun pins s σ Hq Q I q => ?_⟩
        obtain ⟨F, ρ, st, h0, d, h1, at_, sr, e1, ret⟩ := q
        simp only [evalE] at e1
        obtain ⟨⟨x1, hx⟩, ex, e1⟩ := Option.bind_eq_some_iff.mp e1
        simp only [Option.map_eq_some_iff, Prod.mk.injEq] at e1
        obtain ⟨z, ez, rfl, rfl⟩ := e1
        refine Subscript_ (thn (pa.run pins s σ Hq (fun v Hr => ∃ F1 ρ1, At F1 ρ1 hx Hr ∧ DV F1 ρ1 x1 v ∧ Ret F1 ρ1 Hr z hx Q) I ⟨F, ρ, st, h0, x1, hx, at_, sr, ex, fun F1 ρ1 v H1 e_1 s_1 a_1 d_1 => ⟨F1, ρ1, a_1, d_1, ret.mono e_1 s_1⟩⟩) fun v s1 ⟨w, H1, I1, r1, F1, ρ1, a1, d1, ret1⟩ => ?_)
        have hst : PO X (some (.UnaryOp .USub (.Constant (.int 1) j1 p1) p2)) (tPart (tUn (rU fun i => .int (-i)) (tC (.int 1)))) := po_some (pe_un un_neg pe_int)
        refine wpAny_Slice (thn (po_none.run pins s1 σ H1 (fun o H2 => o = none ∧ H2 = H1) I1 ⟨rfl, rfl⟩) fun vl s2 ⟨l, H2, I2, pl, el, e2⟩ => ?_)
        subst el e2
        refine thn (po_none.run pins s2 σ H2 (fun o H3 => o = none ∧ H3 = H2) I2 ⟨rfl, rfl⟩) fun vu s3 ⟨u, H3, I3, pu, eu, e3⟩ => ?_
        subst eu e3
        refine thn (hst.run pins s3 σ H3 (fun o H4 => o = some (-1) ∧ H4 = H3) I3 ⟨1, rfl, -1, rfl, rfl, rfl⟩) fun vs s4 ⟨o, H4, I4, ps4, eo, e4⟩ => ?_
        subst eo e4
        have I5 : Inv X pins σ H4 { s4 with heap := s4.heap.push { cls := .type "slice", data := .fields #[vl, vu, vs] } } := I4.kept (t' := s4.toks) fun b ob q => Heap.get?_push_of_some _ q
        have isl := Heap.IsSliceOf.new s4.heap vl vu vs
        unfold revD at ez
        split at ez
        · cases ez
          cases d1 with
          | tup b1 b2 =>
            cases r1
            obtain ⟨its, r, ht, hz⟩ := I5.tuple (SqT.of (a1.ex _ _ b1))
            have hlen := r.length
            refine tail_any (ops := [.ref _, .ref s4.heap.objs.size]) ht.typeIs (PyProof.Rows.slot_tuple_getitem.lookup) ?_ (by with_unfolding_all rfl)
            cases pl
            cases pu
            cases ps4
            refine getItem_tuple_rev ht isl ?_ (by rw [List.size_toArray]; omega)
            refine ⟨.ref _, _, I5.laid (t' := s4.toks) (o := .tup _) (fun b ob q => Heap.get?_push_of_some _ q) (Nat.le_refl _) ?_, rfl, ret1.tup a1 b2.rev _ (I5.hok.fresh (Nat.le_refl _))⟩
            exact ⟨by rw [List.length_reverse]; exact hz, _, r.reverse, IsTup.new _ _⟩
        · split at ez
          · rename_i l hl'
            have hl := hl'
            cases ez
            obtain ⟨p, vs', rfl, g1, g2⟩ := datOf_list a1 d1 hl
            cases r1
            obtain ⟨its, r, ht, hz⟩ := I5.list (SqL.of g1)
            have hlen := r.length
            refine tail_any (ops := [.ref _, .ref s4.heap.objs.size]) ht.isList.typeIs (PySem.slot_list_getitem.lookup) ?_ (by with_unfolding_all rfl)
            refine wpAny_getItem_list_slice ht.isList isl pl pu ps4 (by decide) ?_ (by rw [List.size_toArray]; omega)
            rw [PySem.W.krv_pick]
            refine ⟨.ref _, _, I5.laid (t' := s4.toks) (o := .lst _) (fun b ob q => Heap.get?_push_of_some _ q) (Nat.le_refl _) ?_, rfl, ret1.lst a1 g2.rev _ (I5.hok.fresh (Nat.le_refl _))⟩
            exact ⟨by rw [List.length_reverse]; exact hz, _, 0, r.reverse, Heap.get?_push_size _ rfl⟩
          · cases ez
      | some _, _, _, hc => simp [chkE] at hc
      | none, some _, _, hc => simp [chkE] at hc
      | none, none, none, hc => simp [chkE] at hc
    | _ => simp [chkE] at hc
  | _ => simp [chkE] at hc
end
end Z

namespace Z
open PySem PySem.Spec PyProof.Rows L2
variable [KF]
/-! ### targets -/
theorem wipe_get : ∀ {vs : List Nat} {σ : L2.St} {i : Nat}, (wipe σ vs)[i]? = if i ∈ vs then (if i < σ.length then some none else none) else σ[i]?
  | [], σ, i => by simp [wipe]
  | v :: vs, σ, i => by
    unfold wipe
    by_cases h : v = i
    · subst h
      by_cases hl : v < σ.length
      · rw [List.getElem?_set_self (by rw [wipe_length]; exact hl)]; simp [hl]
      · rw [List.getElem?_eq_none (by rw [List.length_set, wipe_length]; omega)]; simp [hl]
    · rw [List.getElem?_set_ne h, wipe_get (vs := vs)]
      have : (i ∈ v :: vs) ↔ i ∈ vs := by simp [Ne.symm h]
      simp [this]
theorem wipe_eq {σ τ : L2.St} {vs : List Nat} (hl : σ.length = τ.length) (h : ∀ i, i ∉ vs → σ[i]? = τ[i]?) : wipe σ vs = wipe τ vs := by
  apply List.ext_getElem?
  intro i
  rw [wipe_get, wipe_get, hl]
  by_cases hi : i ∈ vs
  · simp [hi]
  · simp [hi, h i hi]
theorem wipe_wipe {σ : L2.St} {vs : List Nat} : wipe (wipe σ vs) vs = wipe σ vs := wipe_eq (wipe_length _ _) fun i hi => by rw [wipe_get]; simp [hi]
theorem wipeS_get : ∀ {vs : List Nat} {s : S} {i : Nat}, (wipeS s vs)[i]? = if i ∈ vs then (if i < s.length then some none else none) else s[i]?
  | [], s, i => by simp [wipeS]
  | v :: vs, s, i => by
    have hlen : ∀ (s : S) (vs : List Nat), (wipeS s vs).length = s.length := fun s vs => by
      induction vs with
      | nil => rfl
      | cons v vs ih => unfold wipeS; rw [List.length_set, ih]
    unfold wipeS
    by_cases h : v = i
    · subst h
      by_cases hl : v < s.length
      · rw [List.getElem?_set_self (by rw [hlen]; exact hl)]; simp [hl]
      · rw [List.getElem?_eq_none (by rw [List.length_set, hlen]; omega)]; simp [hl]
    · rw [List.getElem?_set_ne h, wipeS_get (vs := vs)]
      have : (i ∈ v :: vs) ↔ i ∈ vs := by simp [Ne.symm h]
      simp [this]
theorem SR.wipe {F : Hp} {ρ : List Addr} {s : S} {σ : L2.St} (r : SR F ρ s σ) (vs : List Nat) : SR F ρ (wipeS s vs) (L2.wipe σ vs) := fun i d hd => by
  rw [wipeS_get] at hd
  rw [wipe_get]
  by_cases hi : i ∈ vs
  · simp [hi] at hd
  · simp [hi] at hd ⊢
    exact r i d hd
theorem SR.set {F : Hp} {ρ : List Addr} {s : S} {σ : L2.St} {i : Nat} {d : D} {v : V} (r : SR F ρ s σ) (hi : i < σ.length) (dv : DV F ρ d v) : SR F ρ (s.set i (some d)) (σ.set i (some v)) := fun j d' hd => by
  by_cases h : i = j
  · subst h
    rw [List.getElem?_set_self hi]
    have hs : i < s.length := by
      have := (List.getElem?_eq_some_iff.mp hd).1
      simpa using this
    rw [List.getElem?_set_self hs] at hd
    cases hd
    exact ⟨v, rfl, dv⟩
  · rw [List.getElem?_set_ne h] at hd ⊢
    exact r j d' hd
/-- what is wanted behind a target -/
def RetG (F : Hp) (ρ : List Addr) (s1 : S) (is : List Nat) (σ : L2.St) (Q : L2.St → Prop) : Prop := ∀ σ', SR F ρ s1 σ' → σ'.length = σ.length → (∀ i, i ∉ is → σ'[i]? = σ[i]?) → Q σ'
def gT (tg : T) : TG := fun v σ Hq Q => ∃ F ρ s h d s1, At F ρ h Hq ∧ SR F ρ s σ ∧ DV F ρ d v ∧ asgn tg d s = some s1 ∧ RetG F ρ s1 (tgs tg) σ (fun σ' => Q σ' Hq)
def gTs (tg : T) : TGs := fun vs σ Hq Q => ∃ F ρ s h l s1, At F ρ h Hq ∧ SR F ρ s σ ∧ DQs F vs l ∧ asgn tg (.tup l) s = some s1 ∧ RetG F ρ s1 (tgs tg) σ (fun σ' => Q σ' Hq)
theorem asg_each {es : List Expr} (h : es.all okForm = true) (env : Env) : (assignEach es env).length = es.length ∧ (assignEach es env).findIdx? (·.1) = none := by
  induction es with
  | nil => exact ⟨rfl, rfl⟩
  | cons e es ih =>
    simp only [List.all_cons, Bool.and_eq_true] at h
    obtain ⟨i1, i2⟩ := ih h.2
    have eq : assignEach (e :: es) env = (false, assign e env) :: assignEach es env := by
      cases e <;> first | rfl | (simp [okForm] at h)
    rw [eq]
    refine ⟨by simp [i1], ?_⟩
    rw [List.findIdx?_cons, i2]
    rfl
theorem asg_cons {e : Expr} (h : okForm e = true) (es : List Expr) (env : Env) : (assignEach (e :: es) env).map (·.2) = assign e env :: (assignEach es env).map (·.2) := by
  cases e <;> first | rfl | cases h
theorem PG.weaken {X : Cx} {e : Expr} {t t' : TG} (h : PG X e t) (m : ∀ v σ Hq Q, σ.length = X.N.length → t' v σ Hq Q → t v σ Hq Q) : PG X e t' := ⟨fun pins s σ Hq v u Q I r q => h.run pins s σ Hq v u Q I r (m _ _ _ _ I.len q)⟩
theorem PGs.weaken {X : Cx} {e : List Expr} {t t' : TGs} (h : PGs X e t) (m : ∀ v σ Hq Q, σ.length = X.N.length → t' v σ Hq Q → t v σ Hq Q) : PGs X e t' := ⟨fun pins s σ Hq v u Q I r q => h.run pins s σ Hq v u Q I r (m _ _ _ _ I.len q)⟩
theorem chkGs_ok {C : CC} : ∀ {l : T} {es : List Expr}, chkG.chkGs C l es = true → es.all okForm = true
  | .nil, [], _ => rfl
  | .nil, e :: es, h => by simp [chkG.chkGs] at h
  | .cons a b, [], h => by simp [chkG.chkGs] at h
  | .cons a b, e :: es, h => by
    simp only [chkG.chkGs, Bool.and_eq_true] at h
    simp [h.1.2, chkGs_ok h.2]
  | .var _, _, e | .cst _, _, e | .gint _ _, _, e | .bin .., _, e | .neg _, _, e | .not _, _, e | .and _ _, _, e | .or _ _, _, e | .cmp .., _, e | .chain .., _, e | .ite .., _, e
  | .tup _, _, e | .lst _, _, e | .lstM _, _, e | .addM _ _, _, e | .idx .., _, e | .slc .., _, e | .rev _, _, e | .call .., _, e | .callk .., _, e | .blt .., _, e | .isin .., _, e | .frz _, _, e
  | .app .., _, e | .lc .., _, e | .tv _, _, e | .tt _, _, e | .itv _, _, e | .rng1 _, _, e | .rng2 .., _, e | .skip, _, e | .seq .., _, e | .asg .., _, e | .asgc .., _, e
  | .par .., _, e | .asgT .., _, e | .asgI .., _, e | .aug .., _, e | .augI .., _, e | .ex _, _, e | .ifs .., _, e | .whl .., _, e | .for .., _, e | .ret _, _, e | .brk, _, e | .cnt, _, e | .nev, _, e => by simp [chkG.chkGs] at e
section
variable {P : Txt} {Γ : G} {k : Nat} {t a b c l : T}
theorem asgn_nil {l : List PyData} {s s1 : S} (e : asgn .nil (.tup l) s = some s1) : l = [] ∧ s1 = s := by
  cases l with
  | nil => simp [asgn] at e; exact ⟨rfl, e.symm⟩
  | cons x r => simp [asgn] at e
theorem asgn_len : ∀ {tg : T} {es : List Expr} {C : CC} {l : List PyData} {s s1 : S}, chkG.chkGs C tg es = true → asgn tg (.tup l) s = some s1 → l.length = es.length
  | .nil, [], _, l, _, _, _, e => by rw [(asgn_nil e).1]; rfl
  | .nil, e :: es, _, _, _, _, h, _ => by simp [chkG.chkGs] at h
  | .cons a b, [], _, _, _, _, h, _ => by simp [chkG.chkGs] at h
  | .cons a b, e :: es, C, l, s, s1, h, ea => by
    simp only [chkG.chkGs, Bool.and_eq_true] at h
    cases l with
    | nil => simp [asgn] at ea
    | cons x r =>
      simp only [asgn] at ea
      obtain ⟨s2, e1, e2⟩ := Option.bind_eq_some_iff.mp ea
      simp [asgn_len h.2 e2]
  | .var _, _, _, _, _, _, e, _ | .cst _, _, _, _, _, _, e, _ | .gint _ _, _, _, _, _, _, e, _ | .bin .., _, _, _, _, _, e, _ | .neg _, _, _, _, _, _, e, _ | .not _, _, _, _, _, _, e, _ | .and _ _, _, _, _, _, _, e, _ | .or _ _, _, _, _, _, _, e, _ | .cmp .., _, _, _, _, _, e, _ | .chain .., _, _, _, _, _, e, _ | .ite .., _, _, _, _, _, e, _
  | .tup _, _, _, _, _, _, e, _ | .lst _, _, _, _, _, _, e, _ | .lstM _, _, _, _, _, _, e, _ | .addM _ _, _, _, _, _, _, e, _ | .idx .., _, _, _, _, _, e, _ | .slc .., _, _, _, _, _, e, _ | .rev _, _, _, _, _, _, e, _ | .call .., _, _, _, _, _, e, _ | .callk .., _, _, _, _, _, e, _ | .blt .., _, _, _, _, _, e, _ | .isin .., _, _, _, _, _, e, _ | .frz _, _, _, _, _, _, e, _
  | .app .., _, _, _, _, _, e, _ | .lc .., _, _, _, _, _, e, _ | .tv _, _, _, _, _, _, e, _ | .tt _, _, _, _, _, _, e, _ | .itv _, _, _, _, _, _, e, _ | .rng1 _, _, _, _, _, _, e, _ | .rng2 .., _, _, _, _, _, e, _ | .skip, _, _, _, _, _, e, _ | .seq .., _, _, _, _, _, e, _ | .asg .., _, _, _, _, _, e, _ | .asgc .., _, _, _, _, _, e, _
  | .par .., _, _, _, _, _, e, _ | .asgT .., _, _, _, _, _, e, _ | .asgI .., _, _, _, _, _, e, _ | .aug .., _, _, _, _, _, e, _ | .augI .., _, _, _, _, _, e, _ | .ex _, _, _, _, _, _, e, _ | .ifs .., _, _, _, _, _, e, _ | .whl .., _, _, _, _, _, e, _ | .for .., _, _, _, _, _, e, _ | .ret _, _, _, _, _, _, e, _ | .brk, _, _, _, _, _, e, _ | .cnt, _, _, _, _, _, e, _ | .nev, _, _, _, _, _, e, _ => by simp [chkG.chkGs] at e
mutual
theorem sg {X : Cx} {C : CC} (ok : Cok P Γ k X C) : ∀ {tg : T} {e : Expr}, chkG C tg e = true → PG X e (gT tg)
  | .tv i, e, h => by
    cases e with
    | Name x p =>
      simp only [chkG, Bool.and_eq_true, decide_eq_true_eq] at h
      obtain ⟨h1, h2⟩ := h
      obtain ⟨g1, g2⟩ := lcl_ok h2
      refine PG.weaken (pg_name (i := i) (by rw [ok.N]; exact ok.nd) (by rw [ok.N]; exact h1) (by rw [ok.sc]; exact g1) (by rw [ok.fn, ok.sc]; exact g2)) fun v σ Hq Q hl q => ?_
      obtain ⟨F, ρ, s, h, d, s1, at_, sr, dv, e1, ret⟩ := q
      simp only [asgn, Option.some.injEq] at e1
      subst e1
      have hi : i < σ.length := by rw [hl, ok.N]; exact (List.getElem?_eq_some_iff.mp h1).1
      exact ret _ (sr.set hi dv) (by simp) fun j hj => by rw [List.getElem?_set_ne]; simp [tgs] at hj; omega
    | _ => simp [chkG] at h
  | .tt l, e, h => by
    cases e with
    | Tuple es kk p =>
      simp only [chkG] at h
      have hf := chkGs_ok h
      obtain ⟨a1, a2⟩ := asg_each hf X.env
      refine PG.weaken (pg_tup ok.calm (sgs ok h) a1 a2) fun v σ Hq Q hl q => ?_
      obtain ⟨F, ρ, s, h0, d, s1, at_, sr, dv, e1, ret⟩ := q
      cases d with
      | dat p1 =>
        cases p1 with
        | tuple xs =>
          cases dv with
          | tup b1 b2 =>
            simp only [asgn] at e1
            exact ⟨_, _, rfl, SqT.of (at_.ex _ _ b1), by rw [b2.len, asgn_len h e1], F, ρ, s, h0, xs, s1, at_, sr, b2, e1, ret⟩
        | _ => simp [asgn] at e1
      | _ => simp [asgn] at e1
    | _ => simp [chkG] at h
  | .nil, e, h | .cons _ _, e, h | .var _, e, h | .cst _, e, h | .gint _ _, e, h | .bin .., e, h | .neg _, e, h | .not _, e, h | .and _ _, e, h | .or _ _, e, h | .cmp .., e, h | .chain .., e, h | .ite .., e, h
  | .tup _, e, h | .lst _, e, h | .lstM _, e, h | .addM _ _, e, h | .idx .., e, h | .slc .., e, h | .rev _, e, h | .call .., e, h | .callk .., e, h | .blt .., e, h | .isin .., e, h | .frz _, e, h
  | .app .., e, h | .lc .., e, h | .itv _, e, h | .rng1 _, e, h | .rng2 .., e, h | .skip, e, h | .seq .., e, h | .asg .., e, h | .asgc .., e, h
  | .par .., e, h | .asgT .., e, h | .asgI .., e, h | .aug .., e, h | .augI .., e, h | .ex _, e, h | .ifs .., e, h | .whl .., e, h | .for .., e, h | .ret _, e, h | .brk, e, h | .cnt, e, h | .nev, e, h => by simp [chkG] at h
theorem sgs {X : Cx} {C : CC} (ok : Cok P Γ k X C) : ∀ {tg : T} {es : List Expr}, chkG.chkGs C tg es = true → PGs X es (gTs tg)
  | .nil, [], _ => by
    refine PGs.weaken pgs_nil fun vs σ Hq Q hl q => ?_
    obtain ⟨F, ρ, s, h0, l, s1, at_, sr, dq, e1, ret⟩ := q
    obtain ⟨rfl, rfl⟩ := asgn_nil e1
    cases dq
    exact ⟨rfl, ret _ sr rfl fun _ _ => rfl⟩
  | .nil, e :: es, h => by simp [chkG.chkGs] at h
  | .cons a b, [], h => by simp [chkG.chkGs] at h
  | .cons a b, e :: es, h => by
    simp only [chkG.chkGs, Bool.and_eq_true] at h
    refine PGs.weaken (pgs_cons (sg ok h.1.1) (sgs ok h.2) (asg_cons h.1.2 _ _)) fun vs σ Hq Q hl q => ?_
    obtain ⟨F, ρ, s, h0, l, s1, at_, sr, dq, e1, ret⟩ := q
    cases dq with
    | nil => simp [asgn] at e1
    | cons d1 d2 =>
      simp only [asgn] at e1
      obtain ⟨s2, e2, e3⟩ := Option.bind_eq_some_iff.mp e1
      refine ⟨_, _, rfl, F, ρ, s, h0, .dat _, s2, at_, sr, d1, e2, fun σ1 r1 l1 k1 => ⟨F, ρ, s2, h0, _, s1, at_, r1, d2, e3, fun σ2 r2 l2 k2 => ret σ2 r2 (l2.trans l1) fun i hi => ?_⟩⟩
      simp only [tgs, List.mem_append, not_or] at hi
      rw [k2 i hi.2, k1 i hi.1]
  | .var _, e, h | .cst _, e, h | .gint _ _, e, h | .bin .., e, h | .neg _, e, h | .not _, e, h | .and _ _, e, h | .or _ _, e, h | .cmp .., e, h | .chain .., e, h | .ite .., e, h
  | .tup _, e, h | .lst _, e, h | .lstM _, e, h | .addM _ _, e, h | .idx .., e, h | .slc .., e, h | .rev _, e, h | .call .., e, h | .callk .., e, h | .blt .., e, h | .isin .., e, h | .frz _, e, h
  | .app .., e, h | .lc .., e, h | .tv _, e, h | .tt _, e, h | .itv _, e, h | .rng1 _, e, h | .rng2 .., e, h | .skip, e, h | .seq .., e, h | .asg .., e, h | .asgc .., e, h
  | .par .., e, h | .asgT .., e, h | .asgI .., e, h | .aug .., e, h | .augI .., e, h | .ex _, e, h | .ifs .., e, h | .whl .., e, h | .for .., e, h | .ret _, e, h | .brk, e, h | .cnt, e, h | .nev, e, h => by simp [chkG.chkGs] at h
end
end
end Z

/-! ZC: what is walked; list comprehensions. -/
namespace Z
open PySem PySem.Spec PyProof.Rows L2
variable [KF]
section
variable {F F' Hq Hr : Hp} {ρ ρ' : List Addr} {h : H} {p : Addr} {o : HO}
theorem At.away (x : At F ρ h Hq) (hf : F p = none) (hp : p ∉ ρ) : At F ρ h (upd Hq p o) where
  ex := fun a u e => by rw [upd_ne (ne_of_none e hf)]; exact x.ex a u e
  len := x.len
  nd := x.nd
  ob := fun i ob b h1 h2 => by
    have hb : b ≠ p := fun e => hp (e ▸ List.mem_of_getElem? h2)
    exact (x.ob i ob b h1 h2).mono (Ext.refl _) (Sub.refl _) (fun h => h) fun u h => by rw [upd_ne hb]; exact h
theorem At.fix (x : At F ρ h Hq) (hf : F p = none) (hp : p ∉ ρ) (hq : Hq p = some o) : At (upd F p o) ρ h Hq where
  ex := fun a u e => by
    by_cases hb : a = p
    · subst hb; rw [upd_same] at e; cases e; exact hq
    · rw [upd_ne hb] at e; exact x.ex a u e
  len := x.len
  nd := x.nd
  ob := fun i ob b h1 h2 => by
    have hb : b ≠ p := fun e => hp (e ▸ List.mem_of_getElem? h2)
    exact (x.ob i ob b h1 h2).mono (Evl.Ex.new hf) (Sub.refl _) (fun h => by rw [upd_ne hb]; exact h) fun u h => h
theorem Step.stay (s : Step F F' ρ ρ' Hq Hr) (hf : F p = none) (hp : p ∉ ρ) (hq : Hq p = some o) : F' p = none ∧ p ∉ ρ' ∧ Hr p = some o := by
  refine ⟨?_, fun h => ?_, s.keep p o hq hp⟩
  · rcases s.fz p hf with h | h | h
    · exact h
    · exact absurd h hp
    · rw [hq] at h; cases h
  · rcases s.new p h with z | z
    · exact hp z
    · rw [hq] at z; cases z
theorem Step.away (s : Step F F' ρ ρ' Hq Hr) (hn : Hq p = none) : Step F F' ρ ρ' Hq (upd Hr p o) := ⟨s.sub, s.new, fun a u e hm => by rw [upd_ne (ne_of_none e hn)]; exact s.keep a u e hm, s.fz⟩
theorem Step.fix (s : Step F F' ρ ρ' Hq Hr) (hn : Hq p = none) : Step F (upd F' p o) ρ ρ' Hq Hr := ⟨s.sub, s.new, s.keep, fun a h => by
  by_cases e : a = p
  · subst e; exact .inr (.inr hn)
  · rcases s.fz a h with z | z
    · exact .inl (by rw [upd_ne e]; exact z)
    · exact .inr z⟩
end
section
variable {P : Txt} {Γ : G} {k : Nat} {t a b c l it cs elt tg : T} {own : List (Str × Nat)}
theorem wi_tup {K : PySem.W.Frag} {F : Hp} {ρ : List Addr} {p : Addr} {vs : List V} {l : List PyData} (h1 : F p = some (.tup vs)) (h2 : DQs F vs l) : WI (Itt K p) F ρ (l.map .dat) where
  go := fun i Hq e hi => by
    have hi2 : i < vs.length := by rw [h2.len]; simpa using hi
    exact ⟨vs, vs[i], SqT.of (e _ _ h1), by simp [hi2]⟩
  yld := fun i Hq x H' e hi y => by
    obtain ⟨y1, y2⟩ := y
    have y3 := y2 vs (SqT.of (e _ _ h1))
    obtain ⟨v, e1, e2⟩ := DVs.get (F := F) (ρ := ρ) (DVs.of_dats h2) (i := i) (d := (l.map D.dat)[i]) (by simp [hi])
    rw [y3] at e1; cases e1
    exact ⟨y1, _, by simp [hi], e2⟩
  stop := fun Hq e => ⟨vs, SqT.of (e _ _ h1), by rw [h2.len]; simp⟩
theorem wi_lst {K : PySem.W.Frag} {F : Hp} {ρ : List Addr} {p : Addr} {vs : List V} {l : List PyData} (h1 : F p = some (.lst vs)) (h2 : DQs F vs l) : WI (Itl K p) F ρ (l.map .dat) where
  go := fun i Hq e hi => by
    have hi2 : i < vs.length := by rw [h2.len]; simpa using hi
    exact ⟨vs, vs[i], SqL.of (e _ _ h1), by simp [hi2]⟩
  yld := fun i Hq x H' e hi y => by
    obtain ⟨y1, y2⟩ := y
    have y3 := y2 vs (SqL.of (e _ _ h1))
    obtain ⟨v, e1, e2⟩ := DVs.get (F := F) (ρ := ρ) (DVs.of_dats h2) (i := i) (d := (l.map D.dat)[i]) (by simp [hi])
    rw [y3] at e1; cases e1
    exact ⟨y1, _, by simp [hi], e2⟩
  stop := fun Hq e => ⟨vs, SqL.of (e _ _ h1), by rw [h2.len]; simp⟩
theorem wi_rng {F : Hp} {ρ : List Addr} (lo : Int) (n : Nat) : WI (Itr lo n) F ρ (rngD lo n) where
  go := fun i Hq e hi => by
    show i < n
    simpa [rngD] using hi
  yld := fun i Hq x H' e hi y => by
    obtain ⟨rfl, rfl⟩ := y
    have : i < n := by simpa [rngD] using hi
    exact ⟨rfl, .int (lo + i), by simp [rngD, this], .int _⟩
  stop := fun Hq e => by
    show n ≤ (rngD lo n).length
    simp [rngD]
theorem si_itv (ha : SE P Γ k a) : SI P Γ k (.itv a) := fun X C e tg ok hc => by
  simp only [chkI] at hc
  have he := ha X C e ok hc
  refine ⟨fun pins s σ Hq R I q => ?_⟩
  obtain ⟨F, ρ, st, h0, xs, h1, at_, sr, e1, ret⟩ := q
  simp only [evalI] at e1
  obtain ⟨⟨x1, hx⟩, ex, e1⟩ := Option.bind_eq_some_iff.mp e1
  simp only at e1
  split at e1 <;> cases e1
  · refine (pi_tup he).run pins s σ Hq R I ⟨F, ρ, st, h0, _, _, at_, sr, ex, fun F1 ρ1 v H1 x1 s1 a1 d1 => ?_⟩
    cases d1 with
    | tup b1 b2 => exact ⟨_, rfl, ⟨_, SqT.of (a1.ex _ _ b1)⟩, ret F1 ρ1 _ H1 x1 s1 a1 (wi_tup b1 b2)⟩
  · refine (pi_list he).run pins s σ Hq R I ⟨F, ρ, st, h0, _, _, at_, sr, ex, fun F1 ρ1 v H1 x1 s1 a1 d1 => ?_⟩
    cases d1 with
    | lst b1 b2 => exact ⟨_, rfl, ⟨_, SqL.of (a1.ex _ _ b1)⟩, ret F1 ρ1 _ H1 x1 s1 a1 (wi_lst b1 b2)⟩
theorem sml_ok {i : Int} (h : small62 i = true) : -(2 ^ 62) ≤ i ∧ i < 2 ^ 62 := by
  unfold small62 at h
  simpa using h
theorem tys_star {e : Expr} (h : okForm e = true) (env : Env) : starEach [e] env = [(false, eval e env)] := star_cons h []  env
theorem si_rng1 (ha : SE P Γ k a) : SI P Γ k (.rng1 a) := fun X C e tg ok hc => by
  cases e with
  | Call fe es kw pos =>
    cases fe with
    | Name x p =>
      match es, kw, hc with
      | [e], [], hc =>
        simp only [chkI, Bool.and_eq_true, decide_eq_true_eq] at hc
        obtain ⟨⟨⟨g1, rfl⟩, g3⟩, g4⟩ := hc
        refine PI.weaken (pi_range1 (ok.gl g1).1 ok.W.rng (pa_cons (ha X C e ok g4) pa_nil (star_cons g3 _ _)) (tys_star g3 _)) fun σ Hq Q q => ?_
        obtain ⟨F, ρ, st, h0, xs, h1, at_, sr, e1, ret⟩ := q
        simp only [evalI] at e1
        obtain ⟨⟨x1, hx⟩, ex, e1⟩ := Option.bind_eq_some_iff.mp e1
        simp only at e1
        split at e1
        · rename_i i
          split at e1
          · rename_i hs
            cases e1
            obtain ⟨b1, b2⟩ := sml_ok hs
            refine ⟨F, ρ, st, h0, _, _, at_, sr, ex, fun F1 ρ1 v H1 x1 s1 a1 d1 => ?_⟩
            cases d1
            exact ⟨i, rfl, b1, b2, ret F1 ρ1 _ H1 x1 s1 a1 (wi_rng 0 _)⟩
          · cases e1
        · cases e1
      | [], _, hc => simp [chkI] at hc
      | _ :: _ :: _, _, hc => simp [chkI] at hc
      | [_], _ :: _, hc => simp [chkI] at hc
    | _ => simp [chkI] at hc
  | _ => simp [chkI] at hc
theorem si_rng2 (ha : SE P Γ k a) (hb : SE P Γ k b) : SI P Γ k (.rng2 a b) := fun X C e tg ok hc => by
  cases e with
  | Call fe es kw pos =>
    cases fe with
    | Name x p =>
      match es, kw, hc with
      | [e, e'], [], hc =>
        simp only [chkI, Bool.and_eq_true, decide_eq_true_eq] at hc
        obtain ⟨⟨⟨⟨⟨g1, rfl⟩, g3⟩, g4⟩, g5⟩, g6⟩ := hc
        refine PI.weaken (pi_range2 (ok.gl g1).1 ok.W.rng (pa_cons (ha X C e ok g5) (pa_cons (hb X C e' ok g6) pa_nil (star_cons g4 _ _)) (star_cons g3 _ _)) (by rw [star_cons g3, tys_star g4]) (tys_star g4 _)) fun σ Hq Q q => ?_
        obtain ⟨F, ρ, st, h0, xs, h1, at_, sr, e1, ret⟩ := q
        simp only [evalI] at e1
        obtain ⟨⟨x1, hx⟩, ex, e1⟩ := Option.bind_eq_some_iff.mp e1
        obtain ⟨⟨y1, hy⟩, ey, e1⟩ := Option.bind_eq_some_iff.mp e1
        simp only at e1 ey
        split at e1
        · rename_i x_ i j _
          split at e1
          · rename_i hs
            cases e1
            rw [Bool.and_eq_true] at hs
            obtain ⟨b1, b2⟩ := sml_ok hs.1
            obtain ⟨b3, b4⟩ := sml_ok hs.2
            refine ⟨F, ρ, st, h0, _, _, at_, sr, ex, fun F1 ρ1 v H1 x1 s1 a1 d1 => ⟨F1, ρ1, st, hx, _, _, a1, sr.mono x1 s1.sub, ey, fun F2 ρ2 v2 H2 x2 s2 a2 d2 => ?_⟩⟩
            cases d1; cases d2
            exact ⟨i, j, rfl, ⟨b1, b2, b3, b4⟩, ret F2 ρ2 _ H2 (x1.trans x2) (s1.trans s2) a2 (wi_rng i _)⟩
          · cases e1
        · cases e1
      | [], _, hc => simp [chkI] at hc
      | [_], _, hc => simp [chkI] at hc
      | _ :: _ :: _ :: _, _, hc => simp [chkI] at hc
      | [_, _], _ :: _, hc => simp [chkI] at hc
    | _ => simp [chkI] at hc
  | _ => simp [chkI] at hc
theorem sc_nil : SC P Γ k .nil := fun X C es ok hc => by
  cases es with
  | nil =>
    refine PTs.weaken pts_nil fun σ Hq Q q => ?_
    obtain ⟨F, ρ, st, h0, b, h1, at_, sr, e1, ret⟩ := q
    simp only [evalC] at e1
    cases e1
    exact ret F ρ Hq (Ext.refl _) (Step.refl _ _ _) at_
  | cons e es => simp [chkC] at hc
theorem sc_one (ha : ST P Γ k a) (hb : b = .nil) : SC P Γ k (.cons a b) := fun X C es ok hc => by
  subst hb
  match es, hc with
  | [e], hc =>
    simp only [chkC] at hc
    refine PTs.weaken (pts_one (ha X C e ok hc)) fun σ Hq Q q => ?_
    obtain ⟨F, ρ, st, h0, b, h1, at_, sr, e1, ret⟩ := q
    exact ⟨F, ρ, st, h0, b, h1, at_, sr, e1, ret⟩
  | [], hc => simp [chkC] at hc
  | _ :: _ :: _, hc => simp [chkC] at hc
/-- one turn of a comprehension -/
def turnF (Γ : G) (own : List (Str × Nat)) (tg cs elt : T) (s : S) : D → H → Option (Option PyData × H) := fun d h => (asgn tg d (wipeS s (own.map (·.2)))).bind fun s1 =>
      (evalC Γ cs s1 h).bind fun r => if r.1 then (evalE Γ elt s1 r.2).bind fun y => (match y.1 with
        | .dat p => some (some p, y.2)
        | _ => none) else some (none, r.2)
theorem lc_all {X : Cx} {C : CC} {e etg eit : Expr} {ifs : List Expr} {scope : Scope} (ok : Cok P Γ k X C) (hi : SI P Γ k it) (hs : SC P Γ k cs) (he : SE P Γ k elt)
    (hc : chkE P C (.lc own tg it cs elt) (.ListComp e [⟨etg, eit, ifs, 0⟩] scope p) = true) :
    okForm eit = true ∧ PI X etg eit (rI Γ it) ∧ BlkOk X.N X.env.scope scope own ∧ (∀ i ∈ tgs tg, i ∈ own.map (·.2)) ∧
    (∀ (s : Shared) (H : Hp) (C : Addr) (cl : List (Str × Addr)) (fp : List Addr), PG (X.blk s H scope (compEnvC scope cl C X.env) fp) etg (gT tg)) ∧
    (∀ (s : Shared) (H : Hp) (C : Addr) (cl : List (Str × Addr)) (fp : List Addr), PTs (X.blk s H scope (compEnvC scope cl C X.env) fp) ifs (rC Γ cs)) ∧
    (∀ (s : Shared) (H : Hp) (C : Addr) (cl : List (Str × Addr)) (fp : List Addr), PE (X.blk s H scope (compEnvC scope cl C X.env) fp) e (rE Γ elt)) := by
  simp only [chkE, Bool.and_eq_true] at hc
  obtain ⟨⟨⟨h1, h2⟩, h3⟩, ⟨⟨h4, h5⟩, h6⟩, h7⟩ := hc
  have okB : ∀ (s : Shared) (H : Hp) (A : Addr) (cl : List (Str × Addr)) (fp : List Addr), Cok P Γ k (X.blk s H scope (compEnvC scope cl A X.env) fp) ⟨C.N, relS scope C.sc, fun x => scope.names.lookup x == some .cell⟩ := fun s H A cl fp =>
    ⟨ok.N, by rw [← ok.sc]; rfl, rfl, ok.nd, ok.calm, ok.room, ok.W⟩
  refine ⟨h1, hi X C eit etg ok h3, by rw [ok.N, ok.sc]; exact blkOk_by h2, fun i hi => by simpa using List.all_eq_true.mp h5 i hi, fun s H A cl fp => sg (okB s H A cl fp) h4, fun s H A cl fp => hs _ _ _ (okB s H A cl fp) h6, fun s H A cl fp => he _ _ _ (okB s H A cl fp) h7⟩
theorem lc_rd {F : Hp} {ρ : List Addr} {s : S} {h h1 : H} {d : D} {σ : L2.St} {Hq : Hp} {Q : VK} (ht : ∀ i ∈ tgs tg, i ∈ own.map (·.2)) (at_ : At F ρ h Hq) (sr : SR F ρ s σ) (e1 : evalE Γ (.lc own tg it cs elt) s h = some (d, h1)) (ret : Ret F ρ Hq d h1 Q) :
    tLc (rI Γ it) (gT tg) (rC Γ cs) (rE Γ elt) (own.map (·.2)) σ Hq Q := by
  simp only [evalE] at e1
  obtain ⟨⟨xs, hx⟩, ei, e1⟩ := Option.bind_eq_some_iff.mp e1
  simp only at e1
  simp only [Option.ite_none_right_eq_some, Option.map_eq_some_iff, Prod.mk.injEq] at e1
  obtain ⟨hlen, ⟨rs, hr⟩, ec, rfl, rfl⟩ := e1
  have ec : comp (turnF Γ own tg cs elt s) xs hx = some (rs, hr) := ec
  refine ⟨F, ρ, s, h, xs, hx, at_, sr, ei, fun F1 ρ1 J H1 x1 s1 a1 wi => fun D hD => ?_⟩
  refine ⟨fun i m H => m = xs.length - i ∧ i ≤ xs.length ∧ ∃ F2 ρ2 h2 acc accV rest, Ext F1 F2 ∧ Step F1 F2 ρ1 ρ2 H1 H ∧ At F2 ρ2 h2 H ∧ F2 D = none ∧ D ∉ ρ2 ∧ H D = some (.lst accV) ∧ DQs F2 accV acc ∧ acc.length ≤ i ∧
    comp (turnF Γ own tg cs elt s) (xs.drop i) h2 = some (rest, hr) ∧ acc ++ rest = rs, ⟨xs.length, by simp, Nat.zero_le _, F1, ρ1, hx, [], [], rs, Ext.refl _, Step.laid0 hD, a1.grow (Evl.Ex.new hD), a1.free hD, a1.not_mem hD, upd_same, .nil, Nat.le_refl _, ec, rfl⟩, ?_⟩
  rintro i m H ⟨rfl, hi, F2, ρ2, h2, acc, accV, rest, x2, s2, a2, fD, mD, hqD, dq, hl, ec2, eqr⟩
  have fin : ∀ {F4 : Hp} {ρ4 : List Addr} {h4 : Z.H} {H4 : Hp} {o : Option PyData} {v : V} {rest' : List PyData}, i < xs.length → Ext F2 F4 → Step F2 F4 ρ2 ρ4 H H4 → At F4 ρ4 h4 H4 → comp (turnF Γ own tg cs elt s) (xs.drop (i + 1)) h4 = some (rest', hr) → (match o with
      | some y => y :: rest'
      | none => rest') = rest → (match o with
      | some y => DQ F4 v y ∧ H4 D = some (.lst accV) ∧ accV.length < sizeLine
      | none => True) → ∃ m', m' < xs.length - i ∧ (m' = xs.length - (i + 1) ∧ i + 1 ≤ xs.length ∧ ∃ F2 ρ2 h2 acc' accV' rest, Ext F1 F2 ∧ Step F1 F2 ρ1 ρ2 H1 (match o with
      | some y => upd H4 D (.lst (accV ++ [v]))
      | none => H4) ∧ At F2 ρ2 h2 (match o with
      | some y => upd H4 D (.lst (accV ++ [v]))
      | none => H4) ∧ F2 D = none ∧ D ∉ ρ2 ∧ (match o with
      | some y => upd H4 D (.lst (accV ++ [v]))
      | none => H4) D = some (.lst accV') ∧ DQs F2 accV' acc' ∧ acc'.length ≤ i + 1 ∧
    comp (turnF Γ own tg cs elt s) (xs.drop (i + 1)) h2 = some (rest, hr) ∧ acc' ++ rest = rs) := by
    intro F4 ρ4 h4 H4 o v rest' hlt x4 s4 a4 e4 er hv
    obtain ⟨f4, m4, q4⟩ := s4.stay fD mD hqD
    refine ⟨_, by omega, rfl, hlt, ?_⟩
    cases o with
    | some y =>
      refine ⟨F4, ρ4, h4, acc ++ [y], accV ++ [v], rest', x2.trans x4, (s2.trans s4).away hD, a4.away f4 m4, f4, m4, upd_same, (DQs.mono x4 _ _ dq).append (.cons hv.1 .nil), by simp; omega, e4, ?_⟩
      rw [← eqr, ← er]
      simp
    | none =>
      refine ⟨F4, ρ4, h4, acc, accV, rest', x2.trans x4, s2.trans s4, a4, f4, m4, q4, DQs.mono x4 _ _ dq, by omega, e4, ?_⟩
      rw [← eqr, ← er]
  by_cases hlt : i < xs.length
  · refine .inr ⟨wi.go i H (x2.trans a2.ex) hlt, fun H' => ∃ m', m' < xs.length - i ∧ (m' = xs.length - (i + 1) ∧ i + 1 ≤ xs.length ∧ ∃ F2 ρ2 h2 acc accV rest, Ext F1 F2 ∧ Step F1 F2 ρ1 ρ2 H1 H' ∧ At F2 ρ2 h2 H' ∧ F2 D = none ∧ D ∉ ρ2 ∧ H' D = some (.lst accV) ∧ DQs F2 accV acc ∧ acc.length ≤ i + 1 ∧
    comp (turnF Γ own tg cs elt s) (xs.drop (i + 1)) h2 = some (rest, hr) ∧ acc ++ rest = rs), fun H' h => h, fun x H' y => ?_⟩
    obtain ⟨rfl, d, ed, dv⟩ := wi.yld i _ x H' (x2.trans a2.ex) hlt y
    have edr : xs.drop i = d :: xs.drop (i + 1) := by
      rw [List.drop_eq_getElem_cons hlt]
      congr 1
      have := List.getElem?_eq_some_iff.mp ed
      exact this.2
    rw [edr] at ec2
    simp only [comp] at ec2
    obtain ⟨⟨o, h3⟩, et, e3⟩ := Option.bind_eq_some_iff.mp ec2
    simp only [Option.map_eq_some_iff, Prod.mk.injEq] at e3
    obtain ⟨⟨rest', hr'⟩, e4, er, rfl⟩ := e3
    simp only [turnF] at et
    obtain ⟨s3, ea, et⟩ := Option.bind_eq_some_iff.mp et
    obtain ⟨⟨b, h4⟩, eb, et⟩ := Option.bind_eq_some_iff.mp et
    refine ⟨F2, ρ2, wipeS s (own.map (·.2)), h2, d, s3, a2, (sr.mono (x1.trans x2) (s1.sub.trans s2.sub)).wipe _, dv.mono x2 s2.sub, ea, fun σ2 sr2 l2 k2 => ⟨?_, ?_⟩⟩
    · rw [← wipe_wipe (σ := σ)]
      exact wipe_eq l2 fun j hj => k2 j fun hm => hj (ht j hm)
    · refine ⟨F2, ρ2, s3, h2, b, h4, a2, sr2, eb, fun F3 ρ3 H3 x3 st3 a3 => ?_⟩
      simp only at et
      cases b with
      | true =>
        rw [if_pos rfl] at et ⊢
        obtain ⟨⟨y, h5⟩, ey, et⟩ := Option.bind_eq_some_iff.mp et
        simp only at et
        split at et
        · rename_i p
          cases et
          refine ⟨F3, ρ3, s3, h4, _, _, a3, sr2.mono x3 st3.sub, ey, fun F4 ρ4 v H4 x4 st4 a4 d4 => ?_⟩
          have q4 := ((st3.trans st4).stay fD mD hqD).2.2
          have hz : accV.length < sizeLine := by rw [dq.len]; omega
          exact ⟨accV, q4, hz, fin (o := some p) (v := v) hlt (x3.trans x4) (st3.trans st4) a4 e4 er ⟨d4, q4, hz⟩⟩
        · cases et
      | false =>
        rw [if_neg Bool.false_ne_true] at et ⊢
        cases et
        exact fin (o := none) (v := .non) hlt x3 st3 a3 e4 er trivial
  · have hi' : i = xs.length := by omega
    subst hi'
    rw [List.drop_length] at ec2
    simp only [comp] at ec2
    cases ec2
    rw [List.append_nil] at eqr
    subst eqr
    refine .inl ⟨wi.stop H (x2.trans a2.ex), ret _ ρ2 _ H ((x1.trans x2).trans (Evl.Ex.new fD)) (s1.trans (s2.fix hD)) (a2.fix fD mD hqD) (.lst upd_same (DQs.mono (Evl.Ex.new fD) _ _ dq))⟩
theorem se_lc (hi : SI P Γ k it) (hs : SC P Γ k cs) (he : SE P Γ k elt) : SE P Γ k (.lc own tg it cs elt) := fun X C e ok hc => by
  cases e with
  | ListComp e gs scope pos =>
    match gs, hc with
    | [⟨etg, eit, ifs, 0⟩], hc =>
      obtain ⟨h1, h2, h3, ht, h4, h5, h6⟩ := lc_all ok hi hs he hc
      refine PE.weaken (pe_lc ok.calm (by rw [ok.N]; exact ok.nd) h2 h3 h4 h5 h6 (not_set h1 _)) fun σ Hq Q q => ?_
      obtain ⟨F, ρ, st, h0, d, h1, at_, sr, e1, ret⟩ := q
      exact lc_rd ht at_ sr e1 ret
    | [], hc => simp [chkE] at hc
    | [⟨_, _, _, .ofNat (_ + 1)⟩], hc => exact absurd (show false = true from hc) (by decide)
    | [⟨_, _, _, .negSucc _⟩], hc => exact absurd (show false = true from hc) (by decide)
    | _ :: _ :: _, hc => simp [chkE] at hc
  | _ => simp [chkE] at hc
end
end Z

/-! ZD: statements. -/
namespace Z
open PySem PySem.Spec PyProof.Rows L2
variable [KF]
/-- no comprehension that is stored at once -/
def swNo (sc : Scope) (x : Str) (p : Pos) : Expr → Bool
  | .ListComp _ _ s q => !(sc.names.lookup x == some .local && p.line == q.line && !(s.names.any fun (n, k) => n == x && (k == .local || k == .cell)))
  | .SetComp .. => false
  | .DictComp .. => false
  | _ => true
def noComp : Expr → Bool
  | .ListComp .. => false
  | .SetComp .. => false
  | .DictComp .. => false
  | _ => true
def noTup : Expr → Bool
  | .Tuple .. => false
  | _ => true
theorem swNo_ok {sc : Scope} {x : Str} {p : Pos} {v : Expr} {env : Env} {l : Nat} (h : swNo sc x p v = true) (e : env.scope = sc) (hk : env.scope.kind = .function) : swapsWith v (some (.Name x p)) l env = pure false := by
  cases v <;> first | rfl | (simp [swNo] at h; done) | skip
  rename_i e0 gs s q
  simp only [swNo, Bool.not_eq_true'] at h
  have hb : env.blockKind = .function := by unfold Env.blockKind; rw [hk]; rfl
  unfold swapsWith
  simp only [hb, Env.kindOf, e, Expr.pos]
  have : (ScopeKind.function == ScopeKind.function) = true := rfl
  rw [this, Bool.true_and, h]
theorem noComp_ok {v : Expr} (h : noComp v = true) {env : Env} {l : Nat} {t : Option Expr} : swapsWith v t l env = pure false := by
  cases v <;> first | rfl | cases h
theorem swap_tup {v : Expr} {ts k p} {env : Env} {l : Nat} : swapsWithSole [.Tuple ts k p] v l env = pure false := by cases v <;> rfl
theorem swap_sub {v o i : Expr} {p} {env : Env} {l : Nat} : swapsWithSole [.Subscript o i p] v l env = pure false := by cases v <;> rfl
theorem sws_tup {v : Expr} (h : noTup v = true) {ts k p} {env : Env} : swappedStores [.Tuple ts k p] v env = pure none := by cases v <;> first | rfl | cases h
theorem sws_sub {v o i : Expr} {p} {env : Env} : swappedStores [.Subscript o i p] v env = pure none := by cases v <;> rfl
theorem asg_sub {o i : Expr} {p : Pos} (h : okForm i = true) (env : Env) (v : Value) : assign (.Subscript o i p) env v = (do
      let ov ← holding [v] (eval o env)
      let iv ← holding [v, ov] (eval i env)
      standAt p
      holding [v, ov, iv] (setItem ov iv v)
      release [v, ov, iv] []) := by cases i <;> first | rfl | cases h
theorem aug_sub {i : Expr} (h : okForm i = true) (ov iv new : Value) : augStore i ov iv new = (do holding [new, ov, iv] (setItem ov iv new); release [new, ov, iv] []; pure .next) := by cases i <;> first | rfl | cases h
def isLoc (sc : Scope) (x : Str) : Bool := decide (sc.names.lookup x = some .local)
mutual
def chkS (P : Txt) (C : CC) : T → Stmt → Bool
  | .skip, .Pass _ => true
  | .skip, .Expr (.Constant (.str _) _ _) _ => true
  | .asg i e, .Assign [.Name x p] v _ => decide (C.N[i]? = some x) && lcl C x && swNo C.sc x p v && chkE P C e v
  | .asgc i e, .Assign [.Name x p] (.ListComp ee [⟨etg, eit, ifs, 0⟩] scope pos) _ => decide (C.N[i]? = some x) && isLoc C.sc x && (p.line == pos.line) && !(scope.names.any fun (n, k) => n == x && (k == .local || k == .cell)) && isLc e && chkE P C e (.ListComp ee [⟨etg, eit, ifs, 0⟩] scope pos)
  | .par [i, j] l, .Assign [.Tuple [.Name x px, .Name y py] _ _] (.Tuple [a, b] _ _) _ => decide (C.N[i]? = some x) && decide (C.N[j]? = some y) && decide (i ≠ j) && isLoc C.sc x && isLoc C.sc y && decide (py.line = px.line) && decide (x ≠ y) &&
      !([a, b].all (foldedForSure 8)) && !([a, b].all (constantsAlone 8)) && chkA P C l [a, b]
  | .asgT (.tt tg) e, .Assign [.Tuple ts k p] v _ => chkG C (.tt tg) (.Tuple ts k p) && noTup v && chkE P C e v
  | .asgI o i e, .Assign [.Subscript a b _] v _ => okForm b && chkE P C o a && chkE P C i b && chkE P C e v
  | .aug i o e, .AugAssign (.Name x _) q v _ => decide (C.N[i]? = some x) && lcl C x && opB o q && chkE P C e v
  | .augI a i o e, .AugAssign (.Subscript x y _) q v _ => okForm y && opB o q && chkE P C a x && chkE P C i y && chkE P C e v
  | .ex e, .Expr v _ => noComp v && chkE P C e v
  | .ifs c a b, .If x ys zs _ => chkE P C c x && chkL P C a ys && chkL P C b zs
  | .whl c b, .While x ys [] _ => chkE P C c x && chkL P C b ys
  | .for tg it b, .For g x ys [] _ => chkG C tg g && okForm x && chkI P C it x && chkL P C b ys
  | .ret e, .Return (some v) _ => chkE P C e v
  | .ret (.cst .none), .Return none _ => true
  | .brk, .Break _ => true
  | .cnt, .Continue _ => true
  | .nev, _ => true
  | _, _ => false
def chkL (P : Txt) (C : CC) : T → List Stmt → Bool
  | .skip, [] => true
  | .seq a b, st :: r => chkS P C a st && chkL P C b r
  | .nev, _ => true
  | _, _ => false
def isLc : T → Bool
  | .lc .. => true
  | _ => false
end
def RetO (F : Hp) (ρ : List Addr) (Hq : Hp) (o : Out) (D : Ends) : Prop := match o with
  | .nx s1 h1 => ∀ F' ρ' σ' Hr, Ext F F' → Step F F' ρ ρ' Hq Hr → At F' ρ' h1 Hr → SR F' ρ' s1 σ' → D.nx σ' Hr
  | .rt d h1 => Ret F ρ Hq d h1 D.rt
  | .bk s1 h1 => ∀ F' ρ' σ' Hr, Ext F F' → Step F F' ρ ρ' Hq Hr → At F' ρ' h1 Hr → SR F' ρ' s1 σ' → D.bk σ' Hr
  | .ct s1 h1 => ∀ F' ρ' σ' Hr, Ext F F' → Step F F' ρ ρ' Hq Hr → At F' ρ' h1 Hr → SR F' ρ' s1 σ' → D.ct σ' Hr
theorem RetO.mono {F F' : Hp} {ρ ρ' : List Addr} {Hq Hr : Hp} {o : Out} {D : Ends} (r : RetO F ρ Hq o D) (e : Ext F F') (s : Step F F' ρ ρ' Hq Hr) : RetO F' ρ' Hr o D := by
  cases o with
  | nx s1 h1 => exact fun F2 ρ2 σ2 H2 e2 s2 => r F2 ρ2 σ2 H2 (e.trans e2) (s.trans s2)
  | rt d h1 => exact Ret.mono r e s
  | bk s1 h1 => exact fun F2 ρ2 σ2 H2 e2 s2 => r F2 ρ2 σ2 H2 (e.trans e2) (s.trans s2)
  | ct s1 h1 => exact fun F2 ρ2 σ2 H2 e2 s2 => r F2 ρ2 σ2 H2 (e.trans e2) (s.trans s2)
def rS (Γ : G) (t : T) : TS := fun D σ Hq => ∃ F ρ s h o, At F ρ h Hq ∧ SR F ρ s σ ∧ exec Γ t s h = some o ∧ RetO F ρ Hq o D
theorem PS.weaken {X : Cx} {st : Stmt} {t t' : TS} (h : PS X st t) (m : ∀ D σ Hq, σ.length = X.N.length → t' D σ Hq → t D σ Hq) : PS X st t' := ⟨fun pins s σ Hq D I q => h.run pins s σ Hq D I (m _ _ _ I.len q)⟩
theorem PSs.weaken {X : Cx} {st : List Stmt} {t t' : TS} (h : PSs X st t) (m : ∀ D σ Hq, σ.length = X.N.length → t' D σ Hq → t D σ Hq) : PSs X st t' := ⟨fun pins s σ Hq D I q => h.run pins s σ Hq D I (m _ _ _ I.len q)⟩
structure CokS (P : Txt) (Γ : G) (k : Nat) (X : Cx) (C : CC) : Prop where
  ok : Cok P Γ k X C
  xe : X.xe = fun _ _ => False
  kind : X.env.scope.kind = .function
theorem CokS.pass {P : Txt} {Γ : G} {k : Nat} {X : Cx} {C : CC} (c : CokS P Γ k X C) : PassesOwn (model X.prog X.w) X.A X.env X.xe := by rw [c.xe]; exact PassesOwn.never
section
variable (P : Txt) (Γ : G) (k : Nat)
def SS (t : T) : Prop := ∀ X C st, CokS P Γ k X C → chkS P C t st = true → PS X st (rS Γ t)
def SL (t : T) : Prop := ∀ X C st, CokS P Γ k X C → chkL P C t st = true → PSs X st (rS Γ t)
end
section
variable {P : Txt} {Γ : G} {k : Nat} {t a b c l e i o tg it : T}
theorem ss_nev {X : Cx} {st : Stmt} : PS X st (rS Γ .nev) := PS.weaken ps_never fun D σ Hq _ q => by
  obtain ⟨F, ρ, s, h, o, _, _, e, _⟩ := q
  simp [exec] at e
theorem sl_nev {X : Cx} {st : List Stmt} : PSs X st (rS Γ .nev) := PSs.weaken pss_never fun D σ Hq _ q => by
  obtain ⟨F, ρ, s, h, o, _, _, e, _⟩ := q
  simp [exec] at e
theorem rs_skip {D : Ends} {σ : L2.St} {Hq : Hp} (q : rS Γ .skip D σ Hq) : tNext D σ Hq := by
  obtain ⟨F, ρ, s, h, o, at_, sr, e, r⟩ := q
  simp only [exec, Option.some.injEq] at e
  subst e
  exact r F ρ σ Hq (Ext.refl _) (Step.refl _ _ _) at_ sr
theorem ss_skip : SS P Γ k .skip := fun X C st ok hc => by
  cases st with
  | Pass p => exact PS.weaken ps_pass fun D σ Hq _ q => rs_skip q
  | Expr e p =>
    cases e with
    | Constant c j p' =>
      cases c with
      | str x => exact PS.weaken ps_doc fun D σ Hq _ q => rs_skip q
      | _ => exact absurd (show false = true from hc) Bool.false_ne_true
    | _ => exact absurd (show false = true from hc) Bool.false_ne_true
  | _ => exact absurd (show false = true from hc) Bool.false_ne_true
theorem sl_skip : SL P Γ k .skip := fun X C st ok hc => by
  cases st with
  | nil => exact PSs.weaken pss_nil fun D σ Hq _ q => rs_skip q
  | cons _ _ => exact absurd (show false = true from hc) Bool.false_ne_true
theorem sl_seq (ha : SS P Γ k a) (hb : SL P Γ k b) : SL P Γ k (.seq a b) := fun X C st ok hc => by
  cases st with
  | nil => exact absurd (show false = true from hc) Bool.false_ne_true
  | cons st r =>
    simp only [chkL, Bool.and_eq_true] at hc
    refine PSs.weaken (pss_cons (ha X C st ok hc.1) (hb X C r ok hc.2)) fun D σ Hq _ q => ?_
    obtain ⟨F, ρ, s, h, o, at_, sr, e, r⟩ := q
    simp only [exec] at e
    obtain ⟨o1, e1, e2⟩ := Option.bind_eq_some_iff.mp e
    refine ⟨F, ρ, s, h, o1, at_, sr, e1, ?_⟩
    cases o1 with
    | nx s1 h1 => exact fun F1 ρ1 σ1 H1 x1 st1 a1 r1 => ⟨F1, ρ1, s1, h1, o, a1, r1, e2, r.mono x1 st1⟩
    | rt d h1 => cases e2; exact r
    | bk s1 h1 => cases e2; exact r
    | ct s1 h1 => cases e2; exact r
theorem ss_asg {n : Nat} (he : SE P Γ k e) : SS P Γ k (.asg n e) := fun X C st ok hc => by
  unfold chkS at hc
  split at hc <;> first | (cases hc; done) | skip
  all_goals first | (rename_i hh; cases hh; done) | skip
  rename_i x p v _ hh
  cases hh
  simp only [Bool.and_eq_true, decide_eq_true_eq] at hc
  obtain ⟨⟨⟨h1, h2⟩, h3⟩, h4⟩ := hc
  obtain ⟨g1, g2⟩ := lcl_ok h2
  refine PS.weaken (ps_set (i := n) (by rw [ok.ok.N]; exact ok.ok.nd) (by rw [ok.ok.N]; exact h1) (by rw [ok.ok.sc]; exact g1) (he X C v ok.ok h4) (swNo_ok h3 ok.ok.sc ok.kind) (by rw [ok.ok.fn, ok.ok.sc]; exact g2)) fun D σ Hq hl q => ?_
  obtain ⟨F, ρ, s, h, o, at_, sr, e1, r⟩ := q
  simp only [exec, Option.map_eq_some_iff] at e1
  obtain ⟨⟨d, hx⟩, ex, rfl⟩ := e1
  refine ⟨F, ρ, s, h, d, hx, at_, sr, ex, fun F1 ρ1 v H1 x1 s1 a1 d1 => ?_⟩
  have hi : n < σ.length := by rw [hl, ok.ok.N]; exact (List.getElem?_eq_some_iff.mp h1).1
  exact r F1 ρ1 _ H1 x1 s1 a1 ((sr.mono x1 s1.sub).set hi d1)
theorem ss_asgc {n : Nat} {own : List (Str × Nat)} {cs elt : T} (hi : SI P Γ k it) (hs : SC P Γ k cs) (he : SE P Γ k elt) : SS P Γ k (.asgc n (.lc own tg it cs elt)) := fun X C st ok hc => by
  unfold chkS at hc
  split at hc <;> first | (cases hc; done) | skip
  all_goals first | (rename_i hh; cases hh; done) | skip
  rename_i x p ee etg eit ifs scope pos _ hh
  cases hh
  simp only [Bool.and_eq_true, decide_eq_true_eq, isLoc, Bool.not_eq_true'] at hc
  obtain ⟨⟨⟨⟨⟨h1, h2⟩, h3⟩, h4⟩, _⟩, h5⟩ := hc
  obtain ⟨g1, g2, g3, ht, g4, g5, g6⟩ := lc_all ok.ok hi hs he h5
  have hy : X.env.scope.names.lookup x = some .local := by rw [ok.ok.sc]; exact h2
  refine PS.weaken (ps_setLc (i := n) ok.ok.calm (by rw [ok.ok.N]; exact ok.ok.nd) (by rw [ok.ok.N]; exact h1) hy (sw_true ok.kind hy h3 h4) g2 g3 g4 g5 g6 (not_set g1 _)) fun D σ Hq hl q => ?_
  obtain ⟨F, ρ, s, h, o, at_, sr, e1, r⟩ := q
  simp only [exec, Option.map_eq_some_iff] at e1
  obtain ⟨⟨d, hx⟩, ex, rfl⟩ := e1
  have hin : n < σ.length := by rw [hl, ok.ok.N]; exact (List.getElem?_eq_some_iff.mp h1).1
  exact lc_rd (Q := fun x H1 => gName n x σ H1 D.nx) ht at_ sr ex fun F1 ρ1 v H1 x1 s1 a1 d1 => r F1 ρ1 _ H1 x1 s1 a1 ((sr.mono x1 s1.sub).set hin d1)
theorem par_sw {X : Cx} {sc : Scope} {x y : Str} {px py pt : Pos} {kt k2 pt2} {a b : Expr} (hk : X.env.scope.kind = .function) (hx : X.env.scope.names.lookup x = some .local) (hy : X.env.scope.names.lookup y = some .local) (hl : py.line = px.line) (ne : x ≠ y)
    (h1 : [a, b].all (foldedForSure 8) = false) (h2 : [a, b].all (constantsAlone 8) = false) (fa : okForm a = true) (fb : okForm b = true) :
    swappedStores [.Tuple [.Name x px, .Name y py] kt pt] (.Tuple [a, b] k2 pt2) X.env = pure (some [x, y]) := by
  have hb : X.env.blockKind = .function := by unfold Env.blockKind; rw [hk]; rfl
  have ns : ([a, b].any fun | .Starred .. => true | _ => false) = false := by
    cases a <;> first | (cases fa; done) | (cases b <;> first | rfl | cases fb)
  have kx : X.env.kindOf x = some .local := hx
  have ky : X.env.kindOf y = some .local := hy
  have bx : ((some NameKind.local : Option NameKind) == some NameKind.local) = true := rfl
  have ed : ([x, y].eraseDups).length = 2 := by
    have nyx : (y == x) = false := by simpa using Ne.symm ne
    simp [List.eraseDups, List.eraseDupsBy, List.eraseDupsBy.loop, nyx, ne, Ne.symm ne]
  unfold swappedStores
  simp only [List.length_cons, List.length_nil, hb, ns, h1, h2]
  simp only [List.filterMap_cons, List.filterMap_nil, kx, ky, List.head?_cons, Option.map_some, Option.getD_some, Expr.pos, hl, bx, beq_self_eq_true, Bool.and_true, Bool.and_self, if_true, ed, List.length_cons, List.length_nil]
  rw [if_neg (by decide), if_neg (fun z => absurd (z.symm.trans ns) (by decide)), if_neg (by decide)]
  rfl
theorem ss_par {i j : Nat} {l : T} (hl : SA P Γ k l) : SS P Γ k (.par [i, j] l) := fun X C st ok hc => by
  unfold chkS at hc
  split at hc <;> first | (cases hc; done) | skip
  all_goals first | (rename_i hh; cases hh; done) | skip
  rename_i x px y py k1 p1 a b k2 p2 _ hh
  cases hh
  simp only [Bool.and_eq_true, decide_eq_true_eq, isLoc, Bool.not_eq_true'] at hc
  obtain ⟨⟨⟨⟨⟨⟨⟨⟨⟨h1, h2⟩, h3⟩, h4⟩, h5⟩, h6⟩, h7⟩, h8⟩, h9⟩, h10⟩ := hc
  have hx : X.env.scope.names.lookup x = some .local := by rw [ok.ok.sc]; exact h4
  have hy : X.env.scope.names.lookup y = some .local := by rw [ok.ok.sc]; exact h5
  have hf := (chkA_ok h10).1
  simp only [List.all_cons, Bool.and_eq_true] at hf
  refine PS.weaken (ps_par (i := i) (j := j) ok.ok.calm (by rw [ok.ok.N]; exact ok.ok.nd) (by rw [ok.ok.N]; exact h1) (by rw [ok.ok.N]; exact h2) h3 hx hy (hl X C _ ok.ok h10) (par_sw (sc := C.sc) ok.kind hx hy h6 h7 h8 h9 hf.1 hf.2.1) swap_tup) fun D σ Hq hlen q => ?_
  obtain ⟨F, ρ, s, h, o, at_, sr, e1, r⟩ := q
  simp only [exec] at e1
  obtain ⟨⟨ds, hx1⟩, ex, e1⟩ := Option.bind_eq_some_iff.mp e1
  simp only [Option.ite_none_right_eq_some, Option.some.injEq] at e1
  obtain ⟨hz, rfl⟩ := e1
  refine ⟨F, ρ, s, h, ds, hx1, at_, sr, ex, fun F1 ρ1 vs H1 x1 s1 a1 d1 => ?_⟩
  have hi : i < σ.length := by rw [hlen, ok.ok.N]; exact (List.getElem?_eq_some_iff.mp h1).1
  have hj : j < σ.length := by rw [hlen, ok.ok.N]; exact (List.getElem?_eq_some_iff.mp h2).1
  cases d1 with
  | nil => simp at hz
  | cons d1 d2 =>
    cases d2 with
    | nil => simp at hz
    | cons d2 d3 =>
      cases d3 with
      | cons _ _ => simp at hz
      | nil => exact ⟨_, _, rfl, r F1 ρ1 _ H1 x1 s1 a1 (((sr.mono x1 s1.sub).set hi d1).set (by simpa using hj) d2)⟩
theorem ss_asgT (he : SE P Γ k e) : SS P Γ k (.asgT (.tt tg) e) := fun X C st ok hc => by
  unfold chkS at hc
  split at hc <;> first | (cases hc; done) | skip
  all_goals first | (rename_i hh; cases hh; done) | skip
  rename_i ts k1 p1 v _ hh
  cases hh
  simp only [Bool.and_eq_true] at hc
  obtain ⟨⟨h1, h2⟩, h3⟩ := hc
  refine PS.weaken (ps_asg (he X C v ok.ok h3) (sg ok.ok h1) swap_tup (sws_tup h2)) fun D σ Hq hl q => ?_
  obtain ⟨F, ρ, s, h, o, at_, sr, e1, r⟩ := q
  simp only [exec] at e1
  obtain ⟨⟨d, hx⟩, ex, e1⟩ := Option.bind_eq_some_iff.mp e1
  simp only [Option.map_eq_some_iff] at e1
  obtain ⟨s1, es, rfl⟩ := e1
  exact ⟨F, ρ, s, h, d, hx, at_, sr, ex, fun F1 ρ1 v H1 x1 st1 a1 d1 => ⟨F1, ρ1, s, hx, d, s1, a1, sr.mono x1 st1.sub, d1, es, fun σ' r' _ _ => r F1 ρ1 σ' H1 x1 st1 a1 r'⟩⟩
theorem ss_asgI (ho : SE P Γ k o) (hi : SE P Γ k i) (he : SE P Γ k e) : SS P Γ k (.asgI o i e) := fun X C st ok hc => by
  unfold chkS at hc
  split at hc <;> first | (cases hc; done) | skip
  all_goals first | (rename_i hh; cases hh; done) | skip
  rename_i a b p1 v _ hh
  cases hh
  simp only [Bool.and_eq_true] at hc
  obtain ⟨⟨⟨h1, h2⟩, h3⟩, h4⟩ := hc
  refine PS.weaken (ps_asg (he X C v ok.ok h4) (pg_sub (ho X C a ok.ok h2) (hi X C b ok.ok h3) set_z (asg_sub h1 _)) swap_sub sws_sub) fun D σ Hq hl q => ?_
  obtain ⟨F, ρ, s, h, o, at_, sr, e1, r⟩ := q
  simp only [exec] at e1
  obtain ⟨⟨z, hz⟩, ez, e1⟩ := Option.bind_eq_some_iff.mp e1
  obtain ⟨⟨x, hx⟩, ex, e1⟩ := Option.bind_eq_some_iff.mp e1
  obtain ⟨⟨y, hy⟩, ey, e1⟩ := Option.bind_eq_some_iff.mp e1
  simp only [Option.map_eq_some_iff] at e1 ex ey
  obtain ⟨h', es, rfl⟩ := e1
  refine ⟨F, ρ, s, h, z, hz, at_, sr, ez, fun F1 ρ1 v H1 x1 s1 a1 d1 => ⟨F1, ρ1, s, hz, x, hx, a1, sr.mono x1 s1.sub, ex, fun F2 ρ2 v2 H2 x2 s2 a2 d2 => ⟨F2, ρ2, s, hx, y, hy, a2, sr.mono (x1.trans x2) (s1.trans s2).sub, ey, fun F3 ρ3 v3 H3 x3 s3 a3 d3 => ?_⟩⟩⟩
  exact ⟨F3, ρ3, hy, x, y, z, h', a3, d2.mono x3 s3.sub, d3, d1.mono (x2.trans x3) (s2.trans s3).sub, es, fun H4 s4 a4 => r F3 ρ3 σ H4 ((x1.trans x2).trans x3) (((s1.trans s2).trans s3).trans s4) a4 (sr.mono ((x1.trans x2).trans x3) ((s1.trans s2).trans s3).sub)⟩
theorem aug_op {h : H} {o : Bin} {x y d : D} (e : augop o x y = some d) : ∃ i j, x = .int i ∧ y = .int j ∧ binop h o x y = some d ∧ (o = .add ∨ o = .sub) := by
  unfold augop at e
  split at e
  · exact ⟨_, _, rfl, rfl, e, .inl rfl⟩
  · exact ⟨_, _, rfl, rfl, e, .inr rfl⟩
  · cases e
theorem ss_aug {n : Nat} {q : Bin} (he : SE P Γ k e) : SS P Γ k (.aug n q e) := fun X C st ok hc => by
  unfold chkS at hc
  split at hc <;> first | (cases hc; done) | skip
  all_goals first | (rename_i hh; cases hh; done) | skip
  rename_i x p1 q1 v _ hh
  cases hh
  simp only [Bool.and_eq_true, decide_eq_true_eq] at hc
  obtain ⟨⟨⟨h1, h2⟩, h3⟩, h4⟩ := hc
  obtain ⟨g1, g2⟩ := lcl_ok h2
  rw [opB_ok h3]
  refine PS.weaken (ps_aug (i := n) (by rw [ok.ok.N]; exact ok.ok.nd) (by rw [ok.ok.N]; exact h1) (by rw [ok.ok.sc]; exact g1) (he X C v ok.ok h4) (ip_bin q) (by rw [ok.ok.fn, ok.ok.sc]; exact g2)) fun D σ Hq hl qq => ?_
  obtain ⟨F, ρ, s, h, o, at_, sr, e1, r⟩ := qq
  simp only [exec] at e1
  split at e1
  · rename_i d hd
    obtain ⟨⟨z, hz⟩, ez, e1⟩ := Option.bind_eq_some_iff.mp e1
    simp only [Option.map_eq_some_iff] at e1
    obtain ⟨w, ew, rfl⟩ := e1
    obtain ⟨u, hu, du⟩ := sr n d hd
    refine ⟨u, hu, F, ρ, s, h, z, hz, at_, sr, ez, fun F1 ρ1 v H1 x1 s1 a1 d1 => ?_⟩
    obtain ⟨i1, j1, rfl, rfl, eb, ho⟩ := aug_op (h := hz) ew
    have hi : n < σ.length := (List.getElem?_eq_some_iff.mp hu).1
    exact ⟨F1, ρ1, hz, i1, j1, w, a1, du.mono x1 s1.sub, d1, eb, ho, fun F2 ρ2 v2 H2 x2 s2 a2 d2 => r F2 ρ2 _ H2 (x1.trans x2) (s1.trans s2) a2 ((sr.mono (x1.trans x2) (s1.trans s2).sub).set hi d2)⟩
  · cases e1
def rGet : V → V → Hp → VK → Prop := fun x y Hq Q => ∃ F ρ h n j d, At F ρ h Hq ∧ DV F ρ (.ref n) x ∧ DV F ρ (.int (.ofNat j)) y ∧ indexD h (.ref n) (.int (.ofNat j)) = some d ∧ Ret F ρ Hq d h Q
theorem get_z {X : Cx} : PGet X rGet := by
  intro pins s σ Hq o i ov iv Q I ro ri q
  obtain ⟨F, ρ, h, n, j, d, at_, ra, rb, e, ret⟩ := q
  simp only [indexD] at e
  split at e
  · rename_i l hl
    simp only [nthI] at e
    cases rb
    obtain ⟨p, h1, rfl⟩ := ra
    obtain ⟨p', h2, q⟩ := at_.have_ hl
    rw [h1] at h2; cases h2
    obtain ⟨_, vs, h3, h4⟩ := q
    obtain ⟨w, e4, e5⟩ := h4.get e
    cases ro
    obtain ⟨t, rfl⟩ := ri
    obtain ⟨its, rv, pl, hz⟩ := I.list (SqL.of h3)
    obtain ⟨u, hu, ru⟩ := rv.get e4
    have hj := (List.getElem?_eq_some_iff.mp e4).1
    have hs : vs.length ≤ sizeLine := by simpa using hz
    have hs2 : sizeLine < 2 ^ 63 := by decide
    exact wpAny_getItem_list pl.isList (by simp) (by show ((j : Nat) : Int) < 2 ^ 63; omega) (by simpa using hu) ⟨w, Hq, I, ru, ret.go at_ e5⟩
  · cases e
theorem setO_ref {h h1 : H} {x y z : D} (e : setO h x y z = some h1) : ∃ n j, x = .ref n ∧ y = .int (.ofNat j) := by
  unfold setO at e
  split at e
  · rename_i n i
    split at e
    · cases i with
      | ofNat j => exact ⟨n, j, rfl, rfl⟩
      | negSucc j => simp at e
    · cases e
  · cases e
theorem ss_augI {q : Bin} (ha : SE P Γ k a) (hi : SE P Γ k i) (he : SE P Γ k e) : SS P Γ k (.augI a i q e) := fun X C st ok hc => by
  unfold chkS at hc
  split at hc <;> first | (cases hc; done) | skip
  all_goals first | (rename_i hh; cases hh; done) | skip
  rename_i a1 b1 p1 q1 v _ hh
  cases hh
  simp only [Bool.and_eq_true] at hc
  obtain ⟨⟨⟨⟨h1, h2⟩, h3⟩, h4⟩, h5⟩ := hc
  rw [opB_ok h2]
  refine PS.weaken (ps_augS (tget := rGet) (ha X C _ ok.ok h3) (hi X C _ ok.ok h4) (fun pins s σ Hq o i ov iv Q I ro ri q => ?_) (he X C v ok.ok h5) (ip_bin q) set_z (aug_sub h1)) fun D σ Hq hl qq => ?_
  · exact get_z pins s σ Hq o i ov iv Q I ro ri q
  · obtain ⟨F, ρ, s, h, o, at_, sr, e1, r⟩ := qq
    simp only [exec] at e1
    obtain ⟨⟨x, hx⟩, ex, e1⟩ := Option.bind_eq_some_iff.mp e1
    obtain ⟨⟨y, hy⟩, ey, e1⟩ := Option.bind_eq_some_iff.mp e1
    obtain ⟨v, ev, e1⟩ := Option.bind_eq_some_iff.mp e1
    obtain ⟨⟨w, hw⟩, ew, e1⟩ := Option.bind_eq_some_iff.mp e1
    obtain ⟨z, ez, e1⟩ := Option.bind_eq_some_iff.mp e1
    simp only [Option.map_eq_some_iff] at e1 ex ey ew ev ez
    obtain ⟨h', es, rfl⟩ := e1
    obtain ⟨i1, j1, rfl, rfl, eb, ho⟩ := aug_op (h := hw) ez
    obtain ⟨n1, m1, rfl, rfl⟩ := setO_ref es
    refine ⟨F, ρ, s, h, _, hx, at_, sr, ex, fun F1 ρ1 v1 H1 x1 s1 a1 d1 => ⟨F1, ρ1, s, hx, _, hy, a1, sr.mono x1 s1.sub, ey, fun F2 ρ2 v2 H2 x2 s2 a2 d2 => ⟨F2, ρ2, hy, n1, m1, _, a2, d1.mono x2 s2.sub, d2, ev, fun F3 ρ3 v3 H3 x3 s3 a3 d3 => ?_⟩⟩⟩
    refine ⟨F3, ρ3, s, hy, _, hw, a3, sr.mono ((x1.trans x2).trans x3) ((s1.trans s2).trans s3).sub, ew, fun F4 ρ4 v4 H4 x4 s4 a4 d4 => ⟨F4, ρ4, hw, i1, j1, z, a4, d3.mono x4 s4.sub, d4, eb, ho, fun F5 ρ5 v5 H5 x5 s5 a5 d5 => ?_⟩⟩
    have xx := (((x1.trans x2).trans x3).trans x4).trans x5
    have ss := (((s1.trans s2).trans s3).trans s4).trans s5
    exact ⟨F5, ρ5, hw, _, _, z, h', a5, d1.mono (((x2.trans x3).trans x4).trans x5) (((s2.trans s3).trans s4).trans s5).sub, d2.mono ((x3.trans x4).trans x5) ((s3.trans s4).trans s5).sub, d5, es, fun H6 s6 a6 => r F5 ρ5 σ H6 xx (ss.trans s6) a6 (sr.mono xx ss.sub)⟩
theorem ss_ex (he : SE P Γ k e) : SS P Γ k (.ex e) := fun X C st ok hc => by
  unfold chkS at hc
  split at hc <;> first | (cases hc; done) | skip
  all_goals first | (rename_i hh; cases hh; done) | skip
  rename_i v _ hh
  cases hh
  simp only [Bool.and_eq_true] at hc
  refine PS.weaken (ps_expr (he X C v ok.ok hc.2) (noComp_ok hc.1)) fun D σ Hq hl q => ?_
  obtain ⟨F, ρ, s, h, o, at_, sr, e1, r⟩ := q
  simp only [exec, Option.map_eq_some_iff] at e1
  obtain ⟨⟨d, hx⟩, ex, rfl⟩ := e1
  exact ⟨F, ρ, s, h, d, hx, at_, sr, ex, fun F1 ρ1 v H1 x1 s1 a1 d1 => r F1 ρ1 _ H1 x1 s1 a1 (sr.mono x1 s1.sub)⟩
theorem ss_ret (he : SE P Γ k e) : SS P Γ k (.ret e) := fun X C st ok hc => by
  cases st with
  | Return v p =>
    cases v with
    | some v =>
      have hc : chkE P C e v = true := by
        cases e <;> exact hc
      refine PS.weaken (ps_ret (he X C v ok.ok hc)) fun D σ Hq hl q => ?_
      obtain ⟨F, ρ, s, h, o, at_, sr, e1, r⟩ := q
      simp only [exec, Option.map_eq_some_iff] at e1
      obtain ⟨⟨d, hx⟩, ex, rfl⟩ := e1
      exact ⟨F, ρ, s, h, d, hx, at_, sr, ex, r⟩
    | none =>
      refine PS.weaken ps_retN fun D σ Hq hl q => ?_
      obtain ⟨F, ρ, s, h, o, at_, sr, e1, r⟩ := q
      have he : e = .cst .none := by
        unfold chkS at hc
        split at hc <;> first | (cases hc; done) | skip
        all_goals first | (rename_i hh; cases hh; done) | skip
        all_goals (rename_i hh _; cases hh; rfl)
      subst he
      simp only [exec, evalE, Option.map_some, Option.some.injEq] at e1
      subst e1
      exact r F ρ _ Hq (Ext.refl _) (Step.refl _ _ _) at_ .non
  | _ => exact absurd (show false = true from hc) Bool.false_ne_true
end
end Z

/-! ZE: branches, loops; the whole language. -/
namespace Z
open PySem PySem.Spec PyProof.Rows L2
variable [KF]
section
variable {P : Txt} {Γ : G} {k : Nat} {t a b c l e i o tg it : T}
theorem ss_brk : SS P Γ k .brk := fun X C st ok hc => by
  cases st with
  | Break p =>
    refine PS.weaken ps_break fun D σ Hq hl q => ?_
    obtain ⟨F, ρ, s, h, o, at_, sr, e1, r⟩ := q
    simp only [exec, Option.some.injEq] at e1
    subst e1
    exact r F ρ σ Hq (Ext.refl _) (Step.refl _ _ _) at_ sr
  | _ => exact absurd (show false = true from hc) Bool.false_ne_true
theorem ss_cnt : SS P Γ k .cnt := fun X C st ok hc => by
  cases st with
  | Continue p =>
    refine PS.weaken ps_continue fun D σ Hq hl q => ?_
    obtain ⟨F, ρ, s, h, o, at_, sr, e1, r⟩ := q
    simp only [exec, Option.some.injEq] at e1
    subst e1
    exact r F ρ σ Hq (Ext.refl _) (Step.refl _ _ _) at_ sr
  | _ => exact absurd (show false = true from hc) Bool.false_ne_true
theorem ss_ifs (hc' : ST P Γ k c) (ha : SL P Γ k a) (hb : SL P Γ k b) : SS P Γ k (.ifs c a b) := fun X C st ok hc => by
  cases st with
  | If x ys zs p =>
    simp only [chkS, Bool.and_eq_true] at hc
    obtain ⟨⟨h1, h2⟩, h3⟩ := hc
    refine PS.weaken (ps_if (hc' X C x ok.ok h1) (ha X C ys ok h2) (hb X C zs ok h3)) fun D σ Hq hl q => ?_
    obtain ⟨F, ρ, s, h, o, at_, sr, e1, r⟩ := q
    simp only [exec] at e1
    obtain ⟨⟨t, hx⟩, ex, e1⟩ := Option.bind_eq_some_iff.mp e1
    refine ⟨F, ρ, s, h, t, hx, at_, sr, ex, fun F1 ρ1 H1 x1 s1 a1 => ?_⟩
    cases t with
    | true =>
      rw [if_pos rfl] at e1 ⊢
      exact ⟨F1, ρ1, s, hx, o, a1, sr.mono x1 s1.sub, e1, r.mono x1 s1⟩
    | false =>
      rw [if_neg Bool.false_ne_true] at e1 ⊢
      exact ⟨F1, ρ1, s, hx, o, a1, sr.mono x1 s1.sub, e1, r.mono x1 s1⟩
  | _ => exact absurd (show false = true from hc) Bool.false_ne_true
theorem ss_whl (hc' : ST P Γ k c) (hb : SL P Γ k b) : SS P Γ k (.whl c b) := fun X C st ok hc => by
  cases st with
  | While x ys zs p =>
    cases zs with
    | cons _ _ => exact absurd (show false = true from hc) Bool.false_ne_true
    | nil =>
      simp only [chkS, Bool.and_eq_true] at hc
      obtain ⟨h1, h2⟩ := hc
      refine PS.weaken (ps_while ok.pass (hc' X C x ok.ok h1) (hb X C ys ok h2)) fun D σ Hq hl q => ?_
      obtain ⟨F, ρ, s, h, o, at_, sr, e1, r⟩ := q
      simp only [exec] at e1
      generalize most = m0 at e1
      refine ⟨fun m σ1 H1 => ∃ F1 ρ1 s1 h1, Ext F F1 ∧ Step F F1 ρ ρ1 Hq H1 ∧ At F1 ρ1 h1 H1 ∧ SR F1 ρ1 s1 σ1 ∧ whl (test Γ c) (exec Γ b) m s1 h1 = some o, ⟨m0, F, ρ, s, h, Ext.refl _, Step.refl _ _ _, at_, sr, e1⟩, ?_⟩
      rintro m σ1 H1 ⟨F1, ρ1, s1, h1, x1, st1, a1, r1, e2⟩
      cases m with
      | zero => simp [whl] at e2
      | succ m =>
        simp only [whl] at e2
        obtain ⟨⟨t, hx⟩, ex, e2⟩ := Option.bind_eq_some_iff.mp e2
        refine ⟨F1, ρ1, s1, h1, t, hx, a1, r1, ex, fun F2 ρ2 H2 x2 st2 a2 => ?_⟩
        cases t with
        | true =>
          rw [if_pos rfl] at e2 ⊢
          obtain ⟨o1, e3, e4⟩ := Option.bind_eq_some_iff.mp e2
          refine ⟨fun σ3 H3 => ∃ F3 ρ3 s3 h3, Ext F F3 ∧ Step F F3 ρ ρ3 Hq H3 ∧ At F3 ρ3 h3 H3 ∧ SR F3 ρ3 s3 σ3 ∧ whl (test Γ c) (exec Γ b) m s3 h3 = some o, fun σ' H' w => ⟨m, Nat.lt_succ_self m, w⟩, F2, ρ2, s1, hx, o1, a2, r1.mono x2 st2.sub, e3, ?_⟩
          have xx := x1.trans x2
          have ss := st1.trans st2
          cases o1 with
          | nx s3 h3 => exact fun F3 ρ3 σ3 H3 x3 st3 a3 r3 => ⟨F3, ρ3, s3, h3, xx.trans x3, ss.trans st3, a3, r3, e4⟩
          | ct s3 h3 => exact fun F3 ρ3 σ3 H3 x3 st3 a3 r3 => ⟨F3, ρ3, s3, h3, xx.trans x3, ss.trans st3, a3, r3, e4⟩
          | bk s3 h3 =>
            cases e4
            exact r.mono xx ss
          | rt d h3 =>
            cases e4
            exact r.mono xx ss
        | false =>
          rw [if_neg Bool.false_ne_true] at e2 ⊢
          cases e2
          exact r F2 ρ2 σ1 H2 (x1.trans x2) (st1.trans st2) a2 (r1.mono x2 st2.sub)
  | _ => exact absurd (show false = true from hc) Bool.false_ne_true
theorem ss_for (hi : SI P Γ k it) (hb : SL P Γ k b) : SS P Γ k (.for tg it b) := fun X C st ok hc => by
  cases st with
  | For g x ys zs p =>
    cases zs with
    | cons _ _ => exact absurd (show false = true from hc) Bool.false_ne_true
    | nil =>
      simp only [chkS, Bool.and_eq_true] at hc
      obtain ⟨⟨⟨h1, h2⟩, h3⟩, h4⟩ := hc
      refine PS.weaken (ps_for ok.pass ok.ok.calm (hi X C x g ok.ok h3) (sg ok.ok h1) (hb X C ys ok h4) (not_set h2 _)) fun D σ Hq hl q => ?_
      obtain ⟨F, ρ, s, h, o, at_, sr, e1, r⟩ := q
      simp only [exec] at e1
      obtain ⟨⟨xs, hx⟩, ex, e1⟩ := Option.bind_eq_some_iff.mp e1
      simp only at e1
      refine ⟨F, ρ, s, h, xs, hx, at_, sr, ex, fun F1 ρ1 J H1 x1 st1 a1 wi => ?_⟩
      generalize hf : (fun d s h => (asgn tg d s).bind fun s1 => exec Γ b s1 h) = f at e1
      refine ⟨fun n m σ1 H2 => m = xs.length - n ∧ n ≤ xs.length ∧ ∃ F2 ρ2 s2 h2, Ext F1 F2 ∧ Step F1 F2 ρ1 ρ2 H1 H2 ∧ At F2 ρ2 h2 H2 ∧ SR F2 ρ2 s2 σ1 ∧ fors f (xs.drop n) s2 h2 = some o, ⟨xs.length, by simp, Nat.zero_le _, F1, ρ1, s, hx, Ext.refl _, Step.refl _ _ _, a1, sr.mono x1 st1.sub, e1⟩, ?_⟩
      rintro n m σ1 H2 ⟨rfl, hn, F2, ρ2, s2, h2, x2, st2, a2, r2, e2⟩
      by_cases hlt : n < xs.length
      · refine .inr ⟨wi.go n H2 (x2.trans a2.ex) hlt, fun σ3 H3 => ∃ F3 ρ3 s3 h3, Ext F1 F3 ∧ Step F1 F3 ρ1 ρ3 H1 H3 ∧ At F3 ρ3 h3 H3 ∧ SR F3 ρ3 s3 σ3 ∧ fors f (xs.drop (n + 1)) s3 h3 = some o, fun σ' H' w => ⟨xs.length - (n + 1), by omega, rfl, hlt, w⟩, fun v H' y => ?_⟩
        obtain ⟨rfl, d, ed, dv⟩ := wi.yld n _ v H' (x2.trans a2.ex) hlt y
        have edr : xs.drop n = d :: xs.drop (n + 1) := by
          rw [List.drop_eq_getElem_cons hlt]
          congr 1
          have := List.getElem?_eq_some_iff.mp ed
          exact this.2
        rw [edr] at e2
        simp only [fors] at e2
        obtain ⟨o1, e3, e4⟩ := Option.bind_eq_some_iff.mp e2
        rw [← hf] at e3
        obtain ⟨s3, ea, e3⟩ := Option.bind_eq_some_iff.mp e3
        refine ⟨F2, ρ2, s2, h2, d, s3, a2, r2, dv.mono x2 st2.sub, ea, fun σ3 r3 _ _ => ⟨F2, ρ2, s3, h2, o1, a2, r3, e3, ?_⟩⟩
        cases o1 with
        | nx s4 h4 => exact fun F4 ρ4 σ4 H4 x4 st4 a4 r4 => ⟨F4, ρ4, s4, h4, x2.trans x4, st2.trans st4, a4, r4, e4⟩
        | ct s4 h4 => exact fun F4 ρ4 σ4 H4 x4 st4 a4 r4 => ⟨F4, ρ4, s4, h4, x2.trans x4, st2.trans st4, a4, r4, e4⟩
        | bk s4 h4 =>
          cases e4
          exact r.mono (x1.trans x2) (st1.trans st2)
        | rt d h4 =>
          cases e4
          exact r.mono (x1.trans x2) (st1.trans st2)
      · have hn' : n = xs.length := by omega
        subst hn'
        rw [List.drop_length] at e2
        simp only [fors] at e2
        cases e2
        exact .inl ⟨wi.stop H2 (x2.trans a2.ex), r F2 ρ2 σ1 H2 (x1.trans x2) (st1.trans st2) a2 r2⟩
  | _ => exact absurd (show false = true from hc) Bool.false_ne_true
end
section
variable (P : Txt) (Γ : G) (kk : Nat)
/-- all that is said of a piece of the language -/
structure All (u : T) : Prop where
  e : SE P Γ kk u
  t : ST P Γ kk u
  b : SB P Γ kk u
  a : SA P Γ kk u
  k : SK P Γ kk u
  p : SP' P Γ kk u
  c : SC P Γ kk u
  i : SI P Γ kk u
  s : SS P Γ kk u
  l : SL P Γ kk u
  m : ∀ n, SS P Γ kk (.asgc n u)
end
section
variable {P : Txt} {Γ : G} {k : Nat} {t a b c l e i o tg it : T}
theorem noF {p : Prop} (h : false = true) : p := absurd h Bool.false_ne_true
theorem and_form : ∀ C e, chkE P C (.and a b) e = true → ∃ op xs pos, e = .BoolOp op xs pos := fun C e h => by
  cases e <;> first | exact ⟨_, _, _, rfl⟩ | exact noF h
theorem or_form : ∀ C e, chkE P C (.or a b) e = true → ∃ op xs pos, e = .BoolOp op xs pos := fun C e h => by
  cases e <;> first | exact ⟨_, _, _, rfl⟩ | exact noF h
theorem var_plain {i : Nat} : ∀ C e, chkE P C (.var i) e = true → ∀ env whole, isTrue e env whole = (do let v ← whole; standAt e.pos; holding [v] (PySem.truthy v)) := fun C e h env whole => by
  cases e <;> first | rfl | exact absurd (show false = true from h) Bool.false_ne_true | (rename_i op _ _; cases op <;> first | rfl | exact absurd (show false = true from h) Bool.false_ne_true)
theorem cst_plain {d : PyData} : ∀ C e, chkE P C (.cst d) e = true → ∀ env whole, isTrue e env whole = (do let v ← whole; standAt e.pos; holding [v] (PySem.truthy v)) := fun C e h env whole => by
  cases e <;> first | rfl | exact absurd (show false = true from h) Bool.false_ne_true | (rename_i op _ _; cases op <;> first | rfl | exact absurd (show false = true from h) Bool.false_ne_true)
theorem gint_plain {x : Str} {i : Int} : ∀ C e, chkE P C (.gint x i) e = true → ∀ env whole, isTrue e env whole = (do let v ← whole; standAt e.pos; holding [v] (PySem.truthy v)) := fun C e h env whole => by
  cases e <;> first | rfl | exact absurd (show false = true from h) Bool.false_ne_true | (rename_i op _ _; cases op <;> first | rfl | exact absurd (show false = true from h) Bool.false_ne_true)
theorem bin_plain {o : Bin} : ∀ C e, chkE P C (.bin o a b) e = true → ∀ env whole, isTrue e env whole = (do let v ← whole; standAt e.pos; holding [v] (PySem.truthy v)) := fun C e h env whole => by
  cases e <;> first | rfl | exact absurd (show false = true from h) Bool.false_ne_true | (rename_i op _ _; cases op <;> first | rfl | exact absurd (show false = true from h) Bool.false_ne_true)
theorem neg_plain  : ∀ C e, chkE P C (.neg a) e = true → ∀ env whole, isTrue e env whole = (do let v ← whole; standAt e.pos; holding [v] (PySem.truthy v)) := fun C e h env whole => by
  cases e <;> first | rfl | exact absurd (show false = true from h) Bool.false_ne_true | (rename_i op _ _; cases op <;> first | rfl | exact absurd (show false = true from h) Bool.false_ne_true)
theorem tup_plain  : ∀ C e, chkE P C (.tup l) e = true → ∀ env whole, isTrue e env whole = (do let v ← whole; standAt e.pos; holding [v] (PySem.truthy v)) := fun C e h env whole => by
  cases e <;> first | rfl | exact absurd (show false = true from h) Bool.false_ne_true | (rename_i op _ _; cases op <;> first | rfl | exact absurd (show false = true from h) Bool.false_ne_true)
theorem lst_plain  : ∀ C e, chkE P C (.lst l) e = true → ∀ env whole, isTrue e env whole = (do let v ← whole; standAt e.pos; holding [v] (PySem.truthy v)) := fun C e h env whole => by
  cases e <;> first | rfl | exact absurd (show false = true from h) Bool.false_ne_true | (rename_i op _ _; cases op <;> first | rfl | exact absurd (show false = true from h) Bool.false_ne_true)
theorem lstM_plain  : ∀ C e, chkE P C (.lstM l) e = true → ∀ env whole, isTrue e env whole = (do let v ← whole; standAt e.pos; holding [v] (PySem.truthy v)) := fun C e h env whole => by
  cases e <;> first | rfl | exact absurd (show false = true from h) Bool.false_ne_true | (rename_i op _ _; cases op <;> first | rfl | exact absurd (show false = true from h) Bool.false_ne_true)
theorem addM_plain  : ∀ C e, chkE P C (.addM a b) e = true → ∀ env whole, isTrue e env whole = (do let v ← whole; standAt e.pos; holding [v] (PySem.truthy v)) := fun C e h env whole => by
  cases e <;> first | rfl | exact absurd (show false = true from h) Bool.false_ne_true | (rename_i op _ _; cases op <;> first | rfl | exact absurd (show false = true from h) Bool.false_ne_true)
theorem idx_plain  : ∀ C e, chkE P C (.idx a b) e = true → ∀ env whole, isTrue e env whole = (do let v ← whole; standAt e.pos; holding [v] (PySem.truthy v)) := fun C e h env whole => by
  cases e <;> first | rfl | exact absurd (show false = true from h) Bool.false_ne_true | (rename_i op _ _; cases op <;> first | rfl | exact absurd (show false = true from h) Bool.false_ne_true)
theorem slc_plain  : ∀ C e, chkE P C (.slc a b c) e = true → ∀ env whole, isTrue e env whole = (do let v ← whole; standAt e.pos; holding [v] (PySem.truthy v)) := fun C e h env whole => by
  cases e <;> first | rfl | exact absurd (show false = true from h) Bool.false_ne_true | (rename_i op _ _; cases op <;> first | rfl | exact absurd (show false = true from h) Bool.false_ne_true)
theorem rev_plain  : ∀ C e, chkE P C (.rev a) e = true → ∀ env whole, isTrue e env whole = (do let v ← whole; standAt e.pos; holding [v] (PySem.truthy v)) := fun C e h env whole => by
  cases e <;> first | rfl | exact absurd (show false = true from h) Bool.false_ne_true | (rename_i op _ _; cases op <;> first | rfl | exact absurd (show false = true from h) Bool.false_ne_true)
theorem call_plain {g : Nat} : ∀ C e, chkE P C (.call g l) e = true → ∀ env whole, isTrue e env whole = (do let v ← whole; standAt e.pos; holding [v] (PySem.truthy v)) := fun C e h env whole => by
  cases e <;> first | rfl | exact absurd (show false = true from h) Bool.false_ne_true | (rename_i op _ _; cases op <;> first | rfl | exact absurd (show false = true from h) Bool.false_ne_true)
theorem callk_plain {g : Nat} {ks : List Str} {perm : List Nat} : ∀ C e, chkE P C (.callk g l ks b perm) e = true → ∀ env whole, isTrue e env whole = (do let v ← whole; standAt e.pos; holding [v] (PySem.truthy v)) := fun C e h env whole => by
  cases e <;> first | rfl | exact absurd (show false = true from h) Bool.false_ne_true | (rename_i op _ _; cases op <;> first | rfl | exact absurd (show false = true from h) Bool.false_ne_true)
theorem blt_plain {f : Blt} : ∀ C e, chkE P C (.blt f l) e = true → ∀ env whole, isTrue e env whole = (do let v ← whole; standAt e.pos; holding [v] (PySem.truthy v)) := fun C e h env whole => by
  cases e <;> first | rfl | exact absurd (show false = true from h) Bool.false_ne_true | (rename_i op _ _; cases op <;> first | rfl | exact absurd (show false = true from h) Bool.false_ne_true)
theorem isin_plain {tys : List Ty} {many : Bool} : ∀ C e, chkE P C (.isin a tys many) e = true → ∀ env whole, isTrue e env whole = (do let v ← whole; standAt e.pos; holding [v] (PySem.truthy v)) := fun C e h env whole => by
  cases e <;> first | rfl | exact absurd (show false = true from h) Bool.false_ne_true | (rename_i op _ _; cases op <;> first | rfl | exact absurd (show false = true from h) Bool.false_ne_true)
theorem frz_plain  : ∀ C e, chkE P C (.frz a) e = true → ∀ env whole, isTrue e env whole = (do let v ← whole; standAt e.pos; holding [v] (PySem.truthy v)) := fun C e h env whole => by
  cases e <;> first | rfl | exact absurd (show false = true from h) Bool.false_ne_true | (rename_i op _ _; cases op <;> first | rfl | exact absurd (show false = true from h) Bool.false_ne_true)
theorem app_plain  : ∀ C e, chkE P C (.app a b) e = true → ∀ env whole, isTrue e env whole = (do let v ← whole; standAt e.pos; holding [v] (PySem.truthy v)) := fun C e h env whole => by
  cases e <;> first | rfl | exact absurd (show false = true from h) Bool.false_ne_true | (rename_i op _ _; cases op <;> first | rfl | exact absurd (show false = true from h) Bool.false_ne_true)
theorem lc_plain {own : List (Str × Nat)} {cs elt : T} : ∀ C e, chkE P C (.lc own tg it cs elt) e = true → ∀ env whole, isTrue e env whole = (do let v ← whole; standAt e.pos; holding [v] (PySem.truthy v)) := fun C e h env whole => by
  cases e <;> first | rfl | exact absurd (show false = true from h) Bool.false_ne_true | (rename_i op _ _; cases op <;> first | rfl | exact absurd (show false = true from h) Bool.false_ne_true)

theorem sc_cons (ha : ST P Γ k a) : SC P Γ k (.cons a b) := by
  by_cases hb : b = .nil
  · exact sc_one ha hb
  · intro X C es ok hc
    exfalso
    unfold chkC at hc
    split at hc <;> first | (rename_i hh; cases hh; done) | (cases hc; done) | (rename_i hh; cases hh; exact hb rfl)
theorem ss_asgc_no {n : Nat} (h : isLc t = false) : SS P Γ k (.asgc n t) := fun X C st ok hc => by
  exfalso
  unfold chkS at hc
  split at hc <;> first | (rename_i hh; cases hh; done) | (cases hc; done) | skip
  rename_i hh
  cases hh
  rw [h] at hc
  simp at hc
theorem ss_par_no {l2 : List Nat} (h : l2.length ≠ 2) : SS P Γ k (.par l2 l) := fun X C st ok hc => by
  exfalso
  unfold chkS at hc
  split at hc <;> first | (rename_i hh; cases hh; done) | (cases hc; done) | (rename_i hh; cases hh; exact h rfl)
theorem ss_par_of {l2 : List Nat} (hl : SA P Γ k l) : SS P Γ k (.par l2 l) := by
  by_cases h : l2.length = 2
  · match l2, h with
    | [i, j], _ => exact ss_par hl
  · exact ss_par_no h
theorem ss_asgT_of (he : SE P Γ k e) : SS P Γ k (.asgT tg e) := by
  by_cases h : ∃ l, tg = .tt l
  · obtain ⟨l, rfl⟩ := h
    exact ss_asgT he
  · intro X C st ok hc
    exfalso
    unfold chkS at hc
    split at hc <;> first | (rename_i hh; cases hh; done) | (cases hc; done) | (rename_i hh; cases hh; exact h ⟨_, rfl⟩)
set_option maxHeartbeats 8000000 in
theorem all_ok : ∀ t : T, All P Γ k t := fun t => by
  induction t with
  | var i => exact ⟨se_var, st_of (se_var) var_plain, fun _ _ _ _ _ _ h => noF h, fun _ _ _ _ h => noF h, fun _ _ _ _ h => noF h, fun _ _ _ _ h => noF h, fun _ _ _ _ h => noF h, fun _ _ _ _ _ h => noF h, fun _ _ _ _ h => noF h, fun _ _ _ _ h => noF h, fun _ => ss_asgc_no rfl⟩
  | cst d => exact ⟨se_cst, st_of (se_cst) cst_plain, fun _ _ _ _ _ _ h => noF h, fun _ _ _ _ h => noF h, fun _ _ _ _ h => noF h, fun _ _ _ _ h => noF h, fun _ _ _ _ h => noF h, fun _ _ _ _ _ h => noF h, fun _ _ _ _ h => noF h, fun _ _ _ _ h => noF h, fun _ => ss_asgc_no rfl⟩
  | gint x i => exact ⟨se_gint, st_of (se_gint) gint_plain, fun _ _ _ _ _ _ h => noF h, fun _ _ _ _ h => noF h, fun _ _ _ _ h => noF h, fun _ _ _ _ h => noF h, fun _ _ _ _ h => noF h, fun _ _ _ _ _ h => noF h, fun _ _ _ _ h => noF h, fun _ _ _ _ h => noF h, fun _ => ss_asgc_no rfl⟩
  | bin o a b ha hb => exact ⟨se_bin ha.e hb.e, st_of (se_bin ha.e hb.e) bin_plain, fun _ _ _ _ _ _ h => noF h, fun _ _ _ _ h => noF h, fun _ _ _ _ h => noF h, fun _ _ _ _ h => noF h, fun _ _ _ _ h => noF h, fun _ _ _ _ _ h => noF h, fun _ _ _ _ h => noF h, fun _ _ _ _ h => noF h, fun _ => ss_asgc_no rfl⟩
  | neg a ha => exact ⟨se_neg ha.e, st_of (se_neg ha.e) neg_plain, fun _ _ _ _ _ _ h => noF h, fun _ _ _ _ h => noF h, fun _ _ _ _ h => noF h, fun _ _ _ _ h => noF h, fun _ _ _ _ h => noF h, fun _ _ _ _ _ h => noF h, fun _ _ _ _ h => noF h, fun _ _ _ _ h => noF h, fun _ => ss_asgc_no rfl⟩
  | not a ha => exact ⟨se_not ha.e, st_not ha.t, fun _ _ _ _ _ _ h => noF h, fun _ _ _ _ h => noF h, fun _ _ _ _ h => noF h, fun _ _ _ _ h => noF h, fun _ _ _ _ h => noF h, fun _ _ _ _ _ h => noF h, fun _ _ _ _ h => noF h, fun _ _ _ _ h => noF h, fun _ => ss_asgc_no rfl⟩
  | and a b ha hb => exact ⟨se_and ha.e hb.e, st_bool (sb_and ha.t hb.t hb.b) (and_form), sb_and ha.t hb.t hb.b, fun _ _ _ _ h => noF h, fun _ _ _ _ h => noF h, fun _ _ _ _ h => noF h, fun _ _ _ _ h => noF h, fun _ _ _ _ _ h => noF h, fun _ _ _ _ h => noF h, fun _ _ _ _ h => noF h, fun _ => ss_asgc_no rfl⟩
  | or a b ha hb => exact ⟨se_or ha.e hb.e, st_bool (sb_or ha.t hb.t hb.b) (or_form), sb_or ha.t hb.t hb.b, fun _ _ _ _ h => noF h, fun _ _ _ _ h => noF h, fun _ _ _ _ h => noF h, fun _ _ _ _ h => noF h, fun _ _ _ _ _ h => noF h, fun _ _ _ _ h => noF h, fun _ _ _ _ h => noF h, fun _ => ss_asgc_no rfl⟩
  | cmp o a b ha hb => exact ⟨se_cmp ha.e hb.e, st_cmp ha.e hb.e, fun _ _ _ _ _ _ h => noF h, fun _ _ _ _ h => noF h, fun _ _ _ _ h => noF h, fun _ _ _ _ h => noF h, fun _ _ _ _ h => noF h, fun _ _ _ _ _ h => noF h, fun _ _ _ _ h => noF h, fun _ _ _ _ h => noF h, fun _ => ss_asgc_no rfl⟩
  | chain o o2 a b c ha hb hc => exact ⟨se_chain ha.e hb.e hc.e, st_chain ha.e hb.e hc.e, fun _ _ _ _ _ _ h => noF h, fun _ _ _ _ h => noF h, fun _ _ _ _ h => noF h, fun _ _ _ _ h => noF h, fun _ _ _ _ h => noF h, fun _ _ _ _ _ h => noF h, fun _ _ _ _ h => noF h, fun _ _ _ _ h => noF h, fun _ => ss_asgc_no rfl⟩
  | ite c a b hc ha hb => exact ⟨se_ite hc.t ha.e hb.e, st_ite hc.t ha.t hb.t, fun _ _ _ _ _ _ h => noF h, fun _ _ _ _ h => noF h, fun _ _ _ _ h => noF h, fun _ _ _ _ h => noF h, fun _ _ _ _ h => noF h, fun _ _ _ _ _ h => noF h, fun _ _ _ _ h => noF h, fun _ _ _ _ h => noF h, fun _ => ss_asgc_no rfl⟩
  | tup l hl => exact ⟨se_tup hl.a, st_of (se_tup hl.a) tup_plain, fun _ _ _ _ _ _ h => noF h, fun _ _ _ _ h => noF h, fun _ _ _ _ h => noF h, fun _ _ _ _ h => noF h, fun _ _ _ _ h => noF h, fun _ _ _ _ _ h => noF h, fun _ _ _ _ h => noF h, fun _ _ _ _ h => noF h, fun _ => ss_asgc_no rfl⟩
  | lst l hl => exact ⟨se_lst hl.a, st_of (se_lst hl.a) lst_plain, fun _ _ _ _ _ _ h => noF h, fun _ _ _ _ h => noF h, fun _ _ _ _ h => noF h, fun _ _ _ _ h => noF h, fun _ _ _ _ h => noF h, fun _ _ _ _ _ h => noF h, fun _ _ _ _ h => noF h, fun _ _ _ _ h => noF h, fun _ => ss_asgc_no rfl⟩
  | lstM l hl => exact ⟨se_lstM hl.a, st_of (se_lstM hl.a) lstM_plain, fun _ _ _ _ _ _ h => noF h, fun _ _ _ _ h => noF h, fun _ _ _ _ h => noF h, fun _ _ _ _ h => noF h, fun _ _ _ _ h => noF h, fun _ _ _ _ _ h => noF h, fun _ _ _ _ h => noF h, fun _ _ _ _ h => noF h, fun _ => ss_asgc_no rfl⟩
  | addM a b ha hb => exact ⟨se_addM ha.e hb.e, st_of (se_addM ha.e hb.e) addM_plain, fun _ _ _ _ _ _ h => noF h, fun _ _ _ _ h => noF h, fun _ _ _ _ h => noF h, fun _ _ _ _ h => noF h, fun _ _ _ _ h => noF h, fun _ _ _ _ _ h => noF h, fun _ _ _ _ h => noF h, fun _ _ _ _ h => noF h, fun _ => ss_asgc_no rfl⟩
  | idx a b ha hb => exact ⟨se_idx ha.e hb.e, st_of (se_idx ha.e hb.e) idx_plain, fun _ _ _ _ _ _ h => noF h, fun _ _ _ _ h => noF h, fun _ _ _ _ h => noF h, fun _ _ _ _ h => noF h, fun _ _ _ _ h => noF h, fun _ _ _ _ _ h => noF h, fun _ _ _ _ h => noF h, fun _ _ _ _ h => noF h, fun _ => ss_asgc_no rfl⟩
  | slc a b c ha hb hc => exact ⟨se_slc ha.e hb.p hc.p, st_of (se_slc ha.e hb.p hc.p) slc_plain, fun _ _ _ _ _ _ h => noF h, fun _ _ _ _ h => noF h, fun _ _ _ _ h => noF h, fun _ _ _ _ h => noF h, fun _ _ _ _ h => noF h, fun _ _ _ _ _ h => noF h, fun _ _ _ _ h => noF h, fun _ _ _ _ h => noF h, fun _ => ss_asgc_no rfl⟩
  | rev a ha => exact ⟨se_rev ha.e, st_of (se_rev ha.e) rev_plain, fun _ _ _ _ _ _ h => noF h, fun _ _ _ _ h => noF h, fun _ _ _ _ h => noF h, fun _ _ _ _ h => noF h, fun _ _ _ _ h => noF h, fun _ _ _ _ _ h => noF h, fun _ _ _ _ h => noF h, fun _ _ _ _ h => noF h, fun _ => ss_asgc_no rfl⟩
  | call g l hl => exact ⟨se_call hl.a, st_of (se_call hl.a) call_plain, fun _ _ _ _ _ _ h => noF h, fun _ _ _ _ h => noF h, fun _ _ _ _ h => noF h, fun _ _ _ _ h => noF h, fun _ _ _ _ h => noF h, fun _ _ _ _ _ h => noF h, fun _ _ _ _ h => noF h, fun _ _ _ _ h => noF h, fun _ => ss_asgc_no rfl⟩
  | callk g l ks b perm hl hb => exact ⟨se_callk hl.a hb.k, st_of (se_callk hl.a hb.k) callk_plain, fun _ _ _ _ _ _ h => noF h, fun _ _ _ _ h => noF h, fun _ _ _ _ h => noF h, fun _ _ _ _ h => noF h, fun _ _ _ _ h => noF h, fun _ _ _ _ _ h => noF h, fun _ _ _ _ h => noF h, fun _ _ _ _ h => noF h, fun _ => ss_asgc_no rfl⟩
  | blt f l hl => exact ⟨se_blt hl.a, st_of (se_blt hl.a) blt_plain, fun _ _ _ _ _ _ h => noF h, fun _ _ _ _ h => noF h, fun _ _ _ _ h => noF h, fun _ _ _ _ h => noF h, fun _ _ _ _ h => noF h, fun _ _ _ _ _ h => noF h, fun _ _ _ _ h => noF h, fun _ _ _ _ h => noF h, fun _ => ss_asgc_no rfl⟩
  | isin a tys many ha => exact ⟨se_isin ha.e, st_of (se_isin ha.e) isin_plain, fun _ _ _ _ _ _ h => noF h, fun _ _ _ _ h => noF h, fun _ _ _ _ h => noF h, fun _ _ _ _ h => noF h, fun _ _ _ _ h => noF h, fun _ _ _ _ _ h => noF h, fun _ _ _ _ h => noF h, fun _ _ _ _ h => noF h, fun _ => ss_asgc_no rfl⟩
  | frz a ha => exact ⟨se_frz ha.e, st_of (se_frz ha.e) frz_plain, fun _ _ _ _ _ _ h => noF h, fun _ _ _ _ h => noF h, fun _ _ _ _ h => noF h, fun _ _ _ _ h => noF h, fun _ _ _ _ h => noF h, fun _ _ _ _ _ h => noF h, fun _ _ _ _ h => noF h, fun _ _ _ _ h => noF h, fun _ => ss_asgc_no rfl⟩
  | app a b ha hb => exact ⟨se_app ha.e hb.e, st_of (se_app ha.e hb.e) app_plain, fun _ _ _ _ _ _ h => noF h, fun _ _ _ _ h => noF h, fun _ _ _ _ h => noF h, fun _ _ _ _ h => noF h, fun _ _ _ _ h => noF h, fun _ _ _ _ _ h => noF h, fun _ _ _ _ h => noF h, fun _ _ _ _ h => noF h, fun _ => ss_asgc_no rfl⟩
  | lc own tg it cs elt htg hit hcs helt => exact ⟨se_lc hit.i hcs.c helt.e, st_of (se_lc hit.i hcs.c helt.e) lc_plain, fun _ _ _ _ _ _ h => noF h, fun _ _ _ _ h => noF h, fun _ _ _ _ h => noF h, fun _ _ _ _ h => noF h, fun _ _ _ _ h => noF h, fun _ _ _ _ _ h => noF h, fun _ _ _ _ h => noF h, fun _ _ _ _ h => noF h, fun _ => ss_asgc hit.i hcs.c helt.e⟩
  | nil => exact ⟨fun _ _ _ _ h => noF h, fun _ _ _ _ h => noF h, fun _ _ _ _ _ _ h => noF h, sa_nil, sk_nil, sp_nil, sc_nil, fun _ _ _ _ _ h => noF h, fun _ _ _ _ h => noF h, fun _ _ _ _ h => noF h, fun _ => ss_asgc_no rfl⟩
  | cons a b ha hb => exact ⟨fun _ _ _ _ h => noF h, fun _ _ _ _ h => noF h, fun _ _ _ _ _ _ h => noF h, sa_cons ha.e hb.a, sk_cons ha.e hb.k, sp_one ha.e, sc_cons ha.t, fun _ _ _ _ _ h => noF h, fun _ _ _ _ h => noF h, fun _ _ _ _ h => noF h, fun _ => ss_asgc_no rfl⟩
  | tv i => exact ⟨fun _ _ _ _ h => noF h, fun _ _ _ _ h => noF h, fun _ _ _ _ _ _ h => noF h, fun _ _ _ _ h => noF h, fun _ _ _ _ h => noF h, fun _ _ _ _ h => noF h, fun _ _ _ _ h => noF h, fun _ _ _ _ _ h => noF h, fun _ _ _ _ h => noF h, fun _ _ _ _ h => noF h, fun _ => ss_asgc_no rfl⟩
  | tt l hl => exact ⟨fun _ _ _ _ h => noF h, fun _ _ _ _ h => noF h, fun _ _ _ _ _ _ h => noF h, fun _ _ _ _ h => noF h, fun _ _ _ _ h => noF h, fun _ _ _ _ h => noF h, fun _ _ _ _ h => noF h, fun _ _ _ _ _ h => noF h, fun _ _ _ _ h => noF h, fun _ _ _ _ h => noF h, fun _ => ss_asgc_no rfl⟩
  | itv a ha => exact ⟨fun _ _ _ _ h => noF h, fun _ _ _ _ h => noF h, fun _ _ _ _ _ _ h => noF h, fun _ _ _ _ h => noF h, fun _ _ _ _ h => noF h, fun _ _ _ _ h => noF h, fun _ _ _ _ h => noF h, si_itv ha.e, fun _ _ _ _ h => noF h, fun _ _ _ _ h => noF h, fun _ => ss_asgc_no rfl⟩
  | rng1 a ha => exact ⟨fun _ _ _ _ h => noF h, fun _ _ _ _ h => noF h, fun _ _ _ _ _ _ h => noF h, fun _ _ _ _ h => noF h, fun _ _ _ _ h => noF h, fun _ _ _ _ h => noF h, fun _ _ _ _ h => noF h, si_rng1 ha.e, fun _ _ _ _ h => noF h, fun _ _ _ _ h => noF h, fun _ => ss_asgc_no rfl⟩
  | rng2 a b ha hb => exact ⟨fun _ _ _ _ h => noF h, fun _ _ _ _ h => noF h, fun _ _ _ _ _ _ h => noF h, fun _ _ _ _ h => noF h, fun _ _ _ _ h => noF h, fun _ _ _ _ h => noF h, fun _ _ _ _ h => noF h, si_rng2 ha.e hb.e, fun _ _ _ _ h => noF h, fun _ _ _ _ h => noF h, fun _ => ss_asgc_no rfl⟩
  | skip => exact ⟨fun _ _ _ _ h => noF h, fun _ _ _ _ h => noF h, fun _ _ _ _ _ _ h => noF h, fun _ _ _ _ h => noF h, fun _ _ _ _ h => noF h, fun _ _ _ _ h => noF h, fun _ _ _ _ h => noF h, fun _ _ _ _ _ h => noF h, ss_skip, sl_skip, fun _ => ss_asgc_no rfl⟩
  | seq a b ha hb => exact ⟨fun _ _ _ _ h => noF h, fun _ _ _ _ h => noF h, fun _ _ _ _ _ _ h => noF h, fun _ _ _ _ h => noF h, fun _ _ _ _ h => noF h, fun _ _ _ _ h => noF h, fun _ _ _ _ h => noF h, fun _ _ _ _ _ h => noF h, fun _ _ _ _ h => noF h, sl_seq ha.s hb.l, fun _ => ss_asgc_no rfl⟩
  | asg i e he => exact ⟨fun _ _ _ _ h => noF h, fun _ _ _ _ h => noF h, fun _ _ _ _ _ _ h => noF h, fun _ _ _ _ h => noF h, fun _ _ _ _ h => noF h, fun _ _ _ _ h => noF h, fun _ _ _ _ h => noF h, fun _ _ _ _ _ h => noF h, ss_asg he.e, fun _ _ _ _ h => noF h, fun _ => ss_asgc_no rfl⟩
  | asgc i e he => exact ⟨fun _ _ _ _ h => noF h, fun _ _ _ _ h => noF h, fun _ _ _ _ _ _ h => noF h, fun _ _ _ _ h => noF h, fun _ _ _ _ h => noF h, fun _ _ _ _ h => noF h, fun _ _ _ _ h => noF h, fun _ _ _ _ _ h => noF h, he.m i, fun _ _ _ _ h => noF h, fun _ => ss_asgc_no rfl⟩
  | par l2 l hl => exact ⟨fun _ _ _ _ h => noF h, fun _ _ _ _ h => noF h, fun _ _ _ _ _ _ h => noF h, fun _ _ _ _ h => noF h, fun _ _ _ _ h => noF h, fun _ _ _ _ h => noF h, fun _ _ _ _ h => noF h, fun _ _ _ _ _ h => noF h, ss_par_of hl.a, fun _ _ _ _ h => noF h, fun _ => ss_asgc_no rfl⟩
  | asgT tg e htg he => exact ⟨fun _ _ _ _ h => noF h, fun _ _ _ _ h => noF h, fun _ _ _ _ _ _ h => noF h, fun _ _ _ _ h => noF h, fun _ _ _ _ h => noF h, fun _ _ _ _ h => noF h, fun _ _ _ _ h => noF h, fun _ _ _ _ _ h => noF h, ss_asgT_of he.e, fun _ _ _ _ h => noF h, fun _ => ss_asgc_no rfl⟩
  | asgI o i e ho hi he => exact ⟨fun _ _ _ _ h => noF h, fun _ _ _ _ h => noF h, fun _ _ _ _ _ _ h => noF h, fun _ _ _ _ h => noF h, fun _ _ _ _ h => noF h, fun _ _ _ _ h => noF h, fun _ _ _ _ h => noF h, fun _ _ _ _ _ h => noF h, ss_asgI ho.e hi.e he.e, fun _ _ _ _ h => noF h, fun _ => ss_asgc_no rfl⟩
  | aug i o e he => exact ⟨fun _ _ _ _ h => noF h, fun _ _ _ _ h => noF h, fun _ _ _ _ _ _ h => noF h, fun _ _ _ _ h => noF h, fun _ _ _ _ h => noF h, fun _ _ _ _ h => noF h, fun _ _ _ _ h => noF h, fun _ _ _ _ _ h => noF h, ss_aug he.e, fun _ _ _ _ h => noF h, fun _ => ss_asgc_no rfl⟩
  | augI a i o e ha hi he => exact ⟨fun _ _ _ _ h => noF h, fun _ _ _ _ h => noF h, fun _ _ _ _ _ _ h => noF h, fun _ _ _ _ h => noF h, fun _ _ _ _ h => noF h, fun _ _ _ _ h => noF h, fun _ _ _ _ h => noF h, fun _ _ _ _ _ h => noF h, ss_augI ha.e hi.e he.e, fun _ _ _ _ h => noF h, fun _ => ss_asgc_no rfl⟩
  | ex e he => exact ⟨fun _ _ _ _ h => noF h, fun _ _ _ _ h => noF h, fun _ _ _ _ _ _ h => noF h, fun _ _ _ _ h => noF h, fun _ _ _ _ h => noF h, fun _ _ _ _ h => noF h, fun _ _ _ _ h => noF h, fun _ _ _ _ _ h => noF h, ss_ex he.e, fun _ _ _ _ h => noF h, fun _ => ss_asgc_no rfl⟩
  | ifs c a b hc ha hb => exact ⟨fun _ _ _ _ h => noF h, fun _ _ _ _ h => noF h, fun _ _ _ _ _ _ h => noF h, fun _ _ _ _ h => noF h, fun _ _ _ _ h => noF h, fun _ _ _ _ h => noF h, fun _ _ _ _ h => noF h, fun _ _ _ _ _ h => noF h, ss_ifs hc.t ha.l hb.l, fun _ _ _ _ h => noF h, fun _ => ss_asgc_no rfl⟩
  | whl c b hc hb => exact ⟨fun _ _ _ _ h => noF h, fun _ _ _ _ h => noF h, fun _ _ _ _ _ _ h => noF h, fun _ _ _ _ h => noF h, fun _ _ _ _ h => noF h, fun _ _ _ _ h => noF h, fun _ _ _ _ h => noF h, fun _ _ _ _ _ h => noF h, ss_whl hc.t hb.l, fun _ _ _ _ h => noF h, fun _ => ss_asgc_no rfl⟩
  | «for» tg it b htg hit hb => exact ⟨fun _ _ _ _ h => noF h, fun _ _ _ _ h => noF h, fun _ _ _ _ _ _ h => noF h, fun _ _ _ _ h => noF h, fun _ _ _ _ h => noF h, fun _ _ _ _ h => noF h, fun _ _ _ _ h => noF h, fun _ _ _ _ _ h => noF h, ss_for hit.i hb.l, fun _ _ _ _ h => noF h, fun _ => ss_asgc_no rfl⟩
  | ret e he => exact ⟨fun _ _ _ _ h => noF h, fun _ _ _ _ h => noF h, fun _ _ _ _ _ _ h => noF h, fun _ _ _ _ h => noF h, fun _ _ _ _ h => noF h, fun _ _ _ _ h => noF h, fun _ _ _ _ h => noF h, fun _ _ _ _ _ h => noF h, ss_ret he.e, fun _ _ _ _ h => noF h, fun _ => ss_asgc_no rfl⟩
  | brk => exact ⟨fun _ _ _ _ h => noF h, fun _ _ _ _ h => noF h, fun _ _ _ _ _ _ h => noF h, fun _ _ _ _ h => noF h, fun _ _ _ _ h => noF h, fun _ _ _ _ h => noF h, fun _ _ _ _ h => noF h, fun _ _ _ _ _ h => noF h, ss_brk, fun _ _ _ _ h => noF h, fun _ => ss_asgc_no rfl⟩
  | cnt => exact ⟨fun _ _ _ _ h => noF h, fun _ _ _ _ h => noF h, fun _ _ _ _ _ _ h => noF h, fun _ _ _ _ h => noF h, fun _ _ _ _ h => noF h, fun _ _ _ _ h => noF h, fun _ _ _ _ h => noF h, fun _ _ _ _ _ h => noF h, ss_cnt, fun _ _ _ _ h => noF h, fun _ => ss_asgc_no rfl⟩
  | nev => exact ⟨fun _ _ _ _ h => noF h, fun _ _ _ _ h => noF h, fun _ _ _ _ _ _ h => noF h, fun _ _ _ _ h => noF h, fun _ _ _ _ h => noF h, fun _ _ _ _ h => noF h, fun _ _ _ _ h => noF h, fun _ _ _ _ _ h => noF h, fun _ _ _ _ _ => ss_nev, fun _ _ _ _ _ => sl_nev, fun _ => ss_asgc_no rfl⟩
end
end Z

/-! ZF: defs, the run of a law. -/
namespace Z
open PySem PySem.Spec PyProof.Rows L2
section
variable [KF]
structure Df where
  x : Str
  ps : List Str
  N : List Str
  st : Stmt
  fn : Fn
def txtOf (ds : List Df) (nums : List (Str × Int)) : Txt := ⟨ds.map fun d => (d.x, d.ps), nums⟩
def codeOf (ds : List Df) : Nat → Option Fn := fun g => (ds[g]?).map (·.fn)
def plainArgs (a : Arguments) (ps : List Str) : Bool := a.posonlyargs.isEmpty && decide (a.args.map (·.arg) = ps) && a.vararg.isNone && a.kwonlyargs.isEmpty && a.kwarg.isNone && decide ps.Nodup
/-- a def's block: its names, the parameters first -/
def scB (N ps : List Str) (sc : Scope) : Bool := (match sc.kind with
  | .function => true
  | _ => false) && sc.isCoroutine == false && sc.isGenerator == false && decide N.Nodup && decide (N.take ps.length = ps) && (ps.all fun x => match sc.names.lookup x with
  | some .local => true
  | some .cell => true
  | _ => false) && (sc.names.all fun y => match y.2 with
  | .free => false
  | _ => true)
theorem scB_ok {N ps : List Str} {sc : Scope} (h : scB N ps sc = true) : FnScope N ps sc := by
  unfold scB at h
  simp only [Bool.and_eq_true, decide_eq_true_eq, List.all_eq_true, beq_iff_eq] at h
  obtain ⟨⟨⟨⟨⟨⟨h1, h2⟩, h3⟩, h4⟩, h5⟩, h6⟩, h7⟩ := h
  refine ⟨?_, h2, h3, h4, h5, fun x hx => ?_, fun y hy e => ?_⟩
  · split at h1
    · assumption
    · cases h1
  · have q := h6 x hx
    split at q
    · exact .inl (by assumption)
    · exact .inr (by assumption)
    · cases q
  · have q := h7 y hy
    rw [e] at q
    cases q
def chkD (P : Txt) (d : Df) : Bool := scB d.N d.ps (defScope d.st) && decide (d.fn.ps = d.ps.length) && decide (d.fn.slots = d.N.length) && plainArgs (defArgs d.st) d.ps && chkL P ⟨d.N, defScope d.st, fun _ => true⟩ d.fn.body (defBody d.st)
theorem starts_sr {F : Hp} {ρ : List Addr} {f : Fn} {N : List Str} {ds : List D} {vs : List V} (hs : f.slots = N.length) (r : DVs F ρ ds vs) : SR F ρ (starts f ds) (L2.start N vs) := fun i d hi => by
  have hl := r.len
  unfold starts at hi
  unfold L2.start
  by_cases h : i < ds.length
  · rw [List.getElem?_append_left (by simpa using h)] at hi
    rw [List.getElem?_append_left (by simpa using hl ▸ h)]
    simp only [List.getElem?_map, Option.map_eq_some_iff] at hi
    obtain ⟨d', h1, h2⟩ := hi
    cases h2
    obtain ⟨v, e, dv⟩ := r.get h1
    exact ⟨v, by simp [e], dv⟩
  · rw [List.getElem?_append_right (by simpa using h)] at hi
    rw [List.getElem?_replicate] at hi
    split at hi <;> cases hi
theorem DV.down {F : Hp} {ρ ρ' : List Addr} (sb : Sub ρ ρ') : ∀ {d : D} {v : V}, d.under ρ.length = true → DV F ρ' d v → DV F ρ d v
  | .dat d, v, _, h => h
  | .ref n, v, hu, h => by
    obtain ⟨a, h1, h2⟩ := h
    have hn : n < ρ.length := by simpa [D.under] using hu
    have := sb n ρ[n] (by simp [hn])
    rw [h1] at this
    cases this
    exact ⟨_, by simp [hn], h2⟩
  | .clo _ _, _, _, h => h
  | .scr _, _, _, h => h
theorem DVs.down {F : Hp} {ρ ρ' : List Addr} (sb : Sub ρ ρ') : ∀ {l : List D} {vs : List V}, l.all (·.under ρ.length) = true → DVs F ρ' l vs → DVs F ρ l vs
  | _, _, _, .nil => .nil
  | _, _, hu, .cons a t => by
    simp only [List.all_cons, Bool.and_eq_true] at hu
    exact .cons (a.down sb hu.1) (DVs.down sb hu.2 t)
theorem OR.down {F : Hp} {ρ ρ' : List Addr} {Hr : Hp} {b : Addr} {o : O} (sb : Sub ρ ρ') (hu : o.under ρ.length = true) (q : OR F ρ' Hr b o) : OR F ρ Hr b o := by
  cases o with
  | lst l =>
    obtain ⟨q1, vs, q2, q3⟩ := q
    exact ⟨q1, vs, q2, q3.down sb hu⟩
  | dct l => exact q
  | dead => exact q
theorem At.down {F F' : Hp} {ρ ρ' : List Addr} {h h1 : H} {Hq Hr : Hp} (at_ : At F ρ h Hq) (a : At F' ρ' h1 Hr) (sb : Sub ρ ρ') (hu : (h1.take ρ.length).all (·.under ρ.length) = true) : At F' ρ (h1.take ρ.length) Hr := by
  refine ⟨a.ex, ?_, at_.nd, fun i o b g1 g2 => ?_⟩
  · have l1 : ρ.length ≤ ρ'.length := by
      cases hz : ρ.length with
      | zero => omega
      | succ n =>
        have hn : n < ρ.length := by omega
        have := (List.getElem?_eq_some_iff.mp (sb n ρ[n] (by simp [hn]))).1
        omega
    have := a.len
    rw [List.length_take]
    omega
  · have hi : i < ρ.length := (List.getElem?_eq_some_iff.mp g2).1
    have hou : o.under ρ.length = true := List.all_eq_true.mp hu o (List.mem_of_getElem? g1)
    rw [List.getElem?_take_of_lt hi] at g1
    exact (a.ob i o b g1 (sb i b g2)).down sb hou
theorem close_ret {F : Hp} {ρ : List Addr} {h h1 h2 : H} {Hq : Hp} {d d2 : D} {Q : VK} (at_ : At F ρ h Hq) (e : close h.length d h1 = some (d2, h2)) (r : Ret F ρ Hq d2 h2 Q) : Ret F ρ Hq d h1 Q := fun F' ρ' v Hr x st a dv => by
  unfold close at e
  rw [← at_.len] at e
  split at e
  · rename_i hu
    have a2 := at_.down a st.sub hu
    split at e
    · rename_i hd
      cases e
      exact r F' ρ v Hr x ⟨Sub.refl _, fun _ h => .inl h, st.keep, st.fz⟩ a2 (dv.down st.sub hd)
    · rename_i hd
      split at e
      · rename_i m
        split at e
        · rename_i o ho
          split at e
          · rename_i hou
            cases e
            obtain ⟨b, hb, rfl⟩ := dv
            have hbn : b ∉ ρ := fun hm => by
              obtain ⟨i, hi, ei⟩ := List.mem_iff_getElem.mp hm
              have e2 := st.sub i b (List.getElem?_eq_some_iff.mpr ⟨hi, ei⟩)
              have e3 : i = m := nd_ix a.nd e2 hb
              subst e3
              exact hd (show decide (i < ρ.length) = true from decide_eq_true hi)
            refine r F' (ρ ++ [b]) _ Hr x ⟨sub_alloc, fun p hp => ?_, st.keep, st.fz⟩ ⟨a2.ex, ?_, ?_, fun i ob p g1 g2 => ?_⟩ ⟨b, by rw [getl], rfl⟩
            · rcases List.mem_append.mp hp with hp | hp
              · exact .inl hp
              · simp at hp
                subst hp
                exact st.new p (List.mem_of_getElem? hb)
            · rw [List.length_append, List.length_append]
              exact congrArg (· + 1) a2.len
            · rw [List.nodup_append]
              exact ⟨at_.nd, by simp, fun p hp q hq e => by simp at hq; subst hq; subst e; exact hbn hp⟩
            · by_cases hi : i < ρ.length
              · rw [List.getElem?_append_left hi] at g2
                rw [List.getElem?_append_left (by rw [← a2.len]; exact hi)] at g1
                exact (a2.ob i ob p g1 g2).mono (Ext.refl _) sub_alloc (fun h => h) fun u h => h
              · have hi2 : i = ρ.length := by
                  have := (List.getElem?_eq_some_iff.mp g2).1
                  simp at this
                  omega
                subst hi2
                rw [getl] at g2
                cases g2
                have hl2 := a2.len
                have g3 : (h1.take ρ.length ++ [o])[ρ.length]? = some o := by
                  rw [List.getElem?_append_right (by omega), ← hl2]
                  simp
                rw [g3] at g1
                cases g1
                exact ((a.ob m _ b ho hb).down st.sub hou).mono (Ext.refl _) sub_alloc (fun h => h) fun u h => h
          · cases e
        · cases e
      · cases e
  · cases e
/-- what stands behind the top -/
structure Fx (ds : List Df) (nums : List (Str × Int)) (K : PySem.W.Frag) (mg : Str → Option Value) : Prop where
  kf : K = KF.K
  blt : ∀ b, mg (bltN b) = none
  isi : mg "isinstance" = none
  rng : mg "range" = none
  tys : ∀ t, mg (Str.ofString (tyName t)) = none
  num : ∀ x i, (x, i) ∈ nums → ∃ t, mg x = some (.int i t)
  fns : ∀ d ∈ ds, ∃ f fd, mg d.x = some (.ref f) ∧ FunD K d.x d.x (defArgs d.st) (defBody d.st) (defScope d.st) [] [] f fd
theorem FunD.plain {K : PySem.W.Frag} {x : Str} {a : Arguments} {b : List Stmt} {sc : Scope} {f : Addr} {fd : FuncData} {ps : List Str} (F : FunD K x x a b sc [] [] f fd) (h : plainArgs a ps = true) : Plain fd ps := by
  obtain ⟨oc, od, dV, kV, doc, pm, an, cdv, ct, osl, rfl, lk, hcd, hD, _⟩ := F.ex
  unfold plainArgs at h
  simp only [Bool.and_eq_true, decide_eq_true_eq, List.isEmpty_iff, Option.isNone_iff_eq_none] at h
  obtain ⟨⟨⟨⟨⟨h1, h2⟩, h3⟩, h4⟩, h5⟩, h6⟩ := h
  rcases hD with ⟨_, rfl⟩ | ⟨e, _⟩
  · exact ⟨h1, h2, h3, h4, h5, rfl, h6⟩
  · exact absurd rfl e
theorem runs_len {f : Fn} {Γ : G} {l : List D} {h : H} {r : D × H} (e : runs f Γ l h = some r) : l.length = f.ps := by
  unfold runs at e
  split at e
  · assumption
  · cases e
theorem run_succ {Q : Nat → Option Fn} {k g : Nat} {l : List D} {h : H} : run Q (k + 1) g l h = (match Q g with
    | some f => runs f (run Q k) l h
    | none => none) := rfl
theorem fn_ok {ds : List Df} {nums : List (Str × Int)} {prog : Program} {w : World} {K : PySem.W.Frag} {mg : Str → Option Value} {base : Heap} {k g : Nat} {d : Df} {f : Addr} {fd : FuncData} (ih : Wok (txtOf ds nums) (run (codeOf ds) k) k prog w K mg base)
    (hc : ds.all (chkD (txtOf ds nums)) = true) (hd : ds[g]? = some d) (h2 : FunD K d.x d.x (defArgs d.st) (defBody d.st) (defScope d.st) [] [] f fd) :
    FnOk prog w K mg base CX0 (k + 1) f fd d.ps (spOf (run (codeOf ds) (k + 1)) g d.ps.length) ∧ Plain fd d.ps ∧ ∀ l h r, run (codeOf ds) (k + 1) g l h = some r → l.length = d.ps.length := by
  have hd2 := List.all_eq_true.mp hc d (List.mem_of_getElem? hd)
  unfold chkD at hd2
  simp only [Bool.and_eq_true, decide_eq_true_eq] at hd2
  obtain ⟨⟨⟨⟨c1, c2⟩, c3⟩, c4⟩, c5⟩ := hd2
  have hQ : codeOf ds g = some d.fn := by simp [codeOf, hd]
  have hr : ∀ l h, run (codeOf ds) (k + 1) g l h = runs d.fn (run (codeOf ds) k) l h := fun l h => by rw [run_succ, hQ]
  have S := scB_ok c1
  refine ⟨FunD.ok (N := d.N) h2 S (fun vs H Q E ⟨_, _, _, _, _, _, z, _⟩ => z) (fun cdv A outer s H vs Q E hroom hsp => ⟨rS (run (codeOf ds) k) d.fn.body, PSs.nox ?_, ?_⟩), FunD.plain h2 c4, fun l h r z => by rw [hr] at z; rw [runs_len z, c2]⟩
  · exact (all_ok d.fn.body).l _ _ _ ⟨⟨rfl, rfl, rfl, S.nd, rfl, hroom, ih⟩, rfl, S.kind⟩ c5
  · obtain ⟨F, ρ, l, h, r, h', hl, at_, dv, e, ret⟩ := hsp
    rw [hr] at e
    unfold runs at e
    split at e
    · split at e
      · rename_i d1 h1 e1
        exact ⟨F, ρ, starts d.fn l, h, _, at_, starts_sr c3 dv, e1, close_ret at_ e ret⟩
      · rename_i s1 h1 e1
        have e2 := close_ret at_ e ret
        exact ⟨F, ρ, starts d.fn l, h, _, at_, starts_sr c3 dv, e1, fun F' ρ' σ' Hr x st a _ => e2 F' ρ' _ Hr x st a .non⟩
      · cases e
    · cases e
theorem wok {ds : List Df} {nums : List (Str × Int)} {prog : Program} {w : World} {K : PySem.W.Frag} {mg : Str → Option Value} {base : Heap} (fx : Fx ds nums K mg) (hc : ds.all (chkD (txtOf ds nums)) = true) : ∀ k, Wok (txtOf ds nums) (run (codeOf ds) k) k prog w K mg base
  | 0 => ⟨fx.kf, fx.blt, fx.isi, fx.rng, fx.tys, fx.num, fun g x ps hg => by
    simp only [txtOf, List.getElem?_map, Option.map_eq_some_iff, Prod.mk.injEq] at hg
    obtain ⟨d, hd, rfl, rfl⟩ := hg
    have hm := List.mem_of_getElem? hd
    obtain ⟨f, fd, h1, h2⟩ := fx.fns d hm
    have hd2 := List.all_eq_true.mp hc d hm
    unfold chkD at hd2
    simp only [Bool.and_eq_true] at hd2
    refine ⟨f, fd, h1, h2.kp, ⟨fun vs H Q E ⟨_, _, _, _, _, _, _, _, _, z, _⟩ => (by cases z), fun A outer s H args us vs Q E _ _ _ _ ⟨_, _, _, _, _, _, _, _, _, z, _⟩ => (by cases z)⟩, FunD.plain h2 hd2.1.2, fun _ _ _ z => (by cases z)⟩⟩
  | k + 1 => ⟨fx.kf, fx.blt, fx.isi, fx.rng, fx.tys, fx.num, fun g x ps hg => by
    have ih := wok (prog := prog) (w := w) (base := base) fx hc k
    simp only [txtOf, List.getElem?_map, Option.map_eq_some_iff, Prod.mk.injEq] at hg
    obtain ⟨d, hd, rfl, rfl⟩ := hg
    obtain ⟨f, fd, h1, h2⟩ := fx.fns d (List.mem_of_getElem? hd)
    exact ⟨f, fd, h1, h2.kp, fn_ok ih hc hd h2⟩⟩
/-- the law's promise -/
theorem law_sp {ds : List Df} {K : PySem.W.Frag} (hk : K = KF.K) {k g : Nat} {ns : List Int} {h1 : H} (e : run (codeOf ds) k g [.scr ns] [] = some (.bl true, h1)) {H : Hp} {a : Addr} (hS : SqL K H a (ns.map V.int)) : spOf (run (codeOf ds) k) g 1 [.ref a] H (fun v _ => v = .bl true) fun _ _ _ => False :=
  ⟨H, [], [.scr ns], [], .bl true, h1, rfl, ⟨Ext.refl _, rfl, List.nodup_nil, fun i o b h => by simp at h⟩, .cons ⟨a, rfl, by rw [← hk]; exact hS⟩ .nil, e, fun F' ρ' v Hr _ _ _ dv => by cases dv; rfl⟩
end
/-! ### the facts' names -/
def frees : List Str := ["len", "sum", "all", "any", "tuple", "list", "int", "max", "min", "abs", "isinstance", "range", "bool", "str", "dict"]
def faOf (ds : List Df) (nums : List (Str × Int)) : List He.Fa := ds.map (fun d => .glo d.x) ++ (frees.map .free ++ nums.map fun p => .int p.1 p.2)
def fnOf (ds : List Df) : List He.DefD := ds.map fun d => ⟨(d.x, none), d.x, d.x, defArgs d.st, defBody d.st, defScope d.st, [], []⟩
theorem fx_of {ds : List Df} {nums : List (Str × Int)} {K : PySem.W.Frag} {h : Heap} {mg : Str → Option Value} (X : K.In h) (G : h.Ns mainGlobals mg) (c : He.SaysD (faOf ds nums) (fnOf ds) K) : @Fx ⟨K⟩ ds nums K mg := by
  have facts : ∀ f ∈ faOf ds nums, f.ok K = true := fun f hf => by
    obtain ⟨i, hi, e⟩ := List.mem_iff_getElem.mp hf
    exact c.fact i (f := f) (by simp [hi, e])
  have free : ∀ x ∈ frees, mg x = none := fun x hx => He.free_ok X G (facts (.free x) (by
    unfold faOf
    exact List.mem_append_right _ (List.mem_append_left _ (List.mem_map.mpr ⟨x, hx, rfl⟩))))
  refine @Fx.mk ⟨K⟩ ds nums K mg rfl (fun b => free _ (by cases b <;> decide +kernel)) (free _ (by decide +kernel)) (free _ (by decide +kernel)) (fun t => free _ (by cases t <;> decide +kernel)) (fun x i hx => He.int_ok X G (facts (.int x i) (by
    unfold faOf
    exact List.mem_append_right _ (List.mem_append_right _ (List.mem_map.mpr ⟨(x, i), hx, rfl⟩))))) fun d hd => ?_
  have hg := He.glo_ok X G (facts (.glo d.x) (by
    unfold faOf
    exact List.mem_append_left _ (List.mem_map.mpr ⟨d, hd, rfl⟩)))
  obtain ⟨i, hi, e⟩ := List.mem_iff_getElem.mp hd
  obtain ⟨fd, F⟩ := c.def_ i (d := ⟨(d.x, none), d.x, d.x, defArgs d.st, defBody d.st, defScope d.st, [], []⟩) (by simp [fnOf, hi, e])
  exact ⟨_, fd, hg, F⟩
/-- the end of a law's row: the defs, what they come to, at every script -/
theorem walkZ {l : PySem.W.OpenLaw} {n k : Nat} {q : Program} {loose : List Str} {XP : (Str → Option Value) → Heap → Prop} {d : DefRec} {ds : List Df} {nums : List (Str × Int)} {g : Nat} {N : List Str} {st : Stmt} {fn : Fn}
    (hn : l.most = some n) (hn2 : n ≤ sizeLine) (hdf : d.params.defaults = []) (hr : Room (k + 1) callerA) (hname : d.name = ("law" : Str)) (hg : ds[g]? = some ⟨"law", ["script"], N, st, fn⟩)
    (hc : ds.all (chkD (txtOf ds nums)) = true)
    (pure : ∀ ns : List Int, ns.length ≤ n → (∀ z ∈ ns, Builtin.Int.intBits z ≤ 1048576) → ∃ h1, run (codeOf ds) (k + 1) g [.scr ns] [] = some (.bl true, h1)) :
    PySem.W.WalkO q loose XP (fun w h => ∃ K : PySem.W.Frag, K.In h ∧ He.SaysD (faOf ds nums) (fnOf ds) K) l.row.toRowW d [] (fun f vs => PySem.call f vs) := by
  refine Att.attach_callB hn hdf fun w s₀ s₁ mg mb fa o pm cd doc a vs ns G Y ho hd hcd hmg hobj hints hlen hbits hgens => ?_
  obtain ⟨K, KX, c⟩ := Y
  letI : KF := ⟨K⟩
  have fx := fx_of KX G.T.g c
  have hgd := hg
  obtain ⟨f, fd, e1, F⟩ := fx.fns _ (List.mem_of_getElem? hgd)
  have hmg' : mg ("law" : Str) = some (.ref fa) := by rw [← hname]; exact hmg
  have e1 : mg ("law" : Str) = some (.ref f) := e1
  rw [hmg'] at e1
  cases e1
  obtain ⟨h1, hrun⟩ := pure ns hlen hbits
  have ok := fun base => fn_ok (wok (prog := l.prog) (w := w) (base := base) fx hc k) hc hgd F
  refine law_call (CX := CX0) (fd := fd) (x := ("script" : Str)) KX G.T.g G.T.b G.T.builtins G.T.nolimit hgens hobj hints (Nat.le_trans hlen hn2) hr (fun base _ _ => (ok base).1) (fun s u => ?_) (fun H _ hS => law_sp rfl hrun hS) fun H e s' h => h
  exact (ok s.heap).2.1.binds (K := []) s [u] (fun b o e => by cases e) rfl
end Z

/-! ZL: plain lemmas about what the small language comes to. -/
namespace Z
def Fine (h : H) : Prop := (h.all fun o => o.under h.length) = true
theorem close_dat {h : H} (f : Fine h) (d : PySem.PyData) (e : H) : close h.length (.dat d) (h ++ e) = some (.dat d, h) := by
  unfold close
  rw [List.take_left]
  exact if_pos f
theorem close_dat0 {h : H} (f : Fine h) (d : PySem.PyData) : close h.length (.dat d) h = some (.dat d, h) := by
  have := close_dat f d []
  simpa using this
theorem fors_gen {b : D → S → H → Option Out} {xs : List D} (I : Nat → S → H → Prop) (Done : Out → Prop)
    (turn : ∀ i x s h, xs[i]? = some x → I i s h → ∃ o, b x s h = some o ∧ match o with
      | .nx s1 h1 => I (i + 1) s1 h1
      | .ct s1 h1 => I (i + 1) s1 h1
      | .bk s1 h1 => Done (.nx s1 h1)
      | .rt d h1 => Done (.rt d h1)) (fin : ∀ s h, I xs.length s h → Done (.nx s h)) {s : S} {h : H} (h0 : I 0 s h) : ∃ o, fors b xs s h = some o ∧ Done o := by
  have go : ∀ (m n : Nat) (s : S) (h : H), m = xs.length - n → n ≤ xs.length → I n s h → ∃ o, fors b (xs.drop n) s h = some o ∧ Done o := by
    intro m
    induction m with
    | zero =>
      intro n s h hm hn hi
      have : n = xs.length := by omega
      subst this
      rw [List.drop_length]
      exact ⟨_, rfl, fin s h hi⟩
    | succ m ih =>
      intro n s h hm hn hi
      have hlt : n < xs.length := by omega
      rw [List.drop_eq_getElem_cons hlt]
      obtain ⟨o, e, q⟩ := turn n xs[n] s h (by simp [hlt]) hi
      simp only [fors, e, Option.bind_some]
      cases o with
      | nx s1 h1 => exact ih (n + 1) s1 h1 (by omega) hlt q
      | ct s1 h1 => exact ih (n + 1) s1 h1 (by omega) hlt q
      | bk s1 h1 => exact ⟨_, rfl, q⟩
      | rt d h1 => exact ⟨_, rfl, q⟩
  simpa using go xs.length 0 s h (by omega) (Nat.zero_le _) h0
theorem comp_gen {f : D → H → Option (Option PySem.PyData × H)} {xs : List D} (I : Nat → List PySem.PyData → H → Prop)
    (turn : ∀ i x l h, xs[i]? = some x → I i l h → ∃ o h1, f x h = some (o, h1) ∧ I (i + 1) (l ++ o.toList) h1) {h : H} (h0 : I 0 [] h) : ∃ l h1, comp f xs h = some (l, h1) ∧ I xs.length l h1 := by
  have go : ∀ (m n : Nat) (l : List PySem.PyData) (h : H), m = xs.length - n → n ≤ xs.length → I n l h → ∃ r h1, comp f (xs.drop n) h = some (r, h1) ∧ I xs.length (l ++ r) h1 := by
    intro m
    induction m with
    | zero =>
      intro n l h hm hn hi
      have : n = xs.length := by omega
      subst this
      rw [List.drop_length]
      exact ⟨[], h, rfl, by simpa using hi⟩
    | succ m ih =>
      intro n l h hm hn hi
      have hlt : n < xs.length := by omega
      rw [List.drop_eq_getElem_cons hlt]
      obtain ⟨o, h1, e, q⟩ := turn n xs[n] l h (by simp [hlt]) hi
      obtain ⟨r, h2, e2, q2⟩ := ih (n + 1) _ h1 (by omega) hlt q
      simp only [comp, e, Option.bind_some, e2, Option.map_some]
      refine ⟨_, _, rfl, ?_⟩
      cases o with
      | none => simpa using q2
      | some y => simpa using q2
  obtain ⟨r, h1, e, q⟩ := go xs.length 0 [] h (by omega) (Nat.zero_le _) h0
  exact ⟨r, h1, by simpa using e, by simpa using q⟩
/-- a comprehension's turns that leave the heap as it is -/
theorem comp_pure {f : D → H → Option (Option PySem.PyData × H)} (g : D → Option PySem.PyData) {h : H} : ∀ {xs : List D}, (∀ x ∈ xs, f x h = some (g x, h)) → comp f xs h = some (xs.filterMap g, h)
  | [], _ => rfl
  | x :: r, e => by
    simp only [comp, e x (List.mem_cons_self ..), Option.bind_some, comp_pure g fun y hy => e y (List.mem_cons_of_mem _ hy), Option.map_some, List.filterMap_cons]
    cases g x <;> rfl
theorem whl_gen {c : S → H → Option (Bool × H)} {b : S → H → Option Out} (I : Nat → S → H → Prop) (Done : Out → Prop)
    (turn : ∀ n s h, I n s h → (∃ h1, c s h = some (false, h1) ∧ Done (.nx s h1)) ∨ ∃ n1 h1 o, n = n1 + 1 ∧ c s h = some (true, h1) ∧ b s h1 = some o ∧ match o with
      | .nx s1 h1 => I n1 s1 h1
      | .ct s1 h1 => I n1 s1 h1
      | .bk s1 h1 => Done (.nx s1 h1)
      | .rt d h1 => Done (.rt d h1)) : ∀ {n m : Nat} {s : S} {h : H}, I n s h → n < m → ∃ o, whl c b m s h = some o ∧ Done o
  | n, 0, s, h, _, hm => absurd hm (Nat.not_lt_zero _)
  | n, m + 1, s, h, hi, hm => by
    rcases turn n s h hi with ⟨h1, e, q⟩ | ⟨n1, h1, o, rfl, e, e2, q⟩
    · exact ⟨_, by simp [whl, e], q⟩
    · simp only [whl, e, Option.bind_some, if_pos, e2]
      cases o with
      | nx s1 h1 => exact whl_gen I Done turn q (by omega)
      | ct s1 h1 => exact whl_gen I Done turn q (by omega)
      | bk s1 h1 => exact ⟨_, rfl, q⟩
      | rt d h1 => exact ⟨_, rfl, q⟩
theorem lc_eval {Γ : G} {own : List (PySem.Str × Nat)} {tg it cs elt : T} {s : S} {h h1 : H} {xs : List D} (hi : evalI Γ it s h = some (xs, h1)) (hl : xs.length ≤ PySem.sizeLine) {l : List PySem.PyData} {h2 : H} (hc : comp (turnF Γ own tg cs elt s) xs h1 = some (l, h2)) :
    evalE Γ (.lc own tg it cs elt) s h = some (.lst l, h2) := by
  simp only [evalE, hi, Option.bind_some, if_pos hl]
  show Option.map _ (comp (turnF Γ own tg cs elt s) xs h1) = _
  rw [hc]
  rfl
theorem mul_l {i j : Int} (h : i.natAbs < 2 ^ 64) : mulOk i j = true := by simp [mulOk, h]
theorem mul_r {i j : Int} (h : j.natAbs < 2 ^ 64) : mulOk i j = true := by simp [mulOk, h]
theorem div_ok {j : Int} (h : 0 < j) (h2 : j.natAbs < 2 ^ 4000) : divOk j = true := by simp [divOk, h, h2]
theorem big64 {j : Int} (h : j.natAbs < 2 ^ 64) : j.natAbs < 2 ^ 4000 := Nat.lt_trans h (Nat.pow_lt_pow_right (by decide) (by decide))
theorem size_ok {n : Nat} (h : n ≤ 1000000) : n ≤ PySem.sizeLine := Nat.le_trans h (by decide)
theorem size_lt {n : Nat} (h : n < 1000000) : n < PySem.sizeLine := Nat.lt_of_lt_of_le h (by decide)
theorem rng_get {lo : Int} {n i : Nat} {x : D} (h : (rngD lo n)[i]? = some x) : i < n ∧ x = .int (lo + i) := by
  unfold rngD at h
  simp only [List.getElem?_map, Option.map_eq_some_iff] at h
  obtain ⟨j, h1, rfl⟩ := h
  have := List.getElem?_eq_some_iff.mp h1
  obtain ⟨h2, h3⟩ := this
  simp at h2 h3
  subst h3
  exact ⟨h2, rfl⟩
theorem rng_len {lo : Int} {n : Nat} : (rngD lo n).length = n := by simp [rngD]
theorem ints_get {l : List Int} {i : Nat} {x : D} (h : ((dints l).map D.dat)[i]? = some x) : ∃ v, l[i]? = some v ∧ x = .int v := by
  simp only [dints, List.map_map, List.getElem?_map, Option.map_eq_some_iff] at h
  obtain ⟨v, h1, rfl⟩ := h
  exact ⟨v, h1, rfl⟩
theorem ints_mem {l : List Int} {x : D} (h : x ∈ (dints l).map D.dat) : ∃ v ∈ l, x = .int v := by
  obtain ⟨i, hi, e⟩ := List.mem_iff_getElem.mp h
  obtain ⟨v, h1, rfl⟩ := ints_get (l := l) (i := i) (x := x) (List.getElem?_eq_some_iff.mpr ⟨hi, e⟩)
  exact ⟨v, List.mem_of_getElem? h1, rfl⟩
theorem rng_mem {lo : Int} {n : Nat} {x : D} (h : x ∈ rngD lo n) : ∃ i, i < n ∧ x = .int (lo + (i : Nat)) := by
  obtain ⟨i, hi, e⟩ := List.mem_iff_getElem.mp h
  exact ⟨i, rng_get (List.getElem?_eq_some_iff.mpr ⟨hi, e⟩)⟩
theorem ints_of (l : List Int) : intsOf (dints l) = some l := by
  induction l with
  | nil => rfl
  | cons a l ih => simp [dints, intsOf] at ih ⊢; simp [ih]
theorem dats_map (l : List PySem.PyData) : dats (l.map D.dat) = some l := by
  induction l with
  | nil => rfl
  | cons a l ih => simp [dats, ih]
theorem eqvAll_ints : ∀ (l m : List Int), PySem.PyData.eqvAll (dints l) (dints m) = decide (l = m)
  | [], [] => by simp [dints, PySem.PyData.eqvAll]
  | [], _ :: _ => by simp [dints, PySem.PyData.eqvAll]
  | _ :: _, [] => by simp [dints, PySem.PyData.eqvAll]
  | a :: l, b :: m => by
    have ih := eqvAll_ints l m
    simp only [dints, List.map_cons, PySem.PyData.eqvAll, PySem.PyData.eqv] at ih ⊢
    rw [ih]
    by_cases h : a = b <;> by_cases h2 : l = m <;> simp [h, h2]
theorem depthAll_ints : ∀ (l : List Int), PySem.PyData.depthAll (dints l) ≤ 1
  | [] => by simp [dints, PySem.PyData.depthAll]
  | a :: l => by
    have ih := depthAll_ints l
    simp only [dints, List.map_cons, PySem.PyData.depthAll, PySem.PyData.depth] at ih ⊢
    omega
theorem eqD_tup (l m : List Int) : eqD (.tuple (dints l)) (.tuple (dints m)) = some (decide (l = m)) := by
  have := depthAll_ints l
  simp only [eqD]
  rw [if_pos (by simp only [PySem.PyData.depth]; omega)]
  simp only [PySem.PyData.eqv, eqvAll_ints]
theorem eqD_lst (l m : List Int) : eqD (.list (dints l)) (.list (dints m)) = some (decide (l = m)) := by
  have := depthAll_ints l
  simp only [eqD]
  rw [if_pos (by simp only [PySem.PyData.depth]; omega)]
  simp only [PySem.PyData.eqv, eqvAll_ints]
theorem eqD_int (a b : Int) : eqD (.int a) (.int b) = some (decide (a = b)) := rfl
theorem setl {α : Type} (h : List α) (x y : α) : (h ++ [x]).set h.length y = h ++ [y] := by
  rw [List.set_append_right _ _ (Nat.le_refl _)]
  simp
theorem getl' {α : Type} (h : List α) (x : α) : (h ++ [x])[h.length]? = some x := by simp
theorem for_eval {Γ : G} {tg it b : T} {s : S} {h h1 : H} {xs : List D} {o : Out} (hi : evalI Γ it s h = some (xs, h1)) (e : fors (fun d s h => (asgn tg d s).bind fun s1 => exec Γ b s1 h) xs s h1 = some o) : exec Γ (.for tg it b) s h = some o := by
  simp only [exec, hi, Option.bind_some]
  exact e
theorem comp_rng {f : D → H → Option (Option PySem.PyData × H)} {h : H} {m : Nat} (p : Nat → Bool) (y : Nat → PySem.PyData) (e : ∀ i, i < m → f (.int (i : Nat)) h = some (if p i then some (y i) else none, h)) : comp f (rngD 0 m) h = some (((List.range m).filter p).map y, h) := by
  rw [comp_pure (fun x => match x with
    | .dat (.int i) => if p i.toNat then some (y i.toNat) else none
    | _ => none)]
  · congr 2
    unfold rngD
    rw [List.filterMap_map, ← List.filterMap_eq_map, ← List.filterMap_eq_filter, List.filterMap_filterMap]
    congr 1
    funext i
    simp only [Function.comp]
    have : ((0 : Int) + (i : Int)).toNat = i := by omega
    rw [this]
    cases hp : p i <;> simp [Option.guard, hp]
  · intro x hx
    obtain ⟨i, hi, rfl⟩ := rng_mem hx
    have e1 := e i hi
    have e2 : (0 : Int) + ((i : Nat) : Int) = (i : Nat) := by omega
    rw [e2, e1]
    simp
theorem nthI_last {α : Type} (l : List α) : nthI l (-1) = l.getLast? := by
  show nthI l (Int.negSucc 0) = _
  unfold nthI
  simp only
  rw [List.getLast?_eq_getElem?]
  split
  · simp
  · rename_i h
    have : l.length = 0 := by omega
    have : l = [] := List.length_eq_zero_iff.mp this
    subst this
    rfl
theorem nthI_nat {α : Type} (l : List α) (i : Nat) : nthI l (i : Int) = l[i]? := rfl
theorem small_ok {i : Int} (h : -1000000 ≤ i) (h2 : i ≤ 1000000) : small62 i = true := by
  unfold small62
  have : (1000000 : Int) < 2 ^ 62 := by decide
  simp only [Bool.and_eq_true, decide_eq_true_eq]
  omega
theorem cut_nat {α : Type} (l : List α) (i n : Nat) : cut l (some (i : Int)) (some ((i : Int) + (n : Int))) = (l.drop i).take n := by
  unfold cut
  have e1 : ((i : Int) + (n : Int)) = ((i + n : Nat) : Int) := by omega
  rw [e1, HT.sIx_nat, HT.sIx_nat]
  by_cases h : i ≤ l.length
  · rw [Nat.min_eq_left h]
    by_cases h2 : i + n ≤ l.length
    · rw [Nat.min_eq_left h2]
      congr 1
      omega
    · rw [Nat.min_eq_right (by omega), List.take_of_length_le (by rw [List.length_drop]; omega), List.take_of_length_le (by rw [List.length_drop]; omega)]
  · rw [Nat.min_eq_right (show l.length ≤ i by omega), List.drop_of_length_le (Nat.le_refl _), List.drop_of_length_le (show l.length ≤ i by omega)]
    simp
/-- a list of whole numbers that may change -/
def ol (l : List Int) : O := .lst ((dints l).map .dat)
theorem appD_ol {h : H} {l : List Int} {v : Int} (hl : l.length < 1000000) : appD (h ++ [ol l]) h.length (.dat (.int v)) = some (.non, h ++ [ol (l ++ [v])]) := by
  have : ((dints l).map D.dat).length < PySem.sizeLine := size_lt (by simpa [dints] using hl)
  unfold appD ol
  rw [getl']
  simp only [if_pos this, setl]
  simp [dints]
theorem isL_ol {h : H} {l : List Int} : isL (h ++ [ol l]) h.length = true := by
  unfold isL ol
  rw [getl']
theorem datOf_ol {h : H} {l : List Int} : datOf (h ++ [ol l]) (.ref h.length) = some (.list (dints l)) := by
  simp only [datOf, getl', ol, dats_map, Option.map_some]
theorem ol_nil : O.lst [] = ol [] := rfl
theorem mod_nonneg' {a b : Int} (h : 0 < b) : 0 ≤ a % b := Int.emod_nonneg _ (by omega)
theorem mod_lt' {a b : Int} (h : 0 < b) : a % b < b := Int.emod_lt_of_pos _ h
end Z

namespace K00
open PySem PySem.Spec PyProof.Rows L2 Z
def top (i : Nat) : Stmt := PySem.Challenge.pw_wholedigits_k00_whole_digits_there_and_b.main.body.getD i (.Pass ⟨0, 0, 0, 0⟩)
def b_is_integer : T := (.seq (.ret (.and (.isin (.var 0) [.int] false) (.not (.isin (.var 0) [.bool] false)))) .skip)
def b_is_natural : T := (.seq (.ret (.and (.call 0 (.cons (.var 0) .nil)) (.cmp .ge (.var 0) (.cst (.int 0))))) .skip)
def b_is_base : T := (.seq (.ret (.and (.call 0 (.cons (.var 0) .nil)) (.chain .le .le (.gint "LEAST_BASE" 2) (.var 0) (.gint "MOST_BASE" 5)))) .skip)
def x_are_digits_0 : T := (.lc [("own", 2)] (.tv 2) (.itv (.var 1)) .nil (.and (.call 1 (.cons (.var 2) .nil)) (.cmp .lt (.var 2) (.var 0))))
def b_are_digits : T := (.seq (.ret (.and (.isin (.var 1) [.tuple] false) (.blt .all (.cons x_are_digits_0 .nil)))) .skip)
def b_check_base : T := (.seq (.ifs (.not (.call 2 (.cons (.var 0) .nil))) .nev .skip) .skip)
def b_check_from : T := (.seq (.ifs (.or (.not (.call 0 (.cons (.var 0) .nil))) (.cmp .lt (.var 0) (.var 1))) .nev .skip) .skip)
def b_check_digits : T := (.seq (.ifs (.not (.call 3 (.cons (.var 0) (.cons (.var 1) .nil)))) .nev .skip) .skip)
def b_digits_of_0 : T := (.seq (.ex (.app (.var 2) (.bin .mod (.var 1) (.var 0)))) (.seq (.asg 1 (.bin .fdiv (.var 1) (.var 0))) .skip))
def x_digits_of_1 : T := (.whl (.cmp .gt (.var 1) (.cst (.int 0))) b_digits_of_0)
def b_digits_of : T := (.seq (.asg 2 (.lstM .nil)) (.seq x_digits_of_1 (.seq (.ret (.blt .tuple (.cons (.var 2) .nil))) .skip)))
def b_number_from_0 : T := (.seq (.asg 2 (.bin .add (.bin .mul (.var 2) (.var 0)) (.var 3))) .skip)
def x_number_from_1 : T := (.for (.tv 3) (.itv (.rev (.var 1))) b_number_from_0)
def b_number_from : T := (.seq (.asg 2 (.cst (.int 0))) (.seq x_number_from_1 (.seq (.ret (.var 2)) .skip)))
def b_digits : T := (.seq (.ex (.call 4 (.cons (.var 0) .nil))) (.seq (.ex (.call 5 (.cons (.var 1) (.cons (.cst (.int 0)) .nil)))) (.seq (.ret (.call 7 (.cons (.var 0) (.cons (.var 1) .nil)))) .skip)))
def b_number_of : T := (.seq (.ex (.call 4 (.cons (.var 0) .nil))) (.seq (.ex (.call 6 (.cons (.var 0) (.cons (.var 1) .nil)))) (.seq (.ret (.call 8 (.cons (.var 0) (.cons (.var 1) .nil)))) .skip)))
def b_digit_sum : T := (.seq (.ex (.call 4 (.cons (.var 0) .nil))) (.seq (.ex (.call 5 (.cons (.var 1) (.cons (.cst (.int 0)) .nil)))) (.seq (.ret (.blt .sum (.cons (.call 7 (.cons (.var 0) (.cons (.var 1) .nil))) .nil))) .skip)))
def b_power_of_0 : T := (.seq (.par [2, 1] (.cons (.bin .add (.var 2) (.cst (.int 1))) (.cons (.bin .fdiv (.var 1) (.var 0)) .nil))) .skip)
def x_power_of_1 : T := (.whl (.cmp .eq (.bin .mod (.var 1) (.var 0)) (.cst (.int 0))) b_power_of_0)
def b_power_of : T := (.seq (.asg 2 (.cst (.int 0))) (.seq x_power_of_1 (.seq (.ret (.var 2)) .skip)))
def b_power_in : T := (.seq (.ex (.call 4 (.cons (.var 0) .nil))) (.seq (.ex (.call 5 (.cons (.var 1) (.cons (.cst (.int 1)) .nil)))) (.seq (.ret (.call 12 (.cons (.var 0) (.cons (.var 1) .nil)))) .skip)))
def b_check_block : T := (.seq (.ex (.call 6 (.cons (.var 0) (.cons (.var 1) .nil)))) (.seq (.ifs (.or (.cmp .eq (.var 1) (.tup .nil)) (.cmp .eq (.idx (.var 1) (.neg (.cst (.int 1)))) (.cst (.int 0)))) .nev .skip) .skip))
def x_block_count_0 : T := (.lc [("at", 4)] (.tv 4) (.rng1 (.bin .add (.bin .sub (.blt .len (.cons (.var 3) .nil)) (.blt .len (.cons (.var 1) .nil))) (.cst (.int 1)))) (.cons (.cmp .eq (.slc (.var 3) (.cons (.var 4) .nil) (.cons (.bin .add (.var 4) (.blt .len (.cons (.var 1) .nil))) .nil)) (.var 1)) .nil) (.cst (.int 1)))
def b_block_count : T := (.seq (.ex (.call 4 (.cons (.var 0) .nil))) (.seq (.ex (.call 14 (.cons (.var 0) (.cons (.var 1) .nil)))) (.seq (.ex (.call 5 (.cons (.var 2) (.cons (.cst (.int 0)) .nil)))) (.seq (.asg 3 (.call 7 (.cons (.var 0) (.cons (.var 2) .nil)))) (.seq (.ret (.blt .len (.cons x_block_count_0 .nil))) .skip)))))
def b_law_take : T := (.seq (.ifs (.and (.cmp .eq (.idx (.var 0) (.cst (.int 0))) (.cst (.int 0))) (.cmp .lt (.idx (.var 0) (.cst (.int 2))) (.blt .len (.cons (.var 0) .nil)))) (.seq (.asg 2 (.idx (.var 0) (.idx (.var 0) (.cst (.int 2))))) (.seq (.augI (.var 0) (.cst (.int 2)) .add (.cst (.int 1))) (.seq (.ifs (.cmp .ge (.var 2) (.bin .pow (.cst (.int 10)) (.cst (.int 18)))) (.seq (.asgI (.var 0) (.cst (.int 0)) (.bin .sub (.var 2) (.bin .pow (.cst (.int 10)) (.cst (.int 18))))) .skip) (.seq (.asg 4 (.bin .mod (.blt .int (.cons (.var 2) .nil)) (.cst (.int 2147483647)))) (.seq (.asg 4 (.bin .mod (.blt .int (.cons (.bin .add (.bin .add (.bin .mul (.var 4) (.var 4)) (.bin .mul (.cst (.int 62089911)) (.var 4))) (.bin .mul (.cst (.int 1301)) (.idx (.var 0) (.cst (.int 2))))) .nil)) (.cst (.int 2147483629)))) (.seq (.asgI (.var 0) (.cst (.int 1)) (.bin .mod (.blt .int (.cons (.bin .add (.idx (.var 0) (.cst (.int 1))) (.var 4)) .nil)) (.cst (.int 2147483629)))) .skip)))) .skip))) .skip) (.seq (.ifs (.cmp .gt (.idx (.var 0) (.cst (.int 0))) (.cst (.int 0))) (.seq (.asg 3 (.bin .mod (.blt .int (.cons (.idx (.var 0) (.cst (.int 0))) .nil)) (.var 1))) (.seq (.asgI (.var 0) (.cst (.int 0)) (.bin .fdiv (.idx (.var 0) (.cst (.int 0))) (.var 1))) (.seq (.ret (.var 3)) .skip))) .skip) (.seq (.asgI (.var 0) (.cst (.int 1)) (.bin .mod (.blt .int (.cons (.bin .add (.bin .add (.bin .mul (.idx (.var 0) (.cst (.int 1))) (.cst (.int 41358))) (.bin .mul (.cst (.int 31657)) (.idx (.var 0) (.cst (.int 2))))) (.cst (.int 23))) .nil)) (.cst (.int 2147483647)))) (.seq (.asgI (.var 0) (.cst (.int 1)) (.bin .mod (.blt .int (.cons (.bin .add (.bin .mul (.idx (.var 0) (.cst (.int 1))) (.idx (.var 0) (.cst (.int 1)))) (.cst (.int 11))) .nil)) (.cst (.int 2147483629)))) (.seq (.ret (.bin .mod (.blt .int (.cons (.bin .fdiv (.idx (.var 0) (.cst (.int 1))) (.cst (.int 8))) .nil)) (.var 1))) .skip)))))
def x_law_same_0 : T := (.lc [("k", 2)] (.tv 2) (.rng1 (.blt .len (.cons (.var 1) .nil))) .nil (.call 17 (.cons (.idx (.var 0) (.var 2)) (.cons (.idx (.var 1) (.var 2)) .nil))))
def b_law_same : T := (.seq (.ifs (.cmp .is (.var 1) (.cst .none)) (.seq (.ret (.cmp .is (.var 0) (.cst .none))) .skip) .skip) (.seq (.ifs (.isin (.var 1) [.bool, .str] true) (.seq (.ret (.and (.cmp .eq (.isin (.var 0) [.bool] false) (.isin (.var 1) [.bool] false)) (.and (.isin (.var 0) [.bool, .str] true) (.cmp .eq (.var 0) (.var 1))))) .skip) .skip) (.seq (.ifs (.isin (.var 1) [.int] false) (.seq (.ret (.and (.isin (.var 0) [.int] false) (.and (.not (.isin (.var 0) [.bool] false)) (.cmp .eq (.var 0) (.var 1))))) .skip) .skip) (.seq (.ifs (.or (.cmp .ne (.isin (.var 1) [.list] false) (.isin (.var 0) [.list] false)) (.cmp .ne (.isin (.var 1) [.tuple] false) (.isin (.var 0) [.tuple] false))) (.seq (.ret (.cst (.bool false))) .skip) .skip) (.seq (.ret (.and (.cmp .eq (.blt .len (.cons (.var 0) .nil)) (.blt .len (.cons (.var 1) .nil))) (.blt .all (.cons x_law_same_0 .nil)))) .skip)))))
def b_law_digits_0 : T := (.seq (.ifs (.cmp .eq (.var 1) (.cst (.int 0))) (.seq .brk .skip) .skip) (.seq (.ex (.app (.var 2) (.bin .mod (.blt .int (.cons (.var 1) .nil)) (.var 0)))) (.seq (.asg 1 (.bin .fdiv (.var 1) (.var 0))) .skip)))
def x_law_digits_1 : T := (.for (.tv 3) (.rng1 (.cst (.int 400))) b_law_digits_0)
def b_law_digits : T := (.seq (.asg 2 (.lstM .nil)) (.seq x_law_digits_1 (.seq (.ret (.frz (.var 2))) .skip)))
def b_law_number_0 : T := (.seq (.asg 2 (.bin .add (.bin .mul (.var 2) (.var 0)) (.var 3))) .skip)
def x_law_number_1 : T := (.for (.tv 3) (.itv (.rev (.var 1))) b_law_number_0)
def b_law_number : T := (.seq (.asg 2 (.cst (.int 0))) (.seq x_law_number_1 (.seq (.ret (.var 2)) .skip)))
def b_law_far_0 : T := (.seq (.asg 2 (.bin .add (.bin .mul (.var 2) (.cst (.int 10))) (.call 16 (.cons (.var 0) (.cons (.cst (.int 10)) .nil))))) .skip)
def x_law_far_1 : T := (.for (.tv 3) (.rng1 (.bin .add (.cst (.int 1)) (.call 16 (.cons (.var 0) (.cons (.var 1) .nil))))) b_law_far_0)
def b_law_far : T := (.seq (.asg 2 (.cst (.int 0))) (.seq x_law_far_1 (.seq (.ret (.var 2)) .skip)))
def x_law_blocks_0 : T := (.lc [("at", 2)] (.tv 2) (.rng1 (.blt .len (.cons (.var 0) .nil))) (.cons (.cmp .eq (.blt .tuple (.cons (.slc (.var 0) (.cons (.var 2) .nil) (.cons (.bin .add (.var 2) (.blt .len (.cons (.var 1) .nil))) .nil)) .nil)) (.var 1)) .nil) (.var 2))
def b_law_blocks : T := (.seq (.ret (.blt .len (.cons x_law_blocks_0 .nil))) .skip)
def b_law_some_0 : T := (.seq (.asg 4 (.bin .add (.var 4) (.var 5))) .skip)
def x_law_some_1 : T := (.for (.tv 3) (.rng1 (.bin .add (.cst (.int 1)) (.call 16 (.cons (.var 0) (.cons (.cst (.int 9)) .nil))))) b_law_some_0)
def x_law_some_2 : T := (.lc [("at", 6)] (.tv 6) (.rng1 (.bin .add (.cst (.int 1)) (.call 16 (.cons (.var 0) (.cons (.cst (.int 4)) .nil))))) .nil (.call 16 (.cons (.var 0) (.cons (.var 1) .nil))))
def b_law_some_3 : T := (.seq (.asg 4 (.bin .mul (.var 4) (.var 1))) .skip)
def x_law_some_4 : T := (.for (.tv 3) (.rng1 (.call 16 (.cons (.var 0) (.cons (.cst (.int 40)) .nil)))) b_law_some_3)
def b_law_some : T := (.seq (.asg 2 (.call 16 (.cons (.var 0) (.cons (.cst (.int 4)) .nil)))) (.seq (.ifs (.cmp .eq (.var 2) (.cst (.int 0))) (.seq (.ret (.call 20 (.cons (.var 0) (.cons (.cst (.int 30)) .nil)))) .skip) .skip) (.seq (.ifs (.cmp .eq (.var 2) (.cst (.int 1))) (.seq (.asg 4 (.cst (.int 1))) (.seq x_law_some_4 (.seq (.ret (.blt .max2 (.cons (.cst (.int 0)) (.cons (.bin .sub (.bin .add (.var 4) (.call 16 (.cons (.var 0) (.cons (.cst (.int 3)) .nil)))) (.cst (.int 1))) .nil)))) .skip))) .skip) (.seq (.ifs (.cmp .eq (.var 2) (.cst (.int 2))) (.seq (.ret (.call 16 (.cons (.var 0) (.cons (.cst (.int 200)) .nil)))) .skip) .skip) (.seq (.par [5, 4] (.cons x_law_some_2 (.cons (.lst .nil) .nil))) (.seq x_law_some_1 (.seq (.ret (.call 19 (.cons (.var 1) (.cons (.slc (.var 4) .nil (.cons (.cst (.int 42)) .nil)) .nil)))) .skip)))))))
def x_law_0 : T := (.lc [("d", 14)] (.tv 14) (.rng2 (.cst (.int 1)) (.var 3)) .nil (.bin .mul (.var 14) (.call 15 (.cons (.var 3) (.cons (.tup (.cons (.var 14) .nil)) (.cons (.var 4) .nil))))))
def x_law_1 : T := (.lc [("place", 15)] (.tv 15) (.rng1 (.var 13)) .nil (.call 16 (.cons (.var 1) (.cons (.var 3) .nil))))
def b_law_2 : T := (.seq (.par [12, 13] (.cons (.call 16 (.cons (.var 1) (.cons (.bin .add (.blt .len (.cons (.var 5) .nil)) (.cst (.int 1))) .nil))) (.cons (.bin .add (.cst (.int 1)) (.call 16 (.cons (.var 1) (.cons (.cst (.int 6)) .nil)))) .nil))) (.seq (.asg 10 (.ite (.cmp .lt (.var 8) (.cst (.int 2))) (.blt .tuple (.cons (.slc (.var 5) (.cons (.var 12) .nil) (.cons (.bin .add (.var 12) (.var 13)) .nil)) .nil)) (.blt .tuple (.cons x_law_1 .nil)))) (.seq (.ifs (.or (.cmp .eq (.var 10) (.tup .nil)) (.cmp .eq (.idx (.var 10) (.neg (.cst (.int 1)))) (.cst (.int 0)))) (.seq (.asg 10 (.bin .add (.var 10) (.tup (.cons (.bin .add (.cst (.int 1)) (.call 16 (.cons (.var 1) (.cons (.bin .sub (.var 3) (.cst (.int 1))) .nil)))) .nil)))) .skip) .skip) (.seq (.asg 11 (.call 21 (.cons (.var 5) (.cons (.var 10) .nil)))) (.seq (.ifs (.not (.call 17 (.cons (.lst (.cons (.call 15 (.cons (.var 3) (.cons (.var 10) (.cons (.var 4) .nil)))) (.cons (.callk 15 .nil ["n", "rows", "k"] (.cons (.var 4) (.cons (.var 10) (.cons (.var 3) .nil))) [2, 1, 0]) .nil))) (.cons (.lst (.cons (.var 11) (.cons (.var 11) .nil))) .nil)))) (.seq (.ret (.cst (.bool false))) .skip) .skip) .skip)))))
def x_law_3 : T := (.for (.tv 8) (.rng1 (.cst (.int 4))) b_law_2)
def x_law_4 : T := (.lc [("at", 12)] (.tv 12) (.rng1 (.blt .len (.cons (.var 5) .nil))) (.cons (.cmp .ne (.idx (.var 5) (.var 12)) (.cst (.int 0))) .nil) (.var 12))
def b_law_5 : T := (.seq (.asg 3 (.bin .add (.cst (.int 2)) (.call 16 (.cons (.var 1) (.cons (.cst (.int 4)) .nil))))) (.seq (.asg 4 (.call 22 (.cons (.var 1) (.cons (.var 3) .nil)))) (.seq (.asg 5 (.call 18 (.cons (.var 3) (.cons (.var 4) .nil)))) (.seq (.asg 6 (.bin .add (.blt .tuple (.cons (.var 5) .nil)) (.bin .mul (.tup (.cons (.cst (.int 0)) .nil)) (.call 16 (.cons (.var 1) (.cons (.cst (.int 5)) .nil)))))) (.seq (.ifs (.not (.call 17 (.cons (.lst (.cons (.call 9 (.cons (.var 3) (.cons (.var 4) .nil))) (.cons (.callk 9 .nil ["n", "k"] (.cons (.var 4) (.cons (.var 3) .nil)) [1, 0]) (.cons (.call 10 (.cons (.var 3) (.cons (.var 6) .nil))) (.cons (.callk 10 .nil ["rows", "k"] (.cons (.blt .tuple (.cons (.var 5) .nil)) (.cons (.var 3) .nil)) [1, 0]) .nil))))) (.cons (.lst (.cons (.blt .tuple (.cons (.var 5) .nil)) (.cons (.blt .tuple (.cons (.var 5) .nil)) (.cons (.var 4) (.cons (.var 4) .nil))))) .nil)))) (.seq (.ret (.cst (.bool false))) .skip) .skip) (.seq (.asg 7 (.blt .sum (.cons (.var 5) .nil))) (.seq (.ifs (.or (.not (.call 17 (.cons (.lst (.cons (.call 11 (.cons (.var 3) (.cons (.var 4) .nil))) (.cons (.callk 11 .nil ["n", "k"] (.cons (.var 4) (.cons (.var 3) .nil)) [1, 0]) .nil))) (.cons (.lst (.cons (.var 7) (.cons (.var 7) .nil))) .nil)))) (.cmp .ne (.bin .mod (.blt .int (.cons (.bin .sub (.var 4) (.call 11 (.cons (.var 3) (.cons (.var 4) .nil)))) .nil)) (.bin .sub (.var 3) (.cst (.int 1)))) (.cst (.int 0)))) (.seq (.ret (.cst (.bool false))) .skip) .skip) (.seq (.ifs (.cmp .gt (.var 4) (.cst (.int 0))) (.seq (.asg 9 (.idx x_law_4 (.cst (.int 0)))) (.seq (.ifs (.not (.call 17 (.cons (.lst (.cons (.call 13 (.cons (.var 3) (.cons (.var 4) .nil))) (.cons (.callk 13 .nil ["n", "k"] (.cons (.var 4) (.cons (.var 3) .nil)) [1, 0]) (.cons (.ite (.cmp .lt (.var 4) (.bin .pow (.cst (.int 10)) (.cst (.int 29)))) (.call 13 (.cons (.var 3) (.cons (.bin .mul (.var 4) (.var 3)) .nil))) (.bin .add (.var 9) (.cst (.int 1)))) .nil)))) (.cons (.lst (.cons (.var 9) (.cons (.var 9) (.cons (.bin .add (.var 9) (.cst (.int 1))) .nil)))) .nil)))) (.seq (.ret (.cst (.bool false))) .skip) .skip) .skip)) .skip) (.seq x_law_3 (.seq (.ifs (.cmp .ne (.var 7) (.blt .sum (.cons x_law_0 .nil))) (.seq (.ret (.cst (.bool false))) .skip) .skip) .skip))))))))))
def x_law_6 : T := (.for (.tv 2) (.rng1 (.cst (.int 8))) b_law_5)
def b_law : T := (.seq (.asg 1 (.addM (.lst (.cons (.cst (.int 0)) (.cons (.cst (.int 70)) (.cons (.cst (.int 3)) .nil)))) (.blt .list (.cons (.var 0) .nil)))) (.seq x_law_6 (.seq (.ret (.and (.cmp .eq (.call 15 (.cons (.cst (.int 2)) (.cons (.tup (.cons (.cst (.int 1)) (.cons (.cst (.int 0)) (.cons (.cst (.int 1)) .nil)))) (.cons (.bin .add (.bin .mul (.bin .pow (.cst (.int 2)) (.cst (.int 40))) (.cst (.int 341))) (.cst (.int 21))) .nil)))) (.cst (.int 6))) (.and (.cmp .eq (.call 9 (.cons (.cst (.int 5)) (.cons (.cst (.int 0)) .nil))) (.tup .nil)) (.cmp .eq (.call 15 (.cons (.cst (.int 3)) (.cons (.tup (.cons (.cst (.int 2)) .nil)) (.cons (.cst (.int 0)) .nil)))) (.cst (.int 0)))))) .skip)))
def nums : List (Str × Int) := [("LEAST_BASE", 2), ("MOST_BASE", 5)]
def d_is_integer : Df := ⟨"is_integer", ["value"], ["value"], top 7, ⟨1, 1, b_is_integer⟩⟩
def d_is_natural : Df := ⟨"is_natural", ["value"], ["value"], top 8, ⟨1, 1, b_is_natural⟩⟩
def d_is_base : Df := ⟨"is_base", ["value"], ["value"], top 9, ⟨1, 1, b_is_base⟩⟩
def d_are_digits : Df := ⟨"are_digits", ["k", "value"], ["k", "value", "own"], top 10, ⟨2, 3, b_are_digits⟩⟩
def d_check_base : Df := ⟨"check_base", ["k"], ["k"], top 11, ⟨1, 1, b_check_base⟩⟩
def d_check_from : Df := ⟨"check_from", ["value", "least"], ["value", "least"], top 12, ⟨2, 2, b_check_from⟩⟩
def d_check_digits : Df := ⟨"check_digits", ["k", "rows"], ["k", "rows"], top 13, ⟨2, 2, b_check_digits⟩⟩
def d_digits_of : Df := ⟨"digits_of", ["k", "n"], ["k", "n", "found"], top 14, ⟨2, 3, b_digits_of⟩⟩
def d_number_from : Df := ⟨"number_from", ["k", "rows"], ["k", "rows", "found", "own"], top 15, ⟨2, 4, b_number_from⟩⟩
def d_digits : Df := ⟨"digits", ["k", "n"], ["k", "n"], top 17, ⟨2, 2, b_digits⟩⟩
def d_number_of : Df := ⟨"number_of", ["k", "rows"], ["k", "rows"], top 18, ⟨2, 2, b_number_of⟩⟩
def d_digit_sum : Df := ⟨"digit_sum", ["k", "n"], ["k", "n"], top 19, ⟨2, 2, b_digit_sum⟩⟩
def d_power_of : Df := ⟨"power_of", ["k", "n"], ["k", "n", "found"], top 20, ⟨2, 3, b_power_of⟩⟩
def d_power_in : Df := ⟨"power_in", ["k", "n"], ["k", "n"], top 21, ⟨2, 2, b_power_in⟩⟩
def d_check_block : Df := ⟨"check_block", ["k", "rows"], ["k", "rows"], top 22, ⟨2, 2, b_check_block⟩⟩
def d_block_count : Df := ⟨"block_count", ["k", "rows", "n"], ["k", "rows", "n", "own", "at"], top 23, ⟨3, 5, b_block_count⟩⟩
def d_law_take : Df := ⟨"_law_take", ["pot", "many"], ["pot", "many", "cell", "drawn_now", "stirred"], top 25, ⟨2, 5, b_law_take⟩⟩
def d_law_same : Df := ⟨"_law_same", ["got", "due"], ["got", "due", "k"], top 26, ⟨2, 3, b_law_same⟩⟩
def d_law_digits : Df := ⟨"_law_digits", ["k", "n"], ["k", "n", "found", "turn"], top 27, ⟨2, 4, b_law_digits⟩⟩
def d_law_number : Df := ⟨"_law_number", ["k", "rows"], ["k", "rows", "found", "own"], top 28, ⟨2, 4, b_law_number⟩⟩
def d_law_far : Df := ⟨"_law_far", ["pot", "most"], ["pot", "most", "found", "turn"], top 29, ⟨2, 4, b_law_far⟩⟩
def d_law_blocks : Df := ⟨"_law_blocks", ["own", "rows"], ["own", "rows", "at"], top 30, ⟨2, 3, b_law_blocks⟩⟩
def d_law_some : Df := ⟨"_law_some", ["pot", "k"], ["pot", "k", "way", "turn", "found", "some", "at"], top 31, ⟨2, 7, b_law_some⟩⟩
def d_law : Df := ⟨"law", ["script"], ["script", "pot", "turn", "k", "n", "own", "zeros", "total", "again", "many", "rows", "due", "at", "size", "d", "place"], top 32, ⟨1, 16, b_law⟩⟩
def ds : List Df := [d_is_integer, d_is_natural, d_is_base, d_are_digits, d_check_base, d_check_from, d_check_digits, d_digits_of, d_number_from, d_digits, d_number_of, d_digit_sum, d_power_of, d_power_in, d_check_block, d_block_count, d_law_take, d_law_same, d_law_digits, d_law_number, d_law_far, d_law_blocks, d_law_some, d_law]
def R (k : Nat) : G := Z.run (codeOf ds) k
theorem R_0 (k : Nat) (l : List D) (h : H) : R (k + 1) 0 l h = runs ⟨1, 1, b_is_integer⟩ (R k) l h := rfl
theorem R_1 (k : Nat) (l : List D) (h : H) : R (k + 1) 1 l h = runs ⟨1, 1, b_is_natural⟩ (R k) l h := rfl
theorem R_2 (k : Nat) (l : List D) (h : H) : R (k + 1) 2 l h = runs ⟨1, 1, b_is_base⟩ (R k) l h := rfl
theorem R_3 (k : Nat) (l : List D) (h : H) : R (k + 1) 3 l h = runs ⟨2, 3, b_are_digits⟩ (R k) l h := rfl
theorem R_4 (k : Nat) (l : List D) (h : H) : R (k + 1) 4 l h = runs ⟨1, 1, b_check_base⟩ (R k) l h := rfl
theorem R_5 (k : Nat) (l : List D) (h : H) : R (k + 1) 5 l h = runs ⟨2, 2, b_check_from⟩ (R k) l h := rfl
theorem R_6 (k : Nat) (l : List D) (h : H) : R (k + 1) 6 l h = runs ⟨2, 2, b_check_digits⟩ (R k) l h := rfl
theorem R_7 (k : Nat) (l : List D) (h : H) : R (k + 1) 7 l h = runs ⟨2, 3, b_digits_of⟩ (R k) l h := rfl
theorem R_8 (k : Nat) (l : List D) (h : H) : R (k + 1) 8 l h = runs ⟨2, 4, b_number_from⟩ (R k) l h := rfl
theorem R_9 (k : Nat) (l : List D) (h : H) : R (k + 1) 9 l h = runs ⟨2, 2, b_digits⟩ (R k) l h := rfl
theorem R_10 (k : Nat) (l : List D) (h : H) : R (k + 1) 10 l h = runs ⟨2, 2, b_number_of⟩ (R k) l h := rfl
theorem R_11 (k : Nat) (l : List D) (h : H) : R (k + 1) 11 l h = runs ⟨2, 2, b_digit_sum⟩ (R k) l h := rfl
theorem R_12 (k : Nat) (l : List D) (h : H) : R (k + 1) 12 l h = runs ⟨2, 3, b_power_of⟩ (R k) l h := rfl
theorem R_13 (k : Nat) (l : List D) (h : H) : R (k + 1) 13 l h = runs ⟨2, 2, b_power_in⟩ (R k) l h := rfl
theorem R_14 (k : Nat) (l : List D) (h : H) : R (k + 1) 14 l h = runs ⟨2, 2, b_check_block⟩ (R k) l h := rfl
theorem R_15 (k : Nat) (l : List D) (h : H) : R (k + 1) 15 l h = runs ⟨3, 5, b_block_count⟩ (R k) l h := rfl
theorem R_16 (k : Nat) (l : List D) (h : H) : R (k + 1) 16 l h = runs ⟨2, 5, b_law_take⟩ (R k) l h := rfl
theorem R_17 (k : Nat) (l : List D) (h : H) : R (k + 1) 17 l h = runs ⟨2, 3, b_law_same⟩ (R k) l h := rfl
theorem R_18 (k : Nat) (l : List D) (h : H) : R (k + 1) 18 l h = runs ⟨2, 4, b_law_digits⟩ (R k) l h := rfl
theorem R_19 (k : Nat) (l : List D) (h : H) : R (k + 1) 19 l h = runs ⟨2, 4, b_law_number⟩ (R k) l h := rfl
theorem R_20 (k : Nat) (l : List D) (h : H) : R (k + 1) 20 l h = runs ⟨2, 4, b_law_far⟩ (R k) l h := rfl
theorem R_21 (k : Nat) (l : List D) (h : H) : R (k + 1) 21 l h = runs ⟨2, 3, b_law_blocks⟩ (R k) l h := rfl
theorem R_22 (k : Nat) (l : List D) (h : H) : R (k + 1) 22 l h = runs ⟨2, 7, b_law_some⟩ (R k) l h := rfl
theorem R_23 (k : Nat) (l : List D) (h : H) : R (k + 1) 23 l h = runs ⟨1, 16, b_law⟩ (R k) l h := rfl
/- order: 0 is_integer, 1 is_natural, 2 is_base, 3 are_digits, 4 check_base, 5 check_from, 6 check_digits, 7 digits_of, 8 number_from, 9 digits, 10 number_of, 11 digit_sum, 12 power_of, 13 power_in, 14 check_block, 15 block_count, 16 _law_take, 17 _law_same, 18 _law_digits, 19 _law_number, 20 _law_far, 21 _law_blocks, 22 _law_some, 23 law; law at top 32 -/
theorem chk : ds.all (chkD (txtOf ds nums)) = true := by kernel_rfl
end K00

namespace K00
open Z
theorem r_is_integer (k : Nat) (v : Int) (h : H) (f : Fine h) : R (k + 1) 0 [.int v] h = some (.bl true, h) := by
  simp [R_0, runs, b_is_integer, exec, starts, evalE, isTys, isTy, truthy, close_dat0 f]
theorem r_is_natural (k : Nat) (v : Int) (h : H) (f : Fine h) : R (k + 2) 1 [.int v] h = some (.bl (decide (0 ≤ v)), h) := by
  simp [R_1, r_is_integer, f, runs, b_is_natural, exec, starts, evalE, evalA, truthy, cmpop, ordOp, close_dat0 f]
theorem r_is_base (k : Nat) (v : Int) (h : H) (f : Fine h) : R (k + 2) 2 [.int v] h = some (.bl (decide (2 ≤ v) && decide (v ≤ 5)), h) := by
  by_cases h1 : 2 ≤ v <;> simp [R_2, r_is_integer, f, runs, b_is_base, exec, starts, evalE, evalA, truthy, cmpop, ordOp, close_dat0 f, h1]
theorem r_check_base (k : Nat) (v : Int) (h : H) (f : Fine h) (h1 : 2 ≤ v) (h2 : v ≤ 5) : R (k + 3) 4 [.int v] h = some (.non, h) := by
  simp [R_4, r_is_base, f, runs, b_check_base, exec, starts, test, evalE, evalA, truthy, cmpop, ordOp, close_dat0 f, h1, h2]
theorem r_check_from (k : Nat) (v l : Int) (h : H) (f : Fine h) (h1 : l ≤ v) : R (k + 2) 5 [.int v, .int l] h = some (.non, h) := by
  simp [R_5, r_is_integer, f, runs, b_check_from, exec, starts, test, evalE, evalA, truthy, cmpop, ordOp, close_dat0 f, Int.not_lt.mpr h1]
/-- digits all right for a base -/
def Dig (k : Int) (l : List Int) : Prop := ∀ d ∈ l, 0 ≤ d ∧ d < k
theorem bools_true (n : Nat) : boolsOf (List.replicate n (.bool true)) = some (List.replicate n true) := by
  induction n with
  | zero => rfl
  | succ n ih => simp [List.replicate_succ, boolsOf, ih]
theorem comp_true {f : D → H → Option (Option PySem.PyData × H)} {h : H} {xs : List D} (e : ∀ x ∈ xs, f x h = some (some (.bool true), h)) : comp f xs h = some (List.replicate xs.length (.bool true), h) := by
  rw [comp_pure (fun _ => some (.bool true)) e]
  congr 2
  clear e
  induction xs with
  | nil => rfl
  | cons a r ih => simp [List.replicate_succ, ih]
theorem r_are_digits (k : Nat) (b : Int) (l : List Int) (h : H) (f : Fine h) (hd : Dig b l) (hl : l.length ≤ 1000000) : R (k + 3) 3 [.int b, .tup (dints l)] h = some (.bl true, h) := by
  have e : ∀ z, evalE (R (k + 2)) x_are_digits_0 [some (.int b), some (.tup (dints l)), z] h = some (.lst (List.replicate l.length (.bool true)), h) := fun z => by
    refine lc_eval (xs := (dints l).map .dat) (h1 := h) (by simp [evalI, evalE]) (size_ok (by simpa [dints] using hl)) ?_
    rw [comp_true]
    · simp [dints]
    · intro x hx
      obtain ⟨v, h1, rfl⟩ := ints_mem hx
      obtain ⟨h2, h3⟩ := hd v h1
      simp [turnF, asgn, wipeS, evalC, evalE, evalA, r_is_natural, f, truthy, cmpop, ordOp, h2, h3]
  simp [R_3, runs, b_are_digits, exec, starts, evalE, evalA, truthy, isTys, isTy, e, bltD, datOf, bools_true, close_dat0 f]
theorem r_check_digits (k : Nat) (b : Int) (l : List Int) (h : H) (f : Fine h) (hd : Dig b l) (hl : l.length ≤ 1000000) : R (k + 4) 6 [.int b, .tup (dints l)] h = some (.non, h) := by
  simp [R_6, r_are_digits, f, hd, hl, runs, b_check_digits, exec, starts, test, evalE, evalA, truthy, close_dat0 f]
/-- digits, least first -/
def dg (k : Int) : Nat → Int → List Int
  | 0, _ => []
  | f + 1, n => if n = 0 then [] else n % k :: dg k f (n / k)
theorem dg_zero (k : Int) (f : Nat) : dg k f 0 = [] := by cases f <;> rfl
theorem half {k n : Int} {f : Nat} (hk : 2 ≤ k) (h0 : 0 ≤ n) (h : n < 2 ^ (f + 1)) : n / k < 2 ^ f := by
  have h1 : n / k ≤ n / 2 := by
    have : n / k * 2 ≤ n := by
      have h2 : n / k * k ≤ n := Int.ediv_mul_le n (by omega)
      have h3 : 0 ≤ n / k := Int.ediv_nonneg h0 (by omega)
      have h4 : n / k * 2 ≤ n / k * k := Int.mul_le_mul_of_nonneg_left hk h3
      omega
    omega
  have h2 : (2 : Int) ^ (f + 1) = 2 ^ f * 2 := Int.pow_succ ..
  omega
theorem r_digits_of (k : Nat) (b n : Int) (h : H) (f : Fine h) (hb : 2 ≤ b) (hb2 : b ≤ 5) (h0 : 0 ≤ n) (hn : n < 2 ^ 400) : R (k + 1) 7 [.int b, .int n] h = some (.tup (dints (dg b 400 n)), h) := by
  have lp : ∃ o, exec (R k) x_digits_of_1 [some (.int b), some (.int n), some (.ref h.length)] (h ++ [ol []]) = some o ∧ ∃ z, o = .nx [some (.int b), z, some (.ref h.length)] (h ++ [ol (dg b 400 n)]) := by
    refine whl_gen (fun m s h1 => ∃ v acc, 0 ≤ v ∧ v < 2 ^ m ∧ m ≤ 400 ∧ acc.length + m = 400 ∧ acc ++ dg b m v = dg b 400 n ∧ s = [some (.int b), some (.int v), some (.ref h.length)] ∧ h1 = h ++ [ol acc]) (fun o => ∃ z, o = .nx [some (.int b), z, some (.ref h.length)] (h ++ [ol (dg b 400 n)])) ?_ (n := 400) ⟨n, [], h0, hn, Nat.le_refl _, rfl, rfl, rfl, rfl⟩ (show 400 < most by decide)
    rintro m s h1 ⟨v, acc, v0, vm, hm, hl, ea, rfl, rfl⟩
    by_cases hv : v = 0
    · subst hv
      rw [dg_zero, List.append_nil] at ea
      subst ea
      exact .inl ⟨_, by simp [test, evalE, cmpop, ordOp, truthy], _, rfl⟩
    · cases m with
      | zero => simp at vm; omega
      | succ m =>
        have hp : 0 < v := by omega
        refine .inr ⟨m, h ++ [ol acc], .nx [some (.int b), some (.int (v / b)), some (.ref h.length)] (h ++ [ol (acc ++ [v % b])]), rfl, by simp [test, evalE, cmpop, ordOp, truthy, hp], by
          simp [b_digits_of_0, exec, evalE, isL_ol, appD_ol (l := acc) (h := h) (show acc.length < 1000000 by omega), binop, show (0 : Int) < b by omega, div_ok (j := b) (by omega) (big64 (by omega))], ?_⟩
        refine ⟨v / b, acc ++ [v % b], Int.ediv_nonneg v0 (by omega), half hb v0 vm, by omega, by simp; omega, ?_, rfl, rfl⟩
        rw [← ea, List.append_assoc]
        simp [dg, hv]
  obtain ⟨o, e, z, rfl⟩ := lp
  rw [← ol_nil] at e
  simp [R_7, runs, b_digits_of, exec, starts, evalE, evalA, dats, size_ok, e, bltD, datOf_ol, close_dat f]
end K00

namespace K00
open Z
/-- the number that digits tell -/
def num (k : Int) (l : List Int) : Int := l.foldr (fun d a => a * k + d) 0
theorem small5 {b : Int} (h : 2 ≤ b) (h2 : b ≤ 5) : b.natAbs < 2 ^ 64 := by omega
theorem num_fold (b : Int) (l : List Int) : l.reverse.foldl (fun a d => a * b + d) 0 = num b l := by
  rw [List.foldl_reverse]; rfl
theorem fold_take {l : List Int} {i : Nat} {v : Int} (b : Int) (h : l[i]? = some v) : (l.take (i + 1)).foldl (fun a d => a * b + d) 0 = (l.take i).foldl (fun a d => a * b + d) 0 * b + v := by
  rw [List.take_succ, h, List.foldl_append]
  rfl
theorem r_number_from (k : Nat) (b : Int) (l : List Int) (h : H) (f : Fine h) (hb : 2 ≤ b) (hb2 : b ≤ 5) : R (k + 1) 8 [.int b, .tup (dints l)] h = some (.int (num b l), h) := by
  have lp : ∃ o, exec (R k) x_number_from_1 [some (.int b), some (.tup (dints l)), some (.int 0), none] h = some o ∧ ∃ z, o = .nx [some (.int b), some (.tup (dints l)), some (.int (num b l)), z] h := by
    have L : ∃ o, fors (fun d s h => (asgn (.tv 3) d s).bind fun s1 => exec (R k) b_number_from_0 s1 h) ((dints l.reverse).map .dat) [some (.int b), some (.tup (dints l)), some (.int 0), none] h = some o ∧ ∃ z, o = .nx [some (.int b), some (.tup (dints l)), some (.int (num b l)), z] h := by
      refine fors_gen (fun i s h1 => h1 = h ∧ ∃ z, s = [some (.int b), some (.tup (dints l)), some (.int ((l.reverse.take i).foldl (fun a d => a * b + d) 0)), z]) (fun o => ∃ z, o = .nx [some (.int b), some (.tup (dints l)), some (.int (num b l)), z] h) (fun i x s h1 hx hi => ?_) (fun s h1 hi => ?_) ⟨rfl, none, rfl⟩
      · obtain ⟨rfl, z, rfl⟩ := hi
        obtain ⟨v, hv, rfl⟩ := ints_get hx
        refine ⟨.nx [some (.int b), some (.tup (dints l)), some (.int ((l.reverse.take (i + 1)).foldl (fun a d => a * b + d) 0)), some (.int v)] h1, ?_, rfl, _, rfl⟩
        rw [fold_take b hv]
        simp [asgn, b_number_from_0, exec, evalE, binop, mul_r (small5 hb hb2)]
      · obtain ⟨rfl, z, rfl⟩ := hi
        refine ⟨z, ?_⟩
        rw [List.take_of_length_le (by simp [dints]), num_fold]
    obtain ⟨o, e1, e2⟩ := L
    exact ⟨o, for_eval (by simp [evalI, evalE, revD, dints]) e1, e2⟩
  obtain ⟨o, e, z, rfl⟩ := lp
  simp [R_8, runs, b_number_from, exec, starts, evalE, e, close_dat0 f]
theorem dg_dig {b : Int} (hb : 2 ≤ b) : ∀ (f : Nat) (n : Int), Dig b (dg b f n)
  | 0, n => fun d h => by cases h
  | f + 1, n => fun d h => by
    unfold dg at h
    split at h
    · cases h
    · rcases List.mem_cons.mp h with rfl | h
      · exact ⟨mod_nonneg' (by omega), mod_lt' (by omega)⟩
      · exact dg_dig hb f _ d h
theorem dg_len {b : Int} : ∀ (f : Nat) (n : Int), (dg b f n).length ≤ f
  | 0, n => Nat.le_refl _
  | f + 1, n => by
    unfold dg
    split
    · simp
    · have := dg_len (b := b) f (n / b)
      simp only [List.length_cons]
      omega
theorem dg_num {b : Int} (hb : 2 ≤ b) : ∀ (f : Nat) (n : Int), 0 ≤ n → n < 2 ^ f → num b (dg b f n) = n
  | 0, n, h0, h1 => by
    have : n = 0 := by simp at h1; omega
    subst this
    rfl
  | f + 1, n, h0, h1 => by
    unfold dg
    split
    · rename_i h
      subst h
      rfl
    · have ih := dg_num hb f (n / b) (Int.ediv_nonneg h0 (by omega)) (half hb h0 h1)
      show num b (dg b f (n / b)) * b + n % b = n
      rw [ih]
      have := Int.emod_add_mul_ediv n b
      rw [Int.mul_comm] at this
      omega
theorem num_zeros (b : Int) (l : List Int) (m : Nat) : num b (l ++ List.replicate m 0) = num b l := by
  have z : num b (List.replicate m 0) = 0 := by
    induction m with
    | zero => rfl
    | succ m ih =>
      rw [List.replicate_succ]
      show num b (List.replicate m 0) * b + 0 = 0
      rw [ih]
      simp
  unfold num at z ⊢
  rw [List.foldr_append, z]
theorem r_digits (k : Nat) (b n : Int) (h : H) (f : Fine h) (hb : 2 ≤ b) (hb2 : b ≤ 5) (h0 : 0 ≤ n) (hn : n < 2 ^ 400) : R (k + 4) 9 [.int b, .int n] h = some (.tup (dints (dg b 400 n)), h) := by
  simp [R_9, runs, b_digits, exec, starts, evalE, evalA, r_check_base, r_check_from, r_digits_of, f, hb, hb2, h0, hn, close_dat0 f]
theorem r_number_of (k : Nat) (b : Int) (l : List Int) (h : H) (f : Fine h) (hb : 2 ≤ b) (hb2 : b ≤ 5) (hd : Dig b l) (hl : l.length ≤ 1000000) : R (k + 5) 10 [.int b, .tup (dints l)] h = some (.int (num b l), h) := by
  simp [R_10, runs, b_number_of, exec, starts, evalE, evalA, r_check_base, r_check_digits, r_number_from, f, hb, hb2, hd, hl, close_dat0 f]
theorem r_digit_sum (k : Nat) (b n : Int) (h : H) (f : Fine h) (hb : 2 ≤ b) (hb2 : b ≤ 5) (h0 : 0 ≤ n) (hn : n < 2 ^ 400) : R (k + 4) 11 [.int b, .int n] h = some (.int (dg b 400 n).sum, h) := by
  simp [R_11, runs, b_digit_sum, exec, starts, evalE, evalA, r_check_base, r_check_from, r_digits_of, f, hb, hb2, h0, hn, bltD, datOf, ints_of, close_dat0 f]
/-- how often the base goes in -/
def pw (k : Int) : Nat → Int → Nat
  | 0, _ => 0
  | f + 1, n => if n % k = 0 then pw k f (n / k) + 1 else 0
theorem div_pos' {b v : Int} (hb : 2 ≤ b) (h0 : 0 < v) (h : v % b = 0) : 0 < v / b := by
  have := Int.emod_add_mul_ediv v b
  rw [h] at this
  rcases Int.lt_or_le 0 (v / b) with h1 | h1
  · exact h1
  · have : b * (v / b) ≤ 0 := Int.mul_nonpos_of_nonneg_of_nonpos (by omega) h1
    omega
theorem r_power_of (k : Nat) (b n : Int) (h : H) (f : Fine h) (hb : 2 ≤ b) (hb2 : b ≤ 5) (h0 : 0 < n) (hn : n < 2 ^ 400) : R (k + 1) 12 [.int b, .int n] h = some (.int (pw b 400 n), h) := by
  have lp : ∃ o, exec (R k) x_power_of_1 [some (.int b), some (.int n), some (.int 0)] h = some o ∧ ∃ z, o = .nx [some (.int b), z, some (.int (pw b 400 n))] h := by
    refine whl_gen (fun m s h1 => ∃ (v : Int) (c : Nat), 0 < v ∧ v < 2 ^ m ∧ m ≤ 400 ∧ c + pw b m v = pw b 400 n ∧ s = [some (.int b), some (.int v), some (.int c)] ∧ h1 = h) (fun o => ∃ z, o = .nx [some (.int b), z, some (.int (pw b 400 n))] h) ?_ (n := 400) ⟨n, 0, h0, hn, Nat.le_refl _, by simp, rfl, rfl⟩ (show 400 < most by decide)
    rintro m s h1 ⟨v, c, v0, vm, hm, ea, rfl, rfl⟩
    by_cases hv : v % b = 0
    · cases m with
      | zero => simp at vm; omega
      | succ m =>
        refine .inr ⟨m, h1, .nx [some (.int b), some (.int (v / b)), some (.int ((c + 1 : Nat) : Int))] h1, rfl, by simp [test, evalE, binop, cmpop, datOf, eqD_int, truthy, hv, show (0 : Int) < b by omega], by
          simp [b_power_of_0, exec, evalE, evalA, binop, div_ok (j := b) (by omega) (big64 (by omega))], v / b, c + 1, div_pos' hb v0 hv, half hb (by omega) vm, by omega, ?_, rfl, rfl⟩
        rw [← ea]
        simp [pw, hv]
        omega
    · have : pw b m v = 0 := by cases m <;> simp [pw, hv]
      rw [this] at ea
      exact .inl ⟨h1, by simp [test, evalE, binop, cmpop, datOf, eqD_int, truthy, hv, show (0 : Int) < b by omega], _, by rw [← ea]; rfl⟩
  obtain ⟨o, e, z, rfl⟩ := lp
  simp [R_12, runs, b_power_of, exec, starts, evalE, e, close_dat0 f]
theorem r_power_in (k : Nat) (b n : Int) (h : H) (f : Fine h) (hb : 2 ≤ b) (hb2 : b ≤ 5) (h0 : 1 ≤ n) (hn : n < 2 ^ 400) : R (k + 4) 13 [.int b, .int n] h = some (.int (pw b 400 n), h) := by
  simp [R_13, runs, b_power_in, exec, starts, evalE, evalA, r_check_base, r_check_from, r_power_of, f, hb, hb2, h0, hn, show (0 : Int) < n by omega, close_dat0 f]
theorem r_check_block (k : Nat) (b : Int) (l : List Int) (h : H) (f : Fine h) (hd : Dig b l) (hl : l.length ≤ 1000000) {z : Int} (hz : l.getLast? = some z) (hz2 : z ≠ 0) : R (k + 5) 14 [.int b, .tup (dints l)] h = some (.non, h) := by
  have ne : l ≠ [] := by rintro rfl; simp at hz
  have e1 : eqD (.tuple (dints l)) (.tuple []) = some false := by
    have := eqD_tup l []
    simpa [ne] using this
  have e2 : nthI (dints l) (-1) = some (.int z) := by
    rw [nthI_last, dints, List.getLast?_map, hz]; rfl
  simp [R_14, runs, b_check_block, exec, starts, test, evalE, evalA, dats, size_ok, r_check_digits, f, hd, hl, cmpop, datOf, e1, truthy, indexD, e2, eqD_int, hz2, close_dat0 f]
/-- how often a block stands, among the first places -/
def occ (own rows : List Int) (m : Nat) : Nat := ((List.range m).filter fun i => decide ((own.drop i).take rows.length = rows)).length
theorem cut_ints (l : List Int) (i n : Nat) : cut (dints l) (some (i : Int)) (some ((i : Int) + (n : Int))) = dints ((l.drop i).take n) := by
  rw [cut_nat]
  simp [dints]
theorem r_block_count (k : Nat) (b n : Int) (l : List Int) (h : H) (f : Fine h) (hb : 2 ≤ b) (hb2 : b ≤ 5) (hd : Dig b l) (hl : l.length ≤ 1000) {z : Int} (hz : l.getLast? = some z) (hz2 : z ≠ 0) (h0 : 0 ≤ n) (hn : n < 2 ^ 400) :
    R (k + 6) 15 [.int b, .tup (dints l), .int n] h = some (.int (occ (dg b 400 n) l ((dg b 400 n).length + 1 - l.length)), h) := by
  have hlen := dg_len (b := b) 400 n
  generalize hown : dg b 400 n = own at hlen ⊢
  have e : ∀ w, evalE (R (k + 5)) x_block_count_0 [some (.int b), some (.tup (dints l)), some (.int n), some (.tup (dints own)), w] h = some (.lst (((List.range (own.length + 1 - l.length)).filter fun i => decide ((own.drop i).take l.length = l)).map fun _ => .int 1), h) := fun w => by
    refine lc_eval (xs := rngD 0 (own.length + 1 - l.length)) (h1 := h) ?_ (size_ok (by rw [rng_len]; omega)) ?_
    · have : ((own.length : Int) - (l.length : Int) + 1).toNat = own.length + 1 - l.length := by omega
      simp [evalI, evalE, evalA, bltD, binop, dints, this, small_ok (i := (own.length : Int) - (l.length : Int) + 1) (by omega) (by omega)]
    · refine comp_rng _ _ fun i hi => ?_
      have hi2 : ((i : Nat) : Int) + ((dints l).length : Int) = (i : Int) + (l.length : Int) := by simp [dints]
      simp only [turnF, asgn, wipeS, evalC, evalE, evalA, evalP, List.map_cons, List.map_nil, Option.bind_some, bltD, binop, partD, sliceD, List.set_cons_succ, List.set_cons_zero, List.getElem?_cons_succ, List.getElem?_cons_zero, Option.map_some, hi2, cut_ints, cmpop, datOf, eqD_tup, truthy]
      cases decide ((own.drop i).take l.length = l) <;> simp
  simp [R_15, runs, b_block_count, exec, starts, evalE, evalA, r_check_base, r_check_block k b l h f hd (by omega) hz hz2, r_check_from, r_digits_of, hown, f, hb, hb2, h0, hn, e, bltD, occ, close_dat0 f]
end K00

namespace K00
open Z
/-- the pot a law draws from -/
def Pot (l : List Int) : Prop := ∃ a b c r, l = a :: b :: c :: r ∧ 0 ≤ a ∧ 0 ≤ b ∧ b < 2147483648 ∧ 0 ≤ c ∧ r.length ≤ 1000
theorem idx0 {a b c : Int} {r : List Int} : indexD [ol (a :: b :: c :: r)] (.ref 0) (.dat (.int 0)) = some (.int a) := rfl
theorem idx1 {a b c : Int} {r : List Int} : indexD [ol (a :: b :: c :: r)] (.ref 0) (.dat (.int 1)) = some (.int b) := rfl
theorem idx2 {a b c : Int} {r : List Int} : indexD [ol (a :: b :: c :: r)] (.ref 0) (.dat (.int 2)) = some (.int c) := rfl
theorem set0 {a b c z : Int} {r : List Int} : setO [ol (a :: b :: c :: r)] (.ref 0) (.dat (.int 0)) (.dat (.int z)) = some [ol (z :: b :: c :: r)] := by
  show (if 0 < ((dints (a :: b :: c :: r)).map D.dat).length then _ else none) = _
  rw [if_pos (by simp [dints])]
  rfl
theorem set1 {a b c z : Int} {r : List Int} : setO [ol (a :: b :: c :: r)] (.ref 0) (.dat (.int 1)) (.dat (.int z)) = some [ol (a :: z :: c :: r)] := by
  show (if 1 < ((dints (a :: b :: c :: r)).map D.dat).length then _ else none) = _
  rw [if_pos (by simp [dints])]
  rfl
theorem set2 {a b c z : Int} {r : List Int} : setO [ol (a :: b :: c :: r)] (.ref 0) (.dat (.int 2)) (.dat (.int z)) = some [ol (a :: b :: z :: r)] := by
  show (if 2 < ((dints (a :: b :: c :: r)).map D.dat).length then _ else none) = _
  rw [if_pos (by simp [dints])]
  rfl
theorem idxc {l : List Int} {c : Int} (h : 0 ≤ c) (h2 : c < l.length) : ∃ v, indexD [ol l] (.ref 0) (.dat (.int c)) = some (.int v) := by
  obtain ⟨n, rfl⟩ := Int.eq_ofNat_of_zero_le h
  have hn : n < l.length := by omega
  refine ⟨l[n], ?_⟩
  show nthI ((dints l).map D.dat) (n : Int) = _
  rw [nthI_nat]
  simp [dints, hn]
theorem len_ol {l : List Int} : bltD [ol l] .len [.ref 0] = some (.int l.length) := by
  simp [bltD, ol, dints]
theorem blt_int {h : H} {i : Int} : bltD h .int [.dat (.int i)] = some (.int i) := rfl
theorem fine_ol (l : List Int) : Fine [ol l] := by
  simp [Fine, ol, O.under, dints, D.under]
theorem p1018 : ∀ h : H, binop h .pow (.dat (.int 10)) (.dat (.int 18)) = some (.int 1000000000000000000) := fun h => rfl
/-- the second half of a draw -/
def tk2 : T := match b_law_take with
  | .seq _ t => t
  | t => t
theorem tk_split : ∃ a, b_law_take = .seq a tk2 := ⟨_, rfl⟩
theorem small31 {b : Int} (h : 0 ≤ b) (h2 : b < 2147483648) : b.natAbs < 2 ^ 64 := by omega
theorem tk2_ok (k : Nat) {a b c m : Int} {r : List Int} (ha : 0 ≤ a) (hb : 0 ≤ b) (hb2 : b < 2147483648) (hc : 0 ≤ c) (hr : r.length ≤ 1000) (hm : 0 < m) (hm2 : m < 2 ^ 64) (x y z : Option D) :
    ∃ v s1 l, exec (R k) tk2 [some (.ref 0), some (.int m), x, y, z] [ol (a :: b :: c :: r)] = some (.rt (.int v) [ol l]) ∧ 0 ≤ v ∧ v < m ∧ Pot l ∧ s1 = 0 := by
  by_cases h : 0 < a
  · refine ⟨a % m, 0, a / m :: b :: c :: r, ?_, mod_nonneg' hm, mod_lt' hm, ⟨_, _, _, _, rfl, Int.ediv_nonneg ha (by omega), hb, hb2, hc, hr⟩, rfl⟩
    simp [tk2, b_law_take, exec, test, evalE, evalA, idx0, cmpop, ordOp, truthy, h, bltD, binop, hm, set0, div_ok hm (big64 (show m.natAbs < 2 ^ 64 by omega))]
  · have e1 : ∀ u v : Int, 0 ≤ (u % 2147483647) ∧ (u % 2147483647) < 2147483648 := fun u v => ⟨mod_nonneg' (by decide), Int.lt_trans (mod_lt' (by decide)) (by decide)⟩
    have e2 : ∀ u : Int, 0 ≤ (u % 2147483629) ∧ (u % 2147483629) < 2147483648 := fun u => ⟨mod_nonneg' (by decide), Int.lt_trans (mod_lt' (by decide)) (by decide)⟩
    generalize hu : (b * 41358 + 31657 * c + 23) % 2147483647 = u
    have hu2 := e1 (b * 41358 + 31657 * c + 23) 0
    rw [hu] at hu2
    generalize hw : (u * u + 11) % 2147483629 = w
    have hw2 := e2 (u * u + 11)
    rw [hw] at hw2
    refine ⟨w / 8 % m, 0, a :: w :: c :: r, ?_, mod_nonneg' hm, mod_lt' hm, ⟨_, _, _, _, rfl, ha, hw2.1, hw2.2, hc, hr⟩, rfl⟩
    simp [tk2, b_law_take, exec, test, evalE, evalA, idx0, idx1, idx2, cmpop, ordOp, truthy, h, bltD, binop, hm, set1, mul_r (i := b) (show (41358 : Int).natAbs < 2 ^ 64 by decide), mul_l (j := c) (show (31657 : Int).natAbs < 2 ^ 64 by decide), hu, mul_l (j := u) (small31 hu2.1 hu2.2), hw, div_ok (j := 8) (by decide) (big64 (by decide))]
def tk1 : T := match b_law_take with
  | .seq t _ => t
  | t => t
theorem tk1_ok (k : Nat) {a b c m : Int} {r : List Int} (ha : 0 ≤ a) (hb : 0 ≤ b) (hb2 : b < 2147483648) (hc : 0 ≤ c) (hr : r.length ≤ 1000) :
    ∃ x z a1 b1 c1, exec (R k) tk1 [some (.ref 0), some (.int m), none, none, none] [ol (a :: b :: c :: r)] = some (.nx [some (.ref 0), some (.int m), x, none, z] [ol (a1 :: b1 :: c1 :: r)]) ∧ 0 ≤ a1 ∧ 0 ≤ b1 ∧ b1 < 2147483648 ∧ 0 ≤ c1 := by
  by_cases h : a = 0
  · subst h
    by_cases h2 : c < ((0 :: b :: c :: r : List Int).length : Int)
    · obtain ⟨v, hv⟩ := idxc (l := 0 :: b :: c :: r) hc h2
      have h2' : c < (r.length : Int) + 1 + 1 + 1 := by simpa using h2
      by_cases h3 : 1000000000000000000 ≤ v
      · refine ⟨some (.int v), none, v - 1000000000000000000, b, c + 1, ?_, by omega, hb, hb2, by omega⟩
        simp [tk1, b_law_take, exec, test, evalE, evalA, idx0, idx2, cmpop, datOf, eqD_int, ordOp, truthy, h2', len_ol, hv, augop, set2, p1018, h3, binop, set0]
      · have e1 : 0 ≤ v % 2147483647 ∧ v % 2147483647 < 2147483648 := ⟨mod_nonneg' (by decide), Int.lt_trans (mod_lt' (by decide)) (by decide)⟩
        generalize hu : v % 2147483647 = u at e1
        generalize hw : (u * u + 62089911 * u + 1301 * (c + 1)) % 2147483629 = w
        refine ⟨some (.int v), some (.int w), 0, (b + w) % 2147483629, c + 1, ?_, by omega, mod_nonneg' (by decide), Int.lt_trans (mod_lt' (by decide)) (by decide), by omega⟩
        simp [tk1, b_law_take, exec, test, evalE, evalA, idx0, idx1, idx2, cmpop, datOf, eqD_int, ordOp, truthy, h2', len_ol, hv, augop, set2, p1018, h3, binop, set1, blt_int, hu, mul_l (j := u) (small31 e1.1 e1.2), mul_l (j := u) (show (62089911 : Int).natAbs < 2 ^ 64 by decide), mul_l (j := c + 1) (show (1301 : Int).natAbs < 2 ^ 64 by decide), hw]
    · have h2' : ¬ c < (r.length : Int) + 1 + 1 + 1 := by simpa using h2
      refine ⟨none, none, 0, b, c, ?_, by omega, hb, hb2, hc⟩
      simp [tk1, b_law_take, exec, test, evalE, evalA, idx0, idx2, cmpop, datOf, eqD_int, ordOp, truthy, h2', len_ol]
  · refine ⟨none, none, a, b, c, ?_, ha, hb, hb2, hc⟩
    simp [tk1, b_law_take, exec, test, evalE, evalA, idx0, cmpop, datOf, eqD_int, truthy, h]
theorem r_take (k : Nat) {l : List Int} {m : Int} (hp : Pot l) (hm : 0 < m) (hm2 : m < 2 ^ 64) : ∃ v l1, R (k + 1) 16 [.ref 0, .int m] [ol l] = some (.int v, [ol l1]) ∧ 0 ≤ v ∧ v < m ∧ Pot l1 := by
  obtain ⟨a, b, c, r, rfl, ha, hb, hb2, hc, hr⟩ := hp
  obtain ⟨x, z, a1, b1, c1, e1, h1, h2, h3, h4⟩ := tk1_ok k (m := m) ha hb hb2 hc hr
  obtain ⟨v, _, l1, e2, h5, h6, h7, _⟩ := tk2_ok k h1 h2 h3 h4 hr hm hm2 x none z
  refine ⟨v, l1, ?_, h5, h6, h7⟩
  have e0 : b_law_take = .seq tk1 tk2 := rfl
  have e3 : exec (R k) b_law_take [some (.ref 0), some (.int m), none, none, none] [ol (a :: b :: c :: r)] = some (.rt (.int v) [ol l1]) := by
    rw [e0]
    simp only [exec, e1, Option.bind_some, e2]
  have cl := close_dat0 (fine_ol l1) (.int v)
  simp [R_16, runs, starts, e3]
  exact cl
end K00

namespace K00
open Z
open PySem (PyData)
/-- data that the law's own comparing comes through -/
def sm : Nat → PyData → Bool
  | _, .none => true
  | _, .bool _ => true
  | _, .int _ => true
  | _, .str _ => true
  | n + 1, .list l => decide (l.length ≤ 1000) && l.all (sm n)
  | n + 1, .tuple l => decide (l.length ≤ 1000) && l.all (sm n)
  | _, _ => false
theorem sm_ints (n : Nat) (l : List Int) : (dints l).all (sm n) = true := by
  simp only [dints, List.all_map, List.all_eq_true]
  intro x _
  cases n <;> rfl
theorem rng1_eval {Γ : G} {a : T} {s : S} {h h1 : H} {i : Int} (e : evalE Γ a s h = some (.int i, h1)) (hs : small62 i = true) : evalI Γ (.rng1 a) s h = some (rngD 0 i.toNat, h1) := by
  simp only [evalI, e, Option.bind_some]
  exact if_pos hs
theorem same_lc {k n : Nat} {l : List PyData} {dt : PyData} (hdt : dt = .list l ∨ dt = .tuple l) (hl : l.length ≤ 1000) (h : H) (e : ∀ d ∈ l, R k 17 [.dat d, .dat d] h = some (.bl true, h)) (z : Option D) :
    evalE (R k) x_law_same_0 [some (.dat dt), some (.dat dt), z] h = some (.lst (List.replicate l.length (.bool true)), h) := by
  refine lc_eval (xs := rngD 0 l.length) (h1 := h) ?_ (size_ok (by rw [rng_len]; omega)) ?_
  · have hs : small62 ((l.length : Nat) : Int) = true := small_ok (by omega) (by omega)
    have ht : ((l.length : Nat) : Int).toNat = l.length := Int.toNat_natCast _
    have e1 : evalE (R k) (.blt .len (.cons (.var 1) .nil)) [some (.dat dt), some (.dat dt), z] h = some (.int l.length, h) := by
      rcases hdt with rfl | rfl <;> simp [evalE, evalA, bltD]
    have e2 := rng1_eval e1 hs
    rw [ht] at e2
    exact e2
  · have := comp_true (f := turnF (R k) [("k", 2)] (.tv 2) .nil (.call 17 (.cons (.idx (.var 0) (.var 2)) (.cons (.idx (.var 1) (.var 2)) .nil))) [some (.dat dt), some (.dat dt), z]) (h := h) (xs := rngD 0 l.length) fun x hx => by
      obtain ⟨i, hi, rfl⟩ := rng_mem hx
      have e0 : (0 : Int) + (i : Nat) = (i : Nat) := by omega
      have e2 := e l[i] (List.getElem_mem hi)
      rcases hdt with rfl | rfl <;> simp [turnF, asgn, wipeS, evalC, evalE, evalA, indexD, nthI_nat, hi, e2]
    rw [rng_len] at this
    exact this
theorem len_l {h : H} {l : List PyData} : bltD h .len [.dat (.list l)] = some (.int l.length) := rfl
theorem len_t {h : H} {l : List PyData} : bltD h .len [.dat (.tuple l)] = some (.int l.length) := rfl
theorem all_l {h : H} (n : Nat) : bltD h .all [.dat (.list (List.replicate n (.bool true)))] = some (.bl true) := by
  simp only [bltD, datOf, bools_true, Option.map_some]
  simp
theorem is_l {h : H} {l : List PyData} : cmpop h .is (.dat (.list l)) (.dat .none) = some false := rfl
theorem is_t {h : H} {l : List PyData} : cmpop h .is (.dat (.tuple l)) (.dat .none) = some false := rfl
theorem ne_b {h : H} (b : Bool) : cmpop h .ne (.dat (.bool b)) (.dat (.bool b)) = some false := by cases b <;> rfl
theorem eq_i {h : H} (i : Int) : cmpop h .eq (.dat (.int i)) (.dat (.int i)) = some true := by simp [cmpop, datOf, eqD_int]
theorem and_t {Γ : G} {a b : T} {s : S} {h h1 : H} (e : evalE Γ a s h = some (.bl true, h1)) : evalE Γ (.and a b) s h = evalE Γ b s h1 := by
  simp [evalE, e, truthy]
theorem cmp_i {Γ : G} {a b : T} {s : S} {h h1 h2 : H} {n : Int} (ea : evalE Γ a s h = some (.int n, h1)) (eb : evalE Γ b s h1 = some (.int n, h2)) : evalE Γ (.cmp .eq a b) s h = some (.bl true, h2) := by
  simp only [evalE, ea, eb, Option.bind_some, eq_i, Option.map_some]
theorem blt1 {Γ : G} {f : Blt} {a : T} {s : S} {h h1 : H} {d r : D} (ea : evalE Γ a s h = some (d, h1)) (eb : bltD h1 f [d] = some r) : evalE Γ (.blt f (.cons a .nil)) s h = some (r, h1) := by
  simp only [evalE, evalA, ea, eb, Option.bind_some, Option.map_some]
theorem var_ {Γ : G} {i : Nat} {s : S} {h : H} {d : D} (e : s[i]? = some (some d)) : evalE Γ (.var i) s h = some (d, h) := by
  simp only [evalE, e]
theorem ret_ {Γ : G} {a : T} {s : S} {h h1 : H} {d : D} (e : evalE Γ a s h = some (d, h1)) : exec Γ (.ret a) s h = some (.rt d h1) := by
  simp only [exec, e, Option.map_some]
theorem same_end {k : Nat} {l : List PyData} {dt : PyData} (hdt : dt = .list l ∨ dt = .tuple l) {h : H} (e : evalE (R k) x_law_same_0 [some (.dat dt), some (.dat dt), none] h = some (.lst (List.replicate l.length (.bool true)), h)) :
    exec (R k) (.ret (.and (.cmp .eq (.blt .len (.cons (.var 0) .nil)) (.blt .len (.cons (.var 1) .nil))) (.blt .all (.cons x_law_same_0 .nil)))) [some (.dat dt), some (.dat dt), none] h = some (.rt (.bl true) h) := by
  have l1 : bltD h .len [.dat dt] = some (.int l.length) := by rcases hdt with rfl | rfl <;> rfl
  exact ret_ ((and_t (cmp_i (blt1 (var_ rfl) l1) (blt1 (var_ rfl) l1))).trans (blt1 e (all_l _)))
theorem r_same (n : Nat) : ∀ (d : PyData), sm n d = true → ∀ (k : Nat) (h : H), Fine h → R (k + n + 1) 17 [.dat d, .dat d] h = some (.bl true, h) := by
  have e1 : ∀ b, eqD (.bool b) (.bool b) = some true := fun b => by cases b <;> rfl
  induction n with
  | zero =>
    intro d hs k h f
    cases d with
    | none => simp [R_17, runs, b_law_same, exec, starts, test, evalE, evalA, cmpop, isOp, truthy, close_dat0 f]
    | bool b => simp [R_17, runs, b_law_same, exec, starts, test, evalE, evalA, cmpop, isOp, truthy, isTys, isTy, datOf, e1, close_dat0 f]
    | int i => simp [R_17, runs, b_law_same, exec, starts, test, evalE, evalA, cmpop, isOp, truthy, isTys, isTy, datOf, eqD_int, close_dat0 f]
    | str x =>
      have e2 : eqD (.str x) (.str x) = some true := by simp [eqD, PyData.depth, PyData.eqv]
      simp [R_17, runs, b_law_same, exec, starts, test, evalE, evalA, cmpop, isOp, truthy, isTys, isTy, datOf, e1, e2, close_dat0 f]
    | list l => simp [sm] at hs
    | tuple l => simp [sm] at hs
    | dict l => simp [sm] at hs
  | succ n ih =>
    intro d hs k h f
    cases d with
    | none => simp [R_17, runs, b_law_same, exec, starts, test, evalE, evalA, cmpop, isOp, truthy, close_dat0 f]
    | bool b => simp [R_17, runs, b_law_same, exec, starts, test, evalE, evalA, cmpop, isOp, truthy, isTys, isTy, datOf, e1, close_dat0 f]
    | int i => simp [R_17, runs, b_law_same, exec, starts, test, evalE, evalA, cmpop, isOp, truthy, isTys, isTy, datOf, eqD_int, close_dat0 f]
    | str x =>
      have e2 : eqD (.str x) (.str x) = some true := by simp [eqD, PyData.depth, PyData.eqv]
      simp [R_17, runs, b_law_same, exec, starts, test, evalE, evalA, cmpop, isOp, truthy, isTys, isTy, datOf, e1, e2, close_dat0 f]
    | dict l => simp [sm] at hs
    | list l =>
      simp only [sm, Bool.and_eq_true, decide_eq_true_eq] at hs
      have e := same_lc (k := k + n + 1) (n := n) (dt := .list l) (.inl rfl) hs.1 h (fun d hd => ih d (List.all_eq_true.mp hs.2 d hd) k h f) none
      rw [show k + (n + 1) + 1 = (k + n + 1) + 1 by omega]
      have e5 := same_end (k := k + n + 1) (.inl rfl) e
      generalize hret : T.ret (.and (.cmp .eq (.blt .len (.cons (.var 0) .nil)) (.blt .len (.cons (.var 1) .nil))) (.blt .all (.cons x_law_same_0 .nil))) = rt at e5
      simp [R_17, runs, b_law_same, hret, exec, starts, test, evalE, is_l, is_t, ne_b, truthy, isTys, isTy, e5, close_dat0 f]
    | tuple l =>
      simp only [sm, Bool.and_eq_true, decide_eq_true_eq] at hs
      have e := same_lc (k := k + n + 1) (n := n) (dt := .tuple l) (.inr rfl) hs.1 h (fun d hd => ih d (List.all_eq_true.mp hs.2 d hd) k h f) none
      rw [show k + (n + 1) + 1 = (k + n + 1) + 1 by omega]
      have e5 := same_end (k := k + n + 1) (.inr rfl) e
      generalize hret : T.ret (.and (.cmp .eq (.blt .len (.cons (.var 0) .nil)) (.blt .len (.cons (.var 1) .nil))) (.blt .all (.cons x_law_same_0 .nil))) = rt at e5
      simp [R_17, runs, b_law_same, hret, exec, starts, test, evalE, is_l, is_t, ne_b, truthy, isTys, isTy, e5, close_dat0 f]
end K00

namespace K00
open Z
theorem r_law_digits (k : Nat) (b n : Int) (h : H) (f : Fine h) (hb : 2 ≤ b) (hb2 : b ≤ 5) (h0 : 0 ≤ n) (hn : n < 2 ^ 400) : R (k + 1) 18 [.int b, .int n] h = some (.lst (dints (dg b 400 n)), h) := by
  have L : ∃ o, fors (fun d s h => (asgn (.tv 3) d s).bind fun s1 => exec (R k) b_law_digits_0 s1 h) (rngD 0 400) [some (.int b), some (.int n), some (.ref h.length), none] (h ++ [ol []]) = some o ∧ ∃ y z, o = .nx [some (.int b), y, some (.ref h.length), z] (h ++ [ol (dg b 400 n)]) := by
    refine fors_gen (fun i s h1 => ∃ v acc z, 0 ≤ v ∧ v < 2 ^ (400 - i) ∧ i ≤ 400 ∧ acc.length = i ∧ acc ++ dg b (400 - i) v = dg b 400 n ∧ s = [some (.int b), some (.int v), some (.ref h.length), z] ∧ h1 = h ++ [ol acc])
      (fun o => ∃ y z, o = .nx [some (.int b), y, some (.ref h.length), z] (h ++ [ol (dg b 400 n)])) (fun i x s h1 hx hi => ?_) (fun s h1 hi => ?_) ⟨n, [], none, h0, hn, Nat.zero_le _, rfl, rfl, rfl, rfl⟩
    · obtain ⟨v, acc, z, v0, vm, hm, hl, ea, rfl, rfl⟩ := hi
      obtain ⟨hi, rfl⟩ := rng_get hx
      by_cases hv : v = 0
      · subst hv
        rw [dg_zero, List.append_nil] at ea
        subst ea
        exact ⟨.bk _ _, by simp [asgn, b_law_digits_0, exec, test, evalE, cmpop, datOf, eqD_int, truthy]; exact ⟨rfl, rfl⟩, _, _, rfl⟩
      · obtain ⟨m, hm2⟩ : ∃ m, 400 - i = m + 1 := ⟨400 - i - 1, by omega⟩
        rw [hm2] at vm ea
        refine ⟨.nx [some (.int b), some (.int (v / b)), some (.ref h.length), some (.int (0 + i))] (h ++ [ol (acc ++ [v % b])]), ?_, v / b, acc ++ [v % b], _, Int.ediv_nonneg v0 (by omega), ?_, hi, by simp [hl], ?_, rfl, rfl⟩
        · simp [asgn, b_law_digits_0, exec, test, evalE, evalA, cmpop, datOf, eqD_int, truthy, hv, isL_ol, appD_ol (l := acc) (h := h) (show acc.length < 1000000 by omega), binop, blt_int, show (0 : Int) < b by omega, div_ok (j := b) (by omega) (big64 (by omega))]
        · rw [show 400 - (i + 1) = m by omega]
          exact half hb v0 vm
        · rw [← ea, List.append_assoc, show 400 - (i + 1) = m by omega]
          simp [dg, hv]
    · obtain ⟨v, acc, z, v0, vm, hm, hl, ea, rfl, rfl⟩ := hi
      rw [rng_len] at ea
      have : acc = dg b 400 n := by
        rw [← ea]
        simp [dg]
      subst this
      exact ⟨_, _, rfl⟩
  obtain ⟨o, e1, y, z, rfl⟩ := L
  have e : exec (R k) x_law_digits_1 [some (.int b), some (.int n), some (.ref h.length), none] (h ++ [ol []]) = some (.nx [some (.int b), y, some (.ref h.length), z] (h ++ [ol (dg b 400 n)])) :=
    for_eval (rng1_eval (i := 400) (by simp [evalE]) (by decide)) e1
  rw [← ol_nil] at e
  have e3 : (h ++ [ol (dg b 400 n)]).set h.length .dead = h ++ [.dead] := setl _ _ _
  simp [R_18, runs, b_law_digits, exec, starts, evalE, evalA, dats, size_ok, e, datOf_ol, e3, close_dat f]
theorem r_law_number (k : Nat) (b : Int) (l : List Int) (h : H) (f : Fine h) (hb : 2 ≤ b) (hb2 : b ≤ 5) : R (k + 1) 19 [.int b, .lst (dints l)] h = some (.int (num b l), h) := by
  have L : ∃ o, fors (fun d s h => (asgn (.tv 3) d s).bind fun s1 => exec (R k) b_law_number_0 s1 h) ((dints l.reverse).map .dat) [some (.int b), some (.lst (dints l)), some (.int 0), none] h = some o ∧ ∃ z, o = .nx [some (.int b), some (.lst (dints l)), some (.int (num b l)), z] h := by
    refine fors_gen (fun i s h1 => h1 = h ∧ ∃ z, s = [some (.int b), some (.lst (dints l)), some (.int ((l.reverse.take i).foldl (fun a d => a * b + d) 0)), z]) (fun o => ∃ z, o = .nx [some (.int b), some (.lst (dints l)), some (.int (num b l)), z] h) (fun i x s h1 hx hi => ?_) (fun s h1 hi => ?_) ⟨rfl, none, rfl⟩
    · obtain ⟨rfl, z, rfl⟩ := hi
      obtain ⟨v, hv, rfl⟩ := ints_get hx
      refine ⟨.nx [some (.int b), some (.lst (dints l)), some (.int ((l.reverse.take (i + 1)).foldl (fun a d => a * b + d) 0)), some (.int v)] h1, ?_, rfl, _, rfl⟩
      rw [fold_take b hv]
      simp [asgn, b_law_number_0, exec, evalE, binop, mul_r (small5 hb hb2)]
    · obtain ⟨rfl, z, rfl⟩ := hi
      refine ⟨z, ?_⟩
      rw [List.take_of_length_le (by simp [dints]), num_fold]
  obtain ⟨o, e1, z, rfl⟩ := L
  have e : exec (R k) x_law_number_1 [some (.int b), some (.lst (dints l)), some (.int 0), none] h = some (.nx [some (.int b), some (.lst (dints l)), some (.int (num b l)), z] h) := for_eval (by simp [evalI, evalE, revD, datOf, dints]) e1
  simp [R_19, runs, b_law_number, exec, starts, evalE, e, close_dat0 f]
theorem r_law_far (k : Nat) {l : List Int} {m : Int} (hp : Pot l) (hm : 0 < m) (hm2 : m ≤ 30) : ∃ v l1, R (k + 2) 20 [.ref 0, .int m] [ol l] = some (.int v, [ol l1]) ∧ 0 ≤ v ∧ v < 10 ^ 30 ∧ Pot l1 := by
  obtain ⟨t, l0, e0, t0, t1, hp0⟩ := r_take k hp hm (by omega)
  have L : ∃ o, fors (fun d s h => (asgn (.tv 3) d s).bind fun s1 => exec (R (k + 1)) b_law_far_0 s1 h) (rngD 0 (1 + t).toNat) [some (.ref 0), some (.int m), some (.int 0), none] [ol l0] = some o ∧ ∃ v z l1, o = .nx [some (.ref 0), some (.int m), some (.int v), z] [ol l1] ∧ 0 ≤ v ∧ v < 10 ^ 30 ∧ Pot l1 := by
    refine fors_gen (fun i s h1 => ∃ v z l1, s = [some (.ref 0), some (.int m), some (.int v), z] ∧ h1 = [ol l1] ∧ 0 ≤ v ∧ v < 10 ^ i ∧ Pot l1 ∧ i ≤ 30) (fun o => ∃ v z l1, o = .nx [some (.ref 0), some (.int m), some (.int v), z] [ol l1] ∧ 0 ≤ v ∧ v < 10 ^ 30 ∧ Pot l1) (fun i x s h1 hx hi => ?_) (fun s h1 hi => ?_) ⟨0, none, l0, rfl, rfl, by omega, by simp, hp0, by omega⟩
    · obtain ⟨v, z, l1, rfl, rfl, v0, v1, hp1, hi30⟩ := hi
      obtain ⟨hi, rfl⟩ := rng_get hx
      obtain ⟨u, l2, e2, u0, u1, hp2⟩ := r_take k hp1 (m := 10) (by omega) (by omega)
      refine ⟨.nx [some (.ref 0), some (.int m), some (.int (v * 10 + u)), some (.int (0 + i))] [ol l2], ?_, _, _, l2, rfl, rfl, by omega, ?_, hp2, by omega⟩
      · simp [asgn, b_law_far_0, exec, evalE, evalA, binop, mul_r (show (10 : Int).natAbs < 2 ^ 64 by decide), e2]
      · have : (10 : Int) ^ (i + 1) = 10 ^ i * 10 := Int.pow_succ ..
        omega
    · obtain ⟨v, z, l1, rfl, rfl, v0, v1, hp1, hi30⟩ := hi
      rw [rng_len] at v1 hi30
      refine ⟨v, z, l1, rfl, v0, ?_, hp1⟩
      have : (10 : Int) ^ (1 + t).toNat ≤ 10 ^ 30 := by
        have := Nat.pow_le_pow_right (n := 10) (by decide) hi30
        exact_mod_cast this
      omega
  obtain ⟨o, e1, v, z, l1, rfl, v0, v1, hp1⟩ := L
  refine ⟨v, l1, ?_, v0, v1, hp1⟩
  have e : exec (R (k + 1)) x_law_far_1 [some (.ref 0), some (.int m), some (.int 0), none] [ol l] = some (.nx [some (.ref 0), some (.int m), some (.int v), z] [ol l1]) :=
    for_eval (rng1_eval (i := 1 + t) (by simp [evalE, evalA, binop, e0]) (small_ok (by omega) (by omega))) e1
  have cl := close_dat0 (fine_ol l1) (.int v)
  simp [R_20, runs, b_law_far, exec, starts, evalE, e]
  exact cl
theorem seq_rt {Γ : G} {a b : T} {s : S} {h h1 : H} {d : D} (e : exec Γ a s h = some (.rt d h1)) : exec Γ (.seq a b) s h = some (.rt d h1) := by
  simp only [exec, e, Option.bind_some]
theorem seq_nx {Γ : G} {a b : T} {s s1 : S} {h h1 : H} (e : exec Γ a s h = some (.nx s1 h1)) : exec Γ (.seq a b) s h = exec Γ b s1 h1 := by
  simp only [exec, e, Option.bind_some]
theorem runs_rt {f : Fn} {Γ : G} {l : List D} {h h1 : H} {d : D} {r : D × H} (hl : l.length = f.ps) (e : exec Γ f.body (starts f l) h = some (.rt d h1)) (c : close h.length d h1 = some r) : runs f Γ l h = some r := by
  simp only [runs, if_pos hl, e, c]
theorem r_law_blocks (k : Nat) (own l : List Int) (h : H) (f : Fine h) (ho : own.length ≤ 1000) : R (k + 1) 21 [.lst (dints own), .tup (dints l)] h = some (.int (occ own l own.length), h) := by
  have e : evalE (R k) x_law_blocks_0 [some (.lst (dints own)), some (.tup (dints l)), none] h = some (.lst (((List.range own.length).filter fun i => decide ((own.drop i).take l.length = l)).map fun (i : Nat) => .int i), h) := by
    refine lc_eval (xs := rngD 0 own.length) (h1 := h) ?_ (size_ok (by rw [rng_len]; omega)) ?_
    · have l1 : bltD h .len [.lst (dints own)] = some (.int own.length) := by
        rw [show own.length = (dints own).length by simp [dints]]
        rfl
      have hs : small62 ((own.length : Nat) : Int) = true := small_ok (by omega) (by omega)
      have ht : ((own.length : Nat) : Int).toNat = own.length := Int.toNat_natCast _
      have e2 := rng1_eval (Γ := R k) (s := [some (.lst (dints own)), some (.tup (dints l)), none]) (h := h) (blt1 (var_ (i := 0) rfl) l1) hs
      rw [ht] at e2
      exact e2
    · refine comp_rng _ _ fun i hi => ?_
      have hi2 : ((i : Nat) : Int) + ((dints l).length : Int) = (i : Int) + (l.length : Int) := by simp [dints]
      simp only [turnF, asgn, wipeS, evalC, evalE, evalA, evalP, List.map_cons, List.map_nil, Option.bind_some, bltD, binop, partD, sliceD, List.set_cons_succ, List.set_cons_zero, List.getElem?_cons_succ, List.getElem?_cons_zero, Option.map_some, hi2, cut_ints, cmpop, datOf, eqD_tup, truthy]
      cases decide ((own.drop i).take l.length = l) <;> simp
  have hl : bltD h .len [.dat (.list (((List.range own.length).filter fun i => decide ((own.drop i).take l.length = l)).map fun (i : Nat) => .int i))] = some (.int (occ own l own.length)) := by
    rw [len_l, List.length_map]
    rfl
  rw [R_21]
  exact runs_rt (f := ⟨2, 3, b_law_blocks⟩) rfl (seq_rt (ret_ (blt1 e hl))) (close_dat0 f _)
end K00

namespace K00
open Z
theorem num_bound {b : Int} (hb : 2 ≤ b) (hb2 : b ≤ 5) : ∀ {l : List Int}, Dig b l → 0 ≤ num b l ∧ num b l < 5 ^ l.length
  | [], _ => by simp [num]
  | d :: l, h => by
    obtain ⟨h1, h2⟩ := num_bound hb hb2 (l := l) fun x hx => h x (List.mem_cons_of_mem _ hx)
    obtain ⟨h3, h4⟩ := h d (List.mem_cons_self ..)
    have e : num b (d :: l) = num b l * b + d := rfl
    have e2 : (5 : Int) ^ (d :: l).length = 5 ^ l.length * 5 := by rw [List.length_cons, Int.pow_succ]
    rw [e, e2]
    have h5 : num b l * b ≤ num b l * 5 := Int.mul_le_mul_of_nonneg_left hb2 h1
    have h6 : 0 ≤ num b l * b := Int.mul_nonneg h1 (by omega)
    constructor
    · omega
    · have h7 : (num b l + 1) * b ≤ 5 ^ l.length * b := Int.mul_le_mul_of_nonneg_right (by omega) (by omega)
      have h8 : (5 : Int) ^ l.length * b ≤ 5 ^ l.length * 5 := Int.mul_le_mul_of_nonneg_left hb2 (by omega)
      have h9 : (num b l + 1) * b = num b l * b + b := by rw [Int.add_mul, Int.one_mul]
      omega
theorem cut_take {α : Type} (l : List α) (n : Nat) : cut l none (some (n : Int)) = l.take n := by
  unfold cut
  rw [HT.sIx_nat, HT.sIx_none]
  simp only [List.drop_zero, Nat.sub_zero]
  by_cases h : n ≤ l.length
  · rw [Nat.min_eq_left h]
  · rw [Nat.min_eq_right (by omega), List.take_of_length_le (Nat.le_refl _), List.take_of_length_le (by omega)]
theorem some_way1 (k : Nat) {l : List Int} {b w : Int} (hb : 2 ≤ b) (hb2 : b ≤ 5) (hp : Pot l) : ∃ v z l1, exec (R (k + 1)) x_law_some_4 [some (.ref 0), some (.int b), some (.int w), none, some (.int 1), none, none] [ol l] = some (.nx [some (.ref 0), some (.int b), some (.int w), z, some (.int v), none, none] [ol l1]) ∧ 1 ≤ v ∧ v ≤ 5 ^ 40 ∧ Pot l1 := by
  obtain ⟨t, l0, e0, t0, t1, hp0⟩ := r_take k hp (m := 40) (by omega) (by omega)
  have L : ∃ o, fors (fun d s h => (asgn (.tv 3) d s).bind fun s1 => exec (R (k + 1)) b_law_some_3 s1 h) (rngD 0 t.toNat) [some (.ref 0), some (.int b), some (.int w), none, some (.int 1), none, none] [ol l0] = some o ∧ ∃ v z, o = .nx [some (.ref 0), some (.int b), some (.int w), z, some (.int v), none, none] [ol l0] ∧ 1 ≤ v ∧ v ≤ 5 ^ 40 := by
    refine fors_gen (fun i s h1 => ∃ v z, s = [some (.ref 0), some (.int b), some (.int w), z, some (.int v), none, none] ∧ h1 = [ol l0] ∧ 1 ≤ v ∧ v ≤ 5 ^ i ∧ i ≤ 40) (fun o => ∃ v z, o = .nx [some (.ref 0), some (.int b), some (.int w), z, some (.int v), none, none] [ol l0] ∧ 1 ≤ v ∧ v ≤ 5 ^ 40) (fun i x s h1 hx hi => ?_) (fun s h1 hi => ?_) ⟨1, none, rfl, rfl, by omega, by simp, by omega⟩
    · obtain ⟨v, z, rfl, rfl, v0, v1, hi40⟩ := hi
      obtain ⟨hi, rfl⟩ := rng_get hx
      refine ⟨.nx [some (.ref 0), some (.int b), some (.int w), some (.int (0 + i)), some (.int (v * b)), none, none] [ol l0], ?_, _, _, rfl, rfl, ?_, ?_, by omega⟩
      · simp [asgn, b_law_some_3, exec, evalE, binop, mul_r (small5 hb hb2)]
      · have := Int.mul_le_mul_of_nonneg_left (show (1 : Int) ≤ b by omega) (show 0 ≤ v by omega)
        omega
      · have e : (5 : Int) ^ (i + 1) = 5 ^ i * 5 := Int.pow_succ ..
        have h1 : v * b ≤ v * 5 := Int.mul_le_mul_of_nonneg_left hb2 (by omega)
        omega
    · obtain ⟨v, z, rfl, rfl, v0, v1, hi40⟩ := hi
      rw [rng_len] at v1 hi40
      refine ⟨v, z, rfl, v0, ?_⟩
      have : (5 : Int) ^ t.toNat ≤ 5 ^ 40 := by
        have := Nat.pow_le_pow_right (n := 5) (by decide) hi40
        exact_mod_cast this
      omega
  obtain ⟨o, e1, v, z, rfl, v0, v1⟩ := L
  exact ⟨v, z, l0, for_eval (rng1_eval (i := t) (by simp [evalE, evalA, e0]) (small_ok (by omega) (by omega))) e1, v0, v1, hp0⟩
theorem some_lc (k : Nat) {l : List Int} {b : Int} {w z3 z4 z5 z6 : Option D} (hb : 2 ≤ b) (hb2 : b ≤ 5) (hp : Pot l) : ∃ ns l1, evalE (R (k + 1)) x_law_some_2 [some (.ref 0), some (.int b), w, z3, z4, z5, z6] [ol l] = some (.lst (dints ns), [ol l1]) ∧ Dig b ns ∧ ns.length ≤ 4 ∧ Pot l1 := by
  obtain ⟨t, l0, e0, t0, t1, hp0⟩ := r_take k hp (m := 4) (by omega) (by omega)
  have L := comp_gen (f := turnF (R (k + 1)) [("at", 6)] (.tv 6) .nil (.call 16 (.cons (.var 0) (.cons (.var 1) .nil))) [some (.ref 0), some (.int b), w, z3, z4, z5, z6]) (xs := rngD 0 (1 + t).toNat)
    (fun i l h => ∃ ns l1, l = dints ns ∧ Dig b ns ∧ ns.length = i ∧ h = [ol l1] ∧ Pot l1) (fun i x l h hx hi => by
      obtain ⟨ns, l1, rfl, hd, hl, rfl, hp1⟩ := hi
      obtain ⟨u, l2, e2, u0, u1, hp2⟩ := r_take k hp1 (m := b) (by omega) (by omega)
      obtain ⟨hi, rfl⟩ := rng_get hx
      refine ⟨some (.int u), [ol l2], by simp [turnF, asgn, wipeS, evalC, evalE, evalA, e2], ns ++ [u], l2, by simp [dints], fun d hd2 => ?_, by simp [hl], rfl, hp2⟩
      rcases List.mem_append.mp hd2 with h3 | h3
      · exact hd d h3
      · simp at h3
        subst h3
        exact ⟨u0, u1⟩) (h := [ol l0]) ⟨[], l0, rfl, fun d h => by simp at h, rfl, rfl, hp0⟩
  obtain ⟨r, h1, e1, ns, l1, rfl, hd, hl, rfl, hp1⟩ := L
  rw [rng_len] at hl
  exact ⟨ns, l1, lc_eval (rng1_eval (i := 1 + t) (by simp [evalE, evalA, binop, e0]) (small_ok (by omega) (by omega))) (size_ok (by rw [rng_len]; omega)) e1, hd, by omega, hp1⟩
theorem some_for (k : Nat) {l ns : List Int} {b : Int} {w z3 z6 : Option D} (hd : Dig b ns) (hn : ns.length ≤ 4) (hp : Pot l) : ∃ ms z l1, exec (R (k + 1)) x_law_some_1 [some (.ref 0), some (.int b), w, z3, some (.lst (dints [])), some (.lst (dints ns)), z6] [ol l] = some (.nx [some (.ref 0), some (.int b), w, z, some (.lst (dints ms)), some (.lst (dints ns)), z6] [ol l1]) ∧ Dig b ms ∧ Pot l1 := by
  obtain ⟨t, l0, e0, t0, t1, hp0⟩ := r_take k hp (m := 9) (by omega) (by omega)
  have L : ∃ o, fors (fun d s h => (asgn (.tv 3) d s).bind fun s1 => exec (R (k + 1)) b_law_some_0 s1 h) (rngD 0 (1 + t).toNat) [some (.ref 0), some (.int b), w, z3, some (.lst (dints [])), some (.lst (dints ns)), z6] [ol l0] = some o ∧ ∃ ms z, o = .nx [some (.ref 0), some (.int b), w, z, some (.lst (dints ms)), some (.lst (dints ns)), z6] [ol l0] ∧ Dig b ms := by
    refine fors_gen (fun i s h1 => ∃ ms z, s = [some (.ref 0), some (.int b), w, z, some (.lst (dints ms)), some (.lst (dints ns)), z6] ∧ h1 = [ol l0] ∧ Dig b ms ∧ ms.length ≤ 4 * i ∧ i ≤ 9) (fun o => ∃ ms z, o = .nx [some (.ref 0), some (.int b), w, z, some (.lst (dints ms)), some (.lst (dints ns)), z6] [ol l0] ∧ Dig b ms) (fun i x s h1 hx hi => ?_) (fun s h1 hi => ?_) ⟨[], z3, rfl, rfl, fun d h => by simp at h, by simp, by omega⟩
    · obtain ⟨ms, z, rfl, rfl, hm, hl, hi9⟩ := hi
      obtain ⟨hi, rfl⟩ := rng_get hx
      refine ⟨.nx [some (.ref 0), some (.int b), w, some (.int (0 + i)), some (.lst (dints (ms ++ ns))), some (.lst (dints ns)), z6] [ol l0], ?_, _, _, rfl, rfl, fun d h => ?_, by rw [List.length_append]; omega, by omega⟩
      · have hz : (dints ms).length + (dints ns).length ≤ PySem.sizeLine := size_ok (by simp [dints]; omega)
        have he : dints (ms ++ ns) = dints ms ++ dints ns := by simp [dints]
        rw [he]
        simp only [asgn, b_law_some_0, exec, evalE, binop, datOf, Option.bind_some, Option.map_some, List.set_cons_succ, List.set_cons_zero, List.getElem?_cons_succ, List.getElem?_cons_zero, if_pos hz]
      · rcases List.mem_append.mp h with h | h
        · exact hm d h
        · exact hd d h
    · obtain ⟨ms, z, rfl, rfl, hm, hl, hi9⟩ := hi
      exact ⟨ms, z, rfl, hm⟩
  obtain ⟨o, e1, ms, z, rfl, hm⟩ := L
  exact ⟨ms, z, l0, for_eval (rng1_eval (i := 1 + t) (by simp [evalE, evalA, binop, e0]) (small_ok (by omega) (by omega))) e1, hm, hp0⟩
end K00

namespace K00
open Z
theorem pow_lt : (5 : Int) ^ 42 < 2 ^ 200 := by decide
theorem r_law_some (k : Nat) {l : List Int} {b : Int} (hb : 2 ≤ b) (hb2 : b ≤ 5) (hp : Pot l) : ∃ v l1, R (k + 3) 22 [.ref 0, .int b] [ol l] = some (.int v, [ol l1]) ∧ 0 ≤ v ∧ v < 2 ^ 200 ∧ Pot l1 := by
  obtain ⟨w, l0, e0, w0, w1, hp0⟩ := r_take (k + 1) hp (m := 4) (by omega) (by omega)
  have p1 : (10 : Int) ^ 30 < 2 ^ 200 := by decide
  have p2 : (5 : Int) ^ 40 + 10 < 2 ^ 200 := by decide
  have p3 : (200 : Int) < 2 ^ 200 := by decide
  have run : ∀ v l1, exec (R (k + 2)) b_law_some [some (.ref 0), some (.int b), none, none, none, none, none] [ol l] = some (.rt (.int v) [ol l1]) → R (k + 3) 22 [.ref 0, .int b] [ol l] = some (.int v, [ol l1]) := fun v l1 e => by
    rw [R_22]
    exact runs_rt (f := ⟨2, 7, b_law_some⟩) rfl e (close_dat0 (fine_ol l1) _)
  by_cases h0 : w = 0
  · subst h0
    obtain ⟨v, l1, e1, v0, v1, hp1⟩ := r_law_far k hp0 (m := 30) (by omega) (by omega)
    refine ⟨v, l1, run v l1 ?_, v0, by omega, hp1⟩
    simp [b_law_some, exec, test, evalE, evalA, e0, cmpop, datOf, eqD_int, truthy, e1]
  · by_cases h1 : w = 1
    · subst h1
      obtain ⟨v, z, l1, e1, v0, v1, hp1⟩ := some_way1 (k + 1) (w := 1) hb hb2 hp0
      obtain ⟨u, l2, e2, u0, u1, hp2⟩ := r_take (k + 1) hp1 (m := 3) (by omega) (by omega)
      refine ⟨if v + u - 1 > 0 then v + u - 1 else 0, l2, run _ l2 ?_, by split <;> omega, by split <;> omega, hp2⟩
      have mx : ∀ h : H, bltD h .max2 [.dat (.int 0), .dat (.int (v + u - 1))] = some (.int (if v + u - 1 > 0 then v + u - 1 else 0)) := fun h => rfl
      simp [b_law_some, exec, test, evalE, evalA, e0, cmpop, datOf, eqD_int, truthy, e1, e2, binop, mx]
    · by_cases h2 : w = 2
      · subst h2
        obtain ⟨v, l1, e1, v0, v1, hp1⟩ := r_take (k + 1) hp0 (m := 200) (by omega) (by omega)
        refine ⟨v, l1, run v l1 ?_, v0, by omega, hp1⟩
        simp [b_law_some, exec, test, evalE, evalA, e0, cmpop, datOf, eqD_int, truthy, e1]
      · have h3 : w = 3 := by omega
        subst h3
        obtain ⟨ns, l1, e1, hd, hn, hp1⟩ := some_lc (k + 1) (w := some (.int 3)) (z3 := none) (z4 := none) (z5 := none) (z6 := none) hb hb2 hp0
        obtain ⟨ms, z, l2, e2, hm, hp2⟩ := some_for (k + 1) (w := some (.int 3)) (z3 := none) (z6 := none) hd hn hp1
        have hm2 : Dig b (ms.take 42) := fun d hd => hm d (List.mem_of_mem_take hd)
        have e3 := r_law_number (k + 1) b (ms.take 42) [ol l2] (fine_ol l2) hb hb2
        obtain ⟨n0, n1⟩ := num_bound hb hb2 hm2
        have p4 : (5 : Int) ^ (ms.take 42).length ≤ 5 ^ 42 := by
          have := Nat.pow_le_pow_right (n := 5) (by decide) (show (ms.take 42).length ≤ 42 by rw [List.length_take]; omega)
          exact_mod_cast this
        have p5 := pow_lt
        refine ⟨num b (ms.take 42), l2, run _ l2 ?_, n0, by omega, hp2⟩
        have e4 : sliceD [ol l2] (.lst (dints ms)) none (some 42) = some (.lst (dints (ms.take 42))) := by
          have c := cut_take (dints ms) 42
          have c2 : dints (ms.take 42) = (dints ms).take 42 := by simp [dints]
          rw [c2, ← c]
          rfl
        have hz : (0 : Nat) ≤ PySem.sizeLine := Nat.zero_le _
        have e2' := e2
        simp only [dints, List.map_nil] at e2'
        simp [b_law_some, exec, test, evalE, evalA, evalP, e0, cmpop, datOf, eqD_int, truthy, e1, dats, hz]
        simp [dints] at e1 e2 e3 e4 ⊢
        simp [e2, partD, e4, e3]
end K00

namespace K00
open Z
/-! the plain laws -/
theorem occ_more (own l : List Int) (hl : l ≠ []) : ∀ m, own.length + 1 - l.length ≤ m → occ own l m = occ own l (own.length + 1 - l.length) := by
  intro m hm
  obtain ⟨j, rfl⟩ : ∃ j, m = (own.length + 1 - l.length) + j := ⟨m - (own.length + 1 - l.length), by omega⟩
  unfold occ
  rw [List.range_add, List.filter_append, List.length_append]
  have : (List.map (own.length + 1 - l.length + ·) (List.range j)).filter (fun i => decide ((own.drop i).take l.length = l)) = [] := by
    rw [List.filter_eq_nil_iff]
    intro a ha
    obtain ⟨i, _, rfl⟩ := List.mem_map.mp ha
    simp only [decide_eq_true_eq]
    intro e
    have h1 := congrArg List.length e
    rw [List.length_take, List.length_drop] at h1
    have h2 : 0 < l.length := List.length_pos_iff.mpr hl
    omega
  rw [this]
  simp
theorem occ_eq (own l : List Int) (hl : l ≠ []) : occ own l own.length = occ own l (own.length + 1 - l.length) :=
  occ_more own l hl _ (by have := List.length_pos_iff.mpr hl; omega)
theorem occ_cons (x : Int) (own : List Int) (d : Int) : occ (x :: own) [d] (own.length + 1) = (if x = d then 1 else 0) + occ own [d] own.length := by
  unfold occ
  rw [Nat.add_comm own.length 1, List.range_add, List.filter_append, List.length_append]
  congr 1
  · by_cases h : x = d <;> simp [List.range_succ, h]
  · rw [List.filter_map, List.length_map]
    congr 1
    refine List.filter_congr fun i _ => ?_
    simp only [Function.comp, Nat.add_comm 1 i, List.drop_succ_cons]
theorem occ_nil (d : Int) : occ [] [d] 0 = 0 := rfl
/-- the digits' sum by how often each stands -/
def bySum (b : Int) (own : List Int) : Int := (((List.range (b - 1).toNat).map fun i => (1 + (i : Nat) : Int) * (occ own [(1 + (i : Nat) : Int)] own.length : Int))).sum
theorem by_sum {b : Int} (hb : 2 ≤ b) (hb2 : b ≤ 5) : ∀ {own : List Int}, Dig b own → bySum b own = own.sum
  | [], _ => by
    unfold bySum
    have : ∀ d : Int, occ [] [d] ([] : List Int).length = 0 := fun d => occ_nil d
    simp only [this]
    induction (b - 1).toNat with
    | zero => rfl
    | succ n ih =>
      rw [List.range_succ, List.map_append, List.sum_append, ih]
      simp
  | x :: own, h => by
    have ih := by_sum hb hb2 (own := own) fun d hd => h d (List.mem_cons_of_mem _ hd)
    obtain ⟨h1, h2⟩ := h x (List.mem_cons_self ..)
    rw [List.sum_cons, ← ih]
    unfold bySum
    simp only [List.length_cons, occ_cons]
    have hb3 : b = 2 ∨ b = 3 ∨ b = 4 ∨ b = 5 := by omega
    have hx : x = 0 ∨ x = 1 ∨ x = 2 ∨ x = 3 ∨ x = 4 := by omega
    rcases hb3 with rfl | rfl | rfl | rfl <;> rcases hx with rfl | rfl | rfl | rfl | rfl <;> first | (exfalso; omega) | (simp [List.range_succ]; try omega)
theorem sum_mod {b : Int} (hb : 2 ≤ b) : ∀ (f : Nat) (n : Int), 0 ≤ n → n < 2 ^ f → (b - 1) ∣ (n - (dg b f n).sum)
  | 0, n, h0, h1 => by
    have : n = 0 := by simp at h1; omega
    subst this
    exact ⟨0, by simp [dg]⟩
  | f + 1, n, h0, h1 => by
    unfold dg
    split
    · rename_i h
      subst h
      exact ⟨0, by simp⟩
    · obtain ⟨q, hq⟩ := sum_mod hb f (n / b) (Int.ediv_nonneg h0 (by omega)) (half hb h0 h1)
      rw [List.sum_cons]
      have e := Int.emod_add_mul_ediv n b
      refine ⟨n / b + q, ?_⟩
      rw [Int.mul_add, ← hq, Int.sub_mul, Int.one_mul]
      omega
theorem pw_fuel {b : Int} (hb : 2 ≤ b) : ∀ (f : Nat) (n : Int), 0 < n → n < 2 ^ f → pw b (f + 1) n = pw b f n
  | 0, n, h0, h1 => by simp at h1; omega
  | f + 1, n, h0, h1 => by
    show (if n % b = 0 then pw b (f + 1) (n / b) + 1 else 0) = (if n % b = 0 then pw b f (n / b) + 1 else 0)
    split
    · rename_i h
      rw [pw_fuel hb f (n / b) (div_pos' hb h0 h) (half hb (by omega) h1)]
    · rfl
theorem pw_mul {b n : Int} (hb : 2 ≤ b) (h0 : 0 < n) (h1 : n < 2 ^ 399) : pw b 400 (n * b) = pw b 400 n + 1 := by
  rw [pw_fuel hb 399 n h0 h1]
  rw [pw]
  rw [if_pos (Int.mul_emod_left n b), Int.mul_ediv_cancel n (by omega)]
theorem pw_first {b : Int} (hb : 2 ≤ b) : ∀ (f : Nat) (n : Int), 0 < n → n < 2 ^ f → pw b f n < (dg b f n).length ∧ (dg b f n)[pw b f n]? ≠ some 0 ∧ ∀ i, i < pw b f n → (dg b f n)[i]? = some 0
  | 0, n, h0, h1 => by simp at h1; omega
  | f + 1, n, h0, h1 => by
    rw [dg, if_neg (by omega), pw]
    by_cases h : n % b = 0
    · rw [if_pos h]
      obtain ⟨i1, i2, i3⟩ := pw_first hb f (n / b) (div_pos' hb h0 h) (half hb (by omega) h1)
      refine ⟨by simpa using i1, by simpa using i2, fun i hi => ?_⟩
      cases i with
      | zero => simp [h]
      | succ i => simpa using i3 i (by omega)
    · rw [if_neg h]
      exact ⟨by simp, by simpa using h, fun i hi => by omega⟩
theorem filter_first {p : Nat → Bool} {n j : Nat} (hj : j < n) (h1 : p j = true) (h2 : ∀ i, i < j → p i = false) : ((List.range n).filter p)[0]? = some j := by
  obtain ⟨m, rfl⟩ : ∃ m, n = j + (1 + m) := ⟨n - j - 1, by omega⟩
  rw [List.range_add, List.filter_append]
  have : (List.range j).filter p = [] := by
    rw [List.filter_eq_nil_iff]
    intro a ha
    rw [h2 a (List.mem_range.mp ha)]
    decide
  rw [this, List.nil_append, Nat.add_comm 1 m, List.range_succ_eq_map, List.map_cons, List.filter_cons]
  simp [h1]
end K00

namespace K00
open Z
def hd : T → T
  | .seq a _ => a
  | t => t
def tl : T → T
  | .seq _ b => b
  | t => t
def st (sc x2 : Option D) (b n : Int) (own : List Int) (x6 : Option D) (tot : Int) (x8 x9 x10 x11 x12 x13 x14 x15 : Option D) : S :=
  [sc, some (.ref 0), x2, some (.int b), some (.int n), some (.lst (dints own)), x6, some (.int tot), x8, x9, x10, x11, x12, x13, x14, x15]
theorem ifs_f {Γ : G} {c a b : T} {s : S} {h h1 : H} (e : test Γ c s h = some (false, h1)) : exec Γ (.ifs c a b) s h = exec Γ b s h1 := by
  simp [exec, e]
theorem ifs_t {Γ : G} {c a b : T} {s : S} {h h1 : H} (e : test Γ c s h = some (true, h1)) : exec Γ (.ifs c a b) s h = exec Γ a s h1 := by
  simp [exec, e]
theorem skip_ {Γ : G} {s : S} {h : H} : exec Γ .skip s h = some (.nx s h) := rfl
theorem ifs_same {k : Nat} {A B X : T} {s : S} {l : List Int} {h : H} {d : PySem.PyData} (hs : sm 2 d = true) (ea : evalE (R (k + 6)) A s h = some (.dat d, [ol l])) (eb : evalE (R (k + 6)) B s [ol l] = some (.dat d, [ol l])) :
    exec (R (k + 6)) (.ifs (.not (.call 17 (.cons A (.cons B .nil)))) X .skip) s h = some (.nx s [ol l]) := by
  have e := r_same 2 d hs (k + 3) [ol l] (fine_ol l)
  refine (ifs_f (h1 := [ol l]) ?_).trans skip_
  simp [test, evalE, evalA, ea, eb, e, truthy]
section
variable {k : Nat} {sc x2 x6 x8 x9 x10 x11 x12 x13 x14 x15 : Option D} {b n tot a : Int} {own : List Int} {l : List Int}
theorem own_len (own : List Int) (h : H) : bltD h .len [.lst (dints own)] = some (.int own.length) := by
  rw [show own.length = (dints own).length by simp [dints]]
  rfl
theorem g1_ok (ho : own.length ≤ 400) (hp : Pot l) : ∃ u v l1, exec (R (k + 6)) (hd b_law_2) (st sc x2 b n own x6 tot x8 x9 x10 x11 x12 x13 x14 x15) [ol l] = some (.nx (st sc x2 b n own x6 tot x8 x9 x10 x11 (some (.int u)) (some (.int v)) x14 x15) [ol l1]) ∧ 0 ≤ u ∧ u ≤ 400 ∧ 1 ≤ v ∧ v ≤ 6 ∧ Pot l1 := by
  have hm : ∃ m : Int, m = own.length + 1 ∧ 0 < m ∧ m ≤ 401 := ⟨_, rfl, by omega, by omega⟩
  obtain ⟨m, hm, m0, m1⟩ := hm
  obtain ⟨u, l1, e1, u0, u1, hp1⟩ := r_take (k + 5) hp (m := m) m0 (by omega)
  obtain ⟨v, l2, e2, v0, v1, hp2⟩ := r_take (k + 5) hp1 (m := 6) (by omega) (by omega)
  refine ⟨u, 1 + v, l2, ?_, u0, by omega, by omega, by omega, hp2⟩
  have el : bltD [ol l] .len [.lst (dints own)] = some (.int (m - 1)) := by rw [own_len, show m - 1 = own.length by omega]
  simp only [hd, b_law_2, st, exec, evalE, evalA, List.getElem?_cons_succ, List.getElem?_cons_zero, Option.bind_some, Option.map_some, el, binop, show m - 1 + 1 = m by omega, e1, e2]
  rfl
theorem lc1_ok {v : Int} (hb : 2 ≤ b) (hb2 : b ≤ 5) (v0 : 1 ≤ v) (v1 : v ≤ 6) (hp : Pot l) : ∃ ns l1, evalE (R (k + 6)) x_law_1 (st sc x2 b n own x6 tot x8 x9 x10 x11 x12 (some (.int v)) x14 x15) [ol l] = some (.lst (dints ns), [ol l1]) ∧ Dig b ns ∧ ns.length ≤ 6 ∧ Pot l1 := by
  have L := comp_gen (f := turnF (R (k + 6)) [("place", 15)] (.tv 15) .nil (.call 16 (.cons (.var 1) (.cons (.var 3) .nil))) (st sc x2 b n own x6 tot x8 x9 x10 x11 x12 (some (.int v)) x14 x15)) (xs := rngD 0 v.toNat)
    (fun i l h => ∃ ns l1, l = dints ns ∧ Dig b ns ∧ ns.length = i ∧ h = [ol l1] ∧ Pot l1) (fun i x l h hx hi => by
      obtain ⟨ns, l1, rfl, hd, hl, rfl, hp1⟩ := hi
      obtain ⟨u, l2, e2, u0, u1, hp2⟩ := r_take (k + 5) hp1 (m := b) (by omega) (by omega)
      obtain ⟨hi, rfl⟩ := rng_get hx
      refine ⟨some (.int u), [ol l2], by simp [st, turnF, asgn, wipeS, evalC, evalE, evalA, e2], ns ++ [u], l2, by simp [dints], fun d hd2 => ?_, by simp [hl], rfl, hp2⟩
      rcases List.mem_append.mp hd2 with h3 | h3
      · exact hd d h3
      · simp at h3
        subst h3
        exact ⟨u0, u1⟩) (h := [ol l]) ⟨[], l, rfl, fun d h => by simp at h, rfl, rfl, hp⟩
  obtain ⟨r, h1, e1, ns, l1, rfl, hd, hl, rfl, hp1⟩ := L
  rw [rng_len] at hl
  exact ⟨ns, l1, lc_eval (rng1_eval (i := v) (var_ rfl) (small_ok (by omega) (by omega))) (size_ok (by rw [rng_len]; omega)) e1, hd, by omega, hp1⟩
theorem asg_ {Γ : G} {i : Nat} {e : T} {s : S} {h h1 : H} {d : D} (ee : evalE Γ e s h = some (d, h1)) : exec Γ (.asg i e) s h = some (.nx (s.set i (some d)) h1) := by
  simp only [exec, ee, Option.map_some]
theorem tup_lst (h : H) (l : List Int) : bltD h .tuple [.lst (dints l)] = some (.tup (dints l)) := rfl
theorem g2_ok {u v : Int} (hb : 2 ≤ b) (hb2 : b ≤ 5) (hown : Dig b own) (u0 : 0 ≤ u) (v0 : 1 ≤ v) (v1 : v ≤ 6) (hp : Pot l) :
    ∃ rs l1, exec (R (k + 6)) (hd (tl b_law_2)) (st sc x2 b n own x6 tot (some (.int a)) x9 x10 x11 (some (.int u)) (some (.int v)) x14 x15) [ol l] = some (.nx (st sc x2 b n own x6 tot (some (.int a)) x9 (some (.tup (dints rs))) x11 (some (.int u)) (some (.int v)) x14 x15) [ol l1]) ∧ Dig b rs ∧ rs.length ≤ 6 ∧ Pot l1 := by
  by_cases h : a < 2
  · obtain ⟨i, rfl⟩ := Int.eq_ofNat_of_zero_le u0
    obtain ⟨j, rfl⟩ := Int.eq_ofNat_of_zero_le (show 0 ≤ v by omega)
    refine ⟨(own.drop i).take j, l, ?_, fun d hd => hown d (List.mem_of_mem_drop (List.mem_of_mem_take hd)), by rw [List.length_take]; omega, hp⟩
    have e : evalE (R (k + 6)) (.slc (.var 5) (.cons (.var 12) .nil) (.cons (.bin .add (.var 12) (.var 13)) .nil)) (st sc x2 b n own x6 tot (some (.int a)) x9 x10 x11 (some (.int (i : Nat))) (some (.int (j : Nat))) x14 x15) [ol l] = some (.lst (dints ((own.drop i).take j)), [ol l]) := by
      simp only [st, evalE, evalP, binop, partD, List.getElem?_cons_succ, List.getElem?_cons_zero, Option.bind_some, Option.map_some, sliceD, datOf, cut_ints]
    refine asg_ ?_
    simp [evalE, cmpop, ordOp, truthy, h, blt1 e (tup_lst _ _), st]
    have e9 := blt1 e (tup_lst _ _)
    simp only [st] at e9
    simp [evalE, evalA] at e9 ⊢
    exact e9
  · obtain ⟨ns, l1, e, hd2, hl, hp1⟩ := lc1_ok (k := k) (sc := sc) (x2 := x2) (b := b) (n := n) (own := own) (x6 := x6) (tot := tot) (x8 := some (.int a)) (x9 := x9) (x10 := x10) (x11 := x11) (x12 := some (.int u)) (x14 := x14) (x15 := x15) hb hb2 v0 v1 hp
    refine ⟨ns, l1, ?_, hd2, hl, hp1⟩
    refine asg_ ?_
    have e9 := blt1 e (tup_lst _ _)
    simp only [st] at e9
    simp [evalE, cmpop, ordOp, truthy, h, st]
    simp [evalE, evalA] at e9 ⊢
    exact e9
end
end K00

namespace K00
open Z
theorem call2 {Γ : G} {g i j : Nat} {s : S} {h h2 : H} {d1 d2 d : D} (e1 : s[i]? = some (some d1)) (e2 : s[j]? = some (some d2)) (e : Γ g [d1, d2] h = some (d, h2)) : evalE Γ (.call g (.cons (.var i) (.cons (.var j) .nil))) s h = some (d, h2) := by
  simp only [evalE, evalA, e1, e2, Option.bind_some, Option.map_some, e]
section
variable {k : Nat} {sc x2 x6 x8 x9 x10 x11 x12 x13 x14 x15 : Option D} {b n tot a : Int} {own : List Int} {l : List Int}
theorem g3_ok {rs : List Int} (hb : 2 ≤ b) (hb2 : b ≤ 5) (hd1 : Dig b rs) (hl : rs.length ≤ 6) (hp : Pot l) :
    ∃ rs2 l1 z, exec (R (k + 6)) (hd (tl (tl b_law_2))) (st sc x2 b n own x6 tot x8 x9 (some (.tup (dints rs))) x11 x12 x13 x14 x15) [ol l] = some (.nx (st sc x2 b n own x6 tot x8 x9 (some (.tup (dints rs2))) x11 x12 x13 x14 x15) [ol l1]) ∧ Dig b rs2 ∧ rs2.length ≤ 7 ∧ rs2.getLast? = some z ∧ z ≠ 0 ∧ Pot l1 := by
  have t0 : eqD (.tuple (dints [])) (.tuple (dints [])) = some true := by rw [eqD_tup]; simp
  have hm : ∃ m : Int, m = b - 1 ∧ 0 < m ∧ m ≤ 4 := ⟨_, rfl, by omega, by omega⟩
  obtain ⟨m, hm, m0, m1⟩ := hm
  obtain ⟨u, l1, e1, u0, u1, hp1⟩ := r_take (k + 5) hp (m := m) m0 (by omega)
  have more : ∀ rs : List Int, Dig b rs → rs.length ≤ 6 → exec (R (k + 6)) (.seq (.asg 10 (.bin .add (.var 10) (.tup (.cons (.bin .add (.cst (.int 1)) (.call 16 (.cons (.var 1) (.cons (.bin .sub (.var 3) (.cst (.int 1))) .nil)))) .nil)))) .skip) (st sc x2 b n own x6 tot x8 x9 (some (.tup (dints rs))) x11 x12 x13 x14 x15) [ol l] = some (.nx (st sc x2 b n own x6 tot x8 x9 (some (.tup (dints (rs ++ [1 + u])))) x11 x12 x13 x14 x15) [ol l1]) := fun rs hd1 hl => by
    have hz : (dints rs).length + 1 ≤ PySem.sizeLine := size_ok (by simp [dints]; omega)
    have h1 : (1 : Nat) ≤ PySem.sizeLine := size_ok (by omega)
    have he : dints (rs ++ [1 + u]) = dints rs ++ [.int (1 + u)] := by simp [dints]
    rw [he]
    simp only [st, exec, evalE, evalA, binop, List.getElem?_cons_succ, List.getElem?_cons_zero, Option.bind_some, Option.map_some, ← hm, e1, dats, List.length_cons, List.length_nil, Nat.zero_add, if_pos h1, if_pos hz]
    rfl
  have dig : ∀ rs : List Int, Dig b rs → Dig b (rs ++ [1 + u]) := fun rs h d hd => by
    rcases List.mem_append.mp hd with h3 | h3
    · exact h d h3
    · simp at h3
      subst h3
      omega
  by_cases h : rs = []
  · subst h
    refine ⟨[] ++ [1 + u], l1, 1 + u, (ifs_t (h1 := [ol l]) ?_).trans (more [] hd1 hl), dig [] hd1, by simp, by simp, by omega, hp1⟩
    have t1 : eqD (.tuple []) (.tuple []) = some true := t0
    simp [test, evalE, evalA, st, dats, size_ok, cmpop, datOf, truthy, dints, t1]
  · have t1 : eqD (.tuple (dints rs)) (.tuple []) = some false := by
      have := eqD_tup rs []
      simpa [h] using this
    have hlast : rs.getLast? = some (rs.getLast h) := List.getLast?_eq_some_getLast h
    generalize rs.getLast h = z at hlast
    have t2 : nthI (dints rs) (-1) = some (.int z) := by
      rw [nthI_last, dints, List.getLast?_map, hlast]; rfl
    by_cases hz : z = 0
    · subst hz
      refine ⟨rs ++ [1 + u], l1, 1 + u, (ifs_t (h1 := [ol l]) ?_).trans (more rs hd1 hl), dig rs hd1, by simp; omega, by simp, by omega, hp1⟩
      simp [test, evalE, evalA, st, dats, size_ok, cmpop, datOf, truthy, t1, indexD, t2, eqD_int]
    · refine ⟨rs, l, z, (ifs_f (h1 := [ol l]) ?_).trans skip_, hd1, by omega, hlast, hz, hp⟩
      simp [test, evalE, evalA, st, dats, size_ok, cmpop, datOf, truthy, t1, indexD, t2, eqD_int, hz]
theorem g4_ok {rs : List Int} (ho : own.length ≤ 1000) : exec (R (k + 6)) (hd (tl (tl (tl b_law_2)))) (st sc x2 b n own x6 tot x8 x9 (some (.tup (dints rs))) x11 x12 x13 x14 x15) [ol l] = some (.nx (st sc x2 b n own x6 tot x8 x9 (some (.tup (dints rs))) (some (.int (occ own rs own.length))) x12 x13 x14 x15) [ol l]) := by
  exact asg_ (call2 rfl rfl (r_law_blocks (k + 5) own rs [ol l] (fine_ol l) ho))
theorem g5_ok {rs : List Int} {z : Int} (hb : 2 ≤ b) (hb2 : b ≤ 5) (hd1 : Dig b rs) (hl : rs.length ≤ 7) (hlast : rs.getLast? = some z) (hz : z ≠ 0) (h0 : 0 ≤ n) (hn : n < 2 ^ 400) (ho : own = dg b 400 n) :
    exec (R (k + 6)) (hd (tl (tl (tl (tl b_law_2))))) (st sc x2 b n own x6 tot x8 x9 (some (.tup (dints rs))) (some (.int (occ own rs own.length))) x12 x13 x14 x15) [ol l] = some (.nx (st sc x2 b n own x6 tot x8 x9 (some (.tup (dints rs))) (some (.int (occ own rs own.length))) x12 x13 x14 x15) [ol l]) := by
  have e := r_block_count k b n rs [ol l] (fine_ol l) hb hb2 hd1 (by omega) hlast hz h0 hn
  rw [← ho, ← occ_eq own rs (by rintro rfl; simp at hlast)] at e
  generalize (occ own rs own.length : Int) = c at e ⊢
  have h2 : (2 : Nat) ≤ PySem.sizeLine := size_ok (by omega)
  refine ifs_same (d := .list [.int c, .int c]) rfl ?_ ?_
  · simp [st, evalE, evalA, permD, e, dats, h2]
  · simp [st, evalE, evalA, dats, h2]
theorem in_turn (hb : 2 ≤ b) (hb2 : b ≤ 5) (h0 : 0 ≤ n) (hn : n < 2 ^ 400) (ho : own = dg b 400 n) (hp : Pot l) :
    ∃ l1 y10 y11 y12 y13, exec (R (k + 6)) b_law_2 (st sc x2 b n own x6 tot (some (.int a)) x9 x10 x11 x12 x13 x14 x15) [ol l] = some (.nx (st sc x2 b n own x6 tot (some (.int a)) x9 y10 y11 y12 y13 x14 x15) [ol l1]) ∧ Pot l1 := by
  have hlen : own.length ≤ 400 := by rw [ho]; exact dg_len 400 n
  have hdig : Dig b own := by rw [ho]; exact dg_dig hb 400 n
  obtain ⟨u, v, l1, e1, u0, u1, v0, v1, hp1⟩ := g1_ok (k := k) (sc := sc) (x2 := x2) (b := b) (n := n) (x6 := x6) (tot := tot) (x8 := some (.int a)) (x9 := x9) (x10 := x10) (x11 := x11) (x12 := x12) (x13 := x13) (x14 := x14) (x15 := x15) hlen hp
  obtain ⟨rs, l2, e2, hd2, hl2, hp2⟩ := g2_ok (k := k) (sc := sc) (x2 := x2) (n := n) (x6 := x6) (tot := tot) (a := a) (x9 := x9) (x10 := x10) (x11 := x11) (x14 := x14) (x15 := x15) hb hb2 hdig u0 v0 v1 hp1
  obtain ⟨rs2, l3, z, e3, hd3, hl3, hlast, hz, hp3⟩ := g3_ok (k := k) (sc := sc) (x2 := x2) (n := n) (own := own) (x6 := x6) (tot := tot) (x8 := some (.int a)) (x9 := x9) (x11 := x11) (x12 := some (.int u)) (x13 := some (.int v)) (x14 := x14) (x15 := x15) hb hb2 hd2 hl2 hp2
  have e4 := g4_ok (k := k) (sc := sc) (x2 := x2) (b := b) (n := n) (own := own) (x6 := x6) (tot := tot) (x8 := some (.int a)) (x9 := x9) (x11 := x11) (x12 := some (.int u)) (x13 := some (.int v)) (x14 := x14) (x15 := x15) (l := l3) (rs := rs2) (by omega)
  have e5 := g5_ok (k := k) (sc := sc) (x2 := x2) (x6 := x6) (tot := tot) (x8 := some (.int a)) (x9 := x9) (x12 := some (.int u)) (x13 := some (.int v)) (x14 := x14) (x15 := x15) (l := l3) hb hb2 hd3 hl3 hlast hz h0 hn ho
  refine ⟨l3, some (.tup (dints rs2)), some (.int (occ own rs2 own.length)), some (.int u), some (.int v), ?_, hp3⟩
  show exec (R (k + 6)) (.seq (hd b_law_2) (.seq (hd (tl b_law_2)) (.seq (hd (tl (tl b_law_2))) (.seq (hd (tl (tl (tl b_law_2)))) (.seq (hd (tl (tl (tl (tl b_law_2))))) .skip))))) _ _ = _
  rw [seq_nx e1, seq_nx e2, seq_nx e3, seq_nx e4, seq_nx e5]
  exact skip_
theorem in_loop (hb : 2 ≤ b) (hb2 : b ≤ 5) (h0 : 0 ≤ n) (hn : n < 2 ^ 400) (ho : own = dg b 400 n) (hp : Pot l) :
    ∃ l1 y8 y10 y11 y12 y13, exec (R (k + 6)) x_law_3 (st sc x2 b n own x6 tot x8 x9 x10 x11 x12 x13 x14 x15) [ol l] = some (.nx (st sc x2 b n own x6 tot y8 x9 y10 y11 y12 y13 x14 x15) [ol l1]) ∧ Pot l1 := by
  have L : ∃ o, fors (fun d s h => (asgn (.tv 8) d s).bind fun s1 => exec (R (k + 6)) b_law_2 s1 h) (rngD 0 4) (st sc x2 b n own x6 tot x8 x9 x10 x11 x12 x13 x14 x15) [ol l] = some o ∧ ∃ l1 y8 y10 y11 y12 y13, o = .nx (st sc x2 b n own x6 tot y8 x9 y10 y11 y12 y13 x14 x15) [ol l1] ∧ Pot l1 := by
    refine fors_gen (fun i s h1 => ∃ l1 y8 y10 y11 y12 y13, s = st sc x2 b n own x6 tot y8 x9 y10 y11 y12 y13 x14 x15 ∧ h1 = [ol l1] ∧ Pot l1) (fun o => ∃ l1 y8 y10 y11 y12 y13, o = .nx (st sc x2 b n own x6 tot y8 x9 y10 y11 y12 y13 x14 x15) [ol l1] ∧ Pot l1) (fun i x s h1 hx hi => ?_) (fun s h1 hi => ?_) ⟨l, _, _, _, _, _, rfl, rfl, hp⟩
    · obtain ⟨l1, y8, y10, y11, y12, y13, rfl, rfl, hp1⟩ := hi
      obtain ⟨hi, rfl⟩ := rng_get hx
      obtain ⟨l2, w10, w11, w12, w13, e, hp2⟩ := in_turn (k := k) (sc := sc) (x2 := x2) (x6 := x6) (tot := tot) (a := 0 + i) (x9 := x9) (x10 := y10) (x11 := y11) (x12 := y12) (x13 := y13) (x14 := x14) (x15 := x15) hb hb2 h0 hn ho hp1
      exact ⟨_, e, l2, _, w10, w11, w12, w13, rfl, rfl, hp2⟩
    · obtain ⟨l1, y8, y10, y11, y12, y13, rfl, rfl, hp1⟩ := hi
      exact ⟨l1, y8, y10, y11, y12, y13, rfl, hp1⟩
  obtain ⟨o, e1, l1, y8, y10, y11, y12, y13, rfl, hp1⟩ := L
  exact ⟨l1, y8, y10, y11, y12, y13, for_eval (rng1_eval (i := 4) (by simp [evalE]) (by decide)) e1, hp1⟩
end
end K00

namespace K00
open Z
section
variable {k : Nat} {sc x2 x3 x4 x5 x6 x7 x8 x9 x10 x11 x12 x13 x14 x15 : Option D} {b n tot a : Int} {own : List Int} {l : List Int}
def th : Nat → T → T
  | 0, t => hd t
  | n + 1, t => th n (tl t)
theorem o1_ok (hp : Pot l) : ∃ b l1, exec (R (k + 6)) (th 0 b_law_5) [sc, some (.ref 0), x2, x3, x4, x5, x6, x7, x8, x9, x10, x11, x12, x13, x14, x15] [ol l] = some (.nx [sc, some (.ref 0), x2, some (.int b), x4, x5, x6, x7, x8, x9, x10, x11, x12, x13, x14, x15] [ol l1]) ∧ 2 ≤ b ∧ b ≤ 5 ∧ Pot l1 := by
  obtain ⟨u, l1, e1, u0, u1, hp1⟩ := r_take (k + 5) hp (m := 4) (by omega) (by omega)
  refine ⟨2 + u, l1, ?_, by omega, by omega, hp1⟩
  refine asg_ (Γ := R (k + 6)) (i := 3) (e := .bin .add (.cst (.int 2)) (.call 16 (.cons (.var 1) (.cons (.cst (.int 4)) .nil)))) ?_
  simp [evalE, evalA, binop, e1]
theorem o4_ok (ho : own.length ≤ 400) (hp : Pot l) : ∃ m l1, exec (R (k + 6)) (th 3 b_law_5) [sc, some (.ref 0), x2, some (.int b), some (.int n), some (.lst (dints own)), x6, x7, x8, x9, x10, x11, x12, x13, x14, x15] [ol l] = some (.nx [sc, some (.ref 0), x2, some (.int b), some (.int n), some (.lst (dints own)), some (.tup (dints (own ++ List.replicate m 0))), x7, x8, x9, x10, x11, x12, x13, x14, x15] [ol l1]) ∧ m ≤ 5 ∧ Pot l1 := by
  obtain ⟨u, l1, e1, u0, u1, hp1⟩ := r_take (k + 5) hp (m := 5) (by omega) (by omega)
  obtain ⟨j, rfl⟩ := Int.eq_ofNat_of_zero_le u0
  refine ⟨j, l1, ?_, by omega, hp1⟩
  have e2 : (List.replicate j [PySem.PyData.int 0]).flatten = dints (List.replicate j 0) := by
    simp [dints]
  have hz : (dints own).length + (dints (List.replicate j 0)).length ≤ PySem.sizeLine := size_ok (by simp [dints]; omega)
  have he : dints (own ++ List.replicate j 0) = dints own ++ dints (List.replicate j 0) := by simp [dints]
  have h1 : (1 : Nat) ≤ PySem.sizeLine := size_ok (by omega)
  have m1 : ∀ h : H, binop h .mul (.tup [.int 0]) (.dat (.int (j : Nat))) = some (.tup (dints (List.replicate j 0))) := fun h => by
    show (if _ then _ else none) = _
    rw [if_pos ⟨by omega, by omega, by simp⟩, ← e2]
    rfl
  have m2 : ∀ h : H, binop h .add (.tup (dints own)) (.tup (dints (List.replicate j 0))) = some (.tup (dints (own ++ List.replicate j 0))) := fun h => by
    show (if _ then _ else none) = _
    rw [if_pos hz, ← he]
  refine asg_ (Γ := R (k + 6)) (i := 6) (e := .bin .add (.blt .tuple (.cons (.var 5) .nil)) (.bin .mul (.tup (.cons (.cst (.int 0)) .nil)) (.call 16 (.cons (.var 1) (.cons (.cst (.int 5)) .nil))))) ?_
  simp only [evalE, evalA, List.getElem?_cons_succ, List.getElem?_cons_zero, Option.bind_some, Option.map_some, tup_lst, dats, List.length_cons, List.length_nil, Nat.zero_add, if_pos h1, e1, m1, m2]
theorem o5_ok {m : Nat} (hb : 2 ≤ b) (hb2 : b ≤ 5) (h0 : 0 ≤ n) (hn : n < 2 ^ 400) (ho : own = dg b 400 n) (hm : m ≤ 5) : exec (R (k + 6)) (th 4 b_law_5) [sc, some (.ref 0), x2, some (.int b), some (.int n), some (.lst (dints own)), some (.tup (dints (own ++ List.replicate m 0))), x7, x8, x9, x10, x11, x12, x13, x14, x15] [ol l] = some (.nx [sc, some (.ref 0), x2, some (.int b), some (.int n), some (.lst (dints own)), some (.tup (dints (own ++ List.replicate m 0))), x7, x8, x9, x10, x11, x12, x13, x14, x15] [ol l]) := by
  have hlen : own.length ≤ 400 := by rw [ho]; exact dg_len 400 n
  have hdig : Dig b own := by rw [ho]; exact dg_dig hb 400 n
  have hnum : num b own = n := by rw [ho]; exact dg_num hb 400 n h0 hn
  have hdig2 : Dig b (own ++ List.replicate m 0) := fun d hd => by
    rcases List.mem_append.mp hd with h3 | h3
    · exact hdig d h3
    · have := List.eq_of_mem_replicate h3
      omega
  have e1 := r_digits (k + 2) b n [ol l] (fine_ol l) hb hb2 h0 hn
  rw [← ho] at e1
  have e2 := r_number_of (k + 1) b (own ++ List.replicate m 0) [ol l] (fine_ol l) hb hb2 hdig2 (by simp; omega)
  rw [num_zeros, hnum] at e2
  have e3 := r_number_of (k + 1) b own [ol l] (fine_ol l) hb hb2 hdig (by omega)
  rw [hnum] at e3
  have h4 : (4 : Nat) ≤ PySem.sizeLine := size_ok (by omega)
  generalize hz : own ++ List.replicate m 0 = zs at e2 ⊢
  refine ifs_same (d := .list [.tuple (dints own), .tuple (dints own), .int n, .int n]) ?_ ?_ ?_
  · have := sm_ints 0 own
    have hl : (dints own).length = own.length := by simp [dints]
    simp only [sm, this, hl, List.all_cons, List.all_nil, Bool.and_true, Bool.and_eq_true, decide_eq_true_eq, List.length_cons, List.length_nil]
    omega
  · simp only [evalE, evalA, List.getElem?_cons_succ, List.getElem?_cons_zero, Option.bind_some, Option.map_some, e1, e2, tup_lst, permD, List.nil_append, List.filterMap_cons, List.filterMap_nil, e3, dats, List.length_cons, List.length_nil, Nat.zero_add, Nat.reduceAdd, if_pos h4]
  · simp only [evalE, evalA, List.getElem?_cons_succ, List.getElem?_cons_zero, Option.bind_some, Option.map_some, tup_lst, dats, List.length_cons, List.length_nil, Nat.zero_add, Nat.reduceAdd, if_pos h4]
theorem o6_ok : exec (R (k + 6)) (th 5 b_law_5) [sc, some (.ref 0), x2, some (.int b), some (.int n), some (.lst (dints own)), x6, x7, x8, x9, x10, x11, x12, x13, x14, x15] [ol l] = some (.nx (st sc x2 b n own x6 own.sum x8 x9 x10 x11 x12 x13 x14 x15) [ol l]) :=
  asg_ (Γ := R (k + 6)) (i := 7) (e := .blt .sum (.cons (.var 5) .nil)) (blt1 (var_ rfl) (by simp only [bltD, datOf, ints_of, Option.map_some]))
theorem o7_ok (hb : 2 ≤ b) (hb2 : b ≤ 5) (h0 : 0 ≤ n) (hn : n < 2 ^ 400) (ho : own = dg b 400 n) : exec (R (k + 6)) (th 6 b_law_5) (st sc x2 b n own x6 own.sum x8 x9 x10 x11 x12 x13 x14 x15) [ol l] = some (.nx (st sc x2 b n own x6 own.sum x8 x9 x10 x11 x12 x13 x14 x15) [ol l]) := by
  have e1 := r_digit_sum (k + 2) b n [ol l] (fine_ol l) hb hb2 h0 hn
  rw [← ho] at e1
  have hz : (n - own.sum) % (b - 1) = 0 := Int.emod_eq_zero_of_dvd (by rw [ho]; exact sum_mod hb 400 n h0 hn)
  generalize own.sum = t at e1 hz ⊢
  have h2 : (2 : Nat) ≤ PySem.sizeLine := size_ok (by omega)
  have e2 := r_same 2 (.list [.int t, .int t]) rfl (k + 3) [ol l] (fine_ol l)
  refine (ifs_f (h1 := [ol l]) ?_).trans skip_
  simp [st, test, evalE, evalA, permD, e1, dats, h2, e2, truthy, blt_int, binop, show (1 : Int) < b by omega, hz, cmpop, datOf, eqD_int]
end
end K00

namespace K00
open Z
section
variable {k : Nat} {sc x2 x3 x4 x5 x6 x7 x8 x9 x10 x11 x12 x13 x14 x15 : Option D} {b n tot a : Int} {own : List Int} {l : List Int}
theorem lc4_ok (ho : own.length ≤ 400) : evalE (R (k + 6)) x_law_4 (st sc x2 b n own x6 tot x8 x9 x10 x11 x12 x13 x14 x15) [ol l] = some (.lst (((List.range own.length).filter fun i => decide (own[i]? ≠ some 0)).map fun (i : Nat) => .int i), [ol l]) := by
  refine lc_eval (xs := rngD 0 own.length) (h1 := [ol l]) ?_ (size_ok (by rw [rng_len]; omega)) ?_
  · have ht : ((own.length : Nat) : Int).toNat = own.length := Int.toNat_natCast _
    have e2 := rng1_eval (Γ := R (k + 6)) (s := st sc x2 b n own x6 tot x8 x9 x10 x11 x12 x13 x14 x15) (h := [ol l]) (blt1 (var_ (i := 5) rfl) (own_len own [ol l])) (small_ok (by omega) (by omega))
    rw [ht] at e2
    exact e2
  · refine comp_rng _ _ fun i hi => ?_
    have e : indexD [ol l] (.lst (dints own)) (.int (i : Nat)) = some (.int own[i]) := by
      show (nthI (dints own) (i : Int)).map D.dat = _
      rw [nthI_nat]
      simp [dints, hi]
    have e2 : own[i]? = some own[i] := by simp [hi]
    rw [e2]
    generalize own[i] = v at e
    simp only [st, turnF, asgn, wipeS, evalC, evalE, List.map_cons, List.map_nil, Option.bind_some, List.set_cons_succ, List.set_cons_zero, List.getElem?_cons_succ, List.getElem?_cons_zero, Option.map_some, e, cmpop, datOf, eqD_int, truthy]
    by_cases hv : v = 0 <;> simp [hv]
theorem o8_ok (hb : 2 ≤ b) (hb2 : b ≤ 5) (h0 : 0 ≤ n) (hn : n < 2 ^ 200) (ho : own = dg b 400 n) : ∃ y9, exec (R (k + 6)) (th 7 b_law_5) (st sc x2 b n own x6 tot x8 x9 x10 x11 x12 x13 x14 x15) [ol l] = some (.nx (st sc x2 b n own x6 tot x8 y9 x10 x11 x12 x13 x14 x15) [ol l]) := by
  have hn4 : n < 2 ^ 400 := Int.lt_trans hn (by decide)
  have hn3 : n < 2 ^ 399 := Int.lt_trans hn (by decide)
  by_cases hp : 0 < n
  · have hlen : own.length ≤ 400 := by rw [ho]; exact dg_len 400 n
    obtain ⟨f1, f2, f3⟩ := pw_first hb 400 n hp hn4
    rw [← ho] at f1 f2 f3
    have ff := filter_first (p := fun i => decide (own[i]? ≠ some 0)) f1 (by simpa using f2) (fun i hi => by simpa using f3 i hi)
    have e1 := r_power_in (k + 2) b n [ol l] (fine_ol l) hb hb2 (by omega) hn4
    have e2 := r_power_in (k + 2) b (n * b) [ol l] (fine_ol l) hb hb2 (by
      have := Int.mul_le_mul_of_nonneg_left (show (1 : Int) ≤ b by omega) (show 0 ≤ n by omega)
      omega) (by
      have h1 : n * b ≤ n * 5 := Int.mul_le_mul_of_nonneg_left hb2 h0
      have h2 : (2 : Int) ^ 200 * 5 < 2 ^ 400 := by decide
      omega)
    rw [pw_mul hb hp hn3] at e2
    have e3 := lc4_ok (k := k) (sc := sc) (x2 := x2) (b := b) (n := n) (x6 := x6) (tot := tot) (x8 := x8) (x9 := x9) (x10 := x10) (x11 := x11) (x12 := x12) (x13 := x13) (x14 := x14) (x15 := x15) (l := l) hlen
    have e4 : nthI (((List.range own.length).filter fun i => decide (own[i]? ≠ some 0)).map fun (i : Nat) => PySem.PyData.int i) 0 = some (.int (pw b 400 n)) := by
      show (List.map _ _)[0]? = _
      rw [List.getElem?_map, ff]
      rfl
    generalize (((List.range own.length).filter fun i => decide (own[i]? ≠ some 0)).map fun (i : Nat) => PySem.PyData.int i) = ps at e3 e4
    have e5 : ((pw b 400 n + 1 : Nat) : Int) = (pw b 400 n : Int) + 1 := by omega
    rw [e5] at e2
    generalize (pw b 400 n : Int) = c at e1 e2 e4
    have e6 : exec (R (k + 6)) (.asg 9 (.idx x_law_4 (.cst (.int 0)))) (st sc x2 b n own x6 tot x8 x9 x10 x11 x12 x13 x14 x15) [ol l] = some (.nx (st sc x2 b n own x6 tot x8 (some (.int c)) x10 x11 x12 x13 x14 x15) [ol l]) := by
      refine asg_ (Γ := R (k + 6)) (i := 9) (e := .idx x_law_4 (.cst (.int 0))) ?_
      simp only [evalE, e3, Option.bind_some, indexD, e4, Option.map_some]
    have h3 : (3 : Nat) ≤ PySem.sizeLine := size_ok (by omega)
    refine ⟨some (.int c), (ifs_t (h1 := [ol l]) (by simp [st, test, evalE, cmpop, ordOp, truthy, hp])).trans ((seq_nx e6).trans ((seq_nx (ifs_same (d := .list [.int c, .int c, .int (c + 1)]) rfl ?_ ?_)).trans skip_))⟩
    · have p29 : ∀ h : H, binop h .pow (.dat (.int 10)) (.dat (.int 29)) = some (.int 100000000000000000000000000000) := fun h => rfl
      by_cases hs : n < 100000000000000000000000000000
      · simp [st, evalE, evalA, permD, e1, e2, dats, h3, p29, cmpop, ordOp, truthy, hs, binop, mul_r (small5 hb hb2)]
      · simp [st, evalE, evalA, permD, e1, e2, dats, h3, p29, cmpop, ordOp, truthy, hs, binop]
    · simp [st, evalE, evalA, dats, h3, binop]
  · exact ⟨x9, (ifs_f (h1 := [ol l]) (by simp [st, test, evalE, cmpop, ordOp, truthy, hp])).trans skip_⟩
theorem lc0_ok (hb : 2 ≤ b) (hb2 : b ≤ 5) (h0 : 0 ≤ n) (hn : n < 2 ^ 400) (ho : own = dg b 400 n) : evalE (R (k + 6)) x_law_0 (st sc x2 b n own x6 tot x8 x9 x10 x11 x12 x13 x14 x15) [ol l] = some (.lst (dints ((List.range (b - 1).toNat).map fun i => (1 + (i : Nat) : Int) * (occ own [(1 + (i : Nat) : Int)] own.length : Int))), [ol l]) := by
  have L := comp_gen (f := turnF (R (k + 6)) [("d", 14)] (.tv 14) .nil (.bin .mul (.var 14) (.call 15 (.cons (.var 3) (.cons (.tup (.cons (.var 14) .nil)) (.cons (.var 4) .nil))))) (st sc x2 b n own x6 tot x8 x9 x10 x11 x12 x13 x14 x15)) (xs := rngD 1 (b - 1).toNat)
    (fun i r h => r = dints ((List.range i).map fun i => (1 + (i : Nat) : Int) * (occ own [(1 + (i : Nat) : Int)] own.length : Int)) ∧ h = [ol l]) (fun i x r h hx hi => by
      obtain ⟨rfl, rfl⟩ := hi
      obtain ⟨hi, rfl⟩ := rng_get hx
      have hd : Dig b [1 + (i : Nat)] := fun d hd => by simp at hd; subst hd; omega
      have e := r_block_count k b n [1 + (i : Nat)] [ol l] (fine_ol l) hb hb2 hd (by simp) (z := 1 + (i : Nat)) rfl (by omega) h0 hn
      rw [← ho, ← occ_eq own [1 + (i : Nat)] (by simp)] at e
      simp only [List.range_succ, List.map_append, List.map_cons, List.map_nil]
      have h1 : (1 : Nat) ≤ PySem.sizeLine := size_ok (by omega)
      generalize (occ own [(1 + (i : Nat) : Int)] own.length : Int) = c at e ⊢
      have hv : (1 + (i : Nat) : Int).natAbs < 2 ^ 64 := by omega
      generalize (1 + (i : Nat) : Int) = v at e hv ⊢
      refine ⟨some (.int (v * c)), [ol l], ?_, by simp [dints], rfl⟩
      have e' : R (k + 6) 15 [.int b, .tup [.int v], .int n] [ol l] = some (.int c, [ol l]) := e
      simp [st, turnF, asgn, wipeS, evalC, evalE, evalA, dats, h1, e', binop, mul_l (i := v) (j := c) hv]) (h := [ol l]) ⟨rfl, rfl⟩
  obtain ⟨r, h1, e1, rfl, rfl⟩ := L
  rw [rng_len] at e1
  refine lc_eval (xs := rngD 1 (b - 1).toNat) (h1 := [ol l]) ?_ (size_ok (by rw [rng_len]; omega)) e1
  have s1 : small62 1 = true := by decide
  have s2 : small62 b = true := small_ok (by omega) (by omega)
  simp [evalI, evalE, st, s1, s2]
theorem o10_ok (hb : 2 ≤ b) (hb2 : b ≤ 5) (h0 : 0 ≤ n) (hn : n < 2 ^ 400) (ho : own = dg b 400 n) : exec (R (k + 6)) (th 9 b_law_5) (st sc x2 b n own x6 own.sum x8 x9 x10 x11 x12 x13 x14 x15) [ol l] = some (.nx (st sc x2 b n own x6 own.sum x8 x9 x10 x11 x12 x13 x14 x15) [ol l]) := by
  have hdig : Dig b own := by rw [ho]; exact dg_dig hb 400 n
  have hs := by_sum hb hb2 hdig
  have e1 := lc0_ok (k := k) (sc := sc) (x2 := x2) (x6 := x6) (tot := own.sum) (x8 := x8) (x9 := x9) (x10 := x10) (x11 := x11) (x12 := x12) (x13 := x13) (x14 := x14) (x15 := x15) (l := l) hb hb2 h0 hn ho
  have e2 : evalE (R (k + 6)) (.blt .sum (.cons x_law_0 .nil)) (st sc x2 b n own x6 own.sum x8 x9 x10 x11 x12 x13 x14 x15) [ol l] = some (.int own.sum, [ol l]) := by
    refine blt1 e1 ?_
    rw [← hs]
    simp only [bltD, datOf, ints_of, Option.map_some]
    rfl
  generalize own.sum = t at e2 ⊢
  refine (ifs_f (h1 := [ol l]) ?_).trans skip_
  have e3 : evalE (R (k + 6)) (.var 7) (st sc x2 b n own x6 t x8 x9 x10 x11 x12 x13 x14 x15) [ol l] = some (.int t, [ol l]) := var_ rfl
  simp only [test]
  rw [show evalE (R (k + 6)) (.cmp .ne (.var 7) (.blt .sum (.cons x_law_0 .nil))) (st sc x2 b n own x6 t x8 x9 x10 x11 x12 x13 x14 x15) [ol l] = some (.bl false, [ol l]) from by
    rw [evalE, e3]
    simp only [Option.bind_some, e2, cmpop, datOf, eqD_int]
    simp]
  rfl
end
end K00

namespace K00
open Z
section
variable {k : Nat} {sc : Option D} {l : List Int}
theorem out_turn (x2 x3 x4 x5 x6 x7 x8 x9 x10 x11 x12 x13 x14 x15 : Option D) (hp : Pot l) : ∃ y2 y3 y4 y5 y6 y7 y8 y9 y10 y11 y12 y13 y14 y15 l1, exec (R (k + 6)) b_law_5 [sc, some (.ref 0), x2, x3, x4, x5, x6, x7, x8, x9, x10, x11, x12, x13, x14, x15] [ol l] = some (.nx [sc, some (.ref 0), y2, y3, y4, y5, y6, y7, y8, y9, y10, y11, y12, y13, y14, y15] [ol l1]) ∧ Pot l1 := by
  obtain ⟨b, l1, e1, hb, hb2, hp1⟩ := o1_ok (k := k) (sc := sc) (x2 := x2) (x3 := x3) (x4 := x4) (x5 := x5) (x6 := x6) (x7 := x7) (x8 := x8) (x9 := x9) (x10 := x10) (x11 := x11) (x12 := x12) (x13 := x13) (x14 := x14) (x15 := x15) hp
  obtain ⟨n, l2, e2, h0, hn, hp2⟩ := r_law_some (k + 3) hb hb2 hp1
  have hn4 : n < 2 ^ 400 := Int.lt_trans hn (by decide)
  have f2 : exec (R (k + 6)) (th 1 b_law_5) [sc, some (.ref 0), x2, some (.int b), x4, x5, x6, x7, x8, x9, x10, x11, x12, x13, x14, x15] [ol l1] = some (.nx [sc, some (.ref 0), x2, some (.int b), some (.int n), x5, x6, x7, x8, x9, x10, x11, x12, x13, x14, x15] [ol l2]) := asg_ (i := 4) (call2 (i := 1) (j := 3) rfl rfl e2)
  have e3 := r_law_digits (k + 5) b n [ol l2] (fine_ol l2) hb hb2 h0 hn4
  obtain ⟨own, ho⟩ : ∃ own, own = dg b 400 n := ⟨_, rfl⟩
  rw [← ho] at e3
  have hlen : own.length ≤ 400 := by rw [ho]; exact dg_len 400 n
  have f3 : exec (R (k + 6)) (th 2 b_law_5) [sc, some (.ref 0), x2, some (.int b), some (.int n), x5, x6, x7, x8, x9, x10, x11, x12, x13, x14, x15] [ol l2] = some (.nx [sc, some (.ref 0), x2, some (.int b), some (.int n), some (.lst (dints own)), x6, x7, x8, x9, x10, x11, x12, x13, x14, x15] [ol l2]) := asg_ (i := 5) (call2 (i := 3) (j := 4) rfl rfl e3)
  obtain ⟨m, l3, f4, hm, hp3⟩ := o4_ok (k := k) (sc := sc) (x2 := x2) (b := b) (n := n) (x6 := x6) (x7 := x7) (x8 := x8) (x9 := x9) (x10 := x10) (x11 := x11) (x12 := x12) (x13 := x13) (x14 := x14) (x15 := x15) hlen hp2
  have f5 := o5_ok (k := k) (sc := sc) (x2 := x2) (x7 := x7) (x8 := x8) (x9 := x9) (x10 := x10) (x11 := x11) (x12 := x12) (x13 := x13) (x14 := x14) (x15 := x15) (l := l3) hb hb2 h0 hn4 ho hm
  have f6 := o6_ok (k := k) (sc := sc) (x2 := x2) (b := b) (n := n) (own := own) (x6 := some (.tup (dints (own ++ List.replicate m 0)))) (x7 := x7) (x8 := x8) (x9 := x9) (x10 := x10) (x11 := x11) (x12 := x12) (x13 := x13) (x14 := x14) (x15 := x15) (l := l3)
  generalize (some (D.tup (dints (own ++ List.replicate m 0))) : Option D) = z6 at f4 f5 f6
  have f7 := o7_ok (k := k) (sc := sc) (x2 := x2) (x6 := z6) (x8 := x8) (x9 := x9) (x10 := x10) (x11 := x11) (x12 := x12) (x13 := x13) (x14 := x14) (x15 := x15) (l := l3) hb hb2 h0 hn4 ho
  obtain ⟨y9, f8⟩ := o8_ok (k := k) (sc := sc) (x2 := x2) (x6 := z6) (tot := own.sum) (x8 := x8) (x9 := x9) (x10 := x10) (x11 := x11) (x12 := x12) (x13 := x13) (x14 := x14) (x15 := x15) (l := l3) hb hb2 h0 hn ho
  obtain ⟨l4, y8, y10, y11, y12, y13, f9, hp4⟩ := in_loop (k := k) (sc := sc) (x2 := x2) (x6 := z6) (tot := own.sum) (x8 := x8) (x9 := y9) (x10 := x10) (x11 := x11) (x12 := x12) (x13 := x13) (x14 := x14) (x15 := x15) hb hb2 h0 hn4 ho hp3
  have f10 := o10_ok (k := k) (sc := sc) (x2 := x2) (x6 := z6) (x8 := y8) (x9 := y9) (x10 := y10) (x11 := y11) (x12 := y12) (x13 := y13) (x14 := x14) (x15 := x15) (l := l4) hb hb2 h0 hn4 ho
  refine ⟨x2, some (.int b), some (.int n), some (.lst (dints own)), z6, some (.int own.sum), y8, y9, y10, y11, y12, y13, x14, x15, l4, ?_, hp4⟩
  show exec (R (k + 6)) (.seq (th 0 b_law_5) (.seq (th 1 b_law_5) (.seq (th 2 b_law_5) (.seq (th 3 b_law_5) (.seq (th 4 b_law_5) (.seq (th 5 b_law_5) (.seq (th 6 b_law_5) (.seq (th 7 b_law_5) (.seq x_law_3 (.seq (th 9 b_law_5) .skip)))))))))) _ _ = _
  exact (seq_nx e1).trans ((seq_nx f2).trans ((seq_nx f3).trans ((seq_nx f4).trans ((seq_nx f5).trans ((seq_nx f6).trans ((seq_nx f7).trans ((seq_nx f8).trans ((seq_nx f9).trans ((seq_nx f10).trans skip_)))))))))
theorem out_loop (hp : Pot l) : ∃ y l1, exec (R (k + 6)) x_law_6 [sc, some (.ref 0), none, none, none, none, none, none, none, none, none, none, none, none, none, none] [ol l] = some (.nx (sc :: some (.ref 0) :: y) [ol l1]) ∧ Pot l1 := by
  have L : ∃ o, fors (fun d s h => (asgn (.tv 2) d s).bind fun s1 => exec (R (k + 6)) b_law_5 s1 h) (rngD 0 8) [sc, some (.ref 0), none, none, none, none, none, none, none, none, none, none, none, none, none, none] [ol l] = some o ∧ ∃ y l1, o = .nx (sc :: some (.ref 0) :: y) [ol l1] ∧ Pot l1 := by
    refine fors_gen (fun i s h1 => ∃ y2 y3 y4 y5 y6 y7 y8 y9 y10 y11 y12 y13 y14 y15 l1, s = [sc, some (.ref 0), y2, y3, y4, y5, y6, y7, y8, y9, y10, y11, y12, y13, y14, y15] ∧ h1 = [ol l1] ∧ Pot l1) (fun o => ∃ y l1, o = .nx (sc :: some (.ref 0) :: y) [ol l1] ∧ Pot l1) (fun i x s h1 hx hi => ?_) (fun s h1 hi => ?_) ⟨_, _, _, _, _, _, _, _, _, _, _, _, _, _, l, rfl, rfl, hp⟩
    · obtain ⟨y2, y3, y4, y5, y6, y7, y8, y9, y10, y11, y12, y13, y14, y15, l1, rfl, rfl, hp1⟩ := hi
      obtain ⟨w2, w3, w4, w5, w6, w7, w8, w9, w10, w11, w12, w13, w14, w15, l2, e, hp2⟩ := out_turn (k := k) (sc := sc) (some x) y3 y4 y5 y6 y7 y8 y9 y10 y11 y12 y13 y14 y15 hp1
      exact ⟨_, e, w2, w3, w4, w5, w6, w7, w8, w9, w10, w11, w12, w13, w14, w15, l2, rfl, rfl, hp2⟩
    · obtain ⟨y2, y3, y4, y5, y6, y7, y8, y9, y10, y11, y12, y13, y14, y15, l1, rfl, rfl, hp1⟩ := hi
      exact ⟨_, l1, rfl, hp1⟩
  obtain ⟨o, e1, y, l1, rfl, hp1⟩ := L
  exact ⟨y, l1, for_eval (rng1_eval (i := 8) (by simp [evalE]) (by decide)) e1, hp1⟩
end
theorem law_all (ns : List Int) (hl : ns.length ≤ 63) : ∃ h1, R 7 23 [.scr ns] [] = some (.bl true, h1) := by
  have hp : Pot (0 :: 70 :: 3 :: ns) := ⟨0, 70, 3, ns, rfl, by omega, by omega, by omega, by omega, by omega⟩
  obtain ⟨y, l1, e1, hp1⟩ := out_loop (k := 0) (sc := some (.scr ns)) hp
  have c1 := r_block_count 0 2 (2 ^ 40 * 341 + 21) [1, 0, 1] [ol l1] (fine_ol l1) (by decide) (by decide) (fun d hd => by simp at hd; omega) (by decide) (z := 1) rfl (by decide) (by decide) (by decide)
  have c2 := r_digits 2 5 0 [ol l1] (fine_ol l1) (by decide) (by decide) (by decide) (by decide)
  have c3 := r_block_count 0 3 0 [2] [ol l1] (fine_ol l1) (by decide) (by decide) (fun d hd => by simp at hd; omega) (by decide) (z := 2) rfl (by decide) (by decide) (by decide)
  have v1 : ((occ (dg 2 400 (2 ^ 40 * 341 + 21)) [1, 0, 1] ((dg 2 400 (2 ^ 40 * 341 + 21)).length + 1 - ([1, 0, 1] : List Int).length) : Nat) : Int) = 6 := by decide +kernel
  have v3 : ((occ (dg 3 400 0) [2] ((dg 3 400 0).length + 1 - ([2] : List Int).length) : Nat) : Int) = 0 := by decide +kernel
  rw [v1] at c1
  rw [v3] at c3
  rw [dg_zero] at c2
  refine ⟨[], ?_⟩
  have h0 : (0 : Nat) ≤ PySem.sizeLine := Nat.zero_le _
  have h1 : (1 : Nat) ≤ PySem.sizeLine := size_ok (by omega)
  have h3 : (3 : Nat) ≤ PySem.sizeLine := size_ok (by omega)
  have e0 : exec (R 6) (hd b_law) [some (.scr ns), none, none, none, none, none, none, none, none, none, none, none, none, none, none, none] [] = some (.nx [some (.scr ns), some (.ref 0), none, none, none, none, none, none, none, none, none, none, none, none, none, none] [ol (0 :: 70 :: 3 :: ns)]) := by
    have hz : 3 + (dints ns).length ≤ PySem.sizeLine := size_ok (by simp [dints]; omega)
    have hb : ∀ h : H, bltD h .list [.scr ns] = some (.lst (dints ns)) := fun h => rfl
    refine asg_ (Γ := R 6) (i := 1) (e := .addM (.lst (.cons (.cst (.int 0)) (.cons (.cst (.int 70)) (.cons (.cst (.int 3)) .nil)))) (.blt .list (.cons (.var 0) .nil))) ?_
    simp only [evalE, evalA, List.getElem?_cons_succ, List.getElem?_cons_zero, Option.bind_some, Option.map_some, dats, List.length_cons, List.length_nil, Nat.zero_add, Nat.reduceAdd, if_pos h3, hb, datOf, if_pos hz]
    rfl
  have e2 : exec (R 6) (th 2 b_law) (some (.scr ns) :: some (.ref 0) :: y) [ol l1] = some (.rt (.bl true) [ol l1]) := by
    have q1 : eqD (.tuple (dints [])) (.tuple []) = some true := by
      have := eqD_tup [] []
      simpa using this
    have c1' : R 6 15 [.int 2, .tup [.int 1, .int 0, .int 1], .int (2 ^ 40 * 341 + 21)] [ol l1] = some (.int 6, [ol l1]) := c1
    have c3' : R 6 15 [.int 3, .tup [.int 2], .int 0] [ol l1] = some (.int 0, [ol l1]) := c3
    have b1 : ∀ h : H, binop h .pow (.dat (.int 2)) (.dat (.int 40)) = some (.int (2 ^ 40)) := fun h => rfl
    have b2 : ∀ h : H, binop h .mul (.dat (.int (2 ^ 40))) (.dat (.int 341)) = some (.int (2 ^ 40 * 341)) := fun h => rfl
    have b3 : ∀ h : H, binop h .add (.dat (.int (2 ^ 40 * 341))) (.dat (.int 21)) = some (.int (2 ^ 40 * 341 + 21)) := fun h => rfl
    have t2 : evalE (R 6) (.tup .nil) (some (.scr ns) :: some (.ref 0) :: y) [ol l1] = some (.tup [], [ol l1]) := by
      simp only [evalE, evalA, Option.bind_some, dats, List.length_nil, if_pos h0]
    show exec (R 6) (.ret _) _ _ = _
    refine ret_ ?_
    refine (and_t (h1 := [ol l1]) (cmp_i (n := 6) (h1 := [ol l1]) ?_ rfl)).trans ((and_t (h1 := [ol l1]) ?_).trans (cmp_i (n := 0) (h1 := [ol l1]) ?_ rfl))
    · simp only [evalE, evalA, Option.bind_some, Option.map_some, dats, List.length_cons, List.length_nil, Nat.zero_add, Nat.reduceAdd, if_pos h3, b1, b2, b3, c1']
    · simp only [evalE, evalA, Option.bind_some, Option.map_some, c2, dats, List.length_nil, if_pos h0, cmpop, datOf, q1]
    · simp only [evalE, evalA, Option.bind_some, Option.map_some, dats, List.length_cons, List.length_nil, Nat.zero_add, if_pos h1, c3']
  have e4 : exec (R 6) b_law [some (.scr ns), none, none, none, none, none, none, none, none, none, none, none, none, none, none, none] [] = some (.rt (.bl true) [ol l1]) := by
    show exec (R 6) (.seq (hd b_law) (.seq x_law_6 (.seq (th 2 b_law) .skip))) _ _ = _
    exact (seq_nx e0).trans ((seq_nx e1).trans (seq_rt e2))
  rw [R_23]
  exact runs_rt (f := ⟨1, 16, b_law⟩) rfl e4 rfl
end K00

namespace K00
open PySem PySem.Spec PyProof.Rows L2 Z
abbrev RR : PySem.W.OpenRow := PySem.W.OpenLaw.row PySem.Challenge.rw_wholedigits_k00_whole_digits_there_and_b
def fas : List He.Fa := faOf ds nums
def fns : List He.DefD := Z.fnOf ds
abbrev hk : PySem.W.Hook := He.hookD 4 fas fns
def ob (s : PySem.W.SharedT) : He.AlD := He.obsDG 4 fas fns (HandSHeadRun.getT s)
theorem ob_eq (s : PySem.W.SharedT) : ob s = hk.obs s.abs := He.obsDG_eq (HandSHeadRun.getT_eq s)
def loose : List Str := (["DigitsError", "InvalidInteger", "InvalidRows", "LEAST_BASE", "MOST_BASE", "is_integer", "is_natural", "is_base", "are_digits", "check_base", "check_from", "check_digits", "digits_of", "number_from", "digits", "number_of", "digit_sum", "power_of", "power_in", "check_block", "block_count", "_law_take", "_law_same", "_law_digits", "_law_number", "_law_far", "_law_blocks", "_law_some"] : List PySem.Str)
theorem top_run (w : World) : HandSHeadRun.RunEq RR (PySem.W.view RR.prog [32]) hk ob 6000 loose w := by
  intro os
  kernel_rfl
end K00
open PySem PySem.W PySem.Calls PyProof.Rows
theorem PySem.Challenge.cw_wholedigits_k00_whole_digits_there_and_b_holds : PySem.Challenge.rw_wholedigits_k00_whole_digits_there_and_b.Holds := by
  w_on; o_law
  refine HandSHeadRun.head_any (r := K00.RR) (q := view K00.RR.prog [32]) (H := K00.hk) (ob := K00.ob) (M := 6000) (loose := K00.loose) (d := HandSHeadRun.topDef K00.RR.prog 32) (kwd := []) K00.ob_eq
    (by kernel_rfl) (fun s => by kernel_rfl) K00.top_run (by kernel_rfl) (by kernel_rfl) (by kernel_rfl) (by rfl) (by first | assumption | decide +kernel) (by decide +kernel) ⟨rfl, rfl, rfl, rfl, rfl, by decide +kernel⟩ ?hw ?hc
  case hw => w_witness2
  case hc =>
    exact Z.walkZ (l := PySem.Challenge.rw_wholedigits_k00_whole_digits_there_and_b) (n := 63) (ds := K00.ds) (nums := K00.nums) (g := 23) rfl (by decide) (by kernel_rfl) ⟨rfl, by decide, by decide⟩ (by kernel_rfl) rfl K00.chk (fun ns hl _ => K00.law_all ns hl)

