import PyProof.Rows.All
import Wide.All
import OpenK.AllK
import Wide.FinOn
import PySem.Str
import HandS.ForMost
import HandS.Exc
import HandS.TryOnly
import HandS.Defaults
import HandS.Wide
import HandS.TupAny
import HandS.IsInst
import PyProof.StrBlock2
import HandS.ExcOwn
import HandS.ExcIs
import HandS.Zip
import HandS.NoneIn
import HandS.WordsExc
import HandS.RaiseMore
import KE.GoesMore
import KE.GoesEnum
import KE.KStateDown
import HandS.Head0
import HandS.Head1
import HandS.Head2
import HandS.HeadEnd
import HandS.HeadHook1
import HandS.HeadHook2
import PySem.Challenge.RW_nearerhop_k15_mixes_of_spots_and_forms
set_option linter.all false
set_option maxRecDepth 100000
/-! A small language of one's own: plain data, cells that change, expressions and statements; what they come to. -/
namespace Mp
open PySem

/-- plain data; a text is its code points -/
inductive P where
  | non | bl (b : Bool) | int (i : Int) | str (s : List Nat) | tup (xs : List P) | lst (xs : List P) | scr (ns : List Int)
  | fn (i : Nat) | cls (i : Nat) | ty (n : String)
/-- a value: plain, or a list that changes (by its number) -/
inductive D where
  | p (x : P) | ref (n : Nat)
abbrev Cell := Option (List D)
abbrev Hea := List Cell
abbrev LIM : Nat := 1000000
inductive R (α : Type) where
  | ok (a : α) (h : Hea) | exn (c : Nat) (fs : List P) (h : Hea) | stuck
def R.bind {α β : Type} : R α → (α → Hea → R β) → R β
  | .ok a h, f => f a h
  | .exn c fs h, _ => .exn c fs h
  | .stuck, _ => .stuck
def R.noexn {α : Type} : R α → R α
  | .ok a h => .ok a h
  | _ => .stuck
def R.ofO {α : Type} (o : Option α) (h : Hea) : R α := match o with
  | some a => .ok a h
  | none => .stuck

inductive BOp where
  | add | sub | mul | fdiv | mod | pow
  deriving DecidableEq
inductive COp where
  | lt | le | gt | ge | eq | ne | is_ | isnot | in_ | notin
  deriving DecidableEq
inductive Blt where
  | len | isinst | abs | min | max | int | str | tuple | list | sum | all | any
  deriving DecidableEq
inductive Mt where
  | append | pop | split | join | partition | startswith | count
  deriving DecidableEq
inductive Tg where
  | one (i : Nat) | many (is : List Nat)

mutual
inductive Ex where
  | var (i : Nat) | con (v : P) | glo (v : P)
  | bin (o : BOp) (a b : Ex) | neg (a : Ex)
  | cmp (o : COp) (a b : Ex) | chain (o o' : COp) (a b c : Ex)
  | and_ (a b : Ex) | or_ (a b : Ex) | not_ (a : Ex) | ite (c a b : Ex)
  | tup (es : Exs) | lst (m : Bool) (es : Exs)
  | idx (a i : Ex) | slc (m : Bool) (a : Ex) (lo hi : Exs)
  | call (f : Nat) (es : Exs) | callv (e : Ex) (es : Exs)
  | blt (b : Blt) (m : Bool) (es : Exs)
  | meth (t : Mt) (m : Bool) (o : Ex) (es : Exs)
  | comp (m : Bool) (vs : List Nat) (tg : Tg) (it : It) (cond : Exs) (elt : Ex)
  | isE (c : Nat) | fldE (k : Nat)
  | fstr (es : Exs) | bad
inductive Exs where
  | nil | cons (e : Ex) (r : Exs)
inductive It where
  | seq (e : Ex) | rng (es : Exs) | zip (a b : Ex) | enum (a : Ex)
end
mutual
inductive St where
  | set (i : Nat) (e : Ex) | par (i j : Nat) (a b : Ex) | unp (is : List Nat) (e : Ex) | seti (o i e : Ex)
  | expr (e : Ex) | ret (e : Ex) | retN
  | if_ (c : Ex) (a b : Sts) | while_ (fuel : Nat) (c : Ex) (b : Sts) | for_ (tg : Tg) (it : It) (b : Sts)
  | brk | cont | pass
  | raise (c : Nat) (es : Exs) | try_ (b : Sts) (c : Nat) (i : Option Nat) (s : Sts)
  | frz (i : Nat) | bad
inductive Sts where
  | nil | cons (s : St) (r : Sts)
end

/-! ### operations on data -/
def mulOk (i j : Int) : Bool := decide (i.natAbs.log2 + j.natAbs.log2 < 1000000)
def divOk (j : Int) : Bool := decide (0 < j) && decide (j.natAbs.log2 < 9000)
def binP : BOp → P → P → Option P
  | .add, .int i, .int j => some (.int (i + j))
  | .add, .str s, .str t => if s.length + t.length ≤ LIM then some (.str (s ++ t)) else none
  | .add, .tup s, .tup t => if s.length + t.length ≤ LIM then some (.tup (s ++ t)) else none
  | .add, .lst s, .lst t => if s.length + t.length ≤ LIM then some (.lst (s ++ t)) else none
  | .sub, .int i, .int j => some (.int (i - j))
  | .mul, .int i, .int j => if mulOk i j = true then some (.int (i * j)) else none
  | .mul, .lst s, .int k => if k.toNat ≤ LIM ∧ -LIM ≤ k ∧ s.length * k.toNat ≤ LIM then some (.lst (List.replicate k.toNat s).flatten) else none
  | .mul, .str s, .int k => none
  | .fdiv, .int i, .int j => if divOk j = true then some (.int (i / j)) else none
  | .mod, .int i, .int j => if 0 < j then some (.int (i % j)) else none
  | .pow, .int i, .int j => if 0 ≤ j ∧ j ≤ 1000000 ∧ i.natAbs < 2 ^ 64 then some (.int (i ^ j.toNat)) else none
  | _, _, _ => none
def b2i (b : Bool) : Int := if b then 1 else 0
mutual
/-- == of data -/
def eqP : P → P → Bool
  | .non, .non => true
  | .bl a, .bl b => a == b
  | .bl a, .int j => (if a then 1 else 0) == j
  | .int i, .bl b => i == (if b then 1 else 0)
  | .int i, .int j => i == j
  | .str x, .str y => x == y
  | .lst xs, .lst ys => eqL xs ys
  | .tup xs, .tup ys => eqL xs ys
  | _, _ => false
def eqL : List P → List P → Bool
  | [], [] => true
  | x :: xs, y :: ys => eqP x y && eqL xs ys
  | _, _ => false
end
mutual
/-- data that == may ask: at most so deep -/
def okE : Nat → P → Bool
  | _, .non | _, .bl _ | _, .int _ => true
  | _, .str s => s.all fun c => decide (c < 1114112)
  | n, .lst xs | n, .tup xs => decide (0 < n) && okL (n - 1) xs
  | _, _ => false
def okL : Nat → List P → Bool
  | _, [] => true
  | n, x :: xs => okE n x && okL n xs
end
def ltL : List Nat → List Nat → Bool
  | [], [] => false
  | [], _ :: _ => true
  | _ :: _, [] => false
  | x :: xs, y :: ys => if x = y then ltL xs ys else decide (x < y)
def occ (s t : List Nat) : Bool := match t with
  | [] => s.isEmpty
  | c :: r => s.isPrefixOf (c :: r) || occ s r
def flat : P → Bool
  | .non | .bl _ | .int _ | .str _ => true
  | _ => false
def isNon : P → Bool
  | .non => true
  | _ => false
def cmpP : COp → P → P → Option Bool
  | .lt, .int i, .int j => some (decide (i < j))
  | .le, .int i, .int j => some (decide (i ≤ j))
  | .gt, .int i, .int j => some (decide (j < i))
  | .ge, .int i, .int j => some (decide (j ≤ i))
  | .eq, x, y => if okE 50 x && okE 50 y then some (eqP x y) else none
  | .ne, x, y => if okE 50 x && okE 50 y then some (!eqP x y) else none
  | .is_, x, .non => some (isNon x)
  | .isnot, x, .non => some (!isNon x)
  | .in_, x, .tup ys => if flat x && ys.all flat then some (ys.any fun y => eqP y x) else none
  | .notin, x, .tup ys => if flat x && ys.all flat then some (!ys.any fun y => eqP y x) else none
  | .in_, x, .lst ys => if flat x && ys.all flat then some (ys.any fun y => eqP y x) else none
  | .notin, x, .lst ys => if flat x && ys.all flat then some (!ys.any fun y => eqP y x) else none
  | .in_, .str [c], .str t => some (decide (c ∈ t))
  | .notin, .str [c], .str t => some (!decide (c ∈ t))
  | _, _, _ => none
/-- the place of an index -/
def place (n : Nat) (i : Int) : Option Nat := if 0 ≤ i then (if i < n then some i.toNat else none) else if -(n : Int) ≤ i then some (i + n).toNat else none
def atP {α : Type} (xs : List α) (i : Int) : Option α := (place xs.length i).bind fun j => xs[j]?
/-- a slice's end -/
def edge (n d : Nat) : Option Int → Nat
  | none => d
  | some v => if v < 0 then (v + n).toNat else min v.toNat n
def cut {α : Type} (xs : List α) (lo hi : Option Int) : List α := (xs.drop (edge xs.length 0 lo)).take (edge xs.length xs.length hi - edge xs.length 0 lo)
def kindS : P → Option String
  | .non => some "NoneType"
  | .bl _ => some "bool"
  | .int _ => some "int"
  | .str _ => some "str"
  | .tup _ => some "tuple"
  | .lst _ => some "list"
  | _ => none
/-- isinstance by the names of built-in classes -/
def kindsL : List String := ["NoneType", "bool", "int", "str", "tuple", "list"]
def clssL : List String := ["bool", "int", "str", "tuple", "list", "dict"]
def isT (a b : String) : Option Bool := if kindsL.contains a && clssL.contains b then some (a == b || (a == "bool" && b == "int")) else none
def isTs : String → List P → Option Bool
  | _, [] => some false
  | k, .ty b :: r => (isT k b).bind fun q => (isTs k r).map fun q' => q || q'
  | _, _ => none
def truP : P → Option Bool
  | .non => some false
  | .bl b => some b
  | .int i => some (i != 0)
  | .str s => if s.length ≤ LIM then some (!s.isEmpty) else none
  | .tup xs => some (!xs.isEmpty)
  | .lst xs => some (!xs.isEmpty)
  | _ => none

/-! ### cells -/
def pures : List D → Option (List P)
  | [] => some []
  | .p x :: r => (pures r).map (x :: ·)
  | .ref _ :: _ => none
def cellAt (h : Hea) (n : Nat) : Option (List D) := match h[n]? with
  | some (some ds) => some ds
  | _ => none
/-- what is read as data -/
def view (h : Hea) : D → Option P
  | .p x => some x
  | .ref n => (cellAt h n).bind fun ds => (pures ds).map P.lst
def mk (m : Bool) (ds : List D) (h : Hea) : R D := if ds.length ≤ LIM then (match m with
  | true => .ok (.ref h.length) (h ++ [some ds])
  | false => match pures ds with
    | some xs => .ok (.p (.lst xs)) h
    | none => .stuck) else .stuck
/-- a list of data comes: as data, or to be changed -/
def out (m : Bool) (xs : List P) (h : Hea) : R D := match m with
  | true => .ok (.ref h.length) (h ++ [some (xs.map D.p)])
  | false => .ok (.p (.lst xs)) h
/-- a list of data within x is handed out anew where it is wanted to be changed -/
def outP (m : Bool) (x : P) (h : Hea) : R D := match m, x with
  | false, x => .ok (.p x) h
  | true, .lst xs => out true xs h
  | true, _ => .stuck

abbrev Slots := List (Option D)
def setsD (ρ : Slots) : List Nat → List D → Slots
  | i :: is, d :: ds => setsD (ρ.set i (some d)) is ds
  | _, _ => ρ
/-- the parts of what is unpacked -/
def partsD (h : Hea) (d : D) : Option (List D) := match d with
  | .p (.tup xs) => some (xs.map D.p)
  | .p (.lst xs) => some (xs.map D.p)
  | .p _ => none
  | .ref n => cellAt h n
def bindD (h : Hea) (ρ : Slots) (t : Tg) (d : D) : Option Slots := match t with
  | .one i => some (ρ.set i (some d))
  | .many is => match partsD h d with
    | some ds => if ds.length = is.length then some (setsD ρ is ds) else none
    | none => none
def bindTg (ρ : Slots) (t : Tg) (x : P) : Option Slots := bindD [] ρ t (.p x)
def wipe (ρ : Slots) : List Nat → Slots
  | [] => ρ
  | v :: vs => (wipe ρ vs).set v none
def items : P → Option (List P)
  | .tup xs => some xs
  | .lst xs => some xs
  | .str s => if s.length ≤ LIM then some (s.map fun c => .str [c]) else none
  | _ => none
def seqOf : P → Option (List P)
  | .tup xs => some xs
  | .lst xs => some xs
  | _ => none
def intsP : List P → Option (List Int)
  | [] => some []
  | .int i :: r => (intsP r).map (i :: ·)
  | _ => none
def bools : List P → Option (List Bool)
  | [] => some []
  | .bl b :: r => (bools r).map (b :: ·)
  | _ => none
def rngL (lo hi : Int) : List P := (List.range (hi - lo).toNat).map fun k => P.int (lo + (k : Nat))
/-- built-in functions of data -/
def bltP : Blt → List P → Option P
  | .len, [.tup xs] => some (.int xs.length)
  | .len, [.lst xs] => some (.int xs.length)
  | .len, [.str s] => if s.length ≤ LIM then some (.int s.length) else none
  | .isinst, [x, .ty b] => (kindS x).bind fun k => (isT k b).map P.bl
  | .isinst, [x, .tup ts] => (kindS x).bind fun k => (isTs k ts).map P.bl
  | .abs, [.int i] => some (.int (if i < 0 then -i else i))
  | .max, [.int i, .int j] => some (.int (if j > i then j else i))
  | .min, [.int i, .int j] => some (.int (if j < i then j else i))
  | .int, [.int i] => some (.int i)
  | .int, [.bl b] => some (.int (if b then 1 else 0))
  | .tuple, [.tup xs] => some (.tup xs)
  | .tuple, [.lst xs] => some (.tup xs)
  | .list, [.tup xs] => some (.lst xs)
  | .list, [.lst xs] => some (.lst xs)
  | .list, [.scr ns] => some (.lst (ns.map P.int))
  | .sum, [.lst xs] => (intsP xs).map fun ns => .int ns.sum
  | .sum, [.tup xs] => (intsP xs).map fun ns => .int ns.sum
  | .all, [.lst xs] => (bools xs).map fun bs => .bl (bs.all id)
  | .any, [.lst xs] => (bools xs).map fun bs => .bl (bs.any id)
  | _, _ => none
def views (h : Hea) : List D → Option (List P)
  | [] => some []
  | d :: r => (view h d).bind fun x => (views h r).map (x :: ·)

/-! ### loops -/
def compLoop (one : P → Hea → R (Option D)) : List P → Hea → R (List D)
  | [], h => .ok [] h
  | x :: xs, h => (one x h).bind fun o h => (compLoop one xs h).bind fun r h => .ok (match o with | some d => d :: r | none => r) h
inductive RS where
  | next (ρ : Slots) (h : Hea) | ret (d : D) (h : Hea) | brk (ρ : Slots) (h : Hea) | cont (ρ : Slots) (h : Hea) | exn (c : Nat) (fs : List P) (ρ : Slots) (h : Hea) | stuck
def forLoop (body : P → Slots → Hea → RS) : List P → Slots → Hea → RS
  | [], ρ, h => .next ρ h
  | x :: xs, ρ, h => match body x ρ h with
    | .next ρ h => forLoop body xs ρ h
    | .cont ρ h => forLoop body xs ρ h
    | .brk ρ h => .next ρ h
    | .ret d h => .ret d h
    | .exn c fs ρ h => .exn c fs ρ h
    | .stuck => .stuck
def RS.ofR {α : Type} (r : R α) (ρ : Slots) (f : α → Hea → RS) : RS := match r with
  | .ok a h => f a h
  | .exn c fs h => .exn c fs ρ h
  | .stuck => .stuck
def whileLoop (c : Slots → Hea → R Bool) (body : Slots → Hea → RS) : Nat → Slots → Hea → RS
  | 0, _, _ => .stuck
  | n + 1, ρ, h => RS.ofR (c ρ h) ρ fun b h => if b = true then (match body ρ h with
    | .next ρ h => whileLoop c body n ρ h
    | .cont ρ h => whileLoop c body n ρ h
    | .brk ρ h => .next ρ h
    | .ret d h => .ret d h
    | .exn c fs ρ h => .exn c fs ρ h
    | .stuck => .stuck) else .next ρ h
def RS.bind (r : RS) (f : Slots → Hea → RS) : RS := match r with
  | .next ρ h => f ρ h
  | .ret d h => .ret d h
  | .brk ρ h => .brk ρ h
  | .cont ρ h => .cont ρ h
  | .exn c fs ρ h => .exn c fs ρ h
  | .stuck => .stuck
end Mp

set_option linter.all false
set_option maxRecDepth 100000
namespace Mp
open PySem

structure Gm where
  call : Nat → List D → Hea → R D
  bs : Nat
def truD (h : Hea) (d : D) : Option Bool := match d with
  | .p x => truP x
  | .ref n => (cellAt h n).map fun ds => !ds.isEmpty
/-- a list may be put into another one that is as young as this call -/
def may (bs n : Nat) : D → Bool
  | .p _ => true
  | .ref _ => decide (bs ≤ n)
/-- who has the method -/
def isList : Mt → Bool
  | .append | .pop => true
  | _ => false
def recv (t : Mt) (h : Hea) (x : D) : Bool := match x with
  | .ref n => isList t && (cellAt h n).isSome
  | .p (.str _) => !isList t
  | _ => false
/-- methods of texts -/
def strP : Mt → List Nat → List P → Option P
  | _, _, _ => none
/-- a method of a list that changes, of a text -/
def methD (bs : Nat) (t : Mt) (mu : Bool) (o : D) (ds : List D) (h : Hea) : R D := match t, o, ds with
  | .append, .ref n, [d] => match cellAt h n with
    | some xs => if xs.length < LIM ∧ may bs n d = true then .ok (.p .non) (h.set n (some (xs ++ [d]))) else .stuck
    | none => .stuck
  | .pop, .ref n, [] => match cellAt h n with
    | some xs => (match xs[xs.length - 1]? with
      | some d => .ok d (h.set n (some xs.dropLast))
      | none => .stuck)
    | none => .stuck
  | .pop, .ref n, [.p (.int i)] => match cellAt h n with
    | some xs => (match place xs.length i with
      | some k => (match xs[k]? with
        | some d => .ok d (h.set n (some (xs.eraseIdx k)))
        | none => .stuck)
      | none => .stuck)
    | none => .stuck
  | t, .p (.str s), ds => (match (views h ds).bind (strP t s) with
    | some y => outP mu y h
    | none => .stuck)
  | _, _, _ => .stuck
/-- len of a list that changes -/
def lenD (b : Blt) (ds : List D) (h : Hea) : Option Nat := match b, ds with
  | .len, [.ref n] => (cellAt h n).map List.length
  | _, _ => none
def idxD (h : Hea) (o i : D) : Option D := match o, i with
  | .p (.tup xs), .p (.int i) => (atP xs i).map D.p
  | .p (.lst xs), .p (.int i) => (atP xs i).map D.p
  | .p (.str s), .p (.int i) => if s.length ≤ LIM then (atP s i).map fun c => D.p (.str [c]) else none
  | .ref n, .p (.int i) => (cellAt h n).bind fun ds => atP ds i
  | _, _ => none
def ends : List D → Option (Option Int)
  | [] => some none
  | [.p (.int i)] => some (some i)
  | _ => none
def slcP (x : P) (lo hi : Option Int) : Option P := match x with
  | .tup xs => some (.tup (cut xs lo hi))
  | .lst xs => some (.lst (cut xs lo hi))
  | .str s => if s.length ≤ LIM then some (.str (cut s lo hi)) else none
  | _ => none
def subT (c k : Nat) : Bool := c == k || k == 0
def fsig : Nat → Nat := id
def partS : P → Option (List Nat)
  | .str s => some s
  | _ => none
mutual
/-- what is said of a caught exception -/
def hotE (k : Nat) (fs : List P) : Ex → Option P
  | .con v => some v
  | .isE c => some (.bl (subT k c))
  | .fldE j => fs[j]?
  | .tup es => (hotEs k fs es).bind fun xs => if xs.length ≤ LIM then some (.tup xs) else none
  | .lst _ es => (hotEs k fs es).bind fun xs => if xs.length ≤ LIM then some (.lst xs) else none
  | _ => none
def hotEs (k : Nat) (fs : List P) : Exs → Option (List P)
  | .nil => some []
  | .cons e r => (hotE k fs e).bind fun x => (hotEs k fs r).map (x :: ·)
end
/-- an except suite: none: it runs through -/
def hotS (k : Nat) (fs : List P) : Sts → Option (Option P)
  | .cons (.ret e) .nil => (hotE k fs e).map some
  | .cons .retN .nil => some (some .non)
  | .cons .pass .nil => some none
  | _ => none
def inR (i : Option Nat) (ρ : Slots) : Bool := match i with
  | some i => decide (i < ρ.length)
  | none => true
def offR (i : Option Nat) (ρ : Slots) : Slots := match i with
  | some i => ρ.set i none
  | none => ρ
def tryEnd (r : Option (Option P)) (i : Option Nat) (ρ : Slots) (h : Hea) : RS := if inR i ρ = true then (match r with
  | some none => .next (offR i ρ) h
  | some (some x) => .ret (.p x) h
  | none => .stuck) else .stuck
mutual
/-- what an expression comes to -/
def ev (G : Gm) : Slots → Ex → Hea → R D
  | ρ, .var i, h => match ρ[i]? with
    | some (some d) => .ok d h
    | _ => .stuck
  | _, .con v, h => .ok (.p v) h
  | _, .glo v, h => .ok (.p v) h
  | ρ, .bin o a b, h => (ev G ρ a h).bind fun x h => (ev G ρ b h).bind fun y h => match x, y with
    | .p x, .p y => R.ofO ((binP o x y).map D.p) h
    | _, _ => .stuck
  | ρ, .neg a, h => (ev G ρ a h).bind fun x h => match x with
    | .p (.int i) => .ok (.p (.int (-i))) h
    | _ => .stuck
  | ρ, .cmp o a b, h => (ev G ρ a h).bind fun x h => (ev G ρ b h).bind fun y h => R.ofO (((view h x).bind fun x => (view h y).bind fun y => cmpP o x y).map fun k => D.p (.bl k)) h
  | ρ, .chain o o' a b c, h => (ev G ρ a h).bind fun x h => (ev G ρ b h).bind fun y h => match ((view h x).bind fun x => (view h y).bind fun y => cmpP o x y) with
    | some true => (ev G ρ c h).bind fun z h => R.ofO (((view h y).bind fun y => (view h z).bind fun z => cmpP o' y z).map fun k => D.p (.bl k)) h
    | some false => .ok (.p (.bl false)) h
    | none => .stuck
  | ρ, .and_ a b, h => (ev G ρ a h).bind fun x h => match x with
    | .p (.bl true) => ev G ρ b h
    | .p (.bl false) => .ok (.p (.bl false)) h
    | _ => .stuck
  | ρ, .or_ a b, h => (ev G ρ a h).bind fun x h => match x with
    | .p (.bl true) => .ok (.p (.bl true)) h
    | .p (.bl false) => ev G ρ b h
    | _ => .stuck
  | ρ, .not_ a, h => (ev G ρ a h).bind fun x h => match x with
    | .p (.bl k) => .ok (.p (.bl (!k))) h
    | _ => .stuck
  | ρ, .ite c a b, h => (evT G ρ c h).bind fun k h => if k = true then ev G ρ a h else ev G ρ b h
  | ρ, .tup es, h => (evs G ρ es h).bind fun ds h => match pures ds with
    | some xs => if xs.length ≤ LIM then .ok (.p (.tup xs)) h else .stuck
    | none => .stuck
  | ρ, .lst m es, h => (evs G ρ es h).bind fun ds h => mk m ds h
  | ρ, .idx a i, h => (ev G ρ a h).bind fun x h => (ev G ρ i h).bind fun y h => R.ofO (idxD h x y) h
  | ρ, .slc m a lo hi, h => (ev G ρ a h).bind fun x h => (evs G ρ lo h).bind fun l h => match ends l with
    | none => .stuck
    | some l => (evs G ρ hi h).bind fun u h => match ends u with
      | none => .stuck
      | some u => (match (view h x).bind fun x => slcP x l u with
        | some y => outP m y h
        | none => .stuck)
  | ρ, .call f es, h => (evs G ρ es h).bind fun ds h => G.call f ds h
  | ρ, .callv e es, h => (ev G ρ e h).bind fun f h => match f with
    | .p (.fn i) => (evs G ρ es h).bind fun ds h => G.call i ds h
    | _ => .stuck
  | ρ, .blt b m es, h => (evs G ρ es h).bind fun ds h => match lenD b ds h with
    | some n => .ok (.p (.int (n : Nat))) h
    | none => (match (views h ds).bind (bltP b) with
      | some y => outP m y h
      | none => .stuck)
  | ρ, .meth t m o es, h => (ev G ρ o h).bind fun x h => if recv t h x = true then (evs G ρ es h).bind fun ds h => methD G.bs t m x ds h else .stuck
  | ρ, .comp m vs tg it cond elt, h => (evI G ρ it h).bind fun xs h => (R.noexn (compLoop (fun x h => match bindTg (wipe ρ vs) tg x with
      | some ρ' => (evC G ρ' cond h).bind fun k h => if k = true then (ev G ρ' elt h).bind fun d h => .ok (some d) h else .ok none h
      | none => .stuck) xs h)).bind fun ds h => mk m ds h
  | _, .isE c, h => .stuck
  | _, .fldE k, h => .stuck
  | ρ, .fstr es, h => .stuck
  | _, .bad, _ => .stuck
def evs (G : Gm) : Slots → Exs → Hea → R (List D)
  | _, .nil, h => .ok [] h
  | ρ, .cons e r, h => (ev G ρ e h).bind fun d h => (evs G ρ r h).bind fun ds h => .ok (d :: ds) h
def evC (G : Gm) : Slots → Exs → Hea → R Bool
  | _, .nil, h => .ok true h
  | ρ, .cons e _, h => evT G ρ e h
def evI (G : Gm) : Slots → It → Hea → R (List P)
  | ρ, .seq e, h => (ev G ρ e h).bind fun d h => match d with
    | .p x => R.ofO (items x) h
    | .ref _ => .stuck
  | ρ, .rng es, h => (evs G ρ es h).bind fun ds h => match ds with
    | [.p (.int j)] => if j ≤ LIM ∧ -LIM ≤ j then .ok (rngL 0 j) h else .stuck
    | [.p (.int i), .p (.int j)] => if j ≤ LIM ∧ -LIM ≤ j ∧ i ≤ LIM ∧ -LIM ≤ i then .ok (rngL i j) h else .stuck
    | _ => .stuck
  | ρ, .zip a b, h => (ev G ρ a h).bind fun x h => (ev G ρ b h).bind fun y h => match x, y with
    | .p x, .p y => R.ofO ((seqOf x).bind fun xs => (seqOf y).map fun ys => List.zipWith (fun x y => P.tup [x, y]) xs ys) h
    | _, _ => .stuck
  | ρ, .enum a, h => (ev G ρ a h).bind fun x h => match x with
    | .p x => R.ofO ((seqOf x).map fun xs => xs.mapIdx fun k x => P.tup [.int (k : Nat), x]) h
    | _ => .stuck
/-- what a test comes to -/
def evT (G : Gm) : Slots → Ex → Hea → R Bool
  | ρ, .and_ a b, h => (evT G ρ a h).bind fun k h => if k = true then evT G ρ b h else .ok false h
  | ρ, .or_ a b, h => (evT G ρ a h).bind fun k h => if k = true then .ok true h else evT G ρ b h
  | ρ, .not_ a, h => (evT G ρ a h).bind fun k h => .ok (!k) h
  | ρ, e, h => (ev G ρ e h).bind fun d h => R.ofO (truD h d) h
end
mutual
/-- what a statement comes to -/
def ex (G : Gm) : Slots → St → Hea → RS
  | ρ, .set i e, h => RS.ofR (ev G ρ e h) ρ fun d h => .next (ρ.set i (some d)) h
  | ρ, .par i j a b, h => RS.ofR (ev G ρ a h) ρ fun x h => RS.ofR (ev G ρ b h) ρ fun y h => .next ((ρ.set i (some x)).set j (some y)) h
  | ρ, .unp is e, h => RS.ofR (ev G ρ e h) ρ fun d h => match bindD h ρ (.many is) d with
    | some ρ' => .next ρ' h
    | none => .stuck
  | ρ, .seti o i e, h => RS.ofR (ev G ρ e h) ρ fun d h => RS.ofR (ev G ρ o h) ρ fun x h => RS.ofR (ev G ρ i h) ρ fun k h => match x, k with
    | .ref n, .p (.int k) => (match cellAt h n with
      | some xs => (match place xs.length k with
        | some j => if may G.bs n d = true then .next ρ (h.set n (some (xs.set j d))) else .stuck
        | none => .stuck)
      | none => .stuck)
    | _, _ => .stuck
  | ρ, .expr e, h => RS.ofR (ev G ρ e h) ρ fun _ h => .next ρ h
  | ρ, .ret e, h => RS.ofR (ev G ρ e h) ρ fun d h => .ret d h
  | ρ, .retN, h => .ret (.p .non) h
  | ρ, .if_ c a b, h => RS.ofR (evT G ρ c h) ρ fun k h => if k = true then exs G ρ a h else exs G ρ b h
  | ρ, .while_ n c b, h => whileLoop (fun ρ h => evT G ρ c h) (fun ρ h => exs G ρ b h) n ρ h
  | ρ, .for_ tg it b, h => RS.ofR (evI G ρ it h) ρ fun xs h => forLoop (fun x ρ h => match bindTg ρ tg x with
      | some ρ' => exs G ρ' b h
      | none => .stuck) xs ρ h
  | ρ, .brk, h => .brk ρ h
  | ρ, .cont, h => .cont ρ h
  | ρ, .pass, h => .next ρ h
  | ρ, .raise c es, h => RS.ofR (evs G ρ es h) ρ fun ds h => match pures ds with
    | some xs => .exn c xs ρ h
    | none => .stuck
  | ρ, .try_ b c i s, h => match exs G ρ b h with
    | .exn k fs ρ h => if subT k c = true then tryEnd (hotS k fs s) i ρ h else .exn k fs ρ h
    | r => r
  | _, .bad, _ => .stuck
  | ρ, .frz i, h => match ρ[i]? with
    | some (some (.ref n)) => (match (cellAt h n).bind pures with
      | some xs => .next (ρ.set i (some (.p (.lst xs)))) (h.set n none)
      | none => .stuck)
    | _ => .stuck
def exs (G : Gm) : Slots → Sts → Hea → RS
  | ρ, .nil, h => .next ρ h
  | ρ, .cons s r, h => RS.bind (ex G ρ s h) fun ρ h => exs G ρ r h
end
structure Fd where
  np : Nat
  ns : Nat
  body : Sts
def finish (b : Nat) : RS → R D
  | .next _ h => .ok (.p .non) (h.take b)
  | .ret (.p x) h => .ok (.p x) (h.take b)
  | .ret (.ref n) h => .ok (.ref n) h
  | .exn c fs _ h => .exn c fs (h.take b)
  | _ => .stuck
def startS (fd : Fd) (ds : List D) : Slots := ds.map some ++ List.replicate (fd.ns - fd.np) none
/-- a call, so many calls deep -/
def callN (T : List Fd) : Nat → Nat → List D → Hea → R D
  | 0, _, _, _ => .stuck
  | n + 1, f, ds, h => match T[f]? with
    | none => .stuck
    | some fd => if ds.length = fd.np then finish h.length (exs ⟨callN T n, h.length⟩ (startS fd ds) fd.body h) else .stuck
end Mp

set_option Elab.async false
set_option linter.all false
set_option maxRecDepth 100000
set_option maxHeartbeats 1000000
/-! How plain data and cells stand in the abstract heap. -/
namespace Mp
open PySem PySem.Spec PyProof.Rows L2

structure Nm where
  K : PySem.W.Frag
  fa : Nat → Addr
  ca : Nat → Addr

/-- a tuple: tracked, or an object of the module -/
def TpT (K : PySem.W.Frag) (H : Hp) (a : Addr) (xs : List V) : Prop :=
  H a = some (.tup xs) ∨ ∃ (o : Obj) (its : Array Value) (n : Nat), K.lookup a = some o ∧ o.cls = .type "tuple" ∧ o.data = .seq its n ∧ its.size ≤ sizeLine ∧ Vals xs its.toList
theorem TpT.sq {K : PySem.W.Frag} {H : Hp} {a : Addr} {xs : List V} (h : TpT K H a xs) : SqT K H a xs := by
  rcases h with h | h
  · exact .inl (.inl h)
  · exact .inr h
mutual
def RpP (N : Nm) (L : Addr → Prop) (H : Hp) : P → V → Prop
  | .non, v => v = .non
  | .bl b, v => v = .bl b
  | .int i, v => v = .int i
  | .str s, v => v = .str ⟨s.toArray⟩
  | .tup xs, v => ∃ a vs, v = .ref a ∧ TpT N.K H a vs ∧ vs.length ≤ sizeLine ∧ RpL N L H xs vs
  | .lst xs, v => ∃ a vs, v = .ref a ∧ H a = some (.lst vs) ∧ ¬ L a ∧ vs.length ≤ sizeLine ∧ RpL N L H xs vs
  | .scr ns, v => ∃ a, v = .ref a ∧ ((Rd H a (.lst (ns.map V.int)) ∧ ¬ L a) ∨ ∀ G : Hp, SqL N.K G a (ns.map V.int))
  | .fn i, v => v = .ref (N.fa i)
  | .cls i, v => v = .ref (N.ca i)
  | .ty n, v => v = .ty n
def RpL (N : Nm) (L : Addr → Prop) (H : Hp) : List P → List V → Prop
  | [], vs => vs = []
  | x :: xs, vs => ∃ v r, vs = v :: r ∧ RpP N L H x v ∧ RpL N L H xs r
end
def RpD (N : Nm) (m : Nat → Addr) (n : Nat) (L : Addr → Prop) (H : Hp) : D → V → Prop
  | .p x, v => RpP N L H x v
  | .ref k, v => k < n ∧ v = .ref (m k)
def RpDs (N : Nm) (m : Nat → Addr) (n : Nat) (L : Addr → Prop) (H : Hp) : List D → List V → Prop
  | [], vs => vs = []
  | x :: xs, vs => ∃ v r, vs = v :: r ∧ RpD N m n L H x v ∧ RpDs N m n L H xs r
def live (m : Nat → Addr) (h : Hea) (a : Addr) : Prop := ∃ n ds, h[n]? = some (some ds) ∧ m n = a
/-- what may change: the cells, and lists that are being made (Z) -/
def LZ (Z : Addr → Prop) (m : Nat → Addr) (h : Hea) (a : Addr) : Prop := live m h a ∨ Z a
structure StOk (N : Nm) (Z : Addr → Prop) (m : Nat → Addr) (h : Hea) (H : Hp) : Prop where
  zed : ∀ a, Z a → (∃ vs, H a = some (.lst vs)) ∧ ¬ live m h a
  inj : ∀ i j ds es, h[i]? = some (some ds) → h[j]? = some (some es) → m i = m j → i = j
  cel : ∀ n ds, h[n]? = some (some ds) → ∃ vs, H (m n) = some (.lst vs) ∧ vs.length ≤ sizeLine ∧ RpDs N m h.length (LZ Z m h) H ds vs
structure Ext (bs : Nat) (m : Nat → Addr) (h : Hea) (H : Hp) (m' : Nat → Addr) (h' : Hea) (H' : Hp) : Prop where
  len : h.length ≤ h'.length
  mm : ∀ n, n < h.length → m' n = m n
  dead : ∀ n : Nat, h[n]? = some none → h'[n]? = some none
  keep : ∀ b o, H b = some o → ¬ live m h b → H' b = some o
  stay : ∀ b, H b ≠ none → H' b ≠ none
  new : ∀ n ds, h'[n]? = some (some ds) → h.length ≤ n → H (m' n) = none
  refs : ∀ (n : Nat) ds ds', n < bs → h[n]? = some (some ds) → h'[n]? = some (some ds') → ∀ k, D.ref k ∈ ds' → D.ref k ∈ ds

section
variable {N : Nm} {m m' m1 m2 : Nat → Addr} {h h' h1 h2 : Hea} {H H' H1 H2 : Hp} {L L' Z : Addr → Prop} {bs : Nat}

theorem Ext.refl : Ext bs m h H m h H where
  len := Nat.le_refl _
  mm := fun _ _ => rfl
  dead := fun _ e => e
  keep := fun _ _ e _ => e
  stay := fun _ e => e
  new := fun n ds e l => by rw [List.getElem?_eq_none l] at e; cases e
  refs := fun _ _ _ _ e e' k hk => by rw [e] at e'; cases e'; exact hk
theorem Ext.alive (E : Ext bs m h H m' h' H') {n : Nat} {ds} (e : h'[n]? = some (some ds)) (l : n < h.length) : ∃ es, h[n]? = some (some es) := by
  have q : h[n]? = some h[n] := List.getElem?_eq_getElem l
  cases c : h[n] with
  | none =>
    rw [c] at q
    have := E.dead n q
    rw [e] at this; cases this
  | some es => exact ⟨es, by rw [q, c]⟩
theorem Ext.live (E : Ext bs m h H m' h' H') {b : Addr} (l : live m' h' b) : Mp.live m h b ∨ H b = none := by
  obtain ⟨n, ds, e, rfl⟩ := l
  by_cases c : n < h.length
  · obtain ⟨es, q⟩ := E.alive e c
    exact .inl ⟨n, es, q, (E.mm n c).symm⟩
  · exact .inr (E.new n ds e (by omega))
theorem Ext.trans (E : Ext bs m h H m1 h1 H1) (F : Ext bs m1 h1 H1 m2 h2 H2) : Ext bs m h H m2 h2 H2 where
  len := Nat.le_trans E.len F.len
  mm := fun n l => (F.mm n (Nat.lt_of_lt_of_le l E.len)).trans (E.mm n l)
  dead := fun n e => F.dead n (E.dead n e)
  keep := fun b o e nl => F.keep b o (E.keep b o e nl) fun l1 => by
    rcases E.live l1 with z | z
    · exact nl z
    · rw [e] at z; cases z
  stay := fun b e => F.stay b (E.stay b e)
  new := fun n ds e l => by
    by_cases c : n < h1.length
    · obtain ⟨es, q⟩ := F.alive e c
      rw [F.mm n c]
      exact E.new n es q l
    · have z := F.new n ds e (by omega)
      cases q : H (m2 n) with
      | none => rfl
      | some o => exact absurd z (E.stay _ (by rw [q]; exact fun z => nomatch z))
  refs := fun n ds ds' l e e' k hk => by
    have hl : n < h.length := (List.getElem?_eq_some_iff.mp e).1
    have hl1 : n < h1.length := Nat.lt_of_lt_of_le hl E.len
    obtain ⟨es, q⟩ := F.alive e' hl1
    exact E.refs n ds es l e q k (F.refs n es ds' l q e' k hk)
theorem Ext.bsle (E : Ext bs m h H m' h' H') {b : Nat} (l : b ≤ bs) : Ext b m h H m' h' H' := ⟨E.len, E.mm, E.dead, E.keep, E.stay, E.new, fun n ds ds' q => E.refs n ds ds' (Nat.lt_of_lt_of_le q l)⟩

/-- what is kept of data -/
structure Kp (N : Nm) (L : Addr → Prop) (H : Hp) (L' : Addr → Prop) (H' : Hp) : Prop where
  keep : ∀ b o, H b = some o → ¬ L b → H' b = some o
  live : ∀ b, L' b → L b ∨ H b = none
  lst : ∀ b, L b → ∃ vs, H b = some (.lst vs)
theorem Kp.of (S : StOk N Z m h H) (E : Ext bs m h H m' h' H') : Kp N (LZ Z m h) H (LZ Z m' h') H' :=
  ⟨fun b o e n => E.keep b o e fun l => n (.inl l), fun _ l => l.elim (fun l => (E.live l).imp .inl id) fun z => .inl (.inr z), fun b l => by
    rcases l with ⟨n, ds, e, z⟩ | z
    · obtain ⟨vs, q, _⟩ := S.cel n ds e; exact ⟨vs, by rw [← z]; exact q⟩
    · exact (S.zed b z).1⟩
theorem Kp.tup (k : Kp N L H L' H') {a : Addr} {vs : List V} (h : TpT N.K H a vs) : TpT N.K H' a vs := by
  rcases h with h | h
  · exact .inl (k.keep a _ h fun l => by obtain ⟨ws, q⟩ := k.lst a l; rw [h] at q; cases q)
  · exact .inr h
theorem Kp.nl (k : Kp N L H L' H') {a : Addr} (n : ¬ L a) (h : H a ≠ none) : ¬ L' a := fun l => by
  rcases k.live a l with z | z
  · exact n z
  · exact h z
mutual
theorem RpP.ext (k : Kp N L H L' H') : ∀ (x : P) (v : V), RpP N L H x v → RpP N L' H' x v
  | .non, v, e => e
  | .bl _, v, e => e
  | .int _, v, e => e
  | .str _, v, e => e
  | .tup xs, v, e => by
    obtain ⟨a, vs, e1, e2, e3, e4⟩ := e
    exact ⟨a, vs, e1, k.tup e2, e3, RpL.ext k xs vs e4⟩
  | .lst xs, v, e => by
    obtain ⟨a, vs, e1, e2, e3, e4, e5⟩ := e
    exact ⟨a, vs, e1, k.keep a _ e2 e3, k.nl e3 (by rw [e2]; exact fun z => nomatch z), e4, RpL.ext k xs vs e5⟩
  | .scr ns, v, e => by
    obtain ⟨a, e1, e2⟩ := e
    refine ⟨a, e1, ?_⟩
    rcases e2 with ⟨e2 | ⟨o, e2⟩, n⟩ | e2
    · exact .inl ⟨.inl (k.keep a _ e2 n), k.nl n (by rw [e2]; exact fun z => nomatch z)⟩
    · exact .inl ⟨.inr ⟨o, k.keep a _ e2 n⟩, k.nl n (by rw [e2]; exact fun z => nomatch z)⟩
    · exact .inr e2
  | .fn _, v, e => e
  | .cls _, v, e => e
  | .ty _, v, e => e
theorem RpL.ext (k : Kp N L H L' H') : ∀ (xs : List P) (vs : List V), RpL N L H xs vs → RpL N L' H' xs vs
  | [], vs, e => e
  | x :: xs, vs, e => by
    obtain ⟨v, r, e1, e2, e3⟩ := e
    exact ⟨v, r, e1, RpP.ext k x v e2, RpL.ext k xs r e3⟩
end

theorem RpD.ext (S : StOk N Z m h H) (E : Ext bs m h H m' h' H') {d : D} {v : V} (r : RpD N m h.length (LZ Z m h) H d v) : RpD N m' h'.length (LZ Z m' h') H' d v := by
  cases d with
  | p x => exact RpP.ext (Kp.of S E) x v r
  | ref k =>
    obtain ⟨l, e⟩ := r
    exact ⟨Nat.lt_of_lt_of_le l E.len, by rw [E.mm k l]; exact e⟩
theorem RpDs.ext (S : StOk N Z m h H) (E : Ext bs m h H m' h' H') : ∀ {ds : List D} {vs : List V}, RpDs N m h.length (LZ Z m h) H ds vs → RpDs N m' h'.length (LZ Z m' h') H' ds vs
  | [], vs, e => e
  | d :: ds, vs, e => by
    obtain ⟨v, r, e1, e2, e3⟩ := e
    exact ⟨v, r, e1, RpD.ext S E e2, RpDs.ext S E e3⟩
/-! ### lists of pairs -/
theorem RpL.length : ∀ {xs : List P} {vs : List V}, RpL N L H xs vs → xs.length = vs.length
  | [], vs, e => by have e : vs = [] := e; subst e; rfl
  | x :: xs, vs, e => by
    obtain ⟨v, r, e1, _, e3⟩ := e
    rw [e1, List.length_cons, List.length_cons, RpL.length e3]
theorem RpL.get : ∀ {xs : List P} {vs : List V} {i : Nat} {x : P}, RpL N L H xs vs → xs[i]? = some x → ∃ v, vs[i]? = some v ∧ RpP N L H x v
  | [], vs, i, x, _, e => by simp at e
  | y :: ys, vs, 0, x, e, q => by
    obtain ⟨v, r, e1, e2, e3⟩ := e
    have : y = x := by simpa using q
    subst this
    exact ⟨v, by rw [e1]; rfl, e2⟩
  | y :: ys, vs, i + 1, x, e, q => by
    obtain ⟨v, r, e1, e2, e3⟩ := e
    obtain ⟨w, q1, q2⟩ := RpL.get (i := i) (x := x) e3 (by simpa using q)
    exact ⟨w, by rw [e1]; simpa using q1, q2⟩
theorem RpL.app : ∀ {xs ys : List P} {vs ws : List V}, RpL N L H xs vs → RpL N L H ys ws → RpL N L H (xs ++ ys) (vs ++ ws)
  | [], ys, vs, ws, e, f => by have e : vs = [] := e; rw [e]; exact f
  | x :: xs, ys, vs, ws, e, f => by
    obtain ⟨v, r, e1, e2, e3⟩ := e
    exact ⟨v, r ++ ws, by rw [e1]; rfl, e2, RpL.app e3 f⟩
theorem RpL.drop : ∀ {xs : List P} {vs : List V} (n : Nat), RpL N L H xs vs → RpL N L H (xs.drop n) (vs.drop n)
  | xs, vs, 0, e => by simpa using e
  | [], vs, n + 1, e => by have e : vs = [] := e; rw [e]; simp; rfl
  | x :: xs, vs, n + 1, e => by
    obtain ⟨v, r, e1, e2, e3⟩ := e
    rw [e1]
    simpa using RpL.drop n e3
theorem RpL.take : ∀ {xs : List P} {vs : List V} (n : Nat), RpL N L H xs vs → RpL N L H (xs.take n) (vs.take n)
  | xs, vs, 0, e => by simp; rfl
  | [], vs, n + 1, e => by have e : vs = [] := e; rw [e]; simp; rfl
  | x :: xs, vs, n + 1, e => by
    obtain ⟨v, r, e1, e2, e3⟩ := e
    rw [e1]
    exact ⟨v, r.take n, by simp, e2, RpL.take n e3⟩
theorem RpL.rep {xs : List P} {vs : List V} (e : RpL N L H xs vs) : ∀ n : Nat, RpL N L H (List.replicate n xs).flatten (List.replicate n vs).flatten
  | 0 => rfl
  | n + 1 => by
    rw [List.replicate_succ, List.replicate_succ, List.flatten_cons, List.flatten_cons]
    exact e.app (RpL.rep e n)
theorem RpDs.length : ∀ {xs : List D} {vs : List V} {k : Nat}, RpDs N m k L H xs vs → xs.length = vs.length
  | [], vs, _, e => by have e : vs = [] := e; subst e; rfl
  | x :: xs, vs, _, e => by
    obtain ⟨v, r, e1, _, e3⟩ := e
    rw [e1, List.length_cons, List.length_cons, RpDs.length e3]
theorem RpDs.get : ∀ {xs : List D} {vs : List V} {i k : Nat} {x : D}, RpDs N m k L H xs vs → xs[i]? = some x → ∃ v, vs[i]? = some v ∧ RpD N m k L H x v
  | [], vs, i, _, x, _, e => by simp at e
  | y :: ys, vs, 0, _, x, e, q => by
    obtain ⟨v, r, e1, e2, e3⟩ := e
    have : y = x := by simpa using q
    subst this
    exact ⟨v, by rw [e1]; rfl, e2⟩
  | y :: ys, vs, i + 1, k, x, e, q => by
    obtain ⟨v, r, e1, e2, e3⟩ := e
    obtain ⟨w, q1, q2⟩ := RpDs.get (i := i) (x := x) e3 (by simpa using q)
    exact ⟨w, by rw [e1]; simpa using q1, q2⟩
theorem RpDs.app : ∀ {xs ys : List D} {vs ws : List V} {k : Nat}, RpDs N m k L H xs vs → RpDs N m k L H ys ws → RpDs N m k L H (xs ++ ys) (vs ++ ws)
  | [], ys, vs, ws, _, e, f => by have e : vs = [] := e; rw [e]; exact f
  | x :: xs, ys, vs, ws, _, e, f => by
    obtain ⟨v, r, e1, e2, e3⟩ := e
    exact ⟨v, r ++ ws, by rw [e1]; rfl, e2, RpDs.app e3 f⟩
theorem RpDs.one {x : D} {v : V} {k : Nat} (e : RpD N m k L H x v) : RpDs N m k L H [x] [v] := ⟨v, [], rfl, e, rfl⟩
theorem RpDs.set : ∀ {xs : List D} {vs : List V} {k : Nat} (i : Nat) {x : D} {v : V}, RpDs N m k L H xs vs → RpD N m k L H x v → RpDs N m k L H (xs.set i x) (vs.set i v)
  | [], vs, _, i, x, v, e, f => by have e : vs = [] := e; rw [e]; exact rfl
  | y :: ys, vs, _, 0, x, v, e, f => by
    obtain ⟨w, r, e1, e2, e3⟩ := e
    exact ⟨v, r, by rw [e1]; rfl, f, e3⟩
  | y :: ys, vs, _, i + 1, x, v, e, f => by
    obtain ⟨w, r, e1, e2, e3⟩ := e
    exact ⟨w, r.set i v, by rw [e1]; rfl, e2, RpDs.set i e3 f⟩
theorem RpDs.dropLast : ∀ {xs : List D} {vs : List V} {k : Nat}, RpDs N m k L H xs vs → RpDs N m k L H xs.dropLast vs.dropLast
  | [], vs, _, e => by have e : vs = [] := e; rw [e]; exact rfl
  | [y], vs, _, e => by
    obtain ⟨w, r, e1, e2, e3⟩ := e
    have e3 : r = [] := e3
    rw [e1, e3]; exact rfl
  | y :: z :: ys, vs, _, e => by
    obtain ⟨w, r, e1, e2, w2, r2, e3, e4, e5⟩ := e
    rw [e1, e3]
    exact ⟨w, (w2 :: r2).dropLast, rfl, e2, RpDs.dropLast (xs := z :: ys) ⟨w2, r2, rfl, e4, e5⟩⟩
theorem RpDs.eraseIdx : ∀ {xs : List D} {vs : List V} {k : Nat} (i : Nat), RpDs N m k L H xs vs → RpDs N m k L H (xs.eraseIdx i) (vs.eraseIdx i)
  | [], vs, _, i, e => by have e : vs = [] := e; rw [e]; exact rfl
  | y :: ys, vs, _, 0, e => by
    obtain ⟨w, r, e1, e2, e3⟩ := e
    rw [e1]; exact e3
  | y :: ys, vs, _, i + 1, e => by
    obtain ⟨w, r, e1, e2, e3⟩ := e
    exact ⟨w, r.eraseIdx i, by rw [e1]; rfl, e2, RpDs.eraseIdx i e3⟩
theorem RpDs.pure : ∀ {ds : List D} {vs : List V} {k : Nat} {xs : List P}, RpDs N m k L H ds vs → pures ds = some xs → RpL N L H xs vs
  | [], vs, _, xs, e, q => by
    have q : some [] = some xs := q
    cases q
    exact e
  | .ref _ :: _, vs, _, xs, e, q => by cases q
  | .p x :: ds, vs, _, xs, e, q => by
    obtain ⟨v, r, e1, e2, e3⟩ := e
    have q : (pures ds).map (x :: ·) = some xs := q
    cases z : pures ds with
    | none => rw [z] at q; cases q
    | some ys =>
      rw [z] at q
      cases q
      exact ⟨v, r, e1, e2, RpDs.pure e3 z⟩
theorem RpL.ds : ∀ {xs : List P} {vs : List V} {k : Nat}, RpL N L H xs vs → RpDs N m k L H (xs.map D.p) vs
  | [], vs, _, e => e
  | x :: xs, vs, _, e => by
    obtain ⟨v, r, e1, e2, e3⟩ := e
    exact ⟨v, r, e1, e2, RpL.ds e3⟩
theorem pures_length : ∀ {ds : List D} {xs : List P}, pures ds = some xs → ds.length = xs.length
  | [], xs, q => by have q : some [] = some xs := q; cases q; rfl
  | .ref _ :: _, xs, q => by cases q
  | .p x :: ds, xs, q => by
    have q : (pures ds).map (x :: ·) = some xs := q
    cases z : pures ds with
    | none => rw [z] at q; cases q
    | some ys =>
      rw [z] at q
      cases q
      rw [List.length_cons, List.length_cons, pures_length z]
theorem pures_noref : ∀ {ds : List D} {xs : List P}, pures ds = some xs → ∀ k, D.ref k ∉ ds
  | [], xs, q, k => by simp
  | .ref _ :: _, xs, q, k => by cases q
  | .p x :: ds, xs, q, k => by
    have q : (pures ds).map (x :: ·) = some xs := q
    cases z : pures ds with
    | none => rw [z] at q; cases q
    | some ys =>
      have := pures_noref z k
      simp [this]
theorem refs_lt : ∀ {ds : List D} {vs : List V} {n : Nat}, RpDs N m n L H ds vs → ∀ k, D.ref k ∈ ds → k < n
  | [], vs, n, e, k, hk => by simp at hk
  | d :: ds, vs, n, e, k, hk => by
    obtain ⟨v, r, e1, e2, e3⟩ := e
    rcases List.mem_cons.mp hk with z | z
    · rw [← z] at e2; exact e2.1
    · exact refs_lt e3 k z

/-! ### the state's changes -/
theorem StOk.zedE (S : StOk N Z m h H) (E : Ext bs m h H m' h' H') {a : Addr} (z : Z a) : (∃ vs, H' a = some (.lst vs)) ∧ ¬ Mp.live m' h' a := by
  obtain ⟨⟨vs, e⟩, n⟩ := S.zed a z
  refine ⟨⟨vs, E.keep a _ e n⟩, fun l => ?_⟩
  rcases E.live l with q | q
  · exact n q
  · rw [e] at q; cases q
/-- a new object -/
theorem StOk.laid (S : StOk N Z m h H) {p : Addr} {o : HO} (hp : H p = none) : StOk N Z m h (upd H p o) ∧ Ext bs m h H m h (upd H p o) := by
  have E : Ext bs m h H m h (upd H p o) := by
    refine ⟨Nat.le_refl _, fun _ _ => rfl, fun _ e => e, fun b u e _ => ?_, fun b e => ?_, fun n ds e l => ?_, fun _ _ _ _ e e' k hk => by rw [e] at e'; cases e'; exact hk⟩
    · rw [upd_ne (ne_of_none e hp)]; exact e
    · unfold upd; split
      · exact fun z => nomatch z
      · exact e
    · rw [List.getElem?_eq_none l] at e; cases e
  refine ⟨⟨fun a z => S.zedE E z, S.inj, fun n ds e => ?_⟩, E⟩
  obtain ⟨vs, e1, e2, e3⟩ := S.cel n ds e
  exact ⟨vs, by rw [upd_ne (ne_of_none e1 hp)]; exact e1, e2, e3.ext S E⟩
/-- a new cell -/
def putM (m : Nat → Addr) (n : Nat) (p : Addr) : Nat → Addr := fun k => if k = n then p else m k
theorem putM_lt {n k : Nat} {p : Addr} (l : k < n) : putM m n p k = m k := if_neg (by omega)
theorem putM_eq {n : Nat} {p : Addr} : putM m n p n = p := if_pos rfl
theorem app_alive {ds es : List D} {n : Nat} (e : (h ++ [some ds])[n]? = some (some es)) : (n < h.length ∧ h[n]? = some (some es)) ∨ (n = h.length ∧ es = ds) := by
  by_cases c : n < h.length
  · rw [List.getElem?_append_left c] at e
    exact .inl ⟨c, e⟩
  · rw [List.getElem?_append_right (by omega)] at e
    have q : n - h.length = 0 := by
      cases z : n - h.length with
      | zero => rfl
      | succ j => rw [z] at e; simp at e
    rw [q] at e
    have e : some (some ds) = some (some es) := e
    cases e
    exact .inr ⟨by omega, rfl⟩
theorem StOk.cell (S : StOk N Z m h H) {p : Addr} {ds : List D} {vs : List V} (hp : H p = none) (r : RpDs N m h.length (LZ Z m h) H ds vs) (hl : vs.length ≤ sizeLine) :
    StOk N Z (putM m h.length p) (h ++ [some ds]) (upd H p (.lst vs)) ∧ Ext bs m h H (putM m h.length p) (h ++ [some ds]) (upd H p (.lst vs)) ∧
      RpD N (putM m h.length p) (h ++ [some ds]).length (LZ Z (putM m h.length p) (h ++ [some ds])) (upd H p (.lst vs)) (.ref h.length) (.ref p) := by
  have E : Ext bs m h H (putM m h.length p) (h ++ [some ds]) (upd H p (.lst vs)) := by
    refine ⟨by simp, fun n l => putM_lt l, fun n e => ?_, fun b u e _ => ?_, fun b e => ?_, fun n es e l => ?_, fun n es es' _ e e' k hk => ?_⟩
    · rw [List.getElem?_append_left (List.getElem?_eq_some_iff.mp e).1]; exact e
    · rw [upd_ne (ne_of_none e hp)]; exact e
    · unfold upd; split
      · exact fun z => nomatch z
      · exact e
    · rcases app_alive e with ⟨c, _⟩ | ⟨c, _⟩
      · omega
      · rw [c, putM_eq]; exact hp
    · rcases app_alive e' with ⟨_, c⟩ | ⟨c, _⟩
      · rw [e] at c; cases c; exact hk
      · rw [c, List.getElem?_eq_none (Nat.le_refl _)] at e; cases e
  refine ⟨⟨fun a z => S.zedE E z, fun i j d1 d2 e1 e2 q => ?_, fun n es e => ?_⟩, E, by simp, by rw [putM_eq]⟩
  · rcases app_alive e1 with ⟨c1, f1⟩ | ⟨c1, _⟩
    · rcases app_alive e2 with ⟨c2, f2⟩ | ⟨c2, _⟩
      · rw [putM_lt c1, putM_lt c2] at q
        exact S.inj i j _ _ f1 f2 q
      · rw [putM_lt c1, c2, putM_eq] at q
        obtain ⟨ws, z, _⟩ := S.cel i _ f1
        rw [q, hp] at z; cases z
    · rcases app_alive e2 with ⟨c2, f2⟩ | ⟨c2, _⟩
      · rw [putM_lt c2, c1, putM_eq] at q
        obtain ⟨ws, z, _⟩ := S.cel j _ f2
        rw [← q, hp] at z; cases z
      · omega
  · rcases app_alive e with ⟨c, f⟩ | ⟨c, rfl⟩
    · obtain ⟨ws, e1, e2, e3⟩ := S.cel n es f
      rw [putM_lt c]
      exact ⟨ws, by rw [upd_ne (ne_of_none e1 hp)]; exact e1, e2, e3.ext S E⟩
    · rw [c, putM_eq]
      exact ⟨vs, upd_same, hl, r.ext S E⟩
theorem set_alive {c : Cell} {es : List D} {n k : Nat} (e : (h.set n c)[k]? = some (some es)) : (k ≠ n ∧ h[k]? = some (some es)) ∨ (k = n ∧ n < h.length ∧ c = some es) := by
  by_cases q : n = k
  · subst q
    by_cases l : n < h.length
    · rw [List.getElem?_set_self l] at e
      exact .inr ⟨rfl, l, Option.some.inj e⟩
    · rw [List.getElem?_eq_none (by rw [List.length_set]; omega)] at e; cases e
  · rw [List.getElem?_set_ne q] at e
    exact .inl ⟨Ne.symm q, e⟩
/-- a cell changes -/
theorem StOk.write (S : StOk N Z m h H) {n : Nat} {ds es : List D} {ws : List V} (a : h[n]? = some (some ds)) (r : RpDs N m h.length (LZ Z m h) H es ws) (hl : ws.length ≤ sizeLine)
    (hr : n < bs → ∀ k, D.ref k ∈ es → D.ref k ∈ ds) : StOk N Z m (h.set n (some es)) (upd H (m n) (.lst ws)) ∧ Ext bs m h H m (h.set n (some es)) (upd H (m n) (.lst ws)) := by
  have E : Ext bs m h H m (h.set n (some es)) (upd H (m n) (.lst ws)) := by
    refine ⟨by simp, fun _ _ => rfl, fun k e => ?_, fun b u e nl => ?_, fun b e => ?_, fun k d e l => ?_, fun k d d' lb e e' j hj => ?_⟩
    · by_cases q : n = k
      · subst q; rw [a] at e; cases e
      · rw [List.getElem?_set_ne q]; exact e
    · rw [upd_ne fun z => nl ⟨n, ds, a, z.symm⟩]; exact e
    · unfold upd; split
      · exact fun z => nomatch z
      · exact e
    · rw [List.getElem?_eq_none (by rw [List.length_set]; omega)] at e; cases e
    · rcases set_alive e' with ⟨_, c⟩ | ⟨c, _, c2⟩
      · rw [e] at c; cases c; exact hj
      · subst c
        cases c2
        rw [a] at e; cases e
        exact hr lb j hj
  have len : (h.set n (some es)).length = h.length := List.length_set
  refine ⟨⟨fun a z => S.zedE E z, fun i j d1 d2 e1 e2 q => ?_, fun k d e => ?_⟩, E⟩
  · have al : ∀ i d, (h.set n (some es))[i]? = some (some d) → ∃ d', h[i]? = some (some d') := fun i d e => by
      rcases set_alive e with ⟨_, c⟩ | ⟨c, _, _⟩
      · exact ⟨_, c⟩
      · subst c; exact ⟨_, a⟩
    obtain ⟨_, f1⟩ := al i d1 e1
    obtain ⟨_, f2⟩ := al j d2 e2
    exact S.inj i j _ _ f1 f2 q
  · rcases set_alive e with ⟨ne, c⟩ | ⟨c, _, c2⟩
    · obtain ⟨vs, e1, e2, e3⟩ := S.cel k d c
      have nm : m k ≠ m n := fun z => ne (S.inj k n _ _ c a z)
      exact ⟨vs, by rw [upd_ne nm]; exact e1, e2, e3.ext S E⟩
    · subst c
      cases c2
      exact ⟨ws, upd_same, hl, r.ext S E⟩
/-- a cell is closed: its list is data -/
theorem StOk.kill (S : StOk N Z m h H) {n : Nat} {ds : List D} {xs : List P} (a : h[n]? = some (some ds)) (q : pures ds = some xs) :
    StOk N Z m (h.set n none) H ∧ Ext bs m h H m (h.set n none) H ∧ RpP N (LZ Z m (h.set n none)) H (.lst xs) (.ref (m n)) := by
  have hn : n < h.length := (List.getElem?_eq_some_iff.mp a).1
  have E : Ext bs m h H m (h.set n none) H := by
    refine ⟨by simp, fun _ _ => rfl, fun k e => ?_, fun b u e nl => e, fun b e => e, fun k d e l => ?_, fun k d d' lb e e' j hj => ?_⟩
    · by_cases q : n = k
      · subst q; rw [List.getElem?_set_self hn]
      · rw [List.getElem?_set_ne q]; exact e
    · rw [List.getElem?_eq_none (by rw [List.length_set]; omega)] at e; cases e
    · rcases set_alive e' with ⟨_, c⟩ | ⟨c, _, c2⟩
      · rw [e] at c; cases c; exact hj
      · cases c2
  refine ⟨⟨fun a z => S.zedE E z, fun i j d1 d2 e1 e2 z => ?_, fun k d e => ?_⟩, E, ?_⟩
  · rcases set_alive e1 with ⟨_, f1⟩ | ⟨_, _, c⟩
    · rcases set_alive e2 with ⟨_, f2⟩ | ⟨_, _, c⟩
      · exact S.inj i j _ _ f1 f2 z
      · cases c
    · cases c
  · rcases set_alive e with ⟨_, f1⟩ | ⟨_, _, c⟩
    · obtain ⟨vs, e1, e2, e3⟩ := S.cel k d f1
      exact ⟨vs, e1, e2, e3.ext S E⟩
    · cases c
  · obtain ⟨vs, e1, e2, e3⟩ := S.cel n ds a
    have e4 := (e3.ext S E).pure q
    refine ⟨m n, vs, rfl, e1, fun l => ?_, e2, e4⟩
    rcases l with ⟨k, d, e, z⟩ | z
    · rcases set_alive e with ⟨ne, f1⟩ | ⟨_, _, c⟩
      · exact ne (S.inj k n _ _ f1 a z)
      · cases c
    · exact (S.zed _ z).2 ⟨n, ds, a, rfl⟩
/-- behind a call: its own cells go -/
theorem StOk.take (S : StOk N Z m h H) (S1 : StOk N Z m1 h1 H1) (E : Ext h.length m h H m1 h1 H1) {b : Nat} : StOk N Z m1 (h1.take h.length) H1 ∧ Ext b m h H m1 (h1.take h.length) H1 ∧
    ∀ x v, RpP N (LZ Z m1 h1) H1 x v → RpP N (LZ Z m1 (h1.take h.length)) H1 x v := by
  have tk : ∀ {n : Nat} {c : Cell}, (h1.take h.length)[n]? = some c → n < h.length ∧ h1[n]? = some c := fun {n c} e => by
    have l : n < (h1.take h.length).length := (List.getElem?_eq_some_iff.mp e).1
    rw [List.length_take] at l
    have l2 : n < h.length := by omega
    rw [List.getElem?_take_of_lt l2] at e
    exact ⟨l2, e⟩
  have len : (h1.take h.length).length = h.length := by rw [List.length_take]; have := E.len; omega
  have lv : ∀ b, LZ Z m1 (h1.take h.length) b → LZ Z m1 h1 b := fun b l => l.imp (fun ⟨n, ds, e, z⟩ => ⟨n, ds, (tk e).2, z⟩) id
  have kp : Kp N (LZ Z m1 h1) H1 (LZ Z m1 (h1.take h.length)) H1 := ⟨fun _ _ e _ => e, fun b l => .inl (lv b l), fun b l => by
    rcases l with ⟨n, ds, e, z⟩ | z
    · obtain ⟨vs, q, _⟩ := S1.cel n ds e; exact ⟨vs, by rw [← z]; exact q⟩
    · exact (S1.zed b z).1⟩
  have dsx : ∀ {ds : List D} {vs : List V}, (∀ k, D.ref k ∈ ds → k < h.length) → RpDs N m1 h1.length (LZ Z m1 h1) H1 ds vs → RpDs N m1 (h1.take h.length).length (LZ Z m1 (h1.take h.length)) H1 ds vs := by
    intro ds
    induction ds with
    | nil => exact fun _ e => e
    | cons d r ih =>
      intro vs hk e
      obtain ⟨v, w, e1, e2, e3⟩ := e
      refine ⟨v, w, e1, ?_, ih (fun k q => hk k (List.mem_cons_of_mem _ q)) e3⟩
      cases d with
      | p x => exact RpP.ext kp x v e2
      | ref k => exact ⟨by rw [len]; exact hk k List.mem_cons_self, e2.2⟩
  refine ⟨⟨fun a z => ⟨(S1.zed a z).1, fun ⟨n, ds, e, q⟩ => (S1.zed a z).2 ⟨n, ds, (tk e).2, q⟩⟩, fun i j d1 d2 e1 e2 z => S1.inj i j _ _ (tk e1).2 (tk e2).2 z, fun n ds e => ?_⟩, ⟨by rw [len]; exact Nat.le_refl _, E.mm, fun n e => ?_, E.keep, E.stay, fun n ds e l => ?_, fun n ds ds' _ e e' k hk => ?_⟩, fun x v => RpP.ext kp x v⟩
  · obtain ⟨l, e'⟩ := tk e
    obtain ⟨vs, e1, e2, e3⟩ := S1.cel n ds e'
    obtain ⟨es, q⟩ := E.alive e' l
    obtain ⟨ws, _, _, q3⟩ := S.cel n es q
    exact ⟨vs, e1, e2, dsx (fun k hk => refs_lt q3 k (E.refs n es ds l q e' k hk)) e3⟩
  · have l : n < h.length := (List.getElem?_eq_some_iff.mp e).1
    rw [List.getElem?_take_of_lt l]
    exact E.dead n e
  · have := (tk e).1
    omega
  · obtain ⟨l, e''⟩ := tk e'
    exact E.refs n ds ds' l e e'' k hk
end
end Mp

set_option Elab.async false
set_option linter.all false
set_option maxRecDepth 100000
set_option maxHeartbeats 1000000
/-! The operations of data keep what they say. -/
namespace Mp
open PySem PySem.Spec PyProof.Rows L2

theorem lim_le {n : Nat} (h : n ≤ LIM) : n ≤ sizeLine := by rw [sizeLine_eq]; exact Nat.le_trans h (by decide)
def opB : BOp → Operator
  | .add => .Add | .sub => .Sub | .mul => .Mult | .fdiv => .FloorDiv | .mod => .Mod | .pow => .Pow
/-- what is wanted of a result -/
abbrev Got (N : Nm) (Z : Addr → Prop) (bs : Nat) (m : Nat → Addr) (h : Hea) (H : Hp) (z : P) (Q : V → Hp → Prop) : Prop :=
  ∀ H' v, StOk N Z m h H' → Ext bs m h H m h H' → RpP N (LZ Z m h) H' z v → Q v H'
/-- the same of a result with its cells -/
def GotR (N : Nm) (Z : Addr → Prop) (bs : Nat) (m : Nat → Addr) (h : Hea) (H : Hp) (r : R D) (Q : V → Hp → Prop) : Prop := match r with
  | .ok d h' => ∀ m' H' v, StOk N Z m' h' H' → Ext bs m h H m' h' H' → RpD N m' h'.length (LZ Z m' h') H' d v → Q v H'
  | _ => False
section
variable {N : Nm} {X : Cx} {pins : List (Addr × Obj)} {s : Shared} {σ : L2.St} {m : Nat → Addr} {h : Hea} {H : Hp} {bs : Nat} {Z : Addr → Prop} {Q : V → Hp → Prop}

theorem got_same {z : P} {v : V} (S : StOk N Z m h H) (q : Got N Z bs m h H z Q) (r : RpP N (LZ Z m h) H z v) : Q v H := q H v S Ext.refl r
theorem got_tup (hK : X.K = N.K) {xs : List P} {vs : List V} (S : StOk N Z m h H) (q : Got N Z bs m h H (.tup xs) Q) (r : RpL N (LZ Z m h) H xs vs) (hl : vs.length ≤ sizeLine) (p : Addr) (hp : H p = none) : Q (.ref p) (upd H p (.tup vs)) := by
  obtain ⟨S', E⟩ := S.laid (bs := bs) (o := .tup vs) hp
  exact q _ _ S' E ⟨p, vs, rfl, .inl upd_same, hl, RpL.ext (Kp.of S E) _ _ r⟩
theorem got_lst {xs : List P} {vs : List V} (S : StOk N Z m h H) (q : Got N Z bs m h H (.lst xs) Q) (r : RpL N (LZ Z m h) H xs vs) (hl : vs.length ≤ sizeLine) (p : Addr) (hp : H p = none) : Q (.ref p) (upd H p (.lst vs)) := by
  obtain ⟨S', E⟩ := S.laid (bs := bs) (o := .lst vs) hp
  refine q _ _ S' E ⟨p, vs, rfl, upd_same, fun l => ?_, hl, RpL.ext (Kp.of S E) _ _ r⟩
  rcases l with ⟨n, ds, e, z⟩ | z
  · obtain ⟨ws, e1, _⟩ := S.cel n ds e
    rw [z, hp] at e1; cases e1
  · obtain ⟨⟨ws, e1⟩, _⟩ := S.zed p z
    rw [hp] at e1; cases e1
theorem gotR_got {z : P} (q : GotR N Z bs m h H (outP false z h) Q) : Got N Z bs m h H z Q := fun H' v S E r => q m H' v S E r
theorem gotR_false {mu : Bool} {z : P} (hz : ∀ xs, z ≠ .lst xs) (q : GotR N Z bs m h H (outP mu z h) Q) : Got N Z bs m h H z Q := by
  cases mu with
  | false => exact gotR_got q
  | true => cases z <;> first | exact absurd rfl (hz _) | exact q.elim
theorem gotR_lst {mu : Bool} {xs : List P} {vs : List V} (S : StOk N Z m h H) (q : GotR N Z bs m h H (outP mu (.lst xs) h) Q) (r : RpL N (LZ Z m h) H xs vs) (hl : vs.length ≤ sizeLine) (p : Addr) (hp : H p = none) : Q (.ref p) (upd H p (.lst vs)) := by
  cases mu with
  | false => exact got_lst S (gotR_got q) r hl p hp
  | true =>
    obtain ⟨S', E, r'⟩ := S.cell (bs := bs) hp r.ds hl
    exact q _ _ _ S' E r'

theorem str_app (a b : List Nat) : (⟨a.toArray⟩ : Str) ++ (⟨b.toArray⟩ : Str) = ⟨(a ++ b).toArray⟩ := by
  show Str.append _ _ = _
  simp [Str.append]
theorem str_len (a : List Nat) : (⟨a.toArray⟩ : Str).length = a.length := by simp [Str.length]
theorem log2_lt_of' {a k : Nat} (h0 : 0 < k) (h : a < 2 ^ k) : a.log2 < k := PySem.Flt.log2_lt_of h0 h

theorem bin_ok (hK : X.K = N.K) {o : BOp} {x y z : P} {vx vy : V} {v u : Value} (hz : binP o x y = some z) (S : StOk N Z m h H) (I : Inv X pins σ H s)
    (rx : RpP N (LZ Z m h) H x vx) (ry : RpP N (LZ Z m h) H y vy) (rv : RelV vx v) (ru : RelV vy u) (q : Got N Z bs m h H z Q) :
    wpAny (model X.prog X.w) X.A (binaryOp (opB o) v u) (EP X pins σ Q) X.xe s := by
  unfold binP at hz
  split at hz
  · -- int + int
    cases hz
    rename_i i j
    have ex : vx = .int i := rx
    have ey : vy = .int j := ry
    exact op_add pins s σ H vx vy v u Q I rv ru ⟨i, j, ex, ey, got_same S q rfl⟩
  · -- str + str
    rename_i a b
    split at hz
    · rename_i hl
      cases hz
      have ex : vx = .str ⟨a.toArray⟩ := rx
      have ey : vy = .str ⟨b.toArray⟩ := ry
      refine op_add_str pins s σ H vx vy v u Q I rv ru ⟨_, _, ex, ey, ?_, ?_⟩
      · rw [str_len, str_len]; exact lim_le hl
      · rw [str_app]; exact got_same S q rfl
    · cases hz
  · -- tuple + tuple
    rename_i a b
    split at hz
    · rename_i hl
      cases hz
      obtain ⟨p, vs, rfl, e2, e3, e4⟩ := rx
      obtain ⟨p', ws, rfl, f2, f3, f4⟩ := ry
      rw [RpL.length e4, RpL.length f4] at hl
      refine op_catA pins s σ H _ _ v u Q I rv ru ⟨p, p', vs, ws, rfl, rfl, by rw [hK]; exact e2.sq, by rw [hK]; exact f2.sq, lim_le hl, fun e => ?_, fun _ e => ?_, fun _ _ t ht => ?_⟩
      · subst e
        have ea : a = [] := List.length_eq_zero_iff.mp (by rw [RpL.length e4]; rfl)
        subst ea
        exact got_same S q ⟨p', ws, rfl, f2, f3, f4⟩
      · subst e
        have eb : b = [] := List.length_eq_zero_iff.mp (by rw [RpL.length f4]; rfl)
        subst eb
        refine got_same S q ⟨p, vs, rfl, e2, e3, by rw [List.append_nil]; exact e4⟩
      · exact got_tup hK S q (e4.app f4) (by rw [List.length_append]; exact lim_le hl) t ht
    · cases hz
  · -- list + list
    rename_i a b
    split at hz
    · rename_i hl
      cases hz
      obtain ⟨p, vs, rfl, e2, n2, e3, e4⟩ := rx
      obtain ⟨p', ws, rfl, f2, n3, f3, f4⟩ := ry
      rw [RpL.length e4, RpL.length f4] at hl
      exact op_cat pins s σ H _ _ v u Q I rv ru ⟨p, p', vs, ws, rfl, rfl, e2, f2, lim_le hl, fun t ht => got_lst S q (e4.app f4) (by rw [List.length_append]; exact lim_le hl) t ht⟩
    · cases hz
  · cases hz
    rename_i i j
    have ex : vx = .int i := rx
    have ey : vy = .int j := ry
    exact op_sub pins s σ H vx vy v u Q I rv ru ⟨i, j, ex, ey, got_same S q rfl⟩
  · rename_i i j
    split at hz
    · rename_i hm
      cases hz
      have ex : vx = .int i := rx
      have ey : vy = .int j := ry
      exact op_mulW pins s σ H vx vy v u Q I rv ru ⟨i, j, ex, ey, (of_decide_eq_true (show decide (i.natAbs.log2 + j.natAbs.log2 < 1000000) = true from hm) :), got_same S q rfl⟩
    · cases hz
  · rename_i a k
    split at hz
    · rename_i hl
      cases hz
      obtain ⟨p, vs, rfl, e2, n2, e3, e4⟩ := rx
      have ey : vy = .int k := ry
      obtain ⟨l1, l2, l3⟩ := hl
      rw [RpL.length e4] at l3
      have hb : -(2 ^ 63) ≤ k ∧ k < 2 ^ 63 := by
        have : (LIM : Nat) = 1000000 := rfl
        have : ((LIM : Nat) : Int) = 1000000 := rfl
        omega
      have e5 := e4.rep k.toNat
      exact op_rep pins s σ H _ _ v u Q I rv ru ⟨p, k, vs, rfl, ey, e2, hb.1, hb.2, lim_le l3, fun t ht => got_lst S q e5 (by
        rw [List.length_flatten, List.map_replicate, List.sum_replicate_nat, Nat.mul_comm]; exact lim_le l3) t ht⟩
    · cases hz
  · cases hz
  · rename_i i j
    split at hz
    · rename_i hm
      cases hz
      have ex : vx = .int i := rx
      have ey : vy = .int j := ry
      have hm' := Bool.and_eq_true_iff.mp hm
      exact op_fdivW pins s σ H vx vy v u Q I rv ru ⟨i, j, ex, ey, ⟨of_decide_eq_true hm'.1, of_decide_eq_true hm'.2⟩, got_same S q rfl⟩
    · cases hz
  · rename_i i j
    split at hz
    · rename_i hm
      cases hz
      have ex : vx = .int i := rx
      have ey : vy = .int j := ry
      exact op_mod pins s σ H vx vy v u Q I rv ru ⟨i, j, ex, ey, hm, got_same S q rfl⟩
    · cases hz
  · rename_i i j
    split at hz
    · rename_i hm
      cases hz
      have ex : vx = .int i := rx
      have ey : vy = .int j := ry
      exact op_pow pins s σ H vx vy v u Q I rv ru ⟨i, j, ex, ey, hm, got_same S q rfl⟩
    · cases hz
  · cases hz

/-! ### what is read -/
def RvP (N : Nm) (L : Addr → Prop) (H : Hp) (x : P) (v : V) : Prop := match x with
  | .lst xs => ∃ a vs, v = .ref a ∧ H a = some (.lst vs) ∧ vs.length ≤ sizeLine ∧ RpL N L H xs vs
  | x => RpP N L H x v
theorem RpP.rv {L : Addr → Prop} {x : P} {v : V} (r : RpP N L H x v) : RvP N L H x v := by
  cases x with
  | lst xs => obtain ⟨a, vs, e1, e2, _, e3, e4⟩ := r; exact ⟨a, vs, e1, e2, e3, e4⟩
  | _ => exact r
theorem cellAt_some {h : Hea} {n : Nat} {ds : List D} (e : cellAt h n = some ds) : h[n]? = some (some ds) := by
  unfold cellAt at e
  split at e
  · rename_i ds' q
    cases e
    exact q
  · cases e
theorem view_rv {d : D} {x : P} {v : V} (S : StOk N Z m h H) (r : RpD N m h.length (LZ Z m h) H d v) (e : view h d = some x) : RvP N (LZ Z m h) H x v := by
  cases d with
  | p y =>
    have e : some y = some x := e
    cases e
    exact RpP.rv r
  | ref n =>
    have e : (cellAt h n).bind (fun ds => (pures ds).map P.lst) = some x := e
    cases c : cellAt h n with
    | none => rw [c] at e; cases e
    | some ds =>
      rw [c] at e
      have e : (pures ds).map P.lst = some x := e
      cases q : pures ds with
      | none => rw [q] at e; cases e
      | some xs =>
        rw [q] at e
        cases e
        obtain ⟨vs, e1, e2, e3⟩ := S.cel n ds (cellAt_some c)
        exact ⟨m n, vs, r.2, e1, e2, e3.pure q⟩
mutual
def toDat : P → PyData
  | .non => .none
  | .bl b => .bool b
  | .int i => .int i
  | .str s => .str ⟨s.toArray⟩
  | .tup xs => .tuple (toDats xs)
  | .lst xs => .list (toDats xs)
  | _ => .none
def toDats : List P → List PyData
  | [] => []
  | x :: xs => toDat x :: toDats xs
end
mutual
theorem dp_of {L : Addr → Prop} : ∀ (n : Nat) (x : P) (v : V), okE n x = true → RpP N L H x v → Dp N.K H v (toDat x)
  | _, .non, v, _, r => by have r : v = .non := r; rw [r]; exact .non
  | _, .bl b, v, _, r => by have r : v = .bl b := r; rw [r]; exact .bl b
  | _, .int b, v, _, r => by have r : v = .int b := r; rw [r]; exact .int b
  | _, .str b, v, _, r => by have r : v = .str ⟨b.toArray⟩ := r; rw [r]; exact .str _
  | n, .tup xs, v, o, r => by
    obtain ⟨a, vs, rfl, e2, _, e4⟩ := r
    have o : (decide (0 < n) && okL (n - 1) xs) = true := by unfold okE at o; exact o
    exact .tup e2.sq (dps_of (n - 1) xs vs (Bool.and_eq_true_iff.mp o).2 e4)
  | n, .lst xs, v, o, r => by
    obtain ⟨a, vs, rfl, e2, _, _, e4⟩ := r
    have o : (decide (0 < n) && okL (n - 1) xs) = true := by unfold okE at o; exact o
    exact .lst (SqL.of e2) (dps_of (n - 1) xs vs (Bool.and_eq_true_iff.mp o).2 e4)
  | _, .scr _, _, o, _ => by unfold okE at o; cases o
  | _, .fn _, _, o, _ => by unfold okE at o; cases o
  | _, .cls _, _, o, _ => by unfold okE at o; cases o
  | _, .ty _, _, o, _ => by unfold okE at o; cases o
theorem dps_of {L : Addr → Prop} : ∀ (n : Nat) (xs : List P) (vs : List V), okL n xs = true → RpL N L H xs vs → DpAll N.K H vs (toDats xs)
  | _, [], vs, _, r => by have r : vs = [] := r; rw [r]; exact .nil
  | n, x :: xs, vs, o, r => by
    obtain ⟨v, w, rfl, e2, e3⟩ := r
    have o : (okE n x && okL n xs) = true := by unfold okL at o; exact o
    obtain ⟨o1, o2⟩ := Bool.and_eq_true_iff.mp o
    exact .cons (dp_of n x v o1 e2) (dps_of n xs w o2 e3)
end
theorem dp_rv {L : Addr → Prop} {n : Nat} {x : P} {v : V} (o : okE n x = true) (r : RvP N L H x v) : Dp N.K H v (toDat x) := by
  cases x with
  | lst xs =>
    obtain ⟨a, vs, rfl, e2, _, e4⟩ := r
    have o : (decide (0 < n) && okL (n - 1) xs) = true := by unfold okE at o; exact o
    exact .lst (SqL.of e2) (dps_of (n - 1) xs vs (Bool.and_eq_true_iff.mp o).2 e4)
  | _ => exact dp_of (L := L) n _ v o r
mutual
theorem lay_of : ∀ (n : Nat) (x : P), okE n x = true → PyData.canLay0 (toDat x) = true ∧ (toDat x).depth ≤ n
  | _, .non, _ => ⟨rfl, Nat.zero_le _⟩
  | _, .bl b, _ => ⟨rfl, Nat.zero_le _⟩
  | _, .int b, _ => ⟨rfl, Nat.zero_le _⟩
  | _, .str b, o => ⟨by
      unfold okE at o
      show PyData.canLay0 (.str ⟨b.toArray⟩) = true
      unfold PyData.canLay0 PyData.strOk
      simpa using o, Nat.zero_le _⟩
  | n, .tup xs, o => by
    have o : (decide (0 < n) && okL (n - 1) xs) = true := by unfold okE at o; exact o
    obtain ⟨o1, o2⟩ := Bool.and_eq_true_iff.mp o
    have o1 := of_decide_eq_true o1
    obtain ⟨h1, h2⟩ := lays_of (n - 1) xs o2
    refine ⟨by show PyData.canLay0 (.tuple (toDats xs)) = true; unfold PyData.canLay0; exact h1, ?_⟩
    show PyData.depthAll (toDats xs) + 1 ≤ n
    omega
  | n, .lst xs, o => by
    have o : (decide (0 < n) && okL (n - 1) xs) = true := by unfold okE at o; exact o
    obtain ⟨o1, o2⟩ := Bool.and_eq_true_iff.mp o
    have o1 := of_decide_eq_true o1
    obtain ⟨h1, h2⟩ := lays_of (n - 1) xs o2
    refine ⟨by show PyData.canLay0 (.list (toDats xs)) = true; unfold PyData.canLay0; exact h1, ?_⟩
    show PyData.depthAll (toDats xs) + 1 ≤ n
    omega
  | _, .scr _, o => by unfold okE at o; cases o
  | _, .fn _, o => by unfold okE at o; cases o
  | _, .cls _, o => by unfold okE at o; cases o
  | _, .ty _, o => by unfold okE at o; cases o
theorem lays_of : ∀ (n : Nat) (xs : List P), okL n xs = true → PyData.canLayAll0 (toDats xs) = true ∧ PyData.depthAll (toDats xs) ≤ n
  | _, [], _ => ⟨rfl, Nat.zero_le _⟩
  | n, x :: xs, o => by
    have o : (okE n x && okL n xs) = true := by unfold okL at o; exact o
    obtain ⟨o1, o2⟩ := Bool.and_eq_true_iff.mp o
    obtain ⟨h1, h2⟩ := lay_of n x o1
    obtain ⟨h3, h4⟩ := lays_of n xs o2
    refine ⟨by show PyData.canLayAll0 (toDat x :: toDats xs) = true; unfold PyData.canLayAll0; rw [h1, h3]; rfl, ?_⟩
    show max (toDat x).depth (PyData.depthAll (toDats xs)) ≤ n
    omega
end
theorem shaped_of {x : P} (o : okE 50 x = true) : SeqAt.shaped (toDat x) = true := by
  obtain ⟨h1, h2⟩ := lay_of 50 x o
  unfold SeqAt.shaped
  rw [h1]
  exact decide_eq_true (by omega)
theorem str_beq (a b : List Nat) : ((⟨a.toArray⟩ : Str) == (⟨b.toArray⟩ : Str)) = (a == b) := by
  rw [Bool.eq_iff_iff]
  simp
mutual
theorem eqv_of : ∀ (n : Nat) (x y : P), okE n x = true → okE n y = true → PyData.eqv (toDat x) (toDat y) = eqP x y
  | n, x, y, o, q => by
    cases x with
    | tup xs =>
      cases y with
      | tup ys =>
        have o : (decide (0 < n) && okL (n - 1) xs) = true := by unfold okE at o; exact o
        have q : (decide (0 < n) && okL (n - 1) ys) = true := by unfold okE at q; exact q
        show PyData.eqvAll (toDats xs) (toDats ys) = eqL xs ys
        exact eqvs_of (n - 1) xs ys (Bool.and_eq_true_iff.mp o).2 (Bool.and_eq_true_iff.mp q).2
      | str s => rfl
      | _ => first | rfl | (unfold okE at q; cases q)
    | lst xs =>
      cases y with
      | lst ys =>
        have o : (decide (0 < n) && okL (n - 1) xs) = true := by unfold okE at o; exact o
        have q : (decide (0 < n) && okL (n - 1) ys) = true := by unfold okE at q; exact q
        show PyData.eqvAll (toDats xs) (toDats ys) = eqL xs ys
        exact eqvs_of (n - 1) xs ys (Bool.and_eq_true_iff.mp o).2 (Bool.and_eq_true_iff.mp q).2
      | _ => first | rfl | (unfold okE at q; cases q)
    | str s =>
      cases y with
      | str t => show (((⟨s.toArray⟩ : Str)) == (⟨t.toArray⟩ : Str)) = _; rw [str_beq]; rfl
      | _ => first | rfl | (unfold okE at q; cases q)
    | scr _ => unfold okE at o; cases o
    | fn _ => unfold okE at o; cases o
    | cls _ => unfold okE at o; cases o
    | ty _ => unfold okE at o; cases o
    | _ => cases y <;> first | rfl | (unfold okE at q; cases q)
theorem eqvs_of : ∀ (n : Nat) (xs ys : List P), okL n xs = true → okL n ys = true → PyData.eqvAll (toDats xs) (toDats ys) = eqL xs ys
  | n, [], [], _, _ => rfl
  | n, [], _ :: _, _, _ => rfl
  | n, _ :: _, [], _, _ => rfl
  | n, x :: xs, y :: ys, o, q => by
    have o : (okE n x && okL n xs) = true := by unfold okL at o; exact o
    have q : (okE n y && okL n ys) = true := by unfold okL at q; exact q
    obtain ⟨o1, o2⟩ := Bool.and_eq_true_iff.mp o
    obtain ⟨q1, q2⟩ := Bool.and_eq_true_iff.mp q
    show (PyData.eqv (toDat x) (toDat y) && PyData.eqvAll (toDats xs) (toDats ys)) = (eqP x y && eqL xs ys)
    rw [eqv_of n x y o1 q1, eqvs_of n xs ys o2 q2]
end
theorem flat_v {L : Addr → Prop} {x : P} {v : V} (f : flat x = true) (r : RpP N L H x v) : flatV v = true := by
  cases x with
  | non => have r : v = .non := r; rw [r]; rfl
  | bl b => have r : v = .bl b := r; rw [r]; rfl
  | int b => have r : v = .int b := r; rw [r]; rfl
  | str b => have r : v = .str ⟨b.toArray⟩ := r; rw [r]; rfl
  | _ => cases f
theorem flats_v {L : Addr → Prop} : ∀ {xs : List P} {vs : List V}, xs.all flat = true → RpL N L H xs vs → vs.all flatV = true
  | [], vs, _, r => by have r : vs = [] := r; rw [r]; rfl
  | x :: xs, vs, f, r => by
    obtain ⟨v, w, rfl, e2, e3⟩ := r
    rw [List.all_cons] at f ⊢
    obtain ⟨f1, f2⟩ := Bool.and_eq_true_iff.mp f
    rw [flat_v f1 e2, flats_v f2 e3] <;> rfl
theorem eqV_flat {L : Addr → Prop} {x y : P} {v w : V} (f : flat x = true) (g : flat y = true) (r : RpP N L H x v) (q : RpP N L H y w) : eqV v w = eqP x y := by
  cases x with
  | non =>
    have r : v = .non := r
    subst r
    cases y with
    | non => have q : w = .non := q; subst q; rfl
    | bl b => have q : w = .bl b := q; subst q; rfl
    | int b => have q : w = .int b := q; subst q; rfl
    | str b => have q : w = .str ⟨b.toArray⟩ := q; subst q; rfl
    | _ => cases g
  | bl a =>
    have r : v = .bl a := r
    subst r
    cases y with
    | non => have q : w = .non := q; subst q; rfl
    | bl b => have q : w = .bl b := q; subst q; rfl
    | int b => have q : w = .int b := q; subst q; rfl
    | str b => have q : w = .str ⟨b.toArray⟩ := q; subst q; rfl
    | _ => cases g
  | int a =>
    have r : v = .int a := r
    subst r
    cases y with
    | non => have q : w = .non := q; subst q; rfl
    | bl b => have q : w = .bl b := q; subst q; rfl
    | int b => have q : w = .int b := q; subst q; rfl
    | str b => have q : w = .str ⟨b.toArray⟩ := q; subst q; rfl
    | _ => cases g
  | str a =>
    have r : v = .str ⟨a.toArray⟩ := r
    subst r
    cases y with
    | non => have q : w = .non := q; subst q; rfl
    | bl b => have q : w = .bl b := q; subst q; rfl
    | int b => have q : w = .int b := q; subst q; rfl
    | str b => have q : w = .str ⟨b.toArray⟩ := q; subst q; exact str_beq a b
    | _ => cases g
  | _ => cases f
theorem inV_of {L : Addr → Prop} {x : P} {v : V} (f : flat x = true) (r : RpP N L H x v) : ∀ {ys : List P} {vs : List V}, ys.all flat = true → RpL N L H ys vs → inV v vs = ys.any fun y => eqP y x
  | [], vs, _, q => by have q : vs = [] := q; rw [q]; rfl
  | y :: ys, vs, g, q => by
    obtain ⟨w, w2, rfl, e2, e3⟩ := q
    rw [List.all_cons] at g
    obtain ⟨g1, g2⟩ := Bool.and_eq_true_iff.mp g
    show (eqV w v || inV v w2) = (eqP y x || ys.any fun y => eqP y x)
    rw [eqV_flat g1 f e2 r, inV_of f r g2 e3]
def opC : COp → CmpOp
  | .lt => .Lt | .le => .LtE | .gt => .Gt | .ge => .GtE | .eq => .Eq | .ne => .NotEq | .is_ => .Is | .isnot => .IsNot | .in_ => .In | .notin => .NotIn
theorem non_v {L : Addr → Prop} {x : P} {v : V} (r : RvP N L H x v) : decide (v = .non) = isNon x := by
  cases x with
  | non => have r : v = .non := r; rw [r]; rfl
  | bl b => have r : v = .bl b := r; rw [r]; rfl
  | int b => have r : v = .int b := r; rw [r]; rfl
  | str b => have r : v = .str ⟨b.toArray⟩ := r; rw [r]; rfl
  | tup xs => obtain ⟨a, vs, rfl, _⟩ := r; rfl
  | lst xs => obtain ⟨a, vs, rfl, _⟩ := r; rfl
  | scr xs => obtain ⟨a, rfl, _⟩ := r; rfl
  | fn b => have r : v = .ref _ := r; rw [r]; rfl
  | cls b => have r : v = .ref _ := r; rw [r]; rfl
  | ty b => have r : v = .ty b := r; rw [r]; rfl
theorem rv_flat {L : Addr → Prop} {x : P} {v : V} (f : flat x = true) (r : RvP N L H x v) : RpP N L H x v := by
  cases x <;> first | exact r | cases f
theorem cmp_ok (hK : X.K = N.K) (hu : X.A.units + 65 < cLine) {o : COp} {x y : P} {k : Bool} {vx vy : V} {v u : Value} (hz : cmpP o x y = some k) (I : Inv X pins σ H s)
    (rx : RvP N (LZ Z m h) H x vx) (ry : RvP N (LZ Z m h) H y vy) (rv : RelV vx v) (ru : RelV vy u) (q : Q (.bl k) H) :
    wpAny (model X.prog X.w) X.A (compareOp (opC o) v u) (EP X pins σ Q) X.xe s := by
  unfold cmpP at hz
  split at hz
  · cases hz
    exact op_lt pins s σ H vx vy v u Q I rv ru ⟨_, _, rx, ry, q⟩
  · cases hz
    exact op_le pins s σ H vx vy v u Q I rv ru ⟨_, _, rx, ry, q⟩
  · cases hz
    exact op_gt pins s σ H vx vy v u Q I rv ru ⟨_, _, rx, ry, q⟩
  · cases hz
    exact op_ge pins s σ H vx vy v u Q I rv ru ⟨_, _, rx, ry, q⟩
  · split at hz
    · rename_i o
      cases hz
      obtain ⟨o1, o2⟩ := Bool.and_eq_true_iff.mp o
      refine op_eqD (by omega) pins s σ H vx vy v u Q I rv ru ⟨toDat x, toDat y, by rw [hK]; exact dp_rv o1 rx, by rw [hK]; exact dp_rv o2 ry, shaped_of o1, shaped_of o2, ?_⟩
      rw [eqv_of 50 x y o1 o2]; exact q
    · cases hz
  · split at hz
    · rename_i o
      cases hz
      obtain ⟨o1, o2⟩ := Bool.and_eq_true_iff.mp o
      refine op_neD (by omega) pins s σ H vx vy v u Q I rv ru ⟨toDat x, toDat y, by rw [hK]; exact dp_rv o1 rx, by rw [hK]; exact dp_rv o2 ry, shaped_of o1, shaped_of o2, ?_⟩
      rw [eqv_of 50 x y o1 o2]; exact q
    · cases hz
  · cases hz
    refine op_isN pins s σ H vx vy v u Q I rv ru ⟨ry, ?_⟩
    rw [non_v rx]; exact q
  · cases hz
    refine op_notN pins s σ H vx vy v u Q I rv ru ⟨ry, ?_⟩
    rw [non_v rx]; exact q
  · split at hz
    · rename_i ys o
      cases hz
      obtain ⟨o1, o2⟩ := Bool.and_eq_true_iff.mp o
      have rx := rv_flat o1 rx
      obtain ⟨p, vs, rfl, e2, _, e4⟩ := ry
      refine op_in_seq pins s σ H vx _ v u Q I rv ru ⟨p, vs, rfl, .inr (by rw [hK]; exact e2.sq), flat_v o1 rx, flats_v o2 e4, ?_⟩
      rw [if_neg Bool.false_ne_true, inV_of o1 rx o2 e4]; exact q
    · cases hz
  · split at hz
    · rename_i ys o
      cases hz
      obtain ⟨o1, o2⟩ := Bool.and_eq_true_iff.mp o
      have rx := rv_flat o1 rx
      obtain ⟨p, vs, rfl, e2, _, e4⟩ := ry
      refine op_notIn_seq pins s σ H vx _ v u Q I rv ru ⟨p, vs, rfl, .inr (by rw [hK]; exact e2.sq), flat_v o1 rx, flats_v o2 e4, ?_⟩
      rw [if_pos rfl, inV_of o1 rx o2 e4]; exact q
    · cases hz
  · split at hz
    · rename_i ys o
      cases hz
      obtain ⟨o1, o2⟩ := Bool.and_eq_true_iff.mp o
      have rx := rv_flat o1 rx
      obtain ⟨p, vs, rfl, e2, _, e4⟩ := ry
      refine op_in_seq pins s σ H vx _ v u Q I rv ru ⟨p, vs, rfl, .inl (SqL.of e2), flat_v o1 rx, flats_v o2 e4, ?_⟩
      rw [if_neg Bool.false_ne_true, inV_of o1 rx o2 e4]; exact q
    · cases hz
  · split at hz
    · rename_i ys o
      cases hz
      obtain ⟨o1, o2⟩ := Bool.and_eq_true_iff.mp o
      have rx := rv_flat o1 rx
      obtain ⟨p, vs, rfl, e2, _, e4⟩ := ry
      refine op_notIn_seq pins s σ H vx _ v u Q I rv ru ⟨p, vs, rfl, .inl (SqL.of e2), flat_v o1 rx, flats_v o2 e4, ?_⟩
      rw [if_pos rfl, inV_of o1 rx o2 e4]; exact q
    · cases hz
  · cases hz
    refine op_in_sign pins s σ H vx vy v u Q I rv ru ⟨_, _, rx, ry, ?_⟩
    simpa using q
  · cases hz
    refine op_notIn_sign pins s σ H vx vy v u Q I rv ru ⟨_, _, rx, ry, ?_⟩
    simpa using q
  · cases hz
/-! ### index, slice, truth -/
theorem place_ix {n : Nat} {i : Int} : place n i = ixN n i := rfl
theorem atP_at {α : Type} {xs : List α} {i : Int} {x : α} (e : atP xs i = some x) : ∃ j, ixN xs.length i = some j ∧ xs[j]? = some x := by
  unfold atP at e
  rw [place_ix] at e
  cases c : ixN xs.length i with
  | none => rw [c] at e; cases e
  | some j => rw [c] at e; exact ⟨j, rfl, e⟩
theorem at_of {α : Type} {xs : List α} {i : Int} {x : α} {j : Nat} (c : ixN xs.length i = some j) (e : xs[j]? = some x) : atI xs i = some x := by
  unfold atI
  rw [c]; exact e
theorem idx_ok (hK : X.K = N.K) {a i d : D} {va vi : V} {v u : Value} (value slice : Expr) (hz : idxD h a i = some d) (S : StOk N Z m h H) (I : Inv X pins σ H s)
    (ra : RpD N m h.length (LZ Z m h) H a va) (ri : RpD N m h.length (LZ Z m h) H i vi) (rv : RelV va v) (ru : RelV vi u) (hs : subscripted slice false v u = operate [v, u] (getItem v u))
    (q : ∀ w, RpD N m h.length (LZ Z m h) H d w → Q w H) :
    wpAny (model X.prog X.w) X.A (subscriptTail value slice v u) (EP X pins σ Q) X.xe s := by
  unfold idxD at hz
  split at hz
  · rename_i xs i
    obtain ⟨x, e, rfl⟩ := Option.map_eq_some_iff.mp hz
    obtain ⟨p, vs, rfl, e2, _, e4⟩ := ra
    have ei : vi = .int i := ri
    obtain ⟨j, c, e5⟩ := atP_at e
    obtain ⟨w, e6, e7⟩ := RpL.get e4 e5
    rw [RpL.length e4] at c
    exact ix_tup value slice pins s σ H _ vi v u Q I rv ru ⟨p, vs, i, w, rfl, ei, by rw [hK]; exact e2.sq, at_of c e6, q w e7⟩ hs
  · rename_i xs i
    obtain ⟨x, e, rfl⟩ := Option.map_eq_some_iff.mp hz
    obtain ⟨p, vs, rfl, e2, _, _, e4⟩ := ra
    have ei : vi = .int i := ri
    obtain ⟨j, c, e5⟩ := atP_at e
    obtain ⟨w, e6, e7⟩ := RpL.get e4 e5
    rw [RpL.length e4] at c
    exact ix_list value slice pins s σ H _ vi v u Q I rv ru ⟨p, vs, i, w, rfl, ei, SqL.of e2, at_of c e6, q w e7⟩ hs
  · rename_i t i
    split at hz
    · rename_i hl
      obtain ⟨c, e, rfl⟩ := Option.map_eq_some_iff.mp hz
      have ea : va = .str ⟨t.toArray⟩ := ra
      have ei : vi = .int i := ri
      obtain ⟨j, c1, e5⟩ := atP_at e
      refine ix_str value slice pins s σ H va vi v u Q I rv ru ⟨⟨t.toArray⟩, i, c, ea, ei, by rw [str_len]; exact lim_le hl, at_of (by simpa using c1) (by simpa using e5), q _ rfl⟩ hs
    · cases hz
  · rename_i n i
    cases c : cellAt h n with
    | none => rw [c] at hz; cases hz
    | some ds =>
      rw [c] at hz
      have hz : atP ds i = some d := hz
      obtain ⟨ln, rfl⟩ := ra
      have ei : vi = .int i := ri
      obtain ⟨vs, e1, e2, e3⟩ := S.cel n ds (cellAt_some c)
      obtain ⟨j, c1, e5⟩ := atP_at hz
      obtain ⟨w, e6, e7⟩ := RpDs.get e3 e5
      rw [RpDs.length e3] at c1
      exact ix_list value slice pins s σ H _ vi v u Q I rv ru ⟨_, vs, i, w, rfl, ei, SqL.of e1, at_of c1 e6, q w e7⟩ hs
  · cases hz
theorem edge_ix (n d : Nat) (o : Option Int) : edge n d o = HT.sIx n d o := by
  cases o with
  | none => rfl
  | some v =>
    have e := HT.clip_eq v n d
    unfold edge
    split at e
    · rename_i c
      show (if v < 0 then _ else _) = _
      rw [if_pos c]
      omega
    · rename_i c
      show (if v < 0 then _ else _) = _
      rw [if_neg c]
      omega
theorem cut_rp {L : Addr → Prop} {xs : List P} {vs : List V} (r : RpL N L H xs vs) (lo hi : Option Int) : RpL N L H (cut xs lo hi) (cutV vs lo hi) := by
  unfold cut cutV
  rw [edge_ix, edge_ix, RpL.length r]
  exact (r.drop _).take _
/-- a slice of data comes -/
theorem slc_ok (hK : X.K = N.K) {mu : Bool} {x y : P} {lo hi : Option Int} {vx : V} {v vl vu : Value} {sl : Addr} (hz : slcP x lo hi = some y) (S : StOk N Z m h H) (rx : RvP N (LZ Z m h) H x vx)
    (q : GotR N Z bs m h H (outP mu y h) Q) : (rSlA X.K vx lo hi H Q ∨ rSlL X.K vx lo hi H Q) ∨ rSlS vx lo hi H Q := by
  unfold slcP at hz
  split at hz
  · rename_i xs
    cases hz
    obtain ⟨p, vs, rfl, e2, e3, e4⟩ := rx
    have q := gotR_false (by intro xs z; cases z) q
    refine .inl (.inl ⟨p, vs, rfl, by rw [hK]; exact e2.sq, fun e => ?_, fun _ t ht => ?_⟩)
    · refine got_same S q ⟨p, vs, rfl, e2, e3, ?_⟩
      have z : cut xs lo hi = xs := by
        unfold cut
        rw [edge_ix, edge_ix, RpL.length e4, e.1, e.2, List.drop_zero, Nat.sub_zero, ← RpL.length e4, List.take_length]
      rw [z]; exact e4
    · exact got_tup hK S q (cut_rp e4 lo hi) (Nat.le_trans (cutV_length vs lo hi) e3) t ht
  · rename_i xs
    cases hz
    obtain ⟨p, vs, rfl, e2, e3, e4⟩ := rx
    exact .inl (.inr ⟨p, vs, rfl, SqL.of e2, fun t ht => gotR_lst S q (cut_rp e4 lo hi) (Nat.le_trans (cutV_length vs lo hi) e3) t ht⟩)
  · rename_i t
    split at hz
    · rename_i hl
      cases hz
      have ex : vx = .str ⟨t.toArray⟩ := rx
      have q := gotR_false (by intro xs z; cases z) q
      refine .inr ⟨_, ex, by rw [str_len]; exact lim_le hl, got_same S q ?_⟩
      show V.str (cutS ⟨t.toArray⟩ lo hi) = V.str ⟨(cut t lo hi).toArray⟩
      unfold cutS cut
      rw [edge_ix, edge_ix, str_len]
    · cases hz
  · cases hz
theorem tru_ok' {d : D} {k : Bool} {vd : V} (hK : X.K = N.K) (hz : truD h d = some k) (S : StOk N Z m h H) (rd : RpD N m h.length (LZ Z m h) H d vd) : TruV X.K vd H k := by
  cases d with
  | ref n =>
    obtain ⟨ds, e, rfl⟩ := Option.map_eq_some_iff.mp (show (cellAt h n).map (fun ds => !ds.isEmpty) = some k from hz)
    obtain ⟨ln, rfl⟩ := rd
    obtain ⟨vs, e1, e2, e3⟩ := S.cel n ds (cellAt_some e)
    refine .inl ⟨vs, SqL.of e1, ?_⟩
    have := RpDs.length e3
    cases ds <;> cases vs <;> first | rfl | (simp at this)
  | p x =>
    have hz : truP x = some k := hz
    cases x with
    | non =>
      cases hz
      have r : vd = .non := rd
      subst r; rfl
    | bl b =>
      cases hz
      have r : vd = .bl k := rd
      subst r; rfl
    | int i =>
      cases hz
      have r : vd = .int i := rd
      subst r; rfl
    | str t =>
      have hz : (if t.length ≤ LIM then some (!t.isEmpty) else none) = some k := hz
      split at hz
      · rename_i hl
        cases hz
        have r : vd = .str ⟨t.toArray⟩ := rd
        subst r
        refine ⟨by rw [str_len]; exact lim_le hl, ?_⟩
        rw [str_len]
        cases t with
        | nil => rfl
        | cons c r => simp; omega
      · cases hz
    | tup xs =>
      cases hz
      obtain ⟨p, vs, rfl, e2, e3, e4⟩ := rd
      refine .inr (.inl ⟨vs, by rw [hK]; exact e2.sq, ?_⟩)
      have e5 := RpL.length e4
      cases xs with
      | nil => cases vs with
        | nil => rfl
        | cons _ _ => simp at e5
      | cons _ _ => cases vs with
        | nil => simp at e5
        | cons _ _ => rfl
    | lst xs =>
      cases hz
      obtain ⟨p, vs, rfl, e2, _, e3, e4⟩ := rd
      refine .inl ⟨vs, SqL.of e2, ?_⟩
      have e5 := RpL.length e4
      cases xs with
      | nil => cases vs with
        | nil => rfl
        | cons _ _ => simp at e5
      | cons _ _ => cases vs with
        | nil => simp at e5
        | cons _ _ => rfl
    | _ => cases hz

/-! ### built-in functions -/
def fOf : Blt → Value
  | .len => .builtin "len" | .isinst => .builtin "isinstance" | .abs => .builtin "abs" | .max => .builtin "max" | .min => .builtin "min"
  | .int => .type "int" | .str => .type "str" | .tuple => .type "tuple" | .list => .type "list" | .sum => .builtin "sum" | .all => .builtin "all" | .any => .builtin "any"
def RvPs (N : Nm) (L : Addr → Prop) (H : Hp) : List P → List V → Prop
  | [], vs => vs = []
  | x :: xs, vs => ∃ v r, vs = v :: r ∧ RvP N L H x v ∧ RvPs N L H xs r
theorem views_rv : ∀ {ds : List D} {xs : List P} {vs : List V}, StOk N Z m h H → RpDs N m h.length (LZ Z m h) H ds vs → views h ds = some xs → RvPs N (LZ Z m h) H xs vs
  | [], xs, vs, S, r, e => by
    have e : some [] = some xs := e
    cases e
    exact r
  | d :: ds, xs, vs, S, r, e => by
    obtain ⟨v, w, rfl, e2, e3⟩ := r
    have e : (view h d).bind (fun x => (views h ds).map (x :: ·)) = some xs := e
    cases c : view h d with
    | none => rw [c] at e; cases e
    | some x =>
      rw [c] at e
      have e : (views h ds).map (x :: ·) = some xs := e
      cases c2 : views h ds with
      | none => rw [c2] at e; cases e
      | some ys =>
        rw [c2] at e
        cases e
        exact ⟨v, w, rfl, view_rv S e2 c, views_rv S e3 c2⟩
theorem kind_ty (hK : X.K = N.K) {L : Addr → Prop} {x : P} {v : V} {k : String} (e : kindS x = some k) (r : RvP N L H x v) : TyX X.K H v (.type k) := by
  cases x with
  | non => cases e; have r : v = .non := r; subst r; exact .base .non
  | bl b => cases e; have r : v = .bl b := r; subst r; exact .base (.bl b)
  | int b => cases e; have r : v = .int b := r; subst r; exact .base (.int b)
  | str b => cases e; have r : v = .str _ := r; subst r; exact .base (.str _)
  | tup xs =>
    cases e
    obtain ⟨a, vs, rfl, e2, _⟩ := r
    rcases e2 with e2 | ⟨o, its, n, e3, e4, _⟩
    · exact .base (.tup e2)
    · exact .kTuple (by rw [hK]; exact e3) e4
  | lst xs =>
    cases e
    obtain ⟨a, vs, rfl, e2, _⟩ := r
    exact .base (.lst e2)
  | _ => cases e
theorem isT_all : kindsL.all (fun a => clssL.all fun b => decide (kitB a b = isT a b)) = true := by decide +kernel
theorem isT_kit {K : PySem.W.Frag} {a b : String} {q : Bool} (e : isT a b = some q) : PySem.W.kitOne K (.type a) (.type b) = some q := by
  have e' := e
  unfold isT at e'
  split at e'
  · rename_i c
    obtain ⟨c1, c2⟩ := Bool.and_eq_true_iff.mp c
    have h1 := List.all_eq_true.mp isT_all a (List.contains_iff_mem.mp c1)
    have h2 := List.all_eq_true.mp h1 b (List.contains_iff_mem.mp c2)
    refine kit_ty ?_
    rw [of_decide_eq_true h2]
    exact e
  · cases e'
theorem isTs_kit {K : PySem.W.Frag} {L : Addr → Prop} {a : String} : ∀ {ts : List P} {vs : List V} {q : Bool}, isTs a ts = some q → RpL N L H ts vs → ∃ us, Paired ClsV vs us ∧ PySem.W.kitAny K (.type a) us = some q
  | [], vs, q, e, r => by
    have r : vs = [] := r
    subst r
    cases e
    exact ⟨[], .nil, rfl⟩
  | t :: ts, vs, q, e, r => by
    obtain ⟨v, w, rfl, e2, e3⟩ := r
    cases t with
    | ty b =>
      have e2 : v = .ty b := e2
      subst e2
      have e : (isT a b).bind (fun q => (isTs a ts).map fun q' => q || q') = some q := e
      cases c : isT a b with
      | none => rw [c] at e; cases e
      | some q1 =>
        rw [c] at e
        have e : (isTs a ts).map (fun q' => q1 || q') = some q := e
        cases c2 : isTs a ts with
        | none => rw [c2] at e; cases e
        | some q2 =>
          rw [c2] at e
          cases e
          obtain ⟨us, z1, z2⟩ := isTs_kit (K := K) c2 e3
          exact ⟨.type b :: us, .cons (.ty b) z1, kitAny_cons (isT_kit (K := K) c) (fun z => by rw [z]; exact z2) fun z => by rw [z]; rfl⟩
    | _ => cases e
theorem bools_v {L : Addr → Prop} : ∀ {xs : List P} {bs : List Bool} {vs : List V}, bools xs = some bs → RpL N L H xs vs → vs = bs.map V.bl
  | [], bs, vs, e, r => by
    have r : vs = [] := r
    have e : some [] = some bs := e
    cases e
    exact r
  | .bl b :: xs, bs, vs, e, r => by
    obtain ⟨v, w, rfl, e2, e3⟩ := r
    have e2 : v = .bl b := e2
    subst e2
    have e : (bools xs).map (b :: ·) = some bs := e
    cases c : bools xs with
    | none => rw [c] at e; cases e
    | some ys =>
      rw [c] at e
      cases e
      rw [bools_v c e3]; rfl
  | .non :: _, _, _, e, _ | .int _ :: _, _, _, e, _ | .str _ :: _, _, _, e, _ | .tup _ :: _, _, _, e, _ | .lst _ :: _, _, _, e, _ | .scr _ :: _, _, _, e, _ | .fn _ :: _, _, _, e, _ | .cls _ :: _, _, _, e, _ | .ty _ :: _, _, _, e, _ => by cases e
theorem ints_v {L : Addr → Prop} : ∀ {xs : List P} {bs : List Int} {vs : List V}, intsP xs = some bs → RpL N L H xs vs → vs = bs.map V.int
  | [], bs, vs, e, r => by
    have r : vs = [] := r
    have e : some [] = some bs := e
    cases e
    exact r
  | .int b :: xs, bs, vs, e, r => by
    obtain ⟨v, w, rfl, e2, e3⟩ := r
    have e2 : v = .int b := e2
    subst e2
    have e : (intsP xs).map (b :: ·) = some bs := e
    cases c : intsP xs with
    | none => rw [c] at e; cases e
    | some ys =>
      rw [c] at e
      cases e
      rw [ints_v c e3]; rfl
  | .non :: _, _, _, e, _ | .bl _ :: _, _, _, e, _ | .str _ :: _, _, _, e, _ | .tup _ :: _, _, _, e, _ | .lst _ :: _, _, _, e, _ | .scr _ :: _, _, _, e, _ | .fn _ :: _, _, _, e, _ | .cls _ :: _, _, _, e, _ | .ty _ :: _, _, _, e, _ => by cases e
theorem scr_l {L : Addr → Prop} (ns : List Int) : RpL N L H (ns.map P.int) (ns.map V.int) := by
  induction ns with
  | nil => rfl
  | cons n r ih => exact ⟨.int n, r.map V.int, rfl, rfl, ih⟩
/-- sum of a tuple of ints -/
theorem sum_tup {prog : Program} {w : World} {A : Around} {E : Value → Shared → Prop} {s : Shared} {l : Addr} {its : List Value} {ns : List Int} {Q : Value → Shared → Prop} (hh : A.handled = none) (hl : s.heap.IsTuple l its.toArray) (hi : IntsAre its ns)
    (h : ∀ h' tk t', (∀ b o, s.heap.get? b = some o → h'.get? b = some o) → Q (.int ns.sum t') { s with heap := h', toks := tk }) : wpAny (model prog w) A (call (.builtin "sum") [.ref l]) Q E s := by
  obtain ⟨xs, e⟩ := hi.allInts.items
  have hn : numsOf (intItems xs).toList = ns := by rw [← e]; exact hi.numsOf
  rw [nums_intItems] at hn
  rw [e] at hl
  have hlt : l < s.heap.objs.size := by obtain ⟨_, q, _⟩ := hl; exact Heap.lt_size q
  refine call_sum_walkG (wpAny_pyIter_tuple hl ?_)
  refine ⟨_, [_, l], [_], _, _, _, numAt xs, rfl, Walks.tuple (A := A.in1) hh _ l (Nat.ne_of_lt hlt) (intItems xs), ⟨⟨_, Heap.get?_push_size _ rfl, rfl, rfl⟩, hl.push _⟩, fun b hb => ?_, (fun _ _ => intItems_at), fun h' tk t' hk => ?_⟩
  · show b < (s.heap.push _).objs.size
    rw [Heap.size_push]
    rcases List.mem_cons.mp hb with z | hb
    · rw [z]; exact Nat.lt_succ_self _
    · rw [List.mem_singleton.mp hb]; exact Nat.lt_succ_of_lt hlt
  · have q := h h' tk t' fun b o eb => hk b o (fun hm => Nat.lt_irrefl _ (by have z := Heap.lt_size eb; rw [List.mem_singleton.mp hm] at z; exact z)) (Heap.get?_push_of_some _ eb)
    have e2 : preSum (numAt xs) (intItems xs).size = ns.sum := by
      rw [preSum_eq, List.take_of_length_le (by simp [intItems]), hn]
    rw [e2]
    exact q
theorem blt_ok (hK : X.K = N.K) (hc : X.calm = true) {b : Blt} {mu : Bool} {xs : List P} {y : P} {vs : List V} {us : List Value} (hz : bltP b xs = some y) (S : StOk N Z m h H) (I : Inv X pins σ H s)
    (r : RvPs N (LZ Z m h) H xs vs) (rv : Vals vs us) (q : GotR N Z bs m h H (outP mu y h) Q) : wpAny (model X.prog X.w) X.A (call (fOf b) us) (EP X pins σ Q) X.xe s := by
  unfold bltP at hz
  split at hz
  · cases hz
    obtain ⟨v, w, rfl, ⟨p, vs, rfl, e2, _, e4⟩, rfl⟩ := r
    have q := gotR_false (by intro xs z; cases z) q
    rw [RpL.length e4] at q
    exact call_len_seq pins s σ H _ us Q I rv ⟨p, vs, rfl, .inr (by rw [hK]; exact e2.sq), got_same S q rfl⟩
  · cases hz
    obtain ⟨v, w, rfl, ⟨p, vs, rfl, e2, _, e4⟩, rfl⟩ := r
    have q := gotR_false (by intro xs z; cases z) q
    rw [RpL.length e4] at q
    exact call_len_seq pins s σ H _ us Q I rv ⟨p, vs, rfl, .inl (SqL.of e2), got_same S q rfl⟩
  · split at hz
    · rename_i t hl
      cases hz
      obtain ⟨v, w, rfl, e1, rfl⟩ := r
      have e1 : v = .str ⟨t.toArray⟩ := e1
      subst e1
      have q := gotR_false (by intro xs z; cases z) q
      refine call_len_str pins s σ H _ us Q I rv ⟨_, rfl, by rw [str_len]; exact lim_le hl, ?_⟩
      rw [str_len]; exact got_same S q rfl
    · cases hz
  · rename_i x b
    cases c : kindS x with
    | none => rw [c] at hz; cases hz
    | some k =>
      rw [c] at hz
      obtain ⟨q1, c2, rfl⟩ := Option.map_eq_some_iff.mp (show (isT k b).map P.bl = some y from hz)
      obtain ⟨v, w, rfl, e1, w2, w3, rfl, e2, rfl⟩ := r
      have e2 : w2 = .ty b := e2
      subst e2
      have q := gotR_false (by intro xs z; cases z) q
      exact call_isi pins s σ H _ us Q I rv ⟨v, .ty b, .type k, .type b, q1, rfl, .ty b, kind_ty hK c e1, isT_kit c2, got_same S q rfl⟩
  · rename_i x ts
    cases c : kindS x with
    | none => rw [c] at hz; cases hz
    | some k =>
      rw [c] at hz
      obtain ⟨q1, c2, rfl⟩ := Option.map_eq_some_iff.mp (show (isTs k ts).map P.bl = some y from hz)
      obtain ⟨v, w, rfl, e1, w2, w3, rfl, ⟨p, cs, rfl, e2, _, e4⟩, rfl⟩ := r
      have q := gotR_false (by intro xs z; cases z) q
      obtain ⟨ws, z1, z2⟩ := isTs_kit (K := X.K) c2 e4
      rcases e2 with e2 | ⟨o, its, n, f1, f2, f3, f4, f5⟩
      · exact call_isiT pins s σ H _ us Q I rv ⟨v, p, cs, .type k, ws, q1, rfl, e2, z1, kind_ty hK c e1, z2, got_same S q rfl⟩
      · obtain ⟨oc, od, dt, sl⟩ := o
        have f2 : oc = .type "tuple" := f2
        have f3 : dt = .seq its n := f3
        subst f2 f3
        have e5 := ClsV.all z1 f5
        refine call_isiK pins s σ H _ us Q I rv ⟨v, p, od, ws, n, sl, .type k, q1, rfl, ?_, kind_ty hK c e1, z2, got_same S q rfl⟩
        rw [hK, f1, ← e5]
  · cases hz
    obtain ⟨v, w, rfl, e1, rfl⟩ := r
    have q := gotR_false (by intro xs z; cases z) q
    exact call_abs pins s σ H _ us Q I rv ⟨_, by rw [show v = .int _ from e1], got_same S q rfl⟩
  · cases hz
    obtain ⟨v, w, rfl, e1, w2, w3, rfl, e2, rfl⟩ := r
    have q := gotR_false (by intro xs z; split at z <;> cases z) q
    exact call_max2 hc pins s σ H _ us Q I rv ⟨_, _, by rw [show v = .int _ from e1, show w2 = .int _ from e2], got_same S q rfl⟩
  · cases hz
    obtain ⟨v, w, rfl, e1, w2, w3, rfl, e2, rfl⟩ := r
    have q := gotR_false (by intro xs z; split at z <;> cases z) q
    exact call_min2 hc pins s σ H _ us Q I rv ⟨_, _, by rw [show v = .int _ from e1, show w2 = .int _ from e2], got_same S q rfl⟩
  · cases hz
    obtain ⟨v, w, rfl, e1, rfl⟩ := r
    have q := gotR_false (by intro xs z; cases z) q
    exact call_int1 pins s σ H _ us Q I rv (.inl ⟨_, by rw [show v = .int _ from e1], got_same S q rfl⟩)
  · cases hz
    obtain ⟨v, w, rfl, e1, rfl⟩ := r
    have q := gotR_false (by intro xs z; cases z) q
    exact call_int1 pins s σ H _ us Q I rv (.inr ⟨_, by rw [show v = .bl _ from e1], got_same S q rfl⟩)
  · cases hz
    obtain ⟨v, w, rfl, ⟨p, vs, rfl, e2, e3, e4⟩, rfl⟩ := r
    have q := gotR_false (by intro xs z; cases z) q
    exact call_tuple_of pins s σ H _ us Q I rv ⟨p, vs, rfl, .inr ⟨by rw [hK]; exact e2.sq, got_same S q ⟨p, vs, rfl, e2, e3, e4⟩⟩⟩
  · cases hz
    obtain ⟨v, w, rfl, ⟨p, vs, rfl, e2, e3, e4⟩, rfl⟩ := r
    have q := gotR_false (by intro xs z; cases z) q
    exact call_tuple_of pins s σ H _ us Q I rv ⟨p, vs, rfl, .inl ⟨SqL.of e2, fun t ht => got_tup hK S q e4 e3 t ht⟩⟩
  · cases hz
    obtain ⟨v, w, rfl, ⟨p, vs, rfl, e2, e3, e4⟩, rfl⟩ := r
    exact call_list_of pins s σ H _ us Q I rv ⟨p, vs, rfl, .inr (by rw [hK]; exact e2.sq), fun t ht => gotR_lst S q e4 e3 t ht⟩
  · cases hz
    obtain ⟨v, w, rfl, ⟨p, vs, rfl, e2, e3, e4⟩, rfl⟩ := r
    exact call_list_of pins s σ H _ us Q I rv ⟨p, vs, rfl, .inl (SqL.of e2), fun t ht => gotR_lst S q e4 e3 t ht⟩
  · cases hz
    rename_i ns
    obtain ⟨v, w, rfl, ⟨p, rfl, e2⟩, rfl⟩ := r
    have e3 : SqL X.K H p (ns.map V.int) := by
      rw [hK]
      rcases e2 with ⟨e2, _⟩ | e2
      · exact .inl e2
      · exact e2 H
    obtain ⟨its, _, _, hz⟩ := I.list e3
    exact call_list_of pins s σ H _ us Q I rv ⟨p, _, rfl, .inl e3, fun t ht => gotR_lst S q (scr_l ns) hz t ht⟩
  · obtain ⟨ns, c, rfl⟩ := Option.map_eq_some_iff.mp hz
    obtain ⟨v, w, rfl, ⟨p, vs, rfl, e2, e3, e4⟩, rfl⟩ := r
    have q := gotR_false (by intro xs z; cases z) q
    have e5 := ints_v c e4
    subst e5
    exact cr_sum hc pins s σ H _ us Q I rv ⟨p, ns, rfl, SqL.of e2, got_same S q rfl⟩
  · obtain ⟨ns, c, rfl⟩ := Option.map_eq_some_iff.mp hz
    obtain ⟨v, w, rfl, ⟨p, vs, rfl, e2, e3, e4⟩, rfl⟩ := r
    have q := gotR_false (by intro xs z; cases z) q
    have e5 := ints_v c e4
    subst e5
    have e6 := e2.sq
    rw [← hK] at e6
    obtain ⟨its, rvs, pt, _⟩ := I.tuple e6
    rw [Vals.ref1 rv]
    exact sum_tup (I.ok.hd hc) pt rvs.ints fun h' tk t' hk => ⟨.int _, H, I.kept hk, ⟨_, rfl⟩, got_same S q rfl⟩
  · obtain ⟨ns, c, rfl⟩ := Option.map_eq_some_iff.mp hz
    obtain ⟨v, w, rfl, ⟨p, vs, rfl, e2, e3, e4⟩, rfl⟩ := r
    have q := gotR_false (by intro xs z; cases z) q
    have e5 := bools_v c e4
    subst e5
    exact cr_all hc pins s σ H _ us Q I rv ⟨p, ns, rfl, SqL.of e2, got_same S q rfl⟩
  · obtain ⟨ns, c, rfl⟩ := Option.map_eq_some_iff.mp hz
    obtain ⟨v, w, rfl, ⟨p, vs, rfl, e2, e3, e4⟩, rfl⟩ := r
    have q := gotR_false (by intro xs z; cases z) q
    have e5 := bools_v c e4
    subst e5
    exact cr_any hc pins s σ H _ us Q I rv ⟨p, ns, rfl, SqL.of e2, got_same S q rfl⟩
  · cases hz
end
end Mp

set_option Elab.async false
set_option linter.all false
set_option maxRecDepth 100000
set_option maxHeartbeats 1000000
/-! What an expression comes to, it comes to in the model. -/
namespace Mp
open PySem PySem.Spec PyProof.Rows L2

structure Gb where
  N : Nm
  prg : Program
  w : World
  mg : Str → Option Value
  base : Heap
  ek : Nat → Option (List Str)
  globs : List (Str × P)
  free : List Str
  nc : Nat
/-- an own exception class -/
structure ExcO (K : PySem.W.Frag) (D : Addr) : Prop where
  own : PySem.W.excIn K D [.type "ValueError", .type "Exception", .type "BaseException", .type "object"] "ValueError.__new__" = true
  keep : PySem.W.keepIn K (.ref D) = true
  ty : PySem.W.typeIn K (.ref D) = some (.type "type")
  cc : ExcC K D
structure GbOk (Γ : Gb) : Prop where
  gl : ∀ x v, Γ.globs.lookup x = some v → ∃ u y, Γ.mg x = some u ∧ RelV y u ∧ ∀ L H, RpP Γ.N L H v y
  fr : ∀ x, x ∈ Γ.free → Γ.mg x = none
  kp : ∀ i, PySem.W.keepIn Γ.N.K (.ref (Γ.N.fa i)) = true
  exo : ∀ c, c < Γ.nc → Γ.ek c = none → ExcO Γ.N.K (Γ.N.ca c)
  exm : ∀ c k, c < Γ.nc → k < Γ.nc → PySem.W.exmOne Γ.N.K (.ref (Γ.N.ca c)) (.ref (Γ.N.ca k)) = some (subT c k)
  kit : ∀ c k, c < Γ.nc → k < Γ.nc → PySem.W.kitOne Γ.N.K (.ref (Γ.N.ca c)) (.ref (Γ.N.ca k)) = some (subT c k)
structure Good0 (Γ : Gb) (N : List Str) (sc : Scope) (W : WX) (X : Cx) : Prop where
  prog : X.prog = Γ.prg
  w : X.w = Γ.w
  K : X.K = Γ.N.K
  mg : X.mg = Γ.mg
  base : X.base = Γ.base
  names : X.N = N
  nd : N.Nodup
  scope : X.env.scope = sc
  un : X.A.units + 65 < cLine
  takes : Takes X W
structure Good (Γ : Gb) (N : List Str) (sc : Scope) (k : Nat) (W : WX) (X : Cx) : Prop extends Good0 Γ N sc W X where
  calm : X.calm = true
  room : Room k X.A
structure Rel (N : Nm) (Z : Addr → Prop) (m : Nat → Addr) (h : Hea) (H : Hp) (σ : L2.St) (ρ : Slots) : Prop where
  st : StOk N Z m h H
  len : ρ.length = σ.length
  env : ∀ (i : Nat) (d : D), ρ[i]? = some (some d) → ∃ v, σ[i]? = some (some v) ∧ RpD N m h.length (LZ Z m h) H d v
/-- an exception as it flies -/
def ExcR (Γ : Gb) (Z : Addr → Prop) (m : Nat → Addr) (h : Hea) (H : Hp) (c : Nat) (fs : List P) (d : Option Addr) : Prop := c < Γ.nc ∧ match Γ.ek c with
  | none => d = none
  | some names => ∃ dd fv, d = some dd ∧ H dd = some (.xd fv) ∧ ∀ (k : Nat) (f : Str), names[k]? = some f → ∃ x v, fs[k]? = some x ∧ fv.lookup f = some v ∧ RpP Γ.N (LZ Z m h) H x v
abbrev VR (α υ : Type) := (Addr → Prop) → (Nat → Addr) → Hea → Hp → α → υ → Prop
def PostX {α υ : Type} (Γ : Gb) (W : WX) (bs : Nat) (Z : Addr → Prop) (m : Nat → Addr) (h : Hea) (H : Hp) (σ : L2.St) (rel : VR α υ) (r : R α) (Q : υ → Hp → Prop) : Prop := match r with
  | .ok a h' => ∀ m' H' v, StOk Γ.N Z m' h' H' → Ext bs m h H m' h' H' → rel Z m' h' H' a v → Q v H'
  | .exn c fs h' => ∀ m' H' d, StOk Γ.N Z m' h' H' → Ext bs m h H m' h' H' → ExcR Γ Z m' h' H' c fs d → W (.ref (Γ.N.ca c)) d σ H'
  | .stuck => False
def rD (N : Nm) : VR D V := fun Z m h H d v => RpD N m h.length (LZ Z m h) H d v
def rDs (N : Nm) : VR (List D) (List V) := fun Z m h H d v => RpDs N m h.length (LZ Z m h) H d v
def rB : VR Bool Bool := fun _ _ _ _ a b => b = a
def tOf {α υ : Type} (Γ : Gb) (W : WX) (bs : Nat) (rel : VR α υ) (F : Slots → Hea → R α) : L2.St → Hp → (υ → Hp → Prop) → Prop := fun σ H Q =>
  ∃ Z m ρ h, bs ≤ h.length ∧ Rel Γ.N Z m h H σ ρ ∧ PostX Γ W bs Z m h H σ rel (F ρ h) Q
section
variable {Γ : Gb} {W : WX} {bs : Nat} {Z : Addr → Prop} {m m' : Nat → Addr} {h h' : Hea} {H H' : Hp} {σ : L2.St} {ρ : Slots} {α β υ ω : Type} {rel : VR α υ} {rel' : VR β ω}
theorem Rel.ext {N : Nm} (R : Rel N Z m h H σ ρ) (S : StOk N Z m' h' H') (E : Ext bs m h H m' h' H') : Rel N Z m' h' H' σ ρ :=
  ⟨S, R.len, fun i d e => by obtain ⟨v, e1, e2⟩ := R.env i d e; exact ⟨v, e1, e2.ext R.st E⟩⟩
theorem PostX.mono {r : R α} {Q Q' : υ → Hp → Prop} (p : PostX Γ W bs Z m h H σ rel r Q) (q : ∀ v H, Q v H → Q' v H) : PostX Γ W bs Z m h H σ rel r Q' := by
  cases r with
  | ok a h' => exact fun m' H' v S E r => q _ _ (p m' H' v S E r)
  | exn c fs h' => exact p
  | stuck => exact p
/-- from further on -/
theorem PostX.from {r : R α} {Q : υ → Hp → Prop} (E : Ext bs m h H m' h' H') (p : PostX Γ W bs Z m h H σ rel r Q) : PostX Γ W bs Z m' h' H' σ rel r Q := by
  cases r with
  | ok a h' => exact fun m' H' v S E' r => p m' H' v S (E.trans E') r
  | exn c fs h' => exact fun m' H' d S E' r => p m' H' d S (E.trans E') r
  | stuck => exact p
theorem post_bind {r : R α} {f : α → Hea → R β} {Q : ω → Hp → Prop} (hb : bs ≤ h.length) (R : Rel Γ.N Z m h H σ ρ) (p : PostX Γ W bs Z m h H σ rel' (r.bind f) Q) :
    PostX Γ W bs Z m h H σ rel r (fun v H1 => ∃ a m1 h1, bs ≤ h1.length ∧ Rel Γ.N Z m1 h1 H1 σ ρ ∧ Ext bs m h H m1 h1 H1 ∧ rel Z m1 h1 H1 a v ∧ PostX Γ W bs Z m1 h1 H1 σ rel' (f a h1) Q) := by
  cases r with
  | ok a h1 => exact fun m1 H1 v S E r => ⟨a, m1, h1, Nat.le_trans hb E.len, R.ext S E, E, r, PostX.from E p⟩
  | exn c fs h1 => exact p
  | stuck => exact p
theorem post_bindE {r : R α} {f : α → Hea → R β} {Q : ω → Hp → Prop} (hb : bs ≤ h.length) (R : Rel Γ.N Z m h H σ ρ) (p : PostX Γ W bs Z m h H σ rel' (r.bind f) Q) :
    PostX Γ W bs Z m h H σ rel r (fun v H1 => ∃ a m1 h1, r = .ok a h1 ∧ bs ≤ h1.length ∧ Rel Γ.N Z m1 h1 H1 σ ρ ∧ Ext bs m h H m1 h1 H1 ∧ rel Z m1 h1 H1 a v ∧ PostX Γ W bs Z m1 h1 H1 σ rel' (f a h1) Q) := by
  cases r with
  | ok a h1 => exact fun m1 H1 v S E r => ⟨a, m1, h1, rfl, Nat.le_trans hb E.len, R.ext S E, E, r, PostX.from E p⟩
  | exn c fs h1 => exact p
  | stuck => exact p
theorem post_ok {a : α} {v : υ} {Q : υ → Hp → Prop} (R : Rel Γ.N Z m h H σ ρ) (p : PostX Γ W bs Z m h H σ rel (.ok a h) Q) (r : rel Z m h H a v) : Q v H := p m H v R.st Ext.refl r
theorem post_got {r : R D} {Q : V → Hp → Prop} (p : PostX Γ W bs Z m h H σ (rD Γ.N) r Q) (ne : ∀ c fs h', r ≠ .exn c fs h') : GotR Γ.N Z bs m h H r Q := by
  cases r with
  | ok a h' => exact fun m' H' v S E r => p m' H' v S E r
  | exn c fs h' => exact absurd rfl (ne c fs h')
  | stuck => exact p
theorem Good0.X {N : List Str} {sc : Scope} {X : Cx} (g : Good0 Γ N sc W X) : X.A.units + 65 < cLine := g.un
end

/-! ### expressions -/
section
variable {Γ : Gb} {N : List Str} {sc : Scope} {k : Nat} {W : WX} {X : Cx} {bs : Nat} {Z : Addr → Prop} {G : Gm}
abbrev tE (Γ : Gb) (W : WX) (bs : Nat) (G : Gm) (e : Ex) : TE := tOf Γ W bs (rD Γ.N) fun ρ h => ev G ρ e h
abbrev tT (Γ : Gb) (W : WX) (bs : Nat) (G : Gm) (e : Ex) : TT := tOf Γ W bs rB fun ρ h => evT G ρ e h
abbrev tA (Γ : Gb) (W : WX) (bs : Nat) (G : Gm) (es : Exs) : TA := tOf Γ W bs (rDs Γ.N) fun ρ h => evs G ρ es h

theorem s_var (g : Good0 Γ N sc W X) {i : Nat} {x : Str} {pos : Pos} (hN : N[i]? = some x) (hv : Vis sc x) (hd : (x == ("__debug__" : Str)) = false) (hcd : (x == ("__classdict__" : Str)) = false) :
    PE X (.Name x pos) (tE Γ W bs G (.var i)) := by
  refine ⟨fun pins s σ H Q I ⟨Z, m, ρ, h, hb, R, p⟩ => ?_⟩
  refine (pe_var (i := i) (by rw [g.names]; exact hN) (by rw [g.scope]; exact hv) hd hcd).run pins s σ H Q I ?_
  have p : PostX Γ W bs Z m h H σ (rD Γ.N) (ev G ρ (.var i) h) Q := p
  unfold ev at p
  split at p
  · rename_i d e
    obtain ⟨v, e1, e2⟩ := R.env i d e
    exact ⟨v, e1, post_ok R p e2⟩
  · exact p.elim
theorem s_con {v : P} {y : V} {e : Expr} (h1 : PE X e (tC y)) (h2 : ∀ L H, RpP Γ.N L H v y) (f : ∀ ρ h, ev G ρ e' h = .ok (.p v) h) : PE X e (tOf Γ W bs (rD Γ.N) fun ρ h => ev G ρ e' h) := by
  refine ⟨fun pins s σ H Q I ⟨Z, m, ρ, h, hb, R, p⟩ => h1.run pins s σ H Q I ?_⟩
  have p : PostX Γ W bs Z m h H σ (rD Γ.N) (ev G ρ e' h) Q := p
  rw [f] at p
  exact post_ok (v := y) R p (h2 _ _)
theorem s_glo (g : Good0 Γ N sc W X) (O : GbOk Γ) {v : P} {x : Str} {pos : Pos} (hg : sc.names.lookup x = some .globalImplicit) (hl : Γ.globs.lookup x = some v) (hd : (x == ("__debug__" : Str)) = false) : PE X (.Name x pos) (tE Γ W bs G (.glo v)) := by
  obtain ⟨u, y, h1, h2, h3⟩ := O.gl x v hl
  exact s_con (pe_glob (by show X.env.kindOf x = _; unfold Env.kindOf; rw [g.scope]; exact hg) (by rw [g.mg]; exact h1) h2 hd) h3 fun _ _ => by unfold ev; rfl
theorem s_bin (g : Good0 Γ N sc W X) {o : BOp} {a b : Ex} {x y : Expr} {op : Operator} {pos : Pos} (ho : opB o = op) (ha : PE X x (tE Γ W bs G a)) (hb : PE X y (tE Γ W bs G b)) : PE X (.BinOp x op y pos) (tE Γ W bs G (.bin o a b)) := by
  subst ho
  refine ⟨fun pins s σ H Q I ⟨Z, m, ρ, h, hbs, R, p⟩ => ?_⟩
  have p : PostX Γ W bs Z m h H σ (rD Γ.N) (ev G ρ (.bin o a b) h) Q := p
  unfold ev at p
  refine wpAny_BinOp (thn (ha.run pins s σ H _ I ⟨Z, m, ρ, h, hbs, R, post_bind hbs R p⟩) fun v s1 ⟨vx, H1, I1, r1, d1, m1, h1, hb1, R1, E1, rx, p1⟩ => ?_)
  refine thn (hb.run pins s1 σ H1 _ I1 ⟨Z, m1, ρ, h1, hb1, R1, post_bind hb1 R1 p1⟩) fun u s2 ⟨vy, H2, I2, r2, d2, m2, h2, hb2, R2, E2, ry, p2⟩ => ?_
  have rx := RpD.ext R1.st E2 rx
  cases d1 with
  | ref _ => exact p2.elim
  | p x1 =>
    cases d2 with
    | ref _ => exact p2.elim
    | p x2 =>
      cases c : binP o x1 x2 with
      | none =>
        have p2 : PostX Γ W bs Z m2 h2 H2 σ (rD Γ.N) (Mp.R.ofO ((binP o x1 x2).map D.p) h2) Q := p2
        rw [c] at p2
        exact p2.elim
      | some z =>
        have p2 : PostX Γ W bs Z m2 h2 H2 σ (rD Γ.N) (Mp.R.ofO ((binP o x1 x2).map D.p) h2) Q := p2
        rw [c] at p2
        exact bin_ok g.K c R2.st I2 rx ry r1 r2 fun H' v S E r => p2 m2 H' v S E r
theorem s_neg (g : Good0 Γ N sc W X) {a : Ex} {x : Expr} {pos : Pos} (ha : PE X x (tE Γ W bs G a)) : PE X (.UnaryOp .USub x pos) (tE Γ W bs G (.neg a)) := by
  refine ⟨fun pins s σ H Q I ⟨Z, m, ρ, h, hbs, R, p⟩ => ?_⟩
  have p : PostX Γ W bs Z m h H σ (rD Γ.N) (ev G ρ (.neg a) h) Q := p
  unfold ev at p
  refine UnaryOp_ (thn (ha.run pins s σ H _ I ⟨Z, m, ρ, h, hbs, R, post_bind hbs R p⟩) fun v s1 ⟨vx, H1, I1, r1, d1, m1, h1, hb1, R1, E1, rx, p1⟩ => ?_)
  split at p1
  · have e : vx = .int _ := rx
    exact un_neg pins s1 σ H1 vx v Q I1 r1 ⟨_, e, post_ok R1 p1 rfl⟩
  · exact p1.elim
theorem c_cmp (g : Good0 Γ N sc W X) {o : COp} {a b : Ex} {x y : Expr} {op : CmpOp} (ho : opC o = op) (ha : PE X x (tE Γ W bs G a)) (hb : PE X y (tE Γ W bs G b)) : PC X op x y (tE Γ W bs G (.cmp o a b)) := by
  subst ho
  refine ⟨fun pins s σ H Q I ⟨Z, m, ρ, h, hbs, R, p⟩ => ?_⟩
  have p : PostX Γ W bs Z m h H σ (rD Γ.N) (ev G ρ (.cmp o a b) h) Q := p
  unfold ev at p
  refine thn (ha.run pins s σ H _ I ⟨Z, m, ρ, h, hbs, R, post_bind hbs R p⟩) fun v s1 ⟨vx, H1, I1, r1, d1, m1, h1, hb1, R1, E1, rx, p1⟩ => ?_
  refine thn (hb.run pins s1 σ H1 _ I1 ⟨Z, m1, ρ, h1, hb1, R1, post_bind hb1 R1 p1⟩) fun u s2 ⟨vy, H2, I2, r2, d2, m2, h2, hb2, R2, E2, ry, p2⟩ => ?_
  have rx := RpD.ext R1.st E2 rx
  cases c1 : view h2 d1 with
  | none => rw [c1] at p2; exact p2.elim
  | some x1 =>
    rw [c1] at p2
    cases c2 : view h2 d2 with
    | none => rw [c2] at p2; exact p2.elim
    | some x2 =>
      rw [c2] at p2
      have p2 : PostX Γ W bs Z m2 h2 H2 σ (rD Γ.N) (Mp.R.ofO ((cmpP o x1 x2).map fun k => D.p (.bl k)) h2) Q := p2
      cases c : cmpP o x1 x2 with
      | none => rw [c] at p2; exact p2.elim
      | some z =>
        rw [c] at p2
        exact cmp_ok g.K g.X c I2 (view_rv R2.st rx c1) (view_rv R2.st ry c2) r1 r2 (post_ok R2 p2 rfl)
theorem s_cmp (g : Good0 Γ N sc W X) {o : COp} {a b : Ex} {x y : Expr} {op : CmpOp} {pos : Pos} (ho : opC o = op) (ha : PE X x (tE Γ W bs G a)) (hb : PE X y (tE Γ W bs G b)) (hm : behindInMarks op y = false) :
    PE X (.Compare x [op] [y] pos) (tE Γ W bs G (.cmp o a b)) := pe_cmp (c_cmp g ho ha hb) hm
/-- a test by its value's truth -/
theorem tru_post (g : Good0 Γ N sc W X) {e : Ex} {ρ : Slots} {m : Nat → Addr} {h : Hea} {H : Hp} {σ : L2.St} {Q : Bool → Hp → Prop} (hbs : bs ≤ h.length) (R : Rel Γ.N Z m h H σ ρ)
    (p : PostX Γ W bs Z m h H σ rB ((ev G ρ e h).bind fun d h => Mp.R.ofO (truD h d) h) Q) : PostX Γ W bs Z m h H σ (rD Γ.N) (ev G ρ e h) (fun v H1 => ∃ k, TruV X.K v H1 k ∧ Q k H1) := by
  refine (post_bind hbs R p).mono fun v H1 ⟨d, m1, h1, hb1, R1, E1, rx, p1⟩ => ?_
  cases c : truD h1 d with
  | none => rw [c] at p1; exact p1.elim
  | some k =>
    rw [c] at p1
    exact ⟨k, tru_ok' g.K c R1.st rx, post_ok R1 p1 rfl⟩
theorem t_cmp (g : Good0 Γ N sc W X) {o : COp} {a b : Ex} {x y : Expr} {op : CmpOp} {pos : Pos} (ho : opC o = op) (ha : PE X x (tE Γ W bs G a)) (hb : PE X y (tE Γ W bs G b)) (hm : behindInMarks op y = false) :
    PT X (.Compare x [op] [y] pos) (tT Γ W bs G (.cmp o a b)) := by
  refine ⟨fun pins s σ H Q I ⟨Z, m, ρ, h, hbs, R, p⟩ => ?_⟩
  have p : PostX Γ W bs Z m h H σ rB (evT G ρ (.cmp o a b) h) Q := p
  unfold evT at p
  refine wpAny_isTrue_Compare1 (thn ((c_cmp g ho ha hb).run pins s σ H _ I ⟨Z, m, ρ, h, hbs, R, tru_post g hbs R p⟩) fun v s1 h1 => thn h1 fun u s2 h2 => thn h2 fun c s3 ⟨x, H1, I1, r1, q1⟩ => ?_) hm
  exact tru_ok pins s3 σ H1 x c Q I1 r1 q1
theorem t_tru (g : Good0 Γ N sc W X) {a : Ex} {x : Expr} (ha : PE X x (tE Γ W bs G a)) (he : ∀ whole, isTrue x X.env whole = (do let v ← whole; standAt x.pos; holding [v] (truthy v)))
    (hx : ∀ ρ h, evT G ρ a h = (ev G ρ a h).bind fun d h => Mp.R.ofO (truD h d) h) : PT X x (tT Γ W bs G a) := by
  refine ⟨fun pins s σ H Q I ⟨Z, m, ρ, h, hbs, R, p⟩ => ?_⟩
  have p : PostX Γ W bs Z m h H σ rB (evT G ρ a h) Q := p
  rw [hx] at p
  exact (pt_truth ha he).run pins s σ H Q I ⟨Z, m, ρ, h, hbs, R, tru_post g hbs R p⟩
/-! and, or, not -/
theorem s_and (g : Good0 Γ N sc W X) {a b : Ex} {x y : Expr} {r : List Expr} {pos : Pos} (ha : PE X x (tE Γ W bs G a)) (hb : PE X (.BoolOp .And (y :: r) pos) (tE Γ W bs G b)) : PE X (.BoolOp .And (x :: y :: r) pos) (tE Γ W bs G (.and_ a b)) := by
  refine ⟨fun pins s σ H Q I ⟨Z, m, ρ, h, hbs, R, p⟩ => ?_⟩
  have p : PostX Γ W bs Z m h H σ (rD Γ.N) (ev G ρ (.and_ a b) h) Q := p
  unfold ev at p
  refine (pe_and ha hb).run pins s σ H Q I ⟨Z, m, ρ, h, hbs, R, (post_bind hbs R p).mono fun v H1 ⟨d, m1, h1, hb1, R1, E1, rx, p1⟩ => ?_⟩
  split at p1
  · exact ⟨true, rx, by rw [if_pos rfl]; exact ⟨Z, m1, ρ, h1, hb1, R1, p1⟩⟩
  · exact ⟨false, rx, by rw [if_neg Bool.false_ne_true]; exact post_ok R1 p1 rfl⟩
  · exact p1.elim
theorem s_or (g : Good0 Γ N sc W X) {a b : Ex} {x y : Expr} {r : List Expr} {pos : Pos} (ha : PE X x (tE Γ W bs G a)) (hb : PE X (.BoolOp .Or (y :: r) pos) (tE Γ W bs G b)) : PE X (.BoolOp .Or (x :: y :: r) pos) (tE Γ W bs G (.or_ a b)) := by
  refine ⟨fun pins s σ H Q I ⟨Z, m, ρ, h, hbs, R, p⟩ => ?_⟩
  have p : PostX Γ W bs Z m h H σ (rD Γ.N) (ev G ρ (.or_ a b) h) Q := p
  unfold ev at p
  refine (pe_or ha hb).run pins s σ H Q I ⟨Z, m, ρ, h, hbs, R, (post_bind hbs R p).mono fun v H1 ⟨d, m1, h1, hb1, R1, E1, rx, p1⟩ => ?_⟩
  split at p1
  · exact ⟨true, rx, by rw [if_pos rfl]; exact post_ok R1 p1 rfl⟩
  · exact ⟨false, rx, by rw [if_neg Bool.false_ne_true]; exact ⟨Z, m1, ρ, h1, hb1, R1, p1⟩⟩
  · exact p1.elim
theorem s_not (g : Good0 Γ N sc W X) {a : Ex} {x : Expr} {pos : Pos} (ha : PE X x (tE Γ W bs G a)) : PE X (.UnaryOp .Not x pos) (tE Γ W bs G (.not_ a)) := by
  refine ⟨fun pins s σ H Q I ⟨Z, m, ρ, h, hbs, R, p⟩ => ?_⟩
  have p : PostX Γ W bs Z m h H σ (rD Γ.N) (ev G ρ (.not_ a) h) Q := p
  unfold ev at p
  refine (pe_not ha).run pins s σ H Q I ⟨Z, m, ρ, h, hbs, R, (post_bind hbs R p).mono fun v H1 ⟨d, m1, h1, hb1, R1, E1, rx, p1⟩ => ?_⟩
  split at p1
  · exact ⟨_, rx, post_ok R1 p1 rfl⟩
  · exact p1.elim
theorem t_and (g : Good0 Γ N sc W X) {a b : Ex} {x y : Expr} {r : List Expr} {pos : Pos} (ha : PT X x (tT Γ W bs G a)) (hb : PW X (.BoolOp .And (y :: r) pos) (tT Γ W bs G b)) : PW X (.BoolOp .And (x :: y :: r) pos) (tT Γ W bs G (.and_ a b)) := by
  refine ⟨fun wh pins s σ H Q I ⟨Z, m, ρ, h, hbs, R, p⟩ => ?_⟩
  have p : PostX Γ W bs Z m h H σ rB (evT G ρ (.and_ a b) h) Q := p
  unfold evT at p
  refine (pw_and ha hb).run wh pins s σ H Q I ⟨Z, m, ρ, h, hbs, R, (post_bind hbs R p).mono fun v H1 ⟨d, m1, h1, hb1, R1, E1, rx, p1⟩ => ?_⟩
  have rx : v = d := rx
  subst rx
  cases v with
  | true => rw [if_pos rfl]; exact ⟨Z, m1, ρ, h1, hb1, R1, p1⟩
  | false => rw [if_neg Bool.false_ne_true]; exact post_ok R1 p1 rfl
theorem t_or (g : Good0 Γ N sc W X) {a b : Ex} {x y : Expr} {r : List Expr} {pos : Pos} (ha : PT X x (tT Γ W bs G a)) (hb : PW X (.BoolOp .Or (y :: r) pos) (tT Γ W bs G b)) : PW X (.BoolOp .Or (x :: y :: r) pos) (tT Γ W bs G (.or_ a b)) := by
  refine ⟨fun wh pins s σ H Q I ⟨Z, m, ρ, h, hbs, R, p⟩ => ?_⟩
  have p : PostX Γ W bs Z m h H σ rB (evT G ρ (.or_ a b) h) Q := p
  unfold evT at p
  refine (pw_or ha hb).run wh pins s σ H Q I ⟨Z, m, ρ, h, hbs, R, (post_bind hbs R p).mono fun v H1 ⟨d, m1, h1, hb1, R1, E1, rx, p1⟩ => ?_⟩
  have rx : v = d := rx
  subst rx
  cases v with
  | true => rw [if_pos rfl]; exact post_ok R1 p1 rfl
  | false => rw [if_neg Bool.false_ne_true]; exact ⟨Z, m1, ρ, h1, hb1, R1, p1⟩
theorem t_not (g : Good0 Γ N sc W X) {a : Ex} {x : Expr} {pos : Pos} (ha : PT X x (tT Γ W bs G a)) : PT X (.UnaryOp .Not x pos) (tT Γ W bs G (.not_ a)) := by
  refine ⟨fun pins s σ H Q I ⟨Z, m, ρ, h, hbs, R, p⟩ => ?_⟩
  have p : PostX Γ W bs Z m h H σ rB (evT G ρ (.not_ a) h) Q := p
  unfold evT at p
  refine (pt_not ha).run pins s σ H Q I ⟨Z, m, ρ, h, hbs, R, (post_bind hbs R p).mono fun v H1 ⟨d, m1, h1, hb1, R1, E1, rx, p1⟩ => ?_⟩
  have rx : v = d := rx
  subst rx
  exact post_ok R1 p1 rfl
theorem s_ite (g : Good0 Γ N sc W X) {c a b : Ex} {t x y : Expr} {pos : Pos} (hc : PT X t (tT Γ W bs G c)) (ha : PE X x (tE Γ W bs G a)) (hb : PE X y (tE Γ W bs G b)) : PE X (.IfExp t x y pos) (tE Γ W bs G (.ite c a b)) := by
  refine ⟨fun pins s σ H Q I ⟨Z, m, ρ, h, hbs, R, p⟩ => ?_⟩
  have p : PostX Γ W bs Z m h H σ (rD Γ.N) (ev G ρ (.ite c a b) h) Q := p
  unfold ev at p
  refine (pe_ifExp hc ha hb).run pins s σ H Q I ⟨Z, m, ρ, h, hbs, R, (post_bind hbs R p).mono fun v H1 ⟨d, m1, h1, hb1, R1, E1, rx, p1⟩ => ?_⟩
  have rx : v = d := rx
  subst rx
  cases v with
  | true => rw [if_pos rfl]; exact ⟨Z, m1, ρ, h1, hb1, R1, p1⟩
  | false => rw [if_neg Bool.false_ne_true]; exact ⟨Z, m1, ρ, h1, hb1, R1, p1⟩
theorem s_chain (g : Good0 Γ N sc W X) {o o' : COp} {a b c : Ex} {x y z : Expr} {op op' : CmpOp} {pos : Pos} (ho : opC o = op) (ho' : opC o' = op') (ha : PE X x (tE Γ W bs G a)) (hb : PE X y (tE Γ W bs G b)) (hc : PE X z (tE Γ W bs G c))
    (hm : lastMarks [op, op'] [y, z] = false) : PE X (.Compare x [op, op'] [y, z] pos) (tE Γ W bs G (.chain o o' a b c)) := by
  subst ho ho'
  refine ⟨fun pins s σ H Q I ⟨Z, m, ρ, h, hbs, R, p⟩ => ?_⟩
  have p : PostX Γ W bs Z m h H σ (rD Γ.N) (ev G ρ (.chain o o' a b c) h) Q := p
  unfold ev at p
  refine Compare_chain (thn (ha.run pins s σ H _ I ⟨Z, m, ρ, h, hbs, R, post_bind hbs R p⟩) fun v s1 ⟨vx, H1, I1, r1, d1, m1, h1, hb1, R1, E1, rx, p1⟩ => ?_) hm
  refine chain_link (thn (hb.run pins s1 σ H1 _ I1 ⟨Z, m1, ρ, h1, hb1, R1, post_bind hb1 R1 p1⟩) fun u s2 ⟨vy, H2, I2, r2, d2, m2, h2, hb2, R2, E2, ry, p2⟩ => ?_)
  have rx := RpD.ext R1.st E2 rx
  cases c1 : view h2 d1 with
  | none => rw [c1] at p2; exact p2.elim
  | some x1 =>
    rw [c1] at p2
    cases c2 : view h2 d2 with
    | none => rw [c2] at p2; exact p2.elim
    | some x2 =>
      rw [c2] at p2
      cases c0 : cmpP o x1 x2 with
      | none =>
        have e : (((some x1).bind fun x => (some x2).bind fun y => cmpP o x y) : Option Bool) = none := c0
        rw [e] at p2; exact p2.elim
      | some q0 =>
        have e : (((some x1).bind fun x => (some x2).bind fun y => cmpP o x y) : Option Bool) = some q0 := c0
        rw [e] at p2
        refine thn (cmp_ok (Q := fun v' H' => v' = .bl q0 ∧ H' = H2) g.K g.X c0 I2 (view_rv R2.st rx c1) (view_rv R2.st ry c2) r1 r2 ⟨rfl, rfl⟩) fun d s3 ⟨vz, H3, I3, r3, e1, e2⟩ => ?_
        subst e1 e2
        cases r3
        refine wpAny_truthy_bool ?_
        cases q0 with
        | false => exact ite_ff ⟨.bl false, H3, I3, rfl, post_ok R2 p2 rfl⟩
        | true =>
          refine ite_tt (chain_last (thn (hc.run pins s3 σ H3 _ I3 ⟨Z, m2, ρ, h2, hb2, R2, post_bind hb2 R2 p2⟩) fun w' s4 ⟨v4, H4, I4, r4, d4, m4, h4, hb4, R4, E4, r4', p4⟩ => ?_))
          have ry := RpD.ext R2.st E4 ry
          cases c3 : view h4 d2 with
          | none => rw [c3] at p4; exact p4.elim
          | some x3 =>
            rw [c3] at p4
            cases c4 : view h4 d4 with
            | none => rw [c4] at p4; exact p4.elim
            | some x4 =>
              rw [c4] at p4
              have p4 : PostX Γ W bs Z m4 h4 H4 σ (rD Γ.N) (Mp.R.ofO ((cmpP o' x3 x4).map fun k => D.p (.bl k)) h4) Q := p4
              cases c5 : cmpP o' x3 x4 with
              | none => rw [c5] at p4; exact p4.elim
              | some q5 =>
                rw [c5] at p4
                exact cmp_ok g.K g.X c5 I4 (view_rv R4.st ry c3) (view_rv R4.st r4' c4) r2 r4 (post_ok R4 p4 rfl)

/-! ### arguments, displays, items -/
def noStar : Expr → Bool
  | .Starred .. => false
  | _ => true
theorem star_cons {e : Expr} {es : List Expr} {env : Env} (h : noStar e = true) : starEach (e :: es) env = (false, eval e env) :: starEach es env := by
  cases e <;> first | rfl | cases h
def noStars : List Expr → Bool
  | [] => true
  | e :: es => noStar e && noStars es
theorem star_none {pos : Pos} {env : Env} : ∀ {es : List Expr}, noStars es = true → (backTo pos (starEach es env)).any (·.1) = false
  | [], _ => rfl
  | e :: es, h => by
    obtain ⟨h1, h2⟩ := Bool.and_eq_true_iff.mp h
    rw [star_cons h1]
    show (false || (backTo pos (starEach es env)).any (·.1)) = false
    rw [star_none h2] <;> rfl
theorem a_nil : PA X [] (tA Γ W bs G .nil) := by
  refine ⟨fun pos pins s σ H Q I ⟨Z, m, ρ, h, hbs, R, p⟩ => pa_nil.run pos pins s σ H Q I ?_⟩
  have p : PostX Γ W bs Z m h H σ (rDs Γ.N) (evs G ρ .nil h) Q := p
  unfold evs at p
  exact post_ok R p rfl
theorem evs_post {e : Ex} {es : Exs} {ρ : Slots} {m : Nat → Addr} {h : Hea} {H : Hp} {σ : L2.St} {Q : List V → Hp → Prop} (hbs : bs ≤ h.length) (R : Rel Γ.N Z m h H σ ρ)
    (p : PostX Γ W bs Z m h H σ (rDs Γ.N) (evs G ρ (.cons e es) h) Q) : PostX Γ W bs Z m h H σ (rD Γ.N) (ev G ρ e h) (fun v H1 => tA Γ W bs G es σ H1 fun vs H2 => Q (v :: vs) H2) := by
  unfold evs at p
  refine (post_bind hbs R p).mono fun v H1 ⟨d, m1, h1, hb1, R1, E1, rx, p1⟩ => ?_
  refine ⟨Z, m1, ρ, h1, hb1, R1, (post_bind hb1 R1 p1).mono fun vs H2 ⟨ds, m2, h2, hb2, R2, E2, rs, p2⟩ => ?_⟩
  exact post_ok R2 p2 ⟨v, vs, rfl, RpD.ext R1.st E2 rx, rs⟩
theorem a_cons {e : Ex} {es : Exs} {x : Expr} {xs : List Expr} (hn : noStar x = true) (ha : PE X x (tE Γ W bs G e)) (hr : PA X xs (tA Γ W bs G es)) : PA X (x :: xs) (tA Γ W bs G (.cons e es)) := by
  refine ⟨fun pos pins s σ H Q I ⟨Z, m, ρ, h, hbs, R, p⟩ => (pa_cons ha hr (star_cons hn)).run pos pins s σ H Q I ?_⟩
  have p : PostX Γ W bs Z m h H σ (rDs Γ.N) (evs G ρ (.cons e es) h) Q := p
  exact ⟨Z, m, ρ, h, hbs, R, evs_post hbs R p⟩
theorem s_tup (g : Good0 Γ N sc W X) {es : Exs} {xs : List Expr} {c : Nat} {pos : Pos} (ha : PA X xs (tA Γ W bs G es)) : PE X (.Tuple xs c pos) (tE Γ W bs G (.tup es)) := by
  refine ⟨fun pins s σ H Q I ⟨Z, m, ρ, h, hbs, R, p⟩ => ?_⟩
  have p : PostX Γ W bs Z m h H σ (rD Γ.N) (ev G ρ (.tup es) h) Q := p
  unfold ev at p
  refine (pe_tup ha).run pins s σ H Q I ⟨Z, m, ρ, h, hbs, R, (post_bind hbs R p).mono fun vs H1 ⟨ds, m1, h1, hb1, R1, E1, rs, p1⟩ => ?_⟩
  split at p1
  · rename_i ys c1
    split at p1
    · rename_i hl
      have r := rs.pure c1
      have hl' : vs.length ≤ sizeLine := by rw [← RpL.length r]; exact lim_le hl
      exact ⟨hl', fun t ht => got_tup (bs := bs) g.K R1.st (fun H' v S E r => p1 m1 H' v S E r) r hl' t ht⟩
    · exact p1.elim
  · exact p1.elim
theorem mk_post {mu : Bool} {ds : List D} {vs : List V} {ρ : Slots} {m : Nat → Addr} {h : Hea} {H : Hp} {σ : L2.St} {Q : V → Hp → Prop} (R : Rel Γ.N Z m h H σ ρ) (rs : RpDs Γ.N m h.length (LZ Z m h) H ds vs)
    (p : PostX Γ W bs Z m h H σ (rD Γ.N) (mk mu ds h) Q) : vs.length ≤ sizeLine ∧ ∀ t, H t = none → Q (.ref t) (upd H t (.lst vs)) := by
  unfold mk at p
  split at p
  · rename_i hl
    have hl' : vs.length ≤ sizeLine := by rw [← RpDs.length rs]; exact lim_le hl
    refine ⟨hl', fun t ht => ?_⟩
    split at p
    · obtain ⟨S', E, r'⟩ := R.st.cell (bs := bs) ht rs hl'
      exact p _ _ _ S' E r'
    · split at p
      · rename_i xs c
        exact got_lst R.st (fun H' v S E r => p m H' v S E r) (rs.pure c) hl' t ht
      · exact p.elim
  · exact p.elim
theorem s_lst (g : Good0 Γ N sc W X) {mu : Bool} {es : Exs} {xs : List Expr} {pos : Pos} (ha : PA X xs (tA Γ W bs G es)) : PE X (.List xs pos) (tE Γ W bs G (.lst mu es)) := by
  refine ⟨fun pins s σ H Q I ⟨Z, m, ρ, h, hbs, R, p⟩ => ?_⟩
  have p : PostX Γ W bs Z m h H σ (rD Γ.N) (ev G ρ (.lst mu es) h) Q := p
  unfold ev at p
  exact (pe_lst ha).run pins s σ H Q I ⟨Z, m, ρ, h, hbs, R, (post_bind hbs R p).mono fun vs H1 ⟨ds, m1, h1, hb1, R1, E1, rs, p1⟩ => mk_post R1 rs p1⟩
def plainIxB : Expr → Bool
  | .Slice .. => false
  | _ => true
theorem plainIx_of {e : Expr} (h : plainIxB e = true) : PlainIx e := by
  intro o i
  cases e <;> first | rfl | cases h
theorem s_idx (g : Good0 Γ N sc W X) {a b : Ex} {x y : Expr} {pos : Pos} (ha : PE X x (tE Γ W bs G a)) (hb : PE X y (tE Γ W bs G b)) (hi : plainIxB y = true) : PE X (.Subscript x y pos) (tE Γ W bs G (.idx a b)) := by
  refine ⟨fun pins s σ H Q I ⟨Z, m, ρ, h, hbs, R, p⟩ => ?_⟩
  have p : PostX Γ W bs Z m h H σ (rD Γ.N) (ev G ρ (.idx a b) h) Q := p
  unfold ev at p
  refine Subscript_ (thn (ha.run pins s σ H _ I ⟨Z, m, ρ, h, hbs, R, post_bind hbs R p⟩) fun v s1 ⟨vx, H1, I1, r1, d1, m1, h1, hb1, R1, E1, rx, p1⟩ => ?_)
  refine thn (hb.run pins s1 σ H1 _ I1 ⟨Z, m1, ρ, h1, hb1, R1, post_bind hb1 R1 p1⟩) fun u s2 ⟨vy, H2, I2, r2, d2, m2, h2, hb2, R2, E2, ry, p2⟩ => ?_
  have rx := RpD.ext R1.st E2 rx
  cases c : idxD h2 d1 d2 with
  | none => rw [c] at p2; exact p2.elim
  | some z =>
    rw [c] at p2
    exact idx_ok g.K x y c R2.st I2 rx ry r1 r2 (plainIx_of hi _ _) fun w r => post_ok R2 p2 r
/-- a slice's part -/
def tP (Γ : Gb) (W : WX) (bs : Nat) (G : Gm) (es : Exs) : TO := fun σ H Q => ∃ Z m ρ h, bs ≤ h.length ∧ Rel Γ.N Z m h H σ ρ ∧ PostX Γ W bs Z m h H σ (rDs Γ.N) (evs G ρ es h) fun vs H1 => (vs = [] ∧ Q none H1) ∨ ∃ i, vs = [.int i] ∧ Q (some i) H1
theorem p_none : PO X none (tP Γ W bs G .nil) := by
  refine ⟨fun pins s σ H Q I ⟨Z, m, ρ, h, hbs, R, p⟩ => po_none.run pins s σ H Q I ?_⟩
  unfold evs at p
  rcases post_ok R p (v := []) rfl with ⟨_, q⟩ | ⟨i, e, _⟩
  · exact q
  · cases e
theorem p_some {a : Ex} {x : Expr} (ha : PE X x (tE Γ W bs G a)) : PO X (some x) (tP Γ W bs G (.cons a .nil)) := by
  refine ⟨fun pins s σ H Q I ⟨Z, m, ρ, h, hbs, R, p⟩ => (po_some ha).run pins s σ H Q I ⟨Z, m, ρ, h, hbs, R, (evs_post hbs R p).mono fun v H1 ⟨Z, m1, ρ1, h1, hb1, R1, p1⟩ => ?_⟩⟩
  unfold evs at p1
  rcases post_ok R1 p1 (v := []) rfl with ⟨e, _⟩ | ⟨i, e, q⟩
  · cases e
  · cases e
    exact ⟨i, rfl, q⟩
theorem ends_v {ds : List D} {vs : List V} {o : Option Int} {m : Nat → Addr} {n : Nat} {L : Addr → Prop} {H : Hp} {N : Nm} (e : ends ds = some o) (r : RpDs N m n L H ds vs) : (vs = [] ∧ o = none) ∨ ∃ i, vs = [.int i] ∧ o = some i := by
  unfold ends at e
  split at e
  · cases e
    exact .inl ⟨r, rfl⟩
  · cases e
    rename_i i
    obtain ⟨v, w, rfl, e1, rfl⟩ := r
    have e1 : v = .int i := e1
    exact .inr ⟨i, by rw [e1], rfl⟩
  · cases e
theorem s_slc (g : Good0 Γ N sc W X) {mu : Bool} {a : Ex} {lo hi : Exs} {x : Expr} {l u : Option Expr} {p2 pos : Pos} (ha : PE X x (tE Γ W bs G a)) (hl : PO X l (tP Γ W bs G lo)) (hu : PO X u (tP Γ W bs G hi)) :
    PE X (.Subscript x (.Slice l u none p2) pos) (tE Γ W bs G (.slc mu a lo hi)) := by
  refine ⟨fun pins s σ H Q I ⟨Z, m, ρ, h, hbs, R, p⟩ => ?_⟩
  have p : PostX Γ W bs Z m h H σ (rD Γ.N) (ev G ρ (.slc mu a lo hi) h) Q := p
  unfold ev at p
  refine (pe_slice ((sl_tupA.or sl_list).or sl_str) ha hl hu).run pins s σ H Q I ⟨Z, m, ρ, h, hbs, R, (post_bind hbs R p).mono fun v H1 ⟨d, m1, h1, hb1, R1, E1, rx, p1⟩ => ?_⟩
  refine ⟨Z, m1, ρ, h1, hb1, R1, (post_bind hb1 R1 p1).mono fun vs H2 ⟨ds, m2, h2, hb2, R2, E2, rs, p2⟩ => ?_⟩
  split at p2
  · exact p2.elim
  · rename_i o c1
    have fin : ∀ (o' : Option Int), o' = o → tP Γ W bs G hi σ H2 fun o2 H3 => (rSlA X.K v o' o2 H3 Q ∨ rSlL X.K v o' o2 H3 Q) ∨ rSlS v o' o2 H3 Q := fun o' eo => by
      subst eo
      refine ⟨Z, m2, ρ, h2, hb2, R2, (post_bind hb2 R2 p2).mono fun ws H3 ⟨es, m3, h3, hb3, R3, E3, rs3, p3⟩ => ?_⟩
      split at p3
      · exact p3.elim
      · rename_i o2 c2
        have rx := RpD.ext R2.st E3 (RpD.ext R1.st E2 rx)
        have go : (rSlA X.K v o' o2 H3 Q ∨ rSlL X.K v o' o2 H3 Q) ∨ rSlS v o' o2 H3 Q := by
          split at p3
          · rename_i y c3
            cases c4 : view h3 d with
            | none => rw [c4] at c3; cases c3
            | some z =>
              rw [c4] at c3
              exact slc_ok g.K (v := .none) (vl := .none) (vu := .none) (sl := 0) (bs := bs) c3 R3.st (view_rv R3.st rx c4) (post_got p3 fun c fs h' z => by unfold outP out at z; split at z <;> cases z)
          · exact p3.elim
        rcases ends_v c2 rs3 with ⟨e1, e2⟩ | ⟨i, e1, e2⟩
        · subst e2; exact .inl ⟨e1, go⟩
        · subst e2; exact .inr ⟨i, e1, go⟩
    rcases ends_v c1 rs with ⟨e1, e2⟩ | ⟨i, e1, e2⟩
    · exact .inl ⟨e1, fin none e2.symm⟩
    · exact .inr ⟨i, e1, fin (some i) e2.symm⟩

/-! ### calls -/
def spF (Γ : Gb) (F : List D → Hea → R D) : Sp := fun vs H Q E => ∃ Z m h ds, StOk Γ.N Z m h H ∧ RpDs Γ.N m h.length (LZ Z m h) H ds vs ∧
  PostX Γ (fun c d _ H => E c d H) h.length Z m h H [] (rD Γ.N) (F ds h) Q
def FnIs (Γ : Gb) (k f : Nat) (F : List D → Hea → R D) : Prop := ∃ fd ps, FnOk Γ.prg Γ.w Γ.N.K Γ.mg Γ.base (L2.CX Γ.prg Γ.w) k (Γ.N.fa f) fd ps (spF Γ F) ∧ Binds Γ.N.K fd ps []
def CallsOk (Γ : Gb) (k : Nat) (call : Nat → List D → Hea → R D) : Prop := ∀ f ds h, call f ds h ≠ .stuck → FnIs Γ k f (call f)
theorem post_call {F : List D → Hea → R D} {ds : List D} {vs : List V} {ρ : Slots} {m : Nat → Addr} {h : Hea} {H : Hp} {σ : L2.St} {Q : V → Hp → Prop} (hbs : bs ≤ h.length) (R : Rel Γ.N Z m h H σ ρ) (rs : RpDs Γ.N m h.length (LZ Z m h) H ds vs)
    (p : PostX Γ W bs Z m h H σ (rD Γ.N) (F ds h) Q) : spF Γ F vs H Q (WE W σ) := by
  refine ⟨Z, m, h, ds, R.st, rs, ?_⟩
  cases c : F ds h with
  | ok d h' => rw [c] at p; exact fun m' H' v S E r => p m' H' v S (E.bsle hbs) r
  | exn x fs h' => rw [c] at p; exact fun m' H' d S E r => p m' H' d S (E.bsle hbs) r
  | stuck => rw [c] at p; exact p
theorem post_ns {α υ : Type} {rel : VR α υ} {r : R α} {m : Nat → Addr} {h : Hea} {H : Hp} {σ : L2.St} {Q : υ → Hp → Prop} (p : PostX Γ W bs Z m h H σ rel r Q) : r ≠ .stuck := fun z => by
  rw [z] at p; exact p
theorem s_call (g : Good Γ N sc k W X) (O : GbOk Γ) (C : CallsOk Γ k G.call) {f : Nat} {es : Exs} {x : Str} {xs : List Expr} {p0 pos : Pos} (hg : sc.names.lookup x = some .globalImplicit) (hl : Γ.globs.lookup x = some (.fn f)) (hd : (x == ("__debug__" : Str)) = false)
    (hn : noStars xs = true) (hes : ∀ e r, es = .cons e r → xs = [] → False) (ha : PA X xs (tA Γ W bs G es)) : PE X (.Call (.Name x p0) xs [] pos) (tE Γ W bs G (.call f es)) := by
  obtain ⟨u0, y, h1, h2, h3⟩ := O.gl x _ hl
  have h3 : y = .ref (Γ.N.fa f) := h3 (fun _ => False) (fun _ => none)
  subst h3
  cases h2
  have hm : X.mg x = some (.ref (Γ.N.fa f)) := by rw [g.mg]; exact h1
  have hG : Gl X x := by show X.env.kindOf x = _; unfold Env.kindOf; rw [g.scope]; exact hg
  refine ⟨fun pins s σ H Q I ⟨Z, m, ρ, h, hbs, R, p⟩ => ?_⟩
  have p : PostX Γ W bs Z m h H σ (rD Γ.N) (ev G ρ (.call f es) h) Q := p
  unfold ev at p
  have hk : PySem.W.keepIn X.K (.ref (Γ.N.fa f)) = true := by rw [g.K]; exact O.kp f
  have go : ∀ (us : List Value) (s1 : Shared) (vs : List V) (H1 : Hp), Inv X pins σ H1 s1 → Vals vs us → (∃ ds m1 h1, bs ≤ h1.length ∧ Rel Γ.N Z m1 h1 H1 σ ρ ∧ Ext bs m h H m1 h1 H1 ∧ rDs Γ.N Z m1 h1 H1 ds vs ∧ PostX Γ W bs Z m1 h1 H1 σ (rD Γ.N) (G.call f ds h1) Q) →
      wpAny (model X.prog X.w) X.A (call (.ref (Γ.N.fa f)) us) (EP X pins σ Q) X.xe s1 := fun us s1 vs H1 I1 r hh => by
    obtain ⟨ds, m1, h1, hb1, R1, E1, rs, p1⟩ := hh
    obtain ⟨fd, ps, F, B⟩ := C f ds h1 (post_ns p1)
    exact run_fnS (by rw [g.prog, g.w, g.K, g.mg, g.base]; exact F) g.room (by rw [g.K]; exact B) (passAt g.takes σ) I1 r (post_call hb1 R1 rs p1)
  refine wpAny_Call_Name_kw (ld_glob I hG hm ?_ hd)
  have hA := ha.run pos pins s σ H _ I ⟨Z, m, ρ, h, hbs, R, post_bind (rel := rDs Γ.N) hbs R p⟩
  cases xs with
  | nil =>
    refine PySem.W.callWith_K0 I.kIn hk ?_
    cases es with
    | nil =>
      unfold evs at p
      exact go [] s [] H I .nil ⟨[], m, h, hbs, R, Ext.refl, rfl, p⟩
    | cons e r => exact (hes e r rfl rfl).elim
  | cons x1 xr =>
    obtain ⟨n1, n2⟩ := Bool.and_eq_true_iff.mp hn
    exact PySem.W.callWith_K (h₀ := X.base) I.ok.mod.kin hk (thn hA fun us s1 ⟨vs, H1, I1, r, q⟩ => ⟨I1.kIn, go us s1 vs H1 I1 r q⟩) (star_cons n1) (star_none n2)
/-! built-in functions -/
def nameB : Blt → Str
  | .len => "len" | .isinst => "isinstance" | .abs => "abs" | .max => "max" | .min => "min" | .int => "int" | .str => "str" | .tuple => "tuple" | .list => "list" | .sum => "sum" | .all => "all" | .any => "any"
theorem boot_name (b : Blt) : bootBuiltins (nameB b) = some (fOf b) := by cases b <;> decide +kernel
theorem name_ok (b : Blt) : (nameB b) ≠ "__name__" ∧ ((nameB b) == ("__debug__" : Str)) = false := by cases b <;> decide +kernel
theorem s_blt (g : Good Γ N sc k W X) (O : GbOk Γ) {b : Blt} {mu : Bool} {es : Exs} {x1 : Expr} {xr : List Expr} {p0 pos : Pos} (hg : sc.names.lookup (nameB b) = some .globalImplicit) (hf : nameB b ∈ Γ.free) (n1 : noStar x1 = true) (n2 : noStars xr = true)
    (ha : PA X (x1 :: xr) (tA Γ W bs G es)) : PE X (.Call (.Name (nameB b) p0) (x1 :: xr) [] pos) (tE Γ W bs G (.blt b mu es)) := by
  refine ⟨fun pins s σ H Q I ⟨Z, m, ρ, h, hbs, R, p⟩ => ?_⟩
  have p : PostX Γ W bs Z m h H σ (rD Γ.N) (ev G ρ (.blt b mu es) h) Q := p
  unfold ev at p
  have hG : Gl X (nameB b) := by show X.env.kindOf _ = _; unfold Env.kindOf; rw [g.scope]; exact hg
  have hm : X.mg (nameB b) = none := by rw [g.mg]; exact O.fr _ hf
  have hA := ha.run pos pins s σ H _ I ⟨Z, m, ρ, h, hbs, R, post_bind (rel := rDs Γ.N) hbs R p⟩
  have fin : ∀ (us : List Value) (s1 : Shared) (vs : List V) (H1 : Hp), Inv X pins σ H1 s1 → Vals vs us → (∃ ds m1 h1, bs ≤ h1.length ∧ Rel Γ.N Z m1 h1 H1 σ ρ ∧ Ext bs m h H m1 h1 H1 ∧ rDs Γ.N Z m1 h1 H1 ds vs ∧ PostX Γ W bs Z m1 h1 H1 σ (rD Γ.N) (match lenD b ds h1 with
      | some n => .ok (.p (.int (n : Nat))) h1
      | none => (match (views h1 ds).bind (bltP b) with
        | some y => outP mu y h1
        | none => .stuck)) Q) → wpAny (model X.prog X.w) X.A (call (fOf b) us) (EP X pins σ Q) X.xe s1 := fun us s1 vs H1 I1 r hh => by
    obtain ⟨ds, m1, h1, hb1, R1, E1, rs, p1⟩ := hh
    cases cl : lenD b ds h1 with
    | some n =>
      rw [cl] at p1
      unfold lenD at cl
      split at cl
      · rename_i j _ _
        obtain ⟨cs, e1, rfl⟩ := Option.map_eq_some_iff.mp cl
        obtain ⟨v, w, rfl, ⟨lj, rfl⟩, rfl⟩ := rs
        obtain ⟨vs, f1, f2, f3⟩ := R1.st.cel j cs (cellAt_some e1)
        refine call_len_seq pins s1 σ H1 _ us Q I1 r ⟨m1 j, vs, rfl, .inl (SqL.of f1), ?_⟩
        rw [← RpDs.length f3]
        exact post_ok R1 p1 rfl
      · cases cl
    | none =>
      rw [cl] at p1
      cases c : views h1 ds with
      | none => rw [c] at p1; exact p1.elim
      | some zs =>
        rw [c] at p1
        have p1 : PostX Γ W bs Z m1 h1 H1 σ (rD Γ.N) (match bltP b zs with
          | some y => outP mu y h1
          | none => .stuck) Q := p1
        cases c2 : bltP b zs with
        | none => rw [c2] at p1; exact p1.elim
        | some y =>
          rw [c2] at p1
          exact blt_ok (bs := bs) g.K g.calm c2 R1.st I1 (views_rv R1.st rs c) r (post_got p1 fun c fs h' z => by unfold outP out at z; split at z <;> cases z)
  have sc1 := star_cons (env := X.env) (es := xr) n1
  have sc2 := star_none (pos := pos) (env := X.env) n2
  refine wpAny_Call_Name_kw (ld_blt I hG hm (boot_name b) ?_ (name_ok b).1 (name_ok b).2)
  have kd : (∃ id, fOf b = .builtin id) ∨ ∃ T, fOf b = .type T := by cases b <;> first | exact .inl ⟨_, rfl⟩ | exact .inr ⟨_, rfl⟩
  have A1 : wpAny (model X.prog X.w) X.A (spliced (backTo pos (starEach (x1 :: xr) X.env))) (fun us s1 => wpAny (model X.prog X.w) X.A (call (fOf b) us) (EP X pins σ Q) X.xe s1) X.xe s := thn hA fun us s1 ⟨vs, H1, I1, r, q⟩ => fin us s1 vs H1 I1 r q
  rcases kd with ⟨id, e⟩ | ⟨T, e⟩
  · rw [e] at A1 ⊢
    exact PyProof.Rows.callWith_builtin1 A1 sc1 sc2
  · rw [e] at A1 ⊢
    exact PyProof.Rows.callWith_type1 A1 sc1 sc2

/-! methods of lists -/
def notCall : Expr → Bool
  | .Call .. => false
  | _ => true
theorem base_of {o : Expr} {name : Str} {env : Env} (h : notCall o = true) : attributeBase o name env (eval o env) = eval o env := by
  cases o <;> first | rfl | cases h
theorem recv_list {t : Mt} {x : D} {h : Hea} (hr : recv t h x = true) (hl : isList t = true) : ∃ n ds, x = .ref n ∧ cellAt h n = some ds := by
  unfold recv at hr
  split at hr
  · rename_i n
    obtain ⟨_, c⟩ := Bool.and_eq_true_iff.mp hr
    obtain ⟨ds, e⟩ := Option.isSome_iff_exists.mp c
    exact ⟨n, ds, rfl, e⟩
  · rw [hl] at hr; cases hr
  · cases hr
theorem may_ref {bs n : Nat} {d : D} (hm : may bs n d = true) {ds : List D} : n < bs → ∀ k, D.ref k ∈ ds ++ [d] → D.ref k ∈ ds := fun l k hk => by
  rcases List.mem_append.mp hk with z | z
  · exact z
  · have z := List.mem_singleton.mp z
    subst z
    have : bs ≤ n := of_decide_eq_true hm
    omega
theorem s_append (g : Good0 Γ N sc W X) (hbs : G.bs = bs) {mu : Bool} {a b : Ex} {x y : Expr} {apos cpos : Pos} (ha : PE X x (tE Γ W bs G a)) (hb : PA X [y] (tA Γ W bs G (.cons b .nil))) (hn : notCall x = true) (hy : noStar y = true) (hline : (apos.endLine == cpos.line) = true) :
    PE X (.Call (.Attribute x "append" apos) [y] [] cpos) (tE Γ W bs G (.meth .append mu a (.cons b .nil))) := by
  refine ⟨fun pins s σ H Q I ⟨Z, m, ρ, h, hb0, R, p⟩ => ?_⟩
  have p : PostX Γ W bs Z m h H σ (rD Γ.N) (ev G ρ (.meth .append mu a (.cons b .nil)) h) Q := p
  unfold ev at p
  refine (pe_bm (es := []) PySem.F.plainAttrs_list PySem.F.slot_list_append PySem.F.type_list_append mt_append ha hb (base_of hn) (by rw [star_cons hy]; rfl) hline (star_cons hy) rfl).run pins s σ H Q I
    ⟨Z, m, ρ, h, hb0, R, (post_bind hb0 R p).mono fun v H1 ⟨d, m1, h1, hb1, R1, E1, rx, p1⟩ => ?_⟩
  split at p1
  · rename_i hr
    obtain ⟨n, ds, rfl, ec⟩ := recv_list hr rfl
    obtain ⟨ln, rfl⟩ := rx
    obtain ⟨vs, e1, e2, e3⟩ := R1.st.cel n ds (cellAt_some ec)
    refine ⟨.inl ⟨rfl, vs, SqL.of e1⟩, Z, m1, ρ, h1, hb1, R1, (post_bind hb1 R1 p1).mono fun ws H2 ⟨es, m2, h2, hb2, R2, E2, rs, p2⟩ => ?_⟩
    have emm := E2.mm n ln
    match es, rs, p2 with
    | [], _, p2 => exact p2.elim
    | _ :: _ :: _, _, p2 => exact p2.elim
    | [d], rs, p2 =>
      cases c : cellAt h2 n with
      | none => simp only [methD, c] at p2; exact p2.elim
      | some xs =>
        simp only [methD, c] at p2
        split at p2
        · rename_i hc
          obtain ⟨y, w, rfl, ry, rfl⟩ := rs
          obtain ⟨us, f1, f2, f3⟩ := R2.st.cel n xs (cellAt_some c)
          have hl : us.length < sizeLine := by rw [← RpDs.length f3, sizeLine_eq]; exact Nat.lt_trans hc.1 (by decide)
          obtain ⟨S', E'⟩ := R2.st.write (bs := bs) (ws := us ++ [y]) (cellAt_some c) (f3.app (RpDs.one ry)) (by rw [List.length_append]; exact hl) (by rw [← hbs]; exact may_ref hc.2)
          rw [emm] at f1 S' E'
          exact ⟨m1 n, us, y, rfl, rfl, f1, hl, p2 m2 _ .non S' E' rfl⟩
        · exact p2.elim
  · exact p1.elim

theorem s_pop (g : Good0 Γ N sc W X) (hbs : G.bs = bs) {mu : Bool} {a : Ex} {x : Expr} {apos cpos : Pos} (ha : PE X x (tE Γ W bs G a)) (hn : notCall x = true) (hline : (apos.endLine == cpos.line) = true) :
    PE X (.Call (.Attribute x "pop" apos) [] [] cpos) (tE Γ W bs G (.meth .pop mu a .nil)) := by
  refine ⟨fun pins s σ H Q I ⟨Z, m, ρ, h, hb0, R, p⟩ => ?_⟩
  have p : PostX Γ W bs Z m h H σ (rD Γ.N) (ev G ρ (.meth .pop mu a .nil) h) Q := p
  unfold ev at p
  refine (pe_bm0 PySem.F.plainAttrs_list PySem.F.slot_list_pop PySem.F.type_list_pop mt_pop ha (base_of hn) hline).run pins s σ H Q I
    ⟨Z, m, ρ, h, hb0, R, (post_bind hb0 R p).mono fun v H1 ⟨d, m1, h1, hb1, R1, E1, rx, p1⟩ => ?_⟩
  split at p1
  · rename_i hr
    obtain ⟨n, ds, rfl, ec⟩ := recv_list hr rfl
    obtain ⟨ln, rfl⟩ := rx
    obtain ⟨vs, e1, e2, e3⟩ := R1.st.cel n ds (cellAt_some ec)
    refine ⟨.inl ⟨rfl, vs, SqL.of e1⟩, ?_⟩
    unfold evs at p1
    have p1 : PostX Γ W bs Z m1 h1 H1 σ (rD Γ.N) (methD G.bs .pop mu (.ref n) [] h1) Q := p1
    simp only [methD, ec] at p1
    cases c : ds[ds.length - 1]? with
    | none => rw [c] at p1; exact p1.elim
    | some d =>
      rw [c] at p1
      obtain ⟨w, q1, q2⟩ := RpDs.get e3 c
      rw [RpDs.length e3] at q1
      have sub : ∀ k, D.ref k ∈ ds.dropLast → D.ref k ∈ ds := fun k hk => List.dropLast_subset _ hk
      obtain ⟨S', E'⟩ := R1.st.write (bs := bs) (ws := vs.dropLast) (cellAt_some ec) e3.dropLast (by rw [List.length_dropLast]; omega) fun _ => sub
      exact ⟨m1 n, vs, w, rfl, rfl, e1, q1, p1 m1 _ w S' E' (RpD.ext R1.st E' q2)⟩
  · exact p1.elim
theorem evs_one {b : Ex} {ρ : Slots} {h h' : Hea} {ds : List D} (e : evs G ρ (.cons b .nil) h = .ok ds h') : ∃ d, ds = [d] := by
  unfold evs at e
  cases c : ev G ρ b h with
  | ok d h1 =>
    rw [c] at e
    unfold evs at e
    have e : Mp.R.ok [d] h1 = Mp.R.ok ds h' := e
    cases e
    exact ⟨d, rfl⟩
  | exn x fs h1 => rw [c] at e; cases e
  | stuck => rw [c] at e; cases e
theorem s_popAt (g : Good0 Γ N sc W X) (hbs : G.bs = bs) {mu : Bool} {a b : Ex} {x y : Expr} {apos cpos : Pos} (ha : PE X x (tE Γ W bs G a)) (hb : PA X [y] (tA Γ W bs G (.cons b .nil))) (hn : notCall x = true) (hy : noStar y = true) (hline : (apos.endLine == cpos.line) = true) :
    PE X (.Call (.Attribute x "pop" apos) [y] [] cpos) (tE Γ W bs G (.meth .pop mu a (.cons b .nil))) := by
  refine ⟨fun pins s σ H Q I ⟨Z, m, ρ, h, hb0, R, p⟩ => ?_⟩
  have p : PostX Γ W bs Z m h H σ (rD Γ.N) (ev G ρ (.meth .pop mu a (.cons b .nil)) h) Q := p
  unfold ev at p
  refine (pe_bm (es := []) PySem.F.plainAttrs_list PySem.F.slot_list_pop PySem.F.type_list_pop mt_popAt ha hb (base_of hn) (by rw [star_cons hy]; rfl) hline (star_cons hy) rfl).run pins s σ H Q I
    ⟨Z, m, ρ, h, hb0, R, (post_bind hb0 R p).mono fun v H1 ⟨d, m1, h1, hb1, R1, E1, rx, p1⟩ => ?_⟩
  split at p1
  · rename_i hr
    obtain ⟨n, ds, rfl, ec⟩ := recv_list hr rfl
    obtain ⟨ln, rfl⟩ := rx
    obtain ⟨vs, e1, e2, e3⟩ := R1.st.cel n ds (cellAt_some ec)
    refine ⟨.inl ⟨rfl, vs, SqL.of e1⟩, Z, m1, ρ, h1, hb1, R1, (post_bindE hb1 R1 p1).mono fun ws H2 ⟨es, m2, h2, ee, hb2, R2, E2, rs, p2⟩ => ?_⟩
    have emm := E2.mm n ln
    obtain ⟨d0, rfl⟩ := evs_one ee
    match d0, rs, p2 with
    | .ref _, rs, p2 => exact p2.elim
    | .p (.int i), rs, p2 =>
      cases c : cellAt h2 n with
      | none => simp only [methD, c] at p2; exact p2.elim
      | some xs =>
        simp only [methD, c] at p2
        cases c2 : place xs.length i with
        | none => rw [c2] at p2; exact p2.elim
        | some j =>
          rw [c2] at p2
          cases c3 : xs[j]? with
          | none => simp only [c3] at p2; exact p2.elim
          | some d =>
            simp only [c3] at p2
            obtain ⟨y, w, rfl, ry, rfl⟩ := rs
            have ry : y = .int i := ry
            subst ry
            obtain ⟨us, f1, f2, f3⟩ := R2.st.cel n xs (cellAt_some c)
            obtain ⟨u, q1, q2⟩ := RpDs.get f3 c3
            have ez : xs.length = us.length := RpDs.length f3
            rw [place_ix] at c2
            obtain ⟨k1, k2, k3, k4⟩ := ixN_seq c2
            have hb62 : us.length < 2 ^ 63 := Nat.lt_of_le_of_lt f2 (by rw [sizeLine_eq]; decide)
            have sub : ∀ k, D.ref k ∈ xs.eraseIdx j → D.ref k ∈ xs := fun k hk => List.eraseIdx_subset hk
            obtain ⟨S', E'⟩ := R2.st.write (bs := bs) (ws := us.eraseIdx j) (cellAt_some c) (f3.eraseIdx j) (Nat.le_trans (by rw [List.length_eraseIdx]; split <;> omega) f2) fun _ => sub
            have q2 := RpD.ext R2.st E' q2
            rw [emm] at f1 S' E'
            exact ⟨m1 n, us, i, j, u, rfl, rfl, f1, by omega, by omega, by rw [← ez]; exact k1, q1, p2 m2 _ u S' E' (by rw [emm] at q2; exact q2)⟩
    | .p .non, _, p2 | .p (.bl _), _, p2 | .p (.str _), _, p2 | .p (.tup _), _, p2 | .p (.lst _), _, p2 | .p (.scr _), _, p2 | .p (.fn _), _, p2 | .p (.cls _), _, p2 | .p (.ty _), _, p2 => exact p2.elim
  · exact p1.elim
end
end Mp

set_option Elab.async false
set_option linter.all false
set_option maxRecDepth 100000
set_option maxHeartbeats 1000000
/-! What is walked; comprehensions. -/
namespace Mp
open PySem PySem.Spec PyProof.Rows L2

/-- the iterator walks these items -/
def Walks (N : Nm) (bs : Nat) (Z : Addr → Prop) (m : Nat → Addr) (h : Hea) (H : Hp) (J : L2.It) (xs : List P) : Prop :=
  ∀ Z' m' h' H', (∀ a, Z a → Z' a) → (∀ a, Z' a → Z a ∨ H a = none) → StOk N Z' m' h' H' → Ext bs m h H m' h' H' → ∀ i,
    (∀ x, xs[i]? = some x → J.go i H' ∧ ∀ v H'', J.yld i H' v H'' → StOk N Z' m' h' H'' ∧ Ext bs m' h' H' m' h' H'' ∧ RpP N (LZ Z' m' h') H'' x v) ∧ (xs.length = i → J.stop i H')
def rI (N : Nm) (bs : Nat) : VR (List P) L2.It := fun Z m h H xs J => xs.length ≤ sizeLine ∧ Walks N bs Z m h H J xs
abbrev tI (Γ : Gb) (W : WX) (bs : Nat) (G : Gm) (it : It) : TI := tOf Γ W bs (rI Γ.N bs) fun ρ h => evI G ρ it h
section
variable {Γ : Gb} {N : List Str} {sc : Scope} {k : Nat} {W : WX} {X : Cx} {bs : Nat} {Z Z' : Addr → Prop} {G : Gm} {m m' : Nat → Addr} {h h' : Hea} {H H' : Hp}

theorem Kp.z {N : Nm} (S : StOk N Z m h H) (E : Ext bs m h H m' h' H') (z : ∀ a, Z' a → Z a ∨ H a = none) : Kp N (LZ Z m h) H (LZ Z' m' h') H' :=
  ⟨(Kp.of S E).keep, fun b l => l.elim (fun l => (E.live l).imp .inl id) fun q => (z b q).imp .inr id, (Kp.of S E).lst⟩
theorem w_tup {N : Nm} {K : PySem.W.Frag} (hK : K = N.K) {a : Addr} {vs : List V} {xs : List P} (S : StOk N Z m h H) (e : TpT N.K H a vs) (r : RpL N (LZ Z m h) H xs vs) : Walks N bs Z m h H (Itt K a) xs := by
  intro Z' m' h' H' _ z2 S' E i
  have kp := Kp.z S E z2
  have e' := (kp.tup e).sq
  rw [← hK] at e'
  refine ⟨fun x hx => ?_, fun l => ⟨vs, e', by rw [← RpL.length r]; exact Nat.le_of_eq l⟩⟩
  obtain ⟨v, h1, h2⟩ := RpL.get r hx
  refine ⟨⟨vs, v, e', h1⟩, fun w H'' y => ?_⟩
  obtain ⟨rfl, y⟩ := y
  have ew : w = v := Option.some.inj ((y vs e').symm.trans h1)
  subst ew
  exact ⟨S', Ext.refl, RpP.ext kp _ _ h2⟩
theorem w_lst {N : Nm} {K : PySem.W.Frag} {a : Addr} {vs : List V} {xs : List P} (S : StOk N Z m h H) (e : H a = some (.lst vs)) (n : ¬ LZ Z m h a) (r : RpL N (LZ Z m h) H xs vs) : Walks N bs Z m h H (Itl K a) xs := by
  intro Z' m' h' H' _ z2 S' E i
  have kp := Kp.z S E z2
  have e' : SqL K H' a vs := SqL.of (kp.keep a _ e n)
  refine ⟨fun x hx => ?_, fun l => ⟨vs, e', by rw [← RpL.length r]; exact Nat.le_of_eq l⟩⟩
  obtain ⟨v, h1, h2⟩ := RpL.get r hx
  refine ⟨⟨vs, v, e', h1⟩, fun w H'' y => ?_⟩
  obtain ⟨rfl, y⟩ := y
  have ew : w = v := Option.some.inj ((y vs e').symm.trans h1)
  subst ew
  exact ⟨S', Ext.refl, RpP.ext kp _ _ h2⟩
theorem w_rng {N : Nm} {lo hi : Int} : Walks N bs Z m h H (Itr lo (hi - lo).toNat) (rngL lo hi) := by
  intro Z' m' h' H' _ _ S' E i
  refine ⟨fun x hx => ?_, fun l => by show (hi - lo).toNat ≤ i; exact Nat.le_of_eq (by simpa [rngL] using l)⟩
  have hi' : i < (hi - lo).toNat := by
    have := (List.getElem?_eq_some_iff.mp hx).1
    simpa [rngL] using this
  refine ⟨hi', fun v H'' y => ?_⟩
  obtain ⟨rfl, rfl⟩ := y
  refine ⟨S', Ext.refl, ?_⟩
  have e : x = .int (lo + (i : Nat)) := by
    unfold rngL at hx
    rw [List.getElem?_map, List.getElem?_range hi'] at hx
    exact (Option.some.inj hx).symm
  subst e
  rfl
theorem w_str {N : Nm} {t : List Nat} : Walks N bs Z m h H (Its ⟨t.toArray⟩) (t.map fun c => .str [c]) := by
  intro Z' m' h' H' _ _ S' E i
  refine ⟨fun x hx => ?_, fun l => by show (t.toArray).size ≤ i; exact Nat.le_of_eq (by simpa using l)⟩
  rw [List.getElem?_map] at hx
  obtain ⟨c, h1, rfl⟩ := Option.map_eq_some_iff.mp hx
  have hi' : i < t.length := (List.getElem?_eq_some_iff.mp h1).1
  refine ⟨by show i < (t.toArray).size; simpa using hi', fun v H'' y => ?_⟩
  obtain ⟨rfl, c', h2, rfl⟩ := y
  refine ⟨S', Ext.refl, ?_⟩
  have e : c' = c := by
    have h3 : t[i]? = some c' := by simpa using h2
    rw [h1] at h3
    exact (Option.some.inj h3).symm
  rw [e]; rfl
theorem i_seq (g : Good Γ N sc k W X) {a : Ex} {x tg : Expr} (ha : PE X x (tE Γ W bs G a)) : PI X tg x (tI Γ W bs G (.seq a)) := by
  refine ⟨fun pins s σ H R I ⟨Z, m, ρ, h, hb, Rl, p⟩ => ?_⟩
  have p : PostX Γ W bs Z m h H σ (rI Γ.N bs) (evI G ρ (.seq a) h) R := p
  unfold evI at p
  cases c : ev G ρ a h with
  | stuck => rw [c] at p; exact p.elim
  | exn e fs h1 =>
    rw [c] at p
    exact (pi_list ha).run pins s σ H R I ⟨Z, m, ρ, h, hb, Rl, by show PostX Γ W bs Z m h H σ (rD Γ.N) (ev G ρ a h) _; rw [c]; exact p⟩
  | ok d h1 =>
    rw [c] at p
    cases d with
    | ref n => exact p.elim
    | p y =>
      have p : PostX Γ W bs Z m h H σ (rI Γ.N bs) (Mp.R.ofO (items y) h1) R := p
      cases y with
      | tup xs =>
        refine (pi_tup ha).run pins s σ H R I ⟨Z, m, ρ, h, hb, Rl, ?_⟩
        show PostX Γ W bs Z m h H σ (rD Γ.N) (ev G ρ a h) _
        rw [c]
        intro m' H' v S E r
        obtain ⟨a, vs, rfl, e2, e3, e4⟩ := r
        exact ⟨a, rfl, ⟨vs, by rw [g.K]; exact e2.sq⟩, p m' H' _ S E ⟨by rw [RpL.length e4]; exact e3, w_tup g.K S e2 e4⟩⟩
      | lst xs =>
        refine (pi_list ha).run pins s σ H R I ⟨Z, m, ρ, h, hb, Rl, ?_⟩
        show PostX Γ W bs Z m h H σ (rD Γ.N) (ev G ρ a h) _
        rw [c]
        intro m' H' v S E r
        obtain ⟨a, vs, rfl, e2, e3, e4, e5⟩ := r
        exact ⟨a, rfl, ⟨vs, SqL.of e2⟩, p m' H' _ S E ⟨by rw [RpL.length e5]; exact e4, w_lst S e2 e3 e5⟩⟩
      | str t =>
        have p : PostX Γ W bs Z m h H σ (rI Γ.N bs) (Mp.R.ofO (if t.length ≤ LIM then some (t.map fun c => P.str [c]) else none) h1) R := p
        split at p
        · rename_i hl
          refine (pi_str ha).run pins s σ H R I ⟨Z, m, ρ, h, hb, Rl, ?_⟩
          show PostX Γ W bs Z m h H σ (rD Γ.N) (ev G ρ a h) _
          rw [c]
          intro m' H' v S E r
          exact ⟨_, r, p m' H' _ S E ⟨by rw [List.length_map]; exact lim_le hl, w_str⟩⟩
        · exact p.elim
      | _ => exact p.elim
theorem i_rng1 (g : Good Γ N sc k W X) (O : GbOk Γ) {a : Ex} {x tg : Expr} {p0 pos : Pos} (hg : sc.names.lookup ("range" : Str) = some .globalImplicit) (hf : ("range" : Str) ∈ Γ.free) (hn : noStar x = true) (ha : PA X [x] (tA Γ W bs G (.cons a .nil))) :
    PI X tg (.Call (.Name "range" p0) [x] [] pos) (tI Γ W bs G (.rng (.cons a .nil))) := by
  refine ⟨fun pins s σ H R I ⟨Z, m, ρ, h, hb, Rl, p⟩ => ?_⟩
  have p : PostX Γ W bs Z m h H σ (rI Γ.N bs) (evI G ρ (.rng (.cons a .nil)) h) R := p
  unfold evI at p
  have hG : Gl X "range" := by show X.env.kindOf _ = _; unfold Env.kindOf; rw [g.scope]; exact hg
  have hm : X.mg "range" = none := by rw [g.mg]; exact O.fr _ hf
  refine (pi_range1 hG hm ha (star_cons hn)).run pins s σ H R I ⟨Z, m, ρ, h, hb, Rl, (post_bindE hb Rl p).mono fun vs H1 ⟨ds, m1, h1, ee, hb1, R1, E1, rs, p1⟩ => ?_⟩
  obtain ⟨d0, rfl⟩ := evs_one ee
  match d0, rs, p1 with
  | .ref _, rs, p1 => exact p1.elim
  | .p (.int j), rs, p1 =>
    have p1 : PostX Γ W bs Z m1 h1 H1 σ (rI Γ.N bs) (if j ≤ LIM ∧ -LIM ≤ j then .ok (rngL 0 j) h1 else .stuck) R := p1
    split at p1
    · rename_i hj
      obtain ⟨v, w, rfl, e1, rfl⟩ := rs
      have e1 : v = .int j := e1
      subst e1
      have hL : ((LIM : Nat) : Int) = 1000000 := rfl
      refine ⟨j, rfl, by omega, by omega, ?_⟩
      have q := p1 m1 H1 (Itr 0 (j - 0).toNat) R1.st Ext.refl ⟨by unfold rngL; rw [List.length_map, List.length_range, sizeLine_eq]; omega, w_rng⟩
      simpa using q
    · exact p1.elim
  | .p .non, _, p1 | .p (.bl _), _, p1 | .p (.str _), _, p1 | .p (.tup _), _, p1 | .p (.lst _), _, p1 | .p (.scr _), _, p1 | .p (.fn _), _, p1 | .p (.cls _), _, p1 | .p (.ty _), _, p1 => exact p1.elim
theorem evs_two {a b : Ex} {ρ : Slots} {h h' : Hea} {ds : List D} (e : evs G ρ (.cons a (.cons b .nil)) h = .ok ds h') : ∃ d d', ds = [d, d'] := by
  unfold evs at e
  cases c : ev G ρ a h with
  | ok d h1 =>
    rw [c] at e
    have e : (evs G ρ (.cons b .nil) h1).bind (fun r h => Mp.R.ok (d :: r) h) = Mp.R.ok ds h' := e
    cases c2 : evs G ρ (.cons b .nil) h1 with
    | ok r h2 =>
      rw [c2] at e
      obtain ⟨d', rfl⟩ := evs_one c2
      have e : Mp.R.ok [d, d'] h2 = Mp.R.ok ds h' := e
      cases e
      exact ⟨d, d', rfl⟩
    | exn x fs h2 => rw [c2] at e; cases e
    | stuck => rw [c2] at e; cases e
  | exn x fs h1 => rw [c] at e; cases e
  | stuck => rw [c] at e; cases e
theorem i_rng2 (g : Good Γ N sc k W X) (O : GbOk Γ) {a b : Ex} {x y tg : Expr} {p0 pos : Pos} (hg : sc.names.lookup ("range" : Str) = some .globalImplicit) (hf : ("range" : Str) ∈ Γ.free) (hn : noStar x = true) (hn2 : noStar y = true)
    (ha : PA X [x, y] (tA Γ W bs G (.cons a (.cons b .nil)))) : PI X tg (.Call (.Name "range" p0) [x, y] [] pos) (tI Γ W bs G (.rng (.cons a (.cons b .nil)))) := by
  refine ⟨fun pins s σ H R I ⟨Z, m, ρ, h, hb, Rl, p⟩ => ?_⟩
  have p : PostX Γ W bs Z m h H σ (rI Γ.N bs) (evI G ρ (.rng (.cons a (.cons b .nil))) h) R := p
  unfold evI at p
  have hG : Gl X "range" := by show X.env.kindOf _ = _; unfold Env.kindOf; rw [g.scope]; exact hg
  have hm : X.mg "range" = none := by rw [g.mg]; exact O.fr _ hf
  have s2 := star_cons (es := []) (env := X.env) hn2
  refine (pi_range2 hG hm ha (by rw [star_cons hn, s2]; rfl) s2).run pins s σ H R I ⟨Z, m, ρ, h, hb, Rl, (post_bindE hb Rl p).mono fun vs H1 ⟨ds, m1, h1, ee, hb1, R1, E1, rs, p1⟩ => ?_⟩
  obtain ⟨d0, d1, rfl⟩ := evs_two ee
  match d0, d1, rs, p1 with
  | .p (.int i), .p (.int j), rs, p1 =>
    have p1 : PostX Γ W bs Z m1 h1 H1 σ (rI Γ.N bs) (if j ≤ LIM ∧ -LIM ≤ j ∧ i ≤ LIM ∧ -LIM ≤ i then .ok (rngL i j) h1 else .stuck) R := p1
    split at p1
    · rename_i hj
      obtain ⟨v, w, rfl, e1, v2, w2, rfl, e2, rfl⟩ := rs
      have e1 : v = .int i := e1
      have e2 : v2 = .int j := e2
      subst e1 e2
      have hL : ((LIM : Nat) : Int) = 1000000 := rfl
      exact ⟨i, j, rfl, by omega, p1 m1 H1 (Itr i (j - i).toNat) R1.st Ext.refl ⟨by unfold rngL; rw [List.length_map, List.length_range, sizeLine_eq]; omega, w_rng⟩⟩
    · exact p1.elim
  | .ref _, .ref _, _, p1 | .ref _, .p _, _, p1 => exact p1.elim
  | .p (.int _), .ref _, _, p1 => exact p1.elim
  | .p (.int _), .p .non, _, p1 | .p (.int _), .p (.bl _), _, p1 | .p (.int _), .p (.str _), _, p1 | .p (.int _), .p (.tup _), _, p1 | .p (.int _), .p (.lst _), _, p1 | .p (.int _), .p (.scr _), _, p1 | .p (.int _), .p (.fn _), _, p1 | .p (.int _), .p (.cls _), _, p1 | .p (.int _), .p (.ty _), _, p1 => exact p1.elim
  | .p .non, _, _, p1 | .p (.bl _), _, _, p1 | .p (.str _), _, _, p1 | .p (.tup _), _, _, p1 | .p (.lst _), _, _, p1 | .p (.scr _), _, _, p1 | .p (.fn _), _, _, p1 | .p (.cls _), _, _, p1 | .p (.ty _), _, _, p1 => exact p1.elim

/-! ### targets -/
def slotsT : Tg → List Nat
  | .one i => [i]
  | .many is => is
theorem Rel.set {Nn : Nm} {σ : L2.St} {ρ : Slots} (R : Rel Nn Z m h H σ ρ) {i : Nat} {d : D} {v : V} (r : RpD Nn m h.length (LZ Z m h) H d v) : Rel Nn Z m h H (σ.set i (some v)) (ρ.set i (some d)) := by
  refine ⟨R.st, by simpa using R.len, fun j e q => ?_⟩
  by_cases c : i = j
  · subst c
    have l : i < ρ.length := by
      have := (List.getElem?_eq_some_iff.mp q).1
      simpa using this
    rw [List.getElem?_set_self l] at q
    cases q
    exact ⟨v, by rw [List.getElem?_set_self (by rw [← R.len]; exact l)], r⟩
  · rw [List.getElem?_set_ne c] at q ⊢
    exact R.env j e q
/-- a target that is given d -/
def tG (Γ : Gb) (bs : Nat) (tg : Tg) : TG := fun v σ H Q => ∃ Z m ρ h d ρ', bs ≤ h.length ∧ Rel Γ.N Z m h H σ ρ ∧ RpD Γ.N m h.length (LZ Z m h) H d v ∧ bindD h ρ tg d = some ρ' ∧
  ∀ σ', Rel Γ.N Z m h H σ' ρ' → (∀ j, j ∉ slotsT tg → σ'[j]? = σ[j]?) → σ'.length = σ.length → Q σ' H
theorem g_one (g : Good Γ N sc k W X) {i : Nat} {x : Str} {pos : Pos} (hN : N[i]? = some x) (hl : sc.names.lookup x = some .local ∨ sc.names.lookup x = some .cell) (hf : X.fn x = true ∨ sc.names.lookup x = some .local) : PG X (.Name x pos) (tG Γ bs (.one i)) := by
  have h1 : X.N.Nodup := by rw [g.names]; exact g.nd
  have h2 : X.N[i]? = some x := by rw [g.names]; exact hN
  have h3 : Loc X.env.scope x := by rw [g.scope]; exact hl
  have h4 : X.fn x = true ∨ X.env.scope.names.lookup x = some .local := by rw [g.scope]; exact hf
  refine ⟨fun pins s σ H v u Q I r ⟨Z, m, ρ, h, d, ρ', hb, R, rd, e, q⟩ => ?_⟩
  refine (pg_name h1 h2 h3 h4).run pins s σ H v u Q I r ?_
  have e : some (ρ.set i (some d)) = some ρ' := e
  cases e
  refine q _ (R.set rd) (fun j hj => ?_) (by simp)
  rw [List.getElem?_set_ne fun z => hj (by show j ∈ [i]; rw [z]; exact List.mem_singleton.mpr rfl)]
/-- names that may be stored, at their places -/
def NamesAt (N : List Str) (sc : Scope) (X : Cx) : List Nat → List Expr → Prop
  | [], [] => True
  | i :: is, .Name x _ :: es => N[i]? = some x ∧ (sc.names.lookup x = some .local ∨ sc.names.lookup x = some .cell) ∧ (X.fn x = true ∨ sc.names.lookup x = some .local) ∧ NamesAt N sc X is es
  | _, _ => False
def gSets : List Nat → TGs
  | [] => gNil
  | i :: is => gCons (gName i) (gSets is)
theorem pgs_names (g : Good Γ N sc k W X) : ∀ {is : List Nat} {es : List Expr}, NamesAt N sc X is es → PGs X es (gSets is) ∧ (assignEach es X.env).length = is.length ∧ (assignEach es X.env).findIdx? (·.1) = none
  | [], [], _ => ⟨pgs_nil, rfl, rfl⟩
  | [], _ :: _, hn => hn.elim
  | i :: is, [], hn => hn.elim
  | i :: is, e :: es, hn => by
    cases e with
    | Name x p =>
      obtain ⟨h2, h3, h4, h5⟩ := hn
      obtain ⟨q1, q2, q3⟩ := pgs_names g h5
      refine ⟨pgs_cons (pg_name (by rw [g.names]; exact g.nd) (by rw [g.names]; exact h2) (by rw [g.scope]; exact h3) (by rw [g.scope]; exact h4)) q1 rfl, ?_, ?_⟩
      · show (assignEach es X.env).length + 1 = is.length + 1
        rw [q2]
      · show ((false, assign (.Name x p) X.env) :: assignEach es X.env).findIdx? (·.1) = none
        rw [List.findIdx?_cons, q3]
        rfl
    | _ => exact hn.elim
theorem g_sets {Nn : Nm} {Q : L2.St → Hp → Prop} : ∀ {is : List Nat} {ds : List D} {vs : List V} {σ : L2.St} {ρ : Slots}, Rel Nn Z m h H σ ρ → RpDs Nn m h.length (LZ Z m h) H ds vs → ds.length = is.length →
    (∀ σ', Rel Nn Z m h H σ' (setsD ρ is ds) → (∀ j, j ∉ is → σ'[j]? = σ[j]?) → σ'.length = σ.length → Q σ' H) → gSets is vs σ H Q
  | [], ds, vs, σ, ρ, R, r, l, q => by
    have e : ds = [] := List.length_eq_zero_iff.mp l
    subst e
    exact ⟨r, q σ R (fun _ _ => rfl) rfl⟩
  | i :: is, [], vs, σ, ρ, R, r, l, q => by cases l
  | i :: is, d :: ds, vs, σ, ρ, R, r, l, q => by
    obtain ⟨v, w, rfl, e1, e2⟩ := r
    refine ⟨v, w, rfl, g_sets (ρ := ρ.set i (some d)) (R.set e1) e2 (Nat.succ.inj l) fun σ' R' q' q2 => q σ' R' (fun j hj => ?_) (by rw [q2]; simp)⟩
    obtain ⟨n1, n2⟩ := not_or.mp (fun z => hj (List.mem_cons.mpr z))
    rw [q' j n2, List.getElem?_set_ne (Ne.symm n1)]
theorem g_many (g : Good Γ N sc k W X) {is : List Nat} {es : List Expr} {c : Nat} {pos : Pos} (hn : NamesAt N sc X is es) : PG X (.Tuple es c pos) (tG Γ bs (.many is)) := by
  obtain ⟨q1, q2, q3⟩ := pgs_names g hn
  refine ⟨fun pins s σ H v u Q I r ⟨Z, m, ρ, h, d, ρ', hb, R, rd, e, q⟩ => ?_⟩
  unfold bindD at e
  have lst : ∀ (a : Addr) (vs : List V) (ds : List D), v = .ref a → SqL X.K H a vs → RpDs Γ.N m h.length (LZ Z m h) H ds vs → partsD h d = some ds → wpAny (model X.prog X.w) X.A (assign (.Tuple es c pos) X.env u) (fun _ s' => ∃ σ' H', Inv X pins σ' H' s' ∧ Q σ' H') X.xe s := fun a vs ds ev sq rs ep => by
    simp only [ep] at e
    split at e
    · rename_i l
      cases e
      exact (pg_unl g.calm q1 q2 q3).run pins s σ H v u Q I r ⟨a, vs, ev, sq, by rw [← RpDs.length rs]; exact l, g_sets R rs l q⟩
    · cases e
  cases d with
  | ref n =>
    cases c1 : cellAt h n with
    | none =>
      have ep : partsD h (.ref n) = none := c1
      simp only [ep] at e
      cases e
    | some ds =>
      obtain ⟨ln, ev⟩ := rd
      obtain ⟨vs, e1, e2, e3⟩ := R.st.cel n ds (cellAt_some c1)
      exact lst (m n) vs ds ev (SqL.of e1) e3 c1
  | p x =>
    cases x with
    | lst xs =>
      obtain ⟨a, vs, ev, e1, _, e2, e3⟩ := rd
      exact lst a vs (xs.map D.p) ev (SqL.of e1) e3.ds rfl
    | tup xs =>
      obtain ⟨a, vs, ev, e1, e2, e3⟩ := rd
      have ep : partsD h (.p (.tup xs)) = some (xs.map D.p) := rfl
      simp only [ep] at e
      split at e
      · rename_i l
        cases e
        exact (pg_tup g.calm q1 q2 q3).run pins s σ H v u Q I r ⟨a, vs, ev, by rw [g.K]; exact e1.sq, by rw [← RpDs.length (m := m) (k := h.length) e3.ds]; exact l, g_sets R e3.ds l q⟩
      · cases e
    | _ => cases e

/-! ### comprehensions -/
abbrev Wf : WX := fun _ _ _ _ => False
theorem good_blk (g : Good Γ N sc k W X) (s : Shared) (H : Hp) (scope : Scope) (cl : List (Str × Addr)) (C : Addr) (fp : List Addr) : Good Γ N (relS scope sc) k Wf (X.blk s H scope (compEnvC scope cl C X.env) fp) :=
  ⟨⟨g.prog, g.w, g.K, g.mg, g.base, g.names, g.nd, by show relS scope X.env.scope = _; rw [g.scope], g.un, takes0⟩, g.calm, g.room⟩
theorem wipe_at {σ : L2.St} : ∀ {vs : List Nat} {i : Nat}, i ∈ vs → i < σ.length → (L2.wipe σ vs)[i]? = some none
  | v :: vs, i, hi, l => by
    unfold L2.wipe
    by_cases c : v = i
    · subst c; rw [List.getElem?_set_self (by rw [wipe_length]; exact l)]
    · rw [List.getElem?_set_ne c]
      exact wipe_at ((List.mem_cons.mp hi).resolve_left fun z => c z.symm) l
theorem wipe_eq {σ σ' : L2.St} {vs : List Nat} (hl : σ'.length = σ.length) (h : ∀ j, j ∉ vs → σ'[j]? = σ[j]?) : L2.wipe σ' vs = L2.wipe σ vs := by
  refine List.ext_getElem? fun i => ?_
  by_cases c : i ∈ vs
  · by_cases l : i < σ.length
    · rw [wipe_at c l, wipe_at c (by rw [hl]; exact l)]
    · rw [List.getElem?_eq_none (by rw [wipe_length, hl]; omega), List.getElem?_eq_none (by rw [wipe_length]; omega)]
  · rw [wipe_out c, wipe_out c]; exact h i c
theorem wipeS_get {ρ : Slots} : ∀ {vs : List Nat} {i : Nat} {d : D}, (Mp.wipe ρ vs)[i]? = some (some d) → ρ[i]? = some (some d) ∧ i ∉ vs
  | [], i, d, h => ⟨h, by simp⟩
  | v :: vs, i, d, h => by
    unfold Mp.wipe at h
    by_cases c : v = i
    · subst c
      by_cases l : v < (Mp.wipe ρ vs).length
      · rw [List.getElem?_set_self l] at h; cases h
      · rw [List.getElem?_eq_none (by simpa using l)] at h; cases h
    · rw [List.getElem?_set_ne c] at h
      obtain ⟨h1, h2⟩ := wipeS_get h
      exact ⟨h1, by simp only [List.mem_cons, not_or]; exact ⟨fun e => c e.symm, h2⟩⟩
theorem wipeS_length {ρ : Slots} : ∀ vs : List Nat, (Mp.wipe ρ vs).length = ρ.length
  | [] => rfl
  | v :: vs => by unfold Mp.wipe; rw [List.length_set, wipeS_length vs]
theorem Rel.wipe {Nn : Nm} {σ : L2.St} {ρ : Slots} (R : Rel Nn Z m h H σ ρ) (vs : List Nat) : Rel Nn Z m h H (L2.wipe σ vs) (Mp.wipe ρ vs) := by
  refine ⟨R.st, by rw [wipe_length, wipeS_length]; exact R.len, fun i d e => ?_⟩
  obtain ⟨e1, e2⟩ := wipeS_get e
  obtain ⟨v, e3, e4⟩ := R.env i d e1
  exact ⟨v, by rw [wipe_out e2]; exact e3, e4⟩
theorem bind_p {h h' : Hea} {ρ : Slots} {t : Tg} {x : P} : bindD h ρ t (.p x) = bindD h' ρ t (.p x) := by
  cases t with
  | one i => rfl
  | many is => cases x <;> rfl
theorem RpDs.kp {Nn : Nm} {L L' : Addr → Prop} (k : Kp Nn L H L' H') : ∀ {ds : List D} {ws : List V} {n : Nat}, RpDs Nn m n L H ds ws → RpDs Nn m n L' H' ds ws
  | [], _, _, e => e
  | d :: r, _, _, e => by
    obtain ⟨v, w, e1, e2, e3⟩ := e
    refine ⟨v, w, e1, ?_, RpDs.kp k e3⟩
    cases d with
    | p x => exact RpP.ext k x v e2
    | ref k => exact e2
theorem StOk.addZ {Nn : Nm} (S : StOk Nn Z m h H) {p : Addr} {vs : List V} (hp : H p = none) : StOk Nn (fun a => Z a ∨ a = p) m h (upd H p (.lst vs)) ∧ Ext bs m h H m h (upd H p (.lst vs)) := by
  obtain ⟨S', E⟩ := S.laid (bs := bs) (o := .lst vs) hp
  have nl : ¬ live m h p := fun ⟨n, ds, e, z⟩ => by
    obtain ⟨ws, q, _⟩ := S.cel n ds e
    rw [z, hp] at q; cases q
  refine ⟨⟨fun a z => ?_, S'.inj, fun n ds e => ?_⟩, E⟩
  · rcases z with z | z
    · exact S'.zed a z
    · subst z; exact ⟨⟨vs, upd_same⟩, nl⟩
  · obtain ⟨ws, e1, e2, e3⟩ := S.cel n ds e
    refine ⟨ws, by rw [upd_ne (ne_of_none e1 hp)]; exact e1, e2, ?_⟩
    have kp : Kp Nn (LZ Z m h) H (LZ (fun a => Z a ∨ a = p) m h) (upd H p (.lst vs)) := Kp.z S E fun a z => z.imp id fun q => by rw [q]; exact hp
    exact e3.kp kp
/-- the list in the making grows -/
theorem StOk.grow {Nn : Nm} (S : StOk Nn Z m h H) {p : Addr} {vs : List V} (hz : Z p) : StOk Nn Z m h (upd H p (.lst vs)) ∧ Kp Nn (LZ Z m h) H (LZ Z m h) (upd H p (.lst vs)) := by
  obtain ⟨⟨us, e0⟩, nl⟩ := S.zed p hz
  have kp : Kp Nn (LZ Z m h) H (LZ Z m h) (upd H p (.lst vs)) := ⟨fun b o e n => by
      rw [upd_ne fun z => n (by rw [z]; exact .inr hz)]; exact e, fun b l => .inl l, fun b l => by
      rcases l with ⟨n, ds, e, z⟩ | z
      · obtain ⟨ws, q, _⟩ := S.cel n ds e; exact ⟨ws, by rw [← z]; exact q⟩
      · exact (S.zed b z).1⟩
  refine ⟨⟨fun a z => ⟨?_, (S.zed a z).2⟩, S.inj, fun n ds e => ?_⟩, kp⟩
  · by_cases c : a = p
    · subst c; exact ⟨vs, upd_same⟩
    · rw [upd_ne c]; exact (S.zed a z).1
  · obtain ⟨ws, e1, e2, e3⟩ := S.cel n ds e
    have ne : m n ≠ p := fun z => nl ⟨n, ds, e, z⟩
    refine ⟨ws, by rw [upd_ne ne]; exact e1, e2, ?_⟩
    exact e3.kp kp

theorem StOk.dropZ {Nn : Nm} (S : StOk Nn Z' m h H) (z : ∀ a, Z a → Z' a) : StOk Nn Z m h H ∧ Kp Nn (LZ Z' m h) H (LZ Z m h) H := by
  have kp : Kp Nn (LZ Z' m h) H (LZ Z m h) H := ⟨fun _ _ e _ => e, fun b l => .inl (l.imp id (z b)), fun b l => by
    rcases l with ⟨n, ds, e, q⟩ | q
    · obtain ⟨ws, q', _⟩ := S.cel n ds e; exact ⟨ws, by rw [← q]; exact q'⟩
    · exact (S.zed b q).1⟩
  refine ⟨⟨fun a q => S.zed a (z a q), S.inj, fun n ds e => ?_⟩, kp⟩
  obtain ⟨ws, e1, e2, e3⟩ := S.cel n ds e
  exact ⟨ws, e1, e2, e3.kp kp⟩
/-- a list that stands, no cell as yet, becomes a cell -/
theorem StOk.adopt {Nn : Nm} (S : StOk Nn Z m h H) {p : Addr} {ds : List D} {vs : List V} (hp : H p = some (.lst vs)) (nl : ¬ live m h p) (nz : ¬ Z p) (r : RpDs Nn m h.length (LZ (fun a => Z a ∨ a = p) m h) H ds vs) (hl : vs.length ≤ sizeLine)
    (cel : ∀ n es, h[n]? = some (some es) → ∃ ws, H (m n) = some (.lst ws) ∧ ws.length ≤ sizeLine ∧ RpDs Nn m h.length (LZ (fun a => Z a ∨ a = p) m h) H es ws) :
    StOk Nn Z (putM m h.length p) (h ++ [some ds]) H ∧ RpD Nn (putM m h.length p) (h ++ [some ds]).length (LZ Z (putM m h.length p) (h ++ [some ds])) H (.ref h.length) (.ref p) := by
  have lv : ∀ b, live (putM m h.length p) (h ++ [some ds]) b → live m h b ∨ b = p := fun b ⟨n, es, e, q⟩ => by
    rcases app_alive e with ⟨c, f⟩ | ⟨c, _⟩
    · exact .inl ⟨n, es, f, by rw [← q, putM_lt c]⟩
    · exact .inr (by rw [← q, c, putM_eq])
  have kp : Kp Nn (LZ (fun a => Z a ∨ a = p) m h) H (LZ Z (putM m h.length p) (h ++ [some ds])) H := ⟨fun _ _ e _ => e, fun b l => by
      rcases l with l | l
      · rcases lv b l with q | q
        · exact .inl (.inl q)
        · exact .inl (.inr (.inr q))
      · exact .inl (.inr (.inl l)), fun b l => by
      rcases l with ⟨n, ds, e, q⟩ | q | q
      · obtain ⟨ws, q', _⟩ := S.cel n ds e; exact ⟨ws, by rw [← q]; exact q'⟩
      · exact (S.zed b q).1
      · exact ⟨vs, by rw [q]; exact hp⟩⟩
  have mm : ∀ (es : List D) (ws : List V), RpDs Nn m h.length (LZ Z (putM m h.length p) (h ++ [some ds])) H es ws → RpDs Nn (putM m h.length p) (h ++ [some ds]).length (LZ Z (putM m h.length p) (h ++ [some ds])) H es ws := by
    intro es
    induction es with
    | nil => exact fun _ e => e
    | cons d r ih =>
      intro ws e
      obtain ⟨v, w, e1, e2, e3⟩ := e
      refine ⟨v, w, e1, ?_, ih w e3⟩
      cases d with
      | p x => exact e2
      | ref k => exact ⟨by rw [List.length_append]; exact Nat.lt_add_right _ e2.1, by rw [putM_lt e2.1]; exact e2.2⟩
  refine ⟨⟨fun a z => ⟨(S.zed a z).1, fun l => ?_⟩, fun i j d1 d2 e1 e2 q => ?_, fun n es e => ?_⟩, by simp, by rw [putM_eq]⟩
  · rcases lv a l with q | q
    · exact (S.zed a z).2 q
    · rw [q] at z; exact nz z
  · rcases app_alive e1 with ⟨c1, f1⟩ | ⟨c1, _⟩
    · rcases app_alive e2 with ⟨c2, f2⟩ | ⟨c2, _⟩
      · rw [putM_lt c1, putM_lt c2] at q; exact S.inj i j _ _ f1 f2 q
      · rw [putM_lt c1, c2, putM_eq] at q; exact absurd ⟨i, _, f1, q⟩ nl
    · rcases app_alive e2 with ⟨c2, f2⟩ | ⟨c2, _⟩
      · rw [putM_lt c2, c1, putM_eq] at q; exact absurd ⟨j, _, f2, q.symm⟩ nl
      · omega
  · rcases app_alive e with ⟨c, f⟩ | ⟨c, rfl⟩
    · obtain ⟨ws, e1, e2, e3⟩ := cel n es f
      rw [putM_lt c]
      exact ⟨ws, e1, e2, mm _ _ (e3.kp kp)⟩
    · rw [c, putM_eq]
      exact ⟨vs, hp, hl, mm _ _ (r.kp kp)⟩
theorem noexn_bind {α β : Type} {r : R α} {f : α → Hea → R β} : R.noexn (r.bind f) = (R.noexn r).bind fun a h => R.noexn (f a h) := by
  cases r <;> rfl
theorem bind_bind {α β γ : Type} {r : R α} {f : α → Hea → R β} {g : β → Hea → R γ} : (r.bind f).bind g = r.bind fun a h => (f a h).bind g := by
  cases r <;> rfl
theorem bind_id {α : Type} (r : R α) : (r.bind fun a h => Mp.R.ok a h) = r := by cases r <;> rfl
/-- a step that must come -/
theorem post_must {α υ : Type} {rel : VR α υ} {W' : WX} {r : R α} {σ : L2.St} {Q : υ → Hp → Prop} (ne : R.noexn r ≠ .stuck)
    (q : ∀ a h', r = .ok a h' → ∀ m' H' v, StOk Γ.N Z m' h' H' → Ext bs m h H m' h' H' → rel Z m' h' H' a v → Q v H') : PostX Γ W' bs Z m h H σ rel r Q := by
  cases r with
  | ok a h' => exact q a h' rfl
  | exn c fs h' => exact absurd rfl ne
  | stuck => exact absurd rfl ne
abbrev compOne (G : Gm) (ρ : Slots) (vs : List Nat) (tg : Tg) (cond : Exs) (e : Ex) : P → Hea → R (Option D) := fun x h => match bindTg (Mp.wipe ρ vs) tg x with
  | some ρ' => (evC G ρ' cond h).bind fun k h => if k = true then (ev G ρ' e h).bind fun d h => .ok (some d) h else .ok none h
  | none => .stuck
abbrev tC (Γ : Gb) (W : WX) (bs : Nat) (G : Gm) (cond : Exs) : TT := tOf Γ W bs rB fun ρ h => evC G ρ cond h
theorem comp_read {it : It} {cond : Exs} {e : Ex} {mu : Bool} {vs : List Nat} {tg : Tg} {K : PySem.W.Frag} (hsl : ∀ j, j ∈ slotsT tg → j ∈ vs) (σ : L2.St) (H : Hp) (Q : VK)
    (hq : tE Γ W bs G (.comp mu vs tg it cond e) σ H Q) : tLc (tI Γ W bs G it) (tG Γ bs tg) (tC Γ Wf bs G cond) (tE Γ Wf bs G e) vs σ H Q := by
  obtain ⟨Z, m, ρ, h, hb, Rl, p⟩ := hq
  have p : PostX Γ W bs Z m h H σ (rD Γ.N) (ev G ρ (.comp mu vs tg it cond e) h) Q := p
  unfold ev at p
  refine ⟨Z, m, ρ, h, hb, Rl, (post_bind (rel := rI Γ.N bs) hb Rl p).mono fun J H1 ⟨xs, m1, h1, hb1, R1, E1, rx, p1⟩ D hD => ?_⟩
  obtain ⟨hlen, hw⟩ := rx
  obtain ⟨S0, E0⟩ := R1.st.addZ (bs := bs) (vs := []) hD
  -- the state at turn i
  refine ⟨fun i n H' => n = xs.length - i ∧ i ≤ xs.length ∧ ∃ m' h' acc vs', bs ≤ h'.length ∧ StOk Γ.N (fun a => Z a ∨ a = D) m' h' H' ∧ Ext bs m1 h1 H1 m' h' H' ∧ H' D = some (.lst vs') ∧
    RpDs Γ.N m' h'.length (LZ (fun a => Z a ∨ a = D) m' h') H' acc vs' ∧ acc.length ≤ i ∧
    R.noexn (compLoop (compOne G ρ vs tg cond e) xs h1) = (R.noexn (compLoop (compOne G ρ vs tg cond e) (xs.drop i) h')).bind fun r h => .ok (acc ++ r) h, ⟨xs.length, by simp, Nat.zero_le _, m1, h1, [], [], hb1, S0, E0, upd_same, rfl, Nat.le_refl _, ?_⟩, ?_⟩
  · simp only [List.drop_zero, List.nil_append, bind_id]
  rintro i n H' ⟨rfl, hi, m', h', acc, vs', hb', S', E', eD, racc, hacc, eq⟩
  have wk := hw (fun a => Z a ∨ a = D) m' h' H' (fun a z => .inl z) (fun a z => z.imp id fun q => by rw [q]; exact hD) S' E' i
  by_cases hlt : i < xs.length
  · refine .inr ?_
    have hx : xs[i]? = some xs[i] := List.getElem?_eq_getElem hlt
    obtain ⟨hgo, hy⟩ := wk.1 _ hx
    refine ⟨hgo, fun H' => ∃ n', n' < xs.length - i ∧ (n' = xs.length - (i + 1) ∧ i + 1 ≤ xs.length ∧ ∃ m' h' acc vs', bs ≤ h'.length ∧ StOk Γ.N (fun a => Z a ∨ a = D) m' h' H' ∧ Ext bs m1 h1 H1 m' h' H' ∧ H' D = some (.lst vs') ∧
      RpDs Γ.N m' h'.length (LZ (fun a => Z a ∨ a = D) m' h') H' acc vs' ∧ acc.length ≤ i + 1 ∧
      R.noexn (compLoop (compOne G ρ vs tg cond e) xs h1) = (R.noexn (compLoop (compOne G ρ vs tg cond e) (xs.drop (i + 1)) h')).bind fun r h => .ok (acc ++ r) h), fun _ z => z, fun v H2 y => ?_⟩
    obtain ⟨S2, E2, rx⟩ := hy v H2 y
    have edrop : xs.drop i = xs[i] :: xs.drop (i + 1) := List.drop_eq_getElem_cons hlt
    rw [edrop] at eq
    -- the whole is not stuck
    have whole : R.noexn (compLoop (compOne G ρ vs tg cond e) xs h1) ≠ .stuck := fun z => by
      have p1 : PostX Γ W bs Z m1 h1 H1 σ (rD Γ.N) ((R.noexn (compLoop (compOne G ρ vs tg cond e) xs h1)).bind fun ds h => mk mu ds h) Q := p1
      rw [z] at p1
      exact p1
    have eq1 : R.noexn (compLoop (compOne G ρ vs tg cond e) xs h1) = (R.noexn (compOne G ρ vs tg cond e xs[i] h')).bind fun o h => (R.noexn (compLoop (compOne G ρ vs tg cond e) (xs.drop (i + 1)) h)).bind fun r h => .ok (acc ++ (match o with | some d => d :: r | none => r)) h := by
      rw [eq]
      show (R.noexn ((compOne G ρ vs tg cond e xs[i] h').bind fun o h => (compLoop (compOne G ρ vs tg cond e) (xs.drop (i + 1)) h).bind fun r h => Mp.R.ok (match o with | some d => d :: r | none => r) h)).bind _ = _
      rw [noexn_bind, bind_bind]
      congr 1
      funext o h
      rw [noexn_bind, bind_bind]
      rfl
    have one1 : R.noexn (compOne G ρ vs tg cond e xs[i] h') ≠ .stuck := fun z => whole (by rw [eq1, z]; rfl)
    cases cb : bindTg (Mp.wipe ρ vs) tg xs[i] with
    | none => exact absurd (by simp only [compOne, cb]; rfl) one1
    | some ρ' =>
      have e1 : compOne G ρ vs tg cond e xs[i] h' = (evC G ρ' cond h').bind fun k h => if k = true then (ev G ρ' e h).bind fun d h => .ok (some d) h else .ok none h := by simp only [compOne, cb]
      have Rh : Rel Γ.N (fun a => Z a ∨ a = D) m' h' H2 σ ρ := ⟨S2, R1.len, fun j d q => by
        obtain ⟨v, q1, q2⟩ := R1.env j d q
        refine ⟨v, q1, ?_⟩
        have kp := Kp.z R1.st (E'.trans E2) (Z' := fun a => Z a ∨ a = D) fun a z => z.imp id fun q => by rw [q]; exact hD
        cases d with
        | p x => exact RpP.ext kp x v q2
        | ref n => exact ⟨Nat.lt_of_lt_of_le q2.1 E'.len, by rw [E'.mm n q2.1]; exact q2.2⟩⟩
      refine ⟨_, m', Mp.wipe ρ vs, h', .p xs[i], ρ', hb', Rh.wipe vs, rx, by rw [bind_p (h' := [])]; exact cb, fun σ2 R2 out ln => ⟨?_, ?_⟩⟩
      · have q := wipe_eq (σ := L2.wipe σ vs) (σ' := σ2) (vs := vs) ln fun j hj => out j fun z => hj (hsl j z)
        rw [q]
        exact wipe_eq (wipe_length σ vs) fun j hj => wipe_out hj
      · have nc : R.noexn (evC G ρ' cond h') ≠ .stuck := fun z => one1 (by rw [e1, noexn_bind, z]; rfl)
        refine ⟨_, m', ρ', h', hb', R2, post_must nc fun kk h3 ek m3 H3 b S3 E3 rb => ?_⟩
        have ek : evC G ρ' cond h' = .ok kk h3 := ek
        have rb : b = kk := rb
        subst rb
        have E03 : Ext bs m1 h1 H1 m3 h3 H3 := E'.trans (E2.trans E3)
        have eD3 : H3 D = some (.lst vs') := E3.keep D _ (E2.keep D _ eD (S'.zed D (.inr rfl)).2) (S2.zed D (.inr rfl)).2
        have racc3 := RpDs.ext S2 E3 (RpDs.ext S' E2 racc)
        have R3 : Rel Γ.N (fun a => Z a ∨ a = D) m3 h3 H3 σ2 ρ' := R2.ext S3 E3
        cases b with
        | true =>
          rw [if_pos rfl]
          have e2 : compOne G ρ vs tg cond e xs[i] h' = (ev G ρ' e h3).bind fun d h => .ok (some d) h := by rw [e1, ek]; rfl
          have ne : R.noexn (ev G ρ' e h3) ≠ .stuck := fun z => one1 (by rw [e2, noexn_bind, z]; rfl)
          refine ⟨_, m3, ρ', h3, Nat.le_trans hb' E3.len, R3, post_must ne fun d h4 ed m4 H4 y4 S4 E4 ry => ?_⟩
          have ed : ev G ρ' e h3 = .ok d h4 := ed
          have eD4 : H4 D = some (.lst vs') := E4.keep D _ eD3 (S3.zed D (.inr rfl)).2
          have racc4 := RpDs.ext S3 E4 racc3
          have hl4 : vs'.length < sizeLine := by
            rw [← RpDs.length racc4]
            omega
          obtain ⟨S5, k5⟩ := S4.grow (p := D) (vs := vs' ++ [y4]) (.inr rfl)
          refine ⟨vs', eD4, hl4, xs.length - (i + 1), by omega, rfl, hlt, m4, h4, acc ++ [d], vs' ++ [y4], Nat.le_trans hb' (Nat.le_trans E3.len E4.len), S5, ?_, upd_same, ?_, by rw [List.length_append]; simp; omega, ?_⟩
          · have E4' := E03.trans E4
            refine ⟨E4'.len, E4'.mm, E4'.dead, fun b o q nl => ?_, fun b q => ?_, E4'.new, E4'.refs⟩
            · rw [upd_ne (ne_of_none q hD)]; exact E4'.keep b o q nl
            · unfold upd; split
              · exact fun z => nomatch z
              · exact E4'.stay b q
          · exact (racc4.app (RpDs.one ry)).kp k5
          · rw [eq1, e2, ed]
            show (R.noexn (compLoop (compOne G ρ vs tg cond e) (xs.drop (i + 1)) h4)).bind _ = _
            congr 1
            funext r h
            simp
        | false =>
          rw [if_neg Bool.false_ne_true]
          have e2 : compOne G ρ vs tg cond e xs[i] h' = .ok none h3 := by rw [e1, ek]; rfl
          refine ⟨xs.length - (i + 1), by omega, rfl, hlt, m3, h3, acc, vs', Nat.le_trans hb' E3.len, S3, E03, eD3, racc3, by omega, ?_⟩
          rw [eq1, e2]
          rfl
  · have ei : i = xs.length := by omega
    refine .inl ⟨wk.2 (by omega), ?_⟩
    rw [ei, List.drop_length] at eq
    have eq : R.noexn (compLoop (compOne G ρ vs tg cond e) xs h1) = .ok acc h' := by
      rw [eq]
      show Mp.R.ok (acc ++ []) h' = _
      rw [List.append_nil]
    have p1 : PostX Γ W bs Z m1 h1 H1 σ (rD Γ.N) ((R.noexn (compLoop (compOne G ρ vs tg cond e) xs h1)).bind fun ds h => mk mu ds h) Q := p1
    rw [eq] at p1
    have p1 : PostX Γ W bs Z m1 h1 H1 σ (rD Γ.N) (mk mu acc h') Q := p1
    have nz : ¬ Z D := fun z => by
      obtain ⟨⟨ws, q⟩, _⟩ := R1.st.zed D z
      rw [hD] at q; cases q
    have nl : ¬ live m' h' D := (S'.zed D (.inr rfl)).2
    obtain ⟨S6, k6⟩ := S'.dropZ (Z := Z) fun a z => .inl z
    unfold mk at p1
    split at p1
    · rename_i hl
      have hl' : vs'.length ≤ sizeLine := by rw [← RpDs.length racc]; exact lim_le hl
      split at p1
      · obtain ⟨S7, r7⟩ := S6.adopt (p := D) (ds := acc) eD nl nz racc hl' S'.cel
        refine p1 _ _ _ S7 ⟨by rw [List.length_append]; exact Nat.le_add_right_of_le E'.len, fun n l => ?_, fun n e => ?_, E'.keep, E'.stay, fun n ds e l => ?_, fun n ds ds' lb e e' k hk => ?_⟩ r7
        · rw [putM_lt (Nat.lt_of_lt_of_le l E'.len)]; exact E'.mm n l
        · have e := E'.dead n e
          rw [List.getElem?_append_left (List.getElem?_eq_some_iff.mp e).1]; exact e
        · rcases app_alive e with ⟨c, f⟩ | ⟨c, _⟩
          · rw [putM_lt c]; exact E'.new n ds f l
          · rw [c, putM_eq]; exact hD
        · rcases app_alive e' with ⟨c, f⟩ | ⟨c, _⟩
          · exact E'.refs n ds ds' lb e f k hk
          · have l := (List.getElem?_eq_some_iff.mp e).1
            have := E'.len
            omega
      · split at p1
        · rename_i ys c
          exact p1 m' H' _ S6 E' ⟨D, vs', rfl, eD, fun l => l.elim nl nz, hl', (racc.kp k6).pure c⟩
        · exact p1.elim
    · exact p1.elim
end
end Mp

set_option Elab.async false
set_option linter.all false
set_option maxRecDepth 100000
set_option maxHeartbeats 1000000
/-! What a statement comes to. -/
namespace Mp
open PySem PySem.Spec PyProof.Rows L2

structure GoodS (Γ : Gb) (N : List Str) (sc : Scope) (k : Nat) (W : WX) (X : Cx) : Prop extends Good Γ N sc k W X where
  passes : PassesOwn (model X.prog X.w) X.A X.env X.xe
  fnT : ∀ x, X.fn x = true
  stk : X.stack = X.env :: X.outer
  frm : X.env.frame = some X.env.locals
def PostS (Γ : Gb) (W : WX) (bs : Nat) (Z : Addr → Prop) (m : Nat → Addr) (h : Hea) (H : Hp) (r : RS) (D : Ends) : Prop := match r with
  | .next ρ h' => ∀ m' H' σ', Rel Γ.N Z m' h' H' σ' ρ → Ext bs m h H m' h' H' → D.nx σ' H'
  | .ret d h' => ∀ m' H' v, StOk Γ.N Z m' h' H' → Ext bs m h H m' h' H' → RpD Γ.N m' h'.length (LZ Z m' h') H' d v → D.rt v H'
  | .brk ρ h' => ∀ m' H' σ', Rel Γ.N Z m' h' H' σ' ρ → Ext bs m h H m' h' H' → D.bk σ' H'
  | .cont ρ h' => ∀ m' H' σ', Rel Γ.N Z m' h' H' σ' ρ → Ext bs m h H m' h' H' → D.ct σ' H'
  | .exn c fs ρ h' => ∀ m' H' σ' d, Rel Γ.N Z m' h' H' σ' ρ → Ext bs m h H m' h' H' → ExcR Γ Z m' h' H' c fs d → W (.ref (Γ.N.ca c)) d σ' H'
  | .stuck => False
def tSx (Γ : Gb) (W : WX) (bs : Nat) (F : Slots → Hea → RS) : TS := fun D σ H => ∃ Z m ρ h, bs ≤ h.length ∧ Rel Γ.N Z m h H σ ρ ∧ PostS Γ W bs Z m h H (F ρ h) D
abbrev tS (Γ : Gb) (W : WX) (bs : Nat) (G : Gm) (s : St) : TS := tSx Γ W bs fun ρ h => ex G ρ s h
abbrev tSs (Γ : Gb) (W : WX) (bs : Nat) (G : Gm) (s : Sts) : TS := tSx Γ W bs fun ρ h => exs G ρ s h
section
variable {Γ : Gb} {N : List Str} {sc : Scope} {k : Nat} {W : WX} {X : Cx} {bs : Nat} {Z Z' : Addr → Prop} {G : Gm} {m m' : Nat → Addr} {h h' : Hea} {H H' : Hp} {σ : L2.St} {ρ : Slots}

theorem PostS.from {r : RS} {D : Ends} (E : Ext bs m h H m' h' H') (p : PostS Γ W bs Z m h H r D) : PostS Γ W bs Z m' h' H' r D := by
  cases r with
  | next ρ h1 => exact fun m2 H2 σ2 R E' => p m2 H2 σ2 R (E.trans E')
  | ret d h1 => exact fun m2 H2 v S E' r => p m2 H2 v S (E.trans E') r
  | brk ρ h1 => exact fun m2 H2 σ2 R E' => p m2 H2 σ2 R (E.trans E')
  | cont ρ h1 => exact fun m2 H2 σ2 R E' => p m2 H2 σ2 R (E.trans E')
  | exn c fs ρ h1 => exact fun m2 H2 σ2 d R E' r => p m2 H2 σ2 d R (E.trans E') r
  | stuck => exact p
theorem posts_ofR {α υ : Type} {rel : VR α υ} {r : R α} {f : α → Hea → RS} {D : Ends} (hb : bs ≤ h.length) (R : Rel Γ.N Z m h H σ ρ) (p : PostS Γ W bs Z m h H (RS.ofR r ρ f) D) :
    PostX Γ W bs Z m h H σ rel r (fun v H1 => ∃ a m1 h1, r = .ok a h1 ∧ bs ≤ h1.length ∧ Rel Γ.N Z m1 h1 H1 σ ρ ∧ Ext bs m h H m1 h1 H1 ∧ rel Z m1 h1 H1 a v ∧ PostS Γ W bs Z m1 h1 H1 (f a h1) D) := by
  cases r with
  | ok a h1 => exact fun m1 H1 v S E r => ⟨a, m1, h1, rfl, Nat.le_trans hb E.len, R.ext S E, E, r, PostS.from E p⟩
  | exn c fs h1 => exact fun m1 H1 d S E r => p m1 H1 σ d (R.ext S E) E r
  | stuck => exact p
theorem posts_next {ρ' : Slots} {D : Ends} {σ' : L2.St} (R : Rel Γ.N Z m h H σ' ρ') (p : PostS Γ W bs Z m h H (.next ρ' h) D) : D.nx σ' H := p m H σ' R Ext.refl
theorem PostS.monoD {r : RS} {D D' : Ends} (p : PostS Γ W bs Z m h H r D) (h1 : ∀ σ H, D.nx σ H → D'.nx σ H) (h2 : ∀ v H, D.rt v H → D'.rt v H) (h3 : ∀ σ H, D.bk σ H → D'.bk σ H) (h4 : ∀ σ H, D.ct σ H → D'.ct σ H) : PostS Γ W bs Z m h H r D' := by
  cases r with
  | next ρ h1' => exact fun m2 H2 σ2 R E' => h1 _ _ (p m2 H2 σ2 R E')
  | ret d h1' => exact fun m2 H2 v S E' r => h2 _ _ (p m2 H2 v S E' r)
  | brk ρ h1' => exact fun m2 H2 σ2 R E' => h3 _ _ (p m2 H2 σ2 R E')
  | cont ρ h1' => exact fun m2 H2 σ2 R E' => h4 _ _ (p m2 H2 σ2 R E')
  | exn c fs ρ h1' => exact p
  | stuck => exact p
/-- one after another -/
theorem posts_bind {r : RS} {f : Slots → Hea → RS} {D : Ends} (hb : bs ≤ h.length) (p : PostS Γ W bs Z m h H (r.bind f) D) :
    PostS Γ W bs Z m h H r { D with nx := tSx Γ W bs f D } := by
  cases r with
  | next ρ h1 => exact fun m2 H2 σ2 R E => ⟨Z, m2, ρ, h1, Nat.le_trans hb E.len, R, PostS.from E p⟩
  | _ => exact p

/-! ### small statements -/
def notComp : Expr → Bool
  | .ListComp .. | .SetComp .. | .DictComp .. => false
  | _ => true
theorem swaps_no {e : Expr} {t : Option Expr} {l : Nat} {env : Env} (hn : notComp e = true) : swapsWith e t l env = pure false := by
  cases e <;> first | rfl | cases hn
theorem sole_no {e t : Expr} {l : Nat} {env : Env} (hn : notComp e = true) : swapsWithSole [t] e l env = pure false := by
  show swapsWith e (some t) l env = pure false
  exact swaps_no hn
theorem st_set (g : GoodS Γ N sc k W X) {i : Nat} {a : Ex} {x : Str} {e : Expr} {p1 p2 : Pos} (hN : N[i]? = some x) (hl : sc.names.lookup x = some .local ∨ sc.names.lookup x = some .cell) (hs : swapsWith e (some (.Name x p1)) p2.line X.env = pure false)
    (he : PE X e (tE Γ W bs G a)) : PS X (.Assign [.Name x p1] e p2) (tS Γ W bs G (.set i a)) := by
  refine ⟨fun pins s σ H D I ⟨Z, m, ρ, h, hb, R, p⟩ => ?_⟩
  have p : PostS Γ W bs Z m h H (ex G ρ (.set i a) h) D := p
  unfold ex at p
  refine (ps_set (i := i) (by rw [g.names]; exact g.nd) (by rw [g.names]; exact hN) (by rw [g.scope]; exact hl) he hs (.inl (g.fnT x))).run pins s σ H D I ⟨Z, m, ρ, h, hb, R, (posts_ofR hb R p).mono fun v H1 ⟨d, m1, h1, _, hb1, R1, E1, rx, p1⟩ => ?_⟩
  exact posts_next (R1.set rx) p1
theorem st_expr (g : GoodS Γ N sc k W X) {a : Ex} {e : Expr} {p2 : Pos} (hn : notComp e = true) (he : PE X e (tE Γ W bs G a)) : PS X (.Expr e p2) (tS Γ W bs G (.expr a)) := by
  refine ⟨fun pins s σ H D I ⟨Z, m, ρ, h, hb, R, p⟩ => ?_⟩
  have p : PostS Γ W bs Z m h H (ex G ρ (.expr a) h) D := p
  unfold ex at p
  exact (ps_expr he (swaps_no hn)).run pins s σ H D I ⟨Z, m, ρ, h, hb, R, (posts_ofR hb R p).mono fun v H1 ⟨d, m1, h1, _, hb1, R1, E1, rx, p1⟩ => posts_next R1 p1⟩
theorem st_ret (g : GoodS Γ N sc k W X) {a : Ex} {e : Expr} {p2 : Pos} (he : PE X e (tE Γ W bs G a)) : PS X (.Return (some e) p2) (tS Γ W bs G (.ret a)) := by
  refine ⟨fun pins s σ H D I ⟨Z, m, ρ, h, hb, R, p⟩ => ?_⟩
  have p : PostS Γ W bs Z m h H (ex G ρ (.ret a) h) D := p
  unfold ex at p
  exact (ps_ret he).run pins s σ H D I ⟨Z, m, ρ, h, hb, R, (posts_ofR hb R p).mono fun v H1 ⟨d, m1, h1, _, hb1, R1, E1, rx, p1⟩ => p1 m1 H1 v R1.st Ext.refl rx⟩
theorem st_retN {p2 : Pos} : PS X (.Return none p2) (tS Γ W bs G .retN) := by
  refine ⟨fun pins s σ H D I ⟨Z, m, ρ, h, hb, R, p⟩ => ?_⟩
  have p : PostS Γ W bs Z m h H (ex G ρ .retN h) D := p
  unfold ex at p
  exact ps_retN.run pins s σ H D I (p m H .non R.st Ext.refl rfl)
theorem st_pass {p2 : Pos} : PS X (.Pass p2) (tS Γ W bs G .pass) := by
  refine ⟨fun pins s σ H D I ⟨Z, m, ρ, h, hb, R, p⟩ => ?_⟩
  have p : PostS Γ W bs Z m h H (ex G ρ .pass h) D := p
  unfold ex at p
  exact ps_pass.run pins s σ H D I (posts_next R p)
theorem st_brk {p2 : Pos} : PS X (.Break p2) (tS Γ W bs G .brk) := by
  refine ⟨fun pins s σ H D I ⟨Z, m, ρ, h, hb, R, p⟩ => ?_⟩
  have p : PostS Γ W bs Z m h H (ex G ρ .brk h) D := p
  unfold ex at p
  exact ps_break.run pins s σ H D I (p m H σ R Ext.refl)
theorem st_cont {p2 : Pos} : PS X (.Continue p2) (tS Γ W bs G .cont) := by
  refine ⟨fun pins s σ H D I ⟨Z, m, ρ, h, hb, R, p⟩ => ?_⟩
  have p : PostS Γ W bs Z m h H (ex G ρ .cont h) D := p
  unfold ex at p
  exact ps_continue.run pins s σ H D I (p m H σ R Ext.refl)
theorem st_if (g : GoodS Γ N sc k W X) {c : Ex} {a b : Sts} {x : Expr} {y z : List Stmt} {p2 : Pos} (hc : PT X x (tT Γ W bs G c)) (ha : PSs X y (tSs Γ W bs G a)) (hb : PSs X z (tSs Γ W bs G b)) : PS X (.If x y z p2) (tS Γ W bs G (.if_ c a b)) := by
  refine ⟨fun pins s σ H D I ⟨Z, m, ρ, h, hb', R, p⟩ => ?_⟩
  have p : PostS Γ W bs Z m h H (ex G ρ (.if_ c a b) h) D := p
  unfold ex at p
  refine (ps_if hc ha hb).run pins s σ H D I ⟨Z, m, ρ, h, hb', R, (posts_ofR hb' R p).mono fun v H1 ⟨d, m1, h1, _, hb1, R1, E1, rx, p1⟩ => ?_⟩
  have rx : v = d := rx
  subst rx
  cases v with
  | true => rw [if_pos rfl]; exact ⟨Z, m1, ρ, h1, hb1, R1, p1⟩
  | false => rw [if_neg Bool.false_ne_true]; exact ⟨Z, m1, ρ, h1, hb1, R1, p1⟩
theorem st_nil : PSs X [] (tSs Γ W bs G .nil) := by
  refine ⟨fun pins s σ H D I ⟨Z, m, ρ, h, hb, R, p⟩ => ?_⟩
  have p : PostS Γ W bs Z m h H (exs G ρ .nil h) D := p
  unfold exs at p
  exact pss_nil.run pins s σ H D I (posts_next R p)
theorem st_cons {a : St} {b : Sts} {x : Stmt} {y : List Stmt} (ha : PS X x (tS Γ W bs G a)) (hb : PSs X y (tSs Γ W bs G b)) : PSs X (x :: y) (tSs Γ W bs G (.cons a b)) := by
  refine ⟨fun pins s σ H D I ⟨Z, m, ρ, h, hb', R, p⟩ => ?_⟩
  have p : PostS Γ W bs Z m h H (exs G ρ (.cons a b) h) D := p
  unfold exs at p
  exact (pss_cons ha hb).run pins s σ H D I ⟨Z, m, ρ, h, hb', R, posts_bind hb' p⟩
/-- a list is closed: nothing is run -/
theorem st_frz {i : Nat} {b : Sts} {y : List Stmt} (hb : PSs X y (tSs Γ W bs G b)) : PSs X y (tSs Γ W bs G (.cons (.frz i) b)) := by
  refine ⟨fun pins s σ H D I ⟨Z, m, ρ, h, hb', R, p⟩ => ?_⟩
  have p : PostS Γ W bs Z m h H (exs G ρ (.cons (.frz i) b) h) D := p
  unfold exs ex at p
  split at p
  · rename_i n e
    cases c : cellAt h n with
    | none => simp only [c] at p; exact p.elim
    | some ds =>
      simp only [c] at p
      cases c2 : pures ds with
      | none =>
        have e2 : (some ds).bind pures = none := c2
        rw [e2] at p; exact p.elim
      | some xs =>
        have e2 : (some ds).bind pures = some xs := c2
        rw [e2] at p
        obtain ⟨S', E', r⟩ := R.st.kill (bs := bs) (cellAt_some c) c2
        refine hb.run pins s σ H D I ⟨Z, m, ρ.set i (some (.p (.lst xs))), h.set n none, by rw [List.length_set]; exact hb', ?_, PostS.from E' p⟩
        have R' := R.ext S' E'
        obtain ⟨v, e3, e4⟩ := R.env i _ e
        obtain ⟨_, rfl⟩ := e4
        have R2 := R'.set (i := i) (d := .p (.lst xs)) (v := .ref (m n)) r
        have e5 : σ.set i (some (.ref (m n))) = σ := by
          refine List.ext_getElem? fun j => ?_
          by_cases c : i = j
          · subst c
            rw [List.getElem?_set_self (List.getElem?_eq_some_iff.mp e3).1, e3]
          · rw [List.getElem?_set_ne c]
        rw [e5] at R2
        exact R2
  · exact p.elim
/-! ### unpacking, storing at an index -/
theorem st_unp (g : GoodS Γ N sc k W X) {is : List Nat} {es : List Expr} {a : Ex} {e : Expr} {c : Nat} {p1 p2 : Pos} (hn : NamesAt N sc X is es) (hs : notComp e = true) (hw : swappedStores [.Tuple es c p1] e X.env = pure none) (he : PE X e (tE Γ W bs G a)) :
    PS X (.Assign [.Tuple es c p1] e p2) (tS Γ W bs G (.unp is a)) := by
  refine ⟨fun pins s σ H D I ⟨Z, m, ρ, h, hb, R, p⟩ => ?_⟩
  have p : PostS Γ W bs Z m h H (ex G ρ (.unp is a) h) D := p
  unfold ex at p
  refine (ps_asg he (g_many (bs := bs) g.toGood hn) (sole_no hs) hw).run pins s σ H D I ⟨Z, m, ρ, h, hb, R, (posts_ofR hb R p).mono fun v H1 ⟨d, m1, h1, _, hb1, R1, E1, rx, p1⟩ => ?_⟩
  split at p1
  · rename_i ρ' e
    exact ⟨Z, m1, ρ, h1, d, ρ', hb1, R1, rx, e, fun σ' R' _ _ => posts_next R' p1⟩
  · exact p1.elim
theorem set_refs {ds : List D} {j : Nat} {d : D} {b n : Nat} (hm : may b n d = true) : n < b → ∀ k, D.ref k ∈ ds.set j d → D.ref k ∈ ds := fun l k hk => by
  rcases List.mem_or_eq_of_mem_set hk with z | z
  · exact z
  · subst z
    have : b ≤ n := of_decide_eq_true hm
    omega
theorem st_seti (g : GoodS Γ N sc k W X) (hbs : G.bs = bs) {o i a : Ex} {x y e : Expr} {p1 p2 : Pos} (hs : notComp e = true) (hy : plainIxB y = true) (ho : PE X x (tE Γ W bs G o)) (hi : PE X y (tE Γ W bs G i)) (he : PE X e (tE Γ W bs G a)) :
    PS X (.Assign [.Subscript x y p1] e p2) (tS Γ W bs G (.seti o i a)) := by
  refine ⟨fun pins s σ H D I ⟨Z, m, ρ, h, hb, R, p⟩ => ?_⟩
  have p : PostS Γ W bs Z m h H (ex G ρ (.seti o i a) h) D := p
  unfold ex at p
  have hassign : ∀ v, assign (.Subscript x y p1) X.env v = (do
      let ov ← holding [v] (eval x X.env)
      let iv ← holding [v, ov] (eval y X.env)
      standAt p1
      holding [v, ov, iv] (setItem ov iv v)
      release [v, ov, iv] []) := by
    intro v
    cases y <;> first | rfl | cases hy
  refine (ps_asg he (pg_sub ho hi set_list hassign) (sole_no hs) (by cases e <;> rfl)).run pins s σ H D I ⟨Z, m, ρ, h, hb, R, (posts_ofR hb R p).mono fun v H1 ⟨d, m1, h1, _, hb1, R1, E1, rx, p1⟩ => ?_⟩
  refine ⟨Z, m1, ρ, h1, hb1, R1, (posts_ofR hb1 R1 p1).mono fun vo H2 ⟨d0, m2, h2, _, hb2, R2, E2, ro, p2⟩ => ?_⟩
  refine ⟨Z, m2, ρ, h2, hb2, R2, (posts_ofR hb2 R2 p2).mono fun vi H3 ⟨di, m3, h3, _, hb3, R3, E3, ri, p3⟩ => ?_⟩
  have rx := RpD.ext R2.st E3 (RpD.ext R1.st E2 rx)
  have ro := RpD.ext R2.st E3 ro
  match d0, di, ro, ri, p3 with
  | .ref n, .p (.int q), ro, ri, p3 =>
    cases c : cellAt h3 n with
    | none => simp only [c] at p3; exact p3.elim
    | some xs =>
      simp only [c] at p3
      cases c2 : place xs.length q with
      | none => simp only [c2] at p3; exact p3.elim
      | some j =>
        simp only [c2] at p3
        split at p3
        · rename_i hm
          obtain ⟨ln, rfl⟩ := ro
          have ri : vi = .int q := ri
          subst ri
          obtain ⟨us, f1, f2, f3⟩ := R3.st.cel n xs (cellAt_some c)
          rw [RpDs.length f3] at c2
          obtain ⟨S', E'⟩ := R3.st.write (bs := bs) (ws := us.set j v) (cellAt_some c) (f3.set j rx) (by rw [List.length_set]; exact f2) (by rw [← hbs]; exact set_refs hm)
          exact ⟨m3 n, us, q, j, rfl, rfl, f1, c2, posts_next (R3.ext S' E') (PostS.from E' p3)⟩
        · exact p3.elim
  | .p _, _, _, _, p3 => exact p3.elim
  | .ref _, .ref _, _, _, p3 => exact p3.elim
  | .ref _, .p .non, _, _, p3 | .ref _, .p (.bl _), _, _, p3 | .ref _, .p (.str _), _, _, p3 | .ref _, .p (.tup _), _, _, p3 | .ref _, .p (.lst _), _, _, p3 | .ref _, .p (.scr _), _, _, p3 | .ref _, .p (.fn _), _, _, p3 | .ref _, .p (.cls _), _, _, p3 | .ref _, .p (.ty _), _, _, p3 => exact p3.elim

/-! ### loops -/
theorem st_while (g : GoodS Γ N sc k W X) {n : Nat} {c : Ex} {b : Sts} {x : Expr} {y : List Stmt} {p2 : Pos} (hc : PT X x (tT Γ W bs G c)) (hb : PSs X y (tSs Γ W bs G b)) : PS X (.While x y [] p2) (tS Γ W bs G (.while_ n c b)) := by
  refine ⟨fun pins s σ H D I ⟨Z, m, ρ, h, hb', R, p⟩ => ?_⟩
  have p : PostS Γ W bs Z m h H (ex G ρ (.while_ n c b) h) D := p
  unfold ex at p
  refine (ps_while g.passes hc hb).run pins s σ H D I ⟨fun n σ H => tSx Γ W bs (whileLoop (fun ρ h => evT G ρ c h) (fun ρ h => exs G ρ b h) n) D σ H, ⟨n, Z, m, ρ, h, hb', R, p⟩, ?_⟩
  rintro n σ H ⟨Z, m, ρ, h, hb', R, p⟩
  cases n with
  | zero => exact p.elim
  | succ n =>
    unfold whileLoop at p
    refine ⟨Z, m, ρ, h, hb', R, (posts_ofR hb' R p).mono fun v H1 ⟨d, m1, h1, _, hb1, R1, E1, rx, p1⟩ => ?_⟩
    have rx : v = d := rx
    subst rx
    cases v with
    | false => rw [if_neg Bool.false_ne_true]; exact posts_next R1 p1
    | true =>
      rw [if_pos rfl]
      rw [if_pos rfl] at p1
      refine ⟨fun σ H => tSx Γ W bs (whileLoop (fun ρ h => evT G ρ c h) (fun ρ h => exs G ρ b h) n) D σ H, fun σ' H' q => ⟨n, Nat.lt_succ_self n, q⟩, Z, m1, ρ, h1, hb1, R1, ?_⟩
      show PostS Γ W bs Z m1 h1 H1 (exs G ρ b h1) _
      cases e : exs G ρ b h1 with
      | next ρ2 h2 =>
        rw [e] at p1
        exact fun m2 H2 σ2 R2 E2 => ⟨Z, m2, ρ2, h2, Nat.le_trans hb1 E2.len, R2, PostS.from E2 p1⟩
      | cont ρ2 h2 =>
        rw [e] at p1
        exact fun m2 H2 σ2 R2 E2 => ⟨Z, m2, ρ2, h2, Nat.le_trans hb1 E2.len, R2, PostS.from E2 p1⟩
      | brk ρ2 h2 => rw [e] at p1; exact p1
      | ret d h2 => rw [e] at p1; exact p1
      | exn c fs ρ2 h2 => rw [e] at p1; exact p1
      | stuck => rw [e] at p1; exact p1
abbrev forOne (G : Gm) (tg : Tg) (b : Sts) : P → Slots → Hea → RS := fun x ρ h => match bindTg ρ tg x with
  | some ρ' => exs G ρ' b h
  | none => .stuck
theorem st_for (g : GoodS Γ N sc k W X) {tg : Tg} {it : It} {b : Sts} {te x : Expr} {y : List Stmt} {p2 : Pos} (hi : PI X te x (tI Γ W bs G it)) (hg : PG X te (tG Γ bs tg)) (hb : PSs X y (tSs Γ W bs G b)) (hs : ∀ v, foldedSetIterable x X.env v = pure v) :
    PS X (.For te x y [] p2) (tS Γ W bs G (.for_ tg it b)) := by
  refine ⟨fun pins s σ H D I ⟨Z, m, ρ, h, hb', R, p⟩ => ?_⟩
  have p : PostS Γ W bs Z m h H (ex G ρ (.for_ tg it b) h) D := p
  unfold ex at p
  refine (ps_for g.passes g.calm hi hg hb hs).run pins s σ H D I ⟨Z, m, ρ, h, hb', R, (posts_ofR hb' R p).mono fun J H1 ⟨xs, m1, h1, _, hb1, R1, E1, rx, p1⟩ => ?_⟩
  obtain ⟨hlen, hw⟩ := rx
  have p1 : PostS Γ W bs Z m1 h1 H1 (forLoop (forOne G tg b) xs ρ h1) D := p1
  refine ⟨fun i n σ' H' => n = xs.length - i ∧ i ≤ xs.length ∧ ∃ m' h' ρ', bs ≤ h'.length ∧ Rel Γ.N Z m' h' H' σ' ρ' ∧ Ext bs m1 h1 H1 m' h' H' ∧ PostS Γ W bs Z m' h' H' (forLoop (forOne G tg b) (xs.drop i) ρ' h') D,
    ⟨xs.length, by simp, Nat.zero_le _, m1, h1, ρ, hb1, R1, Ext.refl, by rw [List.drop_zero]; exact p1⟩, ?_⟩
  rintro i n σ' H' ⟨rfl, hle, m', h', ρ', hb2, R2, E2, p2⟩
  have wk := hw Z m' h' H' (fun _ z => z) (fun _ z => .inl z) R2.st E2 i
  by_cases hlt : i < xs.length
  · refine .inr ?_
    have hx : xs[i]? = some xs[i] := List.getElem?_eq_getElem hlt
    obtain ⟨hgo, hy⟩ := wk.1 _ hx
    rw [List.drop_eq_getElem_cons hlt] at p2
    unfold forLoop at p2
    refine ⟨hgo, fun σ'' H'' => ∃ m' h' ρ', bs ≤ h'.length ∧ Rel Γ.N Z m' h' H'' σ'' ρ' ∧ Ext bs m1 h1 H1 m' h' H'' ∧ PostS Γ W bs Z m' h' H'' (forLoop (forOne G tg b) (xs.drop (i + 1)) ρ' h') D, fun σ'' H'' q => ⟨xs.length - (i + 1), by omega, rfl, hlt, q⟩, fun v H3 yl => ?_⟩
    obtain ⟨S3, E3, rx⟩ := hy v H3 yl
    have R3 := R2.ext S3 E3
    cases cb : bindTg ρ' tg xs[i] with
    | none => simp only [forOne, cb] at p2; exact p2.elim
    | some ρ2 =>
      refine ⟨Z, m', ρ', h', .p xs[i], ρ2, hb2, R3, rx, by rw [bind_p (h' := [])]; exact cb, fun σ2 R4 _ _ => ?_⟩
      simp only [forOne, cb] at p2
      refine ⟨Z, m', ρ2, h', hb2, R4, ?_⟩
      have p2 := PostS.from E3 p2
      show PostS Γ W bs Z m' h' H3 (exs G ρ2 b h') _
      cases e : exs G ρ2 b h' with
      | next ρ3 h3 =>
        rw [e] at p2
        exact fun m4 H4 σ4 R5 E5 => ⟨m4, h3, ρ3, Nat.le_trans hb2 E5.len, R5, E2.trans (E3.trans E5), PostS.from E5 p2⟩
      | cont ρ3 h3 =>
        rw [e] at p2
        exact fun m4 H4 σ4 R5 E5 => ⟨m4, h3, ρ3, Nat.le_trans hb2 E5.len, R5, E2.trans (E3.trans E5), PostS.from E5 p2⟩
      | brk ρ3 h3 => rw [e] at p2; exact p2
      | ret d h3 => rw [e] at p2; exact p2
      | exn c fs ρ3 h3 => rw [e] at p2; exact p2
      | stuck => rw [e] at p2; exact p2
  · have ei : i = xs.length := by omega
    refine .inl ⟨wk.2 (by omega), ?_⟩
    rw [ei, List.drop_length] at p2
    exact posts_next R2 p2
/-! ### y = [..] -/
theorem s_comp (g : Good Γ N sc k W X) {mu : Bool} {vs : List Nat} {tg : Tg} {it : It} {cond : Exs} {e : Ex} {te x y : Expr} {ifs : List Expr} {scope : Scope} {own : List (Str × Nat)} {pos : Pos} (hv : vs = own.map (·.2)) (hsl : ∀ j, j ∈ slotsT tg → j ∈ vs)
    (hi : PI X te x (tI Γ W bs G it)) (ok : BlkOk N sc scope own) (hg : ∀ X', Good Γ N (relS scope sc) k Wf X' → (∀ n, scope.names.lookup n = some .cell → X'.fn n = true) → PG X' te (tG Γ bs tg)) (ht : ∀ X', Good Γ N (relS scope sc) k Wf X' → PTs X' ifs (tC Γ Wf bs G cond))
    (he : ∀ X', Good Γ N (relS scope sc) k Wf X' → PE X' y (tE Γ Wf bs G e)) (hs : ∀ v, foldedSetIterable x X.env v = pure v) : PE X (.ListComp y [⟨te, x, ifs, 0⟩] scope pos) (tE Γ W bs G (.comp mu vs tg it cond e)) := by
  subst hv
  refine ⟨fun pins s σ H Q I p => ?_⟩
  refine (pe_lc (own := own) g.calm (by rw [g.names]; exact g.nd) hi (by rw [g.names, g.scope]; exact ok) (fun s H C cl fp => hg _ (good_blk g s H scope cl C fp) fun n hn => by show (scope.names.lookup n == some NameKind.cell) = true; rw [hn]; decide)
    (fun s H C cl fp => ht _ (good_blk g s H scope cl C fp)) (fun s H C cl fp => he _ (good_blk g s H scope cl C fp)) hs).run pins s σ H Q I (comp_read (K := Γ.N.K) hsl σ H Q p)
theorem st_setc (g : GoodS Γ N sc k W X) {i : Nat} {z : Str} {p1 p2 : Pos} {mu : Bool} {vs : List Nat} {tg : Tg} {it : It} {cond : Exs} {e : Ex} {te x y : Expr} {ifs : List Expr} {scope : Scope} {own : List (Str × Nat)} {pos : Pos} (hN : N[i]? = some z) (hl : sc.names.lookup z = some .local)
    (hsw : swapsWith (.ListComp y [⟨te, x, ifs, 0⟩] scope pos) (some (.Name z p1)) p2.line X.env = pure true) (hv : vs = own.map (·.2)) (hsl : ∀ j, j ∈ slotsT tg → j ∈ vs)
    (hi : PI X te x (tI Γ W bs G it)) (ok : BlkOk N sc scope own) (hg : ∀ X', Good Γ N (relS scope sc) k Wf X' → (∀ n, scope.names.lookup n = some .cell → X'.fn n = true) → PG X' te (tG Γ bs tg)) (ht : ∀ X', Good Γ N (relS scope sc) k Wf X' → PTs X' ifs (tC Γ Wf bs G cond))
    (he : ∀ X', Good Γ N (relS scope sc) k Wf X' → PE X' y (tE Γ Wf bs G e)) (hs : ∀ v, foldedSetIterable x X.env v = pure v) : PS X (.Assign [.Name z p1] (.ListComp y [⟨te, x, ifs, 0⟩] scope pos) p2) (tS Γ W bs G (.set i (.comp mu vs tg it cond e))) := by
  subst hv
  refine ⟨fun pins s σ H D I ⟨Z, m, ρ, h, hb, R, p⟩ => ?_⟩
  have p : PostS Γ W bs Z m h H (ex G ρ (.set i (.comp mu (own.map (·.2)) tg it cond e)) h) D := p
  unfold ex at p
  refine (ps_setLc (own := own) (i := i) g.calm (by rw [g.names]; exact g.nd) (by rw [g.names]; exact hN) (by rw [g.scope]; exact hl) hsw hi (by rw [g.names, g.scope]; exact ok) (fun s H C cl fp => hg _ (good_blk g.toGood s H scope cl C fp) fun n hn => by show (scope.names.lookup n == some NameKind.cell) = true; rw [hn]; decide)
    (fun s H C cl fp => ht _ (good_blk g.toGood s H scope cl C fp)) (fun s H C cl fp => he _ (good_blk g.toGood s H scope cl C fp)) hs).run pins s σ H D I (comp_read (K := Γ.N.K) hsl σ H _ ⟨Z, m, ρ, h, hb, R, (posts_ofR hb R p).mono fun v H1 ⟨d, m1, h1, _, hb1, R1, E1, rx, p1⟩ => ?_⟩)
  exact posts_next (R1.set rx) p1
end
end Mp

set_option Elab.async false
set_option linter.all false
set_option maxRecDepth 100000
set_option maxHeartbeats 1000000
/-! Exceptions: raised, caught. -/
namespace Mp
open PySem PySem.Spec PyProof.Rows L2
section
variable {Γ : Gb} {N : List Str} {sc : Scope} {k : Nat} {W : WX} {X : Cx} {bs : Nat} {Z Z' : Addr → Prop} {G : Gm} {m m' : Nat → Addr} {h h' : Hea} {H H' : Hp} {σ : L2.St} {ρ : Slots}

theorem st_raise (g : GoodS Γ N sc k W X) (O : GbOk Γ) {c : Nat} {e : Ex} {x : Str} {y : Expr} {p0 pos p2 : Pos} (hg : sc.names.lookup x = some .globalImplicit) (hl : Γ.globs.lookup x = some (.cls c)) (hd : (x == ("__debug__" : Str)) = false) (hc : c < Γ.nc) (hk : Γ.ek c = none) (hn : noStar y = true)
    (he : PE X y (tE Γ W bs G e)) : PS X (.Raise (some (.Call (.Name x p0) [y] [] pos)) none p2) (tS Γ W bs G (.raise c (.cons e .nil))) := by
  obtain ⟨u0, v, h1, h2, h3⟩ := O.gl x _ hl
  have h3 : v = .ref (Γ.N.ca c) := h3 (fun _ => False) (fun _ => none)
  subst h3
  cases h2
  have hm : X.mg x = some (.ref (Γ.N.ca c)) := by rw [g.mg]; exact h1
  have hG : Gl X x := by show X.env.kindOf x = _; unfold Env.kindOf; rw [g.scope]; exact hg
  have ex := O.exo c hc hk
  refine ⟨fun pins s σ H D I ⟨Z, m, ρ, h, hb, R, p⟩ => ?_⟩
  have p : PostS Γ W bs Z m h H (Mp.ex G ρ (.raise c (.cons e .nil)) h) D := p
  unfold Mp.ex at p
  have q : PostX Γ W bs Z m h H σ (rD Γ.N) (ev G ρ e h) (fun v H1 => W (.ref (Γ.N.ca c)) none σ H1) := by
    unfold evs at p
    cases r : ev G ρ e h with
    | stuck => rw [r] at p; exact p.elim
    | exn k' fs h1 =>
      rw [r] at p
      exact fun m1 H1 d S E r => p m1 H1 σ d (R.ext S E) E r
    | ok d h1 =>
      rw [r] at p
      unfold evs at p
      intro m1 H1 v S E rv
      have p : PostS Γ W bs Z m h H (match pures [d] with
        | some xs => .exn c xs ρ h1
        | none => .stuck) D := p
      cases z : pures [d] with
      | none => rw [z] at p; exact p.elim
      | some xs =>
        rw [z] at p
        exact p m1 H1 σ none (R.ext S E) E ⟨hc, by rw [hk]⟩
  refine (ps_raise g.calm g.takes (SkE.pmk_own1 PySem.F.excBase_ValueError (by rw [g.K]; exact ex.own) hm (by rw [g.K]; exact ex.keep) (raises_own (by rw [g.K]; exact ex.cc.hs) (by rw [g.K]; exact ex.ty)) hG he (star_cons hn) hd)).run pins s σ H D I ⟨Z, m, ρ, h, hb, R, q⟩

/-! ### the suite -/
/-- the reading of what is said of a caught exception -/
def tHx {α υ : Type} (Γ : Gb) (i : Nat) (F : Nat → List P → Option α) (rel : (Addr → Prop) → Hp → α → υ → Prop) (a : Addr) (cls : Value) (d : Option Addr) : L2.St → Hp → (υ → Hp → Prop) → Prop := fun σ H Q =>
  ∃ Z m h k fs x, StOk Γ.N Z m h H ∧ cls = .ref (Γ.N.ca k) ∧ ExcR Γ Z m h H k fs d ∧ σ[i]? = some (some (.ref a)) ∧ F k fs = some x ∧
    ∀ H' v, StOk Γ.N Z m h H' → (∀ b, Ext b m h H m h H') → rel (LZ Z m h) H' x v → Q v H'
abbrev tHe (Γ : Gb) (i : Nat) (e : Ex) (a : Addr) (cls : Value) (d : Option Addr) : TE := tHx Γ i (fun k fs => hotE k fs e) (fun L H x v => RpP Γ.N L H x v) a cls d
abbrev tHa (Γ : Gb) (i : Nat) (e : Exs) (a : Addr) (cls : Value) (d : Option Addr) : TA := tHx Γ i (fun k fs => hotEs k fs e) (fun L H x v => RpL Γ.N L H x v) a cls d
theorem ExcR.ext {c : Nat} {fs : List P} {d : Option Addr} (S : StOk Γ.N Z m h H) (E : Ext bs m h H m' h' H') (r : ExcR Γ Z m h H c fs d) : ExcR Γ Z m' h' H' c fs d := by
  obtain ⟨r1, r2⟩ := r
  refine ⟨r1, ?_⟩
  cases q : Γ.ek c with
  | none => rw [q] at r2; exact r2
  | some names =>
    rw [q] at r2
    obtain ⟨dd, fv, e1, e2, e3⟩ := r2
    refine ⟨dd, fv, e1, E.keep dd _ e2 fun ⟨n, ds, q1, q2⟩ => ?_, fun k f hf => ?_⟩
    · obtain ⟨vs, q3, _⟩ := S.cel n ds q1
      rw [q2, e2] at q3; cases q3
    · obtain ⟨x, v, f1, f2, f3⟩ := e3 k f hf
      exact ⟨x, v, f1, f2, RpP.ext (Kp.of S E) x v f3⟩
variable {a : Addr} {oe : Obj} {cls : Value} {d : Option Addr} {pn : List (Addr × Obj)} {i : Nat}
/-- the suite's context -/
structure Hot (Γ : Gb) (N : List Str) (sc : Scope) (k : Nat) (W : WX) (X : Cx) (i : Nat) (n : Str) (a : Addr) (oe : Obj) (cls : Value) (d : Option Addr) : Prop where
  g : GoodS Γ N sc k W X
  hN : N[i]? = some n
  hl : sc.names.lookup n = some .local
  hz : Zc cls d oe
  hf : ∃ vs, oe.data = .fields vs
theorem h_con {y : Expr} {x : P} {v : V} (h1 : PE (X.suite a ((a, oe) :: pn)) y (L2.tC v)) (h2 : ∀ L H, RpP Γ.N L H x v) : PE (X.suite a ((a, oe) :: pn)) y (tHe Γ i (.con x) a cls d) := by
  refine ⟨fun pins s σ H Q I ⟨Z, m, h, k, fs, x', S, _, _, _, f, q⟩ => h1.run pins s σ H Q I ?_⟩
  unfold hotE at f
  cases f
  exact q H v S (fun _ => Ext.refl) (h2 _ _)
theorem h_isE {n : Str} (C : Hot Γ N sc k W X i n a oe cls d) (O : GbOk Γ) (hk : ∀ c, Γ.ek c = none) {c : Nat} {x : Str} {p0 p1 p2 pos : Pos} (hi : sc.names.lookup ("isinstance" : Str) = some .globalImplicit) (hf : ("isinstance" : Str) ∈ Γ.free) (hg : sc.names.lookup x = some .globalImplicit) (hl : Γ.globs.lookup x = some (.cls c))
    (hc : c < Γ.nc) (hd : (x == ("__debug__" : Str)) = false) (hdn : (n == ("__debug__" : Str)) = false) (hcd : (n == ("__classdict__" : Str)) = false) :
    PE (X.suite a ((a, oe) :: pn)) (.Call (.Name "isinstance" p0) [.Name n p1, .Name x p2] [] pos) (tHe Γ i (.isE c) a cls d) := by
  obtain ⟨u0, v, h1, h2, h3⟩ := O.gl x _ hl
  have h3 : v = .ref (Γ.N.ca c) := h3 (fun _ => False) (fun _ => none)
  subst h3
  cases h2
  refine ⟨fun pins s σ H Q I ⟨Z, m, h, k, fs, x', S, ec, er, es, f, q⟩ => ?_⟩
  obtain ⟨er1, er2⟩ := er
  rw [hk] at er2
  have er2 : d = none := er2
  subst er2 ec
  unfold hotE at f
  cases f
  have cc : ExcC (X.suite a ((a, oe) :: pn)).K (Γ.N.ca k) := by
    have := (O.exo k er1 (hk k)).cc
    rw [← C.g.K] at this
    exact this
  have hk' : PySem.W.kitOne (X.suite a ((a, oe) :: pn)).K (.ref (Γ.N.ca k)) (.ref (Γ.N.ca c)) = some (subT k c) := by
    have := O.kit k c er1 hc
    rw [← C.g.K] at this
    exact this
  have hm : (X.suite a ((a, oe) :: pn)).mg "isinstance" = none := by show X.mg _ = _; rw [C.g.mg]; exact O.fr _ hf
  have hG : Gl (X.suite a ((a, oe) :: pn)) "isinstance" := by show X.env.kindOf _ = _; unfold Env.kindOf; rw [C.g.scope]; exact hi
  have hG2 : Gl (X.suite a ((a, oe) :: pn)) x := by show X.env.kindOf _ = _; unfold Env.kindOf; rw [C.g.scope]; exact hg
  have hm2 : (X.suite a ((a, oe) :: pn)).mg x = some (.ref (Γ.N.ca c)) := by show X.mg _ = _; rw [C.g.mg]; exact h1
  have hN : (X.suite a ((a, oe) :: pn)).N[i]? = some n := by show X.N[i]? = _; rw [C.g.names]; exact C.hN
  have hV : Vis (X.suite a ((a, oe) :: pn)).env.scope n := by
    show Vis X.env.scope n
    rw [C.g.scope]
    first | exact .inl C.hl | exact .inl (.inl C.hl)
  exact (pe_callB (call_isE cc C.hz C.hf) hG hm (by decide +kernel) (pa_cons (pe_var (i := i) hN hV hdn hcd) (pa_cons (pe_glob (v := V.ref (Γ.N.ca c)) hG2 hm2 rfl hd) pa_nil))).run pins s σ H Q I
    ⟨V.ref a, es, V.ref (Γ.N.ca c), Value.ref (Γ.N.ca c), subT k c, rfl, fun u hu => hu, hk', q H _ S (fun _ => Ext.refl) rfl⟩
theorem h_nil : PA (X.suite a ((a, oe) :: pn)) [] (tHa Γ i .nil a cls d) := by
  refine ⟨fun pos pins s σ H Q I ⟨Z, m, h, k, fs, x', S, _, _, _, f, q⟩ => pa_nil.run pos pins s σ H Q I ?_⟩
  unfold hotEs at f
  cases f
  exact q H [] S (fun _ => Ext.refl) rfl
theorem h_cons {e : Ex} {es : Exs} {y : Expr} {ys : List Expr} (hn : noStar y = true) (h1 : PE (X.suite a ((a, oe) :: pn)) y (tHe Γ i e a cls d)) (h2 : PA (X.suite a ((a, oe) :: pn)) ys (tHa Γ i es a cls d)) : PA (X.suite a ((a, oe) :: pn)) (y :: ys) (tHa Γ i (.cons e es) a cls d) := by
  refine ⟨fun pos pins s σ H Q I ⟨Z, m, h, k, fs, x', S, ec, er, es, f, q⟩ => (pa_cons h1 h2 (star_cons hn)).run pos pins s σ H Q I ?_⟩
  unfold hotEs at f
  obtain ⟨x1, f1, f2⟩ := Option.bind_eq_some_iff.mp f
  obtain ⟨xs, f3, rfl⟩ := Option.map_eq_some_iff.mp f2
  refine ⟨Z, m, h, k, fs, x1, S, ec, er, es, f1, fun H1 v S1 E1 r1 => ?_⟩
  refine ⟨Z, m, h, k, fs, xs, S1, ec, er.ext S (E1 0), es, f3, fun H2 vs S2 E2 r2 => ?_⟩
  exact q H2 _ S2 (fun b => (E1 b).trans (E2 b)) ⟨v, vs, rfl, RpP.ext (Kp.of S1 (E2 0)) x1 v r1, r2⟩
theorem lim_len {n : Nat} (l : n ≤ LIM) : n ≤ sizeLine := lim_le l
theorem h_lst {es : Exs} {mu : Bool} {ys : List Expr} {pos : Pos} (h1 : PA (X.suite a ((a, oe) :: pn)) ys (tHa Γ i es a cls d)) : PE (X.suite a ((a, oe) :: pn)) (.List ys pos) (tHe Γ i (.lst mu es) a cls d) := by
  refine ⟨fun pins s σ H Q I ⟨Z, m, h, k, fs, x', S, ec, er, es, f, q⟩ => (pe_lst h1).run pins s σ H Q I ?_⟩
  unfold hotE at f
  obtain ⟨xs, f1, f2⟩ := Option.bind_eq_some_iff.mp f
  split at f2
  · rename_i hl
    cases f2
    refine ⟨Z, m, h, k, fs, xs, S, ec, er, es, f1, fun H1 vs S1 E1 r1 => ?_⟩
    have hl' : vs.length ≤ sizeLine := by rw [← RpL.length r1]; exact lim_le hl
    refine ⟨hl', fun t ht => ?_⟩
    have A := fun b => S1.laid (bs := b) (o := .lst vs) ht
    have nl : ¬ LZ Z m h t := fun l => by
      rcases l with ⟨n, ds, e, z⟩ | z
      · obtain ⟨ws, q', _⟩ := S1.cel n ds e
        rw [z, ht] at q'; cases q'
      · obtain ⟨⟨ws, q'⟩, _⟩ := S1.zed t z
        rw [ht] at q'; cases q'
    exact q _ _ (A 0).1 (fun b => (E1 b).trans (A b).2) ⟨t, vs, rfl, upd_same, nl, hl', r1.ext (Kp.of S1 (A 0).2) xs vs⟩
  · cases f2
theorem h_tup {es : Exs} {ys : List Expr} {c : Nat} {pos : Pos} (h1 : PA (X.suite a ((a, oe) :: pn)) ys (tHa Γ i es a cls d)) : PE (X.suite a ((a, oe) :: pn)) (.Tuple ys c pos) (tHe Γ i (.tup es) a cls d) := by
  refine ⟨fun pins s σ H Q I ⟨Z, m, h, k, fs, x', S, ec, er, es, f, q⟩ => (pe_tup h1).run pins s σ H Q I ?_⟩
  unfold hotE at f
  obtain ⟨xs, f1, f2⟩ := Option.bind_eq_some_iff.mp f
  split at f2
  · rename_i hl
    cases f2
    refine ⟨Z, m, h, k, fs, xs, S, ec, er, es, f1, fun H1 vs S1 E1 r1 => ?_⟩
    have hl' : vs.length ≤ sizeLine := by rw [← RpL.length r1]; exact lim_le hl
    refine ⟨hl', fun t ht => ?_⟩
    have A := fun b => S1.laid (bs := b) (o := .tup vs) ht
    exact q _ _ (A 0).1 (fun b => (E1 b).trans (A b).2) ⟨t, vs, rfl, .inl upd_same, hl', r1.ext (Kp.of S1 (A 0).2) xs vs⟩
  · cases f2
/-- the reading of a suite -/
def tHs (Γ : Gb) (i : Nat) (ss : Sts) (a : Addr) (cls : Value) (d : Option Addr) : TS := fun D σ H =>
  ∃ Z m h k fs, StOk Γ.N Z m h H ∧ cls = .ref (Γ.N.ca k) ∧ ExcR Γ Z m h H k fs d ∧ σ[i]? = some (some (.ref a)) ∧ match hotS k fs ss with
    | some none => D.nx σ H
    | some (some x) => ∀ H' v, StOk Γ.N Z m h H' → (∀ b, Ext b m h H m h H') → RpP Γ.N (LZ Z m h) H' x v → D.rt v H'
    | none => False
theorem hs_pass {p2 : Pos} : PSs (X.suite a ((a, oe) :: pn)) [.Pass p2] (tHs Γ i (.cons .pass .nil) a cls d) :=
  ⟨fun pins s σ H D I ⟨Z, m, h, k, fs, S, ec, er, es, q⟩ => (pss_one ps_pass).run pins s σ H D I q⟩
theorem hs_retN {p2 : Pos} : PSs (X.suite a ((a, oe) :: pn)) [.Return none p2] (tHs Γ i (.cons .retN .nil) a cls d) :=
  ⟨fun pins s σ H D I ⟨Z, m, h, k, fs, S, ec, er, es, q⟩ => (pss_one ps_retN).run pins s σ H D I (q H .non S (fun _ => Ext.refl) rfl)⟩
theorem hs_ret {e : Ex} {y : Expr} {p2 : Pos} (h1 : PE (X.suite a ((a, oe) :: pn)) y (tHe Γ i e a cls d)) : PSs (X.suite a ((a, oe) :: pn)) [.Return (some y) p2] (tHs Γ i (.cons (.ret e) .nil) a cls d) := by
  refine ⟨fun pins s σ H D I ⟨Z, m, h, k, fs, S, ec, er, es, q⟩ => (pss_one (ps_ret h1)).run pins s σ H D I ?_⟩
  have q : (match (hotE k fs e).map some with
    | some none => D.nx σ H
    | some (some x) => ∀ H' v, StOk Γ.N Z m h H' → (∀ b, Ext b m h H m h H') → RpP Γ.N (LZ Z m h) H' x v → D.rt v H'
    | none => False) := q
  cases f : hotE k fs e with
  | none => rw [f] at q; exact q.elim
  | some x =>
    rw [f] at q
    exact ⟨Z, m, h, k, fs, x, S, ec, er, es, f, q⟩
theorem Rel.drop {Nn : Nm} (R : Rel Nn Z m h H σ ρ) {i : Nat} {w : Option V} : Rel Nn Z m h H ((σ.set i w).set i none) (ρ.set i none) := by
  refine ⟨R.st, by simpa using R.len, fun j e q => ?_⟩
  by_cases c : i = j
  · subst c
    have l : i < ρ.length := by
      have := (List.getElem?_eq_some_iff.mp q).1
      simpa using this
    rw [List.getElem?_set_self l] at q
    cases q
  · rw [List.getElem?_set_ne c] at q
    rw [List.getElem?_set_ne c, List.getElem?_set_ne c]
    exact R.env j e q
/-- try: .. except x as n: .. -/
theorem st_try (g : GoodS Γ N sc k W X) (O : GbOk Γ) {b ss : Sts} {c : Nat} {x n : Str} {body suite : List Stmt} {b₀ : Stmt} {np pos pos' : Pos} (hN : N[i]? = some n) (hln : sc.names.lookup n = some .local) (hg : sc.names.lookup x = some .globalImplicit) (hl : Γ.globs.lookup x = some (.cls c)) (hc : c < Γ.nc) (hd : (x == ("__debug__" : Str)) = false)
    (hb : ∀ (W : WX) (X' : Cx), GoodS Γ N sc k W X' → PSs X' body (tSs Γ W bs G b))
    (hs : ∀ (a : Addr) (oe : Obj) (cls : Value) (d : Option Addr) (pn : List (Addr × Obj)), Hot Γ N sc k W X i n a oe cls d → PSs (X.suite a ((a, oe) :: pn)) (b₀ :: suite) (tHs Γ i ss a cls d)) :
    PS X (.Try body [.ExceptHandler (some (.Name x np)) (some n) (b₀ :: suite) pos'] [] [] pos) (tS Γ W bs G (.try_ b c (some i) ss)) := by
  obtain ⟨u0, v, h1, h2, h3⟩ := O.gl x _ hl
  have h3 : v = .ref (Γ.N.ca c) := h3 (fun _ => False) (fun _ => none)
  subst h3
  cases h2
  have hm : X.mg x = some (.ref (Γ.N.ca c)) := by rw [g.mg]; exact h1
  have hG : Gl X x := by show X.env.kindOf x = _; unfold Env.kindOf; rw [g.scope]; exact hg
  refine ⟨fun pins s σ H D I ⟨Z, m, ρ, h, hb', R, p⟩ => ?_⟩
  have p : PostS Γ W bs Z m h H (ex G ρ (.try_ b c (some i) ss) h) D := p
  unfold ex at p
  refine (ps_try_as (ts := tHs Γ i ss) (tb := fun W => tSs Γ W bs G b) g.stk g.frm (by rw [g.names]; exact g.nd) (by rw [g.names]; exact hN) (by unfold Env.kindOf; rw [g.scope]; exact hln) ⟨hG, hd, .inl hm⟩ g.takes
    (fun W' pn xe tk po => hb W' _ ⟨⟨⟨g.prog, g.w, g.K, g.mg, g.base, g.names, g.nd, g.scope, g.un, tk⟩, g.calm, g.room⟩, po, g.fnT, g.stk, g.frm⟩)
    (fun a oe cls d pn hz hf => hs a oe cls d pn ⟨g, hN, hln, hz, hf⟩)).run pins s σ H D I ⟨Z, m, ρ, h, hb', R, ?_⟩
  show PostS Γ _ bs Z m h H (exs G ρ b h) D
  cases e : exs G ρ b h with
  | next ρ1 h1 => rw [e] at p; exact p
  | ret d h1 => rw [e] at p; exact p
  | brk ρ1 h1 => rw [e] at p; exact p
  | cont ρ1 h1 => rw [e] at p; exact p
  | stuck => rw [e] at p; exact p
  | exn j fs ρ1 h1 =>
    rw [e] at p
    have p : PostS Γ W bs Z m h H (if subT j c = true then tryEnd (hotS j fs ss) (some i) ρ1 h1 else .exn j fs ρ1 h1) D := p
    intro m1 H1 σ1 d1 R1 E1 r1
    refine ⟨subT j c, by rw [g.K]; exact O.exm j c r1.1 hc, fun eb a ha => ?_, fun eb => ?_⟩
    · rw [if_pos eb] at p
      unfold tryEnd at p
      split at p
      · rename_i li
        have li : i < ρ1.length := of_decide_eq_true li
        rw [R1.len] at li
        refine ⟨Z, m1, h1, j, fs, R1.st, rfl, r1, List.getElem?_set_self li, ?_⟩
        cases f : hotS j fs ss with
        | none => rw [f] at p; exact p.elim
        | some o =>
          cases o with
          | none =>
            rw [f] at p
            exact p m1 H1 _ R1.drop E1
          | some y =>
            rw [f] at p
            exact fun H2 v S2 E2 r2 => p m1 H2 v S2 (E1.trans (E2 bs)) r2
      · exact p.elim
    · rw [if_neg (by rw [eb]; exact Bool.false_ne_true)] at p
      exact p m1 H1 σ1 d1 R1 E1 r1
end
end Mp

set_option Elab.async false
set_option linter.all false
set_option maxRecDepth 100000
set_option maxHeartbeats 1000000
/-! zip of two, each a list or a tuple. -/
namespace Mp
open PySem PySem.Spec PyProof.Rows L2
/-- t: a tuple -/
def SqB (t : Bool) (K : PySem.W.Frag) (H : Hp) (a : Addr) (xs : List V) : Prop := match t with
  | true => SqT K H a xs
  | false => SqL K H a xs
def SeqB (t : Bool) (h : Heap) (a : Addr) (its : Array Value) : Prop := match t with
  | true => h.IsTuple a its
  | false => h.IsList a its
def IterB (t : Bool) (h : Heap) (it a : Addr) (i : Nat) : Prop := match t with
  | true => h.IsTupleIter it a i
  | false => h.IsListIter it a i
def objB (t : Bool) (a : Addr) : Obj := match t with
  | true => { cls := .type "tuple_iterator", data := .fields #[.ref a, .int 0 0] }
  | false => { cls := .type "list_iterator", data := .fields #[.ref a, .int 0 0] }
theorem SqB.get {X : Cx} {pins : List (Addr × Obj)} {σ : L2.St} {H : Hp} {s : Shared} {a : Addr} {xs : List V} : ∀ {t : Bool}, L2.Inv X pins σ H s → SqB t X.K H a xs → ∃ its : List Value, Vals xs its ∧ SeqB t s.heap a its.toArray
  | true, I, q => by
    obtain ⟨its, r, p, _⟩ := I.tuple q
    exact ⟨its, r, p⟩
  | false, I, q => by
    obtain ⟨its, r, p, _⟩ := I.list q
    exact ⟨its, r, p.isList⟩
theorem SqB.inj {X : Cx} {pins : List (Addr × Obj)} {σ : L2.St} {H : Hp} {s : Shared} {a : Addr} {xs ys : List V} : ∀ {t : Bool}, L2.Inv X pins σ H s → SqB t X.K H a xs → SqB t X.K H a ys → xs = ys
  | true, I, q, r => I.tuple_inj q r
  | false, I, q, r => I.list_inj q r
theorem SeqB.lt {h : Heap} {a : Addr} {its : Array Value} : ∀ {t : Bool}, SeqB t h a its → a < h.objs.size
  | true, ⟨_, e, _⟩ => Heap.lt_size e
  | false, ⟨_, e, _⟩ => Heap.lt_size e
theorem SeqB.at_ {h h' : Heap} {a : Addr} {its : Array Value} (k : ∀ o, h.get? a = some o → h'.get? a = some o) : ∀ {t : Bool}, SeqB t h a its → SeqB t h' a its
  | true, q => Heap.IsTuple.at q k
  | false, q => Heap.IsList.at q k
theorem IterB.at_ {h h' : Heap} {it a : Addr} {i : Nat} (k : ∀ o, h.get? it = some o → h'.get? it = some o) : ∀ {t : Bool}, IterB t h it a i → IterB t h' it a i
  | true, q => Heap.IsTupleIter.at q k
  | false, q => Heap.IsListIter.at q k
theorem IterB.obj {h : Heap} {it a : Addr} {i : Nat} : ∀ {t : Bool}, IterB t h it a i → ∃ o, h.get? it = some o ∧ ∀ v, o.data ≠ .cell v
  | true, ⟨o, e, _, d⟩ => ⟨o, e, fun v q => by rw [d] at q; cases q⟩
  | false, ⟨o, e, _, d⟩ => ⟨o, e, fun v q => by rw [d] at q; cases q⟩
theorem IterB.new {h : Heap} {it a : Addr} : ∀ {t : Bool}, h.get? it = some (objB t a) → IterB t h it a 0
  | true, e => ⟨_, e, rfl, rfl⟩
  | false, e => ⟨_, e, rfl, rfl⟩
theorem drawsB {prog : Program} {w : World} {A : Around} (hh : A.handled = none) (it a : Addr) (hne : a ≠ it) (its : Array Value) : ∀ t : Bool, Draws prog w A it [it, a] its.size (fun i v => its[i]? = some v) (fun i h => IterB t h it a i ∧ SeqB t h a its)
  | true => Draws.tuple hh it a hne its
  | false => Draws.list hh it a hne its
theorem beginsB (a : Addr) (its : Array Value) : ∀ t : Bool, Begins (.ref a) (objB t a) fun h => SeqB t h a its
  | true => begins_tuple a its
  | false => begins_list a its
/-- the two at a and b as they stand at each turn; at the end the shorter one has no more -/
def Itb (t1 t2 : Bool) (K : PySem.W.Frag) (a b : Addr) : L2.It where
  go := fun i H => ∃ (xs ys : List V) (x y : V), SqB t1 K H a xs ∧ SqB t2 K H b ys ∧ xs[i]? = some x ∧ ys[i]? = some y
  yld := fun i H v H' => ∃ T x y, v = .ref T ∧ H T = none ∧ H' = upd H T (.tup [x, y]) ∧ (∀ xs, SqB t1 K H a xs → xs[i]? = some x) ∧ ∀ ys, SqB t2 K H b ys → ys[i]? = some y
  stop := fun i H => ∃ xs ys : List V, SqB t1 K H a xs ∧ SqB t2 K H b ys ∧ i ≤ xs.length ∧ i ≤ ys.length ∧ (i = xs.length ∨ i = ys.length)
theorem five {P : Addr → Prop} {N : Nat} (h : ∀ c, N ≤ c → c < N + 5 → P c) : ∀ c, c ∈ [N + 4, N + 2, N + 3, N, N + 1] → P c := fun c hc => by
  have z : c = N + 4 ∨ c = N + 2 ∨ c = N + 3 ∨ c = N ∨ c = N + 1 := by simpa using hc
  exact h c (by omega) (by omega)
theorem seps {N a b : Nat} (ha : a < N) (hb : b < N) : ZipSep2 (N + 4) (N + 2) (N + 3) N (N + 1) [N, a] [N + 1, b] :=
  zip_sep2 (N := N) (fp1 := [a]) (fp2 := [b]) (fun c hc => by rw [List.mem_singleton.mp hc]; exact ha) (fun c hc => by rw [List.mem_singleton.mp hc]; exact hb)
theorem turnB {P : Program} {w : World} {K : PySem.W.Frag} {elts : List Expr} {kk : Nat} {tpos : Pos} {t1 t2 : Bool} {a b N : Nat} (ha : a < N) (hb : b < N) :
    Turn P w K (.Tuple elts kk tpos) (Itb t1 t2 K a b) [N + 4, N + 2, N + 3, N, N + 1] (N + 4)
      (fun i h => IsZip h (N + 4) (N + 2) (N + 3) .none ∧ IsPair h (N + 2) (.ref N) (.ref (N + 1)) ∧ (∃ x y, IsPair h (N + 3) x y) ∧ IterB t1 h N a i ∧ IterB t2 h (N + 1) b i) where
  mem := by simp
  obj := fun i h st => by
    obtain ⟨q1, q2, ⟨x, y, q3⟩, q4, q5⟩ := st
    refine fun c hc => ?_
    have z : c = N + 4 ∨ c = N + 2 ∨ c = N + 3 ∨ c = N ∨ c = N + 1 := by simpa using hc
    rcases z with z | z | z | z | z <;> subst z
    · exact ⟨_, q1, fun v q => nomatch q⟩
    · exact ⟨_, q2, fun v q => nomatch q⟩
    · exact ⟨_, q3, fun v q => nomatch q⟩
    · exact q4.obj
    · exact q5.obj
  keep := fun i h h' st k => by
    obtain ⟨q1, q2, ⟨x, y, q3⟩, q4, q5⟩ := st
    exact ⟨k _ (by simp) _ q1, k _ (by simp) _ q2, ⟨x, y, k _ (by simp) _ q3⟩, q4.at_ (k _ (by simp)), q5.at_ (k _ (by simp))⟩
  item := by
    intro X hP hw hK hc i pins s σ H E I hf st hg
    subst hP hw hK
    obtain ⟨q1, q2, ⟨x0, y0, q3⟩, q4, q5⟩ := st
    obtain ⟨xs, ys, x, y, sx, sy, hx, hy⟩ := hg
    obtain ⟨us, r1, p1⟩ := SqB.get I sx
    obtain ⟨ws, r2, p2⟩ := SqB.get I sy
    obtain ⟨u, hu, ru⟩ := r1.get hx
    obtain ⟨v, hv, rv⟩ := r2.get hy
    have hlt1 : i < us.toArray.size := by simpa using (List.getElem?_eq_some_iff.mp hu).1
    have hlt2 : i < ws.toArray.size := by simpa using (List.getElem?_eq_some_iff.mp hv).1
    have hh : X.A.in1.handled = none := I.ok.hd hc
    have zl : N + 4 < s.heap.objs.size := Heap.lt_size q1
    refine wpAny_pyNext_zipD2_item (seps ha hb) (drawsB hh N a (Nat.ne_of_lt ha) us.toArray t1) (drawsB hh (N + 1) b (Nat.ne_of_lt (Nat.lt_succ_of_lt hb)) ws.toArray t2) q1 q2 q3 ⟨q4, p1⟩ ⟨q5, p2⟩ hlt1 hlt2
      fun x1 x2 h' tk e1 e2 z' TO' st1 st2 hT hsz hk => ?_
    have e1 : x1 = u := by
      have e1 : us.toArray[i]? = some x1 := e1
      have : us[i]? = some x1 := by simpa using e1
      rw [hu] at this; exact (Option.some.inj this).symm
    have e2 : x2 = v := by
      have e2 : ws.toArray[i]? = some x2 := e2
      have : ws[i]? = some x2 := by simpa using e2
      rw [hv] at this; exact (Option.some.inj this).symm
    subst e1 e2
    refine ⟨_, rfl, wpAny_letOwnedTupleGo_zip (s := { s with heap := h', toks := tk }) z' fun h2 z2 sb => ?_⟩
    have far : ∀ c, c ≠ N + 4 → ∀ o, h'.get? c = some o → h2.get? c = some o := fun c hc o q => (sb.2 c hc).trans q
    have T2 : h2.get? s.heap.objs.size = some { cls := .type "tuple", data := .seq #[x1, x2] } := far _ (Nat.ne_of_gt zl) _ hT
    have I1 : L2.Inv X pins σ (upd H s.heap.objs.size (.tup [x, y])) { s with heap := h2, toks := tk } :=
      I.turnedNew (t' := tk) (ch := [N + 4, N + 2, N + 3, N, N + 1]) (T := s.heap.objs.size) (ob := .tup [x, y])
        (fun c o hb q => far c (fun z => hb (by simp [z])) o (hk c o (fun z => hb (by simp [z])) (fun z => hb (by simp [z])) (fun z => hb (by simp [z])) (fun z => hb (by simp [z])) q)) hf (Nat.le_refl _)
        ⟨by show 2 ≤ sizeLine; rw [sizeLine_eq]; omega, [x1, x2], .cons ru (.cons rv .nil), ⟨_, T2, rfl, _, rfl⟩⟩
    refine ⟨.ref s.heap.objs.size, _, I1, rfl, ⟨_, x, y, rfl, I.hok.fresh (Nat.le_refl _), rfl, fun l hl => by rw [SqB.inj I hl sx]; exact hx, fun l hl => by rw [SqB.inj I hl sy]; exact hy⟩,
      ⟨z2, far _ (by show (N + 2 : Nat) ≠ N + 4; omega) _ (hk _ _ (by show (N + 2 : Nat) ≠ N + 4; omega) (by show (N + 2 : Nat) ≠ N + 3; omega) (by show (N + 2 : Nat) ≠ N; omega) (by show (N + 2 : Nat) ≠ N + 1; omega) q2),
        ⟨x1, x2, far _ (by show (N + 3 : Nat) ≠ N + 4; omega) _ TO'⟩, st1.1.at_ (far _ (by show (N : Nat) ≠ N + 4; omega)), st2.1.at_ (far _ (by show (N + 1 : Nat) ≠ N + 4; omega))⟩, five fun c c1 c2 => ?_⟩
    rw [upd_ne (by show (c : Nat) ≠ s.heap.objs.size; omega)]
    exact (hf c (by simp; show (c : Nat) = N + 4 ∨ (c : Nat) = N + 2 ∨ (c : Nat) = N + 3 ∨ (c : Nat) = N ∨ (c : Nat) = N + 1; omega)).1
  done := by
    intro X hP hw hK hc i pins s σ H E I hf st hg
    subst hP hw hK
    obtain ⟨q1, q2, ⟨x0, y0, q3⟩, q4, q5⟩ := st
    obtain ⟨xs, ys, sx, sy, l1, l2, l3⟩ := hg
    obtain ⟨us, r1, p1⟩ := SqB.get I sx
    obtain ⟨ws, r2, p2⟩ := SqB.get I sy
    have hh : X.A.in1.handled = none := I.ok.hd hc
    have n1 : us.toArray.size = xs.length := by simp [r1.length]
    have n2 : ws.toArray.size = ys.length := by simp [r2.length]
    refine wpAny_pyNext_zipD2_end (seps ha hb) (drawsB hh N a (Nat.ne_of_lt ha) us.toArray t1) (drawsB hh (N + 1) b (Nat.ne_of_lt (Nat.lt_succ_of_lt hb)) ws.toArray t2) q1 q2 q3 ⟨q4, p1⟩ ⟨q5, p2⟩
      (by rw [n1]; exact l1) (by rw [n2]; exact l2) (by rw [n1, n2]; exact l3) fun h' tk hk => ⟨rfl, ?_⟩
    exact I.turnedL (t' := tk) (ch := [N + 4, N + 2, N + 3, N, N + 1]) (fun c o hb q => hk c o (fun z => hb (by simp [z])) (fun z => hb (by simp [z])) (fun z => hb (by simp [z])) (fun z => hb (by simp [z])) q) hf
  self := fun A i s Q E st q => wpAny_pyIter_zip st.1 q
def iZb (K : PySem.W.Frag) (ta : TA) : TI := fun σ H R => ta σ H fun vs H1 => ∃ t1 t2 a b xs ys, vs = [.ref a, .ref b] ∧ SqB t1 K H1 a xs ∧ SqB t2 K H1 b ys ∧ R (Itb t1 t2 K a b) H1
theorem pi_zipB {X : Cx} {e e2 : Expr} {ta : TA} {p pos tpos : Pos} {elts : List Expr} {kk : Nat} (hg : Gl X "zip") (hm : X.mg "zip" = none) (ha : PA X [e, e2] ta)
    (hs : starEach [e, e2] X.env = (false, eval e X.env) :: starEach [e2] X.env) (hpl : (backTo pos (starEach [e2] X.env)).any (·.1) = false) : PI X (.Tuple elts kk tpos) (.Call (.Name "zip" p) [e, e2] [] pos) (iZb X.K ta) := by
  refine ⟨fun pins s σ H R I h => Call_ (ld_blt I hg hm PyProof.Rows.boot_zip (PyProof.Rows.callWith_type1 (thn (ha.run pos pins s σ H _ I h) fun us s1 ⟨vs, H1, I1, r1, q1⟩ => ?_) hs hpl))⟩
  obtain ⟨t1, t2, a, b, xs, ys, ex, sx, sy, q⟩ := q1
  subst ex
  obtain ⟨u1, u2, rfl, ra, rb⟩ : ∃ u1 u2, us = [u1, u2] ∧ RelV (.ref a) u1 ∧ RelV (.ref b) u2 := by
    cases r1 with
    | cons p q =>
      cases q with
      | cons p' q' =>
        cases q'
        exact ⟨_, _, rfl, p, p'⟩
  cases ra
  cases rb
  obtain ⟨us, r1, p1⟩ := SqB.get I1 sx
  obtain ⟨ws, r2, p2⟩ := SqB.get I1 sy
  refine zip_begins2 (beginsB a us.toArray t1) (beginsB b ws.toArray t2) p1 p2 fun h' hz hTI hTO g1 g2 hsz hk => wpAny_pyIter_zip hz ?_
  exact ⟨s1.heap.objs.size + 4, _, _, _, H1, rfl, I1.kept (t' := s1.toks) hk, turnB p1.lt p2.lt, ⟨hz, hTI, ⟨_, _, hTO⟩, .new g1, .new g2⟩, five fun c c1 _ => I1.fpOk c1 (I1.hok.fresh c1), q⟩
section
variable {Γ : Gb} {N : List Str} {sc : Scope} {k : Nat} {W : WX} {X : Cx} {bs : Nat} {Z Z' : Addr → Prop} {G : Gm} {m m' : Nat → Addr} {h h' : Hea} {H H' : Hp}
/-- a sequence's address -/
theorem seq_sq {Nn : Nm} {L : Addr → Prop} {x : P} {v : V} {xs : List P} (e : seqOf x = some xs) (r : RpP Nn L H x v) : ∃ t a vs, v = .ref a ∧ SqB t Nn.K H a vs ∧ vs.length ≤ sizeLine ∧ RpL Nn L H xs vs ∧ (t = false → H a = some (.lst vs) ∧ ¬ L a) ∧ (t = true → TpT Nn.K H a vs) := by
  cases x with
  | tup ys =>
    cases e
    obtain ⟨a, vs, e1, e2, e3, e4⟩ := r
    exact ⟨true, a, vs, e1, e2.sq, e3, e4, (fun z => Bool.noConfusion z), fun _ => e2⟩
  | lst ys =>
    cases e
    obtain ⟨a, vs, e1, e2, e3, e4, e5⟩ := r
    exact ⟨false, a, vs, e1, SqL.of e2, e4, e5, (fun _ => ⟨e2, e3⟩), fun z => Bool.noConfusion z⟩
  | _ => cases e
theorem zip_length {xs ys : List P} : (List.zipWith (fun x y => P.tup [x, y]) xs ys).length = min xs.length ys.length := by simp
theorem w_zip {Nn : Nm} {K : PySem.W.Frag} (hK : K = Nn.K) {a b : Addr} {t1 t2 : Bool} {vs ws : List V} {xs ys : List P} (S : StOk Nn Z m h H) (s1 : SqB t1 Nn.K H a vs) (s2 : SqB t2 Nn.K H b ws) (r1 : RpL Nn (LZ Z m h) H xs vs) (r2 : RpL Nn (LZ Z m h) H ys ws)
    (f1 : t1 = false → H a = some (.lst vs) ∧ ¬ LZ Z m h a) (f2 : t2 = false → H b = some (.lst ws) ∧ ¬ LZ Z m h b) (g1 : t1 = true → TpT Nn.K H a vs) (g2 : t2 = true → TpT Nn.K H b ws) :
    Walks Nn bs Z m h H (Itb t1 t2 K a b) (List.zipWith (fun x y => P.tup [x, y]) xs ys) := by
  intro Z' m' h' H' _ z2 S' E i
  have kp := Kp.z S E z2
  have k1 : ∀ {t : Bool} {a : Addr} {vs : List V}, (t = false → H a = some (.lst vs) ∧ ¬ LZ Z m h a) → (t = true → TpT Nn.K H a vs) → SqB t K H' a vs := fun {t a vs} f g => by
    rw [hK]
    cases t with
    | true => exact (kp.tup (g rfl)).sq
    | false => exact SqL.of (kp.keep a _ (f rfl).1 (f rfl).2)
  have q1 := k1 f1 g1
  have q2 := k1 f2 g2
  have l1 := RpL.length r1
  have l2 := RpL.length r2
  refine ⟨fun x hx => ?_, fun l => ⟨vs, ws, q1, q2, ?_⟩⟩
  · obtain ⟨x1, x2, e1, e2, rfl⟩ : ∃ x1 x2, xs[i]? = some x1 ∧ ys[i]? = some x2 ∧ P.tup [x1, x2] = x := by
      rw [List.getElem?_zipWith] at hx
      cases c1 : xs[i]? with
      | none => rw [c1] at hx; cases hx
      | some x1 =>
        cases c2 : ys[i]? with
        | none => rw [c1, c2] at hx; cases hx
        | some x2 =>
          rw [c1, c2] at hx
          cases hx
          exact ⟨x1, x2, rfl, rfl, rfl⟩
    obtain ⟨v1, g3, g4⟩ := RpL.get r1 e1
    obtain ⟨v2, g5, g6⟩ := RpL.get r2 e2
    refine ⟨⟨vs, ws, v1, v2, q1, q2, g3, g5⟩, fun w H'' y => ?_⟩
    obtain ⟨T, y1, y2, rfl, hT, rfl, a1, a2⟩ := y
    have ew1 : y1 = v1 := Option.some.inj ((a1 vs q1).symm.trans g3)
    have ew2 : y2 = v2 := Option.some.inj ((a2 ws q2).symm.trans g5)
    subst ew1 ew2
    obtain ⟨S2, E2⟩ := S'.laid (bs := bs) (o := .tup [y1, y2]) hT
    have kp2 := Kp.of S' E2
    refine ⟨S2, E2, T, [y1, y2], rfl, .inl upd_same, by show 2 ≤ sizeLine; rw [sizeLine_eq]; omega, ?_⟩
    exact ⟨y1, [y2], rfl, RpP.ext kp2 _ _ (RpP.ext kp _ _ g4), y2, [], rfl, RpP.ext kp2 _ _ (RpP.ext kp _ _ g6), rfl⟩
  · rw [zip_length] at l
    omega
theorem i_zip (g : Good Γ N sc k W X) (O : GbOk Γ) {a b : Ex} {x y : Expr} {p0 pos tpos : Pos} {elts : List Expr} {kk : Nat} (hg : sc.names.lookup ("zip" : Str) = some .globalImplicit) (hf : ("zip" : Str) ∈ Γ.free) (hn : noStar x = true) (hn2 : noStar y = true)
    (ha : PA X [x, y] (tA Γ W bs G (.cons a (.cons b .nil)))) : PI X (.Tuple elts kk tpos) (.Call (.Name "zip" p0) [x, y] [] pos) (tI Γ W bs G (.zip a b)) := by
  refine ⟨fun pins s σ H R I ⟨Z, m, ρ, h, hb, Rl, p⟩ => ?_⟩
  have p : PostX Γ W bs Z m h H σ (rI Γ.N bs) (evI G ρ (.zip a b) h) R := p
  have e0 : evI G ρ (.zip a b) h = (evs G ρ (.cons a (.cons b .nil)) h).bind fun ds h => match ds with
      | [.p x, .p y] => Mp.R.ofO ((seqOf x).bind fun xs => (seqOf y).map fun ys => List.zipWith (fun x y => P.tup [x, y]) xs ys) h
      | _ => .stuck := by
    unfold evI evs
    cases ev G ρ a h with
    | stuck => rfl
    | exn _ _ _ => rfl
    | ok d h1 =>
      unfold evs
      show (ev G ρ b h1).bind _ = Mp.R.bind (Mp.R.bind (Mp.R.bind (ev G ρ b h1) _) _) _
      cases ev G ρ b h1 with
      | stuck => rfl
      | exn _ _ _ => rfl
      | ok d2 h2 =>
        unfold evs
        cases d <;> cases d2 <;> rfl
  rw [e0] at p
  have hG : Gl X "zip" := by show X.env.kindOf _ = _; unfold Env.kindOf; rw [g.scope]; exact hg
  have hm : X.mg "zip" = none := by rw [g.mg]; exact O.fr _ hf
  have s2 := star_cons (es := []) (env := X.env) hn2
  refine (pi_zipB hG hm ha (star_cons hn) (by rw [s2]; rfl)).run pins s σ H R I ⟨Z, m, ρ, h, hb, Rl, (post_bind hb Rl p).mono fun vs H1 ⟨ds, m1, h1, hb1, R1, E1, rs, p1⟩ => ?_⟩
  split at p1
  · rename_i ds x1 x2
    obtain ⟨v1, w1, rfl, ra, v2, w2, rfl, rb, rfl⟩ := rs
    have p1 : PostX Γ W bs Z m1 h1 H1 σ (rI Γ.N bs) (Mp.R.ofO ((seqOf x1).bind fun xs => (seqOf x2).map fun ys => List.zipWith (fun x y => P.tup [x, y]) xs ys) h1) R := p1
    cases c1 : seqOf x1 with
    | none => rw [c1] at p1; exact p1.elim
    | some xs =>
      cases c2 : seqOf x2 with
      | none => rw [c1, c2] at p1; exact p1.elim
      | some ys =>
        rw [c1, c2] at p1
        obtain ⟨t1, a1, us, rfl, q1, q2, q3, q4, q5⟩ := seq_sq c1 ra
        obtain ⟨t2, a2, ws, rfl, q6, q7, q8, q9, q10⟩ := seq_sq c2 rb
        refine ⟨t1, t2, a1, a2, us, ws, rfl, by rw [g.K]; exact q1, by rw [g.K]; exact q6, p1 m1 H1 _ R1.st Ext.refl ⟨?_, w_zip g.K R1.st q1 q6 q3 q8 q4 q9 q5 q10⟩⟩
        rw [zip_length, RpL.length q3]
        omega
  · exact p1.elim
end
end Mp

set_option Elab.async false
set_option linter.all false
set_option maxRecDepth 100000
set_option maxHeartbeats 1000000
/-! Calls of values; two names at once; what is never reached. -/
namespace Mp
open PySem PySem.Spec PyProof.Rows L2
section
variable {Γ : Gb} {N : List Str} {sc : Scope} {k : Nat} {W : WX} {X : Cx} {bs : Nat} {Z Z' : Addr → Prop} {G : Gm} {m m' : Nat → Addr} {h h' : Hea} {H H' : Hp} {σ : L2.St} {ρ : Slots}
def isSub : Expr → Bool
  | .Subscript .. => true
  | _ => false
theorem call_arm {x : Expr} {xs : List Expr} {pos : Pos} {env : Env} (hx : isSub x = true) : eval (.Call x xs [] pos) env = (do callWith pos (← eval x env) [] (backTo pos (starEach xs env)) (backToKw pos (keywordEach [] env))) := by
  cases x <;> first | rfl | cases hx
theorem s_callv (g : Good Γ N sc k W X) (O : GbOk Γ) (C : CallsOk Γ k G.call) {e : Ex} {es : Exs} {x : Expr} {xs : List Expr} {pos : Pos} (hx : isSub x = true) (hn : noStars xs = true) (hes : ∀ e r, es = .cons e r → xs = [] → False) (he : PE X x (tE Γ W bs G e)) (ha : PA X xs (tA Γ W bs G es)) :
    PE X (.Call x xs [] pos) (tE Γ W bs G (.callv e es)) := by
  refine ⟨fun pins s σ H Q I ⟨Z, m, ρ, h, hbs, R, p⟩ => ?_⟩
  have p : PostX Γ W bs Z m h H σ (rD Γ.N) (ev G ρ (.callv e es) h) Q := p
  unfold ev at p
  rw [call_arm hx]
  refine wpAny_bind (thn (he.run pins s σ H _ I ⟨Z, m, ρ, h, hbs, R, post_bind hbs R p⟩) fun fv s0 ⟨f, H0, I0, r0, d0, m0, h0, hb0, R0, E0, rx, p0⟩ => ?_)
  have go : ∀ {f : Nat} (us : List Value) (s1 : Shared) (vs : List V) (H1 : Hp), L2.Inv X pins σ H1 s1 → Vals vs us → (∃ ds m1 h1, bs ≤ h1.length ∧ Rel Γ.N Z m1 h1 H1 σ ρ ∧ Ext bs m0 h0 H0 m1 h1 H1 ∧ rDs Γ.N Z m1 h1 H1 ds vs ∧ PostX Γ W bs Z m1 h1 H1 σ (rD Γ.N) (G.call f ds h1) Q) →
      wpAny (model X.prog X.w) X.A (call (.ref (Γ.N.fa f)) us) (EP X pins σ Q) X.xe s1 := fun {f} us s1 vs H1 I1 r hh => by
    obtain ⟨ds, m1, h1, hb1, R1, E1, rs, p1⟩ := hh
    obtain ⟨fd, ps, F, B⟩ := C f ds h1 (post_ns p1)
    exact run_fnS (by rw [g.prog, g.w, g.K, g.mg, g.base]; exact F) g.room (by rw [g.K]; exact B) (passAt g.takes σ) I1 r (post_call hb1 R1 rs p1)
  -- who is called
  have who : ∀ {f : Nat}, d0 = .p (.fn f) → PostX Γ W bs Z m0 h0 H0 σ (rD Γ.N) ((evs G ρ es h0).bind fun ds h => G.call f ds h) Q → wpAny (model X.prog X.w) X.A (callWith pos fv [] (backTo pos (starEach xs X.env)) (backToKw pos (keywordEach [] X.env))) (EP X pins σ Q) X.xe s0 := fun {f} ed p0 => by
    subst ed
    have rx : _ = V.ref (Γ.N.fa f) := rx
    subst rx
    cases r0
    have hk : PySem.W.keepIn X.K (.ref (Γ.N.fa f)) = true := by rw [g.K]; exact O.kp f
    have hA := ha.run pos pins s0 σ H0 _ I0 ⟨Z, m0, ρ, h0, hb0, R0, post_bind (rel := rDs Γ.N) hb0 R0 p0⟩
    cases xs with
    | nil =>
      refine PySem.W.callWith_K0 I0.kIn hk ?_
      cases es with
      | nil =>
        unfold evs at p0
        exact go [] s0 [] H0 I0 .nil ⟨[], m0, h0, hb0, R0, Ext.refl, rfl, p0⟩
      | cons e r => exact (hes e r rfl rfl).elim
    | cons x1 xr =>
      obtain ⟨n1, n2⟩ := Bool.and_eq_true_iff.mp hn
      exact PySem.W.callWith_K (h₀ := X.base) I0.ok.mod.kin hk (thn hA fun us s1 ⟨vs, H1, I1, r, q⟩ => ⟨I1.kIn, go us s1 vs H1 I1 r q⟩) (star_cons n1) (star_none n2)
  split at p0
  · exact who rfl p0
  · exact p0.elim
/-! two names at once -/
def isStarred : Expr → Bool
  | .Starred .. => true
  | _ => false
theorem any_star : ∀ {es : List Expr}, noStars es = true → (es.any fun | .Starred .. => true | _ => false) = false
  | [], _ => rfl
  | e :: es, h => by
    obtain ⟨h1, h2⟩ := Bool.and_eq_true_iff.mp h
    rw [List.any_cons, any_star h2]
    cases e <;> first | rfl | cases h1
theorem swapped2 {x y : Str} {a b : Expr} {px py pt : Pos} {kt k2 : Nat} {pt2 : Pos} {env : Env} (hk : env.scope.kind = .function) (hx : env.scope.names.lookup x = some .local) (hy : env.scope.names.lookup y = some .local) (hl : (py.line == px.line) = true) (hxy : (x == y) = false)
    (ha : noStar a = true) (hb : noStar b = true) (h1 : [a, b].all (foldedForSure 8) = false) (h2 : [a, b].all (constantsAlone 8) = false) :
    swappedStores [.Tuple [.Name x px, .Name y py] kt pt] (.Tuple [a, b] k2 pt2) env = pure (some [x, y]) := by
  have e1 : env.blockKind = .function := by unfold Env.blockKind; rw [hk]; rfl
  have e2 : env.kindOf x = some .local := hx
  have e3 : env.kindOf y = some .local := hy
  have e4 := any_star (es := [a, b]) (by show (noStar a && (noStar b && true)) = true; rw [ha, hb] <;> rfl)
  unfold swappedStores
  simp only [e1, e2, e3, e4, h1, h2, hl, hxy, List.filterMap_cons, List.filterMap_nil, List.length_cons, List.length_nil, List.head?_cons, Option.map_some, Option.getD_some, Expr.pos]
  have n1 : (px.line == px.line) = true := beq_self_eq_true _
  have n2 : (some NameKind.local == some NameKind.local) = true := rfl
  have n3 : [x, y].eraseDups = [x, y] := by
    have q : (y == x) = false := Bool.eq_false_iff.mpr fun z => by rw [eq_of_beq z, beq_self_eq_true] at hxy; cases hxy
    simp [List.eraseDups_cons, List.filter_cons, q, hxy]
  simp only [n1, n2, n3, Bool.true_and, Bool.and_true, if_true, Bool.and_self]
  rw [if_neg (by decide)]
  split
  · rename_i z
    exact absurd (e4.symm.trans z) Bool.false_ne_true
  · rw [if_neg (by simp)]
    rfl
theorem st_par (g : GoodS Γ N sc k W X) {i j : Nat} {a b : Ex} {x y : Str} {e1 e2 : Expr} {px py pt pt2 pos : Pos} {kt k2 : Nat} (hk : sc.kind = .function) (hi : N[i]? = some x) (hj : N[j]? = some y) (hij : i ≠ j) (hx : sc.names.lookup x = some .local) (hy : sc.names.lookup y = some .local)
    (hl : (py.line == px.line) = true) (hxy : (x == y) = false) (ha : noStar e1 = true) (hb : noStar e2 = true) (h1 : [e1, e2].all (foldedForSure 8) = false) (h2 : [e1, e2].all (constantsAlone 8) = false) (he : PA X [e1, e2] (tA Γ W bs G (.cons a (.cons b .nil)))) :
    PS X (.Assign [.Tuple [.Name x px, .Name y py] kt pt] (.Tuple [e1, e2] k2 pt2) pos) (tS Γ W bs G (.par i j a b)) := by
  refine ⟨fun pins s σ H D I ⟨Z, m, ρ, h, hb', R, p⟩ => ?_⟩
  have p : PostS Γ W bs Z m h H (ex G ρ (.par i j a b) h) D := p
  have e0 : ex G ρ (.par i j a b) h = RS.ofR (evs G ρ (.cons a (.cons b .nil)) h) ρ fun ds h => match ds with
      | [x, y] => .next ((ρ.set i (some x)).set j (some y)) h
      | _ => .stuck := by
    unfold ex evs
    cases ev G ρ a h with
    | stuck => rfl
    | exn _ _ _ => rfl
    | ok d h1 =>
      unfold evs
      show RS.ofR (ev G ρ b h1) ρ _ = RS.ofR (Mp.R.bind (Mp.R.bind (ev G ρ b h1) _) _) ρ _
      cases ev G ρ b h1 with
      | stuck => rfl
      | exn _ _ _ => rfl
      | ok d2 h2 =>
        unfold evs
        rfl
  rw [e0] at p
  refine (ps_par g.calm (by rw [g.names]; exact g.nd) (by rw [g.names]; exact hi) (by rw [g.names]; exact hj) hij (by rw [g.scope]; exact hx) (by rw [g.scope]; exact hy) he (swapped2 (by rw [g.scope]; exact hk) (by rw [g.scope]; exact hx) (by rw [g.scope]; exact hy) hl hxy ha hb h1 h2)).run pins s σ H D I
    ⟨Z, m, ρ, h, hb', R, (posts_ofR (rel := rDs Γ.N) hb' R p).mono fun vs H1 ⟨ds, m1, h1, _, hb1, R1, E1, rs, p1⟩ => ?_⟩
  split at p1
  · obtain ⟨v1, w1, rfl, ra, v2, w2, rfl, rb, rfl⟩ := rs
    exact ⟨v1, v2, rfl, posts_next ((R1.set ra).set rb) p1⟩
  · exact p1.elim
theorem s_bad {e : Expr} : PE X e (tE Γ W bs G .bad) := ⟨fun pins s σ H Q I ⟨Z, m, ρ, h, hb', R, p⟩ => by
  have p : PostX Γ W bs Z m h H σ (rD Γ.N) (ev G ρ .bad h) Q := p
  unfold ev at p
  exact p.elim⟩
theorem st_bad {e : Stmt} : PS X e (tS Γ W bs G .bad) := ⟨fun pins s σ H D I ⟨Z, m, ρ, h, hb', R, p⟩ => by
  have p : PostS Γ W bs Z m h H (ex G ρ .bad h) D := p
  unfold ex at p
  exact p.elim⟩
end
end Mp

set_option Elab.async false
set_option linter.all false
set_option maxRecDepth 100000
set_option maxHeartbeats 1000000
/-! A term of ours against the program's text: what is alike is told by a Bool. -/
namespace Mp
open PySem PySem.Spec PyProof.Rows L2
structure Ck where
  N : List Str
  globs : List (Str × P)
  free : List Str
  nc : Nat
def isK (sc : Scope) (x : Str) (k : NameKind) : Bool := decide (sc.names.lookup x = some k)
theorem isK_ok {sc : Scope} {x : Str} {k : NameKind} (h : isK sc x k = true) : sc.names.lookup x = some k := of_decide_eq_true h
def isV (sc : Scope) (x : Str) : Bool := isK sc x .local || (isK sc x .cell || isK sc x .free)
theorem isV_ok {sc : Scope} {x : Str} (h : isV sc x = true) : Vis sc x := by
  rcases Bool.or_eq_true_iff.mp h with z | z
  · exact .inl (isK_ok z)
  · rcases Bool.or_eq_true_iff.mp z with z | z
    · exact .inr (.inl (isK_ok z))
    · exact .inr (.inr (isK_ok z))
def isAt (N : List Str) (i : Nat) (x : Str) : Bool := decide (N[i]? = some x)
def notX (x y : Str) : Bool := !(x == y)
theorem notX_ok {x y : Str} (h : notX x y = true) : (x == y) = false := by
  unfold notX at h
  cases q : x == y with
  | true => rw [q] at h; cases h
  | false => rfl
def opBb : BOp → Operator → Bool
  | .add, .Add | .sub, .Sub | .mul, .Mult | .fdiv, .FloorDiv | .mod, .Mod | .pow, .Pow => true
  | _, _ => false
theorem opBb_ok {o : BOp} {p : Operator} (h : opBb o p = true) : opB o = p := by cases o <;> cases p <;> first | rfl | cases h
def opCb : COp → CmpOp → Bool
  | .lt, .Lt | .le, .LtE | .gt, .Gt | .ge, .GtE | .eq, .Eq | .ne, .NotEq | .is_, .Is | .isnot, .IsNot | .in_, .In | .notin, .NotIn => true
  | _, _ => false
theorem opCb_ok {o : COp} {p : CmpOp} (h : opCb o p = true) : opC o = p := by cases o <;> cases p <;> first | rfl | cases h
/-- constants, names of built-in classes -/
def conB (c : Ck) (sc : Scope) : P → Expr → Bool
  | .non, .Constant .none _ _ => true
  | .bl b, .Constant (.bool b') _ _ => b == b'
  | .int i, .Constant (.int j) _ _ => decide (i = j)
  | .str s, .Constant (.str x) _ _ => decide (x = ⟨s.toArray⟩)
  | .ty n, .Name x _ => isK sc x .globalImplicit && (decide (x ∈ c.free) && ((match bootBuiltins x with
    | some (.type t) => decide (t = n)
    | _ => false) && (notX x ("__name__" : Str) && notX x ("__debug__" : Str))))
  | _, _ => false
mutual
def eqG : P → P → Bool
  | .non, .non => true
  | .bl a, .bl b => a == b
  | .int i, .int j => decide (i = j)
  | .str s, .str t => decide (s = t)
  | .tup xs, .tup ys => eqGs xs ys
  | .lst xs, .lst ys => eqGs xs ys
  | .fn i, .fn j => decide (i = j)
  | .cls i, .cls j => decide (i = j)
  | .ty n, .ty t => decide (n = t)
  | _, _ => false
def eqGs : List P → List P → Bool
  | [], [] => true
  | x :: xs, y :: ys => eqG x y && eqGs xs ys
  | _, _ => false
end
mutual
theorem eqG_ok : ∀ {x y : P}, eqG x y = true → x = y
  | .non, y, h => by cases y <;> first | rfl | cases h
  | .bl a, y, h => by
    cases y with
    | bl b => have h : (a == b) = true := h; rw [eq_of_beq h]
    | _ => cases h
  | .int a, y, h => by
    cases y with
    | int b => have h : decide (a = b) = true := h; rw [of_decide_eq_true h]
    | _ => cases h
  | .str a, y, h => by
    cases y with
    | str b => have h : decide (a = b) = true := h; rw [of_decide_eq_true h]
    | _ => cases h
  | .tup a, y, h => by
    cases y with
    | tup b => have h : eqGs a b = true := h; rw [eqGs_ok h]
    | _ => cases h
  | .lst a, y, h => by
    cases y with
    | lst b => have h : eqGs a b = true := h; rw [eqGs_ok h]
    | _ => cases h
  | .scr a, y, h => by cases y <;> cases h
  | .fn a, y, h => by
    cases y with
    | fn b => have h : decide (a = b) = true := h; rw [of_decide_eq_true h]
    | _ => cases h
  | .cls a, y, h => by
    cases y with
    | cls b => have h : decide (a = b) = true := h; rw [of_decide_eq_true h]
    | _ => cases h
  | .ty a, y, h => by
    cases y with
    | ty b => have h : decide (a = b) = true := h; rw [of_decide_eq_true h]
    | _ => cases h
theorem eqGs_ok : ∀ {xs ys : List P}, eqGs xs ys = true → xs = ys
  | [], ys, h => by cases ys <;> first | rfl | cases h
  | x :: xs, ys, h => by
    cases ys with
    | nil => cases h
    | cons y ys =>
      obtain ⟨h1, h2⟩ := Bool.and_eq_true_iff.mp (show (eqG x y && eqGs xs ys) = true from h)
      rw [eqG_ok h1, eqGs_ok h2]
end
def gloB (c : Ck) (sc : Scope) (x : Str) (v : P) : Bool := isK sc x .globalImplicit && ((match c.globs.lookup x with
  | some u => eqG u v
  | none => false) && notX x ("__debug__" : Str))
def bltN (c : Ck) (sc : Scope) (x y : Str) : Bool := decide (x = y) && (isK sc y .globalImplicit && decide (y ∈ c.free))
theorem gloB_ok {c : Ck} {sc : Scope} {x : Str} {v : P} (h : gloB c sc x v = true) : sc.names.lookup x = some .globalImplicit ∧ c.globs.lookup x = some v ∧ (x == ("__debug__" : Str)) = false := by
  obtain ⟨h1, h⟩ := Bool.and_eq_true_iff.mp h
  obtain ⟨h2, h3⟩ := Bool.and_eq_true_iff.mp h
  refine ⟨isK_ok h1, ?_, notX_ok h3⟩
  split at h2
  · rename_i u e
    rw [e, eqG_ok h2]
  · cases h2
theorem bltN_ok {c : Ck} {sc : Scope} {x y : Str} (h : bltN c sc x y = true) : x = y ∧ sc.names.lookup y = some .globalImplicit ∧ y ∈ c.free := by
  obtain ⟨h1, h⟩ := Bool.and_eq_true_iff.mp h
  obtain ⟨h2, h3⟩ := Bool.and_eq_true_iff.mp h
  exact ⟨of_decide_eq_true h1, isK_ok h2, of_decide_eq_true h3⟩
def namesB (c : Ck) (sc : Scope) (cl : Str → Bool) : List Nat → List Expr → Bool
  | [], [] => true
  | i :: is, .Name x _ :: es => isAt c.N i x && ((isK sc x .local || (isK sc x .cell && cl x)) && namesB c sc cl is es)
  | _, _ => false
theorem namesB_ok {c : Ck} {sc : Scope} {cl : Str → Bool} {X : Cx} (hf : ∀ x, cl x = true → X.fn x = true) : ∀ {is : List Nat} {es : List Expr}, namesB c sc cl is es = true → NamesAt c.N sc X is es
  | [], [], _ => trivial
  | [], _ :: _, h => by cases h
  | _ :: _, [], h => by cases h
  | i :: is, e :: es, h => by
    cases e with
    | Name x p =>
      obtain ⟨h1, h⟩ := Bool.and_eq_true_iff.mp (show (isAt c.N i x && ((isK sc x .local || (isK sc x .cell && cl x)) && namesB c sc cl is es)) = true from h)
      obtain ⟨h2, h3⟩ := Bool.and_eq_true_iff.mp h
      refine ⟨of_decide_eq_true h1, ?_, ?_, namesB_ok hf h3⟩
      · rcases Bool.or_eq_true_iff.mp h2 with z | z
        · exact .inl (isK_ok z)
        · exact .inr (isK_ok (Bool.and_eq_true_iff.mp z).1)
      · rcases Bool.or_eq_true_iff.mp h2 with z | z
        · exact .inr (isK_ok z)
        · exact .inl (hf x (Bool.and_eq_true_iff.mp z).2)
    | _ => cases h
def tgB (c : Ck) (sc : Scope) (cl : Str → Bool) : Tg → Expr → Bool
  | .one i, e => namesB c sc cl [i] [e]
  | .many is, .Tuple es _ _ => namesB c sc cl is es
  | _, _ => false
theorem tgB_ok {c : Ck} {Γ : Gb} {sc : Scope} {k : Nat} {W : WX} {cl : Str → Bool} {X : Cx} {bs : Nat} (g : Good Γ c.N sc k W X) (hf : ∀ x, cl x = true → X.fn x = true) : ∀ {t : Tg} {e : Expr}, tgB c sc cl t e = true → PG X e (tG Γ bs t)
  | .one i, e, h => by
    have h := namesB_ok hf (show namesB c sc cl [i] [e] = true from h)
    cases e with
    | Name x p =>
      obtain ⟨h1, h2, h3, _⟩ := h
      exact g_one g h1 h2 h3
    | _ => exact h.elim
  | .many is, e, h => by
    cases e with
    | Tuple es a b => exact g_many g (namesB_ok hf h)
    | _ => cases h
def notSet : Expr → Bool
  | .Set .. => false
  | _ => true
theorem fold_of {e : Expr} {env : Env} (h : notSet e = true) : ∀ v, foldedSetIterable e env v = pure v := fun v => by
  cases e <;> first | rfl | cases h
/-- tests whose truth is their value's -/
def plainT : Expr → Bool
  | .BoolOp .. | .UnaryOp .. | .Compare .. | .IfExp .. | .NamedExpr .. => false
  | _ => true
theorem plainT_ok {e : Expr} {env : Env} (h : plainT e = true) : ∀ whole, isTrue e env whole = (do let v ← whole; standAt e.pos; holding [v] (truthy v)) := fun w => by
  cases e <;> first | rfl | cases h
def ownOf (N : List Str) (vs : List Nat) : List (Str × Nat) := vs.map fun i => (N.getD i ("" : Str), i)
theorem ownOf_snd {N : List Str} {vs : List Nat} : vs = (ownOf N vs).map (·.2) := by
  unfold ownOf
  rw [List.map_map]
  exact (List.map_id' vs).symm
mutual
/-- an expression -/
def chkE (c : Ck) : Scope → Ex → Expr → Bool
  | sc, .var i, y => (match y with
    | .Name x _ => isAt c.N i x && (isV sc x && (notX x ("__debug__" : Str) && notX x ("__classdict__" : Str)))
    | _ => false)
  | sc, .con v, y => conB c sc v y
  | sc, .glo v, y => (match y with
    | .Name x _ => gloB c sc x v
    | _ => false)
  | sc, .bin o a b, y => (match y with
    | .BinOp x op z _ => opBb o op && (chkE c sc a x && chkE c sc b z)
    | _ => false)
  | sc, .neg a, y => (match y with
    | .UnaryOp .USub x _ => chkE c sc a x
    | _ => false)
  | sc, .cmp o a b, y => (match y with
    | .Compare x [op] [z] _ => opCb o op && (chkE c sc a x && (chkE c sc b z && !behindInMarks op z))
    | _ => false)
  | sc, .chain o o' a b d, y => (match y with
    | .Compare x [op, op'] [z, w] _ => opCb o op && (opCb o' op' && (chkE c sc a x && (chkE c sc b z && (chkE c sc d w && !lastMarks [op, op'] [z, w]))))
    | _ => false)
  | sc, .and_ a b, y => (match y with
    | .BoolOp .And (x :: z :: r) p => chkE c sc a x && chkE c sc b (match r with
      | [] => z
      | r => .BoolOp .And (z :: r) p)
    | _ => false)
  | sc, .or_ a b, y => (match y with
    | .BoolOp .Or (x :: z :: r) p => chkE c sc a x && chkE c sc b (match r with
      | [] => z
      | r => .BoolOp .Or (z :: r) p)
    | _ => false)
  | sc, .not_ a, y => (match y with
    | .UnaryOp .Not x _ => chkE c sc a x
    | _ => false)
  | sc, .ite q a b, y => (match y with
    | .IfExp t x z _ => chkT c sc q t && (chkE c sc a x && chkE c sc b z)
    | _ => false)
  | sc, .tup es, y => (match y with
    | .Tuple xs _ _ => chkEs c sc es xs
    | _ => false)
  | sc, .lst _ es, y => (match y with
    | .List xs _ => chkEs c sc es xs
    | _ => false)
  | sc, .idx a i, y => (match y with
    | .Subscript x z _ => plainIxB z && (chkE c sc a x && chkE c sc i z)
    | _ => false)
  | sc, .slc _ a lo hi, y => (match y with
    | .Subscript x (.Slice l u none _) _ => chkE c sc a x && (chkO c sc lo l && chkO c sc hi u)
    | _ => false)
  | sc, .call f es, y => (match y with
    | .Call (.Name x _) xs [] _ => gloB c sc x (.fn f) && chkEs c sc es xs
    | _ => false)
  | sc, .callv e es, y => (match y with
    | .Call x xs [] _ => isSub x && (chkE c sc e x && chkEs c sc es xs)
    | _ => false)
  | sc, .blt b _ es, y => (match y with
    | .Call (.Name x _) (x1 :: xr) [] _ => bltN c sc x (nameB b) && chkEs c sc es (x1 :: xr)
    | _ => false)
  | sc, .meth t _ o es, y => (match y with
    | .Call (.Attribute x n ap) xs [] cp => notCall x && ((ap.endLine == cp.line) && (chkE c sc o x && (chkEs c sc es xs && (match t, es with
      | .append, .cons _ .nil => decide (n = ("append" : Str))
      | .pop, .nil => decide (n = ("pop" : Str))
      | .pop, .cons _ .nil => decide (n = ("pop" : Str))
      | _, _ => false))))
    | _ => false)
  | sc, .comp _ vs tg it cond elt, y => (match y with
    | .ListComp z [⟨te, x, ifs, 0⟩] s _ => blkC c.N sc s (ownOf c.N vs) && ((slotsT tg).all (fun j => decide (j ∈ vs)) && (notSet x && (chkI c sc it te x && (tgB c (relS s sc) (fun n => isK s n .cell) tg te && (chkC c (relS s sc) cond ifs && chkE c (relS s sc) elt z)))))
    | _ => false)
  | _, .isE _, _ => false
  | _, .fldE _, _ => false
  | _, .fstr _, _ => false
  | _, .bad, _ => true
def chkEs (c : Ck) : Scope → Exs → List Expr → Bool
  | _, .nil, ys => ys.isEmpty
  | sc, .cons e r, ys => (match ys with
    | y :: ys => noStar y && (chkE c sc e y && chkEs c sc r ys)
    | [] => false)
def chkO (c : Ck) : Scope → Exs → Option Expr → Bool
  | _, .nil, o => o.isNone
  | sc, .cons e r, o => (match o with
    | some y => chkE c sc e y && (match r with
      | .nil => true
      | _ => false)
    | none => false)
def chkC (c : Ck) : Scope → Exs → List Expr → Bool
  | _, .nil, ys => ys.isEmpty
  | sc, .cons e _, ys => (match ys with
    | [y] => chkT c sc e y
    | _ => false)
/-- what is walked -/
def chkI (c : Ck) : Scope → It → Expr → Expr → Bool
  | sc, .seq e, _, y => chkE c sc e y
  | sc, .rng es, _, y => (match y with
    | .Call (.Name x _) xs [] _ => bltN c sc x ("range" : Str) && (chkEs c sc es xs && (match es with
      | .cons _ .nil => true
      | .cons _ (.cons _ .nil) => true
      | _ => false))
    | _ => false)
  | sc, .zip a b, te, y => (match te, y with
    | .Tuple .., .Call (.Name x _) [u, v] [] _ => bltN c sc x ("zip" : Str) && (noStar u && (noStar v && (chkE c sc a u && chkE c sc b v)))
    | _, _ => false)
  | _, .enum _, _, _ => false
/-- a test -/
def chkT (c : Ck) : Scope → Ex → Expr → Bool
  | sc, .and_ a b, y => (match y with
    | .BoolOp .And (x :: z :: r) p => chkT c sc a x && chkT c sc b (match r with
      | [] => z
      | r => .BoolOp .And (z :: r) p)
    | _ => false)
  | sc, .or_ a b, y => (match y with
    | .BoolOp .Or (x :: z :: r) p => chkT c sc a x && chkT c sc b (match r with
      | [] => z
      | r => .BoolOp .Or (z :: r) p)
    | _ => false)
  | sc, .not_ a, y => (match y with
    | .UnaryOp .Not x _ => chkT c sc a x
    | _ => false)
  | sc, .cmp o a b, y => (match y with
    | .Compare x [op] [z] _ => opCb o op && (chkE c sc a x && (chkE c sc b z && !behindInMarks op z))
    | _ => false)
  | sc, .var i, y => (match y with
    | .Name x _ => isAt c.N i x && (isV sc x && (notX x ("__debug__" : Str) && notX x ("__classdict__" : Str)))
    | _ => false)
  | sc, .idx a i, y => (match y with
    | .Subscript x z _ => plainIxB z && (chkE c sc a x && chkE c sc i z)
    | _ => false)
  | sc, .call f es, y => (match y with
    | .Call (.Name x _) xs [] _ => gloB c sc x (.fn f) && chkEs c sc es xs
    | _ => false)
  | sc, .blt b _ es, y => (match y with
    | .Call (.Name x _) (x1 :: xr) [] _ => bltN c sc x (nameB b) && chkEs c sc es (x1 :: xr)
    | _ => false)
  | _, .bad, _ => true
  | _, _, _ => false
end
/-! ### statements -/
def isOrB : Expr → Bool
  | .BoolOp .. => true
  | _ => false
def swB (sc : Scope) (e : Expr) (x : Str) (p : Pos) : Bool := match e with
  | .ListComp _ _ s q => isK sc x .local && ((p.line == q.line) && !(s.names.any fun (n, k) => n == x && (k == .local || k == .cell)))
  | _ => false
def isCompE : Ex → Bool
  | .comp .. => true
  | _ => false
def isFunc (sc : Scope) : Bool := match sc.kind with
  | .function => true
  | _ => false
mutual
def hotB (c : Ck) (sc : Scope) (n : Str) : Ex → Expr → Bool
  | .con v, y => (match v with
    | .ty _ => false
    | v => conB c sc v y)
  | .isE k, y => (match y with
    | .Call (.Name x _) [.Name z _, .Name w _] [] _ => decide (x = ("isinstance" : Str)) && (isK sc ("isinstance" : Str) .globalImplicit && (decide (("isinstance" : Str) ∈ c.free) && (decide (z = n) && (gloB c sc w (.cls k) && (decide (k < c.nc) && (notX z ("__debug__" : Str) && notX z ("__classdict__" : Str)))))))
    | _ => false)
  | .tup es, y => (match y with
    | .Tuple xs _ _ => hotBs c sc n es xs
    | _ => false)
  | .lst _ es, y => (match y with
    | .List xs _ => hotBs c sc n es xs
    | _ => false)
  | _, _ => false
def hotBs (c : Ck) (sc : Scope) (n : Str) : Exs → List Expr → Bool
  | .nil, ys => ys.isEmpty
  | .cons e r, ys => (match ys with
    | y :: ys => noStar y && (hotB c sc n e y && hotBs c sc n r ys)
    | [] => false)
end
def hotSB (c : Ck) (sc : Scope) (n : Str) : Sts → List Stmt → Bool
  | .cons (.ret e) .nil, [.Return (some y) _] => hotB c sc n e y
  | .cons .retN .nil, [.Return none _] => true
  | .cons .pass .nil, [.Pass _] => true
  | _, _ => false
mutual
def chkS (c : Ck) (sc : Scope) : St → Stmt → Bool
  | .set i e, y => (match y with
    | .Assign [.Name x p1] z _ => isAt c.N i x && ((isK sc x .local || isK sc x .cell) && ((notComp z || (isCompE e && (swB sc z x p1 && isFunc sc))) && chkE c sc e z))
    | _ => false)
  | .par i j a b, y => (match y with
    | .Assign [.Tuple [.Name x px, .Name z pz] _ _] (.Tuple [u, v] _ _) _ => isFunc sc && (isAt c.N i x && (isAt c.N j z && (!decide (i = j) && (isK sc x .local && (isK sc z .local && ((pz.line == px.line) && (notX x z && (noStar u && (noStar v &&
        (!([u, v].all (foldedForSure 8)) && (!([u, v].all (constantsAlone 8)) && (chkE c sc a u && chkE c sc b v))))))))))))
    | _ => false)
  | .unp is e, y => (match y with
    | .Assign [.Tuple es _ _] z _ => namesB c sc (fun _ => true) is es && (notComp z && ((match z with
      | .Tuple .. => false
      | _ => true) && chkE c sc e z))
    | _ => false)
  | .seti o i e, y => (match y with
    | .Assign [.Subscript x w _] z _ => notComp z && (plainIxB w && (chkE c sc o x && (chkE c sc i w && chkE c sc e z)))
    | _ => false)
  | .expr e, y => (match y with
    | .Expr z _ => notComp z && chkE c sc e z
    | _ => false)
  | .ret e, y => (match y with
    | .Return (some z) _ => chkE c sc e z
    | _ => false)
  | .retN, y => (match y with
    | .Return none _ => true
    | _ => false)
  | .if_ q a b, y => (match y with
    | .If z u v _ => chkT c sc q z && (chkSs c sc a u && chkSs c sc b v)
    | _ => false)
  | .while_ _ q b, y => (match y with
    | .While z u [] _ => chkT c sc q z && chkSs c sc b u
    | _ => false)
  | .for_ tg it b, y => (match y with
    | .For te z u [] _ => notSet z && (chkI c sc it te z && (tgB c sc (fun _ => true) tg te && chkSs c sc b u))
    | _ => false)
  | .brk, y => (match y with
    | .Break _ => true
    | _ => false)
  | .cont, y => (match y with
    | .Continue _ => true
    | _ => false)
  | .pass, y => (match y with
    | .Pass _ => true
    | _ => false)
  | .raise k es, y => (match y with
    | .Raise (some (.Call (.Name x _) [z] [] _)) none _ => gloB c sc x (.cls k) && (decide (k < c.nc) && (noStar z && chkO c sc es (some z)))
    | _ => false)
  | .try_ b k i s, y => (match i, y with
    | some i, .Try u [.ExceptHandler (some (.Name x _)) (some n) (b₀ :: w) _] [] [] _ => isAt c.N i n && (isK sc n .local && (gloB c sc x (.cls k) && (decide (k < c.nc) && (hotSB c sc n s (b₀ :: w) && chkSs c sc b u))))
    | _, _ => false)
  | .frz _, _ => false
  | .bad, _ => true
def chkSs (c : Ck) (sc : Scope) : Sts → List Stmt → Bool
  | .nil, ys => ys.isEmpty
  | .cons s r, ys => (match s with
    | .frz _ => chkSs c sc r ys
    | s => (match ys with
      | y :: ys => chkS c sc s y && chkSs c sc r ys
      | [] => false))
end
end Mp

set_option Elab.async false
set_option linter.all false
set_option maxRecDepth 100000
set_option maxHeartbeats 1000000
/-! What the Bool tells. -/
namespace Mp
open PySem PySem.Spec PyProof.Rows L2
structure CkOk (Γ : Gb) (k : Nat) (bs : Nat) (G : Gm) (c : Ck) : Prop where
  hg : c.globs = Γ.globs
  hf : c.free = Γ.free
  hn : c.nc = Γ.nc
  O : GbOk Γ
  C : CallsOk Γ k G.call
  hb : G.bs = bs
  hk : ∀ c, Γ.ek c = none
section
variable {Γ : Gb} {k : Nat} {bs : Nat} {G : Gm} {c : Ck}
theorem ba {a b : Bool} (h : (a && b) = true) : a = true ∧ b = true := Bool.and_eq_true_iff.mp h
theorem bnot {a : Bool} (h : (!a) = true) : a = false := by cases a <;> first | rfl | cases h
theorem con_ok (o : CkOk Γ k bs G c) {sc : Scope} {W : WX} {X : Cx} {v : P} {y : Expr} (g : Good0 Γ c.N sc W X) (h : conB c sc v y = true) : ∃ u, PE X y (L2.tC u) ∧ ∀ L H, RpP Γ.N L H v u := by
  cases v with
  | non =>
    cases y with
    | Constant q j p =>
      cases q with
      | none => exact ⟨.non, pe_non, fun _ _ => rfl⟩
      | _ => cases h
    | _ => cases h
  | bl b =>
    cases y with
    | Constant q j p =>
      cases q with
      | bool b' =>
        have h : (b == b') = true := h
        rw [eq_of_beq h]
        exact ⟨.bl b', pe_bl, fun _ _ => rfl⟩
      | _ => cases h
    | _ => cases h
  | int i =>
    cases y with
    | Constant q j p =>
      cases q with
      | int i' =>
        have h : decide (i = i') = true := h
        rw [of_decide_eq_true h]
        exact ⟨.int i', pe_int, fun _ _ => rfl⟩
      | _ => cases h
    | _ => cases h
  | str s =>
    cases y with
    | Constant q j p =>
      cases q with
      | str x =>
        have h : decide (x = ⟨s.toArray⟩) = true := h
        rw [of_decide_eq_true h]
        exact ⟨.str ⟨s.toArray⟩, pe_str, fun _ _ => rfl⟩
      | _ => cases h
    | _ => cases h
  | ty n =>
    cases y with
    | Name x p =>
      obtain ⟨h1, h⟩ := ba (show (isK sc x .globalImplicit && (decide (x ∈ c.free) && ((match bootBuiltins x with
        | some (.type t) => decide (t = n)
        | _ => false) && (notX x ("__name__" : Str) && notX x ("__debug__" : Str))))) = true from h)
      obtain ⟨h2, h⟩ := ba h
      obtain ⟨h3, h⟩ := ba h
      obtain ⟨h4, h5⟩ := ba h
      have hx : x ∈ Γ.free := by rw [← o.hf]; exact of_decide_eq_true h2
      have hG : Gl X x := by show X.env.kindOf x = _; unfold Env.kindOf; rw [g.scope]; exact isK_ok h1
      have hm : X.mg x = none := by rw [g.mg]; exact o.O.fr _ hx
      have hb : bootBuiltins x = some (.type n) := by
        split at h3
        · rename_i t e
          rw [e, of_decide_eq_true h3]
        · cases h3
      have hne : x ≠ "__name__" := fun z => by
        have q := notX_ok h4
        rw [z, beq_self_eq_true] at q
        cases q
      exact ⟨.ty n, pe_bltn hG hm hb rfl hne (notX_ok h5), fun _ _ => rfl⟩
    | _ => cases h
  | _ => cases y <;> cases h
theorem ok_var {sc : Scope} {W : WX} {X : Cx} (g : Good0 Γ c.N sc W X) {i : Nat} {x : Str} {p : Pos} (h : (isAt c.N i x && (isV sc x && (notX x ("__debug__" : Str) && notX x ("__classdict__" : Str)))) = true) : PE X (.Name x p) (tE Γ W bs G (.var i)) := by
  obtain ⟨h1, h⟩ := ba h
  obtain ⟨h2, h⟩ := ba h
  obtain ⟨h3, h4⟩ := ba h
  exact s_var g (of_decide_eq_true h1) (isV_ok h2) (notX_ok h3) (notX_ok h4)
theorem ok_call (o : CkOk Γ k bs G c) {sc : Scope} {W : WX} {X : Cx} (g : Good Γ c.N sc k W X) {f : Nat} {x : Str} {es : Exs} {xs : List Expr} {p0 p : Pos} (h1 : gloB c sc x (.fn f) = true) (h2 : chkEs c sc es xs = true) (h : PA X xs (tA Γ W bs G es) ∧ noStars xs = true) :
    PE X (.Call (.Name x p0) xs [] p) (tE Γ W bs G (.call f es)) := by
  obtain ⟨g1, g2, g3⟩ := gloB_ok h1
  rw [o.hg] at g2
  exact s_call g o.O o.C g1 g2 g3 h.2 (fun e r e1 e2 => by subst e1 e2; cases h2) h.1
theorem ok_blt (o : CkOk Γ k bs G c) {sc : Scope} {W : WX} {X : Cx} (g : Good Γ c.N sc k W X) {b : Blt} {mu : Bool} {x : Str} {es : Exs} {x1 : Expr} {xr : List Expr} {p0 p : Pos} (h1 : bltN c sc x (nameB b) = true) (h : PA X (x1 :: xr) (tA Γ W bs G es) ∧ noStars (x1 :: xr) = true) :
    PE X (.Call (.Name x p0) (x1 :: xr) [] p) (tE Γ W bs G (.blt b mu es)) := by
  obtain ⟨g1, g2, g3⟩ := bltN_ok h1
  subst g1
  rw [o.hf] at g3
  obtain ⟨n1, n2⟩ := ba h.2
  exact s_blt g o.O g2 g3 n1 n2 h.1
theorem len0 {sc : Scope} : ∀ {xs : List Expr}, chkEs c sc .nil xs = true → xs = []
  | [], _ => rfl
  | _ :: _, h => by unfold chkEs at h; cases h
theorem lenS {sc : Scope} {e : Ex} {r : Exs} : ∀ {xs : List Expr}, chkEs c sc (.cons e r) xs = true → ∃ x1 xr, xs = x1 :: xr ∧ chkEs c sc r xr = true
  | [], h => by unfold chkEs at h; cases h
  | x1 :: xr, h => by
    unfold chkEs at h
    exact ⟨x1, xr, rfl, (ba (ba h).2).2⟩
theorem len1 {sc : Scope} {e : Ex} {xs : List Expr} (h : chkEs c sc (.cons e .nil) xs = true) : ∃ x1, xs = [x1] := by
  obtain ⟨x1, xr, rfl, h2⟩ := lenS h
  exact ⟨x1, by rw [len0 h2]⟩
theorem len2 {sc : Scope} {e e2 : Ex} {xs : List Expr} (h : chkEs c sc (.cons e (.cons e2 .nil)) xs = true) : ∃ x1 x2, xs = [x1, x2] := by
  obtain ⟨x1, xr, rfl, h2⟩ := lenS h
  obtain ⟨x2, rfl⟩ := len1 h2
  exact ⟨x1, x2, rfl⟩
mutual
theorem chkE_ok (o : CkOk Γ k bs G c) : ∀ (e : Ex) {sc : Scope} {W : WX} {X : Cx} {y : Expr}, Good Γ c.N sc k W X → chkE c sc e y = true → PE X y (tE Γ W bs G e)
  | .var i, sc, W, X, y, g, h => by
    unfold chkE at h
    split at h
    · exact ok_var g.toGood0 h
    · cases h
  | .con v, sc, W, X, y, g, h => by
    unfold chkE at h
    obtain ⟨u, h1, h2⟩ := con_ok o g.toGood0 h
    exact s_con h1 h2 fun _ _ => by unfold ev; rfl
  | .glo v, sc, W, X, y, g, h => by
    unfold chkE at h
    split at h
    · obtain ⟨g1, g2, g3⟩ := gloB_ok h
      rw [o.hg] at g2
      exact s_glo g.toGood0 o.O g1 g2 g3
    · cases h
  | .bin p a b, sc, W, X, y, g, h => by
    unfold chkE at h
    split at h
    · obtain ⟨h1, h⟩ := ba h
      obtain ⟨h2, h3⟩ := ba h
      exact s_bin g.toGood0 (opBb_ok h1) (chkE_ok o a g h2) (chkE_ok o b g h3)
    · cases h
  | .neg a, sc, W, X, y, g, h => by
    unfold chkE at h
    split at h
    · exact s_neg g.toGood0 (chkE_ok o a g h)
    · cases h
  | .cmp p a b, sc, W, X, y, g, h => by
    unfold chkE at h
    split at h
    · obtain ⟨h1, h⟩ := ba h
      obtain ⟨h2, h⟩ := ba h
      obtain ⟨h3, h4⟩ := ba h
      exact s_cmp g.toGood0 (opCb_ok h1) (chkE_ok o a g h2) (chkE_ok o b g h3) (bnot h4)
    · cases h
  | .chain p q a b d, sc, W, X, y, g, h => by
    unfold chkE at h
    split at h
    · obtain ⟨h1, h⟩ := ba h
      obtain ⟨h2, h⟩ := ba h
      obtain ⟨h3, h⟩ := ba h
      obtain ⟨h4, h⟩ := ba h
      obtain ⟨h5, h6⟩ := ba h
      exact s_chain g.toGood0 (opCb_ok h1) (opCb_ok h2) (chkE_ok o a g h3) (chkE_ok o b g h4) (chkE_ok o d g h5) (bnot h6)
    · cases h
  | .and_ a b, sc, W, X, y, g, h => by
    unfold chkE at h
    split at h
    · rename_i x z r p
      obtain ⟨h1, h2⟩ := ba h
      refine s_and g.toGood0 (chkE_ok o a g h1) ?_
      cases r with
      | nil => exact pe_one (chkE_ok o b g h2)
      | cons u r => exact chkE_ok o b g h2
    · cases h
  | .or_ a b, sc, W, X, y, g, h => by
    unfold chkE at h
    split at h
    · rename_i x z r p
      obtain ⟨h1, h2⟩ := ba h
      refine s_or g.toGood0 (chkE_ok o a g h1) ?_
      cases r with
      | nil => exact pe_one (chkE_ok o b g h2)
      | cons u r => exact chkE_ok o b g h2
    · cases h
  | .not_ a, sc, W, X, y, g, h => by
    unfold chkE at h
    split at h
    · exact s_not g.toGood0 (chkE_ok o a g h)
    · cases h
  | .ite q a b, sc, W, X, y, g, h => by
    unfold chkE at h
    split at h
    · obtain ⟨h1, h⟩ := ba h
      obtain ⟨h2, h3⟩ := ba h
      exact s_ite g.toGood0 (chkT_ok o q g h1).1 (chkE_ok o a g h2) (chkE_ok o b g h3)
    · cases h
  | .tup es, sc, W, X, y, g, h => by
    unfold chkE at h
    split at h
    · exact s_tup g.toGood0 (chkEs_ok o es g h).1
    · cases h
  | .lst m es, sc, W, X, y, g, h => by
    unfold chkE at h
    split at h
    · exact s_lst g.toGood0 (chkEs_ok o es g h).1
    · cases h
  | .idx a i, sc, W, X, y, g, h => by
    unfold chkE at h
    split at h
    · obtain ⟨h1, h⟩ := ba h
      obtain ⟨h2, h3⟩ := ba h
      exact s_idx g.toGood0 (chkE_ok o a g h2) (chkE_ok o i g h3) h1
    · cases h
  | .slc m a lo hi, sc, W, X, y, g, h => by
    unfold chkE at h
    split at h
    · obtain ⟨h1, h⟩ := ba h
      obtain ⟨h2, h3⟩ := ba h
      exact s_slc g.toGood0 (chkE_ok o a g h1) (chkO_ok o lo g h2) (chkO_ok o hi g h3)
    · cases h
  | .call f es, sc, W, X, y, g, h => by
    unfold chkE at h
    split at h
    · obtain ⟨h1, h2⟩ := ba h
      exact ok_call o g h1 h2 (chkEs_ok o es g h2)
    · cases h
  | .callv e es, sc, W, X, y, g, h => by
    unfold chkE at h
    split at h
    · obtain ⟨h1, h⟩ := ba h
      obtain ⟨h2, h3⟩ := ba h
      have q := chkEs_ok o es g h3
      exact s_callv g o.O o.C h1 q.2 (fun e r e1 e2 => by subst e1 e2; cases h3) (chkE_ok o e g h2) q.1
    · cases h
  | .blt b m es, sc, W, X, y, g, h => by
    unfold chkE at h
    split at h
    · obtain ⟨h1, h2⟩ := ba h
      exact ok_blt o g h1 (chkEs_ok o es g h2)
    · cases h
  | .meth t m r es, sc, W, X, y, g, h => by
    unfold chkE at h
    split at h
    · obtain ⟨h1, h⟩ := ba h
      obtain ⟨h2, h⟩ := ba h
      obtain ⟨h3, h⟩ := ba h
      obtain ⟨h4, h5⟩ := ba h
      have q := chkEs_ok o es g h4
      have qr := chkE_ok o r g h3
      split at h5
      · obtain ⟨x1, rfl⟩ := len1 h4
        have h5 := of_decide_eq_true h5
        subst h5
        exact s_append g.toGood0 o.hb qr q.1 h1 (ba q.2).1 h2
      · have z := len0 h4
        subst z
        have h5 := of_decide_eq_true h5
        subst h5
        exact s_pop g.toGood0 o.hb qr h1 h2
      · obtain ⟨x1, rfl⟩ := len1 h4
        have h5 := of_decide_eq_true h5
        subst h5
        exact s_popAt g.toGood0 o.hb qr q.1 h1 (ba q.2).1 h2
      · cases h5
    · cases h
  | .comp m vs tg it cond elt, sc, W, X, y, g, h => by
    unfold chkE at h
    split at h
    · obtain ⟨h1, h⟩ := ba h
      obtain ⟨h2, h⟩ := ba h
      obtain ⟨h3, h⟩ := ba h
      obtain ⟨h4, h⟩ := ba h
      obtain ⟨h5, h⟩ := ba h
      obtain ⟨h6, h7⟩ := ba h
      exact s_comp g ownOf_snd (fun j hj => of_decide_eq_true (List.all_eq_true.mp h2 j hj)) (chkI_ok o it g h4) (blkOk_by h1)
        (fun X' g' hfn => tgB_ok g' (fun x hx => hfn x (isK_ok hx)) h5) (fun X' g' => chkC_ok o cond g' h6) (fun X' g' => chkE_ok o elt g' h7) (fold_of h3)
    · cases h
  | .isE _, sc, W, X, y, g, h => by unfold chkE at h; cases h
  | .fldE _, sc, W, X, y, g, h => by unfold chkE at h; cases h
  | .fstr _, sc, W, X, y, g, h => by unfold chkE at h; cases h
  | .bad, sc, W, X, y, g, h => s_bad
theorem chkEs_ok (o : CkOk Γ k bs G c) : ∀ (es : Exs) {sc : Scope} {W : WX} {X : Cx} {ys : List Expr}, Good Γ c.N sc k W X → chkEs c sc es ys = true → PA X ys (tA Γ W bs G es) ∧ noStars ys = true
  | .nil, sc, W, X, ys, g, h => by
    unfold chkEs at h
    cases ys with
    | nil => exact ⟨a_nil, rfl⟩
    | cons y ys => cases h
  | .cons e r, sc, W, X, ys, g, h => by
    unfold chkEs at h
    split at h
    · obtain ⟨h1, h⟩ := ba h
      obtain ⟨h2, h3⟩ := ba h
      obtain ⟨q1, q2⟩ := chkEs_ok o r g h3
      exact ⟨a_cons h1 (chkE_ok o e g h2) q1, Bool.and_eq_true_iff.mpr ⟨h1, q2⟩⟩
    · cases h
theorem chkO_ok (o : CkOk Γ k bs G c) : ∀ (es : Exs) {sc : Scope} {W : WX} {X : Cx} {y : Option Expr}, Good Γ c.N sc k W X → chkO c sc es y = true → PO X y (tP Γ W bs G es)
  | .nil, sc, W, X, y, g, h => by
    unfold chkO at h
    cases y with
    | none => exact p_none
    | some y => cases h
  | .cons e r, sc, W, X, y, g, h => by
    unfold chkO at h
    split at h
    · obtain ⟨h1, h2⟩ := ba h
      split at h2
      · exact p_some (chkE_ok o e g h1)
      · cases h2
    · cases h
theorem chkC_ok (o : CkOk Γ k bs G c) : ∀ (es : Exs) {sc : Scope} {W : WX} {X : Cx} {ys : List Expr}, Good Γ c.N sc k W X → chkC c sc es ys = true → PTs X ys (tC Γ W bs G es)
  | .nil, sc, W, X, ys, g, h => by
    unfold chkC at h
    cases ys with
    | nil =>
      refine ⟨fun pins s σ H Q I ⟨Z, m, ρ, h, hb, R, p⟩ => pts_nil.run pins s σ H Q I ?_⟩
      have p : PostX Γ W bs Z m h H σ rB (evC G ρ .nil h) Q := p
      unfold evC at p
      exact post_ok R p rfl
    | cons y ys => cases h
  | .cons e r, sc, W, X, ys, g, h => by
    unfold chkC at h
    split at h
    · have q := (chkT_ok o e g h).1
      refine ⟨fun pins s σ H Q I ⟨Z, m, ρ, h, hb, R, p⟩ => (pts_one q).run pins s σ H Q I ⟨Z, m, ρ, h, hb, R, ?_⟩⟩
      have p : PostX Γ W bs Z m h H σ rB (evC G ρ (.cons e r) h) Q := p
      unfold evC at p
      exact p
    · cases h
theorem chkI_ok (o : CkOk Γ k bs G c) : ∀ (e : It) {sc : Scope} {W : WX} {X : Cx} {te y : Expr}, Good Γ c.N sc k W X → chkI c sc e te y = true → PI X te y (tI Γ W bs G e)
  | .seq e, sc, W, X, te, y, g, h => by
    unfold chkI at h
    exact i_seq g (chkE_ok o e g h)
  | .rng es, sc, W, X, te, y, g, h => by
    unfold chkI at h
    split at h
    · obtain ⟨h1, h⟩ := ba h
      obtain ⟨h2, h3⟩ := ba h
      obtain ⟨g1, g2, g3⟩ := bltN_ok h1
      subst g1
      rw [o.hf] at g3
      have q := chkEs_ok o es g h2
      split at h3
      · obtain ⟨x1, rfl⟩ := len1 h2
        exact i_rng1 g o.O g2 g3 (ba q.2).1 q.1
      · obtain ⟨x1, x2, rfl⟩ := len2 h2
        exact i_rng2 g o.O g2 g3 (ba q.2).1 (ba (ba q.2).2).1 q.1
      · cases h3
    · cases h
  | .zip a b, sc, W, X, te, y, g, h => by
    unfold chkI at h
    split at h
    · obtain ⟨h1, h⟩ := ba h
      obtain ⟨h2, h⟩ := ba h
      obtain ⟨h3, h⟩ := ba h
      obtain ⟨h4, h5⟩ := ba h
      obtain ⟨g1, g2, g3⟩ := bltN_ok h1
      subst g1
      rw [o.hf] at g3
      exact i_zip g o.O g2 g3 h2 h3 (a_cons h2 (chkE_ok o a g h4) (a_cons h3 (chkE_ok o b g h5) a_nil))
    · cases h
  | .enum a, sc, W, X, te, y, g, h => by unfold chkI at h; cases h
theorem chkT_ok (o : CkOk Γ k bs G c) : ∀ (e : Ex) {sc : Scope} {W : WX} {X : Cx} {y : Expr}, Good Γ c.N sc k W X → chkT c sc e y = true → PT X y (tT Γ W bs G e) ∧ (isOrB y = true → PW X y (tT Γ W bs G e))
  | .and_ a b, sc, W, X, y, g, h => by
    unfold chkT at h
    split at h
    · rename_i x z r p
      obtain ⟨h1, h2⟩ := ba h
      have hr : PW X (.BoolOp .And (z :: r) p) (tT Γ W bs G b) := by
        cases r with
        | nil => exact pw_and1 (chkT_ok o b g h2).1
        | cons u r => exact (chkT_ok o b g h2).2 rfl
      have q := t_and g.toGood0 (chkT_ok o a g h1).1 hr
      exact ⟨q.pt, fun _ => q⟩
    · cases h
  | .or_ a b, sc, W, X, y, g, h => by
    unfold chkT at h
    split at h
    · rename_i x z r p
      obtain ⟨h1, h2⟩ := ba h
      have hr : PW X (.BoolOp .Or (z :: r) p) (tT Γ W bs G b) := by
        cases r with
        | nil => exact pw_or1 (chkT_ok o b g h2).1
        | cons u r => exact (chkT_ok o b g h2).2 rfl
      have q := t_or g.toGood0 (chkT_ok o a g h1).1 hr
      exact ⟨q.pt, fun _ => q⟩
    · cases h
  | .not_ a, sc, W, X, y, g, h => by
    unfold chkT at h
    split at h
    · exact ⟨t_not g.toGood0 (chkT_ok o a g h).1, fun z => by cases z⟩
    · cases h
  | .cmp p a b, sc, W, X, y, g, h => by
    unfold chkT at h
    split at h
    · obtain ⟨h1, h⟩ := ba h
      obtain ⟨h2, h⟩ := ba h
      obtain ⟨h3, h4⟩ := ba h
      exact ⟨t_cmp g.toGood0 (opCb_ok h1) (chkE_ok o a g h2) (chkE_ok o b g h3) (bnot h4), fun z => by cases z⟩
    · cases h
  | .var i, sc, W, X, y, g, h => by
    unfold chkT at h
    split at h
    · exact ⟨t_tru g.toGood0 (ok_var g.toGood0 h) (plainT_ok rfl) fun _ _ => by unfold evT; rfl, fun z => by cases z⟩
    · cases h
  | .idx a i, sc, W, X, y, g, h => by
    unfold chkT at h
    split at h
    · obtain ⟨h1, h⟩ := ba h
      obtain ⟨h2, h3⟩ := ba h
      exact ⟨t_tru g.toGood0 (s_idx g.toGood0 (chkE_ok o a g h2) (chkE_ok o i g h3) h1) (plainT_ok rfl) fun _ _ => by unfold evT; rfl, fun z => by cases z⟩
    · cases h
  | .call f es, sc, W, X, y, g, h => by
    unfold chkT at h
    split at h
    · obtain ⟨h1, h2⟩ := ba h
      exact ⟨t_tru g.toGood0 (ok_call o g h1 h2 (chkEs_ok o es g h2)) (plainT_ok rfl) fun _ _ => by unfold evT; rfl, fun z => by cases z⟩
    · cases h
  | .blt b m es, sc, W, X, y, g, h => by
    unfold chkT at h
    split at h
    · obtain ⟨h1, h2⟩ := ba h
      exact ⟨t_tru g.toGood0 (ok_blt o g h1 (chkEs_ok o es g h2)) (plainT_ok rfl) fun _ _ => by unfold evT; rfl, fun z => by cases z⟩
    · cases h
  | .bad, sc, W, X, y, g, h => by
    have st : ∀ (σ : L2.St) (H : Hp) (Q : Bool → Hp → Prop), ¬ tT Γ W bs G .bad σ H Q := fun σ H Q ⟨Z, m, ρ, h, hb, R, p⟩ => by
      have p : PostX Γ W bs Z m h H σ rB (evT G ρ .bad h) Q := p
      unfold evT ev at p
      exact p
    exact ⟨⟨fun pins s σ H Q I z => (st _ _ _ z).elim⟩, fun _ => ⟨fun wh pins s σ H Q I z => (st _ _ _ z).elim⟩⟩
  | .con _, sc, W, X, y, g, h => by unfold chkT at h; cases h
  | .glo _, sc, W, X, y, g, h => by unfold chkT at h; cases h
  | .bin .., sc, W, X, y, g, h => by unfold chkT at h; cases h
  | .neg _, sc, W, X, y, g, h => by unfold chkT at h; cases h
  | .chain .., sc, W, X, y, g, h => by unfold chkT at h; cases h
  | .ite .., sc, W, X, y, g, h => by unfold chkT at h; cases h
  | .tup _, sc, W, X, y, g, h => by unfold chkT at h; cases h
  | .lst .., sc, W, X, y, g, h => by unfold chkT at h; cases h
  | .slc .., sc, W, X, y, g, h => by unfold chkT at h; cases h
  | .callv .., sc, W, X, y, g, h => by unfold chkT at h; cases h
  | .meth .., sc, W, X, y, g, h => by unfold chkT at h; cases h
  | .comp .., sc, W, X, y, g, h => by unfold chkT at h; cases h
  | .isE _, sc, W, X, y, g, h => by unfold chkT at h; cases h
  | .fldE _, sc, W, X, y, g, h => by unfold chkT at h; cases h
  | .fstr _, sc, W, X, y, g, h => by unfold chkT at h; cases h
end
end
end Mp

set_option Elab.async false
set_option linter.all false
set_option maxRecDepth 100000
set_option maxHeartbeats 1000000
/-! .. statements, defs. -/
namespace Mp
open PySem PySem.Spec PyProof.Rows L2
section
variable {Γ : Gb} {k : Nat} {bs : Nat} {G : Gm} {c : Ck}
theorem con_hot (o : CkOk Γ k bs G c) {sc : Scope} {v : P} {y : Expr} {X : Cx} (nt : ∀ n, v ≠ .ty n) (h : conB c sc v y = true) : ∃ u, PE X y (L2.tC u) ∧ ∀ L H, RpP Γ.N L H v u := by
  cases v with
  | non =>
    cases y with
    | Constant q j p =>
      cases q with
      | none => exact ⟨.non, pe_non, fun _ _ => rfl⟩
      | _ => cases h
    | _ => cases h
  | bl b =>
    cases y with
    | Constant q j p =>
      cases q with
      | bool b' =>
        have h : (b == b') = true := h
        rw [eq_of_beq h]
        exact ⟨.bl b', pe_bl, fun _ _ => rfl⟩
      | _ => cases h
    | _ => cases h
  | int i =>
    cases y with
    | Constant q j p =>
      cases q with
      | int i' =>
        have h : decide (i = i') = true := h
        rw [of_decide_eq_true h]
        exact ⟨.int i', pe_int, fun _ _ => rfl⟩
      | _ => cases h
    | _ => cases h
  | str s =>
    cases y with
    | Constant q j p =>
      cases q with
      | str x =>
        have h : decide (x = ⟨s.toArray⟩) = true := h
        rw [of_decide_eq_true h]
        exact ⟨.str ⟨s.toArray⟩, pe_str, fun _ _ => rfl⟩
      | _ => cases h
    | _ => cases h
  | ty n => exact absurd rfl (nt n)
  | _ => cases y <;> cases h
section
variable {sc : Scope} {W : WX} {X : Cx} {i : Nat} {n : Str} {a : Addr} {oe : Obj} {cls : Value} {d : Option Addr} {pn : List (Addr × Obj)}
mutual
theorem hotB_ok (o : CkOk Γ k bs G c) (C : Hot Γ c.N sc k W X i n a oe cls d) : ∀ (e : Ex) {y : Expr}, hotB c sc n e y = true → PE (X.suite a ((a, oe) :: pn)) y (tHe Γ i e a cls d)
  | .con v, y, h => by
    unfold hotB at h
    split at h
    · cases h
    · rename_i nt
      obtain ⟨u, h1, h2⟩ := con_hot o (fun n z => nt n z) h
      exact h_con h1 h2
  | .isE q, y, h => by
    unfold hotB at h
    split at h
    · obtain ⟨h1, h⟩ := ba h
      obtain ⟨h2, h⟩ := ba h
      obtain ⟨h3, h⟩ := ba h
      obtain ⟨h4, h⟩ := ba h
      obtain ⟨h5, h⟩ := ba h
      obtain ⟨h6, h⟩ := ba h
      obtain ⟨h7, h8⟩ := ba h
      have e1 := of_decide_eq_true h1
      have e4 := of_decide_eq_true h4
      subst e1 e4
      obtain ⟨g1, g2, g3⟩ := gloB_ok h5
      rw [o.hg] at g2
      have g6 := of_decide_eq_true h6
      rw [o.hn] at g6
      have g3' := of_decide_eq_true h3
      rw [o.hf] at g3'
      exact h_isE C o.O o.hk (isK_ok h2) g3' g1 g2 g6 g3 (notX_ok h7) (notX_ok h8)
    · cases h
  | .tup es, y, h => by
    unfold hotB at h
    split at h
    · exact h_tup (hotBs_ok o C es h)
    · cases h
  | .lst m es, y, h => by
    unfold hotB at h
    split at h
    · exact h_lst (hotBs_ok o C es h)
    · cases h
  | .var _, y, h => by unfold hotB at h; cases h
  | .glo _, y, h => by unfold hotB at h; cases h
  | .bin .., y, h => by unfold hotB at h; cases h
  | .neg _, y, h => by unfold hotB at h; cases h
  | .cmp .., y, h => by unfold hotB at h; cases h
  | .chain .., y, h => by unfold hotB at h; cases h
  | .and_ .., y, h => by unfold hotB at h; cases h
  | .or_ .., y, h => by unfold hotB at h; cases h
  | .not_ _, y, h => by unfold hotB at h; cases h
  | .ite .., y, h => by unfold hotB at h; cases h
  | .idx .., y, h => by unfold hotB at h; cases h
  | .slc .., y, h => by unfold hotB at h; cases h
  | .call .., y, h => by unfold hotB at h; cases h
  | .callv .., y, h => by unfold hotB at h; cases h
  | .blt .., y, h => by unfold hotB at h; cases h
  | .meth .., y, h => by unfold hotB at h; cases h
  | .comp .., y, h => by unfold hotB at h; cases h
  | .fldE _, y, h => by unfold hotB at h; cases h
  | .fstr _, y, h => by unfold hotB at h; cases h
  | .bad, y, h => by unfold hotB at h; cases h
theorem hotBs_ok (o : CkOk Γ k bs G c) (C : Hot Γ c.N sc k W X i n a oe cls d) : ∀ (es : Exs) {ys : List Expr}, hotBs c sc n es ys = true → PA (X.suite a ((a, oe) :: pn)) ys (tHa Γ i es a cls d)
  | .nil, ys, h => by
    unfold hotBs at h
    cases ys with
    | nil => exact h_nil
    | cons y ys => cases h
  | .cons e r, ys, h => by
    unfold hotBs at h
    split at h
    · obtain ⟨h1, h⟩ := ba h
      obtain ⟨h2, h3⟩ := ba h
      exact h_cons h1 (hotB_ok o C e h2) (hotBs_ok o C r h3)
    · cases h
end
theorem hotSB_ok (o : CkOk Γ k bs G c) (C : Hot Γ c.N sc k W X i n a oe cls d) {s : Sts} {ys : List Stmt} (h : hotSB c sc n s ys = true) : PSs (X.suite a ((a, oe) :: pn)) ys (tHs Γ i s a cls d) := by
  unfold hotSB at h
  split at h
  · exact hs_ret (hotB_ok o C _ h)
  · exact hs_retN
  · exact hs_pass
  · cases h
end
theorem swB_ok {sc : Scope} {e : Expr} {x : Str} {p q : Pos} {env : Env} (hs : env.scope = sc) (hk : isFunc sc = true) (h : swB sc e x p = true) : swapsWith e (some (.Name x p)) q.line env = pure true := by
  unfold swB at h
  split at h
  · rename_i z gs s r
    obtain ⟨h1, h⟩ := ba h
    obtain ⟨h2, h3⟩ := ba h
    have e1 : env.blockKind = .function := by
      unfold Env.blockKind
      rw [hs]
      unfold isFunc at hk
      split at hk
      · rename_i e; rw [e] <;> rfl
      · cases hk
    have e2 : env.kindOf x = some .local := by unfold Env.kindOf; rw [hs]; exact isK_ok h1
    show (pure (env.blockKind == .function && env.kindOf x == some .local && p.line == r.line && !(s.names.any fun (n, k) => n == x && (k == .local || k == .cell))) : Sem Bool) = pure true
    rw [e1, e2, h2, h3] <;> rfl
  · cases h
theorem sole_not {e : Expr} {env : Env} (h : (match e with
  | .Tuple .. => false
  | _ => true) = true) {es : List Expr} {q : Nat} {p1 : Pos} : swappedStores [.Tuple es q p1] e env = pure none := by
  cases e <;> first | rfl | cases h
theorem isFunc_ok {sc : Scope} (h : isFunc sc = true) : sc.kind = .function := by
  unfold isFunc at h
  split at h
  · rename_i e; exact e
  · cases h
theorem loc_or {sc : Scope} {x : Str} (h : (isK sc x .local || isK sc x .cell) = true) : sc.names.lookup x = some .local ∨ sc.names.lookup x = some .cell :=
  (Bool.or_eq_true_iff.mp h).imp isK_ok isK_ok
theorem setc_ok (o : CkOk Γ k bs G c) {e : Ex} {sc : Scope} {W : WX} {X : Cx} {i : Nat} {x : Str} {z : Expr} {p1 p2 : Pos} (g : GoodS Γ c.N sc k W X) (hN : c.N[i]? = some x) (h1 : isCompE e = true) (h2 : swB sc z x p1 = true) (h3 : isFunc sc = true) (h4 : chkE c sc e z = true) :
    PS X (.Assign [.Name x p1] z p2) (tS Γ W bs G (.set i e)) := by
  cases e with
  | comp m vs tg it cond elt =>
    unfold chkE at h4
    split at h4
    · obtain ⟨h6, h⟩ := ba h4
      obtain ⟨h7, h⟩ := ba h
      obtain ⟨h8, h⟩ := ba h
      obtain ⟨h9, h⟩ := ba h
      obtain ⟨h10, h⟩ := ba h
      obtain ⟨h11, h12⟩ := ba h
      have hl : sc.names.lookup x = some .local := by
        unfold swB at h2
        exact isK_ok (ba h2).1
      exact st_setc g hN hl (swB_ok g.scope h3 h2) ownOf_snd (fun j hj => of_decide_eq_true (List.all_eq_true.mp h7 j hj)) (chkI_ok o it g.toGood h9) (blkOk_by h6)
        (fun X' g' hfn => tgB_ok g' (fun x hx => hfn x (isK_ok hx)) h10) (fun X' g' => chkC_ok o cond g' h11) (fun X' g' => chkE_ok o elt g' h12) (fold_of h8)
    · cases h4
  | _ => cases h1
theorem raise_ok (o : CkOk Γ k bs G c) {es : Exs} {sc : Scope} {W : WX} {X : Cx} {q : Nat} {x : Str} {z : Expr} {p0 p1 p2 : Pos} (g : GoodS Γ c.N sc k W X) (h1 : sc.names.lookup x = some .globalImplicit) (h2 : Γ.globs.lookup x = some (.cls q)) (h3 : (x == ("__debug__" : Str)) = false) (h4 : q < Γ.nc) (h5 : noStar z = true)
    (h6 : chkO c sc es (some z) = true) : PS X (.Raise (some (.Call (.Name x p0) [z] [] p1)) none p2) (tS Γ W bs G (.raise q es)) := by
  cases es with
  | nil => unfold chkO at h6; cases h6
  | cons e r =>
    unfold chkO at h6
    obtain ⟨h7, h8⟩ := ba h6
    cases r with
    | nil => exact st_raise g o.O h1 h2 h3 h4 (o.hk q) h5 (chkE_ok o e g.toGood h7)
    | cons _ _ => cases h8
mutual
theorem chkS_ok (o : CkOk Γ k bs G c) : ∀ (s : St) {sc : Scope} {W : WX} {X : Cx} {y : Stmt}, GoodS Γ c.N sc k W X → chkS c sc s y = true → PS X y (tS Γ W bs G s)
  | .set i e, sc, W, X, y, g, h => by
    unfold chkS at h
    split at h
    · rename_i x p1 z p2
      obtain ⟨h1, h⟩ := ba h
      obtain ⟨h2, h⟩ := ba h
      obtain ⟨h3, h4⟩ := ba h
      rcases Bool.or_eq_true_iff.mp h3 with h3 | h3
      · exact st_set g (of_decide_eq_true h1) (loc_or h2) (swaps_no h3) (chkE_ok o e g.toGood h4)
      · obtain ⟨h3, h⟩ := ba h3
        obtain ⟨h5, h6⟩ := ba h
        exact setc_ok o g (of_decide_eq_true h1) h3 h5 h6 h4
    · cases h
  | .par i j a b, sc, W, X, y, g, h => by
    unfold chkS at h
    split at h
    · obtain ⟨h1, h⟩ := ba h
      obtain ⟨h2, h⟩ := ba h
      obtain ⟨h3, h⟩ := ba h
      obtain ⟨h4, h⟩ := ba h
      obtain ⟨h5, h⟩ := ba h
      obtain ⟨h6, h⟩ := ba h
      obtain ⟨h7, h⟩ := ba h
      obtain ⟨h8, h⟩ := ba h
      obtain ⟨h9, h⟩ := ba h
      obtain ⟨h10, h⟩ := ba h
      obtain ⟨h11, h⟩ := ba h
      obtain ⟨h12, h⟩ := ba h
      obtain ⟨h13, h14⟩ := ba h
      exact st_par g (isFunc_ok h1) (of_decide_eq_true h2) (of_decide_eq_true h3) (of_decide_eq_false (bnot h4)) (isK_ok h5) (isK_ok h6) h7 (notX_ok h8) h9 h10 (bnot h11) (bnot h12)
        (a_cons h9 (chkE_ok o a g.toGood h13) (a_cons h10 (chkE_ok o b g.toGood h14) a_nil))
    · cases h
  | .unp is e, sc, W, X, y, g, h => by
    unfold chkS at h
    split at h
    · obtain ⟨h1, h⟩ := ba h
      obtain ⟨h2, h⟩ := ba h
      obtain ⟨h3, h4⟩ := ba h
      exact st_unp g (namesB_ok (cl := fun _ => true) (fun x _ => g.fnT x) h1) h2 (sole_not h3) (chkE_ok o e g.toGood h4)
    · cases h
  | .seti r i e, sc, W, X, y, g, h => by
    unfold chkS at h
    split at h
    · obtain ⟨h1, h⟩ := ba h
      obtain ⟨h2, h⟩ := ba h
      obtain ⟨h3, h⟩ := ba h
      obtain ⟨h4, h5⟩ := ba h
      exact st_seti g o.hb h1 h2 (chkE_ok o r g.toGood h3) (chkE_ok o i g.toGood h4) (chkE_ok o e g.toGood h5)
    · cases h
  | .expr e, sc, W, X, y, g, h => by
    unfold chkS at h
    split at h
    · obtain ⟨h1, h2⟩ := ba h
      exact st_expr g h1 (chkE_ok o e g.toGood h2)
    · cases h
  | .ret e, sc, W, X, y, g, h => by
    unfold chkS at h
    split at h
    · exact st_ret g (chkE_ok o e g.toGood h)
    · cases h
  | .retN, sc, W, X, y, g, h => by
    unfold chkS at h
    split at h
    · exact st_retN
    · cases h
  | .if_ q a b, sc, W, X, y, g, h => by
    unfold chkS at h
    split at h
    · obtain ⟨h1, h⟩ := ba h
      obtain ⟨h2, h3⟩ := ba h
      exact st_if g (chkT_ok o q g.toGood h1).1 (chkSs_ok o a g h2) (chkSs_ok o b g h3)
    · cases h
  | .while_ n q b, sc, W, X, y, g, h => by
    unfold chkS at h
    split at h
    · obtain ⟨h1, h2⟩ := ba h
      exact st_while g (chkT_ok o q g.toGood h1).1 (chkSs_ok o b g h2)
    · cases h
  | .for_ tg it b, sc, W, X, y, g, h => by
    unfold chkS at h
    split at h
    · obtain ⟨h1, h⟩ := ba h
      obtain ⟨h2, h⟩ := ba h
      obtain ⟨h3, h4⟩ := ba h
      exact st_for g (chkI_ok o it g.toGood h2) (tgB_ok g.toGood (cl := fun _ => true) (fun x _ => g.fnT x) h3) (chkSs_ok o b g h4) (fold_of h1)
    · cases h
  | .brk, sc, W, X, y, g, h => by
    unfold chkS at h
    split at h
    · exact st_brk
    · cases h
  | .cont, sc, W, X, y, g, h => by
    unfold chkS at h
    split at h
    · exact st_cont
    · cases h
  | .pass, sc, W, X, y, g, h => by
    unfold chkS at h
    split at h
    · exact st_pass
    · cases h
  | .raise q es, sc, W, X, y, g, h => by
    unfold chkS at h
    split at h
    · obtain ⟨h1, h⟩ := ba h
      obtain ⟨h2, h⟩ := ba h
      obtain ⟨h3, h4⟩ := ba h
      obtain ⟨g1, g2, g3⟩ := gloB_ok h1
      rw [o.hg] at g2
      have g4 := of_decide_eq_true h2
      rw [o.hn] at g4
      exact raise_ok o g g1 g2 g3 g4 h3 h4
    · cases h
  | .try_ b q i s, sc, W, X, y, g, h => by
    unfold chkS at h
    split at h
    · obtain ⟨h1, h⟩ := ba h
      obtain ⟨h2, h⟩ := ba h
      obtain ⟨h3, h⟩ := ba h
      obtain ⟨h4, h⟩ := ba h
      obtain ⟨h5, h6⟩ := ba h
      obtain ⟨g1, g2, g3⟩ := gloB_ok h3
      rw [o.hg] at g2
      have g4 := of_decide_eq_true h4
      rw [o.hn] at g4
      exact st_try g o.O (of_decide_eq_true h1) (isK_ok h2) g1 g2 g4 g3 (fun W' X' g' => chkSs_ok o b g' h6) (fun a oe cls d pn C => hotSB_ok o C h5)
    · cases h
  | .frz _, sc, W, X, y, g, h => by unfold chkS at h; cases h
  | .bad, sc, W, X, y, g, h => st_bad
theorem chkSs_ok (o : CkOk Γ k bs G c) : ∀ (s : Sts) {sc : Scope} {W : WX} {X : Cx} {ys : List Stmt}, GoodS Γ c.N sc k W X → chkSs c sc s ys = true → PSs X ys (tSs Γ W bs G s)
  | .nil, sc, W, X, ys, g, h => by
    unfold chkSs at h
    cases ys with
    | nil => exact st_nil
    | cons y ys => cases h
  | .cons s r, sc, W, X, ys, g, h => by
    unfold chkSs at h
    split at h
    · exact st_frz (chkSs_ok o r g h)
    · split at h
      · obtain ⟨h1, h2⟩ := ba h
        exact st_cons (chkS_ok o s g h1) (chkSs_ok o r g h2)
      · cases h
end
end
end Mp

set_option Elab.async false
set_option linter.all false
set_option maxRecDepth 100000
set_option maxHeartbeats 1000000
/-! The defs of a program, each alike with one of ours: what callN says, they do. -/
namespace Mp
open PySem PySem.Spec PyProof.Rows L2
structure DefOk (Γ : Gb) (i : Nat) (fd : Fd) : Prop where
  ex : ∃ (x qual : Str) (params : Arguments) (body : List Stmt) (scope : Scope) (N ps : List Str) (fdat : FuncData), FunD Γ.N.K x qual params body scope [] [] (Γ.N.fa i) fdat ∧ FnScope N ps scope ∧ ps.length = fd.np ∧ N.length = fd.ns ∧
    Binds Γ.N.K fdat ps [] ∧ chkSs ⟨N, Γ.globs, Γ.free, Γ.nc⟩ scope fd.body body = true
section
variable {Γ : Gb} {T : List Fd}
theorem start_rel {N : List Str} {Z : Addr → Prop} {m : Nat → Addr} {h : Hea} {H : Hp} {fd : Fd} {ds : List D} {vs : List V} (S : StOk Γ.N Z m h H) (r : RpDs Γ.N m h.length (LZ Z m h) H ds vs) (hl : ds.length = fd.np) (hN : N.length = fd.ns) : Rel Γ.N Z m h H (L2.start N vs) (startS fd ds) := by
  have e := RpDs.length r
  refine ⟨S, ?_, fun i d q => ?_⟩
  · unfold startS L2.start
    rw [List.length_append, List.length_append, List.length_map, List.length_map, List.length_replicate, List.length_replicate, ← e, hl, hN]
  · unfold startS at q
    unfold L2.start
    by_cases c : i < ds.length
    · rw [List.getElem?_append_left (by rw [List.length_map]; exact c), List.getElem?_map] at q
      cases z : ds[i]? with
      | none => rw [z] at q; cases q
      | some d' =>
        rw [z] at q
        cases q
        obtain ⟨v, e1, e2⟩ := RpDs.get r z
        exact ⟨v, by rw [List.getElem?_append_left (by rw [List.length_map, ← e]; exact c), List.getElem?_map, e1]; rfl, e2⟩
    · rw [List.getElem?_append_right (by rw [List.length_map]; omega)] at q
      have z := List.mem_of_getElem? q
      exact absurd (List.eq_of_mem_replicate z) (fun z => by cases z)
theorem ExcR.take {Z : Addr → Prop} {m : Nat → Addr} {h : Hea} {H : Hp} {b c : Nat} {fs : List P} {d : Option Addr} (t : ∀ x v, RpP Γ.N (LZ Z m h) H x v → RpP Γ.N (LZ Z m (h.take b)) H x v) (r : ExcR Γ Z m h H c fs d) : ExcR Γ Z m (h.take b) H c fs d := by
  obtain ⟨r1, r2⟩ := r
  refine ⟨r1, ?_⟩
  cases q : Γ.ek c with
  | none => rw [q] at r2; exact r2
  | some names =>
    rw [q] at r2
    obtain ⟨dd, fv, e1, e2, e3⟩ := r2
    refine ⟨dd, fv, e1, e2, fun k f hf => ?_⟩
    obtain ⟨x, v, f1, f2, f3⟩ := e3 k f hf
    exact ⟨x, v, f1, f2, t x v f3⟩
theorem fn_step (O : GbOk Γ) (hk : ∀ c, Γ.ek c = none) {n f : Nat} {fd : Fd} {x qual : Str} {params : Arguments} {body : List Stmt} {scope : Scope} {N ps : List Str} {fdat : FuncData} (C : CallsOk Γ n (callN T n)) (hf : T[f]? = some fd)
    (F : FunD Γ.N.K x qual params body scope [] [] (Γ.N.fa f) fdat) (S : FnScope N ps scope) (hps : ps.length = fd.np) (hN : N.length = fd.ns) (hc : chkSs ⟨N, Γ.globs, Γ.free, Γ.nc⟩ scope fd.body body = true) :
    FnOk Γ.prg Γ.w Γ.N.K Γ.mg Γ.base (L2.CX Γ.prg Γ.w) (n + 1) (Γ.N.fa f) fdat ps (spF Γ (callN T (n + 1) f)) := by
  have un : ∀ ds h, callN T (n + 1) f ds h = if ds.length = fd.np then finish h.length (exs ⟨callN T n, h.length⟩ (startS fd ds) fd.body h) else .stuck := fun ds h => by
    show (match T[f]? with
      | none => R.stuck
      | some fd => if ds.length = fd.np then finish h.length (exs ⟨callN T n, h.length⟩ (startS fd ds) fd.body h) else .stuck) = _
    rw [hf]
  refine F.ok S (fun vs H Q E ⟨Z, m, h, ds, St, rs, p⟩ => ?_) (fun cdv A outer s H vs Q E hr ⟨Z, m, h, ds, St, rs, p⟩ => ?_)
  · rw [un] at p
    split at p
    · rename_i hl
      rw [← RpDs.length rs, hl, hps]
    · exact p.elim
  · rw [un] at p
    split at p
    · rename_i hl
      refine ⟨tSs Γ (fun cls d _ H => E cls d H) h.length ⟨callN T n, h.length⟩ fd.body, ?_, ?_⟩
      · refine chkSs_ok (c := ⟨N, Γ.globs, Γ.free, Γ.nc⟩) (k := n) (G := ⟨callN T n, h.length⟩) (bs := h.length) ⟨rfl, rfl, rfl, O, C, rfl, hk⟩ fd.body (sc := scope) ?_ hc
        refine ⟨⟨⟨rfl, rfl, rfl, rfl, rfl, rfl, S.nd, rfl, ?_, takes_of rfl rfl rfl rfl⟩, rfl, hr⟩, passes_of rfl, fun _ => rfl, rfl, rfl⟩
        have := hr.un
        show (A.deeper _).units + 65 < cLine
        omega
      · refine ⟨Z, m, startS fd ds, h, Nat.le_refl _, start_rel St rs hl hN, ?_⟩
        show PostS Γ _ h.length Z m h H (exs ⟨callN T n, h.length⟩ (startS fd ds) fd.body h) _
        cases e : exs ⟨callN T n, h.length⟩ (startS fd ds) fd.body h with
        | stuck => rw [e] at p; exact p.elim
        | brk ρ h1 => rw [e] at p; exact p.elim
        | cont ρ h1 => rw [e] at p; exact p.elim
        | next ρ h1 =>
          rw [e] at p
          intro m' H' σ' R' E'
          obtain ⟨S2, E2, t2⟩ := St.take R'.st E' (b := h.length)
          exact p m' H' .non S2 E2 rfl
        | ret d h1 =>
          rw [e] at p
          cases d with
          | p x =>
            intro m' H' v S' E' r
            obtain ⟨S2, E2, t2⟩ := St.take S' E' (b := h.length)
            exact p m' H' v S2 E2 (t2 x v r)
          | ref j => exact p
        | exn c fs ρ h1 =>
          rw [e] at p
          intro m' H' σ' d R' E' r
          obtain ⟨S2, E2, t2⟩ := St.take R'.st E' (b := h.length)
          exact p m' H' d S2 E2 (ExcR.take t2 r)
    · exact p.elim
theorem calls_ok (O : GbOk Γ) (hk : ∀ c, Γ.ek c = none) (hd : ∀ i fd, T[i]? = some fd → DefOk Γ i fd) : ∀ n, CallsOk Γ n (callN T n)
  | 0, f, ds, h, ne => absurd rfl ne
  | n + 1, f, ds0, h0, ne => by
    cases hf : T[f]? with
    | none =>
      exfalso
      apply ne
      unfold callN
      rw [hf]
    | some fd =>
      obtain ⟨x, qual, params, body, scope, N, ps, fdat, F, S, hps, hN, B, hc⟩ := (hd f fd hf).ex
      exact ⟨fdat, ps, fn_step O hk (calls_ok O hk hd n) hf F S hps hN hc, B⟩
end
end Mp

set_option Elab.async false
set_option linter.all false
set_option maxRecDepth 100000
set_option maxHeartbeats 1000000
/-! What the layer leans on, read off the heap behind the top. -/
namespace Mp
open PySem PySem.Spec PyProof.Rows L2
/-- a program's names -/
structure Nms where
  fns : List Str
  cls : List Str
  cons : List (Str × P)
  free : List Str
def atN (l : List Str) (i : Nat) : Str := l.getD i (l.headD ("" : Str))
def Nms.nm (n : Nms) (K : PySem.W.Frag) : Nm := ⟨K, fun i => He.ga K (atN n.fns i), fun i => He.ga K (atN n.cls i)⟩
def Nms.globs (n : Nms) : List (Str × P) := n.fns.zipIdx.map (fun p => (p.1, P.fn p.2)) ++ (n.cls.zipIdx.map (fun p => (p.1, P.cls p.2)) ++ n.cons)
def Nms.gb (n : Nms) (K : PySem.W.Frag) (prg : Program) (w : World) (mg : Str → Option Value) (base : Heap) : Gb := ⟨n.nm K, prg, w, mg, base, fun _ => none, n.globs, n.free, n.cls.length⟩
/-- a value of the module is this datum -/
def gvB (N : Nm) : P → Value → Bool
  | .non, .none => true
  | .bl b, .bool c => b == c
  | .int i, .int j _ => decide (i = j)
  | .str s, .str t _ => decide (t = ⟨s.toArray⟩)
  | .fn i, .ref a => decide (a = N.fa i)
  | .cls i, .ref a => decide (a = N.ca i)
  | _, _ => false
theorem gvB_ok {N : Nm} {v : P} {u : Value} (h : gvB N v u = true) : ∃ y, RelV y u ∧ ∀ L H, RpP N L H v y := by
  cases v with
  | non => cases u <;> first | exact ⟨.non, rfl, fun _ _ => rfl⟩ | cases h
  | bl b =>
    cases u with
    | bool c =>
      have h : (b == c) = true := h
      rw [eq_of_beq h]
      exact ⟨.bl c, rfl, fun _ _ => rfl⟩
    | _ => cases h
  | int i =>
    cases u with
    | int j t =>
      have h : decide (i = j) = true := h
      rw [of_decide_eq_true h]
      exact ⟨.int j, ⟨t, rfl⟩, fun _ _ => rfl⟩
    | _ => cases h
  | str s =>
    cases u with
    | str x t =>
      have h : decide (x = ⟨s.toArray⟩) = true := h
      rw [of_decide_eq_true h]
      exact ⟨.str ⟨s.toArray⟩, ⟨t, rfl⟩, fun _ _ => rfl⟩
    | _ => cases h
  | fn i =>
    cases u with
    | ref a =>
      have h : decide (a = N.fa i) = true := h
      rw [of_decide_eq_true h]
      exact ⟨.ref (N.fa i), rfl, fun _ _ => rfl⟩
    | _ => cases h
  | cls i =>
    cases u with
    | ref a =>
      have h : decide (a = N.ca i) = true := h
      rw [of_decide_eq_true h]
      exact ⟨.ref (N.ca i), rfl, fun _ _ => rfl⟩
    | _ => cases h
  | _ => cases u <;> cases h
def oB (a b : Option (Option Value)) : Bool := decide (a = b)
def tB2 (a : Option Bool) (b : Bool) : Bool := decide (a = some b)
def exoB (K : PySem.W.Frag) (D : Addr) : Bool :=
  PySem.W.excIn K D [.type "ValueError", .type "Exception", .type "BaseException", .type "object"] "ValueError.__new__" && (PySem.W.keepIn K (.ref D) && (decide (PySem.W.typeIn K (.ref D) = some (.type "type")) &&
    (oB (PySem.W.findIn K (.ref D) "__getattribute__") (some (some (.builtin "BaseException.__getattribute__"))) && (oB (PySem.W.findIn K (.ref D) "__getattr__") (some none) && (tB2 (PySem.W.subIn K (.ref D) (.type "BaseException")) true && (PySem.W.hasDictIn K D &&
    (oB (PySem.W.findIn K (.ref D) "__class__") (some (some (.builtin "object.__class__"))) && (oB (PySem.W.specialIn K (.builtin "object.__class__") "__get__") (some (some (.builtin "getset_descriptor.__get__"))) && (tB2 (PySem.W.takesIn K (.builtin "object.__class__")) true && tB2 (PySem.W.mroIn K D (.type "object")) true)))))))))
theorem exoB_ok {K : PySem.W.Frag} {D : Addr} (h : exoB K D = true) : ExcO K D := by
  obtain ⟨h1, h⟩ := ba h
  obtain ⟨h2, h⟩ := ba h
  obtain ⟨h3, h⟩ := ba h
  obtain ⟨h4, h⟩ := ba h
  obtain ⟨h5, h⟩ := ba h
  obtain ⟨h6, h⟩ := ba h
  obtain ⟨h7, h⟩ := ba h
  obtain ⟨h8, h⟩ := ba h
  obtain ⟨h9, h⟩ := ba h
  obtain ⟨h10, h11⟩ := ba h
  exact ⟨h1, h2, of_decide_eq_true h3, ⟨of_decide_eq_true h4, of_decide_eq_true h5, of_decide_eq_true h6, h7, of_decide_eq_true h8, of_decide_eq_true h9, of_decide_eq_true h10, of_decide_eq_true h11⟩⟩
def glB (n : Nms) (K : PySem.W.Frag) (p : Str × P) : Bool := match PySem.W.nsIn K mainGlobals p.1 with
  | some (some u) => gvB (n.nm K) p.2 u
  | _ => false
def Nms.ok (n : Nms) (K : PySem.W.Frag) : Bool :=
  n.globs.all (glB n K) && (n.free.all (fun x => oB (PySem.W.nsIn K mainGlobals x) (some none)) && (PySem.W.keepIn K (.ref (He.ga K (n.fns.headD ("" : Str)))) && (n.fns.all (fun x => PySem.W.keepIn K (.ref (He.ga K x))) && ((List.range n.cls.length).all (fun c => exoB K ((n.nm K).ca c)) &&
    (List.range n.cls.length).all fun c => (List.range n.cls.length).all fun k => tB2 (PySem.W.exmOne K (.ref ((n.nm K).ca c)) (.ref ((n.nm K).ca k))) (subT c k) && tB2 (PySem.W.kitOne K (.ref ((n.nm K).ca c)) (.ref ((n.nm K).ca k))) (subT c k)))))
theorem mem_of_lookup {α : Type} {x : Str} {v : α} : ∀ {l : List (Str × α)}, l.lookup x = some v → (x, v) ∈ l
  | [], h => by cases h
  | (y, u) :: l, h => by
    rw [List.lookup_cons] at h
    cases q : x == y with
    | true =>
      rw [q] at h
      cases h
      rw [eq_of_beq q]
      exact List.mem_cons_self
    | false =>
      rw [q] at h
      exact List.mem_cons_of_mem _ (mem_of_lookup h)
theorem Nms.gbOk {n : Nms} {K : PySem.W.Frag} {h : Heap} {prg : Program} {w : World} {mg : Str → Option Value} {base : Heap} (X : K.In h) (G : h.Ns mainGlobals mg) (c : n.ok K = true) : GbOk (n.gb K prg w mg base) := by
  obtain ⟨h1, c⟩ := ba c
  obtain ⟨h2, c⟩ := ba c
  obtain ⟨h3, c⟩ := ba c
  obtain ⟨h4, c⟩ := ba c
  obtain ⟨h5, h6⟩ := ba c
  have al : ∀ {p : Nat → Bool} {m : Nat}, (List.range m).all p = true → ∀ i, i < m → p i = true := fun {p m} q i hi => List.all_eq_true.mp q i (List.mem_range.mpr hi)
  refine ⟨fun x v hl => ?_, fun x hx => ?_, fun i => ?_, fun c hc _ => exoB_ok (al h5 c hc), fun c k hc hk => ?_, fun c k hc hk => ?_⟩
  · have q := List.all_eq_true.mp h1 (x, v) (mem_of_lookup hl)
    unfold glB at q
    split at q
    · rename_i u e
      obtain ⟨y, r1, r2⟩ := gvB_ok q
      exact ⟨u, y, PySem.W.mg_of X G e, r1, r2⟩
    · cases q
  · exact PySem.W.mg_none_of X G (of_decide_eq_true (List.all_eq_true.mp h2 x hx))
  · show PySem.W.keepIn K (.ref (He.ga K (atN n.fns i))) = true
    unfold atN
    rw [List.getD_eq_getElem?_getD]
    cases e : n.fns[i]? with
    | none => exact h3
    | some x => exact List.all_eq_true.mp h4 x (List.mem_of_getElem? e)
  · exact of_decide_eq_true (ba (al (al h6 c hc) k hk)).1
  · exact of_decide_eq_true (ba (al (al h6 c hc) k hk)).2
/-! ### the Hook -/
def obsM (d : Nat) (fn : List He.DefD) (n : Nms) (g : Addr → Option Obj) : He.AlD × Bool := (fun K => (He.obsD [] fn K, n.ok K)) (He.frG g (He.asD g d))
def hookM (d : Nat) (fn : List He.DefD) (n : Nms) : PySem.W.Hook where
  α := He.AlD × Bool
  obs := fun s => obsM d fn n s.heap.get?
  val := fun _ => (He.valD fn, true)
  says := fun _ h => ∃ K : PySem.W.Frag, K.In h ∧ He.SaysD [] fn K ∧ n.ok K = true
  of := fun _ _ e => ⟨_, He.frG_in, congrArg Prod.fst e, congrArg Prod.snd e⟩
  keeps := fun _ _ _ ⟨K, hK, c⟩ k => ⟨K, PySem.W.Frag.In.keeps hK k, c⟩
theorem obsM_eq {d : Nat} {fn : List He.DefD} {n : Nms} {g : Addr → Option Obj} {s : Shared} (h : ∀ a, g a = s.heap.get? a) : obsM d fn n g = (hookM d fn n).obs s := by
  have e : g = s.heap.get? := funext h
  rw [e] <;> rfl
/-! ### one def -/
def fnScB (N ps : List Str) (sc : Scope) : Bool := isFunc sc && (!sc.isCoroutine && (!sc.isGenerator && (decide N.Nodup && (decide (N.take ps.length = ps) && (ps.all (fun x => isK sc x .local || isK sc x .cell) && sc.names.all fun y => decide (y.2 ≠ .free))))))
theorem fnScB_ok {N ps : List Str} {sc : Scope} (h : fnScB N ps sc = true) : FnScope N ps sc := by
  obtain ⟨h1, h⟩ := ba h
  obtain ⟨h2, h⟩ := ba h
  obtain ⟨h3, h⟩ := ba h
  obtain ⟨h4, h⟩ := ba h
  obtain ⟨h5, h⟩ := ba h
  obtain ⟨h6, h7⟩ := ba h
  exact ⟨isFunc_ok h1, bnot h2, bnot h3, of_decide_eq_true h4, of_decide_eq_true h5, fun x hx => loc_or (List.all_eq_true.mp h6 x hx), fun y hy => of_decide_eq_true (List.all_eq_true.mp h7 y hy)⟩
/-- one def as it is looked at: its datum, its names, its parameters, our term -/
structure DefM where
  d : He.DefD
  N : List Str
  np : Nat
  fd : Fd
def DefM.ok (n : Nms) (i : Nat) (m : DefM) : Bool := decide (m.d.at_ = (atN n.fns i, none)) && (m.d.dfl.isEmpty && (m.d.kwd.isEmpty && (fnScB m.N (m.N.take m.np) m.d.scope && (decide (m.np = m.fd.np) && (decide (m.np ≤ m.N.length) && (decide (m.N.length = m.fd.ns) && chkSs ⟨m.N, n.globs, n.free, n.cls.length⟩ m.d.scope m.fd.body m.d.body))))))
theorem DefM.defOk {n : Nms} {i : Nat} {m : DefM} {fn : List He.DefD} {K : PySem.W.Frag} {prg : Program} {w : World} {mg : Str → Option Value} {base : Heap} (h : m.ok n i = true) (c : He.SaysD [] fn K) (hf : fn[i]? = some m.d)
    (hb : ∀ (kV doc pm : Value) (an : Option Addr) (cdv ct : Value) (us : List Value), us.length = (m.N.take m.np).length → bindArgs (PySem.W.fnOf m.d.name m.d.qual m.d.params m.d.body m.d.scope .none kV doc pm an cdv ct) ⟨us, []⟩ = pure ((m.N.take m.np).zip us)) :
    DefOk (n.gb K prg w mg base) i m.fd := by
  obtain ⟨h1, h⟩ := ba h
  obtain ⟨h2, h⟩ := ba h
  obtain ⟨h3, h⟩ := ba h
  obtain ⟨h4, h⟩ := ba h
  obtain ⟨h5, h⟩ := ba h
  obtain ⟨h6, h⟩ := ba h
  obtain ⟨h7, h8⟩ := ba h
  obtain ⟨fd, F⟩ := c.def_ i hf
  have e1 : m.d.dvs K = [] := by unfold He.DefD.dvs; rw [List.isEmpty_iff.mp h2]; rfl
  have e2 : m.d.kws K = [] := by unfold He.DefD.kws; rw [List.isEmpty_iff.mp h3]; rfl
  have e3 : He.fAd K m.d.at_ = (n.gb K prg w mg base).N.fa i := by rw [of_decide_eq_true h1]; rfl
  rw [e1, e2, e3] at F
  refine ⟨⟨_, _, _, _, _, m.N, m.N.take m.np, fd, F, fnScB_ok h4, ?_, of_decide_eq_true h7, F.bindsN hb, h8⟩⟩
  rw [List.length_take, ← of_decide_eq_true h5]
  exact Nat.min_eq_left (of_decide_eq_true h6)
/-- its arguments are bound -/
def DefM.Bd (m : DefM) : Prop := ∀ (kV doc pm : Value) (an : Option Addr) (cdv ct : Value) (us : List Value), us.length = (m.N.take m.np).length → bindArgs (PySem.W.fnOf m.d.name m.d.qual m.d.params m.d.body m.d.scope .none kV doc pm an cdv ct) ⟨us, []⟩ = pure ((m.N.take m.np).zip us)
def BdAll : List DefM → Prop
  | [] => True
  | m :: r => m.Bd ∧ BdAll r
theorem BdAll.mem : ∀ {l : List DefM} {m : DefM}, BdAll l → m ∈ l → m.Bd
  | x :: r, m, h, hm => by
    rcases List.mem_cons.mp hm with z | z
    · rw [z]; exact h.1
    · exact BdAll.mem h.2 z
theorem defs_of {n : Nms} {ms : List DefM} {T : List Fd} {fn : List He.DefD} {m0 : DefM} {K : PySem.W.Frag} {prg : Program} {w : World} {mg : Str → Option Value} {base : Heap} (c : He.SaysD [] fn K) (hT : ms.map DefM.fd = T) (hF : ms.map DefM.d = fn)
    (ok : ((List.range ms.length).all fun i => (ms.getD i m0).ok n i) = true) (bd : BdAll ms) : ∀ i fd, T[i]? = some fd → DefOk (n.gb K prg w mg base) i fd := by
  intro i fd hi
  rw [← hT, List.getElem?_map] at hi
  obtain ⟨m, hm, rfl⟩ := Option.map_eq_some_iff.mp hi
  have hlen : i < ms.length := (List.getElem?_eq_some_iff.mp hm).1
  have q := List.all_eq_true.mp ok i (List.mem_range.mpr hlen)
  rw [List.getD_eq_getElem?_getD, hm] at q
  exact DefM.defOk q c (by rw [← hF, List.getElem?_map, hm]; rfl) (bd.mem (List.mem_of_getElem? hm))
/-- the law's def is called with the script: what callN says, comes -/
theorem law_sp {Γ : Gb} {F : List D → Hea → R D} {H : Hp} {a : Addr} {ns : List Int} (ho : Only H) (hS : SqL Γ.N.K H a (ns.map V.int)) {v : P} {h' : Hea} (e : F [.p (.scr ns)] [] = .ok (.p v) h') {Q : VK} {E : XK} (hQ : ∀ L H' u, RpP Γ.N L H' v u → Q u H') : spF Γ F [.ref a] H Q E := by
  have nl : ∀ b, ¬ LZ (fun _ => False) (fun _ => (0 : Addr)) [] b := fun b l => by
    rcases l with ⟨n, ds, e, _⟩ | z
    · simp at e
    · exact z
  refine ⟨fun _ => False, fun _ => 0, [], [.p (.scr ns)], ⟨fun _ z => z.elim, fun i j ds es e => by simp at e, fun n ds e => by simp at e⟩, ⟨.ref a, [], rfl, ⟨a, rfl, ?_⟩, rfl⟩, ?_⟩
  · rcases hS with hS | hS
    · exact .inl ⟨hS, nl a⟩
    · exact .inr fun G => .inr hS
  · rw [e]
    exact fun m' H' u S E r => hQ _ _ _ r
/-- the law's def over every base -/
theorem DefM.law {n : Nms} {i : Nat} {m : DefM} {fn : List He.DefD} {K : PySem.W.Frag} {prg : Program} {w : World} {mg : Str → Option Value} {T : List Fd} {k : Nat} (h : m.ok n i = true) (c : He.SaysD [] fn K) (hf : fn[i]? = some m.d) (bd : m.Bd) (hT : T[i]? = some m.fd) :
    ∃ fdat, (∀ (s : Shared) (us : List Value), us.length = (m.N.take m.np).length → BindsTo s fdat ⟨us, []⟩ ((m.N.take m.np).zip us)) ∧ ∀ base, GbOk (n.gb K prg w mg base) → CallsOk (n.gb K prg w mg base) k (callN T k) →
      FnOk prg w K mg base (L2.CX prg w) (k + 1) (He.ga K (atN n.fns i)) fdat (m.N.take m.np) (spF (n.gb K prg w mg base) (callN T (k + 1) i)) := by
  obtain ⟨h1, h⟩ := ba h
  obtain ⟨h2, h⟩ := ba h
  obtain ⟨h3, h⟩ := ba h
  obtain ⟨h4, h⟩ := ba h
  obtain ⟨h5, h⟩ := ba h
  obtain ⟨h6, h⟩ := ba h
  obtain ⟨h7, h8⟩ := ba h
  obtain ⟨fd, F⟩ := c.def_ i hf
  have e1 : m.d.dvs K = [] := by unfold He.DefD.dvs; rw [List.isEmpty_iff.mp h2]; rfl
  have e2 : m.d.kws K = [] := by unfold He.DefD.kws; rw [List.isEmpty_iff.mp h3]; rfl
  have e3 : He.fAd K m.d.at_ = He.ga K (atN n.fns i) := by rw [of_decide_eq_true h1]; rfl
  rw [e1, e2, e3] at F
  refine ⟨fd, fun s us hl => F.bindsA bd s us hl, fun base O C => fn_step (Γ := n.gb K prg w mg base) O (fun _ => rfl) C hT F (fnScB_ok h4) ?_ (of_decide_eq_true h7) h8⟩
  rw [List.length_take, ← of_decide_eq_true h5]
  exact Nat.min_eq_left (of_decide_eq_true h6)
theorem spF_base {n : Nms} {K : PySem.W.Frag} {prg : Program} {w : World} {mg : Str → Option Value} {b1 b2 : Heap} {F : List D → Hea → R D} : spF (n.gb K prg w mg b1) F = spF (n.gb K prg w mg b2) F := rfl
/-- a def of which no exception comes -/
theorem fn_nox {P : Program} {w : World} {K : PySem.W.Frag} {mg : Str → Option Value} {base : Heap} {k : Nat} {f : Addr} {fd : FuncData} {ps : List Str} {sp : Sp} (F : FnOk P w K mg base (L2.CX P w) k f fd ps sp) :
    FnOk P w K mg base (fun _ _ _ _ _ _ => False) k f fd ps (fun vs H Q _ => sp vs H Q fun _ _ _ => False) := by
  refine ⟨fun vs H Q E h => F.len vs H Q _ h, fun A outer s H args us vs Q E hr e0 b r h => codeAny_mono (F.run A outer s H args us vs Q _ hr e0 b r h) fun r s' hq => ?_⟩
  cases r with
  | ok fl => cases fl <;> exact hq
  | error e =>
    obtain ⟨_, _, _, _, _, _, _, _, _, _, _, _, z⟩ := hq
    exact z
end Mp

set_option linter.all false
set_option maxRecDepth 100000
namespace K15
open Mp
def FUEL : Nat := 2 ^ 40000
/-- is_whole -/
def b_is_whole : Sts := (.cons (.ret (.and_ (.blt .isinst false (.cons (.var 0) (.cons (.con (.ty "int")) .nil))) (.not_ (.blt .isinst false (.cons (.var 0) (.cons (.con (.ty "bool")) .nil)))))) .nil)
def f_is_whole : Fd := ⟨1, 1, b_is_whole⟩
/-- is_sequence -/
def b_is_sequence : Sts := (.cons (.ret (.blt .isinst false (.cons (.var 0) (.cons (.tup (.cons (.con (.ty "list")) (.cons (.con (.ty "tuple")) .nil))) .nil)))) .nil)
def f_is_sequence : Fd := ⟨1, 1, b_is_sequence⟩
def l_common_divisor_1 : Sts := (.cons (.par 0 1 (.var 1) (.bin .mod (.var 0) (.var 1))) .nil)
/-- common_divisor -/
def b_common_divisor : Sts := (.cons (.set 0 (.blt .abs false (.cons (.var 0) .nil))) (.cons (.set 1 (.blt .abs false (.cons (.var 1) .nil))) (.cons (.while_ FUEL (.cmp .ne (.var 1) (.con (.int 0))) l_common_divisor_1) (.cons (.ret (.var 0)) .nil))))
def f_common_divisor : Fd := ⟨2, 2, b_common_divisor⟩
/-- is_ratio -/
def b_is_ratio : Sts := (.cons (.if_ (.or_ (.not_ (.blt .isinst false (.cons (.var 0) (.cons (.con (.ty "tuple")) .nil)))) (.cmp .ne (.blt .len false (.cons (.var 0) .nil)) (.con (.int 2)))) (.cons (.ret (.con (.bl false))) .nil) .nil) (.cons (.unp [1, 2] (.var 0)) (.cons (.if_ (.or_ (.not_ (.call 0 (.cons (.var 1) .nil))) (.or_ (.not_ (.call 0 (.cons (.var 2) .nil))) (.cmp .lt (.var 2) (.con (.int 1))))) (.cons (.ret (.con (.bl false))) .nil) .nil) (.cons (.ret (.or_ (.cmp .eq (.var 2) (.con (.int 1))) (.cmp .eq (.call 2 (.cons (.var 1) (.cons (.var 2) .nil))) (.con (.int 1))))) .nil))))
def f_is_ratio : Fd := ⟨1, 3, b_is_ratio⟩
/-- check_ratio -/
def b_check_ratio : Sts := (.cons (.if_ (.not_ (.call 3 (.cons (.var 0) .nil))) (.cons (.raise 1 (.cons (.con (.str [97, 32, 114, 97, 116, 105, 111, 32, 105, 115, 32, 101, 120, 112, 101, 99, 116, 101, 100])) .nil)) .nil) .nil) .nil)
def f_check_ratio : Fd := ⟨1, 1, b_check_ratio⟩
def l_check_ratios_1 : Sts := (.cons (.expr (.call 4 (.cons (.var 1) .nil))) .nil)
/-- check_ratios -/
def b_check_ratios : Sts := (.cons (.if_ (.not_ (.call 1 (.cons (.var 0) .nil))) (.cons (.raise 1 (.cons (.con (.str [97, 32, 115, 101, 113, 117, 101, 110, 99, 101, 32, 111, 102, 32, 114, 97, 116, 105, 111, 115, 32, 105, 115, 32, 101, 120, 112, 101, 99, 116, 101, 100])) .nil)) .nil) .nil) (.cons (.for_ (.one 1) (.seq (.var 0)) l_check_ratios_1) .nil))
def f_check_ratios : Fd := ⟨1, 2, b_check_ratios⟩
/-- opposite -/
def b_opposite : Sts := (.cons (.ret (.tup (.cons (.neg (.idx (.var 0) (.con (.int 0)))) (.cons (.idx (.var 0) (.con (.int 1))) .nil)))) .nil)
def f_opposite : Fd := ⟨1, 1, b_opposite⟩
/-- sum_of -/
def b_sum_of : Sts := (.cons (.unp [2, 3] (.var 0)) (.cons (.unp [4, 5] (.var 1)) (.cons (.set 6 (.call 2 (.cons (.var 3) (.cons (.var 5) .nil)))) (.cons (.set 7 (.bin .fdiv (.var 5) (.var 6))) (.cons (.set 8 (.bin .add (.bin .mul (.var 2) (.var 7)) (.bin .mul (.var 4) (.bin .fdiv (.var 3) (.var 6))))) (.cons (.set 9 (.call 2 (.cons (.var 8) (.cons (.var 6) .nil)))) (.cons (.ret (.tup (.cons (.bin .fdiv (.var 8) (.var 9)) (.cons (.bin .mul (.bin .fdiv (.var 3) (.var 9)) (.var 7)) .nil)))) .nil)))))))
def f_sum_of : Fd := ⟨2, 10, b_sum_of⟩
/-- product_of -/
def b_product_of : Sts := (.cons (.unp [2, 3] (.var 0)) (.cons (.unp [4, 5] (.var 1)) (.cons (.set 6 (.call 2 (.cons (.var 2) (.cons (.var 5) .nil)))) (.cons (.set 7 (.call 2 (.cons (.var 4) (.cons (.var 3) .nil)))) (.cons (.ret (.tup (.cons (.bin .mul (.bin .fdiv (.var 2) (.var 6)) (.bin .fdiv (.var 4) (.var 7))) (.cons (.bin .mul (.bin .fdiv (.var 3) (.var 7)) (.bin .fdiv (.var 5) (.var 6))) .nil)))) .nil)))))
def f_product_of : Fd := ⟨2, 8, b_product_of⟩
/-- sign_of -/
def b_sign_of : Sts := (.cons (.if_ (.cmp .lt (.var 0) (.con (.int 0))) (.cons (.ret (.neg (.con (.int 1)))) .nil) .nil) (.cons (.if_ (.cmp .gt (.var 0) (.con (.int 0))) (.cons (.ret (.con (.int 1))) .nil) .nil) (.cons (.ret (.con (.int 0))) .nil)))
def f_sign_of : Fd := ⟨1, 1, b_sign_of⟩
/-- order_of -/
def b_order_of : Sts := (.cons (.ret (.call 9 (.cons (.bin .sub (.bin .mul (.idx (.var 0) (.con (.int 0))) (.idx (.var 1) (.con (.int 1)))) (.bin .mul (.idx (.var 1) (.con (.int 0))) (.idx (.var 0) (.con (.int 1))))) .nil))) .nil)
def f_order_of : Fd := ⟨2, 2, b_order_of⟩
/-- plus -/
def b_plus : Sts := (.cons (.expr (.call 4 (.cons (.var 0) .nil))) (.cons (.expr (.call 4 (.cons (.var 1) .nil))) (.cons (.ret (.call 7 (.cons (.var 0) (.cons (.var 1) .nil)))) .nil)))
def f_plus : Fd := ⟨2, 2, b_plus⟩
/-- minus -/
def b_minus : Sts := (.cons (.expr (.call 4 (.cons (.var 0) .nil))) (.cons (.expr (.call 4 (.cons (.var 1) .nil))) (.cons (.ret (.call 7 (.cons (.var 0) (.cons (.call 6 (.cons (.var 1) .nil)) .nil)))) .nil)))
def f_minus : Fd := ⟨2, 2, b_minus⟩
/-- times -/
def b_times : Sts := (.cons (.expr (.call 4 (.cons (.var 0) .nil))) (.cons (.expr (.call 4 (.cons (.var 1) .nil))) (.cons (.ret (.call 8 (.cons (.var 0) (.cons (.var 1) .nil)))) .nil)))
def f_times : Fd := ⟨2, 2, b_times⟩
/-- over -/
def b_over : Sts := (.cons (.expr (.call 4 (.cons (.var 0) .nil))) (.cons (.expr (.call 4 (.cons (.var 1) .nil))) (.cons (.unp [2, 3] (.var 1)) (.cons (.if_ (.cmp .eq (.var 2) (.con (.int 0))) (.cons (.raise 1 (.cons (.con (.str [100, 105, 118, 105, 115, 105, 111, 110, 32, 98, 121, 32, 122, 101, 114, 111])) .nil)) .nil) .nil) (.cons (.if_ (.cmp .lt (.var 2) (.con (.int 0))) (.cons (.ret (.call 8 (.cons (.var 0) (.cons (.tup (.cons (.neg (.var 3)) (.cons (.neg (.var 2)) .nil))) .nil)))) .nil) .nil) (.cons (.ret (.call 8 (.cons (.var 0) (.cons (.tup (.cons (.var 3) (.cons (.var 2) .nil))) .nil)))) .nil))))))
def f_over : Fd := ⟨2, 4, b_over⟩
def l_total_1 : Sts := (.cons (.set 1 (.call 7 (.cons (.var 1) (.cons (.var 2) .nil)))) .nil)
/-- total -/
def b_total : Sts := (.cons (.expr (.call 5 (.cons (.var 0) .nil))) (.cons (.set 1 (.tup (.cons (.con (.int 0)) (.cons (.con (.int 1)) .nil)))) (.cons (.for_ (.one 2) (.seq (.var 0)) l_total_1) (.cons (.ret (.var 1)) .nil))))
def f_total : Fd := ⟨1, 3, b_total⟩
def e_are_integers_1 : Ex := (.call 0 (.cons (.var 2) .nil))
/-- are_integers -/
def b_are_integers : Sts := (.cons (.ret (.and_ (.blt .isinst false (.cons (.var 0) (.cons (.con (.ty "tuple")) .nil))) (.and_ (.cmp .eq (.blt .len false (.cons (.var 0) .nil)) (.var 1)) (.blt .all false (.cons (.comp false [2] (.one 2) (.seq (.var 0)) .nil e_are_integers_1) .nil))))) .nil)
def f_are_integers : Fd := ⟨2, 3, b_are_integers⟩
def e_are_ratios_1 : Ex := (.call 3 (.cons (.var 2) .nil))
/-- are_ratios -/
def b_are_ratios : Sts := (.cons (.ret (.and_ (.blt .isinst false (.cons (.var 0) (.cons (.con (.ty "tuple")) .nil))) (.and_ (.cmp .eq (.blt .len false (.cons (.var 0) .nil)) (.var 1)) (.blt .all false (.cons (.comp false [2] (.one 2) (.seq (.var 0)) .nil e_are_ratios_1) .nil))))) .nil)
def f_are_ratios : Fd := ⟨2, 3, b_are_ratios⟩
/-- check_form -/
def b_check_form : Sts := (.cons (.if_ (.or_ (.not_ (.blt .isinst false (.cons (.var 0) (.cons (.con (.ty "tuple")) .nil)))) (.or_ (.cmp .lt (.blt .len false (.cons (.var 0) .nil)) (.con (.int 2))) (.cmp .gt (.blt .len false (.cons (.var 0) .nil)) (.bin .add (.glo (.int 3)) (.con (.int 1)))))) (.cons (.raise 2 (.cons (.con (.str [97, 32, 116, 117, 112, 108, 101, 32, 111, 102, 32, 50, 32, 116, 111, 32, 52, 32, 105, 110, 116, 101, 103, 101, 114, 115, 32, 105, 115, 32, 101, 120, 112, 101, 99, 116, 101, 100])) .nil)) .nil) .nil) (.cons (.if_ (.not_ (.call 16 (.cons (.var 0) (.cons (.blt .len false (.cons (.var 0) .nil)) .nil)))) (.cons (.raise 2 (.cons (.con (.str [97, 32, 116, 117, 112, 108, 101, 32, 111, 102, 32, 50, 32, 116, 111, 32, 52, 32, 105, 110, 116, 101, 103, 101, 114, 115, 32, 105, 115, 32, 101, 120, 112, 101, 99, 116, 101, 100])) .nil)) .nil) .nil) .nil))
def f_check_form : Fd := ⟨1, 1, b_check_form⟩
/-- check_forms -/
def b_check_forms : Sts := (.cons (.expr (.call 18 (.cons (.var 0) .nil))) (.cons (.if_ (.not_ (.call 16 (.cons (.var 1) (.cons (.blt .len false (.cons (.var 0) .nil)) .nil)))) (.cons (.raise 2 (.cons (.con (.str [97, 32, 115, 101, 99, 111, 110, 100, 32, 102, 111, 114, 109, 32, 111, 102, 32, 116, 104, 101, 32, 115, 97, 109, 101, 32, 108, 101, 110, 103, 116, 104, 32, 105, 115, 32, 101, 120, 112, 101, 99, 116, 101, 100])) .nil)) .nil) .nil) .nil))
def f_check_forms : Fd := ⟨2, 2, b_check_forms⟩
/-- check_spot -/
def b_check_spot : Sts := (.cons (.if_ (.or_ (.not_ (.blt .isinst false (.cons (.var 0) (.cons (.con (.ty "tuple")) .nil)))) (.or_ (.cmp .lt (.blt .len false (.cons (.var 0) .nil)) (.con (.int 1))) (.cmp .gt (.blt .len false (.cons (.var 0) .nil)) (.glo (.int 3))))) (.cons (.raise 3 (.cons (.con (.str [97, 32, 116, 117, 112, 108, 101, 32, 111, 102, 32, 49, 32, 116, 111, 32, 51, 32, 114, 97, 116, 105, 111, 115, 32, 105, 115, 32, 101, 120, 112, 101, 99, 116, 101, 100])) .nil)) .nil) .nil) (.cons (.if_ (.not_ (.call 17 (.cons (.var 0) (.cons (.blt .len false (.cons (.var 0) .nil)) .nil)))) (.cons (.raise 3 (.cons (.con (.str [97, 32, 116, 117, 112, 108, 101, 32, 111, 102, 32, 49, 32, 116, 111, 32, 51, 32, 114, 97, 116, 105, 111, 115, 32, 105, 115, 32, 101, 120, 112, 101, 99, 116, 101, 100])) .nil)) .nil) .nil) .nil))
def f_check_spot : Fd := ⟨1, 1, b_check_spot⟩
/-- check_two_spots -/
def b_check_two_spots : Sts := (.cons (.expr (.call 20 (.cons (.var 0) .nil))) (.cons (.if_ (.not_ (.call 17 (.cons (.var 1) (.cons (.blt .len false (.cons (.var 0) .nil)) .nil)))) (.cons (.raise 3 (.cons (.con (.str [97, 32, 115, 101, 99, 111, 110, 100, 32, 115, 112, 111, 116, 32, 111, 102, 32, 116, 104, 101, 32, 115, 97, 109, 101, 32, 100, 105, 109, 101, 110, 115, 105, 111, 110, 32, 105, 115, 32, 101, 120, 112, 101, 99, 116, 101, 100])) .nil)) .nil) .nil) .nil))
def f_check_two_spots : Fd := ⟨2, 2, b_check_two_spots⟩
def l_combine_1 : Sts := (.cons (.expr (.call 19 (.cons (.idx (.var 0) (.con (.int 0))) (.cons (.var 2) .nil)))) .nil)
def e_combine_1 : Ex := (.call 0 (.cons (.var 4) .nil))
def e_combine_2 : Ex := (.bin .add (.var 5) (.bin .mul (.var 6) (.var 4)))
def l_combine_2 : Sts := (.cons (.set 3 (.comp false [5, 6] (.many [5, 6]) (.zip (.var 3) (.var 2)) .nil e_combine_2)) .nil)
/-- combine -/
def b_combine : Sts := (.cons (.if_ (.or_ (.not_ (.call 1 (.cons (.var 0) .nil))) (.cmp .eq (.blt .len false (.cons (.var 0) .nil)) (.con (.int 0)))) (.cons (.raise 2 (.cons (.con (.str [97, 32, 115, 101, 113, 117, 101, 110, 99, 101, 32, 111, 102, 32, 111, 110, 101, 32, 111, 114, 32, 109, 111, 114, 101, 32, 102, 111, 114, 109, 115, 32, 105, 115, 32, 101, 120, 112, 101, 99, 116, 101, 100])) .nil)) .nil) .nil) (.cons (.for_ (.one 2) (.seq (.var 0)) l_combine_1) (.cons (.if_ (.or_ (.not_ (.call 1 (.cons (.var 1) .nil))) (.cmp .ne (.blt .len false (.cons (.var 1) .nil)) (.blt .len false (.cons (.var 0) .nil)))) (.cons (.raise 1 (.cons (.con (.str [97, 32, 115, 101, 113, 117, 101, 110, 99, 101, 32, 111, 102, 32, 111, 110, 101, 32, 105, 110, 116, 101, 103, 101, 114, 32, 102, 111, 114, 32, 101, 97, 99, 104, 32, 102, 111, 114, 109, 32, 105, 115, 32, 101, 120, 112, 101, 99, 116, 101, 100])) .nil)) .nil) .nil) (.cons (.if_ (.not_ (.blt .all false (.cons (.comp false [4] (.one 4) (.seq (.var 1)) .nil e_combine_1) .nil))) (.cons (.raise 1 (.cons (.con (.str [97, 32, 115, 101, 113, 117, 101, 110, 99, 101, 32, 111, 102, 32, 111, 110, 101, 32, 105, 110, 116, 101, 103, 101, 114, 32, 102, 111, 114, 32, 101, 97, 99, 104, 32, 102, 111, 114, 109, 32, 105, 115, 32, 101, 120, 112, 101, 99, 116, 101, 100])) .nil)) .nil) .nil) (.cons (.set 3 (.bin .mul (.lst false (.cons (.con (.int 0)) .nil)) (.blt .len false (.cons (.idx (.var 0) (.con (.int 0))) .nil)))) (.cons (.for_ (.many [2, 4]) (.zip (.var 0) (.var 1)) l_combine_2) (.cons (.ret (.blt .tuple false (.cons (.var 3) .nil))) .nil)))))))
def f_combine : Fd := ⟨2, 7, b_combine⟩
def l_value_1 : Sts := (.cons (.set 2 (.call 7 (.cons (.var 2) (.cons (.call 8 (.cons (.tup (.cons (.var 3) (.cons (.con (.int 1)) .nil))) (.cons (.var 4) .nil))) .nil)))) .nil)
/-- value -/
def b_value : Sts := (.cons (.expr (.call 18 (.cons (.var 0) .nil))) (.cons (.if_ (.not_ (.call 17 (.cons (.var 1) (.cons (.bin .sub (.blt .len false (.cons (.var 0) .nil)) (.con (.int 1))) .nil)))) (.cons (.raise 3 (.cons (.con (.str [97, 32, 115, 112, 111, 116, 32, 111, 102, 32, 116, 104, 101, 32, 100, 105, 109, 101, 110, 115, 105, 111, 110, 32, 111, 102, 32, 116, 104, 101, 32, 102, 111, 114, 109, 32, 105, 115, 32, 101, 120, 112, 101, 99, 116, 101, 100])) .nil)) .nil) .nil) (.cons (.set 2 (.tup (.cons (.idx (.var 0) (.con (.int 0))) (.cons (.con (.int 1)) .nil)))) (.cons (.for_ (.many [3, 4]) (.zip (.slc false (.var 0) (.cons (.con (.int 1)) .nil) .nil) (.var 1)) l_value_1) (.cons (.ret (.var 2)) .nil)))))
def f_value : Fd := ⟨2, 5, b_value⟩
def e_check_counts_1 : Ex := (.and_ (.call 0 (.cons (.var 2) .nil)) (.cmp .ge (.var 2) (.con (.int 1))))
/-- check_counts -/
def b_check_counts : Sts := (.cons (.if_ (.or_ (.not_ (.call 1 (.cons (.var 0) .nil))) (.cmp .ne (.blt .len false (.cons (.var 0) .nil)) (.var 1))) (.cons (.raise 1 (.cons (.con (.str [97, 32, 115, 101, 113, 117, 101, 110, 99, 101, 32, 111, 102, 32, 111, 110, 101, 32, 105, 110, 116, 101, 103, 101, 114, 32, 102, 111, 114, 32, 101, 97, 99, 104, 32, 115, 112, 111, 116, 32, 105, 115, 32, 101, 120, 112, 101, 99, 116, 101, 100])) .nil)) .nil) .nil) (.cons (.if_ (.not_ (.blt .all false (.cons (.comp false [2] (.one 2) (.seq (.var 0)) .nil e_check_counts_1) .nil))) (.cons (.raise 1 (.cons (.con (.str [105, 110, 116, 101, 103, 101, 114, 115, 32, 111, 102, 32, 97, 116, 32, 108, 101, 97, 115, 116, 32, 49, 32, 97, 114, 101, 32, 101, 120, 112, 101, 99, 116, 101, 100])) .nil)) .nil) .nil) .nil))
def f_check_counts : Fd := ⟨2, 3, b_check_counts⟩
def l_mean_spot_1 : Sts := (.cons (.expr (.call 21 (.cons (.idx (.var 0) (.con (.int 0))) (.cons (.var 2) .nil)))) .nil)
def l_mean_spot_2 : Sts := (.cons (.set 6 (.call 7 (.cons (.var 6) (.cons (.call 8 (.cons (.tup (.cons (.var 7) (.cons (.con (.int 1)) .nil))) (.cons (.idx (.var 2) (.var 5)) .nil))) .nil)))) .nil)
def l_mean_spot_3 : Sts := (.cons (.set 6 (.tup (.cons (.con (.int 0)) (.cons (.con (.int 1)) .nil)))) (.cons (.for_ (.many [2, 7]) (.zip (.var 0) (.var 1)) l_mean_spot_2) (.cons (.expr (.meth .append false (.var 4) (.cons (.call 8 (.cons (.var 6) (.cons (.tup (.cons (.con (.int 1)) (.cons (.var 3) .nil))) .nil))) .nil))) .nil)))
/-- mean_spot -/
def b_mean_spot : Sts := (.cons (.if_ (.or_ (.not_ (.call 1 (.cons (.var 0) .nil))) (.cmp .eq (.blt .len false (.cons (.var 0) .nil)) (.con (.int 0)))) (.cons (.raise 3 (.cons (.con (.str [97, 32, 115, 101, 113, 117, 101, 110, 99, 101, 32, 111, 102, 32, 111, 110, 101, 32, 111, 114, 32, 109, 111, 114, 101, 32, 115, 112, 111, 116, 115, 32, 105, 115, 32, 101, 120, 112, 101, 99, 116, 101, 100])) .nil)) .nil) .nil) (.cons (.for_ (.one 2) (.seq (.var 0)) l_mean_spot_1) (.cons (.expr (.call 24 (.cons (.var 1) (.cons (.blt .len false (.cons (.var 0) .nil)) .nil)))) (.cons (.set 3 (.blt .sum false (.cons (.var 1) .nil))) (.cons (.set 4 (.lst true .nil)) (.cons (.for_ (.one 5) (.rng (.cons (.blt .len false (.cons (.idx (.var 0) (.con (.int 0))) .nil)) .nil)) l_mean_spot_3) (.cons (.ret (.blt .tuple false (.cons (.var 4) .nil))) .nil)))))))
def f_mean_spot : Fd := ⟨2, 8, b_mean_spot⟩
def l_between_1 : Sts := (.cons (.set 6 (.call 7 (.cons (.var 5) (.cons (.call 6 (.cons (.var 4) .nil)) .nil)))) (.cons (.expr (.meth .append false (.var 3) (.cons (.call 7 (.cons (.var 4) (.cons (.call 8 (.cons (.var 2) (.cons (.var 6) .nil))) .nil))) .nil))) .nil))
/-- between -/
def b_between : Sts := (.cons (.expr (.call 21 (.cons (.var 0) (.cons (.var 1) .nil)))) (.cons (.expr (.call 4 (.cons (.var 2) .nil))) (.cons (.set 3 (.lst true .nil)) (.cons (.for_ (.many [4, 5]) (.zip (.var 0) (.var 1)) l_between_1) (.cons (.ret (.blt .tuple false (.cons (.var 3) .nil))) .nil)))))
def f_between : Fd := ⟨3, 7, b_between⟩
def l_compare_spots_1 : Sts := (.cons (.set 4 (.call 10 (.cons (.var 2) (.cons (.var 3) .nil)))) (.cons (.if_ (.cmp .ne (.var 4) (.con (.int 0))) (.cons (.ret (.var 4)) .nil) .nil) .nil))
/-- compare_spots -/
def b_compare_spots : Sts := (.cons (.expr (.call 21 (.cons (.var 0) (.cons (.var 1) .nil)))) (.cons (.for_ (.many [2, 3]) (.zip (.var 0) (.var 1)) l_compare_spots_1) (.cons (.ret (.con (.int 0))) .nil)))
def f_compare_spots : Fd := ⟨2, 5, b_compare_spots⟩
/-- _law_mix -/
def b__law_mix : Sts := (.cons (.set 2 (.bin .mod (.blt .int false (.cons (.bin .add (.bin .add (.bin .mul (.bin .mod (.blt .int false (.cons (.var 0) .nil)) (.con (.int 2147483647))) (.con (.int 48271))) (.bin .mul (.var 1) (.con (.int 69621)))) (.con (.int 7919))) .nil)) (.con (.int 2147483647)))) (.cons (.set 3 (.bin .mod (.blt .int false (.cons (.bin .add (.bin .add (.bin .mul (.var 2) (.var 2)) (.bin .mul (.var 1) (.con (.int 40503)))) (.con (.int 1013))) .nil)) (.con (.int 2147483629)))) (.cons (.set 4 (.bin .mod (.blt .int false (.cons (.bin .add (.bin .mul (.var 3) (.var 3)) (.var 2)) .nil)) (.con (.int 2147483587)))) (.cons (.ret (.bin .add (.bin .mul (.var 4) (.con (.int 2147483629))) (.var 3))) .nil))))
def f__law_mix : Fd := ⟨2, 5, b__law_mix⟩
def l__law_store_1 : Sts := (.cons (.set 2 (.bin .mod (.blt .int false (.cons (.call 28 (.cons (.bin .add (.var 2) (.bin .mod (.blt .int false (.cons (.var 3) .nil)) (.con (.int 2147483647)))) (.cons (.blt .len false (.cons (.var 1) .nil)) .nil))) .nil)) (.con (.int 2147483647)))) (.cons (.if_ (.cmp .lt (.var 3) (.bin .pow (.con (.int 10)) (.con (.int 18)))) (.cons (.expr (.meth .append false (.var 1) (.cons (.lst true (.cons (.bin .mod (.blt .int false (.cons (.var 3) .nil)) (.con (.int 2147483647))) (.cons (.con (.bl false)) .nil))) .nil))) .nil) (.cons (.set 4 (.bin .mod (.blt .int false (.cons (.var 3) .nil)) (.bin .mul (.bin .mul (.bin .mul (.bin .pow (.con (.int 10)) (.con (.int 64))) (.bin .pow (.con (.int 10)) (.con (.int 64)))) (.bin .pow (.con (.int 10)) (.con (.int 64)))) (.bin .pow (.con (.int 10)) (.con (.int 64)))))) (.cons (.if_ (.cmp .gt (.var 4) (.con (.int 0))) (.cons (.expr (.meth .append false (.var 1) (.cons (.lst true (.cons (.var 4) (.cons (.con (.bl true)) .nil))) .nil))) .nil) .nil) .nil))) .nil))
/-- _law_store -/
def b__law_store : Sts := (.cons (.set 1 (.lst true .nil)) (.cons (.set 2 (.con (.int 104729))) (.cons (.for_ (.one 3) (.seq (.slc false (.blt .list false (.cons (.var 0) .nil)) .nil (.cons (.con (.int 63)) .nil))) l__law_store_1) (.cons (.ret (.lst true (.cons (.var 1) (.cons (.con (.int 0)) (.cons (.con (.int 0)) (.cons (.con (.int 0)) (.cons (.var 2) .nil))))))) .nil))))
def f__law_store : Fd := ⟨1, 5, b__law_store⟩
/-- _law_take -/
def b__law_take : Sts := (.cons (.seti (.var 0) (.con (.int 3)) (.bin .add (.idx (.var 0) (.con (.int 3))) (.con (.int 1)))) (.cons (.if_ (.cmp .lt (.var 1) (.con (.int 2))) (.cons (.ret (.con (.int 0))) .nil) .nil) (.cons (.set 2 (.idx (.var 0) (.con (.int 0)))) (.cons (.if_ (.cmp .ge (.idx (.var 0) (.con (.int 1))) (.blt .len false (.cons (.var 2) .nil))) (.cons (.ret (.bin .mod (.blt .int false (.cons (.call 28 (.cons (.idx (.var 0) (.con (.int 4))) (.cons (.idx (.var 0) (.con (.int 3))) .nil))) .nil)) (.var 1))) .nil) .nil) (.cons (.set 3 (.idx (.var 2) (.idx (.var 0) (.con (.int 1))))) (.cons (.if_ (.idx (.var 3) (.con (.int 1))) (.cons (.set 4 (.bin .mod (.blt .int false (.cons (.idx (.var 3) (.con (.int 0))) .nil)) (.var 1))) (.cons (.seti (.var 3) (.con (.int 0)) (.bin .fdiv (.idx (.var 3) (.con (.int 0))) (.var 1))) (.cons (.set 5 (.cmp .eq (.idx (.var 3) (.con (.int 0))) (.con (.int 0)))) .nil))) (.cons (.set 4 (.bin .mod (.blt .int false (.cons (.call 28 (.cons (.idx (.var 3) (.con (.int 0))) (.cons (.idx (.var 0) (.con (.int 3))) .nil))) .nil)) (.var 1))) (.cons (.seti (.var 0) (.con (.int 2)) (.bin .add (.idx (.var 0) (.con (.int 2))) (.con (.int 1)))) (.cons (.set 5 (.cmp .gt (.idx (.var 0) (.con (.int 2))) (.con (.int 1)))) .nil)))) (.cons (.if_ (.var 5) (.cons (.seti (.var 0) (.con (.int 1)) (.bin .add (.idx (.var 0) (.con (.int 1))) (.con (.int 1)))) (.cons (.seti (.var 0) (.con (.int 2)) (.con (.int 0))) .nil)) .nil) (.cons (.ret (.var 4)) .nil))))))))
def f__law_take : Fd := ⟨2, 6, b__law_take⟩
/-- _law_span -/
def b__law_span : Sts := (.cons (.ret (.bin .add (.var 1) (.call 30 (.cons (.var 0) (.cons (.bin .add (.bin .sub (.var 2) (.var 1)) (.con (.int 1))) .nil))))) .nil)
def f__law_span : Fd := ⟨3, 3, b__law_span⟩
def l__law_wide_1 : Sts := (.cons (.if_ (.cmp .lt (.var 3) (.var 1)) (.cons (.set 2 (.bin .add (.bin .mul (.var 2) (.bin .pow (.con (.int 10)) (.con (.int 17)))) (.call 30 (.cons (.var 0) (.cons (.bin .pow (.con (.int 10)) (.con (.int 17))) .nil))))) (.cons (.set 3 (.bin .mul (.var 3) (.bin .pow (.con (.int 10)) (.con (.int 17))))) .nil)) .nil) .nil)
/-- _law_wide -/
def b__law_wide : Sts := (.cons (.set 2 (.con (.int 0))) (.cons (.set 3 (.con (.int 1))) (.cons (.for_ (.one 4) (.rng (.cons (.con (.int 14)) .nil)) l__law_wide_1) (.cons (.ret (.bin .mod (.blt .int false (.cons (.var 2) .nil)) (.blt .max false (.cons (.con (.int 1)) (.cons (.var 1) .nil))))) .nil))))
def f__law_wide : Fd := ⟨2, 5, b__law_wide⟩
/-- _law_pick -/
def b__law_pick : Sts := (.cons (.ret (.idx (.var 1) (.call 30 (.cons (.var 0) (.cons (.blt .len false (.cons (.var 1) .nil)) .nil))))) .nil)
def f__law_pick : Fd := ⟨2, 2, b__law_pick⟩
/-- _law_sequence -/
def b__law_sequence : Sts := (.cons (.if_ (.cmp .eq (.call 30 (.cons (.var 0) (.cons (.con (.int 2)) .nil))) (.con (.int 0))) (.cons (.ret (.blt .list false (.cons (.var 1) .nil))) .nil) .nil) (.cons (.ret (.blt .tuple false (.cons (.var 1) .nil))) .nil))
def f__law_sequence : Fd := ⟨2, 2, b__law_sequence⟩
/-- _law_count -/
def b__law_count : Sts := (.cons (.set 3 (.call 30 (.cons (.var 0) (.cons (.con (.int 7)) .nil)))) (.cons (.if_ (.cmp .eq (.var 3) (.con (.int 0))) (.cons (.ret (.var 1)) .nil) .nil) (.cons (.if_ (.cmp .eq (.var 3) (.con (.int 1))) (.cons (.ret (.blt .min false (.cons (.bin .add (.var 1) (.con (.int 1))) (.cons (.var 2) .nil)))) .nil) .nil) (.cons (.if_ (.cmp .lt (.var 3) (.con (.int 4))) (.cons (.ret (.var 2)) .nil) .nil) (.cons (.ret (.call 31 (.cons (.var 0) (.cons (.var 1) (.cons (.var 2) .nil))))) .nil)))))
def f__law_count : Fd := ⟨3, 4, b__law_count⟩
/-- _law_integer -/
def b__law_integer : Sts := (.cons (.set 2 (.call 30 (.cons (.var 0) (.cons (.con (.int 9)) .nil)))) (.cons (.if_ (.cmp .lt (.var 2) (.con (.int 2))) (.cons (.ret (.call 33 (.cons (.var 0) (.cons (.lst false (.cons (.con (.int 0)) (.cons (.con (.int 0)) (.cons (.con (.int 1)) (.cons (.neg (.con (.int 1))) (.cons (.var 1) (.cons (.neg (.var 1)) (.cons (.bin .sub (.var 1) (.con (.int 1))) .nil)))))))) .nil)))) .nil) .nil) (.cons (.if_ (.cmp .lt (.var 2) (.con (.int 7))) (.cons (.ret (.call 31 (.cons (.var 0) (.cons (.neg (.blt .min false (.cons (.var 1) (.cons (.con (.int 9)) .nil)))) (.cons (.blt .min false (.cons (.var 1) (.cons (.con (.int 9)) .nil))) .nil))))) .nil) .nil) (.cons (.if_ (.cmp .eq (.var 2) (.con (.int 7))) (.cons (.ret (.call 31 (.cons (.var 0) (.cons (.neg (.blt .min false (.cons (.var 1) (.cons (.con (.int 1000)) .nil)))) (.cons (.blt .min false (.cons (.var 1) (.cons (.con (.int 1000)) .nil))) .nil))))) .nil) .nil) (.cons (.ret (.bin .sub (.call 32 (.cons (.var 0) (.cons (.bin .add (.bin .mul (.con (.int 2)) (.var 1)) (.con (.int 1))) .nil))) (.var 1))) .nil)))))
def f__law_integer : Fd := ⟨2, 3, b__law_integer⟩
def l__law_lowest_1 : Sts := (.cons (.par 2 3 (.var 3) (.bin .mod (.blt .int false (.cons (.var 2) .nil)) (.var 3))) .nil)
/-- _law_lowest -/
def b__law_lowest : Sts := (.cons (.set 2 (.blt .abs false (.cons (.var 0) .nil))) (.cons (.set 3 (.blt .abs false (.cons (.var 1) .nil))) (.cons (.while_ FUEL (.cmp .gt (.var 3) (.con (.int 0))) l__law_lowest_1) (.cons (.set 2 (.blt .max false (.cons (.con (.int 1)) (.cons (.var 2) .nil)))) (.cons (.if_ (.cmp .lt (.var 1) (.con (.int 0))) (.cons (.set 2 (.neg (.var 2))) .nil) .nil) (.cons (.ret (.tup (.cons (.bin .fdiv (.var 0) (.var 2)) (.cons (.bin .fdiv (.var 1) (.var 2)) .nil)))) .nil))))))
def f__law_lowest : Fd := ⟨2, 4, b__law_lowest⟩
/-- _law_ratio -/
def b__law_ratio : Sts := (.cons (.set 2 (.call 30 (.cons (.var 0) (.cons (.con (.int 9)) .nil)))) (.cons (.if_ (.cmp .lt (.var 2) (.con (.int 3))) (.cons (.ret (.call 33 (.cons (.var 0) (.cons (.lst false (.cons (.tup (.cons (.con (.int 0)) (.cons (.con (.int 1)) .nil))) (.cons (.tup (.cons (.con (.int 1)) (.cons (.con (.int 1)) .nil))) (.cons (.tup (.cons (.neg (.con (.int 1))) (.cons (.con (.int 1)) .nil))) (.cons (.tup (.cons (.con (.int 1)) (.cons (.con (.int 2)) .nil))) (.cons (.tup (.cons (.neg (.con (.int 1))) (.cons (.con (.int 2)) .nil))) (.cons (.tup (.cons (.con (.int 2)) (.cons (.con (.int 1)) .nil))) (.cons (.tup (.cons (.neg (.con (.int 3))) (.cons (.con (.int 2)) .nil))) .nil)))))))) .nil)))) .nil) .nil) (.cons (.if_ (.or_ (.cmp .lt (.var 2) (.con (.int 7))) (.not_ (.var 1))) (.cons (.ret (.call 37 (.cons (.call 31 (.cons (.var 0) (.cons (.neg (.con (.int 12))) (.cons (.con (.int 12)) .nil)))) (.cons (.call 31 (.cons (.var 0) (.cons (.con (.int 1)) (.cons (.con (.int 6)) .nil)))) .nil)))) .nil) .nil) (.cons (.if_ (.cmp .eq (.var 2) (.con (.int 7))) (.cons (.ret (.call 37 (.cons (.call 36 (.cons (.var 0) (.cons (.bin .pow (.con (.int 10)) (.con (.int 6))) .nil))) (.cons (.call 31 (.cons (.var 0) (.cons (.con (.int 1)) (.cons (.con (.int 1000)) .nil)))) .nil)))) .nil) .nil) (.cons (.set 3 (.bin .sub (.bin .mul (.bin .mul (.bin .mul (.bin .pow (.con (.int 10)) (.con (.int 64))) (.bin .pow (.con (.int 10)) (.con (.int 64)))) (.bin .pow (.con (.int 10)) (.con (.int 64)))) (.bin .pow (.con (.int 10)) (.con (.int 8)))) (.con (.int 1)))) (.cons (.ret (.call 37 (.cons (.bin .sub (.call 32 (.cons (.var 0) (.cons (.bin .add (.bin .mul (.con (.int 2)) (.var 3)) (.con (.int 1))) .nil))) (.var 3)) (.cons (.bin .add (.con (.int 1)) (.call 32 (.cons (.var 0) (.cons (.var 3) .nil)))) .nil)))) .nil))))))
def f__law_ratio : Fd := ⟨2, 4, b__law_ratio⟩
/-- _law_plus -/
def b__law_plus : Sts := (.cons (.ret (.call 37 (.cons (.bin .add (.bin .mul (.idx (.var 0) (.con (.int 0))) (.idx (.var 1) (.con (.int 1)))) (.bin .mul (.idx (.var 1) (.con (.int 0))) (.idx (.var 0) (.con (.int 1))))) (.cons (.bin .mul (.idx (.var 0) (.con (.int 1))) (.idx (.var 1) (.con (.int 1)))) .nil)))) .nil)
def f__law_plus : Fd := ⟨2, 2, b__law_plus⟩
/-- _law_minus -/
def b__law_minus : Sts := (.cons (.ret (.call 37 (.cons (.bin .sub (.bin .mul (.idx (.var 0) (.con (.int 0))) (.idx (.var 1) (.con (.int 1)))) (.bin .mul (.idx (.var 1) (.con (.int 0))) (.idx (.var 0) (.con (.int 1))))) (.cons (.bin .mul (.idx (.var 0) (.con (.int 1))) (.idx (.var 1) (.con (.int 1)))) .nil)))) .nil)
def f__law_minus : Fd := ⟨2, 2, b__law_minus⟩
/-- _law_times -/
def b__law_times : Sts := (.cons (.ret (.call 37 (.cons (.bin .mul (.idx (.var 0) (.con (.int 0))) (.idx (.var 1) (.con (.int 0)))) (.cons (.bin .mul (.idx (.var 0) (.con (.int 1))) (.idx (.var 1) (.con (.int 1)))) .nil)))) .nil)
def f__law_times : Fd := ⟨2, 2, b__law_times⟩
/-- _law_compare -/
def b__law_compare : Sts := (.cons (.set 2 (.bin .sub (.bin .mul (.idx (.var 0) (.con (.int 0))) (.idx (.var 1) (.con (.int 1)))) (.bin .mul (.idx (.var 1) (.con (.int 0))) (.idx (.var 0) (.con (.int 1)))))) (.cons (.ret (.bin .sub (.blt .int false (.cons (.cmp .gt (.var 2) (.con (.int 0))) .nil)) (.blt .int false (.cons (.cmp .lt (.var 2) (.con (.int 0))) .nil)))) .nil))
def f__law_compare : Fd := ⟨2, 3, b__law_compare⟩
def e__law_form_1 : Ex := (.con (.int 0))
def e__law_form_2 : Ex := (.call 31 (.cons (.var 0) (.cons (.neg (.blt .min false (.cons (.var 2) (.cons (.con (.int 4)) .nil)))) (.cons (.blt .min false (.cons (.var 2) (.cons (.con (.int 4)) .nil))) .nil))))
def e__law_form_3 : Ex := (.call 36 (.cons (.var 0) (.cons (.var 2) .nil)))
/-- _law_form -/
def b__law_form : Sts := (.cons (.set 3 (.call 30 (.cons (.var 0) (.cons (.con (.int 9)) .nil)))) (.cons (.set 4 (.comp true [5] (.one 5) (.rng (.cons (.var 1) .nil)) .nil e__law_form_1)) (.cons (.if_ (.cmp .eq (.var 3) (.con (.int 0))) (.cons (.ret (.blt .tuple false (.cons (.var 4) .nil))) .nil) .nil) (.cons (.if_ (.cmp .eq (.var 3) (.con (.int 1))) (.cons (.seti (.var 4) (.con (.int 0)) (.call 36 (.cons (.var 0) (.cons (.var 2) .nil)))) (.cons (.ret (.blt .tuple false (.cons (.var 4) .nil))) .nil)) .nil) (.cons (.if_ (.cmp .eq (.var 3) (.con (.int 2))) (.cons (.seti (.var 4) (.call 30 (.cons (.var 0) (.cons (.var 1) .nil))) (.call 33 (.cons (.var 0) (.cons (.lst false (.cons (.con (.int 1)) (.cons (.neg (.con (.int 1))) (.cons (.var 2) .nil)))) .nil)))) (.cons (.ret (.blt .tuple false (.cons (.var 4) .nil))) .nil)) .nil) (.cons (.if_ (.cmp .lt (.var 3) (.con (.int 7))) (.cons (.ret (.blt .tuple false (.cons (.comp false [5] (.one 5) (.rng (.cons (.var 1) .nil)) .nil e__law_form_2) .nil))) .nil) .nil) (.cons (.ret (.blt .tuple false (.cons (.comp false [5] (.one 5) (.rng (.cons (.var 1) .nil)) .nil e__law_form_3) .nil))) .nil)))))))
def f__law_form : Fd := ⟨3, 6, b__law_form⟩
/-- _law_is_int -/
def b__law_is_int : Sts := (.cons (.ret (.and_ (.blt .isinst false (.cons (.var 0) (.cons (.con (.ty "int")) .nil))) (.not_ (.blt .isinst false (.cons (.var 0) (.cons (.con (.ty "bool")) .nil)))))) .nil)
def f__law_is_int : Fd := ⟨1, 1, b__law_is_int⟩
def l__law_same_1 : Sts := (.cons (.expr (.meth .append false (.var 2) (.cons (.tup (.cons (.idx (.var 4) (.var 6)) (.cons (.idx (.var 5) (.var 6)) .nil))) .nil))) .nil)
def l__law_same_2 : Sts := (.cons (.if_ (.cmp .eq (.blt .len false (.cons (.var 2) .nil)) (.con (.int 0))) (.cons (.ret (.con (.bl true))) .nil) .nil) (.cons (.unp [4, 5] (.meth .pop false (.var 2) .nil)) (.cons (.if_ (.blt .isinst false (.cons (.var 5) (.cons (.con (.ty "bool")) .nil))) (.cons (.if_ (.or_ (.not_ (.blt .isinst false (.cons (.var 4) (.cons (.con (.ty "bool")) .nil)))) (.cmp .ne (.var 4) (.var 5))) (.cons (.ret (.con (.bl false))) .nil) .nil) .nil) (.cons (.if_ (.cmp .is_ (.var 5) (.con .non)) (.cons (.if_ (.cmp .isnot (.var 4) (.con .non)) (.cons (.ret (.con (.bl false))) .nil) .nil) .nil) (.cons (.if_ (.blt .isinst false (.cons (.var 5) (.cons (.con (.ty "int")) .nil))) (.cons (.if_ (.or_ (.not_ (.call 44 (.cons (.var 4) .nil))) (.cmp .ne (.var 4) (.var 5))) (.cons (.ret (.con (.bl false))) .nil) .nil) .nil) (.cons (.if_ (.blt .isinst false (.cons (.var 5) (.cons (.con (.ty "str")) .nil))) (.cons (.if_ (.or_ (.not_ (.blt .isinst false (.cons (.var 4) (.cons (.con (.ty "str")) .nil)))) (.cmp .ne (.var 4) (.var 5))) (.cons (.ret (.con (.bl false))) .nil) .nil) .nil) (.cons (.if_ (.blt .isinst false (.cons (.var 5) (.cons (.con (.ty "dict")) .nil))) (.cons (.if_ (.not_ (.blt .isinst false (.cons (.var 4) (.cons (.con (.ty "dict")) .nil)))) (.cons (.ret (.con (.bl false))) .nil) .nil) (.cons (.set 4 (.blt .list false (.cons .bad .nil))) (.cons (.set 5 (.blt .list false (.cons .bad .nil))) .nil))) .nil) (.cons (.if_ (.or_ (.cmp .ne (.blt .isinst false (.cons (.var 4) (.cons (.con (.ty "list")) .nil))) (.blt .isinst false (.cons (.var 5) (.cons (.con (.ty "list")) .nil)))) (.cmp .ne (.blt .isinst false (.cons (.var 4) (.cons (.con (.ty "tuple")) .nil))) (.blt .isinst false (.cons (.var 5) (.cons (.con (.ty "tuple")) .nil))))) (.cons (.ret (.con (.bl false))) .nil) .nil) (.cons (.if_ (.cmp .ne (.blt .len false (.cons (.var 4) .nil)) (.blt .len false (.cons (.var 5) .nil))) (.cons (.ret (.con (.bl false))) .nil) .nil) (.cons (.for_ (.one 6) (.rng (.cons (.blt .len false (.cons (.var 5) .nil)) .nil)) l__law_same_1) .nil))))) .nil)) .nil)) .nil)) .nil)))
/-- _law_same -/
def b__law_same : Sts := (.cons (.set 2 (.lst true (.cons (.tup (.cons (.var 0) (.cons (.var 1) .nil))) .nil))) (.cons (.for_ (.one 3) (.rng (.cons (.con (.int 100000)) .nil)) l__law_same_2) (.cons (.ret (.con (.bl false))) .nil)))
def f__law_same : Fd := ⟨2, 7, b__law_same⟩
def l__law_value_1 : Sts := (.cons (.set 2 (.bin .add (.bin .mul (.var 2) (.idx (.idx (.var 1) (.var 4)) (.con (.int 1)))) (.bin .mul (.bin .mul (.idx (.var 0) (.bin .add (.var 4) (.con (.int 1)))) (.idx (.idx (.var 1) (.var 4)) (.con (.int 0)))) (.var 3)))) (.cons (.set 3 (.bin .mul (.var 3) (.idx (.idx (.var 1) (.var 4)) (.con (.int 1))))) .nil))
/-- _law_value -/
def b__law_value : Sts := (.cons (.set 2 (.idx (.var 0) (.con (.int 0)))) (.cons (.set 3 (.con (.int 1))) (.cons (.for_ (.one 4) (.rng (.cons (.blt .len false (.cons (.var 1) .nil)) .nil)) l__law_value_1) (.cons (.ret (.call 37 (.cons (.var 2) (.cons (.var 3) .nil)))) .nil))))
def f__law_value : Fd := ⟨2, 5, b__law_value⟩
def e__law_summed_1 : Ex := (.con (.int 0))
def l__law_summed_1 : Sts := (.cons (.seti (.var 3) (.var 5) (.bin .add (.idx (.var 3) (.var 5)) (.bin .mul (.idx (.var 2) (.var 4)) (.idx (.idx (.var 1) (.var 4)) (.var 5))))) .nil)
def l__law_summed_2 : Sts := (.cons (.for_ (.one 5) (.rng (.cons (.var 0) .nil)) l__law_summed_1) .nil)
/-- _law_summed -/
def b__law_summed : Sts := (.cons (.set 3 (.comp true [5] (.one 5) (.rng (.cons (.var 0) .nil)) .nil e__law_summed_1)) (.cons (.for_ (.one 4) (.rng (.cons (.blt .len false (.cons (.var 1) .nil)) .nil)) l__law_summed_2) (.cons (.ret (.blt .tuple false (.cons (.var 3) .nil))) .nil)))
def f__law_summed : Fd := ⟨3, 6, b__law_summed⟩
def l__law_before_1 : Sts := (.cons (.if_ (.cmp .ne (.idx (.var 0) (.var 2)) (.idx (.var 1) (.var 2))) (.cons (.ret (.call 42 (.cons (.idx (.var 0) (.var 2)) (.cons (.idx (.var 1) (.var 2)) .nil)))) .nil) .nil) .nil)
/-- _law_before -/
def b__law_before : Sts := (.cons (.for_ (.one 2) (.rng (.cons (.blt .len false (.cons (.var 0) .nil)) .nil)) l__law_before_1) (.cons (.ret (.con (.int 0))) .nil))
def f__law_before : Fd := ⟨2, 3, b__law_before⟩
def e__law_spots_1 : Ex := (.call 38 (.cons (.var 0) (.cons (.con (.bl true)) .nil)))
def e__law_spots_2 : Ex := (.call 37 (.cons (.call 31 (.cons (.var 0) (.cons (.neg (.con (.int 30))) (.cons (.con (.int 30)) .nil)))) (.cons (.bin .add (.con (.int 1)) (.call 30 (.cons (.var 0) (.cons (.con (.int 6)) .nil)))) .nil)))
def l__law_spots_1 : Sts := (.cons (.if_ (.var 3) (.cons (.expr (.meth .append false (.var 4) (.cons (.blt .tuple false (.cons (.comp false [6] (.one 6) (.rng (.cons (.var 1) .nil)) .nil e__law_spots_1) .nil)) .nil))) .nil) (.cons (.expr (.meth .append false (.var 4) (.cons (.blt .tuple false (.cons (.comp false [6] (.one 6) (.rng (.cons (.var 1) .nil)) .nil e__law_spots_2) .nil)) .nil))) .nil)) .nil)
/-- _law_spots -/
def b__law_spots : Sts := (.cons (.set 4 (.lst true .nil)) (.cons (.for_ (.one 5) (.rng (.cons (.var 2) .nil)) l__law_spots_1) (.cons (.frz 4) (.cons (.ret (.var 4)) .nil))))
def f__law_spots : Fd := ⟨4, 7, b__law_spots⟩
def l__law_between_1 : Sts := (.cons (.unp [5, 6] (.idx (.var 0) (.var 4))) (.cons (.unp [7, 8] (.idx (.var 1) (.var 4))) (.cons (.expr (.meth .append false (.var 3) (.cons (.call 37 (.cons (.bin .add (.bin .mul (.bin .mul (.var 5) (.var 8)) (.bin .sub (.idx (.var 2) (.con (.int 1))) (.idx (.var 2) (.con (.int 0))))) (.bin .mul (.bin .mul (.var 7) (.var 6)) (.idx (.var 2) (.con (.int 0))))) (.cons (.bin .mul (.bin .mul (.var 6) (.var 8)) (.idx (.var 2) (.con (.int 1)))) .nil))) .nil))) .nil)))
/-- _law_between -/
def b__law_between : Sts := (.cons (.set 3 (.lst true .nil)) (.cons (.for_ (.one 4) (.rng (.cons (.blt .len false (.cons (.var 0) .nil)) .nil)) l__law_between_1) (.cons (.ret (.blt .tuple false (.cons (.var 3) .nil))) .nil)))
def f__law_between : Fd := ⟨3, 9, b__law_between⟩
def l__law_mean_1 : Sts := (.cons (.set 5 (.bin .mul (.idx (.call 37 (.cons (.var 5) (.cons (.idx (.idx (.var 6) (.var 4)) (.con (.int 1))) .nil))) (.con (.int 0))) (.idx (.idx (.var 6) (.var 4)) (.con (.int 1))))) .nil)
def l__law_mean_2 : Sts := (.cons (.set 7 (.bin .add (.var 7) (.bin .mul (.bin .mul (.idx (.var 2) (.var 8)) (.idx (.idx (.idx (.var 1) (.var 8)) (.var 4)) (.con (.int 0)))) (.bin .fdiv (.var 5) (.idx (.idx (.idx (.var 1) (.var 8)) (.var 4)) (.con (.int 1))))))) .nil)
def l__law_mean_3 : Sts := (.cons (.set 5 (.con (.int 1))) (.cons (.for_ (.one 6) (.seq (.var 1)) l__law_mean_1) (.cons (.set 7 (.con (.int 0))) (.cons (.for_ (.one 8) (.rng (.cons (.blt .len false (.cons (.var 1) .nil)) .nil)) l__law_mean_2) (.cons (.expr (.meth .append false (.var 3) (.cons (.call 37 (.cons (.var 7) (.cons (.bin .mul (.var 5) (.blt .sum false (.cons (.var 2) .nil))) .nil))) .nil))) .nil)))))
/-- _law_mean -/
def b__law_mean : Sts := (.cons (.set 3 (.lst true .nil)) (.cons (.for_ (.one 4) (.rng (.cons (.var 0) .nil)) l__law_mean_3) (.cons (.ret (.blt .tuple false (.cons (.var 3) .nil))) .nil)))
def f__law_mean : Fd := ⟨3, 9, b__law_mean⟩
/-- _law_call -/
def b__law_call : Sts := (.cons (.if_ (.cmp .eq (.var 0) (.con (.int 0))) (.cons (.ret (.call 26 (.cons (.idx (.var 1) (.con (.int 0))) (.cons (.idx (.var 1) (.con (.int 1))) (.cons (.idx (.var 1) (.con (.int 2))) .nil))))) .nil) .nil) (.cons (.if_ (.cmp .eq (.var 0) (.con (.int 1))) (.cons (.ret (.call 22 (.cons (.idx (.var 1) (.con (.int 0))) (.cons (.idx (.var 1) (.con (.int 1))) .nil)))) .nil) .nil) (.cons (.if_ (.cmp .eq (.var 0) (.con (.int 2))) (.cons (.ret (.call 25 (.cons (.idx (.var 1) (.con (.int 0))) (.cons (.idx (.var 1) (.con (.int 1))) .nil)))) .nil) .nil) (.cons (.if_ (.cmp .eq (.var 0) (.con (.int 3))) (.cons (.ret (.call 27 (.cons (.idx (.var 1) (.con (.int 0))) (.cons (.idx (.var 1) (.con (.int 1))) .nil)))) .nil) .nil) (.cons (.if_ (.cmp .eq (.var 0) (.con (.int 4))) (.cons (.ret (.call 23 (.cons (.idx (.var 1) (.con (.int 0))) (.cons (.idx (.var 1) (.con (.int 1))) .nil)))) .nil) .nil) (.cons (.if_ (.cmp .eq (.var 0) (.con (.int 5))) (.cons (.ret (.call 15 (.cons (.idx (.var 1) (.con (.int 0))) .nil))) .nil) .nil) (.cons (.ret (.callv (.idx (.lst false (.cons (.glo (.fn 11)) (.cons (.glo (.fn 12)) (.cons (.glo (.fn 13)) (.cons (.glo (.fn 14)) .nil))))) (.bin .sub (.var 0) (.con (.int 6)))) (.cons (.idx (.var 1) (.con (.int 0))) (.cons (.idx (.var 1) (.con (.int 1))) .nil)))) .nil)))))))
def f__law_call : Fd := ⟨2, 2, b__law_call⟩
/-- _law_class -/
def b__law_class : Sts := (.cons (.try_ (.cons (.expr (.call 52 (.cons (.var 0) (.cons (.var 1) .nil)))) .nil) 0 (some 2) (.cons (.ret (.lst false (.cons (.isE 2) (.cons (.isE 3) (.cons (.isE 1) .nil))))) .nil)) (.cons (.ret (.lst false .nil)) .nil))
def f__law_class : Fd := ⟨2, 3, b__law_class⟩
/-- _law_bad -/
def b__law_bad : Sts := (.cons (.set 3 (.lst false (.cons (.con .non) (.cons (.con (.bl true)) (.cons (.con (.str [49])) (.cons (.tup (.cons (.con (.str [49])) .nil)) (.cons (.con (.int 0)) .nil))))))) (.cons (.if_ (.cmp .eq (.var 1) (.con (.str [115, 112, 111, 116]))) (.cons (.set 3 (.bin .add (.var 3) (.lst false (.cons (.blt .list false (.cons (.var 2) .nil)) (.cons (.bin .add (.slc false (.var 2) .nil (.cons (.neg (.con (.int 1))) .nil)) (.tup (.cons (.tup (.cons (.con (.int 2)) (.cons (.con (.int 2)) .nil))) .nil))) (.cons (.bin .add (.tup (.cons (.tup (.cons (.con (.int 1)) (.cons (.con (.int 0)) .nil))) .nil)) (.slc false (.var 2) (.cons (.con (.int 1)) .nil) .nil)) (.cons (.bin .add (.tup (.cons (.tup (.cons (.neg (.con (.int 1))) (.cons (.neg (.con (.int 1))) .nil))) .nil)) (.slc false (.var 2) (.cons (.con (.int 1)) .nil) .nil)) (.cons (.bin .add (.var 2) (.tup (.cons (.con (.int 0)) .nil))) .nil)))))))) .nil) .nil) (.cons (.if_ (.cmp .eq (.var 1) (.con (.str [114, 97, 116, 105, 111]))) (.cons (.set 3 (.bin .add (.var 3) (.lst false (.cons (.blt .list false (.cons (.var 2) .nil)) (.cons (.tup (.cons (.bin .mul (.con (.int 2)) (.idx (.var 2) (.con (.int 0)))) (.cons (.bin .mul (.con (.int 2)) (.idx (.var 2) (.con (.int 1)))) .nil))) (.cons (.tup (.cons (.idx (.var 2) (.con (.int 0))) (.cons (.con (.bl true)) .nil))) (.cons (.tup (.cons (.idx (.var 2) (.con (.int 0))) (.cons (.neg (.idx (.var 2) (.con (.int 1)))) .nil))) (.cons (.bin .add (.var 2) (.tup (.cons (.con (.int 1)) .nil))) .nil)))))))) .nil) .nil) (.cons (.if_ (.cmp .eq (.var 1) (.con (.str [102, 111, 114, 109]))) (.cons (.set 3 (.bin .add (.var 3) (.lst false (.cons (.blt .list false (.cons (.var 2) .nil)) (.cons (.bin .add (.var 2) (.tup (.cons (.con (.int 0)) (.cons (.con (.int 0)) (.cons (.con (.int 0)) .nil))))) (.cons (.slc false (.var 2) .nil (.cons (.con (.int 1)) .nil)) (.cons (.bin .add (.tup (.cons (.con (.bl true)) .nil)) (.slc false (.var 2) (.cons (.con (.int 1)) .nil) .nil)) (.cons (.bin .add (.slc false (.var 2) .nil (.cons (.neg (.con (.int 1))) .nil)) (.tup (.cons (.tup (.cons (.con (.int 1)) (.cons (.con (.int 1)) .nil))) .nil))) .nil)))))))) .nil) .nil) (.cons (.if_ (.cmp .in_ (.var 1) (.tup (.cons (.con (.str [115, 112, 111, 116, 115])) (.cons (.con (.str [114, 97, 116, 105, 111, 115])) (.cons (.con (.str [102, 111, 114, 109, 115])) .nil))))) (.cons (.set 4 (.ite (.cmp .gt (.blt .len false (.cons (.var 2) .nil)) (.con (.int 1))) (.blt .list true (.cons (.var 2) .nil)) (.lst true (.cons (.idx (.var 2) (.con (.int 0))) (.cons (.idx (.var 2) (.con (.int 0))) .nil))))) (.cons (.set 5 (.call 54 (.cons (.var 0) (.cons (.slc false (.var 1) .nil (.cons (.neg (.con (.int 1))) .nil)) (.cons (.idx (.var 2) (.con (.int 0))) .nil))))) (.cons (.if_ (.and_ (.cmp .ne (.var 1) (.con (.str [114, 97, 116, 105, 111, 115]))) (.cmp .eq (.call 30 (.cons (.var 0) (.cons (.con (.int 3)) .nil))) (.con (.int 0)))) (.cons (.set 5 (.bin .add (.idx (.var 2) (.con (.int 0))) (.slc false (.idx (.var 2) (.con (.int 0))) .nil (.cons (.con (.int 1)) .nil)))) .nil) .nil) (.cons (.seti (.var 4) (.call 30 (.cons (.var 0) (.cons (.blt .len false (.cons (.var 4) .nil)) .nil))) (.var 5)) (.cons (.frz 4) (.cons (.set 3 (.bin .add (.var 3) (.lst false (.cons (.var 4) (.cons (.blt .tuple false (.cons (.var 4) .nil)) (.cons (.var 4) (.cons (.ite (.cmp .eq (.var 1) (.con (.str [114, 97, 116, 105, 111, 115]))) (.con (.str [97, 98])) (.lst false .nil)) .nil))))))) .nil)))))) .nil) (.cons (.if_ (.cmp .in_ (.var 1) (.tup (.cons (.con (.str [99, 111, 117, 110, 116, 115])) (.cons (.con (.str [110, 117, 109, 98, 101, 114, 115])) .nil)))) (.cons (.set 4 (.blt .list true (.cons (.var 2) .nil))) (.cons (.set 6 (.lst false (.cons (.con (.bl true)) (.cons (.con .non) (.cons (.con (.str [49])) (.cons (.tup (.cons (.con (.int 1)) (.cons (.con (.int 1)) .nil))) .nil)))))) (.cons (.if_ (.cmp .eq (.var 1) (.con (.str [99, 111, 117, 110, 116, 115]))) (.cons (.set 6 (.bin .add (.var 6) (.lst false (.cons (.con (.int 0)) (.cons (.neg (.con (.int 1))) (.cons (.con (.bl false)) .nil)))))) .nil) .nil) (.cons (.seti (.var 4) (.call 30 (.cons (.var 0) (.cons (.blt .len false (.cons (.var 4) .nil)) .nil))) (.call 33 (.cons (.var 0) (.cons (.var 6) .nil)))) (.cons (.frz 4) (.cons (.set 3 (.bin .add (.var 3) (.lst false (.cons (.var 4) (.cons (.blt .tuple false (.cons (.var 4) .nil)) (.cons (.slc false (.blt .list false (.cons (.var 2) .nil)) (.cons (.con (.int 1)) .nil) .nil) (.cons (.ite (.cmp .lt (.blt .len false (.cons (.var 2) .nil)) (.con (.int 80))) (.bin .add (.blt .list false (.cons (.var 2) .nil)) (.lst false (.cons (.con (.int 1)) .nil))) (.lst false .nil)) .nil))))))) .nil)))))) .nil) (.cons (.ret (.call 33 (.cons (.var 0) (.cons (.var 3) .nil)))) .nil)))))))
def f__law_bad : Fd := ⟨3, 7, b__law_bad⟩
def l__law_refusals_1 : Sts := (.cons (.if_ (.or_ (.cmp .eq (.var 10) (.var 8)) (.cmp .eq (.var 10) (.var 9))) (.cons (.seti (.var 7) (.var 10) (.call 54 (.cons (.var 0) (.cons (.idx (.var 5) (.var 10)) (.cons (.idx (.var 7) (.var 10)) .nil))))) .nil) .nil) .nil)
def l__law_refusals_2 : Sts := (.cons (.unp [3, 4, 5, 6] (.call 33 (.cons (.var 0) (.cons (.var 1) .nil)))) (.cons (.set 7 (.blt .list true (.cons (.var 4) .nil))) (.cons (.set 8 (.call 30 (.cons (.var 0) (.cons (.blt .len false (.cons (.var 5) .nil)) .nil)))) (.cons (.set 9 (.call 30 (.cons (.var 0) (.cons (.blt .len false (.cons (.var 5) .nil)) .nil)))) (.cons (.for_ (.one 10) (.rng (.cons (.blt .len false (.cons (.var 5) .nil)) .nil)) l__law_refusals_1) (.cons (.set 11 (.idx (.var 5) (.blt .min false (.cons (.var 8) (.cons (.var 9) .nil))))) (.cons (.if_ (.cmp .ne (.call 53 (.cons (.var 3) (.cons (.var 7) .nil))) (.lst false (.cons (.cmp .eq (.slc false (.var 11) .nil (.cons (.con (.int 4)) .nil)) (.con (.str [102, 111, 114, 109]))) (.cons (.cmp .eq (.slc false (.var 11) .nil (.cons (.con (.int 4)) .nil)) (.con (.str [115, 112, 111, 116]))) (.cons (.cmp .notin (.slc false (.var 11) .nil (.cons (.con (.int 4)) .nil)) (.tup (.cons (.con (.str [102, 111, 114, 109])) (.cons (.con (.str [115, 112, 111, 116])) .nil)))) .nil))))) (.cons (.ret (.con (.bl false))) .nil) .nil) .nil)))))))
/-- _law_refusals -/
def b__law_refusals : Sts := (.cons (.for_ (.one 2) (.rng (.cons (.con (.int 5)) .nil)) l__law_refusals_2) (.cons (.unp [12, 13, 14] (.idx (.idx (.var 1) (.con (.int 0))) (.con (.int 1)))) (.cons (.set 15 (.call 53 (.cons (.con (.int 0)) (.cons (.lst false (.cons (.var 12) (.cons (.bin .add (.var 13) (.slc false (.var 13) .nil (.cons (.con (.int 1)) .nil))) (.cons (.var 14) .nil)))) .nil)))) (.cons (.ret (.and_ (.cmp .eq (.var 15) (.lst false (.cons (.con (.bl false)) (.cons (.con (.bl true)) (.cons (.con (.bl false)) .nil))))) (.cmp .eq (.call 53 (.cons (.con (.int 9)) (.cons (.lst false (.cons (.var 14) (.cons (.tup (.cons (.con (.int 0)) (.cons (.con (.int 1)) .nil))) .nil))) .nil))) (.lst false (.cons (.con (.bl false)) (.cons (.con (.bl false)) (.cons (.con (.bl true)) .nil))))))) .nil))))
def f__law_refusals : Fd := ⟨2, 16, b__law_refusals⟩
def e__law_cases_1 : Ex := (.call 33 (.cons (.var 0) (.cons (.lst false (.cons (.con (.int 1)) (.cons (.con (.int 1)) (.cons (.con (.int 2)) (.cons (.con (.int 3)) (.cons (.con (.int 50)) (.cons (.bin .add (.con (.int 1)) (.call 30 (.cons (.var 0) (.cons (.bin .pow (.con (.int 10)) (.con (.int 6))) .nil)))) .nil))))))) .nil)))
def e__law_cases_2 : Ex := (.call 43 (.cons (.var 0) (.cons (.bin .add (.var 1) (.con (.int 1))) (.cons (.bin .pow (.con (.int 10)) (.con (.int 30))) .nil))))
def e__law_cases_3 : Ex := (.call 36 (.cons (.var 0) (.cons (.bin .pow (.con (.int 10)) (.con (.int 20))) .nil)))
def e__law_cases_4 : Ex := (.idx (.var 15) (.con (.int 0)))
def e__law_cases_5 : Ex := (.con (.int 1))
def e__law_cases_6 : Ex := (.tup (.cons (.var 18) .nil))
def x__law_cases_9 : Ex := (.tup (.cons (.con (.int 8)) (.cons (.lst false (.cons (.var 5) (.cons (.var 13) .nil))) (.cons (.lst false (.cons (.con (.str [114, 97, 116, 105, 111])) (.cons (.con (.str [114, 97, 116, 105, 111])) .nil))) (.cons (.call 41 (.cons (.var 5) (.cons (.var 13) .nil))) .nil)))))
def x__law_cases_8 : Ex := (.tup (.cons (.con (.int 7)) (.cons (.lst false (.cons (.idx (.var 4) (.con (.int 0))) (.cons (.var 14) .nil))) (.cons (.lst false (.cons (.con (.str [114, 97, 116, 105, 111])) (.cons (.con (.str [114, 97, 116, 105, 111])) .nil))) (.cons (.call 40 (.cons (.idx (.var 4) (.con (.int 0))) (.cons (.var 14) .nil))) .nil)))))
def x__law_cases_7 : Ex := (.tup (.cons (.con (.int 6)) (.cons (.lst false (.cons (.idx (.var 3) (.con (.int 0))) (.cons (.var 5) .nil))) (.cons (.lst false (.cons (.con (.str [114, 97, 116, 105, 111])) (.cons (.con (.str [114, 97, 116, 105, 111])) .nil))) (.cons (.var 14) .nil)))))
def x__law_cases_6 : Ex := (.tup (.cons (.con (.int 5)) (.cons (.lst false (.cons (.var 12) .nil)) (.cons (.lst false (.cons (.con (.str [114, 97, 116, 105, 111, 115])) .nil)) (.cons (.var 13) .nil)))))
def x__law_cases_5 : Ex := (.tup (.cons (.con (.int 4)) (.cons (.lst false (.cons (.idx (.var 8) (.con (.int 0))) (.cons (.var 10) .nil))) (.cons (.lst false (.cons (.con (.str [102, 111, 114, 109])) (.cons (.con (.str [115, 112, 111, 116])) .nil))) (.cons (.call 46 (.cons (.idx (.var 8) (.con (.int 0))) (.cons (.var 10) .nil))) .nil)))))
def x__law_cases_4 : Ex := (.tup (.cons (.con (.int 3)) (.cons (.lst false (.cons (.var 11) (.cons (.var 10) .nil))) (.cons (.lst false (.cons (.con (.str [115, 112, 111, 116])) (.cons (.con (.str [115, 112, 111, 116])) .nil))) (.cons (.call 48 (.cons (.var 11) (.cons (.var 10) .nil))) .nil)))))
def x__law_cases_3 : Ex := (.tup (.cons (.con (.int 2)) (.cons (.lst false (.cons (.var 6) (.cons (.var 7) .nil))) (.cons (.lst false (.cons (.con (.str [115, 112, 111, 116, 115])) (.cons (.con (.str [99, 111, 117, 110, 116, 115])) .nil))) (.cons (.var 11) .nil)))))
def x__law_cases_2 : Ex := (.tup (.cons (.con (.int 1)) (.cons (.lst false (.cons (.var 8) (.cons (.var 9) .nil))) (.cons (.lst false (.cons (.con (.str [102, 111, 114, 109, 115])) (.cons (.con (.str [110, 117, 109, 98, 101, 114, 115])) .nil))) (.cons (.call 47 (.cons (.bin .add (.var 1) (.con (.int 1))) (.cons (.var 8) (.cons (.var 9) .nil)))) .nil)))))
def x__law_cases_1 : Ex := (.tup (.cons (.con (.int 0)) (.cons (.lst false (.cons (.var 3) (.cons (.var 4) (.cons (.var 5) .nil)))) (.cons (.lst false (.cons (.con (.str [115, 112, 111, 116])) (.cons (.con (.str [115, 112, 111, 116])) (.cons (.con (.str [114, 97, 116, 105, 111])) .nil)))) (.cons (.var 10) .nil)))))
def s__law_cases_1 : St := (.unp [3, 4] (.call 49 (.cons (.var 0) (.cons (.var 1) (.cons (.con (.int 2)) (.cons (.var 2) .nil))))))
def s__law_cases_2 : St := (.set 4 (.ite (.cmp .eq (.call 30 (.cons (.var 0) (.cons (.con (.int 6)) .nil))) (.con (.int 0))) (.var 3) (.var 4)))
def s__law_cases_3 : St := (.set 5 (.call 38 (.cons (.var 0) (.cons (.var 2) .nil))))
def s__law_cases_4 : St := (.set 6 (.call 49 (.cons (.var 0) (.cons (.var 1) (.cons (.call 35 (.cons (.var 0) (.cons (.con (.int 1)) (.cons (.ite (.var 2) (.con (.int 4)) (.con (.int 80))) .nil)))) (.cons (.var 2) .nil))))))
def s__law_cases_5 : St := (.set 7 (.comp true [15] (.one 15) (.seq (.var 6)) .nil e__law_cases_1))
def s__law_cases_6 : St := (.seti (.var 7) (.neg (.con (.int 1))) (.call 33 (.cons (.var 0) (.cons (.lst false (.cons (.con (.int 1)) (.cons (.con (.int 4)) (.cons (.bin .pow (.con (.int 10)) (.con (.int 40))) .nil)))) .nil))))
def s__law_cases_7 : St := (.frz 7)
def s__law_cases_8 : St := (.set 8 (.comp false [16] (.one 16) (.rng (.cons (.call 35 (.cons (.var 0) (.cons (.con (.int 1)) (.cons (.con (.int 80)) .nil)))) .nil)) .nil e__law_cases_2))
def s__law_cases_9 : St := (.set 9 (.comp false [17] (.one 17) (.seq (.var 8)) .nil e__law_cases_3))
def s__law_cases_10 : St := (.set 10 (.call 50 (.cons (.var 3) (.cons (.var 4) (.cons (.var 5) .nil)))))
def s__law_cases_11 : St := (.set 11 (.call 51 (.cons (.var 1) (.cons (.var 6) (.cons (.var 7) .nil)))))
def s__law_cases_12 : St := (.set 12 (.comp false [15] (.one 15) (.seq (.var 6)) .nil e__law_cases_4))
def s__law_cases_13 : St := (.set 13 (.call 41 (.cons (.idx (.call 51 (.cons (.con (.int 1)) (.cons (.comp false [18] (.one 18) (.seq (.var 12)) .nil e__law_cases_6) (.cons (.comp false [18] (.one 18) (.seq (.var 12)) .nil e__law_cases_5) .nil)))) (.con (.int 0))) (.cons (.tup (.cons (.blt .len false (.cons (.var 12) .nil)) (.cons (.con (.int 1)) .nil))) .nil))))
def s__law_cases_14 : St := (.set 14 (.call 39 (.cons (.idx (.var 3) (.con (.int 0))) (.cons (.var 5) .nil))))
def s__law_cases_15 : St := (.ret (.lst false (.cons x__law_cases_1 (.cons x__law_cases_2 (.cons x__law_cases_3 (.cons x__law_cases_4 (.cons x__law_cases_5 (.cons x__law_cases_6 (.cons x__law_cases_7 (.cons x__law_cases_8 (.cons x__law_cases_9 .nil)))))))))))
def r__law_cases_15 : Sts := .cons s__law_cases_15 .nil
def r__law_cases_14 : Sts := .cons s__law_cases_14 r__law_cases_15
def r__law_cases_13 : Sts := .cons s__law_cases_13 r__law_cases_14
def r__law_cases_12 : Sts := .cons s__law_cases_12 r__law_cases_13
def r__law_cases_11 : Sts := .cons s__law_cases_11 r__law_cases_12
def r__law_cases_10 : Sts := .cons s__law_cases_10 r__law_cases_11
def r__law_cases_9 : Sts := .cons s__law_cases_9 r__law_cases_10
def r__law_cases_8 : Sts := .cons s__law_cases_8 r__law_cases_9
def r__law_cases_7 : Sts := .cons s__law_cases_7 r__law_cases_8
def r__law_cases_6 : Sts := .cons s__law_cases_6 r__law_cases_7
def r__law_cases_5 : Sts := .cons s__law_cases_5 r__law_cases_6
def r__law_cases_4 : Sts := .cons s__law_cases_4 r__law_cases_5
def r__law_cases_3 : Sts := .cons s__law_cases_3 r__law_cases_4
def r__law_cases_2 : Sts := .cons s__law_cases_2 r__law_cases_3
def r__law_cases_1 : Sts := .cons s__law_cases_1 r__law_cases_2
/-- _law_cases -/
def b__law_cases : Sts := r__law_cases_1
def f__law_cases : Fd := ⟨3, 19, b__law_cases⟩
def e_law_1 : Ex := (.ite (.blt .isinst false (.cons (.var 20) (.cons (.con (.ty "list")) .nil))) (.call 34 (.cons (.var 1) (.cons (.var 20) .nil))) (.var 20))
def e_law_2 : Ex := (.blt .list false (.cons (.var 20) .nil))
def e_law_3 : Ex := (.blt .list false (.cons (.var 20) .nil))
def l_law_1 : Sts := (.cons (.set 10 (.comp false [20] (.one 20) (.seq (.var 7)) .nil e_law_1)) (.cons (.set 11 (.comp false [20] (.one 20) (.seq (.var 10)) .nil e_law_2)) (.cons (.if_ (.or_ (.not_ (.call 45 (.cons (.call 52 (.cons (.var 6) (.cons (.var 10) .nil))) (.cons (.var 9) .nil)))) (.cmp .ne (.comp false [20] (.one 20) (.seq (.var 10)) .nil e_law_3) (.var 11))) (.cons (.ret (.con (.bl false))) .nil) .nil) .nil)))
def l_law_2 : Sts := (.cons (.for_ (.many [6, 7, 8, 9]) (.seq (.var 4)) l_law_1) (.cons (.if_ (.and_ (.cmp .eq (.var 5) (.con (.int 0))) (.not_ (.call 55 (.cons (.var 1) (.cons (.ite (.var 3) (.call 56 (.cons (.var 1) (.cons (.var 2) (.cons (.con (.bl false)) .nil)))) (.var 4)) .nil))))) (.cons (.ret (.con (.bl false))) .nil) .nil) .nil))
def e_law_4 : Ex := (.call 48 (.cons (.var 17) (.cons (.var 19) .nil)))
def e_law_5 : Ex := (.call 27 (.cons (.var 17) (.cons (.var 19) .nil)))
def l_law_3 : Sts := (.cons (.set 18 (.comp false [19] (.one 19) (.seq (.var 16)) .nil e_law_4)) (.cons (.if_ (.not_ (.call 45 (.cons (.comp false [19] (.one 19) (.seq (.var 16)) .nil e_law_5) (.cons (.var 18) .nil)))) (.cons (.ret (.con (.bl false))) .nil) .nil) .nil))
/-- law -/
def b_law : Sts := (.cons (.set 1 (.call 29 (.cons (.var 0) .nil))) (.cons (.set 2 (.bin .add (.con (.int 1)) (.call 30 (.cons (.var 1) (.cons (.con (.int 3)) .nil))))) (.cons (.set 3 (.cmp .eq (.call 30 (.cons (.var 1) (.cons (.con (.int 6)) .nil))) (.con (.int 5)))) (.cons (.set 4 (.call 56 (.cons (.var 1) (.cons (.var 2) (.cons (.var 3) .nil))))) (.cons (.for_ (.one 5) (.rng (.cons (.con (.int 2)) .nil)) l_law_2) (.cons (.unp [12, 13, 14] (.idx (.idx (.var 4) (.con (.int 0))) (.con (.int 1)))) (.cons (.set 15 (.idx (.idx (.var 4) (.con (.int 0))) (.con (.int 3)))) (.cons (.if_ (.not_ (.call 45 (.cons (.call 26 (.cons (.var 13) (.cons (.var 12) (.cons (.call 12 (.cons (.tup (.cons (.con (.int 1)) (.cons (.con (.int 1)) .nil))) (.cons (.var 14) .nil))) .nil)))) (.cons (.var 15) .nil)))) (.cons (.ret (.con (.bl false))) .nil) .nil) (.cons (.if_ (.not_ (.call 45 (.cons (.call 11 (.cons (.idx (.var 12) (.con (.int 0))) (.cons (.call 13 (.cons (.var 14) (.cons (.call 12 (.cons (.idx (.var 13) (.con (.int 0))) (.cons (.idx (.var 12) (.con (.int 0))) .nil))) .nil))) .nil))) (.cons (.idx (.var 15) (.con (.int 0))) .nil)))) (.cons (.ret (.con (.bl false))) .nil) .nil) (.cons (.if_ (.and_ (.cmp .ne (.idx (.var 12) (.con (.int 0))) (.idx (.var 13) (.con (.int 0)))) (.not_ (.call 45 (.cons (.call 14 (.cons (.call 12 (.cons (.idx (.var 15) (.con (.int 0))) (.cons (.idx (.var 12) (.con (.int 0))) .nil))) (.cons (.call 12 (.cons (.idx (.var 13) (.con (.int 0))) (.cons (.idx (.var 12) (.con (.int 0))) .nil))) .nil))) (.cons (.var 14) .nil))))) (.cons (.ret (.con (.bl false))) .nil) .nil) (.cons (.set 16 (.lst false (.cons (.var 12) (.cons (.var 13) (.cons (.var 15) (.cons (.idx (.idx (.var 4) (.con (.int 2))) (.con (.int 3))) (.cons (.idx (.idx (.idx (.idx (.var 4) (.con (.int 2))) (.con (.int 1))) (.con (.int 0))) (.con (.int 0))) (.cons (.idx (.idx (.idx (.idx (.var 4) (.con (.int 2))) (.con (.int 1))) (.con (.int 0))) (.neg (.con (.int 1)))) .nil)))))))) (.cons (.for_ (.one 17) (.seq (.var 16)) l_law_3) (.cons (.ret (.con (.bl true))) .nil)))))))))))))
def f_law : Fd := ⟨1, 21, b_law⟩
def T : List Fd := [f_is_whole, f_is_sequence, f_common_divisor, f_is_ratio, f_check_ratio, f_check_ratios, f_opposite, f_sum_of, f_product_of, f_sign_of, f_order_of, f_plus, f_minus, f_times, f_over, f_total, f_are_integers, f_are_ratios, f_check_form, f_check_forms, f_check_spot, f_check_two_spots, f_combine, f_value, f_check_counts, f_mean_spot, f_between, f_compare_spots, f__law_mix, f__law_store, f__law_take, f__law_span, f__law_wide, f__law_pick, f__law_sequence, f__law_count, f__law_integer, f__law_lowest, f__law_ratio, f__law_plus, f__law_minus, f__law_times, f__law_compare, f__law_form, f__law_is_int, f__law_same, f__law_value, f__law_summed, f__law_before, f__law_spots, f__law_between, f__law_mean, f__law_call, f__law_class, f__law_bad, f__law_refusals, f__law_cases, f_law]
abbrev i_is_whole : Nat := 0
abbrev i_is_sequence : Nat := 1
abbrev i_common_divisor : Nat := 2
abbrev i_is_ratio : Nat := 3
abbrev i_check_ratio : Nat := 4
abbrev i_check_ratios : Nat := 5
abbrev i_opposite : Nat := 6
abbrev i_sum_of : Nat := 7
abbrev i_product_of : Nat := 8
abbrev i_sign_of : Nat := 9
abbrev i_order_of : Nat := 10
abbrev i_plus : Nat := 11
abbrev i_minus : Nat := 12
abbrev i_times : Nat := 13
abbrev i_over : Nat := 14
abbrev i_total : Nat := 15
abbrev i_are_integers : Nat := 16
abbrev i_are_ratios : Nat := 17
abbrev i_check_form : Nat := 18
abbrev i_check_forms : Nat := 19
abbrev i_check_spot : Nat := 20
abbrev i_check_two_spots : Nat := 21
abbrev i_combine : Nat := 22
abbrev i_value : Nat := 23
abbrev i_check_counts : Nat := 24
abbrev i_mean_spot : Nat := 25
abbrev i_between : Nat := 26
abbrev i_compare_spots : Nat := 27
abbrev i__law_mix : Nat := 28
abbrev i__law_store : Nat := 29
abbrev i__law_take : Nat := 30
abbrev i__law_span : Nat := 31
abbrev i__law_wide : Nat := 32
abbrev i__law_pick : Nat := 33
abbrev i__law_sequence : Nat := 34
abbrev i__law_count : Nat := 35
abbrev i__law_integer : Nat := 36
abbrev i__law_lowest : Nat := 37
abbrev i__law_ratio : Nat := 38
abbrev i__law_plus : Nat := 39
abbrev i__law_minus : Nat := 40
abbrev i__law_times : Nat := 41
abbrev i__law_compare : Nat := 42
abbrev i__law_form : Nat := 43
abbrev i__law_is_int : Nat := 44
abbrev i__law_same : Nat := 45
abbrev i__law_value : Nat := 46
abbrev i__law_summed : Nat := 47
abbrev i__law_before : Nat := 48
abbrev i__law_spots : Nat := 49
abbrev i__law_between : Nat := 50
abbrev i__law_mean : Nat := 51
abbrev i__law_call : Nat := 52
abbrev i__law_class : Nat := 53
abbrev i__law_bad : Nat := 54
abbrev i__law_refusals : Nat := 55
abbrev i__law_cases : Nat := 56
abbrev i_law : Nat := 57
abbrev c_NearError : Nat := 0
abbrev c_BadNumber : Nat := 1
abbrev c_BadForm : Nat := 2
abbrev c_BadSpot : Nat := 3
end K15

set_option Elab.async false
set_option linter.all false
set_option maxRecDepth 100000
set_option maxHeartbeats 0
namespace K15
open PySem PySem.Spec PyProof.Rows L2 Mp
def top (i : Nat) : Stmt := PySem.Challenge.pw_nearerhop_k15_mixes_of_spots_and_forms.main.body.getD i (.Pass ⟨0, 0, 0, 0⟩)
def dd (x : Str) (i : Nat) : He.DefD := match top i with
  | .FunctionDef n a b _ _ _ sc _ _ _ => ⟨(x, none), n, n, a, b, sc, [], []⟩
  | _ => ⟨(x, none), x, x, ⟨[], [], none, [], [], none, []⟩, [], ⟨.function, [], false, false, []⟩, [], []⟩
def fns0 : List Str := ["is_whole", "is_sequence", "common_divisor", "is_ratio", "check_ratio", "check_ratios", "opposite", "sum_of", "product_of", "sign_of", "order_of", "plus", "minus", "times", "over", "total", "are_integers", "are_ratios", "check_form", "check_forms", "check_spot", "check_two_spots", "combine", "value", "check_counts", "mean_spot", "between", "compare_spots", "_law_mix", "_law_store"]
def fns1 : List Str := ["_law_take", "_law_span", "_law_wide", "_law_pick", "_law_sequence", "_law_count", "_law_integer", "_law_lowest", "_law_ratio", "_law_plus", "_law_minus", "_law_times", "_law_compare", "_law_form", "_law_is_int", "_law_same", "_law_value", "_law_summed", "_law_before", "_law_spots", "_law_between", "_law_mean", "_law_call", "_law_class", "_law_bad", "_law_refusals", "_law_cases", "law"]
def fns : List Str := fns0 ++ fns1
def nms : Nms := ⟨fns, ["NearError", "BadNumber", "BadForm", "BadSpot"], [("MOST_DIM", (.int 3))], ["len", "isinstance", "range", "int", "str", "list", "tuple", "all", "zip", "sum", "abs", "min", "max", "bool", "dict"]⟩
def m_is_whole : DefM := ⟨dd "is_whole" 6, ["thing"], 1, f_is_whole⟩
def m_is_sequence : DefM := ⟨dd "is_sequence" 7, ["thing"], 1, f_is_sequence⟩
def m_common_divisor : DefM := ⟨dd "common_divisor" 8, ["one", "two"], 2, f_common_divisor⟩
def m_is_ratio : DefM := ⟨dd "is_ratio" 9, ["thing", "above", "below"], 1, f_is_ratio⟩
def m_check_ratio : DefM := ⟨dd "check_ratio" 10, ["thing"], 1, f_check_ratio⟩
def m_check_ratios : DefM := ⟨dd "check_ratios" 11, ["thing", "part"], 1, f_check_ratios⟩
def m_opposite : DefM := ⟨dd "opposite" 12, ["p"], 1, f_opposite⟩
def m_sum_of : DefM := ⟨dd "sum_of" 13, ["p", "q", "above", "below", "more", "under", "shared", "rest", "top", "extra"], 2, f_sum_of⟩
def m_product_of : DefM := ⟨dd "product_of" 14, ["p", "q", "above", "below", "more", "under", "left", "right"], 2, f_product_of⟩
def m_sign_of : DefM := ⟨dd "sign_of" 15, ["number"], 1, f_sign_of⟩
def m_order_of : DefM := ⟨dd "order_of" 16, ["p", "q"], 2, f_order_of⟩
def m_plus : DefM := ⟨dd "plus" 17, ["p", "q"], 2, f_plus⟩
def m_minus : DefM := ⟨dd "minus" 18, ["p", "q"], 2, f_minus⟩
def m_times : DefM := ⟨dd "times" 19, ["p", "q"], 2, f_times⟩
def m_over : DefM := ⟨dd "over" 20, ["p", "q", "above", "below"], 2, f_over⟩
def m_total : DefM := ⟨dd "total" 21, ["ratios", "result", "part"], 1, f_total⟩
def m_are_integers : DefM := ⟨dd "are_integers" 24, ["thing", "size", "part"], 2, f_are_integers⟩
def m_are_ratios : DefM := ⟨dd "are_ratios" 25, ["thing", "size", "part"], 2, f_are_ratios⟩
def m_check_form : DefM := ⟨dd "check_form" 26, ["form"], 1, f_check_form⟩
def m_check_forms : DefM := ⟨dd "check_forms" 27, ["form", "other"], 2, f_check_forms⟩
def m_check_spot : DefM := ⟨dd "check_spot" 28, ["spot"], 1, f_check_spot⟩
def m_check_two_spots : DefM := ⟨dd "check_two_spots" 29, ["begin", "finish"], 2, f_check_two_spots⟩
def m_combine : DefM := ⟨dd "combine" 30, ["forms", "multipliers", "form", "result", "by", "entry", "part"], 2, f_combine⟩
def m_value : DefM := ⟨dd "value" 31, ["form", "spot", "result", "entry", "part"], 2, f_value⟩
def m_check_counts : DefM := ⟨dd "check_counts" 32, ["counts", "size", "count"], 2, f_check_counts⟩
def m_mean_spot : DefM := ⟨dd "mean_spot" 33, ["spots", "counts", "spot", "many", "result", "at", "entry", "count"], 2, f_mean_spot⟩
def m_between : DefM := ⟨dd "between" 34, ["begin", "finish", "s", "result", "one", "two", "way"], 3, f_between⟩
def m_compare_spots : DefM := ⟨dd "compare_spots" 35, ["begin", "finish", "one", "two", "found"], 2, f_compare_spots⟩
def m__law_mix : DefM := ⟨dd "_law_mix" 37, ["number", "turn", "one", "two", "three"], 2, f__law_mix⟩
def m__law_store : DefM := ⟨dd "_law_store" 38, ["script", "cells", "seed", "cell", "left"], 1, f__law_store⟩
def m__law_take : DefM := ⟨dd "_law_take" 39, ["store", "many", "cells", "pair", "drawn", "used"], 2, f__law_take⟩
def m__law_span : DefM := ⟨dd "_law_span" 40, ["store", "low", "high"], 3, f__law_span⟩
def m__law_wide : DefM := ⟨dd "_law_wide" 41, ["store", "many", "drawn", "power", "k"], 2, f__law_wide⟩
def m__law_pick : DefM := ⟨dd "_law_pick" 42, ["store", "things"], 2, f__law_pick⟩
def m__law_sequence : DefM := ⟨dd "_law_sequence" 43, ["store", "things"], 2, f__law_sequence⟩
def m__law_count : DefM := ⟨dd "_law_count" 44, ["store", "least", "most", "way"], 3, f__law_count⟩
def m__law_integer : DefM := ⟨dd "_law_integer" 45, ["store", "high", "way"], 2, f__law_integer⟩
def m__law_lowest : DefM := ⟨dd "_law_lowest" 46, ["above", "below", "one", "two"], 2, f__law_lowest⟩
def m__law_ratio : DefM := ⟨dd "_law_ratio" 47, ["store", "great", "way", "top"], 2, f__law_ratio⟩
def m__law_plus : DefM := ⟨dd "_law_plus" 48, ["p", "q"], 2, f__law_plus⟩
def m__law_minus : DefM := ⟨dd "_law_minus" 49, ["p", "q"], 2, f__law_minus⟩
def m__law_times : DefM := ⟨dd "_law_times" 50, ["p", "q"], 2, f__law_times⟩
def m__law_compare : DefM := ⟨dd "_law_compare" 51, ["p", "q", "one"], 2, f__law_compare⟩
def m__law_form : DefM := ⟨dd "_law_form" 52, ["store", "length", "high", "way", "form", "k"], 3, f__law_form⟩
def m__law_is_int : DefM := ⟨dd "_law_is_int" 53, ["thing"], 1, f__law_is_int⟩
def m__law_same : DefM := ⟨dd "_law_same" 54, ["given", "due", "waiting", "turn", "one", "two", "k"], 2, f__law_same⟩
def m__law_value : DefM := ⟨dd "_law_value" 55, ["form", "spot", "above", "below", "k"], 2, f__law_value⟩
def m__law_summed : DefM := ⟨dd "_law_summed" 56, ["length", "forms", "multipliers", "out", "m", "k"], 3, f__law_summed⟩
def m__law_before : DefM := ⟨dd "_law_before" 57, ["p", "q", "k"], 2, f__law_before⟩
def m__law_spots : DefM := ⟨dd "_law_spots" 58, ["store", "dim", "many", "great", "out", "k", "m"], 4, f__law_spots⟩
def m__law_between : DefM := ⟨dd "_law_between" 59, ["begin", "finish", "s", "out", "k", "one", "two", "three", "four"], 3, f__law_between⟩
def m__law_mean : DefM := ⟨dd "_law_mean" 60, ["dim", "spots", "counts", "out", "k", "below", "spot", "above", "m"], 3, f__law_mean⟩
def m__law_call : DefM := ⟨dd "_law_call" 61, ["number", "things"], 2, f__law_call⟩
def m__law_class : DefM := ⟨dd "_law_class" 62, ["number", "things", "e"], 2, f__law_class⟩
def m__law_bad : DefM := ⟨dd "_law_bad" 63, ["store", "kind", "thing", "out", "things", "bad", "bads"], 3, f__law_bad⟩
def m__law_refusals : DefM := ⟨dd "_law_refusals" 64, ["store", "cases", "turn", "number", "things", "kinds", "due", "given", "first", "last", "k", "kind", "begin", "finish", "s", "unlike"], 2, f__law_refusals⟩
def m__law_cases : DefM := ⟨dd "_law_cases" 65, ["store", "dim", "great", "begin", "finish", "s", "spots", "counts", "forms", "numbers", "mixed", "mean", "firsts", "sums", "added", "spot", "k", "form", "p"], 3, f__law_cases⟩
def m_law : DefM := ⟨dd "law" 66, ["script", "store", "dim", "great", "cases", "turn", "number", "things", "kinds", "due", "given", "kept", "begin", "finish", "s", "mixed", "some", "one", "dues", "two", "thing"], 1, f_law⟩
def ms0 : List DefM := [m_is_whole, m_is_sequence, m_common_divisor, m_is_ratio, m_check_ratio, m_check_ratios, m_opposite, m_sum_of, m_product_of, m_sign_of, m_order_of, m_plus, m_minus, m_times, m_over, m_total, m_are_integers, m_are_ratios, m_check_form, m_check_forms, m_check_spot, m_check_two_spots, m_combine, m_value, m_check_counts, m_mean_spot, m_between, m_compare_spots, m__law_mix, m__law_store]
def ms1 : List DefM := [m__law_take, m__law_span, m__law_wide, m__law_pick, m__law_sequence, m__law_count, m__law_integer, m__law_lowest, m__law_ratio, m__law_plus, m__law_minus, m__law_times, m__law_compare, m__law_form, m__law_is_int, m__law_same, m__law_value, m__law_summed, m__law_before, m__law_spots, m__law_between, m__law_mean, m__law_call, m__law_class, m__law_bad, m__law_refusals, m__law_cases, m_law]
def ms : List DefM := ms0 ++ ms1
def fn0 : List He.DefD := [m_is_whole.d, m_is_sequence.d, m_common_divisor.d, m_is_ratio.d, m_check_ratio.d, m_check_ratios.d, m_opposite.d, m_sum_of.d, m_product_of.d, m_sign_of.d, m_order_of.d, m_plus.d, m_minus.d, m_times.d, m_over.d, m_total.d, m_are_integers.d, m_are_ratios.d, m_check_form.d, m_check_forms.d, m_check_spot.d, m_check_two_spots.d, m_combine.d, m_value.d, m_check_counts.d, m_mean_spot.d, m_between.d, m_compare_spots.d, m__law_mix.d, m__law_store.d]
def fn1 : List He.DefD := [m__law_take.d, m__law_span.d, m__law_wide.d, m__law_pick.d, m__law_sequence.d, m__law_count.d, m__law_integer.d, m__law_lowest.d, m__law_ratio.d, m__law_plus.d, m__law_minus.d, m__law_times.d, m__law_compare.d, m__law_form.d, m__law_is_int.d, m__law_same.d, m__law_value.d, m__law_summed.d, m__law_before.d, m__law_spots.d, m__law_between.d, m__law_mean.d, m__law_call.d, m__law_class.d, m__law_bad.d, m__law_refusals.d, m__law_cases.d, m_law.d]
def fn : List He.DefD := fn0 ++ fn1
def msOk : Bool := (List.range ms.length).all fun i => (ms.getD i m_is_whole).ok nms i
theorem ms_ok : msOk = true := by kernel_rfl
theorem ms_T : ms.map DefM.fd = T := rfl
theorem bd_is_whole : m_is_whole.Bd := fun _ _ _ _ _ _ us hl => match us, hl with | [_], _ => rfl
theorem bd_is_sequence : m_is_sequence.Bd := fun _ _ _ _ _ _ us hl => match us, hl with | [_], _ => rfl
theorem bd_common_divisor : m_common_divisor.Bd := fun _ _ _ _ _ _ us hl => match us, hl with | [_, _], _ => rfl
theorem bd_is_ratio : m_is_ratio.Bd := fun _ _ _ _ _ _ us hl => match us, hl with | [_], _ => rfl
theorem bd_check_ratio : m_check_ratio.Bd := fun _ _ _ _ _ _ us hl => match us, hl with | [_], _ => rfl
theorem bd_check_ratios : m_check_ratios.Bd := fun _ _ _ _ _ _ us hl => match us, hl with | [_], _ => rfl
theorem bd_opposite : m_opposite.Bd := fun _ _ _ _ _ _ us hl => match us, hl with | [_], _ => rfl
theorem bd_sum_of : m_sum_of.Bd := fun _ _ _ _ _ _ us hl => match us, hl with | [_, _], _ => rfl
theorem bd_product_of : m_product_of.Bd := fun _ _ _ _ _ _ us hl => match us, hl with | [_, _], _ => rfl
theorem bd_sign_of : m_sign_of.Bd := fun _ _ _ _ _ _ us hl => match us, hl with | [_], _ => rfl
theorem bd_order_of : m_order_of.Bd := fun _ _ _ _ _ _ us hl => match us, hl with | [_, _], _ => rfl
theorem bd_plus : m_plus.Bd := fun _ _ _ _ _ _ us hl => match us, hl with | [_, _], _ => rfl
theorem bd_minus : m_minus.Bd := fun _ _ _ _ _ _ us hl => match us, hl with | [_, _], _ => rfl
theorem bd_times : m_times.Bd := fun _ _ _ _ _ _ us hl => match us, hl with | [_, _], _ => rfl
theorem bd_over : m_over.Bd := fun _ _ _ _ _ _ us hl => match us, hl with | [_, _], _ => rfl
theorem bd_total : m_total.Bd := fun _ _ _ _ _ _ us hl => match us, hl with | [_], _ => rfl
theorem bd_are_integers : m_are_integers.Bd := fun _ _ _ _ _ _ us hl => match us, hl with | [_, _], _ => rfl
theorem bd_are_ratios : m_are_ratios.Bd := fun _ _ _ _ _ _ us hl => match us, hl with | [_, _], _ => rfl
theorem bd_check_form : m_check_form.Bd := fun _ _ _ _ _ _ us hl => match us, hl with | [_], _ => rfl
theorem bd_check_forms : m_check_forms.Bd := fun _ _ _ _ _ _ us hl => match us, hl with | [_, _], _ => rfl
theorem bd_check_spot : m_check_spot.Bd := fun _ _ _ _ _ _ us hl => match us, hl with | [_], _ => rfl
theorem bd_check_two_spots : m_check_two_spots.Bd := fun _ _ _ _ _ _ us hl => match us, hl with | [_, _], _ => rfl
theorem bd_combine : m_combine.Bd := fun _ _ _ _ _ _ us hl => match us, hl with | [_, _], _ => rfl
theorem bd_value : m_value.Bd := fun _ _ _ _ _ _ us hl => match us, hl with | [_, _], _ => rfl
theorem bd_check_counts : m_check_counts.Bd := fun _ _ _ _ _ _ us hl => match us, hl with | [_, _], _ => rfl
theorem bd_mean_spot : m_mean_spot.Bd := fun _ _ _ _ _ _ us hl => match us, hl with | [_, _], _ => rfl
theorem bd_between : m_between.Bd := fun _ _ _ _ _ _ us hl => match us, hl with | [_, _, _], _ => rfl
theorem bd_compare_spots : m_compare_spots.Bd := fun _ _ _ _ _ _ us hl => match us, hl with | [_, _], _ => rfl
theorem bd__law_mix : m__law_mix.Bd := fun _ _ _ _ _ _ us hl => match us, hl with | [_, _], _ => rfl
theorem bd__law_store : m__law_store.Bd := fun _ _ _ _ _ _ us hl => match us, hl with | [_], _ => rfl
theorem bd__law_take : m__law_take.Bd := fun _ _ _ _ _ _ us hl => match us, hl with | [_, _], _ => rfl
theorem bd__law_span : m__law_span.Bd := fun _ _ _ _ _ _ us hl => match us, hl with | [_, _, _], _ => rfl
theorem bd__law_wide : m__law_wide.Bd := fun _ _ _ _ _ _ us hl => match us, hl with | [_, _], _ => rfl
theorem bd__law_pick : m__law_pick.Bd := fun _ _ _ _ _ _ us hl => match us, hl with | [_, _], _ => rfl
theorem bd__law_sequence : m__law_sequence.Bd := fun _ _ _ _ _ _ us hl => match us, hl with | [_, _], _ => rfl
theorem bd__law_count : m__law_count.Bd := fun _ _ _ _ _ _ us hl => match us, hl with | [_, _, _], _ => rfl
theorem bd__law_integer : m__law_integer.Bd := fun _ _ _ _ _ _ us hl => match us, hl with | [_, _], _ => rfl
theorem bd__law_lowest : m__law_lowest.Bd := fun _ _ _ _ _ _ us hl => match us, hl with | [_, _], _ => rfl
theorem bd__law_ratio : m__law_ratio.Bd := fun _ _ _ _ _ _ us hl => match us, hl with | [_, _], _ => rfl
theorem bd__law_plus : m__law_plus.Bd := fun _ _ _ _ _ _ us hl => match us, hl with | [_, _], _ => rfl
theorem bd__law_minus : m__law_minus.Bd := fun _ _ _ _ _ _ us hl => match us, hl with | [_, _], _ => rfl
theorem bd__law_times : m__law_times.Bd := fun _ _ _ _ _ _ us hl => match us, hl with | [_, _], _ => rfl
theorem bd__law_compare : m__law_compare.Bd := fun _ _ _ _ _ _ us hl => match us, hl with | [_, _], _ => rfl
theorem bd__law_form : m__law_form.Bd := fun _ _ _ _ _ _ us hl => match us, hl with | [_, _, _], _ => rfl
theorem bd__law_is_int : m__law_is_int.Bd := fun _ _ _ _ _ _ us hl => match us, hl with | [_], _ => rfl
theorem bd__law_same : m__law_same.Bd := fun _ _ _ _ _ _ us hl => match us, hl with | [_, _], _ => rfl
theorem bd__law_value : m__law_value.Bd := fun _ _ _ _ _ _ us hl => match us, hl with | [_, _], _ => rfl
theorem bd__law_summed : m__law_summed.Bd := fun _ _ _ _ _ _ us hl => match us, hl with | [_, _, _], _ => rfl
theorem bd__law_before : m__law_before.Bd := fun _ _ _ _ _ _ us hl => match us, hl with | [_, _], _ => rfl
theorem bd__law_spots : m__law_spots.Bd := fun _ _ _ _ _ _ us hl => match us, hl with | [_, _, _, _], _ => rfl
theorem bd__law_between : m__law_between.Bd := fun _ _ _ _ _ _ us hl => match us, hl with | [_, _, _], _ => rfl
theorem bd__law_mean : m__law_mean.Bd := fun _ _ _ _ _ _ us hl => match us, hl with | [_, _, _], _ => rfl
theorem bd__law_call : m__law_call.Bd := fun _ _ _ _ _ _ us hl => match us, hl with | [_, _], _ => rfl
theorem bd__law_class : m__law_class.Bd := fun _ _ _ _ _ _ us hl => match us, hl with | [_, _], _ => rfl
theorem bd__law_bad : m__law_bad.Bd := fun _ _ _ _ _ _ us hl => match us, hl with | [_, _, _], _ => rfl
theorem bd__law_refusals : m__law_refusals.Bd := fun _ _ _ _ _ _ us hl => match us, hl with | [_, _], _ => rfl
theorem bd__law_cases : m__law_cases.Bd := fun _ _ _ _ _ _ us hl => match us, hl with | [_, _, _], _ => rfl
theorem bd_law : m_law.Bd := fun _ _ _ _ _ _ us hl => match us, hl with | [_], _ => rfl
theorem ms_bd : BdAll ms := ⟨bd_is_whole, bd_is_sequence, bd_common_divisor, bd_is_ratio, bd_check_ratio, bd_check_ratios, bd_opposite, bd_sum_of, bd_product_of, bd_sign_of, bd_order_of, bd_plus, bd_minus, bd_times, bd_over, bd_total, bd_are_integers, bd_are_ratios, bd_check_form, bd_check_forms, bd_check_spot, bd_check_two_spots, bd_combine, bd_value, bd_check_counts, bd_mean_spot, bd_between, bd_compare_spots, bd__law_mix, bd__law_store, bd__law_take, bd__law_span, bd__law_wide, bd__law_pick, bd__law_sequence, bd__law_count, bd__law_integer, bd__law_lowest, bd__law_ratio, bd__law_plus, bd__law_minus, bd__law_times, bd__law_compare, bd__law_form, bd__law_is_int, bd__law_same, bd__law_value, bd__law_summed, bd__law_before, bd__law_spots, bd__law_between, bd__law_mean, bd__law_call, bd__law_class, bd__law_bad, bd__law_refusals, bd__law_cases, bd_law, trivial⟩
theorem ms_F : ms.map DefM.d = fn := rfl
abbrev Rw : PySem.W.OpenRow := PySem.W.OpenLaw.row PySem.Challenge.rw_nearerhop_k15_mixes_of_spots_and_forms
abbrev hk : PySem.W.Hook := hookM 4 fn nms
def ob (s : PySem.W.SharedT) : He.AlD × Bool := obsM 4 fn nms (HandSHeadRun.getT s)
theorem ob_eq (s : PySem.W.SharedT) : ob s = hk.obs s.abs := obsM_eq (HandSHeadRun.getT_eq s)
def loose0 : List PySem.Str := ["NearError", "BadNumber", "BadForm", "BadSpot", "is_whole", "is_sequence", "common_divisor", "is_ratio", "check_ratio", "check_ratios", "opposite", "sum_of", "product_of", "sign_of", "order_of", "plus", "minus", "times", "over", "total", "MOST_DIM", "are_integers", "are_ratios", "check_form", "check_forms", "check_spot", "check_two_spots", "combine", "value", "check_counts"]
def loose1 : List PySem.Str := ["mean_spot", "between", "compare_spots", "_law_mix", "_law_store", "_law_take", "_law_span", "_law_wide", "_law_pick", "_law_sequence", "_law_count", "_law_integer", "_law_lowest", "_law_ratio", "_law_plus", "_law_minus", "_law_times", "_law_compare", "_law_form", "_law_is_int", "_law_same", "_law_value", "_law_summed", "_law_before", "_law_spots", "_law_between", "_law_mean", "_law_call", "_law_class", "_law_bad"]
def loose2 : List PySem.Str := ["_law_refusals", "_law_cases", "__name__"]
def loose : List PySem.Str := loose0 ++ loose1 ++ loose2
theorem run (w : World) : HandSHeadRun.RunEq Rw (PySem.W.view Rw.prog [66]) hk ob 20000 loose w := by
  intro os
  kernel_rfl
theorem law_of (k : Nat) (hr : Room (k + 1) callerA) (main : ∀ ns : List Int, ns.length ≤ 63 → ∃ h', callN T (k + 1) i_law [.p (.scr ns)] [] = .ok (.p (.bl true)) h') : PySem.Challenge.rw_nearerhop_k15_mixes_of_spots_and_forms.Holds := by
  w_on; o_law
  refine HandSHeadRun.head_any (r := Rw) (q := PySem.W.view Rw.prog [66]) (H := hk) (ob := ob) (M := 20000) (loose := loose) (d := HandSHeadRun.topDef Rw.prog 66) (kwd := []) ob_eq
    (by kernel_rfl) (fun s => by kernel_rfl) run (by kernel_rfl) (by kernel_rfl) (by kernel_rfl) (by rfl) (by first | assumption | decide +kernel) (by decide +kernel) ⟨rfl, rfl, rfl, rfl, rfl, by decide +kernel⟩ ?hw ?hc
  case hw => w_witness2
  case hc =>
    refine L2.walk_ofE (l := PySem.Challenge.rw_nearerhop_k15_mixes_of_spots_and_forms) (n := 63) (k := k + 1) (x := "script") (CX := fun _ _ _ _ _ _ => False) rfl (by decide) (by kernel_rfl) hr ?F (fun _ _ _ _ z => z)
    intro w mg fa h Y G hmg0
    obtain ⟨K, KX, c, nok⟩ := Y
    have hmg : mg ("law" : PySem.Str) = some (.ref fa) := by
      have e : (HandSHeadRun.topDef Rw.prog 66).name = ("law" : PySem.Str) := by kernel_rfl
      rw [← e]
      exact hmg0
    have hgo : mg ("law" : PySem.Str) = some (.ref (He.ga K ("law" : PySem.Str))) := by
      obtain ⟨u, y, q1, q2, q3⟩ := (Nms.gbOk (prg := PySem.Challenge.rw_nearerhop_k15_mixes_of_spots_and_forms.prog) (w := w) (base := h) KX G nok).gl ("law" : PySem.Str) (.fn i_law) (by kernel_rfl)
      have q3 : y = V.ref (He.ga K (atN fns i_law)) := q3 (fun _ => False) (fun _ => none)
      subst q3
      cases q2
      exact q1
    have efa : fa = He.ga K ("law" : PySem.Str) := by
      rw [hgo] at hmg
      cases hmg
      rfl
    subst efa
    obtain ⟨fd, B, F⟩ := DefM.law (n := nms) (T := T) (prg := PySem.Challenge.rw_nearerhop_k15_mixes_of_spots_and_forms.prog) (w := w) (mg := mg) (k := k) (i := i_law) (m := m_law) (by kernel_rfl) c rfl bd_law rfl
    refine ⟨K, fd, fun vs H Q _ => spF (nms.gb K PySem.Challenge.rw_nearerhop_k15_mixes_of_spots_and_forms.prog w mg h) (callN T (k + 1) i_law) vs H Q fun _ _ _ => False, KX, fun s u => ?_, fun H a ns hl ho hS => ?_, fun base KB GB => ?_⟩
    · exact B s [u] rfl
    · obtain ⟨h', e⟩ := main ns hl
      exact law_sp (Γ := nms.gb K PySem.Challenge.rw_nearerhop_k15_mixes_of_spots_and_forms.prog w mg h) ho hS e fun L H' u r => r
    · have O := Nms.gbOk (prg := PySem.Challenge.rw_nearerhop_k15_mixes_of_spots_and_forms.prog) (w := w) (base := base) KB GB nok
      have FF := fn_nox (F base O (calls_ok O (fun _ => rfl) (defs_of c ms_T ms_F ms_ok ms_bd) k))
      rw [spF_base (b2 := h)] at FF
      exact FF
end K15

set_option linter.all false
set_option maxRecDepth 100000
/-! Rows for walking through terms. -/
namespace Mp
def runWhile (G : Gm) (c : Ex) (b : Sts) (n : Nat) (ρ : Slots) (h : Hea) : RS := whileLoop (fun ρ h => evT G ρ c h) (fun ρ h => exs G ρ b h) n ρ h
def runFor (G : Gm) (tg : Tg) (b : Sts) (xs : List P) (ρ : Slots) (h : Hea) : RS := forLoop (fun x ρ h => match bindTg ρ tg x with
  | some ρ' => exs G ρ' b h
  | none => .stuck) xs ρ h
def runComp (G : Gm) (ρ : Slots) (vs : List Nat) (tg : Tg) (cond : Exs) (elt : Ex) (xs : List P) (h : Hea) : R (List D) := R.noexn (compLoop (fun x h => match bindTg (wipe ρ vs) tg x with
  | some ρ' => (evC G ρ' cond h).bind fun k h => if k = true then (ev G ρ' elt h).bind fun d h => .ok (some d) h else .ok none h
  | none => .stuck) xs h)
section
variable {G : Gm} {ρ : Slots} {h : Hea} {α β : Type}
@[simp] theorem bind_ok {a : α} {f : α → Hea → R β} : (R.ok a h).bind f = f a h := rfl
@[simp] theorem bind_exn {c : Nat} {fs : List P} {f : α → Hea → R β} : (R.exn c fs h).bind f = .exn c fs h := rfl
@[simp] theorem bind_stuck {f : α → Hea → R β} : (R.stuck : R α).bind f = .stuck := rfl
@[simp] theorem ofO_some {a : α} : R.ofO (some a) h = .ok a h := rfl
@[simp] theorem ofO_none : (R.ofO (none : Option α) h) = .stuck := rfl
@[simp] theorem ofR_ok {a : α} {f : α → Hea → RS} : RS.ofR (R.ok a h) ρ f = f a h := rfl
@[simp] theorem ofR_exn {c : Nat} {fs : List P} {f : α → Hea → RS} : RS.ofR (R.exn c fs h) ρ f = .exn c fs ρ h := rfl
@[simp] theorem ofR_stuck {f : α → Hea → RS} : RS.ofR (R.stuck : R α) ρ f = .stuck := rfl
@[simp] theorem rbind_next {f : Slots → Hea → RS} : (RS.next ρ h).bind f = f ρ h := rfl
@[simp] theorem rbind_ret {d : D} {f : Slots → Hea → RS} : (RS.ret d h).bind f = .ret d h := rfl
@[simp] theorem rbind_brk {f : Slots → Hea → RS} : (RS.brk ρ h).bind f = .brk ρ h := rfl
@[simp] theorem rbind_cont {f : Slots → Hea → RS} : (RS.cont ρ h).bind f = .cont ρ h := rfl
@[simp] theorem rbind_exn {c : Nat} {fs : List P} {f : Slots → Hea → RS} : (RS.exn c fs ρ h).bind f = .exn c fs ρ h := rfl
@[simp] theorem rbind_stuck {f : Slots → Hea → RS} : (RS.stuck).bind f = .stuck := rfl
def slot (ρ : Slots) (i : Nat) : Option D := match ρ[i]? with
  | some (some d) => some d
  | _ => none
@[simp] theorem slot_zero {d : Option D} {r : Slots} : slot (d :: r) 0 = d := by cases d <;> rfl
@[simp] theorem slot_succ {d : Option D} {r : Slots} {n : Nat} : slot (d :: r) (n + 1) = slot r n := rfl
@[simp] theorem ev_var {i : Nat} : ev G ρ (.var i) h = R.ofO (slot ρ i) h := by
  unfold ev slot
  cases ρ[i]? with
  | none => rfl
  | some o => cases o <;> rfl
@[simp] theorem ev_con {v : P} : ev G ρ (.con v) h = .ok (.p v) h := by first | (rw [ev]; done) | (rw [ev]; rfl) | (unfold ev; rfl)
@[simp] theorem ev_glo {v : P} : ev G ρ (.glo v) h = .ok (.p v) h := by first | (rw [ev]; done) | (rw [ev]; rfl) | (unfold ev; rfl)
def bin2 (o : BOp) (x y : D) (h : Hea) : R D := match x, y with
  | .p x, .p y => R.ofO ((binP o x y).map D.p) h
  | _, _ => .stuck
theorem ev_bin {o : BOp} {a b : Ex} : ev G ρ (.bin o a b) h = (ev G ρ a h).bind fun x h => (ev G ρ b h).bind fun y h => bin2 o x y h := by first | (rw [ev]; done) | (rw [ev]; rfl) | (unfold ev; rfl)
def neg1 (x : D) (h : Hea) : R D := match x with
  | .p (.int i) => .ok (.p (.int (-i))) h
  | _ => .stuck
@[simp] theorem neg1_int {i : Int} : neg1 (.p (.int i)) h = .ok (.p (.int (-i))) h := rfl
theorem ev_neg {a : Ex} : ev G ρ (.neg a) h = (ev G ρ a h).bind fun x h => neg1 x h := by first | (rw [ev]; done) | (rw [ev]; rfl) | (unfold ev; rfl)
def cmp2 (o : COp) (x y : D) (h : Hea) : R D := R.ofO (((view h x).bind fun x => (view h y).bind fun y => cmpP o x y).map fun k => D.p (.bl k)) h
theorem ev_cmp {o : COp} {a b : Ex} : ev G ρ (.cmp o a b) h = (ev G ρ a h).bind fun x h => (ev G ρ b h).bind fun y h => cmp2 o x y h := by first | (rw [ev]; done) | (rw [ev]; rfl) | (unfold ev; rfl)
@[simp] theorem view_p {x : P} : view h (.p x) = some x := rfl
def and2 (x : D) (k : Hea → R D) (h : Hea) : R D := match x with
  | .p (.bl true) => k h
  | .p (.bl false) => .ok (.p (.bl false)) h
  | _ => .stuck
def or2 (x : D) (k : Hea → R D) (h : Hea) : R D := match x with
  | .p (.bl true) => .ok (.p (.bl true)) h
  | .p (.bl false) => k h
  | _ => .stuck
def not1 (x : D) (h : Hea) : R D := match x with
  | .p (.bl k) => .ok (.p (.bl (!k))) h
  | _ => .stuck
@[simp] theorem and2_bl {b : Bool} {k : Hea → R D} : and2 (.p (.bl b)) k h = if b = true then k h else .ok (.p (.bl false)) h := by cases b <;> rfl
@[simp] theorem or2_bl {b : Bool} {k : Hea → R D} : or2 (.p (.bl b)) k h = if b = true then .ok (.p (.bl true)) h else k h := by cases b <;> rfl
@[simp] theorem not1_bl {b : Bool} : not1 (.p (.bl b)) h = .ok (.p (.bl (!b))) h := rfl
theorem ev_and {a b : Ex} : ev G ρ (.and_ a b) h = (ev G ρ a h).bind fun x h => and2 x (fun h => ev G ρ b h) h := by first | (rw [ev]; done) | (rw [ev]; rfl) | (unfold ev; rfl)
theorem ev_or {a b : Ex} : ev G ρ (.or_ a b) h = (ev G ρ a h).bind fun x h => or2 x (fun h => ev G ρ b h) h := by first | (rw [ev]; done) | (rw [ev]; rfl) | (unfold ev; rfl)
theorem ev_not {a : Ex} : ev G ρ (.not_ a) h = (ev G ρ a h).bind fun x h => not1 x h := by first | (rw [ev]; done) | (rw [ev]; rfl) | (unfold ev; rfl)
theorem ev_ite {c a b : Ex} : ev G ρ (.ite c a b) h = (evT G ρ c h).bind fun k h => if k = true then ev G ρ a h else ev G ρ b h := by
  rw [ev]
def tup1 (ds : List D) (h : Hea) : R D := match pures ds with
  | some xs => if xs.length ≤ LIM then .ok (.p (.tup xs)) h else .stuck
  | none => .stuck
theorem ev_tup {es : Exs} : ev G ρ (.tup es) h = (evs G ρ es h).bind fun ds h => tup1 ds h := by first | (rw [ev]; done) | (rw [ev]; rfl) | (unfold ev; rfl)
theorem ev_lst {m : Bool} {es : Exs} : ev G ρ (.lst m es) h = (evs G ρ es h).bind fun ds h => mk m ds h := by first | (rw [ev]; done) | (rw [ev]; rfl) | (unfold ev; rfl)
theorem ev_idx {a i : Ex} : ev G ρ (.idx a i) h = (ev G ρ a h).bind fun x h => (ev G ρ i h).bind fun y h => R.ofO (idxD h x y) h := by first | (rw [ev]; done) | (rw [ev]; rfl) | (unfold ev; rfl)
def slc3 (m : Bool) (x : D) (l u : Option Int) (h : Hea) : R D := match (view h x).bind fun x => slcP x l u with
  | some y => outP m y h
  | none => .stuck
def ends1 (x : D) : Option Int := match x with
  | .p (.int i) => some i
  | _ => none
theorem ev_call {f : Nat} {es : Exs} : ev G ρ (.call f es) h = (evs G ρ es h).bind fun ds h => G.call f ds h := by first | (rw [ev]; done) | (rw [ev]; rfl) | (unfold ev; rfl)
def callv1 (G : Gm) (ρ : Slots) (es : Exs) (f : D) (h : Hea) : R D := match f with
  | .p (.fn i) => (evs G ρ es h).bind fun ds h => G.call i ds h
  | _ => .stuck
@[simp] theorem callv1_fn {es : Exs} {i : Nat} : callv1 G ρ es (.p (.fn i)) h = (evs G ρ es h).bind fun ds h => G.call i ds h := rfl
theorem ev_callv {e : Ex} {es : Exs} : ev G ρ (.callv e es) h = (ev G ρ e h).bind fun f h => callv1 G ρ es f h := by
  rw [ev]
  rfl
theorem ev_comp {m : Bool} {vs : List Nat} {tg : Tg} {it : It} {cond : Exs} {elt : Ex} : ev G ρ (.comp m vs tg it cond elt) h = (evI G ρ it h).bind fun xs h => (runComp G ρ vs tg cond elt xs h).bind fun ds h => mk m ds h := by first | (rw [ev]; done) | (rw [ev]; rfl) | (unfold ev; rfl)
def blt1 (b : Blt) (m : Bool) (ds : List D) (h : Hea) : R D := match lenD b ds h with
  | some n => .ok (.p (.int (n : Nat))) h
  | none => (match (views h ds).bind (bltP b) with
    | some y => outP m y h
    | none => .stuck)
theorem ev_blt {b : Blt} {m : Bool} {es : Exs} : ev G ρ (.blt b m es) h = (evs G ρ es h).bind fun ds h => blt1 b m ds h := by first | (rw [ev]; done) | (rw [ev]; rfl) | (unfold ev; rfl)
theorem ev_meth {t : Mt} {m : Bool} {o : Ex} {es : Exs} : ev G ρ (.meth t m o es) h = (ev G ρ o h).bind fun x h => if recv t h x = true then (evs G ρ es h).bind fun ds h => methD G.bs t m x ds h else .stuck := by first | (rw [ev]; done) | (rw [ev]; rfl) | (unfold ev; rfl)
@[simp] theorem evs_nil : evs G ρ .nil h = .ok [] h := by first | (rw [evs]; done) | (rw [evs]; rfl) | (unfold evs; rfl)
theorem evs_cons {e : Ex} {r : Exs} : evs G ρ (.cons e r) h = (ev G ρ e h).bind fun d h => (evs G ρ r h).bind fun ds h => .ok (d :: ds) h := by
  rw [evs]
theorem ev_slc00 {m : Bool} {a : Ex} : ev G ρ (.slc m a .nil .nil) h = (ev G ρ a h).bind fun x h => slc3 m x none none h := by
  rw [ev]
  simp only [evs_nil, Mp.bind_ok]
  rfl
theorem ends_one {d : D} : ends [d] = (ends1 d).map some := by
  cases d with
  | ref n => rfl
  | p y => cases y <;> rfl
theorem ev_slc10 {m : Bool} {a e : Ex} : ev G ρ (.slc m a (.cons e .nil) .nil) h = (ev G ρ a h).bind fun x h => (ev G ρ e h).bind fun y h => (R.ofO (ends1 y) h).bind fun l h => slc3 m x (some l) none h := by
  rw [ev]
  simp only [evs_cons, evs_nil, Mp.bind_ok]
  cases ev G ρ a h with
  | ok x h1 =>
    simp only [Mp.bind_ok]
    cases ev G ρ e h1 with
    | ok d h2 =>
      simp only [Mp.bind_ok, ends_one]
      cases ends1 d <;> rfl
    | _ => rfl
  | _ => rfl
theorem ev_slc01 {m : Bool} {a e : Ex} : ev G ρ (.slc m a .nil (.cons e .nil)) h = (ev G ρ a h).bind fun x h => (ev G ρ e h).bind fun y h => (R.ofO (ends1 y) h).bind fun u h => slc3 m x none (some u) h := by
  rw [ev]
  simp only [evs_cons, evs_nil, Mp.bind_ok]
  cases ev G ρ a h with
  | ok x h1 =>
    simp only [Mp.bind_ok]
    show (match ends [] with
      | none => R.stuck
      | some l => ((ev G ρ e h1).bind fun d h => R.ok [d] h).bind fun u h => match ends u with
        | none => R.stuck
        | some u => (match (view h x).bind fun x => slcP x l u with
          | some y => outP m y h
          | none => R.stuck)) = _
    show ((ev G ρ e h1).bind fun d h => R.ok [d] h).bind (fun u h => match ends u with
        | none => R.stuck
        | some u => (match (view h x).bind fun x => slcP x none u with
          | some y => outP m y h
          | none => R.stuck)) = _
    cases ev G ρ e h1 with
    | ok d h2 =>
      simp only [Mp.bind_ok, ends_one]
      cases ends1 d <;> rfl
    | _ => rfl
  | _ => rfl
@[simp] theorem evC_nil : evC G ρ .nil h = .ok true h := by first | (rw [evC]; done) | (rw [evC]; rfl) | (unfold evC; rfl)
@[simp] theorem evC_cons {e : Ex} {r : Exs} : evC G ρ (.cons e r) h = evT G ρ e h := by first | (rw [evC]; done) | (rw [evC]; rfl) | (unfold evC; rfl)
def seq1 (d : D) (h : Hea) : R (List P) := match d with
  | .p x => R.ofO (items x) h
  | .ref _ => .stuck
theorem evI_seq {e : Ex} : evI G ρ (.seq e) h = (ev G ρ e h).bind fun d h => seq1 d h := by first | (rw [evI]; done) | (rw [evI]; rfl) | (unfold evI; rfl)
def rng1 (ds : List D) (h : Hea) : R (List P) := match ds with
  | [.p (.int j)] => if j ≤ LIM ∧ -LIM ≤ j then .ok (rngL 0 j) h else .stuck
  | [.p (.int i), .p (.int j)] => if j ≤ LIM ∧ -LIM ≤ j ∧ i ≤ LIM ∧ -LIM ≤ i then .ok (rngL i j) h else .stuck
  | _ => .stuck
theorem evI_rng {es : Exs} : evI G ρ (.rng es) h = (evs G ρ es h).bind fun ds h => rng1 ds h := by first | (rw [evI]; done) | (rw [evI]; rfl) | (unfold evI; rfl)
def zip1 (x y : D) (h : Hea) : R (List P) := match x, y with
  | .p x, .p y => R.ofO ((seqOf x).bind fun xs => (seqOf y).map fun ys => List.zipWith (fun x y => P.tup [x, y]) xs ys) h
  | _, _ => .stuck
theorem evI_zip {a b : Ex} : evI G ρ (.zip a b) h = (ev G ρ a h).bind fun x h => (ev G ρ b h).bind fun y h => zip1 x y h := by first | (rw [evI]; done) | (rw [evI]; rfl) | (unfold evI; rfl)
theorem evT_and {a b : Ex} : evT G ρ (.and_ a b) h = (evT G ρ a h).bind fun k h => if k = true then evT G ρ b h else .ok false h := by
  rw [evT]
theorem evT_or {a b : Ex} : evT G ρ (.or_ a b) h = (evT G ρ a h).bind fun k h => if k = true then .ok true h else evT G ρ b h := by
  rw [evT]
theorem evT_not {a : Ex} : evT G ρ (.not_ a) h = (evT G ρ a h).bind fun k h => .ok (!k) h := by
  rw [evT]
def tru1 (d : D) (h : Hea) : R Bool := R.ofO (truD h d) h
@[simp] theorem tru1_bl {b : Bool} : tru1 (.p (.bl b)) h = .ok b h := by cases b <;> rfl
theorem evT_cmp {o : COp} {a b : Ex} : evT G ρ (.cmp o a b) h = (ev G ρ a h).bind fun x h => (ev G ρ b h).bind fun y h => (cmp2 o x y h).bind fun d h => tru1 d h := by
  rw [evT, ev_cmp]
  · cases ev G ρ a h with
    | ok x h1 =>
      show R.bind (R.bind (ev G ρ b h1) _) _ = R.bind (ev G ρ b h1) _
      cases ev G ρ b h1 <;> rfl
    | _ => rfl
  all_goals (intros; rename_i z; cases z)
theorem evT_call {f : Nat} {es : Exs} : evT G ρ (.call f es) h = (evs G ρ es h).bind fun ds h => (G.call f ds h).bind fun d h => tru1 d h := by
  rw [evT, ev_call]
  · cases evs G ρ es h <;> rfl
  all_goals (intros; rename_i z; cases z)
theorem evT_blt {b : Blt} {m : Bool} {es : Exs} : evT G ρ (.blt b m es) h = (evs G ρ es h).bind fun ds h => (blt1 b m ds h).bind fun d h => tru1 d h := by
  rw [evT, ev_blt]
  · cases evs G ρ es h <;> rfl
  all_goals (intros; rename_i z; cases z)
theorem evT_var {i : Nat} : evT G ρ (.var i) h = (R.ofO (slot ρ i) h).bind fun d h => tru1 d h := by
  rw [evT, ev_var]
  · rfl
  all_goals (intros; rename_i z; cases z)
theorem evT_idx {a i : Ex} : evT G ρ (.idx a i) h = (ev G ρ (.idx a i) h).bind fun d h => tru1 d h := by
  rw [evT]
  · rfl
  all_goals (intros; rename_i z; cases z)
/-! statements -/
theorem ex_set {i : Nat} {e : Ex} : ex G ρ (.set i e) h = RS.ofR (ev G ρ e h) ρ fun d h => .next (ρ.set i (some d)) h := by first | (rw [ex]; done) | (rw [ex]; rfl) | (unfold ex; rfl)
theorem ex_par {i j : Nat} {a b : Ex} : ex G ρ (.par i j a b) h = RS.ofR (ev G ρ a h) ρ fun x h => RS.ofR (ev G ρ b h) ρ fun y h => .next ((ρ.set i (some x)).set j (some y)) h := by first | (rw [ex]; done) | (rw [ex]; rfl) | (unfold ex; rfl)
def unp1 (ρ : Slots) (is : List Nat) (d : D) (h : Hea) : RS := match bindD h ρ (.many is) d with
  | some ρ' => .next ρ' h
  | none => .stuck
theorem ex_unp {is : List Nat} {e : Ex} : ex G ρ (.unp is e) h = RS.ofR (ev G ρ e h) ρ fun d h => unp1 ρ is d h := by first | (rw [ex]; done) | (rw [ex]; rfl) | (unfold ex; rfl)
def seti1 (bs : Nat) (ρ : Slots) (d x k : D) (h : Hea) : RS := match x, k with
  | .ref n, .p (.int k) => (match cellAt h n with
    | some xs => (match place xs.length k with
      | some j => if may bs n d = true then .next ρ (h.set n (some (xs.set j d))) else .stuck
      | none => .stuck)
    | none => .stuck)
  | _, _ => .stuck
theorem ex_seti {o i e : Ex} : ex G ρ (.seti o i e) h = RS.ofR (ev G ρ e h) ρ fun d h => RS.ofR (ev G ρ o h) ρ fun x h => RS.ofR (ev G ρ i h) ρ fun k h => seti1 G.bs ρ d x k h := by first | (rw [ex]; done) | (rw [ex]; rfl) | (unfold ex; rfl)
theorem ex_expr {e : Ex} : ex G ρ (.expr e) h = RS.ofR (ev G ρ e h) ρ fun _ h => .next ρ h := by first | (rw [ex]; done) | (rw [ex]; rfl) | (unfold ex; rfl)
theorem ex_ret {e : Ex} : ex G ρ (.ret e) h = RS.ofR (ev G ρ e h) ρ fun d h => .ret d h := by first | (rw [ex]; done) | (rw [ex]; rfl) | (unfold ex; rfl)
@[simp] theorem ex_retN : ex G ρ .retN h = .ret (.p .non) h := by first | (rw [ex]; done) | (rw [ex]; rfl) | (unfold ex; rfl)
theorem ex_if {c : Ex} {a b : Sts} : ex G ρ (.if_ c a b) h = RS.ofR (evT G ρ c h) ρ fun k h => if k = true then exs G ρ a h else exs G ρ b h := by rw [ex]
theorem ex_while {n : Nat} {c : Ex} {b : Sts} : ex G ρ (.while_ n c b) h = runWhile G c b n ρ h := by first | (rw [ex]; done) | (rw [ex]; rfl) | (unfold ex; rfl)
theorem ex_for {tg : Tg} {it : It} {b : Sts} : ex G ρ (.for_ tg it b) h = RS.ofR (evI G ρ it h) ρ fun xs h => runFor G tg b xs ρ h := by first | (rw [ex]; done) | (rw [ex]; rfl) | (unfold ex; rfl)
@[simp] theorem ex_brk : ex G ρ .brk h = .brk ρ h := by first | (rw [ex]; done) | (rw [ex]; rfl) | (unfold ex; rfl)
@[simp] theorem ex_cont : ex G ρ .cont h = .cont ρ h := by first | (rw [ex]; done) | (rw [ex]; rfl) | (unfold ex; rfl)
@[simp] theorem ex_pass : ex G ρ .pass h = .next ρ h := by first | (rw [ex]; done) | (rw [ex]; rfl) | (unfold ex; rfl)
def raise1 (c : Nat) (ρ : Slots) (ds : List D) (h : Hea) : RS := match pures ds with
  | some xs => .exn c xs ρ h
  | none => .stuck
theorem ex_raise {c : Nat} {es : Exs} : ex G ρ (.raise c es) h = RS.ofR (evs G ρ es h) ρ fun ds h => raise1 c ρ ds h := by first | (rw [ex]; done) | (rw [ex]; rfl) | (unfold ex; rfl)
@[simp] theorem raise1_one {c : Nat} {x : P} : raise1 c ρ [.p x] h = .exn c [x] ρ h := rfl
def try1 (r : RS) (c : Nat) (i : Option Nat) (s : Sts) : RS := match r with
  | .exn k fs ρ h => if subT k c = true then tryEnd (hotS k fs s) i ρ h else .exn k fs ρ h
  | r => r
theorem ex_try {b : Sts} {c : Nat} {i : Option Nat} {s : Sts} : ex G ρ (.try_ b c i s) h = try1 (exs G ρ b h) c i s := by
  rw [ex]
  cases exs G ρ b h <;> rfl
def frz1 (ρ : Slots) (i : Nat) (h : Hea) : RS := match slot ρ i with
  | some (.ref n) => (match (cellAt h n).bind pures with
    | some xs => .next (ρ.set i (some (.p (.lst xs)))) (h.set n none)
    | none => .stuck)
  | _ => .stuck
theorem ex_frz {i : Nat} : ex G ρ (.frz i) h = frz1 ρ i h := by
  unfold ex frz1 slot
  cases ρ[i]? with
  | none => rfl
  | some o =>
    cases o with
    | none => rfl
    | some d => cases d <;> rfl
@[simp] theorem exs_nil : exs G ρ .nil h = .next ρ h := by first | (rw [exs]; done) | (rw [exs]; rfl) | (unfold exs; rfl)
theorem exs_cons {s : St} {r : Sts} : exs G ρ (.cons s r) h = RS.bind (ex G ρ s h) fun ρ h => exs G ρ r h := by rw [exs]
/-! calls -/
theorem call_eq {T : List Fd} {n i : Nat} {fd : Fd} {ds : List D} {h : Hea} (hT : T[i]? = some fd) (hl : ds.length = fd.np) : callN T (n + 1) i ds h = finish h.length (exs ⟨callN T n, h.length⟩ (startS fd ds) fd.body h) := by
  unfold callN
  rw [hT]
  simp only [if_pos hl]
@[simp] theorem finish_p {b : Nat} {x : P} : finish b (.ret (.p x) h) = .ok (.p x) (h.take b) := rfl
@[simp] theorem finish_ref {b : Nat} {n : Nat} : finish b (.ret (.ref n) h) = .ok (.ref n) h := rfl
@[simp] theorem finish_next {b : Nat} : finish b (.next ρ h) = .ok (.p .non) (h.take b) := rfl
@[simp] theorem finish_exn {b c : Nat} {fs : List P} : finish b (.exn c fs ρ h) = .exn c fs (h.take b) := rfl
@[simp] theorem take_len {α : Type} {l : List α} : l.take l.length = l := List.take_length
/-! operations -/
@[simp] theorem bin2_add {i j : Int} : bin2 .add (.p (.int i)) (.p (.int j)) h = .ok (.p (.int (i + j))) h := rfl
@[simp] theorem bin2_sub {i j : Int} : bin2 .sub (.p (.int i)) (.p (.int j)) h = .ok (.p (.int (i - j))) h := rfl
theorem bin2_mul {i j : Int} (m : mulOk i j = true) : bin2 .mul (.p (.int i)) (.p (.int j)) h = .ok (.p (.int (i * j))) h := by simp [bin2, binP, m]
theorem bin2_fdiv {i j : Int} (m : divOk j = true) : bin2 .fdiv (.p (.int i)) (.p (.int j)) h = .ok (.p (.int (i / j))) h := by simp [bin2, binP, m]
theorem bin2_mod {i j : Int} (m : 0 < j) : bin2 .mod (.p (.int i)) (.p (.int j)) h = .ok (.p (.int (i % j))) h := by simp [bin2, binP, m]
@[simp] theorem cmp2_lt {i j : Int} : cmp2 .lt (.p (.int i)) (.p (.int j)) h = .ok (.p (.bl (decide (i < j)))) h := rfl
@[simp] theorem cmp2_le {i j : Int} : cmp2 .le (.p (.int i)) (.p (.int j)) h = .ok (.p (.bl (decide (i ≤ j)))) h := rfl
@[simp] theorem cmp2_gt {i j : Int} : cmp2 .gt (.p (.int i)) (.p (.int j)) h = .ok (.p (.bl (decide (j < i)))) h := rfl
@[simp] theorem cmp2_ge {i j : Int} : cmp2 .ge (.p (.int i)) (.p (.int j)) h = .ok (.p (.bl (decide (j ≤ i)))) h := rfl
@[simp] theorem cmp2_eqi {i j : Int} : cmp2 .eq (.p (.int i)) (.p (.int j)) h = .ok (.p (.bl (i == j))) h := rfl
@[simp] theorem cmp2_nei {i j : Int} : cmp2 .ne (.p (.int i)) (.p (.int j)) h = .ok (.p (.bl (!(i == j)))) h := rfl
@[simp] theorem cmp2_eqb {i j : Bool} : cmp2 .eq (.p (.bl i)) (.p (.bl j)) h = .ok (.p (.bl (i == j))) h := rfl
@[simp] theorem cmp2_neb {i j : Bool} : cmp2 .ne (.p (.bl i)) (.p (.bl j)) h = .ok (.p (.bl (!(i == j)))) h := rfl
@[simp] theorem tup1_two {x y : P} : tup1 [.p x, .p y] h = .ok (.p (.tup [x, y])) h := rfl
@[simp] theorem tup1_one {x : P} : tup1 [.p x] h = .ok (.p (.tup [x])) h := rfl
@[simp] theorem tup1_three {x y z : P} : tup1 [.p x, .p y, .p z] h = .ok (.p (.tup [x, y, z])) h := rfl
@[simp] theorem idx_two0 {x y : P} : idxD h (.p (.tup [x, y])) (.p (.int 0)) = some (.p x) := rfl
@[simp] theorem idx_two1 {x y : P} : idxD h (.p (.tup [x, y])) (.p (.int 1)) = some (.p y) := rfl
@[simp] theorem unp1_two {i j : Nat} {x y : P} : unp1 ρ [i, j] (.p (.tup [x, y])) h = .next ((ρ.set i (some (.p x))).set j (some (.p y))) h := rfl
@[simp] theorem blt1_abs {i : Int} : blt1 .abs false [.p (.int i)] h = .ok (.p (.int i.natAbs)) h := by
  have e : (if i < 0 then -i else i) = ((i.natAbs : Nat) : Int) := by split <;> omega
  show outP false (.int (if i < 0 then -i else i)) h = _
  rw [e]; rfl
@[simp] theorem blt1_int {i : Int} : blt1 .int false [.p (.int i)] h = .ok (.p (.int i)) h := rfl
@[simp] theorem blt1_intb {b : Bool} : blt1 .int false [.p (.bl b)] h = .ok (.p (.int (if b then 1 else 0))) h := rfl
@[simp] theorem blt1_max {i j : Int} : blt1 .max false [.p (.int i), .p (.int j)] h = .ok (.p (.int (if j > i then j else i))) h := rfl
@[simp] theorem blt1_min {i j : Int} : blt1 .min false [.p (.int i), .p (.int j)] h = .ok (.p (.int (if j < i then j else i))) h := rfl
def kindB (k : String) : P → Bool
  | .non => k == "NoneType"
  | .bl _ => k == "bool" || k == "int"
  | .int _ => k == "int"
  | .str _ => k == "str"
  | .tup _ => k == "tuple"
  | .lst _ => k == "list"
  | _ => false
theorem blt1_isi {x : P} {k : String} (hx : (kindS x).isSome = true) (hk : clssL.contains k = true) : blt1 .isinst false [.p x, .p (.ty k)] h = .ok (.p (.bl (kindB k x))) h := by
  have hk : k = "bool" ∨ k = "int" ∨ k = "str" ∨ k = "tuple" ∨ k = "list" ∨ k = "dict" := by simpa [clssL] using hk
  rcases hk with rfl | rfl | rfl | rfl | rfl | rfl <;> cases x <;> first | rfl | (cases hx; done)
@[simp] theorem blt1_len_tup {xs : List P} : blt1 .len false [.p (.tup xs)] h = .ok (.p (.int (xs.length : Nat))) h := rfl
@[simp] theorem blt1_len_lst {xs : List P} : blt1 .len false [.p (.lst xs)] h = .ok (.p (.int (xs.length : Nat))) h := rfl
theorem blt1_len_str {s : List Nat} (hs : s.length ≤ LIM) : blt1 .len false [.p (.str s)] h = .ok (.p (.int (s.length : Nat))) h := by
  show (match (if s.length ≤ LIM then some (P.int (s.length : Nat)) else none) with
    | some y => outP false y h
    | none => .stuck) = _
  rw [if_pos hs]; rfl
theorem blt1_len_ref {n : Nat} {ds : List D} (e : cellAt h n = some ds) : blt1 .len false [.ref n] h = .ok (.p (.int (ds.length : Nat))) h := by
  simp [blt1, lenD, e]
theorem whileS {c : Ex} {b : Sts} {n : Nat} : runWhile G c b (n + 1) ρ h = RS.ofR (evT G ρ c h) ρ fun k h => if k = true then (match exs G ρ b h with
    | .next ρ h => runWhile G c b n ρ h
    | .cont ρ h => runWhile G c b n ρ h
    | .brk ρ h => .next ρ h
    | .ret d h => .ret d h
    | .exn c fs ρ h => .exn c fs ρ h
    | .stuck => .stuck) else .next ρ h := rfl
@[simp] theorem for_nil {tg : Tg} {b : Sts} : runFor G tg b [] ρ h = .next ρ h := rfl
def forB (G : Gm) (tg : Tg) (b : Sts) (xs : List P) (r : RS) : RS := match r with
  | .next ρ h => runFor G tg b xs ρ h
  | .cont ρ h => runFor G tg b xs ρ h
  | .brk ρ h => .next ρ h
  | .ret d h => .ret d h
  | .exn c fs ρ h => .exn c fs ρ h
  | .stuck => .stuck
@[simp] theorem forB_next {tg : Tg} {b : Sts} {xs : List P} : forB G tg b xs (.next ρ h) = runFor G tg b xs ρ h := rfl
@[simp] theorem forB_ret {tg : Tg} {b : Sts} {xs : List P} {d : D} : forB G tg b xs (.ret d h) = .ret d h := rfl
@[simp] theorem forB_exn {tg : Tg} {b : Sts} {xs : List P} {c : Nat} {fs : List P} : forB G tg b xs (.exn c fs ρ h) = .exn c fs ρ h := rfl
theorem for_one {i : Nat} {b : Sts} {x : P} {xs : List P} : runFor G (.one i) b (x :: xs) ρ h = forB G (.one i) b xs (exs G (ρ.set i (some (.p x))) b h) := by
  show forLoop _ (x :: xs) ρ h = _
  unfold forLoop
  show (match exs G (ρ.set i (some (.p x))) b h with
    | .next ρ h => _
    | .cont ρ h => _
    | .brk ρ h => RS.next ρ h
    | .ret d h => RS.ret d h
    | .exn c fs ρ h => RS.exn c fs ρ h
    | .stuck => RS.stuck) = _
  cases exs G (ρ.set i (some (.p x))) b h <;> rfl
theorem for_two {i j : Nat} {b : Sts} {x y : P} {xs : List P} : runFor G (.many [i, j]) b (.tup [x, y] :: xs) ρ h = forB G (.many [i, j]) b xs (exs G ((ρ.set i (some (.p x))).set j (some (.p y))) b h) := by
  show forLoop _ (_ :: xs) ρ h = _
  unfold forLoop
  show (match exs G ((ρ.set i (some (.p x))).set j (some (.p y))) b h with
    | .next ρ h => _
    | .cont ρ h => _
    | .brk ρ h => RS.next ρ h
    | .ret d h => RS.ret d h
    | .exn c fs ρ h => RS.exn c fs ρ h
    | .stuck => RS.stuck) = _
  cases exs G ((ρ.set i (some (.p x))).set j (some (.p y))) b h <;> rfl
/-- a comprehension without a condition, of a pure element -/
theorem comp_one {vs : List Nat} {i : Nat} {elt : Ex} {f : P → P} : ∀ {xs : List P}, (∀ x ∈ xs, ev G ((wipe ρ vs).set i (some (.p x))) elt h = .ok (.p (f x)) h) → runComp G ρ vs (.one i) .nil elt xs h = .ok (xs.map fun x => .p (f x)) h
  | [], _ => rfl
  | x :: xs, hx => by
    have ih := comp_one (f := f) (xs := xs) fun y hy => hx y (List.mem_cons_of_mem _ hy)
    have e := hx x List.mem_cons_self
    obtain ⟨one, h1⟩ : ∃ one, one = (fun (x : P) (h : Hea) => match bindTg (wipe ρ vs) (.one i) x with
      | some ρ' => (evC G ρ' .nil h).bind fun k h => if k = true then (ev G ρ' elt h).bind fun d h => R.ok (some d) h else .ok none h
      | none => .stuck) := ⟨_, rfl⟩
    have u : ∀ ys, runComp G ρ vs (.one i) .nil elt ys h = R.noexn (compLoop one ys h) := fun ys => by rw [h1]; rfl
    rw [u] at ih ⊢
    have e2 : one x h = .ok (some (.p (f x))) h := by
      rw [h1]
      show (evC G ((wipe ρ vs).set i (some (.p x))) .nil h).bind _ = _
      rw [evC_nil, bind_ok, if_pos rfl, e, bind_ok]
    show R.noexn ((one x h).bind fun o h => (compLoop one xs h).bind fun r h => .ok (match o with | some d => d :: r | none => r) h) = _
    rw [e2, bind_ok]
    cases c : compLoop one xs h with
    | ok ds h1 =>
      rw [c] at ih
      have ih : R.ok ds h1 = R.ok (xs.map fun x => .p (f x)) h := ih
      cases ih
      rfl
    | exn _ _ _ => rw [c] at ih; cases ih
    | stuck => rw [c] at ih; cases ih
theorem pures_map {f : P → P} : ∀ {xs : List P}, pures (xs.map fun x => D.p (f x)) = some (xs.map f)
  | [] => rfl
  | x :: xs => by
    show (pures (xs.map fun x => D.p (f x))).map (f x :: ·) = _
    rw [pures_map]; rfl
theorem mk_map {f : P → P} {xs : List P} (hl : xs.length ≤ LIM) : mk false (xs.map fun x => D.p (f x)) h = .ok (.p (.lst (xs.map f))) h := by
  unfold mk
  rw [if_pos (by rw [List.length_map]; exact hl)]
  simp only [pures_map]
theorem bools_map {f : P → Bool} : ∀ {xs : List P}, bools (xs.map fun x => P.bl (f x)) = some (xs.map f)
  | [] => rfl
  | x :: xs => by
    show (bools (xs.map fun x => P.bl (f x))).map (f x :: ·) = _
    rw [bools_map]; rfl
theorem blt1_all {f : P → Bool} {xs : List P} : blt1 .all false [.p (.lst (xs.map fun x => P.bl (f x)))] h = .ok (.p (.bl (xs.all f))) h := by
  show (match (some [P.lst (xs.map fun x => P.bl (f x))]).bind (bltP .all) with
    | some y => outP false y h
    | none => .stuck) = _
  show (match (bools (xs.map fun x => P.bl (f x))).map (fun bs => P.bl (bs.all id)) with
    | some y => outP false y h
    | none => .stuck) = _
  rw [bools_map]
  show R.ok (D.p (.bl ((xs.map f).all id))) h = _
  rw [List.all_map]; rfl
@[simp] theorem seq1_tup {xs : List P} : seq1 (.p (.tup xs)) h = .ok xs h := rfl
@[simp] theorem seq1_lst {xs : List P} : seq1 (.p (.lst xs)) h = .ok xs h := rfl
@[simp] theorem zip1_tt {xs ys : List P} : zip1 (.p (.tup xs)) (.p (.tup ys)) h = .ok (List.zipWith (fun x y => P.tup [x, y]) xs ys) h := rfl
@[simp] theorem zip1_tl {xs ys : List P} : zip1 (.p (.tup xs)) (.p (.lst ys)) h = .ok (List.zipWith (fun x y => P.tup [x, y]) xs ys) h := rfl
@[simp] theorem zip1_lt {xs ys : List P} : zip1 (.p (.lst xs)) (.p (.tup ys)) h = .ok (List.zipWith (fun x y => P.tup [x, y]) xs ys) h := rfl
@[simp] theorem zip1_ll {xs ys : List P} : zip1 (.p (.lst xs)) (.p (.lst ys)) h = .ok (List.zipWith (fun x y => P.tup [x, y]) xs ys) h := rfl
/-! one list in the making, at the end of the cells -/
@[simp] theorem cell_last {ds : List D} : cellAt (h ++ [some ds]) h.length = some ds := by
  unfold cellAt
  rw [List.getElem?_append_right (Nat.le_refl _), Nat.sub_self]
  rfl
@[simp] theorem set_last {c c' : Cell} : (h ++ [c]).set h.length c' = h ++ [c'] := by
  rw [List.set_append_right _ _ (Nat.le_refl _), Nat.sub_self]
  rfl
@[simp] theorem take_app {r : Hea} : (h ++ r).take h.length = h := List.take_left
@[simp] theorem mk_new : mk true [] h = .ok (.ref h.length) (h ++ [some []]) := rfl
@[simp] theorem recv_last {ds : List D} : recv .append (h ++ [some ds]) (.ref h.length) = true := by
  show (isList Mt.append && (cellAt (h ++ [some ds]) h.length).isSome) = true
  rw [cell_last]; rfl
theorem app_last {bs : Nat} {ds : List D} {x : P} (hl : ds.length < LIM) : methD bs .append false (.ref h.length) [.p x] (h ++ [some ds]) = .ok (.p .non) (h ++ [some (ds ++ [.p x])]) := by
  unfold methD
  simp [hl, may]
theorem pures_p : ∀ {xs : List P}, pures (xs.map D.p) = some xs
  | [] => rfl
  | x :: xs => by
    show (pures (xs.map D.p)).map (x :: ·) = _
    rw [pures_p]; rfl
theorem view_last {xs : List P} : view (h ++ [some (xs.map D.p)]) (.ref h.length) = some (.lst xs) := by
  show (cellAt (h ++ [some (xs.map D.p)]) h.length).bind (fun ds => (pures ds).map P.lst) = _
  rw [cell_last]
  show (pures (xs.map D.p)).map P.lst = _
  rw [pures_p]; rfl
theorem blt1_tuple_last {xs : List P} : blt1 .tuple false [.ref h.length] (h ++ [some (xs.map D.p)]) = .ok (.p (.tup xs)) (h ++ [some (xs.map D.p)]) := by
  unfold blt1 lenD
  simp only [views, view_last]
  rfl
theorem frz_last {i : Nat} {xs : List P} (e : slot ρ i = some (.ref h.length)) : frz1 ρ i (h ++ [some (xs.map D.p)]) = .next (ρ.set i (some (.p (.lst xs)))) (h ++ [none]) := by
  unfold frz1
  rw [e]
  simp [pures_p]
@[simp] theorem blt1_tuple_l {xs : List P} : blt1 .tuple false [.p (.lst xs)] h = .ok (.p (.tup xs)) h := rfl
@[simp] theorem blt1_tuple_t {xs : List P} : blt1 .tuple false [.p (.tup xs)] h = .ok (.p (.tup xs)) h := rfl
@[simp] theorem blt1_list_l {xs : List P} : blt1 .list false [.p (.lst xs)] h = .ok (.p (.lst xs)) h := rfl
@[simp] theorem blt1_list_t {xs : List P} : blt1 .list false [.p (.tup xs)] h = .ok (.p (.lst xs)) h := rfl
theorem intsP_map : ∀ {ns : List Int}, intsP (ns.map P.int) = some ns
  | [] => rfl
  | n :: ns => by
    show (intsP (ns.map P.int)).map (n :: ·) = _
    rw [intsP_map]; rfl
theorem idx_at {xs : List P} {i : Nat} {x : P} (e : xs[i]? = some x) : idxD h (.p (.tup xs)) (.p (.int (i : Nat))) = some (.p x) := by
  have l : i < xs.length := (List.getElem?_eq_some_iff.mp e).1
  show (atP xs (i : Int)).map D.p = _
  unfold atP place
  rw [if_pos (by omega), if_pos (by omega)]
  show (xs[(i : Int).toNat]?).map D.p = _
  rw [Int.toNat_natCast, e]; rfl
theorem idx_atL {xs : List P} {i : Nat} {x : P} (e : xs[i]? = some x) : idxD h (.p (.lst xs)) (.p (.int (i : Nat))) = some (.p x) := by
  have l : i < xs.length := (List.getElem?_eq_some_iff.mp e).1
  show (atP xs (i : Int)).map D.p = _
  unfold atP place
  rw [if_pos (by omega), if_pos (by omega)]
  show (xs[(i : Int).toNat]?).map D.p = _
  rw [Int.toNat_natCast, e]; rfl
theorem for_of {tg : Tg} {b : Sts} {x : P} {xs : List P} {ρ' : Slots} (e : bindTg ρ tg x = some ρ') : runFor G tg b (x :: xs) ρ h = forB G tg b xs (exs G ρ' b h) := by
  show forLoop _ (_ :: xs) ρ h = _
  unfold forLoop
  rw [e]
  show (match exs G ρ' b h with
    | .next ρ h => _
    | .cont ρ h => _
    | .brk ρ h => RS.next ρ h
    | .ret d h => RS.ret d h
    | .exn c fs ρ h => RS.exn c fs ρ h
    | .stuck => RS.stuck) = _
  cases exs G ρ' b h <;> rfl
/-- a comprehension over any target, without a condition, of a pure element -/
theorem comp_of {vs : List Nat} {tg : Tg} {elt : Ex} {f : P → P} : ∀ {xs : List P}, (∀ x ∈ xs, ∃ ρ', bindTg (wipe ρ vs) tg x = some ρ' ∧ ev G ρ' elt h = .ok (.p (f x)) h) → runComp G ρ vs tg .nil elt xs h = .ok (xs.map fun x => .p (f x)) h
  | [], _ => rfl
  | x :: xs, hx => by
    have ih := comp_of (f := f) (xs := xs) fun y hy => hx y (List.mem_cons_of_mem _ hy)
    obtain ⟨ρ', eb, e⟩ := hx x List.mem_cons_self
    obtain ⟨one, h1⟩ : ∃ one, one = (fun (x : P) (h : Hea) => match bindTg (wipe ρ vs) tg x with
      | some ρ' => (evC G ρ' .nil h).bind fun k h => if k = true then (ev G ρ' elt h).bind fun d h => R.ok (some d) h else .ok none h
      | none => .stuck) := ⟨_, rfl⟩
    have u : ∀ ys, runComp G ρ vs tg .nil elt ys h = R.noexn (compLoop one ys h) := fun ys => by rw [h1]; rfl
    rw [u] at ih ⊢
    have e2 : one x h = .ok (some (.p (f x))) h := by
      rw [h1]
      show (match bindTg (wipe ρ vs) tg x with
      | some ρ' => (evC G ρ' .nil h).bind fun k h => if k = true then (ev G ρ' elt h).bind fun d h => R.ok (some d) h else .ok none h
      | none => .stuck) = _
      rw [eb]
      show (evC G ρ' .nil h).bind _ = _
      rw [evC_nil, bind_ok, if_pos rfl, e, bind_ok]
    show R.noexn ((one x h).bind fun o h => (compLoop one xs h).bind fun r h => .ok (match o with | some d => d :: r | none => r) h) = _
    rw [e2, bind_ok]
    cases c : compLoop one xs h with
    | ok ds h1 =>
      rw [c] at ih
      have ih : R.ok ds h1 = R.ok (xs.map fun x => .p (f x)) h := ih
      cases ih
      rfl
    | exn _ _ _ => rw [c] at ih; cases ih
    | stuck => rw [c] at ih; cases ih
theorem for_step {tg : Tg} {b : Sts} {x : P} {xs : List P} {ρ' ρ'' : Slots} {h' : Hea} (e : bindTg ρ tg x = some ρ') (q : exs G ρ' b h = .next ρ'' h') : runFor G tg b (x :: xs) ρ h = runFor G tg b xs ρ'' h' := by
  rw [for_of e, q]; rfl
theorem for_exn {tg : Tg} {b : Sts} {x : P} {xs : List P} {ρ' ρ'' : Slots} {h' : Hea} {c : Nat} {fs : List P} (e : bindTg ρ tg x = some ρ') (q : exs G ρ' b h = .exn c fs ρ'' h') : runFor G tg b (x :: xs) ρ h = .exn c fs ρ'' h' := by
  rw [for_of e, q]; rfl
theorem for_ret {tg : Tg} {b : Sts} {x : P} {xs : List P} {ρ' : Slots} {h' : Hea} {d : D} (e : bindTg ρ tg x = some ρ') (q : exs G ρ' b h = .ret d h') : runFor G tg b (x :: xs) ρ h = .ret d h' := by
  rw [for_of e, q]; rfl
theorem slc_tail {x : P} {xs : List P} : slc3 false (.p (.tup (x :: xs))) (some 1) none h = .ok (.p (.tup xs)) h := by
  show R.ok (D.p (.tup (cut (x :: xs) (some 1) none))) h = _
  have e : cut (x :: xs) (some 1) none = xs := by
    have e1 : edge (x :: xs).length 0 (some 1) = 1 := by
      show (if (1 : Int) < 0 then ((1 : Int) + ((x :: xs).length : Nat)).toNat else min (1 : Int).toNat (x :: xs).length) = 1
      rw [if_neg (by decide), List.length_cons]
      show min 1 (xs.length + 1) = 1
      omega
    unfold cut
    rw [e1]
    show (xs.drop 0).take ((x :: xs).length - 1) = xs
    simp
  rw [e]
theorem zip_pairs {α β : Type} {f : α → P} {g : β → P} {xs : List α} {ys : List β} : List.zipWith (fun x y => P.tup [x, y]) (xs.map f) (ys.map g) = List.zipWith (fun x y => P.tup [f x, g y]) xs ys := by
  rw [List.zipWith_map]
end
end Mp

set_option linter.all false
set_option maxRecDepth 100000
/-! Ratios in lowest terms, by hand. -/
namespace K15
theorem mul_num (p q : Rat) : (p * q).num = p.num / (Int.gcd p.num q.den : Nat) * (q.num / (Int.gcd q.num p.den : Nat)) := by
  show (Rat.mul p q).num = _
  unfold Rat.mul
  simp [Int.gcd, Int.natAbs_natCast, Int.divExact_eq_tdiv, Int.tdiv_eq_ediv_of_dvd]
theorem mul_den (p q : Rat) : (p * q).den = p.den / (Int.gcd q.num p.den) * (q.den / (Int.gcd p.num q.den)) := by
  show (Rat.mul p q).den = _
  unfold Rat.mul
  simp [Int.gcd]
theorem sum_law (p q : Rat) : ∀ g rest rb : Nat, g = Nat.gcd p.den q.den → rest = q.den / g → rb = p.den / g → ∀ top : Int, top = p.num * rest + q.num * rb → ∀ e, e = Int.gcd top g →
    (p + q).num = top / (e : Nat) ∧ (p + q).den = p.den / e * rest := by
  intro g rest rb hg hr hb top ht e he
  have aux := Rat.add.aux p q (g := g) (ad := rb) (bd := rest) hg hb hr
  have e1 : (p.num * rest + q.num * rb).natAbs.gcd g = (p.num * rest + q.num * rb).natAbs.gcd (rb * q.den) := aux
  rw [← ht] at e1
  have gp : 0 < g := by rw [hg]; exact Nat.gcd_pos_of_pos_left _ p.den_pos
  have db : p.den = rb * g := by rw [hb, hg]; exact (Nat.div_mul_cancel (Nat.gcd_dvd_left _ _)).symm
  have dd : q.den = rest * g := by rw [hr, hg]; exact (Nat.div_mul_cancel (Nat.gcd_dvd_right _ _)).symm
  have s : p + q = mkRat top (rb * q.den) := by
    rw [Rat.add_def']
    have h1 : p.num * (q.den : Int) + q.num * (p.den : Int) = top * (g : Int) := by
      rw [ht]
      have h2 : (p.den : Int) = rb * g := by rw [db]; exact Int.natCast_mul _ _
      have h3 : (q.den : Int) = rest * g := by rw [dd]; exact Int.natCast_mul _ _
      rw [h2, h3]
      grind
    have h4 : p.den * q.den = rb * q.den * g := by
      rw [db]
      grind
    rw [h1, h4, Rat.mkRat_mul_right (Nat.ne_of_gt gp)]
  have dz : rb * q.den ≠ 0 := by
    have h1 : rb ≠ 0 := by
      intro z
      have := p.den_pos
      rw [db, z] at this
      simp at this
    exact Nat.mul_ne_zero h1 q.den_nz
  have ee : e = (rb * q.den).gcd top.natAbs := by
    rw [he, Nat.gcd_comm, ← e1]
    rfl
  have eg : e ∣ g := by rw [he]; exact Nat.gcd_dvd_right _ _
  constructor
  · rw [s, Rat.num_mkRat, if_neg dz, ← ee]
  · rw [s, Rat.den_mkRat, if_neg dz, ← ee]
    obtain ⟨c, hc⟩ := eg
    have ep : 0 < e := by
      rcases Nat.eq_zero_or_pos e with z | z
      · rw [z] at hc; omega
      · exact z
    have h5 : p.den = e * (rb * c) := by rw [db, hc]; grind
    have h6 : rb * q.den = e * (rb * c * rest) := by rw [dd, hc]; grind
    rw [h5, h6, Nat.mul_div_cancel_left _ ep, Nat.mul_div_cancel_left _ ep]
theorem low_law (a : Int) (b : Nat) (hb : b ≠ 0) (e : Nat) (he : e = Int.gcd a b) : (mkRat a b).num = a / (e : Nat) ∧ (mkRat a b).den = b / e := by
  have ee : b.gcd a.natAbs = e := by rw [he, Nat.gcd_comm]; rfl
  constructor
  · rw [Rat.num_mkRat, if_neg hb, ee]
  · rw [Rat.den_mkRat, if_neg hb, ee]
end K15

set_option linter.all false
set_option maxRecDepth 100000
set_option maxHeartbeats 1000000
namespace K15
open Mp
theorem run_is_whole {n : Nat} (hn : 1 ≤ n) (x : P) (h : Hea) (hx : (kindS x).isSome) : callN T n i_is_whole [.p x] h = .ok (.p (.bl (match x with | .int _ => true | _ => false))) h := by
  obtain ⟨m, rfl⟩ : ∃ m, n = m + 1 := ⟨n - 1, by omega⟩
  rw [call_eq (fd := f_is_whole) rfl rfl]
  cases x <;> simp [kindS] at hx <;> simp [f_is_whole, b_is_whole, startS, exs_cons, ex_set, ex_par, ex_unp, ex_seti, ex_expr, ex_ret, ex_if, ex_while, ex_for, ex_raise, ex_try, ex_frz, ev_bin, ev_neg, ev_cmp, ev_and, ev_or, ev_not, ev_ite, ev_tup, ev_lst, ev_idx, ev_slc00, ev_slc10, ev_slc01, ev_call, ev_callv, ev_comp, ev_blt, ev_meth, evs_cons, evI_seq, evI_rng, evI_zip, evT_and, evT_or, evT_not, evT_cmp, evT_call, evT_blt, evT_var, evT_idx, blt1, lenD, views, bltP, kindS, isT, kindsL, clssL, outP]
theorem run_is_sequence {n : Nat} (hn : 1 ≤ n) (x : P) (h : Hea) (hx : (kindS x).isSome) : callN T n i_is_sequence [.p x] h = .ok (.p (.bl (match x with | .tup _ => true | .lst _ => true | _ => false))) h := by
  obtain ⟨m, rfl⟩ : ∃ m, n = m + 1 := ⟨n - 1, by omega⟩
  rw [call_eq (fd := f_is_sequence) rfl rfl]
  cases x <;> simp [kindS] at hx <;> simp [f_is_sequence, b_is_sequence, startS, exs_cons, ex_set, ex_par, ex_unp, ex_seti, ex_expr, ex_ret, ex_if, ex_while, ex_for, ex_raise, ex_try, ex_frz, ev_bin, ev_neg, ev_cmp, ev_and, ev_or, ev_not, ev_ite, ev_tup, ev_lst, ev_idx, ev_slc00, ev_slc10, ev_slc01, ev_call, ev_callv, ev_comp, ev_blt, ev_meth, evs_cons, evI_seq, evI_rng, evI_zip, evT_and, evT_or, evT_not, evT_cmp, evT_call, evT_blt, evT_var, evT_idx, blt1, lenD, views, bltP, kindS, isT, isTs, kindsL, clssL, outP]
theorem gcd_loop (G : Gm) (h : Hea) : ∀ (fuel : Nat) (a b : Nat), b < fuel →
    runWhile G (.cmp .ne (.var 1) (.con (.int 0))) l_common_divisor_1 fuel [some (.p (.int a)), some (.p (.int b))] h
      = .next [some (.p (.int (Nat.gcd a b : Nat))), some (.p (.int 0))] h
  | 0, a, b, hb => by omega
  | fuel + 1, a, b, hb => by
    rw [whileS]
    by_cases c : b = 0
    · subst c
      simp [exs_cons, ex_set, ex_par, ex_unp, ex_seti, ex_expr, ex_ret, ex_if, ex_while, ex_for, ex_raise, ex_try, ex_frz, ev_bin, ev_neg, ev_cmp, ev_and, ev_or, ev_not, ev_ite, ev_tup, ev_lst, ev_idx, ev_slc00, ev_slc10, ev_slc01, ev_call, ev_callv, ev_comp, ev_blt, ev_meth, evs_cons, evI_seq, evI_rng, evI_zip, evT_and, evT_or, evT_not, evT_cmp, evT_call, evT_blt, evT_var, evT_idx]
    · have h0 : (0 : Int) < (b : Int) := by omega
      have e : ((a : Int) % (b : Int)) = ((a % b : Nat) : Int) := by simp
      have ih := gcd_loop G h fuel b (a % b) (by have := Nat.mod_lt a (Nat.pos_of_ne_zero c); omega)
      have g : Nat.gcd b (a % b) = Nat.gcd a b := by rw [Nat.gcd_comm, ← Nat.gcd_rec, Nat.gcd_comm]
      rw [← e, g] at ih
      have body : exs G [some (.p (.int (a : Int))), some (.p (.int (b : Int)))] l_common_divisor_1 h = .next [some (.p (.int (b : Int))), some (.p (.int ((a : Int) % (b : Int))))] h := by
        simp [l_common_divisor_1, exs_cons, ex_set, ex_par, ex_unp, ex_seti, ex_expr, ex_ret, ex_if, ex_while, ex_for, ex_raise, ex_try, ex_frz, ev_bin, ev_neg, ev_cmp, ev_and, ev_or, ev_not, ev_ite, ev_tup, ev_lst, ev_idx, ev_slc00, ev_slc10, ev_slc01, ev_call, ev_callv, ev_comp, ev_blt, ev_meth, evs_cons, evI_seq, evI_rng, evI_zip, evT_and, evT_or, evT_not, evT_cmp, evT_call, evT_blt, evT_var, evT_idx, bin2_mod h0]
      simp [exs_cons, ex_set, ex_par, ex_unp, ex_seti, ex_expr, ex_ret, ex_if, ex_while, ex_for, ex_raise, ex_try, ex_frz, ev_bin, ev_neg, ev_cmp, ev_and, ev_or, ev_not, ev_ite, ev_tup, ev_lst, ev_idx, ev_slc00, ev_slc10, ev_slc01, ev_call, ev_callv, ev_comp, ev_blt, ev_meth, evs_cons, evI_seq, evI_rng, evI_zip, evT_and, evT_or, evT_not, evT_cmp, evT_call, evT_blt, evT_var, evT_idx, body, c, ih]
theorem run_common_divisor {n : Nat} (hn : 1 ≤ n) (a b : Int) (h : Hea) (hb : b.natAbs < FUEL) : callN T n i_common_divisor [.p (.int a), .p (.int b)] h = .ok (.p (.int (Int.gcd a b : Nat))) h := by
  obtain ⟨m, rfl⟩ : ∃ m, n = m + 1 := ⟨n - 1, by omega⟩
  rw [call_eq (fd := f_common_divisor) rfl rfl]
  have g := gcd_loop ⟨callN T m, h.length⟩ h FUEL a.natAbs b.natAbs hb
  simp [f_common_divisor, b_common_divisor, startS, exs_cons, ex_set, ex_par, ex_unp, ex_seti, ex_expr, ex_ret, ex_if, ex_while, ex_for, ex_raise, ex_try, ex_frz, ev_bin, ev_neg, ev_cmp, ev_and, ev_or, ev_not, ev_ite, ev_tup, ev_lst, ev_idx, ev_slc00, ev_slc10, ev_slc01, ev_call, ev_callv, ev_comp, ev_blt, ev_meth, evs_cons, evI_seq, evI_rng, evI_zip, evT_and, evT_or, evT_not, evT_cmp, evT_call, evT_blt, evT_var, evT_idx, g]
  rfl
/-! ### data -/
abbrev BIG : Nat := 2 ^ 30000
theorem big_fuel : BIG < FUEL := by unfold FUEL; exact Nat.pow_lt_pow_right (by decide) (by decide)
mutual
/-- data as the law hands it about -/
def Dat : P → Prop
  | .non => True
  | .bl _ => True
  | .int i => i.natAbs < BIG
  | .str s => s.length ≤ 100
  | .tup xs => xs.length ≤ 1000 ∧ DatL xs
  | .lst xs => xs.length ≤ 1000 ∧ DatL xs
  | _ => False
def DatL : List P → Prop
  | [] => True
  | x :: xs => Dat x ∧ DatL xs
end
theorem Dat.kind {x : P} (h : Dat x) : (kindS x).isSome = true := by cases x <;> first | rfl | exact h.elim
theorem DatL.mem : ∀ {xs : List P} {x : P}, DatL xs → x ∈ xs → Dat x
  | y :: ys, x, h, hx => by
    rcases List.mem_cons.mp hx with z | z
    · rw [z]; exact h.1
    · exact DatL.mem h.2 z
theorem DatL.of : ∀ {xs : List P}, (∀ x ∈ xs, Dat x) → DatL xs
  | [], _ => trivial
  | x :: xs, h => ⟨h x List.mem_cons_self, DatL.of fun y hy => h y (List.mem_cons_of_mem _ hy)⟩
def wholeB : P → Bool
  | .int _ => true
  | _ => false
theorem whole {n : Nat} (hn : 1 ≤ n) {x : P} (hx : Dat x) (h : Hea) : callN T n i_is_whole [.p x] h = .ok (.p (.bl (wholeB x))) h := by
  rw [run_is_whole hn x h hx.kind]
  cases x <;> rfl
def seqB : P → Bool
  | .tup _ => true
  | .lst _ => true
  | _ => false
theorem is_seq {n : Nat} (hn : 1 ≤ n) {x : P} (hx : Dat x) (h : Hea) : callN T n i_is_sequence [.p x] h = .ok (.p (.bl (seqB x))) h := by
  rw [run_is_sequence hn x h hx.kind]
  cases x <;> rfl
/-- a ratio in lowest terms -/
def ratioB : P → Bool
  | .tup [.int a, .int b] => decide (1 ≤ b) && decide (Int.gcd a b = 1)
  | _ => false
theorem is_ratio {n : Nat} (hn : 2 ≤ n) {x : P} (hx : Dat x) (h : Hea) : callN T n i_is_ratio [.p x] h = .ok (.p (.bl (ratioB x))) h := by
  obtain ⟨m, rfl⟩ : ∃ m, n = m + 1 := ⟨n - 1, by omega⟩
  have hm : 1 ≤ m := by omega
  rw [call_eq (fd := f_is_ratio) rfl rfl]
  have ki := blt1_isi (h := h) (k := "tuple") hx.kind rfl
  cases x with
  | tup xs =>
    obtain ⟨hl, hd⟩ := hx
    match xs, hd with
    | [], _ => simp [f_is_ratio, b_is_ratio, startS, exs_cons, ex_set, ex_par, ex_unp, ex_seti, ex_expr, ex_ret, ex_if, ex_while, ex_for, ex_raise, ex_try, ex_frz, ev_bin, ev_neg, ev_cmp, ev_and, ev_or, ev_not, ev_ite, ev_tup, ev_lst, ev_idx, ev_slc00, ev_slc10, ev_slc01, ev_call, ev_callv, ev_comp, ev_blt, ev_meth, evs_cons, evI_seq, evI_rng, evI_zip, evT_and, evT_or, evT_not, evT_cmp, evT_call, evT_blt, evT_var, evT_idx, ki, kindB, ratioB]
    | [_], _ => simp [f_is_ratio, b_is_ratio, startS, exs_cons, ex_set, ex_par, ex_unp, ex_seti, ex_expr, ex_ret, ex_if, ex_while, ex_for, ex_raise, ex_try, ex_frz, ev_bin, ev_neg, ev_cmp, ev_and, ev_or, ev_not, ev_ite, ev_tup, ev_lst, ev_idx, ev_slc00, ev_slc10, ev_slc01, ev_call, ev_callv, ev_comp, ev_blt, ev_meth, evs_cons, evI_seq, evI_rng, evI_zip, evT_and, evT_or, evT_not, evT_cmp, evT_call, evT_blt, evT_var, evT_idx, ki, kindB, ratioB]
    | u :: v :: w :: r, _ => 
      have z : ((r.length : Int) + 1 + 1 + 1 == 2) = false := by simp; omega
      simp [f_is_ratio, b_is_ratio, startS, exs_cons, ex_set, ex_par, ex_unp, ex_seti, ex_expr, ex_ret, ex_if, ex_while, ex_for, ex_raise, ex_try, ex_frz, ev_bin, ev_neg, ev_cmp, ev_and, ev_or, ev_not, ev_ite, ev_tup, ev_lst, ev_idx, ev_slc00, ev_slc10, ev_slc01, ev_call, ev_callv, ev_comp, ev_blt, ev_meth, evs_cons, evI_seq, evI_rng, evI_zip, evT_and, evT_or, evT_not, evT_cmp, evT_call, evT_blt, evT_var, evT_idx, ki, kindB, ratioB, z]
    | [u, v], hd =>
      obtain ⟨hu, hv, _⟩ := hd
      have wu := whole hm hu h
      have wv := whole hm hv h
      cases u with
      | int a =>
        cases v with
        | int b =>
          have g := run_common_divisor hm a b h (Nat.lt_trans hv big_fuel)
          by_cases c : b < 1
          · have c' : ¬ (1 ≤ b) := by omega
            simp [f_is_ratio, b_is_ratio, startS, exs_cons, ex_set, ex_par, ex_unp, ex_seti, ex_expr, ex_ret, ex_if, ex_while, ex_for, ex_raise, ex_try, ex_frz, ev_bin, ev_neg, ev_cmp, ev_and, ev_or, ev_not, ev_ite, ev_tup, ev_lst, ev_idx, ev_slc00, ev_slc10, ev_slc01, ev_call, ev_callv, ev_comp, ev_blt, ev_meth, evs_cons, evI_seq, evI_rng, evI_zip, evT_and, evT_or, evT_not, evT_cmp, evT_call, evT_blt, evT_var, evT_idx, ki, kindB, ratioB, wu, wv, wholeB, c, c']
          · have c' : 1 ≤ b := by omega
            by_cases d : b = 1
            · subst d
              simp [f_is_ratio, b_is_ratio, startS, exs_cons, ex_set, ex_par, ex_unp, ex_seti, ex_expr, ex_ret, ex_if, ex_while, ex_for, ex_raise, ex_try, ex_frz, ev_bin, ev_neg, ev_cmp, ev_and, ev_or, ev_not, ev_ite, ev_tup, ev_lst, ev_idx, ev_slc00, ev_slc10, ev_slc01, ev_call, ev_callv, ev_comp, ev_blt, ev_meth, evs_cons, evI_seq, evI_rng, evI_zip, evT_and, evT_or, evT_not, evT_cmp, evT_call, evT_blt, evT_var, evT_idx, ki, kindB, ratioB, wu, wv, wholeB]
            · have d' : (b == 1) = false := by simp [d]
              have e : (((Int.gcd a b : Nat) : Int) == 1) = decide (Int.gcd a b = 1) := by
                by_cases q : Int.gcd a b = 1
                · simp [q]
                · have : ¬ (((Int.gcd a b : Nat) : Int) = 1) := by omega
                  simp [q, this]
              simp [f_is_ratio, b_is_ratio, startS, exs_cons, ex_set, ex_par, ex_unp, ex_seti, ex_expr, ex_ret, ex_if, ex_while, ex_for, ex_raise, ex_try, ex_frz, ev_bin, ev_neg, ev_cmp, ev_and, ev_or, ev_not, ev_ite, ev_tup, ev_lst, ev_idx, ev_slc00, ev_slc10, ev_slc01, ev_call, ev_callv, ev_comp, ev_blt, ev_meth, evs_cons, evI_seq, evI_rng, evI_zip, evT_and, evT_or, evT_not, evT_cmp, evT_call, evT_blt, evT_var, evT_idx, ki, kindB, ratioB, wu, wv, wholeB, c, c', d', g, e]
        | _ => simp [f_is_ratio, b_is_ratio, startS, exs_cons, ex_set, ex_par, ex_unp, ex_seti, ex_expr, ex_ret, ex_if, ex_while, ex_for, ex_raise, ex_try, ex_frz, ev_bin, ev_neg, ev_cmp, ev_and, ev_or, ev_not, ev_ite, ev_tup, ev_lst, ev_idx, ev_slc00, ev_slc10, ev_slc01, ev_call, ev_callv, ev_comp, ev_blt, ev_meth, evs_cons, evI_seq, evI_rng, evI_zip, evT_and, evT_or, evT_not, evT_cmp, evT_call, evT_blt, evT_var, evT_idx, ki, kindB, ratioB, wu, wv, wholeB]
      | _ => simp [f_is_ratio, b_is_ratio, startS, exs_cons, ex_set, ex_par, ex_unp, ex_seti, ex_expr, ex_ret, ex_if, ex_while, ex_for, ex_raise, ex_try, ex_frz, ev_bin, ev_neg, ev_cmp, ev_and, ev_or, ev_not, ev_ite, ev_tup, ev_lst, ev_idx, ev_slc00, ev_slc10, ev_slc01, ev_call, ev_callv, ev_comp, ev_blt, ev_meth, evs_cons, evI_seq, evI_rng, evI_zip, evT_and, evT_or, evT_not, evT_cmp, evT_call, evT_blt, evT_var, evT_idx, ki, kindB, ratioB, wu, wholeB]
  | _ => simp [f_is_ratio, b_is_ratio, startS, exs_cons, ex_set, ex_par, ex_unp, ex_seti, ex_expr, ex_ret, ex_if, ex_while, ex_for, ex_raise, ex_try, ex_frz, ev_bin, ev_neg, ev_cmp, ev_and, ev_or, ev_not, ev_ite, ev_tup, ev_lst, ev_idx, ev_slc00, ev_slc10, ev_slc01, ev_call, ev_callv, ev_comp, ev_blt, ev_meth, evs_cons, evI_seq, evI_rng, evI_zip, evT_and, evT_or, evT_not, evT_cmp, evT_call, evT_blt, evT_var, evT_idx, ki, kindB, ratioB]
/-! ### checks of ratios -/
theorem check_ratio {n : Nat} (hn : 3 ≤ n) {x : P} (hx : Dat x) (hr : ratioB x = true) (h : Hea) : callN T n i_check_ratio [.p x] h = .ok (.p .non) h := by
  obtain ⟨m, rfl⟩ : ∃ m, n = m + 1 := ⟨n - 1, by omega⟩
  have e := is_ratio (n := m) (by omega) hx h
  rw [hr] at e
  rw [call_eq (fd := f_check_ratio) rfl rfl]
  simp [f_check_ratio, b_check_ratio, startS, exs_cons, ex_set, ex_par, ex_unp, ex_seti, ex_expr, ex_ret, ex_if, ex_while, ex_for, ex_raise, ex_try, ex_frz, ev_bin, ev_neg, ev_cmp, ev_and, ev_or, ev_not, ev_ite, ev_tup, ev_lst, ev_idx, ev_slc00, ev_slc10, ev_slc01, ev_call, ev_callv, ev_comp, ev_blt, ev_meth, evs_cons, evI_seq, evI_rng, evI_zip, evT_and, evT_or, evT_not, evT_cmp, evT_call, evT_blt, evT_var, evT_idx, e]
theorem check_ratio_bad {n : Nat} (hn : 3 ≤ n) {x : P} (hx : Dat x) (hr : ratioB x = false) (h : Hea) : ∃ fs, callN T n i_check_ratio [.p x] h = .exn c_BadNumber fs h := by
  obtain ⟨m, rfl⟩ : ∃ m, n = m + 1 := ⟨n - 1, by omega⟩
  have e := is_ratio (n := m) (by omega) hx h
  rw [hr] at e
  rw [call_eq (fd := f_check_ratio) rfl rfl]
  simp [f_check_ratio, b_check_ratio, startS, exs_cons, ex_set, ex_par, ex_unp, ex_seti, ex_expr, ex_ret, ex_if, ex_while, ex_for, ex_raise, ex_try, ex_frz, ev_bin, ev_neg, ev_cmp, ev_and, ev_or, ev_not, ev_ite, ev_tup, ev_lst, ev_idx, ev_slc00, ev_slc10, ev_slc01, ev_call, ev_callv, ev_comp, ev_blt, ev_meth, evs_cons, evI_seq, evI_rng, evI_zip, evT_and, evT_or, evT_not, evT_cmp, evT_call, evT_blt, evT_var, evT_idx, e]
/-! ### arithmetic -/
/-- a ratio as data -/
def rt (q : Rat) : P := .tup [.int q.num, .int (q.den : Nat)]
def Rok (q : Rat) : Prop := q.num.natAbs < 2 ^ 8000 ∧ q.den < 2 ^ 8000
theorem pow_le {a b : Nat} (h : a ≤ b) : (2 : Nat) ^ a ≤ 2 ^ b := Nat.pow_le_pow_right (by decide) h
theorem divOk_of {j : Int} (h0 : 0 < j) (h1 : j.natAbs < 2 ^ 9000) : divOk j = true := by
  unfold divOk
  have z : j.natAbs ≠ 0 := by omega
  have : j.natAbs.log2 < 9000 := (Nat.log2_lt z).mpr h1
  simp [h0, this]
theorem log2_le {a n : Nat} (h : a < 2 ^ n) : a.log2 ≤ n := by
  rcases Nat.eq_zero_or_pos a with z | z
  · rw [z]; simp
  · exact Nat.le_of_lt ((Nat.log2_lt (by omega)).mpr h)
theorem mulOk_of {i j : Int} (h1 : i.natAbs < 2 ^ 400000) (h2 : j.natAbs < 2 ^ 400000) : mulOk i j = true := by
  unfold mulOk
  have := log2_le h1
  have := log2_le h2
  exact decide_eq_true (by omega)
theorem rt_dat {q : Rat} (h : Rok q) : Dat (rt q) := by
  refine ⟨by simp, ?_, ?_, trivial⟩
  · exact Nat.lt_of_lt_of_le h.1 (pow_le (by decide))
  · show ((q.den : Nat) : Int).natAbs < _
    rw [Int.natAbs_natCast]
    exact Nat.lt_of_lt_of_le h.2 (pow_le (by decide))
theorem rt_ratio {q : Rat} : ratioB (rt q) = true := by
  unfold rt ratioB
  have h1 : (1 : Int) ≤ (q.den : Int) := by have := q.den_pos; omega
  have h2 : Int.gcd q.num (q.den : Int) = 1 := q.reduced
  simp [h1, h2]
theorem opposite {n : Nat} (hn : 1 ≤ n) (q : Rat) (h : Hea) : callN T n i_opposite [.p (rt q)] h = .ok (.p (rt (-q))) h := by
  obtain ⟨m, rfl⟩ : ∃ m, n = m + 1 := ⟨n - 1, by omega⟩
  rw [call_eq (fd := f_opposite) rfl rfl]
  simp [f_opposite, b_opposite, startS, exs_cons, ex_set, ex_par, ex_unp, ex_seti, ex_expr, ex_ret, ex_if, ex_while, ex_for, ex_raise, ex_try, ex_frz, ev_bin, ev_neg, ev_cmp, ev_and, ev_or, ev_not, ev_ite, ev_tup, ev_lst, ev_idx, ev_slc00, ev_slc10, ev_slc01, ev_call, ev_callv, ev_comp, ev_blt, ev_meth, evs_cons, evI_seq, evI_rng, evI_zip, evT_and, evT_or, evT_not, evT_cmp, evT_call, evT_blt, evT_var, evT_idx, rt]
theorem gcd_pos {a : Int} {d : Nat} (h : 0 < d) : 0 < Int.gcd a d := Nat.gcd_pos_of_pos_right _ h
theorem gcd_le {a : Int} {d : Nat} (h : 0 < d) : Int.gcd a d ≤ d := Nat.le_of_dvd h (Nat.gcd_dvd_right _ _)
theorem small {a n m : Nat} (h : a < 2 ^ n) (l : n ≤ m) : a < 2 ^ m := Nat.lt_of_lt_of_le h (pow_le l)
theorem natAbs_mul_lt {a b : Int} {n m : Nat} (h1 : a.natAbs < 2 ^ n) (h2 : b.natAbs < 2 ^ m) : (a * b).natAbs < 2 ^ (n + m) := by
  rw [Int.natAbs_mul, Nat.pow_add]
  exact Nat.mul_lt_mul'' h1 h2
theorem natAbs_add_lt {a b : Int} {n : Nat} (h1 : a.natAbs < 2 ^ n) (h2 : b.natAbs < 2 ^ n) : (a + b).natAbs < 2 ^ (n + 1) := by
  have := Int.natAbs_add_le a b
  rw [Nat.pow_succ]
  omega
theorem natAbs_sub_lt {a b : Int} {n : Nat} (h1 : a.natAbs < 2 ^ n) (h2 : b.natAbs < 2 ^ n) : (a - b).natAbs < 2 ^ (n + 1) := by
  have := Int.natAbs_sub_le a b
  rw [Nat.pow_succ]
  omega
theorem div_natAbs {a : Int} {e : Nat} : (a / (e : Int)).natAbs ≤ a.natAbs := by
  rcases Nat.eq_zero_or_pos e with z | z
  · subst z; simp
  · have := Int.natAbs_ediv_le_natAbs a (e : Int)
    exact this
theorem product_of {n : Nat} (hn : 2 ≤ n) {p q : Rat} (hp : Rok p) (hq : Rok q) (h : Hea) : callN T n i_product_of [.p (rt p), .p (rt q)] h = .ok (.p (rt (p * q))) h := by
  obtain ⟨m, rfl⟩ : ∃ m, n = m + 1 := ⟨n - 1, by omega⟩
  have hm : 1 ≤ m := by omega
  rw [call_eq (fd := f_product_of) rfl rfl]
  have fz : (2 : Nat) ^ 8000 < FUEL := by unfold FUEL; exact Nat.pow_lt_pow_right (by decide) (by decide)
  have g1 := run_common_divisor hm p.num (q.den : Int) h (by rw [Int.natAbs_natCast]; exact Nat.lt_trans hq.2 fz)
  have g2 := run_common_divisor hm q.num (p.den : Int) h (by rw [Int.natAbs_natCast]; exact Nat.lt_trans hp.2 fz)
  have d1 : divOk ((Int.gcd p.num (q.den : Int) : Nat) : Int) = true := divOk_of (by have := gcd_pos (a := p.num) q.den_pos; omega) (by rw [Int.natAbs_natCast]; exact small (Nat.lt_of_le_of_lt (gcd_le q.den_pos) hq.2) (by decide))
  have d2 : divOk ((Int.gcd q.num (p.den : Int) : Nat) : Int) = true := divOk_of (by have := gcd_pos (a := q.num) p.den_pos; omega) (by rw [Int.natAbs_natCast]; exact small (Nat.lt_of_le_of_lt (gcd_le p.den_pos) hp.2) (by decide))
  have m1 : mulOk (p.num / ((Int.gcd p.num (q.den : Int) : Nat) : Int)) (q.num / ((Int.gcd q.num (p.den : Int) : Nat) : Int)) = true :=
    mulOk_of (small (Nat.lt_of_le_of_lt div_natAbs hp.1) (by decide)) (small (Nat.lt_of_le_of_lt div_natAbs hq.1) (by decide))
  have m2 : mulOk ((p.den : Int) / ((Int.gcd q.num (p.den : Int) : Nat) : Int)) ((q.den : Int) / ((Int.gcd p.num (q.den : Int) : Nat) : Int)) = true :=
    mulOk_of (small (Nat.lt_of_le_of_lt div_natAbs (by rw [Int.natAbs_natCast]; exact hp.2)) (by decide)) (small (Nat.lt_of_le_of_lt div_natAbs (by rw [Int.natAbs_natCast]; exact hq.2)) (by decide))
  have e1 := mul_num p q
  have e2 : (((p * q).den : Nat) : Int) = (p.den : Int) / ((Int.gcd q.num (p.den : Int) : Nat) : Int) * ((q.den : Int) / ((Int.gcd p.num (q.den : Int) : Nat) : Int)) := by
    rw [mul_den]; simp
  simp [f_product_of, b_product_of, startS, exs_cons, ex_set, ex_par, ex_unp, ex_seti, ex_expr, ex_ret, ex_if, ex_while, ex_for, ex_raise, ex_try, ex_frz, ev_bin, ev_neg, ev_cmp, ev_and, ev_or, ev_not, ev_ite, ev_tup, ev_lst, ev_idx, ev_slc00, ev_slc10, ev_slc01, ev_call, ev_callv, ev_comp, ev_blt, ev_meth, evs_cons, evI_seq, evI_rng, evI_zip, evT_and, evT_or, evT_not, evT_cmp, evT_call, evT_blt, evT_var, evT_idx, rt, g1, g2, bin2_fdiv d1, bin2_fdiv d2, bin2_mul m1, bin2_mul m2, e1, e2]
theorem sum_of {n : Nat} (hn : 2 ≤ n) {p q : Rat} (hp : Rok p) (hq : Rok q) (h : Hea) : callN T n i_sum_of [.p (rt p), .p (rt q)] h = .ok (.p (rt (p + q))) h := by
  obtain ⟨m, rfl⟩ : ∃ m, n = m + 1 := ⟨n - 1, by omega⟩
  have hm : 1 ≤ m := by omega
  rw [call_eq (fd := f_sum_of) rfl rfl]
  have fz : (2 : Nat) ^ 8000 < FUEL := by unfold FUEL; exact Nat.pow_lt_pow_right (by decide) (by decide)
  obtain ⟨g, hg⟩ : ∃ g, g = Nat.gcd p.den q.den := ⟨_, rfl⟩
  obtain ⟨rest, hr⟩ : ∃ r, r = q.den / g := ⟨_, rfl⟩
  obtain ⟨rb, hb⟩ : ∃ r, r = p.den / g := ⟨_, rfl⟩
  obtain ⟨top, ht⟩ : ∃ t : Int, t = p.num * rest + q.num * rb := ⟨_, rfl⟩
  obtain ⟨e, he⟩ : ∃ e, e = Int.gcd top g := ⟨_, rfl⟩
  obtain ⟨s1, s2⟩ := sum_law p q g rest rb hg hr hb top ht e he
  have gp : 0 < g := by rw [hg]; exact Nat.gcd_pos_of_pos_left _ p.den_pos
  have gl : g < 2 ^ 8000 := Nat.lt_of_le_of_lt (by rw [hg]; exact Nat.gcd_le_left _ p.den_pos) hp.2
  have ep : 0 < e := by rw [he]; exact gcd_pos gp
  have el : e < 2 ^ 8000 := Nat.lt_of_le_of_lt (by rw [he]; exact gcd_le gp) gl
  have g1 := run_common_divisor hm (p.den : Int) (q.den : Int) h (by rw [Int.natAbs_natCast]; exact Nat.lt_trans hq.2 fz)
  have z1 : Int.gcd (p.den : Int) (q.den : Int) = g := hg.symm
  rw [z1] at g1
  have g2 := run_common_divisor hm top (g : Int) h (by rw [Int.natAbs_natCast]; exact Nat.lt_trans gl fz)
  rw [← he] at g2
  have d1 : divOk (g : Int) = true := divOk_of (by omega) (by rw [Int.natAbs_natCast]; exact small gl (by decide))
  have d2 : divOk (e : Int) = true := divOk_of (by omega) (by rw [Int.natAbs_natCast]; exact small el (by decide))
  have rl : rest < 2 ^ 8000 := Nat.lt_of_le_of_lt (by rw [hr]; exact Nat.div_le_self _ _) hq.2
  have bl : rb < 2 ^ 8000 := Nat.lt_of_le_of_lt (by rw [hb]; exact Nat.div_le_self _ _) hp.2
  have q1 : (q.den : Int) / (g : Int) = (rest : Int) := by rw [hr]; simp
  have q2 : (p.den : Int) / (g : Int) = (rb : Int) := by rw [hb]; simp
  have m1 : mulOk p.num (rest : Int) = true := mulOk_of (small hp.1 (by decide)) (by rw [Int.natAbs_natCast]; exact small rl (by decide))
  have m2 : mulOk q.num (rb : Int) = true := mulOk_of (small hq.1 (by decide)) (by rw [Int.natAbs_natCast]; exact small bl (by decide))
  have m3 : mulOk ((p.den : Int) / (e : Int)) (rest : Int) = true := mulOk_of (small (Nat.lt_of_le_of_lt div_natAbs (by rw [Int.natAbs_natCast]; exact hp.2)) (by decide)) (by rw [Int.natAbs_natCast]; exact small rl (by decide))
  have e2 : (((p + q).den : Nat) : Int) = (p.den : Int) / (e : Int) * (rest : Int) := by rw [s2]; simp
  simp [f_sum_of, b_sum_of, startS, exs_cons, ex_set, ex_par, ex_unp, ex_seti, ex_expr, ex_ret, ex_if, ex_while, ex_for, ex_raise, ex_try, ex_frz, ev_bin, ev_neg, ev_cmp, ev_and, ev_or, ev_not, ev_ite, ev_tup, ev_lst, ev_idx, ev_slc00, ev_slc10, ev_slc01, ev_call, ev_callv, ev_comp, ev_blt, ev_meth, evs_cons, evI_seq, evI_rng, evI_zip, evT_and, evT_or, evT_not, evT_cmp, evT_call, evT_blt, evT_var, evT_idx, rt, g1, bin2_fdiv d1, q1, q2, bin2_mul m1, bin2_mul m2, ← ht, g2, bin2_fdiv d2, bin2_mul m3, s1, e2]
/-- the order of two ratios -/
def ordR (p q : Rat) : Int := if p < q then -1 else if q < p then 1 else 0
theorem sign_of {n : Nat} (hn : 1 ≤ n) (i : Int) (h : Hea) : callN T n i_sign_of [.p (.int i)] h = .ok (.p (.int (if i < 0 then -1 else if 0 < i then 1 else 0))) h := by
  obtain ⟨m, rfl⟩ : ∃ m, n = m + 1 := ⟨n - 1, by omega⟩
  rw [call_eq (fd := f_sign_of) rfl rfl]
  by_cases c : i < 0
  · simp [f_sign_of, b_sign_of, startS, exs_cons, ex_set, ex_par, ex_unp, ex_seti, ex_expr, ex_ret, ex_if, ex_while, ex_for, ex_raise, ex_try, ex_frz, ev_bin, ev_neg, ev_cmp, ev_and, ev_or, ev_not, ev_ite, ev_tup, ev_lst, ev_idx, ev_slc00, ev_slc10, ev_slc01, ev_call, ev_callv, ev_comp, ev_blt, ev_meth, evs_cons, evI_seq, evI_rng, evI_zip, evT_and, evT_or, evT_not, evT_cmp, evT_call, evT_blt, evT_var, evT_idx, c]
  · by_cases d : 0 < i
    · simp [f_sign_of, b_sign_of, startS, exs_cons, ex_set, ex_par, ex_unp, ex_seti, ex_expr, ex_ret, ex_if, ex_while, ex_for, ex_raise, ex_try, ex_frz, ev_bin, ev_neg, ev_cmp, ev_and, ev_or, ev_not, ev_ite, ev_tup, ev_lst, ev_idx, ev_slc00, ev_slc10, ev_slc01, ev_call, ev_callv, ev_comp, ev_blt, ev_meth, evs_cons, evI_seq, evI_rng, evI_zip, evT_and, evT_or, evT_not, evT_cmp, evT_call, evT_blt, evT_var, evT_idx, c, d]
    · simp [f_sign_of, b_sign_of, startS, exs_cons, ex_set, ex_par, ex_unp, ex_seti, ex_expr, ex_ret, ex_if, ex_while, ex_for, ex_raise, ex_try, ex_frz, ev_bin, ev_neg, ev_cmp, ev_and, ev_or, ev_not, ev_ite, ev_tup, ev_lst, ev_idx, ev_slc00, ev_slc10, ev_slc01, ev_call, ev_callv, ev_comp, ev_blt, ev_meth, evs_cons, evI_seq, evI_rng, evI_zip, evT_and, evT_or, evT_not, evT_cmp, evT_call, evT_blt, evT_var, evT_idx, c, d]
theorem order_of {n : Nat} (hn : 2 ≤ n) {p q : Rat} (hp : Rok p) (hq : Rok q) (h : Hea) : callN T n i_order_of [.p (rt p), .p (rt q)] h = .ok (.p (.int (ordR p q))) h := by
  obtain ⟨m, rfl⟩ : ∃ m, n = m + 1 := ⟨n - 1, by omega⟩
  have s := fun i => sign_of (n := m) (by omega) i h
  rw [call_eq (fd := f_order_of) rfl rfl]
  have m1 : mulOk p.num (q.den : Int) = true := mulOk_of (small hp.1 (by decide)) (by rw [Int.natAbs_natCast]; exact small hq.2 (by decide))
  have m2 : mulOk q.num (p.den : Int) = true := mulOk_of (small hq.1 (by decide)) (by rw [Int.natAbs_natCast]; exact small hp.2 (by decide))
  have e : (if p.num * (q.den : Int) - q.num * (p.den : Int) < 0 then (-1 : Int) else if q.num * (p.den : Int) < p.num * (q.den : Int) then 1 else 0) = ordR p q := by
    unfold ordR
    simp only [Rat.lt_iff]
    by_cases c : p.num * (q.den : Int) < q.num * (p.den : Int)
    · rw [if_pos c, if_pos (by omega)]
    · rw [if_neg c, if_neg (by omega)]
  simp [f_order_of, b_order_of, startS, exs_cons, ex_set, ex_par, ex_unp, ex_seti, ex_expr, ex_ret, ex_if, ex_while, ex_for, ex_raise, ex_try, ex_frz, ev_bin, ev_neg, ev_cmp, ev_and, ev_or, ev_not, ev_ite, ev_tup, ev_lst, ev_idx, ev_slc00, ev_slc10, ev_slc01, ev_call, ev_callv, ev_comp, ev_blt, ev_meth, evs_cons, evI_seq, evI_rng, evI_zip, evT_and, evT_or, evT_not, evT_cmp, evT_call, evT_blt, evT_var, evT_idx, rt, bin2_mul m1, bin2_mul m2, s, e]
end K15

set_option linter.all false
set_option maxRecDepth 100000
set_option maxHeartbeats 1000000
namespace K15
open Mp
theorem rt_int (i : Int) : rt (i : Rat) = .tup [.int i, .int 1] := by simp [rt]
theorem rt_zero : rt 0 = .tup [.int 0, .int 1] := rfl
theorem unp1_rt {ρ : Slots} {i j : Nat} {q : Rat} {h : Hea} : unp1 ρ [i, j] (.p (rt q)) h = .next ((ρ.set i (some (.p (.int q.num)))).set j (some (.p (.int (q.den : Nat))))) h := rfl
theorem plus {n : Nat} (hn : 4 ≤ n) {p q : Rat} (hp : Rok p) (hq : Rok q) (h : Hea) : callN T n i_plus [.p (rt p), .p (rt q)] h = .ok (.p (rt (p + q))) h := by
  obtain ⟨m, rfl⟩ : ∃ m, n = m + 1 := ⟨n - 1, by omega⟩
  have c1 := check_ratio (n := m) (by omega) (rt_dat hp) rt_ratio h
  have c2 := check_ratio (n := m) (by omega) (rt_dat hq) rt_ratio h
  have c3 := sum_of (n := m) (by omega) hp hq h
  rw [call_eq (fd := f_plus) rfl rfl]
  simp [f_plus, b_plus, startS, exs_cons, ex_set, ex_par, ex_unp, ex_seti, ex_expr, ex_ret, ex_if, ex_while, ex_for, ex_raise, ex_try, ex_frz, ev_bin, ev_neg, ev_cmp, ev_and, ev_or, ev_not, ev_ite, ev_tup, ev_lst, ev_idx, ev_slc00, ev_slc10, ev_slc01, ev_call, ev_callv, ev_comp, ev_blt, ev_meth, evs_cons, evI_seq, evI_rng, evI_zip, evT_and, evT_or, evT_not, evT_cmp, evT_call, evT_blt, evT_var, evT_idx, c1, c2, c3]
theorem minus {n : Nat} (hn : 4 ≤ n) {p q : Rat} (hp : Rok p) (hq : Rok q) (h : Hea) : callN T n i_minus [.p (rt p), .p (rt q)] h = .ok (.p (rt (p - q))) h := by
  obtain ⟨m, rfl⟩ : ∃ m, n = m + 1 := ⟨n - 1, by omega⟩
  have c1 := check_ratio (n := m) (by omega) (rt_dat hp) rt_ratio h
  have c2 := check_ratio (n := m) (by omega) (rt_dat hq) rt_ratio h
  have hq' : Rok (-q) := ⟨by rw [Rat.neg_num, Int.natAbs_neg]; exact hq.1, by rw [Rat.neg_den]; exact hq.2⟩
  have c3 := sum_of (n := m) (by omega) hp hq' h
  have c4 := opposite (n := m) (by omega) q h
  have e : p + -q = p - q := (Rat.sub_eq_add_neg p q).symm
  rw [e] at c3
  rw [call_eq (fd := f_minus) rfl rfl]
  simp [f_minus, b_minus, startS, exs_cons, ex_set, ex_par, ex_unp, ex_seti, ex_expr, ex_ret, ex_if, ex_while, ex_for, ex_raise, ex_try, ex_frz, ev_bin, ev_neg, ev_cmp, ev_and, ev_or, ev_not, ev_ite, ev_tup, ev_lst, ev_idx, ev_slc00, ev_slc10, ev_slc01, ev_call, ev_callv, ev_comp, ev_blt, ev_meth, evs_cons, evI_seq, evI_rng, evI_zip, evT_and, evT_or, evT_not, evT_cmp, evT_call, evT_blt, evT_var, evT_idx, c1, c2, c3, c4]
theorem times {n : Nat} (hn : 4 ≤ n) {p q : Rat} (hp : Rok p) (hq : Rok q) (h : Hea) : callN T n i_times [.p (rt p), .p (rt q)] h = .ok (.p (rt (p * q))) h := by
  obtain ⟨m, rfl⟩ : ∃ m, n = m + 1 := ⟨n - 1, by omega⟩
  have c1 := check_ratio (n := m) (by omega) (rt_dat hp) rt_ratio h
  have c2 := check_ratio (n := m) (by omega) (rt_dat hq) rt_ratio h
  have c3 := product_of (n := m) (by omega) hp hq h
  rw [call_eq (fd := f_times) rfl rfl]
  simp [f_times, b_times, startS, exs_cons, ex_set, ex_par, ex_unp, ex_seti, ex_expr, ex_ret, ex_if, ex_while, ex_for, ex_raise, ex_try, ex_frz, ev_bin, ev_neg, ev_cmp, ev_and, ev_or, ev_not, ev_ite, ev_tup, ev_lst, ev_idx, ev_slc00, ev_slc10, ev_slc01, ev_call, ev_callv, ev_comp, ev_blt, ev_meth, evs_cons, evI_seq, evI_rng, evI_zip, evT_and, evT_or, evT_not, evT_cmp, evT_call, evT_blt, evT_var, evT_idx, c1, c2, c3]
/-- plus, minus, times, over refuse -/
theorem two_bad {n i : Nat} (hn : 4 ≤ n) {x y : P} (hi : i = i_plus ∨ i = i_minus ∨ i = i_times) (hx : Dat x) (hy : Dat y) (h : Hea) (hb : ratioB x = false ∨ (ratioB x = true ∧ ratioB y = false)) : ∃ fs, callN T n i [.p x, .p y] h = .exn c_BadNumber fs h := by
  obtain ⟨m, rfl⟩ : ∃ m, n = m + 1 := ⟨n - 1, by omega⟩
  rcases hb with hb | ⟨ha, hb⟩
  · obtain ⟨fs, c1⟩ := check_ratio_bad (n := m) (by omega) hx hb h
    refine ⟨fs, ?_⟩
    rcases hi with rfl | rfl | rfl
    · rw [call_eq (fd := f_plus) rfl rfl]
      simp [f_plus, b_plus, startS, exs_cons, ex_set, ex_par, ex_unp, ex_seti, ex_expr, ex_ret, ex_if, ex_while, ex_for, ex_raise, ex_try, ex_frz, ev_bin, ev_neg, ev_cmp, ev_and, ev_or, ev_not, ev_ite, ev_tup, ev_lst, ev_idx, ev_slc00, ev_slc10, ev_slc01, ev_call, ev_callv, ev_comp, ev_blt, ev_meth, evs_cons, evI_seq, evI_rng, evI_zip, evT_and, evT_or, evT_not, evT_cmp, evT_call, evT_blt, evT_var, evT_idx, c1]
    · rw [call_eq (fd := f_minus) rfl rfl]
      simp [f_minus, b_minus, startS, exs_cons, ex_set, ex_par, ex_unp, ex_seti, ex_expr, ex_ret, ex_if, ex_while, ex_for, ex_raise, ex_try, ex_frz, ev_bin, ev_neg, ev_cmp, ev_and, ev_or, ev_not, ev_ite, ev_tup, ev_lst, ev_idx, ev_slc00, ev_slc10, ev_slc01, ev_call, ev_callv, ev_comp, ev_blt, ev_meth, evs_cons, evI_seq, evI_rng, evI_zip, evT_and, evT_or, evT_not, evT_cmp, evT_call, evT_blt, evT_var, evT_idx, c1]
    · rw [call_eq (fd := f_times) rfl rfl]
      simp [f_times, b_times, startS, exs_cons, ex_set, ex_par, ex_unp, ex_seti, ex_expr, ex_ret, ex_if, ex_while, ex_for, ex_raise, ex_try, ex_frz, ev_bin, ev_neg, ev_cmp, ev_and, ev_or, ev_not, ev_ite, ev_tup, ev_lst, ev_idx, ev_slc00, ev_slc10, ev_slc01, ev_call, ev_callv, ev_comp, ev_blt, ev_meth, evs_cons, evI_seq, evI_rng, evI_zip, evT_and, evT_or, evT_not, evT_cmp, evT_call, evT_blt, evT_var, evT_idx, c1]
  · obtain ⟨fs, c2⟩ := check_ratio_bad (n := m) (by omega) hy hb h
    have c1 := check_ratio (n := m) (by omega) hx ha h
    refine ⟨fs, ?_⟩
    rcases hi with rfl | rfl | rfl
    · rw [call_eq (fd := f_plus) rfl rfl]
      simp [f_plus, b_plus, startS, exs_cons, ex_set, ex_par, ex_unp, ex_seti, ex_expr, ex_ret, ex_if, ex_while, ex_for, ex_raise, ex_try, ex_frz, ev_bin, ev_neg, ev_cmp, ev_and, ev_or, ev_not, ev_ite, ev_tup, ev_lst, ev_idx, ev_slc00, ev_slc10, ev_slc01, ev_call, ev_callv, ev_comp, ev_blt, ev_meth, evs_cons, evI_seq, evI_rng, evI_zip, evT_and, evT_or, evT_not, evT_cmp, evT_call, evT_blt, evT_var, evT_idx, c1, c2]
    · rw [call_eq (fd := f_minus) rfl rfl]
      simp [f_minus, b_minus, startS, exs_cons, ex_set, ex_par, ex_unp, ex_seti, ex_expr, ex_ret, ex_if, ex_while, ex_for, ex_raise, ex_try, ex_frz, ev_bin, ev_neg, ev_cmp, ev_and, ev_or, ev_not, ev_ite, ev_tup, ev_lst, ev_idx, ev_slc00, ev_slc10, ev_slc01, ev_call, ev_callv, ev_comp, ev_blt, ev_meth, evs_cons, evI_seq, evI_rng, evI_zip, evT_and, evT_or, evT_not, evT_cmp, evT_call, evT_blt, evT_var, evT_idx, c1, c2]
    · rw [call_eq (fd := f_times) rfl rfl]
      simp [f_times, b_times, startS, exs_cons, ex_set, ex_par, ex_unp, ex_seti, ex_expr, ex_ret, ex_if, ex_while, ex_for, ex_raise, ex_try, ex_frz, ev_bin, ev_neg, ev_cmp, ev_and, ev_or, ev_not, ev_ite, ev_tup, ev_lst, ev_idx, ev_slc00, ev_slc10, ev_slc01, ev_call, ev_callv, ev_comp, ev_blt, ev_meth, evs_cons, evI_seq, evI_rng, evI_zip, evT_and, evT_or, evT_not, evT_cmp, evT_call, evT_blt, evT_var, evT_idx, c1, c2]
theorem over_zero {n : Nat} (hn : 4 ≤ n) {p : Rat} (hp : Rok p) (h : Hea) : ∃ fs, callN T n i_over [.p (rt p), .p (.tup [.int 0, .int 1])] h = .exn c_BadNumber fs h := by
  obtain ⟨m, rfl⟩ : ∃ m, n = m + 1 := ⟨n - 1, by omega⟩
  have h0 : Rok 0 := ⟨by simp [Nat.pow_pos], Nat.one_lt_two_pow (by decide)⟩
  have c1 := check_ratio (n := m) (by omega) (rt_dat hp) rt_ratio h
  have c2 := check_ratio (n := m) (by omega) (rt_dat h0) rt_ratio h
  rw [rt_zero] at c2
  rw [call_eq (fd := f_over) rfl rfl]
  simp [f_over, b_over, startS, exs_cons, ex_set, ex_par, ex_unp, ex_seti, ex_expr, ex_ret, ex_if, ex_while, ex_for, ex_raise, ex_try, ex_frz, ev_bin, ev_neg, ev_cmp, ev_and, ev_or, ev_not, ev_ite, ev_tup, ev_lst, ev_idx, ev_slc00, ev_slc10, ev_slc01, ev_call, ev_callv, ev_comp, ev_blt, ev_meth, evs_cons, evI_seq, evI_rng, evI_zip, evT_and, evT_or, evT_not, evT_cmp, evT_call, evT_blt, evT_var, evT_idx, c1, c2]
theorem over {n : Nat} (hn : 4 ≤ n) {p q : Rat} (hp : Rok p) (hq : Rok q) (nz : q ≠ 0) (h : Hea) : callN T n i_over [.p (rt p), .p (rt q)] h = .ok (.p (rt (p / q))) h := by
  obtain ⟨m, rfl⟩ : ∃ m, n = m + 1 := ⟨n - 1, by omega⟩
  have c1 := check_ratio (n := m) (by omega) (rt_dat hp) rt_ratio h
  have c2 := check_ratio (n := m) (by omega) (rt_dat hq) rt_ratio h
  have nn : q.num ≠ 0 := fun z => nz (Rat.num_eq_zero.mp z)
  have n0 : (q.num == 0) = false := by simp [nn]
  have hi : Rok q⁻¹ := by
    refine ⟨?_, ?_⟩
    · rw [Rat.num_inv, Int.natAbs_mul, Int.natAbs_natCast]
      have : q.num.sign.natAbs = 1 := by
        rcases Int.lt_or_gt_of_ne nn with z | z
        · rw [Int.sign_eq_neg_one_of_neg z]; rfl
        · rw [Int.sign_eq_one_of_pos z]; rfl
      rw [this, Nat.one_mul]
      exact hq.2
    · rw [Rat.den_inv, if_neg nn]
      exact hq.1
  have c3 := product_of (n := m) (by omega) hp hi h
  rw [← Rat.div_def] at c3
  rw [call_eq (fd := f_over) rfl rfl]
  by_cases c : q.num < 0
  · have e : rt q⁻¹ = .tup [.int (-(q.den : Int)), .int (-q.num)] := by
      unfold rt
      rw [Rat.num_inv, Rat.den_inv, if_neg nn, Int.sign_eq_neg_one_of_neg c]
      have : ((q.num.natAbs : Nat) : Int) = -q.num := by omega
      rw [this]; simp
    rw [e] at c3
    simp [f_over, b_over, startS, exs_cons, ex_set, ex_par, ex_unp, ex_seti, ex_expr, ex_ret, ex_if, ex_while, ex_for, ex_raise, ex_try, ex_frz, ev_bin, ev_neg, ev_cmp, ev_and, ev_or, ev_not, ev_ite, ev_tup, ev_lst, ev_idx, ev_slc00, ev_slc10, ev_slc01, ev_call, ev_callv, ev_comp, ev_blt, ev_meth, evs_cons, evI_seq, evI_rng, evI_zip, evT_and, evT_or, evT_not, evT_cmp, evT_call, evT_blt, evT_var, evT_idx, c1, c2, unp1_rt, n0, c, c3]
  · have e : rt q⁻¹ = .tup [.int (q.den : Int), .int q.num] := by
      unfold rt
      rw [Rat.num_inv, Rat.den_inv, if_neg nn, Int.sign_eq_one_of_pos (by omega)]
      have : ((q.num.natAbs : Nat) : Int) = q.num := by omega
      rw [this]; simp
    rw [e] at c3
    simp [f_over, b_over, startS, exs_cons, ex_set, ex_par, ex_unp, ex_seti, ex_expr, ex_ret, ex_if, ex_while, ex_for, ex_raise, ex_try, ex_frz, ev_bin, ev_neg, ev_cmp, ev_and, ev_or, ev_not, ev_ite, ev_tup, ev_lst, ev_idx, ev_slc00, ev_slc10, ev_slc01, ev_call, ev_callv, ev_comp, ev_blt, ev_meth, evs_cons, evI_seq, evI_rng, evI_zip, evT_and, evT_or, evT_not, evT_cmp, evT_call, evT_blt, evT_var, evT_idx, c1, c2, unp1_rt, n0, c, c3]
/-! ### partial sums -/
/-- all that comes on the way of a sum is small -/
def RunOk : Rat → List Rat → Prop
  | a, [] => Rok a
  | a, t :: ts => Rok a ∧ Rok t ∧ RunOk (a + t) ts
theorem RunOk.one : ∀ {a : Rat} {ts : List Rat}, RunOk a ts → Rok a
  | _, [], h => h
  | _, _ :: _, h => h.1
theorem sum_cons {a t : Rat} {ts : List Rat} : a + (t :: ts).sum = (a + t) + ts.sum := by rw [List.sum_cons]; grind
/-- a sequence: as a list, as a tuple -/
def IsSeq (x : P) (xs : List P) : Prop := x = .lst xs ∨ x = .tup xs
theorem IsSeq.seq1 {x : P} {xs : List P} {h : Hea} (s : IsSeq x xs) : seq1 (.p x) h = .ok xs h := by rcases s with rfl | rfl <;> rfl
theorem IsSeq.isB {x : P} {xs : List P} (s : IsSeq x xs) : seqB x = true := by rcases s with rfl | rfl <;> rfl
theorem IsSeq.dat {x : P} {xs : List P} (s : IsSeq x xs) (hl : xs.length ≤ 1000) (hd : ∀ y ∈ xs, Dat y) : Dat x := by
  rcases s with rfl | rfl
  · exact ⟨hl, DatL.of hd⟩
  · exact ⟨hl, DatL.of hd⟩
theorem check_ratios_loop {m : Nat} (hm : 3 ≤ m) {bs : Nat} (h : Hea) : ∀ (xs : List P) (d : Option D) (x0 : Option D), (∀ x ∈ xs, Dat x ∧ ratioB x = true) →
    ∃ d', runFor ⟨callN T m, bs⟩ (.one 1) l_check_ratios_1 xs [x0, d] h = .next [x0, d'] h
  | [], d, x0, _ => ⟨d, rfl⟩
  | x :: xs, d, x0, hx => by
    obtain ⟨h1, h2⟩ := hx x List.mem_cons_self
    have c1 := check_ratio hm h1 h2 h
    obtain ⟨d', e⟩ := check_ratios_loop hm (bs := bs) h xs (some (.p x)) x0 fun y hy => hx y (List.mem_cons_of_mem _ hy)
    have body : exs ⟨callN T m, bs⟩ [x0, some (.p x)] l_check_ratios_1 h = .next [x0, some (.p x)] h := by simp [l_check_ratios_1, exs_cons, ex_set, ex_par, ex_unp, ex_seti, ex_expr, ex_ret, ex_if, ex_while, ex_for, ex_raise, ex_try, ex_frz, ev_bin, ev_neg, ev_cmp, ev_and, ev_or, ev_not, ev_ite, ev_tup, ev_lst, ev_idx, ev_slc00, ev_slc10, ev_slc01, ev_call, ev_callv, ev_comp, ev_blt, ev_meth, evs_cons, evI_seq, evI_rng, evI_zip, evT_and, evT_or, evT_not, evT_cmp, evT_call, evT_blt, evT_var, evT_idx, c1]
    exact ⟨d', by rw [for_one]; show forB _ _ _ _ (exs _ [x0, some (.p x)] _ h) = _; rw [body]; exact e⟩
theorem check_ratios {n : Nat} (hn : 4 ≤ n) {x : P} {xs : List P} (s : IsSeq x xs) (hl : xs.length ≤ 1000) (hx : ∀ y ∈ xs, Dat y ∧ ratioB y = true) (h : Hea) : callN T n i_check_ratios [.p x] h = .ok (.p .non) h := by
  obtain ⟨m, rfl⟩ : ∃ m, n = m + 1 := ⟨n - 1, by omega⟩
  have c1 := is_seq (n := m) (by omega) (s.dat hl fun y hy => (hx y hy).1) h
  rw [s.isB] at c1
  obtain ⟨d', e⟩ := check_ratios_loop (m := m) (by omega) (bs := h.length) h xs none (some (.p x)) hx
  rw [call_eq (fd := f_check_ratios) rfl rfl]
  simp [f_check_ratios, b_check_ratios, startS, exs_cons, ex_set, ex_par, ex_unp, ex_seti, ex_expr, ex_ret, ex_if, ex_while, ex_for, ex_raise, ex_try, ex_frz, ev_bin, ev_neg, ev_cmp, ev_and, ev_or, ev_not, ev_ite, ev_tup, ev_lst, ev_idx, ev_slc00, ev_slc10, ev_slc01, ev_call, ev_callv, ev_comp, ev_blt, ev_meth, evs_cons, evI_seq, evI_rng, evI_zip, evT_and, evT_or, evT_not, evT_cmp, evT_call, evT_blt, evT_var, evT_idx, c1, s.seq1, e]
theorem check_ratios_bad_loop {m : Nat} (hm : 3 ≤ m) {bs : Nat} (h : Hea) : ∀ (xs : List P) (d : Option D) (x0 : Option D), (∀ x ∈ xs, Dat x) → (∃ x ∈ xs, ratioB x = false) →
    ∃ fs ρ, runFor ⟨callN T m, bs⟩ (.one 1) l_check_ratios_1 xs [x0, d] h = .exn c_BadNumber fs ρ h
  | [], d, x0, _, ⟨x, hx, _⟩ => by cases hx
  | x :: xs, d, x0, hx, hb => by
    have h1 := hx x List.mem_cons_self
    cases c : ratioB x with
    | true =>
      have c1 := check_ratio hm h1 c h
      have hb' : ∃ y ∈ xs, ratioB y = false := by
        obtain ⟨y, hy, q⟩ := hb
        rcases List.mem_cons.mp hy with z | z
        · rw [z, c] at q; cases q
        · exact ⟨y, z, q⟩
      obtain ⟨fs, ρ, e⟩ := check_ratios_bad_loop hm (bs := bs) h xs (some (.p x)) x0 (fun y hy => hx y (List.mem_cons_of_mem _ hy)) hb'
      have body : exs ⟨callN T m, bs⟩ [x0, some (.p x)] l_check_ratios_1 h = .next [x0, some (.p x)] h := by simp [l_check_ratios_1, exs_cons, ex_set, ex_par, ex_unp, ex_seti, ex_expr, ex_ret, ex_if, ex_while, ex_for, ex_raise, ex_try, ex_frz, ev_bin, ev_neg, ev_cmp, ev_and, ev_or, ev_not, ev_ite, ev_tup, ev_lst, ev_idx, ev_slc00, ev_slc10, ev_slc01, ev_call, ev_callv, ev_comp, ev_blt, ev_meth, evs_cons, evI_seq, evI_rng, evI_zip, evT_and, evT_or, evT_not, evT_cmp, evT_call, evT_blt, evT_var, evT_idx, c1]
      exact ⟨fs, ρ, by rw [for_one]; show forB _ _ _ _ (exs _ [x0, some (.p x)] _ h) = _; rw [body]; exact e⟩
    | false =>
      obtain ⟨fs, c1⟩ := check_ratio_bad hm h1 c h
      exact ⟨fs, _, by rw [for_one]; simp [l_check_ratios_1, exs_cons, ex_set, ex_par, ex_unp, ex_seti, ex_expr, ex_ret, ex_if, ex_while, ex_for, ex_raise, ex_try, ex_frz, ev_bin, ev_neg, ev_cmp, ev_and, ev_or, ev_not, ev_ite, ev_tup, ev_lst, ev_idx, ev_slc00, ev_slc10, ev_slc01, ev_call, ev_callv, ev_comp, ev_blt, ev_meth, evs_cons, evI_seq, evI_rng, evI_zip, evT_and, evT_or, evT_not, evT_cmp, evT_call, evT_blt, evT_var, evT_idx, c1]; rfl⟩
theorem check_ratios_bad {n : Nat} (hn : 4 ≤ n) {x : P} (hd : Dat x) (hb : ∀ xs, IsSeq x xs → ∃ y ∈ xs, ratioB y = false) (h : Hea) : ∃ fs, callN T n i_check_ratios [.p x] h = .exn c_BadNumber fs h := by
  obtain ⟨m, rfl⟩ : ∃ m, n = m + 1 := ⟨n - 1, by omega⟩
  have c1 := is_seq (n := m) (by omega) hd h
  rw [call_eq (fd := f_check_ratios) rfl rfl]
  cases c : seqB x with
  | false =>
    rw [c] at c1
    simp [f_check_ratios, b_check_ratios, startS, exs_cons, ex_set, ex_par, ex_unp, ex_seti, ex_expr, ex_ret, ex_if, ex_while, ex_for, ex_raise, ex_try, ex_frz, ev_bin, ev_neg, ev_cmp, ev_and, ev_or, ev_not, ev_ite, ev_tup, ev_lst, ev_idx, ev_slc00, ev_slc10, ev_slc01, ev_call, ev_callv, ev_comp, ev_blt, ev_meth, evs_cons, evI_seq, evI_rng, evI_zip, evT_and, evT_or, evT_not, evT_cmp, evT_call, evT_blt, evT_var, evT_idx, c1]
  | true =>
    rw [c] at c1
    obtain ⟨xs, s, hx⟩ : ∃ xs, IsSeq x xs ∧ ∀ y ∈ xs, Dat y := by
      cases x with
      | tup xs => exact ⟨xs, .inr rfl, fun y hy => hd.2.mem hy⟩
      | lst xs => exact ⟨xs, .inl rfl, fun y hy => hd.2.mem hy⟩
      | _ => cases c
    obtain ⟨fs, ρ, e⟩ := check_ratios_bad_loop (m := m) (by omega) (bs := h.length) h xs none (some (.p x)) hx (hb xs s)
    exact ⟨fs, by simp [f_check_ratios, b_check_ratios, startS, exs_cons, ex_set, ex_par, ex_unp, ex_seti, ex_expr, ex_ret, ex_if, ex_while, ex_for, ex_raise, ex_try, ex_frz, ev_bin, ev_neg, ev_cmp, ev_and, ev_or, ev_not, ev_ite, ev_tup, ev_lst, ev_idx, ev_slc00, ev_slc10, ev_slc01, ev_call, ev_callv, ev_comp, ev_blt, ev_meth, evs_cons, evI_seq, evI_rng, evI_zip, evT_and, evT_or, evT_not, evT_cmp, evT_call, evT_blt, evT_var, evT_idx, c1, s.seq1, e]⟩
theorem total_loop {m : Nat} (hm : 2 ≤ m) {bs : Nat} (h : Hea) : ∀ (qs : List Rat) (a : Rat) (x0 d : Option D), RunOk a qs →
    ∃ d', runFor ⟨callN T m, bs⟩ (.one 2) l_total_1 (qs.map rt) [x0, some (.p (rt a)), d] h = .next [x0, some (.p (rt (a + qs.sum))), d'] h
  | [], a, x0, d, _ => ⟨d, by simp [Rat.add_zero]⟩
  | q :: qs, a, x0, d, hr => by
    obtain ⟨h1, h2, h3⟩ := hr
    have c1 := sum_of hm h1 h2 h
    obtain ⟨d', e⟩ := total_loop hm (bs := bs) h qs (a + q) x0 (some (.p (rt q))) h3
    have body : exs ⟨callN T m, bs⟩ [x0, some (.p (rt a)), some (.p (rt q))] l_total_1 h = .next [x0, some (.p (rt (a + q))), some (.p (rt q))] h := by simp [l_total_1, exs_cons, ex_set, ex_par, ex_unp, ex_seti, ex_expr, ex_ret, ex_if, ex_while, ex_for, ex_raise, ex_try, ex_frz, ev_bin, ev_neg, ev_cmp, ev_and, ev_or, ev_not, ev_ite, ev_tup, ev_lst, ev_idx, ev_slc00, ev_slc10, ev_slc01, ev_call, ev_callv, ev_comp, ev_blt, ev_meth, evs_cons, evI_seq, evI_rng, evI_zip, evT_and, evT_or, evT_not, evT_cmp, evT_call, evT_blt, evT_var, evT_idx, c1]
    exact ⟨d', by rw [List.map_cons, for_one, sum_cons]; show forB _ _ _ _ (exs _ [x0, some (.p (rt a)), some (.p (rt q))] _ h) = _; rw [body]; exact e⟩
theorem total {n : Nat} (hn : 5 ≤ n) {x : P} {qs : List Rat} (s : IsSeq x (qs.map rt)) (hl : qs.length ≤ 1000) (hq : ∀ q ∈ qs, Rok q) (hr : RunOk 0 qs) (h : Hea) : callN T n i_total [.p x] h = .ok (.p (rt qs.sum)) h := by
  obtain ⟨m, rfl⟩ : ∃ m, n = m + 1 := ⟨n - 1, by omega⟩
  have hx : ∀ y ∈ qs.map rt, Dat y ∧ ratioB y = true := fun y hy => by
    obtain ⟨q, hq', rfl⟩ := List.mem_map.mp hy
    exact ⟨rt_dat (hq q hq'), rt_ratio⟩
  have c1 := check_ratios (n := m) (by omega) s (by rw [List.length_map]; exact hl) hx h
  obtain ⟨d', e⟩ := total_loop (m := m) (by omega) (bs := h.length) h qs 0 (some (.p x)) none hr
  rw [rt_zero, Rat.zero_add] at e
  rw [call_eq (fd := f_total) rfl rfl]
  simp [f_total, b_total, startS, exs_cons, ex_set, ex_par, ex_unp, ex_seti, ex_expr, ex_ret, ex_if, ex_while, ex_for, ex_raise, ex_try, ex_frz, ev_bin, ev_neg, ev_cmp, ev_and, ev_or, ev_not, ev_ite, ev_tup, ev_lst, ev_idx, ev_slc00, ev_slc10, ev_slc01, ev_call, ev_callv, ev_comp, ev_blt, ev_meth, evs_cons, evI_seq, evI_rng, evI_zip, evT_and, evT_or, evT_not, evT_cmp, evT_call, evT_blt, evT_var, evT_idx, c1, s.seq1, e]
theorem total_bad {n : Nat} (hn : 5 ≤ n) {x : P} (hd : Dat x) (hb : ∀ xs, IsSeq x xs → ∃ y ∈ xs, ratioB y = false) (h : Hea) : ∃ fs, callN T n i_total [.p x] h = .exn c_BadNumber fs h := by
  obtain ⟨m, rfl⟩ : ∃ m, n = m + 1 := ⟨n - 1, by omega⟩
  obtain ⟨fs, c1⟩ := check_ratios_bad (n := m) (by omega) hd hb h
  rw [call_eq (fd := f_total) rfl rfl]
  exact ⟨fs, by simp [f_total, b_total, startS, exs_cons, ex_set, ex_par, ex_unp, ex_seti, ex_expr, ex_ret, ex_if, ex_while, ex_for, ex_raise, ex_try, ex_frz, ev_bin, ev_neg, ev_cmp, ev_and, ev_or, ev_not, ev_ite, ev_tup, ev_lst, ev_idx, ev_slc00, ev_slc10, ev_slc01, ev_call, ev_callv, ev_comp, ev_blt, ev_meth, evs_cons, evI_seq, evI_rng, evI_zip, evT_and, evT_or, evT_not, evT_cmp, evT_call, evT_blt, evT_var, evT_idx, c1]⟩
end K15

set_option linter.all false
set_option maxRecDepth 100000
set_option maxHeartbeats 1000000
namespace K15
open Mp
/-- a tuple of so many, all of them such -/
def areB (f : P → Bool) (x : P) (d : Int) : Bool := match x with
  | .tup xs => decide ((xs.length : Int) = d) && xs.all f
  | _ => false
theorem Dat.sub {xs : List P} (h : Dat (.tup xs)) : xs.length ≤ 1000 ∧ ∀ x ∈ xs, Dat x := ⟨h.1, fun x hx => DatL.mem h.2 hx⟩
theorem lim1000 {n : Nat} (h : n ≤ 1000) : n ≤ LIM := Nat.le_trans h (by decide)
theorem are_ratios {n : Nat} (hn : 3 ≤ n) {x : P} (hx : Dat x) (d : Int) (h : Hea) : callN T n i_are_ratios [.p x, .p (.int d)] h = .ok (.p (.bl (areB ratioB x d))) h := by
  obtain ⟨m, rfl⟩ : ∃ m, n = m + 1 := ⟨n - 1, by omega⟩
  rw [call_eq (fd := f_are_ratios) rfl rfl]
  have ki := blt1_isi (h := h) (k := "tuple") hx.kind rfl
  cases x with
  | tup xs =>
    have hc : runComp ⟨callN T m, h.length⟩ [some (.p (.tup xs)), some (.p (.int d)), none] [2] (.one 2) .nil e_are_ratios_1 xs h = .ok (xs.map fun x => .p (.bl (ratioB x))) h :=
      comp_one (f := fun x => .bl (ratioB x)) fun x hx' => by
        have e := is_ratio (n := m) (by omega) (hx.sub.2 x hx') h
        simp [e_are_ratios_1, exs_cons, ex_set, ex_par, ex_unp, ex_seti, ex_expr, ex_ret, ex_if, ex_while, ex_for, ex_raise, ex_try, ex_frz, ev_bin, ev_neg, ev_cmp, ev_and, ev_or, ev_not, ev_ite, ev_tup, ev_lst, ev_idx, ev_slc00, ev_slc10, ev_slc01, ev_call, ev_callv, ev_comp, ev_blt, ev_meth, evs_cons, evI_seq, evI_rng, evI_zip, evT_and, evT_or, evT_not, evT_cmp, evT_call, evT_blt, evT_var, evT_idx, wipe, e]
    have hl : ((xs.length : Int) == d) = decide ((xs.length : Int) = d) := by
      by_cases c : (xs.length : Int) = d
      · simp [c]
      · simp [c]
    by_cases c : (xs.length : Int) = d
    · simp [f_are_ratios, b_are_ratios, startS, exs_cons, ex_set, ex_par, ex_unp, ex_seti, ex_expr, ex_ret, ex_if, ex_while, ex_for, ex_raise, ex_try, ex_frz, ev_bin, ev_neg, ev_cmp, ev_and, ev_or, ev_not, ev_ite, ev_tup, ev_lst, ev_idx, ev_slc00, ev_slc10, ev_slc01, ev_call, ev_callv, ev_comp, ev_blt, ev_meth, evs_cons, evI_seq, evI_rng, evI_zip, evT_and, evT_or, evT_not, evT_cmp, evT_call, evT_blt, evT_var, evT_idx, ki, kindB, areB, hl, c, hc, mk_map (lim1000 hx.sub.1), blt1_all]
    · simp [f_are_ratios, b_are_ratios, startS, exs_cons, ex_set, ex_par, ex_unp, ex_seti, ex_expr, ex_ret, ex_if, ex_while, ex_for, ex_raise, ex_try, ex_frz, ev_bin, ev_neg, ev_cmp, ev_and, ev_or, ev_not, ev_ite, ev_tup, ev_lst, ev_idx, ev_slc00, ev_slc10, ev_slc01, ev_call, ev_callv, ev_comp, ev_blt, ev_meth, evs_cons, evI_seq, evI_rng, evI_zip, evT_and, evT_or, evT_not, evT_cmp, evT_call, evT_blt, evT_var, evT_idx, ki, kindB, areB, hl, c]
  | _ => simp [f_are_ratios, b_are_ratios, startS, exs_cons, ex_set, ex_par, ex_unp, ex_seti, ex_expr, ex_ret, ex_if, ex_while, ex_for, ex_raise, ex_try, ex_frz, ev_bin, ev_neg, ev_cmp, ev_and, ev_or, ev_not, ev_ite, ev_tup, ev_lst, ev_idx, ev_slc00, ev_slc10, ev_slc01, ev_call, ev_callv, ev_comp, ev_blt, ev_meth, evs_cons, evI_seq, evI_rng, evI_zip, evT_and, evT_or, evT_not, evT_cmp, evT_call, evT_blt, evT_var, evT_idx, ki, kindB, areB]
theorem are_integers {n : Nat} (hn : 2 ≤ n) {x : P} (hx : Dat x) (d : Int) (h : Hea) : callN T n i_are_integers [.p x, .p (.int d)] h = .ok (.p (.bl (areB wholeB x d))) h := by
  obtain ⟨m, rfl⟩ : ∃ m, n = m + 1 := ⟨n - 1, by omega⟩
  rw [call_eq (fd := f_are_integers) rfl rfl]
  have ki := blt1_isi (h := h) (k := "tuple") hx.kind rfl
  cases x with
  | tup xs =>
    have hc : runComp ⟨callN T m, h.length⟩ [some (.p (.tup xs)), some (.p (.int d)), none] [2] (.one 2) .nil e_are_integers_1 xs h = .ok (xs.map fun x => .p (.bl (wholeB x))) h :=
      comp_one (f := fun x => .bl (wholeB x)) fun x hx' => by
        have e := whole (n := m) (by omega) (hx.sub.2 x hx') h
        simp [e_are_integers_1, exs_cons, ex_set, ex_par, ex_unp, ex_seti, ex_expr, ex_ret, ex_if, ex_while, ex_for, ex_raise, ex_try, ex_frz, ev_bin, ev_neg, ev_cmp, ev_and, ev_or, ev_not, ev_ite, ev_tup, ev_lst, ev_idx, ev_slc00, ev_slc10, ev_slc01, ev_call, ev_callv, ev_comp, ev_blt, ev_meth, evs_cons, evI_seq, evI_rng, evI_zip, evT_and, evT_or, evT_not, evT_cmp, evT_call, evT_blt, evT_var, evT_idx, wipe, e]
    have hl : ((xs.length : Int) == d) = decide ((xs.length : Int) = d) := by
      by_cases c : (xs.length : Int) = d
      · simp [c]
      · simp [c]
    by_cases c : (xs.length : Int) = d
    · simp [f_are_integers, b_are_integers, startS, exs_cons, ex_set, ex_par, ex_unp, ex_seti, ex_expr, ex_ret, ex_if, ex_while, ex_for, ex_raise, ex_try, ex_frz, ev_bin, ev_neg, ev_cmp, ev_and, ev_or, ev_not, ev_ite, ev_tup, ev_lst, ev_idx, ev_slc00, ev_slc10, ev_slc01, ev_call, ev_callv, ev_comp, ev_blt, ev_meth, evs_cons, evI_seq, evI_rng, evI_zip, evT_and, evT_or, evT_not, evT_cmp, evT_call, evT_blt, evT_var, evT_idx, ki, kindB, areB, hl, c, hc, mk_map (lim1000 hx.sub.1), blt1_all]
    · simp [f_are_integers, b_are_integers, startS, exs_cons, ex_set, ex_par, ex_unp, ex_seti, ex_expr, ex_ret, ex_if, ex_while, ex_for, ex_raise, ex_try, ex_frz, ev_bin, ev_neg, ev_cmp, ev_and, ev_or, ev_not, ev_ite, ev_tup, ev_lst, ev_idx, ev_slc00, ev_slc10, ev_slc01, ev_call, ev_callv, ev_comp, ev_blt, ev_meth, evs_cons, evI_seq, evI_rng, evI_zip, evT_and, evT_or, evT_not, evT_cmp, evT_call, evT_blt, evT_var, evT_idx, ki, kindB, areB, hl, c]
  | _ => simp [f_are_integers, b_are_integers, startS, exs_cons, ex_set, ex_par, ex_unp, ex_seti, ex_expr, ex_ret, ex_if, ex_while, ex_for, ex_raise, ex_try, ex_frz, ev_bin, ev_neg, ev_cmp, ev_and, ev_or, ev_not, ev_ite, ev_tup, ev_lst, ev_idx, ev_slc00, ev_slc10, ev_slc01, ev_call, ev_callv, ev_comp, ev_blt, ev_meth, evs_cons, evI_seq, evI_rng, evI_zip, evT_and, evT_or, evT_not, evT_cmp, evT_call, evT_blt, evT_var, evT_idx, ki, kindB, areB]
def tlen : P → Int
  | .tup xs => xs.length
  | _ => 0
def formB (x : P) : Bool := match x with
  | .tup xs => decide (2 ≤ xs.length) && (decide (xs.length ≤ 4) && xs.all wholeB)
  | _ => false
def spotB (x : P) : Bool := match x with
  | .tup xs => decide (1 ≤ xs.length) && (decide (xs.length ≤ 3) && xs.all ratioB)
  | _ => false
theorem check_form {n : Nat} (hn : 3 ≤ n) {x : P} (hx : Dat x) (hf : formB x = true) (h : Hea) : callN T n i_check_form [.p x] h = .ok (.p .non) h := by
  obtain ⟨m, rfl⟩ : ∃ m, n = m + 1 := ⟨n - 1, by omega⟩
  rw [call_eq (fd := f_check_form) rfl rfl]
  have ki := blt1_isi (h := h) (k := "tuple") hx.kind rfl
  cases x with
  | tup xs =>
    have e := are_integers (n := m) (by omega) hx (xs.length : Int) h
    have hf : (decide (2 ≤ xs.length) && (decide (xs.length ≤ 4) && xs.all wholeB)) = true := hf
    simp only [Bool.and_eq_true, decide_eq_true_eq] at hf
    obtain ⟨h1, h2, h3⟩ := hf
    have e2 : areB wholeB (.tup xs) (xs.length : Int) = true := by simp [areB, h3]
    rw [e2] at e
    have c1 : ¬ ((xs.length : Int) < 2) := by omega
    have c2 : ¬ ((4 : Int) < (xs.length : Int)) := by omega
    simp [f_check_form, b_check_form, startS, exs_cons, ex_set, ex_par, ex_unp, ex_seti, ex_expr, ex_ret, ex_if, ex_while, ex_for, ex_raise, ex_try, ex_frz, ev_bin, ev_neg, ev_cmp, ev_and, ev_or, ev_not, ev_ite, ev_tup, ev_lst, ev_idx, ev_slc00, ev_slc10, ev_slc01, ev_call, ev_callv, ev_comp, ev_blt, ev_meth, evs_cons, evI_seq, evI_rng, evI_zip, evT_and, evT_or, evT_not, evT_cmp, evT_call, evT_blt, evT_var, evT_idx, ki, kindB, c1, c2, e]
  | _ => cases hf
theorem check_form_bad {n : Nat} (hn : 3 ≤ n) {x : P} (hx : Dat x) (hf : formB x = false) (h : Hea) : ∃ fs, callN T n i_check_form [.p x] h = .exn c_BadForm fs h := by
  obtain ⟨m, rfl⟩ : ∃ m, n = m + 1 := ⟨n - 1, by omega⟩
  rw [call_eq (fd := f_check_form) rfl rfl]
  have ki := blt1_isi (h := h) (k := "tuple") hx.kind rfl
  cases x with
  | tup xs =>
    have e := are_integers (n := m) (by omega) hx (xs.length : Int) h
    have hf : (decide (2 ≤ xs.length) && (decide (xs.length ≤ 4) && xs.all wholeB)) = false := hf
    by_cases c1 : (xs.length : Int) < 2
    · simp [f_check_form, b_check_form, startS, exs_cons, ex_set, ex_par, ex_unp, ex_seti, ex_expr, ex_ret, ex_if, ex_while, ex_for, ex_raise, ex_try, ex_frz, ev_bin, ev_neg, ev_cmp, ev_and, ev_or, ev_not, ev_ite, ev_tup, ev_lst, ev_idx, ev_slc00, ev_slc10, ev_slc01, ev_call, ev_callv, ev_comp, ev_blt, ev_meth, evs_cons, evI_seq, evI_rng, evI_zip, evT_and, evT_or, evT_not, evT_cmp, evT_call, evT_blt, evT_var, evT_idx, ki, kindB, c1]
    · by_cases c2 : (4 : Int) < (xs.length : Int)
      · simp [f_check_form, b_check_form, startS, exs_cons, ex_set, ex_par, ex_unp, ex_seti, ex_expr, ex_ret, ex_if, ex_while, ex_for, ex_raise, ex_try, ex_frz, ev_bin, ev_neg, ev_cmp, ev_and, ev_or, ev_not, ev_ite, ev_tup, ev_lst, ev_idx, ev_slc00, ev_slc10, ev_slc01, ev_call, ev_callv, ev_comp, ev_blt, ev_meth, evs_cons, evI_seq, evI_rng, evI_zip, evT_and, evT_or, evT_not, evT_cmp, evT_call, evT_blt, evT_var, evT_idx, ki, kindB, c1, c2]
      · have e2 : areB wholeB (.tup xs) (xs.length : Int) = false := by
          have h1 : decide (2 ≤ xs.length) = true := decide_eq_true (by omega)
          have h2 : decide (xs.length ≤ 4) = true := decide_eq_true (by omega)
          rw [h1, h2] at hf
          simpa [areB] using hf
        rw [e2] at e
        simp [f_check_form, b_check_form, startS, exs_cons, ex_set, ex_par, ex_unp, ex_seti, ex_expr, ex_ret, ex_if, ex_while, ex_for, ex_raise, ex_try, ex_frz, ev_bin, ev_neg, ev_cmp, ev_and, ev_or, ev_not, ev_ite, ev_tup, ev_lst, ev_idx, ev_slc00, ev_slc10, ev_slc01, ev_call, ev_callv, ev_comp, ev_blt, ev_meth, evs_cons, evI_seq, evI_rng, evI_zip, evT_and, evT_or, evT_not, evT_cmp, evT_call, evT_blt, evT_var, evT_idx, ki, kindB, c1, c2, e]
  | _ => simp [f_check_form, b_check_form, startS, exs_cons, ex_set, ex_par, ex_unp, ex_seti, ex_expr, ex_ret, ex_if, ex_while, ex_for, ex_raise, ex_try, ex_frz, ev_bin, ev_neg, ev_cmp, ev_and, ev_or, ev_not, ev_ite, ev_tup, ev_lst, ev_idx, ev_slc00, ev_slc10, ev_slc01, ev_call, ev_callv, ev_comp, ev_blt, ev_meth, evs_cons, evI_seq, evI_rng, evI_zip, evT_and, evT_or, evT_not, evT_cmp, evT_call, evT_blt, evT_var, evT_idx, ki, kindB]
theorem check_spot {n : Nat} (hn : 4 ≤ n) {x : P} (hx : Dat x) (hf : spotB x = true) (h : Hea) : callN T n i_check_spot [.p x] h = .ok (.p .non) h := by
  obtain ⟨m, rfl⟩ : ∃ m, n = m + 1 := ⟨n - 1, by omega⟩
  rw [call_eq (fd := f_check_spot) rfl rfl]
  have ki := blt1_isi (h := h) (k := "tuple") hx.kind rfl
  cases x with
  | tup xs =>
    have e := are_ratios (n := m) (by omega) hx (xs.length : Int) h
    have hf : (decide (1 ≤ xs.length) && (decide (xs.length ≤ 3) && xs.all ratioB)) = true := hf
    simp only [Bool.and_eq_true, decide_eq_true_eq] at hf
    obtain ⟨h1, h2, h3⟩ := hf
    have e2 : areB ratioB (.tup xs) (xs.length : Int) = true := by simp [areB, h3]
    rw [e2] at e
    have c1 : ¬ ((xs.length : Int) < 1) := by omega
    have c2 : ¬ ((3 : Int) < (xs.length : Int)) := by omega
    simp [f_check_spot, b_check_spot, startS, exs_cons, ex_set, ex_par, ex_unp, ex_seti, ex_expr, ex_ret, ex_if, ex_while, ex_for, ex_raise, ex_try, ex_frz, ev_bin, ev_neg, ev_cmp, ev_and, ev_or, ev_not, ev_ite, ev_tup, ev_lst, ev_idx, ev_slc00, ev_slc10, ev_slc01, ev_call, ev_callv, ev_comp, ev_blt, ev_meth, evs_cons, evI_seq, evI_rng, evI_zip, evT_and, evT_or, evT_not, evT_cmp, evT_call, evT_blt, evT_var, evT_idx, ki, kindB, c1, c2, e]
  | _ => cases hf
theorem check_spot_bad {n : Nat} (hn : 4 ≤ n) {x : P} (hx : Dat x) (hf : spotB x = false) (h : Hea) : ∃ fs, callN T n i_check_spot [.p x] h = .exn c_BadSpot fs h := by
  obtain ⟨m, rfl⟩ : ∃ m, n = m + 1 := ⟨n - 1, by omega⟩
  rw [call_eq (fd := f_check_spot) rfl rfl]
  have ki := blt1_isi (h := h) (k := "tuple") hx.kind rfl
  cases x with
  | tup xs =>
    have e := are_ratios (n := m) (by omega) hx (xs.length : Int) h
    have hf : (decide (1 ≤ xs.length) && (decide (xs.length ≤ 3) && xs.all ratioB)) = false := hf
    by_cases c1 : (xs.length : Int) < 1
    · simp [f_check_spot, b_check_spot, startS, exs_cons, ex_set, ex_par, ex_unp, ex_seti, ex_expr, ex_ret, ex_if, ex_while, ex_for, ex_raise, ex_try, ex_frz, ev_bin, ev_neg, ev_cmp, ev_and, ev_or, ev_not, ev_ite, ev_tup, ev_lst, ev_idx, ev_slc00, ev_slc10, ev_slc01, ev_call, ev_callv, ev_comp, ev_blt, ev_meth, evs_cons, evI_seq, evI_rng, evI_zip, evT_and, evT_or, evT_not, evT_cmp, evT_call, evT_blt, evT_var, evT_idx, ki, kindB, c1]
    · by_cases c2 : (3 : Int) < (xs.length : Int)
      · simp [f_check_spot, b_check_spot, startS, exs_cons, ex_set, ex_par, ex_unp, ex_seti, ex_expr, ex_ret, ex_if, ex_while, ex_for, ex_raise, ex_try, ex_frz, ev_bin, ev_neg, ev_cmp, ev_and, ev_or, ev_not, ev_ite, ev_tup, ev_lst, ev_idx, ev_slc00, ev_slc10, ev_slc01, ev_call, ev_callv, ev_comp, ev_blt, ev_meth, evs_cons, evI_seq, evI_rng, evI_zip, evT_and, evT_or, evT_not, evT_cmp, evT_call, evT_blt, evT_var, evT_idx, ki, kindB, c1, c2]
      · have e2 : areB ratioB (.tup xs) (xs.length : Int) = false := by
          have h1 : decide (1 ≤ xs.length) = true := decide_eq_true (by omega)
          have h2 : decide (xs.length ≤ 3) = true := decide_eq_true (by omega)
          rw [h1, h2] at hf
          simpa [areB] using hf
        rw [e2] at e
        simp [f_check_spot, b_check_spot, startS, exs_cons, ex_set, ex_par, ex_unp, ex_seti, ex_expr, ex_ret, ex_if, ex_while, ex_for, ex_raise, ex_try, ex_frz, ev_bin, ev_neg, ev_cmp, ev_and, ev_or, ev_not, ev_ite, ev_tup, ev_lst, ev_idx, ev_slc00, ev_slc10, ev_slc01, ev_call, ev_callv, ev_comp, ev_blt, ev_meth, evs_cons, evI_seq, evI_rng, evI_zip, evT_and, evT_or, evT_not, evT_cmp, evT_call, evT_blt, evT_var, evT_idx, ki, kindB, c1, c2, e]
  | _ => simp [f_check_spot, b_check_spot, startS, exs_cons, ex_set, ex_par, ex_unp, ex_seti, ex_expr, ex_ret, ex_if, ex_while, ex_for, ex_raise, ex_try, ex_frz, ev_bin, ev_neg, ev_cmp, ev_and, ev_or, ev_not, ev_ite, ev_tup, ev_lst, ev_idx, ev_slc00, ev_slc10, ev_slc01, ev_call, ev_callv, ev_comp, ev_blt, ev_meth, evs_cons, evI_seq, evI_rng, evI_zip, evT_and, evT_or, evT_not, evT_cmp, evT_call, evT_blt, evT_var, evT_idx, ki, kindB]
theorem tup_of_spot {x : P} (h : spotB x = true) : ∃ xs, x = .tup xs := by
  cases x with
  | tup xs => exact ⟨xs, rfl⟩
  | _ => cases h
theorem tup_of_form {x : P} (h : formB x = true) : ∃ xs, x = .tup xs := by
  cases x with
  | tup xs => exact ⟨xs, rfl⟩
  | _ => cases h
theorem check_two_spots {n : Nat} (hn : 5 ≤ n) {x y : P} (hx : Dat x) (hy : Dat y) (h1 : spotB x = true) (h2 : areB ratioB y (tlen x) = true) (h : Hea) : callN T n i_check_two_spots [.p x, .p y] h = .ok (.p .non) h := by
  obtain ⟨m, rfl⟩ : ∃ m, n = m + 1 := ⟨n - 1, by omega⟩
  obtain ⟨xs, rfl⟩ := tup_of_spot h1
  have e1 := check_spot (n := m) (by omega) hx h1 h
  have e2 := are_ratios (n := m) (by omega) hy (xs.length : Int) h
  rw [show areB ratioB y (xs.length : Int) = true from h2] at e2
  rw [call_eq (fd := f_check_two_spots) rfl rfl]
  simp [f_check_two_spots, b_check_two_spots, startS, exs_cons, ex_set, ex_par, ex_unp, ex_seti, ex_expr, ex_ret, ex_if, ex_while, ex_for, ex_raise, ex_try, ex_frz, ev_bin, ev_neg, ev_cmp, ev_and, ev_or, ev_not, ev_ite, ev_tup, ev_lst, ev_idx, ev_slc00, ev_slc10, ev_slc01, ev_call, ev_callv, ev_comp, ev_blt, ev_meth, evs_cons, evI_seq, evI_rng, evI_zip, evT_and, evT_or, evT_not, evT_cmp, evT_call, evT_blt, evT_var, evT_idx, e1, e2]
theorem check_two_spots_bad {n : Nat} (hn : 5 ≤ n) {x y : P} (hx : Dat x) (hy : Dat y) (hb : spotB x = false ∨ areB ratioB y (tlen x) = false) (h : Hea) : ∃ fs, callN T n i_check_two_spots [.p x, .p y] h = .exn c_BadSpot fs h := by
  obtain ⟨m, rfl⟩ : ∃ m, n = m + 1 := ⟨n - 1, by omega⟩
  rw [call_eq (fd := f_check_two_spots) rfl rfl]
  cases c : spotB x with
  | false =>
    obtain ⟨fs, e1⟩ := check_spot_bad (n := m) (by omega) hx c h
    simp [f_check_two_spots, b_check_two_spots, startS, exs_cons, ex_set, ex_par, ex_unp, ex_seti, ex_expr, ex_ret, ex_if, ex_while, ex_for, ex_raise, ex_try, ex_frz, ev_bin, ev_neg, ev_cmp, ev_and, ev_or, ev_not, ev_ite, ev_tup, ev_lst, ev_idx, ev_slc00, ev_slc10, ev_slc01, ev_call, ev_callv, ev_comp, ev_blt, ev_meth, evs_cons, evI_seq, evI_rng, evI_zip, evT_and, evT_or, evT_not, evT_cmp, evT_call, evT_blt, evT_var, evT_idx, e1]
  | true =>
    obtain ⟨xs, rfl⟩ := tup_of_spot c
    have e1 := check_spot (n := m) (by omega) hx c h
    have e2 := are_ratios (n := m) (by omega) hy (xs.length : Int) h
    rw [show areB ratioB y (xs.length : Int) = false from hb.resolve_left (by rw [c]; exact fun z => Bool.noConfusion z)] at e2
    simp [f_check_two_spots, b_check_two_spots, startS, exs_cons, ex_set, ex_par, ex_unp, ex_seti, ex_expr, ex_ret, ex_if, ex_while, ex_for, ex_raise, ex_try, ex_frz, ev_bin, ev_neg, ev_cmp, ev_and, ev_or, ev_not, ev_ite, ev_tup, ev_lst, ev_idx, ev_slc00, ev_slc10, ev_slc01, ev_call, ev_callv, ev_comp, ev_blt, ev_meth, evs_cons, evI_seq, evI_rng, evI_zip, evT_and, evT_or, evT_not, evT_cmp, evT_call, evT_blt, evT_var, evT_idx, e1, e2]
theorem check_forms {n : Nat} (hn : 4 ≤ n) {x y : P} (hx : Dat x) (hy : Dat y) (h1 : formB x = true) (h2 : areB wholeB y (tlen x) = true) (h : Hea) : callN T n i_check_forms [.p x, .p y] h = .ok (.p .non) h := by
  obtain ⟨m, rfl⟩ : ∃ m, n = m + 1 := ⟨n - 1, by omega⟩
  obtain ⟨xs, rfl⟩ := tup_of_form h1
  have e1 := check_form (n := m) (by omega) hx h1 h
  have e2 := are_integers (n := m) (by omega) hy (xs.length : Int) h
  rw [show areB wholeB y (xs.length : Int) = true from h2] at e2
  rw [call_eq (fd := f_check_forms) rfl rfl]
  simp [f_check_forms, b_check_forms, startS, exs_cons, ex_set, ex_par, ex_unp, ex_seti, ex_expr, ex_ret, ex_if, ex_while, ex_for, ex_raise, ex_try, ex_frz, ev_bin, ev_neg, ev_cmp, ev_and, ev_or, ev_not, ev_ite, ev_tup, ev_lst, ev_idx, ev_slc00, ev_slc10, ev_slc01, ev_call, ev_callv, ev_comp, ev_blt, ev_meth, evs_cons, evI_seq, evI_rng, evI_zip, evT_and, evT_or, evT_not, evT_cmp, evT_call, evT_blt, evT_var, evT_idx, e1, e2]
theorem check_forms_bad {n : Nat} (hn : 4 ≤ n) {x y : P} (hx : Dat x) (hy : Dat y) (hb : formB x = false ∨ areB wholeB y (tlen x) = false) (h : Hea) : ∃ fs, callN T n i_check_forms [.p x, .p y] h = .exn c_BadForm fs h := by
  obtain ⟨m, rfl⟩ : ∃ m, n = m + 1 := ⟨n - 1, by omega⟩
  rw [call_eq (fd := f_check_forms) rfl rfl]
  cases c : formB x with
  | false =>
    obtain ⟨fs, e1⟩ := check_form_bad (n := m) (by omega) hx c h
    simp [f_check_forms, b_check_forms, startS, exs_cons, ex_set, ex_par, ex_unp, ex_seti, ex_expr, ex_ret, ex_if, ex_while, ex_for, ex_raise, ex_try, ex_frz, ev_bin, ev_neg, ev_cmp, ev_and, ev_or, ev_not, ev_ite, ev_tup, ev_lst, ev_idx, ev_slc00, ev_slc10, ev_slc01, ev_call, ev_callv, ev_comp, ev_blt, ev_meth, evs_cons, evI_seq, evI_rng, evI_zip, evT_and, evT_or, evT_not, evT_cmp, evT_call, evT_blt, evT_var, evT_idx, e1]
  | true =>
    obtain ⟨xs, rfl⟩ := tup_of_form c
    have e1 := check_form (n := m) (by omega) hx c h
    have e2 := are_integers (n := m) (by omega) hy (xs.length : Int) h
    rw [show areB wholeB y (xs.length : Int) = false from hb.resolve_left (by rw [c]; exact fun z => Bool.noConfusion z)] at e2
    simp [f_check_forms, b_check_forms, startS, exs_cons, ex_set, ex_par, ex_unp, ex_seti, ex_expr, ex_ret, ex_if, ex_while, ex_for, ex_raise, ex_try, ex_frz, ev_bin, ev_neg, ev_cmp, ev_and, ev_or, ev_not, ev_ite, ev_tup, ev_lst, ev_idx, ev_slc00, ev_slc10, ev_slc01, ev_call, ev_callv, ev_comp, ev_blt, ev_meth, evs_cons, evI_seq, evI_rng, evI_zip, evT_and, evT_or, evT_not, evT_cmp, evT_call, evT_blt, evT_var, evT_idx, e1, e2]
end K15

set_option linter.all false
set_option maxRecDepth 100000
set_option maxHeartbeats 1000000
namespace K15
open Mp
/-- a spot, a form as data -/
def spt (qs : List Rat) : P := .tup (qs.map rt)
def frm (is : List Int) : P := .tup (is.map P.int)
theorem spt_dat {qs : List Rat} (hl : qs.length ≤ 1000) (hq : ∀ q ∈ qs, Rok q) : Dat (spt qs) := ⟨by rw [List.length_map]; exact hl, DatL.of fun y hy => by
  obtain ⟨q, h, rfl⟩ := List.mem_map.mp hy
  exact rt_dat (hq q h)⟩
def Iok (i : Int) : Prop := i.natAbs < 2 ^ 8000
theorem Iok.rok {i : Int} (h : Iok i) : Rok (i : Rat) := ⟨by rw [Rat.num_intCast]; exact h, by rw [Rat.den_intCast]; exact Nat.one_lt_two_pow (by decide)⟩
theorem Iok.dat {i : Int} (h : Iok i) : Dat (.int i) := small h (by decide)
theorem frm_dat {is : List Int} (hl : is.length ≤ 1000) (hq : ∀ i ∈ is, Iok i) : Dat (frm is) := ⟨by rw [List.length_map]; exact hl, DatL.of fun y hy => by
  obtain ⟨q, h, rfl⟩ := List.mem_map.mp hy
  exact (hq q h).dat⟩
theorem all_rt {qs : List Rat} : (qs.map rt).all ratioB = true := List.all_eq_true.mpr fun y hy => by
  obtain ⟨q, _, rfl⟩ := List.mem_map.mp hy
  exact rt_ratio
theorem all_int {is : List Int} : (is.map P.int).all wholeB = true := List.all_eq_true.mpr fun y hy => by
  obtain ⟨q, _, rfl⟩ := List.mem_map.mp hy
  rfl
theorem spt_ok {qs : List Rat} (h1 : 1 ≤ qs.length) (h2 : qs.length ≤ 3) : spotB (spt qs) = true := by
  simp [spotB, spt, h1, h2, rt_ratio]
theorem frm_ok {is : List Int} (h1 : 2 ≤ is.length) (h2 : is.length ≤ 4) : formB (frm is) = true := by
  simp [formB, frm, h1, h2, wholeB]
theorem spt_are {qs : List Rat} {d : Int} (h : (qs.length : Int) = d) : areB ratioB (spt qs) d = true := by
  simp [areB, spt, h, rt_ratio]
theorem frm_are {is : List Int} {d : Int} (h : (is.length : Int) = d) : areB wholeB (frm is) d = true := by
  simp [areB, frm, h, wholeB]
/-! ### compare_spots -/
def ordL : List Rat → List Rat → Int
  | p :: ps, q :: qs => if ordR p q = 0 then ordL ps qs else ordR p q
  | _, _ => 0
theorem compare_loop {m : Nat} (hm : 2 ≤ m) {bs : Nat} (h : Hea) : ∀ (ps qs : List Rat) (x0 x1 d2 d3 d4 : Option D), (∀ p ∈ ps, Rok p) → (∀ q ∈ qs, Rok q) →
    (∃ d2' d3' d4', runFor ⟨callN T m, bs⟩ (.many [2, 3]) l_compare_spots_1 (List.zipWith (fun x y => P.tup [rt x, rt y]) ps qs) [x0, x1, d2, d3, d4] h = .next [x0, x1, d2', d3', d4'] h ∧ ordL ps qs = 0) ∨
    (runFor ⟨callN T m, bs⟩ (.many [2, 3]) l_compare_spots_1 (List.zipWith (fun x y => P.tup [rt x, rt y]) ps qs) [x0, x1, d2, d3, d4] h = .ret (.p (.int (ordL ps qs))) h)
  | [], qs, x0, x1, d2, d3, d4, _, _ => .inl ⟨d2, d3, d4, by simp, by simp [ordL]⟩
  | p :: ps, [], x0, x1, d2, d3, d4, _, _ => .inl ⟨d2, d3, d4, by simp, by simp [ordL]⟩
  | p :: ps, q :: qs, x0, x1, d2, d3, d4, hp, hq => by
    have e := order_of hm (hp p List.mem_cons_self) (hq q List.mem_cons_self) h
    rw [List.zipWith_cons_cons]
    by_cases c : ordR p q = 0
    · have body : exs ⟨callN T m, bs⟩ [x0, x1, some (.p (rt p)), some (.p (rt q)), d4] l_compare_spots_1 h = .next [x0, x1, some (.p (rt p)), some (.p (rt q)), some (.p (.int (ordR p q)))] h := by
        simp [l_compare_spots_1, exs_cons, ex_set, ex_par, ex_unp, ex_seti, ex_expr, ex_ret, ex_if, ex_while, ex_for, ex_raise, ex_try, ex_frz, ev_bin, ev_neg, ev_cmp, ev_and, ev_or, ev_not, ev_ite, ev_tup, ev_lst, ev_idx, ev_slc00, ev_slc10, ev_slc01, ev_call, ev_callv, ev_comp, ev_blt, ev_meth, evs_cons, evI_seq, evI_rng, evI_zip, evT_and, evT_or, evT_not, evT_cmp, evT_call, evT_blt, evT_var, evT_idx, e, c]
      rw [for_step (ρ' := [x0, x1, some (.p (rt p)), some (.p (rt q)), d4]) rfl body]
      have o : ordL (p :: ps) (q :: qs) = ordL ps qs := by simp [ordL, c]
      rw [o]
      exact compare_loop hm h ps qs x0 x1 _ _ _ (fun x hx => hp x (List.mem_cons_of_mem _ hx)) (fun x hx => hq x (List.mem_cons_of_mem _ hx))
    · have o : ordL (p :: ps) (q :: qs) = ordR p q := by simp [ordL, c]
      have body : exs ⟨callN T m, bs⟩ [x0, x1, some (.p (rt p)), some (.p (rt q)), d4] l_compare_spots_1 h = .ret (.p (.int (ordL (p :: ps) (q :: qs)))) h := by
        simp [l_compare_spots_1, exs_cons, ex_set, ex_par, ex_unp, ex_seti, ex_expr, ex_ret, ex_if, ex_while, ex_for, ex_raise, ex_try, ex_frz, ev_bin, ev_neg, ev_cmp, ev_and, ev_or, ev_not, ev_ite, ev_tup, ev_lst, ev_idx, ev_slc00, ev_slc10, ev_slc01, ev_call, ev_callv, ev_comp, ev_blt, ev_meth, evs_cons, evI_seq, evI_rng, evI_zip, evT_and, evT_or, evT_not, evT_cmp, evT_call, evT_blt, evT_var, evT_idx, e, c, o]
      exact .inr (for_ret (ρ' := [x0, x1, some (.p (rt p)), some (.p (rt q)), d4]) rfl body)
theorem compare_spots {n : Nat} (hn : 6 ≤ n) {ps qs : List Rat} (h1 : 1 ≤ ps.length) (h2 : ps.length ≤ 3) (hl : qs.length = ps.length) (hp : ∀ p ∈ ps, Rok p) (hq : ∀ q ∈ qs, Rok q) (h : Hea) :
    callN T n i_compare_spots [.p (spt ps), .p (spt qs)] h = .ok (.p (.int (ordL ps qs))) h := by
  obtain ⟨m, rfl⟩ : ∃ m, n = m + 1 := ⟨n - 1, by omega⟩
  have c := check_two_spots (n := m) (by omega) (spt_dat (by omega) hp) (spt_dat (by omega) hq) (spt_ok h1 h2) (spt_are (by simp [tlen, spt, hl])) h
  rw [call_eq (fd := f_compare_spots) rfl rfl]
  rcases compare_loop (m := m) (by omega) (bs := h.length) h ps qs (some (.p (spt ps))) (some (.p (spt qs))) none none none hp hq with ⟨d2, d3, d4, e, o⟩ | e
  · simp [f_compare_spots, b_compare_spots, startS, exs_cons, ex_set, ex_par, ex_unp, ex_seti, ex_expr, ex_ret, ex_if, ex_while, ex_for, ex_raise, ex_try, ex_frz, ev_bin, ev_neg, ev_cmp, ev_and, ev_or, ev_not, ev_ite, ev_tup, ev_lst, ev_idx, ev_slc00, ev_slc10, ev_slc01, ev_call, ev_callv, ev_comp, ev_blt, ev_meth, evs_cons, evI_seq, evI_rng, evI_zip, evT_and, evT_or, evT_not, evT_cmp, evT_call, evT_blt, evT_var, evT_idx, c]
    simp [spt, zip_pairs] at e ⊢
    simp [e, o]
  · simp [f_compare_spots, b_compare_spots, startS, exs_cons, ex_set, ex_par, ex_unp, ex_seti, ex_expr, ex_ret, ex_if, ex_while, ex_for, ex_raise, ex_try, ex_frz, ev_bin, ev_neg, ev_cmp, ev_and, ev_or, ev_not, ev_ite, ev_tup, ev_lst, ev_idx, ev_slc00, ev_slc10, ev_slc01, ev_call, ev_callv, ev_comp, ev_blt, ev_meth, evs_cons, evI_seq, evI_rng, evI_zip, evT_and, evT_or, evT_not, evT_cmp, evT_call, evT_blt, evT_var, evT_idx, c]
    simp [spt, zip_pairs] at e ⊢
    simp [e]
theorem compare_bad {n : Nat} (hn : 6 ≤ n) {x y : P} (hx : Dat x) (hy : Dat y) (hb : spotB x = false ∨ areB ratioB y (tlen x) = false) (h : Hea) : ∃ fs, callN T n i_compare_spots [.p x, .p y] h = .exn c_BadSpot fs h := by
  obtain ⟨m, rfl⟩ : ∃ m, n = m + 1 := ⟨n - 1, by omega⟩
  obtain ⟨fs, e⟩ := check_two_spots_bad (n := m) (by omega) hx hy hb h
  rw [call_eq (fd := f_compare_spots) rfl rfl]
  exact ⟨fs, by simp [f_compare_spots, b_compare_spots, startS, exs_cons, ex_set, ex_par, ex_unp, ex_seti, ex_expr, ex_ret, ex_if, ex_while, ex_for, ex_raise, ex_try, ex_frz, ev_bin, ev_neg, ev_cmp, ev_and, ev_or, ev_not, ev_ite, ev_tup, ev_lst, ev_idx, ev_slc00, ev_slc10, ev_slc01, ev_call, ev_callv, ev_comp, ev_blt, ev_meth, evs_cons, evI_seq, evI_rng, evI_zip, evT_and, evT_or, evT_not, evT_cmp, evT_call, evT_blt, evT_var, evT_idx, e]⟩
/-! ### between -/
def betw (s : Rat) (p q : Rat) : Rat := p + s * (q - p)
/-- what comes on the way is small -/
def BetOk (s p q : Rat) : Prop := Rok p ∧ Rok q ∧ Rok (q - p) ∧ Rok (s * (q - p))
theorem between_loop {m : Nat} (hm : 2 ≤ m) {bs : Nat} (h : Hea) {s : Rat} (hs : Rok s) (x0 x1 : Option D) : ∀ (ps qs : List Rat) (acc : List P) (d4 d5 d6 : Option D), (∀ pq ∈ List.zipWith (fun x y => (x, y)) ps qs, BetOk s pq.1 pq.2) → acc.length + ps.length ≤ 1000 →
    ∃ d4' d5' d6', runFor ⟨callN T m, bs⟩ (.many [4, 5]) l_between_1 (List.zipWith (fun x y => P.tup [rt x, rt y]) ps qs) [x0, x1, some (.p (rt s)), some (.ref h.length), d4, d5, d6] (h ++ [some (acc.map D.p)]) =
      .next [x0, x1, some (.p (rt s)), some (.ref h.length), d4', d5', d6'] (h ++ [some ((acc ++ List.zipWith (fun x y => rt (betw s x y)) ps qs).map D.p)])
  | [], qs, acc, d4, d5, d6, _, _ => ⟨d4, d5, d6, by simp⟩
  | p :: ps, [], acc, d4, d5, d6, _, _ => ⟨d4, d5, d6, by simp⟩
  | p :: ps, q :: qs, acc, d4, d5, d6, hb, hl => by
    obtain ⟨b1, b2, b3, b4⟩ := hb (p, q) (by simp)
    have hl' : acc.length + (ps.length + 1) ≤ 1000 := by simpa using hl
    have hn : Rok (-p) := ⟨by rw [Rat.neg_num, Int.natAbs_neg]; exact b1.1, by rw [Rat.neg_den]; exact b1.2⟩
    have e1 := opposite (n := m) (by omega) p (h ++ [some (acc.map D.p)])
    have e2 := sum_of (n := m) (by omega) b2 hn (h ++ [some (acc.map D.p)])
    rw [← Rat.sub_eq_add_neg] at e2
    have e3 := product_of (n := m) (by omega) hs b3 (h ++ [some (acc.map D.p)])
    have e4 := sum_of (n := m) (by omega) b1 b4 (h ++ [some (acc.map D.p)])
    have e5 := app_last (bs := bs) (h := h) (ds := acc.map D.p) (x := rt (p + s * (q - p))) (by rw [List.length_map]; exact Nat.lt_of_le_of_lt (by omega : acc.length ≤ 1000) (by decide))
    have body : exs ⟨callN T m, bs⟩ [x0, x1, some (.p (rt s)), some (.ref h.length), some (.p (rt p)), some (.p (rt q)), d6] l_between_1 (h ++ [some (acc.map D.p)]) =
        .next [x0, x1, some (.p (rt s)), some (.ref h.length), some (.p (rt p)), some (.p (rt q)), some (.p (rt (q - p)))] (h ++ [some ((acc ++ [rt (betw s p q)]).map D.p)]) := by
      simp [l_between_1, exs_cons, ex_set, ex_par, ex_unp, ex_seti, ex_expr, ex_ret, ex_if, ex_while, ex_for, ex_raise, ex_try, ex_frz, ev_bin, ev_neg, ev_cmp, ev_and, ev_or, ev_not, ev_ite, ev_tup, ev_lst, ev_idx, ev_slc00, ev_slc10, ev_slc01, ev_call, ev_callv, ev_comp, ev_blt, ev_meth, evs_cons, evI_seq, evI_rng, evI_zip, evT_and, evT_or, evT_not, evT_cmp, evT_call, evT_blt, evT_var, evT_idx, e1, e2, e3, e4, e5, betw]
    rw [List.zipWith_cons_cons, for_step (ρ' := [x0, x1, some (.p (rt s)), some (.ref h.length), some (.p (rt p)), some (.p (rt q)), d6]) rfl body]
    obtain ⟨d4', d5', d6', e⟩ := between_loop hm (bs := bs) h hs x0 x1 ps qs (acc ++ [rt (betw s p q)]) (some (.p (rt p))) (some (.p (rt q))) (some (.p (rt (q - p)))) (fun pq hpq => hb pq (by simp; exact .inr hpq)) (by simp; omega)
    refine ⟨d4', d5', d6', ?_⟩
    rw [e]
    simp
theorem between {n : Nat} (hn : 6 ≤ n) {ps qs : List Rat} {s : Rat} (h1 : 1 ≤ ps.length) (h2 : ps.length ≤ 3) (hl : qs.length = ps.length) (hp : ∀ p ∈ ps, Rok p) (hq : ∀ q ∈ qs, Rok q) (hs : Rok s) (hb : ∀ pq ∈ List.zipWith (fun x y => (x, y)) ps qs, BetOk s pq.1 pq.2) (h : Hea) :
    callN T n i_between [.p (spt ps), .p (spt qs), .p (rt s)] h = .ok (.p (spt (List.zipWith (betw s) ps qs))) h := by
  obtain ⟨m, rfl⟩ : ∃ m, n = m + 1 := ⟨n - 1, by omega⟩
  have c := check_two_spots (n := m) (by omega) (spt_dat (by omega) hp) (spt_dat (by omega) hq) (spt_ok h1 h2) (spt_are (by simp [tlen, spt, hl])) h
  have c2 := check_ratio (n := m) (by omega) (rt_dat hs) rt_ratio h
  obtain ⟨d4, d5, d6, e⟩ := between_loop (m := m) (by omega) (bs := h.length) h hs (some (.p (spt ps))) (some (.p (spt qs))) ps qs [] none none none hb (by simp; omega)
  have t := blt1_tuple_last (h := h) (xs := List.zipWith (fun x y => rt (betw s x y)) ps qs)
  have z : List.map rt (List.zipWith (betw s) ps qs) = List.zipWith (fun x y => rt (betw s x y)) ps qs := by rw [List.map_zipWith]
  rw [call_eq (fd := f_between) rfl rfl]
  simp [f_between, b_between, startS, exs_cons, ex_set, ex_par, ex_unp, ex_seti, ex_expr, ex_ret, ex_if, ex_while, ex_for, ex_raise, ex_try, ex_frz, ev_bin, ev_neg, ev_cmp, ev_and, ev_or, ev_not, ev_ite, ev_tup, ev_lst, ev_idx, ev_slc00, ev_slc10, ev_slc01, ev_call, ev_callv, ev_comp, ev_blt, ev_meth, evs_cons, evI_seq, evI_rng, evI_zip, evT_and, evT_or, evT_not, evT_cmp, evT_call, evT_blt, evT_var, evT_idx, c, c2]
  simp [spt, zip_pairs] at e ⊢
  rw [e]
  simp at t
  simp [t]
theorem between_bad {n : Nat} (hn : 6 ≤ n) {x y : P} {z : D} (hx : Dat x) (hy : Dat y) (hb : spotB x = false ∨ areB ratioB y (tlen x) = false) (h : Hea) : ∃ fs, callN T n i_between [.p x, .p y, z] h = .exn c_BadSpot fs h := by
  obtain ⟨m, rfl⟩ : ∃ m, n = m + 1 := ⟨n - 1, by omega⟩
  obtain ⟨fs, e⟩ := check_two_spots_bad (n := m) (by omega) hx hy hb h
  rw [call_eq (fd := f_between) rfl rfl]
  exact ⟨fs, by simp [f_between, b_between, startS, exs_cons, ex_set, ex_par, ex_unp, ex_seti, ex_expr, ex_ret, ex_if, ex_while, ex_for, ex_raise, ex_try, ex_frz, ev_bin, ev_neg, ev_cmp, ev_and, ev_or, ev_not, ev_ite, ev_tup, ev_lst, ev_idx, ev_slc00, ev_slc10, ev_slc01, ev_call, ev_callv, ev_comp, ev_blt, ev_meth, evs_cons, evI_seq, evI_rng, evI_zip, evT_and, evT_or, evT_not, evT_cmp, evT_call, evT_blt, evT_var, evT_idx, e]⟩
theorem between_bad3 {n : Nat} (hn : 6 ≤ n) {x y z : P} (hx : Dat x) (hy : Dat y) (hz : Dat z) (h1 : spotB x = true) (h2 : areB ratioB y (tlen x) = true) (h3 : ratioB z = false) (h : Hea) : ∃ fs, callN T n i_between [.p x, .p y, .p z] h = .exn c_BadNumber fs h := by
  obtain ⟨m, rfl⟩ : ∃ m, n = m + 1 := ⟨n - 1, by omega⟩
  have c := check_two_spots (n := m) (by omega) hx hy h1 h2 h
  obtain ⟨fs, e⟩ := check_ratio_bad (n := m) (by omega) hz h3 h
  rw [call_eq (fd := f_between) rfl rfl]
  exact ⟨fs, by simp [f_between, b_between, startS, exs_cons, ex_set, ex_par, ex_unp, ex_seti, ex_expr, ex_ret, ex_if, ex_while, ex_for, ex_raise, ex_try, ex_frz, ev_bin, ev_neg, ev_cmp, ev_and, ev_or, ev_not, ev_ite, ev_tup, ev_lst, ev_idx, ev_slc00, ev_slc10, ev_slc01, ev_call, ev_callv, ev_comp, ev_blt, ev_meth, evs_cons, evI_seq, evI_rng, evI_zip, evT_and, evT_or, evT_not, evT_cmp, evT_call, evT_blt, evT_var, evT_idx, c, e]⟩
end K15

set_option linter.all false
set_option maxRecDepth 100000
set_option maxHeartbeats 1000000
namespace K15
open Mp
/-! ### value -/
def prods : List Int → List Rat → List Rat
  | i :: is, q :: qs => (i : Rat) * q :: prods is qs
  | _, _ => []
theorem value_loop {m : Nat} (hm : 2 ≤ m) {bs : Nat} (h : Hea) (x0 x1 : Option D) : ∀ (is : List Int) (qs : List Rat) (a : Rat) (d3 d4 : Option D), (∀ i ∈ is, Iok i) → (∀ q ∈ qs, Rok q) → RunOk a (prods is qs) →
    ∃ d3' d4', runFor ⟨callN T m, bs⟩ (.many [3, 4]) l_value_1 (List.zipWith (fun x y => P.tup [P.int x, rt y]) is qs) [x0, x1, some (.p (rt a)), d3, d4] h = .next [x0, x1, some (.p (rt (a + (prods is qs).sum))), d3', d4'] h
  | [], qs, a, d3, d4, _, _, _ => ⟨d3, d4, by simp [prods, Rat.add_zero]⟩
  | i :: is, [], a, d3, d4, _, _, _ => ⟨d3, d4, by simp [prods, Rat.add_zero]⟩
  | i :: is, q :: qs, a, d3, d4, hi, hq, hr => by
    obtain ⟨r1, r2, r3⟩ := hr
    have e1 := product_of hm (hi i List.mem_cons_self).rok (hq q List.mem_cons_self) h
    have e2 := sum_of hm r1 r2 h
    rw [rt_int] at e1
    have body : exs ⟨callN T m, bs⟩ [x0, x1, some (.p (rt a)), some (.p (.int i)), some (.p (rt q))] l_value_1 h = .next [x0, x1, some (.p (rt (a + (i : Rat) * q))), some (.p (.int i)), some (.p (rt q))] h := by
      simp [l_value_1, exs_cons, ex_set, ex_par, ex_unp, ex_seti, ex_expr, ex_ret, ex_if, ex_while, ex_for, ex_raise, ex_try, ex_frz, ev_bin, ev_neg, ev_cmp, ev_and, ev_or, ev_not, ev_ite, ev_tup, ev_lst, ev_idx, ev_slc00, ev_slc10, ev_slc01, ev_call, ev_callv, ev_comp, ev_blt, ev_meth, evs_cons, evI_seq, evI_rng, evI_zip, evT_and, evT_or, evT_not, evT_cmp, evT_call, evT_blt, evT_var, evT_idx, e1, e2]
    obtain ⟨d3', d4', e⟩ := value_loop hm (bs := bs) h x0 x1 is qs (a + (i : Rat) * q) (some (.p (.int i))) (some (.p (rt q))) (fun x hx => hi x (List.mem_cons_of_mem _ hx)) (fun x hx => hq x (List.mem_cons_of_mem _ hx)) r3
    refine ⟨d3', d4', ?_⟩
    rw [List.zipWith_cons_cons, for_step (ρ' := [x0, x1, some (.p (rt a)), some (.p (.int i)), some (.p (rt q))]) rfl body, e]
    simp only [prods]
    rw [sum_cons]
theorem value {n : Nat} (hn : 4 ≤ n) {i0 : Int} {is : List Int} {qs : List Rat} (h1 : 1 ≤ is.length) (h2 : is.length ≤ 3) (hl : qs.length = is.length) (h0 : Iok i0) (hi : ∀ i ∈ is, Iok i) (hq : ∀ q ∈ qs, Rok q) (hr : RunOk (i0 : Rat) (prods is qs)) (h : Hea) :
    callN T n i_value [.p (frm (i0 :: is)), .p (spt qs)] h = .ok (.p (rt ((i0 : Rat) + (prods is qs).sum))) h := by
  obtain ⟨m, rfl⟩ : ∃ m, n = m + 1 := ⟨n - 1, by omega⟩
  have hd : ∀ i ∈ i0 :: is, Iok i := fun i hi' => by
    rcases List.mem_cons.mp hi' with z | z
    · rw [z]; exact h0
    · exact hi i z
  have c := check_form (n := m) (by omega) (frm_dat (is := i0 :: is) (by simp; omega) hd) (frm_ok (by simp; omega) (by simp; omega)) h
  have c2 := are_ratios (n := m) (by omega) (spt_dat (qs := qs) (by omega) hq) (qs.length : Int) h
  rw [spt_are rfl] at c2
  have el : ((is.length : Int) + 1 - 1) = (qs.length : Int) := by omega
  obtain ⟨d3, d4, e⟩ := value_loop (m := m) (by omega) (bs := h.length) h (some (.p (frm (i0 :: is)))) (some (.p (spt qs))) is qs (i0 : Rat) none none hi hq hr
  rw [rt_int] at e
  have c3 := fun h => slc_tail (h := h) (x := P.int i0) (xs := is.map P.int)
  have c4 := idx_at (h := h) (xs := P.int i0 :: is.map P.int) (i := 0) (x := .int i0) rfl
  simp only [frm, List.map_cons] at c c3 c4 e
  rw [call_eq (fd := f_value) rfl rfl]
  simp [f_value, b_value, startS, exs_cons, ex_set, ex_par, ex_unp, ex_seti, ex_expr, ex_ret, ex_if, ex_while, ex_for, ex_raise, ex_try, ex_frz, ev_bin, ev_neg, ev_cmp, ev_and, ev_or, ev_not, ev_ite, ev_tup, ev_lst, ev_idx, ev_slc00, ev_slc10, ev_slc01, ev_call, ev_callv, ev_comp, ev_blt, ev_meth, evs_cons, evI_seq, evI_rng, evI_zip, evT_and, evT_or, evT_not, evT_cmp, evT_call, evT_blt, evT_var, evT_idx, frm, c, c2, el, c3]
  simp at c4
  simp [spt, zip_pairs, ends1] at e c4 ⊢
  simp [c4, c3, zip_pairs, e]
theorem value_bad {n : Nat} (hn : 4 ≤ n) {x : P} {y : D} (hx : Dat x) (hb : formB x = false) (h : Hea) : ∃ fs, callN T n i_value [.p x, y] h = .exn c_BadForm fs h := by
  obtain ⟨m, rfl⟩ : ∃ m, n = m + 1 := ⟨n - 1, by omega⟩
  obtain ⟨fs, e⟩ := check_form_bad (n := m) (by omega) hx hb h
  rw [call_eq (fd := f_value) rfl rfl]
  exact ⟨fs, by simp [f_value, b_value, startS, exs_cons, ex_set, ex_par, ex_unp, ex_seti, ex_expr, ex_ret, ex_if, ex_while, ex_for, ex_raise, ex_try, ex_frz, ev_bin, ev_neg, ev_cmp, ev_and, ev_or, ev_not, ev_ite, ev_tup, ev_lst, ev_idx, ev_slc00, ev_slc10, ev_slc01, ev_call, ev_callv, ev_comp, ev_blt, ev_meth, evs_cons, evI_seq, evI_rng, evI_zip, evT_and, evT_or, evT_not, evT_cmp, evT_call, evT_blt, evT_var, evT_idx, e]⟩
theorem value_bad2 {n : Nat} (hn : 4 ≤ n) {x y : P} (hx : Dat x) (hy : Dat y) (hf : formB x = true) (hb : areB ratioB y (tlen x - 1) = false) (h : Hea) : ∃ fs, callN T n i_value [.p x, .p y] h = .exn c_BadSpot fs h := by
  obtain ⟨m, rfl⟩ : ∃ m, n = m + 1 := ⟨n - 1, by omega⟩
  obtain ⟨xs, rfl⟩ := tup_of_form hf
  have c := check_form (n := m) (by omega) hx hf h
  have c2 := are_ratios (n := m) (by omega) hy ((xs.length : Int) - 1) h
  rw [show areB ratioB y ((xs.length : Int) - 1) = false from hb] at c2
  rw [call_eq (fd := f_value) rfl rfl]
  simp [f_value, b_value, startS, exs_cons, ex_set, ex_par, ex_unp, ex_seti, ex_expr, ex_ret, ex_if, ex_while, ex_for, ex_raise, ex_try, ex_frz, ev_bin, ev_neg, ev_cmp, ev_and, ev_or, ev_not, ev_ite, ev_tup, ev_lst, ev_idx, ev_slc00, ev_slc10, ev_slc01, ev_call, ev_callv, ev_comp, ev_blt, ev_meth, evs_cons, evI_seq, evI_rng, evI_zip, evT_and, evT_or, evT_not, evT_cmp, evT_call, evT_blt, evT_var, evT_idx, c, c2]
/-! ### counts -/
def countB : P → Bool
  | .int i => decide (1 ≤ i)
  | _ => false
def slen : P → Int
  | .tup xs => xs.length
  | .lst xs => xs.length
  | _ => 0
theorem IsSeq.len {x : P} {xs : List P} (s : IsSeq x xs) : slen x = xs.length := by rcases s with rfl | rfl <;> rfl
theorem IsSeq.blen {x : P} {xs : List P} {h : Hea} (s : IsSeq x xs) : blt1 .len false [.p x] h = .ok (.p (.int (xs.length : Nat))) h := by rcases s with rfl | rfl <;> rfl
def countsB (x : P) (d : Int) : Bool := match x with
  | .tup xs => decide ((xs.length : Int) = d) && xs.all countB
  | .lst xs => decide ((xs.length : Int) = d) && xs.all countB
  | _ => false
theorem seq_of {x : P} (hx : Dat x) (h : seqB x = true) : ∃ xs, IsSeq x xs ∧ xs.length ≤ 1000 ∧ ∀ y ∈ xs, Dat y := by
  cases x with
  | tup xs => exact ⟨xs, .inr rfl, hx.1, fun y hy => hx.2.mem hy⟩
  | lst xs => exact ⟨xs, .inl rfl, hx.1, fun y hy => hx.2.mem hy⟩
  | _ => cases h
theorem eqd {a b : Int} : (a == b) = decide (a = b) := by
  by_cases c : a = b
  · simp [c]
  · simp [c]
theorem counts_comp {m : Nat} (hm : 1 ≤ m) {bs : Nat} {h : Hea} {x0 x1 : Option D} {xs : List P} (hd : ∀ y ∈ xs, Dat y) : runComp ⟨callN T m, bs⟩ [x0, x1, none] [2] (.one 2) .nil e_check_counts_1 xs h = .ok (xs.map fun x => .p (.bl (countB x))) h :=
  comp_one (f := fun x => .bl (countB x)) fun x hx' => by
    have e := whole (n := m) hm (hd x hx') h
    cases x with
    | int i => simp [e_check_counts_1, exs_cons, ex_set, ex_par, ex_unp, ex_seti, ex_expr, ex_ret, ex_if, ex_while, ex_for, ex_raise, ex_try, ex_frz, ev_bin, ev_neg, ev_cmp, ev_and, ev_or, ev_not, ev_ite, ev_tup, ev_lst, ev_idx, ev_slc00, ev_slc10, ev_slc01, ev_call, ev_callv, ev_comp, ev_blt, ev_meth, evs_cons, evI_seq, evI_rng, evI_zip, evT_and, evT_or, evT_not, evT_cmp, evT_call, evT_blt, evT_var, evT_idx, wipe, e, wholeB, countB]
    | _ => simp [e_check_counts_1, exs_cons, ex_set, ex_par, ex_unp, ex_seti, ex_expr, ex_ret, ex_if, ex_while, ex_for, ex_raise, ex_try, ex_frz, ev_bin, ev_neg, ev_cmp, ev_and, ev_or, ev_not, ev_ite, ev_tup, ev_lst, ev_idx, ev_slc00, ev_slc10, ev_slc01, ev_call, ev_callv, ev_comp, ev_blt, ev_meth, evs_cons, evI_seq, evI_rng, evI_zip, evT_and, evT_or, evT_not, evT_cmp, evT_call, evT_blt, evT_var, evT_idx, wipe, e, wholeB, countB]
theorem check_counts {n : Nat} (hn : 2 ≤ n) {x : P} (hx : Dat x) (d : Int) (hc : countsB x d = true) (h : Hea) : callN T n i_check_counts [.p x, .p (.int d)] h = .ok (.p .non) h := by
  obtain ⟨m, rfl⟩ : ∃ m, n = m + 1 := ⟨n - 1, by omega⟩
  have sb : seqB x = true := by cases x <;> first | rfl | cases hc
  obtain ⟨xs, s, hl, hd⟩ := seq_of hx sb
  have c1 := is_seq (n := m) (by omega) hx h
  rw [sb] at c1
  have hc' : (xs.length : Int) = d ∧ xs.all countB = true := by
    rcases s with rfl | rfl
    · exact ⟨of_decide_eq_true (Bool.and_eq_true_iff.mp hc).1, (Bool.and_eq_true_iff.mp hc).2⟩
    · exact ⟨of_decide_eq_true (Bool.and_eq_true_iff.mp hc).1, (Bool.and_eq_true_iff.mp hc).2⟩
  rw [call_eq (fd := f_check_counts) rfl rfl]
  simp [f_check_counts, b_check_counts, startS, exs_cons, ex_set, ex_par, ex_unp, ex_seti, ex_expr, ex_ret, ex_if, ex_while, ex_for, ex_raise, ex_try, ex_frz, ev_bin, ev_neg, ev_cmp, ev_and, ev_or, ev_not, ev_ite, ev_tup, ev_lst, ev_idx, ev_slc00, ev_slc10, ev_slc01, ev_call, ev_callv, ev_comp, ev_blt, ev_meth, evs_cons, evI_seq, evI_rng, evI_zip, evT_and, evT_or, evT_not, evT_cmp, evT_call, evT_blt, evT_var, evT_idx, c1, s.blen, s.seq1, counts_comp (m := m) (by omega) hd, mk_map (lim1000 hl), blt1_all, hc'.1, hc'.2]
theorem check_counts_bad {n : Nat} (hn : 2 ≤ n) {x : P} (hx : Dat x) (d : Int) (hc : countsB x d = false) (h : Hea) : ∃ fs, callN T n i_check_counts [.p x, .p (.int d)] h = .exn c_BadNumber fs h := by
  obtain ⟨m, rfl⟩ : ∃ m, n = m + 1 := ⟨n - 1, by omega⟩
  have c1 := is_seq (n := m) (by omega) hx h
  rw [call_eq (fd := f_check_counts) rfl rfl]
  cases sb : seqB x with
  | false =>
    rw [sb] at c1
    simp [f_check_counts, b_check_counts, startS, exs_cons, ex_set, ex_par, ex_unp, ex_seti, ex_expr, ex_ret, ex_if, ex_while, ex_for, ex_raise, ex_try, ex_frz, ev_bin, ev_neg, ev_cmp, ev_and, ev_or, ev_not, ev_ite, ev_tup, ev_lst, ev_idx, ev_slc00, ev_slc10, ev_slc01, ev_call, ev_callv, ev_comp, ev_blt, ev_meth, evs_cons, evI_seq, evI_rng, evI_zip, evT_and, evT_or, evT_not, evT_cmp, evT_call, evT_blt, evT_var, evT_idx, c1]
  | true =>
    rw [sb] at c1
    obtain ⟨xs, s, hl, hd⟩ := seq_of hx sb
    by_cases c : (xs.length : Int) = d
    · have hc' : xs.all countB = false := by
        rcases s with rfl | rfl
        · simpa [countsB, c] using hc
        · simpa [countsB, c] using hc
      simp [f_check_counts, b_check_counts, startS, exs_cons, ex_set, ex_par, ex_unp, ex_seti, ex_expr, ex_ret, ex_if, ex_while, ex_for, ex_raise, ex_try, ex_frz, ev_bin, ev_neg, ev_cmp, ev_and, ev_or, ev_not, ev_ite, ev_tup, ev_lst, ev_idx, ev_slc00, ev_slc10, ev_slc01, ev_call, ev_callv, ev_comp, ev_blt, ev_meth, evs_cons, evI_seq, evI_rng, evI_zip, evT_and, evT_or, evT_not, evT_cmp, evT_call, evT_blt, evT_var, evT_idx, c1, s.blen, s.seq1, counts_comp (m := m) (by omega) hd, mk_map (lim1000 hl), blt1_all, c, hc']
    · simp [f_check_counts, b_check_counts, startS, exs_cons, ex_set, ex_par, ex_unp, ex_seti, ex_expr, ex_ret, ex_if, ex_while, ex_for, ex_raise, ex_try, ex_frz, ev_bin, ev_neg, ev_cmp, ev_and, ev_or, ev_not, ev_ite, ev_tup, ev_lst, ev_idx, ev_slc00, ev_slc10, ev_slc01, ev_call, ev_callv, ev_comp, ev_blt, ev_meth, evs_cons, evI_seq, evI_rng, evI_zip, evT_and, evT_or, evT_not, evT_cmp, evT_call, evT_blt, evT_var, evT_idx, c1, s.blen, c]
end K15

set_option linter.all false
set_option maxRecDepth 100000
set_option maxHeartbeats 1000000
namespace K15
open Mp
theorem IsSeq.idx0 {x y : P} {xs : List P} {h : Hea} (s : IsSeq x (y :: xs)) : idxD h (.p x) (.p (.int 0)) = some (.p y) := by
  rcases s with rfl | rfl
  · exact idx_atL (i := 0) rfl
  · exact idx_at (i := 0) rfl
theorem IsSeq.sum {x : P} {ns : List Int} {h : Hea} (s : IsSeq x (ns.map P.int)) : blt1 .sum false [.p x] h = .ok (.p (.int ns.sum)) h := by
  have e : ((intsP (ns.map P.int)).map fun ns => P.int ns.sum) = some (.int ns.sum) := by rw [intsP_map]; rfl
  rcases s with rfl | rfl
  · show (match (intsP (ns.map P.int)).map fun ns => P.int ns.sum with
      | some y => outP false y h
      | none => .stuck) = _
    rw [e]; rfl
  · show (match (intsP (ns.map P.int)).map fun ns => P.int ns.sum with
      | some y => outP false y h
      | none => .stuck) = _
    rw [e]; rfl
theorem mean_check {m : Nat} (hm : 5 ≤ m) {bs : Nat} (h : Hea) {x y0 : P} {ys0 : List P} (s : IsSeq x (y0 :: ys0)) (h0 : Dat y0) (hs0 : spotB y0 = true) (r : List (Option D)) (x1 : Option D) : ∀ (ys : List P) (d2 : Option D), (∀ y ∈ ys, Dat y ∧ areB ratioB y (tlen y0) = true) →
    ∃ d2', runFor ⟨callN T m, bs⟩ (.one 2) l_mean_spot_1 ys (some (.p x) :: x1 :: d2 :: r) h = .next (some (.p x) :: x1 :: d2' :: r) h
  | [], d2, _ => ⟨d2, by simp⟩
  | y :: ys, d2, hy => by
    obtain ⟨g1, g2⟩ := hy y List.mem_cons_self
    have e := check_two_spots hm h0 g1 hs0 g2 h
    have body : exs ⟨callN T m, bs⟩ (some (.p x) :: x1 :: some (.p y) :: r) l_mean_spot_1 h = .next (some (.p x) :: x1 :: some (.p y) :: r) h := by
      simp [l_mean_spot_1, exs_cons, ex_set, ex_par, ex_unp, ex_seti, ex_expr, ex_ret, ex_if, ex_while, ex_for, ex_raise, ex_try, ex_frz, ev_bin, ev_neg, ev_cmp, ev_and, ev_or, ev_not, ev_ite, ev_tup, ev_lst, ev_idx, ev_slc00, ev_slc10, ev_slc01, ev_call, ev_callv, ev_comp, ev_blt, ev_meth, evs_cons, evI_seq, evI_rng, evI_zip, evT_and, evT_or, evT_not, evT_cmp, evT_call, evT_blt, evT_var, evT_idx, s.idx0, e]
    obtain ⟨d2', e2⟩ := mean_check hm (bs := bs) h s h0 hs0 r x1 ys (some (.p y)) fun z hz => hy z (List.mem_cons_of_mem _ hz)
    exact ⟨d2', by rw [for_step (ρ' := some (.p x) :: x1 :: some (.p y) :: r) rfl body, e2]⟩
theorem mean_check_bad {m : Nat} (hm : 5 ≤ m) {bs : Nat} (h : Hea) {x y0 : P} {ys0 : List P} (s : IsSeq x (y0 :: ys0)) (h0 : Dat y0) (r : List (Option D)) (x1 : Option D) : ∀ (ys : List P) (d2 : Option D), (∀ y ∈ ys, Dat y) → (∃ y ∈ ys, spotB y0 = false ∨ areB ratioB y (tlen y0) = false) →
    ∃ fs ρ, runFor ⟨callN T m, bs⟩ (.one 2) l_mean_spot_1 ys (some (.p x) :: x1 :: d2 :: r) h = .exn c_BadSpot fs ρ h
  | [], d2, _, ⟨_, hy, _⟩ => by cases hy
  | y :: ys, d2, hy, hb => by
    have g1 := hy y List.mem_cons_self
    by_cases c : spotB y0 = false ∨ areB ratioB y (tlen y0) = false
    · obtain ⟨fs, e⟩ := check_two_spots_bad hm h0 g1 c h
      have body : exs ⟨callN T m, bs⟩ (some (.p x) :: x1 :: some (.p y) :: r) l_mean_spot_1 h = .exn c_BadSpot fs (some (.p x) :: x1 :: some (.p y) :: r) h := by
        simp [l_mean_spot_1, exs_cons, ex_set, ex_par, ex_unp, ex_seti, ex_expr, ex_ret, ex_if, ex_while, ex_for, ex_raise, ex_try, ex_frz, ev_bin, ev_neg, ev_cmp, ev_and, ev_or, ev_not, ev_ite, ev_tup, ev_lst, ev_idx, ev_slc00, ev_slc10, ev_slc01, ev_call, ev_callv, ev_comp, ev_blt, ev_meth, evs_cons, evI_seq, evI_rng, evI_zip, evT_and, evT_or, evT_not, evT_cmp, evT_call, evT_blt, evT_var, evT_idx, s.idx0, e]
      exact ⟨fs, _, for_exn (ρ' := some (.p x) :: x1 :: some (.p y) :: r) rfl body⟩
    · have c1 : spotB y0 = true := by
        cases q : spotB y0 with
        | true => rfl
        | false => exact absurd (.inl q) c
      have c2 : areB ratioB y (tlen y0) = true := by
        cases q : areB ratioB y (tlen y0) with
        | true => rfl
        | false => exact absurd (.inr q) c
      have e := check_two_spots hm h0 g1 c1 c2 h
      have body : exs ⟨callN T m, bs⟩ (some (.p x) :: x1 :: some (.p y) :: r) l_mean_spot_1 h = .next (some (.p x) :: x1 :: some (.p y) :: r) h := by
        simp [l_mean_spot_1, exs_cons, ex_set, ex_par, ex_unp, ex_seti, ex_expr, ex_ret, ex_if, ex_while, ex_for, ex_raise, ex_try, ex_frz, ev_bin, ev_neg, ev_cmp, ev_and, ev_or, ev_not, ev_ite, ev_tup, ev_lst, ev_idx, ev_slc00, ev_slc10, ev_slc01, ev_call, ev_callv, ev_comp, ev_blt, ev_meth, evs_cons, evI_seq, evI_rng, evI_zip, evT_and, evT_or, evT_not, evT_cmp, evT_call, evT_blt, evT_var, evT_idx, s.idx0, e]
      have hb' : ∃ z ∈ ys, spotB y0 = false ∨ areB ratioB z (tlen y0) = false := by
        obtain ⟨z, hz, q⟩ := hb
        rcases List.mem_cons.mp hz with w | w
        · rw [w] at q; exact absurd q c
        · exact ⟨z, w, q⟩
      obtain ⟨fs, ρ, e2⟩ := mean_check_bad hm (bs := bs) h s h0 r x1 ys (some (.p y)) (fun z hz => hy z (List.mem_cons_of_mem _ hz)) hb'
      exact ⟨fs, ρ, by rw [for_step (ρ' := some (.p x) :: x1 :: some (.p y) :: r) rfl body, e2]⟩
/-- the terms of one coordinate -/
def terms (k : Nat) : List (List Rat) → List Int → List Rat
  | s :: ss, c :: cs => (c : Rat) * s.getD k 0 :: terms k ss cs
  | _, _ => []
theorem mean_inner {m : Nat} (hm : 2 ≤ m) {bs : Nat} (h : Hea) (x0 x1 d3 d4 : Option D) (k : Nat) : ∀ (ss : List (List Rat)) (cs : List Int) (a : Rat) (d2 d7 : Option D), (∀ s ∈ ss, k < s.length ∧ ∀ q ∈ s, Rok q) → (∀ c ∈ cs, Iok c) → RunOk a (terms k ss cs) →
    ∃ d2' d7', runFor ⟨callN T m, bs⟩ (.many [2, 7]) l_mean_spot_2 (List.zipWith (fun s c => P.tup [spt s, .int c]) ss cs) [x0, x1, d2, d3, d4, some (.p (.int (k : Nat))), some (.p (rt a)), d7] h =
      .next [x0, x1, d2', d3, d4, some (.p (.int (k : Nat))), some (.p (rt (a + (terms k ss cs).sum))), d7'] h
  | [], cs, a, d2, d7, _, _, _ => ⟨d2, d7, by simp [terms, Rat.add_zero]⟩
  | s :: ss, [], a, d2, d7, _, _, _ => ⟨d2, d7, by simp [terms, Rat.add_zero]⟩
  | s :: ss, c :: cs, a, d2, d7, hs, hc, hr => by
    obtain ⟨r1, r2, r3⟩ := hr
    obtain ⟨s1, s2⟩ := hs s List.mem_cons_self
    have sk : s[k]? = some (s.getD k 0) := by rw [List.getD_eq_getElem?_getD, List.getElem?_eq_getElem s1]; rfl
    have hq : Rok (s.getD k 0) := s2 _ (List.mem_of_getElem? sk)
    have e1 := product_of hm (hc c List.mem_cons_self).rok hq h
    rw [rt_int] at e1
    have e2 := sum_of hm r1 r2 h
    have e3 := idx_at (h := h) (xs := s.map rt) (i := k) (x := rt (s.getD k 0)) (by rw [List.getElem?_map, sk]; rfl)
    have body : exs ⟨callN T m, bs⟩ [x0, x1, some (.p (spt s)), d3, d4, some (.p (.int (k : Nat))), some (.p (rt a)), some (.p (.int c))] l_mean_spot_2 h =
        .next [x0, x1, some (.p (spt s)), d3, d4, some (.p (.int (k : Nat))), some (.p (rt (a + (c : Rat) * s.getD k 0))), some (.p (.int c))] h := by
      simp only [spt] at *
      simp [l_mean_spot_2, exs_cons, ex_set, ex_par, ex_unp, ex_seti, ex_expr, ex_ret, ex_if, ex_while, ex_for, ex_raise, ex_try, ex_frz, ev_bin, ev_neg, ev_cmp, ev_and, ev_or, ev_not, ev_ite, ev_tup, ev_lst, ev_idx, ev_slc00, ev_slc10, ev_slc01, ev_call, ev_callv, ev_comp, ev_blt, ev_meth, evs_cons, evI_seq, evI_rng, evI_zip, evT_and, evT_or, evT_not, evT_cmp, evT_call, evT_blt, evT_var, evT_idx, e3]
      simp at e1
      simp [e1]
      simp at e2
      simp [e2]
    obtain ⟨d2', d7', e⟩ := mean_inner hm (bs := bs) h x0 x1 d3 d4 k ss cs (a + (c : Rat) * s.getD k 0) (some (.p (spt s))) (some (.p (.int c))) (fun z hz => hs z (List.mem_cons_of_mem _ hz)) (fun z hz => hc z (List.mem_cons_of_mem _ hz)) r3
    refine ⟨d2', d7', ?_⟩
    rw [List.zipWith_cons_cons, for_step (ρ' := [x0, x1, some (.p (spt s)), d3, d4, some (.p (.int (k : Nat))), some (.p (rt a)), some (.p (.int c))]) rfl body, e]
    simp only [terms]
    rw [sum_cons]
theorem rt_inv {n : Int} (h : 1 ≤ n) : rt (n : Rat)⁻¹ = .tup [.int 1, .int n] := by
  have nz : (n : Rat).num ≠ 0 := by rw [Rat.num_intCast]; omega
  unfold rt
  rw [Rat.num_inv, Rat.den_inv, if_neg nz, Rat.num_intCast, Rat.den_intCast, Int.sign_eq_one_of_pos (by omega)]
  have : ((n.natAbs : Nat) : Int) = n := by omega
  rw [this]; rfl
theorem inv_rok {n : Int} (h : 1 ≤ n) (hn : Iok n) : Rok (n : Rat)⁻¹ := by
  have nz : (n : Rat).num ≠ 0 := by rw [Rat.num_intCast]; omega
  refine ⟨?_, ?_⟩
  · rw [Rat.num_inv, Rat.num_intCast, Rat.den_intCast, Int.sign_eq_one_of_pos (by omega)]
    exact Nat.one_lt_two_pow (by decide)
  · rw [Rat.den_inv, if_neg nz, Rat.num_intCast]
    exact hn
theorem zip_seqs {x y : P} {xs ys : List P} {h : Hea} (s : IsSeq x xs) (t : IsSeq y ys) : zip1 (.p x) (.p y) h = .ok (List.zipWith (fun x y => P.tup [x, y]) xs ys) h := by
  rcases s with rfl | rfl <;> rcases t with rfl | rfl <;> rfl
theorem mean_outer {m : Nat} (hm : 2 ≤ m) {bs : Nat} (h : Hea) {x y : P} {ss : List (List Rat)} {cs : List Int} (sx : IsSeq x (ss.map spt)) (sy : IsSeq y (cs.map P.int)) (many : Int) (hmany : 1 ≤ many) (hM : Iok many) (d : Nat)
    (hs : ∀ s ∈ ss, s.length = d ∧ ∀ q ∈ s, Rok q) (hc : ∀ c ∈ cs, Iok c) (hr : ∀ k, k < d → RunOk 0 (terms k ss cs)) : ∀ (ks : List Nat) (acc : List P) (d2 d5 d6 d7 : Option D), (∀ k ∈ ks, k < d) → acc.length + ks.length ≤ 1000 →
    ∃ d2' d5' d6' d7', runFor ⟨callN T m, bs⟩ (.one 5) l_mean_spot_3 (ks.map fun k => P.int (k : Nat)) [some (.p x), some (.p y), d2, some (.p (.int many)), some (.ref h.length), d5, d6, d7] (h ++ [some (acc.map D.p)]) =
      .next [some (.p x), some (.p y), d2', some (.p (.int many)), some (.ref h.length), d5', d6', d7'] (h ++ [some ((acc ++ ks.map fun k => rt ((terms k ss cs).sum * (many : Rat)⁻¹)).map D.p)])
  | [], acc, d2, d5, d6, d7, _, _ => ⟨d2, d5, d6, d7, by simp⟩
  | k :: ks, acc, d2, d5, d6, d7, hk, hl => by
    have hl' : acc.length + (ks.length + 1) ≤ 1000 := by simpa using hl
    have kd := hk k List.mem_cons_self
    obtain ⟨d2a, d7a, e1⟩ := mean_inner hm (bs := bs) (h ++ [some (acc.map D.p)]) (some (.p x)) (some (.p y)) (some (.p (.int many))) (some (.ref h.length)) k ss cs 0 d2 d7 (fun s hs' => ⟨by rw [(hs s hs').1]; exact kd, (hs s hs').2⟩) hc (hr k kd)
    rw [rt_zero, Rat.zero_add] at e1
    have rs : Rok (terms k ss cs).sum := by
      have : ∀ (ts : List Rat) (a : Rat), RunOk a ts → Rok (a + ts.sum) := by
        intro ts
        induction ts with
        | nil => intro a h; simpa [RunOk, Rat.add_zero] using h
        | cons t ts ih => intro a h; rw [sum_cons]; exact ih _ h.2.2
      have z := this _ _ (hr k kd)
      rwa [Rat.zero_add] at z
    have e2 := product_of hm rs (inv_rok hmany hM) (h ++ [some (acc.map D.p)])
    rw [rt_inv hmany] at e2
    have e5 := app_last (bs := bs) (h := h) (ds := acc.map D.p) (x := rt ((terms k ss cs).sum * (many : Rat)⁻¹)) (by rw [List.length_map]; exact Nat.lt_of_le_of_lt (by omega : acc.length ≤ 1000) (by decide))
    have z1 := zip_seqs (h := h ++ [some (acc.map D.p)]) sx sy
    rw [zip_pairs] at z1
    have body : exs ⟨callN T m, bs⟩ [some (.p x), some (.p y), d2, some (.p (.int many)), some (.ref h.length), some (.p (.int (k : Nat))), d6, d7] l_mean_spot_3 (h ++ [some (acc.map D.p)]) =
        .next [some (.p x), some (.p y), d2a, some (.p (.int many)), some (.ref h.length), some (.p (.int (k : Nat))), some (.p (rt (terms k ss cs).sum)), d7a] (h ++ [some ((acc ++ [rt ((terms k ss cs).sum * (many : Rat)⁻¹)]).map D.p)]) := by
      simp [l_mean_spot_3, exs_cons, ex_set, ex_par, ex_unp, ex_seti, ex_expr, ex_ret, ex_if, ex_while, ex_for, ex_raise, ex_try, ex_frz, ev_bin, ev_neg, ev_cmp, ev_and, ev_or, ev_not, ev_ite, ev_tup, ev_lst, ev_idx, ev_slc00, ev_slc10, ev_slc01, ev_call, ev_callv, ev_comp, ev_blt, ev_meth, evs_cons, evI_seq, evI_rng, evI_zip, evT_and, evT_or, evT_not, evT_cmp, evT_call, evT_blt, evT_var, evT_idx, z1, e1, e2, e5]
    obtain ⟨d2', d5', d6', d7', e⟩ := mean_outer hm (bs := bs) h sx sy many hmany hM d hs hc hr ks (acc ++ [rt ((terms k ss cs).sum * (many : Rat)⁻¹)]) d2a (some (.p (.int (k : Nat)))) (some (.p (rt (terms k ss cs).sum))) d7a (fun z hz => hk z (List.mem_cons_of_mem _ hz)) (by simp; omega)
    refine ⟨d2', d5', d6', d7', ?_⟩
    rw [List.map_cons, for_step (ρ' := [some (.p x), some (.p y), d2, some (.p (.int many)), some (.ref h.length), some (.p (.int (k : Nat))), d6, d7]) rfl body, e]
    simp
theorem sum_pos : ∀ {cs : List Int}, cs ≠ [] → (∀ c ∈ cs, 1 ≤ c) → 1 ≤ cs.sum
  | [c], _, h => by simpa using h c
  | c :: c2 :: cs, _, h => by
    have := sum_pos (cs := c2 :: cs) (by simp) fun z hz => h z (List.mem_cons_of_mem _ hz)
    have := h c List.mem_cons_self
    rw [List.sum_cons]
    omega
theorem mean_spot {n : Nat} (hn : 7 ≤ n) {x y : P} {ss : List (List Rat)} {cs : List Int} {d : Nat} (sx : IsSeq x (ss.map spt)) (sy : IsSeq y (cs.map P.int)) (hne : ss ≠ []) (hll : ss.length ≤ 1000) (h1 : 1 ≤ d) (h2 : d ≤ 3) (hl : cs.length = ss.length)
    (hs : ∀ s ∈ ss, s.length = d ∧ ∀ q ∈ s, Rok q) (hc : ∀ c ∈ cs, 1 ≤ c ∧ Iok c) (hM : Iok cs.sum) (hr : ∀ k, k < d → RunOk 0 (terms k ss cs)) (h : Hea) :
    callN T n i_mean_spot [.p x, .p y] h = .ok (.p (spt ((List.range d).map fun k => (terms k ss cs).sum * (cs.sum : Rat)⁻¹))) h := by
  obtain ⟨m, rfl⟩ : ∃ m, n = m + 1 := ⟨n - 1, by omega⟩
  cases ss with
  | nil => exact absurd rfl hne
  | cons s0 ss0 =>
  obtain ⟨g1, g2⟩ := hs s0 List.mem_cons_self
  have dspt : ∀ s ∈ s0 :: ss0, Dat (spt s) := fun s hs' => spt_dat (by rw [(hs s hs').1]; omega) (hs s hs').2
  have hdx : Dat x := sx.dat (by rw [List.length_map]; exact hll) fun z hz => by
    obtain ⟨s, hs', rfl⟩ := List.mem_map.mp hz
    exact dspt s hs'
  have hdy : Dat y := sy.dat (by rw [List.length_map, hl]; exact hll) fun z hz => by
    obtain ⟨c, hc', rfl⟩ := List.mem_map.mp hz
    exact (hc c hc').2.dat
  have c1 := is_seq (n := m) (by omega) hdx h
  rw [sx.isB] at c1
  have tl : tlen (spt s0) = (d : Int) := by simp [tlen, spt, g1]
  obtain ⟨d2, c2⟩ := mean_check (m := m) (by omega) (bs := h.length) h sx (dspt s0 List.mem_cons_self) (spt_ok (by omega) (by omega)) [none, none, none, none, none] (some (.p y)) ((s0 :: ss0).map spt) none fun z hz => by
    obtain ⟨s, hs', rfl⟩ := List.mem_map.mp hz
    exact ⟨dspt s hs', spt_are (by rw [tl, (hs s hs').1])⟩
  have cB : countsB y ((ss0.length : Int) + 1) = true := by
    have a1 : ((cs.map P.int).length : Int) = (ss0.length : Int) + 1 := by rw [List.length_map, hl]; simp
    have a2 : (cs.map P.int).all countB = true := List.all_eq_true.mpr fun z hz => by
      obtain ⟨c, hc', rfl⟩ := List.mem_map.mp hz
      exact decide_eq_true (hc c hc').1
    rcases sy with rfl | rfl
    · show (decide (_ = _) && _) = true
      rw [a2, decide_eq_true a1]; rfl
    · show (decide (_ = _) && _) = true
      rw [a2, decide_eq_true a1]; rfl
  have c3 := check_counts (n := m) (by omega) hdy _ cB h
  have csne : cs ≠ [] := fun z => by rw [z] at hl; simp at hl
  obtain ⟨e2, e5, e6, e7, e⟩ := mean_outer (m := m) (by omega) (bs := h.length) h sx sy cs.sum (sum_pos csne fun c hc' => (hc c hc').1) hM d hs (fun c hc' => (hc c hc').2) hr (List.range d) [] d2 none none none (fun k hk => List.mem_range.mp hk) (by simp; omega)
  have t := blt1_tuple_last (h := h) (xs := (List.range d).map fun k => rt ((terms k (s0 :: ss0) cs).sum * (cs.sum : Rat)⁻¹))
  have rg : rngL 0 (d : Int) = (List.range d).map fun k => P.int (k : Nat) := by
    unfold rngL
    simp
  have r1 : rng1 [.p (.int (d : Int))] (h ++ [some []]) = .ok ((List.range d).map fun k => P.int (k : Nat)) (h ++ [some []]) := by
    show (if (d : Int) ≤ (LIM : Nat) ∧ -((LIM : Nat) : Int) ≤ (d : Int) then R.ok (rngL 0 (d : Int)) (h ++ [some []]) else .stuck) = _
    have hL : ((LIM : Nat) : Int) = 1000000 := rfl
    rw [if_pos (by omega), rg]
  have lenx := sx.blen (h := h)
  have l0 : blt1 .len false [.p (spt s0)] (h ++ [some []]) = .ok (.p (.int (d : Int))) (h ++ [some []]) := by
    show R.ok (D.p (.int ((s0.map rt).length : Nat))) _ = _
    rw [List.length_map, g1]
  simp at lenx
  have c0 : ((ss0.length : Int) + 1 == 0) = false := by rw [eqd]; exact decide_eq_false (by omega)
  have s1 := sx.seq1 (h := h)
  simp only [List.map_cons] at c2 s1
  simp only [List.nil_append, List.map_nil] at e
  rw [call_eq (fd := f_mean_spot) rfl rfl]
  simp [f_mean_spot, b_mean_spot, startS, exs_cons, ex_set, ex_par, ex_unp, ex_seti, ex_expr, ex_ret, ex_if, ex_while, ex_for, ex_raise, ex_try, ex_frz, ev_bin, ev_neg, ev_cmp, ev_and, ev_or, ev_not, ev_ite, ev_tup, ev_lst, ev_idx, ev_slc00, ev_slc10, ev_slc01, ev_call, ev_callv, ev_comp, ev_blt, ev_meth, evs_cons, evI_seq, evI_rng, evI_zip, evT_and, evT_or, evT_not, evT_cmp, evT_call, evT_blt, evT_var, evT_idx, c1, lenx, c0, s1, c2, c3, sy.sum, IsSeq.idx0 sx, l0, r1, e]
  simp at t
  simp [t, spt]
theorem mean_bad {n : Nat} (hn : 7 ≤ n) {x : P} {y : D} (hx : Dat x) (hb : ∀ xs, IsSeq x xs → xs = [] ∨ ∃ x0 xr, xs = x0 :: xr ∧ ∃ z ∈ xs, spotB x0 = false ∨ areB ratioB z (tlen x0) = false) (h : Hea) : ∃ fs, callN T n i_mean_spot [.p x, y] h = .exn c_BadSpot fs h := by
  obtain ⟨m, rfl⟩ : ∃ m, n = m + 1 := ⟨n - 1, by omega⟩
  have c1 := is_seq (n := m) (by omega) hx h
  rw [call_eq (fd := f_mean_spot) rfl rfl]
  cases sb : seqB x with
  | false =>
    rw [sb] at c1
    simp [f_mean_spot, b_mean_spot, startS, exs_cons, ex_set, ex_par, ex_unp, ex_seti, ex_expr, ex_ret, ex_if, ex_while, ex_for, ex_raise, ex_try, ex_frz, ev_bin, ev_neg, ev_cmp, ev_and, ev_or, ev_not, ev_ite, ev_tup, ev_lst, ev_idx, ev_slc00, ev_slc10, ev_slc01, ev_call, ev_callv, ev_comp, ev_blt, ev_meth, evs_cons, evI_seq, evI_rng, evI_zip, evT_and, evT_or, evT_not, evT_cmp, evT_call, evT_blt, evT_var, evT_idx, c1]
  | true =>
    rw [sb] at c1
    obtain ⟨xs, s, hl, hd⟩ := seq_of hx sb
    rcases hb xs s with rfl | ⟨x0, xr, rfl, hz⟩
    · simp [f_mean_spot, b_mean_spot, startS, exs_cons, ex_set, ex_par, ex_unp, ex_seti, ex_expr, ex_ret, ex_if, ex_while, ex_for, ex_raise, ex_try, ex_frz, ev_bin, ev_neg, ev_cmp, ev_and, ev_or, ev_not, ev_ite, ev_tup, ev_lst, ev_idx, ev_slc00, ev_slc10, ev_slc01, ev_call, ev_callv, ev_comp, ev_blt, ev_meth, evs_cons, evI_seq, evI_rng, evI_zip, evT_and, evT_or, evT_not, evT_cmp, evT_call, evT_blt, evT_var, evT_idx, c1, s.blen]
    · obtain ⟨fs, ρ, e⟩ := mean_check_bad (m := m) (by omega) (bs := h.length) h s (hd x0 List.mem_cons_self) [none, none, none, none, none] (some y) (x0 :: xr) none hd hz
      have lenx := s.blen (h := h)
      simp at lenx
      have c0 : ((xr.length : Int) + 1 == 0) = false := by rw [eqd]; exact decide_eq_false (by omega)
      exact ⟨fs, by simp [f_mean_spot, b_mean_spot, startS, exs_cons, ex_set, ex_par, ex_unp, ex_seti, ex_expr, ex_ret, ex_if, ex_while, ex_for, ex_raise, ex_try, ex_frz, ev_bin, ev_neg, ev_cmp, ev_and, ev_or, ev_not, ev_ite, ev_tup, ev_lst, ev_idx, ev_slc00, ev_slc10, ev_slc01, ev_call, ev_callv, ev_comp, ev_blt, ev_meth, evs_cons, evI_seq, evI_rng, evI_zip, evT_and, evT_or, evT_not, evT_cmp, evT_call, evT_blt, evT_var, evT_idx, c1, lenx, c0, s.seq1, e]⟩
theorem mean_bad2 {n : Nat} (hn : 7 ≤ n) {x y : P} {ss : List (List Rat)} {d : Nat} (sx : IsSeq x (ss.map spt)) (hne : ss ≠ []) (hll : ss.length ≤ 1000) (h1 : 1 ≤ d) (h2 : d ≤ 3) (hs : ∀ s ∈ ss, s.length = d ∧ ∀ q ∈ s, Rok q) (hy : Dat y) (hb : countsB y ss.length = false) (h : Hea) :
    ∃ fs, callN T n i_mean_spot [.p x, .p y] h = .exn c_BadNumber fs h := by
  obtain ⟨m, rfl⟩ : ∃ m, n = m + 1 := ⟨n - 1, by omega⟩
  cases ss with
  | nil => exact absurd rfl hne
  | cons s0 ss0 =>
  obtain ⟨g1, g2⟩ := hs s0 List.mem_cons_self
  have dspt : ∀ s ∈ s0 :: ss0, Dat (spt s) := fun s hs' => spt_dat (by rw [(hs s hs').1]; omega) (hs s hs').2
  have hdx : Dat x := sx.dat (by rw [List.length_map]; exact hll) fun z hz => by
    obtain ⟨s, hs', rfl⟩ := List.mem_map.mp hz
    exact dspt s hs'
  have c1 := is_seq (n := m) (by omega) hdx h
  rw [sx.isB] at c1
  have tl : tlen (spt s0) = (d : Int) := by simp [tlen, spt, g1]
  obtain ⟨d2, c2⟩ := mean_check (m := m) (by omega) (bs := h.length) h sx (dspt s0 List.mem_cons_self) (spt_ok (by omega) (by omega)) [none, none, none, none, none] (some (.p y)) ((s0 :: ss0).map spt) none fun z hz => by
    obtain ⟨s, hs', rfl⟩ := List.mem_map.mp hz
    exact ⟨dspt s hs', spt_are (by rw [tl, (hs s hs').1])⟩
  simp only [List.length_cons, Int.natCast_add] at hb
  obtain ⟨fs, c3⟩ := check_counts_bad (n := m) (by omega) hy _ hb h
  have lenx := sx.blen (h := h)
  simp at lenx
  have c0 : ((ss0.length : Int) + 1 == 0) = false := by rw [eqd]; exact decide_eq_false (by omega)
  have s1 := sx.seq1 (h := h)
  simp only [List.map_cons] at c2 s1
  rw [call_eq (fd := f_mean_spot) rfl rfl]
  simp at c3
  exact ⟨fs, by simp [f_mean_spot, b_mean_spot, startS, exs_cons, ex_set, ex_par, ex_unp, ex_seti, ex_expr, ex_ret, ex_if, ex_while, ex_for, ex_raise, ex_try, ex_frz, ev_bin, ev_neg, ev_cmp, ev_and, ev_or, ev_not, ev_ite, ev_tup, ev_lst, ev_idx, ev_slc00, ev_slc10, ev_slc01, ev_call, ev_callv, ev_comp, ev_blt, ev_meth, evs_cons, evI_seq, evI_rng, evI_zip, evT_and, evT_or, evT_not, evT_cmp, evT_call, evT_blt, evT_var, evT_idx, c1, lenx, c0, s1, c2, c3]⟩
end K15

set_option linter.all false
set_option maxRecDepth 100000
set_option maxHeartbeats 1000000
namespace K15
open Mp
theorem comb_check {m : Nat} (hm : 4 ≤ m) {bs : Nat} (h : Hea) {x y0 : P} {ys0 : List P} (s : IsSeq x (y0 :: ys0)) (h0 : Dat y0) (hs0 : formB y0 = true) (r : List (Option D)) (x1 : Option D) : ∀ (ys : List P) (d2 : Option D), (∀ y ∈ ys, Dat y ∧ areB wholeB y (tlen y0) = true) →
    ∃ d2', runFor ⟨callN T m, bs⟩ (.one 2) l_combine_1 ys (some (.p x) :: x1 :: d2 :: r) h = .next (some (.p x) :: x1 :: d2' :: r) h
  | [], d2, _ => ⟨d2, by simp⟩
  | y :: ys, d2, hy => by
    obtain ⟨g1, g2⟩ := hy y List.mem_cons_self
    have e := check_forms hm h0 g1 hs0 g2 h
    have body : exs ⟨callN T m, bs⟩ (some (.p x) :: x1 :: some (.p y) :: r) l_combine_1 h = .next (some (.p x) :: x1 :: some (.p y) :: r) h := by
      simp [l_combine_1, exs_cons, ex_set, ex_par, ex_unp, ex_seti, ex_expr, ex_ret, ex_if, ex_while, ex_for, ex_raise, ex_try, ex_frz, ev_bin, ev_neg, ev_cmp, ev_and, ev_or, ev_not, ev_ite, ev_tup, ev_lst, ev_idx, ev_slc00, ev_slc10, ev_slc01, ev_call, ev_callv, ev_comp, ev_blt, ev_meth, evs_cons, evI_seq, evI_rng, evI_zip, evT_and, evT_or, evT_not, evT_cmp, evT_call, evT_blt, evT_var, evT_idx, s.idx0, e]
    obtain ⟨d2', e2⟩ := comb_check hm (bs := bs) h s h0 hs0 r x1 ys (some (.p y)) fun z hz => hy z (List.mem_cons_of_mem _ hz)
    exact ⟨d2', by rw [for_step (ρ' := some (.p x) :: x1 :: some (.p y) :: r) rfl body, e2]⟩
theorem comb_check_bad {m : Nat} (hm : 4 ≤ m) {bs : Nat} (h : Hea) {x y0 : P} {ys0 : List P} (s : IsSeq x (y0 :: ys0)) (h0 : Dat y0) (r : List (Option D)) (x1 : Option D) : ∀ (ys : List P) (d2 : Option D), (∀ y ∈ ys, Dat y) → (∃ y ∈ ys, formB y0 = false ∨ areB wholeB y (tlen y0) = false) →
    ∃ fs ρ, runFor ⟨callN T m, bs⟩ (.one 2) l_combine_1 ys (some (.p x) :: x1 :: d2 :: r) h = .exn c_BadForm fs ρ h
  | [], d2, _, ⟨_, hy, _⟩ => by cases hy
  | y :: ys, d2, hy, hb => by
    have g1 := hy y List.mem_cons_self
    by_cases c : formB y0 = false ∨ areB wholeB y (tlen y0) = false
    · obtain ⟨fs, e⟩ := check_forms_bad hm h0 g1 c h
      have body : exs ⟨callN T m, bs⟩ (some (.p x) :: x1 :: some (.p y) :: r) l_combine_1 h = .exn c_BadForm fs (some (.p x) :: x1 :: some (.p y) :: r) h := by
        simp [l_combine_1, exs_cons, ex_set, ex_par, ex_unp, ex_seti, ex_expr, ex_ret, ex_if, ex_while, ex_for, ex_raise, ex_try, ex_frz, ev_bin, ev_neg, ev_cmp, ev_and, ev_or, ev_not, ev_ite, ev_tup, ev_lst, ev_idx, ev_slc00, ev_slc10, ev_slc01, ev_call, ev_callv, ev_comp, ev_blt, ev_meth, evs_cons, evI_seq, evI_rng, evI_zip, evT_and, evT_or, evT_not, evT_cmp, evT_call, evT_blt, evT_var, evT_idx, s.idx0, e]
      exact ⟨fs, _, for_exn (ρ' := some (.p x) :: x1 :: some (.p y) :: r) rfl body⟩
    · have c1 : formB y0 = true := by
        cases q : formB y0 with
        | true => rfl
        | false => exact absurd (.inl q) c
      have c2 : areB wholeB y (tlen y0) = true := by
        cases q : areB wholeB y (tlen y0) with
        | true => rfl
        | false => exact absurd (.inr q) c
      have e := check_forms hm h0 g1 c1 c2 h
      have body : exs ⟨callN T m, bs⟩ (some (.p x) :: x1 :: some (.p y) :: r) l_combine_1 h = .next (some (.p x) :: x1 :: some (.p y) :: r) h := by
        simp [l_combine_1, exs_cons, ex_set, ex_par, ex_unp, ex_seti, ex_expr, ex_ret, ex_if, ex_while, ex_for, ex_raise, ex_try, ex_frz, ev_bin, ev_neg, ev_cmp, ev_and, ev_or, ev_not, ev_ite, ev_tup, ev_lst, ev_idx, ev_slc00, ev_slc10, ev_slc01, ev_call, ev_callv, ev_comp, ev_blt, ev_meth, evs_cons, evI_seq, evI_rng, evI_zip, evT_and, evT_or, evT_not, evT_cmp, evT_call, evT_blt, evT_var, evT_idx, s.idx0, e]
      have hb' : ∃ z ∈ ys, formB y0 = false ∨ areB wholeB z (tlen y0) = false := by
        obtain ⟨z, hz, q⟩ := hb
        rcases List.mem_cons.mp hz with w | w
        · rw [w] at q; exact absurd q c
        · exact ⟨z, w, q⟩
      obtain ⟨fs, ρ, e2⟩ := comb_check_bad hm (bs := bs) h s h0 r x1 ys (some (.p y)) (fun z hz => hy z (List.mem_cons_of_mem _ hz)) hb'
      exact ⟨fs, ρ, by rw [for_step (ρ' := some (.p x) :: x1 :: some (.p y) :: r) rfl body, e2]⟩
/-- multiples added up -/
def comb : List Int → List (List Int) → List Int → List Int
  | acc, f :: fs, n :: ns => comb (List.zipWith (fun e p => e + p * n) acc f) fs ns
  | acc, _, _ => acc
def pairG (n : Int) : P → P
  | .tup [.int e, .int p] => .int (e + p * n)
  | x => x
theorem zipW_mem {α β γ : Type} {f : α → β → γ} : ∀ {xs : List α} {ys : List β} {z : γ}, z ∈ List.zipWith f xs ys → ∃ x y, x ∈ xs ∧ y ∈ ys ∧ z = f x y
  | [], ys, z, h => by simp at h
  | x :: xs, [], z, h => by simp at h
  | x :: xs, y :: ys, z, h => by
    rw [List.zipWith_cons_cons] at h
    rcases List.mem_cons.mp h with w | w
    · exact ⟨x, y, List.mem_cons_self, List.mem_cons_self, w⟩
    · obtain ⟨a, b, h1, h2, h3⟩ := zipW_mem w
      exact ⟨a, b, List.mem_cons_of_mem _ h1, List.mem_cons_of_mem _ h2, h3⟩
theorem comb_loop {m bs : Nat} (h : Hea) (x0 x1 : Option D) : ∀ (fs : List (List Int)) (ns : List Int) (acc : List Int) (d2 d4 : Option D), acc.length ≤ 1000 → (∀ f ∈ fs, ∀ i ∈ f, Iok i) → (∀ n ∈ ns, Iok n) →
    ∃ d2' d4', runFor ⟨callN T m, bs⟩ (.many [2, 4]) l_combine_2 (List.zipWith (fun f n => P.tup [frm f, .int n]) fs ns) [x0, x1, d2, some (.p (.lst (acc.map P.int))), d4, none, none] h =
      .next [x0, x1, d2', some (.p (.lst ((comb acc fs ns).map P.int))), d4', none, none] h
  | [], ns, acc, d2, d4, _, _, _ => ⟨d2, d4, by simp [comb]⟩
  | f :: fs, [], acc, d2, d4, _, _, _ => ⟨d2, d4, by simp [comb]⟩
  | f :: fs, n :: ns, acc, d2, d4, ha, hf, hn => by
    have z1 := zip_seqs (h := h) (x := .lst (acc.map P.int)) (y := frm f) (.inl rfl) (.inr rfl)
    rw [zip_pairs] at z1
    have hc : runComp ⟨callN T m, bs⟩ [x0, x1, some (.p (frm f)), some (.p (.lst (acc.map P.int))), some (.p (.int n)), none, none] [5, 6] (.many [5, 6]) .nil e_combine_2 (List.zipWith (fun e p => P.tup [.int e, .int p]) acc f) h = .ok ((List.zipWith (fun e p => P.tup [.int e, .int p]) acc f).map fun x => .p (pairG n x)) h :=
      comp_of (f := pairG n) fun z hz => by
        obtain ⟨e, p, h1, h2, rfl⟩ := zipW_mem hz
        have mo : mulOk p n = true := mulOk_of (small (hf f List.mem_cons_self p h2) (by decide)) (small (hn n List.mem_cons_self) (by decide))
        refine ⟨[x0, x1, some (.p (frm f)), some (.p (.lst (acc.map P.int))), some (.p (.int n)), some (.p (.int e)), some (.p (.int p))], rfl, ?_⟩
        simp [e_combine_2, exs_cons, ex_set, ex_par, ex_unp, ex_seti, ex_expr, ex_ret, ex_if, ex_while, ex_for, ex_raise, ex_try, ex_frz, ev_bin, ev_neg, ev_cmp, ev_and, ev_or, ev_not, ev_ite, ev_tup, ev_lst, ev_idx, ev_slc00, ev_slc10, ev_slc01, ev_call, ev_callv, ev_comp, ev_blt, ev_meth, evs_cons, evI_seq, evI_rng, evI_zip, evT_and, evT_or, evT_not, evT_cmp, evT_call, evT_blt, evT_var, evT_idx, bin2_mul mo, pairG]
    have mm := mk_map (h := h) (f := pairG n) (xs := List.zipWith (fun e p => P.tup [.int e, .int p]) acc f) (lim1000 (by simp; omega))
    have ee : (List.zipWith (fun e p => P.tup [.int e, .int p]) acc f).map (pairG n) = (List.zipWith (fun e p => e + p * n) acc f).map P.int := by
      rw [List.map_zipWith, List.map_zipWith]
      rfl
    rw [ee] at mm
    have body : exs ⟨callN T m, bs⟩ [x0, x1, some (.p (frm f)), some (.p (.lst (acc.map P.int))), some (.p (.int n)), none, none] l_combine_2 h = .next [x0, x1, some (.p (frm f)), some (.p (.lst ((List.zipWith (fun e p => e + p * n) acc f).map P.int))), some (.p (.int n)), none, none] h := by
      simp [-List.map_zipWith, l_combine_2, exs_cons, ex_set, ex_par, ex_unp, ex_seti, ex_expr, ex_ret, ex_if, ex_while, ex_for, ex_raise, ex_try, ex_frz, ev_bin, ev_neg, ev_cmp, ev_and, ev_or, ev_not, ev_ite, ev_tup, ev_lst, ev_idx, ev_slc00, ev_slc10, ev_slc01, ev_call, ev_callv, ev_comp, ev_blt, ev_meth, evs_cons, evI_seq, evI_rng, evI_zip, evT_and, evT_or, evT_not, evT_cmp, evT_call, evT_blt, evT_var, evT_idx, z1, hc, mm]
    obtain ⟨d2', d4', e⟩ := comb_loop (m := m) (bs := bs) h x0 x1 fs ns (List.zipWith (fun e p => e + p * n) acc f) (some (.p (frm f))) (some (.p (.int n))) (by simp; omega) (fun g hg => hf g (List.mem_cons_of_mem _ hg)) (fun g hg => hn g (List.mem_cons_of_mem _ hg))
    refine ⟨d2', d4', ?_⟩
    rw [List.zipWith_cons_cons, for_step (ρ' := [x0, x1, some (.p (frm f)), some (.p (.lst (acc.map P.int))), some (.p (.int n)), none, none]) rfl body, e]
    rfl
theorem whole_comp {m : Nat} (hm : 1 ≤ m) {bs : Nat} {h : Hea} {a b c d e f g : Option D} {xs : List P} (hd : ∀ y ∈ xs, Dat y) : runComp ⟨callN T m, bs⟩ [a, b, c, d, none, f, g] [4] (.one 4) .nil e_combine_1 xs h = .ok (xs.map fun x => .p (.bl (wholeB x))) h :=
  comp_one (f := fun x => .bl (wholeB x)) fun x hx' => by
    have e := whole (n := m) hm (hd x hx') h
    simp [e_combine_1, exs_cons, ex_set, ex_par, ex_unp, ex_seti, ex_expr, ex_ret, ex_if, ex_while, ex_for, ex_raise, ex_try, ex_frz, ev_bin, ev_neg, ev_cmp, ev_and, ev_or, ev_not, ev_ite, ev_tup, ev_lst, ev_idx, ev_slc00, ev_slc10, ev_slc01, ev_call, ev_callv, ev_comp, ev_blt, ev_meth, evs_cons, evI_seq, evI_rng, evI_zip, evT_and, evT_or, evT_not, evT_cmp, evT_call, evT_blt, evT_var, evT_idx, wipe, e]
theorem mul_zeros {n : Nat} {h : Hea} (hn : n ≤ 1000) : bin2 .mul (.p (.lst [.int 0])) (.p (.int (n : Nat))) h = .ok (.p (.lst ((List.replicate n (0 : Int)).map P.int))) h := by
  have e1 : binP .mul (.lst [.int 0]) (.int (n : Nat)) = some (.lst ((List.replicate n (0 : Int)).map P.int)) := by
    show (if ((n : Nat) : Int).toNat ≤ LIM ∧ -((LIM : Nat) : Int) ≤ ((n : Nat) : Int) ∧ [P.int 0].length * ((n : Nat) : Int).toNat ≤ LIM then some (P.lst (List.replicate ((n : Nat) : Int).toNat [P.int 0]).flatten) else none) = _
    have hL : LIM = 1000000 := rfl
    rw [Int.toNat_natCast, if_pos ⟨by omega, by omega, by simp; omega⟩]
    congr 2
    rw [List.map_replicate]
    induction n with
    | zero => rfl
    | succ n ih => rw [List.replicate_succ, List.replicate_succ, List.flatten_cons, ih (by omega)]; rfl
  show R.ofO ((binP .mul (.lst [.int 0]) (.int (n : Nat))).map D.p) h = _
  rw [e1]; rfl
theorem combine {n : Nat} (hn : 7 ≤ n) {x y : P} {fs : List (List Int)} {ns : List Int} {d : Nat} (sx : IsSeq x (fs.map frm)) (sy : IsSeq y (ns.map P.int)) (hne : fs ≠ []) (hll : fs.length ≤ 1000) (h1 : 2 ≤ d) (h2 : d ≤ 4) (hl : ns.length = fs.length)
    (hs : ∀ f ∈ fs, f.length = d ∧ ∀ i ∈ f, Iok i) (hc : ∀ c ∈ ns, Iok c) (h : Hea) : callN T n i_combine [.p x, .p y] h = .ok (.p (frm (comb (List.replicate d 0) fs ns))) h := by
  obtain ⟨m, rfl⟩ : ∃ m, n = m + 1 := ⟨n - 1, by omega⟩
  cases fs with
  | nil => exact absurd rfl hne
  | cons f0 fs0 =>
  obtain ⟨g1, g2⟩ := hs f0 List.mem_cons_self
  have dfrm : ∀ f ∈ f0 :: fs0, Dat (frm f) := fun f hf => frm_dat (by rw [(hs f hf).1]; omega) (hs f hf).2
  have hdx : Dat x := sx.dat (by rw [List.length_map]; exact hll) fun z hz => by
    obtain ⟨s, hs', rfl⟩ := List.mem_map.mp hz
    exact dfrm s hs'
  have hin : ∀ z ∈ ns.map P.int, Dat z := fun z hz => by
    obtain ⟨c, hc', rfl⟩ := List.mem_map.mp hz
    exact (hc c hc').dat
  have hdy : Dat y := sy.dat (by rw [List.length_map, hl]; exact hll) hin
  have c1 := is_seq (n := m) (by omega) hdx h
  rw [sx.isB] at c1
  have c1y := is_seq (n := m) (by omega) hdy h
  rw [sy.isB] at c1y
  have tl : tlen (frm f0) = (d : Int) := by simp [tlen, frm, g1]
  obtain ⟨d2, c2⟩ := comb_check (m := m) (by omega) (bs := h.length) h sx (dfrm f0 List.mem_cons_self) (frm_ok (by omega) (by omega)) [none, none, none, none] (some (.p y)) ((f0 :: fs0).map frm) none fun z hz => by
    obtain ⟨s, hs', rfl⟩ := List.mem_map.mp hz
    exact ⟨dfrm s hs', frm_are (by rw [tl, (hs s hs').1])⟩
  have lenx := sx.blen (h := h)
  have leny := sy.blen (h := h)
  rw [List.length_map, hl] at leny
  have wc := whole_comp (m := m) (by omega) (bs := h.length) (h := h) (a := some (.p x)) (b := some (.p y)) (c := d2) (d := none) (e := none) (f := none) (g := none) hin
  have l0 : blt1 .len false [.p (frm f0)] h = .ok (.p (.int (d : Int))) h := by
    show R.ok (D.p (.int ((f0.map P.int).length : Nat))) _ = _
    rw [List.length_map, g1]
  have z1 := zip_seqs (h := h) sx sy
  rw [zip_pairs] at z1
  obtain ⟨e2, e4, e⟩ := comb_loop (m := m) (bs := h.length) h (some (.p x)) (some (.p y)) (f0 :: fs0) ns (List.replicate d 0) d2 none (by simp; omega) (fun f hf => (hs f hf).2) hc
  have aw : (ns.map P.int).all wholeB = true := all_int
  have mw := mk_map (h := h) (f := fun x => P.bl (wholeB x)) (xs := ns.map P.int) (lim1000 (by rw [List.length_map, hl]; exact hll))
  have aa := blt1_all (h := h) (f := wholeB) (xs := ns.map P.int)
  rw [aw] at aa
  simp at lenx leny
  have c0 : ((fs0.length : Int) + 1 == 0) = false := by rw [eqd]; exact decide_eq_false (by omega)
  have s1 := sx.seq1 (h := h)
  simp only [List.map_cons] at c2 s1
  have sy1 := sy.seq1 (h := h)
  have mz := mul_zeros (n := d) (h := h) (by omega)
  rw [call_eq (fd := f_combine) rfl rfl]
  have mk0 : mk false [D.p (P.int 0)] h = .ok (.p (.lst [.int 0])) h := rfl
  have i0 := IsSeq.idx0 (h := h) sx
  simp [-List.map_map, -List.map_replicate, f_combine, b_combine, startS, exs_cons, ex_set, ex_par, ex_unp, ex_seti, ex_expr, ex_ret, ex_if, ex_while, ex_for, ex_raise, ex_try, ex_frz, ev_bin, ev_neg, ev_cmp, ev_and, ev_or, ev_not, ev_ite, ev_tup, ev_lst, ev_idx, ev_slc00, ev_slc10, ev_slc01, ev_call, ev_callv, ev_comp, ev_blt, ev_meth, evs_cons, evI_seq, evI_rng, evI_zip, evT_and, evT_or, evT_not, evT_cmp, evT_call, evT_blt, evT_var, evT_idx, c1, lenx, c0, s1, c2, c1y, leny, sy1, wc, mw, aa, mk0, i0, l0, mz, z1, e]
  all_goals rfl
theorem combine_bad {n : Nat} (hn : 7 ≤ n) {x : P} {y : D} (hx : Dat x) (hb : ∀ xs, IsSeq x xs → xs = [] ∨ ∃ x0 xr, xs = x0 :: xr ∧ ∃ z ∈ xs, formB x0 = false ∨ areB wholeB z (tlen x0) = false) (h : Hea) : ∃ fs, callN T n i_combine [.p x, y] h = .exn c_BadForm fs h := by
  obtain ⟨m, rfl⟩ : ∃ m, n = m + 1 := ⟨n - 1, by omega⟩
  have c1 := is_seq (n := m) (by omega) hx h
  rw [call_eq (fd := f_combine) rfl rfl]
  cases sb : seqB x with
  | false =>
    rw [sb] at c1
    simp [f_combine, b_combine, startS, exs_cons, ex_set, ex_par, ex_unp, ex_seti, ex_expr, ex_ret, ex_if, ex_while, ex_for, ex_raise, ex_try, ex_frz, ev_bin, ev_neg, ev_cmp, ev_and, ev_or, ev_not, ev_ite, ev_tup, ev_lst, ev_idx, ev_slc00, ev_slc10, ev_slc01, ev_call, ev_callv, ev_comp, ev_blt, ev_meth, evs_cons, evI_seq, evI_rng, evI_zip, evT_and, evT_or, evT_not, evT_cmp, evT_call, evT_blt, evT_var, evT_idx, c1]
  | true =>
    rw [sb] at c1
    obtain ⟨xs, s, hl, hd⟩ := seq_of hx sb
    rcases hb xs s with rfl | ⟨x0, xr, rfl, hz⟩
    · simp [f_combine, b_combine, startS, exs_cons, ex_set, ex_par, ex_unp, ex_seti, ex_expr, ex_ret, ex_if, ex_while, ex_for, ex_raise, ex_try, ex_frz, ev_bin, ev_neg, ev_cmp, ev_and, ev_or, ev_not, ev_ite, ev_tup, ev_lst, ev_idx, ev_slc00, ev_slc10, ev_slc01, ev_call, ev_callv, ev_comp, ev_blt, ev_meth, evs_cons, evI_seq, evI_rng, evI_zip, evT_and, evT_or, evT_not, evT_cmp, evT_call, evT_blt, evT_var, evT_idx, c1, s.blen]
    · obtain ⟨fs, ρ, e⟩ := comb_check_bad (m := m) (by omega) (bs := h.length) h s (hd x0 List.mem_cons_self) [none, none, none, none] (some y) (x0 :: xr) none hd hz
      have lenx := s.blen (h := h)
      simp at lenx
      have c0 : ((xr.length : Int) + 1 == 0) = false := by rw [eqd]; exact decide_eq_false (by omega)
      exact ⟨fs, by simp [f_combine, b_combine, startS, exs_cons, ex_set, ex_par, ex_unp, ex_seti, ex_expr, ex_ret, ex_if, ex_while, ex_for, ex_raise, ex_try, ex_frz, ev_bin, ev_neg, ev_cmp, ev_and, ev_or, ev_not, ev_ite, ev_tup, ev_lst, ev_idx, ev_slc00, ev_slc10, ev_slc01, ev_call, ev_callv, ev_comp, ev_blt, ev_meth, evs_cons, evI_seq, evI_rng, evI_zip, evT_and, evT_or, evT_not, evT_cmp, evT_call, evT_blt, evT_var, evT_idx, c1, lenx, c0, s.seq1, e]⟩
def numsB (x : P) (d : Int) : Bool := match x with
  | .tup xs => decide ((xs.length : Int) = d) && xs.all wholeB
  | .lst xs => decide ((xs.length : Int) = d) && xs.all wholeB
  | _ => false
theorem combine_bad2 {n : Nat} (hn : 7 ≤ n) {x y : P} {fs : List (List Int)} {d : Nat} (sx : IsSeq x (fs.map frm)) (hne : fs ≠ []) (hll : fs.length ≤ 1000) (h1 : 2 ≤ d) (h2 : d ≤ 4)
    (hs : ∀ f ∈ fs, f.length = d ∧ ∀ i ∈ f, Iok i) (hy : Dat y) (hb : numsB y fs.length = false) (h : Hea) : ∃ gs, callN T n i_combine [.p x, .p y] h = .exn c_BadNumber gs h := by
  obtain ⟨m, rfl⟩ : ∃ m, n = m + 1 := ⟨n - 1, by omega⟩
  cases fs with
  | nil => exact absurd rfl hne
  | cons f0 fs0 =>
  obtain ⟨g1, g2⟩ := hs f0 List.mem_cons_self
  have dfrm : ∀ f ∈ f0 :: fs0, Dat (frm f) := fun f hf => frm_dat (by rw [(hs f hf).1]; omega) (hs f hf).2
  have hdx : Dat x := sx.dat (by rw [List.length_map]; exact hll) fun z hz => by
    obtain ⟨s, hs', rfl⟩ := List.mem_map.mp hz
    exact dfrm s hs'
  have c1 := is_seq (n := m) (by omega) hdx h
  rw [sx.isB] at c1
  have c1y := is_seq (n := m) (by omega) hy h
  have tl : tlen (frm f0) = (d : Int) := by simp [tlen, frm, g1]
  obtain ⟨d2, c2⟩ := comb_check (m := m) (by omega) (bs := h.length) h sx (dfrm f0 List.mem_cons_self) (frm_ok (by omega) (by omega)) [none, none, none, none] (some (.p y)) ((f0 :: fs0).map frm) none fun z hz => by
    obtain ⟨s, hs', rfl⟩ := List.mem_map.mp hz
    exact ⟨dfrm s hs', frm_are (by rw [tl, (hs s hs').1])⟩
  have lenx := sx.blen (h := h)
  simp at lenx
  have c0 : ((fs0.length : Int) + 1 == 0) = false := by rw [eqd]; exact decide_eq_false (by omega)
  have s1 := sx.seq1 (h := h)
  simp only [List.map_cons] at c2 s1
  simp only [List.length_cons, Int.natCast_add] at hb
  rw [call_eq (fd := f_combine) rfl rfl]
  cases sb : seqB y with
  | false =>
    rw [sb] at c1y
    simp [f_combine, b_combine, startS, exs_cons, ex_set, ex_par, ex_unp, ex_seti, ex_expr, ex_ret, ex_if, ex_while, ex_for, ex_raise, ex_try, ex_frz, ev_bin, ev_neg, ev_cmp, ev_and, ev_or, ev_not, ev_ite, ev_tup, ev_lst, ev_idx, ev_slc00, ev_slc10, ev_slc01, ev_call, ev_callv, ev_comp, ev_blt, ev_meth, evs_cons, evI_seq, evI_rng, evI_zip, evT_and, evT_or, evT_not, evT_cmp, evT_call, evT_blt, evT_var, evT_idx, c1, lenx, c0, s1, c2, c1y]
  | true =>
    rw [sb] at c1y
    obtain ⟨ys, s, hl, hd⟩ := seq_of hy sb
    have wc := whole_comp (m := m) (by omega) (bs := h.length) (h := h) (a := some (.p x)) (b := some (.p y)) (c := d2) (d := none) (e := none) (f := none) (g := none) hd
    by_cases c : (ys.length : Int) = (fs0.length : Int) + 1
    · have aw : ys.all wholeB = false := by
        rcases s with rfl | rfl
        · simpa [numsB, c] using hb
        · simpa [numsB, c] using hb
      have mw := mk_map (h := h) (f := fun x => P.bl (wholeB x)) (xs := ys) (lim1000 hl)
      have aa := blt1_all (h := h) (f := wholeB) (xs := ys)
      rw [aw] at aa
      simp [f_combine, b_combine, startS, exs_cons, ex_set, ex_par, ex_unp, ex_seti, ex_expr, ex_ret, ex_if, ex_while, ex_for, ex_raise, ex_try, ex_frz, ev_bin, ev_neg, ev_cmp, ev_and, ev_or, ev_not, ev_ite, ev_tup, ev_lst, ev_idx, ev_slc00, ev_slc10, ev_slc01, ev_call, ev_callv, ev_comp, ev_blt, ev_meth, evs_cons, evI_seq, evI_rng, evI_zip, evT_and, evT_or, evT_not, evT_cmp, evT_call, evT_blt, evT_var, evT_idx, c1, lenx, c0, s1, c2, c1y, s.blen, s.seq1, c, wc, mw, aa]
    · simp [f_combine, b_combine, startS, exs_cons, ex_set, ex_par, ex_unp, ex_seti, ex_expr, ex_ret, ex_if, ex_while, ex_for, ex_raise, ex_try, ex_frz, ev_bin, ev_neg, ev_cmp, ev_and, ev_or, ev_not, ev_ite, ev_tup, ev_lst, ev_idx, ev_slc00, ev_slc10, ev_slc01, ev_call, ev_callv, ev_comp, ev_blt, ev_meth, evs_cons, evI_seq, evI_rng, evI_zip, evT_and, evT_or, evT_not, evT_cmp, evT_call, evT_blt, evT_var, evT_idx, c1, lenx, c0, s1, c2, c1y, s.blen, c]
end K15

set_option linter.all false
set_option maxRecDepth 100000
set_option maxHeartbeats 1000000
set_option exponentiation.threshold 500
namespace K15
open Mp
theorem small' {a n m : Nat} (h : a < 2 ^ n) (l : n ≤ m) : a < 2 ^ m := Nat.lt_of_lt_of_le h (Nat.pow_le_pow_right (by decide) l)
theorem log2_le' {a n : Nat} (h : a < 2 ^ n) : a.log2 ≤ n := by
  rcases Nat.eq_zero_or_pos a with z | z
  · rw [z]; simp
  · exact Nat.le_of_lt ((Nat.log2_lt (by omega)).mpr h)
theorem mulOk_of' {i j : Int} (h1 : i.natAbs < 2 ^ 400000) (h2 : j.natAbs < 2 ^ 400000) : mulOk i j = true := by
  unfold mulOk
  have := log2_le' h1
  have := log2_le' h2
  exact decide_eq_true (by omega)
theorem lt64 {i : Int} (h : i.natAbs < 2 ^ 64) : i.natAbs < 2 ^ 400000 := small' h (by decide)
theorem mod64 {a m : Int} (h0 : 0 < m) (h : m < 2 ^ 62) : (a % m).natAbs < 2 ^ 64 := by
  have h1 := Int.emod_nonneg a (by omega : m ≠ 0)
  have h2 := Int.emod_lt_of_pos a h0
  omega
theorem divOk_of' {j : Int} (h0 : 0 < j) (h1 : j.natAbs < 2 ^ 9000) : divOk j = true := by
  unfold divOk
  have z : j.natAbs ≠ 0 := by omega
  have : j.natAbs.log2 < 9000 := (Nat.log2_lt z).mpr h1
  simp [h0, this]
theorem law_mix {n : Nat} (hn : 1 ≤ n) (a t : Int) (ht : t.natAbs < 2 ^ 64) (h : Hea) : ∃ v, callN T n i__law_mix [.p (.int a), .p (.int t)] h = .ok (.p (.int v)) h ∧ 0 ≤ v := by
  obtain ⟨m, rfl⟩ : ∃ m, n = m + 1 := ⟨n - 1, by omega⟩
  obtain ⟨one, e1⟩ : ∃ x : Int, x = (a % 2147483647 * 48271 + t * 69621 + 7919) % 2147483647 := ⟨_, rfl⟩
  obtain ⟨two, e2⟩ : ∃ x : Int, x = (one * one + t * 40503 + 1013) % 2147483629 := ⟨_, rfl⟩
  obtain ⟨three, e3⟩ : ∃ x : Int, x = (two * two + one) % 2147483587 := ⟨_, rfl⟩
  have b1 : one.natAbs < 2 ^ 64 := by rw [e1]; exact mod64 (by decide) (by decide)
  have b2 : two.natAbs < 2 ^ 64 := by rw [e2]; exact mod64 (by decide) (by decide)
  have b3 : three.natAbs < 2 ^ 64 := by rw [e3]; exact mod64 (by decide) (by decide)
  have m1 : mulOk (a % 2147483647) 48271 = true := mulOk_of' (lt64 (mod64 (by decide) (by decide))) (lt64 (by decide))
  have m2 : mulOk t 69621 = true := mulOk_of' (lt64 ht) (lt64 (by decide))
  have m3 : mulOk one one = true := mulOk_of' (lt64 b1) (lt64 b1)
  have m4 : mulOk t 40503 = true := mulOk_of' (lt64 ht) (lt64 (by decide))
  have m5 : mulOk two two = true := mulOk_of' (lt64 b2) (lt64 b2)
  have m6 : mulOk three 2147483629 = true := mulOk_of' (lt64 b3) (lt64 (by decide))
  have p1 : (0 : Int) < 2147483647 := by decide
  have p2 : (0 : Int) < 2147483629 := by decide
  have p3 : (0 : Int) < 2147483587 := by decide
  refine ⟨three * 2147483629 + two, ?_, ?_⟩
  · rw [call_eq (fd := f__law_mix) rfl rfl]
    simp [f__law_mix, b__law_mix, startS, exs_cons, ex_set, ex_par, ex_unp, ex_seti, ex_expr, ex_ret, ex_if, ex_while, ex_for, ex_raise, ex_try, ex_frz, ev_bin, ev_neg, ev_cmp, ev_and, ev_or, ev_not, ev_ite, ev_tup, ev_lst, ev_idx, ev_slc00, ev_slc10, ev_slc01, ev_call, ev_callv, ev_comp, ev_blt, ev_meth, evs_cons, evI_seq, evI_rng, evI_zip, evT_and, evT_or, evT_not, evT_cmp, evT_call, evT_blt, evT_var, evT_idx, bin2_mod p1, bin2_mod p2, bin2_mod p3, bin2_mul m1, bin2_mul m2, ← e1, bin2_mul m3, bin2_mul m4, ← e2, bin2_mul m5, ← e3, bin2_mul m6]
  · have := Int.emod_nonneg (two * two + one) (show (2147483587 : Int) ≠ 0 by decide)
    have := Int.emod_nonneg (one * one + t * 40503 + 1013) (show (2147483629 : Int) ≠ 0 by decide)
    omega
/-! ### the store -/
theorem cell_lt {h : Hea} {n : Nat} {ds : List D} (e : cellAt h n = some ds) : n < h.length := by
  unfold cellAt at e
  cases q : h[n]? with
  | none => rw [q] at e; cases e
  | some c => exact (List.getElem?_eq_some_iff.mp q).1
theorem cell_set {h : Hea} {n : Nat} {ds es : List D} (e : cellAt h n = some ds) : cellAt (h.set n (some es)) n = some es := by
  unfold cellAt
  rw [List.getElem?_set_self (cell_lt e)]
theorem cell_ne {h : Hea} {n k : Nat} {c : Cell} (ne : n ≠ k) : cellAt (h.set n c) k = cellAt h k := by
  unfold cellAt
  rw [List.getElem?_set_ne ne]
theorem idx_ref {h : Hea} {n i : Nat} {ds : List D} {d : D} (e : cellAt h n = some ds) (hd : ds[i]? = some d) : idxD h (.ref n) (.p (.int (i : Nat))) = some d := by
  have l : i < ds.length := (List.getElem?_eq_some_iff.mp hd).1
  show (cellAt h n).bind (fun ds => atP ds (i : Int)) = _
  rw [e]
  show atP ds (i : Int) = _
  unfold atP place
  rw [if_pos (by omega), if_pos (by omega)]
  show ds[(i : Int).toNat]? = _
  rw [Int.toNat_natCast, hd]
theorem seti_ref {bs : Nat} {ρ : Slots} {x : P} {h : Hea} {n i : Nat} {ds : List D} (e : cellAt h n = some ds) (l : i < ds.length) : seti1 bs ρ (.p x) (.ref n) (.p (.int (i : Nat))) h = .next ρ (h.set n (some (ds.set i (.p x)))) := by
  unfold seti1
  have p : place ds.length (i : Int) = some i := by
    unfold place
    rw [if_pos (by omega), if_pos (by omega), Int.toNat_natCast]
  simp [e, p, may]
structure St (L s N : Nat) (h : Hea) : Prop where
  sl : s < L
  ll : L ≤ h.length
  ex : ∃ (c : Nat) (a b t : Nat) (seed : Int) (rs : List Nat), cellAt h s = some [.ref c, .p (.int a), .p (.int b), .p (.int t), .p (.int seed)] ∧ t ≤ N ∧ c < L ∧ c ≠ s ∧ cellAt h c = some (rs.map D.ref) ∧
    ∀ r ∈ rs, r < L ∧ r ≠ s ∧ r ≠ c ∧ ∃ (v : Int) (q : Bool), cellAt h r = some [.p (.int v), .p (.bl q)]
structure Fr (L : Nat) (h h' : Hea) : Prop where
  len : h'.length = h.length
  same : ∀ i, L ≤ i → h'[i]? = h[i]?
theorem Fr.refl {L : Nat} {h : Hea} : Fr L h h := ⟨rfl, fun _ _ => rfl⟩
theorem Fr.trans {L : Nat} {h h' h'' : Hea} (a : Fr L h h') (b : Fr L h' h'') : Fr L h h'' := ⟨b.len.trans a.len, fun i l => (b.same i l).trans (a.same i l)⟩
theorem Fr.set {L n : Nat} {h : Hea} {c : Cell} (l : n < L) : Fr L h (h.set n c) := ⟨List.length_set, fun i hi => by rw [List.getElem?_set_ne (by omega)]⟩
theorem Fr.take {L : Nat} {h h' : Hea} (f : Fr L h h') : h'.take h.length = h' := by rw [← f.len]; exact List.take_length
/-- a draw -/
theorem law_take {n : Nat} (hn : 2 ≤ n) {L s N : Nat} {h : Hea} (S : St L s N h) (hN : N < 2 ^ 40) (many : Int) (hm : many.natAbs < 2 ^ 9000) :
    ∃ v h', callN T n i__law_take [.ref s, .p (.int many)] h = .ok (.p (.int v)) h' ∧ 0 ≤ v ∧ (2 ≤ many → v < many) ∧ (many < 2 → v = 0) ∧ St L s (N + 1) h' ∧ Fr L h h' := by
  obtain ⟨m, rfl⟩ : ∃ m, n = m + 1 := ⟨n - 1, by omega⟩
  obtain ⟨sl, ll, c, a, b, t, seed, rs, hs, ht, cl, cs, hc, hr⟩ := S
  obtain ⟨h1, e1⟩ : ∃ h1, h1 = h.set s (some [.ref c, .p (.int a), .p (.int b), .p (.int (t + 1 : Nat)), .p (.int seed)]) := ⟨_, rfl⟩
  have hs1 : cellAt h1 s = some [.ref c, .p (.int a), .p (.int b), .p (.int (t + 1 : Nat)), .p (.int seed)] := by rw [e1]; exact cell_set hs
  have hc1 : cellAt h1 c = some (rs.map D.ref) := by rw [e1, cell_ne (Ne.symm cs)]; exact hc
  have hr1 : ∀ r ∈ rs, ∃ (v : Int) (q : Bool), cellAt h1 r = some [.p (.int v), .p (.bl q)] := fun r hr' => by
    obtain ⟨_, g2, _, v, q, g4⟩ := hr r hr'
    exact ⟨v, q, by rw [e1, cell_ne (Ne.symm g2)]; exact g4⟩
  have F1 : Fr L h h1 := by rw [e1]; exact Fr.set sl
  have S1 : St L s (N + 1) h1 := ⟨sl, by rw [F1.len]; exact ll, c, a, b, t + 1, seed, rs, hs1, by omega, cl, cs, hc1, fun r hr' => by
    obtain ⟨g1, g2, g3, _⟩ := hr r hr'
    exact ⟨g1, g2, g3, hr1 r hr'⟩⟩
  have i3 : idxD h (.ref s) (.p (.int 3)) = some (.p (.int t)) := idx_ref (i := 3) hs rfl
  have q3 : seti1 h.length [some (.ref s), some (.p (.int many)), none, none, none, none] (.p (.int ((t : Int) + 1))) (.ref s) (.p (.int 3)) h = .next [some (.ref s), some (.p (.int many)), none, none, none, none] h1 := by
    rw [e1]; exact seti_ref (i := 3) hs (by simp)
  have j0 : idxD h1 (.ref s) (.p (.int 0)) = some (.ref c) := idx_ref (i := 0) hs1 rfl
  have j1 : idxD h1 (.ref s) (.p (.int 1)) = some (.p (.int a)) := idx_ref (i := 1) hs1 rfl
  have j2 : idxD h1 (.ref s) (.p (.int 2)) = some (.p (.int b)) := idx_ref (i := 2) hs1 rfl
  have j3 : idxD h1 (.ref s) (.p (.int 3)) = some (.p (.int ((t : Int) + 1))) := idx_ref (i := 3) hs1 rfl
  have j4 : idxD h1 (.ref s) (.p (.int 4)) = some (.p (.int seed)) := idx_ref (i := 4) hs1 rfl
  have lc := blt1_len_ref hc1
  rw [List.length_map] at lc
  have tb : ((t : Int) + 1).natAbs < 2 ^ 64 := by omega
  by_cases c0 : many < 2
  · refine ⟨0, h1, ?_, by omega, fun z => by omega, fun _ => rfl, S1, F1⟩
    rw [call_eq (fd := f__law_take) rfl rfl]
    simp [f__law_take, b__law_take, startS, exs_cons, ex_set, ex_par, ex_unp, ex_seti, ex_expr, ex_ret, ex_if, ex_while, ex_for, ex_raise, ex_try, ex_frz, ev_bin, ev_neg, ev_cmp, ev_and, ev_or, ev_not, ev_ite, ev_tup, ev_lst, ev_idx, ev_slc00, ev_slc10, ev_slc01, ev_call, ev_callv, ev_comp, ev_blt, ev_meth, evs_cons, evI_seq, evI_rng, evI_zip, evT_and, evT_or, evT_not, evT_cmp, evT_call, evT_blt, evT_var, evT_idx, i3, q3, c0, F1.take]
  have mp : 0 < many := by omega
  have md := divOk_of' mp hm
  by_cases c1 : rs.length ≤ a
  · obtain ⟨v, ev, vp⟩ := law_mix (n := m) (by omega) seed ((t : Int) + 1) tb h1
    have c1' : (rs.length : Int) ≤ (a : Int) := by omega
    refine ⟨v % many, h1, ?_, Int.emod_nonneg _ (by omega), fun _ => Int.emod_lt_of_pos _ mp, fun z => by omega, S1, F1⟩
    rw [call_eq (fd := f__law_take) rfl rfl]
    simp [f__law_take, b__law_take, startS, exs_cons, ex_set, ex_par, ex_unp, ex_seti, ex_expr, ex_ret, ex_if, ex_while, ex_for, ex_raise, ex_try, ex_frz, ev_bin, ev_neg, ev_cmp, ev_and, ev_or, ev_not, ev_ite, ev_tup, ev_lst, ev_idx, ev_slc00, ev_slc10, ev_slc01, ev_call, ev_callv, ev_comp, ev_blt, ev_meth, evs_cons, evI_seq, evI_rng, evI_zip, evT_and, evT_or, evT_not, evT_cmp, evT_call, evT_blt, evT_var, evT_idx, i3, q3, c0, j0, j1, j3, j4, lc, c1', ev, bin2_mod mp, F1.take]
  have al : a < rs.length := by omega
  have c1' : ¬ ((rs.length : Int) ≤ (a : Int)) := by omega
  have rm : rs[a]? = some rs[a] := List.getElem?_eq_getElem al
  obtain ⟨r, er⟩ : ∃ r, r = rs[a] := ⟨_, rfl⟩
  have hrm : r ∈ rs := by rw [er]; exact List.getElem_mem al
  obtain ⟨rl, rs', rc, _⟩ := hr r hrm
  obtain ⟨v, q, hv⟩ := hr1 r hrm
  have jr : idxD h1 (.ref c) (.p (.int (a : Int))) = some (.ref r) := idx_ref (i := a) hc1 (by rw [List.getElem?_map, rm, ← er]; rfl)
  have k0 : idxD h1 (.ref r) (.p (.int 0)) = some (.p (.int v)) := idx_ref (i := 0) hv rfl
  have k1 : idxD h1 (.ref r) (.p (.int 1)) = some (.p (.bl q)) := idx_ref (i := 1) hv rfl
  -- the draw's end: the place goes on, or stays
  have fin : ∀ (h2 : Hea) (b2 : Nat) (v2 : Int), cellAt h2 s = some [.ref c, .p (.int a), .p (.int b2), .p (.int (t + 1 : Nat)), .p (.int seed)] → cellAt h2 c = some (rs.map D.ref) → (∀ r ∈ rs, ∃ (v : Int) (q : Bool), cellAt h2 r = some [.p (.int v), .p (.bl q)]) → Fr L h h2 → ∀ (used : Bool) (drawn : Int),
      ∃ h', exs ⟨callN T m, h.length⟩ [some (.ref s), some (.p (.int many)), some (.ref c), some (.ref r), some (.p (.int drawn)), some (.p (.bl used))] (.cons (.if_ (.var 5) (.cons (.seti (.var 0) (.con (.int 1)) (.bin .add (.idx (.var 0) (.con (.int 1))) (.con (.int 1)))) (.cons (.seti (.var 0) (.con (.int 2)) (.con (.int 0))) .nil)) .nil) (.cons (.ret (.var 4)) .nil)) h2 = .ret (.p (.int drawn)) h' ∧ St L s (N + 1) h' ∧ Fr L h h' := by
    intro h2 b2 v2 g1 g2 g3 F2 used drawn
    have mk : ∀ (h3 : Hea) (a3 b3 : Nat), cellAt h3 s = some [.ref c, .p (.int a3), .p (.int b3), .p (.int (t + 1 : Nat)), .p (.int seed)] → cellAt h3 c = some (rs.map D.ref) → (∀ r ∈ rs, ∃ (v : Int) (q : Bool), cellAt h3 r = some [.p (.int v), .p (.bl q)]) → Fr L h h3 → St L s (N + 1) h3 := fun h3 a3 b3 w1 w2 w3 F3 =>
      ⟨sl, by rw [F3.len]; exact ll, c, a3, b3, t + 1, seed, rs, w1, by omega, cl, cs, w2, fun r hr' => by
        obtain ⟨u1, u2, u3, _⟩ := hr r hr'
        exact ⟨u1, u2, u3, w3 r hr'⟩⟩
    cases used with
    | false =>
      exact ⟨h2, by simp [exs_cons, ex_set, ex_par, ex_unp, ex_seti, ex_expr, ex_ret, ex_if, ex_while, ex_for, ex_raise, ex_try, ex_frz, ev_bin, ev_neg, ev_cmp, ev_and, ev_or, ev_not, ev_ite, ev_tup, ev_lst, ev_idx, ev_slc00, ev_slc10, ev_slc01, ev_call, ev_callv, ev_comp, ev_blt, ev_meth, evs_cons, evI_seq, evI_rng, evI_zip, evT_and, evT_or, evT_not, evT_cmp, evT_call, evT_blt, evT_var, evT_idx], mk h2 a b2 g1 g2 g3 F2, F2⟩
    | true =>
      have l1 : idxD h2 (.ref s) (.p (.int 1)) = some (.p (.int a)) := idx_ref (i := 1) g1 rfl
      obtain ⟨h3, e3⟩ : ∃ h3, h3 = h2.set s (some [.ref c, .p (.int (a + 1 : Nat)), .p (.int b2), .p (.int (t + 1 : Nat)), .p (.int seed)]) := ⟨_, rfl⟩
      have w1 : cellAt h3 s = some [.ref c, .p (.int (a + 1 : Nat)), .p (.int b2), .p (.int (t + 1 : Nat)), .p (.int seed)] := by rw [e3]; exact cell_set g1
      have s1 : seti1 h.length [some (.ref s), some (.p (.int many)), some (.ref c), some (.ref r), some (.p (.int drawn)), some (.p (.bl true))] (.p (.int ((a : Int) + 1))) (.ref s) (.p (.int 1)) h2 = .next [some (.ref s), some (.p (.int many)), some (.ref c), some (.ref r), some (.p (.int drawn)), some (.p (.bl true))] h3 := by
        rw [e3]; exact seti_ref (i := 1) g1 (by simp)
      obtain ⟨h4, e4⟩ : ∃ h4, h4 = h3.set s (some [.ref c, .p (.int (a + 1 : Nat)), .p (.int (0 : Nat)), .p (.int (t + 1 : Nat)), .p (.int seed)]) := ⟨_, rfl⟩
      have w2 : cellAt h4 s = some [.ref c, .p (.int (a + 1 : Nat)), .p (.int (0 : Nat)), .p (.int (t + 1 : Nat)), .p (.int seed)] := by rw [e4]; exact cell_set w1
      have s2 : seti1 h.length [some (.ref s), some (.p (.int many)), some (.ref c), some (.ref r), some (.p (.int drawn)), some (.p (.bl true))] (.p (.int 0)) (.ref s) (.p (.int 2)) h3 = .next [some (.ref s), some (.p (.int many)), some (.ref c), some (.ref r), some (.p (.int drawn)), some (.p (.bl true))] h4 := by
        rw [e4]; exact seti_ref (i := 2) w1 (by simp)
      have F4 : Fr L h h4 := F2.trans (by rw [e4, e3]; exact (Fr.set sl).trans (Fr.set sl))
      have o1 : cellAt h4 c = some (rs.map D.ref) := by rw [e4, cell_ne (Ne.symm cs), e3, cell_ne (Ne.symm cs)]; exact g2
      have o2 : ∀ r ∈ rs, ∃ (v : Int) (q : Bool), cellAt h4 r = some [.p (.int v), .p (.bl q)] := fun r hr' => by
        obtain ⟨_, u2, _⟩ := hr r hr'
        obtain ⟨v, q, g⟩ := g3 r hr'
        exact ⟨v, q, by rw [e4, cell_ne (Ne.symm u2), e3, cell_ne (Ne.symm u2)]; exact g⟩
      exact ⟨h4, by simp [exs_cons, ex_set, ex_par, ex_unp, ex_seti, ex_expr, ex_ret, ex_if, ex_while, ex_for, ex_raise, ex_try, ex_frz, ev_bin, ev_neg, ev_cmp, ev_and, ev_or, ev_not, ev_ite, ev_tup, ev_lst, ev_idx, ev_slc00, ev_slc10, ev_slc01, ev_call, ev_callv, ev_comp, ev_blt, ev_meth, evs_cons, evI_seq, evI_rng, evI_zip, evT_and, evT_or, evT_not, evT_cmp, evT_call, evT_blt, evT_var, evT_idx, l1, s1, s2], mk h4 (a + 1) 0 w2 o1 o2 F4, F4⟩
  cases q with
  | true =>
    obtain ⟨h2, e2⟩ : ∃ h2, h2 = h1.set r (some [.p (.int (v / many)), .p (.bl true)]) := ⟨_, rfl⟩
    have g1 : cellAt h2 r = some [.p (.int (v / many)), .p (.bl true)] := by rw [e2]; exact cell_set hv
    have s1 : seti1 h.length [some (.ref s), some (.p (.int many)), some (.ref c), some (.ref r), some (.p (.int (v % many))), none] (.p (.int (v / many))) (.ref r) (.p (.int 0)) h1 = .next [some (.ref s), some (.p (.int many)), some (.ref c), some (.ref r), some (.p (.int (v % many))), none] h2 := by
      rw [e2]; exact seti_ref (i := 0) hv (by simp)
    have l0 : idxD h2 (.ref r) (.p (.int 0)) = some (.p (.int (v / many))) := idx_ref (i := 0) g1 rfl
    have F2 : Fr L h h2 := F1.trans (by rw [e2]; exact Fr.set rl)
    obtain ⟨h', e, S', F'⟩ := fin h2 b (v / many) (by rw [e2, cell_ne rs']; exact hs1) (by rw [e2, cell_ne rc]; exact hc1) (fun r2 hr2 => by
      by_cases z : r2 = r
      · rw [z]; exact ⟨_, _, g1⟩
      · obtain ⟨v2, q2, g⟩ := hr1 r2 hr2
        exact ⟨v2, q2, by rw [e2, cell_ne (Ne.symm z)]; exact g⟩) F2 (v / many == 0) (v % many)
    refine ⟨v % many, h', ?_, Int.emod_nonneg _ (by omega), fun _ => Int.emod_lt_of_pos _ mp, fun z => by omega, S', F'⟩
    rw [call_eq (fd := f__law_take) rfl rfl]
    simp only [exs_cons] at e
    simp [f__law_take, b__law_take, startS, exs_cons, ex_set, ex_par, ex_unp, ex_seti, ex_expr, ex_ret, ex_if, ex_while, ex_for, ex_raise, ex_try, ex_frz, ev_bin, ev_neg, ev_cmp, ev_and, ev_or, ev_not, ev_ite, ev_tup, ev_lst, ev_idx, ev_slc00, ev_slc10, ev_slc01, ev_call, ev_callv, ev_comp, ev_blt, ev_meth, evs_cons, evI_seq, evI_rng, evI_zip, evT_and, evT_or, evT_not, evT_cmp, evT_call, evT_blt, evT_var, evT_idx, i3, q3, c0, j0, j1, j3, j4, lc, c1', jr, k0, k1, bin2_mod mp, bin2_fdiv md, s1, l0] at e ⊢
    rw [e]
    simp [F'.take]
  | false =>
    obtain ⟨w, ew, wp⟩ := law_mix (n := m) (by omega) v ((t : Int) + 1) tb h1
    obtain ⟨h2, e2⟩ : ∃ h2, h2 = h1.set s (some [.ref c, .p (.int a), .p (.int (b + 1 : Nat)), .p (.int (t + 1 : Nat)), .p (.int seed)]) := ⟨_, rfl⟩
    have g1 : cellAt h2 s = some [.ref c, .p (.int a), .p (.int (b + 1 : Nat)), .p (.int (t + 1 : Nat)), .p (.int seed)] := by rw [e2]; exact cell_set hs1
    have s1 : seti1 h.length [some (.ref s), some (.p (.int many)), some (.ref c), some (.ref r), some (.p (.int (w % many))), none] (.p (.int ((b : Int) + 1))) (.ref s) (.p (.int 2)) h1 = .next [some (.ref s), some (.p (.int many)), some (.ref c), some (.ref r), some (.p (.int (w % many))), none] h2 := by
      rw [e2]; exact seti_ref (i := 2) hs1 (by simp)
    have l2 : idxD h2 (.ref s) (.p (.int 2)) = some (.p (.int ((b : Int) + 1))) := idx_ref (i := 2) g1 rfl
    have F2 : Fr L h h2 := F1.trans (by rw [e2]; exact Fr.set sl)
    obtain ⟨h', e, S', F'⟩ := fin h2 (b + 1) 0 g1 (by rw [e2, cell_ne (Ne.symm cs)]; exact hc1) (fun r2 hr2 => by
      obtain ⟨_, u2, _⟩ := hr r2 hr2
      obtain ⟨v2, q2, g⟩ := hr1 r2 hr2
      exact ⟨v2, q2, by rw [e2, cell_ne (Ne.symm u2)]; exact g⟩) F2 (decide (1 < (b : Int) + 1)) (w % many)
    refine ⟨w % many, h', ?_, Int.emod_nonneg _ (by omega), fun _ => Int.emod_lt_of_pos _ mp, fun z => by omega, S', F'⟩
    rw [call_eq (fd := f__law_take) rfl rfl]
    simp only [exs_cons] at e
    simp [f__law_take, b__law_take, startS, exs_cons, ex_set, ex_par, ex_unp, ex_seti, ex_expr, ex_ret, ex_if, ex_while, ex_for, ex_raise, ex_try, ex_frz, ev_bin, ev_neg, ev_cmp, ev_and, ev_or, ev_not, ev_ite, ev_tup, ev_lst, ev_idx, ev_slc00, ev_slc10, ev_slc01, ev_call, ev_callv, ev_comp, ev_blt, ev_meth, evs_cons, evI_seq, evI_rng, evI_zip, evT_and, evT_or, evT_not, evT_cmp, evT_call, evT_blt, evT_var, evT_idx, i3, q3, c0, j0, j1, j2, j3, j4, lc, c1', jr, k0, k1, ew, bin2_mod mp, s1, l2] at e ⊢
    rw [e]
    simp [F'.take]
end K15

set_option linter.all false
set_option maxRecDepth 100000
set_option maxHeartbeats 1000000
set_option exponentiation.threshold 500
namespace K15
open Mp
theorem St.up {L s N N' : Nat} {h : Hea} (S : St L s N h) (l : N ≤ N') : St L s N' h := by
  obtain ⟨a, b, c, x1, x2, x3, x4, x5, e1, e2, e3⟩ := S
  exact ⟨a, b, c, x1, x2, x3, x4, x5, e1, Nat.le_trans e2 l, e3⟩
/-- a def that draws: it ends, its data is such, k draws at most -/
def Rn (n i k : Nat) (as : List D) (s : Nat) (Φ : P → Prop) : Prop := ∀ L N h, St L s N h → N + k ≤ 2 ^ 36 → ∃ x h', callN T n i as h = .ok (.p x) h' ∧ Φ x ∧ St L s (N + k) h' ∧ Fr L h h'
theorem Rn.mono {n i k k' : Nat} {as : List D} {s : Nat} {Φ Ψ : P → Prop} (r : Rn n i k as s Φ) (hk : k ≤ k') (h : ∀ x, Φ x → Ψ x) : Rn n i k' as s Ψ := fun L N hh S l => by
  obtain ⟨x, h', e, p, S', F⟩ := r L N hh S (by omega)
  exact ⟨x, h', e, h x p, S'.up (by omega), F⟩
theorem rn_take {n s : Nat} (hn : 2 ≤ n) (many : Int) (hm : many.natAbs < 2 ^ 9000) : Rn n i__law_take 1 [.ref s, .p (.int many)] s fun x => ∃ v, x = .int v ∧ 0 ≤ v ∧ (2 ≤ many → v < many) ∧ (many < 2 → v = 0) := fun L N h S l => by
  obtain ⟨v, h', e, h1, h2, h3, S', F⟩ := law_take hn S (by omega) many hm
  exact ⟨_, h', e, ⟨v, rfl, h1, h2, h3⟩, S', F⟩
theorem rn_span {n s : Nat} (hn : 3 ≤ n) {low high : Int} (hl : low ≤ high) (hm : (high - low + 1).natAbs < 2 ^ 9000) : Rn n i__law_span 1 [.ref s, .p (.int low), .p (.int high)] s fun x => ∃ v, x = .int v ∧ low ≤ v ∧ v ≤ high := fun L N h S l => by
  obtain ⟨m, rfl⟩ : ∃ m, n = m + 1 := ⟨n - 1, by omega⟩
  obtain ⟨x, h', e, ⟨v, rfl, h1, h2, h3⟩, S', F⟩ := rn_take (n := m) (s := s) (by omega) (high - low + 1) hm L N h S l
  refine ⟨_, h', ?_, ⟨low + v, rfl, by omega, ?_⟩, S', F⟩
  · rw [call_eq (fd := f__law_span) rfl rfl]
    simp [f__law_span, b__law_span, startS, exs_cons, ex_set, ex_par, ex_unp, ex_seti, ex_expr, ex_ret, ex_if, ex_while, ex_for, ex_raise, ex_try, ex_frz, ev_bin, ev_neg, ev_cmp, ev_and, ev_or, ev_not, ev_ite, ev_tup, ev_lst, ev_idx, ev_slc00, ev_slc10, ev_slc01, ev_call, ev_callv, ev_comp, ev_blt, ev_meth, evs_cons, evI_seq, evI_rng, evI_zip, evT_and, evT_or, evT_not, evT_cmp, evT_call, evT_blt, evT_var, evT_idx, e, F.take]
  · by_cases c : 2 ≤ high - low + 1
    · have := h2 c; omega
    · have := h3 (by omega); omega
theorem len_big {n : Nat} (h : n ≤ 1000) : ((n : Nat) : Int).natAbs < 2 ^ 9000 := by
  rw [Int.natAbs_natCast]
  exact Nat.lt_of_le_of_lt h (small' (n := 10) (by decide) (by decide))
theorem rn_pick {n s : Nat} (hn : 3 ≤ n) {xs : List P} (hne : xs ≠ []) (hl : xs.length ≤ 1000) : Rn n i__law_pick 1 [.ref s, .p (.lst xs)] s fun x => x ∈ xs := fun L N h S l => by
  obtain ⟨m, rfl⟩ : ∃ m, n = m + 1 := ⟨n - 1, by omega⟩
  have lp : 0 < xs.length := List.length_pos_iff.mpr hne
  obtain ⟨x, h', e, ⟨v, rfl, h1, h2, h3⟩, S', F⟩ := rn_take (n := m) (s := s) (by omega) (xs.length : Int) (len_big hl) L N h S l
  have vl : v.toNat < xs.length := by
    by_cases c : 2 ≤ (xs.length : Int)
    · have := h2 c; omega
    · have := h3 (by omega); omega
  have q : xs[v.toNat]? = some xs[v.toNat] := List.getElem?_eq_getElem vl
  have ix := idx_atL (h := h') q
  rw [Int.toNat_of_nonneg h1] at ix
  refine ⟨_, h', ?_, List.getElem_mem vl, S', F⟩
  rw [call_eq (fd := f__law_pick) rfl rfl]
  simp [f__law_pick, b__law_pick, startS, exs_cons, ex_set, ex_par, ex_unp, ex_seti, ex_expr, ex_ret, ex_if, ex_while, ex_for, ex_raise, ex_try, ex_frz, ev_bin, ev_neg, ev_cmp, ev_and, ev_or, ev_not, ev_ite, ev_tup, ev_lst, ev_idx, ev_slc00, ev_slc10, ev_slc01, ev_call, ev_callv, ev_comp, ev_blt, ev_meth, evs_cons, evI_seq, evI_rng, evI_zip, evT_and, evT_or, evT_not, evT_cmp, evT_call, evT_blt, evT_var, evT_idx, e, ix, F.take]
theorem rn_sequence {n s : Nat} (hn : 3 ≤ n) {xs : List P} : Rn n i__law_sequence 1 [.ref s, .p (.lst xs)] s fun x => IsSeq x xs := fun L N h S l => by
  obtain ⟨m, rfl⟩ : ∃ m, n = m + 1 := ⟨n - 1, by omega⟩
  obtain ⟨x, h', e, ⟨v, rfl, h1, h2, h3⟩, S', F⟩ := rn_take (n := m) (s := s) (by omega) 2 (small' (n := 10) (by decide) (by decide)) L N h S l
  rw [call_eq (fd := f__law_sequence) rfl rfl]
  by_cases c : v = 0
  · exact ⟨.lst xs, h', by simp [f__law_sequence, b__law_sequence, startS, exs_cons, ex_set, ex_par, ex_unp, ex_seti, ex_expr, ex_ret, ex_if, ex_while, ex_for, ex_raise, ex_try, ex_frz, ev_bin, ev_neg, ev_cmp, ev_and, ev_or, ev_not, ev_ite, ev_tup, ev_lst, ev_idx, ev_slc00, ev_slc10, ev_slc01, ev_call, ev_callv, ev_comp, ev_blt, ev_meth, evs_cons, evI_seq, evI_rng, evI_zip, evT_and, evT_or, evT_not, evT_cmp, evT_call, evT_blt, evT_var, evT_idx, e, c, F.take], .inl rfl, S', F⟩
  · have c' : (v == 0) = false := by simp [c]
    exact ⟨.tup xs, h', by simp [f__law_sequence, b__law_sequence, startS, exs_cons, ex_set, ex_par, ex_unp, ex_seti, ex_expr, ex_ret, ex_if, ex_while, ex_for, ex_raise, ex_try, ex_frz, ev_bin, ev_neg, ev_cmp, ev_and, ev_or, ev_not, ev_ite, ev_tup, ev_lst, ev_idx, ev_slc00, ev_slc10, ev_slc01, ev_call, ev_callv, ev_comp, ev_blt, ev_meth, evs_cons, evI_seq, evI_rng, evI_zip, evT_and, evT_or, evT_not, evT_cmp, evT_call, evT_blt, evT_var, evT_idx, e, c', F.take], .inr rfl, S', F⟩
theorem rn_count {n s : Nat} (hn : 4 ≤ n) {least most : Int} (hl : least ≤ most) (hm : (most - least + 1).natAbs < 2 ^ 9000) : Rn n i__law_count 2 [.ref s, .p (.int least), .p (.int most)] s fun x => ∃ v, x = .int v ∧ least ≤ v ∧ v ≤ most := fun L N h S l => by
  obtain ⟨m, rfl⟩ : ∃ m, n = m + 1 := ⟨n - 1, by omega⟩
  obtain ⟨x, h', e, ⟨v, rfl, h1, h2, h3⟩, S', F⟩ := rn_take (n := m) (s := s) (by omega) 7 (small' (n := 10) (by decide) (by decide)) L N h S (by omega)
  rw [call_eq (fd := f__law_count) rfl rfl]
  by_cases c : v = 0
  · exact ⟨_, h', by simp [f__law_count, b__law_count, startS, exs_cons, ex_set, ex_par, ex_unp, ex_seti, ex_expr, ex_ret, ex_if, ex_while, ex_for, ex_raise, ex_try, ex_frz, ev_bin, ev_neg, ev_cmp, ev_and, ev_or, ev_not, ev_ite, ev_tup, ev_lst, ev_idx, ev_slc00, ev_slc10, ev_slc01, ev_call, ev_callv, ev_comp, ev_blt, ev_meth, evs_cons, evI_seq, evI_rng, evI_zip, evT_and, evT_or, evT_not, evT_cmp, evT_call, evT_blt, evT_var, evT_idx, e, c, F.take], ⟨least, rfl, by omega, hl⟩, S'.up (by omega), F⟩
  have c' : (v == 0) = false := by simp [c]
  by_cases d : v = 1
  · subst d
    refine ⟨.int (if most < least + 1 then most else least + 1), h', by simp [f__law_count, b__law_count, startS, exs_cons, ex_set, ex_par, ex_unp, ex_seti, ex_expr, ex_ret, ex_if, ex_while, ex_for, ex_raise, ex_try, ex_frz, ev_bin, ev_neg, ev_cmp, ev_and, ev_or, ev_not, ev_ite, ev_tup, ev_lst, ev_idx, ev_slc00, ev_slc10, ev_slc01, ev_call, ev_callv, ev_comp, ev_blt, ev_meth, evs_cons, evI_seq, evI_rng, evI_zip, evT_and, evT_or, evT_not, evT_cmp, evT_call, evT_blt, evT_var, evT_idx, e, F.take], ⟨_, rfl, ?_, ?_⟩, S'.up (by omega), F⟩
    · split <;> omega
    · split <;> omega
  have d' : (v == 1) = false := by simp [d]
  by_cases g : v < 4
  · exact ⟨_, h', by simp [f__law_count, b__law_count, startS, exs_cons, ex_set, ex_par, ex_unp, ex_seti, ex_expr, ex_ret, ex_if, ex_while, ex_for, ex_raise, ex_try, ex_frz, ev_bin, ev_neg, ev_cmp, ev_and, ev_or, ev_not, ev_ite, ev_tup, ev_lst, ev_idx, ev_slc00, ev_slc10, ev_slc01, ev_call, ev_callv, ev_comp, ev_blt, ev_meth, evs_cons, evI_seq, evI_rng, evI_zip, evT_and, evT_or, evT_not, evT_cmp, evT_call, evT_blt, evT_var, evT_idx, e, c', d', g, F.take], ⟨most, rfl, hl, by omega⟩, S'.up (by omega), F⟩
  obtain ⟨x, h'', e2, ⟨w, rfl, g1, g2⟩, S'', F'⟩ := rn_span (n := m) (s := s) (by omega) hl hm L (N + 1) h' S' (by omega)
  refine ⟨_, h'', ?_, ⟨w, rfl, g1, g2⟩, S''.up (by omega), F.trans F'⟩
  simp [f__law_count, b__law_count, startS, exs_cons, ex_set, ex_par, ex_unp, ex_seti, ex_expr, ex_ret, ex_if, ex_while, ex_for, ex_raise, ex_try, ex_frz, ev_bin, ev_neg, ev_cmp, ev_and, ev_or, ev_not, ev_ite, ev_tup, ev_lst, ev_idx, ev_slc00, ev_slc10, ev_slc01, ev_call, ev_callv, ev_comp, ev_blt, ev_meth, evs_cons, evI_seq, evI_rng, evI_zip, evT_and, evT_or, evT_not, evT_cmp, evT_call, evT_blt, evT_var, evT_idx, e, c', d', g, e2, (F.trans F').take]
theorem pow10 {k : Nat} {h : Hea} (hk : k ≤ 1000) : bin2 .pow (.p (.int 10)) (.p (.int (k : Nat))) h = .ok (.p (.int (10 ^ k))) h := by
  show R.ofO ((if 0 ≤ ((k : Nat) : Int) ∧ ((k : Nat) : Int) ≤ 1000000 ∧ (10 : Int).natAbs < 2 ^ 64 then some (P.int (10 ^ ((k : Nat) : Int).toNat)) else none).map D.p) h = _
  rw [if_pos ⟨by omega, by omega, by decide⟩, Int.toNat_natCast]
  rfl
theorem wide_loop {m : Nat} (hm : 2 ≤ m) {bs L s : Nat} (many : Int) : ∀ (ks : List Nat) (j N : Nat) (h : Hea) (drawn power : Int) (d4 : Option D), j + ks.length ≤ 14 → drawn.natAbs < 2 ^ (60 * j + 1) → power.natAbs < 2 ^ (60 * j + 1) → St L s N h → N + ks.length ≤ 2 ^ 36 →
    ∃ (drawn' power' : Int) (d4' : Option D) (h' : Hea), runFor ⟨callN T m, bs⟩ (.one 4) l__law_wide_1 (ks.map fun k => P.int (k : Nat)) [some (.ref s), some (.p (.int many)), some (.p (.int drawn)), some (.p (.int power)), d4] h =
      .next [some (.ref s), some (.p (.int many)), some (.p (.int drawn')), some (.p (.int power')), d4'] h' ∧ St L s (N + ks.length) h' ∧ Fr L h h'
  | [], j, N, h, drawn, power, d4, _, _, _, S, _ => ⟨drawn, power, d4, h, by simp, S, Fr.refl⟩
  | k :: ks, j, N, h, drawn, power, d4, hj, hd, hp, S, hN => by
    have hj' : j + (ks.length + 1) ≤ 14 := by simpa using hj
    have hN' : N + (ks.length + 1) ≤ 2 ^ 36 := by simpa using hN
    have p17 := fun h => pow10 (k := 17) (h := h) (by decide)
    have up : (2 : Nat) ^ (60 * j + 1) ≤ 2 ^ (60 * (j + 1) + 1) := Nat.pow_le_pow_right (by decide) (by omega)
    by_cases c : power < many
    · obtain ⟨x, h1, e, ⟨v, rfl, v1, v2, _⟩, S1, F1⟩ := rn_take (n := m) (s := s) hm (10 ^ 17) (small' (n := 60) (by decide) (by decide)) L N h S (by omega)
      have vb : v < 10 ^ 17 := v2 (by decide)
      have m1 : mulOk drawn (10 ^ 17) = true := mulOk_of' (small' hd (by omega)) (lt64 (by decide))
      have m2 : mulOk power (10 ^ 17) = true := mulOk_of' (small' hp (by omega)) (lt64 (by decide))
      have body : exs ⟨callN T m, bs⟩ [some (.ref s), some (.p (.int many)), some (.p (.int drawn)), some (.p (.int power)), some (.p (.int (k : Nat)))] l__law_wide_1 h =
          .next [some (.ref s), some (.p (.int many)), some (.p (.int (drawn * 10 ^ 17 + v))), some (.p (.int (power * 10 ^ 17))), some (.p (.int (k : Nat)))] h1 := by
        simp at p17 e m1 m2
        simp [l__law_wide_1, exs_cons, ex_set, ex_par, ex_unp, ex_seti, ex_expr, ex_ret, ex_if, ex_while, ex_for, ex_raise, ex_try, ex_frz, ev_bin, ev_neg, ev_cmp, ev_and, ev_or, ev_not, ev_ite, ev_tup, ev_lst, ev_idx, ev_slc00, ev_slc10, ev_slc01, ev_call, ev_callv, ev_comp, ev_blt, ev_meth, evs_cons, evI_seq, evI_rng, evI_zip, evT_and, evT_or, evT_not, evT_cmp, evT_call, evT_blt, evT_var, evT_idx, c, p17, bin2_mul m1, bin2_mul m2, e]
      have e60 : (2 : Nat) ^ (60 * (j + 1) + 1) = 2 ^ (60 * j + 1) * 2 ^ 60 := by rw [← Nat.pow_add, show 60 * (j + 1) + 1 = 60 * j + 1 + 60 from by omega]
      have b1 : (drawn * 10 ^ 17 + v).natAbs < 2 ^ (60 * (j + 1) + 1) := by
        have q := Int.natAbs_add_le (drawn * 10 ^ 17) v
        have q2 : (drawn * 10 ^ 17).natAbs = drawn.natAbs * 10 ^ 17 := by rw [Int.natAbs_mul]; rfl
        have q3 : v.natAbs < 10 ^ 17 := by omega
        rw [e60]
        have : (2 : Nat) ^ 60 = 1152921504606846976 := by decide
        omega
      have b2 : (power * 10 ^ 17).natAbs < 2 ^ (60 * (j + 1) + 1) := by
        have q2 : (power * 10 ^ 17).natAbs = power.natAbs * 10 ^ 17 := by rw [Int.natAbs_mul]; rfl
        rw [e60]
        have : (2 : Nat) ^ 60 = 1152921504606846976 := by decide
        omega
      obtain ⟨dr, pw, d4', h', e2, S2, F2⟩ := wide_loop hm (bs := bs) many ks (j + 1) (N + 1) h1 (drawn * 10 ^ 17 + v) (power * 10 ^ 17) (some (.p (.int (k : Nat)))) (by omega) b1 b2 S1 (by omega)
      refine ⟨dr, pw, d4', h', ?_, S2.up (by simp; omega), F1.trans F2⟩
      rw [List.map_cons, for_step (ρ' := [some (.ref s), some (.p (.int many)), some (.p (.int drawn)), some (.p (.int power)), some (.p (.int (k : Nat)))]) rfl body, e2]
    · have body : exs ⟨callN T m, bs⟩ [some (.ref s), some (.p (.int many)), some (.p (.int drawn)), some (.p (.int power)), some (.p (.int (k : Nat)))] l__law_wide_1 h =
          .next [some (.ref s), some (.p (.int many)), some (.p (.int drawn)), some (.p (.int power)), some (.p (.int (k : Nat)))] h := by
        simp [l__law_wide_1, exs_cons, ex_set, ex_par, ex_unp, ex_seti, ex_expr, ex_ret, ex_if, ex_while, ex_for, ex_raise, ex_try, ex_frz, ev_bin, ev_neg, ev_cmp, ev_and, ev_or, ev_not, ev_ite, ev_tup, ev_lst, ev_idx, ev_slc00, ev_slc10, ev_slc01, ev_call, ev_callv, ev_comp, ev_blt, ev_meth, evs_cons, evI_seq, evI_rng, evI_zip, evT_and, evT_or, evT_not, evT_cmp, evT_call, evT_blt, evT_var, evT_idx, c]
      obtain ⟨dr, pw, d4', h', e2, S2, F2⟩ := wide_loop hm (bs := bs) many ks (j + 1) (N + 1) h drawn power (some (.p (.int (k : Nat)))) (by omega) (Nat.lt_of_lt_of_le hd up) (Nat.lt_of_lt_of_le hp up) (S.up (by omega)) (by omega)
      refine ⟨dr, pw, d4', h', ?_, S2.up (by simp; omega), F2⟩
      rw [List.map_cons, for_step (ρ' := [some (.ref s), some (.p (.int many)), some (.p (.int drawn)), some (.p (.int power)), some (.p (.int (k : Nat)))]) rfl body, e2]
theorem rng_at {d : Nat} {h : Hea} (hd : d ≤ 1000) : rng1 [.p (.int (d : Int))] h = .ok ((List.range d).map fun k => P.int (k : Nat)) h := by
  have rg : rngL 0 (d : Int) = (List.range d).map fun k => P.int (k : Nat) := by
    unfold rngL
    simp
  show (if (d : Int) ≤ (LIM : Nat) ∧ -((LIM : Nat) : Int) ≤ (d : Int) then R.ok (rngL 0 (d : Int)) h else .stuck) = _
  have hL : ((LIM : Nat) : Int) = 1000000 := rfl
  rw [if_pos (by omega), rg]
theorem rn_wide {n s : Nat} (hn : 3 ≤ n) (many : Int) : Rn n i__law_wide 14 [.ref s, .p (.int many)] s fun x => ∃ v, x = .int v ∧ 0 ≤ v ∧ (v < many ∨ v = 0) := fun L N h S l => by
  obtain ⟨m, rfl⟩ : ∃ m, n = m + 1 := ⟨n - 1, by omega⟩
  obtain ⟨dr, pw, d4, h', e, S', F⟩ := wide_loop (m := m) (by omega) (bs := h.length) many (List.range 14) 0 N h 0 1 none (by simp) (by decide) (by decide) S (by simp; omega)
  have r := rng_at (d := 14) (h := h) (by decide)
  obtain ⟨mx, emx⟩ : ∃ x : Int, x = (if many > 1 then many else 1) := ⟨_, rfl⟩
  have mp : 0 < mx := by rw [emx]; split <;> omega
  refine ⟨_, h', ?_, ⟨dr % mx, rfl, Int.emod_nonneg _ (by omega), ?_⟩, by simpa using S', F⟩
  · rw [call_eq (fd := f__law_wide) rfl rfl]
    have r' : rng1 [.p (.int 14)] h = .ok ((List.range 14).map fun k => P.int (k : Nat)) h := r
    simp [f__law_wide, b__law_wide, startS, exs_cons, ex_set, ex_par, ex_unp, ex_seti, ex_expr, ex_ret, ex_if, ex_while, ex_for, ex_raise, ex_try, ex_frz, ev_bin, ev_neg, ev_cmp, ev_and, ev_or, ev_not, ev_ite, ev_tup, ev_lst, ev_idx, ev_slc00, ev_slc10, ev_slc01, ev_call, ev_callv, ev_comp, ev_blt, ev_meth, evs_cons, evI_seq, evI_rng, evI_zip, evT_and, evT_or, evT_not, evT_cmp, evT_call, evT_blt, evT_var, evT_idx, r', e, ← emx, bin2_mod mp, F.take]
  · have := Int.emod_lt_of_pos dr mp
    have h0 := Int.emod_nonneg dr (by omega : mx ≠ 0)
    rw [emx] at *
    by_cases c : many > 1
    · rw [if_pos c] at *; exact .inl this
    · rw [if_neg c] at *; exact .inr (by omega)
end K15

set_option linter.all false
set_option maxRecDepth 100000
set_option maxHeartbeats 1000000
set_option exponentiation.threshold 700
namespace K15
open Mp
@[simp] theorem mk_pure {a : P} {h : Hea} : mk false [.p a] h = .ok (.p (.lst [a])) h := rfl
theorem mk_list {xs : List P} {h : Hea} (hl : xs.length ≤ LIM) : mk false (xs.map D.p) h = .ok (.p (.lst xs)) h := by
  unfold mk
  rw [if_pos (by rw [List.length_map]; exact hl)]
  simp only [pures_p]
theorem rn_integer {n s : Nat} (hn : 4 ≤ n) {high : Int} (h1 : 1 ≤ high) (hh : high.natAbs < 2 ^ 600) : Rn n i__law_integer 15 [.ref s, .p (.int high)] s fun x => ∃ v, x = .int v ∧ -high ≤ v ∧ v ≤ high := fun L N h S l => by
  obtain ⟨m, rfl⟩ : ∃ m, n = m + 1 := ⟨n - 1, by omega⟩
  obtain ⟨x, h', e, ⟨v, rfl, v1, v2, v3⟩, S', F⟩ := rn_take (n := m) (s := s) (by omega) 9 (small' (n := 10) (by decide) (by decide)) L N h S (by omega)
  rw [call_eq (fd := f__law_integer) rfl rfl]
  have big : ∀ j : Int, 0 ≤ j → j ≤ 2 * high + 1 → j.natAbs < 2 ^ 9000 := fun j j0 j1 => by
    have : (2 : Nat) ^ 602 = 2 ^ 600 * 4 := by decide +kernel
    exact small' (n := 602) (by omega) (by decide)
  by_cases c : v < 2
  · obtain ⟨x, h'', e2, p, S'', F'⟩ := rn_pick (n := m) (s := s) (xs := [.int 0, .int 0, .int 1, .int (-1), .int high, .int (-high), .int (high - 1)]) (by omega) (by simp) (by simp) L (N + 1) h' S' (by omega)
    have ml := mk_list (h := h') (xs := [.int 0, .int 0, .int 1, .int (-1), .int high, .int (-high), .int (high - 1)]) (lim1000 (by simp))
    simp at ml e2
    refine ⟨x, h'', by simp [f__law_integer, b__law_integer, startS, exs_cons, ex_set, ex_par, ex_unp, ex_seti, ex_expr, ex_ret, ex_if, ex_while, ex_for, ex_raise, ex_try, ex_frz, ev_bin, ev_neg, ev_cmp, ev_and, ev_or, ev_not, ev_ite, ev_tup, ev_lst, ev_idx, ev_slc00, ev_slc10, ev_slc01, ev_call, ev_callv, ev_comp, ev_blt, ev_meth, evs_cons, evI_seq, evI_rng, evI_zip, evT_and, evT_or, evT_not, evT_cmp, evT_call, evT_blt, evT_var, evT_idx, e, c, ml, e2, (F.trans F').take], ?_, S''.up (by omega), F.trans F'⟩
    simp only [List.mem_cons, List.not_mem_nil, or_false] at p
    rcases p with rfl | rfl | rfl | rfl | rfl | rfl | rfl
    · exact ⟨_, rfl, by omega, by omega⟩
    · exact ⟨_, rfl, by omega, by omega⟩
    · exact ⟨_, rfl, by omega, by omega⟩
    · exact ⟨_, rfl, by omega, by omega⟩
    · exact ⟨_, rfl, by omega, by omega⟩
    · exact ⟨_, rfl, by omega, by omega⟩
    · exact ⟨_, rfl, by omega, by omega⟩
  by_cases d : v < 7
  · obtain ⟨q, eq⟩ : ∃ q : Int, q = (if 9 < high then 9 else high) := ⟨_, rfl⟩
    have q1 : 1 ≤ q ∧ q ≤ high := by rw [eq]; split <;> omega
    obtain ⟨x, h'', e2, ⟨w, rfl, w1, w2⟩, S'', F'⟩ := rn_span (n := m) (s := s) (by omega) (low := -q) (high := q) (by omega) (big _ (by omega) (by omega)) L (N + 1) h' S' (by omega)
    exact ⟨_, h'', by simp [f__law_integer, b__law_integer, startS, exs_cons, ex_set, ex_par, ex_unp, ex_seti, ex_expr, ex_ret, ex_if, ex_while, ex_for, ex_raise, ex_try, ex_frz, ev_bin, ev_neg, ev_cmp, ev_and, ev_or, ev_not, ev_ite, ev_tup, ev_lst, ev_idx, ev_slc00, ev_slc10, ev_slc01, ev_call, ev_callv, ev_comp, ev_blt, ev_meth, evs_cons, evI_seq, evI_rng, evI_zip, evT_and, evT_or, evT_not, evT_cmp, evT_call, evT_blt, evT_var, evT_idx, e, c, d, ← eq, e2, (F.trans F').take], ⟨w, rfl, by omega, by omega⟩, S''.up (by omega), F.trans F'⟩
  by_cases g : v = 7
  · subst g
    obtain ⟨q, eq⟩ : ∃ q : Int, q = (if 1000 < high then 1000 else high) := ⟨_, rfl⟩
    have q1 : 1 ≤ q ∧ q ≤ high := by rw [eq]; split <;> omega
    obtain ⟨x, h'', e2, ⟨w, rfl, w1, w2⟩, S'', F'⟩ := rn_span (n := m) (s := s) (by omega) (low := -q) (high := q) (by omega) (big _ (by omega) (by omega)) L (N + 1) h' S' (by omega)
    exact ⟨_, h'', by simp [f__law_integer, b__law_integer, startS, exs_cons, ex_set, ex_par, ex_unp, ex_seti, ex_expr, ex_ret, ex_if, ex_while, ex_for, ex_raise, ex_try, ex_frz, ev_bin, ev_neg, ev_cmp, ev_and, ev_or, ev_not, ev_ite, ev_tup, ev_lst, ev_idx, ev_slc00, ev_slc10, ev_slc01, ev_call, ev_callv, ev_comp, ev_blt, ev_meth, evs_cons, evI_seq, evI_rng, evI_zip, evT_and, evT_or, evT_not, evT_cmp, evT_call, evT_blt, evT_var, evT_idx, e, ← eq, e2, (F.trans F').take], ⟨w, rfl, by omega, by omega⟩, S''.up (by omega), F.trans F'⟩
  have g' : (v == 7) = false := by simp [g]
  obtain ⟨x, h'', e2, ⟨w, rfl, w1, w2⟩, S'', F'⟩ := rn_wide (n := m) (s := s) (by omega) (2 * high + 1) L (N + 1) h' S' (by omega)
  have mo : mulOk 2 high = true := mulOk_of' (lt64 (by decide)) (small' hh (by decide))
  refine ⟨.int (w - high), h'', by simp [f__law_integer, b__law_integer, startS, exs_cons, ex_set, ex_par, ex_unp, ex_seti, ex_expr, ex_ret, ex_if, ex_while, ex_for, ex_raise, ex_try, ex_frz, ev_bin, ev_neg, ev_cmp, ev_and, ev_or, ev_not, ev_ite, ev_tup, ev_lst, ev_idx, ev_slc00, ev_slc10, ev_slc01, ev_call, ev_callv, ev_comp, ev_blt, ev_meth, evs_cons, evI_seq, evI_rng, evI_zip, evT_and, evT_or, evT_not, evT_cmp, evT_call, evT_blt, evT_var, evT_idx, e, c, d, g', bin2_mul mo, e2, (F.trans F').take], ⟨_, rfl, by omega, ?_⟩, S''.up (by omega), F.trans F'⟩
  rcases w2 with w2 | w2 <;> omega
theorem low_loop (G : Gm) (h : Hea) (x0 x1 : Option D) : ∀ (fuel : Nat) (a b : Nat), b < fuel →
    runWhile G (.cmp .gt (.var 3) (.con (.int 0))) l__law_lowest_1 fuel [x0, x1, some (.p (.int a)), some (.p (.int b))] h = .next [x0, x1, some (.p (.int (Nat.gcd a b : Nat))), some (.p (.int 0))] h
  | 0, a, b, hb => by omega
  | fuel + 1, a, b, hb => by
    rw [whileS]
    by_cases c : b = 0
    · subst c
      simp [exs_cons, ex_set, ex_par, ex_unp, ex_seti, ex_expr, ex_ret, ex_if, ex_while, ex_for, ex_raise, ex_try, ex_frz, ev_bin, ev_neg, ev_cmp, ev_and, ev_or, ev_not, ev_ite, ev_tup, ev_lst, ev_idx, ev_slc00, ev_slc10, ev_slc01, ev_call, ev_callv, ev_comp, ev_blt, ev_meth, evs_cons, evI_seq, evI_rng, evI_zip, evT_and, evT_or, evT_not, evT_cmp, evT_call, evT_blt, evT_var, evT_idx]
    · have h0 : (0 : Int) < (b : Int) := by omega
      have e : ((a : Int) % (b : Int)) = ((a % b : Nat) : Int) := by simp
      have ih := low_loop G h x0 x1 fuel b (a % b) (by have := Nat.mod_lt a (Nat.pos_of_ne_zero c); omega)
      have g : Nat.gcd b (a % b) = Nat.gcd a b := by rw [Nat.gcd_comm, ← Nat.gcd_rec, Nat.gcd_comm]
      rw [← e, g] at ih
      have body : exs G [x0, x1, some (.p (.int (a : Int))), some (.p (.int (b : Int)))] l__law_lowest_1 h = .next [x0, x1, some (.p (.int (b : Int))), some (.p (.int ((a : Int) % (b : Int))))] h := by
        simp [l__law_lowest_1, exs_cons, ex_set, ex_par, ex_unp, ex_seti, ex_expr, ex_ret, ex_if, ex_while, ex_for, ex_raise, ex_try, ex_frz, ev_bin, ev_neg, ev_cmp, ev_and, ev_or, ev_not, ev_ite, ev_tup, ev_lst, ev_idx, ev_slc00, ev_slc10, ev_slc01, ev_call, ev_callv, ev_comp, ev_blt, ev_meth, evs_cons, evI_seq, evI_rng, evI_zip, evT_and, evT_or, evT_not, evT_cmp, evT_call, evT_blt, evT_var, evT_idx, bin2_mod h0]
      have c' : 0 < b := by omega
      simp [exs_cons, ex_set, ex_par, ex_unp, ex_seti, ex_expr, ex_ret, ex_if, ex_while, ex_for, ex_raise, ex_try, ex_frz, ev_bin, ev_neg, ev_cmp, ev_and, ev_or, ev_not, ev_ite, ev_tup, ev_lst, ev_idx, ev_slc00, ev_slc10, ev_slc01, ev_call, ev_callv, ev_comp, ev_blt, ev_meth, evs_cons, evI_seq, evI_rng, evI_zip, evT_and, evT_or, evT_not, evT_cmp, evT_call, evT_blt, evT_var, evT_idx, body, c', ih]
theorem lowest {n : Nat} (hn : 1 ≤ n) (a : Int) (b : Nat) (hb : 0 < b) (hB : b < 2 ^ 9000) (h : Hea) : callN T n i__law_lowest [.p (.int a), .p (.int (b : Nat))] h = .ok (.p (rt (mkRat a b))) h := by
  obtain ⟨m, rfl⟩ : ∃ m, n = m + 1 := ⟨n - 1, by omega⟩
  have fz : b < FUEL := Nat.lt_of_lt_of_le hB (by unfold FUEL; exact Nat.pow_le_pow_right (by decide) (by decide))
  have e := low_loop ⟨callN T m, h.length⟩ h (some (.p (.int a))) (some (.p (.int (b : Nat)))) FUEL a.natAbs b fz
  obtain ⟨l1, l2⟩ := low_law a b (Nat.ne_of_gt hb) _ rfl
  obtain ⟨g, eg⟩ : ∃ g, g = Int.gcd a b := ⟨_, rfl⟩
  have ge : Nat.gcd a.natAbs b = g := by rw [eg]; rfl
  rw [← eg] at l1 l2
  rw [ge] at e
  have gp : 0 < g := by rw [eg]; exact gcd_pos hb
  have gl : g ≤ b := by rw [eg]; exact gcd_le hb
  have d1 : divOk (g : Int) = true := divOk_of' (by omega) (by rw [Int.natAbs_natCast]; omega)
  have mx : (if (1 : Int) < (g : Int) then (g : Int) else 1) = (g : Int) := by split <;> omega
  have nb : ¬ ((b : Int) < 0) := by omega
  have l2' : (((mkRat a b).den : Nat) : Int) = (b : Int) / (g : Int) := by rw [l2]; simp
  rw [call_eq (fd := f__law_lowest) rfl rfl]
  simp [f__law_lowest, b__law_lowest, startS, exs_cons, ex_set, ex_par, ex_unp, ex_seti, ex_expr, ex_ret, ex_if, ex_while, ex_for, ex_raise, ex_try, ex_frz, ev_bin, ev_neg, ev_cmp, ev_and, ev_or, ev_not, ev_ite, ev_tup, ev_lst, ev_idx, ev_slc00, ev_slc10, ev_slc01, ev_call, ev_callv, ev_comp, ev_blt, ev_meth, evs_cons, evI_seq, evI_rng, evI_zip, evT_and, evT_or, evT_not, evT_cmp, evT_call, evT_blt, evT_var, evT_idx, e, mx, nb, bin2_fdiv d1, rt, l1, l2']
/-- small in num and den -/
def Rb (k : Nat) (q : Rat) : Prop := q.num.natAbs < 2 ^ k ∧ q.den < 2 ^ k
theorem Rb.up {k k' : Nat} {q : Rat} (h : Rb k q) (l : k ≤ k') : Rb k' q := ⟨small' h.1 l, small' h.2 l⟩
theorem Rb.ok {k : Nat} {q : Rat} (h : Rb k q) (l : k ≤ 8000) : Rok q := ⟨small' h.1 l, small' h.2 l⟩
theorem den_dvd_mk (a : Int) (b : Nat) (hb : b ≠ 0) : (mkRat a b).den ∣ b := by
  obtain ⟨_, l2⟩ := low_law a b hb _ rfl
  rw [l2]
  exact Nat.div_dvd_of_dvd (Nat.gcd_dvd_right _ _)
theorem num_le_mk (a : Int) (b : Nat) (hb : b ≠ 0) : (mkRat a b).num.natAbs ≤ a.natAbs := by
  obtain ⟨l1, _⟩ := low_law a b hb _ rfl
  rw [l1]
  exact div_natAbs
theorem mk_rb {a : Int} {b k : Nat} (hb : 0 < b) (h1 : a.natAbs < 2 ^ k) (h2 : b < 2 ^ k) : Rb k (mkRat a b) :=
  ⟨Nat.lt_of_le_of_lt (num_le_mk a b (Nat.ne_of_gt hb)) h1, Nat.lt_of_le_of_lt (Nat.le_of_dvd hb (den_dvd_mk a b (Nat.ne_of_gt hb))) h2⟩
theorem law_plus {n : Nat} (hn : 2 ≤ n) {p q : Rat} (hp : Rb 4000 p) (hq : Rb 4000 q) (h : Hea) : callN T n i__law_plus [.p (rt p), .p (rt q)] h = .ok (.p (rt (p + q))) h := by
  obtain ⟨m, rfl⟩ : ∃ m, n = m + 1 := ⟨n - 1, by omega⟩
  have dl : p.den * q.den < 2 ^ 9000 := small' (n := 8000) (by rw [show 8000 = 4000 + 4000 from rfl, Nat.pow_add]; exact Nat.mul_lt_mul'' hp.2 hq.2) (by decide)
  have e := lowest (n := m) (by omega) (p.num * q.den + q.num * p.den) (p.den * q.den) (Nat.mul_pos p.den_pos q.den_pos) dl h
  rw [← Rat.add_def', Int.natCast_mul] at e
  have b := fun (z : Rat) (hz : Rb 4000 z) => (⟨small' hz.1 (by decide), by rw [Int.natAbs_natCast]; exact small' hz.2 (by decide)⟩ : z.num.natAbs < 2 ^ 400000 ∧ ((z.den : Nat) : Int).natAbs < 2 ^ 400000)
  have m1 := mulOk_of' (b p hp).1 (b q hq).2
  have m2 := mulOk_of' (b q hq).1 (b p hp).2
  have m3 := mulOk_of' (b p hp).2 (b q hq).2
  rw [call_eq (fd := f__law_plus) rfl rfl]
  simp only [rt] at e ⊢
  simp [f__law_plus, b__law_plus, startS, exs_cons, ex_set, ex_par, ex_unp, ex_seti, ex_expr, ex_ret, ex_if, ex_while, ex_for, ex_raise, ex_try, ex_frz, ev_bin, ev_neg, ev_cmp, ev_and, ev_or, ev_not, ev_ite, ev_tup, ev_lst, ev_idx, ev_slc00, ev_slc10, ev_slc01, ev_call, ev_callv, ev_comp, ev_blt, ev_meth, evs_cons, evI_seq, evI_rng, evI_zip, evT_and, evT_or, evT_not, evT_cmp, evT_call, evT_blt, evT_var, evT_idx, bin2_mul m1, bin2_mul m2, bin2_mul m3, e]
theorem law_minus {n : Nat} (hn : 2 ≤ n) {p q : Rat} (hp : Rb 4000 p) (hq : Rb 4000 q) (h : Hea) : callN T n i__law_minus [.p (rt p), .p (rt q)] h = .ok (.p (rt (p - q))) h := by
  obtain ⟨m, rfl⟩ : ∃ m, n = m + 1 := ⟨n - 1, by omega⟩
  have dl : p.den * q.den < 2 ^ 9000 := small' (n := 8000) (by rw [show 8000 = 4000 + 4000 from rfl, Nat.pow_add]; exact Nat.mul_lt_mul'' hp.2 hq.2) (by decide)
  have e := lowest (n := m) (by omega) (p.num * q.den - q.num * p.den) (p.den * q.den) (Nat.mul_pos p.den_pos q.den_pos) dl h
  rw [← Rat.sub_def', Int.natCast_mul] at e
  have b := fun (z : Rat) (hz : Rb 4000 z) => (⟨small' hz.1 (by decide), by rw [Int.natAbs_natCast]; exact small' hz.2 (by decide)⟩ : z.num.natAbs < 2 ^ 400000 ∧ ((z.den : Nat) : Int).natAbs < 2 ^ 400000)
  have m1 := mulOk_of' (b p hp).1 (b q hq).2
  have m2 := mulOk_of' (b q hq).1 (b p hp).2
  have m3 := mulOk_of' (b p hp).2 (b q hq).2
  rw [call_eq (fd := f__law_minus) rfl rfl]
  simp only [rt] at e ⊢
  simp [f__law_minus, b__law_minus, startS, exs_cons, ex_set, ex_par, ex_unp, ex_seti, ex_expr, ex_ret, ex_if, ex_while, ex_for, ex_raise, ex_try, ex_frz, ev_bin, ev_neg, ev_cmp, ev_and, ev_or, ev_not, ev_ite, ev_tup, ev_lst, ev_idx, ev_slc00, ev_slc10, ev_slc01, ev_call, ev_callv, ev_comp, ev_blt, ev_meth, evs_cons, evI_seq, evI_rng, evI_zip, evT_and, evT_or, evT_not, evT_cmp, evT_call, evT_blt, evT_var, evT_idx, bin2_mul m1, bin2_mul m2, bin2_mul m3, e]
theorem law_times {n : Nat} (hn : 2 ≤ n) {p q : Rat} (hp : Rb 4000 p) (hq : Rb 4000 q) (h : Hea) : callN T n i__law_times [.p (rt p), .p (rt q)] h = .ok (.p (rt (p * q))) h := by
  obtain ⟨m, rfl⟩ : ∃ m, n = m + 1 := ⟨n - 1, by omega⟩
  have dl : p.den * q.den < 2 ^ 9000 := small' (n := 8000) (by rw [show 8000 = 4000 + 4000 from rfl, Nat.pow_add]; exact Nat.mul_lt_mul'' hp.2 hq.2) (by decide)
  have e := lowest (n := m) (by omega) (p.num * q.num) (p.den * q.den) (Nat.mul_pos p.den_pos q.den_pos) dl h
  rw [← Rat.mul_def', Int.natCast_mul] at e
  have b := fun (z : Rat) (hz : Rb 4000 z) => (⟨small' hz.1 (by decide), by rw [Int.natAbs_natCast]; exact small' hz.2 (by decide)⟩ : z.num.natAbs < 2 ^ 400000 ∧ ((z.den : Nat) : Int).natAbs < 2 ^ 400000)
  have m1 := mulOk_of' (b p hp).1 (b q hq).1
  have m3 := mulOk_of' (b p hp).2 (b q hq).2
  rw [call_eq (fd := f__law_times) rfl rfl]
  simp only [rt] at e ⊢
  simp [f__law_times, b__law_times, startS, exs_cons, ex_set, ex_par, ex_unp, ex_seti, ex_expr, ex_ret, ex_if, ex_while, ex_for, ex_raise, ex_try, ex_frz, ev_bin, ev_neg, ev_cmp, ev_and, ev_or, ev_not, ev_ite, ev_tup, ev_lst, ev_idx, ev_slc00, ev_slc10, ev_slc01, ev_call, ev_callv, ev_comp, ev_blt, ev_meth, evs_cons, evI_seq, evI_rng, evI_zip, evT_and, evT_or, evT_not, evT_cmp, evT_call, evT_blt, evT_var, evT_idx, bin2_mul m1, bin2_mul m3, e]
theorem law_compare {n : Nat} (hn : 1 ≤ n) {p q : Rat} (hp : Rok p) (hq : Rok q) (h : Hea) : callN T n i__law_compare [.p (rt p), .p (rt q)] h = .ok (.p (.int (ordR p q))) h := by
  obtain ⟨m, rfl⟩ : ∃ m, n = m + 1 := ⟨n - 1, by omega⟩
  have b := fun (z : Rat) (hz : Rok z) => (⟨small' hz.1 (by decide), by rw [Int.natAbs_natCast]; exact small' hz.2 (by decide)⟩ : z.num.natAbs < 2 ^ 400000 ∧ ((z.den : Nat) : Int).natAbs < 2 ^ 400000)
  have m1 := mulOk_of' (b p hp).1 (b q hq).2
  have m2 := mulOk_of' (b q hq).1 (b p hp).2
  have e : ((if decide (0 < p.num * (q.den : Int) - q.num * (p.den : Int)) = true then (1 : Int) else 0) - (if decide (p.num * (q.den : Int) - q.num * (p.den : Int) < 0) = true then 1 else 0)) = ordR p q := by
    unfold ordR
    simp only [Rat.lt_iff, decide_eq_true_eq]
    by_cases c : p.num * (q.den : Int) < q.num * (p.den : Int)
    · rw [if_pos c, if_neg (by omega), if_pos (by omega)]; rfl
    · rw [if_neg c]
      by_cases d : q.num * (p.den : Int) < p.num * (q.den : Int)
      · rw [if_pos d, if_pos (by omega), if_neg (by omega)]; rfl
      · rw [if_neg d, if_neg (by omega), if_neg (by omega)]; rfl
  rw [← e]
  rw [call_eq (fd := f__law_compare) rfl rfl]
  simp only [rt]
  simp [f__law_compare, b__law_compare, startS, exs_cons, ex_set, ex_par, ex_unp, ex_seti, ex_expr, ex_ret, ex_if, ex_while, ex_for, ex_raise, ex_try, ex_frz, ev_bin, ev_neg, ev_cmp, ev_and, ev_or, ev_not, ev_ite, ev_tup, ev_lst, ev_idx, ev_slc00, ev_slc10, ev_slc01, ev_call, ev_callv, ev_comp, ev_blt, ev_meth, evs_cons, evI_seq, evI_rng, evI_zip, evT_and, evT_or, evT_not, evT_cmp, evT_call, evT_blt, evT_var, evT_idx, bin2_mul m1, bin2_mul m2]
end K15

set_option linter.all false
set_option maxRecDepth 100000
set_option maxHeartbeats 1000000
set_option exponentiation.threshold 700
namespace K15
open Mp
/-! ### cells on top of the store's -/
theorem cell_app {h r : Hea} {n : Nat} (l : n < h.length) : cellAt (h ++ r) n = cellAt h n := by
  unfold cellAt
  rw [List.getElem?_append_left l]
theorem St.app {L s N : Nat} {h r : Hea} (S : St L s N h) : St L s N (h ++ r) := by
  obtain ⟨a, b, c, x1, x2, x3, x4, x5, e1, e2, e3, e4, e5, e6⟩ := S
  refine ⟨a, by rw [List.length_append]; omega, c, x1, x2, x3, x4, x5, by rw [cell_app (cell_lt e1)]; exact e1, e2, e3, e4, by rw [cell_app (cell_lt e5)]; exact e5, fun r hr => ?_⟩
  obtain ⟨g1, g2, g3, v, q, g4⟩ := e6 r hr
  exact ⟨g1, g2, g3, v, q, by rw [cell_app (cell_lt g4)]; exact g4⟩
theorem St.unapp {L s N : Nat} {h r : Hea} (S : St L s N (h ++ r)) (l : L ≤ h.length) : St L s N h := by
  obtain ⟨a, b, c, x1, x2, x3, x4, x5, e1, e2, e3, e4, e5, e6⟩ := S
  refine ⟨a, l, c, x1, x2, x3, x4, x5, by rw [← cell_app (r := r) (by omega)]; exact e1, e2, e3, e4, by rw [← cell_app (r := r) (by omega)]; exact e5, fun r' hr => ?_⟩
  obtain ⟨g1, g2, g3, v, q, g4⟩ := e6 r' hr
  exact ⟨g1, g2, g3, v, q, by rw [← cell_app (r := r) (by omega)]; exact g4⟩
theorem Fr.split {L : Nat} {h r h' : Hea} (F : Fr L (h ++ r) h') (l : L ≤ h.length) : ∃ h1, h' = h1 ++ r ∧ Fr L h h1 := by
  have hl := F.len
  rw [List.length_append] at hl
  refine ⟨h'.take h.length, ?_, ?_, fun i hi => ?_⟩
  · have e : h'.drop h.length = r := by
      refine List.ext_getElem? fun i => ?_
      rw [List.getElem?_drop, F.same _ (by omega), List.getElem?_append_right (by omega)]
      congr 1
      omega
    conv => lhs; rw [← List.take_append_drop h.length h', e]
  · rw [List.length_take]; omega
  · by_cases c : i < h.length
    · rw [List.getElem?_take_of_lt c, F.same i hi, List.getElem?_append_left c]
    · rw [List.getElem?_eq_none (by rw [List.length_take]; omega), List.getElem?_eq_none (by omega)]
theorem Fr.app {L : Nat} {h h' r : Hea} (F : Fr L h h') : Fr L (h ++ r) (h' ++ r) := by
  have fl := F.len
  refine ⟨by rw [List.length_append, List.length_append, F.len], fun i hi => ?_⟩
  by_cases c : i < h.length
  · rw [List.getElem?_append_left c, List.getElem?_append_left (by rw [F.len]; exact c)]
    exact F.same i hi
  · rw [List.getElem?_append_right (by omega), List.getElem?_append_right (by omega), F.len]
/-- a def that draws, with a list in the making on top -/
theorem Rn.top {n i k s : Nat} {as : List D} {Φ : P → Prop} (r : Rn n i k as s Φ) {L N : Nat} {h t : Hea} (S : St L s N h) (l : N + k ≤ 2 ^ 36) : ∃ x h', callN T n i as (h ++ t) = .ok (.p x) (h' ++ t) ∧ Φ x ∧ St L s (N + k) h' ∧ Fr L h h' := by
  obtain ⟨x, h', e, p, S', F⟩ := r L N (h ++ t) S.app l
  obtain ⟨h1, rfl, F1⟩ := F.split S.ll
  exact ⟨x, h1, e, p, S'.unapp (by rw [F1.len]; exact S.ll), F1⟩
theorem seti_last {bs : Nat} {ρ : Slots} {x : P} {h : Hea} {i : Nat} {ds : List D} (l : i < ds.length) : seti1 bs ρ (.p x) (.ref h.length) (.p (.int (i : Nat))) (h ++ [some ds]) = .next ρ (h ++ [some (ds.set i (.p x))]) := by
  rw [seti_ref cell_last l, set_last]
/-- a comprehension whose elements draw -/
theorem comp_rn {G : Gm} {ρ : Slots} {vs : List Nat} {tg : Tg} {elt : Ex} {L s k : Nat} {Φ : P → Prop} : ∀ {xs : List P} {N : Nat} {h : Hea}, (∀ x ∈ xs, ∀ N h, St L s N h → N + k ≤ 2 ^ 36 → ∃ ρ' y h', bindTg (wipe ρ vs) tg x = some ρ' ∧ ev G ρ' elt h = .ok (.p y) h' ∧ Φ y ∧ St L s (N + k) h' ∧ Fr L h h') → St L s N h → N + k * xs.length ≤ 2 ^ 36 →
    ∃ (ys : List P) (h' : Hea), runComp G ρ vs tg .nil elt xs h = .ok (ys.map D.p) h' ∧ ys.length = xs.length ∧ (∀ y ∈ ys, Φ y) ∧ St L s (N + k * xs.length) h' ∧ Fr L h h'
  | [], N, h, _, S, _ => ⟨[], h, rfl, rfl, by simp, by simpa using S, Fr.refl⟩
  | x :: xs, N, h, hx, S, hN => by
    have eN : k * (x :: xs).length = k * xs.length + k := by rw [List.length_cons, Nat.mul_succ]
    rw [eN] at hN ⊢
    obtain ⟨ρ', y, h1, eb, e, p, S1, F1⟩ := hx x List.mem_cons_self N h S (by omega)
    obtain ⟨ys, h2, e2, l2, p2, S2, F2⟩ := comp_rn (xs := xs) (fun z hz => hx z (List.mem_cons_of_mem _ hz)) S1 (by omega)
    refine ⟨y :: ys, h2, ?_, by simp [l2], ?_, S2.up (by omega), F1.trans F2⟩
    · obtain ⟨one, h3⟩ : ∃ one, one = (fun (x : P) (h : Hea) => match bindTg (wipe ρ vs) tg x with
        | some ρ' => (evC G ρ' .nil h).bind fun k h => if k = true then (ev G ρ' elt h).bind fun d h => R.ok (some d) h else .ok none h
        | none => .stuck) := ⟨_, rfl⟩
      have u : ∀ ys h, runComp G ρ vs tg .nil elt ys h = R.noexn (compLoop one ys h) := fun ys h => by rw [h3]; rfl
      rw [u] at e2 ⊢
      have e3 : one x h = .ok (some (.p y)) h1 := by
        rw [h3]
        show (match bindTg (wipe ρ vs) tg x with
        | some ρ' => (evC G ρ' .nil h).bind fun k h => if k = true then (ev G ρ' elt h).bind fun d h => R.ok (some d) h else .ok none h
        | none => .stuck) = _
        rw [eb]
        show (evC G ρ' .nil h).bind _ = _
        rw [evC_nil, bind_ok, if_pos rfl, e, bind_ok]
      show R.noexn ((one x h).bind fun o h => (compLoop one xs h).bind fun r h => .ok (match o with | some d => d :: r | none => r) h) = _
      rw [e3, bind_ok]
      cases c : compLoop one xs h1 with
      | ok ds h4 =>
        rw [c] at e2
        have e2 : R.ok ds h4 = R.ok (ys.map D.p) h2 := e2
        cases e2
        rfl
      | exn _ _ _ => rw [c] at e2; cases e2
      | stuck => rw [c] at e2; cases e2
    · intro z hz
      rcases List.mem_cons.mp hz with w | w
      · rw [w]; exact p
      · exact p2 z w
/-! ### ratios drawn -/
structure Cl (g : Bool) (q : Rat) : Prop where
  num : q.num.natAbs ≤ 10 ^ 200
  den : q.den ≤ 10 ^ 200
  lil : g = false → q.den ∣ 60 ∧ q.num.natAbs ≤ 30
theorem Cl.rb {g : Bool} {q : Rat} (h : Cl g q) : Rb 700 q := by
  have e : (10 : Nat) ^ 200 < 2 ^ 700 := by decide +kernel
  exact ⟨Nat.lt_of_le_of_lt h.num e, Nat.lt_of_le_of_lt h.den e⟩
theorem cl_lil {g : Bool} {q : Rat} (h1 : q.den ∣ 60) (h2 : q.num.natAbs ≤ 30) : Cl g q := by
  have e : (60 : Nat) ≤ 10 ^ 200 := by decide +kernel
  have := Nat.le_of_dvd (by decide) h1
  exact ⟨by omega, by omega, fun _ => ⟨h1, h2⟩⟩
theorem cl_mk {g : Bool} {a : Int} {b : Nat} (h0 : 0 < b) (h1 : b ∣ 60) (h2 : a.natAbs ≤ 30) : Cl g (mkRat a b) :=
  cl_lil (Nat.dvd_trans (den_dvd_mk a b (Nat.ne_of_gt h0)) h1) (Nat.le_trans (num_le_mk a b (Nat.ne_of_gt h0)) h2)
theorem cl_big {a : Int} {b : Nat} (h0 : 0 < b) (h1 : b ≤ 10 ^ 200) (h2 : a.natAbs ≤ 10 ^ 200) : Cl true (mkRat a b) :=
  ⟨Nat.le_trans (num_le_mk a b (Nat.ne_of_gt h0)) h2, Nat.le_trans (Nat.le_of_dvd h0 (den_dvd_mk a b (Nat.ne_of_gt h0))) h1, fun z => by cases z⟩
theorem dvd60 {b : Int} (h1 : 1 ≤ b) (h2 : b ≤ 6) : b.toNat ∣ 60 := by
  have : b = 1 ∨ b = 2 ∨ b = 3 ∨ b = 4 ∨ b = 5 ∨ b = 6 := by omega
  rcases this with rfl | rfl | rfl | rfl | rfl | rfl <;> decide
theorem rn_ratio {n s : Nat} (hn : 5 ≤ n) (g : Bool) : Rn n i__law_ratio 40 [.ref s, .p (.bl g)] s fun x => ∃ q, x = rt q ∧ Cl g q := fun L N h S l => by
  obtain ⟨m, rfl⟩ : ∃ m, n = m + 1 := ⟨n - 1, by omega⟩
  obtain ⟨x, h', e, ⟨v, rfl, v1, v2, v3⟩, S', F⟩ := rn_take (n := m) (s := s) (by omega) 9 (small' (n := 10) (by decide) (by decide)) L N h S (by omega)
  rw [call_eq (fd := f__law_ratio) rfl rfl]
  by_cases c : v < 3
  · obtain ⟨x, h'', e2, p, S'', F'⟩ := rn_pick (n := m) (s := s) (xs := [.tup [.int 0, .int 1], .tup [.int 1, .int 1], .tup [.int (-1), .int 1], .tup [.int 1, .int 2], .tup [.int (-1), .int 2], .tup [.int 2, .int 1], .tup [.int (-3), .int 2]]) (by omega) (by simp) (by simp) L (N + 1) h' S' (by omega)
    have ml := mk_list (h := h') (xs := [.tup [.int 0, .int 1], .tup [.int 1, .int 1], .tup [.int (-1), .int 1], .tup [.int 1, .int 2], .tup [.int (-1), .int 2], .tup [.int 2, .int 1], .tup [.int (-3), .int 2]]) (lim1000 (by simp))
    simp at ml e2
    refine ⟨x, h'', by simp [f__law_ratio, b__law_ratio, startS, exs_cons, ex_set, ex_par, ex_unp, ex_seti, ex_expr, ex_ret, ex_if, ex_while, ex_for, ex_raise, ex_try, ex_frz, ev_bin, ev_neg, ev_cmp, ev_and, ev_or, ev_not, ev_ite, ev_tup, ev_lst, ev_idx, ev_slc00, ev_slc10, ev_slc01, ev_call, ev_callv, ev_comp, ev_blt, ev_meth, evs_cons, evI_seq, evI_rng, evI_zip, evT_and, evT_or, evT_not, evT_cmp, evT_call, evT_blt, evT_var, evT_idx, e, c, ml, e2, (F.trans F').take], ?_, S''.up (by omega), F.trans F'⟩
    simp only [List.mem_cons, List.not_mem_nil, or_false] at p
    rcases p with rfl | rfl | rfl | rfl | rfl | rfl | rfl
    · exact ⟨⟨0, 1, by decide, by decide⟩, rfl, cl_lil (by decide) (by decide)⟩
    · exact ⟨⟨1, 1, by decide, by decide⟩, rfl, cl_lil (by decide) (by decide)⟩
    · exact ⟨⟨-1, 1, by decide, by decide⟩, rfl, cl_lil (by decide) (by decide)⟩
    · exact ⟨⟨1, 2, by decide, by decide⟩, rfl, cl_lil (by decide) (by decide)⟩
    · exact ⟨⟨-1, 2, by decide, by decide⟩, rfl, cl_lil (by decide) (by decide)⟩
    · exact ⟨⟨2, 1, by decide, by decide⟩, rfl, cl_lil (by decide) (by decide)⟩
    · exact ⟨⟨-3, 2, by decide, by decide⟩, rfl, cl_lil (by decide) (by decide)⟩
  by_cases d : v < 7 ∨ g = false
  · obtain ⟨x1, h1, e1, ⟨a, rfl, a1, a2⟩, S1, F1⟩ := rn_span (n := m) (s := s) (low := -12) (high := 12) (by omega) (by decide) (small' (n := 10) (by decide) (by decide)) L (N + 1) h' S' (by omega)
    obtain ⟨x2, h2, e2, ⟨b, rfl, b1, b2⟩, S2, F2⟩ := rn_span (n := m) (s := s) (low := 1) (high := 6) (by omega) (by decide) (small' (n := 10) (by decide) (by decide)) L (N + 1 + 1) h1 S1 (by omega)
    have bp : 0 < b.toNat := by omega
    have lo := lowest (n := m) (by omega) a b.toNat bp (small' (n := 10) (by omega) (by decide)) h2
    rw [Int.toNat_of_nonneg (by omega)] at lo
    have FF := F.trans (F1.trans F2)
    refine ⟨_, h2, ?_, ⟨mkRat a b.toNat, rfl, cl_mk bp (dvd60 b1 b2) (by omega)⟩, S2.up (by omega), FF⟩
    by_cases d1 : v < 7
    · simp [f__law_ratio, b__law_ratio, startS, exs_cons, ex_set, ex_par, ex_unp, ex_seti, ex_expr, ex_ret, ex_if, ex_while, ex_for, ex_raise, ex_try, ex_frz, ev_bin, ev_neg, ev_cmp, ev_and, ev_or, ev_not, ev_ite, ev_tup, ev_lst, ev_idx, ev_slc00, ev_slc10, ev_slc01, ev_call, ev_callv, ev_comp, ev_blt, ev_meth, evs_cons, evI_seq, evI_rng, evI_zip, evT_and, evT_or, evT_not, evT_cmp, evT_call, evT_blt, evT_var, evT_idx, e, c, d1, e1, e2, lo, FF.take]
    · have d2 := d.resolve_left d1
      subst d2
      simp [f__law_ratio, b__law_ratio, startS, exs_cons, ex_set, ex_par, ex_unp, ex_seti, ex_expr, ex_ret, ex_if, ex_while, ex_for, ex_raise, ex_try, ex_frz, ev_bin, ev_neg, ev_cmp, ev_and, ev_or, ev_not, ev_ite, ev_tup, ev_lst, ev_idx, ev_slc00, ev_slc10, ev_slc01, ev_call, ev_callv, ev_comp, ev_blt, ev_meth, evs_cons, evI_seq, evI_rng, evI_zip, evT_and, evT_or, evT_not, evT_cmp, evT_call, evT_blt, evT_var, evT_idx, e, c, d1, e1, e2, lo, FF.take]
  have d1 : ¬ v < 7 := fun z => d (.inl z)
  have d2 : g = true := by cases g with
    | true => rfl
    | false => exact absurd (.inr rfl) d
  subst d2
  have p6 := pow10 (k := 6) (h := h') (by decide)
  by_cases k : v = 7
  · subst k
    obtain ⟨x1, h1, e1, ⟨a, rfl, a1, a2⟩, S1, F1⟩ := rn_integer (n := m) (s := s) (high := 10 ^ 6) (by omega) (by decide) (small' (n := 30) (by decide) (by decide)) L (N + 1) h' S' (by omega)
    obtain ⟨x2, h2, e2, ⟨b, rfl, b1, b2⟩, S2, F2⟩ := rn_span (n := m) (s := s) (low := 1) (high := 1000) (by omega) (by decide) (small' (n := 12) (by decide) (by decide)) L (N + 1 + 15) h1 S1 (by omega)
    have bp : 0 < b.toNat := by omega
    have lo := lowest (n := m) (by omega) a b.toNat bp (small' (n := 12) (by omega) (by decide)) h2
    rw [Int.toNat_of_nonneg (by omega)] at lo
    have FF := F.trans (F1.trans F2)
    have e6 : (10 : Nat) ^ 6 ≤ 10 ^ 200 := by decide +kernel
    refine ⟨_, h2, ?_, ⟨mkRat a b.toNat, rfl, cl_big bp (by omega) (by omega)⟩, S2.up (by omega), FF⟩
    simp at p6 e1
    simp [f__law_ratio, b__law_ratio, startS, exs_cons, ex_set, ex_par, ex_unp, ex_seti, ex_expr, ex_ret, ex_if, ex_while, ex_for, ex_raise, ex_try, ex_frz, ev_bin, ev_neg, ev_cmp, ev_and, ev_or, ev_not, ev_ite, ev_tup, ev_lst, ev_idx, ev_slc00, ev_slc10, ev_slc01, ev_call, ev_callv, ev_comp, ev_blt, ev_meth, evs_cons, evI_seq, evI_rng, evI_zip, evT_and, evT_or, evT_not, evT_cmp, evT_call, evT_blt, evT_var, evT_idx, e, p6, e1, e2, lo, FF.take]
  · have k' : (v == 7) = false := by simp [k]
    obtain ⟨x1, h1, e1, ⟨a, rfl, a1, a2⟩, S1, F1⟩ := rn_wide (n := m) (s := s) (by omega) (2 * (10 ^ 200 - 1) + 1) L (N + 1) h' S' (by omega)
    obtain ⟨x2, h2, e2, ⟨b, rfl, b1, b2⟩, S2, F2⟩ := rn_wide (n := m) (s := s) (by omega) (10 ^ 200 - 1) L (N + 1 + 14) h1 S1 (by omega)
    have e200 : (1 : Int) < 10 ^ 200 := by decide +kernel
    have n200 : (((10 : Nat) ^ 200 : Nat) : Int) = 10 ^ 200 := by decide +kernel
    have bp : 0 < (1 + b).toNat := by omega
    have b3 : (1 + b).toNat ≤ 10 ^ 200 := by
      rcases b2 with z | z <;> omega
    have a3 : (a - (10 ^ 200 - 1)).natAbs ≤ 10 ^ 200 := by
      rcases a2 with z | z <;> omega
    have lo := lowest (n := m) (by omega) (a - (10 ^ 200 - 1)) (1 + b).toNat bp (Nat.lt_of_le_of_lt b3 (small' (n := 700) (by decide +kernel) (by decide))) h2
    rw [Int.toNat_of_nonneg (by omega)] at lo
    have FF := F.trans (F1.trans F2)
    have p64 := pow10 (k := 64) (h := h') (by decide)
    have p8 := pow10 (k := 8) (h := h') (by decide)
    have q1 : bin2 .mul (.p (.int (10 ^ 64))) (.p (.int (10 ^ 64))) h' = .ok (.p (.int (10 ^ 128))) h' := by rw [bin2_mul (by decide +kernel)]; rfl
    have q2 : bin2 .mul (.p (.int (10 ^ 128))) (.p (.int (10 ^ 64))) h' = .ok (.p (.int (10 ^ 192))) h' := by rw [bin2_mul (by decide +kernel)]; rfl
    have q3 : bin2 .mul (.p (.int (10 ^ 192))) (.p (.int (10 ^ 8))) h' = .ok (.p (.int (10 ^ 200))) h' := by rw [bin2_mul (by decide +kernel)]; rfl
    have q4 : bin2 .mul (.p (.int 2)) (.p (.int (10 ^ 200 - 1))) h' = .ok (.p (.int (2 * (10 ^ 200 - 1)))) h' := bin2_mul (by decide +kernel)
    refine ⟨_, h2, ?_, ⟨mkRat (a - (10 ^ 200 - 1)) (1 + b).toNat, rfl, cl_big bp b3 a3⟩, S2.up (by omega), FF⟩
    simp at p64 p8 q1 q2 q3 q4 e1 e2 lo
    simp [f__law_ratio, b__law_ratio, startS, exs_cons, ex_set, ex_par, ex_unp, ex_seti, ex_expr, ex_ret, ex_if, ex_while, ex_for, ex_raise, ex_try, ex_frz, ev_bin, ev_neg, ev_cmp, ev_and, ev_or, ev_not, ev_ite, ev_tup, ev_lst, ev_idx, ev_slc00, ev_slc10, ev_slc01, ev_call, ev_callv, ev_comp, ev_blt, ev_meth, evs_cons, evI_seq, evI_rng, evI_zip, evT_and, evT_or, evT_not, evT_cmp, evT_call, evT_blt, evT_var, evT_idx, e, c, d1, k', p64, p8, q1, q2, q3, q4, e1, e2, lo, FF.take]
end K15

set_option linter.all false
set_option maxRecDepth 100000
set_option maxHeartbeats 1000000
set_option exponentiation.threshold 700
namespace K15
open Mp
theorem mk_true {ds : List D} {h : Hea} (hl : ds.length ≤ LIM) : mk true ds h = .ok (.ref h.length) (h ++ [some ds]) := by
  unfold mk
  rw [if_pos hl]
theorem Fr.takeApp {L : Nat} {h h' r : Hea} (F : Fr L h h') : (h' ++ r).take h.length = h' := by rw [← F.len]; exact List.take_left
theorem map_set_ints {is : List Int} {i : Nat} {v : Int} : ((is.map P.int).map D.p).set i (.p (.int v)) = ((is.set i v).map P.int).map D.p := by
  rw [List.map_set, List.map_set]
theorem mem_set_or {α : Type} {l : List α} {i : Nat} {a b : α} (h : b ∈ l.set i a) : b ∈ l ∨ b = a := List.mem_or_eq_of_mem_set h
theorem ints_of {ys : List P} {Q : Int → Prop} (h : ∀ y ∈ ys, ∃ v, y = .int v ∧ Q v) : ∃ is : List Int, ys = is.map P.int ∧ is.length = ys.length ∧ ∀ i ∈ is, Q i := by
  induction ys with
  | nil => exact ⟨[], rfl, rfl, by simp⟩
  | cons y ys ih =>
    obtain ⟨is, rfl, hl, hq⟩ := ih fun z hz => h z (List.mem_cons_of_mem _ hz)
    obtain ⟨v, rfl, q⟩ := h y List.mem_cons_self
    refine ⟨v :: is, rfl, by simp, fun i hi => ?_⟩
    rcases List.mem_cons.mp hi with w | w
    · rw [w]; exact q
    · exact hq i w
def FormP (len : Nat) (high : Int) (x : P) : Prop := ∃ is, x = frm is ∧ is.length = len ∧ ∀ i ∈ is, -high ≤ i ∧ i ≤ high
theorem rn_form {n s : Nat} (hn : 5 ≤ n) {len : Nat} (l1 : 1 ≤ len) (l2 : len ≤ 4) {high : Int} (h1 : 1 ≤ high) (hh : high.natAbs < 2 ^ 600) : Rn n i__law_form 100 [.ref s, .p (.int (len : Nat)), .p (.int high)] s (FormP len high) := fun L N h S l => by
  obtain ⟨m, rfl⟩ : ∃ m, n = m + 1 := ⟨n - 1, by omega⟩
  obtain ⟨x, h', e, ⟨v, rfl, v1, v2, v3⟩, S', F⟩ := rn_take (n := m) (s := s) (by omega) 9 (small' (n := 10) (by decide) (by decide)) L N h S (by omega)
  have r := rng_at (d := len) (h := h') (by omega)
  have cz : runComp ⟨callN T m, h.length⟩ [some (.ref s), some (.p (.int (len : Nat))), some (.p (.int high)), some (.p (.int v)), none, none] [5] (.one 5) .nil e__law_form_1 ((List.range len).map fun k => P.int (k : Nat)) h' = .ok (((List.replicate len (0 : Int)).map P.int).map D.p) h' := by
    rw [comp_one (f := fun _ => .int 0) fun x _ => by simp [e__law_form_1, exs_cons, ex_set, ex_par, ex_unp, ex_seti, ex_expr, ex_ret, ex_if, ex_while, ex_for, ex_raise, ex_try, ex_frz, ev_bin, ev_neg, ev_cmp, ev_and, ev_or, ev_not, ev_ite, ev_tup, ev_lst, ev_idx, ev_slc00, ev_slc10, ev_slc01, ev_call, ev_callv, ev_comp, ev_blt, ev_meth, evs_cons, evI_seq, evI_rng, evI_zip, evT_and, evT_or, evT_not, evT_cmp, evT_call, evT_blt, evT_var, evT_idx]]
    congr 1
    rw [List.map_map, List.map_replicate, List.map_replicate]
    show (List.range len).map (fun _ => D.p (.int 0)) = _
    rw [List.map_const', List.length_range]
  have mt := mk_true (ds := ((List.replicate len (0 : Int)).map P.int).map D.p) (h := h') (lim1000 (by simp; omega))
  have zs : ∀ i ∈ List.replicate len (0 : Int), -high ≤ i ∧ i ≤ high := fun i hi => by
    have := List.eq_of_mem_replicate hi
    omega
  have tp := fun (h' : Hea) (is : List Int) => blt1_tuple_last (h := h') (xs := is.map P.int)
  rw [call_eq (fd := f__law_form) rfl rfl]
  by_cases c0 : v = 0
  · subst c0
    refine ⟨_, h', ?_, ⟨List.replicate len 0, rfl, by simp, zs⟩, S'.up (by omega), F⟩
    simp [-List.map_replicate, -List.map_map, f__law_form, b__law_form, startS, exs_cons, ex_set, ex_par, ex_unp, ex_seti, ex_expr, ex_ret, ex_if, ex_while, ex_for, ex_raise, ex_try, ex_frz, ev_bin, ev_neg, ev_cmp, ev_and, ev_or, ev_not, ev_ite, ev_tup, ev_lst, ev_idx, ev_slc00, ev_slc10, ev_slc01, ev_call, ev_callv, ev_comp, ev_blt, ev_meth, evs_cons, evI_seq, evI_rng, evI_zip, evT_and, evT_or, evT_not, evT_cmp, evT_call, evT_blt, evT_var, evT_idx, e, r, cz, mt, tp, F.takeApp, frm]
  have c0' : (v == 0) = false := by simp [c0]
  by_cases c1 : v = 1
  · subst c1
    obtain ⟨x, h2, e2, ⟨w, rfl, w1, w2⟩, S2, F2⟩ := (rn_integer (n := m) (s := s) (by omega) h1 hh).top (t := [some (((List.replicate len (0 : Int)).map P.int).map D.p)]) S' (by omega)
    have st : seti1 h.length [some (.ref s), some (.p (.int (len : Nat))), some (.p (.int high)), some (.p (.int 1)), some (.ref h'.length), none] (.p (.int w)) (.ref h'.length) (.p (.int 0)) (h2 ++ [some (((List.replicate len (0 : Int)).map P.int).map D.p)]) =
        .next [some (.ref s), some (.p (.int (len : Nat))), some (.p (.int high)), some (.p (.int 1)), some (.ref h'.length), none] (h2 ++ [some ((((List.replicate len (0 : Int)).set 0 w).map P.int).map D.p)]) := by
      rw [← map_set_ints, ← F2.len]
      exact seti_last (i := 0) (by simp; omega)
    have tp2 := tp h2 ((List.replicate len 0).set 0 w)
    rw [F2.len] at tp2
    refine ⟨_, h2, ?_, ⟨(List.replicate len 0).set 0 w, rfl, by simp, fun i hi => ?_⟩, S2.up (by omega), F.trans F2⟩
    · simp [-List.map_replicate, -List.map_map, -List.map_set, f__law_form, b__law_form, startS, exs_cons, ex_set, ex_par, ex_unp, ex_seti, ex_expr, ex_ret, ex_if, ex_while, ex_for, ex_raise, ex_try, ex_frz, ev_bin, ev_neg, ev_cmp, ev_and, ev_or, ev_not, ev_ite, ev_tup, ev_lst, ev_idx, ev_slc00, ev_slc10, ev_slc01, ev_call, ev_callv, ev_comp, ev_blt, ev_meth, evs_cons, evI_seq, evI_rng, evI_zip, evT_and, evT_or, evT_not, evT_cmp, evT_call, evT_blt, evT_var, evT_idx, e, r, cz, mt, e2, st, tp2, (F.trans F2).takeApp, frm]
    · rcases mem_set_or hi with z | z
      · exact zs i z
      · rw [z]; exact ⟨w1, w2⟩
  have c1' : (v == 1) = false := by simp [c1]
  by_cases c2 : v = 2
  · subst c2
    obtain ⟨x, h2, e2, p, S2, F2⟩ := (rn_pick (n := m) (s := s) (xs := [.int 1, .int (-1), .int high]) (by omega) (by simp) (by simp)).top (t := [some (((List.replicate len (0 : Int)).map P.int).map D.p)]) S' (by omega)
    obtain ⟨w, rfl, w1, w2⟩ : ∃ w, x = .int w ∧ -high ≤ w ∧ w ≤ high := by
      simp only [List.mem_cons, List.not_mem_nil, or_false] at p
      rcases p with rfl | rfl | rfl
      · exact ⟨_, rfl, by omega, by omega⟩
      · exact ⟨_, rfl, by omega, by omega⟩
      · exact ⟨_, rfl, by omega, by omega⟩
    obtain ⟨x, h3, e3, ⟨k, rfl, k1, k2, k3⟩, S3, F3⟩ := (rn_take (n := m) (s := s) (by omega) (len : Int) (len_big (by omega))).top (t := [some (((List.replicate len (0 : Int)).map P.int).map D.p)]) S2 (by omega)
    have kl : k.toNat < len := by
      by_cases c : 2 ≤ (len : Int)
      · have := k2 c; omega
      · have := k3 (by omega); omega
    have FF := F2.trans F3
    have ml := mk_list (h := h' ++ [some (((List.replicate len (0 : Int)).map P.int).map D.p)]) (xs := [.int 1, .int (-1), .int high]) (lim1000 (by simp))
    have st : seti1 h.length [some (.ref s), some (.p (.int (len : Nat))), some (.p (.int high)), some (.p (.int 2)), some (.ref h'.length), none] (.p (.int w)) (.ref h'.length) (.p (.int k)) (h3 ++ [some (((List.replicate len (0 : Int)).map P.int).map D.p)]) =
        .next [some (.ref s), some (.p (.int (len : Nat))), some (.p (.int high)), some (.p (.int 2)), some (.ref h'.length), none] (h3 ++ [some ((((List.replicate len (0 : Int)).set k.toNat w).map P.int).map D.p)]) := by
      rw [← map_set_ints, ← FF.len]
      have q := seti_last (bs := h.length) (ρ := [some (.ref s), some (.p (.int (len : Nat))), some (.p (.int high)), some (.p (.int 2)), some (.ref h3.length), none]) (x := .int w) (h := h3) (i := k.toNat) (ds := ((List.replicate len (0 : Int)).map P.int).map D.p) (by simp; omega)
      rw [Int.toNat_of_nonneg k1] at q
      exact q
    have tp2 := tp h3 ((List.replicate len 0).set k.toNat w)
    rw [FF.len] at tp2
    simp only [List.map_cons, List.map_nil] at ml
    refine ⟨_, h3, ?_, ⟨(List.replicate len 0).set k.toNat w, rfl, by simp, fun i hi => ?_⟩, S3.up (by omega), F.trans FF⟩
    · simp [-List.map_replicate, -List.map_map, -List.map_set, f__law_form, b__law_form, startS, exs_cons, ex_set, ex_par, ex_unp, ex_seti, ex_expr, ex_ret, ex_if, ex_while, ex_for, ex_raise, ex_try, ex_frz, ev_bin, ev_neg, ev_cmp, ev_and, ev_or, ev_not, ev_ite, ev_tup, ev_lst, ev_idx, ev_slc00, ev_slc10, ev_slc01, ev_call, ev_callv, ev_comp, ev_blt, ev_meth, evs_cons, evI_seq, evI_rng, evI_zip, evT_and, evT_or, evT_not, evT_cmp, evT_call, evT_blt, evT_var, evT_idx, e, r, cz, mt, ml, e2, e3, st, tp2, (F.trans FF).takeApp, frm]
    · rcases mem_set_or hi with z | z
      · exact zs i z
      · rw [z]; exact ⟨w1, w2⟩
  have c2' : (v == 2) = false := by simp [c2]
  have r2 := rng_at (d := len) (h := h' ++ [some (((List.replicate len (0 : Int)).map P.int).map D.p)]) (by omega)
  have ten : ∀ {ys : List P} {h2 : Hea}, ys.length ≤ 1000 → mk false (ys.map D.p) (h2 ++ [some (((List.replicate len (0 : Int)).map P.int).map D.p)]) = .ok (.p (.lst ys)) (h2 ++ [some (((List.replicate len (0 : Int)).map P.int).map D.p)]) := fun hl => mk_list (lim1000 hl)
  by_cases c3 : v < 7
  · obtain ⟨q, eq⟩ : ∃ q : Int, q = (if 4 < high then 4 else high) := ⟨_, rfl⟩
    have q1 : 1 ≤ q ∧ q ≤ high := by rw [eq]; split <;> omega
    obtain ⟨ys, h2, e2, yl, yp, S2, F2⟩ := comp_rn (G := ⟨callN T m, h.length⟩) (ρ := [some (.ref s), some (.p (.int (len : Nat))), some (.p (.int high)), some (.p (.int v)), some (.ref h'.length), none]) (vs := [5]) (tg := .one 5) (elt := e__law_form_2) (s := s) (L := L) (k := 1)
      (Φ := fun x => ∃ w, x = .int w ∧ -high ≤ w ∧ w ≤ high) (xs := (List.range len).map fun k => P.int (k : Nat)) (N := N + 1) (h := h' ++ [some (((List.replicate len (0 : Int)).map P.int).map D.p)]) (fun x _ N h SS l => by
        obtain ⟨y, h3, e3, ⟨w, rfl, w1, w2⟩, S3, F3⟩ := rn_span (n := m) (s := s) (by omega) (low := -q) (high := q) (by omega) (small' (n := 602) (by have : (2 : Nat) ^ 602 = 2 ^ 600 * 4 := by decide +kernel
                                                                                                                                                       omega) (by decide)) L N h SS l
        exact ⟨[some (.ref s), some (.p (.int (len : Nat))), some (.p (.int high)), some (.p (.int v)), some (.ref h'.length), some (.p x)], _, h3, rfl, by simp [e__law_form_2, exs_cons, ex_set, ex_par, ex_unp, ex_seti, ex_expr, ex_ret, ex_if, ex_while, ex_for, ex_raise, ex_try, ex_frz, ev_bin, ev_neg, ev_cmp, ev_and, ev_or, ev_not, ev_ite, ev_tup, ev_lst, ev_idx, ev_slc00, ev_slc10, ev_slc01, ev_call, ev_callv, ev_comp, ev_blt, ev_meth, evs_cons, evI_seq, evI_rng, evI_zip, evT_and, evT_or, evT_not, evT_cmp, evT_call, evT_blt, evT_var, evT_idx, ← eq, e3], ⟨w, rfl, by omega, by omega⟩, S3, F3⟩) S'.app (by simp; omega)
    obtain ⟨h3, rfl, F3⟩ := F2.split S'.ll
    obtain ⟨is, rfl, il, iq⟩ := ints_of yp
    have tq := ten (ys := is.map P.int) (h2 := h3) (by rw [yl]; simp; omega)
    simp at yl S2
    refine ⟨_, h3, ?_, ⟨is, rfl, by omega, iq⟩, (S2.unapp (by rw [F3.len]; exact S'.ll)).up (by omega), F.trans F3⟩
    simp [-List.map_replicate, -List.map_map, f__law_form, b__law_form, startS, exs_cons, ex_set, ex_par, ex_unp, ex_seti, ex_expr, ex_ret, ex_if, ex_while, ex_for, ex_raise, ex_try, ex_frz, ev_bin, ev_neg, ev_cmp, ev_and, ev_or, ev_not, ev_ite, ev_tup, ev_lst, ev_idx, ev_slc00, ev_slc10, ev_slc01, ev_call, ev_callv, ev_comp, ev_blt, ev_meth, evs_cons, evI_seq, evI_rng, evI_zip, evT_and, evT_or, evT_not, evT_cmp, evT_call, evT_blt, evT_var, evT_idx, e, r, cz, mt, c0', c1', c2', c3, r2, e2, tq, (F.trans F3).takeApp, frm]
  · obtain ⟨ys, h2, e2, yl, yp, S2, F2⟩ := comp_rn (G := ⟨callN T m, h.length⟩) (ρ := [some (.ref s), some (.p (.int (len : Nat))), some (.p (.int high)), some (.p (.int v)), some (.ref h'.length), none]) (vs := [5]) (tg := .one 5) (elt := e__law_form_3) (s := s) (L := L) (k := 15)
      (Φ := fun x => ∃ w, x = .int w ∧ -high ≤ w ∧ w ≤ high) (xs := (List.range len).map fun k => P.int (k : Nat)) (N := N + 1) (h := h' ++ [some (((List.replicate len (0 : Int)).map P.int).map D.p)]) (fun x _ N h SS l => by
        obtain ⟨y, h3, e3, ⟨w, rfl, w1, w2⟩, S3, F3⟩ := rn_integer (n := m) (s := s) (by omega) h1 hh L N h SS l
        exact ⟨[some (.ref s), some (.p (.int (len : Nat))), some (.p (.int high)), some (.p (.int v)), some (.ref h'.length), some (.p x)], _, h3, rfl, by simp [e__law_form_3, exs_cons, ex_set, ex_par, ex_unp, ex_seti, ex_expr, ex_ret, ex_if, ex_while, ex_for, ex_raise, ex_try, ex_frz, ev_bin, ev_neg, ev_cmp, ev_and, ev_or, ev_not, ev_ite, ev_tup, ev_lst, ev_idx, ev_slc00, ev_slc10, ev_slc01, ev_call, ev_callv, ev_comp, ev_blt, ev_meth, evs_cons, evI_seq, evI_rng, evI_zip, evT_and, evT_or, evT_not, evT_cmp, evT_call, evT_blt, evT_var, evT_idx, e3], ⟨w, rfl, w1, w2⟩, S3, F3⟩) S'.app (by simp; omega)
    obtain ⟨h3, rfl, F3⟩ := F2.split S'.ll
    obtain ⟨is, rfl, il, iq⟩ := ints_of yp
    have tq := ten (ys := is.map P.int) (h2 := h3) (by rw [yl]; simp; omega)
    simp at yl S2
    refine ⟨_, h3, ?_, ⟨is, rfl, by omega, iq⟩, (S2.unapp (by rw [F3.len]; exact S'.ll)).up (by omega), F.trans F3⟩
    simp [-List.map_replicate, -List.map_map, f__law_form, b__law_form, startS, exs_cons, ex_set, ex_par, ex_unp, ex_seti, ex_expr, ex_ret, ex_if, ex_while, ex_for, ex_raise, ex_try, ex_frz, ev_bin, ev_neg, ev_cmp, ev_and, ev_or, ev_not, ev_ite, ev_tup, ev_lst, ev_idx, ev_slc00, ev_slc10, ev_slc01, ev_call, ev_callv, ev_comp, ev_blt, ev_meth, evs_cons, evI_seq, evI_rng, evI_zip, evT_and, evT_or, evT_not, evT_cmp, evT_call, evT_blt, evT_var, evT_idx, e, r, cz, mt, c0', c1', c2', c3, r2, e2, tq, (F.trans F3).takeApp, frm]
end K15

set_option linter.all false
set_option maxRecDepth 100000
set_option maxHeartbeats 1000000
set_option exponentiation.threshold 700
namespace K15
open Mp
theorem law_is_int {n : Nat} (hn : 1 ≤ n) (i : Int) (h : Hea) : callN T n i__law_is_int [.p (.int i)] h = .ok (.p (.bl true)) h := by
  obtain ⟨m, rfl⟩ : ∃ m, n = m + 1 := ⟨n - 1, by omega⟩
  rw [call_eq (fd := f__law_is_int) rfl rfl]
  simp [f__law_is_int, b__law_is_int, startS, exs_cons, ex_set, ex_par, ex_unp, ex_seti, ex_expr, ex_ret, ex_if, ex_while, ex_for, ex_raise, ex_try, ex_frz, ev_bin, ev_neg, ev_cmp, ev_and, ev_or, ev_not, ev_ite, ev_tup, ev_lst, ev_idx, ev_slc00, ev_slc10, ev_slc01, ev_call, ev_callv, ev_comp, ev_blt, ev_meth, evs_cons, evI_seq, evI_rng, evI_zip, evT_and, evT_or, evT_not, evT_cmp, evT_call, evT_blt, evT_var, evT_idx, blt1, lenD, views, bltP, kindS, isT, kindsL, clssL, outP]
mutual
/-- data that is compared part by part -/
def Sm : P → Prop
  | .int _ => True
  | .tup xs => xs.length ≤ 1000 ∧ SmL xs
  | .lst xs => xs.length ≤ 1000 ∧ SmL xs
  | _ => False
def SmL : List P → Prop
  | [] => True
  | x :: xs => Sm x ∧ SmL xs
end
mutual
def nodes : P → Nat
  | .tup xs => 1 + nodesL xs
  | .lst xs => 1 + nodesL xs
  | _ => 1
def nodesL : List P → Nat
  | [] => 0
  | x :: xs => nodes x + nodesL xs
end
theorem nodesL_app : ∀ {xs ys : List P}, nodesL (xs ++ ys) = nodesL xs + nodesL ys
  | [], ys => by simp [nodesL]
  | x :: xs, ys => by simp [nodesL, nodesL_app (xs := xs)]; omega
theorem len_nodes : ∀ ys : List P, ys.length ≤ nodesL ys
  | [] => by simp [nodesL]
  | y :: ys => by
    have := len_nodes ys
    have : 1 ≤ nodes y := by cases y <;> simp [nodes]
    simp only [nodesL, List.length_cons]
    omega
theorem SmL.mem : ∀ {xs : List P} {x : P}, SmL xs → x ∈ xs → Sm x
  | y :: ys, x, h, hx => by
    rcases List.mem_cons.mp hx with z | z
    · rw [z]; exact h.1
    · exact SmL.mem h.2 z
def pairD (x : P) : D := .p (.tup [x, x])
theorem pop_last {bs : Nat} {h : Hea} {ds : List D} {d : D} : methD bs .pop false (.ref h.length) [] (h ++ [some (ds ++ [d])]) = .ok d (h ++ [some ds]) := by
  unfold methD
  simp
theorem recv_pop {h : Hea} {ds : List D} : recv .pop (h ++ [some ds]) (.ref h.length) = true := by
  show (isList Mt.pop && (cellAt (h ++ [some ds]) h.length).isSome) = true
  rw [cell_last]; rfl
theorem same_push {m bs : Nat} (h : Hea) {x : P} {xs : List P} (hx : x = .tup xs ∨ x = .lst xs) (x0 x1 d3 : Option D) : ∀ (j : Nat) (acc : List D) (d6 : Option D), j ≤ xs.length → acc.length + (xs.length - j) ≤ 200000 →
    ∃ d6', runFor ⟨callN T m, bs⟩ (.one 6) l__law_same_1 ((List.range' j (xs.length - j)).map fun k => P.int (k : Nat)) [x0, x1, some (.ref h.length), d3, some (.p x), some (.p x), d6] (h ++ [some acc]) =
      .next [x0, x1, some (.ref h.length), d3, some (.p x), some (.p x), d6'] (h ++ [some (acc ++ (xs.drop j).map pairD)]) := by
  intro j
  generalize hk : xs.length - j = k
  induction k generalizing j with
  | zero =>
    intro acc d6 hj _
    refine ⟨d6, ?_⟩
    rw [List.drop_eq_nil_of_le (by omega)]
    simp
  | succ k ih =>
    intro acc d6 hj hl
    have jl : j < xs.length := by omega
    have xj : xs[j]? = some xs[j] := List.getElem?_eq_getElem jl
    have ix : idxD (h ++ [some acc]) (.p x) (.p (.int (j : Nat))) = some (.p xs[j]) := by
      rcases hx with rfl | rfl
      · exact idx_at xj
      · exact idx_atL xj
    have ap := app_last (bs := bs) (h := h) (ds := acc) (x := .tup [xs[j], xs[j]]) (Nat.lt_of_le_of_lt (by omega : acc.length ≤ 200000) (by decide))
    have body : exs ⟨callN T m, bs⟩ [x0, x1, some (.ref h.length), d3, some (.p x), some (.p x), some (.p (.int (j : Nat)))] l__law_same_1 (h ++ [some acc]) = .next [x0, x1, some (.ref h.length), d3, some (.p x), some (.p x), some (.p (.int (j : Nat)))] (h ++ [some (acc ++ [pairD xs[j]])]) := by
      simp [l__law_same_1, exs_cons, ex_set, ex_par, ex_unp, ex_seti, ex_expr, ex_ret, ex_if, ex_while, ex_for, ex_raise, ex_try, ex_frz, ev_bin, ev_neg, ev_cmp, ev_and, ev_or, ev_not, ev_ite, ev_tup, ev_lst, ev_idx, ev_slc00, ev_slc10, ev_slc01, ev_call, ev_callv, ev_comp, ev_blt, ev_meth, evs_cons, evI_seq, evI_rng, evI_zip, evT_and, evT_or, evT_not, evT_cmp, evT_call, evT_blt, evT_var, evT_idx, ix, ap, pairD]
    obtain ⟨d6', e⟩ := ih (j + 1) (by omega) (acc ++ [pairD xs[j]]) (some (.p (.int (j : Nat)))) (by omega) (by simp; omega)
    refine ⟨d6', ?_⟩
    rw [List.range'_succ, List.map_cons, for_step (ρ' := [x0, x1, some (.ref h.length), d3, some (.p x), some (.p x), some (.p (.int (j : Nat)))]) rfl body, e]
    rw [List.drop_eq_getElem_cons jl, List.map_cons, List.append_assoc]
    rfl
theorem same_loop {m : Nat} (hm : 1 ≤ m) {bs : Nat} (h : Hea) (x0 x1 : Option D) : ∀ (ks : List Nat) (st : List P) (d3 d4 d5 d6 : Option D), nodesL st < ks.length → ks.length ≤ 100000 → SmL st →
    runFor ⟨callN T m, bs⟩ (.one 3) l__law_same_2 (ks.map fun k => P.int (k : Nat)) [x0, x1, some (.ref h.length), d3, d4, d5, d6] (h ++ [some (st.map pairD)]) = .ret (.p (.bl true)) (h ++ [some []])
  | [], st, d3, d4, d5, d6, hk, _, _ => by simp at hk
  | k :: ks, st, d3, d4, d5, d6, hk, hK, hs => by
    have hk' : nodesL st < ks.length + 1 := by simpa using hk
    rcases List.eq_nil_or_concat st with rfl | ⟨s0, x, rfl⟩
    · have ln := blt1_len_ref (cell_last (h := h) (ds := []))
      have body : exs ⟨callN T m, bs⟩ [x0, x1, some (.ref h.length), some (.p (.int (k : Nat))), d4, d5, d6] l__law_same_2 (h ++ [some []]) = .ret (.p (.bl true)) (h ++ [some []]) := by
        simp at ln
        simp [l__law_same_2, exs_cons, ex_set, ex_par, ex_unp, ex_seti, ex_expr, ex_ret, ex_if, ex_while, ex_for, ex_raise, ex_try, ex_frz, ev_bin, ev_neg, ev_cmp, ev_and, ev_or, ev_not, ev_ite, ev_tup, ev_lst, ev_idx, ev_slc00, ev_slc10, ev_slc01, ev_call, ev_callv, ev_comp, ev_blt, ev_meth, evs_cons, evI_seq, evI_rng, evI_zip, evT_and, evT_or, evT_not, evT_cmp, evT_call, evT_blt, evT_var, evT_idx, ln]
      exact for_ret (ρ' := [x0, x1, some (.ref h.length), some (.p (.int (k : Nat))), d4, d5, d6]) rfl body
    · rw [List.concat_eq_append] at *
      have sx : Sm x := hs.mem (by simp)
      have s0s : SmL s0 := by
        have : ∀ {a b : List P}, SmL (a ++ b) → SmL a := by
          intro a
          induction a with
          | nil => intro b _; trivial
          | cons z a ih => intro b h; exact ⟨h.1, ih h.2⟩
        exact this hs
      rw [nodesL_app] at hk'
      simp only [nodesL, Nat.add_zero] at hk'
      have hK' : ks.length + 1 ≤ 100000 := by simpa using hK
      have l0 := len_nodes s0
      have ln := blt1_len_ref (cell_last (h := h) (ds := (s0 ++ [x]).map pairD))
      simp at ln
      have nz : ((s0.length : Int) + 1 == 0) = false := by rw [eqd]; exact decide_eq_false (by omega)
      have rp := recv_pop (h := h) (ds := s0.map pairD ++ [pairD x])
      have pp := pop_last (bs := bs) (h := h) (ds := s0.map pairD) (d := pairD x)
      have up : unp1 [x0, x1, some (.ref h.length), some (.p (.int (k : Nat))), d4, d5, d6] [4, 5] (pairD x) (h ++ [some (s0.map pairD)]) = .next [x0, x1, some (.ref h.length), some (.p (.int (k : Nat))), some (.p x), some (.p x), d6] (h ++ [some (s0.map pairD)]) := rfl
      -- a tuple, a list
      have many : ∀ xs : List P, (x = .tup xs ∨ x = .lst xs) → xs.length ≤ 1000 → SmL xs → nodes x = 1 + nodesL xs → (kindB "bool" x = false) → (kindB "int" x = false) → kindB "str" x = false → kindB "dict" x = false → (kindS x).isSome = true →
          runFor ⟨callN T m, bs⟩ (.one 3) l__law_same_2 ((k :: ks).map fun k => P.int (k : Nat)) [x0, x1, some (.ref h.length), d3, d4, d5, d6] (h ++ [some ((s0 ++ [x]).map pairD)]) = .ret (.p (.bl true)) (h ++ [some []]) := by
        intro xs hx hxl hxs hn k1 k2 k3 k4 k5
        have i1 := fun (h : Hea) => blt1_isi (h := h) (k := "bool") k5 rfl
        have i2 := fun (h : Hea) => blt1_isi (h := h) (k := "int") k5 rfl
        have i3 := fun (h : Hea) => blt1_isi (h := h) (k := "str") k5 rfl
        have i4 := fun (h : Hea) => blt1_isi (h := h) (k := "dict") k5 rfl
        have i5 := fun (h : Hea) => blt1_isi (h := h) (k := "list") k5 rfl
        have i6 := fun (h : Hea) => blt1_isi (h := h) (k := "tuple") k5 rfl
        rw [k1] at i1
        rw [k2] at i2
        rw [k3] at i3
        rw [k4] at i4
        have isn : cmp2 .is_ (.p x) (.p .non) (h ++ [some (s0.map pairD)]) = .ok (.p (.bl false)) (h ++ [some (s0.map pairD)]) := by rcases hx with rfl | rfl <;> rfl
        have lx : blt1 .len false [.p x] (h ++ [some (s0.map pairD)]) = .ok (.p (.int (xs.length : Nat))) (h ++ [some (s0.map pairD)]) := by rcases hx with rfl | rfl <;> rfl
        have rg := rng_at (d := xs.length) (h := h ++ [some (s0.map pairD)]) hxl
        obtain ⟨d6', e⟩ := same_push (m := m) (bs := bs) h hx x0 x1 (some (.p (.int (k : Nat)))) 0 (s0.map pairD) d6 (by omega) (by simp; omega)
        rw [Nat.sub_zero, ← List.range_eq_range', List.drop_zero] at e
        have body : exs ⟨callN T m, bs⟩ [x0, x1, some (.ref h.length), some (.p (.int (k : Nat))), d4, d5, d6] l__law_same_2 (h ++ [some ((s0 ++ [x]).map pairD)]) = .next [x0, x1, some (.ref h.length), some (.p (.int (k : Nat))), some (.p x), some (.p x), d6'] (h ++ [some ((s0 ++ xs).map pairD)]) := by
          simp [l__law_same_2, exs_cons, ex_set, ex_par, ex_unp, ex_seti, ex_expr, ex_ret, ex_if, ex_while, ex_for, ex_raise, ex_try, ex_frz, ev_bin, ev_neg, ev_cmp, ev_and, ev_or, ev_not, ev_ite, ev_tup, ev_lst, ev_idx, ev_slc00, ev_slc10, ev_slc01, ev_call, ev_callv, ev_comp, ev_blt, ev_meth, evs_cons, evI_seq, evI_rng, evI_zip, evT_and, evT_or, evT_not, evT_cmp, evT_call, evT_blt, evT_var, evT_idx, ln, nz, rp, pp, up, i1, i2, i3, i4, i5, i6, isn, lx, rg, e]
        rw [List.map_cons, for_step (ρ' := [x0, x1, some (.ref h.length), some (.p (.int (k : Nat))), d4, d5, d6]) rfl body]
        have sA : SmL (s0 ++ xs) := by
          have : ∀ {a b : List P}, SmL a → SmL b → SmL (a ++ b) := by
            intro a
            induction a with
            | nil => intro b _ h; exact h
            | cons z a ih => intro b h g; exact ⟨h.1, ih h.2 g⟩
          exact this s0s hxs
        exact same_loop hm h x0 x1 ks (s0 ++ xs) _ _ _ _ (by rw [nodesL_app]; omega) (by omega) sA
      cases x with
      | int i =>
        have i1 := fun (h : Hea) => blt1_isi (h := h) (x := P.int i) (k := "bool") rfl rfl
        have i2 := fun (h : Hea) => blt1_isi (h := h) (x := P.int i) (k := "int") rfl rfl
        have isn : cmp2 .is_ (.p (.int i)) (.p .non) (h ++ [some (s0.map pairD)]) = .ok (.p (.bl false)) (h ++ [some (s0.map pairD)]) := rfl
        have ii := law_is_int hm i (h ++ [some (s0.map pairD)])
        have body : exs ⟨callN T m, bs⟩ [x0, x1, some (.ref h.length), some (.p (.int (k : Nat))), d4, d5, d6] l__law_same_2 (h ++ [some ((s0 ++ [P.int i]).map pairD)]) = .next [x0, x1, some (.ref h.length), some (.p (.int (k : Nat))), some (.p (.int i)), some (.p (.int i)), d6] (h ++ [some (s0.map pairD)]) := by
          simp [l__law_same_2, exs_cons, ex_set, ex_par, ex_unp, ex_seti, ex_expr, ex_ret, ex_if, ex_while, ex_for, ex_raise, ex_try, ex_frz, ev_bin, ev_neg, ev_cmp, ev_and, ev_or, ev_not, ev_ite, ev_tup, ev_lst, ev_idx, ev_slc00, ev_slc10, ev_slc01, ev_call, ev_callv, ev_comp, ev_blt, ev_meth, evs_cons, evI_seq, evI_rng, evI_zip, evT_and, evT_or, evT_not, evT_cmp, evT_call, evT_blt, evT_var, evT_idx, ln, nz, rp, pp, up, i1, i2, kindB, isn, ii]
        rw [List.map_cons, for_step (ρ' := [x0, x1, some (.ref h.length), some (.p (.int (k : Nat))), d4, d5, d6]) rfl body]
        simp only [nodes] at hk'
        exact same_loop hm h x0 x1 ks s0 _ _ _ _ (by omega) (by omega) s0s
      | tup xs => exact many xs (.inl rfl) sx.1 sx.2 rfl rfl rfl rfl rfl rfl
      | lst xs => exact many xs (.inr rfl) sx.1 sx.2 rfl rfl rfl rfl rfl rfl
      | _ => exact sx.elim
theorem rng_big {h : Hea} : rng1 [.p (.int 100000)] h = .ok ((List.range 100000).map fun k => P.int (k : Nat)) h := by
  show (if (100000 : Int) ≤ (LIM : Nat) ∧ -((LIM : Nat) : Int) ≤ 100000 then R.ok (rngL 0 100000) h else .stuck) = _
  have hL : ((LIM : Nat) : Int) = 1000000 := rfl
  rw [if_pos (by omega)]
  unfold rngL
  simp
theorem law_same {n : Nat} (hn : 2 ≤ n) {x : P} (hx : Sm x) (hs : nodes x ≤ 90000) (h : Hea) : callN T n i__law_same [.p x, .p x] h = .ok (.p (.bl true)) h := by
  obtain ⟨m, rfl⟩ : ∃ m, n = m + 1 := ⟨n - 1, by omega⟩
  have e := same_loop (m := m) (by omega) (bs := h.length) h (some (.p x)) (some (.p x)) (List.range 100000) [x] none none none none (by simp only [nodesL, List.length_range]; omega) (by simp only [List.length_range]; omega) ⟨hx, trivial⟩
  have mt := mk_true (ds := [pairD x]) (h := h) (lim1000 (by simp))
  simp only [List.map_cons, List.map_nil, pairD] at e mt
  rw [call_eq (fd := f__law_same) rfl rfl]
  simp only [f__law_same, b__law_same, startS]
  have rb := rng_big (h := h ++ [some [D.p (P.tup [x, x])]])
  generalize (List.range 100000).map (fun k => P.int (k : Nat)) = big at e rb
  simp [exs_cons, ex_set, ex_par, ex_unp, ex_seti, ex_expr, ex_ret, ex_if, ex_while, ex_for, ex_raise, ex_try, ex_frz, ev_bin, ev_neg, ev_cmp, ev_and, ev_or, ev_not, ev_ite, ev_tup, ev_lst, ev_idx, ev_slc00, ev_slc10, ev_slc01, ev_call, ev_callv, ev_comp, ev_blt, ev_meth, evs_cons, evI_seq, evI_rng, evI_zip, evT_and, evT_or, evT_not, evT_cmp, evT_call, evT_blt, evT_var, evT_idx, mt, rb, e]
end K15

set_option linter.all false
set_option maxRecDepth 100000
set_option maxHeartbeats 1000000
set_option exponentiation.threshold 700
namespace K15
open Mp
theorem mk_div (a : Int) (b : Nat) : mkRat a b = (a : Rat) / ((b : Int) : Rat) := by
  rw [Rat.mkRat_eq_div]; rfl
theorem nd (q : Rat) : (q.num : Rat) / ((q.den : Int) : Rat) = q := by
  rw [← mk_div, Rat.mkRat_self]
theorem den_ne (q : Rat) : (((q.den : Nat) : Int) : Rat) ≠ 0 := by
  have := q.den_pos
  intro z
  have z : ((q.den : Int) : Rat) = ((0 : Int) : Rat) := z
  have := Rat.intCast_inj.mp z
  omega
theorem nat_ne {b : Nat} (h : 0 < b) : (((b : Nat) : Int) : Rat) ≠ 0 := by
  intro z
  have z : ((b : Int) : Rat) = ((0 : Int) : Rat) := z
  have := Rat.intCast_inj.mp z
  omega
theorem step_value {above i : Int} {below : Nat} {q : Rat} (hb : 0 < below) : mkRat (above * q.den + i * q.num * below) (below * q.den) = mkRat above below + (i : Rat) * q := by
  have e := nd q
  have h1 := den_ne q
  have h2 := nat_ne hb
  rw [mk_div, mk_div]
  simp only [Rat.intCast_add, Rat.intCast_mul, Int.natCast_mul]
  grind
theorem lt_pow_add {a b : Int} {n m k : Nat} (h1 : a.natAbs < 2 ^ n) (h2 : b.natAbs < 2 ^ m) (l1 : n < k) (l2 : m < k) : (a + b).natAbs < 2 ^ k := by
  have h3 : a.natAbs < 2 ^ (k - 1) := small' h1 (by omega)
  have h4 : b.natAbs < 2 ^ (k - 1) := small' h2 (by omega)
  have := natAbs_add_lt h3 h4
  rwa [Nat.sub_add_cancel (by omega)] at this
theorem nat_mul_lt {a b n m : Nat} (h1 : a < 2 ^ n) (h2 : b < 2 ^ m) : a * b < 2 ^ (n + m) := by
  rw [Nat.pow_add]; exact Nat.mul_lt_mul'' h1 h2
theorem lvalue_loop {m bs : Nat} (h : Hea) (i0 : Int) (is : List Int) (qs : List Rat) (hl : qs.length = is.length) (h3 : is.length ≤ 3) (hi : ∀ i ∈ is, Iok i) (hq : ∀ q ∈ qs, Rb 2500 q) : ∀ (k j : Nat) (above : Int) (below : Nat) (d4 : Option D), j + k = is.length → 0 < below → below < 2 ^ (2500 * j + 1) → above.natAbs < 2 ^ (20000 * (j + 1)) →
    ∃ (above' : Int) (below' : Nat) (d4' : Option D), runFor ⟨callN T m, bs⟩ (.one 4) l__law_value_1 ((List.range' j k).map fun k => P.int (k : Nat)) [some (.p (frm (i0 :: is))), some (.p (spt qs)), some (.p (.int above)), some (.p (.int (below : Nat))), d4] h =
      .next [some (.p (frm (i0 :: is))), some (.p (spt qs)), some (.p (.int above')), some (.p (.int (below' : Nat))), d4'] h ∧ 0 < below' ∧ below' < 2 ^ 8000 ∧ mkRat above' below' = mkRat above below + (prods (is.drop j) (qs.drop j)).sum
  | 0, j, above, below, d4, hj, hb, hB, hA => ⟨above, below, d4, by simp, hb, small' hB (by omega), by
      rw [List.drop_eq_nil_of_le (by omega : is.length ≤ j)]
      simp [prods, Rat.add_zero]⟩
  | k + 1, j, above, below, d4, hj, hb, hB, hA => by
    have jl : j < is.length := by omega
    have ij : is[j]? = some is[j] := List.getElem?_eq_getElem jl
    have qj : qs[j]? = some (qs[j]'(by omega)) := List.getElem?_eq_getElem (by omega)
    obtain ⟨i, ei⟩ : ∃ i, i = is[j] := ⟨_, rfl⟩
    obtain ⟨q, eq⟩ : ∃ q, q = qs[j]'(by omega) := ⟨_, rfl⟩
    rw [← ei] at ij
    rw [← eq] at qj
    have hi' := hi i (List.mem_of_getElem? ij)
    have hq' := hq q (List.mem_of_getElem? qj)
    have x1 : idxD h (.p (spt qs)) (.p (.int (j : Nat))) = some (.p (rt q)) := idx_at (by rw [List.getElem?_map, qj]; rfl)
    have x2 : idxD h (.p (frm (i0 :: is))) (.p (.int ((j : Int) + 1))) = some (.p (.int i)) := by
      have := idx_at (h := h) (xs := (i0 :: is).map P.int) (i := j + 1) (x := .int i) (by rw [List.getElem?_map, List.getElem?_cons_succ, ij]; rfl)
      exact this
    have dn : ((q.den : Nat) : Int).natAbs < 2 ^ 2500 := by rw [Int.natAbs_natCast]; exact hq'.2
    have bn : ((below : Nat) : Int).natAbs < 2 ^ (2500 * j + 1) := by rw [Int.natAbs_natCast]; exact hB
    have m1 : mulOk above (q.den : Int) = true := mulOk_of' (small' hA (by omega)) (small' dn (by decide))
    have m2 : mulOk i q.num = true := mulOk_of' (small' hi' (by decide)) (small' hq'.1 (by decide))
    have n3 : (i * q.num).natAbs < 2 ^ 10500 := natAbs_mul_lt hi' hq'.1
    have m3 : mulOk (i * q.num) (below : Int) = true := mulOk_of' (small' n3 (by decide)) (small' bn (by omega))
    have m4 : mulOk (below : Int) (q.den : Int) = true := mulOk_of' (small' bn (by omega)) (small' dn (by decide))
    have body : exs ⟨callN T m, bs⟩ [some (.p (frm (i0 :: is))), some (.p (spt qs)), some (.p (.int above)), some (.p (.int (below : Nat))), some (.p (.int (j : Nat)))] l__law_value_1 h =
        .next [some (.p (frm (i0 :: is))), some (.p (spt qs)), some (.p (.int (above * q.den + i * q.num * below))), some (.p (.int (((below * q.den : Nat) : Nat) : Int))), some (.p (.int (j : Nat)))] h := by
      simp only [rt] at x1
      simp [l__law_value_1, exs_cons, ex_set, ex_par, ex_unp, ex_seti, ex_expr, ex_ret, ex_if, ex_while, ex_for, ex_raise, ex_try, ex_frz, ev_bin, ev_neg, ev_cmp, ev_and, ev_or, ev_not, ev_ite, ev_tup, ev_lst, ev_idx, ev_slc00, ev_slc10, ev_slc01, ev_call, ev_callv, ev_comp, ev_blt, ev_meth, evs_cons, evI_seq, evI_rng, evI_zip, evT_and, evT_or, evT_not, evT_cmp, evT_call, evT_blt, evT_var, evT_idx, x1, x2, bin2_mul m1, bin2_mul m2, bin2_mul m3, bin2_mul m4]
    have a' : (above * q.den + i * q.num * below).natAbs < 2 ^ (20000 * (j + 1 + 1)) := lt_pow_add (natAbs_mul_lt hA dn) (natAbs_mul_lt n3 bn) (by omega) (by omega)
    obtain ⟨ab, be, d4', e, e1, e2, e3⟩ := lvalue_loop (m := m) (bs := bs) h i0 is qs hl h3 hi hq k (j + 1) (above * q.den + i * q.num * below) (below * q.den) (some (.p (.int (j : Nat)))) (by omega) (Nat.mul_pos hb q.den_pos)
      (by have := nat_mul_lt hB hq'.2
          exact small' this (by omega)) a'
    refine ⟨ab, be, d4', ?_, e1, e2, ?_⟩
    · rw [List.range'_succ, List.map_cons, for_step (ρ' := [some (.p (frm (i0 :: is))), some (.p (spt qs)), some (.p (.int above)), some (.p (.int (below : Nat))), some (.p (.int (j : Nat)))]) rfl body, e]
    · rw [e3, step_value hb, List.drop_eq_getElem_cons jl, List.drop_eq_getElem_cons (by omega : j < qs.length), ← ei, ← eq]
      simp only [prods]
      rw [sum_cons]
theorem law_value {n : Nat} (hn : 2 ≤ n) {i0 : Int} {is : List Int} {qs : List Rat} (hl : qs.length = is.length) (h3 : is.length ≤ 3) (h0 : Iok i0) (hi : ∀ i ∈ is, Iok i) (hq : ∀ q ∈ qs, Rb 2500 q) (h : Hea) :
    callN T n i__law_value [.p (frm (i0 :: is)), .p (spt qs)] h = .ok (.p (rt ((i0 : Rat) + (prods is qs).sum))) h := by
  obtain ⟨m, rfl⟩ : ∃ m, n = m + 1 := ⟨n - 1, by omega⟩
  obtain ⟨ab, be, d4, e, e1, e2, e3⟩ := lvalue_loop (m := m) (bs := h.length) h i0 is qs hl h3 hi hq is.length 0 i0 1 none (by omega) (by decide) (by decide) (small' h0 (by decide))
  have lo := lowest (n := m) (by omega) ab be e1 (small' e2 (by decide)) h
  rw [e3, mk_div] at lo
  have z : ((i0 : Rat) / (((1 : Nat) : Int) : Rat)) = (i0 : Rat) := by
    have : (((1 : Nat) : Int) : Rat) = 1 := rfl
    rw [this]; grind
  rw [z, List.drop_zero, List.drop_zero] at lo
  have r := rng_at (d := is.length) (h := h) (by omega)
  rw [List.range_eq_range'] at r
  have x0 : idxD h (.p (frm (i0 :: is))) (.p (.int 0)) = some (.p (.int i0)) := idx_at (i := 0) rfl
  have ln : blt1 .len false [.p (spt qs)] h = .ok (.p (.int (is.length : Int))) h := by
    show R.ok (D.p (.int ((qs.map rt).length : Nat))) h = _
    rw [List.length_map, hl]
  have e : runFor ⟨callN T m, h.length⟩ (.one 4) l__law_value_1 ((List.range' 0 is.length).map fun k => P.int (k : Nat)) [some (.p (frm (i0 :: is))), some (.p (spt qs)), some (.p (.int i0)), some (.p (.int 1)), none] h = _ := e
  rw [call_eq (fd := f__law_value) rfl rfl]
  simp [f__law_value, b__law_value, startS, exs_cons, ex_set, ex_par, ex_unp, ex_seti, ex_expr, ex_ret, ex_if, ex_while, ex_for, ex_raise, ex_try, ex_frz, ev_bin, ev_neg, ev_cmp, ev_and, ev_or, ev_not, ev_ite, ev_tup, ev_lst, ev_idx, ev_slc00, ev_slc10, ev_slc01, ev_call, ev_callv, ev_comp, ev_blt, ev_meth, evs_cons, evI_seq, evI_rng, evI_zip, evT_and, evT_or, evT_not, evT_cmp, evT_call, evT_blt, evT_var, evT_idx, x0, ln, r, e, lo]
/-! ### _law_before -/
theorem eq_rt {p q : Rat} : eqP (rt p) (rt q) = decide (p = q) := by
  have e1 : eqP (rt p) (rt q) = ((p.num == q.num) && (((p.den : Nat) : Int) == ((q.den : Nat) : Int) && true)) := rfl
  rw [e1]
  by_cases c : p = q
  · subst c; simp
  · have : ¬ (p.num = q.num ∧ p.den = q.den) := fun z => c (Rat.ext z.1 z.2)
    simp only [c, decide_false, Bool.and_true]
    rw [Bool.and_eq_false_iff]
    by_cases d : p.num = q.num
    · right
      have : p.den ≠ q.den := fun z => this ⟨d, z⟩
      simp; omega
    · left; simp [d]
theorem ne_rt {p q : Rat} {h : Hea} : cmp2 .ne (.p (rt p)) (.p (rt q)) h = .ok (.p (.bl (!decide (p = q)))) h := by
  show R.ofO (((if okE 50 (rt p) && okE 50 (rt q) then some (!eqP (rt p) (rt q)) else none)).map fun k => D.p (.bl k)) h = _
  have e1 : okE 50 (rt p) = true := rfl
  have e2 : okE 50 (rt q) = true := rfl
  rw [e1, e2, eq_rt]
  rfl
theorem ordR_zero {p q : Rat} : ordR p q = 0 ↔ p = q := by
  unfold ordR
  by_cases c : p < q
  · rw [if_pos c]
    constructor
    · intro z; omega
    · intro z; subst z; exact absurd c (Rat.lt_irrefl)
  · rw [if_neg c]
    by_cases d : q < p
    · rw [if_pos d]
      constructor
      · intro z; omega
      · intro z; subst z; exact absurd d (Rat.lt_irrefl)
    · rw [if_neg d]
      constructor
      · intro _; exact Rat.le_antisymm (Rat.not_lt.mp d) (Rat.not_lt.mp c)
      · intro _; rfl
theorem before_loop {m : Nat} (hm : 1 ≤ m) {bs : Nat} (h : Hea) (ps qs : List Rat) (hl : qs.length = ps.length) (hp : ∀ p ∈ ps, Rok p) (hq : ∀ q ∈ qs, Rok q) : ∀ (k j : Nat) (d2 : Option D), j + k = ps.length →
    (∃ d2', runFor ⟨callN T m, bs⟩ (.one 2) l__law_before_1 ((List.range' j k).map fun k => P.int (k : Nat)) [some (.p (spt ps)), some (.p (spt qs)), d2] h = .next [some (.p (spt ps)), some (.p (spt qs)), d2'] h ∧ ordL (ps.drop j) (qs.drop j) = 0) ∨
    (runFor ⟨callN T m, bs⟩ (.one 2) l__law_before_1 ((List.range' j k).map fun k => P.int (k : Nat)) [some (.p (spt ps)), some (.p (spt qs)), d2] h = .ret (.p (.int (ordL (ps.drop j) (qs.drop j)))) h)
  | 0, j, d2, hj => .inl ⟨d2, by simp, by rw [List.drop_eq_nil_of_le (by omega : ps.length ≤ j)]; simp [ordL]⟩
  | k + 1, j, d2, hj => by
    have jl : j < ps.length := by omega
    have jl2 : j < qs.length := by omega
    obtain ⟨p, ep⟩ : ∃ i, i = ps[j] := ⟨_, rfl⟩
    obtain ⟨q, eq⟩ : ∃ q, q = qs[j] := ⟨_, rfl⟩
    have pj : ps[j]? = some p := by rw [ep]; exact List.getElem?_eq_getElem jl
    have qj : qs[j]? = some q := by rw [eq]; exact List.getElem?_eq_getElem jl2
    have x1 : idxD h (.p (spt ps)) (.p (.int (j : Nat))) = some (.p (rt p)) := idx_at (by rw [List.getElem?_map, pj]; rfl)
    have x2 : idxD h (.p (spt qs)) (.p (.int (j : Nat))) = some (.p (rt q)) := idx_at (by rw [List.getElem?_map, qj]; rfl)
    rw [List.drop_eq_getElem_cons jl, List.drop_eq_getElem_cons jl2, ← ep, ← eq, List.range'_succ, List.map_cons]
    have ne := ne_rt (p := p) (q := q) (h := h)
    by_cases c : p = q
    · have o : ordL (p :: ps.drop (j + 1)) (q :: qs.drop (j + 1)) = ordL (ps.drop (j + 1)) (qs.drop (j + 1)) := by
        show (if ordR p q = 0 then _ else _) = _
        rw [if_pos (ordR_zero.mpr c)]
      rw [o]
      have body : exs ⟨callN T m, bs⟩ [some (.p (spt ps)), some (.p (spt qs)), some (.p (.int (j : Nat)))] l__law_before_1 h = .next [some (.p (spt ps)), some (.p (spt qs)), some (.p (.int (j : Nat)))] h := by
        rw [decide_eq_true c] at ne
        simp [l__law_before_1, exs_cons, ex_set, ex_par, ex_unp, ex_seti, ex_expr, ex_ret, ex_if, ex_while, ex_for, ex_raise, ex_try, ex_frz, ev_bin, ev_neg, ev_cmp, ev_and, ev_or, ev_not, ev_ite, ev_tup, ev_lst, ev_idx, ev_slc00, ev_slc10, ev_slc01, ev_call, ev_callv, ev_comp, ev_blt, ev_meth, evs_cons, evI_seq, evI_rng, evI_zip, evT_and, evT_or, evT_not, evT_cmp, evT_call, evT_blt, evT_var, evT_idx, x1, x2, ne]
      rw [for_step (ρ' := [some (.p (spt ps)), some (.p (spt qs)), some (.p (.int (j : Nat)))]) rfl body]
      exact before_loop hm (bs := bs) h ps qs hl hp hq k (j + 1) _ (by omega)
    · have o : ordL (p :: ps.drop (j + 1)) (q :: qs.drop (j + 1)) = ordR p q := by
        show (if ordR p q = 0 then _ else _) = _
        rw [if_neg fun z => c (ordR_zero.mp z)]
      rw [o]
      have e := law_compare hm (hp p (List.mem_of_getElem? pj)) (hq q (List.mem_of_getElem? qj)) h
      have body : exs ⟨callN T m, bs⟩ [some (.p (spt ps)), some (.p (spt qs)), some (.p (.int (j : Nat)))] l__law_before_1 h = .ret (.p (.int (ordR p q))) h := by
        rw [decide_eq_false c] at ne
        simp [l__law_before_1, exs_cons, ex_set, ex_par, ex_unp, ex_seti, ex_expr, ex_ret, ex_if, ex_while, ex_for, ex_raise, ex_try, ex_frz, ev_bin, ev_neg, ev_cmp, ev_and, ev_or, ev_not, ev_ite, ev_tup, ev_lst, ev_idx, ev_slc00, ev_slc10, ev_slc01, ev_call, ev_callv, ev_comp, ev_blt, ev_meth, evs_cons, evI_seq, evI_rng, evI_zip, evT_and, evT_or, evT_not, evT_cmp, evT_call, evT_blt, evT_var, evT_idx, x1, x2, ne, e]
      exact .inr (for_ret (ρ' := [some (.p (spt ps)), some (.p (spt qs)), some (.p (.int (j : Nat)))]) rfl body)
theorem law_before {n : Nat} (hn : 2 ≤ n) {ps qs : List Rat} (hl : qs.length = ps.length) (h3 : ps.length ≤ 1000) (hp : ∀ p ∈ ps, Rok p) (hq : ∀ q ∈ qs, Rok q) (h : Hea) : callN T n i__law_before [.p (spt ps), .p (spt qs)] h = .ok (.p (.int (ordL ps qs))) h := by
  obtain ⟨m, rfl⟩ : ∃ m, n = m + 1 := ⟨n - 1, by omega⟩
  have r := rng_at (d := ps.length) (h := h) h3
  rw [List.range_eq_range'] at r
  have ln : blt1 .len false [.p (spt ps)] h = .ok (.p (.int (ps.length : Int))) h := by
    show R.ok (D.p (.int ((ps.map rt).length : Nat))) h = _
    rw [List.length_map]
  rw [call_eq (fd := f__law_before) rfl rfl]
  rcases before_loop (m := m) (by omega) (bs := h.length) h ps qs hl hp hq ps.length 0 none (by omega) with ⟨d2, e, o⟩ | e
  · rw [List.drop_zero, List.drop_zero] at o
    simp [f__law_before, b__law_before, startS, exs_cons, ex_set, ex_par, ex_unp, ex_seti, ex_expr, ex_ret, ex_if, ex_while, ex_for, ex_raise, ex_try, ex_frz, ev_bin, ev_neg, ev_cmp, ev_and, ev_or, ev_not, ev_ite, ev_tup, ev_lst, ev_idx, ev_slc00, ev_slc10, ev_slc01, ev_call, ev_callv, ev_comp, ev_blt, ev_meth, evs_cons, evI_seq, evI_rng, evI_zip, evT_and, evT_or, evT_not, evT_cmp, evT_call, evT_blt, evT_var, evT_idx, ln, r, e, o]
  · rw [List.drop_zero, List.drop_zero] at e
    simp [f__law_before, b__law_before, startS, exs_cons, ex_set, ex_par, ex_unp, ex_seti, ex_expr, ex_ret, ex_if, ex_while, ex_for, ex_raise, ex_try, ex_frz, ev_bin, ev_neg, ev_cmp, ev_and, ev_or, ev_not, ev_ite, ev_tup, ev_lst, ev_idx, ev_slc00, ev_slc10, ev_slc01, ev_call, ev_callv, ev_comp, ev_blt, ev_meth, evs_cons, evI_seq, evI_rng, evI_zip, evT_and, evT_or, evT_not, evT_cmp, evT_call, evT_blt, evT_var, evT_idx, ln, r, e]
end K15

set_option linter.all false
set_option maxRecDepth 100000
set_option maxHeartbeats 1000000
set_option exponentiation.threshold 700
namespace K15
open Mp
/-! ### _law_between -/
theorem betw_mk {p q s : Rat} : mkRat (p.num * q.den * (s.den - s.num) + q.num * p.den * s.num) (p.den * q.den * s.den) = betw s p q := by
  have e1 := nd p
  have e2 := nd q
  have e3 := nd s
  have h1 := den_ne p
  have h2 := den_ne q
  have h3 := den_ne s
  unfold betw
  rw [mk_div]
  simp only [Rat.intCast_add, Rat.intCast_mul, Rat.intCast_sub, Int.natCast_mul]
  grind
theorem lbetween_loop {m : Nat} (hm : 1 ≤ m) {bs : Nat} (h : Hea) {s : Rat} (hs : Rb 1000 s) (ps qs : List Rat) (hl : qs.length = ps.length) (hp : ∀ p ∈ ps, Rb 1000 p) (hq : ∀ q ∈ qs, Rb 1000 q) (hll : ps.length ≤ 1000) : ∀ (k j : Nat) (acc : List P) (d4 d5 d6 d7 d8 : Option D), j + k = ps.length → acc.length ≤ j →
    ∃ d4' d5' d6' d7' d8', runFor ⟨callN T m, bs⟩ (.one 4) l__law_between_1 ((List.range' j k).map fun k => P.int (k : Nat)) [some (.p (spt ps)), some (.p (spt qs)), some (.p (rt s)), some (.ref h.length), d4, d5, d6, d7, d8] (h ++ [some (acc.map D.p)]) =
      .next [some (.p (spt ps)), some (.p (spt qs)), some (.p (rt s)), some (.ref h.length), d4', d5', d6', d7', d8'] (h ++ [some ((acc ++ (List.zipWith (betw s) (ps.drop j) (qs.drop j)).map rt).map D.p)])
  | 0, j, acc, d4, d5, d6, d7, d8, hj, _ => ⟨d4, d5, d6, d7, d8, by rw [List.drop_eq_nil_of_le (by omega : ps.length ≤ j)]; simp⟩
  | k + 1, j, acc, d4, d5, d6, d7, d8, hj, ha => by
    have jl : j < ps.length := by omega
    have jl2 : j < qs.length := by omega
    obtain ⟨p, ep⟩ : ∃ i, i = ps[j] := ⟨_, rfl⟩
    obtain ⟨q, eq⟩ : ∃ q, q = qs[j] := ⟨_, rfl⟩
    have pj : ps[j]? = some p := by rw [ep]; exact List.getElem?_eq_getElem jl
    have qj : qs[j]? = some q := by rw [eq]; exact List.getElem?_eq_getElem jl2
    have bp := hp p (List.mem_of_getElem? pj)
    have bq := hq q (List.mem_of_getElem? qj)
    have x1 : ∀ h : Hea, idxD h (.p (spt ps)) (.p (.int (j : Nat))) = some (.p (rt p)) := fun h => idx_at (h := h) (xs := ps.map rt) (i := j) (x := rt p) (by rw [List.getElem?_map, pj]; rfl)
    have x2 : ∀ h : Hea, idxD h (.p (spt qs)) (.p (.int (j : Nat))) = some (.p (rt q)) := fun h => idx_at (h := h) (xs := qs.map rt) (i := j) (x := rt q) (by rw [List.getElem?_map, qj]; rfl)
    have nn := fun (z : Rat) (hz : Rb 1000 z) => (by rw [Int.natAbs_natCast]; exact hz.2 : ((z.den : Nat) : Int).natAbs < 2 ^ 1000)
    have b1 : (p.num * (q.den : Int)).natAbs < 2 ^ 2000 := natAbs_mul_lt bp.1 (nn q bq)
    have b2 : (q.num * (p.den : Int)).natAbs < 2 ^ 2000 := natAbs_mul_lt bq.1 (nn p bp)
    have b3 : ((s.den : Int) - s.num).natAbs < 2 ^ 1001 := natAbs_sub_lt (nn s hs) hs.1
    have b4 : ((p.den : Int) * (q.den : Int)).natAbs < 2 ^ 2000 := natAbs_mul_lt (nn p bp) (nn q bq)
    have m1 := mulOk_of' (small' bp.1 (by decide)) (small' (nn q bq) (by decide))
    have m2 := mulOk_of' (small' b1 (by decide)) (small' b3 (by decide))
    have m3 := mulOk_of' (small' bq.1 (by decide)) (small' (nn p bp) (by decide))
    have m4 := mulOk_of' (small' b2 (by decide)) (small' hs.1 (by decide))
    have m5 := mulOk_of' (small' (nn p bp) (by decide)) (small' (nn q bq) (by decide))
    have m6 := mulOk_of' (small' b4 (by decide)) (small' (nn s hs) (by decide))
    have lo := lowest (n := m) hm (p.num * q.den * (s.den - s.num) + q.num * p.den * s.num) (p.den * q.den * s.den) (Nat.mul_pos (Nat.mul_pos p.den_pos q.den_pos) s.den_pos) (small' (nat_mul_lt (nat_mul_lt bp.2 bq.2) hs.2) (by decide)) (h ++ [some (acc.map D.p)])
    rw [betw_mk] at lo
    simp only [Int.natCast_mul] at lo
    have e5 := app_last (bs := bs) (h := h) (ds := acc.map D.p) (x := rt (betw s p q)) (by rw [List.length_map]; exact Nat.lt_of_le_of_lt (by omega : acc.length ≤ 1000) (by decide))
    have i0 : ∀ h : Hea, idxD h (.p (rt s)) (.p (.int 0)) = some (.p (.int s.num)) := fun _ => rfl
    have i1 : ∀ h : Hea, idxD h (.p (rt s)) (.p (.int 1)) = some (.p (.int (s.den : Nat))) := fun _ => rfl
    have body : exs ⟨callN T m, bs⟩ [some (.p (spt ps)), some (.p (spt qs)), some (.p (rt s)), some (.ref h.length), some (.p (.int (j : Nat))), d5, d6, d7, d8] l__law_between_1 (h ++ [some (acc.map D.p)]) =
        .next [some (.p (spt ps)), some (.p (spt qs)), some (.p (rt s)), some (.ref h.length), some (.p (.int (j : Nat))), some (.p (.int p.num)), some (.p (.int (p.den : Nat))), some (.p (.int q.num)), some (.p (.int (q.den : Nat)))] (h ++ [some ((acc ++ [rt (betw s p q)]).map D.p)]) := by
      simp [l__law_between_1, exs_cons, ex_set, ex_par, ex_unp, ex_seti, ex_expr, ex_ret, ex_if, ex_while, ex_for, ex_raise, ex_try, ex_frz, ev_bin, ev_neg, ev_cmp, ev_and, ev_or, ev_not, ev_ite, ev_tup, ev_lst, ev_idx, ev_slc00, ev_slc10, ev_slc01, ev_call, ev_callv, ev_comp, ev_blt, ev_meth, evs_cons, evI_seq, evI_rng, evI_zip, evT_and, evT_or, evT_not, evT_cmp, evT_call, evT_blt, evT_var, evT_idx, x1, x2, unp1_rt, i0, i1, bin2_mul m1, bin2_mul m2, bin2_mul m3, bin2_mul m4, bin2_mul m5, bin2_mul m6, lo, e5]
    obtain ⟨d4', d5', d6', d7', d8', e⟩ := lbetween_loop hm (bs := bs) h hs ps qs hl hp hq hll k (j + 1) (acc ++ [rt (betw s p q)]) (some (.p (.int (j : Nat)))) (some (.p (.int p.num))) (some (.p (.int (p.den : Nat)))) (some (.p (.int q.num))) (some (.p (.int (q.den : Nat)))) (by omega) (by simp; omega)
    refine ⟨d4', d5', d6', d7', d8', ?_⟩
    rw [List.range'_succ, List.map_cons, for_step (ρ' := [some (.p (spt ps)), some (.p (spt qs)), some (.p (rt s)), some (.ref h.length), some (.p (.int (j : Nat))), d5, d6, d7, d8]) rfl body, e]
    rw [List.drop_eq_getElem_cons jl, List.drop_eq_getElem_cons jl2, ← ep, ← eq, List.zipWith_cons_cons, List.map_cons, List.append_assoc]
    rfl
theorem law_between {n : Nat} (hn : 2 ≤ n) {ps qs : List Rat} {s : Rat} (hs : Rb 1000 s) (hl : qs.length = ps.length) (hll : ps.length ≤ 1000) (hp : ∀ p ∈ ps, Rb 1000 p) (hq : ∀ q ∈ qs, Rb 1000 q) (h : Hea) :
    callN T n i__law_between [.p (spt ps), .p (spt qs), .p (rt s)] h = .ok (.p (spt (List.zipWith (betw s) ps qs))) h := by
  obtain ⟨m, rfl⟩ : ∃ m, n = m + 1 := ⟨n - 1, by omega⟩
  obtain ⟨d4, d5, d6, d7, d8, e⟩ := lbetween_loop (m := m) (by omega) (bs := h.length) h hs ps qs hl hp hq hll ps.length 0 [] none none none none none (by omega) (by simp)
  have r := rng_at (d := ps.length) (h := h ++ [some []]) hll
  rw [List.range_eq_range'] at r
  have ln : blt1 .len false [.p (spt ps)] (h ++ [some []]) = .ok (.p (.int (ps.length : Int))) (h ++ [some []]) := by
    show R.ok (D.p (.int ((ps.map rt).length : Nat))) _ = _
    rw [List.length_map]
  have t := blt1_tuple_last (h := h) (xs := (List.zipWith (betw s) ps qs).map rt)
  simp only [List.map_nil, List.nil_append, List.drop_zero] at e
  rw [call_eq (fd := f__law_between) rfl rfl]
  simp [-List.map_map, -List.map_zipWith, f__law_between, b__law_between, startS, exs_cons, ex_set, ex_par, ex_unp, ex_seti, ex_expr, ex_ret, ex_if, ex_while, ex_for, ex_raise, ex_try, ex_frz, ev_bin, ev_neg, ev_cmp, ev_and, ev_or, ev_not, ev_ite, ev_tup, ev_lst, ev_idx, ev_slc00, ev_slc10, ev_slc01, ev_call, ev_callv, ev_comp, ev_blt, ev_meth, evs_cons, evI_seq, evI_rng, evI_zip, evT_and, evT_or, evT_not, evT_cmp, evT_call, evT_blt, evT_var, evT_idx, ln, r, e, t]
  rfl
/-! ### _law_spots -/
def SptP (g : Bool) (dim : Nat) (x : P) : Prop := ∃ qs, x = spt qs ∧ qs.length = dim ∧ ∀ q ∈ qs, Cl g q
theorem rats_of {ys : List P} {Q : Rat → Prop} (h : ∀ y ∈ ys, ∃ q, y = rt q ∧ Q q) : ∃ qs : List Rat, ys = qs.map rt ∧ qs.length = ys.length ∧ ∀ q ∈ qs, Q q := by
  induction ys with
  | nil => exact ⟨[], rfl, rfl, by simp⟩
  | cons y ys ih =>
    obtain ⟨is, rfl, hl, hq⟩ := ih fun z hz => h z (List.mem_cons_of_mem _ hz)
    obtain ⟨v, rfl, q⟩ := h y List.mem_cons_self
    refine ⟨v :: is, rfl, by simp, fun i hi => ?_⟩
    rcases List.mem_cons.mp hi with w | w
    · rw [w]; exact q
    · exact hq i w
theorem spots_loop {m : Nat} (hm : 5 ≤ m) {bs L s : Nat} (g : Bool) {dim : Nat} (hd : dim ≤ 3) (x2 : Option D) : ∀ (ks : List Nat) (N : Nat) (h : Hea) (acc : List P) (d5 : Option D), (∀ y ∈ acc, SptP g dim y) → acc.length + ks.length ≤ 1000 → St L s N h → N + 120 * ks.length ≤ 2 ^ 36 →
    ∃ (ys : List P) (h' : Hea) (d5' : Option D), runFor ⟨callN T m, bs⟩ (.one 5) l__law_spots_1 (ks.map fun k => P.int (k : Nat)) [some (.ref s), some (.p (.int (dim : Nat))), x2, some (.p (.bl g)), some (.ref h.length), d5, none] (h ++ [some (acc.map D.p)]) =
      .next [some (.ref s), some (.p (.int (dim : Nat))), x2, some (.p (.bl g)), some (.ref h.length), d5', none] (h' ++ [some (ys.map D.p)]) ∧ ys.length = acc.length + ks.length ∧ (∀ y ∈ ys, SptP g dim y) ∧ St L s (N + 120 * ks.length) h' ∧ Fr L h h'
  | [], N, h, acc, d5, ha, _, S, _ => ⟨acc, h, d5, by simp, by simp, ha, by simpa using S, Fr.refl⟩
  | k :: ks, N, h, acc, d5, ha, hl, S, hN => by
    have eN : 120 * (k :: ks).length = 120 * ks.length + 120 := by rw [List.length_cons]; omega
    rw [eN] at hN ⊢
    have hl' : acc.length + (ks.length + 1) ≤ 1000 := by simpa using hl
    have r := rng_at (d := dim) (h := h ++ [some (acc.map D.p)]) (by omega)
    have rec_ := fun (h : Hea) (ds : List D) => recv_last (h := h) (ds := ds)
    -- one spot
    have one : ∃ (qs : List Rat) (h1 : Hea), exs ⟨callN T m, bs⟩ [some (.ref s), some (.p (.int (dim : Nat))), x2, some (.p (.bl g)), some (.ref h.length), some (.p (.int (k : Nat))), none] l__law_spots_1 (h ++ [some (acc.map D.p)]) =
        .next [some (.ref s), some (.p (.int (dim : Nat))), x2, some (.p (.bl g)), some (.ref h.length), some (.p (.int (k : Nat))), none] (h1 ++ [some ((acc ++ [spt qs]).map D.p)]) ∧ qs.length = dim ∧ (∀ q ∈ qs, Cl g q) ∧ St L s (N + 120) h1 ∧ Fr L h h1 := by
      cases g with
      | true =>
        obtain ⟨ys, h2, e2, yl, yp, S2, F2⟩ := comp_rn (G := ⟨callN T m, bs⟩) (ρ := [some (.ref s), some (.p (.int (dim : Nat))), x2, some (.p (.bl true)), some (.ref h.length), some (.p (.int (k : Nat))), none]) (vs := [6]) (tg := .one 6) (elt := e__law_spots_1) (s := s) (L := L) (k := 40)
          (Φ := fun x => ∃ q, x = rt q ∧ Cl true q) (xs := (List.range dim).map fun k => P.int (k : Nat)) (N := N) (h := h ++ [some (acc.map D.p)]) (fun x _ N h' SS l => by
            obtain ⟨y, h3, e3, pq, S3, F3⟩ := rn_ratio (n := m) (s := s) hm true L N h' SS l
            exact ⟨[some (.ref s), some (.p (.int (dim : Nat))), x2, some (.p (.bl true)), some (.ref h.length), some (.p (.int (k : Nat))), some (.p x)], y, h3, rfl, by simp [e__law_spots_1, exs_cons, ex_set, ex_par, ex_unp, ex_seti, ex_expr, ex_ret, ex_if, ex_while, ex_for, ex_raise, ex_try, ex_frz, ev_bin, ev_neg, ev_cmp, ev_and, ev_or, ev_not, ev_ite, ev_tup, ev_lst, ev_idx, ev_slc00, ev_slc10, ev_slc01, ev_call, ev_callv, ev_comp, ev_blt, ev_meth, evs_cons, evI_seq, evI_rng, evI_zip, evT_and, evT_or, evT_not, evT_cmp, evT_call, evT_blt, evT_var, evT_idx, e3], pq, S3, F3⟩) S.app (by simp; omega)
        obtain ⟨h3, rfl, F3⟩ := F2.split S.ll
        obtain ⟨qs, rfl, ql, qq⟩ := rats_of yp
        have ml := mk_list (h := h3 ++ [some (acc.map D.p)]) (xs := qs.map rt) (lim1000 (by rw [yl]; simp; omega))
        have e5 := app_last (bs := bs) (h := h3) (ds := acc.map D.p) (x := spt qs) (by rw [List.length_map]; exact Nat.lt_of_le_of_lt (by omega : acc.length ≤ 1000) (by decide))
        rw [F3.len] at e5
        have rc := rec_ h (acc.map D.p)
        simp at yl S2
        refine ⟨qs, h3, ?_, by omega, qq, (S2.unapp (by rw [F3.len]; exact S.ll)).up (by omega), F3⟩
        simp only [spt] at e5
        simp [-List.map_map, l__law_spots_1, exs_cons, ex_set, ex_par, ex_unp, ex_seti, ex_expr, ex_ret, ex_if, ex_while, ex_for, ex_raise, ex_try, ex_frz, ev_bin, ev_neg, ev_cmp, ev_and, ev_or, ev_not, ev_ite, ev_tup, ev_lst, ev_idx, ev_slc00, ev_slc10, ev_slc01, ev_call, ev_callv, ev_comp, ev_blt, ev_meth, evs_cons, evI_seq, evI_rng, evI_zip, evT_and, evT_or, evT_not, evT_cmp, evT_call, evT_blt, evT_var, evT_idx, rc, r, e2, ml, e5, spt]
      | false =>
        obtain ⟨ys, h2, e2, yl, yp, S2, F2⟩ := comp_rn (G := ⟨callN T m, bs⟩) (ρ := [some (.ref s), some (.p (.int (dim : Nat))), x2, some (.p (.bl false)), some (.ref h.length), some (.p (.int (k : Nat))), none]) (vs := [6]) (tg := .one 6) (elt := e__law_spots_2) (s := s) (L := L) (k := 40)
          (Φ := fun x => ∃ q, x = rt q ∧ Cl false q) (xs := (List.range dim).map fun k => P.int (k : Nat)) (N := N) (h := h ++ [some (acc.map D.p)]) (fun x _ N h' SS l => by
            obtain ⟨x1, h1, e1, ⟨a, rfl, a1, a2⟩, S1, F1⟩ := rn_span (n := m) (s := s) (low := -30) (high := 30) (by omega) (by decide) (small' (n := 10) (by decide) (by decide)) L N h' SS (by omega)
            obtain ⟨x2', h2, e2, ⟨b, rfl, b1, b2, b3⟩, S2, F2⟩ := rn_take (n := m) (s := s) (by omega) 6 (small' (n := 10) (by decide) (by decide)) L (N + 1) h1 S1 (by omega)
            have b4 := b2 (by decide)
            have bp : 0 < (1 + b).toNat := by omega
            have lo := lowest (n := m) (by omega) a (1 + b).toNat bp (small' (n := 10) (by omega) (by decide)) h2
            rw [Int.toNat_of_nonneg (by omega)] at lo
            exact ⟨[some (.ref s), some (.p (.int (dim : Nat))), x2, some (.p (.bl false)), some (.ref h.length), some (.p (.int (k : Nat))), some (.p x)], rt (mkRat a (1 + b).toNat), h2, rfl, by simp [e__law_spots_2, exs_cons, ex_set, ex_par, ex_unp, ex_seti, ex_expr, ex_ret, ex_if, ex_while, ex_for, ex_raise, ex_try, ex_frz, ev_bin, ev_neg, ev_cmp, ev_and, ev_or, ev_not, ev_ite, ev_tup, ev_lst, ev_idx, ev_slc00, ev_slc10, ev_slc01, ev_call, ev_callv, ev_comp, ev_blt, ev_meth, evs_cons, evI_seq, evI_rng, evI_zip, evT_and, evT_or, evT_not, evT_cmp, evT_call, evT_blt, evT_var, evT_idx, e1, e2, lo], ⟨mkRat a (1 + b).toNat, rfl, cl_mk bp (dvd60 (by omega) (by omega)) (by omega)⟩, S2.up (by omega), F1.trans F2⟩) S.app (by simp; omega)
        obtain ⟨h3, rfl, F3⟩ := F2.split S.ll
        obtain ⟨qs, rfl, ql, qq⟩ := rats_of yp
        have ml := mk_list (h := h3 ++ [some (acc.map D.p)]) (xs := qs.map rt) (lim1000 (by rw [yl]; simp; omega))
        have e5 := app_last (bs := bs) (h := h3) (ds := acc.map D.p) (x := spt qs) (by rw [List.length_map]; exact Nat.lt_of_le_of_lt (by omega : acc.length ≤ 1000) (by decide))
        rw [F3.len] at e5
        have rc := rec_ h (acc.map D.p)
        simp at yl S2
        refine ⟨qs, h3, ?_, by omega, qq, (S2.unapp (by rw [F3.len]; exact S.ll)).up (by omega), F3⟩
        simp only [spt] at e5
        simp [-List.map_map, l__law_spots_1, exs_cons, ex_set, ex_par, ex_unp, ex_seti, ex_expr, ex_ret, ex_if, ex_while, ex_for, ex_raise, ex_try, ex_frz, ev_bin, ev_neg, ev_cmp, ev_and, ev_or, ev_not, ev_ite, ev_tup, ev_lst, ev_idx, ev_slc00, ev_slc10, ev_slc01, ev_call, ev_callv, ev_comp, ev_blt, ev_meth, evs_cons, evI_seq, evI_rng, evI_zip, evT_and, evT_or, evT_not, evT_cmp, evT_call, evT_blt, evT_var, evT_idx, rc, r, e2, ml, e5, spt]
    obtain ⟨qs, h1, body, ql, qq, S1, F1⟩ := one
    obtain ⟨ys, h', d5', e, yl, yp, S', F'⟩ := spots_loop hm (bs := bs) g hd x2 ks (N + 120) h1 (acc ++ [spt qs]) (some (.p (.int (k : Nat)))) (fun y hy => by
      rcases List.mem_append.mp hy with z | z
      · exact ha y z
      · rw [List.mem_singleton.mp z]; exact ⟨qs, rfl, ql, qq⟩) (by simp; omega) S1 (by omega)
    rw [F1.len] at e
    refine ⟨ys, h', d5', ?_, by rw [yl]; simp; omega, yp, S'.up (by omega), F1.trans F'⟩
    rw [List.map_cons, for_step (ρ' := [some (.ref s), some (.p (.int (dim : Nat))), x2, some (.p (.bl g)), some (.ref h.length), some (.p (.int (k : Nat))), none]) rfl body, e]
theorem spots_of {g : Bool} {dim : Nat} {ys : List P} (h : ∀ y ∈ ys, SptP g dim y) : ∃ ss : List (List Rat), ys = ss.map spt ∧ ss.length = ys.length ∧ ∀ s ∈ ss, s.length = dim ∧ ∀ q ∈ s, Cl g q := by
  induction ys with
  | nil => exact ⟨[], rfl, rfl, by simp⟩
  | cons y ys ih =>
    obtain ⟨is, rfl, hl, hq⟩ := ih fun z hz => h z (List.mem_cons_of_mem _ hz)
    obtain ⟨v, rfl, q⟩ := h y List.mem_cons_self
    refine ⟨v :: is, rfl, by simp, fun i hi => ?_⟩
    rcases List.mem_cons.mp hi with w | w
    · rw [w]; exact q
    · exact hq i w
theorem rn_spots {n s : Nat} (hn : 6 ≤ n) (g : Bool) {dim many : Nat} (hd : dim ≤ 3) (hm : many ≤ 200) : Rn n i__law_spots (120 * many) [.ref s, .p (.int (dim : Nat)), .p (.int (many : Nat)), .p (.bl g)] s fun x => ∃ ss : List (List Rat), x = .lst (ss.map spt) ∧ ss.length = many ∧ ∀ s ∈ ss, s.length = dim ∧ ∀ q ∈ s, Cl g q := fun L N h S l => by
  obtain ⟨m, rfl⟩ : ∃ m, n = m + 1 := ⟨n - 1, by omega⟩
  obtain ⟨ys, h', d5', e, yl, yp, S', F'⟩ := spots_loop (m := m) (by omega) (bs := h.length) g hd (some (.p (.int (many : Nat)))) (List.range many) N h [] none (by simp) (by simp; omega) S (by simp; omega)
  obtain ⟨ss, rfl, sl, sp⟩ := spots_of yp
  have r := rng_at (d := many) (h := h ++ [some []]) (by omega)
  have fz := frz_last (h := h') (ρ := [some (.ref s), some (.p (.int (dim : Nat))), some (.p (.int (many : Nat))), some (.p (.bl g)), some (.ref h'.length), d5', none]) (i := 4) (xs := ss.map spt) rfl
  rw [F'.len] at fz
  simp only [List.map_nil] at e
  simp at yl S'
  refine ⟨_, h', ?_, ⟨ss, rfl, by omega, sp⟩, S', F'⟩
  rw [call_eq (fd := f__law_spots) rfl rfl]
  simp [-List.map_map, f__law_spots, b__law_spots, startS, exs_cons, ex_set, ex_par, ex_unp, ex_seti, ex_expr, ex_ret, ex_if, ex_while, ex_for, ex_raise, ex_try, ex_frz, ev_bin, ev_neg, ev_cmp, ev_and, ev_or, ev_not, ev_ite, ev_tup, ev_lst, ev_idx, ev_slc00, ev_slc10, ev_slc01, ev_call, ev_callv, ev_comp, ev_blt, ev_meth, evs_cons, evI_seq, evI_rng, evI_zip, evT_and, evT_or, evT_not, evT_cmp, evT_call, evT_blt, evT_var, evT_idx, r, e, fz, F'.takeApp]
end K15

set_option linter.all false
set_option maxRecDepth 100000
set_option maxHeartbeats 1000000
set_option exponentiation.threshold 700
namespace K15
open Mp
/-! ### _law_mean -/
def lcmC (k : Nat) : Nat → List (List Rat) → Nat
  | b, s :: ss => lcmC k (Nat.lcm b (s.getD k 0).den) ss
  | b, [] => b
theorem lcmC_dvd {k D : Nat} : ∀ {ss : List (List Rat)} {b : Nat}, b ∣ D → (∀ s ∈ ss, (s.getD k 0).den ∣ D) → lcmC k b ss ∣ D
  | [], b, h, _ => h
  | s :: ss, b, h, hs => by
    show lcmC k (Nat.lcm b (s.getD k 0).den) ss ∣ D
    exact lcmC_dvd (Nat.lcm_dvd h (hs s List.mem_cons_self)) fun z hz => hs z (List.mem_cons_of_mem _ hz)
theorem dvd_lcmC {k : Nat} : ∀ {ss : List (List Rat)} {b : Nat}, b ∣ lcmC k b ss
  | [], b => Nat.dvd_refl _
  | s :: ss, b => by
    show b ∣ lcmC k (Nat.lcm b (s.getD k 0).den) ss
    exact Nat.dvd_trans (Nat.dvd_lcm_left _ _) dvd_lcmC
theorem mem_dvd_lcmC {k : Nat} : ∀ {ss : List (List Rat)} {b : Nat} {s : List Rat}, s ∈ ss → (s.getD k 0).den ∣ lcmC k b ss
  | z :: ss, b, s, h => by
    show _ ∣ lcmC k (Nat.lcm b (z.getD k 0).den) ss
    rcases List.mem_cons.mp h with w | w
    · rw [w]; exact Nat.dvd_trans (Nat.dvd_lcm_right _ _) dvd_lcmC
    · exact mem_dvd_lcmC w
theorem lcmC_pos {k : Nat} : ∀ {ss : List (List Rat)} {b : Nat}, 0 < b → 0 < lcmC k b ss
  | [], b, h => h
  | s :: ss, b, h => by
    show 0 < lcmC k (Nat.lcm b (s.getD k 0).den) ss
    exact lcmC_pos (Nat.lcm_pos h (Rat.den_pos _))
theorem idx_any {x : P} {xs : List P} {i : Nat} {y : P} {h : Hea} (s : IsSeq x xs) (e : xs[i]? = some y) : idxD h (.p x) (.p (.int (i : Nat))) = some (.p y) := by
  rcases s with rfl | rfl
  · exact idx_atL e
  · exact idx_at e
theorem getD_at {s : List Rat} {k : Nat} (h : k < s.length) : s[k]? = some (s.getD k 0) := by
  rw [List.getD_eq_getElem?_getD, List.getElem?_eq_getElem h]; rfl
theorem spt_idx {s : List Rat} {k : Nat} (hk : k < s.length) (h : Hea) : idxD h (.p (spt s)) (.p (.int (k : Nat))) = some (.p (rt (s.getD k 0))) := idx_at (by rw [List.getElem?_map, getD_at hk]; rfl)
theorem rt_idx0 {q : Rat} (h : Hea) : idxD h (.p (rt q)) (.p (.int 0)) = some (.p (.int q.num)) := rfl
theorem rt_idx1 {q : Rat} (h : Hea) : idxD h (.p (rt q)) (.p (.int 1)) = some (.p (.int (q.den : Nat))) := rfl
theorem lmean_lcm {m : Nat} (hm : 1 ≤ m) {bs : Nat} (h : Hea) (x0 x1 x2 x3 d7 d8 : Option D) (k D : Nat) (hD : D < 2 ^ 3000) (hD0 : 0 < D) : ∀ (ss : List (List Rat)) (b : Nat) (d6 : Option Mp.D), (∀ s ∈ ss, k < s.length ∧ (s.getD k 0).den ∣ D) → 0 < b → b ∣ D →
    ∃ d6', runFor ⟨callN T m, bs⟩ (.one 6) l__law_mean_1 (ss.map spt) [x0, x1, x2, x3, some (.p (.int (k : Nat))), some (.p (.int (b : Nat))), d6, d7, d8] h =
      .next [x0, x1, x2, x3, some (.p (.int (k : Nat))), some (.p (.int (lcmC k b ss : Nat))), d6', d7, d8] h
  | [], b, d6, _, _, _ => ⟨d6, by simp [lcmC]⟩
  | s :: ss, b, d6, hs, hb, hbD => by
    obtain ⟨kl, dd⟩ := hs s List.mem_cons_self
    obtain ⟨d, ed⟩ : ∃ d, d = (s.getD k 0).den := ⟨_, rfl⟩
    have dp : 0 < d := by rw [ed]; exact Rat.den_pos _
    have dl : d < 2 ^ 3000 := Nat.lt_of_le_of_lt (Nat.le_of_dvd hD0 (by rw [ed]; exact dd)) hD
    have bl : b < 2 ^ 3000 := Nat.lt_of_le_of_lt (Nat.le_of_dvd hD0 hbD) hD
    have lo := lowest (n := m) hm (b : Int) d dp (small' dl (by decide)) h
    have i0 := rt_idx0 (q := mkRat (b : Int) d) h
    obtain ⟨l1, _⟩ := low_law (b : Int) d (Nat.ne_of_gt dp) _ rfl
    have l2 : (mkRat (b : Int) d).num = ((b / Nat.gcd b d : Nat) : Int) := by
      rw [l1]
      have : Int.gcd (b : Int) (d : Int) = Nat.gcd b d := rfl
      rw [this]; simp
    rw [l2] at i0
    have lc : (((b / Nat.gcd b d : Nat) : Int) * (d : Int)) = ((Nat.lcm b d : Nat) : Int) := by
      rw [← Int.natCast_mul]
      congr 1
      rw [Nat.lcm, Nat.mul_comm b d, Nat.mul_div_assoc _ (Nat.gcd_dvd_left _ _), Nat.mul_comm]
    have mo : mulOk ((b / Nat.gcd b d : Nat) : Int) (d : Int) = true := mulOk_of' (by rw [Int.natAbs_natCast]; exact small' (Nat.lt_of_le_of_lt (Nat.div_le_self _ _) bl) (by decide)) (by rw [Int.natAbs_natCast]; exact small' dl (by decide))
    have si := spt_idx kl h
    have r1 := rt_idx1 (q := s.getD k 0) h
    rw [← ed] at r1
    have bm := bin2_mul (h := h) mo
    rw [lc] at bm
    have body : exs ⟨callN T m, bs⟩ [x0, x1, x2, x3, some (.p (.int (k : Nat))), some (.p (.int (b : Nat))), some (.p (spt s)), d7, d8] l__law_mean_1 h =
        .next [x0, x1, x2, x3, some (.p (.int (k : Nat))), some (.p (.int (Nat.lcm b d : Nat))), some (.p (spt s)), d7, d8] h := by
      simp [-Int.natCast_ediv, -List.getD_eq_getElem?_getD, l__law_mean_1, exs_cons, ex_set, ex_par, ex_unp, ex_seti, ex_expr, ex_ret, ex_if, ex_while, ex_for, ex_raise, ex_try, ex_frz, ev_bin, ev_neg, ev_cmp, ev_and, ev_or, ev_not, ev_ite, ev_tup, ev_lst, ev_idx, ev_slc00, ev_slc10, ev_slc01, ev_call, ev_callv, ev_comp, ev_blt, ev_meth, evs_cons, evI_seq, evI_rng, evI_zip, evT_and, evT_or, evT_not, evT_cmp, evT_call, evT_blt, evT_var, evT_idx, si, r1, lo, i0, bm]
    obtain ⟨d6', e⟩ := lmean_lcm hm (bs := bs) h x0 x1 x2 x3 d7 d8 k D hD hD0 ss (Nat.lcm b d) (some (.p (spt s))) (fun z hz => hs z (List.mem_cons_of_mem _ hz)) (Nat.lcm_pos hb dp) (Nat.lcm_dvd hbD (by rw [ed]; exact dd))
    refine ⟨d6', ?_⟩
    rw [List.map_cons, for_step (ρ' := [x0, x1, x2, x3, some (.p (.int (k : Nat))), some (.p (.int (b : Nat))), some (.p (spt s)), d7, d8]) rfl body, e]
    simp only [lcmC, ← ed]
theorem step_mean {above c : Int} {B : Nat} {q : Rat} (hB : 0 < B) (hd : q.den ∣ B) : ((above + c * q.num * ((B / q.den : Nat) : Int) : Int) : Rat) / ((B : Int) : Rat) = (above : Rat) / ((B : Int) : Rat) + (c : Rat) * q := by
  have e := nd q
  have h1 := den_ne q
  have h2 := nat_ne hB
  obtain ⟨t, ht⟩ := hd
  have et : B / q.den = t := by rw [ht, Nat.mul_div_cancel_left _ q.den_pos]
  have eB : ((B : Int) : Rat) = ((q.den : Int) : Rat) * ((t : Int) : Rat) := by
    rw [← Rat.intCast_mul, ← Int.natCast_mul, ← ht]
  rw [et]
  simp only [Rat.intCast_add, Rat.intCast_mul]
  rw [eB] at h2 ⊢
  grind
theorem lmean_sum {m : Nat} {bs : Nat} (h : Hea) (x0 x3 d6 : Option D) (k : Nat) (ss : List (List Rat)) (cs : List Int) (hl : cs.length = ss.length) (hll : ss.length ≤ 1000) (hs : ∀ s ∈ ss, k < s.length ∧ ∀ q ∈ s, Rb 2000 q) (hc : ∀ c ∈ cs, Iok c) (B : Nat) (hB : 0 < B) (hB2 : B < 2 ^ 3000) (hd : ∀ s ∈ ss, (s.getD k 0).den ∣ B) : ∀ (n j : Nat) (above : Int) (d8 : Option D), j + n = ss.length → above.natAbs < 2 ^ (20000 + j) →
    ∃ (above' : Int) (d8' : Option D), runFor ⟨callN T m, bs⟩ (.one 8) l__law_mean_2 ((List.range' j n).map fun k => P.int (k : Nat)) [x0, some (.p (.lst (ss.map spt))), some (.p (.lst (cs.map P.int))), x3, some (.p (.int (k : Nat))), some (.p (.int (B : Nat))), d6, some (.p (.int above)), d8] h =
      .next [x0, some (.p (.lst (ss.map spt))), some (.p (.lst (cs.map P.int))), x3, some (.p (.int (k : Nat))), some (.p (.int (B : Nat))), d6, some (.p (.int above')), d8'] h ∧
      (above' : Rat) / ((B : Int) : Rat) = (above : Rat) / ((B : Int) : Rat) + (terms k (ss.drop j) (cs.drop j)).sum
  | 0, j, above, d8, hj, _ => ⟨above, d8, by simp, by
      rw [List.drop_eq_nil_of_le (by omega : ss.length ≤ j)]
      simp [terms, Rat.add_zero]⟩
  | n + 1, j, above, d8, hj, ha => by
    have jl : j < ss.length := by omega
    have jl2 : j < cs.length := by omega
    obtain ⟨s, es⟩ : ∃ i, i = ss[j] := ⟨_, rfl⟩
    obtain ⟨c, ec⟩ : ∃ q, q = cs[j] := ⟨_, rfl⟩
    have sj : ss[j]? = some s := by rw [es]; exact List.getElem?_eq_getElem jl
    have cj : cs[j]? = some c := by rw [ec]; exact List.getElem?_eq_getElem jl2
    have sm := List.mem_of_getElem? sj
    have cm := List.mem_of_getElem? cj
    obtain ⟨kl, hq⟩ := hs s sm
    obtain ⟨q, eq⟩ : ∃ q, q = s.getD k 0 := ⟨_, rfl⟩
    have bq : Rb 2000 q := by rw [eq]; exact hq _ (List.mem_of_getElem? (getD_at kl))
    have qd : q.den ∣ B := by rw [eq]; exact hd s sm
    have x1 : idxD h (.p (.lst (ss.map spt))) (.p (.int (j : Nat))) = some (.p (spt s)) := idx_atL (by rw [List.getElem?_map, sj]; rfl)
    have x2 : idxD h (.p (.lst (cs.map P.int))) (.p (.int (j : Nat))) = some (.p (.int c)) := idx_atL (by rw [List.getElem?_map, cj]; rfl)
    have si := spt_idx kl h
    rw [← eq] at si
    have hcc := hc c cm
    have b1 : (c * q.num).natAbs < 2 ^ 10000 := natAbs_mul_lt hcc bq.1
    have bb : ((B / q.den : Nat) : Int).natAbs < 2 ^ 3000 := by rw [Int.natAbs_natCast]; exact Nat.lt_of_le_of_lt (Nat.div_le_self _ _) hB2
    have m1 := mulOk_of' (small' hcc (by decide)) (small' bq.1 (by decide))
    have m2 := mulOk_of' (small' b1 (by decide)) (small' bb (by decide))
    have dv : divOk ((q.den : Nat) : Int) = true := divOk_of' (by have := q.den_pos; omega) (by rw [Int.natAbs_natCast]; exact small' bq.2 (by decide))
    have fd := bin2_fdiv (i := (B : Int)) (h := h) dv
    rw [show (B : Int) / (q.den : Int) = ((B / q.den : Nat) : Int) from by simp] at fd
    have i0 := rt_idx0 (q := q) h
    have i1 := rt_idx1 (q := q) h
    have body : exs ⟨callN T m, bs⟩ [x0, some (.p (.lst (ss.map spt))), some (.p (.lst (cs.map P.int))), x3, some (.p (.int (k : Nat))), some (.p (.int (B : Nat))), d6, some (.p (.int above)), some (.p (.int (j : Nat)))] l__law_mean_2 h =
        .next [x0, some (.p (.lst (ss.map spt))), some (.p (.lst (cs.map P.int))), x3, some (.p (.int (k : Nat))), some (.p (.int (B : Nat))), d6, some (.p (.int (above + c * q.num * ((B / q.den : Nat) : Int)))), some (.p (.int (j : Nat)))] h := by
      simp [-Int.natCast_ediv, -List.getD_eq_getElem?_getD, l__law_mean_2, exs_cons, ex_set, ex_par, ex_unp, ex_seti, ex_expr, ex_ret, ex_if, ex_while, ex_for, ex_raise, ex_try, ex_frz, ev_bin, ev_neg, ev_cmp, ev_and, ev_or, ev_not, ev_ite, ev_tup, ev_lst, ev_idx, ev_slc00, ev_slc10, ev_slc01, ev_call, ev_callv, ev_comp, ev_blt, ev_meth, evs_cons, evI_seq, evI_rng, evI_zip, evT_and, evT_or, evT_not, evT_cmp, evT_call, evT_blt, evT_var, evT_idx, x1, x2, si, i0, i1, bin2_mul m1, fd, bin2_mul m2]
    have b3 : (c * q.num * ((B / q.den : Nat) : Int)).natAbs < 2 ^ 13000 := natAbs_mul_lt b1 bb
    have a' : (above + c * q.num * ((B / q.den : Nat) : Int)).natAbs < 2 ^ (20000 + (j + 1)) := lt_pow_add ha b3 (by omega) (by omega)
    obtain ⟨ab, d8', e, e2⟩ := lmean_sum (m := m) (bs := bs) h x0 x3 d6 k ss cs hl hll hs hc B hB hB2 hd n (j + 1) (above + c * q.num * ((B / q.den : Nat) : Int)) (some (.p (.int (j : Nat)))) (by omega) a'
    refine ⟨ab, d8', ?_, ?_⟩
    · rw [List.range'_succ, List.map_cons, for_step (ρ' := [x0, some (.p (.lst (ss.map spt))), some (.p (.lst (cs.map P.int))), x3, some (.p (.int (k : Nat))), some (.p (.int (B : Nat))), d6, some (.p (.int above)), some (.p (.int (j : Nat)))]) rfl body, e]
    · rw [e2, step_mean hB qd, List.drop_eq_getElem_cons jl, List.drop_eq_getElem_cons jl2, ← es, ← ec]
      simp only [terms, ← eq]
      rw [sum_cons]
theorem lmean_outer {m : Nat} (hm : 1 ≤ m) {bs : Nat} (h : Hea) (x0 : Option D) {ss : List (List Rat)} {cs : List Int} {d : Nat} (hl : cs.length = ss.length) (hll : ss.length ≤ 1000) (hs : ∀ s ∈ ss, s.length = d ∧ ∀ q ∈ s, Rb 2000 q) (hc : ∀ c ∈ cs, Iok c) (M : Nat) (hM : cs.sum = (M : Int)) (hM0 : 0 < M) (hM1 : M < 2 ^ 1000) (hDd : ∀ k, k < d → ∃ Dm : Nat, Dm < 2 ^ 3000 ∧ 0 < Dm ∧ ∀ s ∈ ss, (s.getD k 0).den ∣ Dm) : ∀ (ks : List Nat) (acc : List P) (d4 d5 d6 d7 d8 : Option D), (∀ k ∈ ks, k < d) → acc.length + ks.length ≤ 1000 →
    ∃ d4' d5' d6' d7' d8', runFor ⟨callN T m, bs⟩ (.one 4) l__law_mean_3 (ks.map fun k => P.int (k : Nat)) [x0, some (.p (.lst (ss.map spt))), some (.p (.lst (cs.map P.int))), some (.ref h.length), d4, d5, d6, d7, d8] (h ++ [some (acc.map D.p)]) =
      .next [x0, some (.p (.lst (ss.map spt))), some (.p (.lst (cs.map P.int))), some (.ref h.length), d4', d5', d6', d7', d8'] (h ++ [some ((acc ++ ks.map fun k => rt ((terms k ss cs).sum * (cs.sum : Rat)⁻¹)).map D.p)])
  | [], acc, d4, d5, d6, d7, d8, _, _ => ⟨d4, d5, d6, d7, d8, by simp⟩
  | k :: ks, acc, d4, d5, d6, d7, d8, hk, hll2 => by
    have hl' : acc.length + (ks.length + 1) ≤ 1000 := by simpa using hll2
    have kd := hk k List.mem_cons_self
    obtain ⟨Dm, hD, hD0, hDk⟩ := hDd k kd
    have den_k : ∀ s ∈ ss, k < s.length ∧ (s.getD k 0).den ∣ Dm := fun s hs' => by
      have kl : k < s.length := by rw [(hs s hs').1]; exact kd
      exact ⟨kl, hDk s hs'⟩
    obtain ⟨d6a, e1⟩ := lmean_lcm hm (bs := bs) (h ++ [some (acc.map D.p)]) x0 (some (.p (.lst (ss.map spt)))) (some (.p (.lst (cs.map P.int)))) (some (.ref h.length)) d7 d8 k Dm hD hD0 ss 1 d6 den_k (by decide) (Nat.one_dvd _)
    obtain ⟨B, eB⟩ : ∃ B, B = lcmC k 1 ss := ⟨_, rfl⟩
    rw [← eB] at e1
    have Bp : 0 < B := by rw [eB]; exact lcmC_pos (by decide)
    have Bl : B < 2 ^ 3000 := Nat.lt_of_le_of_lt (Nat.le_of_dvd hD0 (by rw [eB]; exact lcmC_dvd (Nat.one_dvd _) fun s hs' => (den_k s hs').2)) hD
    obtain ⟨ab, d8a, e2, e3⟩ := lmean_sum (m := m) (bs := bs) (h ++ [some (acc.map D.p)]) x0 (some (.ref h.length)) d6a k ss cs hl hll (fun s hs' => ⟨(den_k s hs').1, (hs s hs').2⟩) hc B Bp Bl (fun s hs' => by rw [eB]; exact mem_dvd_lcmC hs') ss.length 0 0 d8 (by omega) (by simp [Nat.pow_pos])
    have lo := lowest (n := m) hm ab (B * M) (Nat.mul_pos Bp hM0) (small' (nat_mul_lt Bl hM1) (by decide)) (h ++ [some (acc.map D.p)])
    have er : mkRat ab (B * M) = (terms k ss cs).sum * (cs.sum : Rat)⁻¹ := by
      rw [mk_div]
      have q1 := e3
      rw [List.drop_zero, List.drop_zero] at q1
      have h1 := nat_ne Bp
      have h2 := nat_ne hM0
      have z0 : (((0 : Int) : Rat)) = 0 := rfl
      rw [hM]
      simp only [Int.natCast_mul, Rat.intCast_mul]
      grind
    rw [er] at lo
    have mo : mulOk (B : Int) (M : Int) = true := mulOk_of' (by rw [Int.natAbs_natCast]; exact small' Bl (by decide)) (by rw [Int.natAbs_natCast]; exact small' hM1 (by decide))
    have r := rng_at (d := ss.length) (h := h ++ [some (acc.map D.p)]) hll
    rw [List.range_eq_range'] at r
    have sm := IsSeq.sum (h := h ++ [some (acc.map D.p)]) (x := .lst (cs.map P.int)) (ns := cs) (.inl rfl)
    rw [hM] at sm
    have e5 := app_last (bs := bs) (h := h) (ds := acc.map D.p) (x := rt ((terms k ss cs).sum * (cs.sum : Rat)⁻¹)) (by rw [List.length_map]; exact Nat.lt_of_le_of_lt (by omega : acc.length ≤ 1000) (by decide))
    have e1 : runFor ⟨callN T m, bs⟩ (.one 6) l__law_mean_1 (ss.map spt) [x0, some (.p (.lst (ss.map spt))), some (.p (.lst (cs.map P.int))), some (.ref h.length), some (.p (.int (k : Nat))), some (.p (.int 1)), d6, d7, d8] (h ++ [some (acc.map D.p)]) = _ := e1
    simp only [Int.natCast_mul] at lo
    have body : exs ⟨callN T m, bs⟩ [x0, some (.p (.lst (ss.map spt))), some (.p (.lst (cs.map P.int))), some (.ref h.length), some (.p (.int (k : Nat))), d5, d6, d7, d8] l__law_mean_3 (h ++ [some (acc.map D.p)]) =
        .next [x0, some (.p (.lst (ss.map spt))), some (.p (.lst (cs.map P.int))), some (.ref h.length), some (.p (.int (k : Nat))), some (.p (.int (B : Nat))), d6a, some (.p (.int ab)), d8a] (h ++ [some ((acc ++ [rt ((terms k ss cs).sum * (cs.sum : Rat)⁻¹)]).map D.p)]) := by
      simp [-List.map_map, l__law_mean_3, exs_cons, ex_set, ex_par, ex_unp, ex_seti, ex_expr, ex_ret, ex_if, ex_while, ex_for, ex_raise, ex_try, ex_frz, ev_bin, ev_neg, ev_cmp, ev_and, ev_or, ev_not, ev_ite, ev_tup, ev_lst, ev_idx, ev_slc00, ev_slc10, ev_slc01, ev_call, ev_callv, ev_comp, ev_blt, ev_meth, evs_cons, evI_seq, evI_rng, evI_zip, evT_and, evT_or, evT_not, evT_cmp, evT_call, evT_blt, evT_var, evT_idx, e1, r, e2, sm, bin2_mul mo, lo, e5]
    obtain ⟨d4', d5', d6', d7', d8', e⟩ := lmean_outer hm (bs := bs) h x0 hl hll hs hc M hM hM0 hM1 hDd ks (acc ++ [rt ((terms k ss cs).sum * (cs.sum : Rat)⁻¹)]) (some (.p (.int (k : Nat)))) (some (.p (.int (B : Nat)))) d6a (some (.p (.int ab))) d8a (fun z hz => hk z (List.mem_cons_of_mem _ hz)) (by simp; omega)
    refine ⟨d4', d5', d6', d7', d8', ?_⟩
    rw [List.map_cons, for_step (ρ' := [x0, some (.p (.lst (ss.map spt))), some (.p (.lst (cs.map P.int))), some (.ref h.length), some (.p (.int (k : Nat))), d5, d6, d7, d8]) rfl body, e]
    simp
theorem law_mean {n : Nat} (hn : 2 ≤ n) {ss : List (List Rat)} {cs : List Int} {d : Nat} (hd : d ≤ 3) (hl : cs.length = ss.length) (hll : ss.length ≤ 1000) (hs : ∀ s ∈ ss, s.length = d ∧ ∀ q ∈ s, Rb 2000 q) (hc : ∀ c ∈ cs, Iok c) (M : Nat) (hM : cs.sum = (M : Int)) (hM0 : 0 < M) (hM1 : M < 2 ^ 1000) (hDd : ∀ k, k < d → ∃ Dm : Nat, Dm < 2 ^ 3000 ∧ 0 < Dm ∧ ∀ s ∈ ss, (s.getD k 0).den ∣ Dm) (h : Hea) :
    callN T n i__law_mean [.p (.int (d : Nat)), .p (.lst (ss.map spt)), .p (.lst (cs.map P.int))] h = .ok (.p (spt ((List.range d).map fun k => (terms k ss cs).sum * (cs.sum : Rat)⁻¹))) h := by
  obtain ⟨m, rfl⟩ : ∃ m, n = m + 1 := ⟨n - 1, by omega⟩
  obtain ⟨d4, d5, d6, d7, d8, e⟩ := lmean_outer (m := m) (by omega) (bs := h.length) h (some (.p (.int (d : Nat)))) hl hll hs hc M hM hM0 hM1 hDd (List.range d) [] none none none none none (fun k hk => List.mem_range.mp hk) (by simp; omega)
  have r := rng_at (d := d) (h := h ++ [some []]) (by omega)
  have t := blt1_tuple_last (h := h) (xs := (List.range d).map fun k => rt ((terms k ss cs).sum * (cs.sum : Rat)⁻¹))
  simp only [List.map_nil, List.nil_append] at e
  rw [call_eq (fd := f__law_mean) rfl rfl]
  simp only [spt, List.map_map]
  simp [-List.map_map, f__law_mean, b__law_mean, startS, exs_cons, ex_set, ex_par, ex_unp, ex_seti, ex_expr, ex_ret, ex_if, ex_while, ex_for, ex_raise, ex_try, ex_frz, ev_bin, ev_neg, ev_cmp, ev_and, ev_or, ev_not, ev_ite, ev_tup, ev_lst, ev_idx, ev_slc00, ev_slc10, ev_slc01, ev_call, ev_callv, ev_comp, ev_blt, ev_meth, evs_cons, evI_seq, evI_rng, evI_zip, evT_and, evT_or, evT_not, evT_cmp, evT_call, evT_blt, evT_var, evT_idx, r, e, t]
end K15

set_option linter.all false
set_option maxRecDepth 100000
set_option maxHeartbeats 1000000
set_option exponentiation.threshold 700
namespace K15
open Mp
/-! ### _law_summed -/
theorem idx_last {h : Hea} {ds : List D} {i : Nat} {d : D} (hd : ds[i]? = some d) : idxD (h ++ [some ds]) (.ref h.length) (.p (.int (i : Nat))) = some d := idx_ref cell_last hd
theorem at_mid {α : Type} {pre post : List α} {x : α} {j : Nat} (h : pre.length = j) : (pre ++ x :: post)[j]? = some x := by
  rw [← h, List.getElem?_append_right (Nat.le_refl _), Nat.sub_self]; rfl
theorem set_mid {α : Type} {pre post : List α} {x y : α} {j : Nat} (h : pre.length = j) : (pre ++ x :: post).set j y = pre ++ y :: post := by
  rw [← h, List.set_append_right _ _ (Nat.le_refl _), Nat.sub_self]; rfl
theorem summed_in {m bs : Nat} (h : Hea) (x0 : Option D) {fs : List (List Int)} {ns : List Int} {t : Nat} {f : List Int} {n : Int} (ef : fs[t]? = some f) (en : ns[t]? = some n) (hn : Iok n) (hf : ∀ i ∈ f, Iok i) : ∀ (acc f' : List Int) (j : Nat) (pre fpre : List Int) (d5 : Option D), pre.length = j → fpre.length = j → f = fpre ++ f' → f'.length = acc.length →
    ∃ d5', runFor ⟨callN T m, bs⟩ (.one 5) l__law_summed_1 ((List.range' j acc.length).map fun k => P.int (k : Nat)) [x0, some (.p (.lst (fs.map frm))), some (.p (.lst (ns.map P.int))), some (.ref h.length), some (.p (.int (t : Nat))), d5] (h ++ [some (((pre ++ acc).map P.int).map D.p)]) =
      .next [x0, some (.p (.lst (fs.map frm))), some (.p (.lst (ns.map P.int))), some (.ref h.length), some (.p (.int (t : Nat))), d5'] (h ++ [some (((pre ++ List.zipWith (fun e p => e + p * n) acc f').map P.int).map D.p)])
  | [], [], j, pre, fpre, d5, _, _, _, _ => ⟨d5, by simp⟩
  | [], _ :: _, j, pre, fpre, d5, _, _, _, l => by simp at l
  | _ :: _, [], j, pre, fpre, d5, _, _, _, l => by simp at l
  | e :: acc, p :: f', j, pre, fpre, d5, lp, lf, ee, l => by
    have l' : f'.length = acc.length := by simpa using l
    have fj : f[j]? = some p := by rw [ee]; exact at_mid lf
    have x1 : ∀ h : Hea, idxD h (.p (.lst (fs.map frm))) (.p (.int (t : Nat))) = some (.p (frm f)) := fun h => idx_atL (by rw [List.getElem?_map, ef]; rfl)
    have x2 : ∀ h : Hea, idxD h (.p (.lst (ns.map P.int))) (.p (.int (t : Nat))) = some (.p (.int n)) := fun h => idx_atL (by rw [List.getElem?_map, en]; rfl)
    have x3 : ∀ h : Hea, idxD h (.p (frm f)) (.p (.int (j : Nat))) = some (.p (.int p)) := fun h => idx_at (by rw [List.getElem?_map, fj]; rfl)
    have x4 : idxD (h ++ [some (((pre ++ e :: acc).map P.int).map D.p)]) (.ref h.length) (.p (.int (j : Nat))) = some (.p (.int e)) := idx_last (by rw [List.getElem?_map, List.getElem?_map, at_mid lp]; rfl)
    have mo : mulOk n p = true := mulOk_of (small hn (by decide)) (small (hf p (List.mem_of_getElem? fj)) (by decide))
    have st : ∀ (ρ : Slots) (v : Int), seti1 bs ρ (.p (.int v)) (.ref h.length) (.p (.int (j : Nat))) (h ++ [some (((pre ++ e :: acc).map P.int).map D.p)]) = .next ρ (h ++ [some ((((pre ++ [v]) ++ acc).map P.int).map D.p)]) := fun ρ v => by
      rw [seti_last (by rw [List.length_map, List.length_map, List.length_append, List.length_cons]; omega), map_set_ints, set_mid lp, List.append_assoc]
      rfl
    have body : exs ⟨callN T m, bs⟩ [x0, some (.p (.lst (fs.map frm))), some (.p (.lst (ns.map P.int))), some (.ref h.length), some (.p (.int (t : Nat))), some (.p (.int (j : Nat)))] l__law_summed_1 (h ++ [some (((pre ++ e :: acc).map P.int).map D.p)]) =
        .next [x0, some (.p (.lst (fs.map frm))), some (.p (.lst (ns.map P.int))), some (.ref h.length), some (.p (.int (t : Nat))), some (.p (.int (j : Nat)))] (h ++ [some ((((pre ++ [e + n * p]) ++ acc).map P.int).map D.p)]) := by
      simp [-List.map_append, -List.append_assoc, -List.map_map, -List.map_cons, l__law_summed_1, exs_cons, ex_set, ex_par, ex_unp, ex_seti, ex_expr, ex_ret, ex_if, ex_while, ex_for, ex_raise, ex_try, ex_frz, ev_bin, ev_neg, ev_cmp, ev_and, ev_or, ev_not, ev_ite, ev_tup, ev_lst, ev_idx, ev_slc00, ev_slc10, ev_slc01, ev_call, ev_callv, ev_comp, ev_blt, ev_meth, evs_cons, evI_seq, evI_rng, evI_zip, evT_and, evT_or, evT_not, evT_cmp, evT_call, evT_blt, evT_var, evT_idx, x1, x2, x3, x4, bin2_mul mo, st]
    obtain ⟨d5', e2⟩ := summed_in (m := m) (bs := bs) h x0 ef en hn hf acc f' (j + 1) (pre ++ [e + n * p]) (fpre ++ [p]) (some (.p (.int (j : Nat)))) (by simp [lp]) (by simp [lf]) (by rw [ee, List.append_assoc]; rfl) l'
    refine ⟨d5', ?_⟩
    rw [List.length_cons, List.range'_succ, List.map_cons, for_step (ρ' := [x0, some (.p (.lst (fs.map frm))), some (.p (.lst (ns.map P.int))), some (.ref h.length), some (.p (.int (t : Nat))), some (.p (.int (j : Nat)))]) rfl body, e2, List.zipWith_cons_cons, List.append_assoc, Int.mul_comm n p]
    rfl
theorem zip_len {acc f : List Int} {n : Int} (h : f.length = acc.length) : (List.zipWith (fun e p => e + p * n) acc f).length = acc.length := by simp [h]
theorem comb_len : ∀ {fs : List (List Int)} {ns acc : List Int}, (∀ f ∈ fs, f.length = acc.length) → (comb acc fs ns).length = acc.length
  | [], ns, acc, _ => by cases ns <;> rfl
  | f :: fs, [], acc, _ => rfl
  | f :: fs, n :: ns, acc, h => by
    have l := zip_len (n := n) (h f List.mem_cons_self)
    show (comb (List.zipWith (fun e p => e + p * n) acc f) fs ns).length = _
    rw [comb_len fun g hg => by rw [l]; exact h g (List.mem_cons_of_mem _ hg), l]
theorem summed_out {m bs : Nat} (h : Hea) {fs : List (List Int)} {ns : List Int} {d : Nat} (hd : d ≤ 1000) (hl : ns.length = fs.length) (hf : ∀ f ∈ fs, f.length = d ∧ ∀ i ∈ f, Iok i) (hn : ∀ i ∈ ns, Iok i) : ∀ (k j : Nat) (acc : List Int) (d4 d5 : Option D), j + k = fs.length → acc.length = d →
    ∃ d4' d5', runFor ⟨callN T m, bs⟩ (.one 4) l__law_summed_2 ((List.range' j k).map fun k => P.int (k : Nat)) [some (.p (.int (d : Nat))), some (.p (.lst (fs.map frm))), some (.p (.lst (ns.map P.int))), some (.ref h.length), d4, d5] (h ++ [some ((acc.map P.int).map D.p)]) =
      .next [some (.p (.int (d : Nat))), some (.p (.lst (fs.map frm))), some (.p (.lst (ns.map P.int))), some (.ref h.length), d4', d5'] (h ++ [some (((comb acc (fs.drop j) (ns.drop j)).map P.int).map D.p)])
  | 0, j, acc, d4, d5, hj, _ => ⟨d4, d5, by
      rw [List.drop_eq_nil_of_le (by omega : fs.length ≤ j)]
      cases (ns.drop j) <;> simp [comb]⟩
  | k + 1, j, acc, d4, d5, hj, ha => by
    have jl : j < fs.length := by omega
    have jl2 : j < ns.length := by omega
    obtain ⟨f, ef⟩ : ∃ i, i = fs[j] := ⟨_, rfl⟩
    obtain ⟨n, en⟩ : ∃ q, q = ns[j] := ⟨_, rfl⟩
    have fj : fs[j]? = some f := by rw [ef]; exact List.getElem?_eq_getElem jl
    have nj : ns[j]? = some n := by rw [en]; exact List.getElem?_eq_getElem jl2
    obtain ⟨lf, bf⟩ := hf f (List.mem_of_getElem? fj)
    obtain ⟨d5a, e1⟩ := summed_in (m := m) (bs := bs) h (some (.p (.int (d : Nat)))) fj nj (hn n (List.mem_of_getElem? nj)) bf acc f 0 [] [] d5 rfl rfl rfl (by rw [lf, ha])
    simp only [List.nil_append] at e1
    have r := rng_at (d := d) (h := h ++ [some ((acc.map P.int).map D.p)]) hd
    rw [List.range_eq_range'] at r
    rw [ha] at e1
    have body : exs ⟨callN T m, bs⟩ [some (.p (.int (d : Nat))), some (.p (.lst (fs.map frm))), some (.p (.lst (ns.map P.int))), some (.ref h.length), some (.p (.int (j : Nat))), d5] l__law_summed_2 (h ++ [some ((acc.map P.int).map D.p)]) =
        .next [some (.p (.int (d : Nat))), some (.p (.lst (fs.map frm))), some (.p (.lst (ns.map P.int))), some (.ref h.length), some (.p (.int (j : Nat))), d5a] (h ++ [some (((List.zipWith (fun e p => e + p * n) acc f).map P.int).map D.p)]) := by
      simp [-List.map_map, -List.map_zipWith, l__law_summed_2, exs_cons, ex_set, ex_par, ex_unp, ex_seti, ex_expr, ex_ret, ex_if, ex_while, ex_for, ex_raise, ex_try, ex_frz, ev_bin, ev_neg, ev_cmp, ev_and, ev_or, ev_not, ev_ite, ev_tup, ev_lst, ev_idx, ev_slc00, ev_slc10, ev_slc01, ev_call, ev_callv, ev_comp, ev_blt, ev_meth, evs_cons, evI_seq, evI_rng, evI_zip, evT_and, evT_or, evT_not, evT_cmp, evT_call, evT_blt, evT_var, evT_idx, r, e1]
    obtain ⟨d4', d5', e⟩ := summed_out (m := m) (bs := bs) h hd hl hf hn k (j + 1) (List.zipWith (fun e p => e + p * n) acc f) (some (.p (.int (j : Nat)))) d5a (by omega) (by rw [zip_len (by rw [lf, ha]), ha])
    refine ⟨d4', d5', ?_⟩
    rw [List.range'_succ, List.map_cons, for_step (ρ' := [some (.p (.int (d : Nat))), some (.p (.lst (fs.map frm))), some (.p (.lst (ns.map P.int))), some (.ref h.length), some (.p (.int (j : Nat))), d5]) rfl body, e]
    rw [List.drop_eq_getElem_cons jl, List.drop_eq_getElem_cons jl2, ← ef, ← en]
    rfl
theorem law_summed {n : Nat} (hn : 1 ≤ n) {fs : List (List Int)} {ns : List Int} {d : Nat} (hd : d ≤ 1000) (hll : fs.length ≤ 1000) (hl : ns.length = fs.length) (hf : ∀ f ∈ fs, f.length = d ∧ ∀ i ∈ f, Iok i) (hni : ∀ i ∈ ns, Iok i) (h : Hea) :
    callN T n i__law_summed [.p (.int (d : Nat)), .p (.lst (fs.map frm)), .p (.lst (ns.map P.int))] h = .ok (.p (frm (comb (List.replicate d 0) fs ns))) h := by
  obtain ⟨m, rfl⟩ : ∃ m, n = m + 1 := ⟨n - 1, by omega⟩
  obtain ⟨d4, d5, e⟩ := summed_out (m := m) (bs := h.length) h hd hl hf hni fs.length 0 (List.replicate d 0) none none (by omega) (by simp)
  have r := rng_at (d := d) (h := h) hd
  have r2 := rng_at (d := fs.length) (h := h ++ [some (((List.replicate d (0 : Int)).map P.int).map D.p)]) hll
  rw [List.range_eq_range'] at r2
  have hc : runComp ⟨callN T m, h.length⟩ [some (.p (.int (d : Nat))), some (.p (.lst (fs.map frm))), some (.p (.lst (ns.map P.int))), none, none, none] [5] (.one 5) .nil e__law_summed_1 ((List.range d).map fun k => P.int (k : Nat)) h = .ok (((List.replicate d (0 : Int)).map P.int).map D.p) h := by
    have := comp_one (G := ⟨callN T m, h.length⟩) (ρ := [some (.p (.int (d : Nat))), some (.p (.lst (fs.map frm))), some (.p (.lst (ns.map P.int))), none, none, none]) (vs := [5]) (i := 5) (elt := e__law_summed_1) (h := h) (xs := (List.range d).map fun k => P.int (k : Nat)) (f := fun _ => P.int 0) fun x hx' => by
      simp [e__law_summed_1, exs_cons, ex_set, ex_par, ex_unp, ex_seti, ex_expr, ex_ret, ex_if, ex_while, ex_for, ex_raise, ex_try, ex_frz, ev_bin, ev_neg, ev_cmp, ev_and, ev_or, ev_not, ev_ite, ev_tup, ev_lst, ev_idx, ev_slc00, ev_slc10, ev_slc01, ev_call, ev_callv, ev_comp, ev_blt, ev_meth, evs_cons, evI_seq, evI_rng, evI_zip, evT_and, evT_or, evT_not, evT_cmp, evT_call, evT_blt, evT_var, evT_idx, wipe]
    rw [this]
    congr 1
    simp [List.map_map, List.map_replicate]
    exact List.eq_replicate_iff.mpr ⟨by simp, by simp⟩
  have mk1 := mk_true (ds := ((List.replicate d (0 : Int)).map P.int).map D.p) (h := h) (by rw [List.length_map, List.length_map, List.length_replicate]; exact Nat.le_trans hd (by decide))
  have ln : blt1 .len false [.p (.lst (fs.map frm))] (h ++ [some (((List.replicate d (0 : Int)).map P.int).map D.p)]) = .ok (.p (.int (fs.length : Int))) (h ++ [some (((List.replicate d (0 : Int)).map P.int).map D.p)]) := by
    show R.ok (D.p (.int ((fs.map frm).length : Nat))) _ = _
    rw [List.length_map]
  have t := blt1_tuple_last (h := h) (xs := (comb (List.replicate d 0) fs ns).map P.int)
  simp only [List.drop_zero] at e
  rw [call_eq (fd := f__law_summed) rfl rfl]
  simp [-List.map_map, -List.map_replicate, f__law_summed, b__law_summed, startS, exs_cons, ex_set, ex_par, ex_unp, ex_seti, ex_expr, ex_ret, ex_if, ex_while, ex_for, ex_raise, ex_try, ex_frz, ev_bin, ev_neg, ev_cmp, ev_and, ev_or, ev_not, ev_ite, ev_tup, ev_lst, ev_idx, ev_slc00, ev_slc10, ev_slc01, ev_call, ev_callv, ev_comp, ev_blt, ev_meth, evs_cons, evI_seq, evI_rng, evI_zip, evT_and, evT_or, evT_not, evT_cmp, evT_call, evT_blt, evT_var, evT_idx, r, hc, mk1, ln, r2, e, t]
  all_goals rfl
end K15

set_option linter.all false
set_option maxRecDepth 100000
set_option maxHeartbeats 1000000
set_option exponentiation.threshold 700
namespace K15
open Mp
/-! ### _law_call, _law_class -/
/-- an answer that leaves the cells alone -/
def Pl (r : R D) (h : Hea) : Prop := (∃ v, r = .ok (.p v) h) ∨ ∃ c fs, r = .exn c fs h
theorem law_call3 {n : Nat} {x a b c : D} {h : Hea} {r : R D} (x0 : idxD h x (.p (.int 0)) = some a) (x1 : idxD h x (.p (.int 1)) = some b) (x2 : idxD h x (.p (.int 2)) = some c) (e : callN T n i_between [a, b, c] h = r) (p : Pl r h) : callN T (n + 1) i__law_call [.p (.int 0), x] h = r := by
  rw [call_eq (fd := f__law_call) rfl rfl]
  rcases p with ⟨v, rfl⟩ | ⟨k, fs, rfl⟩
  · simp [f__law_call, b__law_call, startS, exs_cons, ex_set, ex_par, ex_unp, ex_seti, ex_expr, ex_ret, ex_if, ex_while, ex_for, ex_raise, ex_try, ex_frz, ev_bin, ev_neg, ev_cmp, ev_and, ev_or, ev_not, ev_ite, ev_tup, ev_lst, ev_idx, ev_slc00, ev_slc10, ev_slc01, ev_call, ev_callv, ev_comp, ev_blt, ev_meth, evs_cons, evI_seq, evI_rng, evI_zip, evT_and, evT_or, evT_not, evT_cmp, evT_call, evT_blt, evT_var, evT_idx, x0, x1, x2, e]
  · simp [f__law_call, b__law_call, startS, exs_cons, ex_set, ex_par, ex_unp, ex_seti, ex_expr, ex_ret, ex_if, ex_while, ex_for, ex_raise, ex_try, ex_frz, ev_bin, ev_neg, ev_cmp, ev_and, ev_or, ev_not, ev_ite, ev_tup, ev_lst, ev_idx, ev_slc00, ev_slc10, ev_slc01, ev_call, ev_callv, ev_comp, ev_blt, ev_meth, evs_cons, evI_seq, evI_rng, evI_zip, evT_and, evT_or, evT_not, evT_cmp, evT_call, evT_blt, evT_var, evT_idx, x0, x1, x2, e]
def two : Nat → Nat
  | 1 => i_combine
  | 2 => i_mean_spot
  | 3 => i_compare_spots
  | 4 => i_value
  | 6 => i_plus
  | 7 => i_minus
  | 8 => i_times
  | _ => i_over
theorem law_call1 {n : Nat} {x a : D} {h : Hea} {r : R D} (x0 : idxD h x (.p (.int 0)) = some a) (e : callN T n i_total [a] h = r) (p : Pl r h) : callN T (n + 1) i__law_call [.p (.int 5), x] h = r := by
  rw [call_eq (fd := f__law_call) rfl rfl]
  rcases p with ⟨v, rfl⟩ | ⟨k, fs, rfl⟩
  · simp [f__law_call, b__law_call, startS, exs_cons, ex_set, ex_par, ex_unp, ex_seti, ex_expr, ex_ret, ex_if, ex_while, ex_for, ex_raise, ex_try, ex_frz, ev_bin, ev_neg, ev_cmp, ev_and, ev_or, ev_not, ev_ite, ev_tup, ev_lst, ev_idx, ev_slc00, ev_slc10, ev_slc01, ev_call, ev_callv, ev_comp, ev_blt, ev_meth, evs_cons, evI_seq, evI_rng, evI_zip, evT_and, evT_or, evT_not, evT_cmp, evT_call, evT_blt, evT_var, evT_idx, x0, e]
  · simp [f__law_call, b__law_call, startS, exs_cons, ex_set, ex_par, ex_unp, ex_seti, ex_expr, ex_ret, ex_if, ex_while, ex_for, ex_raise, ex_try, ex_frz, ev_bin, ev_neg, ev_cmp, ev_and, ev_or, ev_not, ev_ite, ev_tup, ev_lst, ev_idx, ev_slc00, ev_slc10, ev_slc01, ev_call, ev_callv, ev_comp, ev_blt, ev_meth, evs_cons, evI_seq, evI_rng, evI_zip, evT_and, evT_or, evT_not, evT_cmp, evT_call, evT_blt, evT_var, evT_idx, x0, e]
theorem law_call2_1 {n : Nat} {x a b : D} {h : Hea} {r : R D} (x0 : idxD h x (.p (.int 0)) = some a) (x1 : idxD h x (.p (.int 1)) = some b) (e : callN T n i_combine [a, b] h = r) (p : Pl r h) : callN T (n + 1) i__law_call [.p (.int 1), x] h = r := by
  rw [call_eq (fd := f__law_call) rfl rfl]
  rcases p with ⟨v, rfl⟩ | ⟨k, fs, rfl⟩
  · simp [f__law_call, b__law_call, startS, exs_cons, ex_set, ex_par, ex_unp, ex_seti, ex_expr, ex_ret, ex_if, ex_while, ex_for, ex_raise, ex_try, ex_frz, ev_bin, ev_neg, ev_cmp, ev_and, ev_or, ev_not, ev_ite, ev_tup, ev_lst, ev_idx, ev_slc00, ev_slc10, ev_slc01, ev_call, ev_callv, ev_comp, ev_blt, ev_meth, evs_cons, evI_seq, evI_rng, evI_zip, evT_and, evT_or, evT_not, evT_cmp, evT_call, evT_blt, evT_var, evT_idx, x0, x1, e]
  · simp [f__law_call, b__law_call, startS, exs_cons, ex_set, ex_par, ex_unp, ex_seti, ex_expr, ex_ret, ex_if, ex_while, ex_for, ex_raise, ex_try, ex_frz, ev_bin, ev_neg, ev_cmp, ev_and, ev_or, ev_not, ev_ite, ev_tup, ev_lst, ev_idx, ev_slc00, ev_slc10, ev_slc01, ev_call, ev_callv, ev_comp, ev_blt, ev_meth, evs_cons, evI_seq, evI_rng, evI_zip, evT_and, evT_or, evT_not, evT_cmp, evT_call, evT_blt, evT_var, evT_idx, x0, x1, e]
theorem law_call2_2 {n : Nat} {x a b : D} {h : Hea} {r : R D} (x0 : idxD h x (.p (.int 0)) = some a) (x1 : idxD h x (.p (.int 1)) = some b) (e : callN T n i_mean_spot [a, b] h = r) (p : Pl r h) : callN T (n + 1) i__law_call [.p (.int 2), x] h = r := by
  rw [call_eq (fd := f__law_call) rfl rfl]
  rcases p with ⟨v, rfl⟩ | ⟨k, fs, rfl⟩
  · simp [f__law_call, b__law_call, startS, exs_cons, ex_set, ex_par, ex_unp, ex_seti, ex_expr, ex_ret, ex_if, ex_while, ex_for, ex_raise, ex_try, ex_frz, ev_bin, ev_neg, ev_cmp, ev_and, ev_or, ev_not, ev_ite, ev_tup, ev_lst, ev_idx, ev_slc00, ev_slc10, ev_slc01, ev_call, ev_callv, ev_comp, ev_blt, ev_meth, evs_cons, evI_seq, evI_rng, evI_zip, evT_and, evT_or, evT_not, evT_cmp, evT_call, evT_blt, evT_var, evT_idx, x0, x1, e]
  · simp [f__law_call, b__law_call, startS, exs_cons, ex_set, ex_par, ex_unp, ex_seti, ex_expr, ex_ret, ex_if, ex_while, ex_for, ex_raise, ex_try, ex_frz, ev_bin, ev_neg, ev_cmp, ev_and, ev_or, ev_not, ev_ite, ev_tup, ev_lst, ev_idx, ev_slc00, ev_slc10, ev_slc01, ev_call, ev_callv, ev_comp, ev_blt, ev_meth, evs_cons, evI_seq, evI_rng, evI_zip, evT_and, evT_or, evT_not, evT_cmp, evT_call, evT_blt, evT_var, evT_idx, x0, x1, e]
theorem law_call2_3 {n : Nat} {x a b : D} {h : Hea} {r : R D} (x0 : idxD h x (.p (.int 0)) = some a) (x1 : idxD h x (.p (.int 1)) = some b) (e : callN T n i_compare_spots [a, b] h = r) (p : Pl r h) : callN T (n + 1) i__law_call [.p (.int 3), x] h = r := by
  rw [call_eq (fd := f__law_call) rfl rfl]
  rcases p with ⟨v, rfl⟩ | ⟨k, fs, rfl⟩
  · simp [f__law_call, b__law_call, startS, exs_cons, ex_set, ex_par, ex_unp, ex_seti, ex_expr, ex_ret, ex_if, ex_while, ex_for, ex_raise, ex_try, ex_frz, ev_bin, ev_neg, ev_cmp, ev_and, ev_or, ev_not, ev_ite, ev_tup, ev_lst, ev_idx, ev_slc00, ev_slc10, ev_slc01, ev_call, ev_callv, ev_comp, ev_blt, ev_meth, evs_cons, evI_seq, evI_rng, evI_zip, evT_and, evT_or, evT_not, evT_cmp, evT_call, evT_blt, evT_var, evT_idx, x0, x1, e]
  · simp [f__law_call, b__law_call, startS, exs_cons, ex_set, ex_par, ex_unp, ex_seti, ex_expr, ex_ret, ex_if, ex_while, ex_for, ex_raise, ex_try, ex_frz, ev_bin, ev_neg, ev_cmp, ev_and, ev_or, ev_not, ev_ite, ev_tup, ev_lst, ev_idx, ev_slc00, ev_slc10, ev_slc01, ev_call, ev_callv, ev_comp, ev_blt, ev_meth, evs_cons, evI_seq, evI_rng, evI_zip, evT_and, evT_or, evT_not, evT_cmp, evT_call, evT_blt, evT_var, evT_idx, x0, x1, e]
theorem law_call2_4 {n : Nat} {x a b : D} {h : Hea} {r : R D} (x0 : idxD h x (.p (.int 0)) = some a) (x1 : idxD h x (.p (.int 1)) = some b) (e : callN T n i_value [a, b] h = r) (p : Pl r h) : callN T (n + 1) i__law_call [.p (.int 4), x] h = r := by
  rw [call_eq (fd := f__law_call) rfl rfl]
  rcases p with ⟨v, rfl⟩ | ⟨k, fs, rfl⟩
  · simp [f__law_call, b__law_call, startS, exs_cons, ex_set, ex_par, ex_unp, ex_seti, ex_expr, ex_ret, ex_if, ex_while, ex_for, ex_raise, ex_try, ex_frz, ev_bin, ev_neg, ev_cmp, ev_and, ev_or, ev_not, ev_ite, ev_tup, ev_lst, ev_idx, ev_slc00, ev_slc10, ev_slc01, ev_call, ev_callv, ev_comp, ev_blt, ev_meth, evs_cons, evI_seq, evI_rng, evI_zip, evT_and, evT_or, evT_not, evT_cmp, evT_call, evT_blt, evT_var, evT_idx, x0, x1, e]
  · simp [f__law_call, b__law_call, startS, exs_cons, ex_set, ex_par, ex_unp, ex_seti, ex_expr, ex_ret, ex_if, ex_while, ex_for, ex_raise, ex_try, ex_frz, ev_bin, ev_neg, ev_cmp, ev_and, ev_or, ev_not, ev_ite, ev_tup, ev_lst, ev_idx, ev_slc00, ev_slc10, ev_slc01, ev_call, ev_callv, ev_comp, ev_blt, ev_meth, evs_cons, evI_seq, evI_rng, evI_zip, evT_and, evT_or, evT_not, evT_cmp, evT_call, evT_blt, evT_var, evT_idx, x0, x1, e]
theorem law_call2_6 {n : Nat} {x a b : D} {h : Hea} {r : R D} (x0 : idxD h x (.p (.int 0)) = some a) (x1 : idxD h x (.p (.int 1)) = some b) (e : callN T n i_plus [a, b] h = r) (p : Pl r h) : callN T (n + 1) i__law_call [.p (.int 6), x] h = r := by
  rw [call_eq (fd := f__law_call) rfl rfl]
  have li : idxD h (.p (.lst [.fn i_plus, .fn i_minus, .fn i_times, .fn i_over])) (.p (.int 0)) = some (.p (.fn i_plus)) := rfl
  have ml : mk false [.p (.fn i_plus), .p (.fn i_minus), .p (.fn i_times), .p (.fn i_over)] h = .ok (.p (.lst [.fn i_plus, .fn i_minus, .fn i_times, .fn i_over])) h := rfl
  rcases p with ⟨v, rfl⟩ | ⟨k, fs, rfl⟩
  · simp [f__law_call, b__law_call, startS, exs_cons, ex_set, ex_par, ex_unp, ex_seti, ex_expr, ex_ret, ex_if, ex_while, ex_for, ex_raise, ex_try, ex_frz, ev_bin, ev_neg, ev_cmp, ev_and, ev_or, ev_not, ev_ite, ev_tup, ev_lst, ev_idx, ev_slc00, ev_slc10, ev_slc01, ev_call, ev_callv, ev_comp, ev_blt, ev_meth, evs_cons, evI_seq, evI_rng, evI_zip, evT_and, evT_or, evT_not, evT_cmp, evT_call, evT_blt, evT_var, evT_idx, x0, x1, e, ml, li]
  · simp [f__law_call, b__law_call, startS, exs_cons, ex_set, ex_par, ex_unp, ex_seti, ex_expr, ex_ret, ex_if, ex_while, ex_for, ex_raise, ex_try, ex_frz, ev_bin, ev_neg, ev_cmp, ev_and, ev_or, ev_not, ev_ite, ev_tup, ev_lst, ev_idx, ev_slc00, ev_slc10, ev_slc01, ev_call, ev_callv, ev_comp, ev_blt, ev_meth, evs_cons, evI_seq, evI_rng, evI_zip, evT_and, evT_or, evT_not, evT_cmp, evT_call, evT_blt, evT_var, evT_idx, x0, x1, e, ml, li]
theorem law_call2_7 {n : Nat} {x a b : D} {h : Hea} {r : R D} (x0 : idxD h x (.p (.int 0)) = some a) (x1 : idxD h x (.p (.int 1)) = some b) (e : callN T n i_minus [a, b] h = r) (p : Pl r h) : callN T (n + 1) i__law_call [.p (.int 7), x] h = r := by
  rw [call_eq (fd := f__law_call) rfl rfl]
  have li : idxD h (.p (.lst [.fn i_plus, .fn i_minus, .fn i_times, .fn i_over])) (.p (.int 1)) = some (.p (.fn i_minus)) := rfl
  have ml : mk false [.p (.fn i_plus), .p (.fn i_minus), .p (.fn i_times), .p (.fn i_over)] h = .ok (.p (.lst [.fn i_plus, .fn i_minus, .fn i_times, .fn i_over])) h := rfl
  rcases p with ⟨v, rfl⟩ | ⟨k, fs, rfl⟩
  · simp [f__law_call, b__law_call, startS, exs_cons, ex_set, ex_par, ex_unp, ex_seti, ex_expr, ex_ret, ex_if, ex_while, ex_for, ex_raise, ex_try, ex_frz, ev_bin, ev_neg, ev_cmp, ev_and, ev_or, ev_not, ev_ite, ev_tup, ev_lst, ev_idx, ev_slc00, ev_slc10, ev_slc01, ev_call, ev_callv, ev_comp, ev_blt, ev_meth, evs_cons, evI_seq, evI_rng, evI_zip, evT_and, evT_or, evT_not, evT_cmp, evT_call, evT_blt, evT_var, evT_idx, x0, x1, e, ml, li]
  · simp [f__law_call, b__law_call, startS, exs_cons, ex_set, ex_par, ex_unp, ex_seti, ex_expr, ex_ret, ex_if, ex_while, ex_for, ex_raise, ex_try, ex_frz, ev_bin, ev_neg, ev_cmp, ev_and, ev_or, ev_not, ev_ite, ev_tup, ev_lst, ev_idx, ev_slc00, ev_slc10, ev_slc01, ev_call, ev_callv, ev_comp, ev_blt, ev_meth, evs_cons, evI_seq, evI_rng, evI_zip, evT_and, evT_or, evT_not, evT_cmp, evT_call, evT_blt, evT_var, evT_idx, x0, x1, e, ml, li]
theorem law_call2_8 {n : Nat} {x a b : D} {h : Hea} {r : R D} (x0 : idxD h x (.p (.int 0)) = some a) (x1 : idxD h x (.p (.int 1)) = some b) (e : callN T n i_times [a, b] h = r) (p : Pl r h) : callN T (n + 1) i__law_call [.p (.int 8), x] h = r := by
  rw [call_eq (fd := f__law_call) rfl rfl]
  have li : idxD h (.p (.lst [.fn i_plus, .fn i_minus, .fn i_times, .fn i_over])) (.p (.int 2)) = some (.p (.fn i_times)) := rfl
  have ml : mk false [.p (.fn i_plus), .p (.fn i_minus), .p (.fn i_times), .p (.fn i_over)] h = .ok (.p (.lst [.fn i_plus, .fn i_minus, .fn i_times, .fn i_over])) h := rfl
  rcases p with ⟨v, rfl⟩ | ⟨k, fs, rfl⟩
  · simp [f__law_call, b__law_call, startS, exs_cons, ex_set, ex_par, ex_unp, ex_seti, ex_expr, ex_ret, ex_if, ex_while, ex_for, ex_raise, ex_try, ex_frz, ev_bin, ev_neg, ev_cmp, ev_and, ev_or, ev_not, ev_ite, ev_tup, ev_lst, ev_idx, ev_slc00, ev_slc10, ev_slc01, ev_call, ev_callv, ev_comp, ev_blt, ev_meth, evs_cons, evI_seq, evI_rng, evI_zip, evT_and, evT_or, evT_not, evT_cmp, evT_call, evT_blt, evT_var, evT_idx, x0, x1, e, ml, li]
  · simp [f__law_call, b__law_call, startS, exs_cons, ex_set, ex_par, ex_unp, ex_seti, ex_expr, ex_ret, ex_if, ex_while, ex_for, ex_raise, ex_try, ex_frz, ev_bin, ev_neg, ev_cmp, ev_and, ev_or, ev_not, ev_ite, ev_tup, ev_lst, ev_idx, ev_slc00, ev_slc10, ev_slc01, ev_call, ev_callv, ev_comp, ev_blt, ev_meth, evs_cons, evI_seq, evI_rng, evI_zip, evT_and, evT_or, evT_not, evT_cmp, evT_call, evT_blt, evT_var, evT_idx, x0, x1, e, ml, li]
theorem law_call2_9 {n : Nat} {x a b : D} {h : Hea} {r : R D} (x0 : idxD h x (.p (.int 0)) = some a) (x1 : idxD h x (.p (.int 1)) = some b) (e : callN T n i_over [a, b] h = r) (p : Pl r h) : callN T (n + 1) i__law_call [.p (.int 9), x] h = r := by
  rw [call_eq (fd := f__law_call) rfl rfl]
  have li : idxD h (.p (.lst [.fn i_plus, .fn i_minus, .fn i_times, .fn i_over])) (.p (.int 3)) = some (.p (.fn i_over)) := rfl
  have ml : mk false [.p (.fn i_plus), .p (.fn i_minus), .p (.fn i_times), .p (.fn i_over)] h = .ok (.p (.lst [.fn i_plus, .fn i_minus, .fn i_times, .fn i_over])) h := rfl
  rcases p with ⟨v, rfl⟩ | ⟨k, fs, rfl⟩
  · simp [f__law_call, b__law_call, startS, exs_cons, ex_set, ex_par, ex_unp, ex_seti, ex_expr, ex_ret, ex_if, ex_while, ex_for, ex_raise, ex_try, ex_frz, ev_bin, ev_neg, ev_cmp, ev_and, ev_or, ev_not, ev_ite, ev_tup, ev_lst, ev_idx, ev_slc00, ev_slc10, ev_slc01, ev_call, ev_callv, ev_comp, ev_blt, ev_meth, evs_cons, evI_seq, evI_rng, evI_zip, evT_and, evT_or, evT_not, evT_cmp, evT_call, evT_blt, evT_var, evT_idx, x0, x1, e, ml, li]
  · simp [f__law_call, b__law_call, startS, exs_cons, ex_set, ex_par, ex_unp, ex_seti, ex_expr, ex_ret, ex_if, ex_while, ex_for, ex_raise, ex_try, ex_frz, ev_bin, ev_neg, ev_cmp, ev_and, ev_or, ev_not, ev_ite, ev_tup, ev_lst, ev_idx, ev_slc00, ev_slc10, ev_slc01, ev_call, ev_callv, ev_comp, ev_blt, ev_meth, evs_cons, evI_seq, evI_rng, evI_zip, evT_and, evT_or, evT_not, evT_cmp, evT_call, evT_blt, evT_var, evT_idx, x0, x1, e, ml, li]
theorem law_call2 {n k : Nat} (hk : k = 1 ∨ k = 2 ∨ k = 3 ∨ k = 4 ∨ k = 6 ∨ k = 7 ∨ k = 8 ∨ k = 9) {x a b : D} {h : Hea} {r : R D} (x0 : idxD h x (.p (.int 0)) = some a) (x1 : idxD h x (.p (.int 1)) = some b) (e : callN T n (two k) [a, b] h = r) (p : Pl r h) : callN T (n + 1) i__law_call [.p (.int (k : Nat)), x] h = r := by
  rcases hk with rfl | rfl | rfl | rfl | rfl | rfl | rfl | rfl
  · exact law_call2_1 x0 x1 e p
  · exact law_call2_2 x0 x1 e p
  · exact law_call2_3 x0 x1 e p
  · exact law_call2_4 x0 x1 e p
  · exact law_call2_6 x0 x1 e p
  · exact law_call2_7 x0 x1 e p
  · exact law_call2_8 x0 x1 e p
  · exact law_call2_9 x0 x1 e p
/-- the list of three answers -/
def cls3 (c : Nat) : P := .lst [.bl (decide (c = c_BadForm)), .bl (decide (c = c_BadSpot)), .bl (decide (c = c_BadNumber))]
theorem try3 {c : Nat} (hc : c = c_BadForm ∨ c = c_BadSpot ∨ c = c_BadNumber) {fs : List P} {k x : D} {h : Hea} : try1 (.exn c fs [some k, some x, none] h) 0 (some 2) (.cons (.ret (.lst false (.cons (.isE 2) (.cons (.isE 3) (.cons (.isE 1) .nil))))) .nil) = .ret (.p (cls3 c)) h := by
  rcases hc with rfl | rfl | rfl
  · simp [try1, hotS, hotE, hotEs, tryEnd, cls3, LIM, subT]
    rfl
  · simp [try1, hotS, hotE, hotEs, tryEnd, cls3, LIM, subT]
    rfl
  · simp [try1, hotS, hotE, hotEs, tryEnd, cls3, LIM, subT]
    rfl
theorem law_class {n : Nat} {k x : D} {h : Hea} {c : Nat} {fs : List P} (hc : c = c_BadForm ∨ c = c_BadSpot ∨ c = c_BadNumber) (e : callN T n i__law_call [k, x] h = .exn c fs h) : callN T (n + 1) i__law_class [k, x] h = .ok (.p (cls3 c)) h := by
  rw [call_eq (fd := f__law_class) rfl rfl]
  have t := try3 hc (fs := fs) (k := k) (x := x) (h := h)
  simp [f__law_class, b__law_class, startS, exs_cons, ex_set, ex_par, ex_unp, ex_seti, ex_expr, ex_ret, ex_if, ex_while, ex_for, ex_raise, ex_try, ex_frz, ev_bin, ev_neg, ev_cmp, ev_and, ev_or, ev_not, ev_ite, ev_tup, ev_lst, ev_idx, ev_slc00, ev_slc10, ev_slc01, ev_call, ev_callv, ev_comp, ev_blt, ev_meth, evs_cons, evI_seq, evI_rng, evI_zip, evT_and, evT_or, evT_not, evT_cmp, evT_call, evT_blt, evT_var, evT_idx, e, t]
end K15

set_option linter.all false
set_option maxRecDepth 100000
set_option maxHeartbeats 1000000
set_option exponentiation.threshold 700
namespace K15
open Mp
/-! ### _law_bad: one thing -/
abbrev sSpot : List Nat := [115, 112, 111, 116]
abbrev sRatio : List Nat := [114, 97, 116, 105, 111]
abbrev sForm : List Nat := [102, 111, 114, 109]
abbrev sSpots : List Nat := [115, 112, 111, 116, 115]
abbrev sRatios : List Nat := [114, 97, 116, 105, 111, 115]
abbrev sForms : List Nat := [102, 111, 114, 109, 115]
abbrev sCounts : List Nat := [99, 111, 117, 110, 116, 115]
abbrev sNumbers : List Nat := [110, 117, 109, 98, 101, 114, 115]
theorem tup_p1 {a : P} {h : Hea} : tup1 [.p a] h = .ok (.p (.tup [a])) h := rfl
theorem tup_p2 {a b : P} {h : Hea} : tup1 [.p a, .p b] h = .ok (.p (.tup [a, b])) h := rfl
theorem tup_p3 {a b c : P} {h : Hea} : tup1 [.p a, .p b, .p c] h = .ok (.p (.tup [a, b, c])) h := rfl
theorem mk_p3 {a b c : P} {h : Hea} : mk false [.p a, .p b, .p c] h = .ok (.p (.lst [a, b, c])) h := rfl
theorem mk_p4 {a b c d : P} {h : Hea} : mk false [.p a, .p b, .p c, .p d] h = .ok (.p (.lst [a, b, c, d])) h := rfl
theorem mk_p5 {a b c d e : P} {h : Hea} : mk false [.p a, .p b, .p c, .p d, .p e] h = .ok (.p (.lst [a, b, c, d, e])) h := rfl
theorem add_l {xs ys : List P} {h : Hea} (l : xs.length + ys.length ≤ LIM) : bin2 .add (.p (.lst xs)) (.p (.lst ys)) h = .ok (.p (.lst (xs ++ ys))) h := by
  show R.ofO ((binP .add (.lst xs) (.lst ys)).map D.p) h = _
  rw [show binP .add (.lst xs) (.lst ys) = some (.lst (xs ++ ys)) from if_pos l]; rfl
theorem add_t {xs ys : List P} {h : Hea} (l : xs.length + ys.length ≤ LIM) : bin2 .add (.p (.tup xs)) (.p (.tup ys)) h = .ok (.p (.tup (xs ++ ys))) h := by
  show R.ofO ((binP .add (.tup xs) (.tup ys)).map D.p) h = _
  rw [show binP .add (.tup xs) (.tup ys) = some (.tup (xs ++ ys)) from if_pos l]; rfl
theorem add_55 {a b c d e a' b' c' d' e' : P} {h : Hea} : bin2 .add (.p (.lst [a, b, c, d, e])) (.p (.lst [a', b', c', d', e'])) h = .ok (.p (.lst [a, b, c, d, e, a', b', c', d', e'])) h := add_l (by show 10 ≤ LIM; decide)
/-- what is wrong whatever it stands for -/
def OddB : List P := [.non, .bl true, .str [49], .tup [.str [49]], .int 0]
theorem odd_dat {x : P} (h : x ∈ OddB) : Dat x := by
  simp only [OddB, List.mem_cons, List.not_mem_nil, or_false] at h
  rcases h with rfl | rfl | rfl | rfl | rfl
  · trivial
  · trivial
  · exact (by decide : (1 : Nat) ≤ 100)
  · exact ⟨by decide, by exact ⟨(by decide : (1 : Nat) ≤ 100), trivial⟩⟩
  · exact Nat.two_pow_pos _
theorem rn_bad_ratio {n s : Nat} (hn : 4 ≤ n) {q : Rat} (hq : Rb 2500 q) : Rn n i__law_bad 1 [.ref s, .p (.str sRatio), .p (rt q)] s fun x => Dat x ∧ ratioB x = false := fun L N h S l => by
  obtain ⟨m, rfl⟩ : ∃ m, n = m + 1 := ⟨n - 1, by omega⟩
  obtain ⟨a, ea⟩ : ∃ a, a = q.num := ⟨_, rfl⟩
  obtain ⟨b, eb⟩ : ∃ b, b = q.den := ⟨_, rfl⟩
  have er : rt q = .tup [.int a, .int (b : Nat)] := by rw [ea, eb]; rfl
  have bp : 0 < b := by rw [eb]; exact q.den_pos
  have ba : a.natAbs < 2 ^ 2500 := by rw [ea]; exact hq.1
  have bb : b < 2 ^ 2500 := by rw [eb]; exact hq.2
  obtain ⟨x, h', e, p, S', F⟩ := rn_pick (n := m) (s := s) (by omega) (xs := [.non, .bl true, .str [49], .tup [.str [49]], .int 0, .lst [.int a, .int (b : Nat)], .tup [.int (2 * a), .int (2 * (b : Int))], .tup [.int a, .bl true], .tup [.int a, .int (-(b : Int))], .tup [.int a, .int (b : Nat), .int 1]]) (by simp) (by simp) L N h S l
  refine ⟨x, h', ?_, ?_, S', F⟩
  · have k1 : cmp2 .eq (.p (.str sRatio)) (.p (.str sSpot)) h = .ok (.p (.bl false)) h := rfl
    have k2 : cmp2 .eq (.p (.str sRatio)) (.p (.str sRatio)) h = .ok (.p (.bl true)) h := rfl
    have k3 : cmp2 .eq (.p (.str sRatio)) (.p (.str sForm)) h = .ok (.p (.bl false)) h := rfl
    have k4 : cmp2 .in_ (.p (.str sRatio)) (.p (.tup [.str sSpots, .str sRatios, .str sForms])) h = .ok (.p (.bl false)) h := rfl
    have k5 : cmp2 .in_ (.p (.str sRatio)) (.p (.tup [.str sCounts, .str sNumbers])) h = .ok (.p (.bl false)) h := rfl
    have m1 : mulOk 2 a = true := mulOk_of' (small' (n := 10) (by decide) (by decide)) (small' ba (by decide))
    have m2 : mulOk 2 (b : Int) = true := mulOk_of' (small' (n := 10) (by decide) (by decide)) (by rw [Int.natAbs_natCast]; exact small' bb (by decide))
    have i0 : idxD h (.p (.tup [.int a, .int (b : Nat)])) (.p (.int 0)) = some (.p (.int a)) := rfl
    have i1 : idxD h (.p (.tup [.int a, .int (b : Nat)])) (.p (.int 1)) = some (.p (.int (b : Nat))) := rfl
    have ad : bin2 .add (.p (.tup [.int a, .int (b : Nat)])) (.p (.tup [.int 1])) h = .ok (.p (.tup [.int a, .int (b : Nat), .int 1])) h := add_t (by show 3 ≤ LIM; decide)
    rw [call_eq (fd := f__law_bad) rfl rfl, er]
    simp [f__law_bad, b__law_bad, startS, exs_cons, ex_set, ex_par, ex_unp, ex_seti, ex_expr, ex_ret, ex_if, ex_while, ex_for, ex_raise, ex_try, ex_frz, ev_bin, ev_neg, ev_cmp, ev_and, ev_or, ev_not, ev_ite, ev_tup, ev_lst, ev_idx, ev_slc00, ev_slc10, ev_slc01, ev_call, ev_callv, ev_comp, ev_blt, ev_meth, evs_cons, evI_seq, evI_rng, evI_zip, evT_and, evT_or, evT_not, evT_cmp, evT_call, evT_blt, evT_var, evT_idx, k1, k2, k3, k4, k5, tup_p1, tup_p2, tup_p3, mk_p3, mk_p4, mk_p5, add_55, i0, i1, bin2_mul m1, bin2_mul m2, ad, e, F.take]
  · simp only [List.mem_cons, List.not_mem_nil, or_false] at p
    have ia : Dat (.int a) := small' ba (by decide)
    have ib : Dat (.int (b : Nat)) := by show ((b : Nat) : Int).natAbs < _; rw [Int.natAbs_natCast]; exact small' bb (by decide)
    rcases p with rfl | rfl | rfl | rfl | rfl | rfl | rfl | rfl | rfl | rfl
    · exact ⟨odd_dat (by simp [OddB]), rfl⟩
    · exact ⟨odd_dat (by simp [OddB]), rfl⟩
    · exact ⟨odd_dat (by simp [OddB]), rfl⟩
    · exact ⟨odd_dat (by simp [OddB]), rfl⟩
    · exact ⟨odd_dat (by simp [OddB]), rfl⟩
    · exact ⟨⟨by simp, ia, ib, trivial⟩, rfl⟩
    · refine ⟨⟨by simp, ?_, ?_, trivial⟩, ?_⟩
      · show (2 * a).natAbs < BIG
        exact Nat.lt_of_lt_of_le (natAbs_mul_lt (a := 2) (n := 2) (by decide) ba) (Nat.pow_le_pow_right (by decide) (by decide))
      · show (2 * (b : Int)).natAbs < BIG
        exact Nat.lt_of_lt_of_le (natAbs_mul_lt (a := 2) (n := 2) (by decide) (by rw [Int.natAbs_natCast]; exact bb)) (Nat.pow_le_pow_right (by decide) (by decide))
      · simp only [ratioB, Bool.and_eq_false_iff, decide_eq_false_iff_not]
        right
        intro g
        have : Int.gcd (2 * a) (2 * (b : Int)) = 2 * Int.gcd a (b : Int) := Int.gcd_mul_left ..
        omega
    · exact ⟨⟨by simp, ia, trivial, trivial⟩, rfl⟩
    · refine ⟨⟨by simp, ia, ?_, trivial⟩, ?_⟩
      · show (-(b : Int)).natAbs < BIG
        rw [Int.natAbs_neg]; exact ib
      · simp only [ratioB, Bool.and_eq_false_iff, decide_eq_false_iff_not]
        left; omega
    · exact ⟨⟨by simp, ia, ib, Nat.one_lt_two_pow (by decide), trivial⟩, rfl⟩
theorem slc_init {x : P} {xs : List P} {h : Hea} : slc3 false (.p (.tup (x :: xs))) none (some (-1)) h = .ok (.p (.tup (x :: xs).dropLast)) h := by
  show R.ok (D.p (.tup (cut (x :: xs) none (some (-1))))) h = _
  have e : cut (x :: xs) none (some (-1)) = (x :: xs).dropLast := by
    have e1 : edge (x :: xs).length (x :: xs).length (some (-1)) = xs.length := by
      show (if (-1 : Int) < 0 then ((-1 : Int) + ((x :: xs).length : Nat)).toNat else min (-1 : Int).toNat (x :: xs).length) = xs.length
      rw [if_pos (by decide), List.length_cons]
      omega
    unfold cut
    rw [e1]
    show ((x :: xs).drop 0).take (xs.length - 0) = _
    rw [List.drop_zero, Nat.sub_zero, List.dropLast_eq_take]
    simp
  rw [e]
theorem slc_one {x : P} {xs : List P} {h : Hea} : slc3 false (.p (.tup (x :: xs))) none (some 1) h = .ok (.p (.tup [x])) h := by
  show R.ok (D.p (.tup (cut (x :: xs) none (some 1)))) h = _
  have e : cut (x :: xs) none (some 1) = [x] := by
    have e1 : edge (x :: xs).length (x :: xs).length (some 1) = 1 := by
      show (if (1 : Int) < 0 then ((1 : Int) + ((x :: xs).length : Nat)).toNat else min (1 : Int).toNat (x :: xs).length) = 1
      rw [if_neg (by decide), List.length_cons]
      show min 1 (xs.length + 1) = 1
      omega
    unfold cut
    rw [e1]
    rfl
  rw [e]
def NotT (f : P → Bool) (x : P) : Prop := ∀ xs, x = .tup xs → xs.all f = false
theorem NotT.are {f : P → Bool} {x : P} (h : NotT f x) (d : Int) : areB f x d = false := by
  cases x with
  | tup xs => simp [areB, h xs rfl]
  | _ => rfl
theorem NotT.spot {x : P} (h : NotT ratioB x) : spotB x = false := by
  cases x with
  | tup xs => simp [spotB, h xs rfl]
  | _ => rfl
theorem NotT.form {x : P} (h : NotT wholeB x) : formB x = false := by
  cases x with
  | tup xs => simp [formB, h xs rfl]
  | _ => rfl
theorem all_false {f : P → Bool} {xs : List P} {x : P} (m : x ∈ xs) (h : f x = false) : xs.all f = false := by
  cases c : xs.all f with
  | false => rfl
  | true => rw [List.all_eq_true.mp c x m] at h; exact h
theorem notT_of {f : P → Bool} {xs : List P} {x : P} (m : x ∈ xs) (h : f x = false) : NotT f (.tup xs) := fun ys e => by
  injection e with e
  rw [← e]; exact all_false m h
theorem odd_r {x : P} (h : x ∈ OddB) : NotT ratioB x := fun xs e => by
  subst e
  simp only [OddB, List.mem_cons, List.not_mem_nil, or_false, P.tup.injEq, reduceCtorEq, false_or] at h
  rw [h]; rfl
theorem odd_w {x : P} (h : x ∈ OddB) : NotT wholeB x := fun xs e => by
  subst e
  simp only [OddB, List.mem_cons, List.not_mem_nil, or_false, P.tup.injEq, reduceCtorEq, false_or] at h
  rw [h]; rfl
theorem dat_tup {xs : List P} (l : xs.length ≤ 1000) (h : ∀ x ∈ xs, Dat x) : Dat (.tup xs) := ⟨l, DatL.of h⟩
theorem dat_lst {xs : List P} (l : xs.length ≤ 1000) (h : ∀ x ∈ xs, Dat x) : Dat (.lst xs) := ⟨l, DatL.of h⟩
theorem dat_lit {i : Int} (h : i.natAbs < 2 ^ 20) : Dat (.int i) := small' h (by decide)
theorem dat_pair {a b : Int} (h1 : a.natAbs < 2 ^ 20) (h2 : b.natAbs < 2 ^ 20) : Dat (.tup [.int a, .int b]) := dat_tup (by show 2 ≤ 1000; decide) fun x hx => by
  simp only [List.mem_cons, List.not_mem_nil, or_false] at hx
  rcases hx with rfl | rfl
  · exact dat_lit h1
  · exact dat_lit h2
theorem rn_bad_spot {n s : Nat} (hn : 4 ≤ n) {x0 : P} {xr : List P} (hl : xr.length ≤ 100) (hd : ∀ x ∈ x0 :: xr, Dat x) : Rn n i__law_bad 1 [.ref s, .p (.str sSpot), .p (.tup (x0 :: xr))] s fun x => Dat x ∧ NotT ratioB x := fun L N h S l => by
  obtain ⟨m, rfl⟩ : ∃ m, n = m + 1 := ⟨n - 1, by omega⟩
  obtain ⟨x, h', e, p, S', F⟩ := rn_pick (n := m) (s := s) (by omega) (xs := [.non, .bl true, .str [49], .tup [.str [49]], .int 0, .lst (x0 :: xr), .tup ((x0 :: xr).dropLast ++ [.tup [.int 2, .int 2]]), .tup ([.tup [.int 1, .int 0]] ++ xr), .tup ([.tup [.int (-1), .int (-1)]] ++ xr), .tup ((x0 :: xr) ++ [.int 0])]) (by simp) (by simp) L N h S l
  refine ⟨x, h', ?_, ?_, S', F⟩
  · have k1 : cmp2 .eq (.p (.str sSpot)) (.p (.str sSpot)) h = .ok (.p (.bl true)) h := rfl
    have k2 : cmp2 .eq (.p (.str sSpot)) (.p (.str sRatio)) h = .ok (.p (.bl false)) h := rfl
    have k3 : cmp2 .eq (.p (.str sSpot)) (.p (.str sForm)) h = .ok (.p (.bl false)) h := rfl
    have k4 : cmp2 .in_ (.p (.str sSpot)) (.p (.tup [.str sSpots, .str sRatios, .str sForms])) h = .ok (.p (.bl false)) h := rfl
    have k5 : cmp2 .in_ (.p (.str sSpot)) (.p (.tup [.str sCounts, .str sNumbers])) h = .ok (.p (.bl false)) h := rfl
    have lm : 1000 ≤ LIM := by decide
    have a1 : bin2 .add (.p (.tup (x0 :: xr).dropLast)) (.p (.tup [.tup [.int 2, .int 2]])) h = .ok (.p (.tup ((x0 :: xr).dropLast ++ [.tup [.int 2, .int 2]]))) h := add_t (by simp; omega)
    have a2 : ∀ i j : Int, bin2 .add (.p (.tup [.tup [.int i, .int j]])) (.p (.tup xr)) h = .ok (.p (.tup ([.tup [.int i, .int j]] ++ xr))) h := fun i j => add_t (by simp; omega)
    have a3 : bin2 .add (.p (.tup (x0 :: xr))) (.p (.tup [.int 0])) h = .ok (.p (.tup ((x0 :: xr) ++ [.int 0]))) h := add_t (by simp; omega)
    rw [call_eq (fd := f__law_bad) rfl rfl]
    simp only [List.dropLast_cons_of_ne_nil, List.cons_append, List.nil_append] at a1 a2 a3 e
    simp [ends1, f__law_bad, b__law_bad, startS, exs_cons, ex_set, ex_par, ex_unp, ex_seti, ex_expr, ex_ret, ex_if, ex_while, ex_for, ex_raise, ex_try, ex_frz, ev_bin, ev_neg, ev_cmp, ev_and, ev_or, ev_not, ev_ite, ev_tup, ev_lst, ev_idx, ev_slc00, ev_slc10, ev_slc01, ev_call, ev_callv, ev_comp, ev_blt, ev_meth, evs_cons, evI_seq, evI_rng, evI_zip, evT_and, evT_or, evT_not, evT_cmp, evT_call, evT_blt, evT_var, evT_idx, k1, k2, k3, k4, k5, tup_p1, tup_p2, tup_p3, mk_p3, mk_p4, mk_p5, add_55, slc_init, slc_tail, a1, a2, a3, e, F.take]
  · simp only [List.mem_cons, List.not_mem_nil, or_false] at p
    have dr : ∀ x ∈ xr, Dat x := fun x hx => hd x (List.mem_cons_of_mem _ hx)
    rcases p with rfl | rfl | rfl | rfl | rfl | rfl | rfl | rfl | rfl | rfl
    · exact ⟨odd_dat (by simp [OddB]), odd_r (by simp [OddB])⟩
    · exact ⟨odd_dat (by simp [OddB]), odd_r (by simp [OddB])⟩
    · exact ⟨odd_dat (by simp [OddB]), odd_r (by simp [OddB])⟩
    · exact ⟨odd_dat (by simp [OddB]), odd_r (by simp [OddB])⟩
    · exact ⟨odd_dat (by simp [OddB]), odd_r (by simp [OddB])⟩
    · exact ⟨dat_lst (by rw [List.length_cons]; omega) hd, fun xs e => by cases e⟩
    · refine ⟨dat_tup (by simp; omega) fun x hx => ?_, notT_of (x := .tup [.int 2, .int 2]) (by simp) (by decide)⟩
      rcases List.mem_append.mp hx with w | w
      · exact hd x ((List.dropLast_sublist _).mem w)
      · rw [List.mem_singleton.mp w]; exact dat_pair (by decide) (by decide)
    · refine ⟨dat_tup (by simp; omega) fun x hx => ?_, notT_of (x := .tup [.int 1, .int 0]) (by simp) (by decide)⟩
      rcases List.mem_append.mp hx with w | w
      · rw [List.mem_singleton.mp w]; exact dat_pair (by decide) (by decide)
      · exact dr x w
    · refine ⟨dat_tup (by simp; omega) fun x hx => ?_, notT_of (x := .tup [.int (-1), .int (-1)]) (by simp) (by decide)⟩
      rcases List.mem_append.mp hx with w | w
      · rw [List.mem_singleton.mp w]; exact dat_pair (by decide) (by decide)
      · exact dr x w
    · refine ⟨dat_tup (by simp; omega) fun x hx => ?_, notT_of (x := .int 0) (by simp) (by decide)⟩
      rcases List.mem_append.mp hx with w | w
      · exact hd x w
      · rw [List.mem_singleton.mp w]; exact dat_lit (by decide)
/-- wrong as a form, and wrong beside forms of length d -/
theorem rn_bad_form {n s : Nat} (hn : 4 ≤ n) {x0 : P} {xr : List P} (hl0 : 1 ≤ xr.length) (hl : xr.length ≤ 3) (hd : ∀ x ∈ x0 :: xr, Dat x) : Rn n i__law_bad 1 [.ref s, .p (.str sForm), .p (.tup (x0 :: xr))] s fun x => Dat x ∧ formB x = false ∧ areB wholeB x ((xr.length : Int) + 1) = false := fun L N h S l => by
  obtain ⟨m, rfl⟩ : ∃ m, n = m + 1 := ⟨n - 1, by omega⟩
  obtain ⟨x, h', e, p, S', F⟩ := rn_pick (n := m) (s := s) (by omega) (xs := [.non, .bl true, .str [49], .tup [.str [49]], .int 0, .lst (x0 :: xr), .tup ((x0 :: xr) ++ [.int 0, .int 0, .int 0]), .tup [x0], .tup ([.bl true] ++ xr), .tup ((x0 :: xr).dropLast ++ [.tup [.int 1, .int 1]])]) (by simp) (by simp) L N h S l
  refine ⟨x, h', ?_, ?_, S', F⟩
  · have k1 : cmp2 .eq (.p (.str sForm)) (.p (.str sSpot)) h = .ok (.p (.bl false)) h := rfl
    have k2 : cmp2 .eq (.p (.str sForm)) (.p (.str sRatio)) h = .ok (.p (.bl false)) h := rfl
    have k3 : cmp2 .eq (.p (.str sForm)) (.p (.str sForm)) h = .ok (.p (.bl true)) h := rfl
    have k4 : cmp2 .in_ (.p (.str sForm)) (.p (.tup [.str sSpots, .str sRatios, .str sForms])) h = .ok (.p (.bl false)) h := rfl
    have k5 : cmp2 .in_ (.p (.str sForm)) (.p (.tup [.str sCounts, .str sNumbers])) h = .ok (.p (.bl false)) h := rfl
    have lm : 1000 ≤ LIM := by decide
    have a1 : bin2 .add (.p (.tup (x0 :: xr).dropLast)) (.p (.tup [.tup [.int 1, .int 1]])) h = .ok (.p (.tup ((x0 :: xr).dropLast ++ [.tup [.int 1, .int 1]]))) h := add_t (by simp; omega)
    have a2 : bin2 .add (.p (.tup [.bl true])) (.p (.tup xr)) h = .ok (.p (.tup ([.bl true] ++ xr))) h := add_t (by simp; omega)
    have a3 : bin2 .add (.p (.tup (x0 :: xr))) (.p (.tup [.int 0, .int 0, .int 0])) h = .ok (.p (.tup ((x0 :: xr) ++ [.int 0, .int 0, .int 0]))) h := add_t (by simp; omega)
    rw [call_eq (fd := f__law_bad) rfl rfl]
    simp only [List.dropLast_cons_of_ne_nil, List.cons_append, List.nil_append] at a1 a2 a3 e
    simp [ends1, f__law_bad, b__law_bad, startS, exs_cons, ex_set, ex_par, ex_unp, ex_seti, ex_expr, ex_ret, ex_if, ex_while, ex_for, ex_raise, ex_try, ex_frz, ev_bin, ev_neg, ev_cmp, ev_and, ev_or, ev_not, ev_ite, ev_tup, ev_lst, ev_idx, ev_slc00, ev_slc10, ev_slc01, ev_call, ev_callv, ev_comp, ev_blt, ev_meth, evs_cons, evI_seq, evI_rng, evI_zip, evT_and, evT_or, evT_not, evT_cmp, evT_call, evT_blt, evT_var, evT_idx, k1, k2, k3, k4, k5, tup_p1, tup_p2, tup_p3, mk_p3, mk_p4, mk_p5, add_55, slc_init, slc_one, slc_tail, a1, a2, a3, e, F.take]
  · simp only [List.mem_cons, List.not_mem_nil, or_false] at p
    have dr : ∀ x ∈ xr, Dat x := fun x hx => hd x (List.mem_cons_of_mem _ hx)
    have nt : ∀ {x : P}, NotT wholeB x → formB x = false ∧ areB wholeB x ((xr.length : Int) + 1) = false := fun h => ⟨h.form, h.are _⟩
    rcases p with rfl | rfl | rfl | rfl | rfl | rfl | rfl | rfl | rfl | rfl
    · exact ⟨odd_dat (by simp [OddB]), nt (odd_w (by simp [OddB]))⟩
    · exact ⟨odd_dat (by simp [OddB]), nt (odd_w (by simp [OddB]))⟩
    · exact ⟨odd_dat (by simp [OddB]), nt (odd_w (by simp [OddB]))⟩
    · exact ⟨odd_dat (by simp [OddB]), nt (odd_w (by simp [OddB]))⟩
    · exact ⟨odd_dat (by simp [OddB]), nt (odd_w (by simp [OddB]))⟩
    · exact ⟨dat_lst (by rw [List.length_cons]; omega) hd, nt fun xs e => by cases e⟩
    · refine ⟨dat_tup (by simp; omega) fun x hx => ?_, ?_, ?_⟩
      · rcases List.mem_append.mp hx with w | w
        · exact hd x w
        · have : x = .int 0 := by simpa using w
          rw [this]; exact dat_lit (by decide)
      · simp only [formB, List.length_append, List.length_cons, List.length_nil, Bool.and_eq_false_iff, decide_eq_false_iff_not]
        right; left; omega
      · simp only [areB, List.length_append, List.length_cons, List.length_nil, Bool.and_eq_false_iff, decide_eq_false_iff_not]
        left; omega
    · refine ⟨dat_tup (by simp) fun x hx => ?_, ?_, ?_⟩
      · rw [List.mem_singleton.mp hx]; exact hd x0 List.mem_cons_self
      · simp [formB]
      · simp only [areB, List.length_cons, List.length_nil, Bool.and_eq_false_iff, decide_eq_false_iff_not]
        left; omega
    · refine ⟨dat_tup (by simp; omega) fun x hx => ?_, nt (notT_of (x := .bl true) (by simp) rfl)⟩
      rcases List.mem_append.mp hx with w | w
      · rw [List.mem_singleton.mp w]; trivial
      · exact dr x w
    · refine ⟨dat_tup (by simp; omega) fun x hx => ?_, nt (notT_of (x := .tup [.int 1, .int 1]) (by simp) rfl)⟩
      rcases List.mem_append.mp hx with w | w
      · exact hd x ((List.dropLast_sublist _).mem w)
      · rw [List.mem_singleton.mp w]; exact dat_pair (by decide) (by decide)
end K15

set_option linter.all false
set_option maxRecDepth 100000
set_option maxHeartbeats 1000000
set_option exponentiation.threshold 700
namespace K15
open Mp
/-! ### _law_bad: many things -/
/-- what is wrong as many things -/
def SeqBad (base : List P) (Φ : P → Prop) (e : P) (x : P) : Prop := x ∈ OddB ∨ x = e ∨ ∃ i b, i < base.length ∧ Φ b ∧ (x = .lst (base.set i b) ∨ x = .tup (base.set i b))
def baseOf (x0 : P) (xr : List P) : List P := match xr with
  | [] => [x0, x0]
  | _ => x0 :: xr
theorem base_len {x0 : P} {xr : List P} : 2 ≤ (baseOf x0 xr).length := by
  cases xr with
  | nil => exact Nat.le_refl 2
  | cons y ys => simp [baseOf]
theorem base_mem {x0 y : P} {xr : List P} (h : y ∈ baseOf x0 xr) : y ∈ x0 :: xr := by
  cases xr with
  | nil => simpa [baseOf] using h
  | cons z zs => exact h
theorem base_le {x0 : P} {xr : List P} (h : xr.length ≤ 100) : (baseOf x0 xr).length ≤ 101 := by
  cases xr with
  | nil => show 2 ≤ 101; decide
  | cons z zs => show (z :: zs).length + 1 ≤ 101; omega
theorem frz_at {ρ : Slots} {h h1 : Hea} {i : Nat} {xs : List P} (l : h1.length = h.length) (e : slot ρ i = some (.ref h.length)) : frz1 ρ i (h1 ++ [some (xs.map D.p)]) = .next (ρ.set i (some (.p (.lst xs)))) (h1 ++ [none]) := by
  rw [← l] at e
  exact frz_last e
theorem seti_at {bs : Nat} {ρ : Slots} {x : P} {h h1 : Hea} {i : Nat} {ys : List P} (l : h1.length = h.length) (li : i < ys.length) : seti1 bs ρ (.p x) (.ref h.length) (.p (.int (i : Nat))) (h1 ++ [some (ys.map D.p)]) = .next ρ (h1 ++ [some ((ys.set i x).map D.p)]) := by
  rw [← l, seti_last (by rw [List.length_map]; exact li), List.map_set]
theorem len_at {h h1 : Hea} {ys : List P} (l : h1.length = h.length) : blt1 .len false [.ref h.length] (h1 ++ [some (ys.map D.p)]) = .ok (.p (.int (ys.length : Nat))) (h1 ++ [some (ys.map D.p)]) := by
  have := blt1_len_ref (cell_last (h := h1) (ds := ys.map D.p))
  rw [l, List.length_map] at this
  exact this
theorem list_new {xs : List P} {h : Hea} (l : xs.length ≤ LIM) : blt1 .list true [.p (.lst xs)] h = .ok (.ref h.length) (h ++ [some (xs.map D.p)]) := by
  show out true xs h = _
  unfold out
  simp [l]
theorem mk_p0 {h : Hea} : mk false [] h = .ok (.p (.lst [])) h := rfl
theorem add_54 {a b c d e a' b' c' d' : P} {h : Hea} : bin2 .add (.p (.lst [a, b, c, d, e])) (.p (.lst [a', b', c', d'])) h = .ok (.p (.lst [a, b, c, d, e, a', b', c', d'])) h := add_l (by show 9 ≤ LIM; decide)
theorem seq_out {ys : List P} {i : Nat} {b e x : P} {Φ : P → Prop} (li : i < ys.length) (hb : Φ b) (h : x ∈ [.non, .bl true, .str [49], .tup [.str [49]], .int 0, .lst (ys.set i b), .tup (ys.set i b), .lst (ys.set i b), e]) : SeqBad ys Φ e x := by
  simp only [List.mem_cons, List.not_mem_nil, or_false] at h
  rcases h with rfl | rfl | rfl | rfl | rfl | rfl | rfl | rfl | rfl
  · exact .inl (by simp [OddB])
  · exact .inl (by simp [OddB])
  · exact .inl (by simp [OddB])
  · exact .inl (by simp [OddB])
  · exact .inl (by simp [OddB])
  · exact .inr (.inr ⟨i, b, li, hb, .inl rfl⟩)
  · exact .inr (.inr ⟨i, b, li, hb, .inr rfl⟩)
  · exact .inr (.inr ⟨i, b, li, hb, .inl rfl⟩)
  · exact .inr (.inl rfl)
theorem rn_bad_ratios {n s : Nat} (hn : 5 ≤ n) {x0 : P} {xr : List P} (hl : xr.length ≤ 100) {Φ : P → Prop} (r0 : Rn (n - 1) i__law_bad 1 [.ref s, .p (.str sRatio), .p x0] s Φ) : Rn n i__law_bad 4 [.ref s, .p (.str sRatios), .p (.lst (x0 :: xr))] s (SeqBad (baseOf x0 xr) Φ (.str [97, 98])) := fun L N h S l => by
  obtain ⟨m, rfl⟩ : ∃ m, n = m + 1 := ⟨n - 1, by omega⟩
  obtain ⟨ys, ey⟩ : ∃ ys, ys = baseOf x0 xr := ⟨_, rfl⟩
  have yl : 2 ≤ ys.length := by rw [ey]; exact base_len
  have yl2 : ys.length ≤ 101 := by rw [ey]; exact base_le hl
  obtain ⟨b0, h1, e1, p1, S1, F1⟩ := Rn.top (n := m) r0 (t := [some (ys.map D.p)]) S (by omega)
  have h1l : h1.length = h.length := F1.len
  obtain ⟨h2, eh2⟩ : ∃ h2, h2 = h1 := ⟨_, rfl⟩
  have S2 : St L s (N + 1 + 1) h2 := by rw [eh2]; exact S1.up (by omega)
  have F2 : Fr L h h2 := by rw [eh2]; exact F1
  obtain ⟨b, eb⟩ : ∃ b, b = b0 := ⟨_, rfl⟩
  have pb : Φ b := by rw [eb]; exact p1
  subst eh2
  subst eb
  have l2 : h2.length = h.length := F2.len
  obtain ⟨w0, h3, e3, ⟨w, rfl, w1, w2, w3⟩, S3, F3'⟩ := Rn.top (rn_take (n := m) (s := s) (by omega) (ys.length : Int) (len_big (by omega))) (t := [some (ys.map D.p)]) S2 (by omega)
  have F3 : Fr L h h3 := F2.trans F3'
  have l3 : h3.length = h.length := F3.len
  have wl : w.toNat < ys.length := by
    have := w2 (by omega); omega
  obtain ⟨w', rfl⟩ : ∃ w' : Nat, w = (w' : Nat) := ⟨w.toNat, by omega⟩
  rw [Int.toNat_natCast] at wl
  obtain ⟨x, h4, e4, p4, S4, F4'⟩ := Rn.top (rn_pick (n := m) (s := s) (by omega) (xs := [.non, .bl true, .str [49], .tup [.str [49]], .int 0, .lst (ys.set w' b), .tup (ys.set w' b), .lst (ys.set w' b), .str [97, 98]]) (by simp) (by simp)) (t := [none]) S3 (by omega)
  have F4 : Fr L h h4 := F3.trans F4'
  refine ⟨x, h4, ?_, by rw [← ey]; exact seq_out wl pb p4, S4.up (by omega), F4⟩
  have k1 : cmp2 .eq (.p (.str sRatios)) (.p (.str sSpot)) h = .ok (.p (.bl false)) h := rfl
  have k2 : cmp2 .eq (.p (.str sRatios)) (.p (.str sRatio)) h = .ok (.p (.bl false)) h := rfl
  have k3 : cmp2 .eq (.p (.str sRatios)) (.p (.str sForm)) h = .ok (.p (.bl false)) h := rfl
  have k4 : cmp2 .in_ (.p (.str sRatios)) (.p (.tup [.str sSpots, .str sRatios, .str sForms])) h = .ok (.p (.bl true)) h := rfl
  have k5 : ∀ h : Hea, cmp2 .in_ (.p (.str sRatios)) (.p (.tup [.str sCounts, .str sNumbers])) h = .ok (.p (.bl false)) h := fun _ => rfl
  have k6 : ∀ h : Hea, cmp2 .ne (.p (.str sRatios)) (.p (.str sRatios)) h = .ok (.p (.bl false)) h := fun _ => rfl
  have k7 : ∀ h : Hea, cmp2 .eq (.p (.str sRatios)) (.p (.str sRatios)) h = .ok (.p (.bl true)) h := fun _ => rfl
  have k8 : ∀ h : Hea, slc3 false (.p (.str sRatios)) none (some (-1)) h = .ok (.p (.str sRatio)) h := fun _ => rfl
  have i0 : ∀ h : Hea, idxD h (.p (.lst (x0 :: xr))) (.p (.int 0)) = some (.p x0) := fun _ => idx_atL (i := 0) rfl
  have ln := len_at (h := h) (h1 := h2) (ys := ys) l2
  have st := fun ρ => seti_at (bs := h.length) (ρ := ρ) (x := b) (h := h) (h1 := h3) (i := w') (ys := ys) l3 wl
  have ft : h4.take h.length = h4 := F4.take
  have ft2 : (h4 ++ [none]).take h.length = h4 := F4.takeApp
  have fz : ∀ ρ : Slots, slot ρ 4 = some (.ref h.length) → frz1 ρ 4 (h3 ++ [some ((ys.set w' b).map D.p)]) = .next (ρ.set 4 (some (.p (.lst (ys.set w' b))))) (h3 ++ [none]) := fun ρ e => frz_at l3 e
  rw [call_eq (fd := f__law_bad) rfl rfl]
  cases xr with
  | nil =>
    have ey' : ys = [x0, x0] := ey
    have mk2 : mk true [.p x0, .p x0] h = .ok (.ref h.length) (h ++ [some (ys.map D.p)]) := by rw [ey']; exact mk_true (by show 2 ≤ LIM; decide)
    simp [-List.map_set, ends1, f__law_bad, b__law_bad, startS, exs_cons, ex_set, ex_par, ex_unp, ex_seti, ex_expr, ex_ret, ex_if, ex_while, ex_for, ex_raise, ex_try, ex_frz, ev_bin, ev_neg, ev_cmp, ev_and, ev_or, ev_not, ev_ite, ev_tup, ev_lst, ev_idx, ev_slc00, ev_slc10, ev_slc01, ev_call, ev_callv, ev_comp, ev_blt, ev_meth, evs_cons, evI_seq, evI_rng, evI_zip, evT_and, evT_or, evT_not, evT_cmp, evT_call, evT_blt, evT_var, evT_idx, k1, k2, k3, k4, k5, k6, k7, k8, mk_p0, mk_p4, mk_p5, add_54, i0, e1, ln, e3, st, fz, slot, e4, ft, ft2, mk2]
  | cons z zs =>
    have ey' : ys = x0 :: z :: zs := ey
    have c0 : (1 : Int) < (zs.length : Int) + 1 + 1 := by omega
    have mk2 : blt1 .list true [.p (.lst (x0 :: z :: zs))] h = .ok (.ref h.length) (h ++ [some (ys.map D.p)]) := by rw [ey']; exact list_new (by rw [← ey']; exact Nat.le_trans yl2 (by decide))
    simp [-List.map_set, ends1, f__law_bad, b__law_bad, startS, exs_cons, ex_set, ex_par, ex_unp, ex_seti, ex_expr, ex_ret, ex_if, ex_while, ex_for, ex_raise, ex_try, ex_frz, ev_bin, ev_neg, ev_cmp, ev_and, ev_or, ev_not, ev_ite, ev_tup, ev_lst, ev_idx, ev_slc00, ev_slc10, ev_slc01, ev_call, ev_callv, ev_comp, ev_blt, ev_meth, evs_cons, evI_seq, evI_rng, evI_zip, evT_and, evT_or, evT_not, evT_cmp, evT_call, evT_blt, evT_var, evT_idx, k1, k2, k3, k4, k5, k6, k7, k8, mk_p0, mk_p4, mk_p5, add_54, i0, e1, ln, e3, st, fz, slot, e4, ft, ft2, mk2, c0]
theorem rn_bad_spots {n s : Nat} (hn : 5 ≤ n) {x0 : P} {xr : List P} (hl : xr.length ≤ 100) {Φ : P → Prop} (r0 : Rn (n - 1) i__law_bad 1 [.ref s, .p (.str sSpot), .p x0] s Φ) {y0 : P} {yr : List P} (ex : x0 = .tup (y0 :: yr)) (hy : yr.length ≤ 100) : Rn n i__law_bad 4 [.ref s, .p (.str sSpots), .p (.lst (x0 :: xr))] s (SeqBad (baseOf x0 xr) (fun b => Φ b ∨ b = .tup ((y0 :: yr) ++ [y0])) (.lst [])) := fun L N h S l => by
  obtain ⟨m, rfl⟩ : ∃ m, n = m + 1 := ⟨n - 1, by omega⟩
  obtain ⟨ys, ey⟩ : ∃ ys, ys = baseOf x0 xr := ⟨_, rfl⟩
  have yl : 2 ≤ ys.length := by rw [ey]; exact base_len
  have yl2 : ys.length ≤ 101 := by rw [ey]; exact base_le hl
  obtain ⟨b0, h1, e1, p1, S1, F1⟩ := Rn.top (n := m) r0 (t := [some (ys.map D.p)]) S (by omega)
  obtain ⟨v0, h2, e2, ⟨v, rfl, v1, v2, v3⟩, S2, F2'⟩ := Rn.top (rn_take (n := m) (s := s) (by omega) 3 (small' (n := 10) (by decide) (by decide))) (t := [some (ys.map D.p)]) S1 (by omega)
  have F2 : Fr L h h2 := F1.trans F2'
  obtain ⟨b2, hb2⟩ : ∃ b2, b2 = P.tup ((y0 :: yr) ++ [y0]) := ⟨_, rfl⟩
  obtain ⟨b, eb⟩ : ∃ b, b = (if v = 0 then b2 else b0) := ⟨_, rfl⟩
  have pb : Φ b ∨ b = .tup ((y0 :: yr) ++ [y0]) := by
    rw [eb]
    by_cases c : v = 0
    · rw [if_pos c]; exact .inr hb2
    · rw [if_neg c]; exact .inl p1
  have l2 : h2.length = h.length := F2.len
  obtain ⟨w0, h3, e3, ⟨w, rfl, w1, w2, w3⟩, S3, F3'⟩ := Rn.top (rn_take (n := m) (s := s) (by omega) (ys.length : Int) (len_big (by omega))) (t := [some (ys.map D.p)]) S2 (by omega)
  have F3 : Fr L h h3 := F2.trans F3'
  have l3 : h3.length = h.length := F3.len
  have wl : w.toNat < ys.length := by
    have := w2 (by omega); omega
  obtain ⟨w', rfl⟩ : ∃ w' : Nat, w = (w' : Nat) := ⟨w.toNat, by omega⟩
  rw [Int.toNat_natCast] at wl
  obtain ⟨x, h4, e4, p4, S4, F4'⟩ := Rn.top (rn_pick (n := m) (s := s) (by omega) (xs := [.non, .bl true, .str [49], .tup [.str [49]], .int 0, .lst (ys.set w' b), .tup (ys.set w' b), .lst (ys.set w' b), .lst []]) (by simp) (by simp)) (t := [none]) S3 (by omega)
  have F4 : Fr L h h4 := F3.trans F4'
  refine ⟨x, h4, ?_, by rw [← ey]; exact seq_out wl pb p4, S4.up (by omega), F4⟩
  have k1 : cmp2 .eq (.p (.str sSpots)) (.p (.str sSpot)) h = .ok (.p (.bl false)) h := rfl
  have k2 : cmp2 .eq (.p (.str sSpots)) (.p (.str sRatio)) h = .ok (.p (.bl false)) h := rfl
  have k3 : cmp2 .eq (.p (.str sSpots)) (.p (.str sForm)) h = .ok (.p (.bl false)) h := rfl
  have k4 : cmp2 .in_ (.p (.str sSpots)) (.p (.tup [.str sSpots, .str sRatios, .str sForms])) h = .ok (.p (.bl true)) h := rfl
  have k5 : ∀ h : Hea, cmp2 .in_ (.p (.str sSpots)) (.p (.tup [.str sCounts, .str sNumbers])) h = .ok (.p (.bl false)) h := fun _ => rfl
  have k6 : ∀ h : Hea, cmp2 .ne (.p (.str sSpots)) (.p (.str sRatios)) h = .ok (.p (.bl true)) h := fun _ => rfl
  have k7 : ∀ h : Hea, cmp2 .eq (.p (.str sSpots)) (.p (.str sRatios)) h = .ok (.p (.bl false)) h := fun _ => rfl
  have k8 : ∀ h : Hea, slc3 false (.p (.str sSpots)) none (some (-1)) h = .ok (.p (.str sSpot)) h := fun _ => rfl
  have i0 : ∀ h : Hea, idxD h (.p (.lst (x0 :: xr))) (.p (.int 0)) = some (.p x0) := fun _ => idx_atL (i := 0) rfl
  have ln := len_at (h := h) (h1 := h2) (ys := ys) l2
  have st := fun ρ => seti_at (bs := h.length) (ρ := ρ) (x := b) (h := h) (h1 := h3) (i := w') (ys := ys) l3 wl
  have ft : h4.take h.length = h4 := F4.take
  have ft2 : (h4 ++ [none]).take h.length = h4 := F4.takeApp
  have fz : ∀ ρ : Slots, slot ρ 4 = some (.ref h.length) → frz1 ρ 4 (h3 ++ [some ((ys.set w' b).map D.p)]) = .next (ρ.set 4 (some (.p (.lst (ys.set w' b))))) (h3 ++ [none]) := fun ρ e => frz_at l3 e
  rw [call_eq (fd := f__law_bad) rfl rfl]
  have so : ∀ h : Hea, slc3 false (.p x0) none (some 1) h = .ok (.p (.tup [y0])) h := fun _ => by rw [ex]; exact slc_one
  have lm : 1000 ≤ LIM := by decide
  have ad : ∀ h : Hea, bin2 .add (.p x0) (.p (.tup [y0])) h = .ok (.p b2) h := fun _ => by rw [ex, hb2]; exact add_t (by simp; omega)
  cases xr with
  | nil =>
    have ey' : ys = [x0, x0] := ey
    have mk2 : mk true [.p x0, .p x0] h = .ok (.ref h.length) (h ++ [some (ys.map D.p)]) := by rw [ey']; exact mk_true (by show 2 ≤ LIM; decide)
    by_cases c : v = 0
    · rw [if_pos c] at eb
      have cv : (v == 0) = true := by rw [eqd]; exact decide_eq_true c
      subst eb
      simp [-List.map_set, -List.cons_append, cv, ends1, f__law_bad, b__law_bad, startS, exs_cons, ex_set, ex_par, ex_unp, ex_seti, ex_expr, ex_ret, ex_if, ex_while, ex_for, ex_raise, ex_try, ex_frz, ev_bin, ev_neg, ev_cmp, ev_and, ev_or, ev_not, ev_ite, ev_tup, ev_lst, ev_idx, ev_slc00, ev_slc10, ev_slc01, ev_call, ev_callv, ev_comp, ev_blt, ev_meth, evs_cons, evI_seq, evI_rng, evI_zip, evT_and, evT_or, evT_not, evT_cmp, evT_call, evT_blt, evT_var, evT_idx, k1, k2, k3, k4, k5, k6, k7, k8, mk_p0, mk_p4, mk_p5, add_54, i0, e1, ln, e3, st, fz, slot, e4, ft, ft2, e2, so, ad, mk2]
    · rw [if_neg c] at eb
      have cv : (v == 0) = false := by rw [eqd]; exact decide_eq_false c
      subst eb
      simp [-List.map_set, cv, ends1, f__law_bad, b__law_bad, startS, exs_cons, ex_set, ex_par, ex_unp, ex_seti, ex_expr, ex_ret, ex_if, ex_while, ex_for, ex_raise, ex_try, ex_frz, ev_bin, ev_neg, ev_cmp, ev_and, ev_or, ev_not, ev_ite, ev_tup, ev_lst, ev_idx, ev_slc00, ev_slc10, ev_slc01, ev_call, ev_callv, ev_comp, ev_blt, ev_meth, evs_cons, evI_seq, evI_rng, evI_zip, evT_and, evT_or, evT_not, evT_cmp, evT_call, evT_blt, evT_var, evT_idx, k1, k2, k3, k4, k5, k6, k7, k8, mk_p0, mk_p4, mk_p5, add_54, i0, e1, ln, e3, st, fz, slot, e4, ft, ft2, e2, so, ad, mk2]
  | cons z zs =>
    have ey' : ys = x0 :: z :: zs := ey
    have c0 : (1 : Int) < (zs.length : Int) + 1 + 1 := by omega
    have mk2 : blt1 .list true [.p (.lst (x0 :: z :: zs))] h = .ok (.ref h.length) (h ++ [some (ys.map D.p)]) := by rw [ey']; exact list_new (by rw [← ey']; exact Nat.le_trans yl2 (by decide))
    by_cases c : v = 0
    · rw [if_pos c] at eb
      have cv : (v == 0) = true := by rw [eqd]; exact decide_eq_true c
      subst eb
      simp [-List.map_set, -List.cons_append, cv, ends1, f__law_bad, b__law_bad, startS, exs_cons, ex_set, ex_par, ex_unp, ex_seti, ex_expr, ex_ret, ex_if, ex_while, ex_for, ex_raise, ex_try, ex_frz, ev_bin, ev_neg, ev_cmp, ev_and, ev_or, ev_not, ev_ite, ev_tup, ev_lst, ev_idx, ev_slc00, ev_slc10, ev_slc01, ev_call, ev_callv, ev_comp, ev_blt, ev_meth, evs_cons, evI_seq, evI_rng, evI_zip, evT_and, evT_or, evT_not, evT_cmp, evT_call, evT_blt, evT_var, evT_idx, k1, k2, k3, k4, k5, k6, k7, k8, mk_p0, mk_p4, mk_p5, add_54, i0, e1, ln, e3, st, fz, slot, e4, ft, ft2, e2, so, ad, mk2, c0]
    · rw [if_neg c] at eb
      have cv : (v == 0) = false := by rw [eqd]; exact decide_eq_false c
      subst eb
      simp [-List.map_set, cv, ends1, f__law_bad, b__law_bad, startS, exs_cons, ex_set, ex_par, ex_unp, ex_seti, ex_expr, ex_ret, ex_if, ex_while, ex_for, ex_raise, ex_try, ex_frz, ev_bin, ev_neg, ev_cmp, ev_and, ev_or, ev_not, ev_ite, ev_tup, ev_lst, ev_idx, ev_slc00, ev_slc10, ev_slc01, ev_call, ev_callv, ev_comp, ev_blt, ev_meth, evs_cons, evI_seq, evI_rng, evI_zip, evT_and, evT_or, evT_not, evT_cmp, evT_call, evT_blt, evT_var, evT_idx, k1, k2, k3, k4, k5, k6, k7, k8, mk_p0, mk_p4, mk_p5, add_54, i0, e1, ln, e3, st, fz, slot, e4, ft, ft2, e2, so, ad, mk2, c0]
theorem rn_bad_forms {n s : Nat} (hn : 5 ≤ n) {x0 : P} {xr : List P} (hl : xr.length ≤ 100) {Φ : P → Prop} (r0 : Rn (n - 1) i__law_bad 1 [.ref s, .p (.str sForm), .p x0] s Φ) {y0 : P} {yr : List P} (ex : x0 = .tup (y0 :: yr)) (hy : yr.length ≤ 100) : Rn n i__law_bad 4 [.ref s, .p (.str sForms), .p (.lst (x0 :: xr))] s (SeqBad (baseOf x0 xr) (fun b => Φ b ∨ b = .tup ((y0 :: yr) ++ [y0])) (.lst [])) := fun L N h S l => by
  obtain ⟨m, rfl⟩ : ∃ m, n = m + 1 := ⟨n - 1, by omega⟩
  obtain ⟨ys, ey⟩ : ∃ ys, ys = baseOf x0 xr := ⟨_, rfl⟩
  have yl : 2 ≤ ys.length := by rw [ey]; exact base_len
  have yl2 : ys.length ≤ 101 := by rw [ey]; exact base_le hl
  obtain ⟨b0, h1, e1, p1, S1, F1⟩ := Rn.top (n := m) r0 (t := [some (ys.map D.p)]) S (by omega)
  obtain ⟨v0, h2, e2, ⟨v, rfl, v1, v2, v3⟩, S2, F2'⟩ := Rn.top (rn_take (n := m) (s := s) (by omega) 3 (small' (n := 10) (by decide) (by decide))) (t := [some (ys.map D.p)]) S1 (by omega)
  have F2 : Fr L h h2 := F1.trans F2'
  obtain ⟨b2, hb2⟩ : ∃ b2, b2 = P.tup ((y0 :: yr) ++ [y0]) := ⟨_, rfl⟩
  obtain ⟨b, eb⟩ : ∃ b, b = (if v = 0 then b2 else b0) := ⟨_, rfl⟩
  have pb : Φ b ∨ b = .tup ((y0 :: yr) ++ [y0]) := by
    rw [eb]
    by_cases c : v = 0
    · rw [if_pos c]; exact .inr hb2
    · rw [if_neg c]; exact .inl p1
  have l2 : h2.length = h.length := F2.len
  obtain ⟨w0, h3, e3, ⟨w, rfl, w1, w2, w3⟩, S3, F3'⟩ := Rn.top (rn_take (n := m) (s := s) (by omega) (ys.length : Int) (len_big (by omega))) (t := [some (ys.map D.p)]) S2 (by omega)
  have F3 : Fr L h h3 := F2.trans F3'
  have l3 : h3.length = h.length := F3.len
  have wl : w.toNat < ys.length := by
    have := w2 (by omega); omega
  obtain ⟨w', rfl⟩ : ∃ w' : Nat, w = (w' : Nat) := ⟨w.toNat, by omega⟩
  rw [Int.toNat_natCast] at wl
  obtain ⟨x, h4, e4, p4, S4, F4'⟩ := Rn.top (rn_pick (n := m) (s := s) (by omega) (xs := [.non, .bl true, .str [49], .tup [.str [49]], .int 0, .lst (ys.set w' b), .tup (ys.set w' b), .lst (ys.set w' b), .lst []]) (by simp) (by simp)) (t := [none]) S3 (by omega)
  have F4 : Fr L h h4 := F3.trans F4'
  refine ⟨x, h4, ?_, by rw [← ey]; exact seq_out wl pb p4, S4.up (by omega), F4⟩
  have k1 : cmp2 .eq (.p (.str sForms)) (.p (.str sSpot)) h = .ok (.p (.bl false)) h := rfl
  have k2 : cmp2 .eq (.p (.str sForms)) (.p (.str sRatio)) h = .ok (.p (.bl false)) h := rfl
  have k3 : cmp2 .eq (.p (.str sForms)) (.p (.str sForm)) h = .ok (.p (.bl false)) h := rfl
  have k4 : cmp2 .in_ (.p (.str sForms)) (.p (.tup [.str sSpots, .str sRatios, .str sForms])) h = .ok (.p (.bl true)) h := rfl
  have k5 : ∀ h : Hea, cmp2 .in_ (.p (.str sForms)) (.p (.tup [.str sCounts, .str sNumbers])) h = .ok (.p (.bl false)) h := fun _ => rfl
  have k6 : ∀ h : Hea, cmp2 .ne (.p (.str sForms)) (.p (.str sRatios)) h = .ok (.p (.bl true)) h := fun _ => rfl
  have k7 : ∀ h : Hea, cmp2 .eq (.p (.str sForms)) (.p (.str sRatios)) h = .ok (.p (.bl false)) h := fun _ => rfl
  have k8 : ∀ h : Hea, slc3 false (.p (.str sForms)) none (some (-1)) h = .ok (.p (.str sForm)) h := fun _ => rfl
  have i0 : ∀ h : Hea, idxD h (.p (.lst (x0 :: xr))) (.p (.int 0)) = some (.p x0) := fun _ => idx_atL (i := 0) rfl
  have ln := len_at (h := h) (h1 := h2) (ys := ys) l2
  have st := fun ρ => seti_at (bs := h.length) (ρ := ρ) (x := b) (h := h) (h1 := h3) (i := w') (ys := ys) l3 wl
  have ft : h4.take h.length = h4 := F4.take
  have ft2 : (h4 ++ [none]).take h.length = h4 := F4.takeApp
  have fz : ∀ ρ : Slots, slot ρ 4 = some (.ref h.length) → frz1 ρ 4 (h3 ++ [some ((ys.set w' b).map D.p)]) = .next (ρ.set 4 (some (.p (.lst (ys.set w' b))))) (h3 ++ [none]) := fun ρ e => frz_at l3 e
  rw [call_eq (fd := f__law_bad) rfl rfl]
  have so : ∀ h : Hea, slc3 false (.p x0) none (some 1) h = .ok (.p (.tup [y0])) h := fun _ => by rw [ex]; exact slc_one
  have lm : 1000 ≤ LIM := by decide
  have ad : ∀ h : Hea, bin2 .add (.p x0) (.p (.tup [y0])) h = .ok (.p b2) h := fun _ => by rw [ex, hb2]; exact add_t (by simp; omega)
  cases xr with
  | nil =>
    have ey' : ys = [x0, x0] := ey
    have mk2 : mk true [.p x0, .p x0] h = .ok (.ref h.length) (h ++ [some (ys.map D.p)]) := by rw [ey']; exact mk_true (by show 2 ≤ LIM; decide)
    by_cases c : v = 0
    · rw [if_pos c] at eb
      have cv : (v == 0) = true := by rw [eqd]; exact decide_eq_true c
      subst eb
      simp [-List.map_set, -List.cons_append, cv, ends1, f__law_bad, b__law_bad, startS, exs_cons, ex_set, ex_par, ex_unp, ex_seti, ex_expr, ex_ret, ex_if, ex_while, ex_for, ex_raise, ex_try, ex_frz, ev_bin, ev_neg, ev_cmp, ev_and, ev_or, ev_not, ev_ite, ev_tup, ev_lst, ev_idx, ev_slc00, ev_slc10, ev_slc01, ev_call, ev_callv, ev_comp, ev_blt, ev_meth, evs_cons, evI_seq, evI_rng, evI_zip, evT_and, evT_or, evT_not, evT_cmp, evT_call, evT_blt, evT_var, evT_idx, k1, k2, k3, k4, k5, k6, k7, k8, mk_p0, mk_p4, mk_p5, add_54, i0, e1, ln, e3, st, fz, slot, e4, ft, ft2, e2, so, ad, mk2]
    · rw [if_neg c] at eb
      have cv : (v == 0) = false := by rw [eqd]; exact decide_eq_false c
      subst eb
      simp [-List.map_set, cv, ends1, f__law_bad, b__law_bad, startS, exs_cons, ex_set, ex_par, ex_unp, ex_seti, ex_expr, ex_ret, ex_if, ex_while, ex_for, ex_raise, ex_try, ex_frz, ev_bin, ev_neg, ev_cmp, ev_and, ev_or, ev_not, ev_ite, ev_tup, ev_lst, ev_idx, ev_slc00, ev_slc10, ev_slc01, ev_call, ev_callv, ev_comp, ev_blt, ev_meth, evs_cons, evI_seq, evI_rng, evI_zip, evT_and, evT_or, evT_not, evT_cmp, evT_call, evT_blt, evT_var, evT_idx, k1, k2, k3, k4, k5, k6, k7, k8, mk_p0, mk_p4, mk_p5, add_54, i0, e1, ln, e3, st, fz, slot, e4, ft, ft2, e2, so, ad, mk2]
  | cons z zs =>
    have ey' : ys = x0 :: z :: zs := ey
    have c0 : (1 : Int) < (zs.length : Int) + 1 + 1 := by omega
    have mk2 : blt1 .list true [.p (.lst (x0 :: z :: zs))] h = .ok (.ref h.length) (h ++ [some (ys.map D.p)]) := by rw [ey']; exact list_new (by rw [← ey']; exact Nat.le_trans yl2 (by decide))
    by_cases c : v = 0
    · rw [if_pos c] at eb
      have cv : (v == 0) = true := by rw [eqd]; exact decide_eq_true c
      subst eb
      simp [-List.map_set, -List.cons_append, cv, ends1, f__law_bad, b__law_bad, startS, exs_cons, ex_set, ex_par, ex_unp, ex_seti, ex_expr, ex_ret, ex_if, ex_while, ex_for, ex_raise, ex_try, ex_frz, ev_bin, ev_neg, ev_cmp, ev_and, ev_or, ev_not, ev_ite, ev_tup, ev_lst, ev_idx, ev_slc00, ev_slc10, ev_slc01, ev_call, ev_callv, ev_comp, ev_blt, ev_meth, evs_cons, evI_seq, evI_rng, evI_zip, evT_and, evT_or, evT_not, evT_cmp, evT_call, evT_blt, evT_var, evT_idx, k1, k2, k3, k4, k5, k6, k7, k8, mk_p0, mk_p4, mk_p5, add_54, i0, e1, ln, e3, st, fz, slot, e4, ft, ft2, e2, so, ad, mk2, c0]
    · rw [if_neg c] at eb
      have cv : (v == 0) = false := by rw [eqd]; exact decide_eq_false c
      subst eb
      simp [-List.map_set, cv, ends1, f__law_bad, b__law_bad, startS, exs_cons, ex_set, ex_par, ex_unp, ex_seti, ex_expr, ex_ret, ex_if, ex_while, ex_for, ex_raise, ex_try, ex_frz, ev_bin, ev_neg, ev_cmp, ev_and, ev_or, ev_not, ev_ite, ev_tup, ev_lst, ev_idx, ev_slc00, ev_slc10, ev_slc01, ev_call, ev_callv, ev_comp, ev_blt, ev_meth, evs_cons, evI_seq, evI_rng, evI_zip, evT_and, evT_or, evT_not, evT_cmp, evT_call, evT_blt, evT_var, evT_idx, k1, k2, k3, k4, k5, k6, k7, k8, mk_p0, mk_p4, mk_p5, add_54, i0, e1, ln, e3, st, fz, slot, e4, ft, ft2, e2, so, ad, mk2, c0]
end K15

set_option linter.all false
set_option maxRecDepth 100000
set_option maxHeartbeats 1000000
set_option exponentiation.threshold 700
namespace K15
open Mp
/-! ### _law_bad: counts, numbers -/
def NumBad (xs bads : List P) (x : P) : Prop := x ∈ OddB ∨ (∃ i b, i < xs.length ∧ b ∈ bads ∧ (x = .lst (xs.set i b) ∨ x = .tup (xs.set i b))) ∨ x = .lst (xs.drop 1) ∨ x = .lst (xs ++ [.int 1]) ∨ x = .lst []
theorem slc_tail_l {x : P} {xs : List P} {h : Hea} : slc3 false (.p (.lst (x :: xs))) (some 1) none h = .ok (.p (.lst xs)) h := by
  have e := slc_tail (x := x) (xs := xs) (h := h)
  have e2 : R.ok (D.p (.tup (cut (x :: xs) (some 1) none))) h = .ok (.p (.tup xs)) h := e
  have e3 : cut (x :: xs) (some 1) none = xs := by
    injection e2 with e2
    injection e2 with e2
    injection e2
  show R.ok (D.p (.lst (cut (x :: xs) (some 1) none))) h = _
  rw [e3]
theorem add_43 {a b c d a' b' c' : P} {h : Hea} : bin2 .add (.p (.lst [a, b, c, d])) (.p (.lst [a', b', c'])) h = .ok (.p (.lst [a, b, c, d, a', b', c'])) h := add_l (by show 7 ≤ LIM; decide)
theorem num_out {xs bads : List P} {i : Nat} {b e x : P} (li : i < xs.length) (hb : b ∈ bads) (he : e = .lst (xs ++ [.int 1]) ∨ e = .lst []) (h : x ∈ [.non, .bl true, .str [49], .tup [.str [49]], .int 0, .lst (xs.set i b), .tup (xs.set i b), .lst (xs.drop 1), e]) : NumBad xs bads x := by
  simp only [List.mem_cons, List.not_mem_nil, or_false] at h
  rcases h with rfl | rfl | rfl | rfl | rfl | rfl | rfl | rfl | rfl
  · exact .inl (by simp [OddB])
  · exact .inl (by simp [OddB])
  · exact .inl (by simp [OddB])
  · exact .inl (by simp [OddB])
  · exact .inl (by simp [OddB])
  · exact .inr (.inl ⟨i, b, li, hb, .inl rfl⟩)
  · exact .inr (.inl ⟨i, b, li, hb, .inr rfl⟩)
  · exact .inr (.inr (.inl rfl))
  · rcases he with rfl | rfl
    · exact .inr (.inr (.inr (.inl rfl)))
    · exact .inr (.inr (.inr (.inr rfl)))
def NumBads : List P := [.bl true, .non, .str [49], .tup [.int 1, .int 1]]
def CountBads : List P := [.bl true, .non, .str [49], .tup [.int 1, .int 1], .int 0, .int (-1), .bl false]
theorem rn_bad_numbers {n s : Nat} (hn : 5 ≤ n) {x0 : P} {xr : List P} (hl : xr.length ≤ 100) : Rn n i__law_bad 4 [.ref s, .p (.str sNumbers), .p (.lst (x0 :: xr))] s (NumBad (x0 :: xr) NumBads) := fun L N h S l => by
  obtain ⟨m, rfl⟩ : ∃ m, n = m + 1 := ⟨n - 1, by omega⟩
  obtain ⟨ys, ey⟩ : ∃ ys, ys = x0 :: xr := ⟨_, rfl⟩
  have yl : 1 ≤ ys.length := by rw [ey, List.length_cons]; omega
  have yl2 : ys.length ≤ 101 := by rw [ey, List.length_cons]; omega
  obtain ⟨b, h2, e2, pb, S2, F2⟩ := Rn.top (rn_pick (n := m) (s := s) (by omega) (xs := [.bl true, .non, .str [49], .tup [.int 1, .int 1]]) (by simp) (by simp)) (t := [some (ys.map D.p)]) S (by omega)
  have l2 : h2.length = h.length := F2.len
  obtain ⟨w0, h3, e3, ⟨w, rfl, w1, w2, w3⟩, S3, F3'⟩ := Rn.top (rn_take (n := m) (s := s) (by omega) (ys.length : Int) (len_big (by omega))) (t := [some (ys.map D.p)]) S2 (by omega)
  have F3 : Fr L h h3 := F2.trans F3'
  have l3 : h3.length = h.length := F3.len
  have wl : w.toNat < ys.length := by
    by_cases c : 2 ≤ (ys.length : Int)
    · have := w2 c; omega
    · have := w3 (by omega); omega
  obtain ⟨w', rfl⟩ : ∃ w' : Nat, w = (w' : Nat) := ⟨w.toNat, by omega⟩
  rw [Int.toNat_natCast] at wl
  obtain ⟨e, ee⟩ : ∃ e, e = (if (ys.length : Int) < 80 then P.lst (ys ++ [.int 1]) else P.lst []) := ⟨_, rfl⟩
  have he : e = .lst (ys ++ [.int 1]) ∨ e = .lst [] := by
    rw [ee]
    by_cases c : (ys.length : Int) < 80
    · rw [if_pos c]; exact .inl rfl
    · rw [if_neg c]; exact .inr rfl
  obtain ⟨zs, ez⟩ : ∃ zs, zs = ys.drop 1 := ⟨_, rfl⟩
  obtain ⟨x, h4, e4, p4, S4, F4'⟩ := Rn.top (rn_pick (n := m) (s := s) (by omega) (xs := [.non, .bl true, .str [49], .tup [.str [49]], .int 0, .lst (ys.set w' b), .tup (ys.set w' b), .lst zs, e]) (by simp) (by simp)) (t := [none]) S3 (by omega)
  have F4 : Fr L h h4 := F3.trans F4'
  refine ⟨x, h4, ?_, by rw [← ey]; rw [ez] at p4; exact num_out wl pb he p4, S4.up (by omega), F4⟩
  have k1 : cmp2 .eq (.p (.str sNumbers)) (.p (.str sSpot)) h = .ok (.p (.bl false)) h := rfl
  have k2 : cmp2 .eq (.p (.str sNumbers)) (.p (.str sRatio)) h = .ok (.p (.bl false)) h := rfl
  have k3 : cmp2 .eq (.p (.str sNumbers)) (.p (.str sForm)) h = .ok (.p (.bl false)) h := rfl
  have k4 : cmp2 .in_ (.p (.str sNumbers)) (.p (.tup [.str sSpots, .str sRatios, .str sForms])) h = .ok (.p (.bl false)) h := rfl
  have k5 : ∀ h : Hea, cmp2 .in_ (.p (.str sNumbers)) (.p (.tup [.str sCounts, .str sNumbers])) h = .ok (.p (.bl true)) h := fun _ => rfl
  have k6 : ∀ h : Hea, cmp2 .eq (.p (.str sNumbers)) (.p (.str sCounts)) h = .ok (.p (.bl false)) h := fun _ => rfl
  have ln := len_at (h := h) (h1 := h2) (ys := ys) l2
  have st := fun ρ => seti_at (bs := h.length) (ρ := ρ) (x := b) (h := h) (h1 := h3) (i := w') (ys := ys) l3 wl
  have ft2 : (h4 ++ [none]).take h.length = h4 := F4.takeApp
  have fz : ∀ ρ : Slots, slot ρ 4 = some (.ref h.length) → frz1 ρ 4 (h3 ++ [some ((ys.set w' b).map D.p)]) = .next (ρ.set 4 (some (.p (.lst (ys.set w' b))))) (h3 ++ [none]) := fun ρ e => frz_at l3 e
  have nw : blt1 .list true [.p (.lst ys)] h = .ok (.ref h.length) (h ++ [some (ys.map D.p)]) := list_new (Nat.le_trans yl2 (by decide))
  have sl : ∀ h : Hea, slc3 false (.p (.lst ys)) (some 1) none h = .ok (.p (.lst zs)) h := fun _ => by rw [ez, ey]; exact slc_tail_l
  have lm : 1000 ≤ LIM := by decide
  have ad : ∀ h : Hea, bin2 .add (.p (.lst ys)) (.p (.lst [.int 1])) h = .ok (.p (.lst (ys ++ [.int 1]))) h := fun _ => add_l (by show ys.length + 1 ≤ LIM; omega)
  rw [call_eq (fd := f__law_bad) rfl rfl, ← ey]
  by_cases c : (ys.length : Int) < 80
  · rw [if_pos c] at ee
    have cv : decide ((ys.length : Int) < 80) = true := decide_eq_true c
    subst ee
    simp [-List.map_set, -List.map_append, c, ends1, f__law_bad, b__law_bad, startS, exs_cons, ex_set, ex_par, ex_unp, ex_seti, ex_expr, ex_ret, ex_if, ex_while, ex_for, ex_raise, ex_try, ex_frz, ev_bin, ev_neg, ev_cmp, ev_and, ev_or, ev_not, ev_ite, ev_tup, ev_lst, ev_idx, ev_slc00, ev_slc10, ev_slc01, ev_call, ev_callv, ev_comp, ev_blt, ev_meth, evs_cons, evI_seq, evI_rng, evI_zip, evT_and, evT_or, evT_not, evT_cmp, evT_call, evT_blt, evT_var, evT_idx, k1, k2, k3, k4, k5, k6, mk_p0, mk_p3, mk_p4, mk_p5, add_43, add_54, ln, e2, e3, st, fz, slot, e4, ft2, nw, sl, ad]
  · rw [if_neg c] at ee
    subst ee
    simp [-List.map_set, -List.map_append, c, ends1, f__law_bad, b__law_bad, startS, exs_cons, ex_set, ex_par, ex_unp, ex_seti, ex_expr, ex_ret, ex_if, ex_while, ex_for, ex_raise, ex_try, ex_frz, ev_bin, ev_neg, ev_cmp, ev_and, ev_or, ev_not, ev_ite, ev_tup, ev_lst, ev_idx, ev_slc00, ev_slc10, ev_slc01, ev_call, ev_callv, ev_comp, ev_blt, ev_meth, evs_cons, evI_seq, evI_rng, evI_zip, evT_and, evT_or, evT_not, evT_cmp, evT_call, evT_blt, evT_var, evT_idx, k1, k2, k3, k4, k5, k6, mk_p0, mk_p3, mk_p4, mk_p5, add_43, add_54, ln, e2, e3, st, fz, slot, e4, ft2, nw, sl, ad]
theorem rn_bad_counts {n s : Nat} (hn : 5 ≤ n) {x0 : P} {xr : List P} (hl : xr.length ≤ 100) : Rn n i__law_bad 4 [.ref s, .p (.str sCounts), .p (.lst (x0 :: xr))] s (NumBad (x0 :: xr) CountBads) := fun L N h S l => by
  obtain ⟨m, rfl⟩ : ∃ m, n = m + 1 := ⟨n - 1, by omega⟩
  obtain ⟨ys, ey⟩ : ∃ ys, ys = x0 :: xr := ⟨_, rfl⟩
  have yl : 1 ≤ ys.length := by rw [ey, List.length_cons]; omega
  have yl2 : ys.length ≤ 101 := by rw [ey, List.length_cons]; omega
  obtain ⟨b, h2, e2, pb, S2, F2⟩ := Rn.top (rn_pick (n := m) (s := s) (by omega) (xs := [.bl true, .non, .str [49], .tup [.int 1, .int 1], .int 0, .int (-1), .bl false]) (by simp) (by simp)) (t := [some (ys.map D.p)]) S (by omega)
  have l2 : h2.length = h.length := F2.len
  obtain ⟨w0, h3, e3, ⟨w, rfl, w1, w2, w3⟩, S3, F3'⟩ := Rn.top (rn_take (n := m) (s := s) (by omega) (ys.length : Int) (len_big (by omega))) (t := [some (ys.map D.p)]) S2 (by omega)
  have F3 : Fr L h h3 := F2.trans F3'
  have l3 : h3.length = h.length := F3.len
  have wl : w.toNat < ys.length := by
    by_cases c : 2 ≤ (ys.length : Int)
    · have := w2 c; omega
    · have := w3 (by omega); omega
  obtain ⟨w', rfl⟩ : ∃ w' : Nat, w = (w' : Nat) := ⟨w.toNat, by omega⟩
  rw [Int.toNat_natCast] at wl
  obtain ⟨e, ee⟩ : ∃ e, e = (if (ys.length : Int) < 80 then P.lst (ys ++ [.int 1]) else P.lst []) := ⟨_, rfl⟩
  have he : e = .lst (ys ++ [.int 1]) ∨ e = .lst [] := by
    rw [ee]
    by_cases c : (ys.length : Int) < 80
    · rw [if_pos c]; exact .inl rfl
    · rw [if_neg c]; exact .inr rfl
  obtain ⟨zs, ez⟩ : ∃ zs, zs = ys.drop 1 := ⟨_, rfl⟩
  obtain ⟨x, h4, e4, p4, S4, F4'⟩ := Rn.top (rn_pick (n := m) (s := s) (by omega) (xs := [.non, .bl true, .str [49], .tup [.str [49]], .int 0, .lst (ys.set w' b), .tup (ys.set w' b), .lst zs, e]) (by simp) (by simp)) (t := [none]) S3 (by omega)
  have F4 : Fr L h h4 := F3.trans F4'
  refine ⟨x, h4, ?_, by rw [← ey]; rw [ez] at p4; exact num_out wl pb he p4, S4.up (by omega), F4⟩
  have k1 : cmp2 .eq (.p (.str sCounts)) (.p (.str sSpot)) h = .ok (.p (.bl false)) h := rfl
  have k2 : cmp2 .eq (.p (.str sCounts)) (.p (.str sRatio)) h = .ok (.p (.bl false)) h := rfl
  have k3 : cmp2 .eq (.p (.str sCounts)) (.p (.str sForm)) h = .ok (.p (.bl false)) h := rfl
  have k4 : cmp2 .in_ (.p (.str sCounts)) (.p (.tup [.str sSpots, .str sRatios, .str sForms])) h = .ok (.p (.bl false)) h := rfl
  have k5 : ∀ h : Hea, cmp2 .in_ (.p (.str sCounts)) (.p (.tup [.str sCounts, .str sNumbers])) h = .ok (.p (.bl true)) h := fun _ => rfl
  have k6 : ∀ h : Hea, cmp2 .eq (.p (.str sCounts)) (.p (.str sCounts)) h = .ok (.p (.bl true)) h := fun _ => rfl
  have ln := len_at (h := h) (h1 := h2) (ys := ys) l2
  have st := fun ρ => seti_at (bs := h.length) (ρ := ρ) (x := b) (h := h) (h1 := h3) (i := w') (ys := ys) l3 wl
  have ft2 : (h4 ++ [none]).take h.length = h4 := F4.takeApp
  have fz : ∀ ρ : Slots, slot ρ 4 = some (.ref h.length) → frz1 ρ 4 (h3 ++ [some ((ys.set w' b).map D.p)]) = .next (ρ.set 4 (some (.p (.lst (ys.set w' b))))) (h3 ++ [none]) := fun ρ e => frz_at l3 e
  have nw : blt1 .list true [.p (.lst ys)] h = .ok (.ref h.length) (h ++ [some (ys.map D.p)]) := list_new (Nat.le_trans yl2 (by decide))
  have sl : ∀ h : Hea, slc3 false (.p (.lst ys)) (some 1) none h = .ok (.p (.lst zs)) h := fun _ => by rw [ez, ey]; exact slc_tail_l
  have lm : 1000 ≤ LIM := by decide
  have ad : ∀ h : Hea, bin2 .add (.p (.lst ys)) (.p (.lst [.int 1])) h = .ok (.p (.lst (ys ++ [.int 1]))) h := fun _ => add_l (by show ys.length + 1 ≤ LIM; omega)
  rw [call_eq (fd := f__law_bad) rfl rfl, ← ey]
  by_cases c : (ys.length : Int) < 80
  · rw [if_pos c] at ee
    have cv : decide ((ys.length : Int) < 80) = true := decide_eq_true c
    subst ee
    simp [-List.map_set, -List.map_append, c, ends1, f__law_bad, b__law_bad, startS, exs_cons, ex_set, ex_par, ex_unp, ex_seti, ex_expr, ex_ret, ex_if, ex_while, ex_for, ex_raise, ex_try, ex_frz, ev_bin, ev_neg, ev_cmp, ev_and, ev_or, ev_not, ev_ite, ev_tup, ev_lst, ev_idx, ev_slc00, ev_slc10, ev_slc01, ev_call, ev_callv, ev_comp, ev_blt, ev_meth, evs_cons, evI_seq, evI_rng, evI_zip, evT_and, evT_or, evT_not, evT_cmp, evT_call, evT_blt, evT_var, evT_idx, k1, k2, k3, k4, k5, k6, mk_p0, mk_p3, mk_p4, mk_p5, add_43, add_54, ln, e2, e3, st, fz, slot, e4, ft2, nw, sl, ad]
  · rw [if_neg c] at ee
    subst ee
    simp [-List.map_set, -List.map_append, c, ends1, f__law_bad, b__law_bad, startS, exs_cons, ex_set, ex_par, ex_unp, ex_seti, ex_expr, ex_ret, ex_if, ex_while, ex_for, ex_raise, ex_try, ex_frz, ev_bin, ev_neg, ev_cmp, ev_and, ev_or, ev_not, ev_ite, ev_tup, ev_lst, ev_idx, ev_slc00, ev_slc10, ev_slc01, ev_call, ev_callv, ev_comp, ev_blt, ev_meth, evs_cons, evI_seq, evI_rng, evI_zip, evT_and, evT_or, evT_not, evT_cmp, evT_call, evT_blt, evT_var, evT_idx, k1, k2, k3, k4, k5, k6, mk_p0, mk_p3, mk_p4, mk_p5, add_43, add_54, ln, e2, e3, st, fz, slot, e4, ft2, nw, sl, ad]
end K15

set_option linter.all false
set_option maxRecDepth 100000
set_option maxHeartbeats 1000000
set_option exponentiation.threshold 700
namespace K15
open Mp
/-! ### how great what is drawn may grow -/
/-- a over D, of k bits -/
def Ov (D k : Nat) (a : Rat) : Prop := ∃ A : Int, a = mkRat A D ∧ A.natAbs < 2 ^ k
theorem Ov.up {D k k' : Nat} {a : Rat} (h : Ov D k a) (l : k ≤ k') : Ov D k' a := by
  obtain ⟨A, e, b⟩ := h
  exact ⟨A, e, small' b l⟩
theorem Ov.zero {D k : Nat} : Ov D k 0 := ⟨0, by simp, Nat.two_pow_pos _⟩
theorem Ov.rb {D k : Nat} {a : Rat} (h : Ov D k a) (hD : 0 < D) (l : D < 2 ^ k) : Rb k a := by
  obtain ⟨A, rfl, b⟩ := h
  exact mk_rb hD b l
theorem mk_add {A B : Int} {D : Nat} (hD : 0 < D) : mkRat A D + mkRat B D = mkRat (A + B) D := by
  have h := nat_ne hD
  rw [mk_div, mk_div, mk_div, Rat.intCast_add]
  grind
theorem Ov.add {D k j : Nat} {a b : Rat} (h1 : Ov D (k + j) a) (h2 : Ov D k b) (hD : 0 < D) : Ov D (k + (j + 1)) (a + b) := by
  obtain ⟨A, rfl, l1⟩ := h1
  obtain ⟨B, rfl, l2⟩ := h2
  exact ⟨A + B, mk_add hD, natAbs_add_lt (n := k + j) l1 (small' l2 (Nat.le_add_right k j))⟩
theorem Ov.mul {D k j : Nat} {a : Rat} {c : Int} (h : Ov D k a) (hc : c.natAbs < 2 ^ j) (hD : 0 < D) : Ov D (j + k) ((c : Rat) * a) := by
  obtain ⟨A, rfl, l⟩ := h
  refine ⟨c * A, ?_, natAbs_mul_lt hc l⟩
  have h := nat_ne hD
  rw [mk_div, mk_div, Rat.intCast_mul]
  grind
theorem Ov.of {q : Rat} {D e k j : Nat} (h : D = q.den * e) (hD : 0 < D) (l1 : q.num.natAbs < 2 ^ k) (l2 : e < 2 ^ j) : Ov D (k + j) q := by
  refine ⟨q.num * (e : Int), ?_, natAbs_mul_lt l1 (by rw [Int.natAbs_natCast]; exact l2)⟩
  have h1 := nat_ne hD
  have h2 := den_ne q
  have h3 := nd q
  rw [mk_div, Rat.intCast_mul]
  have h4 : ((D : Int) : Rat) = ((q.den : Int) : Rat) * ((e : Int) : Rat) := by rw [h, Int.natCast_mul, Rat.intCast_mul]
  rw [h4] at h1 ⊢
  grind
theorem Ov.int {i : Int} {D k j : Nat} (hD : 0 < D) (l1 : i.natAbs < 2 ^ k) (l2 : D < 2 ^ j) : Ov D (k + j) (i : Rat) := by
  refine Ov.of (e := D) (by rw [Rat.den_intCast, Nat.one_mul]) hD (by rw [Rat.num_intCast]; exact l1) l2
theorem run_ok {D k : Nat} (hD : 0 < D) (hl : D < 2 ^ k) : ∀ {ts : List Rat} {a : Rat} {j : Nat}, Ov D (k + j) a → (∀ t ∈ ts, Ov D k t) → k + j + ts.length ≤ 8000 → RunOk a ts
  | [], a, j, h, _, l => (h.rb hD (small' hl (by omega))).ok (by simpa using l)
  | t :: ts, a, j, h, ht, l => by
    rw [List.length_cons] at l
    have t1 := ht t List.mem_cons_self
    exact ⟨(h.rb hD (small' hl (by omega))).ok (by omega), (t1.rb hD hl).ok (by omega), run_ok hD hl (Ov.add h t1 hD) (fun z hz => ht z (List.mem_cons_of_mem _ hz)) (by omega)⟩
theorem sum_ov {D k : Nat} (hD : 0 < D) : ∀ {ts : List Rat} {a : Rat} {j : Nat}, Ov D (k + j) a → (∀ t ∈ ts, Ov D k t) → Ov D (k + (j + ts.length)) (a + ts.sum)
  | [], a, j, h, _ => by simpa [Rat.add_zero] using h
  | t :: ts, a, j, h, ht => by
    rw [sum_cons, List.length_cons, show j + (ts.length + 1) = (j + 1) + ts.length from by omega]
    exact sum_ov hD (Ov.add h (ht t List.mem_cons_self) hD) fun z hz => ht z (List.mem_cons_of_mem _ hz)
end K15

set_option linter.all false
set_option maxRecDepth 100000
set_option maxHeartbeats 1000000
set_option exponentiation.threshold 700
namespace K15
open Mp
/-! ### what is drawn for the cases -/
structure Cd where
  b : List Rat
  f : List Rat
  s : Rat
  ss : List (List Rat)
  cs : List Int
  fs : List (List Int)
  ns : List Int
structure CdOk (g : Bool) (d : Nat) (c : Cd) : Prop where
  d1 : 1 ≤ d
  d3 : d ≤ 3
  lb : c.b.length = d
  lf : c.f.length = d
  hb : ∀ q ∈ c.b, Cl g q
  hf : ∀ q ∈ c.f, Cl g q
  hs : Cl g c.s
  ssn : c.ss ≠ []
  ssl : c.ss.length ≤ 80
  ssg : g = true → c.ss.length ≤ 4
  hss : ∀ s ∈ c.ss, s.length = d ∧ ∀ q ∈ s, Cl g q
  csl : c.cs.length = c.ss.length
  hcs : ∀ n ∈ c.cs, 1 ≤ n ∧ n ≤ 10 ^ 40
  fsn : c.fs ≠ []
  fsl : c.fs.length ≤ 80
  hfs : ∀ f ∈ c.fs, f.length = d + 1 ∧ ∀ i ∈ f, -(10 ^ 30) ≤ i ∧ i ≤ 10 ^ 30
  nsl : c.ns.length = c.fs.length
  hns : ∀ i ∈ c.ns, -(10 ^ 20) ≤ i ∧ i ≤ 10 ^ 20
def Cd.mixed (c : Cd) : List Rat := List.zipWith (betw c.s) c.b c.f
def Cd.mean (c : Cd) (d : Nat) : List Rat := (List.range d).map fun k => (terms k c.ss c.cs).sum * (c.cs.sum : Rat)⁻¹
def Cd.firsts (c : Cd) : List Rat := c.ss.map fun s => s.getD 0 0
def Cd.added (c : Cd) : Rat := c.b.getD 0 0 + c.s
theorem abs_le {i b : Int} (h : -b ≤ i ∧ i ≤ b) {k : Nat} (hb : b.natAbs < 2 ^ k) : i.natAbs < 2 ^ k := by omega
theorem betw_rb {s p q : Rat} (hs : Rb 700 s) (hp : Rb 700 p) (hq : Rb 700 q) : Rb 2200 (betw s p q) := by
  rw [← betw_mk]
  have nn := fun (z : Rat) (hz : Rb 700 z) => (by rw [Int.natAbs_natCast]; exact hz.2 : ((z.den : Nat) : Int).natAbs < 2 ^ 700)
  have b1 : (p.num * (q.den : Int)).natAbs < 2 ^ 1400 := natAbs_mul_lt hp.1 (nn q hq)
  have b2 : (q.num * (p.den : Int)).natAbs < 2 ^ 1400 := natAbs_mul_lt hq.1 (nn p hp)
  have b3 : ((s.den : Int) - s.num).natAbs < 2 ^ 701 := natAbs_sub_lt (nn s hs) hs.1
  have b4 : (p.num * (q.den : Int) * ((s.den : Int) - s.num)).natAbs < 2 ^ 2101 := natAbs_mul_lt b1 b3
  have b5 : (q.num * (p.den : Int) * s.num).natAbs < 2 ^ 2101 := small' (natAbs_mul_lt b2 hs.1) (by decide)
  have b6 : (p.num * (q.den : Int) * ((s.den : Int) - s.num) + q.num * (p.den : Int) * s.num).natAbs < 2 ^ 2102 := natAbs_add_lt b4 b5
  exact mk_rb (Nat.mul_pos (Nat.mul_pos p.den_pos q.den_pos) s.den_pos) (small' b6 (by decide)) (small' (nat_mul_lt (nat_mul_lt hp.2 hq.2) hs.2) (by decide))
theorem CdOk.mixed_rb {g : Bool} {d : Nat} {c : Cd} (o : CdOk g d c) : ∀ q ∈ c.mixed, Rb 2200 q := fun q hq => by
  obtain ⟨x, y, h1, h2, rfl⟩ := zipW_mem hq
  exact betw_rb o.hs.rb (o.hb x h1).rb (o.hf y h2).rb
theorem CdOk.mixed_len {g : Bool} {d : Nat} {c : Cd} (o : CdOk g d c) : c.mixed.length = d := by
  simp [Cd.mixed, o.lb, o.lf]
theorem sub_rb {p q : Rat} (hp : Rb 700 p) (hq : Rb 700 q) : Rb 1500 (q - p) := by
  have nn := fun (z : Rat) (hz : Rb 700 z) => (by rw [Int.natAbs_natCast]; exact hz.2 : ((z.den : Nat) : Int).natAbs < 2 ^ 700)
  have e : q - p = mkRat (q.num * p.den - p.num * q.den) (q.den * p.den) := by
    have e1 := nd p
    have e2 := nd q
    have h1 := den_ne p
    have h2 := den_ne q
    rw [mk_div]
    simp only [Rat.intCast_mul, Rat.intCast_sub, Int.natCast_mul]
    grind
  rw [e]
  exact mk_rb (Nat.mul_pos q.den_pos p.den_pos) (small' (natAbs_sub_lt (natAbs_mul_lt hq.1 (nn p hp)) (natAbs_mul_lt hp.1 (nn q hq))) (by decide)) (small' (nat_mul_lt hq.2 hp.2) (by decide))
theorem add_rb {p q : Rat} {a b k : Nat} (hp : Rb a p) (hq : Rb b q) (l : a + b + 1 ≤ k) : Rb k (p + q) := by
  have nn := fun (z : Rat) (j : Nat) (hz : Rb j z) => (by rw [Int.natAbs_natCast]; exact hz.2 : ((z.den : Nat) : Int).natAbs < 2 ^ j)
  have e : p + q = mkRat (p.num * q.den + q.num * p.den) (p.den * q.den) := by
    have e1 := nd p
    have e2 := nd q
    have h1 := den_ne p
    have h2 := den_ne q
    rw [mk_div]
    simp only [Rat.intCast_mul, Rat.intCast_add, Int.natCast_mul]
    grind
  rw [e]
  have b1 : (p.num * (q.den : Int)).natAbs < 2 ^ (a + b) := natAbs_mul_lt hp.1 (nn q b hq)
  have b2 : (q.num * (p.den : Int)).natAbs < 2 ^ (a + b) := by
    rw [Nat.add_comm a b]; exact natAbs_mul_lt hq.1 (nn p a hp)
  exact mk_rb (Nat.mul_pos p.den_pos q.den_pos) (small' (natAbs_add_lt b1 b2) l) (small' (nat_mul_lt hp.2 hq.2) (by omega))
theorem neg_rb {p : Rat} {a : Nat} (hp : Rb a p) : Rb a (-p) := ⟨by show (-p.num).natAbs < _; rw [Int.natAbs_neg]; exact hp.1, by show p.den < _; exact hp.2⟩
theorem sub_rb' {p q : Rat} {a b k : Nat} (hp : Rb a p) (hq : Rb b q) (l : a + b + 1 ≤ k) : Rb k (p - q) := by
  rw [Rat.sub_eq_add_neg]; exact add_rb hp (neg_rb hq) l
theorem mul_rb {p q : Rat} {a b k : Nat} (hp : Rb a p) (hq : Rb b q) (l : a + b ≤ k) : Rb k (p * q) := by
  have e : p * q = mkRat (p.num * q.num) (p.den * q.den) := by
    have e1 := nd p
    have e2 := nd q
    have h1 := den_ne p
    have h2 := den_ne q
    rw [mk_div]
    simp only [Rat.intCast_mul, Int.natCast_mul]
    grind
  rw [e]
  exact mk_rb (Nat.mul_pos p.den_pos q.den_pos) (small' (natAbs_mul_lt hp.1 hq.1) l) (small' (nat_mul_lt hp.2 hq.2) l)
theorem bet_ok {s p q : Rat} (hs : Rb 1000 s) (hp : Rb 1000 p) (hq : Rb 1000 q) : BetOk s p q :=
  ⟨hp.ok (by decide), hq.ok (by decide), (sub_rb' (k := 2100) hq hp (by decide)).ok (by decide), (mul_rb (k := 4000) hs (sub_rb' (k := 2100) hq hp (by decide)) (by decide)).ok (by decide)⟩
theorem zip_mem2 {α β : Type} {ps : List α} {qs : List β} {pq : α × β} (h : pq ∈ List.zipWith (fun x y => (x, y)) ps qs) : pq.1 ∈ ps ∧ pq.2 ∈ qs := by
  obtain ⟨x, y, h1, h2, rfl⟩ := zipW_mem h
  exact ⟨h1, h2⟩
theorem dens : ∀ qs : List Rat, (∀ q ∈ qs, Rb 700 q) → ∃ D : Nat, 0 < D ∧ D < 2 ^ (700 * qs.length + 1) ∧ ∀ q ∈ qs, q.den ∣ D
  | [], _ => ⟨1, by decide, by decide, fun q h => by cases h⟩
  | q :: qs, h => by
    obtain ⟨D, h1, h2, h3⟩ := dens qs fun z hz => h z (List.mem_cons_of_mem _ hz)
    have hq := h q List.mem_cons_self
    refine ⟨q.den * D, Nat.mul_pos q.den_pos h1, small' (nat_mul_lt hq.2 h2) (by rw [List.length_cons]; omega), fun z hz => ?_⟩
    rcases List.mem_cons.mp hz with w | w
    · rw [w]; exact Nat.dvd_mul_right _ _
    · exact Nat.dvd_trans (h3 z w) (Nat.dvd_mul_left _ _)
theorem dens2 {g : Bool} {qs : List Rat} (h : ∀ q ∈ qs, Cl g q) (hl : g = true → qs.length ≤ 4) : ∃ D : Nat, 0 < D ∧ D < 2 ^ 2801 ∧ ∀ q ∈ qs, q.den ∣ D := by
  cases g with
  | false => exact ⟨60, by decide, small' (n := 6) (by decide) (by decide), fun q hq => ((h q hq).lil rfl).1⟩
  | true =>
    obtain ⟨D, h1, h2, h3⟩ := dens qs fun q hq => (h q hq).rb
    have := hl rfl
    exact ⟨D, h1, small' h2 (by omega), h3⟩
theorem CdOk.den {g : Bool} {d : Nat} {c : Cd} (o : CdOk g d c) {k : Nat} (hk : k < d) : ∃ D : Nat, 0 < D ∧ D < 2 ^ 2801 ∧ ∀ s ∈ c.ss, (s.getD k 0).den ∣ D := by
  obtain ⟨D, h1, h2, h3⟩ := dens2 (g := g) (qs := c.ss.map fun s => s.getD k 0) (fun q hq => by
    obtain ⟨s, hs, rfl⟩ := List.mem_map.mp hq
    obtain ⟨l, cl⟩ := o.hss s hs
    exact cl _ (List.mem_of_getElem? (getD_at (by rw [l]; exact hk)))) (fun e => by rw [List.length_map]; exact o.ssg e)
  exact ⟨D, h1, h2, fun s hs => h3 _ (List.mem_map.mpr ⟨s, hs, rfl⟩)⟩
theorem ov_den {q : Rat} {D : Nat} (h0 : 0 < D) (h1 : D < 2 ^ 2801) (hd : q.den ∣ D) (hq : Rb 700 q) : Ov D 3501 q := by
  obtain ⟨e, he⟩ := hd
  have el : e ≤ D := by rw [he]; exact Nat.le_mul_of_pos_left _ q.den_pos
  exact Ov.of he h0 hq.1 (Nat.lt_of_le_of_lt el h1)
theorem CdOk.count {g : Bool} {d : Nat} {c : Cd} (o : CdOk g d c) : ∀ n ∈ c.cs, n.natAbs < 2 ^ 140 := fun n hn => by
  have e : ((10 : Int) ^ 40).natAbs < 2 ^ 140 := by decide +kernel
  have := o.hcs n hn
  omega
theorem terms_ov {D k : Nat} (h0 : 0 < D) (h1 : D < 2 ^ 2801) : ∀ {ss : List (List Rat)} {cs : List Int}, (∀ s ∈ ss, Rb 700 (s.getD k 0) ∧ (s.getD k 0).den ∣ D) → (∀ n ∈ cs, n.natAbs < 2 ^ 140) → ∀ t ∈ terms k ss cs, Ov D 3641 t
  | [], cs, _, _, t, h => by cases cs <;> cases h
  | s :: ss, [], _, _, t, h => by cases h
  | s :: ss, n :: cs, hs, hn, t, h => by
    rcases List.mem_cons.mp h with w | w
    · obtain ⟨a, b⟩ := hs s List.mem_cons_self
      rw [w]
      exact (Ov.mul (ov_den h0 h1 b a) (hn n List.mem_cons_self) h0).up (by decide)
    · exact terms_ov h0 h1 (fun z hz => hs z (List.mem_cons_of_mem _ hz)) (fun z hz => hn z (List.mem_cons_of_mem _ hz)) t w
theorem terms_len {k : Nat} : ∀ {ss : List (List Rat)} {cs : List Int}, (terms k ss cs).length ≤ ss.length
  | [], cs => by cases cs <;> exact Nat.le_refl 0
  | s :: ss, [] => Nat.zero_le _
  | s :: ss, n :: cs => Nat.succ_le_succ terms_len
theorem CdOk.trm {g : Bool} {d : Nat} {c : Cd} (o : CdOk g d c) {k : Nat} (hk : k < d) : ∃ D : Nat, 0 < D ∧ D < 2 ^ 2801 ∧ ∀ t ∈ terms k c.ss c.cs, Ov D 3641 t := by
  obtain ⟨D, h1, h2, h3⟩ := o.den hk
  exact ⟨D, h1, h2, terms_ov h1 h2 (fun s hs => by
    obtain ⟨l, cl⟩ := o.hss s hs
    exact ⟨(cl _ (List.mem_of_getElem? (getD_at (by rw [l]; exact hk)))).rb, h3 s hs⟩) o.count⟩
theorem CdOk.run {g : Bool} {d : Nat} {c : Cd} (o : CdOk g d c) : ∀ k, k < d → RunOk 0 (terms k c.ss c.cs) := fun k hk => by
  obtain ⟨D, h1, h2, h3⟩ := o.trm hk
  have l := terms_len (k := k) (ss := c.ss) (cs := c.cs)
  have := o.ssl
  exact run_ok (k := 3641) (j := 0) h1 (small' h2 (by decide)) Ov.zero h3 (by omega)
theorem sum_cases : ∀ {cs : List Int} {b : Nat}, (∀ n ∈ cs, 1 ≤ n ∧ n ≤ b) → ∃ M : Nat, cs.sum = (M : Int) ∧ cs.length ≤ M ∧ M ≤ cs.length * b
  | [], b, _ => ⟨0, rfl, Nat.le_refl 0, Nat.zero_le _⟩
  | n :: cs, b, h => by
    obtain ⟨M, h1, h2, h3⟩ := sum_cases fun z hz => h z (List.mem_cons_of_mem _ hz)
    obtain ⟨a1, a2⟩ := h n List.mem_cons_self
    refine ⟨n.toNat + M, ?_, ?_, ?_⟩
    · rw [List.sum_cons, h1, Int.natCast_add, Int.toNat_of_nonneg (by omega)]
    · rw [List.length_cons]; omega
    · rw [List.length_cons, Nat.add_mul]; omega
theorem CdOk.total {g : Bool} {d : Nat} {c : Cd} (o : CdOk g d c) : ∃ M : Nat, c.cs.sum = (M : Int) ∧ 0 < M ∧ M < 2 ^ 200 := by
  obtain ⟨M, h1, h2, h3⟩ := sum_cases (cs := c.cs) (b := 10 ^ 40) fun n hn => by
    obtain ⟨a, b⟩ := o.hcs n hn
    exact ⟨a, by rw [Int.natCast_pow]; exact b⟩
  have e : 80 * 10 ^ 40 < 2 ^ 200 := by decide +kernel
  have sl := o.ssl
  have s0 : 0 < c.ss.length := List.length_pos_iff.mpr o.ssn
  have l := o.csl
  exact ⟨M, h1, by omega, Nat.lt_of_le_of_lt (Nat.le_trans h3 (Nat.mul_le_mul_right _ (by omega))) e⟩
theorem CdOk.mean_rb {g : Bool} {d : Nat} {c : Cd} (o : CdOk g d c) : ∀ q ∈ c.mean d, Rb 4000 q := fun q hq => by
  obtain ⟨k, hk, rfl⟩ := List.mem_map.mp hq
  obtain ⟨D, h1, h2, h3⟩ := o.trm (List.mem_range.mp hk)
  have l := terms_len (k := k) (ss := c.ss) (cs := c.cs)
  have sl := o.ssl
  have so := sum_ov (k := 3641) (j := 0) h1 (a := 0) Ov.zero h3
  rw [Rat.zero_add] at so
  obtain ⟨A, e, b⟩ := so.up (k' := 3750) (by omega)
  obtain ⟨M, m1, m2, m3⟩ := o.total
  have eq : (terms k c.ss c.cs).sum * ((c.cs.sum : Int) : Rat)⁻¹ = mkRat A (D * M) := by
    have z1 := nat_ne h1
    have z2 := nat_ne m2
    rw [e, m1, mk_div, mk_div, Int.natCast_mul, Rat.intCast_mul]
    grind
  show Rb 4000 ((terms k c.ss c.cs).sum * ((c.cs.sum : Int) : Rat)⁻¹)
  rw [eq]
  exact mk_rb (Nat.mul_pos h1 m2) (small' b (by decide)) (small' (nat_mul_lt h2 m3) (by decide))
end K15

set_option linter.all false
set_option maxRecDepth 100000
set_option maxHeartbeats 1000000
set_option exponentiation.threshold 700
namespace K15
open Mp
/-! ### the nine calls -/
theorem dens3 {k : Nat} : ∀ qs : List Rat, (∀ q ∈ qs, Rb k q) → ∃ D : Nat, 0 < D ∧ D < 2 ^ (k * qs.length + 1) ∧ ∀ q ∈ qs, ∃ e, D = q.den * e ∧ e < 2 ^ (k * (qs.length - 1) + 1)
  | [], _ => ⟨1, by decide, by simp, fun q h => by cases h⟩
  | q :: qs, h => by
    obtain ⟨D, h1, h2, h3⟩ := dens3 qs fun z hz => h z (List.mem_cons_of_mem _ hz)
    have hq := h q List.mem_cons_self
    have e1 : k * (q :: qs).length + 1 = k + (k * qs.length + 1) := by rw [List.length_cons, Nat.mul_succ]; omega
    refine ⟨q.den * D, Nat.mul_pos q.den_pos h1, by rw [e1]; exact nat_mul_lt hq.2 h2, fun z hz => ?_⟩
    rcases List.mem_cons.mp hz with w | w
    · exact ⟨D, by rw [w], h2⟩
    · obtain ⟨e, a, b⟩ := h3 z w
      refine ⟨q.den * e, by rw [a]; exact Nat.mul_left_comm _ _ _, ?_⟩
      have lp : 0 < qs.length := List.length_pos_of_mem w
      have e2 : k * ((q :: qs).length - 1) + 1 = k + (k * (qs.length - 1) + 1) := by
        obtain ⟨j, hj⟩ : ∃ j, qs.length = j + 1 := ⟨qs.length - 1, by omega⟩
        rw [List.length_cons, hj, Nat.add_sub_cancel, Nat.add_sub_cancel, Nat.mul_succ]; omega
      rw [e2]; exact nat_mul_lt hq.2 b
theorem prods_ov {D : Nat} (h0 : 0 < D) : ∀ {is : List Int} {qs : List Rat}, (∀ q ∈ qs, Rb 2200 q ∧ ∃ e, D = q.den * e ∧ e < 2 ^ 4401) → (∀ i ∈ is, i.natAbs < 2 ^ 100) → ∀ t ∈ prods is qs, Ov D 6710 t
  | [], qs, _, _, t, h => by cases qs <;> cases h
  | i :: is, [], _, _, t, h => by cases h
  | i :: is, q :: qs, hq, hi, t, h => by
    rcases List.mem_cons.mp h with w | w
    · obtain ⟨a, e, he, el⟩ := hq q List.mem_cons_self
      rw [w]
      exact (Ov.mul (Ov.of he h0 a.1 el) (hi i List.mem_cons_self) h0).up (by decide)
    · exact prods_ov h0 (fun z hz => hq z (List.mem_cons_of_mem _ hz)) (fun z hz => hi z (List.mem_cons_of_mem _ hz)) t w
theorem prods_len : ∀ {is : List Int} {qs : List Rat}, (prods is qs).length ≤ is.length
  | [], qs => by cases qs <;> exact Nat.le_refl 0
  | i :: is, [] => Nat.zero_le _
  | i :: is, q :: qs => Nat.succ_le_succ prods_len
theorem CdOk.form_int {g : Bool} {d : Nat} {c : Cd} (o : CdOk g d c) : ∀ f ∈ c.fs, f.length = d + 1 ∧ ∀ i ∈ f, i.natAbs < 2 ^ 100 := fun f hf => by
  obtain ⟨l, b⟩ := o.hfs f hf
  have e : ((10 : Int) ^ 30).natAbs < 2 ^ 100 := by decide +kernel
  exact ⟨l, fun i hi => abs_le (b i hi) e⟩
theorem CdOk.form_ok {g : Bool} {d : Nat} {c : Cd} (o : CdOk g d c) : ∀ f ∈ c.fs, f.length = d + 1 ∧ ∀ i ∈ f, Iok i := fun f hf => by
  obtain ⟨l, b⟩ := o.form_int f hf
  exact ⟨l, fun i hi => small' (b i hi) (by decide)⟩
theorem CdOk.num_ok {g : Bool} {d : Nat} {c : Cd} (o : CdOk g d c) : ∀ i ∈ c.ns, Iok i := fun i hi => by
  have e : ((10 : Int) ^ 20).natAbs < 2 ^ 8000 := small' (n := 100) (by decide +kernel) (by decide)
  exact abs_le (o.hns i hi) e
theorem CdOk.run_value {g : Bool} {d : Nat} {c : Cd} (o : CdOk g d c) {i0 : Int} {is : List Int} (h : i0 :: is ∈ c.fs) : RunOk (i0 : Rat) (prods is c.mixed) := by
  obtain ⟨l, b⟩ := o.form_int _ h
  obtain ⟨D, h1, h2, h3⟩ := dens3 (k := 2200) c.mixed o.mixed_rb
  have ml := o.mixed_len
  have d3 := o.d3
  have Dl : D < 2 ^ 6601 := small' h2 (by omega)
  have pl := prods_len (is := is) (qs := c.mixed)
  rw [List.length_cons] at l
  refine run_ok (k := 6710) (j := 0) h1 (small' Dl (by decide)) ((Ov.int h1 (b i0 List.mem_cons_self) Dl).up (by decide)) (prods_ov h1 (fun q hq => ⟨o.mixed_rb q hq, ?_⟩) fun i hi => b i (List.mem_cons_of_mem _ hi)) (by omega)
  obtain ⟨e, a, el⟩ := h3 q hq
  exact ⟨e, a, small' el (by omega)⟩
theorem CdOk.firsts_cl {g : Bool} {d : Nat} {c : Cd} (o : CdOk g d c) : ∀ q ∈ c.firsts, Cl g q := fun q hq => by
  obtain ⟨s, hs, rfl⟩ := List.mem_map.mp hq
  obtain ⟨l, cl⟩ := o.hss s hs
  have := o.d1
  exact cl _ (List.mem_of_getElem? (getD_at (by omega)))
theorem CdOk.firsts_len {g : Bool} {d : Nat} {c : Cd} (o : CdOk g d c) : c.firsts.length = c.ss.length := List.length_map ..
theorem CdOk.firsts_ov {g : Bool} {d : Nat} {c : Cd} (o : CdOk g d c) : ∃ D : Nat, 0 < D ∧ D < 2 ^ 2801 ∧ ∀ q ∈ c.firsts, q.den ∣ D ∧ Ov D 3501 q := by
  obtain ⟨D, h1, h2, h3⟩ := dens2 o.firsts_cl fun e => by rw [o.firsts_len]; exact o.ssg e
  exact ⟨D, h1, h2, fun q hq => ⟨h3 q hq, ov_den h1 h2 (h3 q hq) (o.firsts_cl q hq).rb⟩⟩
theorem CdOk.run_firsts {g : Bool} {d : Nat} {c : Cd} (o : CdOk g d c) : RunOk 0 c.firsts := by
  obtain ⟨D, h1, h2, h3⟩ := o.firsts_ov
  have l := o.firsts_len
  have := o.ssl
  exact run_ok (k := 3501) (j := 0) h1 (small' h2 (by decide)) Ov.zero (fun q hq => (h3 q hq).2) (by omega)
theorem CdOk.sums_rb {g : Bool} {d : Nat} {c : Cd} (o : CdOk g d c) : Rb 3600 c.firsts.sum := by
  obtain ⟨D, h1, h2, h3⟩ := o.firsts_ov
  have l := o.firsts_len
  have sl := o.ssl
  have so := sum_ov (k := 3501) (j := 0) h1 (a := 0) Ov.zero fun q hq => (h3 q hq).2
  rw [Rat.zero_add] at so
  exact (so.up (k' := 3600) (by omega)).rb h1 (small' h2 (by decide))
theorem CdOk.b0 {g : Bool} {d : Nat} {c : Cd} (o : CdOk g d c) : Cl g (c.b.getD 0 0) := o.hb _ (List.mem_of_getElem? (getD_at (by rw [o.lb]; exact o.d1)))
theorem CdOk.f0 {g : Bool} {d : Nat} {c : Cd} (o : CdOk g d c) : Cl g (c.f.getD 0 0) := o.hf _ (List.mem_of_getElem? (getD_at (by rw [o.lf]; exact o.d1)))
theorem CdOk.added_rb {g : Bool} {d : Nat} {c : Cd} (o : CdOk g d c) : Rb 1401 c.added := add_rb o.b0.rb o.hs.rb (by decide)
/-- the nine calls, their arguments put as the law puts them -/
theorem CdOk.call0 {g : Bool} {d : Nat} {c : Cd} (o : CdOk g d c) {n : Nat} (hn : 6 ≤ n) (h : Hea) : callN T n i_between [.p (spt c.b), .p (spt c.f), .p (rt c.s)] h = .ok (.p (spt c.mixed)) h := by
  have d1 := o.d1
  have d3 := o.d3
  have e := between hn (ps := c.b) (qs := c.f) (s := c.s) (by rw [o.lb]; exact d1) (by rw [o.lb]; exact d3) (by rw [o.lb, o.lf]) (fun p hp => (o.hb p hp).rb.ok (by decide)) (fun p hp => (o.hf p hp).rb.ok (by decide)) (o.hs.rb.ok (by decide)) (fun pq hpq => bet_ok (o.hs.rb.up (by decide)) ((o.hb _ (zip_mem2 hpq).1).rb.up (by decide)) ((o.hf _ (zip_mem2 hpq).2).rb.up (by decide))) h
  exact e
theorem CdOk.call1 {g : Bool} {d : Nat} {c : Cd} (o : CdOk g d c) {n : Nat} (hn : 7 ≤ n) {x y : P} (sx : IsSeq x (c.fs.map frm)) (sy : IsSeq y (c.ns.map P.int)) (h : Hea) : callN T n i_combine [.p x, .p y] h = .ok (.p (frm (comb (List.replicate (d + 1) 0) c.fs c.ns))) h := by
  have d1 := o.d1
  have d3 := o.d3
  have fl := o.fsl
  exact combine hn sx sy o.fsn (by omega) (by omega) (by omega) o.nsl o.form_ok o.num_ok h
theorem CdOk.call2 {g : Bool} {d : Nat} {c : Cd} (o : CdOk g d c) {n : Nat} (hn : 7 ≤ n) {x y : P} (sx : IsSeq x (c.ss.map spt)) (sy : IsSeq y (c.cs.map P.int)) (h : Hea) : callN T n i_mean_spot [.p x, .p y] h = .ok (.p (spt (c.mean d))) h := by
  have fl := o.ssl
  obtain ⟨M, m1, m2, m3⟩ := o.total
  exact mean_spot hn sx sy o.ssn (by omega) o.d1 o.d3 o.csl (fun s hs => ⟨(o.hss s hs).1, fun q hq => ((o.hss s hs).2 q hq).rb.ok (by decide)⟩) (fun n hn => ⟨(o.hcs n hn).1, small' (o.count n hn) (by decide)⟩) (by rw [m1]; show ((M : Nat) : Int).natAbs < _; rw [Int.natAbs_natCast]; exact small' m3 (by decide)) o.run h
theorem CdOk.mean_len {d : Nat} {c : Cd} : (c.mean d).length = d := by simp [Cd.mean]
theorem CdOk.call3 {g : Bool} {d : Nat} {c : Cd} (o : CdOk g d c) {n : Nat} (hn : 6 ≤ n) (h : Hea) : callN T n i_compare_spots [.p (spt (c.mean d)), .p (spt c.mixed)] h = .ok (.p (.int (ordL (c.mean d) c.mixed))) h :=
  compare_spots hn (by rw [CdOk.mean_len]; exact o.d1) (by rw [CdOk.mean_len]; exact o.d3) (by rw [CdOk.mean_len, o.mixed_len]) (fun p hp => (o.mean_rb p hp).ok (by decide)) (fun p hp => (o.mixed_rb p hp).ok (by decide)) h
theorem CdOk.call4 {g : Bool} {d : Nat} {c : Cd} (o : CdOk g d c) {i0 : Int} {is : List Int} (hf : i0 :: is ∈ c.fs) {n : Nat} (hn : 4 ≤ n) (h : Hea) : callN T n i_value [.p (frm (i0 :: is)), .p (spt c.mixed)] h = .ok (.p (rt ((i0 : Rat) + (prods is c.mixed).sum))) h := by
  obtain ⟨l, b⟩ := o.form_ok _ hf
  have d1 := o.d1
  have d3 := o.d3
  rw [List.length_cons] at l
  exact value hn (by omega) (by omega) (by rw [o.mixed_len]; omega) (b i0 List.mem_cons_self) (fun i hi => b i (List.mem_cons_of_mem _ hi)) (fun q hq => (o.mixed_rb q hq).ok (by decide)) (o.run_value hf) h
theorem CdOk.call5 {g : Bool} {d : Nat} {c : Cd} (o : CdOk g d c) {n : Nat} (hn : 5 ≤ n) {x : P} (sx : IsSeq x (c.firsts.map rt)) (h : Hea) : callN T n i_total [.p x] h = .ok (.p (rt c.firsts.sum)) h := by
  have sl := o.ssl
  have l := o.firsts_len
  exact K15.total hn sx (by omega) (fun q hq => (o.firsts_cl q hq).rb.ok (by decide)) o.run_firsts h
theorem CdOk.call6 {g : Bool} {d : Nat} {c : Cd} (o : CdOk g d c) {n : Nat} (hn : 4 ≤ n) (h : Hea) : callN T n i_plus [.p (rt (c.b.getD 0 0)), .p (rt c.s)] h = .ok (.p (rt c.added)) h := plus hn (o.b0.rb.ok (by decide)) (o.hs.rb.ok (by decide)) h
theorem CdOk.call7 {g : Bool} {d : Nat} {c : Cd} (o : CdOk g d c) {n : Nat} (hn : 4 ≤ n) (h : Hea) : callN T n i_minus [.p (rt (c.f.getD 0 0)), .p (rt c.added)] h = .ok (.p (rt (c.f.getD 0 0 - c.added))) h := minus hn (o.f0.rb.ok (by decide)) (o.added_rb.ok (by decide)) h
theorem CdOk.call8 {g : Bool} {d : Nat} {c : Cd} (o : CdOk g d c) {n : Nat} (hn : 4 ≤ n) (h : Hea) : callN T n i_times [.p (rt c.s), .p (rt c.firsts.sum)] h = .ok (.p (rt (c.s * c.firsts.sum))) h := times hn (o.hs.rb.ok (by decide)) (o.sums_rb.ok (by decide)) h
end K15

set_option linter.all false
set_option maxRecDepth 100000
set_option maxHeartbeats 1000000
set_option exponentiation.threshold 700
namespace K15
open Mp
/-! ### _law_cases: its parts -/
theorem pow6 {h : Hea} : bin2 .pow (.p (.int 10)) (.p (.int 6)) h = .ok (.p (.int (10 ^ 6))) h := pow10 (k := 6) (by decide)
theorem pow20 {h : Hea} : bin2 .pow (.p (.int 10)) (.p (.int 20)) h = .ok (.p (.int (10 ^ 20))) h := pow10 (k := 20) (by decide)
theorem pow30 {h : Hea} : bin2 .pow (.p (.int 10)) (.p (.int 30)) h = .ok (.p (.int (10 ^ 30))) h := pow10 (k := 30) (by decide)
theorem pow40 {h : Hea} : bin2 .pow (.p (.int 10)) (.p (.int 40)) h = .ok (.p (.int (10 ^ 40))) h := pow10 (k := 40) (by decide)
theorem mk_p6 {a b c d e f : P} {h : Hea} : mk false [.p a, .p b, .p c, .p d, .p e, .p f] h = .ok (.p (.lst [a, b, c, d, e, f])) h := rfl
/-- one count -/
theorem ev_count {m bs : Nat} (hm : 3 ≤ m) {L s N : Nat} {h : Hea} (S : St L s N h) (l : N + 2 ≤ 2 ^ 36) {r : List (Option D)} : ∃ y h', ev ⟨callN T m, bs⟩ (some (.ref s) :: r) e__law_cases_1 h = .ok (.p y) h' ∧ (∃ v, y = .int v ∧ 1 ≤ v ∧ v ≤ 10 ^ 40) ∧ St L s (N + 2) h' ∧ Fr L h h' := by
  obtain ⟨x, h1, e1, ⟨v, rfl, v1, v2, v3⟩, S1, F1⟩ := rn_take (n := m) (s := s) (by omega) (10 ^ 6) (small' (n := 30) (by decide) (by decide)) L N h S (by omega)
  obtain ⟨y, h2, e2, p2, S2, F2⟩ := rn_pick (n := m) (s := s) (by omega) (xs := [.int 1, .int 1, .int 2, .int 3, .int 50, .int (1 + v)]) (by simp) (by simp) L (N + 1) h1 S1 (by omega)
  refine ⟨y, h2, by simp [-Int.reducePow, e__law_cases_1, exs_cons, ex_set, ex_par, ex_unp, ex_seti, ex_expr, ex_ret, ex_if, ex_while, ex_for, ex_raise, ex_try, ex_frz, ev_bin, ev_neg, ev_cmp, ev_and, ev_or, ev_not, ev_ite, ev_tup, ev_lst, ev_idx, ev_slc00, ev_slc10, ev_slc01, ev_call, ev_callv, ev_comp, ev_blt, ev_meth, evs_cons, evI_seq, evI_rng, evI_zip, evT_and, evT_or, evT_not, evT_cmp, evT_call, evT_blt, evT_var, evT_idx, pow6, e1, mk_p6, e2], ?_, S2, F1.trans F2⟩
  have vv := v2 (by decide)
  simp only [List.mem_cons, List.not_mem_nil, or_false] at p2
  have big : (50 : Int) ≤ 10 ^ 40 ∧ (10 : Int) ^ 6 + 1 ≤ 10 ^ 40 := by decide +kernel
  rcases p2 with rfl | rfl | rfl | rfl | rfl | rfl
  · exact ⟨1, rfl, by omega, by omega⟩
  · exact ⟨1, rfl, by omega, by omega⟩
  · exact ⟨2, rfl, by omega, by omega⟩
  · exact ⟨3, rfl, by omega, by omega⟩
  · exact ⟨50, rfl, by omega, by omega⟩
  · exact ⟨1 + v, rfl, by omega, by omega⟩
theorem seti_end {bs : Nat} {ρ : Slots} {x : P} {h : Hea} {ys : List P} (l : 0 < ys.length) : seti1 bs ρ (.p x) (.ref h.length) (.p (.int (-1))) (h ++ [some (ys.map D.p)]) = .next ρ (h ++ [some ((ys.set (ys.length - 1) x).map D.p)]) := by
  have e := seti_last (bs := bs) (ρ := ρ) (x := x) (h := h) (i := ys.length - 1) (ds := ys.map D.p) (by rw [List.length_map]; omega)
  have q : place (ys.map D.p).length (-1) = place (ys.map D.p).length ((ys.length - 1 : Nat) : Int) := by
    unfold place
    rw [List.length_map, if_neg (by decide), if_pos (by omega), if_pos (by omega), if_pos (by omega)]
    congr 1
    omega
  have r : seti1 bs ρ (.p x) (.ref h.length) (.p (.int (-1))) (h ++ [some (ys.map D.p)]) = seti1 bs ρ (.p x) (.ref h.length) (.p (.int ((ys.length - 1 : Nat) : Int))) (h ++ [some (ys.map D.p)]) := by
    rw [List.length_map] at q
    unfold seti1
    simp [q]
  rw [r, e, List.map_set]
theorem set_cnt {cs : List Int} {v : Int} {i : Nat} (h : ∀ n ∈ cs, 1 ≤ n ∧ n ≤ 10 ^ 40) (hv : 1 ≤ v ∧ v ≤ 10 ^ 40) : ∀ n ∈ cs.set i v, 1 ≤ n ∧ n ≤ 10 ^ 40 := fun n hn => by
  rcases mem_set_or hn with w | w
  · exact h n w
  · rw [w]; exact hv
theorem forms_of {ys : List P} {len : Nat} {high : Int} (h : ∀ y ∈ ys, FormP len high y) : ∃ fs : List (List Int), ys = fs.map frm ∧ fs.length = ys.length ∧ ∀ f ∈ fs, f.length = len ∧ ∀ i ∈ f, -high ≤ i ∧ i ≤ high := by
  induction ys with
  | nil => exact ⟨[], rfl, rfl, by simp⟩
  | cons y ys ih =>
    obtain ⟨fs, rfl, hl, hq⟩ := ih fun z hz => h z (List.mem_cons_of_mem _ hz)
    obtain ⟨is, rfl, a, b⟩ := h y List.mem_cons_self
    refine ⟨is :: fs, rfl, by simp, fun f hf => ?_⟩
    rcases List.mem_cons.mp hf with w | w
    · rw [w]; exact ⟨a, b⟩
    · exact hq f w
end K15

set_option linter.all false
set_option maxRecDepth 100000
set_option maxHeartbeats 1000000
set_option exponentiation.threshold 700
namespace K15
open Mp
/-! ### the dues -/
theorem terms_ones : ∀ qs : List Rat, (terms 0 (qs.map fun q => [q]) (List.replicate qs.length 1)).sum = qs.sum
  | [] => rfl
  | q :: qs => by
    show (((1 : Int) : Rat) * q :: terms 0 (qs.map fun q => [q]) (List.replicate qs.length 1)).sum = (q :: qs).sum
    rw [List.sum_cons, List.sum_cons, terms_ones qs]
    congr 1
    exact Rat.one_mul q
theorem sum_ones : ∀ n : Nat, (List.replicate n (1 : Int)).sum = (n : Int)
  | 0 => rfl
  | n + 1 => by rw [List.replicate_succ, List.sum_cons, sum_ones n]; omega
theorem inv_rb {n : Nat} (h : 0 < n) (l : n ≤ 100) : Rb 10 (((n : Int) : Rat)⁻¹) := by
  have e : ((n : Int) : Rat)⁻¹ = mkRat 1 n := by
    rw [mk_div]
    have := nat_ne h
    have z1 : (((1 : Int) : Rat)) = 1 := rfl
    rw [z1]
    grind
  rw [e]
  exact mk_rb h (by decide) (Nat.lt_of_le_of_lt l (by decide))
theorem CdOk.due_mean {g : Bool} {d : Nat} {c : Cd} (o : CdOk g d c) {n : Nat} (hn : 2 ≤ n) (h : Hea) : callN T n i__law_mean [.p (.int (d : Nat)), .p (.lst (c.ss.map spt)), .p (.lst (c.cs.map P.int))] h = .ok (.p (spt (c.mean d))) h := by
  have sl := o.ssl
  obtain ⟨M, m1, m2, m3⟩ := o.total
  refine law_mean hn o.d3 o.csl (by omega) (fun s hs => ⟨(o.hss s hs).1, fun q hq => ((o.hss s hs).2 q hq).rb.up (by decide)⟩) (fun n hn => small' (o.count n hn) (by decide)) M m1 m2 (small' m3 (by decide)) (fun k hk => ?_) h
  obtain ⟨D, h1, h2, h3⟩ := o.den hk
  exact ⟨D, small' h2 (by decide), h1, h3⟩
theorem CdOk.due_firsts {g : Bool} {d : Nat} {c : Cd} (o : CdOk g d c) {n : Nat} (hn : 2 ≤ n) (h : Hea) : callN T n i__law_mean [.p (.int 1), .p (.lst (c.firsts.map fun q => .tup [rt q])), .p (.lst (c.firsts.map fun _ => .int 1))] h = .ok (.p (.tup [rt (c.firsts.sum * ((c.ss.length : Int) : Rat)⁻¹)])) h := by
  have sl := o.ssl
  have fl := o.firsts_len
  have s0 : 0 < c.ss.length := List.length_pos_iff.mpr o.ssn
  have e := law_mean (n := n) hn (ss := c.firsts.map fun q => [q]) (cs := List.replicate c.firsts.length 1) (d := 1) (by decide) (by simp) (by rw [List.length_map]; omega) (fun s hs => by
    obtain ⟨q, hq, rfl⟩ := List.mem_map.mp hs
    exact ⟨rfl, fun z hz => by rw [List.mem_singleton.mp hz]; exact (o.firsts_cl q hq).rb.up (by decide)⟩) (fun z hz => by rw [List.eq_of_mem_replicate hz]; exact small' (n := 1) (by decide) (by decide)) c.firsts.length (sum_ones _) (by omega) (small' (n := 10) (Nat.lt_of_le_of_lt (by omega : c.firsts.length ≤ 100) (by decide)) (by decide)) (fun k hk => by
    obtain ⟨D, h1, h2, h3⟩ := o.firsts_ov
    refine ⟨D, small' h2 (by decide), h1, fun s hs => ?_⟩
    obtain ⟨q, hq, rfl⟩ := List.mem_map.mp hs
    have : k = 0 := by omega
    subst this
    exact (h3 q hq).1) h
  rw [List.range_one, List.map_cons, List.map_nil, terms_ones, sum_ones, fl] at e
  rw [show (List.map spt (List.map (fun q => [q]) c.firsts)) = c.firsts.map fun q => .tup [rt q] from by rw [List.map_map]; rfl] at e
  rw [show (List.map P.int (List.replicate c.ss.length 1)) = c.firsts.map fun _ => .int 1 from by
    rw [List.map_replicate, ← fl]
    exact (List.eq_replicate_iff.mpr ⟨by simp, by simp⟩).symm] at e
  exact e
theorem CdOk.due_sums {g : Bool} {d : Nat} {c : Cd} (o : CdOk g d c) {n : Nat} (hn : 2 ≤ n) (h : Hea) : callN T n i__law_times [.p (rt (c.firsts.sum * ((c.ss.length : Int) : Rat)⁻¹)), .p (.tup [.int (c.ss.length : Nat), .int 1])] h = .ok (.p (rt c.firsts.sum)) h := by
  have sl := o.ssl
  have s0 : 0 < c.ss.length := List.length_pos_iff.mpr o.ssn
  have e := law_times (n := n) hn (p := c.firsts.sum * ((c.ss.length : Int) : Rat)⁻¹) (q := ((c.ss.length : Int) : Rat)) (mul_rb o.sums_rb (inv_rb s0 (by omega)) (by decide)) ⟨by rw [Rat.num_intCast, Int.natAbs_natCast]; exact small' (n := 10) (Nat.lt_of_le_of_lt (by omega : c.ss.length ≤ 100) (by decide)) (by decide), by rw [Rat.den_intCast]; exact Nat.one_lt_two_pow (by decide)⟩ h
  rw [rt_int] at e
  have q : c.firsts.sum * ((c.ss.length : Int) : Rat)⁻¹ * ((c.ss.length : Int) : Rat) = c.firsts.sum := by
    have := nat_ne s0
    grind
  rw [q] at e
  exact e
theorem CdOk.due_between {g : Bool} {d : Nat} {c : Cd} (o : CdOk g d c) {n : Nat} (hn : 2 ≤ n) (h : Hea) : callN T n i__law_between [.p (spt c.b), .p (spt c.f), .p (rt c.s)] h = .ok (.p (spt c.mixed)) h := by
  have d3 := o.d3
  exact law_between hn (o.hs.rb.up (by decide)) (by rw [o.lb, o.lf]) (by rw [o.lb]; omega) (fun p hp => (o.hb p hp).rb.up (by decide)) (fun p hp => (o.hf p hp).rb.up (by decide)) h
theorem CdOk.due_summed {g : Bool} {d : Nat} {c : Cd} (o : CdOk g d c) {n : Nat} (hn : 1 ≤ n) (h : Hea) : callN T n i__law_summed [.p (.int ((d + 1 : Nat) : Int)), .p (.lst (c.fs.map frm)), .p (.lst (c.ns.map P.int))] h = .ok (.p (frm (comb (List.replicate (d + 1) 0) c.fs c.ns))) h := by
  have d3 := o.d3
  have fl := o.fsl
  exact law_summed hn (by omega) (by omega) o.nsl o.form_ok o.num_ok h
theorem CdOk.due_before {g : Bool} {d : Nat} {c : Cd} (o : CdOk g d c) {n : Nat} (hn : 2 ≤ n) (h : Hea) : callN T n i__law_before [.p (spt (c.mean d)), .p (spt c.mixed)] h = .ok (.p (.int (ordL (c.mean d) c.mixed))) h := by
  have d3 := o.d3
  exact law_before hn (by rw [CdOk.mean_len, o.mixed_len]) (by rw [CdOk.mean_len]; omega) (fun p hp => (o.mean_rb p hp).ok (by decide)) (fun p hp => (o.mixed_rb p hp).ok (by decide)) h
theorem CdOk.due_value {g : Bool} {d : Nat} {c : Cd} (o : CdOk g d c) {i0 : Int} {is : List Int} (hf : i0 :: is ∈ c.fs) {n : Nat} (hn : 2 ≤ n) (h : Hea) : callN T n i__law_value [.p (frm (i0 :: is)), .p (spt c.mixed)] h = .ok (.p (rt ((i0 : Rat) + (prods is c.mixed).sum))) h := by
  obtain ⟨l, b⟩ := o.form_ok _ hf
  have d3 := o.d3
  rw [List.length_cons] at l
  exact law_value hn (by rw [o.mixed_len]; omega) (by omega) (b i0 List.mem_cons_self) (fun i hi => b i (List.mem_cons_of_mem _ hi)) (fun q hq => (o.mixed_rb q hq).up (by decide)) h
theorem CdOk.due_added {g : Bool} {d : Nat} {c : Cd} (o : CdOk g d c) {n : Nat} (hn : 2 ≤ n) (h : Hea) : callN T n i__law_plus [.p (rt (c.b.getD 0 0)), .p (rt c.s)] h = .ok (.p (rt c.added)) h := law_plus hn (o.b0.rb.up (by decide)) (o.hs.rb.up (by decide)) h
theorem CdOk.due_minus {g : Bool} {d : Nat} {c : Cd} (o : CdOk g d c) {n : Nat} (hn : 2 ≤ n) (h : Hea) : callN T n i__law_minus [.p (rt (c.f.getD 0 0)), .p (rt c.added)] h = .ok (.p (rt (c.f.getD 0 0 - c.added))) h := law_minus hn (o.f0.rb.up (by decide)) (o.added_rb.up (by decide)) h
theorem CdOk.due_times {g : Bool} {d : Nat} {c : Cd} (o : CdOk g d c) {n : Nat} (hn : 2 ≤ n) (h : Hea) : callN T n i__law_times [.p (rt c.s), .p (rt c.firsts.sum)] h = .ok (.p (rt (c.s * c.firsts.sum))) h := law_times hn (o.hs.rb.up (by decide)) (o.sums_rb.up (by decide)) h
end K15

set_option linter.all false
set_option maxRecDepth 100000
set_option maxHeartbeats 2000000
set_option exponentiation.threshold 700
namespace K15
open Mp
/-! ### _law_cases -/
def Cd.f0v (c : Cd) : List Int := c.fs.headD []
def Cd.val (c : Cd) : Rat := match c.f0v with
  | i0 :: is => (i0 : Rat) + (prods is c.mixed).sum
  | [] => 0
def caseP (k : Nat) (ts : List P) (ks : List (List Nat)) (due : P) : P := .tup [.int (k : Nat), .lst ts, .lst (ks.map P.str), due]
def casesP (d : Nat) (c : Cd) : P := .lst [
  caseP 0 [spt c.b, spt c.f, rt c.s] [sSpot, sSpot, sRatio] (spt c.mixed),
  caseP 1 [.lst (c.fs.map frm), .lst (c.ns.map P.int)] [sForms, sNumbers] (frm (comb (List.replicate (d + 1) 0) c.fs c.ns)),
  caseP 2 [.lst (c.ss.map spt), .lst (c.cs.map P.int)] [sSpots, sCounts] (spt (c.mean d)),
  caseP 3 [spt (c.mean d), spt c.mixed] [sSpot, sSpot] (.int (ordL (c.mean d) c.mixed)),
  caseP 4 [frm c.f0v, spt c.mixed] [sForm, sSpot] (rt c.val),
  caseP 5 [.lst (c.firsts.map rt)] [sRatios] (rt c.firsts.sum),
  caseP 6 [rt (c.b.getD 0 0), rt c.s] [sRatio, sRatio] (rt c.added),
  caseP 7 [rt (c.f.getD 0 0), rt c.added] [sRatio, sRatio] (rt (c.f.getD 0 0 - c.added)),
  caseP 8 [rt c.s, rt c.firsts.sum] [sRatio, sRatio] (rt (c.s * c.firsts.sum))]
theorem ev_form1 {m bs : Nat} (hm : 5 ≤ m) {L s N d : Nat} (d3 : d ≤ 3) {h : Hea} (S : St L s N h) (l : N + 100 ≤ 2 ^ 36) {r : List (Option D)} : ∃ y h', ev ⟨callN T m, bs⟩ (some (.ref s) :: some (.p (.int (d : Nat))) :: r) e__law_cases_2 h = .ok (.p y) h' ∧ FormP (d + 1) (10 ^ 30) y ∧ St L s (N + 100) h' ∧ Fr L h h' := by
  obtain ⟨x, h1, e1, p1, S1, F1⟩ := rn_form (n := m) (s := s) hm (len := d + 1) (by omega) (by omega) (high := 10 ^ 30) (by decide +kernel) (small' (n := 100) (by decide +kernel) (by decide)) L N h S l
  rw [Int.natCast_add] at e1
  refine ⟨x, h1, ?_, p1, S1, F1⟩
  have e1 : callN T m i__law_form [.ref s, .p (.int ((d : Int) + 1)), .p (.int (10 ^ 30))] h = .ok (.p x) h1 := e1
  simp [-Int.reducePow, e__law_cases_2, exs_cons, ex_set, ex_par, ex_unp, ex_seti, ex_expr, ex_ret, ex_if, ex_while, ex_for, ex_raise, ex_try, ex_frz, ev_bin, ev_neg, ev_cmp, ev_and, ev_or, ev_not, ev_ite, ev_tup, ev_lst, ev_idx, ev_slc00, ev_slc10, ev_slc01, ev_call, ev_callv, ev_comp, ev_blt, ev_meth, evs_cons, evI_seq, evI_rng, evI_zip, evT_and, evT_or, evT_not, evT_cmp, evT_call, evT_blt, evT_var, evT_idx, pow30, e1]
theorem ev_num1 {m bs : Nat} (hm : 4 ≤ m) {L s N : Nat} {h : Hea} (S : St L s N h) (l : N + 15 ≤ 2 ^ 36) {r : List (Option D)} : ∃ y h', ev ⟨callN T m, bs⟩ (some (.ref s) :: r) e__law_cases_3 h = .ok (.p y) h' ∧ (∃ v, y = .int v ∧ (-(10 ^ 20) ≤ v ∧ v ≤ 10 ^ 20)) ∧ St L s (N + 15) h' ∧ Fr L h h' := by
  obtain ⟨x, h1, e1, ⟨v, rfl, p1, p2⟩, S1, F1⟩ := rn_integer (n := m) (s := s) hm (high := 10 ^ 20) (by decide +kernel) (small' (n := 100) (by decide +kernel) (by decide)) L N h S l
  refine ⟨.int v, h1, ?_, ⟨v, rfl, p1, p2⟩, S1, F1⟩
  simp [-Int.reducePow, e__law_cases_3, exs_cons, ex_set, ex_par, ex_unp, ex_seti, ex_expr, ex_ret, ex_if, ex_while, ex_for, ex_raise, ex_try, ex_frz, ev_bin, ev_neg, ev_cmp, ev_and, ev_or, ev_not, ev_ite, ev_tup, ev_lst, ev_idx, ev_slc00, ev_slc10, ev_slc01, ev_call, ev_callv, ev_comp, ev_blt, ev_meth, evs_cons, evI_seq, evI_rng, evI_zip, evT_and, evT_or, evT_not, evT_cmp, evT_call, evT_blt, evT_var, evT_idx, pow20, e1]
theorem first_comp {m bs : Nat} {a0 a1 a2 a3 a4 a5 a6 a7 a8 a9 a10 a11 a12 a13 a14 a15 a16 a17 a18 : Option D} {h : Hea} {ss : List (List Rat)} (hs : ∀ s ∈ ss, 1 ≤ s.length) : runComp ⟨callN T m, bs⟩ [a0, a1, a2, a3, a4, a5, a6, a7, a8, a9, a10, a11, a12, a13, a14, a15, a16, a17, a18] [15] (.one 15) .nil e__law_cases_4 (ss.map spt) h = .ok ((ss.map fun s => rt (s.getD 0 0)).map D.p) h := by
  have := comp_one (G := ⟨callN T m, bs⟩) (ρ := [a0, a1, a2, a3, a4, a5, a6, a7, a8, a9, a10, a11, a12, a13, a14, a15, a16, a17, a18]) (vs := [15]) (i := 15) (elt := e__law_cases_4) (h := h) (xs := ss.map spt) (f := fun x => match x with
    | .tup (y :: _) => y
    | x => x) fun x hx => by
      obtain ⟨s, hs', rfl⟩ := List.mem_map.mp hx
      obtain ⟨q, qs, rfl⟩ : ∃ q qs, s = q :: qs := by
        cases s with
        | nil => exact absurd (hs [] hs') (by simp)
        | cons q qs => exact ⟨q, qs, rfl⟩
      have i0 : idxD h (.p (spt (q :: qs))) (.p (.int 0)) = some (.p (rt q)) := idx_at (i := 0) rfl
      simp [e__law_cases_4, exs_cons, ex_set, ex_par, ex_unp, ex_seti, ex_expr, ex_ret, ex_if, ex_while, ex_for, ex_raise, ex_try, ex_frz, ev_bin, ev_neg, ev_cmp, ev_and, ev_or, ev_not, ev_ite, ev_tup, ev_lst, ev_idx, ev_slc00, ev_slc10, ev_slc01, ev_call, ev_callv, ev_comp, ev_blt, ev_meth, evs_cons, evI_seq, evI_rng, evI_zip, evT_and, evT_or, evT_not, evT_cmp, evT_call, evT_blt, evT_var, evT_idx, wipe, i0]
      rfl
  rw [this]
  congr 1
  rw [List.map_map, List.map_map]
  refine List.map_congr_left fun s hs' => ?_
  cases s with
  | nil => exact absurd (hs [] hs') (by simp)
  | cons q qs => rfl
end K15

set_option linter.all false
set_option maxRecDepth 100000
set_option maxHeartbeats 2000000
set_option exponentiation.threshold 700
namespace K15
open Mp
theorem rn_cases {n s : Nat} (hn : 8 ≤ n) (g : Bool) {d : Nat} (d1 : 1 ≤ d) (d3 : d ≤ 3) : Rn n i__law_cases 20000 [.ref s, .p (.int (d : Nat)), .p (.bl g)] s fun x => ∃ c, CdOk g d c ∧ x = casesP d c := fun L N h S l => by
  obtain ⟨m, rfl⟩ : ∃ m, n = m + 1 := ⟨n - 1, by omega⟩
  obtain ⟨x1, h1, e1, ⟨s2, rfl, sl2, sp2⟩, S1, F1⟩ := rn_spots (n := m) (s := s) (by omega) g (dim := d) (many := 2) d3 (by decide) L N h S (by omega)
  obtain ⟨b, f', rfl⟩ : ∃ b f', s2 = [b, f'] := by
    match s2, sl2 with
    | [b, f'], _ => exact ⟨b, f', rfl⟩
  obtain ⟨x2, h2, e2, ⟨v, rfl, v1, v2, v3⟩, S2, F2⟩ := rn_take (n := m) (s := s) (by omega) 6 (small' (n := 10) (by decide) (by decide)) L _ h1 S1 (by omega)
  obtain ⟨f, ef⟩ : ∃ f, f = (if v = 0 then b else f') := ⟨_, rfl⟩
  have fp : f.length = d ∧ ∀ q ∈ f, Cl g q := by
    rw [ef]
    by_cases c : v = 0
    · rw [if_pos c]; exact sp2 b (by simp)
    · rw [if_neg c]; exact sp2 f' (by simp)
  have bp := sp2 b (by simp)
  obtain ⟨x3, h3, e3, ⟨q, rfl, hq⟩, S3, F3⟩ := rn_ratio (n := m) (s := s) (by omega) g L _ h2 S2 (by omega)
  obtain ⟨most, em⟩ : ∃ most : Nat, most = (if g = true then 4 else 80) := ⟨_, rfl⟩
  have m1 : 4 ≤ most ∧ most ≤ 80 ∧ (g = true → most ≤ 4) := by
    rw [em]; cases g <;> simp
  obtain ⟨x4, h4, e4, ⟨w, rfl, w1, w2⟩, S4, F4⟩ := rn_count (n := m) (s := s) (by omega) (least := 1) (most := (most : Int)) (by omega) (small' (n := 10) (Nat.lt_of_le_of_lt (by omega : ((most : Int) - 1 + 1).natAbs ≤ 80) (by decide)) (by decide)) L _ h3 S3 (by omega)
  obtain ⟨w', rfl⟩ : ∃ w' : Nat, w = (w' : Nat) := ⟨w.toNat, by omega⟩
  obtain ⟨x5, h5, e5, ⟨ss, rfl, sl, sp⟩, S5, F5⟩ := rn_spots (n := m) (s := s) (by omega) g (dim := d) (many := w') d3 (by omega) L _ h4 S4 (by omega)
  obtain ⟨ρ6, eρ⟩ : ∃ ρ : Slots, ρ = [some (.ref s), some (.p (.int (d : Nat))), some (.p (.bl g)), some (.p (spt b)), some (.p (spt f)), some (.p (rt q)), some (.p (.lst (ss.map spt))), none, none, none, none, none, none, none, none, none, none, none, none] := ⟨_, rfl⟩
  obtain ⟨ys, h6, e6, yl, yp, S6, F6⟩ := comp_rn (G := ⟨callN T m, h.length⟩) (ρ := ρ6) (vs := [15]) (tg := .one 15) (elt := e__law_cases_1) (k := 2) (Φ := fun y => ∃ v, y = .int v ∧ 1 ≤ v ∧ v ≤ 10 ^ 40) (xs := ss.map spt) (fun x hx N hh S l => by
    obtain ⟨y, h', a, p, S', F'⟩ := ev_count (m := m) (bs := h.length) (by omega) S l
    subst eρ
    exact ⟨_, y, h', rfl, a, p, S', F'⟩) S5 (by rw [List.length_map]; omega)
  obtain ⟨cs0, rfl, cl0, cp0⟩ := ints_of (Q := fun v => 1 ≤ v ∧ v ≤ 10 ^ 40) yp
  simp only [List.length_map] at yl
  have lss : (ss.map spt).length = ss.length := List.length_map ..
  have c0 : 0 < cs0.length := by omega
  obtain ⟨x7, h7, e7, p7, S7, F7⟩ := Rn.top (rn_pick (n := m) (s := s) (by omega) (xs := [.int 1, .int 4, .int (10 ^ 40)]) (by simp) (by simp)) (t := [some ((cs0.map P.int).map D.p)]) S6 (by omega)
  obtain ⟨cv, rfl, cv1⟩ : ∃ cv, x7 = .int cv ∧ 1 ≤ cv ∧ cv ≤ 10 ^ 40 := by
    have big : (4 : Int) ≤ 10 ^ 40 := by decide +kernel
    simp only [List.mem_cons, List.not_mem_nil, or_false] at p7
    rcases p7 with rfl | rfl | rfl
    · exact ⟨1, rfl, by omega, by omega⟩
    · exact ⟨4, rfl, by omega, by omega⟩
    · exact ⟨10 ^ 40, rfl, by omega, by omega⟩
  obtain ⟨cs, ecs⟩ : ∃ cs, cs = cs0.set (cs0.length - 1) cv := ⟨_, rfl⟩
  have cp : ∀ n ∈ cs, 1 ≤ n ∧ n ≤ 10 ^ 40 := by rw [ecs]; exact set_cnt cp0 cv1
  have l67 : h6.length = h7.length := F7.len.symm
  have S7' : St L s _ (h7 ++ [none]) := S7.app
  obtain ⟨H, eH⟩ : ∃ H, H = h7 ++ [none] := ⟨_, rfl⟩
  rw [← eH] at S7'
  obtain ⟨x8, h8, e8, ⟨u, rfl, u1, u2⟩, S8, F8⟩ := rn_count (n := m) (s := s) (by omega) (least := 1) (most := 80) (by omega) (small' (n := 10) (by decide) (by decide)) L _ H S7' (by omega)
  obtain ⟨u', rfl⟩ : ∃ u' : Nat, u = (u' : Nat) := ⟨u.toNat, by omega⟩
  obtain ⟨ρ9, eρ9⟩ : ∃ ρ : Slots, ρ = [some (.ref s), some (.p (.int (d : Nat))), some (.p (.bl g)), some (.p (spt b)), some (.p (spt f)), some (.p (rt q)), some (.p (.lst (ss.map spt))), some (.p (.lst (cs.map P.int))), none, none, none, none, none, none, none, none, none, none, none] := ⟨_, rfl⟩
  have lru : ((List.range u').map fun k => P.int (k : Nat)).length = u' := by rw [List.length_map, List.length_range]
  obtain ⟨fy, h9, e9, fl, fp9, S9, F9⟩ := comp_rn (G := ⟨callN T m, h.length⟩) (ρ := ρ9) (vs := [16]) (tg := .one 16) (elt := e__law_cases_2) (k := 100) (Φ := FormP (d + 1) (10 ^ 30)) (xs := (List.range u').map fun k => P.int (k : Nat)) (fun x hx N hh S l => by
    obtain ⟨y, h', a, p, S', F'⟩ := ev_form1 (m := m) (bs := h.length) (by omega) d3 S l
    subst eρ9
    exact ⟨_, y, h', rfl, a, p, S', F'⟩) S8 (by rw [lru]; omega)
  obtain ⟨fs, rfl, fsl, fsp⟩ := forms_of fp9
  have lfs : (fs.map frm).length = fs.length := List.length_map ..
  obtain ⟨ρ10, eρ10⟩ : ∃ ρ : Slots, ρ = [some (.ref s), some (.p (.int (d : Nat))), some (.p (.bl g)), some (.p (spt b)), some (.p (spt f)), some (.p (rt q)), some (.p (.lst (ss.map spt))), some (.p (.lst (cs.map P.int))), some (.p (.lst (fs.map frm))), none, none, none, none, none, none, none, none, none, none] := ⟨_, rfl⟩
  obtain ⟨ny, h10, e10, nl, np, S10, F10⟩ := comp_rn (G := ⟨callN T m, h.length⟩) (ρ := ρ10) (vs := [17]) (tg := .one 17) (elt := e__law_cases_3) (k := 15) (Φ := fun y => ∃ v, y = .int v ∧ (-(10 ^ 20) ≤ v ∧ v ≤ 10 ^ 20)) (xs := fs.map frm) (fun x hx N hh S l => by
    obtain ⟨y, h', a, p, S', F'⟩ := ev_num1 (m := m) (bs := h.length) (by omega) S l
    subst eρ10
    exact ⟨_, y, h', rfl, a, p, S', F'⟩) S9 (by omega)
  obtain ⟨ns, rfl, nsl, nsp⟩ := ints_of (Q := fun v => -(10 ^ 20) ≤ v ∧ v ≤ 10 ^ 20) np
  simp only [List.length_map] at nsl nl
  obtain ⟨c, ec⟩ : ∃ c : Cd, c = ⟨b, f, q, ss, cs, fs, ns⟩ := ⟨_, rfl⟩
  have o : CdOk g d c := by
    rw [ec]
    exact ⟨d1, d3, bp.1, fp.1, bp.2, fp.2, hq, fun z => by have z : ss.length = 0 := congrArg List.length z; omega, by show ss.length ≤ 80; omega, fun z => by have := m1.2.2 z; show ss.length ≤ 4; omega, sp, by show cs.length = ss.length; rw [ecs, List.length_set]; omega, cp, fun z => by have z : fs.length = 0 := congrArg List.length z; omega, by show fs.length ≤ 80; omega, fsp, by show ns.length = fs.length; omega, nsp⟩
  have F10' : Fr L H h10 := (F8.trans F9).trans F10
  rw [eH] at F10'
  obtain ⟨hz, ehz, Fz⟩ := F10'.split S7.ll
  have F67 : Fr L h hz := (((((F1.trans F2).trans F3).trans F4).trans F5).trans F6).trans (F7.trans Fz)
  have Sz : St L s (N + 20000) hz := by
    refine St.unapp (r := [none]) ?_ (by rw [F67.len]; exact S.ll)
    rw [← ehz]
    exact S10.up (by omega)
  refine ⟨casesP d c, hz, ?_, ⟨c, o, rfl⟩, Sz, F67⟩
  rw [call_eq (fd := f__law_cases) rfl rfl]
  obtain ⟨i0, is, efs⟩ : ∃ i0 is, c.f0v = i0 :: is := by
    have h1 := o.fsn
    cases q1 : c.fs with
    | nil => exact absurd q1 h1
    | cons z zs =>
      have l := (o.hfs z (by rw [q1]; exact List.mem_cons_self)).1
      cases z with
      | nil => simp at l
      | cons i0 is => exact ⟨i0, is, by simp [Cd.f0v, q1]⟩
  have mem0 : i0 :: is ∈ c.fs := by
    have h1 := o.fsn
    cases q1 : c.fs with
    | nil => exact absurd q1 h1
    | cons z zs =>
      have : z = i0 :: is := by rw [← efs]; simp [Cd.f0v, q1]
      rw [this]; exact List.mem_cons_self
  have ft : (h10).take h.length = hz := by rw [ehz]; exact F67.takeApp
  subst ec
  obtain ⟨mx, emx⟩ : ∃ z, z = spt (Cd.mixed ⟨b, f, q, ss, cs, fs, ns⟩) := ⟨_, rfl⟩
  obtain ⟨me, eme⟩ : ∃ z, z = spt (Cd.mean ⟨b, f, q, ss, cs, fs, ns⟩ d) := ⟨_, rfl⟩
  obtain ⟨fi, efi⟩ : ∃ z, z = Cd.firsts ⟨b, f, q, ss, cs, fs, ns⟩ := ⟨_, rfl⟩
  obtain ⟨su, esu⟩ : ∃ z, z = rt (Cd.firsts ⟨b, f, q, ss, cs, fs, ns⟩).sum := ⟨_, rfl⟩
  obtain ⟨ad, ead⟩ : ∃ z, z = rt (Cd.added ⟨b, f, q, ss, cs, fs, ns⟩) := ⟨_, rfl⟩
  obtain ⟨b0, eb0⟩ : ∃ z, z = rt (b.getD 0 0) := ⟨_, rfl⟩
  obtain ⟨f0, ef0⟩ : ∃ z, z = rt (f.getD 0 0) := ⟨_, rfl⟩
  have t0 : callN T m i__law_between [.p (spt b), .p (spt f), .p (rt q)] h10 = .ok (.p mx) h10 := by rw [emx]; exact o.due_between (n := m) (by omega) h10
  have t1 : callN T m i__law_mean [.p (.int (d : Nat)), .p (.lst (ss.map spt)), .p (.lst (cs.map P.int))] h10 = .ok (.p me) h10 := by rw [eme]; exact o.due_mean (n := m) (by omega) h10
  obtain ⟨av, eav⟩ : ∃ z, z = rt ((Cd.firsts ⟨b, f, q, ss, cs, fs, ns⟩).sum * ((ss.length : Int) : Rat)⁻¹) := ⟨_, rfl⟩
  have t2 : callN T m i__law_mean [.p (.int 1), .p (.lst (fi.map fun q => .tup [rt q])), .p (.lst (fi.map fun _ => .int 1))] h10 = .ok (.p (.tup [av])) h10 := by rw [efi, eav]; exact o.due_firsts (n := m) (by omega) h10
  have t3 : callN T m i__law_times [.p av, .p (.tup [.int (ss.length : Nat), .int 1])] h10 = .ok (.p su) h10 := by rw [eav, esu]; exact o.due_sums (n := m) (by omega) h10
  have t4 : callN T m i__law_plus [.p b0, .p (rt q)] h10 = .ok (.p ad) h10 := by rw [eb0, ead]; exact o.due_added (n := m) (by omega) h10
  obtain ⟨sm, esm⟩ : ∃ z, z = frm (comb (List.replicate (d + 1) 0) fs ns) := ⟨_, rfl⟩
  have t5 : callN T m i__law_summed [.p (.int ((d : Int) + 1)), .p (.lst (fs.map frm)), .p (.lst (ns.map P.int))] h10 = .ok (.p sm) h10 := by rw [esm]; exact o.due_summed (n := m) (by omega) h10
  obtain ⟨od, eod⟩ : ∃ z, z = ordL (Cd.mean ⟨b, f, q, ss, cs, fs, ns⟩ d) (Cd.mixed ⟨b, f, q, ss, cs, fs, ns⟩) := ⟨_, rfl⟩
  have t6 : callN T m i__law_before [.p me, .p mx] h10 = .ok (.p (.int od)) h10 := by rw [eme, emx, eod]; exact o.due_before (n := m) (by omega) h10
  have hval : Cd.val ⟨b, f, q, ss, cs, fs, ns⟩ = (i0 : Rat) + (prods is (Cd.mixed ⟨b, f, q, ss, cs, fs, ns⟩)).sum := by unfold Cd.val; rw [efs]
  obtain ⟨vl, evl⟩ : ∃ z, z = rt (Cd.val ⟨b, f, q, ss, cs, fs, ns⟩) := ⟨_, rfl⟩
  have t7 : callN T m i__law_value [.p (frm (i0 :: is)), .p mx] h10 = .ok (.p vl) h10 := by rw [emx, evl, hval]; exact o.due_value mem0 (n := m) (by omega) h10
  obtain ⟨df, edf⟩ : ∃ z, z = rt (f.getD 0 0 - Cd.added ⟨b, f, q, ss, cs, fs, ns⟩) := ⟨_, rfl⟩
  have t8 : callN T m i__law_minus [.p f0, .p ad] h10 = .ok (.p df) h10 := by rw [ef0, ead, edf]; exact o.due_minus (n := m) (by omega) h10
  obtain ⟨pr, epr⟩ : ∃ z, z = rt (q * (Cd.firsts ⟨b, f, q, ss, cs, fs, ns⟩).sum) := ⟨_, rfl⟩
  have t9 : callN T m i__law_times [.p (rt q), .p su] h10 = .ok (.p pr) h10 := by rw [esu, epr]; exact o.due_times (n := m) (by omega) h10
  have e1' : callN T m i__law_spots [.ref s, .p (.int (d : Nat)), .p (.int 2), .p (.bl g)] h = .ok (.p (.lst [spt b, spt f'])) h1 := e1
  have up : ∀ ρ h, unp1 ρ [3, 4] (.p (.lst [spt b, spt f'])) h = .next ((ρ.set 3 (some (.p (spt b)))).set 4 (some (.p (spt f')))) h := fun _ _ => rfl
  have mc := mk_true (ds := (cs0.map P.int).map D.p) (h := h6) (by rw [List.length_map, List.length_map]; exact lim1000 (by omega))
  have se : ∀ ρ, seti1 h.length ρ (.p (.int cv)) (.ref h6.length) (.p (.int (-1))) (h7 ++ [some ((cs0.map P.int).map D.p)]) = .next ρ (h7 ++ [some ((cs.map P.int).map D.p)]) := fun ρ => by
    rw [l67, seti_end (by rw [List.length_map]; exact c0), ecs, List.length_map]
    simp only [List.map_set]
  have fz : ∀ ρ : Slots, slot ρ 7 = some (.ref h6.length) → frz1 ρ 7 (h7 ++ [some ((cs.map P.int).map D.p)]) = .next (ρ.set 7 (some (.p (.lst (cs.map P.int))))) H := fun ρ e => by rw [eH]; exact frz_at F7.len e
  have rg := rng_at (d := u') (h := h8) (by omega)
  have mf := mk_list (xs := fs.map frm) (h := h9) (lim1000 (by omega))
  have mn := mk_list (xs := ns.map P.int) (h := h10) (lim1000 (by rw [List.length_map]; omega))
  subst eρ
  subst eρ9
  subst eρ10
  have j0 : ∀ h : Hea, idxD h (.p (spt b)) (.p (.int 0)) = some (.p b0) := fun h => by rw [eb0]; exact spt_idx (k := 0) (by omega) h
  have j1 : ∀ h : Hea, idxD h (.p (spt f)) (.p (.int 0)) = some (.p f0) := fun h => by rw [ef0]; exact spt_idx (k := 0) (by omega) h
  have j2 : ∀ h : Hea, idxD h (.p (.lst (fs.map frm))) (.p (.int 0)) = some (.p (frm (i0 :: is))) := fun h => idx_atL (i := 0) (by
    rw [List.getElem?_map]
    cases fs with
    | nil => exact absurd rfl o.fsn
    | cons z zs =>
      have : z = i0 :: is := efs
      rw [this]; rfl)
  have j3 : ∀ h : Hea, idxD h (.p (.tup [av])) (.p (.int 0)) = some (.p av) := fun h => idx_at (i := 0) rfl
  have lfi : fi.length = ss.length := by rw [efi]; exact o.firsts_len
  rw [← lfi] at t3
  have hff : (ss.map fun s => rt (s.getD 0 0)) = fi.map rt := by rw [efi]; simp [Cd.firsts, List.map_map]
  have fc : ∀ (a0 a1 a2 a3 a4 a5 a6 a7 a8 a9 a10 a11 a12 a13 a14 a15 a16 a17 a18 : Option D), runComp ⟨callN T m, h.length⟩ [a0, a1, a2, a3, a4, a5, a6, a7, a8, a9, a10, a11, a12, a13, a14, a15, a16, a17, a18] [15] (.one 15) .nil e__law_cases_4 (ss.map spt) h10 = .ok ((fi.map rt).map D.p) h10 := fun _ _ _ _ _ _ _ _ _ _ _ _ _ _ _ _ _ _ _ => by
    rw [← hff]; exact first_comp fun s hs => by rw [(sp s hs).1]; exact d1
  have c6 : ∀ (a0 a1 a2 a3 a4 a5 a6 a7 a8 a9 a10 a11 a12 a13 a14 a15 a16 a17 a18 : Option D), runComp ⟨callN T m, h.length⟩ [a0, a1, a2, a3, a4, a5, a6, a7, a8, a9, a10, a11, a12, a13, a14, a15, a16, a17, a18] [18] (.one 18) .nil e__law_cases_6 (fi.map rt) h10 = .ok ((fi.map rt).map fun x => .p (.tup [x])) h10 := fun a0 a1 a2 a3 a4 a5 a6 a7 a8 a9 a10 a11 a12 a13 a14 a15 a16 a17 a18 =>
    comp_one (f := fun x => .tup [x]) fun x hx => by simp [e__law_cases_6, exs_cons, ex_set, ex_par, ex_unp, ex_seti, ex_expr, ex_ret, ex_if, ex_while, ex_for, ex_raise, ex_try, ex_frz, ev_bin, ev_neg, ev_cmp, ev_and, ev_or, ev_not, ev_ite, ev_tup, ev_lst, ev_idx, ev_slc00, ev_slc10, ev_slc01, ev_call, ev_callv, ev_comp, ev_blt, ev_meth, evs_cons, evI_seq, evI_rng, evI_zip, evT_and, evT_or, evT_not, evT_cmp, evT_call, evT_blt, evT_var, evT_idx, wipe]
  have c5 : ∀ (a0 a1 a2 a3 a4 a5 a6 a7 a8 a9 a10 a11 a12 a13 a14 a15 a16 a17 a18 : Option D), runComp ⟨callN T m, h.length⟩ [a0, a1, a2, a3, a4, a5, a6, a7, a8, a9, a10, a11, a12, a13, a14, a15, a16, a17, a18] [18] (.one 18) .nil e__law_cases_5 (fi.map rt) h10 = .ok ((fi.map rt).map fun x => .p (.int 1)) h10 := fun a0 a1 a2 a3 a4 a5 a6 a7 a8 a9 a10 a11 a12 a13 a14 a15 a16 a17 a18 =>
    comp_one (f := fun _ => .int 1) fun x hx => by simp [e__law_cases_5, exs_cons, ex_set, ex_par, ex_unp, ex_seti, ex_expr, ex_ret, ex_if, ex_while, ex_for, ex_raise, ex_try, ex_frz, ev_bin, ev_neg, ev_cmp, ev_and, ev_or, ev_not, ev_ite, ev_tup, ev_lst, ev_idx, ev_slc00, ev_slc10, ev_slc01, ev_call, ev_callv, ev_comp, ev_blt, ev_meth, evs_cons, evI_seq, evI_rng, evI_zip, evT_and, evT_or, evT_not, evT_cmp, evT_call, evT_blt, evT_var, evT_idx, wipe]
  have mfi := mk_list (xs := fi.map rt) (h := h10) (lim1000 (by rw [List.length_map]; omega))
  have m6 : mk false ((fi.map rt).map fun x => D.p (.tup [x])) h10 = .ok (.p (.lst (fi.map fun q => .tup [rt q]))) h10 := by
    rw [mk_map (f := fun x => P.tup [x]) (lim1000 (by rw [List.length_map]; omega)), List.map_map]; rfl
  have m5 : mk false ((fi.map rt).map fun x => D.p (.int 1)) h10 = .ok (.p (.lst (fi.map fun _ => .int 1))) h10 := by
    rw [mk_map (f := fun x => P.int 1) (lim1000 (by rw [List.length_map]; omega)), List.map_map]; rfl
  have lf : blt1 .len false [.p (.lst (fi.map rt))] h10 = .ok (.p (.int (fi.length : Nat))) h10 := by rw [blt1_len_lst, List.length_map]
  have t4p : ∀ (x y z w : P) (h : Hea), tup1 [.p x, .p y, .p z, .p w] h = .ok (.p (.tup [x, y, z, w])) h := fun _ _ _ _ _ => rfl
  have mk2 : ∀ (x y : P) (h : Hea), mk false [.p x, .p y] h = .ok (.p (.lst [x, y])) h := fun _ _ _ => rfl
  have mk1 : ∀ (x : P) (h : Hea), mk false [.p x] h = .ok (.p (.lst [x])) h := fun _ _ => rfl
  have mk9 : ∀ (x y z w u v a b c : P) (h : Hea), mk false [.p x, .p y, .p z, .p w, .p u, .p v, .p a, .p b, .p c] h = .ok (.p (.lst [x, y, z, w, u, v, a, b, c])) h := fun _ _ _ _ _ _ _ _ _ _ => rfl
  have fin : P.lst [.tup [.int 0, .lst [spt b, spt f, rt q], .lst [.str sSpot, .str sSpot, .str sRatio], mx], .tup [.int 1, .lst [.lst (fs.map frm), .lst (ns.map P.int)], .lst [.str sForms, .str sNumbers], sm], .tup [.int 2, .lst [.lst (ss.map spt), .lst (cs.map P.int)], .lst [.str sSpots, .str sCounts], me], .tup [.int 3, .lst [me, mx], .lst [.str sSpot, .str sSpot], .int od], .tup [.int 4, .lst [frm (i0 :: is), mx], .lst [.str sForm, .str sSpot], vl], .tup [.int 5, .lst [.lst (fi.map rt)], .lst [.str sRatios], su], .tup [.int 6, .lst [b0, rt q], .lst [.str sRatio, .str sRatio], ad], .tup [.int 7, .lst [f0, ad], .lst [.str sRatio, .str sRatio], df], .tup [.int 8, .lst [rt q, su], .lst [.str sRatio, .str sRatio], pr]] = casesP d ⟨b, f, q, ss, cs, fs, ns⟩ := by
    rw [emx, eme, eod, evl, efi, esu, ead, eb0, ef0, edf, epr, esm, ← efs]
    rfl
  have itv : ∀ h : Hea, (if v = 0 then R.ok (D.p (spt b)) h else R.ok (D.p (spt f')) h) = R.ok (D.p (spt f)) h := fun h => by
    rw [ef]
    by_cases z : v = 0
    · rw [if_pos z, if_pos z]
    · rw [if_neg z, if_neg z]
  have itg : ∀ h : Hea, (if g = true then R.ok (D.p (.int 4)) h else R.ok (D.p (.int 80)) h) = R.ok (D.p (.int (most : Int))) h := fun h => by
    rw [em]
    cases g <;> rfl
  have q1 : ex ⟨callN T m, h.length⟩ [some (.ref s), some (.p (.int (d : Nat))), some (.p (.bl g)), none, none, none, none, none, none, none, none, none, none, none, none, none, none, none, none] s__law_cases_1 h = .next [some (.ref s), some (.p (.int (d : Nat))), some (.p (.bl g)), some (.p (spt b)), some (.p (spt f')), none, none, none, none, none, none, none, none, none, none, none, none, none, none] h1 := by
    simp [-List.map_map, -List.map_set, -Int.reducePow, s__law_cases_1, exs_cons, ex_set, ex_par, ex_unp, ex_seti, ex_expr, ex_ret, ex_if, ex_while, ex_for, ex_raise, ex_try, ex_frz, ev_bin, ev_neg, ev_cmp, ev_and, ev_or, ev_not, ev_ite, ev_tup, ev_lst, ev_idx, ev_slc00, ev_slc10, ev_slc01, ev_call, ev_callv, ev_comp, ev_blt, ev_meth, evs_cons, evI_seq, evI_rng, evI_zip, evT_and, evT_or, evT_not, evT_cmp, evT_call, evT_blt, evT_var, evT_idx, e1', up]
  have q2 : ex ⟨callN T m, h.length⟩ [some (.ref s), some (.p (.int (d : Nat))), some (.p (.bl g)), some (.p (spt b)), some (.p (spt f')), none, none, none, none, none, none, none, none, none, none, none, none, none, none] s__law_cases_2 h1 = .next [some (.ref s), some (.p (.int (d : Nat))), some (.p (.bl g)), some (.p (spt b)), some (.p (spt f)), none, none, none, none, none, none, none, none, none, none, none, none, none, none] h2 := by
    simp [-List.map_map, -List.map_set, -Int.reducePow, s__law_cases_2, exs_cons, ex_set, ex_par, ex_unp, ex_seti, ex_expr, ex_ret, ex_if, ex_while, ex_for, ex_raise, ex_try, ex_frz, ev_bin, ev_neg, ev_cmp, ev_and, ev_or, ev_not, ev_ite, ev_tup, ev_lst, ev_idx, ev_slc00, ev_slc10, ev_slc01, ev_call, ev_callv, ev_comp, ev_blt, ev_meth, evs_cons, evI_seq, evI_rng, evI_zip, evT_and, evT_or, evT_not, evT_cmp, evT_call, evT_blt, evT_var, evT_idx, ev_ite, e2, itv]
  have q3 : ex ⟨callN T m, h.length⟩ [some (.ref s), some (.p (.int (d : Nat))), some (.p (.bl g)), some (.p (spt b)), some (.p (spt f)), none, none, none, none, none, none, none, none, none, none, none, none, none, none] s__law_cases_3 h2 = .next [some (.ref s), some (.p (.int (d : Nat))), some (.p (.bl g)), some (.p (spt b)), some (.p (spt f)), some (.p (rt q)), none, none, none, none, none, none, none, none, none, none, none, none, none] h3 := by
    simp [-List.map_map, -List.map_set, -Int.reducePow, s__law_cases_3, exs_cons, ex_set, ex_par, ex_unp, ex_seti, ex_expr, ex_ret, ex_if, ex_while, ex_for, ex_raise, ex_try, ex_frz, ev_bin, ev_neg, ev_cmp, ev_and, ev_or, ev_not, ev_ite, ev_tup, ev_lst, ev_idx, ev_slc00, ev_slc10, ev_slc01, ev_call, ev_callv, ev_comp, ev_blt, ev_meth, evs_cons, evI_seq, evI_rng, evI_zip, evT_and, evT_or, evT_not, evT_cmp, evT_call, evT_blt, evT_var, evT_idx, e3]
  have q4 : ex ⟨callN T m, h.length⟩ [some (.ref s), some (.p (.int (d : Nat))), some (.p (.bl g)), some (.p (spt b)), some (.p (spt f)), some (.p (rt q)), none, none, none, none, none, none, none, none, none, none, none, none, none] s__law_cases_4 h3 = .next [some (.ref s), some (.p (.int (d : Nat))), some (.p (.bl g)), some (.p (spt b)), some (.p (spt f)), some (.p (rt q)), some (.p (.lst (ss.map spt))), none, none, none, none, none, none, none, none, none, none, none, none] h5 := by
    simp [-List.map_map, -List.map_set, -Int.reducePow, s__law_cases_4, exs_cons, ex_set, ex_par, ex_unp, ex_seti, ex_expr, ex_ret, ex_if, ex_while, ex_for, ex_raise, ex_try, ex_frz, ev_bin, ev_neg, ev_cmp, ev_and, ev_or, ev_not, ev_ite, ev_tup, ev_lst, ev_idx, ev_slc00, ev_slc10, ev_slc01, ev_call, ev_callv, ev_comp, ev_blt, ev_meth, evs_cons, evI_seq, evI_rng, evI_zip, evT_and, evT_or, evT_not, evT_cmp, evT_call, evT_blt, evT_var, evT_idx, ev_ite, itg, e4, e5]
  have q5 : ex ⟨callN T m, h.length⟩ [some (.ref s), some (.p (.int (d : Nat))), some (.p (.bl g)), some (.p (spt b)), some (.p (spt f)), some (.p (rt q)), some (.p (.lst (ss.map spt))), none, none, none, none, none, none, none, none, none, none, none, none] s__law_cases_5 h5 = .next [some (.ref s), some (.p (.int (d : Nat))), some (.p (.bl g)), some (.p (spt b)), some (.p (spt f)), some (.p (rt q)), some (.p (.lst (ss.map spt))), some (.ref h6.length), none, none, none, none, none, none, none, none, none, none, none] (h6 ++ [some ((cs0.map P.int).map D.p)]) := by
    simp [-List.map_map, -List.map_set, -Int.reducePow, s__law_cases_5, exs_cons, ex_set, ex_par, ex_unp, ex_seti, ex_expr, ex_ret, ex_if, ex_while, ex_for, ex_raise, ex_try, ex_frz, ev_bin, ev_neg, ev_cmp, ev_and, ev_or, ev_not, ev_ite, ev_tup, ev_lst, ev_idx, ev_slc00, ev_slc10, ev_slc01, ev_call, ev_callv, ev_comp, ev_blt, ev_meth, evs_cons, evI_seq, evI_rng, evI_zip, evT_and, evT_or, evT_not, evT_cmp, evT_call, evT_blt, evT_var, evT_idx, e6, mc]
  have q6 : ex ⟨callN T m, h.length⟩ [some (.ref s), some (.p (.int (d : Nat))), some (.p (.bl g)), some (.p (spt b)), some (.p (spt f)), some (.p (rt q)), some (.p (.lst (ss.map spt))), some (.ref h6.length), none, none, none, none, none, none, none, none, none, none, none] s__law_cases_6 (h6 ++ [some ((cs0.map P.int).map D.p)]) = .next [some (.ref s), some (.p (.int (d : Nat))), some (.p (.bl g)), some (.p (spt b)), some (.p (spt f)), some (.p (rt q)), some (.p (.lst (ss.map spt))), some (.ref h6.length), none, none, none, none, none, none, none, none, none, none, none] (h7 ++ [some ((cs.map P.int).map D.p)]) := by
    simp [-List.map_map, -List.map_set, -Int.reducePow, s__law_cases_6, exs_cons, ex_set, ex_par, ex_unp, ex_seti, ex_expr, ex_ret, ex_if, ex_while, ex_for, ex_raise, ex_try, ex_frz, ev_bin, ev_neg, ev_cmp, ev_and, ev_or, ev_not, ev_ite, ev_tup, ev_lst, ev_idx, ev_slc00, ev_slc10, ev_slc01, ev_call, ev_callv, ev_comp, ev_blt, ev_meth, evs_cons, evI_seq, evI_rng, evI_zip, evT_and, evT_or, evT_not, evT_cmp, evT_call, evT_blt, evT_var, evT_idx, pow40, mk_p3, e7, se]
  have q7 : ex ⟨callN T m, h.length⟩ [some (.ref s), some (.p (.int (d : Nat))), some (.p (.bl g)), some (.p (spt b)), some (.p (spt f)), some (.p (rt q)), some (.p (.lst (ss.map spt))), some (.ref h6.length), none, none, none, none, none, none, none, none, none, none, none] s__law_cases_7 (h7 ++ [some ((cs.map P.int).map D.p)]) = .next [some (.ref s), some (.p (.int (d : Nat))), some (.p (.bl g)), some (.p (spt b)), some (.p (spt f)), some (.p (rt q)), some (.p (.lst (ss.map spt))), some (.p (.lst (cs.map P.int))), none, none, none, none, none, none, none, none, none, none, none] H := by
    simp [-List.map_map, -List.map_set, -Int.reducePow, s__law_cases_7, exs_cons, ex_set, ex_par, ex_unp, ex_seti, ex_expr, ex_ret, ex_if, ex_while, ex_for, ex_raise, ex_try, ex_frz, ev_bin, ev_neg, ev_cmp, ev_and, ev_or, ev_not, ev_ite, ev_tup, ev_lst, ev_idx, ev_slc00, ev_slc10, ev_slc01, ev_call, ev_callv, ev_comp, ev_blt, ev_meth, evs_cons, evI_seq, evI_rng, evI_zip, evT_and, evT_or, evT_not, evT_cmp, evT_call, evT_blt, evT_var, evT_idx, fz, slot]
  have q8 : ex ⟨callN T m, h.length⟩ [some (.ref s), some (.p (.int (d : Nat))), some (.p (.bl g)), some (.p (spt b)), some (.p (spt f)), some (.p (rt q)), some (.p (.lst (ss.map spt))), some (.p (.lst (cs.map P.int))), none, none, none, none, none, none, none, none, none, none, none] s__law_cases_8 H = .next [some (.ref s), some (.p (.int (d : Nat))), some (.p (.bl g)), some (.p (spt b)), some (.p (spt f)), some (.p (rt q)), some (.p (.lst (ss.map spt))), some (.p (.lst (cs.map P.int))), some (.p (.lst (fs.map frm))), none, none, none, none, none, none, none, none, none, none] h9 := by
    simp [-List.map_map, -List.map_set, -Int.reducePow, s__law_cases_8, exs_cons, ex_set, ex_par, ex_unp, ex_seti, ex_expr, ex_ret, ex_if, ex_while, ex_for, ex_raise, ex_try, ex_frz, ev_bin, ev_neg, ev_cmp, ev_and, ev_or, ev_not, ev_ite, ev_tup, ev_lst, ev_idx, ev_slc00, ev_slc10, ev_slc01, ev_call, ev_callv, ev_comp, ev_blt, ev_meth, evs_cons, evI_seq, evI_rng, evI_zip, evT_and, evT_or, evT_not, evT_cmp, evT_call, evT_blt, evT_var, evT_idx, e8, rg, e9, mf]
  have q9 : ex ⟨callN T m, h.length⟩ [some (.ref s), some (.p (.int (d : Nat))), some (.p (.bl g)), some (.p (spt b)), some (.p (spt f)), some (.p (rt q)), some (.p (.lst (ss.map spt))), some (.p (.lst (cs.map P.int))), some (.p (.lst (fs.map frm))), none, none, none, none, none, none, none, none, none, none] s__law_cases_9 h9 = .next [some (.ref s), some (.p (.int (d : Nat))), some (.p (.bl g)), some (.p (spt b)), some (.p (spt f)), some (.p (rt q)), some (.p (.lst (ss.map spt))), some (.p (.lst (cs.map P.int))), some (.p (.lst (fs.map frm))), some (.p (.lst (ns.map P.int))), none, none, none, none, none, none, none, none, none] h10 := by
    simp [-List.map_map, -List.map_set, -Int.reducePow, s__law_cases_9, exs_cons, ex_set, ex_par, ex_unp, ex_seti, ex_expr, ex_ret, ex_if, ex_while, ex_for, ex_raise, ex_try, ex_frz, ev_bin, ev_neg, ev_cmp, ev_and, ev_or, ev_not, ev_ite, ev_tup, ev_lst, ev_idx, ev_slc00, ev_slc10, ev_slc01, ev_call, ev_callv, ev_comp, ev_blt, ev_meth, evs_cons, evI_seq, evI_rng, evI_zip, evT_and, evT_or, evT_not, evT_cmp, evT_call, evT_blt, evT_var, evT_idx, e10, mn]
  have q10 : ex ⟨callN T m, h.length⟩ [some (.ref s), some (.p (.int (d : Nat))), some (.p (.bl g)), some (.p (spt b)), some (.p (spt f)), some (.p (rt q)), some (.p (.lst (ss.map spt))), some (.p (.lst (cs.map P.int))), some (.p (.lst (fs.map frm))), some (.p (.lst (ns.map P.int))), none, none, none, none, none, none, none, none, none] s__law_cases_10 h10 = .next [some (.ref s), some (.p (.int (d : Nat))), some (.p (.bl g)), some (.p (spt b)), some (.p (spt f)), some (.p (rt q)), some (.p (.lst (ss.map spt))), some (.p (.lst (cs.map P.int))), some (.p (.lst (fs.map frm))), some (.p (.lst (ns.map P.int))), some (.p mx), none, none, none, none, none, none, none, none] h10 := by
    simp [-List.map_map, -List.map_set, -Int.reducePow, s__law_cases_10, exs_cons, ex_set, ex_par, ex_unp, ex_seti, ex_expr, ex_ret, ex_if, ex_while, ex_for, ex_raise, ex_try, ex_frz, ev_bin, ev_neg, ev_cmp, ev_and, ev_or, ev_not, ev_ite, ev_tup, ev_lst, ev_idx, ev_slc00, ev_slc10, ev_slc01, ev_call, ev_callv, ev_comp, ev_blt, ev_meth, evs_cons, evI_seq, evI_rng, evI_zip, evT_and, evT_or, evT_not, evT_cmp, evT_call, evT_blt, evT_var, evT_idx, t0]
  have q11 : ex ⟨callN T m, h.length⟩ [some (.ref s), some (.p (.int (d : Nat))), some (.p (.bl g)), some (.p (spt b)), some (.p (spt f)), some (.p (rt q)), some (.p (.lst (ss.map spt))), some (.p (.lst (cs.map P.int))), some (.p (.lst (fs.map frm))), some (.p (.lst (ns.map P.int))), some (.p mx), none, none, none, none, none, none, none, none] s__law_cases_11 h10 = .next [some (.ref s), some (.p (.int (d : Nat))), some (.p (.bl g)), some (.p (spt b)), some (.p (spt f)), some (.p (rt q)), some (.p (.lst (ss.map spt))), some (.p (.lst (cs.map P.int))), some (.p (.lst (fs.map frm))), some (.p (.lst (ns.map P.int))), some (.p mx), some (.p me), none, none, none, none, none, none, none] h10 := by
    simp [-List.map_map, -List.map_set, -Int.reducePow, s__law_cases_11, exs_cons, ex_set, ex_par, ex_unp, ex_seti, ex_expr, ex_ret, ex_if, ex_while, ex_for, ex_raise, ex_try, ex_frz, ev_bin, ev_neg, ev_cmp, ev_and, ev_or, ev_not, ev_ite, ev_tup, ev_lst, ev_idx, ev_slc00, ev_slc10, ev_slc01, ev_call, ev_callv, ev_comp, ev_blt, ev_meth, evs_cons, evI_seq, evI_rng, evI_zip, evT_and, evT_or, evT_not, evT_cmp, evT_call, evT_blt, evT_var, evT_idx, t1]
  have q12 : ex ⟨callN T m, h.length⟩ [some (.ref s), some (.p (.int (d : Nat))), some (.p (.bl g)), some (.p (spt b)), some (.p (spt f)), some (.p (rt q)), some (.p (.lst (ss.map spt))), some (.p (.lst (cs.map P.int))), some (.p (.lst (fs.map frm))), some (.p (.lst (ns.map P.int))), some (.p mx), some (.p me), none, none, none, none, none, none, none] s__law_cases_12 h10 = .next [some (.ref s), some (.p (.int (d : Nat))), some (.p (.bl g)), some (.p (spt b)), some (.p (spt f)), some (.p (rt q)), some (.p (.lst (ss.map spt))), some (.p (.lst (cs.map P.int))), some (.p (.lst (fs.map frm))), some (.p (.lst (ns.map P.int))), some (.p mx), some (.p me), some (.p (.lst (fi.map rt))), none, none, none, none, none, none] h10 := by
    simp [-List.map_map, -List.map_set, -Int.reducePow, s__law_cases_12, exs_cons, ex_set, ex_par, ex_unp, ex_seti, ex_expr, ex_ret, ex_if, ex_while, ex_for, ex_raise, ex_try, ex_frz, ev_bin, ev_neg, ev_cmp, ev_and, ev_or, ev_not, ev_ite, ev_tup, ev_lst, ev_idx, ev_slc00, ev_slc10, ev_slc01, ev_call, ev_callv, ev_comp, ev_blt, ev_meth, evs_cons, evI_seq, evI_rng, evI_zip, evT_and, evT_or, evT_not, evT_cmp, evT_call, evT_blt, evT_var, evT_idx, fc, mfi]
  have q13 : ex ⟨callN T m, h.length⟩ [some (.ref s), some (.p (.int (d : Nat))), some (.p (.bl g)), some (.p (spt b)), some (.p (spt f)), some (.p (rt q)), some (.p (.lst (ss.map spt))), some (.p (.lst (cs.map P.int))), some (.p (.lst (fs.map frm))), some (.p (.lst (ns.map P.int))), some (.p mx), some (.p me), some (.p (.lst (fi.map rt))), none, none, none, none, none, none] s__law_cases_13 h10 = .next [some (.ref s), some (.p (.int (d : Nat))), some (.p (.bl g)), some (.p (spt b)), some (.p (spt f)), some (.p (rt q)), some (.p (.lst (ss.map spt))), some (.p (.lst (cs.map P.int))), some (.p (.lst (fs.map frm))), some (.p (.lst (ns.map P.int))), some (.p mx), some (.p me), some (.p (.lst (fi.map rt))), some (.p su), none, none, none, none, none] h10 := by
    simp [-List.map_map, -List.map_set, -Int.reducePow, s__law_cases_13, exs_cons, ex_set, ex_par, ex_unp, ex_seti, ex_expr, ex_ret, ex_if, ex_while, ex_for, ex_raise, ex_try, ex_frz, ev_bin, ev_neg, ev_cmp, ev_and, ev_or, ev_not, ev_ite, ev_tup, ev_lst, ev_idx, ev_slc00, ev_slc10, ev_slc01, ev_call, ev_callv, ev_comp, ev_blt, ev_meth, evs_cons, evI_seq, evI_rng, evI_zip, evT_and, evT_or, evT_not, evT_cmp, evT_call, evT_blt, evT_var, evT_idx, c6, m6, c5, m5, t2, j3, lf, t3]
  have q14 : ex ⟨callN T m, h.length⟩ [some (.ref s), some (.p (.int (d : Nat))), some (.p (.bl g)), some (.p (spt b)), some (.p (spt f)), some (.p (rt q)), some (.p (.lst (ss.map spt))), some (.p (.lst (cs.map P.int))), some (.p (.lst (fs.map frm))), some (.p (.lst (ns.map P.int))), some (.p mx), some (.p me), some (.p (.lst (fi.map rt))), some (.p su), none, none, none, none, none] s__law_cases_14 h10 = .next [some (.ref s), some (.p (.int (d : Nat))), some (.p (.bl g)), some (.p (spt b)), some (.p (spt f)), some (.p (rt q)), some (.p (.lst (ss.map spt))), some (.p (.lst (cs.map P.int))), some (.p (.lst (fs.map frm))), some (.p (.lst (ns.map P.int))), some (.p mx), some (.p me), some (.p (.lst (fi.map rt))), some (.p su), some (.p ad), none, none, none, none] h10 := by
    simp [-List.map_map, -List.map_set, -Int.reducePow, s__law_cases_14, exs_cons, ex_set, ex_par, ex_unp, ex_seti, ex_expr, ex_ret, ex_if, ex_while, ex_for, ex_raise, ex_try, ex_frz, ev_bin, ev_neg, ev_cmp, ev_and, ev_or, ev_not, ev_ite, ev_tup, ev_lst, ev_idx, ev_slc00, ev_slc10, ev_slc01, ev_call, ev_callv, ev_comp, ev_blt, ev_meth, evs_cons, evI_seq, evI_rng, evI_zip, evT_and, evT_or, evT_not, evT_cmp, evT_call, evT_blt, evT_var, evT_idx, j0, t4]
  have y1 : ev ⟨callN T m, h.length⟩ [some (.ref s), some (.p (.int (d : Nat))), some (.p (.bl g)), some (.p (spt b)), some (.p (spt f)), some (.p (rt q)), some (.p (.lst (ss.map spt))), some (.p (.lst (cs.map P.int))), some (.p (.lst (fs.map frm))), some (.p (.lst (ns.map P.int))), some (.p mx), some (.p me), some (.p (.lst (fi.map rt))), some (.p su), some (.p ad), none, none, none, none] x__law_cases_1 h10 = .ok (.p (.tup [.int 0, .lst [spt b, spt f, rt q], .lst [.str sSpot, .str sSpot, .str sRatio], mx])) h10 := by
    simp [-List.map_map, x__law_cases_1, exs_cons, ex_set, ex_par, ex_unp, ex_seti, ex_expr, ex_ret, ex_if, ex_while, ex_for, ex_raise, ex_try, ex_frz, ev_bin, ev_neg, ev_cmp, ev_and, ev_or, ev_not, ev_ite, ev_tup, ev_lst, ev_idx, ev_slc00, ev_slc10, ev_slc01, ev_call, ev_callv, ev_comp, ev_blt, ev_meth, evs_cons, evI_seq, evI_rng, evI_zip, evT_and, evT_or, evT_not, evT_cmp, evT_call, evT_blt, evT_var, evT_idx, mk_p3, mk2, mk1, t4p, t5, t6, t7, t8, t9, j0, j1, j2]
  have y2 : ev ⟨callN T m, h.length⟩ [some (.ref s), some (.p (.int (d : Nat))), some (.p (.bl g)), some (.p (spt b)), some (.p (spt f)), some (.p (rt q)), some (.p (.lst (ss.map spt))), some (.p (.lst (cs.map P.int))), some (.p (.lst (fs.map frm))), some (.p (.lst (ns.map P.int))), some (.p mx), some (.p me), some (.p (.lst (fi.map rt))), some (.p su), some (.p ad), none, none, none, none] x__law_cases_2 h10 = .ok (.p (.tup [.int 1, .lst [.lst (fs.map frm), .lst (ns.map P.int)], .lst [.str sForms, .str sNumbers], sm])) h10 := by
    simp [-List.map_map, x__law_cases_2, exs_cons, ex_set, ex_par, ex_unp, ex_seti, ex_expr, ex_ret, ex_if, ex_while, ex_for, ex_raise, ex_try, ex_frz, ev_bin, ev_neg, ev_cmp, ev_and, ev_or, ev_not, ev_ite, ev_tup, ev_lst, ev_idx, ev_slc00, ev_slc10, ev_slc01, ev_call, ev_callv, ev_comp, ev_blt, ev_meth, evs_cons, evI_seq, evI_rng, evI_zip, evT_and, evT_or, evT_not, evT_cmp, evT_call, evT_blt, evT_var, evT_idx, mk_p3, mk2, mk1, t4p, t5, t6, t7, t8, t9, j0, j1, j2]
  have y3 : ev ⟨callN T m, h.length⟩ [some (.ref s), some (.p (.int (d : Nat))), some (.p (.bl g)), some (.p (spt b)), some (.p (spt f)), some (.p (rt q)), some (.p (.lst (ss.map spt))), some (.p (.lst (cs.map P.int))), some (.p (.lst (fs.map frm))), some (.p (.lst (ns.map P.int))), some (.p mx), some (.p me), some (.p (.lst (fi.map rt))), some (.p su), some (.p ad), none, none, none, none] x__law_cases_3 h10 = .ok (.p (.tup [.int 2, .lst [.lst (ss.map spt), .lst (cs.map P.int)], .lst [.str sSpots, .str sCounts], me])) h10 := by
    simp [-List.map_map, x__law_cases_3, exs_cons, ex_set, ex_par, ex_unp, ex_seti, ex_expr, ex_ret, ex_if, ex_while, ex_for, ex_raise, ex_try, ex_frz, ev_bin, ev_neg, ev_cmp, ev_and, ev_or, ev_not, ev_ite, ev_tup, ev_lst, ev_idx, ev_slc00, ev_slc10, ev_slc01, ev_call, ev_callv, ev_comp, ev_blt, ev_meth, evs_cons, evI_seq, evI_rng, evI_zip, evT_and, evT_or, evT_not, evT_cmp, evT_call, evT_blt, evT_var, evT_idx, mk_p3, mk2, mk1, t4p, t5, t6, t7, t8, t9, j0, j1, j2]
  have y4 : ev ⟨callN T m, h.length⟩ [some (.ref s), some (.p (.int (d : Nat))), some (.p (.bl g)), some (.p (spt b)), some (.p (spt f)), some (.p (rt q)), some (.p (.lst (ss.map spt))), some (.p (.lst (cs.map P.int))), some (.p (.lst (fs.map frm))), some (.p (.lst (ns.map P.int))), some (.p mx), some (.p me), some (.p (.lst (fi.map rt))), some (.p su), some (.p ad), none, none, none, none] x__law_cases_4 h10 = .ok (.p (.tup [.int 3, .lst [me, mx], .lst [.str sSpot, .str sSpot], .int od])) h10 := by
    simp [-List.map_map, x__law_cases_4, exs_cons, ex_set, ex_par, ex_unp, ex_seti, ex_expr, ex_ret, ex_if, ex_while, ex_for, ex_raise, ex_try, ex_frz, ev_bin, ev_neg, ev_cmp, ev_and, ev_or, ev_not, ev_ite, ev_tup, ev_lst, ev_idx, ev_slc00, ev_slc10, ev_slc01, ev_call, ev_callv, ev_comp, ev_blt, ev_meth, evs_cons, evI_seq, evI_rng, evI_zip, evT_and, evT_or, evT_not, evT_cmp, evT_call, evT_blt, evT_var, evT_idx, mk_p3, mk2, mk1, t4p, t5, t6, t7, t8, t9, j0, j1, j2]
  have y5 : ev ⟨callN T m, h.length⟩ [some (.ref s), some (.p (.int (d : Nat))), some (.p (.bl g)), some (.p (spt b)), some (.p (spt f)), some (.p (rt q)), some (.p (.lst (ss.map spt))), some (.p (.lst (cs.map P.int))), some (.p (.lst (fs.map frm))), some (.p (.lst (ns.map P.int))), some (.p mx), some (.p me), some (.p (.lst (fi.map rt))), some (.p su), some (.p ad), none, none, none, none] x__law_cases_5 h10 = .ok (.p (.tup [.int 4, .lst [frm (i0 :: is), mx], .lst [.str sForm, .str sSpot], vl])) h10 := by
    simp [-List.map_map, x__law_cases_5, exs_cons, ex_set, ex_par, ex_unp, ex_seti, ex_expr, ex_ret, ex_if, ex_while, ex_for, ex_raise, ex_try, ex_frz, ev_bin, ev_neg, ev_cmp, ev_and, ev_or, ev_not, ev_ite, ev_tup, ev_lst, ev_idx, ev_slc00, ev_slc10, ev_slc01, ev_call, ev_callv, ev_comp, ev_blt, ev_meth, evs_cons, evI_seq, evI_rng, evI_zip, evT_and, evT_or, evT_not, evT_cmp, evT_call, evT_blt, evT_var, evT_idx, mk_p3, mk2, mk1, t4p, t5, t6, t7, t8, t9, j0, j1, j2]
  have y6 : ev ⟨callN T m, h.length⟩ [some (.ref s), some (.p (.int (d : Nat))), some (.p (.bl g)), some (.p (spt b)), some (.p (spt f)), some (.p (rt q)), some (.p (.lst (ss.map spt))), some (.p (.lst (cs.map P.int))), some (.p (.lst (fs.map frm))), some (.p (.lst (ns.map P.int))), some (.p mx), some (.p me), some (.p (.lst (fi.map rt))), some (.p su), some (.p ad), none, none, none, none] x__law_cases_6 h10 = .ok (.p (.tup [.int 5, .lst [.lst (fi.map rt)], .lst [.str sRatios], su])) h10 := by
    simp [-List.map_map, x__law_cases_6, exs_cons, ex_set, ex_par, ex_unp, ex_seti, ex_expr, ex_ret, ex_if, ex_while, ex_for, ex_raise, ex_try, ex_frz, ev_bin, ev_neg, ev_cmp, ev_and, ev_or, ev_not, ev_ite, ev_tup, ev_lst, ev_idx, ev_slc00, ev_slc10, ev_slc01, ev_call, ev_callv, ev_comp, ev_blt, ev_meth, evs_cons, evI_seq, evI_rng, evI_zip, evT_and, evT_or, evT_not, evT_cmp, evT_call, evT_blt, evT_var, evT_idx, mk_p3, mk2, mk1, t4p, t5, t6, t7, t8, t9, j0, j1, j2]
  have y7 : ev ⟨callN T m, h.length⟩ [some (.ref s), some (.p (.int (d : Nat))), some (.p (.bl g)), some (.p (spt b)), some (.p (spt f)), some (.p (rt q)), some (.p (.lst (ss.map spt))), some (.p (.lst (cs.map P.int))), some (.p (.lst (fs.map frm))), some (.p (.lst (ns.map P.int))), some (.p mx), some (.p me), some (.p (.lst (fi.map rt))), some (.p su), some (.p ad), none, none, none, none] x__law_cases_7 h10 = .ok (.p (.tup [.int 6, .lst [b0, rt q], .lst [.str sRatio, .str sRatio], ad])) h10 := by
    simp [-List.map_map, x__law_cases_7, exs_cons, ex_set, ex_par, ex_unp, ex_seti, ex_expr, ex_ret, ex_if, ex_while, ex_for, ex_raise, ex_try, ex_frz, ev_bin, ev_neg, ev_cmp, ev_and, ev_or, ev_not, ev_ite, ev_tup, ev_lst, ev_idx, ev_slc00, ev_slc10, ev_slc01, ev_call, ev_callv, ev_comp, ev_blt, ev_meth, evs_cons, evI_seq, evI_rng, evI_zip, evT_and, evT_or, evT_not, evT_cmp, evT_call, evT_blt, evT_var, evT_idx, mk_p3, mk2, mk1, t4p, t5, t6, t7, t8, t9, j0, j1, j2]
  have y8 : ev ⟨callN T m, h.length⟩ [some (.ref s), some (.p (.int (d : Nat))), some (.p (.bl g)), some (.p (spt b)), some (.p (spt f)), some (.p (rt q)), some (.p (.lst (ss.map spt))), some (.p (.lst (cs.map P.int))), some (.p (.lst (fs.map frm))), some (.p (.lst (ns.map P.int))), some (.p mx), some (.p me), some (.p (.lst (fi.map rt))), some (.p su), some (.p ad), none, none, none, none] x__law_cases_8 h10 = .ok (.p (.tup [.int 7, .lst [f0, ad], .lst [.str sRatio, .str sRatio], df])) h10 := by
    simp [-List.map_map, x__law_cases_8, exs_cons, ex_set, ex_par, ex_unp, ex_seti, ex_expr, ex_ret, ex_if, ex_while, ex_for, ex_raise, ex_try, ex_frz, ev_bin, ev_neg, ev_cmp, ev_and, ev_or, ev_not, ev_ite, ev_tup, ev_lst, ev_idx, ev_slc00, ev_slc10, ev_slc01, ev_call, ev_callv, ev_comp, ev_blt, ev_meth, evs_cons, evI_seq, evI_rng, evI_zip, evT_and, evT_or, evT_not, evT_cmp, evT_call, evT_blt, evT_var, evT_idx, mk_p3, mk2, mk1, t4p, t5, t6, t7, t8, t9, j0, j1, j2]
  have y9 : ev ⟨callN T m, h.length⟩ [some (.ref s), some (.p (.int (d : Nat))), some (.p (.bl g)), some (.p (spt b)), some (.p (spt f)), some (.p (rt q)), some (.p (.lst (ss.map spt))), some (.p (.lst (cs.map P.int))), some (.p (.lst (fs.map frm))), some (.p (.lst (ns.map P.int))), some (.p mx), some (.p me), some (.p (.lst (fi.map rt))), some (.p su), some (.p ad), none, none, none, none] x__law_cases_9 h10 = .ok (.p (.tup [.int 8, .lst [rt q, su], .lst [.str sRatio, .str sRatio], pr])) h10 := by
    simp [-List.map_map, x__law_cases_9, exs_cons, ex_set, ex_par, ex_unp, ex_seti, ex_expr, ex_ret, ex_if, ex_while, ex_for, ex_raise, ex_try, ex_frz, ev_bin, ev_neg, ev_cmp, ev_and, ev_or, ev_not, ev_ite, ev_tup, ev_lst, ev_idx, ev_slc00, ev_slc10, ev_slc01, ev_call, ev_callv, ev_comp, ev_blt, ev_meth, evs_cons, evI_seq, evI_rng, evI_zip, evT_and, evT_or, evT_not, evT_cmp, evT_call, evT_blt, evT_var, evT_idx, mk_p3, mk2, mk1, t4p, t5, t6, t7, t8, t9, j0, j1, j2]
  have q15 : ex ⟨callN T m, h.length⟩ [some (.ref s), some (.p (.int (d : Nat))), some (.p (.bl g)), some (.p (spt b)), some (.p (spt f)), some (.p (rt q)), some (.p (.lst (ss.map spt))), some (.p (.lst (cs.map P.int))), some (.p (.lst (fs.map frm))), some (.p (.lst (ns.map P.int))), some (.p mx), some (.p me), some (.p (.lst (fi.map rt))), some (.p su), some (.p ad), none, none, none, none] s__law_cases_15 h10 = .ret (.p (casesP d ⟨b, f, q, ss, cs, fs, ns⟩)) h10 := by
    rw [← fin]
    simp only [s__law_cases_15, ex_ret, ev_lst, evs_cons, evs_nil, y1, y2, y3, y4, y5, y6, y7, y8, y9, bind_ok, ofR_ok, mk9]
  show finish h.length (exs ⟨callN T m, h.length⟩ [some (.ref s), some (.p (.int (d : Nat))), some (.p (.bl g)), none, none, none, none, none, none, none, none, none, none, none, none, none, none, none, none] r__law_cases_1 h) = _
  simp only [r__law_cases_1, r__law_cases_2, r__law_cases_3, r__law_cases_4, r__law_cases_5, r__law_cases_6, r__law_cases_7, r__law_cases_8, r__law_cases_9, r__law_cases_10, r__law_cases_11, r__law_cases_12, r__law_cases_13, r__law_cases_14, r__law_cases_15, exs_cons, exs_nil, q1, q2, q3, q4, q5, q6, q7, q8, q9, q10, q11, q12, q13, q14, q15, rbind_next, rbind_ret, finish_p, ft]
end K15

set_option linter.all false
set_option maxRecDepth 100000
set_option maxHeartbeats 1000000
set_option exponentiation.threshold 700
namespace K15
open Mp
/-! ### _law_store -/
structure C0 (h : Hea) (rs : List Nat) : Prop where
  hd : cellAt h 0 = some (rs.map D.ref)
  le : rs.length ≤ 1000
  ex : ∀ r ∈ rs, r < h.length ∧ r ≠ 0 ∧ ∃ (v : Int) (q : Bool), cellAt h r = some [.p (.int v), .p (.bl q)]
theorem c0_app {h : Hea} {rs : List Nat} (c : C0 h rs) (l : rs.length < 1000) (v : Int) (q : Bool) : ∃ h2, methD 0 .append false (.ref 0) [.ref h.length] (h ++ [some [.p (.int v), .p (.bl q)]]) = .ok (.p .non) h2 ∧ C0 h2 (rs ++ [h.length]) ∧ h2.length = h.length + 1 := by
  have l0 : 0 < h.length := cell_lt c.hd
  have ca : cellAt (h ++ [some [.p (.int v), .p (.bl q)]]) 0 = some (rs.map D.ref) := by rw [cell_app l0]; exact c.hd
  refine ⟨(h ++ [some [D.p (.int v), D.p (.bl q)]]).set 0 (some (rs.map D.ref ++ [D.ref h.length])), ?_, ⟨?_, by simp; omega, fun r hr => ?_⟩, by simp⟩
  · unfold methD
    have lm : 1000 ≤ LIM := by decide
    have l1 : (rs.map D.ref).length < LIM := by rw [List.length_map]; omega
    simp only [ca]
    rw [if_pos ⟨l1, by simp [may]⟩]
  · rw [cell_set ca]; simp
  · rcases List.mem_append.mp hr with w | w
    · obtain ⟨a, b, v', q', e⟩ := c.ex r w
      exact ⟨by simp; omega, b, v', q', by rw [cell_ne (Ne.symm b), cell_app a]; exact e⟩
    · rw [List.mem_singleton.mp w]
      exact ⟨by simp, by omega, v, q, by rw [cell_ne (by omega)]; exact cell_last⟩
theorem pow18 {h : Hea} : bin2 .pow (.p (.int 10)) (.p (.int 18)) h = .ok (.p (.int (10 ^ 18))) h := pow10 (k := 18) (by decide)
theorem pow64 {h : Hea} : bin2 .pow (.p (.int 10)) (.p (.int 64)) h = .ok (.p (.int (10 ^ 64))) h := pow10 (k := 64) (by decide)
theorem store_loop {m : Nat} (hm : 1 ≤ m) (x0 : Option D) : ∀ (is : List Int) (h : Hea) (rs : List Nat) (seed : Int) (d3 d4 : Option D), C0 h rs → rs.length + is.length ≤ 100 →
    ∃ (h' : Hea) (rs' : List Nat) (seed' : Int) (d3' d4' : Option D), runFor ⟨callN T m, 0⟩ (.one 3) l__law_store_1 (is.map P.int) [x0, some (.ref 0), some (.p (.int seed)), d3, d4] h = .next [x0, some (.ref 0), some (.p (.int seed')), d3', d4'] h' ∧ C0 h' rs'
  | [], h, rs, seed, d3, d4, c, _ => ⟨h, rs, seed, d3, d4, by simp, c⟩
  | i :: is, h, rs, seed, d3, d4, c, l => by
    rw [List.length_cons] at l
    obtain ⟨v, e, v0⟩ := law_mix (n := m) hm (seed + i % 2147483647) (rs.length : Int) (by rw [Int.natAbs_natCast]; exact Nat.lt_of_le_of_lt (by omega : rs.length ≤ 100) (by decide)) h
    have ln := blt1_len_ref c.hd
    rw [List.length_map] at ln
    have rc : ∀ x, recv .append (h ++ [x]) (.ref 0) = true := fun x => by
      show (true && (cellAt (h ++ [x]) 0).isSome) = true
      rw [cell_app (cell_lt c.hd), c.hd]; rfl
    have rc0 : recv .append h (.ref 0) = true := by
      show (true && (cellAt h 0).isSome) = true
      rw [c.hd]; rfl
    by_cases g : i < 10 ^ 18
    · obtain ⟨h2, a, c2, l2⟩ := c0_app c (by omega) (i % 2147483647) false
      obtain ⟨h', rs', seed', d3', d4', e2, c'⟩ := store_loop hm x0 is h2 (rs ++ [h.length]) (v % 2147483647) (some (.p (.int i))) d4 c2 (by simp; omega)
      refine ⟨h', rs', seed', d3', d4', ?_, c'⟩
      have body : exs ⟨callN T m, 0⟩ [x0, some (.ref 0), some (.p (.int seed)), some (.p (.int i)), d4] l__law_store_1 h = .next [x0, some (.ref 0), some (.p (.int (v % 2147483647))), some (.p (.int i)), d4] h2 := by
        have mt : mk true [.p (.int (i % 2147483647)), .p (.bl false)] h = .ok (.ref h.length) (h ++ [some [.p (.int (i % 2147483647)), .p (.bl false)]]) := mk_true (by show 2 ≤ LIM; decide)
        have dv : (0 : Int) < 2147483647 := by decide
        simp [-Int.reducePow, l__law_store_1, exs_cons, ex_set, ex_par, ex_unp, ex_seti, ex_expr, ex_ret, ex_if, ex_while, ex_for, ex_raise, ex_try, ex_frz, ev_bin, ev_neg, ev_cmp, ev_and, ev_or, ev_not, ev_ite, ev_tup, ev_lst, ev_idx, ev_slc00, ev_slc10, ev_slc01, ev_call, ev_callv, ev_comp, ev_blt, ev_meth, evs_cons, evI_seq, evI_rng, evI_zip, evT_and, evT_or, evT_not, evT_cmp, evT_call, evT_blt, evT_var, evT_idx, ln, bin2_mod dv, e, pow18, g, rc0, mt, a]
      rw [List.map_cons, for_step (ρ' := [x0, some (.ref 0), some (.p (.int seed)), some (.p (.int i)), d4]) rfl body, e2]
    · obtain ⟨B, eB⟩ : ∃ B : Int, B = 10 ^ 64 * 10 ^ 64 * 10 ^ 64 * 10 ^ 64 := ⟨_, rfl⟩
      have B0 : 0 < B := by rw [eB]; decide +kernel
      have lt : ((10 : Int) ^ 64).natAbs < 2 ^ 400000 := small' (n := 300) (by decide +kernel) (by decide)
      have q1 := bin2_mul (h := h) (mulOk_of' lt lt)
      have q2 := bin2_mul (h := h) (mulOk_of' (i := 10 ^ 64 * 10 ^ 64) (small' (n := 600) (by decide +kernel) (by decide)) lt)
      have q3 := bin2_mul (h := h) (mulOk_of' (i := 10 ^ 64 * 10 ^ 64 * 10 ^ 64) (small' (n := 700) (by decide +kernel) (by decide)) lt)
      rw [← eB] at q3
      have dv : (0 : Int) < 2147483647 := by decide
      by_cases z : 0 < i % B
      · obtain ⟨h2, a, c2, l2⟩ := c0_app c (by omega) (i % B) true
        obtain ⟨h', rs', seed', d3', d4', e2, c'⟩ := store_loop hm x0 is h2 (rs ++ [h.length]) (v % 2147483647) (some (.p (.int i))) (some (.p (.int (i % B)))) c2 (by simp; omega)
        refine ⟨h', rs', seed', d3', d4', ?_, c'⟩
        have mt : mk true [.p (.int (i % B)), .p (.bl true)] h = .ok (.ref h.length) (h ++ [some [.p (.int (i % B)), .p (.bl true)]]) := mk_true (by show 2 ≤ LIM; decide)
        have body : exs ⟨callN T m, 0⟩ [x0, some (.ref 0), some (.p (.int seed)), some (.p (.int i)), d4] l__law_store_1 h = .next [x0, some (.ref 0), some (.p (.int (v % 2147483647))), some (.p (.int i)), some (.p (.int (i % B)))] h2 := by
          simp [-Int.reducePow, l__law_store_1, exs_cons, ex_set, ex_par, ex_unp, ex_seti, ex_expr, ex_ret, ex_if, ex_while, ex_for, ex_raise, ex_try, ex_frz, ev_bin, ev_neg, ev_cmp, ev_and, ev_or, ev_not, ev_ite, ev_tup, ev_lst, ev_idx, ev_slc00, ev_slc10, ev_slc01, ev_call, ev_callv, ev_comp, ev_blt, ev_meth, evs_cons, evI_seq, evI_rng, evI_zip, evT_and, evT_or, evT_not, evT_cmp, evT_call, evT_blt, evT_var, evT_idx, ln, bin2_mod dv, bin2_mod B0, e, pow18, pow64, q1, q2, q3, g, z, rc0, mt, a]
        rw [List.map_cons, for_step (ρ' := [x0, some (.ref 0), some (.p (.int seed)), some (.p (.int i)), d4]) rfl body, e2]
      · obtain ⟨h', rs', seed', d3', d4', e2, c'⟩ := store_loop hm x0 is h rs (v % 2147483647) (some (.p (.int i))) (some (.p (.int (i % B)))) c (by omega)
        refine ⟨h', rs', seed', d3', d4', ?_, c'⟩
        have body : exs ⟨callN T m, 0⟩ [x0, some (.ref 0), some (.p (.int seed)), some (.p (.int i)), d4] l__law_store_1 h = .next [x0, some (.ref 0), some (.p (.int (v % 2147483647))), some (.p (.int i)), some (.p (.int (i % B)))] h := by
          simp [-Int.reducePow, l__law_store_1, exs_cons, ex_set, ex_par, ex_unp, ex_seti, ex_expr, ex_ret, ex_if, ex_while, ex_for, ex_raise, ex_try, ex_frz, ev_bin, ev_neg, ev_cmp, ev_and, ev_or, ev_not, ev_ite, ev_tup, ev_lst, ev_idx, ev_slc00, ev_slc10, ev_slc01, ev_call, ev_callv, ev_comp, ev_blt, ev_meth, evs_cons, evI_seq, evI_rng, evI_zip, evT_and, evT_or, evT_not, evT_cmp, evT_call, evT_blt, evT_var, evT_idx, ln, bin2_mod dv, bin2_mod B0, e, pow18, pow64, q1, q2, q3, g, z, rc0]
        rw [List.map_cons, for_step (ρ' := [x0, some (.ref 0), some (.p (.int seed)), some (.p (.int i)), d4]) rfl body, e2]
theorem slc_63 {xs : List P} {h : Hea} (l : xs.length ≤ 63) : slc3 false (.p (.lst xs)) none (some 63) h = .ok (.p (.lst xs)) h := by
  show R.ok (D.p (.lst (cut xs none (some 63)))) h = _
  have e : cut xs none (some 63) = xs := by
    have e1 : edge xs.length xs.length (some 63) = xs.length := by
      show (if (63 : Int) < 0 then ((63 : Int) + (xs.length : Nat)).toNat else min (63 : Int).toNat xs.length) = xs.length
      rw [if_neg (by decide)]
      show min 63 xs.length = xs.length
      omega
    unfold cut
    rw [e1]
    show (xs.drop 0).take (xs.length - 0) = xs
    rw [List.drop_zero, Nat.sub_zero, List.take_length]
  rw [e]
theorem law_store {n : Nat} (hn : 2 ≤ n) (ns : List Int) (hl : ns.length ≤ 63) : ∃ (s : Nat) (h' : Hea), callN T n i__law_store [.p (.scr ns)] [] = .ok (.ref s) h' ∧ St h'.length s 0 h' := by
  obtain ⟨m, rfl⟩ : ∃ m, n = m + 1 := ⟨n - 1, by omega⟩
  obtain ⟨h', rs', seed', d3', d4', e, c⟩ := store_loop (m := m) (by omega) (some (.p (.scr ns))) ns [some []] [] 104729 none none ⟨rfl, by simp, fun r hr => by cases hr⟩ (by simp; omega)
  have bl : blt1 .list false [.p (.scr ns)] [some []] = .ok (.p (.lst (ns.map P.int))) [some []] := rfl
  have sl := slc_63 (xs := ns.map P.int) (h := [some []]) (by rw [List.length_map]; exact hl)
  have mt : mk true [.ref 0, .p (.int 0), .p (.int 0), .p (.int 0), .p (.int seed')] h' = .ok (.ref h'.length) (h' ++ [some [.ref 0, .p (.int 0), .p (.int 0), .p (.int 0), .p (.int seed')]]) := mk_true (by show 5 ≤ LIM; decide)
  have l0 := cell_lt c.hd
  refine ⟨h'.length, h' ++ [some [.ref 0, .p (.int 0), .p (.int 0), .p (.int 0), .p (.int seed')]], ?_, ⟨by simp, by simp, 0, 0, 0, 0, seed', rs', cell_last, by simp, by simp, by omega, by rw [cell_app l0]; exact c.hd, fun r hr => ?_⟩⟩
  · rw [call_eq (fd := f__law_store) rfl rfl]
    simp [ends1, f__law_store, b__law_store, startS, exs_cons, ex_set, ex_par, ex_unp, ex_seti, ex_expr, ex_ret, ex_if, ex_while, ex_for, ex_raise, ex_try, ex_frz, ev_bin, ev_neg, ev_cmp, ev_and, ev_or, ev_not, ev_ite, ev_tup, ev_lst, ev_idx, ev_slc00, ev_slc10, ev_slc01, ev_call, ev_callv, ev_comp, ev_blt, ev_meth, evs_cons, evI_seq, evI_rng, evI_zip, evT_and, evT_or, evT_not, evT_cmp, evT_call, evT_blt, evT_var, evT_idx, bl, sl, e, mt]
  · obtain ⟨a, b, v, q, x⟩ := c.ex r hr
    exact ⟨by simp; omega, by omega, b, v, q, by rw [cell_app a]; exact x⟩
end K15

set_option linter.all false
set_option maxRecDepth 100000
set_option maxHeartbeats 1000000
set_option exponentiation.threshold 700
namespace K15
open Mp
/-! ### what _law_bad hands out is refused -/
theorem seq_uniq {x : P} {xs ys : List P} (h : x = .lst ys ∨ x = .tup ys) (s : IsSeq x xs) : xs = ys := by
  rcases h with rfl | rfl
  · rcases s with e | e
    · injection e with e; exact e.symm
    · cases e
  · rcases s with e | e
    · cases e
    · injection e with e; exact e.symm
theorem odd_seq {x : P} {xs : List P} (h : x ∈ OddB) (s : IsSeq x xs) : xs = [.str [49]] := by
  simp only [OddB, List.mem_cons, List.not_mem_nil, or_false] at h
  rcases h with rfl | rfl | rfl | rfl | rfl
  · rcases s with e | e <;> cases e
  · rcases s with e | e <;> cases e
  · rcases s with e | e <;> cases e
  · exact seq_uniq (.inr rfl) s
  · rcases s with e | e <;> cases e
theorem are_len {f : P → Bool} {ys : List P} {d : Int} (h : (ys.length : Int) ≠ d) : areB f (.tup ys) d = false := by simp [areB, h]
theorem seq_bad {chkB elB : P → Bool} {base : List P} {len : Nat} {Φ : P → Prop} {x : P} (hb : ∀ y ∈ base, ∃ ys, y = .tup ys ∧ ys.length = len) (h2 : 2 ≤ base.length) (hΦ : ∀ b, Φ b → (chkB b = false ∧ areB elB b len = false) ∨ ∃ ys, b = .tup ys ∧ ys.length = len + 1) (hs : chkB (.str [49]) = false) (h : SeqBad base Φ (.lst []) x) :
    ∀ xs, IsSeq x xs → xs = [] ∨ ∃ x0 xr, xs = x0 :: xr ∧ ∃ z ∈ xs, chkB x0 = false ∨ areB elB z (tlen x0) = false := fun xs s => by
  rcases h with o | rfl | ⟨i, b, li, hb', e⟩
  · right
    exact ⟨_, _, odd_seq o s, _, by rw [odd_seq o s]; exact List.mem_cons_self, .inl hs⟩
  · left; exact seq_uniq (.inl rfl) s
  · right
    have ex := seq_uniq e s
    match base, h2 with
    | y0 :: y1 :: yr, _ =>
    cases i with
    | zero =>
      have ex : xs = b :: y1 :: yr := ex
      rcases hΦ b hb' with ⟨w, _⟩ | ⟨zs, w, wl⟩
      · exact ⟨b, y1 :: yr, ex, b, by rw [ex]; exact List.mem_cons_self, .inl w⟩
      · obtain ⟨us, u, ul⟩ := hb y1 (by simp)
        refine ⟨b, y1 :: yr, ex, y1, by rw [ex]; simp, .inr ?_⟩
        rw [u, w]
        exact are_len (by show ((us.length : Nat) : Int) ≠ ((zs.length : Nat) : Int); omega)
    | succ i =>
      have ex : xs = y0 :: (y1 :: yr).set i b := ex
      obtain ⟨us, u, ul⟩ := hb y0 (by simp)
      have li' : i < (y1 :: yr).length := by simpa using li
      have bm : b ∈ xs := by
        rw [ex]
        exact List.mem_cons_of_mem _ (List.mem_of_getElem? (by rw [List.getElem?_set_self li']))
      refine ⟨y0, _, ex, b, bm, .inr ?_⟩
      have tl : tlen y0 = (len : Int) := by rw [u]; show ((us.length : Nat) : Int) = _; rw [ul]
      rw [tl]
      rcases hΦ b hb' with ⟨_, w⟩ | ⟨zs, w, wl⟩
      · exact w
      · rw [w]; exact are_len (by omega)
theorem seq_dat {base : List P} {Φ : P → Prop} {e x : P} (hl : base.length ≤ 1000) (hb : ∀ y ∈ base, Dat y) (hΦ : ∀ b, Φ b → Dat b) (he : Dat e) (h : SeqBad base Φ e x) : Dat x := by
  rcases h with o | rfl | ⟨i, b, li, hb', w⟩
  · exact odd_dat o
  · exact he
  · have hm : ∀ y ∈ base.set i b, Dat y := fun y hy => by
      rcases mem_set_or hy with q | q
      · exact hb y q
      · rw [q]; exact hΦ b hb'
    rcases w with rfl | rfl
    · exact dat_lst (by simpa using hl) hm
    · exact dat_tup (by simpa using hl) hm
theorem ratios_bad {base : List P} {Φ : P → Prop} {x : P} (hΦ : ∀ b, Φ b → ratioB b = false) (h : SeqBad base Φ (.str [97, 98]) x) : ∀ xs, IsSeq x xs → ∃ y ∈ xs, ratioB y = false := fun xs s => by
  rcases h with o | rfl | ⟨i, b, li, hb', e⟩
  · exact ⟨.str [49], by rw [odd_seq o s]; simp, rfl⟩
  · rcases s with e | e <;> cases e
  · rw [seq_uniq e s]
    exact ⟨b, List.mem_of_getElem? (by rw [List.getElem?_set_self li]), hΦ b hb'⟩
theorem num_dat {xs bads : List P} {x : P} (hl : xs.length ≤ 100) (hx : ∀ y ∈ xs, Dat y) (hb : ∀ y ∈ bads, Dat y) (h : NumBad xs bads x) : Dat x := by
  rcases h with o | ⟨i, b, li, hb', w⟩ | rfl | rfl | rfl
  · exact odd_dat o
  · have hm : ∀ y ∈ xs.set i b, Dat y := fun y hy => by
      rcases mem_set_or hy with q | q
      · exact hx y q
      · rw [q]; exact hb b hb'
    rcases w with rfl | rfl
    · exact dat_lst (by simp; omega) hm
    · exact dat_tup (by simp; omega) hm
  · exact dat_lst (by simp; omega) fun y hy => hx y (List.mem_of_mem_drop hy)
  · refine dat_lst (by simp; omega) fun y hy => ?_
    rcases List.mem_append.mp hy with q | q
    · exact hx y q
    · rw [List.mem_singleton.mp q]; exact dat_lit (by decide)
  · exact dat_lst (by simp) (by simp)
theorem bads_dat : ∀ y ∈ CountBads, Dat y := fun y hy => by
  simp only [CountBads, List.mem_cons, List.not_mem_nil, or_false] at hy
  rcases hy with rfl | rfl | rfl | rfl | rfl | rfl | rfl
  · trivial
  · trivial
  · exact (by decide : (1 : Nat) ≤ 100)
  · exact dat_pair (by decide) (by decide)
  · exact dat_lit (by decide)
  · exact dat_lit (by decide)
  · trivial
theorem nums_sub : ∀ y ∈ NumBads, y ∈ CountBads := fun y hy => by
  simp only [NumBads, List.mem_cons, List.not_mem_nil, or_false] at hy
  simp only [CountBads, List.mem_cons]
  rcases hy with rfl | rfl | rfl | rfl <;> simp
theorem num_bad {f : P → Bool} {xs bads : List P} {x : P} {B : P → Int → Bool} (hB : ∀ ys d, B (.lst ys) d = (decide ((ys.length : Int) = d) && ys.all f) ∧ B (.tup ys) d = (decide ((ys.length : Int) = d) && ys.all f)) (ho : ∀ y ∈ OddB, ∀ d, B y d = false) (hne : 0 < xs.length) (hb : ∀ y ∈ bads, f y = false) (h : NumBad xs bads x) : B x (xs.length : Int) = false := by
  rcases h with o | ⟨i, b, li, hb', w⟩ | rfl | rfl | rfl
  · exact ho x o _
  · have al : (xs.set i b).all f = false := all_false (List.mem_of_getElem? (by rw [List.getElem?_set_self li])) (hb b hb')
    rcases w with rfl | rfl
    · rw [(hB _ _).1, al, Bool.and_false]
    · rw [(hB _ _).2, al, Bool.and_false]
  · rw [(hB _ _).1, decide_eq_false (by simp; omega), Bool.false_and]
  · rw [(hB _ _).1, decide_eq_false (by simp; omega), Bool.false_and]
  · rw [(hB _ _).1, decide_eq_false (by simp; omega), Bool.false_and]
theorem counts_bad {xs : List P} {x : P} (hne : 0 < xs.length) (h : NumBad xs CountBads x) : countsB x (xs.length : Int) = false :=
  num_bad (f := countB) (B := countsB) (fun ys d => ⟨rfl, rfl⟩) (fun y hy d => by
    simp only [OddB, List.mem_cons, List.not_mem_nil, or_false] at hy
    rcases hy with rfl | rfl | rfl | rfl | rfl
    · rfl
    · rfl
    · rfl
    · simp [countsB, countB]
    · rfl) hne (fun y hy => by
    simp only [CountBads, List.mem_cons, List.not_mem_nil, or_false] at hy
    rcases hy with rfl | rfl | rfl | rfl | rfl | rfl | rfl <;> rfl) h
theorem numbers_bad {xs : List P} {x : P} (hne : 0 < xs.length) (h : NumBad xs NumBads x) : numsB x (xs.length : Int) = false :=
  num_bad (f := wholeB) (B := numsB) (fun ys d => ⟨rfl, rfl⟩) (fun y hy d => by
    simp only [OddB, List.mem_cons, List.not_mem_nil, or_false] at hy
    rcases hy with rfl | rfl | rfl | rfl | rfl
    · rfl
    · rfl
    · rfl
    · simp [numsB, wholeB]
    · rfl) hne (fun y hy => by
    simp only [NumBads, List.mem_cons, List.not_mem_nil, or_false] at hy
    rcases hy with rfl | rfl | rfl | rfl <;> rfl) h
end K15

set_option linter.all false
set_option maxRecDepth 100000
set_option maxHeartbeats 1000000
set_option exponentiation.threshold 700
namespace K15
open Mp
/-! ### _law_refusals: what the calls answer to wrong arguments -/
/-- the kinds, as texts, and the class of their refusal -/
def clsOf (k : List Nat) : Nat := if k.take 4 = sForm then c_BadForm else if k.take 4 = sSpot then c_BadSpot else c_BadNumber
/-- the kinds -/
def Kinds : List (List Nat) := [sSpot, sRatio, sForm, sSpots, sRatios, sForms, sCounts, sNumbers]
/-- what stands at place i behind the loop -/
def Qa (Φ : Nat → P → Prop) (f l : Nat) (ts : List P) (i : Nat) (ys : List P) : Prop := ((i = f ∨ i = l) → ∃ y, ys[i]? = some y ∧ Φ i y) ∧ (¬ (i = f ∨ i = l) → ys[i]? = ts[i]?)
structure Refd (m s k : Nat) (ts : List P) (kk : List (List Nat)) : Prop where
  ex : ∃ Φ : Nat → P → Prop, kk.length = ts.length ∧ 1 ≤ ts.length ∧ ts.length ≤ 3 ∧ (∀ (j : Nat) (x : List Nat) (t : P), kk[j]? = some x → ts[j]? = some t → Rn m i__law_bad 4 [.ref s, .p (.str x), .p t] s (Φ j)) ∧
    (∀ f l, f < ts.length → l < ts.length → ∀ ys : List P, ys.length = ts.length → (∀ i, i < ts.length → Qa Φ f l ts i ys) → ∀ (h : Hea) (n : Nat), cellAt h n = some (ys.map D.p) → callN T m i__law_class [.p (.int (k : Nat)), .ref n] h = .ok (.p (cls3 (clsOf (kk.getD (min f l) [])))) h)
theorem rn4 {n i k s : Nat} {as : List D} {Φ : P → Prop} (r : Rn n i k as s Φ) (h : k ≤ 4) : Rn n i 4 as s Φ := r.mono h fun _ z => z
theorem cell_idx {h : Hea} {n i : Nat} {ys : List P} {y : P} (e : cellAt h n = some (ys.map D.p)) (hy : ys[i]? = some y) : idxD h (.ref n) (.p (.int (i : Nat))) = some (.p y) := idx_ref e (by rw [List.getElem?_map, hy]; rfl)
theorem cls_of {m c k n : Nat} {h : Hea} (hc : c = c_BadForm ∨ c = c_BadSpot ∨ c = c_BadNumber) (e : ∃ fs, callN T m i__law_call [.p (.int (k : Nat)), .ref n] h = .exn c fs h) : callN T (m + 1) i__law_class [.p (.int (k : Nat)), .ref n] h = .ok (.p (cls3 c)) h := by
  obtain ⟨fs, e⟩ := e
  exact law_class hc e
/-- two places: what is asked of a call of two arguments -/
theorem refd2 {m s k : Nat} (hm : 7 ≤ m) (hk : k = 1 ∨ k = 2 ∨ k = 3 ∨ k = 4 ∨ k = 6 ∨ k = 7 ∨ k = 8 ∨ k = 9) {t0 t1 : P} {k0 k1 : List Nat} {Φ0 Φ1 : P → Prop} (d1 : Dat t1)
    (r0 : Rn (m + 2) i__law_bad 4 [.ref s, .p (.str k0), .p t0] s Φ0) (r1 : Rn (m + 2) i__law_bad 4 [.ref s, .p (.str k1), .p t1] s Φ1) (p1 : ∀ y, Φ1 y → Dat y) (c0 : clsOf k0 = c_BadForm ∨ clsOf k0 = c_BadSpot ∨ clsOf k0 = c_BadNumber) (c1 : clsOf k1 = c_BadForm ∨ clsOf k1 = c_BadSpot ∨ clsOf k1 = c_BadNumber)
    (b0 : ∀ x y h, Φ0 x → Dat y → ∃ fs, callN T m (two k) [.p x, .p y] h = .exn (clsOf k0) fs h) (b1 : ∀ y h, Φ1 y → ∃ fs, callN T m (two k) [.p t0, .p y] h = .exn (clsOf k1) fs h) : Refd (m + 2) s k [t0, t1] [k0, k1] := by
  refine ⟨fun i => if i = 0 then Φ0 else Φ1, rfl, by simp, by simp, fun j x t hx ht => ?_, fun f l hf hl ys yl hq h n ec => ?_⟩
  · match j, hx, ht with
    | 0, hx, ht => cases hx; cases ht; exact r0
    | 1, hx, ht => cases hx; cases ht; exact r1
  · match ys, yl with
    | [y0, y1], _ =>
    have q0 := hq 0 (by simp)
    have q1 := hq 1 (by simp)
    have x0 := cell_idx (i := 0) ec rfl
    have x1 := cell_idx (i := 1) ec rfl
    have hf : f < 2 := hf
    have hl : l < 2 := hl
    have dy1 : Dat y1 := by
      by_cases c : 1 = f ∨ 1 = l
      · obtain ⟨y, e, p⟩ := q1.1 c
        cases e; exact p1 _ p
      · have e := q1.2 c
        cases e; exact d1
    by_cases c : 0 = f ∨ 0 = l
    · have mn : min f l = 0 := by omega
      rw [mn]
      obtain ⟨y, e, p⟩ := q0.1 c
      cases e
      obtain ⟨fs, e⟩ := b0 y0 y1 h p dy1
      exact cls_of c0 ⟨fs, law_call2 hk x0 x1 e (.inr ⟨_, fs, rfl⟩)⟩
    · have mn : min f l = 1 := by omega
      rw [mn]
      have e := q0.2 c
      cases e
      obtain ⟨y, e, p⟩ := q1.1 (by omega)
      cases e
      obtain ⟨fs, e⟩ := b1 y1 h p
      exact cls_of c1 ⟨fs, law_call2 hk x0 x1 e (.inr ⟨_, fs, rfl⟩)⟩
theorem bad_ratio {n s : Nat} (hn : 4 ≤ n) {q : Rat} (hq : Rb 2500 q) : Rn n i__law_bad 4 [.ref s, .p (.str sRatio), .p (rt q)] s fun x => Dat x ∧ ratioB x = false := rn4 (rn_bad_ratio hn hq) (by decide)
theorem bad_spot {n s : Nat} (hn : 4 ≤ n) {qs : List Rat} (h1 : 1 ≤ qs.length) (h2 : qs.length ≤ 3) (hq : ∀ q ∈ qs, Rok q) : Rn n i__law_bad 1 [.ref s, .p (.str sSpot), .p (spt qs)] s fun x => Dat x ∧ NotT ratioB x := by
  match qs, h1 with
  | q :: qs, _ =>
  exact rn_bad_spot hn (x0 := rt q) (xr := qs.map rt) (by rw [List.length_map]; rw [List.length_cons] at h2; omega) fun x hx => by
    have : x ∈ (q :: qs).map rt := hx
    obtain ⟨z, hz, rfl⟩ := List.mem_map.mp this
    exact rt_dat (hq z hz)
theorem bad_form {n s : Nat} (hn : 4 ≤ n) {is : List Int} (h1 : 2 ≤ is.length) (h2 : is.length ≤ 4) (hq : ∀ i ∈ is, Iok i) : Rn n i__law_bad 1 [.ref s, .p (.str sForm), .p (frm is)] s fun x => Dat x ∧ formB x = false ∧ areB wholeB x (is.length : Int) = false := by
  match is, h1 with
  | i :: is, h1 =>
  rw [List.length_cons] at h1 h2
  have r := rn_bad_form (s := s) hn (x0 := P.int i) (xr := is.map P.int) (by rw [List.length_map]; omega) (by rw [List.length_map]; omega) fun x hx => by
    have : x ∈ (i :: is).map P.int := hx
    obtain ⟨z, hz, rfl⟩ := List.mem_map.mp this
    exact (hq z hz).dat
  rw [List.length_map] at r
  rw [List.length_cons, Int.natCast_add]
  exact r
theorem refd0 {m s : Nat} (hm : 7 ≤ m) {b f : List Rat} {q : Rat} (h1 : 1 ≤ b.length) (h2 : b.length ≤ 3) (hl : f.length = b.length) (hb : ∀ q ∈ b, Rok q) (hf : ∀ q ∈ f, Rok q) (hq : Rb 2500 q) : Refd (m + 2) s 0 [spt b, spt f, rt q] [sSpot, sSpot, sRatio] := by
  have db : Dat (spt b) := spt_dat (by omega) hb
  have df : Dat (spt f) := spt_dat (by omega) hf
  refine ⟨fun i x => Dat x ∧ (if i = 2 then ratioB x = false else NotT ratioB x), rfl, by simp, by simp, fun j x t hx ht => ?_, fun u l hu hl' ys yl hq' h n ec => ?_⟩
  · match j, hx, ht with
    | 0, hx, ht => cases hx; cases ht; exact rn4 (bad_spot (by omega) h1 h2 hb) (by decide)
    | 1, hx, ht => cases hx; cases ht; exact rn4 (bad_spot (by omega) (by omega) (by omega) hf) (by decide)
    | 2, hx, ht => cases hx; cases ht; exact bad_ratio (by omega) hq
  · match ys, yl with
    | [y0, y1, y2], _ =>
    have q0 := hq' 0 (by simp)
    have q1 := hq' 1 (by simp)
    have q2 := hq' 2 (by simp)
    have x0 := cell_idx (i := 0) ec rfl
    have x1 := cell_idx (i := 1) ec rfl
    have x2 := cell_idx (i := 2) ec rfl
    have hu : u < 3 := hu
    have hl' : l < 3 := hl'
    have dy1 : Dat y1 := by
      by_cases c : 1 = u ∨ 1 = l
      · obtain ⟨y, e, p⟩ := q1.1 c
        cases e; exact p.1
      · have e := q1.2 c
        cases e; exact df
    by_cases c : 0 = u ∨ 0 = l
    · have mn : min u l = 0 := by omega
      rw [mn]
      obtain ⟨y, e, p⟩ := q0.1 c
      cases e
      obtain ⟨fs, e⟩ := between_bad (n := m) (z := .p y2) (by omega) p.1 dy1 (.inl (NotT.spot (x := y0) p.2)) h
      exact cls_of (.inr (.inl rfl)) ⟨fs, law_call3 x0 x1 x2 e (.inr ⟨_, fs, rfl⟩)⟩
    · have e := q0.2 c
      cases e
      by_cases c1 : 1 = u ∨ 1 = l
      · have mn : min u l = 1 := by omega
        rw [mn]
        obtain ⟨y, e, p⟩ := q1.1 c1
        cases e
        obtain ⟨fs, e⟩ := between_bad (n := m) (z := .p y2) (by omega) db p.1 (.inr (NotT.are (x := y1) p.2 _)) h
        exact cls_of (.inr (.inl rfl)) ⟨fs, law_call3 x0 x1 x2 e (.inr ⟨_, fs, rfl⟩)⟩
      · have mn : min u l = 2 := by omega
        rw [mn]
        have e := q1.2 c1
        cases e
        obtain ⟨y, e, p⟩ := q2.1 (by omega)
        cases e
        obtain ⟨fs, e⟩ := between_bad3 (n := m) (by omega) db df p.1 (spt_ok h1 h2) (spt_are (by simp [tlen, spt, hl])) p.2 h
        exact cls_of (.inr (.inr rfl)) ⟨fs, law_call3 x0 x1 x2 e (.inr ⟨_, fs, rfl⟩)⟩
theorem refd5 {m s : Nat} (hm : 7 ≤ m) {qs : List Rat} (h1 : 1 ≤ qs.length) (h2 : qs.length ≤ 80) (hq : ∀ q ∈ qs, Rb 2500 q) : Refd (m + 2) s 5 [.lst (qs.map rt)] [sRatios] := by
  match qs, h1 with
  | q :: qs, _ =>
  rw [List.length_cons] at h2
  have r := rn_bad_ratios (n := m + 2) (s := s) (by omega) (x0 := rt q) (xr := qs.map rt) (by rw [List.length_map]; omega) (rn_bad_ratio (n := m + 1) (by omega) (hq q List.mem_cons_self))
  have bl := base_le (x0 := rt q) (xr := qs.map rt) (by rw [List.length_map]; omega)
  have bm : ∀ y ∈ baseOf (rt q) (qs.map rt), Dat y := fun y hy => by
    have : y ∈ (q :: qs).map rt := base_mem hy
    obtain ⟨z, hz, rfl⟩ := List.mem_map.mp this
    exact rt_dat ((hq z hz).ok (by decide))
  refine ⟨fun i x => SeqBad (baseOf (rt q) (qs.map rt)) (fun x => Dat x ∧ ratioB x = false) (.str [97, 98]) x, rfl, by simp, by simp, fun j x t hx ht => ?_, fun u l hu hl' ys yl hq' h n ec => ?_⟩
  · match j, hx, ht with
    | 0, hx, ht => cases hx; cases ht; exact r
  · match ys, yl with
    | [y0], _ =>
    have hu : u < 1 := hu
    have hl' : l < 1 := hl'
    have mn : min u l = 0 := by omega
    rw [mn]
    obtain ⟨y, e, p⟩ := (hq' 0 (by simp)).1 (by omega)
    cases e
    have x0 := cell_idx (i := 0) ec rfl
    have dy : Dat y0 := seq_dat (by omega) bm (fun b h => h.1) (by exact (by decide : (2 : Nat) ≤ 100)) p
    obtain ⟨fs, e⟩ := total_bad (n := m) (by omega) dy (ratios_bad (fun b h => h.2) p) h
    exact cls_of (.inr (.inr rfl)) ⟨fs, law_call1 x0 e (.inr ⟨_, fs, rfl⟩)⟩
end K15

set_option linter.all false
set_option maxRecDepth 100000
set_option maxHeartbeats 1000000
set_option exponentiation.threshold 700
namespace K15
open Mp
/-! ### _law_refusals: the nine cases -/
theorem ints_dat {is : List Int} (hl : is.length ≤ 1000) (h : ∀ i ∈ is, Iok i) : Dat (.lst (is.map P.int)) := dat_lst (by rw [List.length_map]; exact hl) fun y hy => by
  obtain ⟨i, hi, rfl⟩ := List.mem_map.mp hy
  exact (h i hi).dat
theorem base_tup {α : Type} {F : α → P} {x0 : α} {xr : List α} {Q : P → Prop} (h : ∀ x ∈ x0 :: xr, Q (F x)) : ∀ y ∈ baseOf (F x0) (xr.map F), Q y := fun y hy => by
  have : y ∈ (x0 :: xr).map F := base_mem hy
  obtain ⟨z, hz, rfl⟩ := List.mem_map.mp this
  exact h z hz
theorem CdOk.refd1 {g : Bool} {d : Nat} {c : Cd} (o : CdOk g d c) {m s : Nat} (hm : 7 ≤ m) : Refd (m + 2) s 1 [.lst (c.fs.map frm), .lst (c.ns.map P.int)] [sForms, sNumbers] := by
  have fo := o.form_ok
  have no := o.num_ok
  have nl := o.nsl
  have fl := o.fsl
  have fn := o.fsn
  have d1 := o.d1
  have d3 := o.d3
  obtain ⟨fs, efs⟩ : ∃ x, x = c.fs := ⟨_, rfl⟩
  obtain ⟨ns, ens⟩ : ∃ x, x = c.ns := ⟨_, rfl⟩
  rw [← efs] at fo nl fl fn ⊢
  rw [← ens] at no nl ⊢
  match fs, fn with
  | f0 :: fr, _ =>
  match ns, nl with
  | n0 :: nr, nl =>
  rw [List.length_cons] at fl
  rw [List.length_cons, List.length_cons] at nl
  obtain ⟨l0, i0⟩ := fo f0 List.mem_cons_self
  obtain ⟨a0, ar, rfl⟩ : ∃ a0 ar, f0 = a0 :: ar := by
    cases f0 with
    | nil => cases l0
    | cons a b => exact ⟨a, b, rfl⟩
  have rf := bad_form (n := m + 1) (s := s) (by omega) (is := a0 :: ar) (by omega) (by omega) i0
  have l0' : ar.length + 1 = d + 1 := l0
  have r0 := rn_bad_forms (n := m + 2) (s := s) (by omega) (x0 := frm (a0 :: ar)) (xr := fr.map frm) (by rw [List.length_map]; omega) rf (y0 := .int a0) (yr := ar.map P.int) rfl (by rw [List.length_map]; omega)
  have r1 := rn_bad_numbers (n := m + 2) (s := s) (by omega) (x0 := P.int n0) (xr := nr.map P.int) (by rw [List.length_map]; omega)
  have fd : ∀ f ∈ (a0 :: ar) :: fr, Dat (frm f) := fun f hf => frm_dat (by rw [(fo f hf).1]; omega) (fo f hf).2
  have ni : ∀ y ∈ P.int n0 :: nr.map P.int, Dat y := fun y hy => by
    have : y ∈ (n0 :: nr).map P.int := hy
    obtain ⟨z, hz, rfl⟩ := List.mem_map.mp this
    exact (no z hz).dat
  have bl := base_le (x0 := frm (a0 :: ar)) (xr := fr.map frm) (by rw [List.length_map]; omega)
  have eb : ∀ b, ((Dat b ∧ formB b = false ∧ areB wholeB b ((a0 :: ar).length : Int) = false) ∨ b = .tup ((P.int a0 :: ar.map P.int) ++ [.int a0])) → Dat b := fun b hb => by
    rcases hb with h | rfl
    · exact h.1
    · refine dat_tup (by simp; omega) fun x hx => ?_
      have : x ∈ (a0 :: (ar ++ [a0])).map P.int := by simpa using hx
      obtain ⟨z, hz, rfl⟩ := List.mem_map.mp this
      refine (i0 z ?_).dat
      rcases List.mem_cons.mp hz with w | w
      · rw [w]; exact List.mem_cons_self
      · rcases List.mem_append.mp w with w | w
        · exact List.mem_cons_of_mem _ w
        · rw [List.mem_singleton.mp w]; exact List.mem_cons_self
  refine refd2 hm (.inl rfl) (ints_dat (is := n0 :: nr) (by rw [List.length_cons]; omega) no) r0 r1 (fun y hy => num_dat (by rw [List.length_cons, List.length_map]; omega) ni (fun y hy => bads_dat y (nums_sub y hy)) hy) (.inl rfl) (.inr (.inr rfl)) (fun x y h hx hy => ?_) (fun y h hy => ?_)
  · have dx : Dat x := seq_dat (by omega) (base_tup fd) eb (dat_lst (by simp) (by simp)) hx
    exact combine_bad (n := m) (by omega) dx (seq_bad (chkB := formB) (elB := wholeB) (len := d + 1) (base_tup (F := frm) (Q := fun y => ∃ ys, y = .tup ys ∧ ys.length = d + 1) fun f hf => ⟨_, rfl, by rw [List.length_map]; exact (fo f hf).1⟩) base_len (fun b hb => by
      rcases hb with h | rfl
      · exact .inl ⟨h.2.1, by rw [← l0]; exact h.2.2⟩
      · exact .inr ⟨_, rfl, by simp; omega⟩) rfl hx) h
  · have nb := numbers_bad (xs := P.int n0 :: nr.map P.int) (by simp) hy
    have e : ((P.int n0 :: nr.map P.int).length : Int) = (((a0 :: ar) :: fr).length : Int) := by simp; omega
    rw [e] at nb
    exact combine_bad2 (n := m) (fs := (a0 :: ar) :: fr) (d := d + 1) (by omega) (.inl rfl) (by simp) (by rw [List.length_cons]; omega) (by omega) (by omega) fo (num_dat (by rw [List.length_cons, List.length_map]; omega) ni (fun y hy => bads_dat y (nums_sub y hy)) hy) nb h
theorem CdOk.refd2 {g : Bool} {d : Nat} {c : Cd} (o : CdOk g d c) {m s : Nat} (hm : 7 ≤ m) : Refd (m + 2) s 2 [.lst (c.ss.map spt), .lst (c.cs.map P.int)] [sSpots, sCounts] := by
  have fo : ∀ s ∈ c.ss, s.length = d ∧ ∀ q ∈ s, Rok q := fun s hs => ⟨(o.hss s hs).1, fun q hq => ((o.hss s hs).2 q hq).rb.ok (by decide)⟩
  have no : ∀ n ∈ c.cs, Iok n := fun n hn => small' (o.count n hn) (by decide)
  have nl := o.csl
  have fl := o.ssl
  have fn := o.ssn
  have d1 := o.d1
  have d3 := o.d3
  obtain ⟨fs, efs⟩ : ∃ x, x = c.ss := ⟨_, rfl⟩
  obtain ⟨ns, ens⟩ : ∃ x, x = c.cs := ⟨_, rfl⟩
  rw [← efs] at fo nl fl fn ⊢
  rw [← ens] at no nl ⊢
  match fs, fn with
  | f0 :: fr, _ =>
  match ns, nl with
  | n0 :: nr, nl =>
  rw [List.length_cons] at fl
  rw [List.length_cons, List.length_cons] at nl
  obtain ⟨l0, i0⟩ := fo f0 List.mem_cons_self
  obtain ⟨a0, ar, rfl⟩ : ∃ a0 ar, f0 = a0 :: ar := by
    cases f0 with
    | nil => rw [List.length_nil] at l0; omega
    | cons a b => exact ⟨a, b, rfl⟩
  have rf := bad_spot (n := m + 1) (s := s) (by omega) (qs := a0 :: ar) (by omega) (by omega) i0
  have l0' : ar.length + 1 = d := l0
  have r0 := rn_bad_spots (n := m + 2) (s := s) (by omega) (x0 := spt (a0 :: ar)) (xr := fr.map spt) (by rw [List.length_map]; omega) rf (y0 := rt a0) (yr := ar.map rt) rfl (by rw [List.length_map]; omega)
  have r1 := rn_bad_counts (n := m + 2) (s := s) (by omega) (x0 := P.int n0) (xr := nr.map P.int) (by rw [List.length_map]; omega)
  have fd : ∀ f ∈ (a0 :: ar) :: fr, Dat (spt f) := fun f hf => spt_dat (by rw [(fo f hf).1]; omega) (fo f hf).2
  have ni : ∀ y ∈ P.int n0 :: nr.map P.int, Dat y := fun y hy => by
    have : y ∈ (n0 :: nr).map P.int := hy
    obtain ⟨z, hz, rfl⟩ := List.mem_map.mp this
    exact (no z hz).dat
  have bl := base_le (x0 := spt (a0 :: ar)) (xr := fr.map spt) (by rw [List.length_map]; omega)
  have eb : ∀ b, ((Dat b ∧ NotT ratioB b) ∨ b = .tup ((rt a0 :: ar.map rt) ++ [rt a0])) → Dat b := fun b hb => by
    rcases hb with h | rfl
    · exact h.1
    · refine dat_tup (by simp; omega) fun x hx => ?_
      have : x ∈ (a0 :: (ar ++ [a0])).map rt := by simpa using hx
      obtain ⟨z, hz, rfl⟩ := List.mem_map.mp this
      refine rt_dat (i0 z ?_)
      rcases List.mem_cons.mp hz with w | w
      · rw [w]; exact List.mem_cons_self
      · rcases List.mem_append.mp w with w | w
        · exact List.mem_cons_of_mem _ w
        · rw [List.mem_singleton.mp w]; exact List.mem_cons_self
  refine K15.refd2 hm (.inr (.inl rfl)) (ints_dat (is := n0 :: nr) (by rw [List.length_cons]; omega) no) r0 r1 (fun y hy => num_dat (by rw [List.length_cons, List.length_map]; omega) ni bads_dat hy) (.inr (.inl rfl)) (.inr (.inr rfl)) (fun x y h hx hy => ?_) (fun y h hy => ?_)
  · have dx : Dat x := seq_dat (by omega) (base_tup fd) eb (dat_lst (by simp) (by simp)) hx
    exact mean_bad (n := m) (by omega) dx (seq_bad (chkB := spotB) (elB := ratioB) (len := d) (base_tup (F := spt) (Q := fun y => ∃ ys, y = .tup ys ∧ ys.length = d) fun f hf => ⟨_, rfl, by rw [List.length_map]; exact (fo f hf).1⟩) base_len (fun b hb => by
      rcases hb with h | rfl
      · exact .inl ⟨NotT.spot h.2, NotT.are h.2 _⟩
      · exact .inr ⟨_, rfl, by simp; omega⟩) rfl hx) h
  · have nb := counts_bad (xs := P.int n0 :: nr.map P.int) (by simp) hy
    have e : ((P.int n0 :: nr.map P.int).length : Int) = (((a0 :: ar) :: fr).length : Int) := by simp; omega
    rw [e] at nb
    exact mean_bad2 (n := m) (ss := (a0 :: ar) :: fr) (d := d) (by omega) (.inl rfl) (by simp) (by rw [List.length_cons]; omega) (by omega) (by omega) fo (num_dat (by rw [List.length_cons, List.length_map]; omega) ni bads_dat hy) nb h
theorem CdOk.refd3 {g : Bool} {d : Nat} {c : Cd} (o : CdOk g d c) {m s : Nat} (hm : 7 ≤ m) : Refd (m + 2) s 3 [spt (c.mean d), spt c.mixed] [sSpot, sSpot] := by
  have d1 := o.d1
  have d3 := o.d3
  have l1 : (c.mean d).length = d := CdOk.mean_len
  have l2 := o.mixed_len
  have r1 : ∀ q ∈ c.mean d, Rok q := fun q hq => (o.mean_rb q hq).ok (by decide)
  have r2 : ∀ q ∈ c.mixed, Rok q := fun q hq => (o.mixed_rb q hq).ok (by decide)
  have e1 := spt_dat (qs := c.mean d) (by omega) r1
  refine K15.refd2 hm (.inr (.inr (.inl rfl))) (spt_dat (qs := c.mixed) (by omega) r2) (rn4 (bad_spot (by omega) (by omega) (by omega) r1) (by decide)) (rn4 (bad_spot (by omega) (by omega) (by omega) r2) (by decide)) (fun y h => h.1) (.inr (.inl rfl)) (.inr (.inl rfl)) (fun x y h hx hy => ?_) (fun y h hy => ?_)
  · exact compare_bad (n := m) (by omega) hx.1 hy (.inl (NotT.spot hx.2)) h
  · exact compare_bad (n := m) (by omega) e1 hy.1 (.inr (NotT.are hy.2 _)) h
theorem CdOk.f0v_mem {g : Bool} {d : Nat} {c : Cd} (o : CdOk g d c) : c.f0v ∈ c.fs := by
  have fn := o.fsn
  unfold Cd.f0v
  cases e : c.fs with
  | nil => exact absurd e fn
  | cons a b => exact List.mem_cons_self
theorem CdOk.refd4 {g : Bool} {d : Nat} {c : Cd} (o : CdOk g d c) {m s : Nat} (hm : 7 ≤ m) : Refd (m + 2) s 4 [frm c.f0v, spt c.mixed] [sForm, sSpot] := by
  have d1 := o.d1
  have d3 := o.d3
  obtain ⟨l1, r1⟩ := o.form_ok _ o.f0v_mem
  have l2 := o.mixed_len
  have r2 : ∀ q ∈ c.mixed, Rok q := fun q hq => (o.mixed_rb q hq).ok (by decide)
  have e1 := frm_dat (is := c.f0v) (by omega) r1
  refine K15.refd2 hm (.inr (.inr (.inr (.inl rfl)))) (spt_dat (qs := c.mixed) (by omega) r2) (rn4 (bad_form (by omega) (by omega) (by omega) r1) (by decide)) (rn4 (bad_spot (by omega) (by omega) (by omega) r2) (by decide)) (fun y h => h.1) (.inl rfl) (.inr (.inl rfl)) (fun x y h hx hy => ?_) (fun y h hy => ?_)
  · exact value_bad (n := m) (by omega) hx.1 hx.2.1 h
  · exact value_bad2 (n := m) (by omega) e1 hy.1 (frm_ok (by omega) (by omega)) (NotT.are hy.2 _) h
theorem refd678 {m s k : Nat} (hm : 7 ≤ m) (hk : k = 6 ∨ k = 7 ∨ k = 8) {p q : Rat} (hp : Rb 2500 p) (hq : Rb 2500 q) : Refd (m + 2) s k [rt p, rt q] [sRatio, sRatio] := by
  have tw : two k = i_plus ∨ two k = i_minus ∨ two k = i_times := by
    rcases hk with rfl | rfl | rfl
    · exact .inl rfl
    · exact .inr (.inl rfl)
    · exact .inr (.inr rfl)
  refine K15.refd2 hm (by omega) (rt_dat (hq.ok (by decide))) (bad_ratio (by omega) hp) (bad_ratio (by omega) hq) (fun y h => h.1) (.inr (.inr rfl)) (.inr (.inr rfl)) (fun x y h hx hy => ?_) (fun y h hy => ?_)
  · exact two_bad (n := m) (by omega) tw hx.1 hy h (.inl hx.2)
  · exact two_bad (n := m) (by omega) tw (rt_dat (hp.ok (by decide))) hy.1 h (.inr ⟨rt_ratio, hy.2⟩)
theorem CdOk.sums_small {d : Nat} {c : Cd} (o : CdOk false d c) : Rb 2500 c.firsts.sum := by
  have l := o.firsts_len
  have sl := o.ssl
  have so := sum_ov (D := 60) (k := 710) (j := 0) (by decide) (a := 0) (ts := c.firsts) Ov.zero fun q hq => by
    have cl := o.firsts_cl q hq
    obtain ⟨e, he⟩ := (cl.lil rfl).1
    have el : e ≤ 60 := by rw [he]; exact Nat.le_mul_of_pos_left _ q.den_pos
    exact Ov.of (k := 700) (j := 10) he (by decide) cl.rb.1 (Nat.lt_of_le_of_lt el (by decide))
  rw [Rat.zero_add] at so
  exact (so.up (k' := 2500) (by omega)).rb (by decide) (small' (n := 6) (by decide) (by decide))
theorem CdOk.refd_all {d : Nat} {c : Cd} (o : CdOk false d c) {m s : Nat} (hm : 7 ≤ m) {x : P} (hx : ∃ l, casesP d c = .lst l ∧ x ∈ l) : ∃ k ts kk due, x = caseP k ts kk due ∧ (∀ z ∈ kk, z ∈ Kinds) ∧ Refd (m + 2) s k ts kk := by
  have d1 := o.d1
  have d3 := o.d3
  obtain ⟨l, el, hx⟩ := hx
  unfold casesP at el
  injection el with el
  rw [← el] at hx
  simp only [List.mem_cons, List.not_mem_nil, or_false] at hx
  rcases hx with rfl | rfl | rfl | rfl | rfl | rfl | rfl | rfl | rfl
  · exact ⟨_, _, _, _, rfl, by simp [Kinds], refd0 hm (by rw [o.lb]; exact d1) (by rw [o.lb]; exact d3) (by rw [o.lb, o.lf]) (fun q hq => (o.hb q hq).rb.ok (by decide)) (fun q hq => (o.hf q hq).rb.ok (by decide)) (o.hs.rb.up (by decide))⟩
  · exact ⟨_, _, _, _, rfl, by simp [Kinds], o.refd1 hm⟩
  · exact ⟨_, _, _, _, rfl, by simp [Kinds], o.refd2 hm⟩
  · exact ⟨_, _, _, _, rfl, by simp [Kinds], o.refd3 hm⟩
  · exact ⟨_, _, _, _, rfl, by simp [Kinds], o.refd4 hm⟩
  · exact ⟨_, _, _, _, rfl, by simp [Kinds], refd5 hm (by rw [o.firsts_len]; exact List.length_pos_iff.mpr o.ssn) (by rw [o.firsts_len]; exact o.ssl) fun q hq => (o.firsts_cl q hq).rb.up (by decide)⟩
  · exact ⟨_, _, _, _, rfl, by simp [Kinds], refd678 hm (.inl rfl) (o.b0.rb.up (by decide)) (o.hs.rb.up (by decide))⟩
  · exact ⟨_, _, _, _, rfl, by simp [Kinds], refd678 hm (.inr (.inl rfl)) (o.f0.rb.up (by decide)) (o.added_rb.up (by decide))⟩
  · exact ⟨_, _, _, _, rfl, by simp [Kinds], refd678 hm (.inr (.inr rfl)) (o.hs.rb.up (by decide)) o.sums_small⟩
end K15

set_option linter.all false
set_option maxRecDepth 100000
set_option maxHeartbeats 2000000
set_option exponentiation.threshold 700
namespace K15
open Mp
/-! ### _law_refusals -/
/-- the cells, and new ones behind them -/
def Gr (L : Nat) (h h' : Hea) : Prop := ∃ h1 r, h' = h1 ++ r ∧ Fr L h h1
theorem Gr.refl {L : Nat} {h : Hea} : Gr L h h := ⟨h, [], by simp, Fr.refl⟩
theorem Gr.of {L : Nat} {h h' : Hea} (F : Fr L h h') : Gr L h h' := ⟨h', [], by simp, F⟩
theorem Gr.trans {L : Nat} {h h' h'' : Hea} (l : L ≤ h.length) (a : Gr L h h') (b : Gr L h' h'') : Gr L h h'' := by
  obtain ⟨h1, r, rfl, F⟩ := a
  obtain ⟨h2, r2, rfl, F2⟩ := b
  obtain ⟨h3, rfl, F3⟩ := F2.split (by rw [F.len]; exact l)
  exact ⟨h3, r ++ r2, by rw [List.append_assoc], F.trans F3⟩
theorem Gr.take {L s N : Nat} {h h' : Hea} (l : L ≤ h.length) (g : Gr L h h') (S : St L s N h') : Fr L h (h'.take h.length) ∧ St L s N (h'.take h.length) := by
  obtain ⟨h1, r, rfl, F⟩ := g
  have e : (h1 ++ r).take h.length = h1 := F.takeApp
  rw [e]
  exact ⟨F, S.unapp (by rw [F.len]; exact l)⟩
theorem idx_ref_at {h h1 : Hea} {i : Nat} {ys : List P} {y : P} (l : h1.length = h.length) (hy : ys[i]? = some y) : idxD (h1 ++ [some (ys.map D.p)]) (.ref h.length) (.p (.int (i : Nat))) = some (.p y) := by
  rw [← l]
  exact cell_idx cell_last hy
theorem ref_in {m bs L s : Nat} {kk : List (List Nat)} {ts : List P} {Φ : Nat → P → Prop} (f l : Nat) (hk : kk.length = ts.length) (hr : ∀ (j : Nat) (x : List Nat) (t : P), kk[j]? = some x → ts[j]? = some t → Rn m i__law_bad 4 [.ref s, .p (.str x), .p t] s (Φ j)) (x1 x2 x3 x4 x6 x11 x12 x13 x14 x15 : Option D) {h0 : Hea} : ∀ (k j N : Nat) (h : Hea) (ys : List P) (d10 : Option D), j + k = ts.length → ys.length = ts.length → (∀ i, j ≤ i → ys[i]? = ts[i]?) → (∀ i, i < j → Qa Φ f l ts i ys) → h.length = h0.length → St L s N h → N + 4 * k ≤ 2 ^ 36 →
    ∃ ys' h' d10', runFor ⟨callN T m, bs⟩ (.one 10) l__law_refusals_1 ((List.range' j k).map fun k => P.int (k : Nat)) [some (.ref s), x1, x2, x3, x4, some (.p (.lst (kk.map P.str))), x6, some (.ref h0.length), some (.p (.int (f : Nat))), some (.p (.int (l : Nat))), d10, x11, x12, x13, x14, x15] (h ++ [some (ys.map D.p)]) =
      .next [some (.ref s), x1, x2, x3, x4, some (.p (.lst (kk.map P.str))), x6, some (.ref h0.length), some (.p (.int (f : Nat))), some (.p (.int (l : Nat))), d10', x11, x12, x13, x14, x15] (h' ++ [some (ys'.map D.p)]) ∧ ys'.length = ts.length ∧ (∀ i, i < ts.length → Qa Φ f l ts i ys') ∧ St L s (N + 4 * k) h' ∧ Fr L h h'
  | 0, j, N, h, ys, d10, hj, yl, y1, y2, hl, S, hN => ⟨ys, h, d10, by simp, yl, fun i hi => y2 i (by omega), S, Fr.refl⟩
  | k + 1, j, N, h, ys, d10, hj, yl, y1, y2, hl, S, hN => by
    have jl : j < ts.length := by omega
    have jk : j < kk.length := by omega
    obtain ⟨t, et⟩ : ∃ t, ts[j]? = some t := ⟨_, List.getElem?_eq_getElem jl⟩
    obtain ⟨x, ex⟩ : ∃ x, kk[j]? = some x := ⟨_, List.getElem?_eq_getElem jk⟩
    have ey : ys[j]? = some t := by rw [y1 j (Nat.le_refl j), et]
    rw [List.range'_succ, List.map_cons]
    have eqn : ∀ (h : Hea) (a b : Nat), cmp2 .eq (.p (.int (a : Int))) (.p (.int (b : Int))) h = .ok (.p (.bl (decide (a = b)))) h := fun h a b => by
      have q : decide ((a : Int) = (b : Int)) = decide (a = b) := decide_eq_decide.mpr Int.ofNat_inj
      rw [cmp2_eqi, eqd, q]
    have i5 : ∀ h : Hea, idxD h (.p (.lst (kk.map P.str))) (.p (.int (j : Nat))) = some (.p (.str x)) := fun h => idx_atL (by rw [List.getElem?_map, ex]; rfl)
    by_cases c : j = f ∨ j = l
    · obtain ⟨y, h1, e1, p1, S1, F1⟩ := Rn.top (hr j x t ex et) (t := [some (ys.map D.p)]) S (by omega)
      have l1 : h1.length = h0.length := by rw [F1.len]; exact hl
      have i7 := idx_ref_at (h := h0) (h1 := h) (i := j) hl ey
      have st := fun ρ => seti_at (bs := bs) (ρ := ρ) (x := y) (h := h0) (h1 := h1) (i := j) (ys := ys) l1 (by omega)
      have body : exs ⟨callN T m, bs⟩ [some (.ref s), x1, x2, x3, x4, some (.p (.lst (kk.map P.str))), x6, some (.ref h0.length), some (.p (.int (f : Nat))), some (.p (.int (l : Nat))), some (.p (.int (j : Nat))), x11, x12, x13, x14, x15] l__law_refusals_1 (h ++ [some (ys.map D.p)]) = .next [some (.ref s), x1, x2, x3, x4, some (.p (.lst (kk.map P.str))), x6, some (.ref h0.length), some (.p (.int (f : Nat))), some (.p (.int (l : Nat))), some (.p (.int (j : Nat))), x11, x12, x13, x14, x15] (h1 ++ [some ((ys.set j y).map D.p)]) := by
        by_cases c1 : j = f
        · have q1 := eqn (h ++ [some (ys.map D.p)]) j f
          rw [decide_eq_true c1] at q1
          simp [-cmp2_eqi, -List.map_set, l__law_refusals_1, exs_cons, ex_set, ex_par, ex_unp, ex_seti, ex_expr, ex_ret, ex_if, ex_while, ex_for, ex_raise, ex_try, ex_frz, ev_bin, ev_neg, ev_cmp, ev_and, ev_or, ev_not, ev_ite, ev_tup, ev_lst, ev_idx, ev_slc00, ev_slc10, ev_slc01, ev_call, ev_callv, ev_comp, ev_blt, ev_meth, evs_cons, evI_seq, evI_rng, evI_zip, evT_and, evT_or, evT_not, evT_cmp, evT_call, evT_blt, evT_var, evT_idx, q1, i5, i7, e1, st]
        · have c2 : j = l := c.resolve_left c1
          have q1 := eqn (h ++ [some (ys.map D.p)]) j f
          have q2 := eqn (h ++ [some (ys.map D.p)]) j l
          rw [decide_eq_false c1] at q1
          rw [decide_eq_true c2] at q2
          simp [-cmp2_eqi, -List.map_set, l__law_refusals_1, exs_cons, ex_set, ex_par, ex_unp, ex_seti, ex_expr, ex_ret, ex_if, ex_while, ex_for, ex_raise, ex_try, ex_frz, ev_bin, ev_neg, ev_cmp, ev_and, ev_or, ev_not, ev_ite, ev_tup, ev_lst, ev_idx, ev_slc00, ev_slc10, ev_slc01, ev_call, ev_callv, ev_comp, ev_blt, ev_meth, evs_cons, evI_seq, evI_rng, evI_zip, evT_and, evT_or, evT_not, evT_cmp, evT_call, evT_blt, evT_var, evT_idx, q1, q2, i5, i7, e1, st]
      rw [for_step (ρ' := [some (.ref s), x1, x2, x3, x4, some (.p (.lst (kk.map P.str))), x6, some (.ref h0.length), some (.p (.int (f : Nat))), some (.p (.int (l : Nat))), some (.p (.int (j : Nat))), x11, x12, x13, x14, x15]) rfl body]
      obtain ⟨ys', h', d', e, a1, a2, S', F'⟩ := ref_in (bs := bs) (h0 := h0) f l hk hr x1 x2 x3 x4 x6 x11 x12 x13 x14 x15 k (j + 1) (N + 4) h1 (ys.set j y) (some (.p (.int (j : Nat)))) (by omega) (by rw [List.length_set]; exact yl) (fun i hi => by rw [List.getElem?_set_ne (by omega)]; exact y1 i (by omega)) (fun i hi => by
        by_cases z : i = j
        · subst z
          exact ⟨fun _ => ⟨y, List.getElem?_set_self (by omega), p1⟩, fun w => absurd c w⟩
        · have q := y2 i (by omega)
          unfold Qa at q ⊢
          rw [List.getElem?_set_ne (by omega)]
          exact q) l1 S1 (by omega)
      exact ⟨ys', h', d', e, a1, a2, S'.up (by omega), F1.trans F'⟩
    · have body : exs ⟨callN T m, bs⟩ [some (.ref s), x1, x2, x3, x4, some (.p (.lst (kk.map P.str))), x6, some (.ref h0.length), some (.p (.int (f : Nat))), some (.p (.int (l : Nat))), some (.p (.int (j : Nat))), x11, x12, x13, x14, x15] l__law_refusals_1 (h ++ [some (ys.map D.p)]) = .next [some (.ref s), x1, x2, x3, x4, some (.p (.lst (kk.map P.str))), x6, some (.ref h0.length), some (.p (.int (f : Nat))), some (.p (.int (l : Nat))), some (.p (.int (j : Nat))), x11, x12, x13, x14, x15] (h ++ [some (ys.map D.p)]) := by
        have q1 := eqn (h ++ [some (ys.map D.p)]) j f
        have q2 := eqn (h ++ [some (ys.map D.p)]) j l
        rw [decide_eq_false fun z => c (.inl z)] at q1
        rw [decide_eq_false fun z => c (.inr z)] at q2
        simp [-cmp2_eqi, l__law_refusals_1, exs_cons, ex_set, ex_par, ex_unp, ex_seti, ex_expr, ex_ret, ex_if, ex_while, ex_for, ex_raise, ex_try, ex_frz, ev_bin, ev_neg, ev_cmp, ev_and, ev_or, ev_not, ev_ite, ev_tup, ev_lst, ev_idx, ev_slc00, ev_slc10, ev_slc01, ev_call, ev_callv, ev_comp, ev_blt, ev_meth, evs_cons, evI_seq, evI_rng, evI_zip, evT_and, evT_or, evT_not, evT_cmp, evT_call, evT_blt, evT_var, evT_idx, q1, q2]
      rw [for_step (ρ' := [some (.ref s), x1, x2, x3, x4, some (.p (.lst (kk.map P.str))), x6, some (.ref h0.length), some (.p (.int (f : Nat))), some (.p (.int (l : Nat))), some (.p (.int (j : Nat))), x11, x12, x13, x14, x15]) rfl body]
      obtain ⟨ys', h', d', e, a1, a2, S', F'⟩ := ref_in (bs := bs) (h0 := h0) f l hk hr x1 x2 x3 x4 x6 x11 x12 x13 x14 x15 k (j + 1) (N + 4) h ys (some (.p (.int (j : Nat)))) (by omega) yl (fun i hi => y1 i (by omega)) (fun i hi => by
        by_cases z : i = j
        · subst z
          exact ⟨fun w => absurd w c, fun _ => by rw [ey, et]⟩
        · exact y2 i (by omega)) hl (S.up (by omega)) (by omega)
      exact ⟨ys', h', d', e, a1, a2, S'.up (by omega), F'⟩
def casesL (d : Nat) (c : Cd) : List P := match casesP d c with
  | .lst l => l
  | _ => []
theorem casesP_eq {d : Nat} {c : Cd} : casesP d c = .lst (casesL d c) := rfl
theorem casesL_len {d : Nat} {c : Cd} : (casesL d c).length = 9 := rfl
theorem unp1_four {ρ : Slots} {i j k l : Nat} {a b c d : P} {h : Hea} : unp1 ρ [i, j, k, l] (.p (.tup [a, b, c, d])) h = .next ((((ρ.set i (some (.p a))).set j (some (.p b))).set k (some (.p c))).set l (some (.p d))) h := rfl
theorem unp1_threeL {ρ : Slots} {i j k : Nat} {a b c : P} {h : Hea} : unp1 ρ [i, j, k] (.p (.lst [a, b, c])) h = .next (((ρ.set i (some (.p a))).set j (some (.p b))).set k (some (.p c))) h := rfl
theorem mk_bl3 {a b c : Bool} {h : Hea} : mk false [.p (.bl a), .p (.bl b), .p (.bl c)] h = .ok (.p (.lst [.bl a, .bl b, .bl c])) h := rfl
theorem kinds_test {x : List Nat} (hx : x ∈ Kinds) : (∀ h : Hea, slc3 false (.p (.str x)) none (some 4) h = .ok (.p (.str (x.take 4))) h) ∧ (∀ h : Hea, cmp2 .eq (.p (.str (x.take 4))) (.p (.str sForm)) h = .ok (.p (.bl (decide (clsOf x = c_BadForm)))) h) ∧ (∀ h : Hea, cmp2 .eq (.p (.str (x.take 4))) (.p (.str sSpot)) h = .ok (.p (.bl (decide (clsOf x = c_BadSpot)))) h) ∧ (∀ h : Hea, cmp2 .notin (.p (.str (x.take 4))) (.p (.tup [.str sForm, .str sSpot])) h = .ok (.p (.bl (decide (clsOf x = c_BadNumber)))) h) ∧ (∀ h : Hea, cmp2 .ne (.p (cls3 (clsOf x))) (.p (cls3 (clsOf x))) h = .ok (.p (.bl false)) h) := by
  simp only [Kinds, List.mem_cons, List.not_mem_nil, or_false] at hx
  rcases hx with rfl | rfl | rfl | rfl | rfl | rfl | rfl | rfl <;> exact ⟨fun _ => rfl, fun _ => rfl, fun _ => rfl, fun _ => rfl, fun _ => rfl⟩
end K15

set_option linter.all false
set_option maxRecDepth 100000
set_option maxHeartbeats 2000000
set_option exponentiation.threshold 700
namespace K15
open Mp
/-! ### _law_refusals, whole -/
theorem min_pair {f l : Nat} : (if (l : Int) < (f : Int) then (l : Int) else (f : Int)) = ((min f l : Nat) : Int) := by
  by_cases c : (l : Int) < (f : Int)
  · rw [if_pos c]; congr 1; omega
  · rw [if_neg c]; congr 1; omega
theorem ref_turn {m : Nat} (hm : 9 ≤ m) {bs L s : Nat} {d : Nat} {c : Cd} (o : CdOk false d c) (x2 x3 x4 x5 x6 x7 x8 x9 x10 x11 x12 x13 x14 x15 : Option D) {N : Nat} {h : Hea} (S : St L s N h) (hN : N + 20 ≤ 2 ^ 36) :
    ∃ x3' x4' x5' x6' x7' x8' x9' x10' x11' h', exs ⟨callN T m, bs⟩ [some (.ref s), some (.p (casesP d c)), x2, x3, x4, x5, x6, x7, x8, x9, x10, x11, x12, x13, x14, x15] l__law_refusals_2 h =
      .next [some (.ref s), some (.p (casesP d c)), x2, x3', x4', x5', x6', x7', x8', x9', x10', x11', x12, x13, x14, x15] h' ∧ St L s (N + 20) h' ∧ Gr L h h' := by
  obtain ⟨m', rfl⟩ : ∃ m', m = m' + 2 := ⟨m - 2, by omega⟩
  obtain ⟨x, h1, e1, p1, S1, F1⟩ := rn_pick (n := m' + 2) (s := s) (by omega) (xs := casesL d c) (by simp [← List.length_pos_iff, casesL_len]) (by rw [casesL_len]; decide) L N h S (by omega)
  obtain ⟨k, ts, kk, due, rfl, kin, ⟨Φ, hk, l1, l3, hr, hc⟩⟩ := o.refd_all (m := m') (s := s) (by omega) ⟨_, casesP_eq, p1⟩
  have nw := list_new (xs := ts) (h := h1) (by exact Nat.le_trans l3 (by decide))
  obtain ⟨w0, h2, e2, ⟨f, rfl, f0, f1, f2⟩, S2, F2⟩ := Rn.top (rn_take (n := m' + 2) (s := s) (by omega) (ts.length : Int) (len_big (by omega))) (t := [some (ts.map D.p)]) S1 (by omega)
  obtain ⟨w1, h3, e3, ⟨l, rfl, l0, l1', l2⟩, S3, F3⟩ := Rn.top (rn_take (n := m' + 2) (s := s) (by omega) (ts.length : Int) (len_big (by omega))) (t := [some (ts.map D.p)]) S2 (by omega)
  have fl : f < ts.length := by
    by_cases z : 2 ≤ (ts.length : Int)
    · exact f1 z
    · have := f2 (by omega); omega
  have ll : l < ts.length := by
    by_cases z : 2 ≤ (ts.length : Int)
    · exact l1' z
    · have := l2 (by omega); omega
  obtain ⟨f', rfl⟩ : ∃ f' : Nat, f = (f' : Nat) := ⟨f.toNat, by omega⟩
  obtain ⟨l', rfl⟩ : ∃ l' : Nat, l = (l' : Nat) := ⟨l.toNat, by omega⟩
  have hl3 : h3.length = h1.length := by rw [F3.len, F2.len]
  obtain ⟨ys, h4, d10, e4, yl, yq, S4, F4⟩ := ref_in (m := m' + 2) (bs := bs) (L := L) (s := s) (kk := kk) (ts := ts) (Φ := Φ) f' l' hk hr (some (.p (casesP d c))) x2 (some (.p (.int (k : Nat)))) (some (.p (.lst ts))) (some (.p due)) x11 x12 x13 x14 x15 (h0 := h1) ts.length 0 (N + 1 + 1 + 1) h3 ts x10 (by omega) rfl (fun i _ => rfl) (fun i hi => by omega) hl3 S3 (by omega)
  have cl : callN T (m' + 2) i__law_class [.p (.int (k : Nat)), .ref h1.length] (h4 ++ [some (ys.map D.p)]) = .ok (.p (cls3 (clsOf (kk.getD (min f' l') [])))) (h4 ++ [some (ys.map D.p)]) := by
    have := hc f' l' (by omega) (by omega) ys yl yq (h4 ++ [some (ys.map D.p)]) h4.length cell_last
    have e : h4.length = h1.length := by rw [F4.len, hl3]
    rw [e] at this
    exact this
  obtain ⟨kd, ekd⟩ : ∃ kd, kd = kk.getD (min f' l') [] := ⟨_, rfl⟩
  have kl : min f' l' < kk.length := by omega
  have kat : kk[min f' l']? = some kd := by
    rw [ekd, List.getD_eq_getElem?_getD, List.getElem?_eq_getElem kl]; rfl
  rw [← ekd] at cl
  obtain ⟨t1, t2, t3, t4, t5⟩ := kinds_test (kin kd (List.mem_of_getElem? kat))
  have ix : ∀ h : Hea, idxD h (.p (.lst (kk.map P.str))) (.p (.int ((min f' l' : Nat) : Int))) = some (.p (.str kd)) := fun h => idx_atL (by rw [List.getElem?_map, kat]; rfl)
  have rg := fun h => rng_at (d := ts.length) (h := h) (by omega)
  rw [List.range_eq_range'] at rg
  have lk : ∀ h : Hea, blt1 .len false [.p (.lst (kk.map P.str))] h = .ok (.p (.int (ts.length : Int))) h := fun h => by
    rw [blt1_len_lst, List.length_map, hk]
  have mb := fun (h : Hea) => mk_bl3 (a := decide (clsOf kd = c_BadForm)) (b := decide (clsOf kd = c_BadSpot)) (c := decide (clsOf kd = c_BadNumber)) (h := h)
  refine ⟨some (.p (.int (k : Nat))), some (.p (.lst ts)), some (.p (.lst (kk.map P.str))), some (.p due), some (.ref h1.length), some (.p (.int (f' : Nat))), some (.p (.int (l' : Nat))), d10, some (.p (.str kd)), h4 ++ [some (ys.map D.p)], ?_, (St.app (r := [some (ys.map D.p)]) S4).up (by omega), ⟨h4, [some (ys.map D.p)], rfl, F1.trans (F2.trans (F3.trans F4))⟩⟩
  have mp : (if l' < f' then (l' : Int) else (f' : Int)) = ((min f' l' : Nat) : Int) := by
    rw [← min_pair]
    by_cases z : l' < f'
    · rw [if_pos z, if_pos (by omega)]
    · rw [if_neg z, if_neg (by omega)]
  rw [← mp] at ix
  have t5' : ∀ h : Hea, cmp2 .ne (.p (cls3 (clsOf kd))) (.p (.lst [.bl (decide (clsOf kd = c_BadForm)), .bl (decide (clsOf kd = c_BadSpot)), .bl (decide (clsOf kd = c_BadNumber))])) h = .ok (.p (.bl false)) h := t5
  have e1 : callN T (m' + 2) i__law_pick [.ref s, .p (casesP d c)] h = .ok (.p (caseP k ts kk due)) h1 := e1
  simp [-decide_eq_true_eq, -blt1_len_lst, l__law_refusals_2, exs_cons, ex_set, ex_par, ex_unp, ex_seti, ex_expr, ex_ret, ex_if, ex_while, ex_for, ex_raise, ex_try, ex_frz, ev_bin, ev_neg, ev_cmp, ev_and, ev_or, ev_not, ev_ite, ev_tup, ev_lst, ev_idx, ev_slc00, ev_slc10, ev_slc01, ev_call, ev_callv, ev_comp, ev_blt, ev_meth, evs_cons, evI_seq, evI_rng, evI_zip, evT_and, evT_or, evT_not, evT_cmp, evT_call, evT_blt, evT_var, evT_idx, e1, caseP, unp1_four, nw, lk, e2, e3, rg, e4, ix, cl, ends1, t1, t2, t3, tup_p2, t4, mb, t5']
theorem ref_out {m : Nat} (hm : 9 ≤ m) {bs L s : Nat} {d : Nat} {c : Cd} (o : CdOk false d c) (x12 x13 x14 x15 : Option D) : ∀ (xs : List P) (N : Nat) (h : Hea) (x2 x3 x4 x5 x6 x7 x8 x9 x10 x11 : Option D), St L s N h → N + 20 * xs.length ≤ 2 ^ 36 →
    ∃ x2' x3' x4' x5' x6' x7' x8' x9' x10' x11' h', runFor ⟨callN T m, bs⟩ (.one 2) l__law_refusals_2 xs [some (.ref s), some (.p (casesP d c)), x2, x3, x4, x5, x6, x7, x8, x9, x10, x11, x12, x13, x14, x15] h =
      .next [some (.ref s), some (.p (casesP d c)), x2', x3', x4', x5', x6', x7', x8', x9', x10', x11', x12, x13, x14, x15] h' ∧ St L s (N + 20 * xs.length) h' ∧ Gr L h h'
  | [], N, h, x2, x3, x4, x5, x6, x7, x8, x9, x10, x11, S, _ => ⟨_, _, _, _, _, _, _, _, _, _, h, for_nil, S, Gr.refl⟩
  | x :: xs, N, h, x2, x3, x4, x5, x6, x7, x8, x9, x10, x11, S, hN => by
    rw [List.length_cons] at hN
    obtain ⟨y3, y4, y5, y6, y7, y8, y9, y10, y11, h1, e1, S1, G1⟩ := ref_turn hm (bs := bs) o (some (.p x)) x3 x4 x5 x6 x7 x8 x9 x10 x11 x12 x13 x14 x15 S (by omega)
    rw [for_step (ρ' := [some (.ref s), some (.p (casesP d c)), some (.p x), x3, x4, x5, x6, x7, x8, x9, x10, x11, x12, x13, x14, x15]) rfl e1]
    obtain ⟨z2, z3, z4, z5, z6, z7, z8, z9, z10, z11, h2, e2, S2, G2⟩ := ref_out hm o x12 x13 x14 x15 xs (N + 20) h1 (some (.p x)) y3 y4 y5 y6 y7 y8 y9 y10 y11 S1 (by omega)
    exact ⟨z2, z3, z4, z5, z6, z7, z8, z9, z10, z11, h2, e2, S2.up (by rw [List.length_cons]; omega), G1.trans S.ll G2⟩
theorem rn_refusals {n s : Nat} (hn : 10 ≤ n) {d : Nat} {c : Cd} (o : CdOk false d c) : Rn n i__law_refusals 100 [.ref s, .p (casesP d c)] s fun x => x = .bl true := fun L N h S l => by
  obtain ⟨m, rfl⟩ : ∃ m, n = m + 1 := ⟨n - 1, by omega⟩
  obtain ⟨m', rfl⟩ : ∃ m', m = m' + 2 := ⟨m - 2, by omega⟩
  obtain ⟨z2, z3, z4, z5, z6, z7, z8, z9, z10, z11, h1, e1, S1, G1⟩ := ref_out (m := m' + 2) (by omega) (bs := h.length) o none none none none ((List.range 5).map fun k => P.int (k : Nat)) N h none none none none none none none none none none S (by simp; omega)
  obtain ⟨F1, S1'⟩ := G1.take S.ll S1
  have S1' : St L s (N + 100) (h1.take h.length) := S1'.up (by simp)
  have d1 := o.d1
  have d3 := o.d3
  have rg := rng_at (d := 5) (h := h) (by decide)
  have rg : rng1 [.p (.int 5)] h = .ok ((List.range 5).map fun k => P.int (k : Nat)) h := rg
  generalize (List.range 5).map (fun k => P.int (k : Nat)) = big at rg e1
  have i0 : idxD h1 (.p (casesP d c)) (.p (.int 0)) = some (.p (caseP 0 [spt c.b, spt c.f, rt c.s] [sSpot, sSpot, sRatio] (spt c.mixed))) := rfl
  have i1 : idxD h1 (.p (caseP 0 [spt c.b, spt c.f, rt c.s] [sSpot, sSpot, sRatio] (spt c.mixed))) (.p (.int 1)) = some (.p (.lst [spt c.b, spt c.f, rt c.s])) := rfl
  obtain ⟨q, qs, eq⟩ : ∃ q qs, c.f = q :: qs := by
    cases e : c.f with
    | nil => have := o.lf; rw [e, List.length_nil] at this; omega
    | cons q qs => exact ⟨q, qs, rfl⟩
  have hl : (q :: qs).length = d := by rw [← eq]; exact o.lf
  have sl := slc_one (x := rt q) (xs := qs.map rt) (h := h1)
  have ad := add_t (xs := (q :: qs).map rt) (ys := [rt q]) (h := h1) (by rw [List.length_map, hl]; exact Nat.le_trans (by omega : d + 1 ≤ 4) (by decide))
  obtain ⟨w, ew⟩ : ∃ w, w = P.tup ((q :: qs).map rt ++ [rt q]) := ⟨_, rfl⟩
  have sl' : slc3 false (.p (spt (q :: qs))) none (some 1) h1 = .ok (.p (.tup [rt q])) h1 := sl
  have ad' : bin2 .add (.p (spt (q :: qs))) (.p (.tup [rt q])) h1 = .ok (.p w) h1 := by rw [ew]; exact ad
  have dw : Dat w := by
    rw [ew]
    refine dat_tup (by simp; rw [List.length_cons] at hl; omega) fun x hx => ?_
    have : x ∈ ((q :: qs) ++ [q]).map rt := by simpa using hx
    obtain ⟨z, hz, rfl⟩ := List.mem_map.mp this
    refine rt_dat ((o.hf z ?_).rb.ok (by decide))
    rw [eq]
    rcases List.mem_append.mp hz with u | u
    · exact u
    · rw [List.mem_singleton.mp u]; exact List.mem_cons_self
  have bw : areB ratioB w (tlen (spt c.b)) = false := by
    rw [ew]
    refine are_len ?_
    have lb := o.lb
    simp [tlen, spt, lb] at hl ⊢
    omega
  obtain ⟨fs, eb⟩ := between_bad (n := m') (x := spt c.b) (y := w) (z := .p (rt c.s)) (by omega) (spt_dat (by rw [o.lb]; omega) fun q hq => (o.hb q hq).rb.ok (by decide)) dw (.inr bw) h1
  have lc := law_call3 (n := m') (x := .p (.lst [spt c.b, w, rt c.s])) (h := h1) rfl rfl rfl eb (.inr ⟨_, fs, rfl⟩)
  have c1 := law_class (n := m' + 1) (.inr (.inl rfl)) lc
  obtain ⟨gs, ez⟩ := over_zero (n := m') (p := c.s) (by omega) (o.hs.rb.ok (by decide)) h1
  have lz := law_call2 (n := m') (k := 9) (x := .p (.lst [rt c.s, .tup [.int 0, .int 1]])) (h := h1) (by omega) rfl rfl ez (.inr ⟨_, gs, rfl⟩)
  have c2 := law_class (n := m' + 1) (.inr (.inr rfl)) lz
  have c2 : callN T (m' + 2) i__law_class [.p (.int 9), .p (.lst [rt c.s, .tup [.int 0, .int 1]])] h1 = .ok (.p (cls3 c_BadNumber)) h1 := c2
  have m3 := fun a b c => mk_p3 (a := a) (b := b) (c := c) (h := h1)
  have m2 : mk false [.p (rt c.s), .p (.tup [.int 0, .int 1])] h1 = .ok (.p (.lst [rt c.s, .tup [.int 0, .int 1]])) h1 := rfl
  have t1 : cmp2 .eq (.p (cls3 c_BadSpot)) (.p (.lst [.bl false, .bl true, .bl false])) h1 = .ok (.p (.bl true)) h1 := rfl
  have t2 : cmp2 .eq (.p (cls3 c_BadNumber)) (.p (.lst [.bl false, .bl false, .bl true])) h1 = .ok (.p (.bl true)) h1 := rfl
  refine ⟨_, h1.take h.length, ?_, rfl, S1', F1⟩
  rw [call_eq (fd := f__law_refusals) rfl rfl]
  rw [eq] at i0 i1
  simp [ends1, f__law_refusals, b__law_refusals, startS, exs_cons, ex_set, ex_par, ex_unp, ex_seti, ex_expr, ex_ret, ex_if, ex_while, ex_for, ex_raise, ex_try, ex_frz, ev_bin, ev_neg, ev_cmp, ev_and, ev_or, ev_not, ev_ite, ev_tup, ev_lst, ev_idx, ev_slc00, ev_slc10, ev_slc01, ev_call, ev_callv, ev_comp, ev_blt, ev_meth, evs_cons, evI_seq, evI_rng, evI_zip, evT_and, evT_or, evT_not, evT_cmp, evT_call, evT_blt, evT_var, evT_idx, rg, e1, i0, i1, eq, unp1_threeL, sl', ad', m3, c1, m2, c2, t1, t2, tup_p2]
end K15

set_option linter.all false
set_option maxRecDepth 100000
set_option maxHeartbeats 1000000
set_option exponentiation.threshold 700
namespace K15
open Mp
/-! ### law: the nine cases, one after another -/
mutual
theorem eqP_sm : ∀ {x : P}, Sm x → eqP x x = true
  | .int i, _ => by simp [eqP]
  | .tup xs, h => by rw [eqP]; exact eqL_sm h.2
  | .lst xs, h => by rw [eqP]; exact eqL_sm h.2
  | .non, h => h.elim
  | .bl _, h => h.elim
  | .str _, h => h.elim
  | .scr _, h => h.elim
  | .fn _, h => h.elim
  | .cls _, h => h.elim
  | .ty _, h => h.elim
theorem eqL_sm : ∀ {xs : List P}, SmL xs → eqL xs xs = true
  | [], _ => by simp [eqL]
  | x :: xs, h => by rw [eqL, eqP_sm h.1, eqL_sm h.2]; rfl
end
theorem SmL.of : ∀ {xs : List P}, (∀ x ∈ xs, Sm x) → SmL xs
  | [], _ => trivial
  | x :: xs, h => ⟨h x List.mem_cons_self, SmL.of fun y hy => h y (List.mem_cons_of_mem _ hy)⟩
theorem okL_of {n : Nat} : ∀ {xs : List P}, (∀ x ∈ xs, okE n x = true) → okL n xs = true
  | [], _ => by simp [okL]
  | x :: xs, h => by rw [okL, h x List.mem_cons_self, okL_of fun y hy => h y (List.mem_cons_of_mem _ hy)]; rfl
/-- plain data of ints, so deep at most -/
def Dp (k : Nat) (x : P) : Prop := Sm x ∧ ∀ n, k ≤ n → okE n x = true
theorem Dp.up {k j : Nat} {x : P} (h : Dp k x) (l : k ≤ j) : Dp j x := ⟨h.1, fun n hn => h.2 n (by omega)⟩
theorem okE_lt {n : Nat} {xs : List P} : okE n (.lst xs) = okE n (.tup xs) := by
  cases n <;> simp [okE]
theorem dp_int {i : Int} : Dp 0 (.int i) := ⟨trivial, fun n _ => by cases n <;> rfl⟩
theorem dp_tup {k : Nat} {xs : List P} (l : xs.length ≤ 1000) (h : ∀ x ∈ xs, Dp k x) : Dp (k + 1) (.tup xs) := ⟨⟨l, SmL.of fun x hx => (h x hx).1⟩, fun n hn => by
  rw [okE, decide_eq_true (by omega : 0 < n), okL_of fun x hx => (h x hx).2 (n - 1) (by omega)]; rfl⟩
theorem dp_lst {k : Nat} {xs : List P} (l : xs.length ≤ 1000) (h : ∀ x ∈ xs, Dp k x) : Dp (k + 1) (.lst xs) := ⟨⟨l, SmL.of fun x hx => (h x hx).1⟩, fun n hn => by
  rw [okE, decide_eq_true (by omega : 0 < n), okL_of fun x hx => (h x hx).2 (n - 1) (by omega)]; rfl⟩
theorem dp_rt {q : Rat} : Dp 1 (rt q) := dp_tup (by simp) fun x hx => by
  rcases List.mem_cons.mp hx with rfl | hx
  · exact dp_int
  · rw [List.mem_singleton.mp hx]; exact dp_int
theorem dp_spt {qs : List Rat} (l : qs.length ≤ 1000) : Dp 2 (spt qs) := dp_tup (by rw [List.length_map]; exact l) fun x hx => by
  obtain ⟨q, _, rfl⟩ := List.mem_map.mp hx
  exact dp_rt
theorem dp_frm {is : List Int} (l : is.length ≤ 1000) : Dp 1 (frm is) := dp_tup (by rw [List.length_map]; exact l) fun x hx => by
  obtain ⟨q, _, rfl⟩ := List.mem_map.mp hx
  exact dp_int
theorem dp_map {α : Type} {k : Nat} {F : α → P} {xs : List α} (l : xs.length ≤ 1000) (h : ∀ x ∈ xs, Dp k (F x)) : Dp (k + 1) (.lst (xs.map F)) := dp_lst (by rw [List.length_map]; exact l) fun x hx => by
  obtain ⟨q, hq, rfl⟩ := List.mem_map.mp hx
  exact h q hq
theorem ne_same {k : Nat} {x : P} {h : Hea} (d : Dp k x) (l : k ≤ 50) : cmp2 .ne (.p x) (.p x) h = .ok (.p (.bl false)) h := by
  show R.ofO ((if okE 50 x && okE 50 x then some (!eqP x x) else none).map fun k => D.p (.bl k)) h = _
  rw [d.2 50 l, eqP_sm d.1]
  rfl
theorem nodes_rt {q : Rat} : nodes (rt q) = 3 := by simp [rt, nodes, nodesL]
theorem nodes_spt : ∀ {qs : List Rat}, nodes (spt qs) = 1 + 3 * qs.length := by
  intro qs
  have : ∀ qs : List Rat, nodesL (qs.map rt) = 3 * qs.length := fun qs => by
    induction qs with
    | nil => rfl
    | cons q qs ih => rw [List.map_cons, nodesL, nodes_rt, ih, List.length_cons]; omega
  rw [spt, nodes, this]
theorem nodes_frm : ∀ {is : List Int}, nodes (frm is) = 1 + is.length := by
  intro is
  have : ∀ is : List Int, nodesL (is.map P.int) = is.length := fun is => by
    induction is with
    | nil => rfl
    | cons q qs ih => rw [List.map_cons, nodesL, ih, List.length_cons]; simp [nodes]; omega
  rw [frm, nodes, this]
/-! two lists, item by item -/
def AllR (Ψ : P → P → Prop) : List P → List P → Prop
  | [], [] => True
  | x :: xs, y :: ys => Ψ x y ∧ AllR Ψ xs ys
  | _, _ => False
/-- a thing is handed in: a list as a list or a tuple, else as it is -/
def HandIn (x y : P) : Prop := (∃ xs, x = .lst xs ∧ IsSeq y xs) ∨ ((∃ xs, x = .tup xs) ∧ y = x)
def toL : P → P
  | .tup xs => .lst xs
  | x => x
def isTL (x : P) : Prop := (∃ xs, x = .lst xs) ∨ ∃ xs, x = .tup xs
theorem ev_hand {m bs L s N : Nat} (hm : 3 ≤ m) {h : Hea} (S : St L s N h) (l : N + 1 ≤ 2 ^ 36) {x : P} (hx : isTL x) {ρ : Slots} (e1 : slot ρ 1 = some (.ref s)) (e20 : slot ρ 20 = some (.p x)) : ∃ y h', ev ⟨callN T m, bs⟩ ρ e_law_1 h = .ok (.p y) h' ∧ HandIn x y ∧ St L s (N + 1) h' ∧ Fr L h h' := by
  rcases hx with ⟨xs, rfl⟩ | ⟨xs, rfl⟩
  · obtain ⟨y, h', e, p, S', F⟩ := rn_sequence (n := m) (s := s) hm (xs := xs) L N h S l
    have ki := blt1_isi (h := h) (x := .lst xs) (k := "list") rfl rfl
    exact ⟨y, h', by simp [e_law_1, exs_cons, ex_set, ex_par, ex_unp, ex_seti, ex_expr, ex_ret, ex_if, ex_while, ex_for, ex_raise, ex_try, ex_frz, ev_bin, ev_neg, ev_cmp, ev_and, ev_or, ev_not, ev_ite, ev_tup, ev_lst, ev_idx, ev_slc00, ev_slc10, ev_slc01, ev_call, ev_callv, ev_comp, ev_blt, ev_meth, evs_cons, evI_seq, evI_rng, evI_zip, evT_and, evT_or, evT_not, evT_cmp, evT_call, evT_blt, evT_var, evT_idx, e1, e20, ki, kindB, e], .inl ⟨xs, rfl, p⟩, S', F⟩
  · have ki := blt1_isi (h := h) (x := .tup xs) (k := "list") rfl rfl
    exact ⟨.tup xs, h, by simp [e_law_1, exs_cons, ex_set, ex_par, ex_unp, ex_seti, ex_expr, ex_ret, ex_if, ex_while, ex_for, ex_raise, ex_try, ex_frz, ev_bin, ev_neg, ev_cmp, ev_and, ev_or, ev_not, ev_ite, ev_tup, ev_lst, ev_idx, ev_slc00, ev_slc10, ev_slc01, ev_call, ev_callv, ev_comp, ev_blt, ev_meth, evs_cons, evI_seq, evI_rng, evI_zip, evT_and, evT_or, evT_not, evT_cmp, evT_call, evT_blt, evT_var, evT_idx, e1, e20, ki, kindB], .inr ⟨⟨xs, rfl⟩, rfl⟩, S.up (by omega), Fr.refl⟩
/-- a comprehension whose elements draw, item by item -/
theorem comp_rr {G : Gm} {ρ : Slots} {vs : List Nat} {tg : Tg} {elt : Ex} {L s k : Nat} {Ψ : P → P → Prop} : ∀ {xs : List P} {N : Nat} {h : Hea}, (∀ x ∈ xs, ∀ N h, St L s N h → N + k ≤ 2 ^ 36 → ∃ ρ' y h', bindTg (wipe ρ vs) tg x = some ρ' ∧ ev G ρ' elt h = .ok (.p y) h' ∧ Ψ x y ∧ St L s (N + k) h' ∧ Fr L h h') → St L s N h → N + k * xs.length ≤ 2 ^ 36 →
    ∃ (ys : List P) (h' : Hea), runComp G ρ vs tg .nil elt xs h = .ok (ys.map D.p) h' ∧ ys.length = xs.length ∧ AllR Ψ xs ys ∧ St L s (N + k * xs.length) h' ∧ Fr L h h'
  | [], N, h, _, S, _ => ⟨[], h, rfl, rfl, trivial, by simpa using S, Fr.refl⟩
  | x :: xs, N, h, hx, S, hN => by
    have eN : k * (x :: xs).length = k * xs.length + k := by rw [List.length_cons, Nat.mul_succ]
    rw [eN] at hN ⊢
    obtain ⟨ρ', y, h1, eb, e, p, S1, F1⟩ := hx x List.mem_cons_self N h S (by omega)
    obtain ⟨ys, h2, e2, l2, p2, S2, F2⟩ := comp_rr (xs := xs) (fun z hz => hx z (List.mem_cons_of_mem _ hz)) S1 (by omega)
    refine ⟨y :: ys, h2, ?_, by simp [l2], ⟨p, p2⟩, S2.up (by omega), F1.trans F2⟩
    · obtain ⟨one, h3⟩ : ∃ one, one = (fun (x : P) (h : Hea) => match bindTg (wipe ρ vs) tg x with
        | some ρ' => (evC G ρ' .nil h).bind fun k h => if k = true then (ev G ρ' elt h).bind fun d h => R.ok (some d) h else .ok none h
        | none => .stuck) := ⟨_, rfl⟩
      have u : ∀ ys h, runComp G ρ vs tg .nil elt ys h = R.noexn (compLoop one ys h) := fun ys h => by rw [h3]; rfl
      rw [u] at e2 ⊢
      have e3 : one x h = .ok (some (.p y)) h1 := by
        rw [h3]
        show (match bindTg (wipe ρ vs) tg x with
        | some ρ' => (evC G ρ' .nil h).bind fun k h => if k = true then (ev G ρ' elt h).bind fun d h => R.ok (some d) h else .ok none h
        | none => .stuck) = _
        rw [eb]
        show (evC G ρ' .nil h).bind _ = _
        rw [evC_nil, bind_ok, if_pos rfl, e, bind_ok]
      show R.noexn ((one x h).bind fun o h => (compLoop one xs h).bind fun r h => .ok (match o with | some d => d :: r | none => r) h) = _
      rw [e3, bind_ok]
      cases c : compLoop one xs h1 with
      | ok ds h4 =>
        rw [c] at e2
        have e2 : R.ok ds h4 = R.ok (ys.map D.p) h2 := e2
        cases e2
        rfl
      | exn _ _ _ => rw [c] at e2; cases e2
      | stuck => rw [c] at e2; cases e2
/-- what is asked of a case -/
structure Good (n k : Nat) (ts : List P) (due : P) : Prop where
  t3 : ts.length ≤ 3
  tl : ∀ t ∈ ts, isTL t
  dp : ∀ t ∈ ts, Dp 4 t
  du : Sm due ∧ nodes due ≤ 90000
  cl : ∀ ys, AllR HandIn ts ys → ∀ h, callN T n i__law_call [.p (.int (k : Nat)), .p (.lst ys)] h = .ok (.p due) h
theorem handin_tl {x y : P} (h : HandIn x y) (d : Dp 4 x) : isTL y ∧ Dp 4 y := by
  rcases h with ⟨xs, rfl, s⟩ | ⟨⟨xs, rfl⟩, rfl⟩
  · rcases s with rfl | rfl
    · exact ⟨.inl ⟨xs, rfl⟩, d⟩
    · refine ⟨.inr ⟨xs, rfl⟩, ⟨d.1, fun n hn => ?_⟩⟩
      have := d.2 n hn
      rw [okE_lt] at this
      exact this
  · exact ⟨.inr ⟨xs, rfl⟩, d⟩
theorem allr_tl : ∀ {ts ys : List P}, AllR HandIn ts ys → (∀ t ∈ ts, Dp 4 t) → ∀ y ∈ ys, isTL y ∧ Dp 4 y
  | [], [], _, _, y, hy => by cases hy
  | t :: ts, y :: ys, h, hd, z, hz => by
    rcases List.mem_cons.mp hz with rfl | w
    · exact handin_tl h.1 (hd t List.mem_cons_self)
    · exact allr_tl h.2 (fun t ht => hd t (List.mem_cons_of_mem _ ht)) z w
theorem toL_dp {x : P} (h : isTL x) (d : Dp 4 x) : Dp 4 (toL x) := by
  rcases h with ⟨xs, rfl⟩ | ⟨xs, rfl⟩
  · exact d
  · refine ⟨d.1, fun n hn => ?_⟩
    have := d.2 n hn
    show okE n (.lst xs) = true
    rw [okE_lt]
    exact this
theorem list_toL {x : P} (h : isTL x) {H : Hea} : blt1 .list false [.p x] H = .ok (.p (toL x)) H := by
  rcases h with ⟨xs, rfl⟩ | ⟨xs, rfl⟩ <;> rfl
end K15

set_option linter.all false
set_option maxRecDepth 100000
set_option maxHeartbeats 1000000
set_option exponentiation.threshold 700
namespace K15
open Mp
/-! ### the nine cases are good -/
theorem allr1 {a : P} {ys : List P} (h : AllR HandIn [a] ys) : ∃ x, ys = [x] ∧ HandIn a x := by
  match ys, h with
  | [x], h => exact ⟨x, rfl, h.1⟩
theorem allr2 {a b : P} {ys : List P} (h : AllR HandIn [a, b] ys) : ∃ x y, ys = [x, y] ∧ HandIn a x ∧ HandIn b y := by
  match ys, h with
  | [x, y], h => exact ⟨x, y, rfl, h.1, h.2.1⟩
theorem allr3 {a b c : P} {ys : List P} (h : AllR HandIn [a, b, c] ys) : ∃ x y z, ys = [x, y, z] ∧ HandIn a x ∧ HandIn b y ∧ HandIn c z := by
  match ys, h with
  | [x, y, z], h => exact ⟨x, y, z, rfl, h.1, h.2.1, h.2.2.1⟩
theorem hand_tup {xs : List P} {y : P} (h : HandIn (.tup xs) y) : y = .tup xs := by
  rcases h with ⟨ys, e, _⟩ | ⟨_, e⟩
  · cases e
  · exact e
theorem hand_lst {xs : List P} {y : P} (h : HandIn (.lst xs) y) : IsSeq y xs := by
  rcases h with ⟨ys, e, s⟩ | ⟨⟨ys, e⟩, _⟩
  · cases e; exact s
  · cases e
theorem good2 {n k : Nat} (hk : k = 1 ∨ k = 2 ∨ k = 3 ∨ k = 4 ∨ k = 6 ∨ k = 7 ∨ k = 8 ∨ k = 9) {a b due : P} (ta : isTL a) (tb : isTL b) (da : Dp 4 a) (db : Dp 4 b) (du : Sm due ∧ nodes due ≤ 90000) (e : ∀ x y, HandIn a x → HandIn b y → ∀ h, callN T n (two k) [.p x, .p y] h = .ok (.p due) h) : Good (n + 1) k [a, b] due :=
  ⟨by simp, fun t ht => by
    rcases List.mem_cons.mp ht with rfl | ht
    · exact ta
    · rw [List.mem_singleton.mp ht]; exact tb, fun t ht => by
    rcases List.mem_cons.mp ht with rfl | ht
    · exact da
    · rw [List.mem_singleton.mp ht]; exact db, du, fun ys hy h => by
    obtain ⟨x, y, rfl, h1, h2⟩ := allr2 hy
    exact law_call2 hk rfl rfl (e x y h1 h2 h) (.inl ⟨_, rfl⟩)⟩
theorem tl_tup {xs : List P} : isTL (.tup xs) := .inr ⟨xs, rfl⟩
theorem tl_lst {xs : List P} : isTL (.lst xs) := .inl ⟨xs, rfl⟩
theorem du_rt {q : Rat} : Sm (rt q) ∧ nodes (rt q) ≤ 90000 := ⟨dp_rt.1, by rw [nodes_rt]; decide⟩
theorem du_spt {qs : List Rat} (l : qs.length ≤ 1000) : Sm (spt qs) ∧ nodes (spt qs) ≤ 90000 := ⟨(dp_spt l).1, by rw [nodes_spt]; omega⟩
theorem du_frm {is : List Int} (l : is.length ≤ 1000) : Sm (frm is) ∧ nodes (frm is) ≤ 90000 := ⟨(dp_frm l).1, by rw [nodes_frm]; omega⟩
theorem du_int {i : Int} : Sm (.int i) ∧ nodes (.int i) ≤ 90000 := ⟨trivial, by simp [nodes]⟩
theorem CdOk.good_all {g : Bool} {d : Nat} {c : Cd} (o : CdOk g d c) {n : Nat} (hn : 7 ≤ n) {x : P} (hx : x ∈ casesL d c) : ∃ k ts kk due, x = caseP k ts kk due ∧ Good (n + 1) k ts due := by
  have d1 := o.d1
  have d3 := o.d3
  have sl := o.ssl
  have fl := o.fsl
  have lb := o.lb
  have lf := o.lf
  have ml := o.mixed_len
  have mel : (c.mean d).length = d := CdOk.mean_len
  have fol := o.form_ok
  have f0m := o.f0v_mem
  obtain ⟨f0l, f0i⟩ := fol _ f0m
  have el : casesP d c = .lst (casesL d c) := casesP_eq
  unfold casesP at el
  injection el with el
  rw [← el] at hx
  have hc : (comb (List.replicate (d + 1) 0) c.fs c.ns).length = d + 1 := by
    rw [comb_len fun f hf => by rw [List.length_replicate]; exact (fol f hf).1, List.length_replicate]
  simp only [List.mem_cons, List.not_mem_nil, or_false] at hx
  rcases hx with rfl | rfl | rfl | rfl | rfl | rfl | rfl | rfl | rfl
  · refine ⟨_, _, _, _, rfl, ⟨by simp, fun t ht => ?_, fun t ht => ?_, du_spt (by omega), fun ys hy h => ?_⟩⟩
    · simp only [List.mem_cons, List.not_mem_nil, or_false] at ht
      rcases ht with rfl | rfl | rfl <;> exact tl_tup
    · simp only [List.mem_cons, List.not_mem_nil, or_false] at ht
      rcases ht with rfl | rfl | rfl
      · exact (dp_spt (by omega)).up (by decide)
      · exact (dp_spt (by omega)).up (by decide)
      · exact dp_rt.up (by decide)
    · obtain ⟨x, y, z, rfl, h1, h2, h3⟩ := allr3 hy
      cases hand_tup h1
      cases hand_tup h2
      cases hand_tup h3
      exact law_call3 rfl rfl rfl (o.call0 (n := n) (by omega) h) (.inl ⟨_, rfl⟩)
  · exact ⟨_, _, _, _, rfl, good2 (.inl rfl) tl_lst tl_lst ((dp_map (k := 1) (by omega) fun f hf => dp_frm (by rw [(fol f hf).1]; omega)).up (by decide)) ((dp_map (k := 0) (by rw [o.nsl]; omega) fun f hf => dp_int).up (by decide)) (du_frm (by omega)) fun x y h1 h2 h => o.call1 (n := n) (by omega) (hand_lst h1) (hand_lst h2) h⟩
  · exact ⟨_, _, _, _, rfl, good2 (.inr (.inl rfl)) tl_lst tl_lst ((dp_map (k := 2) (by omega) fun f hf => dp_spt (by rw [(o.hss f hf).1]; omega)).up (by decide)) ((dp_map (k := 0) (by rw [o.csl]; omega) fun f hf => dp_int).up (by decide)) (du_spt (by omega)) fun x y h1 h2 h => o.call2 (n := n) (by omega) (hand_lst h1) (hand_lst h2) h⟩
  · exact ⟨_, _, _, _, rfl, good2 (.inr (.inr (.inl rfl))) tl_tup tl_tup ((dp_spt (by omega)).up (by decide)) ((dp_spt (by omega)).up (by decide)) du_int fun x y h1 h2 h => by
      cases hand_tup h1
      cases hand_tup h2
      exact o.call3 (n := n) (by omega) h⟩
  · obtain ⟨i0, is, ef⟩ : ∃ i0 is, c.f0v = i0 :: is := by
      cases e : c.f0v with
      | nil => rw [e] at f0l; simp at f0l
      | cons a b => exact ⟨a, b, rfl⟩
    have ev : c.val = (i0 : Rat) + (prods is c.mixed).sum := by unfold Cd.val; rw [ef]
    exact ⟨_, _, _, _, rfl, good2 (.inr (.inr (.inr (.inl rfl)))) tl_tup tl_tup ((dp_frm (by omega)).up (by decide)) ((dp_spt (by omega)).up (by decide)) du_rt fun x y h1 h2 h => by
      cases hand_tup h1
      cases hand_tup h2
      have e := o.call4 (i0 := i0) (is := is) (by rw [← ef]; exact f0m) (n := n) (by omega) h
      rw [ev]
      rw [ef]
      exact e⟩
  · have fl2 := o.firsts_len
    refine ⟨_, _, _, _, rfl, ⟨by simp, fun t ht => ?_, fun t ht => ?_, du_rt, fun ys hy h => ?_⟩⟩
    · rw [List.mem_singleton.mp ht]; exact tl_lst
    · rw [List.mem_singleton.mp ht]
      exact (dp_map (k := 1) (by omega) fun f hf => dp_rt).up (by decide)
    · obtain ⟨x, rfl, h1⟩ := allr1 hy
      exact law_call1 rfl (o.call5 (n := n) (by omega) (hand_lst h1) h) (.inl ⟨_, rfl⟩)
  · exact ⟨_, _, _, _, rfl, good2 (by omega) tl_tup tl_tup (dp_rt.up (by decide)) (dp_rt.up (by decide)) du_rt fun x y h1 h2 h => by
      cases hand_tup h1
      cases hand_tup h2
      exact o.call6 (n := n) (by omega) h⟩
  · exact ⟨_, _, _, _, rfl, good2 (by omega) tl_tup tl_tup (dp_rt.up (by decide)) (dp_rt.up (by decide)) du_rt fun x y h1 h2 h => by
      cases hand_tup h1
      cases hand_tup h2
      exact o.call7 (n := n) (by omega) h⟩
  · exact ⟨_, _, _, _, rfl, good2 (by omega) tl_tup tl_tup (dp_rt.up (by decide)) (dp_rt.up (by decide)) du_rt fun x y h1 h2 h => by
      cases hand_tup h1
      cases hand_tup h2
      exact o.call8 (n := n) (by omega) h⟩
end K15

set_option linter.all false
set_option maxRecDepth 100000
set_option maxHeartbeats 2000000
set_option exponentiation.threshold 700
namespace K15
open Mp
/-! ### law: its loops -/
theorem law_in {m : Nat} (hm : 10 ≤ m) {bs L s : Nat} (x0 x2 x3 x4 x5 x12 x13 x14 x15 x16 x17 x18 x19 : Option D) : ∀ (xs : List P) (N : Nat) (h : Hea) (d6 d7 d8 d9 d10 d11 d20 : Option D), (∀ x ∈ xs, ∃ k ts kk due, x = caseP k ts kk due ∧ Good m k ts due) → St L s N h → N + 3 * xs.length ≤ 2 ^ 36 →
    ∃ d6' d7' d8' d9' d10' d11' h', runFor ⟨callN T m, bs⟩ (.many [6, 7, 8, 9]) l_law_1 xs [x0, some (.ref s), x2, x3, x4, x5, d6, d7, d8, d9, d10, d11, x12, x13, x14, x15, x16, x17, x18, x19, d20] h =
      .next [x0, some (.ref s), x2, x3, x4, x5, d6', d7', d8', d9', d10', d11', x12, x13, x14, x15, x16, x17, x18, x19, d20] h' ∧ St L s (N + 3 * xs.length) h' ∧ Fr L h h'
  | [], N, h, d6, d7, d8, d9, d10, d11, d20, _, S, _ => ⟨_, _, _, _, _, _, h, for_nil, S, Fr.refl⟩
  | x :: xs, N, h, d6, d7, d8, d9, d10, d11, d20, hx, S, hN => by
    rw [List.length_cons] at hN
    obtain ⟨k, ts, kk, due, rfl, g⟩ := hx x List.mem_cons_self
    have t3 := g.t3
    obtain ⟨ρ1, eρ⟩ : ∃ ρ : Slots, ρ = [x0, some (.ref s), x2, x3, x4, x5, some (.p (.int (k : Nat))), some (.p (.lst ts)), some (.p (.lst (kk.map P.str))), some (.p due), d10, d11, x12, x13, x14, x15, x16, x17, x18, x19, d20] := ⟨_, rfl⟩
    obtain ⟨ys, h1, e1, yl, yr, S1, F1⟩ := comp_rr (G := ⟨callN T m, bs⟩) (ρ := ρ1) (vs := [20]) (tg := .one 20) (elt := e_law_1) (k := 1) (Ψ := HandIn) (xs := ts) (fun x hx N hh S l => by
      subst eρ
      obtain ⟨y, h', a, p, S', F'⟩ := ev_hand (m := m) (bs := bs) (by omega) S l (g.tl x hx) (ρ := [x0, some (.ref s), x2, x3, x4, x5, some (.p (.int (k : Nat))), some (.p (.lst ts)), some (.p (.lst (kk.map P.str))), some (.p due), d10, d11, x12, x13, x14, x15, x16, x17, x18, x19, some (.p x)]) rfl rfl
      exact ⟨_, y, h', rfl, a, p, S', F'⟩) S (by omega)
    have al := allr_tl yr g.dp
    have mk1 := mk_list (xs := ys) (h := h1) (lim1000 (by omega))
    have toD : Dp 5 (.lst (ys.map toL)) := dp_map (by omega) fun y hy => toL_dp (al y hy).1 (al y hy).2
    obtain ⟨ρ2, eρ2⟩ : ∃ ρ : Slots, ρ = [x0, some (.ref s), x2, x3, x4, x5, some (.p (.int (k : Nat))), some (.p (.lst ts)), some (.p (.lst (kk.map P.str))), some (.p due), some (.p (.lst ys)), d11, x12, x13, x14, x15, x16, x17, x18, x19, d20] := ⟨_, rfl⟩
    have c2 : ∀ (d11 : Option D), runComp ⟨callN T m, bs⟩ [x0, some (.ref s), x2, x3, x4, x5, some (.p (.int (k : Nat))), some (.p (.lst ts)), some (.p (.lst (kk.map P.str))), some (.p due), some (.p (.lst ys)), d11, x12, x13, x14, x15, x16, x17, x18, x19, d20] [20] (.one 20) .nil e_law_2 ys h1 = .ok (ys.map fun x => .p (toL x)) h1 := fun d11 =>
      comp_one (f := toL) fun y hy => by simp [wipe, e_law_2, exs_cons, ex_set, ex_par, ex_unp, ex_seti, ex_expr, ex_ret, ex_if, ex_while, ex_for, ex_raise, ex_try, ex_frz, ev_bin, ev_neg, ev_cmp, ev_and, ev_or, ev_not, ev_ite, ev_tup, ev_lst, ev_idx, ev_slc00, ev_slc10, ev_slc01, ev_call, ev_callv, ev_comp, ev_blt, ev_meth, evs_cons, evI_seq, evI_rng, evI_zip, evT_and, evT_or, evT_not, evT_cmp, evT_call, evT_blt, evT_var, evT_idx, list_toL (al y hy).1]
    have c3 : ∀ (d11 : Option D), runComp ⟨callN T m, bs⟩ [x0, some (.ref s), x2, x3, x4, x5, some (.p (.int (k : Nat))), some (.p (.lst ts)), some (.p (.lst (kk.map P.str))), some (.p due), some (.p (.lst ys)), d11, x12, x13, x14, x15, x16, x17, x18, x19, d20] [20] (.one 20) .nil e_law_3 ys h1 = .ok (ys.map fun x => .p (toL x)) h1 := fun d11 =>
      comp_one (f := toL) fun y hy => by simp [wipe, e_law_3, exs_cons, ex_set, ex_par, ex_unp, ex_seti, ex_expr, ex_ret, ex_if, ex_while, ex_for, ex_raise, ex_try, ex_frz, ev_bin, ev_neg, ev_cmp, ev_and, ev_or, ev_not, ev_ite, ev_tup, ev_lst, ev_idx, ev_slc00, ev_slc10, ev_slc01, ev_call, ev_callv, ev_comp, ev_blt, ev_meth, evs_cons, evI_seq, evI_rng, evI_zip, evT_and, evT_or, evT_not, evT_cmp, evT_call, evT_blt, evT_var, evT_idx, list_toL (al y hy).1]
    have mk2 := mk_map (f := toL) (xs := ys) (h := h1) (lim1000 (by omega))
    have cc := g.cl ys yr h1
    have sm := law_same (n := m) (by omega) g.du.1 g.du.2 h1
    have ne := ne_same (h := h1) toD (by decide)
    have body : exs ⟨callN T m, bs⟩ ρ1 l_law_1 h = .next [x0, some (.ref s), x2, x3, x4, x5, some (.p (.int (k : Nat))), some (.p (.lst ts)), some (.p (.lst (kk.map P.str))), some (.p due), some (.p (.lst ys)), some (.p (.lst (ys.map toL))), x12, x13, x14, x15, x16, x17, x18, x19, d20] h1 := by
      subst eρ
      simp [l_law_1, exs_cons, ex_set, ex_par, ex_unp, ex_seti, ex_expr, ex_ret, ex_if, ex_while, ex_for, ex_raise, ex_try, ex_frz, ev_bin, ev_neg, ev_cmp, ev_and, ev_or, ev_not, ev_ite, ev_tup, ev_lst, ev_idx, ev_slc00, ev_slc10, ev_slc01, ev_call, ev_callv, ev_comp, ev_blt, ev_meth, evs_cons, evI_seq, evI_rng, evI_zip, evT_and, evT_or, evT_not, evT_cmp, evT_call, evT_blt, evT_var, evT_idx, e1, mk1, c2, c3, mk2, cc, sm, ne]
    subst eρ
    rw [for_step (ρ' := [x0, some (.ref s), x2, x3, x4, x5, some (.p (.int (k : Nat))), some (.p (.lst ts)), some (.p (.lst (kk.map P.str))), some (.p due), d10, d11, x12, x13, x14, x15, x16, x17, x18, x19, d20]) rfl body]
    obtain ⟨y6, y7, y8, y9, y10, y11, h2, e2, S2, F2⟩ := law_in hm x0 x2 x3 x4 x5 x12 x13 x14 x15 x16 x17 x18 x19 xs (N + 3) h1 (some (.p (.int (k : Nat)))) (some (.p (.lst ts))) (some (.p (.lst (kk.map P.str)))) (some (.p due)) (some (.p (.lst ys))) (some (.p (.lst (ys.map toL)))) d20 (fun z hz => hx z (List.mem_cons_of_mem _ hz)) (S1.up (by omega)) (by omega)
    exact ⟨y6, y7, y8, y9, y10, y11, h2, e2, S2.up (by rw [List.length_cons]; omega), F1.trans F2⟩
theorem law_turn {m : Nat} (hm : 10 ≤ m) {bs L s : Nat} {g : Bool} {d : Nat} {c : Cd} (o : CdOk g d c) (t : Nat) (x0 x12 x13 x14 x15 x16 x17 x18 x19 d20 : Option D) {N : Nat} {h : Hea} (d6 d7 d8 d9 d10 d11 : Option D) (S : St L s N h) (hN : N + 30000 ≤ 2 ^ 36) :
    ∃ d6' d7' d8' d9' d10' d11' h', exs ⟨callN T m, bs⟩ [x0, some (.ref s), some (.p (.int (d : Nat))), some (.p (.bl g)), some (.p (casesP d c)), some (.p (.int (t : Nat))), d6, d7, d8, d9, d10, d11, x12, x13, x14, x15, x16, x17, x18, x19, d20] l_law_2 h =
      .next [x0, some (.ref s), some (.p (.int (d : Nat))), some (.p (.bl g)), some (.p (casesP d c)), some (.p (.int (t : Nat))), d6', d7', d8', d9', d10', d11', x12, x13, x14, x15, x16, x17, x18, x19, d20] h' ∧ St L s (N + 30000) h' ∧ Fr L h h' := by
  obtain ⟨m', rfl⟩ : ∃ m', m = m' + 1 := ⟨m - 1, by omega⟩
  obtain ⟨y6, y7, y8, y9, y10, y11, h1, e1, S1, F1⟩ := law_in (m := m' + 1) hm (bs := bs) x0 (some (.p (.int (d : Nat)))) (some (.p (.bl g))) (some (.p (casesP d c))) (some (.p (.int (t : Nat)))) x12 x13 x14 x15 x16 x17 x18 x19 (casesL d c) N h d6 d7 d8 d9 d10 d11 d20 (fun x hx => o.good_all (n := m') (by omega) hx) S (by rw [casesL_len]; omega)
  rw [casesL_len] at S1
  have sq : seq1 (.p (casesP d c)) h = .ok (casesL d c) h := rfl
  by_cases c0 : t = 0
  · have t0 : ∀ h, cmp2 .eq (.p (.int (t : Nat))) (.p (.int 0)) h = .ok (.p (.bl true)) h := fun h => by
      rw [cmp2_eqi, eqd, decide_eq_true (by omega)]
    cases g with
    | false =>
      obtain ⟨x, h2, e2, rfl, S2, F2⟩ := rn_refusals (n := m' + 1) (s := s) hm o L _ h1 S1 (by omega)
      exact ⟨y6, y7, y8, y9, y10, y11, h2, by simp [-cmp2_eqi, l_law_2, exs_cons, ex_set, ex_par, ex_unp, ex_seti, ex_expr, ex_ret, ex_if, ex_while, ex_for, ex_raise, ex_try, ex_frz, ev_bin, ev_neg, ev_cmp, ev_and, ev_or, ev_not, ev_ite, ev_tup, ev_lst, ev_idx, ev_slc00, ev_slc10, ev_slc01, ev_call, ev_callv, ev_comp, ev_blt, ev_meth, evs_cons, evI_seq, evI_rng, evI_zip, evT_and, evT_or, evT_not, evT_cmp, evT_call, evT_blt, evT_var, evT_idx, sq, e1, t0, e2], S2.up (by omega), F1.trans F2⟩
    | true =>
      obtain ⟨x, h2, e2, ⟨c', o', rfl⟩, S2, F2⟩ := rn_cases (n := m' + 1) (s := s) (by omega) false o.d1 o.d3 L _ h1 S1 (by omega)
      obtain ⟨x, h3, e3, rfl, S3, F3⟩ := rn_refusals (n := m' + 1) (s := s) hm o' L _ h2 S2 (by omega)
      exact ⟨y6, y7, y8, y9, y10, y11, h3, by simp [-cmp2_eqi, l_law_2, exs_cons, ex_set, ex_par, ex_unp, ex_seti, ex_expr, ex_ret, ex_if, ex_while, ex_for, ex_raise, ex_try, ex_frz, ev_bin, ev_neg, ev_cmp, ev_and, ev_or, ev_not, ev_ite, ev_tup, ev_lst, ev_idx, ev_slc00, ev_slc10, ev_slc01, ev_call, ev_callv, ev_comp, ev_blt, ev_meth, evs_cons, evI_seq, evI_rng, evI_zip, evT_and, evT_or, evT_not, evT_cmp, evT_call, evT_blt, evT_var, evT_idx, sq, e1, t0, e2, e3], S3.up (by omega), F1.trans (F2.trans F3)⟩
  · have t0 : cmp2 .eq (.p (.int (t : Nat))) (.p (.int 0)) h1 = .ok (.p (.bl false)) h1 := by
      rw [cmp2_eqi, eqd, decide_eq_false (by omega)]
    exact ⟨y6, y7, y8, y9, y10, y11, h1, by simp [-cmp2_eqi, l_law_2, exs_cons, ex_set, ex_par, ex_unp, ex_seti, ex_expr, ex_ret, ex_if, ex_while, ex_for, ex_raise, ex_try, ex_frz, ev_bin, ev_neg, ev_cmp, ev_and, ev_or, ev_not, ev_ite, ev_tup, ev_lst, ev_idx, ev_slc00, ev_slc10, ev_slc01, ev_call, ev_callv, ev_comp, ev_blt, ev_meth, evs_cons, evI_seq, evI_rng, evI_zip, evT_and, evT_or, evT_not, evT_cmp, evT_call, evT_blt, evT_var, evT_idx, sq, e1, t0], S1.up (by omega), F1⟩
/-- a comprehension over a list that is itself made of things -/
theorem comp_map {G : Gm} {ρ : Slots} {h : Hea} {α : Type} {vs : List Nat} {tg : Tg} {elt : Ex} {F g : α → P} : ∀ {xs : List α}, (∀ x ∈ xs, ∃ ρ', bindTg (wipe ρ vs) tg (F x) = some ρ' ∧ ev G ρ' elt h = .ok (.p (g x)) h) → runComp G ρ vs tg .nil elt (xs.map F) h = .ok ((xs.map g).map D.p) h
  | [], _ => rfl
  | x :: xs, hx => by
    have ih := comp_map (F := F) (g := g) (xs := xs) fun y hy => hx y (List.mem_cons_of_mem _ hy)
    obtain ⟨ρ', eb, e⟩ := hx x List.mem_cons_self
    obtain ⟨one, h1⟩ : ∃ one, one = (fun (x : P) (h : Hea) => match bindTg (wipe ρ vs) tg x with
      | some ρ' => (evC G ρ' .nil h).bind fun k h => if k = true then (ev G ρ' elt h).bind fun d h => R.ok (some d) h else .ok none h
      | none => .stuck) := ⟨_, rfl⟩
    have u : ∀ ys, runComp G ρ vs tg .nil elt ys h = R.noexn (compLoop one ys h) := fun ys => by rw [h1]; rfl
    rw [u] at ih ⊢
    have e2 : one (F x) h = .ok (some (.p (g x))) h := by
      rw [h1]
      show (match bindTg (wipe ρ vs) tg (F x) with
      | some ρ' => (evC G ρ' .nil h).bind fun k h => if k = true then (ev G ρ' elt h).bind fun d h => R.ok (some d) h else .ok none h
      | none => .stuck) = _
      rw [eb]
      show (evC G ρ' .nil h).bind _ = _
      rw [evC_nil, bind_ok, if_pos rfl, e, bind_ok]
    show R.noexn ((one (F x) h).bind fun o h => (compLoop one (xs.map F) h).bind fun r h => .ok (match o with | some d => d :: r | none => r) h) = _
    rw [e2, bind_ok]
    cases c : compLoop one (xs.map F) h with
    | ok ds h1 =>
      rw [c] at ih
      have ih : R.ok ds h1 = R.ok ((xs.map g).map D.p) h := ih
      cases ih
      rfl
    | exn _ _ _ => rw [c] at ih; cases ih
    | stuck => rw [c] at ih; cases ih
theorem nodes_ints : ∀ {is : List Int}, nodes (.lst (is.map P.int)) = 1 + is.length := by
  intro is
  have := nodes_frm (is := is)
  rw [frm, nodes] at this
  rw [nodes]; exact this
theorem law_order {m : Nat} (hm : 10 ≤ m) {bs d : Nat} (d1 : 1 ≤ d) (d3 : d ≤ 3) {h : Hea} {sps : List (List Rat)} (hl : sps.length ≤ 100) (hs : ∀ s ∈ sps, s.length = d ∧ ∀ q ∈ s, Rok q) (x0 x1 x2 x3 x4 x5 x6 x7 x8 x9 x10 x11 x12 x13 x14 x15 x19 x20 : Option D) : ∀ (xs : List (List Rat)) (d17 d18 : Option D), (∀ x ∈ xs, x ∈ sps) →
    ∃ d17' d18', runFor ⟨callN T m, bs⟩ (.one 17) l_law_3 (xs.map spt) [x0, x1, x2, x3, x4, x5, x6, x7, x8, x9, x10, x11, x12, x13, x14, x15, some (.p (.lst (sps.map spt))), d17, d18, x19, x20] h =
      .next [x0, x1, x2, x3, x4, x5, x6, x7, x8, x9, x10, x11, x12, x13, x14, x15, some (.p (.lst (sps.map spt))), d17', d18', x19, x20] h
  | [], d17, d18, _ => ⟨_, _, for_nil⟩
  | x :: xs, d17, d18, hx => by
    obtain ⟨xl, xo⟩ := hs x (hx x List.mem_cons_self)
    have c4 : ∀ d18 : Option D, runComp ⟨callN T m, bs⟩ [x0, x1, x2, x3, x4, x5, x6, x7, x8, x9, x10, x11, x12, x13, x14, x15, some (.p (.lst (sps.map spt))), some (.p (spt x)), d18, x19, x20] [19] (.one 19) .nil e_law_4 (sps.map spt) h = .ok ((sps.map fun y => P.int (ordL x y)).map D.p) h := fun d18 =>
      comp_map (F := spt) (g := fun y => P.int (ordL x y)) fun y hy => ⟨_, rfl, by
        obtain ⟨yl, yo⟩ := hs y hy
        have e := law_before (n := m) (by omega) (ps := x) (qs := y) (by omega) (by omega) xo yo h
        simp [wipe, e_law_4, exs_cons, ex_set, ex_par, ex_unp, ex_seti, ex_expr, ex_ret, ex_if, ex_while, ex_for, ex_raise, ex_try, ex_frz, ev_bin, ev_neg, ev_cmp, ev_and, ev_or, ev_not, ev_ite, ev_tup, ev_lst, ev_idx, ev_slc00, ev_slc10, ev_slc01, ev_call, ev_callv, ev_comp, ev_blt, ev_meth, evs_cons, evI_seq, evI_rng, evI_zip, evT_and, evT_or, evT_not, evT_cmp, evT_call, evT_blt, evT_var, evT_idx, e]⟩
    have c5 : ∀ d18 : Option D, runComp ⟨callN T m, bs⟩ [x0, x1, x2, x3, x4, x5, x6, x7, x8, x9, x10, x11, x12, x13, x14, x15, some (.p (.lst (sps.map spt))), some (.p (spt x)), d18, x19, x20] [19] (.one 19) .nil e_law_5 (sps.map spt) h = .ok ((sps.map fun y => P.int (ordL x y)).map D.p) h := fun d18 =>
      comp_map (F := spt) (g := fun y => P.int (ordL x y)) fun y hy => ⟨_, rfl, by
        obtain ⟨yl, yo⟩ := hs y hy
        have e := compare_spots (n := m) (by omega) (ps := x) (qs := y) (by omega) (by omega) (by omega) xo yo h
        simp [wipe, e_law_5, exs_cons, ex_set, ex_par, ex_unp, ex_seti, ex_expr, ex_ret, ex_if, ex_while, ex_for, ex_raise, ex_try, ex_frz, ev_bin, ev_neg, ev_cmp, ev_and, ev_or, ev_not, ev_ite, ev_tup, ev_lst, ev_idx, ev_slc00, ev_slc10, ev_slc01, ev_call, ev_callv, ev_comp, ev_blt, ev_meth, evs_cons, evI_seq, evI_rng, evI_zip, evT_and, evT_or, evT_not, evT_cmp, evT_call, evT_blt, evT_var, evT_idx, e]⟩
    obtain ⟨is, eis⟩ : ∃ is : List Int, is = sps.map fun y => ordL x y := ⟨_, rfl⟩
    have ei : (sps.map fun y => P.int (ordL x y)) = is.map P.int := by rw [eis, List.map_map]; rfl
    have il : is.length ≤ 100 := by rw [eis, List.length_map]; exact hl
    rw [ei] at c4 c5
    have mk1 := mk_list (xs := is.map P.int) (h := h) (lim1000 (by rw [List.length_map]; omega))
    have sm := law_same (n := m) (by omega) (x := .lst (is.map P.int)) (dp_map (k := 0) (by omega) fun f hf => dp_int).1 (by rw [nodes_ints]; omega) h
    have body : exs ⟨callN T m, bs⟩ [x0, x1, x2, x3, x4, x5, x6, x7, x8, x9, x10, x11, x12, x13, x14, x15, some (.p (.lst (sps.map spt))), some (.p (spt x)), d18, x19, x20] l_law_3 h = .next [x0, x1, x2, x3, x4, x5, x6, x7, x8, x9, x10, x11, x12, x13, x14, x15, some (.p (.lst (sps.map spt))), some (.p (spt x)), some (.p (.lst (is.map P.int))), x19, x20] h := by
      simp [-List.map_map, l_law_3, exs_cons, ex_set, ex_par, ex_unp, ex_seti, ex_expr, ex_ret, ex_if, ex_while, ex_for, ex_raise, ex_try, ex_frz, ev_bin, ev_neg, ev_cmp, ev_and, ev_or, ev_not, ev_ite, ev_tup, ev_lst, ev_idx, ev_slc00, ev_slc10, ev_slc01, ev_call, ev_callv, ev_comp, ev_blt, ev_meth, evs_cons, evI_seq, evI_rng, evI_zip, evT_and, evT_or, evT_not, evT_cmp, evT_call, evT_blt, evT_var, evT_idx, c4, c5, mk1, sm]
    rw [List.map_cons, for_step (ρ' := [x0, x1, x2, x3, x4, x5, x6, x7, x8, x9, x10, x11, x12, x13, x14, x15, some (.p (.lst (sps.map spt))), some (.p (spt x)), d18, x19, x20]) rfl body]
    exact law_order hm d1 d3 hl hs x0 x1 x2 x3 x4 x5 x6 x7 x8 x9 x10 x11 x12 x13 x14 x15 x19 x20 xs _ _ fun y hy => hx y (List.mem_cons_of_mem _ hy)
end K15

set_option linter.all false
set_option maxRecDepth 100000
set_option maxHeartbeats 2000000
set_option exponentiation.threshold 700
namespace K15
open Mp
/-! ### law -/
theorem rt_one : rt 1 = .tup [.int 1, .int 1] := rfl
theorem idx_neg {xs : List P} {x : P} {h : Hea} (l : 0 < xs.length) (e : xs[xs.length - 1]? = some x) : idxD h (.p (.lst xs)) (.p (.int (-1))) = some (.p x) := by
  show (atP xs (-1)).map D.p = _
  unfold atP place
  rw [if_neg (by decide), if_pos (by omega)]
  have q : (-1 + (xs.length : Int)).toNat = xs.length - 1 := by omega
  show (xs[(-1 + (xs.length : Int)).toNat]?).map D.p = _
  rw [q, e]; rfl
theorem mixed_back {s : Rat} : ∀ {ps qs : List Rat}, List.zipWith (betw (1 - s)) qs ps = List.zipWith (betw s) ps qs
  | [], [] => rfl
  | [], _ :: _ => rfl
  | _ :: _, [] => rfl
  | p :: ps, q :: qs => by
    rw [List.zipWith_cons_cons, List.zipWith_cons_cons, mixed_back]
    congr 1
    unfold betw
    grind
theorem one_rb : Rb 1 (1 : Rat) := ⟨by decide, by decide⟩
theorem CdOk.back {g : Bool} {d : Nat} {c : Cd} (o : CdOk g d c) {n : Nat} (hn : 6 ≤ n) (h : Hea) : callN T n i_minus [.p (.tup [.int 1, .int 1]), .p (rt c.s)] h = .ok (.p (rt (1 - c.s))) h ∧ callN T n i_between [.p (spt c.f), .p (spt c.b), .p (rt (1 - c.s))] h = .ok (.p (spt c.mixed)) h := by
  have d1 := o.d1
  have d3 := o.d3
  have sr : Rb 702 (1 - c.s) := sub_rb' one_rb o.hs.rb (by decide)
  constructor
  · have e := minus (n := n) (by omega) (p := 1) (q := c.s) (one_rb.ok (by decide)) (o.hs.rb.ok (by decide)) h
    rw [rt_one] at e
    exact e
  · have e := between hn (ps := c.f) (qs := c.b) (s := 1 - c.s) (by rw [o.lf]; exact d1) (by rw [o.lf]; exact d3) (by rw [o.lb, o.lf]) (fun p hp => (o.hf p hp).rb.ok (by decide)) (fun p hp => (o.hb p hp).rb.ok (by decide)) (sr.ok (by decide)) (fun pq hpq => bet_ok (sr.up (by decide)) ((o.hf _ (zip_mem2 hpq).1).rb.up (by decide)) ((o.hb _ (zip_mem2 hpq).2).rb.up (by decide))) h
    rw [mixed_back] at e
    exact e
theorem CdOk.mixed0 {g : Bool} {d : Nat} {c : Cd} (o : CdOk g d c) : c.mixed[0]? = some (c.b.getD 0 0 + c.s * (c.f.getD 0 0 - c.b.getD 0 0)) := by
  have d1 := o.d1
  have lb := o.lb
  have lf := o.lf
  unfold Cd.mixed
  cases eb : c.b with
  | nil => rw [eb, List.length_nil] at lb; omega
  | cons p ps =>
    cases ef : c.f with
    | nil => rw [ef, List.length_nil] at lf; omega
    | cons q qs => rfl
theorem CdOk.ends_ {g : Bool} {d : Nat} {c : Cd} (o : CdOk g d c) {n : Nat} (hn : 4 ≤ n) (h : Hea) :
    (∃ t1 t2 : P, callN T n i_minus [.p (rt (c.f.getD 0 0)), .p (rt (c.b.getD 0 0))] h = .ok (.p t1) h ∧ callN T n i_times [.p (rt c.s), .p t1] h = .ok (.p t2) h ∧ callN T n i_plus [.p (rt (c.b.getD 0 0)), .p t2] h = .ok (.p (rt (c.b.getD 0 0 + c.s * (c.f.getD 0 0 - c.b.getD 0 0)))) h ∧
      (c.b.getD 0 0 ≠ c.f.getD 0 0 → ∃ t3 : P, callN T n i_minus [.p (rt (c.b.getD 0 0 + c.s * (c.f.getD 0 0 - c.b.getD 0 0))), .p (rt (c.b.getD 0 0))] h = .ok (.p t3) h ∧ callN T n i_over [.p t3, .p t1] h = .ok (.p (rt c.s)) h)) := by
  have b0 := o.b0.rb
  have f0 := o.f0.rb
  have s0 := o.hs.rb
  obtain ⟨b, eb⟩ : ∃ b, b = c.b.getD 0 0 := ⟨_, rfl⟩
  obtain ⟨f, ef⟩ : ∃ b, b = c.f.getD 0 0 := ⟨_, rfl⟩
  rw [← eb] at b0 ⊢
  rw [← ef] at f0 ⊢
  have df : Rb 1401 (f - b) := sub_rb' f0 b0 (by decide)
  have pr : Rb 2101 (c.s * (f - b)) := mul_rb s0 df (by decide)
  have sm : Rb 2802 (b + c.s * (f - b)) := add_rb b0 pr (by decide)
  refine ⟨_, _, minus hn (f0.ok (by decide)) (b0.ok (by decide)) h, times hn (s0.ok (by decide)) (df.ok (by decide)) h, plus hn (b0.ok (by decide)) (pr.ok (by decide)) h, fun ne => ⟨_, minus hn (sm.ok (by decide)) (b0.ok (by decide)) h, ?_⟩⟩
  have nz : f - b ≠ 0 := fun z => ne (by grind)
  have e := over hn (p := b + c.s * (f - b) - b) (q := f - b) ((sub_rb' (k := 3600) sm b0 (by decide)).ok (by decide)) (df.ok (by decide)) nz h
  have q : (b + c.s * (f - b) - b) / (f - b) = c.s := by
    have : b + c.s * (f - b) - b = c.s * (f - b) := by grind
    rw [this]
    grind
  rw [q] at e
  exact e
theorem main {n : Nat} (hn : 11 ≤ n) (ns : List Int) (hl : ns.length ≤ 63) : ∃ h', callN T n i_law [.p (.scr ns)] [] = .ok (.p (.bl true)) h' := by
  obtain ⟨m, rfl⟩ : ∃ m, n = m + 1 := ⟨n - 1, by omega⟩
  obtain ⟨s, h0, e0, S0⟩ := law_store (n := m) (by omega) ns hl
  obtain ⟨L, eL⟩ : ∃ L, L = h0.length := ⟨_, rfl⟩
  rw [← eL] at S0
  obtain ⟨x1, h1, e1, ⟨v, rfl, v0, v1, v2⟩, S1, F1⟩ := rn_take (n := m) (s := s) (by omega) 3 (small' (n := 10) (by decide) (by decide)) L _ h0 S0 (by omega)
  have v1 := v1 (by decide)
  obtain ⟨d, ed⟩ : ∃ d : Nat, (d : Int) = 1 + v := ⟨(1 + v).toNat, by omega⟩
  obtain ⟨x2, h2, e2, ⟨w, rfl, w0, w1, w2⟩, S2, F2⟩ := rn_take (n := m) (s := s) (by omega) 6 (small' (n := 10) (by decide) (by decide)) L _ h1 S1 (by omega)
  obtain ⟨g, eg⟩ : ∃ g : Bool, g = (w == 5) := ⟨_, rfl⟩
  obtain ⟨x3, h3, e3, ⟨c, o, rfl⟩, S3, F3⟩ := rn_cases (n := m) (s := s) (by omega) g (d := d) (by omega) (by omega) L _ h2 S2 (by omega)
  obtain ⟨y6, y7, y8, y9, y10, y11, h4, e4, S4, F4⟩ := law_turn (m := m) (by omega) (bs := 0) o 0 (some (.p (.scr ns))) none none none none none none none none none none none none none none none S3 (by omega)
  obtain ⟨z6, z7, z8, z9, z10, z11, h5, e5, S5, F5⟩ := law_turn (m := m) (by omega) (bs := 0) o 1 (some (.p (.scr ns))) none none none none none none none none none y6 y7 y8 y9 y10 y11 S4 (by omega)
  have d1 := o.d1
  have d3 := o.d3
  have rg : rng1 [.p (.int 2)] h3 = .ok [.int 0, .int 1] h3 := rfl
  have lp : runFor ⟨callN T m, 0⟩ (.one 5) l_law_2 [.int 0, .int 1] [some (.p (.scr ns)), some (.ref s), some (.p (.int (d : Int))), some (.p (.bl g)), some (.p (casesP d c)), none, none, none, none, none, none, none, none, none, none, none, none, none, none, none, none] h3 = .next [some (.p (.scr ns)), some (.ref s), some (.p (.int (d : Int))), some (.p (.bl g)), some (.p (casesP d c)), some (.p (.int 1)), z6, z7, z8, z9, z10, z11, none, none, none, none, none, none, none, none, none] h5 := by
    rw [for_step (ρ' := [some (.p (.scr ns)), some (.ref s), some (.p (.int (d : Int))), some (.p (.bl g)), some (.p (casesP d c)), some (.p (.int ((0 : Nat) : Int))), none, none, none, none, none, none, none, none, none, none, none, none, none, none, none]) rfl e4]
    rw [for_step (ρ' := [some (.p (.scr ns)), some (.ref s), some (.p (.int (d : Int))), some (.p (.bl g)), some (.p (casesP d c)), some (.p (.int ((1 : Nat) : Int))), y6, y7, y8, y9, y10, y11, none, none, none, none, none, none, none, none, none]) rfl e5]
    rfl
  obtain ⟨b1, b2⟩ := o.back (n := m) (by omega) h5
  obtain ⟨t1, t2, u1, u2, u3, u4⟩ := o.ends_ (n := m) (by omega) h5
  obtain ⟨m0, em0⟩ : ∃ m0, m0 = c.b.getD 0 0 + c.s * (c.f.getD 0 0 - c.b.getD 0 0) := ⟨_, rfl⟩
  have mx := o.mixed0
  rw [← em0] at mx u3 u4
  have i0 : idxD h5 (.p (casesP d c)) (.p (.int 0)) = some (.p (caseP 0 [spt c.b, spt c.f, rt c.s] [sSpot, sSpot, sRatio] (spt c.mixed))) := rfl
  have i01 : idxD h5 (.p (caseP 0 [spt c.b, spt c.f, rt c.s] [sSpot, sSpot, sRatio] (spt c.mixed))) (.p (.int 1)) = some (.p (.lst [spt c.b, spt c.f, rt c.s])) := rfl
  have i03 : idxD h5 (.p (caseP 0 [spt c.b, spt c.f, rt c.s] [sSpot, sSpot, sRatio] (spt c.mixed))) (.p (.int 3)) = some (.p (spt c.mixed)) := rfl
  have i2 : idxD h5 (.p (casesP d c)) (.p (.int 2)) = some (.p (caseP 2 [.lst (c.ss.map spt), .lst (c.cs.map P.int)] [sSpots, sCounts] (spt (c.mean d)))) := rfl
  have i23 : idxD h5 (.p (caseP 2 [.lst (c.ss.map spt), .lst (c.cs.map P.int)] [sSpots, sCounts] (spt (c.mean d)))) (.p (.int 3)) = some (.p (spt (c.mean d))) := rfl
  have i21 : idxD h5 (.p (caseP 2 [.lst (c.ss.map spt), .lst (c.cs.map P.int)] [sSpots, sCounts] (spt (c.mean d)))) (.p (.int 1)) = some (.p (.lst [.lst (c.ss.map spt), .lst (c.cs.map P.int)])) := rfl
  have i210 : idxD h5 (.p (.lst [.lst (c.ss.map spt), .lst (c.cs.map P.int)])) (.p (.int 0)) = some (.p (.lst (c.ss.map spt))) := rfl
  have sl : 0 < c.ss.length := List.length_pos_iff.mpr o.ssn
  obtain ⟨sa, esa⟩ : ∃ s, c.ss[0]? = some s := ⟨_, List.getElem?_eq_getElem sl⟩
  obtain ⟨sz, esz⟩ : ∃ s, c.ss[c.ss.length - 1]? = some s := ⟨_, List.getElem?_eq_getElem (by omega)⟩
  have ia : idxD h5 (.p (.lst (c.ss.map spt))) (.p (.int 0)) = some (.p (spt sa)) := idx_atL (i := 0) (by rw [List.getElem?_map, esa]; rfl)
  have iz : idxD h5 (.p (.lst (c.ss.map spt))) (.p (.int (-1))) = some (.p (spt sz)) := idx_neg (by rw [List.length_map]; exact sl) (by rw [List.length_map, List.getElem?_map, esz]; rfl)
  have ib : idxD h5 (.p (spt c.b)) (.p (.int 0)) = some (.p (rt (c.b.getD 0 0))) := spt_idx (k := 0) (by rw [o.lb]; omega) h5
  have jf : idxD h5 (.p (spt c.f)) (.p (.int 0)) = some (.p (rt (c.f.getD 0 0))) := spt_idx (k := 0) (by rw [o.lf]; omega) h5
  have im : idxD h5 (.p (spt c.mixed)) (.p (.int 0)) = some (.p (rt m0)) := idx_at (i := 0) (by rw [List.getElem?_map, mx]; rfl)
  have sm1 := law_same (n := m) (by omega) (x := spt c.mixed) (du_spt (by rw [o.mixed_len]; omega)).1 (du_spt (by rw [o.mixed_len]; omega)).2 h5
  have sm2 := law_same (n := m) (by omega) (x := rt m0) du_rt.1 du_rt.2 h5
  have sm3 := law_same (n := m) (by omega) (x := rt c.s) du_rt.1 du_rt.2 h5
  obtain ⟨sps, esp⟩ : ∃ sps, sps = [c.b, c.f, c.mixed, c.mean d, sa, sz] := ⟨_, rfl⟩
  have spo : ∀ s ∈ sps, s.length = d ∧ ∀ q ∈ s, Rok q := fun s hs => by
    rw [esp] at hs
    simp only [List.mem_cons, List.not_mem_nil, or_false] at hs
    rcases hs with rfl | rfl | rfl | rfl | rfl | rfl
    · exact ⟨o.lb, fun q hq => (o.hb q hq).rb.ok (by decide)⟩
    · exact ⟨o.lf, fun q hq => (o.hf q hq).rb.ok (by decide)⟩
    · exact ⟨o.mixed_len, fun q hq => (o.mixed_rb q hq).ok (by decide)⟩
    · exact ⟨CdOk.mean_len, fun q hq => (o.mean_rb q hq).ok (by decide)⟩
    · have := o.hss _ (List.mem_of_getElem? esa)
      exact ⟨this.1, fun q hq => (this.2 q hq).rb.ok (by decide)⟩
    · have := o.hss _ (List.mem_of_getElem? esz)
      exact ⟨this.1, fun q hq => (this.2 q hq).rb.ok (by decide)⟩
  obtain ⟨d17, d18, eo⟩ := law_order (m := m) (by omega) (bs := 0) d1 d3 (h := h5) (sps := sps) (by rw [esp]; simp) spo (some (.p (.scr ns))) (some (.ref s)) (some (.p (.int (d : Int)))) (some (.p (.bl g))) (some (.p (casesP d c))) (some (.p (.int 1))) z6 z7 z8 z9 z10 z11 (some (.p (spt c.b))) (some (.p (spt c.f))) (some (.p (rt c.s))) (some (.p (spt c.mixed))) none none sps none none fun x hx => hx
  obtain ⟨sl6, esl⟩ : ∃ l, l = sps.map spt := ⟨_, rfl⟩
  rw [← esl] at eo
  have mk6 : mk false [.p (spt c.b), .p (spt c.f), .p (spt c.mixed), .p (spt (c.mean d)), .p (spt sa), .p (spt sz)] h5 = .ok (.p (.lst sl6)) h5 := by rw [esl, esp]; rfl
  have ed' : (1 : Int) + v = (d : Int) := ed.symm
  have ne := ne_rt (p := c.b.getD 0 0) (q := c.f.getD 0 0) (h := h5)
  have eg' : (w == 5) = g := eg.symm
  have t11 : tup1 [.p (.int 1), .p (.int 1)] h5 = .ok (.p (.tup [.int 1, .int 1])) h5 := rfl
  refine ⟨h5.take 0, ?_⟩
  rw [call_eq (fd := f_law) rfl rfl]
  by_cases cq : c.b.getD 0 0 = c.f.getD 0 0
  · rw [decide_eq_true cq] at ne
    simp [-List.getD_eq_getElem?_getD, f_law, b_law, startS, exs_cons, ex_set, ex_par, ex_unp, ex_seti, ex_expr, ex_ret, ex_if, ex_while, ex_for, ex_raise, ex_try, ex_frz, ev_bin, ev_neg, ev_cmp, ev_and, ev_or, ev_not, ev_ite, ev_tup, ev_lst, ev_idx, ev_slc00, ev_slc10, ev_slc01, ev_call, ev_callv, ev_comp, ev_blt, ev_meth, evs_cons, evI_seq, evI_rng, evI_zip, evT_and, evT_or, evT_not, evT_cmp, evT_call, evT_blt, evT_var, evT_idx, e0, e1, ed', e2, eg', e3, rg, lp, i0, i01, i03, unp1_threeL, t11, b1, b2, sm1, ib, jf, im, u1, u2, u3, sm2, ne, i2, i23, i21, i210, ia, iz, mk6, eo]
  · rw [decide_eq_false cq] at ne
    obtain ⟨t3, u5, u6⟩ := u4 cq
    simp [-List.getD_eq_getElem?_getD, f_law, b_law, startS, exs_cons, ex_set, ex_par, ex_unp, ex_seti, ex_expr, ex_ret, ex_if, ex_while, ex_for, ex_raise, ex_try, ex_frz, ev_bin, ev_neg, ev_cmp, ev_and, ev_or, ev_not, ev_ite, ev_tup, ev_lst, ev_idx, ev_slc00, ev_slc10, ev_slc01, ev_call, ev_callv, ev_comp, ev_blt, ev_meth, evs_cons, evI_seq, evI_rng, evI_zip, evT_and, evT_or, evT_not, evT_cmp, evT_call, evT_blt, evT_var, evT_idx, e0, e1, ed', e2, eg', e3, rg, lp, i0, i01, i03, unp1_threeL, t11, b1, b2, sm1, ib, jf, im, u1, u2, u3, sm2, ne, u5, u6, sm3, i2, i23, i21, i210, ia, iz, mk6, eo]
end K15

set_option maxHeartbeats 0
theorem PySem.Challenge.cw_nearerhop_k15_mixes_of_spots_and_forms_holds : PySem.Challenge.rw_nearerhop_k15_mixes_of_spots_and_forms.Holds := by
  exact K15.law_of 10 ⟨rfl, by decide, by decide⟩ fun ns hl => K15.main (by decide) ns hl
