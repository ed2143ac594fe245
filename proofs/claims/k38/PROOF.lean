import PyProof.Rows.All
import Wide.All
import OpenK.AllK
import Wide.FinOn
import HandS.ForMost
import HandS.TupAny
import HandS.Deep
import HandS.ForExc
import HandS.TryMany
import HandS.Iter
import KE.GoesEnum
import HandS.SortInts
import HandS.TupSets
import HandS.Conv
import PyProof.TupleOfSeq
import HandS.Rev
import HandS.Remove
import HandS.TupLen
import HandS.AnyAll
import HandS.GenList
import PyProof.GenArm
import PyProof.SumAny
import HandS.Lambda
import HandS.Style
import HandS.Flow
import HandS.WordsExc
import HandS.Defaults
import HandS.HeadWalk
import HandS.HeadHook4
import HandS.Head2
import PySem.Challenge.RW_crossloom_k38_turns_and_fair_orders
set_option Elab.async false
set_option linter.all false
set_option maxRecDepth 100000
set_option maxHeartbeats 0
namespace Z
open PySem

/-- values: lists that nobody changes any more (lst) stand by value, others by their place in the heap (ref) -/
inductive W where
  | non | bl (b : Bool) | int (i : Int) | str (s : Str) | tup (xs : List W) | lst (xs : List W) | ref (n : Nat) | scr (ns : List Int)

/-- what stands at a place of the heap; dicL: a dict that is being walked; dicT: a dict with tuples for keys; dice: the law's dice; tbl: a def's table of inner codes -/
inductive EO where
  | lst (xs : List W) | lstL (xs : List W) | dic (kvs : List (W × W)) | dicL (kvs : List (W × W)) | ins (c : Nat) (fs : List (Nat × W)) | dice
  | dicT (kvs : List (W × W)) | dicTL (kvs : List (W × W)) | tbl
abbrev EH := List EO
abbrev Env := List (Option W)

/-- how an evaluation ends: by a value and a heap, by an exception (its class), or it asks for a number below n and goes on -/
inductive T (α : Type) where
  | fail | ok (a : α) (h : EH) | exc (c : Nat) (h : EH) | draw (n : Nat) (k : Nat → T α)
def T.bind {α β : Type} : T α → (α → EH → T β) → T β
  | .fail, _ => .fail
  | .ok a h, f => f a h
  | .exc c h, _ => .exc c h
  | .draw n k, f => .draw n fun i => (k i).bind f
/-- whatever is drawn: it ends by a value with P, or by an exception with X -/
def T.All {α : Type} (P : α → EH → Prop) (X : Nat → EH → Prop) : T α → Prop
  | .fail => False
  | .ok a h => P a h
  | .exc c h => X c h
  | .draw n k => 0 < n ∧ n < 1073741824 ∧ ∀ i, i < n → (k i).All P X
theorem T.All.mono {α : Type} {P P' : α → EH → Prop} {X X' : Nat → EH → Prop} (hp : ∀ a h, P a h → P' a h) (hx : ∀ c h, X c h → X' c h) : ∀ {t : T α}, t.All P X → t.All P' X'
  | .fail, q => q
  | .ok a h, q => hp a h q
  | .exc c h, q => hx c h q
  | .draw n k, q => ⟨q.1, q.2.1, fun i hi => T.All.mono hp hx (q.2.2 i hi)⟩
theorem T.All.bind {α β : Type} {P : β → EH → Prop} {X : Nat → EH → Prop} {f : α → EH → T β} : ∀ {t : T α}, (t.bind f).All P X → t.All (fun a h => (f a h).All P X) X
  | .fail, q => q
  | .ok _ _, q => q
  | .exc _ _, q => q
  | .draw _ k, q => ⟨q.1, q.2.1, fun i hi => T.All.bind (t := k i) (q.2.2 i hi)⟩
theorem T.All.of_bind {α β : Type} {P : β → EH → Prop} {X : Nat → EH → Prop} {f : α → EH → T β} : ∀ {t : T α}, t.All (fun a h => (f a h).All P X) X → (t.bind f).All P X
  | .fail, q => q
  | .ok _ _, q => q
  | .exc _ _, q => q
  | .draw _ k, q => ⟨q.1, q.2.1, fun i hi => T.All.of_bind (t := k i) (q.2.2 i hi)⟩
/-- an exception out of it is not told -/
def T.nox {α : Type} : T α → T α
  | .fail => .fail
  | .ok a h => .ok a h
  | .exc _ _ => .fail
  | .draw n k => .draw n fun i => (k i).nox
theorem T.All.of_nox {α : Type} {P : α → EH → Prop} {X : Nat → EH → Prop} : ∀ {t : T α}, t.nox.All P X → t.All P fun _ _ => False
  | .fail, q => q
  | .ok _ _, q => q
  | .exc _ _, q => q
  | .draw _ k, q => ⟨q.1, q.2.1, fun i hi => T.All.of_nox (t := k i) (q.2.2 i hi)⟩
def ofO {α : Type} (o : Option α) (h : EH) : T α := match o with
  | some a => .ok a h
  | none => .fail

/-- the most items of anything -/
def LIM : Nat := 100000

/-! ### the text -/
inductive Op where | add | sub | mul | fdiv | mod | pow
  deriving DecidableEq
inductive Cm where | lt | le | gt | ge
  deriving DecidableEq
/-- targets of loops -/
inductive G where | name (i : Nat) | tup (is : List Nat)
  deriving DecidableEq
/-- words of one, two, three values -/
inductive P1 where
  | neg | tupRev | lstRng | tupRng | sumL | maxL | minL | sortI | sortIT | sortU | sortF | sortDI | sortDT | dictP | lenT | pop | lstD | minU
  deriving DecidableEq
inductive P2 where
  | dixT | inT (neg : Bool) | lstRng2 | tupRng2 | popAt | get1 | remI
  deriving DecidableEq
inductive P3 where
  | get2 | getT2 | insert
  deriving DecidableEq
/-- who takes what a generator hands out -/
inductive GK where | any | all | sum
  deriving DecidableEq
/-- what is walked: a dict's values, its pairs, a dict's keys (tuples), places and items, back from the end -/
inductive WK where | vals | items | keysT | enum | rev
  deriving DecidableEq
mutual
inductive E where
  | nev | var (i : Nat) | int (i : Int) | bl (b : Bool) | non | str (x : Str)
  | bin (o : Op) (a b : E) | cmp (c : Cm) (a b : E) | chain (c d : Cm) (a b e : E) | eqI (neg : Bool) (a b : E) | eqD (neg : Bool) (a b : E) | isN (neg : Bool) (a : E)
  | not (a : E) | and (es : Es) | or (es : Es) | ite (c a b : E)
  | tup (es : Es) | lst (m : Bool) (es : Es) | dic
  | ix (a i : E) | dix (a i : E) | slL (m : Bool) (a : E) (lo hi : Eo) | slT (a : E) (lo hi : Eo) | fld (a : E) (f : Nat)
  | inS (neg : Bool) (a b : E) | inD (neg : Bool) (a b : E) | catL (m : Bool) (a b : E) | catT (a b : E) | rep (m : Bool) (a b : E)
  | len (a : E) | lenD (a : E) | max2 (a b : E) | min2 (a b : E) | abs (a : E) | toInt (a : E) | toTup (a : E) | toLst (m : Bool) (a : E)
  | call (f : Nat) (es : Es) | make (c : Nat) (es : Es) | meth (a : E) (m : Nat) (es : Es)
  | comp (e : E) (g : G) (it : I) (c : Eo) (own : List Nat) | compM (e : E) (g : G) (it : I) (c : Eo) (own : List Nat)
  | dicT | p1 (p : P1) (m : Bool) (a : E) | p2 (p : P2) (m : Bool) (a b : E) | p3 (p : P3) (a b c : E)
  | comp2 (e : E) (g : G) (it : I) (c : Eo) (g2 : G) (it2 : I) (c2 : Eo) (own own2 : List Nat)
  | gen (k : GK) (e : E) (g : G) (it : I) (c : Eo) (own : List Nat) (t : Nat)
  | gen2 (k : GK) (e : E) (g : G) (it : I) (c : Eo) (g2 : G) (it2 : I) (c2 : Eo) (own own2 : List Nat) (t : Nat)
inductive Es where | nil | cons (e : E) (r : Es)
inductive Eo where | none | some (e : E)
/-- what is walked -/
inductive I where
  | seq (e : E) | seqR (e : E) | rng (a : E) | rng2 (a b : E) | keys (e : E) | w (k : WK) (e : E) | zip (a b : E)
end
inductive Tg where | name (i : Nat) | tup (is : List Nat) | fld (a : E) (f : Nat) | sub (a i : E) | dsub (a i : E) | tsub (a i : E)
mutual
inductive S where
  | set (g : Tg) (e : E) | par (i j : Nat) (a b : E) | par3 (i j k : Nat) (a b c : E) | augN (i : Nat) (o : Op) (e : E) | augF (a : E) (f : Nat) (o : Op) (e : E) | extF (a : E) (f : Nat) (e : E)
  | ret (e : E) | retN | expr (e : E) | pass | ite (c : E) (t e : Ss) | loop (g : G) (it : I) (b : Ss) | whl (c : E) (b : Ss) | brk | cont
  | append (a e : E) | raise (c : Nat) | nev | augS (a i : E) (o : Op) (e : E) | augD (a i : E) (o : Op) (e : E) | augT (a i : E) (o : Op) (e : E) | delL (a i : E) | delD (a i : E)
inductive Ss where | nil | cons (s : S) (r : Ss)
end

/-! ### what it does: values -/
/-- the items of a list or tuple -/
def seqOf (h : EH) : W → Option (List W)
  | .tup xs => some xs
  | .lst xs => some xs
  | .ref n => match h[n]? with
    | some (.lst xs) => some xs
    | some (.lstL xs) => some xs
    | _ => none
  | _ => none
/-- the items of a list, locked or not -/
def lsqOf (h : EH) : W → Option (List W)
  | .lst xs => some xs
  | .scr ns => some (ns.map W.int)
  | .ref n => match h[n]? with
    | some (.lst xs) => some xs
    | some (.lstL xs) => some xs
    | _ => none
  | _ => none
/-- the items of a list -/
def lstOf (h : EH) : W → Option (List W)
  | .lst xs => some xs
  | .ref n => match h[n]? with
    | some (.lst xs) => some xs
    | _ => none
  | _ => none
def opW (o : Op) (a b : W) : Option W := match o, a, b with
  | .add, .int i, .int j => some (.int (i + j))
  | .sub, .int i, .int j => some (.int (i - j))
  | .mul, .int i, .int j => if (-(2 ^ 64) < i ∧ i < 2 ^ 64) ∨ (-(2 ^ 64) < j ∧ j < 2 ^ 64) then some (.int (i * j)) else none
  | .fdiv, .int i, .int j => if 0 < j ∧ j < 1073741824 then some (.int (i / j)) else none
  | .mod, .int i, .int j => if 0 < j then some (.int (i % j)) else none
  | .pow, .int i, .int j => if 0 ≤ j ∧ j ≤ 1000 ∧ i.natAbs < 2 ^ 64 then some (.int (i ^ j.toNat)) else none
  | _, _, _ => none
def cmI (c : Cm) (i j : Int) : Bool := match c with
  | .lt => decide (i < j)
  | .le => decide (i ≤ j)
  | .gt => decide (j < i)
  | .ge => decide (j ≤ i)
def cmW (c : Cm) (a b : W) : Option W := match a, b with
  | .int i, .int j => some (.bl (cmI c i j))
  | _, _ => none
/-- == of ints, texts, None: whether both are such, and their equality -/
def eqS (a b : W) : Option Bool := match a, b with
  | .int i, .int j => some (decide (i = j))
  | .str x, .str y => some (decide (x = y))
  | .bl x, .bl y => some (decide (x = y))
  | .non, .non => some true
  | .non, .int _ => some false
  | .int _, .non => some false
  | .non, .str _ => some false
  | .str _, .non => some false
  | .int _, .str _ => some false
  | .str _, .int _ => some false
  | _, _ => none
def isSc : W → Bool
  | .int _ => true
  | .str _ => true
  | .bl _ => true
  | .non => true
  | _ => false
/-- a map that may fail -/
def mapO {α β : Type} (f : α → Option β) : List α → Option (List β)
  | [] => some []
  | x :: xs => match f x with
    | none => none
    | some y => match mapO f xs with
      | none => none
      | some ys => some (y :: ys)
/-- data without places: the heap's lists put in, to a depth -/
def froz (h : EH) : Nat → W → Option PyData
  | _, .non => some .none
  | _, .bl b => some (.bool b)
  | _, .int i => some (.int i)
  | _, .str x => if PyData.canLay0 (.str x) = true then some (.str x) else none
  | 0, _ => none
  | n + 1, .tup xs => (mapO (froz h n) xs).map .tuple
  | n + 1, .lst xs => (mapO (froz h n) xs).map .list
  | n + 1, .ref a => match h[a]? with
    | some (.lst xs) => (mapO (froz h n) xs).map .list
    | some (.lstL xs) => (mapO (froz h n) xs).map .list
    | _ => none
  | _ + 1, .scr _ => none
def eqDW (h : EH) (a b : W) : Option Bool := match froz h 8 a, froz h 8 b with
  | some d, some e => some (PyData.eqv d e)
  | _, _ => none
/-- the place of an index -/
def ixN (n : Nat) (i : Int) : Option Nat := if 0 ≤ i then if i < (n : Int) then some i.toNat else none else if -(n : Int) ≤ i then some (i + (n : Int)).toNat else none
def ixW (xs : List W) (i : Int) : Option W := match ixN xs.length i with
  | some j => xs[j]?
  | none => none
def look (fs : List (Nat × W)) (f : Nat) : Option W := match fs with
  | [] => none
  | (g, w) :: r => if g = f then some w else look r f
def putf (fs : List (Nat × W)) (f : Nat) (w : W) : List (Nat × W) := match fs with
  | [] => [(f, w)]
  | (g, v) :: r => if g = f then (f, w) :: r else (g, v) :: putf r f w
/-- equality of keys: ints, texts, tuples of such -/
def keyE : W → W → Bool
  | .int i, .int j => decide (i = j)
  | .str x, .str y => decide (x = y)
  | _, _ => false
def isKey : W → Bool
  | .int _ => true
  | .str _ => true
  | _ => false
def dget (kvs : List (W × W)) (k : W) : Option W := match kvs with
  | [] => none
  | (j, v) :: r => if keyE j k then some v else dget r k
def dput (kvs : List (W × W)) (k v : W) : List (W × W) := match kvs with
  | [] => [(k, v)]
  | (j, u) :: r => if keyE j k then (j, v) :: r else (j, u) :: dput r k v
def dicOf (h : EH) : W → Option (List (W × W))
  | .ref n => match h[n]? with
    | some (.dic kvs) => some kvs
    | some (.dicL kvs) => some kvs
    | _ => none
  | _ => none
def insOf (h : EH) : W → Option (Nat × List (Nat × W))
  | .ref n => match h[n]? with
    | some (.ins c fs) => some (c, fs)
    | _ => none
  | _ => none
/-- the bounds of a slice -/
def sIx (n d : Nat) : Option Int → Nat
  | none => d
  | some v => if v < 0 then (v + (n : Int)).toNat else min v.toNat n
def cutW (xs : List W) (lo hi : Option Int) : List W := (xs.drop (sIx xs.length 0 lo)).take (sIx xs.length xs.length hi - sIx xs.length 0 lo)
def boolK {α : Type} (w : W) (f : Bool → T α) : T α := match w with
  | .bl b => f b
  | _ => .fail
def wipeE (σ : Env) : List Nat → Env
  | [] => σ
  | v :: vs => (wipeE σ vs).set v none
def setAll (σ : Env) : List Nat → List W → Option Env
  | [], [] => some σ
  | i :: is, w :: ws => setAll (σ.set i (some w)) is ws
  | _, _ => none
def store (g : G) (w : W) (σ : Env) : Option Env := match g with
  | .name i => some (σ.set i (some w))
  | .tup is => match w with
    | .tup ws => setAll σ is ws
    | _ => none
/-- a list that is made: one that will be changed (m) goes to the heap -/
def newL (m : Bool) (xs : List W) (h : EH) : T W := if m then .ok (.ref h.length) (h ++ [.lst xs]) else .ok (.lst xs) h
def rngW (i : Int) : Nat → List W
  | 0 => []
  | n + 1 => .int i :: rngW (i + 1) n
abbrev CallH := Nat → List W → EH → T W
/-- the methods of a class: (class, method) to the def -/
abbrev MTab := Nat → Nat → Option Nat
def forL (f : W → EH → T (Option W)) (acc : List W) : List W → EH → T (List W)
  | [], h => .ok acc h
  | x :: xs, h => (f x h).bind fun o h => match o with
    | none => forL f acc xs h
    | some y => forL f (acc ++ [y]) xs h
/-- .. into the list at n -/
def forM (n : Nat) (f : W → EH → T (Option W)) : List W → EH → T Unit
  | [], h => .ok () h
  | x :: xs, h => (f x h).bind fun o h => match o with
    | none => forM n f xs h
    | some y => match h[n]? with
      | some (.lst ys) => if ys.length < LIM then forM n f xs (h.set n (.lst (ys ++ [y]))) else .fail
      | _ => .fail
/-- what is locked while it is walked -/
inductive Lk where | no | l (n : Nat) (xs : List W) | d (n : Nat) (kvs : List (W × W)) | t (n : Nat) (kvs : List (W × W))
def unlock (k : Lk) (h : EH) : EH := match k with
  | .no => h
  | .l n xs => h.set n (.lst xs)
  | .d n kvs => h.set n (.dic kvs)
  | .t n kvs => h.set n (.dicT kvs)
/-! words of one, two, three values -/
def intsOf : List W → Option (List Int)
  | [] => some []
  | .int i :: r => (match intsOf r with | some is => some (i :: is) | none => none)
  | _ :: _ => none
def insI (x : Int) : List Int → List Int
  | [] => [x]
  | y :: r => if x ≤ y then x :: y :: r else y :: insI x r
def srtI : List Int → List Int
  | [] => []
  | x :: r => insI x (srtI r)
def maxI (x : Int) : List Int → Int
  | [] => x
  | y :: r => maxI (if x < y then y else x) r
def minI (x : Int) : List Int → Int
  | [] => x
  | y :: r => minI (if y < x then y else x) r
def sumI : List Int → Int
  | [] => 0
  | x :: r => x + sumI r
def tupsOf : List W → Option (List (List Int))
  | [] => some []
  | .tup ws :: r => (match intsOf ws, tupsOf r with | some is, some rs => some (is :: rs) | _, _ => none)
  | _ :: _ => none
/-- the order of texts of numbers -/
def leL : List Int → List Int → Bool
  | [], _ => true
  | _ :: _, [] => false
  | x :: xs, y :: ys => if x < y then true else if x = y then leL xs ys else false
def insL (x : List Int) : List (List Int) → List (List Int)
  | [] => [x]
  | y :: r => if leL x y then x :: y :: r else y :: insL x r
def srtL : List (List Int) → List (List Int)
  | [] => []
  | x :: r => insL x (srtL r)
/-- all of length d, none below 0 -/
def likeL (d : Nat) : List (List Int) → Bool
  | [] => true
  | x :: r => decide (x.length = d) && x.all (fun i => decide (0 ≤ i)) && likeL d r
def srtT (xs : List (List Int)) : Option (List W) := match xs with
  | [] => some []
  | x :: r => if x.length ≠ 0 ∧ x.length < 64 ∧ likeL x.length (x :: r) = true ∧ (x :: r).length < 64 then some ((srtL (x :: r)).map fun is => W.tup (is.map W.int)) else none
/-- tuples by their first items, no two alike -/
def firstI : W → Option Int
  | .tup (.int i :: _) => some i
  | _ => none
def insF (x : W) (i : Int) : List (Int × W) → Option (List (Int × W))
  | [] => some [(i, x)]
  | (j, y) :: r => if i < j then some ((i, x) :: (j, y) :: r) else if i = j then none else match insF x i r with
    | some s => some ((j, y) :: s)
    | none => none
def srtF : List W → Option (List (Int × W))
  | [] => some []
  | x :: r => match firstI x, srtF r with
    | some i, some s => insF x i s
    | _, _ => none
def isKeyT : W → Bool
  | .tup ws => ws.all isKey
  | _ => false
def dicTOf (h : EH) : W → Option (List (W × W))
  | .ref n => match h[n]? with
    | some (.dicT kvs) => some kvs
    | some (.dicTL kvs) => some kvs
    | _ => none
  | _ => none
def keyEs : List W → List W → Bool
  | [], [] => true
  | x :: xs, y :: ys => keyE x y && keyEs xs ys
  | _, _ => false
def keyET : W → W → Bool
  | .tup xs, .tup ys => keyEs xs ys
  | _, _ => false
def tget (kvs : List (W × W)) (k : W) : Option W := match kvs with
  | [] => none
  | (j, v) :: r => if keyET j k then some v else tget r k
def tput (kvs : List (W × W)) (k v : W) : List (W × W) := match kvs with
  | [] => [(k, v)]
  | (j, u) :: r => if keyET j k then (j, v) :: r else (j, u) :: tput r k v
/-- a dict of pairs, from the left -/
def dictOf : List (W × W) → List W → Option (List (W × W))
  | kvs, [] => some kvs
  | kvs, .tup [k, v] :: r => if isKey k then dictOf (dput kvs k v) r else none
  | _, _ :: _ => none
def keysI : List (W × W) → Option (List Int)
  | [] => some []
  | (.int i, _) :: r => (match keysI r with | some is => some (i :: is) | none => none)
  | _ :: _ => none
def keysTI : List (W × W) → Option (List (List Int))
  | [] => some []
  | (.tup ws, _) :: r => (match intsOf ws, keysTI r with | some is, some rs => some (is :: rs) | _, _ => none)
  | _ :: _ => none
def oL (m : Bool) (h : EH) (o : Option (List W)) : T W := match o with
  | some xs => newL m xs h
  | none => .fail
def p1W (p : P1) (m : Bool) (x : W) (h : EH) : T W := match p with
  | .neg => (match x with | .int i => .ok (.int (-i)) h | _ => .fail)
  | .tupRev => (match lsqOf h x with | some xs => .ok (.tup xs.reverse) h | none => .fail)
  | .lstRng => (match x with | .int n => if n ≤ LIM ∧ -1000000 < n then newL m (rngW 0 n.toNat) h else .fail | _ => .fail)
  | .tupRng => (match x with | .int n => if n ≤ LIM ∧ -1000000 < n then .ok (.tup (rngW 0 n.toNat)) h else .fail | _ => .fail)
  | .sumL => (match lsqOf h x with | some xs => (match intsOf xs with | some is => .ok (.int (sumI is)) h | none => .fail) | none => .fail)
  | .maxL => (match lsqOf h x with | some xs => (match intsOf xs with | some (i :: is) => .ok (.int (maxI i is)) h | _ => .fail) | none => .fail)
  | .minL => (match lsqOf h x with | some xs => (match intsOf xs with | some (i :: is) => .ok (.int (minI i is)) h | _ => .fail) | none => .fail)
  | .sortI => (match lsqOf h x with | some xs => oL m h ((intsOf xs).map fun is => (srtI is).map W.int) | none => .fail)
  | .sortIT => (match x with | .tup xs => oL m h ((intsOf xs).map fun is => (srtI is).map W.int) | _ => .fail)
  | .sortU => (match lsqOf h x with | some xs => oL m h ((tupsOf xs).bind srtT) | none => .fail)
  | .sortF => (match lsqOf h x with | some xs => oL m h ((srtF xs).map fun is => is.map (·.2)) | none => .fail)
  | .sortDI => (match dicOf h x with | some kvs => if kvs.length < 64 then oL m h ((keysI kvs).map fun is => (srtI is).map W.int) else .fail | none => .fail)
  | .sortDT => (match dicTOf h x with | some kvs => oL m h ((keysTI kvs).bind srtT) | none => .fail)
  | .dictP => (match lsqOf h x with | some xs => (match dictOf [] xs with | some kvs => .ok (.ref h.length) (h ++ [.dic kvs]) | none => .fail) | none => .fail)
  | .lenT => (match x with | .ref n => (match h[n]? with | some (.dicT kvs) => .ok (.int (kvs.length : Int)) h | _ => .fail) | _ => .fail)
  | .pop => (match x with | .ref n => (match h[n]? with | some (.lst xs) => (match xs[xs.length - 1]? with | some w => .ok w (h.set n (.lst xs.dropLast)) | none => .fail) | _ => .fail) | _ => .fail)
  | .lstD => (match dicOf h x with | some kvs => newL m (kvs.map (·.1)) h | none => .fail)
  | .minU => .fail
def remI (i : Int) : List W → Option (List W)
  | [] => none
  | .int j :: r => if j = i then some r else (match remI i r with | some s => some (.int j :: s) | none => none)
  | _ :: _ => none
def p2W (p : P2) (m : Bool) (x y : W) (h : EH) : T W := match p with
  | .dixT => (match dicTOf h x with | some kvs => if isKeyT y then ofO (tget kvs y) h else .fail | none => .fail)
  | .inT n => (match dicTOf h y with | some kvs => if isKeyT x then .ok (.bl (if n then (tget kvs x).isNone else (tget kvs x).isSome)) h else .fail | none => .fail)
  | .lstRng2 => (match x, y with | .int i, .int n => if n - i ≤ LIM ∧ -1000000 < n ∧ -1000000 < i ∧ i < 1000000 ∧ n < 1000000 then newL m (rngW i (n - i).toNat) h else .fail | _, _ => .fail)
  | .tupRng2 => (match x, y with | .int i, .int n => if n - i ≤ LIM ∧ -1000000 < n ∧ -1000000 < i ∧ i < 1000000 ∧ n < 1000000 then .ok (.tup (rngW i (n - i).toNat)) h else .fail | _, _ => .fail)
  | .popAt => (match x, y with | .ref n, .int i => (match h[n]? with | some (.lst xs) => (match ixN xs.length i with | some j => (match xs[j]? with | some w => .ok w (h.set n (.lst (xs.eraseIdx j))) | none => .fail) | none => .fail) | _ => .fail) | _, _ => .fail)
  | .get1 => (match dicOf h x with | some kvs => if isKey y then .ok ((dget kvs y).getD .non) h else .fail | none => .fail)
  | .remI => (match x, y with | .ref n, .int i => (match h[n]? with | some (.lst xs) => (match intsOf xs, remI i xs with | some _, some s => .ok .non (h.set n (.lst s)) | _, _ => .fail) | _ => .fail) | _, _ => .fail)
def p3W (p : P3) (x y z : W) (h : EH) : T W := match p with
  | .get2 => (match dicOf h x with | some kvs => if isKey y then .ok ((dget kvs y).getD z) h else .fail | none => .fail)
  | .getT2 => (match dicTOf h x with | some kvs => if isKeyT y then .ok ((tget kvs y).getD z) h else .fail | none => .fail)
  | .insert => (match x, y with | .ref n, .int i => (match h[n]? with | some (.lst xs) => if 0 ≤ i ∧ i < 1000000 ∧ xs.length < LIM then .ok .non (h.set n (.lst (xs.take i.toNat ++ [z] ++ xs.drop i.toNat))) else .fail | _ => .fail) | _, _ => .fail)
/-- what the receiver must be ahead of the other values -/
def isLW0 (h : EH) (x : W) : Bool := match x with
  | .ref n => match h[n]? with
    | some (.lst _) => true
    | _ => false
  | _ => false
def pre2 (p : P2) (x : W) (h : EH) : Bool := match p with
  | .popAt => isLW0 h x
  | .remI => isLW0 h x
  | .get1 => (dicOf h x).isSome
  | _ => true
def pre3 (p : P3) (x : W) (h : EH) : Bool := match p with
  | .insert => isLW0 h x
  | .get2 => (dicOf h x).isSome
  | .getT2 => (dicTOf h x).isSome
/-! walks that lock nothing -/
inductive Wk where | fix (xs : List W) | at (n : Nat)
def lsAt (h : EH) (n : Nat) : Option (List W) := match h[n]? with
  | some (.lst xs) => some xs
  | some (.lstL xs) => some xs
  | _ => none
/-- the item at a turn; none inside: it is over -/
def Wk.get (k : Wk) (h : EH) (i : Nat) : Option (Option W) := match k with
  | .fix xs => some xs[i]?
  | .at n => match lsAt h n with
    | some xs => some xs[i]?
    | none => none
def Wk.len (k : Wk) (h : EH) : Nat := match k with
  | .fix xs => xs.length
  | .at n => match lsAt h n with
    | some xs => xs.length
    | none => 0
/-! what a generator hands out -/
def okO {α : Type} : T α → Option (α × EH)
  | .ok a h => some (a, h)
  | _ => none
def GK.st : GK → Option Bool
  | .any => some true
  | .all => some false
  | .sum => none
/-- whether the consumer stops at y; none: it is of a wrong kind -/
def isStop (st : Option Bool) (y : W) : Option Bool := match st, y with
  | some t, .bl b => some (b == t)
  | none, .int _ => some false
  | _, _ => none
/-- what is handed out from turn i on, k turns; whether the consumer stopped at the last; the heap behind -/
def genW (st : Option Bool) (f : W → EH → T (Option W)) (wk : Wk) : Nat → Nat → EH → Option (List W × Bool × EH)
  | 0, i, h => match wk.get h i with
    | some none => some ([], false, h)
    | _ => none
  | k + 1, i, h => match wk.get h i with
    | some (some x) => (match okO (f x h) with
      | none => none
      | some (none, h) => genW st f wk k (i + 1) h
      | some (some y, h) => match isStop st y with
        | none => none
        | some true => some ([y], true, h)
        | some false => match genW st f wk k (i + 1) h with
          | none => none
          | some (ys, s, h) => some (y :: ys, s, h))
    | _ => none
/-- .. of two clauses: f gives the inner walk's -/
def genO (f : W → EH → Option (Option (List W × Bool) × EH)) (wk : Wk) : Nat → Nat → EH → Option (List W × Bool × EH)
  | 0, i, h => match wk.get h i with
    | some none => some ([], false, h)
    | _ => none
  | k + 1, i, h => match wk.get h i with
    | some (some x) => (match f x h with
      | none => none
      | some (none, h) => genO f wk k (i + 1) h
      | some (some (ys, true), h) => some (ys, true, h)
      | some (some (ys, false), h) => match genO f wk k (i + 1) h with
        | none => none
        | some (zs, s, h) => some (ys ++ zs, s, h))
    | _ => none
def sumW : List W → Int
  | [] => 0
  | .int i :: r => i + sumW r
  | _ :: r => sumW r
def genF (k : GK) (zs : List W) (s : Bool) : W := match k with
  | .any => .bl s
  | .all => .bl (!s)
  | .sum => .int (sumW zs)
def isTbl (h : EH) (t : Nat) : Bool := match h[t]? with
  | some .tbl => true
  | _ => false
def genR (k : GK) (o : Option (List W × Bool × EH)) : T W := match o with
  | some (zs, s, h) => .ok (genF k zs s) h
  | none => .fail
/-- one turn of a walk: the target, the test, the value -/
def turnW (g : G) (own : List Nat) (fc : Env → EH → T Bool) (fe : Env → EH → T W) (σ : Env) (x : W) (h : EH) : T (Option W) := match store g x (wipeE σ own) with
  | none => .fail
  | some σ' => (fc σ' h).bind fun k h => if k then (fe σ' h).bind fun y h => .ok (some y) h else .ok none h
/-- a turn of the first of two clauses: the second's walk -/
def turnO (st : Option Bool) (g : G) (own : List Nat) (fc : Env → EH → T Bool) (fi : Env → EH → T Wk) (fe : Env → W → EH → T (Option W)) (σ : Env) (x : W) (h : EH) : Option (Option (List W × Bool) × EH) := match store g x (wipeE σ own) with
  | none => none
  | some σ' => match okO (fc σ' h) with
    | none => none
    | some (false, h) => some (none, h)
    | some (true, h) => match okO (fi σ' h) with
      | none => none
      | some (wk, h) => match genW st (fe σ') wk (wk.len h) 0 h with
        | none => none
        | some (ys, s, h) => some (some (ys, s), h)
/-- a list comprehension's turns -/
def forW (f : W → EH → T (Option W)) (wk : Wk) : Nat → Nat → List W → EH → T (List W)
  | 0, i, acc, h => match wk.get h i with
    | some none => .ok acc h
    | _ => .fail
  | k + 1, i, acc, h => match wk.get h i with
    | some (some x) => (f x h).bind fun o h => (match o with
      | none => forW f wk k (i + 1) acc h
      | some y => if acc.length < LIM then forW f wk k (i + 1) (acc ++ [y]) h else .fail)
    | _ => .fail
def forO (f : W → List W → EH → T (List W)) : List W → List W → EH → T (List W)
  | [], acc, h => .ok acc h
  | x :: xs, acc, h => (f x acc h).bind fun acc h => forO f xs acc h
/-- a turn of the first of two clauses -/
def turnC (g : G) (own : List Nat) (fc : Env → EH → T Bool) (fi : Env → EH → T Wk) (fe : Env → W → EH → T (Option W)) (σ : Env) (x : W) (acc : List W) (h : EH) : T (List W) := match store g x (wipeE σ own) with
  | none => .fail
  | some σ' => (fc σ' h).bind fun k h => if k then (fi σ' h).bind fun wk h => forW (fe σ') wk (wk.len h) 0 acc h else .ok acc h
def pairW : List (W × W) → List W
  | [] => []
  | (k, v) :: r => .tup [k, v] :: pairW r
def enumW : Int → List W → List W
  | _, [] => []
  | i, x :: r => .tup [.int i, x] :: enumW (i + 1) r
def zipW : List W → List W → List W
  | x :: xs, y :: ys => .tup [x, y] :: zipW xs ys
  | _, _ => []
/-- the items of a walk, and what is locked meanwhile -/
def wkI (k : WK) (x : W) (h : EH) : T (List W × Lk) := match k with
  | .vals => (match x with
    | .ref n => (match h[n]? with
      | some (.dic kvs) => .ok (kvs.map (·.2), .d n kvs) (h.set n (.dicL kvs))
      | some (.dicL kvs) => .ok (kvs.map (·.2), .no) h
      | _ => .fail)
    | _ => .fail)
  | .items => (match x with
    | .ref n => (match h[n]? with
      | some (.dic kvs) => .ok (pairW kvs, .d n kvs) (h.set n (.dicL kvs))
      | some (.dicL kvs) => .ok (pairW kvs, .no) h
      | _ => .fail)
    | _ => .fail)
  | .keysT => (match x with
    | .ref n => (match h[n]? with
      | some (.dicT kvs) => .ok (kvs.map (·.1), .t n kvs) (h.set n (.dicTL kvs))
      | some (.dicTL kvs) => .ok (kvs.map (·.1), .no) h
      | _ => .fail)
    | _ => .fail)
  | .enum => (match x with
    | .ref n => (match h[n]? with
      | some (.lst xs) => .ok (enumW 0 xs, .l n xs) (h.set n (.lstL xs))
      | some (.lstL xs) => .ok (enumW 0 xs, .no) h
      | _ => .fail)
    | .lst xs => .ok (enumW 0 xs, .no) h
    | .tup xs => .ok (enumW 0 xs, .no) h
    | _ => .fail)
  | .rev => (match x with
    | .ref n => (match h[n]? with
      | some (.lst xs) => .ok (xs.reverse, .l n xs) (h.set n (.lstL xs))
      | some (.lstL xs) => .ok (xs.reverse, .no) h
      | _ => .fail)
    | .lst xs => .ok (xs.reverse, .no) h
    | .tup xs => .ok (xs.reverse, .no) h
    | _ => .fail)
section
variable (C : CallH) (M : MTab) (ini : Nat → Nat)
mutual
def ev : E → Env → EH → T W
  | .nev, _, _ => .fail
  | .var i, σ, h => match σ[i]? with
    | some (some w) => .ok w h
    | _ => .fail
  | .int i, _, h => .ok (.int i) h
  | .bl b, _, h => .ok (.bl b) h
  | .non, _, h => .ok .non h
  | .str x, _, h => .ok (.str x) h
  | .bin o a b, σ, h => (ev a σ h).bind fun x h => (ev b σ h).bind fun y h => ofO (opW o x y) h
  | .cmp c a b, σ, h => (ev a σ h).bind fun x h => (ev b σ h).bind fun y h => ofO (cmW c x y) h
  | .chain c d a b e, σ, h => (ev a σ h).bind fun x h => (ev b σ h).bind fun y h => (ofO (cmW c x y) h).bind fun k h => boolK k fun k => if k then (ev e σ h).bind fun z h => ofO (cmW d y z) h else .ok (.bl false) h
  | .eqI n a b, σ, h => (ev a σ h).bind fun x h => (ev b σ h).bind fun y h => ofO ((eqS x y).map fun k => W.bl (if n then !k else k)) h
  | .eqD n a b, σ, h => (ev a σ h).bind fun x h => (ev b σ h).bind fun y h => ofO ((eqDW h x y).map fun k => W.bl (if n then !k else k)) h
  | .isN n a, σ, h => (ev a σ h).bind fun x h => .ok (.bl (match x with | .non => !n | _ => n)) h
  | .not a, σ, h => (ev a σ h).bind fun x h => boolK x fun k => .ok (.bl (!k)) h
  | .and es, σ, h => evAnd es σ h
  | .or es, σ, h => evOr es σ h
  | .ite c a b, σ, h => (ev c σ h).bind fun x h => boolK x fun k => if k then ev a σ h else ev b σ h
  | .tup es, σ, h => (evs es σ h).bind fun xs h => .ok (.tup xs) h
  | .lst m es, σ, h => (evs es σ h).bind fun xs h => newL m xs h
  | .dic, _, h => .ok (.ref h.length) (h ++ [.dic []])
  | .ix a i, σ, h => (ev a σ h).bind fun x h => (ev i σ h).bind fun y h => match seqOf h x, y with
    | some xs, .int k => ofO (ixW xs k) h
    | _, _ => .fail
  | .dix a i, σ, h => (ev a σ h).bind fun x h => (ev i σ h).bind fun y h => match dicOf h x with
    | some kvs => if isKey y then ofO (dget kvs y) h else .fail
    | none => .fail
  | .slL m a lo hi, σ, h => (ev a σ h).bind fun x h => (evo lo σ h).bind fun l h => (evo hi σ h).bind fun u h => match lsqOf h x with
    | some xs => newL m (cutW xs l u) h
    | none => .fail
  | .slT a lo hi, σ, h => (ev a σ h).bind fun x h => (evo lo σ h).bind fun l h => (evo hi σ h).bind fun u h => match x with
    | .tup xs => .ok (.tup (cutW xs l u)) h
    | _ => .fail
  | .fld a f, σ, h => (ev a σ h).bind fun x h => match insOf h x with
    | some (_, fs) => ofO (look fs f) h
    | none => .fail
  | .inS n a b, σ, h => (ev a σ h).bind fun x h => (ev b σ h).bind fun y h => match seqOf h y with
    | some xs => if isSc x then ofO ((mapO (eqS x) xs).map fun ks => W.bl (if n then !ks.any id else ks.any id)) h else .fail
    | none => .fail
  | .inD n a b, σ, h => (ev a σ h).bind fun x h => (ev b σ h).bind fun y h => match dicOf h y with
    | some kvs => if isKey x then .ok (.bl (if n then (dget kvs x).isNone else (dget kvs x).isSome)) h else .fail
    | none => .fail
  | .catL m a b, σ, h => (ev a σ h).bind fun x h => (ev b σ h).bind fun y h => match lstOf h x, lstOf h y with
    | some xs, some ys => if xs.length + ys.length ≤ LIM then newL m (xs ++ ys) h else .fail
    | _, _ => .fail
  | .catT a b, σ, h => (ev a σ h).bind fun x h => (ev b σ h).bind fun y h => match x, y with
    | .tup xs, .tup ys => if xs.length + ys.length ≤ LIM then .ok (.tup (xs ++ ys)) h else .fail
    | _, _ => .fail
  | .rep m a b, σ, h => (ev a σ h).bind fun x h => (ev b σ h).bind fun y h => match lstOf h x, y with
    | some xs, .int k => if xs.length * k.toNat ≤ LIM ∧ k < 1000000 ∧ -1000000 < k then newL m (List.replicate k.toNat xs).flatten h else .fail
    | _, _ => .fail
  | .len a, σ, h => (ev a σ h).bind fun x h => match seqOf h x with
    | some xs => .ok (.int (xs.length : Int)) h
    | none => .fail
  | .lenD a, σ, h => (ev a σ h).bind fun x h => match dicOf h x with
    | some kvs => .ok (.int (kvs.length : Int)) h
    | none => .fail
  | .max2 a b, σ, h => (ev a σ h).bind fun x h => (ev b σ h).bind fun y h => match x, y with
    | .int i, .int j => .ok (.int (if j > i then j else i)) h
    | _, _ => .fail
  | .min2 a b, σ, h => (ev a σ h).bind fun x h => (ev b σ h).bind fun y h => match x, y with
    | .int i, .int j => .ok (.int (if j < i then j else i)) h
    | _, _ => .fail
  | .abs a, σ, h => (ev a σ h).bind fun x h => match x with
    | .int i => .ok (.int (if i < 0 then -i else i)) h
    | _ => .fail
  | .toInt a, σ, h => (ev a σ h).bind fun x h => match x with
    | .int i => .ok (.int i) h
    | .bl b => .ok (.int (if b then 1 else 0)) h
    | _ => .fail
  | .toTup a, σ, h => (ev a σ h).bind fun x h => match seqOf h x with
    | some xs => .ok (.tup xs) h
    | none => .fail
  | .toLst m a, σ, h => (ev a σ h).bind fun x h => match seqOf h x with
    | some xs => newL m xs h
    | none => .fail
  | .call f es, σ, h => (evs es σ h).bind fun xs h => C f xs h
  | .make c es, σ, h => (evs es σ h).bind fun xs h => (C (ini c) (.ref h.length :: xs) (h ++ [.ins c []])).bind fun v h' => match v with
    | .non => .ok (.ref h.length) h'
    | _ => .fail
  | .meth a m es, σ, h => (ev a σ h).bind fun x h => match insOf h x with
    | some (c, _) => (match M c m with
      | some f => (evs es σ h).bind fun xs h => C f (x :: xs) h
      | none => .fail)
    | none => .fail
  | .comp e g it c own, σ, h => (evI it σ h).bind fun p h => (forL (fun x h => match store g x (wipeE σ own) with
      | none => .fail
      | some σ' => (evc c σ' h).bind fun k h => if k then (ev e σ' h).bind fun y h => .ok (some y) h else .ok none h) [] p.1 h).nox.bind fun ys h => .ok (.lst ys) (unlock p.2 h)
  | .compM e g it c own, σ, h => (evI it σ h).bind fun p h => (forM h.length (fun x h => match store g x (wipeE σ own) with
      | none => .fail
      | some σ' => (evc c σ' h).bind fun k h => if k then (ev e σ' h).bind fun y h => .ok (some y) h else .ok none h) p.1 (h ++ [.lst []])).nox.bind fun _ h' => .ok (.ref h.length) (unlock p.2 h')
  | .dicT, _, h => .ok (.ref h.length) (h ++ [.dicT []])
  | .p1 p m a, σ, h => (ev a σ h).bind fun x h => p1W p m x h
  | .p2 p m a b, σ, h => (ev a σ h).bind fun x h => if pre2 p x h then (ev b σ h).bind fun y h => p2W p m x y h else .fail
  | .p3 p a b c, σ, h => (ev a σ h).bind fun x h => if pre3 p x h then (ev b σ h).bind fun y h => (ev c σ h).bind fun z h => p3W p x y z h else .fail
  | .comp2 e g it c g2 it2 c2 own own2, σ, h => (evI it σ h).bind fun p h => (forO (turnC g own (fun σ h => evc c σ h) (fun σ h => evJ it2 σ h) (fun σ x h => turnW g2 own2 (fun σ h => evc c2 σ h) (fun σ h => ev e σ h) σ x h) σ) p.1 [] h).nox.bind fun ys h => .ok (.lst ys) (unlock p.2 h)
  | .gen k e g it c own t, σ, h => (evI it σ h).bind fun p h => (if isTbl h t then genR k (genW k.st (turnW g own (fun σ h => evc c σ h) (fun σ h => ev e σ h) σ) (.fix p.1) p.1.length 0 h) else .fail).bind fun w h => .ok w (unlock p.2 h)
  | .gen2 k e g it c g2 it2 c2 own own2 t, σ, h => (evI it σ h).bind fun p h => (if isTbl h t then genR k (genO (turnO k.st g own (fun σ h => evc c σ h) (fun σ h => evJ it2 σ h) (fun σ x h => turnW g2 own2 (fun σ h => evc c2 σ h) (fun σ h => ev e σ h) σ x h) σ) (.fix p.1) p.1.length 0 h) else .fail).bind fun w h => .ok w (unlock p.2 h)
def evAnd : Es → Env → EH → T W
  | .nil, _, _ => .fail
  | .cons e r, σ, h => match r with
    | .nil => ev e σ h
    | r => (ev e σ h).bind fun x h => boolK x fun k => if k then evAnd r σ h else .ok (.bl false) h
def evOr : Es → Env → EH → T W
  | .nil, _, _ => .fail
  | .cons e r, σ, h => match r with
    | .nil => ev e σ h
    | r => (ev e σ h).bind fun x h => boolK x fun k => if k then .ok (.bl true) h else evOr r σ h
def evs : Es → Env → EH → T (List W)
  | .nil, _, h => .ok [] h
  | .cons e r, σ, h => (ev e σ h).bind fun x h => (evs r σ h).bind fun xs h => .ok (x :: xs) h
/-- an int that may be left out -/
def evo : Eo → Env → EH → T (Option Int)
  | .none, _, h => .ok none h
  | .some e, σ, h => (ev e σ h).bind fun x h => match x with
    | .int i => .ok (some i) h
    | _ => .fail
/-- a test that may be left out -/
def evc : Eo → Env → EH → T Bool
  | .none, _, h => .ok true h
  | .some e, σ, h => (ev e σ h).bind fun x h => boolK x fun k => .ok k h
/-- what is walked: the items, and what is to be unlocked behind the walk -/
def evI : I → Env → EH → T (List W × Lk)
  | .seq e, σ, h => (ev e σ h).bind fun x h => match x with
    | .tup xs => .ok (xs, .no) h
    | .lst xs => .ok (xs, .no) h
    | _ => .fail
  | .seqR e, σ, h => (ev e σ h).bind fun x h => match x with
    | .ref n => (match h[n]? with
      | some (.lst xs) => .ok (xs, .l n xs) (h.set n (.lstL xs))
      | some (.lstL xs) => .ok (xs, .no) h
      | _ => .fail)
    | _ => .fail
  | .rng a, σ, h => (ev a σ h).bind fun x h => match x with
    | .int n => if n ≤ LIM ∧ -1000000 < n then .ok (rngW 0 n.toNat, .no) h else .fail
    | _ => .fail
  | .rng2 a b, σ, h => (ev a σ h).bind fun x h => (ev b σ h).bind fun y h => match x, y with
    | .int i, .int n => if n - i ≤ LIM ∧ -1000000 < n ∧ -1000000 < i ∧ i < 1000000 ∧ n < 1000000 then .ok (rngW i (n - i).toNat, .no) h else .fail
    | _, _ => .fail
  | .keys e, σ, h => (ev e σ h).bind fun x h => match x with
    | .ref n => (match h[n]? with
      | some (.dic kvs) => .ok (kvs.map (·.1), .d n kvs) (h.set n (.dicL kvs))
      | some (.dicL kvs) => .ok (kvs.map (·.1), .no) h
      | _ => .fail)
    | _ => .fail
  | .w k e, σ, h => (ev e σ h).bind fun x h => wkI k x h
  | .zip _ _, _, _ => .fail
/-- the second clause's walk: nothing is locked -/
def evJ : I → Env → EH → T Wk
  | .seq e, σ, h => (ev e σ h).bind fun x h => match x with
    | .tup xs => .ok (.fix xs) h
    | .lst xs => .ok (.fix xs) h
    | _ => .fail
  | .seqR e, σ, h => (ev e σ h).bind fun x h => match x with
    | .ref n => (match lsAt h n with
      | some _ => .ok (.at n) h
      | none => .fail)
    | _ => .fail
  | .rng a, σ, h => (ev a σ h).bind fun x h => match x with
    | .int n => if n ≤ LIM ∧ -1000000 < n then .ok (.fix (rngW 0 n.toNat)) h else .fail
    | _ => .fail
  | .rng2 a b, σ, h => (ev a σ h).bind fun x h => (ev b σ h).bind fun y h => match x, y with
    | .int i, .int n => if n - i ≤ LIM ∧ -1000000 < n ∧ -1000000 < i ∧ i < 1000000 ∧ n < 1000000 then .ok (.fix (rngW i (n - i).toNat)) h else .fail
    | _, _ => .fail
  | .keys _, _, _ => .fail
  | .w _ _, _, _ => .fail
  | .zip _ _, _, _ => .fail
end

/-! ### what it does: statements -/
inductive Fl where | nx | rt (w : W) | bk | ct
abbrev R := T (Fl × Env)
def setIx (x y w : W) (h : EH) : Option EH := match x, y with
  | .ref n, .int k => match h[n]? with
    | some (.lst xs) => match ixN xs.length k with
      | some j => some (h.set n (.lst (xs.set j w)))
      | none => none
    | _ => none
  | _, _ => none
def setDx (x y w : W) (h : EH) : Option EH := match x with
  | .ref n => match h[n]? with
    | some (.dic kvs) => if isKey y ∧ kvs.length < LIM then some (h.set n (.dic (dput kvs y w))) else none
    | _ => none
  | _ => none
def setTx (x y w : W) (h : EH) : Option EH := match x with
  | .ref n => match h[n]? with
    | some (.dicT kvs) => if isKeyT y ∧ kvs.length < LIM then some (h.set n (.dicT (tput kvs y w))) else none
    | _ => none
  | _ => none
def delIx (x y : W) (h : EH) : Option EH := match x, y with
  | .ref n, .int k => match h[n]? with
    | some (.lst xs) => match ixN xs.length k with
      | some j => some (h.set n (.lst (xs.eraseIdx j)))
      | none => none
    | _ => none
  | _, _ => none
def ddrop (kvs : List (W × W)) (k : W) : List (W × W) := match kvs with
  | [] => []
  | (j, u) :: r => if keyE j k then r else (j, u) :: ddrop r k
def delDx (x y : W) (h : EH) : Option EH := match x with
  | .ref n => match h[n]? with
    | some (.dic kvs) => if isKey y ∧ (dget kvs y).isSome then some (h.set n (.dic (ddrop kvs y))) else none
    | _ => none
  | _ => none
def getIx (x y : W) (h : EH) : Option W := match x, y with
  | .ref n, .int k => match h[n]? with
    | some (.lst xs) => ixW xs k
    | _ => none
  | _, _ => none
def getDx (x y : W) (h : EH) : Option W := match x with
  | .ref n => match h[n]? with
    | some (.dic kvs) => if isKey y then dget kvs y else none
    | _ => none
  | _ => none
def getTx (x y : W) (h : EH) : Option W := match x with
  | .ref n => match h[n]? with
    | some (.dicT kvs) => if isKeyT y then tget kvs y else none
    | _ => none
  | _ => none
def setFld (x : W) (f : Nat) (w : W) (h : EH) : Option EH := match x with
  | .ref n => match h[n]? with
    | some (.ins c fs) => if fs.length < 900 then some (h.set n (.ins c (putf fs f w))) else none
    | _ => none
  | _ => none
def isLW (h : EH) (x : W) : Bool := match x with
  | .ref n => match h[n]? with
    | some (.lst _) => true
    | _ => false
  | _ => false
def appW (x w : W) (σ : Env) (h : EH) : R := match x with
  | .ref n => match h[n]? with
    | some (.lst xs) => if xs.length < LIM then .ok (.nx, σ) (h.set n (.lst (xs ++ [w]))) else .fail
    | _ => .fail
  | _ => .fail
/-- the instance's class is still c -/
def sameC (h : EH) (x : W) (c : Nat) (o : Option EH) : Option EH := match insOf h x with
  | some (d, _) => if d = c then o else none
  | none => none
def forS (f : W → Env → EH → R) : List W → Env → EH → R
  | [], σ, h => .ok (.nx, σ) h
  | x :: xs, σ, h => (f x σ h).bind fun p h => match p.1 with
    | .nx => forS f xs p.2 h
    | .ct => forS f xs p.2 h
    | .bk => .ok (.nx, p.2) h
    | .rt w => .ok (.rt w, p.2) h
def whlN (c : Env → EH → T W) (f : Env → EH → R) : Nat → Env → EH → R
  | 0, _, _ => .fail
  | n + 1, σ, h => (c σ h).bind fun x h => boolK x fun k => if k then (f σ h).bind fun p h => match p.1 with
    | .nx => whlN c f n p.2 h
    | .ct => whlN c f n p.2 h
    | .bk => .ok (.nx, p.2) h
    | .rt w => .ok (.rt w, p.2) h
    else .ok (.nx, σ) h
def nxH (σ : Env) (o : Option EH) : R := match o with
  | some h => .ok (.nx, σ) h
  | none => .fail
mutual
def ex : S → Env → EH → R
  | .set g e, σ, h => (ev C M ini e σ h).bind fun w h => match g with
    | .name i => .ok (.nx, σ.set i (some w)) h
    | .tup is => (match w with
      | .tup ws => ofO ((setAll σ is ws).map fun σ => (Fl.nx, σ)) h
      | _ => .fail)
    | .fld a f => (ev C M ini a σ h).bind fun x h => nxH σ (setFld x f w h)
    | .sub a i => (ev C M ini a σ h).bind fun x h => (ev C M ini i σ h).bind fun y h => nxH σ (setIx x y w h)
    | .dsub a i => (ev C M ini a σ h).bind fun x h => (ev C M ini i σ h).bind fun y h => nxH σ (setDx x y w h)
    | .tsub a i => (ev C M ini a σ h).bind fun x h => (ev C M ini i σ h).bind fun y h => nxH σ (setTx x y w h)
  | .par i j a b, σ, h => (ev C M ini a σ h).bind fun x h => (ev C M ini b σ h).bind fun y h => .ok (.nx, (σ.set i (some x)).set j (some y)) h
  | .par3 i j k a b c, σ, h => (ev C M ini a σ h).bind fun x h => (ev C M ini b σ h).bind fun y h => (ev C M ini c σ h).bind fun z h => .ok (.nx, ((σ.set i (some x)).set j (some y)).set k (some z)) h
  | .augN i o e, σ, h => match σ[i]? with
    | some (some x) => (ev C M ini e σ h).bind fun y h => (ofO (opW o x y) h).bind fun w h => .ok (.nx, σ.set i (some w)) h
    | _ => .fail
  | .augF a f o e, σ, h => (ev C M ini a σ h).bind fun x h => match insOf h x with
    | some (c, fs) => (ofO (look fs f) h).bind fun y h => (ev C M ini e σ h).bind fun z h => (ofO (opW o y z) h).bind fun w h => nxH σ (sameC h x c (setFld x f w h))
    | none => .fail
  | .extF a f e, σ, h => (ev C M ini a σ h).bind fun x h => match insOf h x with
    | some (c, fs) => (ofO (look fs f) h).bind fun y h => (ev C M ini e σ h).bind fun z h => match y, z with
      | .ref n, .lst zs => (match h[n]? with
        | some (.lst ys) => if ys.length + zs.length ≤ LIM then nxH σ (sameC h x c (setFld x f y (h.set n (.lst (ys ++ zs))))) else .fail
        | _ => .fail)
      | _, _ => .fail
    | none => .fail
  | .ret e, σ, h => (ev C M ini e σ h).bind fun w h => .ok (.rt w, σ) h
  | .retN, σ, h => .ok (.rt .non, σ) h
  | .expr e, σ, h => (ev C M ini e σ h).bind fun _ h => .ok (.nx, σ) h
  | .pass, σ, h => .ok (.nx, σ) h
  | .ite c t e, σ, h => (ev C M ini c σ h).bind fun x h => boolK x fun k => if k then exs t σ h else exs e σ h
  | .loop g it b, σ, h => (evI C M ini it σ h).bind fun p h => (forS (fun x σ h => match store g x σ with
      | some σ' => exs b σ' h
      | none => .fail) p.1 σ h).bind fun q h => .ok q (unlock p.2 h)
  | .whl c b, σ, h => whlN (fun σ h => ev C M ini c σ h) (fun σ h => exs b σ h) LIM σ h
  | .brk, σ, h => .ok (.bk, σ) h
  | .cont, σ, h => .ok (.ct, σ) h
  | .append a e, σ, h => (ev C M ini a σ h).bind fun x h => if isLW h x then (ev C M ini e σ h).bind fun w h => appW x w σ h else .fail
  | .raise c, _, h => .exc c h
  | .augS a i o e, σ, h => (ev C M ini a σ h).bind fun x h => (ev C M ini i σ h).bind fun y h => (ofO (getIx x y h) h).bind fun u h => (ev C M ini e σ h).bind fun z h => (ofO (opW o u z) h).bind fun w h => nxH σ (setIx x y w h)
  | .augD a i o e, σ, h => (ev C M ini a σ h).bind fun x h => (ev C M ini i σ h).bind fun y h => (ofO (getDx x y h) h).bind fun u h => (ev C M ini e σ h).bind fun z h => (ofO (opW o u z) h).bind fun w h => nxH σ (setDx x y w h)
  | .augT a i o e, σ, h => (ev C M ini a σ h).bind fun x h => (ev C M ini i σ h).bind fun y h => (ofO (getTx x y h) h).bind fun u h => (ev C M ini e σ h).bind fun z h => (ofO (opW o u z) h).bind fun w h => nxH σ (setTx x y w h)
  | .delL a i, σ, h => (ev C M ini a σ h).bind fun x h => (ev C M ini i σ h).bind fun y h => nxH σ (delIx x y h)
  | .delD a i, σ, h => (ev C M ini a σ h).bind fun x h => (ev C M ini i σ h).bind fun y h => nxH σ (delDx x y h)
  | .nev, _, _ => .fail
def exs : Ss → Env → EH → R
  | .nil, σ, h => .ok (.nx, σ) h
  | .cons s r, σ, h => (ex s σ h).bind fun p h => match p.1 with
    | .nx => exs r p.2 h
    | _ => .ok p h
end
end
/-! ### what it does: defs -/
structure Pg where
  /-- how many parameters, how many slots, the text -/
  body : Nat → Option (Nat × Nat × Ss)
  M : MTab
  ini : Nat → Nat
  roll : Nat
  rnds : Nat
def entry (n : Nat) (ws : List W) : Env := ws.map some ++ List.replicate (n - ws.length) none
def rollT (ws : List W) (h : EH) : T W := match ws with
  | [.ref a, .int n] => match h[a]? with
    | some .dice => if 0 < n ∧ n < 1073741824 then .draw n.toNat fun i => .ok (.int (i : Int)) h else .fail
    | _ => .fail
  | _ => .fail
def rndsT (ws : List W) (h : EH) : T W := match ws with
  | [.scr _, .int 1] => .ok (.lst [.ref h.length]) (h ++ [.dice])
  | _ => .fail
def out (p : Fl × Env) (h : EH) : T W := match p.1 with
  | .rt w => .ok w h
  | .nx => .ok .non h
  | _ => .fail
def callN (P : Pg) : Nat → CallH
  | 0, _, _, _ => .fail
  | n + 1, f, ws, h => if f = P.roll then rollT ws h else if f = P.rnds then (if n = 0 then .fail else rndsT ws h) else match P.body f with
    | some (m, k, b) => if ws.length = m then (exs (callN P n) P.M P.ini b (entry k ws) h).bind out else .fail
    | none => .fail
end Z
namespace Z
open PySem PySem.Spec PyProof.Rows L2

/-- what is fixed through a whole law: the written part, the fields' names, where the classes stand -/
structure Inf where
  K : PySem.W.Frag
  fl : List Str
  ca : Nat → Addr
  isC : Nat → Bool
  /-- the defs' tables of inner codes -/
  tb : List Addr

/-- places: ours, in the order of the small heap; and such as are kept apart -/
structure Pl where
  own : List Addr
  res : List Addr
instance : Membership Addr Pl := ⟨fun ι a => a ∈ ι.own ∨ a ∈ ι.res⟩
def Pl.push (ι : Pl) (p : Addr) : Pl := ⟨ι.own ++ [p], ι.res⟩
/-- an object of the written part -/
def KL (K : PySem.W.Frag) (a : Addr) (xs : List V) : Prop :=
  ∃ (o : Obj) (its : Array Value) (n : Nat), K.lookup a = some o ∧ o.cls = .type "list" ∧ o.dict = none ∧ o.data = .seq its n ∧ its.size ≤ sizeLine ∧ Vals xs its.toList
section
variable (I : Inf)
mutual
inductive RW (ι : Pl) (H : Hp) : W → V → Prop
  | non : RW ι H .non .non
  | bl (b : Bool) : RW ι H (.bl b) (.bl b)
  | int (i : Int) : RW ι H (.int i) (.int i)
  | str (x : Str) : RW ι H (.str x) (.str x)
  | tup {p : Addr} {ws : List W} {vs : List V} : H p = some (.tup vs) → p ∉ ι → RWs ι H ws vs → ws.length ≤ LIM → RW ι H (.tup ws) (.ref p)
  | lst {p : Addr} {ws : List W} {vs : List V} : H p = some (.lst vs) → p ∉ ι → RWs ι H ws vs → ws.length ≤ LIM → RW ι H (.lst ws) (.ref p)
  | ref {n : Nat} {a : Addr} : ι.own[n]? = some a → RW ι H (.ref n) (.ref a)
  | scr {a : Addr} {ns : List Int} : (Rd H a (.lst (ns.map V.int)) ∧ a ∉ ι) ∨ KL I.K a (ns.map V.int) → ns.length ≤ 63 → RW ι H (.scr ns) (.ref a)
inductive RWs (ι : Pl) (H : Hp) : List W → List V → Prop
  | nil : RWs ι H [] []
  | cons {w : W} {v : V} {ws : List W} {vs : List V} : RW ι H w v → RWs ι H ws vs → RWs ι H (w :: ws) (v :: vs)
end
def RK : W → Key → Prop
  | .int i, .inl j => i = j
  | .str x, .inr y => x = y
  | _, _ => False
def RKV (ι : Pl) (H : Hp) : List (W × W) → List (Key × V) → Prop := Paired fun p q => RK p.1 q.1 ∧ RW I ι H p.2 q.2
def RKT : W → List Key → Prop
  | .tup ws, ks => Paired RK ws ks ∧ ws.length ≤ LIM
  | _, _ => False
def RKVT (ι : Pl) (H : Hp) : List (W × W) → List (List Key × V) → Prop := Paired fun p q => RKT p.1 q.1 ∧ RW I ι H p.2 q.2
def RF (ι : Pl) (H : Hp) : List (Nat × W) → List (Str × V) → Prop := Paired fun p q => I.fl[p.1]? = some q.1 ∧ RW I ι H p.2 q.2
def RO (ι : Pl) (H : Hp) : EO → Addr → Prop
  | .lst ws, a => ∃ vs, H a = some (.lst vs) ∧ RWs I ι H ws vs ∧ ws.length ≤ LIM
  | .lstL ws, a => ∃ o vs, H a = some (.frz o (.lst vs)) ∧ RWs I ι H ws vs ∧ ws.length ≤ LIM
  | .dic kvs, a => ∃ ls, H a = some (.dK ls) ∧ RKV I ι H kvs ls ∧ kvs.length ≤ LIM ∧ (ls.map (·.1)).Nodup
  | .dicL kvs, a => ∃ o ls, H a = some (.frz o (.dK ls)) ∧ RKV I ι H kvs ls ∧ kvs.length ≤ LIM ∧ (ls.map (·.1)).Nodup
  | .ins c fs, a => ∃ dx ls, H a = some (.ins (I.ca c) dx ls) ∧ RF I ι H fs ls ∧ fs.length ≤ 900 ∧ I.isC c = true
  | .dice, a => ∃ x y z : Int, H a = some (.lst [.int x, .int y, .int z])
  | .dicT kvs, a => ∃ ls, H a = some (.dT ls) ∧ RKVT I ι H kvs ls ∧ kvs.length ≤ LIM ∧ (ls.map (·.1)).Nodup
  | .dicTL kvs, a => ∃ o ls, H a = some (.frz o (.dT ls)) ∧ RKVT I ι H kvs ls ∧ kvs.length ≤ LIM ∧ (ls.map (·.1)).Nodup
  | .tbl, a => ∃ ps : Array Value, H a = some (.tbl ps) ∧ TriplesOk ps.toList
structure Rep (ι : Pl) (h : EH) (H : Hp) : Prop where
  len : ι.own.length = h.length
  nd : ι.own.Nodup
  res : ∀ a ∈ ι.res, H a ≠ none ∧ ∀ vs, H a ≠ some (.tup vs)
  ob : ∀ (i : Nat) (o : EO), h[i]? = some o → ∃ a, ι.own[i]? = some a ∧ RO I ι H o a
  tb : ∀ (j : Nat) (P : Addr), I.tb[j]? = some P → ι.own[j]? = some P
/-- from one state to a later one: new places, what is not ours is kept -/
structure Ext (ι : Pl) (H : Hp) (ι' : Pl) (H' : Hp) : Prop where
  pre : ∃ new, ι'.own = ι.own ++ new ∧ ∀ a ∈ new, H a = none
  rs : ι'.res = ι.res
  keep : ∀ a o, H a = some o → a ∉ ι.own → H' a = some o
  there : ∀ a, H a ≠ none → H' a ≠ none
  frz : ∀ a o u, H a = some (.frz o u) → H' a = some (.frz o u)
end
section
variable {I : Inf} {ι ι' ι'' : Pl} {H H' H'' : Hp} {h h' : EH} {w : W} {v : V} {ws : List W} {vs : List V}
theorem RO.some {o : EO} {a : Addr} (r : RO I ι H o a) : H a ≠ none := by
  cases o <;> first
    | (obtain ⟨_, e, _⟩ := r; rw [e]; exact fun z => nomatch z)
    | (obtain ⟨_, _, e, _⟩ := r; rw [e]; exact fun z => nomatch z)
    | (obtain ⟨_, _, _, e⟩ := r; rw [e]; exact fun z => nomatch z)
theorem Rep.mem (r : Rep I ι h H) {a : Addr} (m : a ∈ ι) : H a ≠ none := by
  rcases m with m | m
  · obtain ⟨i, hi, rfl⟩ := List.getElem_of_mem m
    have hl : i < h.length := by rw [← r.len]; exact hi
    obtain ⟨b, eb, ro⟩ := r.ob i h[i] (List.getElem?_eq_getElem hl)
    rw [List.getElem?_eq_getElem hi] at eb
    cases eb
    exact ro.some
  · exact (r.res a m).1
theorem Rep.new (r : Rep I ι h H) {p : Addr} (e : H p = none) : p ∉ ι := fun m => r.mem m e
theorem Ext.refl : Ext ι H ι H := ⟨⟨[], by simp, by simp⟩, rfl, fun _ _ e _ => e, fun _ e => e, fun _ _ _ e => e⟩
theorem Ext.own_not (a : Ext ι H ι' H') {p : Addr} {o : HO} (e : H p = some o) (hn : p ∉ ι.own) : p ∉ ι'.own := fun m => by
  obtain ⟨n1, e1, q1⟩ := a.pre
  rw [e1] at m
  rcases List.mem_append.mp m with m | m
  · exact hn m
  · rw [q1 p m] at e; cases e
theorem Ext.trans (a : Ext ι H ι' H') (b : Ext ι' H' ι'' H'') : Ext ι H ι'' H'' := by
  obtain ⟨n1, e1, q1⟩ := a.pre
  obtain ⟨n2, e2, q2⟩ := b.pre
  refine ⟨⟨n1 ++ n2, by rw [e2, e1, List.append_assoc], fun c hc => ?_⟩, b.rs.trans a.rs, fun c o e hn => b.keep c o (a.keep c o e hn) (a.own_not e hn), fun c e => b.there c (a.there c e), fun c o u e => b.frz c o u (a.frz c o u e)⟩
  rcases List.mem_append.mp hc with m | m
  · exact q1 c m
  · have z := q2 c m
    exact Classical.byContradiction fun e => a.there c e z
theorem Ext.kp (a : Ext ι H ι' H') {p : Addr} {o : HO} (e : H p = some o) (hn : p ∉ ι) : H' p = some o := a.keep p o e fun z => hn (.inl z)
theorem Ext.not_mem (a : Ext ι H ι' H') {p : Addr} {o : HO} (e : H p = some o) (hn : p ∉ ι) : p ∉ ι' := fun m => by
  rcases m with m | m
  · exact a.own_not e (fun z => hn (.inl z)) m
  · exact hn (.inr (by rw [← a.rs]; exact m))
theorem Ext.ix (a : Ext ι H ι' H') {n : Nat} {p : Addr} (e : ι.own[n]? = some p) : ι'.own[n]? = some p := by
  obtain ⟨n1, e1, _⟩ := a.pre
  rw [e1, List.getElem?_append_left (List.getElem?_eq_some_iff.mp e).1]
  exact e
theorem Ext.sq (a : Ext ι H ι' H') {K : PySem.W.Frag} {p : Addr} {xs : List V} (e : (Rd H p (.lst xs) ∧ p ∉ ι) ∨ KL K p xs) : (Rd H' p (.lst xs) ∧ p ∉ ι') ∨ KL K p xs := by
  rcases e with ⟨e | ⟨o, e⟩, hn⟩ | e
  · exact .inl ⟨.inl (a.kp e hn), a.not_mem e hn⟩
  · exact .inl ⟨.inr ⟨o, a.kp e hn⟩, a.not_mem e hn⟩
  · exact .inr e
mutual
theorem RW.ext (a : Ext ι H ι' H') : ∀ {w : W} {v : V}, RW I ι H w v → RW I ι' H' w v
  | _, _, .non => .non
  | _, _, .bl b => .bl b
  | _, _, .int i => .int i
  | _, _, .str x => .str x
  | _, _, .tup e n r l => .tup (a.kp e n) (a.not_mem e n) (RWs.ext a r) l
  | _, _, .lst e n r l => .lst (a.kp e n) (a.not_mem e n) (RWs.ext a r) l
  | _, _, .ref e => .ref (a.ix e)
  | _, _, .scr e l => .scr (a.sq e) l
theorem RWs.ext (a : Ext ι H ι' H') : ∀ {w : List W} {v : List V}, RWs I ι H w v → RWs I ι' H' w v
  | _, _, .nil => .nil
  | _, _, .cons e r => .cons (RW.ext a e) (RWs.ext a r)
end
theorem RKV.ext (a : Ext ι H ι' H') {ks : List (W × W)} {ls : List (Key × V)} (r : RKV I ι H ks ls) : RKV I ι' H' ks ls := Paired.mapP r fun _ _ q => ⟨q.1, q.2.ext a⟩
theorem RF.ext (a : Ext ι H ι' H') {ks : List (Nat × W)} {ls : List (Str × V)} (r : RF I ι H ks ls) : RF I ι' H' ks ls := Paired.mapP r fun _ _ q => ⟨q.1, q.2.ext a⟩
/-- an object whose own place stays -/
theorem RO.ext (a : Ext ι H ι' H') {o : EO} {p : Addr} (r : RO I ι H o p) (e : H' p = H p) : RO I ι' H' o p := by
  cases o with
  | lst ws => obtain ⟨vs, h1, h2, h3⟩ := r; exact ⟨vs, e.trans h1, h2.ext a, h3⟩
  | lstL ws => obtain ⟨o, vs, h1, h2, h3⟩ := r; exact ⟨o, vs, e.trans h1, h2.ext a, h3⟩
  | dic ws => obtain ⟨vs, h1, h2, h3⟩ := r; exact ⟨vs, e.trans h1, h2.ext a, h3⟩
  | dicL ws => obtain ⟨o, vs, h1, h2, h3⟩ := r; exact ⟨o, vs, e.trans h1, h2.ext a, h3⟩
  | ins c ws => obtain ⟨o, vs, h1, h2, h3⟩ := r; exact ⟨o, vs, e.trans h1, h2.ext a, h3⟩
  | dice => obtain ⟨x, y, z, h1⟩ := r; exact ⟨x, y, z, e.trans h1⟩
  | dicT ws => obtain ⟨vs, h1, h2, h3⟩ := r; exact ⟨vs, e.trans h1, Paired.mapP h2 fun _ _ q => ⟨q.1, q.2.ext a⟩, h3⟩
  | dicTL ws => obtain ⟨o, vs, h1, h2, h3⟩ := r; exact ⟨o, vs, e.trans h1, Paired.mapP h2 fun _ _ q => ⟨q.1, q.2.ext a⟩, h3⟩
  | tbl => obtain ⟨ps, h1, h2⟩ := r; exact ⟨ps, e.trans h1, h2⟩
/-- one new object that is not ours -/
theorem Ext.side {p : Addr} {o : HO} (e : H p = none) : Ext ι H ι (upd H p o) :=
  ⟨⟨[], by simp, by simp⟩, rfl, fun a u q _ => by rw [upd_ne (ne_of_none q e)]; exact q, fun a q => by
    by_cases z : a = p
    · rw [z, upd_same]; exact fun z => nomatch z
    · rw [upd_ne z]; exact q, fun a o u q => by rw [upd_ne (ne_of_none q e)]; exact q⟩
theorem Rep.side (r : Rep I ι h H) {p : Addr} {o : HO} (e : H p = none) : Rep I ι h (upd H p o) :=
  ⟨r.len, r.nd, fun a m => by
    have ne : a ≠ p := fun z => (r.res a m).1 (by rw [z]; exact e)
    rw [upd_ne ne]; exact r.res a m, fun i ob q => by
    obtain ⟨a, ea, ro⟩ := r.ob i ob q
    exact ⟨a, ea, ro.ext (Ext.side e) (upd_ne fun z => ro.some (by rw [z]; exact e))⟩, r.tb⟩
/-- a new object of ours -/
theorem Ext.mine {p : Addr} {o : HO} (e : H p = none) : Ext ι H (ι.push p) (upd H p o) :=
  ⟨⟨[p], rfl, by simp [e]⟩, rfl, fun a u q _ => by rw [upd_ne (ne_of_none q e)]; exact q, fun a q => by
    by_cases z : a = p
    · rw [z, upd_same]; exact fun z => nomatch z
    · rw [upd_ne z]; exact q, fun a o u q => by rw [upd_ne (ne_of_none q e)]; exact q⟩
theorem Pl.push_at (ι : Pl) (p : Addr) {n : Nat} (e : n = ι.own.length) : (ι.push p).own[n]? = some p := by
  show (ι.own ++ [p])[n]? = some p
  rw [e, List.getElem?_append_right (Nat.le_refl _), Nat.sub_self]
  rfl
theorem Rep.mine (r : Rep I ι h H) {p : Addr} {o : HO} {eo : EO} (e : H p = none) (ro : RO I (ι.push p) (upd H p o) eo p) : Rep I (ι.push p) (h ++ [eo]) (upd H p o) := by
  refine ⟨by simp [Pl.push, r.len], List.nodup_append.mpr ⟨r.nd, by simp, fun a ha b hb z => ?_⟩, fun a m => by
    have ne : a ≠ p := fun z => (r.res a m).1 (by rw [z]; exact e)
    rw [upd_ne ne]; exact r.res a m, fun i ob q => ?_, fun j P q => (Ext.mine (ι := ι) (o := o) e).ix (r.tb j P q)⟩
  · have := List.mem_singleton.mp hb
    subst this
    subst z
    exact r.new e (.inl ha)
  · by_cases hi : i < h.length
    · rw [List.getElem?_append_left hi] at q
      obtain ⟨a, ea, rb⟩ := r.ob i ob q
      exact ⟨a, (Ext.mine (o := o) e).ix ea, rb.ext (Ext.mine e) (upd_ne fun z => rb.some (by rw [z]; exact e))⟩
    · have hi2 : i = h.length := by
        have := (List.getElem?_eq_some_iff.mp q).1
        simp at this
        omega
      subst hi2
      rw [List.getElem?_append_right (Nat.le_refl _), Nat.sub_self] at q
      cases q
      exact ⟨p, ι.push_at p r.len.symm, ro⟩
/-- an object of ours is changed -/
theorem Ext.chg {n : Nat} {a : Addr} {o : HO} (e : ι.own[n]? = some a) (nf : ∀ o u, H a ≠ some (.frz o u)) : Ext ι H ι (upd H a o) :=
  ⟨⟨[], by simp, by simp⟩, rfl, fun b u q hn => by
    have nb : b ≠ a := fun z => hn (by rw [z]; exact List.mem_of_getElem? e)
    rw [upd_ne nb]; exact q, fun b q => by
    by_cases z : b = a
    · rw [z, upd_same]; exact fun z => nomatch z
    · rw [upd_ne z]; exact q, fun b o' u q => by rw [upd_ne fun z => nf o' u (by rw [← z]; exact q)]; exact q⟩
theorem RO.noTup {o : EO} {a : Addr} (r : RO I ι H o a) (vs : List V) : H a ≠ Option.some (HO.tup vs) := by
  cases o <;> first
    | (obtain ⟨_, e, _⟩ := r; rw [e]; exact fun z => nomatch z)
    | (obtain ⟨_, _, e, _⟩ := r; rw [e]; exact fun z => nomatch z)
    | (obtain ⟨_, _, _, e⟩ := r; rw [e]; exact fun z => nomatch z)
theorem Rep.chg (r : Rep I ι h H) {n : Nat} {a : Addr} {o : HO} {eo : EO} (e : ι.own[n]? = some a) (nf : ∀ o u, H a ≠ some (.frz o u)) (ro : RO I ι (upd H a o) eo a) : Rep I ι (h.set n eo) (upd H a o) := by
  refine ⟨by rw [List.length_set]; exact r.len, r.nd, fun b m => ?_, fun i ob q => ?_, r.tb⟩
  · by_cases z : b = a
    · rw [z]; exact ⟨ro.some, ro.noTup⟩
    · rw [upd_ne z]; exact r.res b m
  by_cases hi : n = i
  · subst hi
    have hl : n < h.length := by
      have := (List.getElem?_eq_some_iff.mp q).1
      simpa using this
    rw [List.getElem?_set_self hl] at q
    cases q
    exact ⟨a, e, ro⟩
  · rw [List.getElem?_set_ne hi] at q
    obtain ⟨b, eb, rb⟩ := r.ob i ob q
    refine ⟨b, eb, rb.ext (Ext.chg e nf) (upd_ne fun z => hi ?_)⟩
    subst z
    exact nd_ix r.nd e eb
/-- the heap's mark alone is changed -/
theorem Rep.mark (r : Rep I ι h H) {n : Nat} {a : Addr} {eo : EO} (e : ι.own[n]? = some a) (ro : RO I ι H eo a) : Rep I ι (h.set n eo) H := by
  refine ⟨by rw [List.length_set]; exact r.len, r.nd, r.res, fun i ob q => ?_, r.tb⟩
  by_cases hi : n = i
  · subst hi
    have hl : n < h.length := by
      have := (List.getElem?_eq_some_iff.mp q).1
      simpa using this
    rw [List.getElem?_set_self hl] at q
    cases q
    exact ⟨a, e, ro⟩
  · rw [List.getElem?_set_ne hi] at q
    exact r.ob i ob q
theorem Rep.at (r : Rep I ι h H) {n : Nat} {a : Addr} {o : EO} (e : ι.own[n]? = some a) (q : h[n]? = some o) : RO I ι H o a := by
  obtain ⟨b, eb, ro⟩ := r.ob n o q
  rw [e] at eb
  cases eb
  exact ro
theorem RWs.length : ∀ {ws : List W} {vs : List V}, RWs I ι H ws vs → ws.length = vs.length
  | _, _, .nil => rfl
  | _, _, .cons _ r => by simp [RWs.length r]
theorem RWs.get : ∀ {ws : List W} {vs : List V} {i : Nat} {w : W}, RWs I ι H ws vs → ws[i]? = some w → ∃ v, vs[i]? = some v ∧ RW I ι H w v
  | _, _, _, _, .nil, e => by simp at e
  | _, _, 0, _, .cons r _, e => by simp at e; subst e; exact ⟨_, rfl, r⟩
  | _, _, i + 1, _, .cons _ t, e => by
    obtain ⟨v, h1, h2⟩ := RWs.get (i := i) t (by simpa using e)
    exact ⟨v, by simpa using h1, h2⟩
theorem RWs.append : ∀ {ws ws' : List W} {vs vs' : List V}, RWs I ι H ws vs → RWs I ι H ws' vs' → RWs I ι H (ws ++ ws') (vs ++ vs')
  | _, _, _, _, .nil, s => s
  | _, _, _, _, .cons r t, s => .cons r (RWs.append t s)
theorem RWs.take : ∀ {ws : List W} {vs : List V} (n : Nat), RWs I ι H ws vs → RWs I ι H (ws.take n) (vs.take n)
  | _, _, 0, _ => by simp; exact .nil
  | _, _, _ + 1, .nil => .nil
  | _, _, n + 1, .cons r t => .cons r (RWs.take n t)
theorem RWs.drop : ∀ {ws : List W} {vs : List V} (n : Nat), RWs I ι H ws vs → RWs I ι H (ws.drop n) (vs.drop n)
  | _, _, 0, r => r
  | _, _, _ + 1, .nil => .nil
  | _, _, n + 1, .cons _ t => RWs.drop n t
theorem RWs.set {w : W} {v : V} (r : RW I ι H w v) : ∀ {ws : List W} {vs : List V} (i : Nat), RWs I ι H ws vs → RWs I ι H (ws.set i w) (vs.set i v)
  | _, _, _, .nil => .nil
  | _, _, 0, .cons _ t => .cons r t
  | _, _, i + 1, .cons q t => .cons q (RWs.set r i t)
theorem RWs.rep : ∀ (k : Nat) {ws : List W} {vs : List V}, RWs I ι H ws vs → RWs I ι H (List.replicate k ws).flatten (List.replicate k vs).flatten
  | 0, _, _, _ => .nil
  | k + 1, _, _, r => by
    rw [List.replicate_succ, List.replicate_succ, List.flatten_cons, List.flatten_cons]
    exact r.append (RWs.rep k r)
/-- a place is kept apart -/
def Pl.apart (ι : Pl) (D : Addr) : Pl := ⟨ι.own, D :: ι.res⟩
/-- what holds of values stays true -/
structure Mw (ι : Pl) (H : Hp) (ι' : Pl) (H' : Hp) : Prop where
  ix : ∀ (n : Nat) (a : Addr), ι.own[n]? = some a → ι'.own[n]? = some a
  kp : ∀ a o, H a = some o → a ∉ ι → H' a = some o ∧ a ∉ ι'
structure Mo (ι : Pl) (H : Hp) (ι' : Pl) (H' : Hp) : Prop extends Mw ι H ι' H' where
  frz : ∀ a o u, H a = some (.frz o u) → H' a = some (.frz o u)
theorem Ext.mo (a : Ext ι H ι' H') : Mo ι H ι' H' := ⟨⟨fun _ _ e => a.ix e, fun _ _ e n => ⟨a.kp e n, a.not_mem e n⟩⟩, a.frz⟩
theorem Mo.refl : Mo ι H ι H := ⟨⟨fun _ _ e => e, fun _ _ e n => ⟨e, n⟩⟩, fun _ _ _ e => e⟩
theorem Mo.trans (a : Mo ι H ι' H') (b : Mo ι' H' ι'' H'') : Mo ι H ι'' H'' := ⟨⟨fun n c e => b.ix n c (a.ix n c e), fun c o e n => b.kp c o (a.kp c o e n).1 (a.kp c o e n).2⟩, fun c o u e => b.frz c o u (a.frz c o u e)⟩
mutual
theorem RW.mo (m : Mw ι H ι' H') : ∀ {w : W} {v : V}, RW I ι H w v → RW I ι' H' w v
  | _, _, .non => .non
  | _, _, .bl b => .bl b
  | _, _, .int i => .int i
  | _, _, .str x => .str x
  | _, _, .tup e n r l => .tup (m.kp _ _ e n).1 (m.kp _ _ e n).2 (RWs.mo m r) l
  | _, _, .lst e n r l => .lst (m.kp _ _ e n).1 (m.kp _ _ e n).2 (RWs.mo m r) l
  | _, _, .ref e => .ref (m.ix _ _ e)
  | _, _, .scr e l => .scr (by
      rcases e with ⟨e | ⟨o, e⟩, hn⟩ | e
      · exact .inl ⟨.inl (m.kp _ _ e hn).1, (m.kp _ _ e hn).2⟩
      · exact .inl ⟨.inr ⟨o, (m.kp _ _ e hn).1⟩, (m.kp _ _ e hn).2⟩
      · exact .inr e) l
theorem RWs.mo (m : Mw ι H ι' H') : ∀ {w : List W} {v : List V}, RWs I ι H w v → RWs I ι' H' w v
  | _, _, .nil => .nil
  | _, _, .cons e r => .cons (RW.mo m e) (RWs.mo m r)
end
theorem RO.mo (m : Mw ι H ι' H') {o : EO} {p : Addr} (r : RO I ι H o p) (e : H' p = H p) : RO I ι' H' o p := by
  cases o with
  | lst ws => obtain ⟨vs, h1, h2, h3⟩ := r; exact ⟨vs, e.trans h1, h2.mo m, h3⟩
  | lstL ws => obtain ⟨o, vs, h1, h2, h3⟩ := r; exact ⟨o, vs, e.trans h1, h2.mo m, h3⟩
  | dic ws => obtain ⟨vs, h1, h2, h3⟩ := r; exact ⟨vs, e.trans h1, Paired.mapP h2 fun _ _ q => ⟨q.1, q.2.mo m⟩, h3⟩
  | dicL ws => obtain ⟨o, vs, h1, h2, h3⟩ := r; exact ⟨o, vs, e.trans h1, Paired.mapP h2 fun _ _ q => ⟨q.1, q.2.mo m⟩, h3⟩
  | ins c ws => obtain ⟨o, vs, h1, h2, h3⟩ := r; exact ⟨o, vs, e.trans h1, Paired.mapP h2 fun _ _ q => ⟨q.1, q.2.mo m⟩, h3⟩
  | dice => obtain ⟨x, y, z, h1⟩ := r; exact ⟨x, y, z, e.trans h1⟩
  | dicT ws => obtain ⟨vs, h1, h2, h3⟩ := r; exact ⟨vs, e.trans h1, Paired.mapP h2 fun _ _ q => ⟨q.1, q.2.mo m⟩, h3⟩
  | dicTL ws => obtain ⟨o, vs, h1, h2, h3⟩ := r; exact ⟨o, vs, e.trans h1, Paired.mapP h2 fun _ _ q => ⟨q.1, q.2.mo m⟩, h3⟩
  | tbl => obtain ⟨ps, h1, h2⟩ := r; exact ⟨ps, e.trans h1, h2⟩
/-- from now on D is kept apart: a list just made -/
theorem Mo.apart {D : Addr} {o : HO} (hD : H D = none) : Mo ι H (ι.apart D) (upd H D o) := ⟨⟨fun _ _ e => e, fun a u e n => by
  have nd : a ≠ D := ne_of_none e hD
  refine ⟨by rw [upd_ne nd]; exact e, fun m => ?_⟩
  rcases m with m | m
  · exact n (.inl m)
  · rcases List.mem_cons.mp m with m | m
    · exact nd m
    · exact n (.inr m)⟩, fun a o u e => by rw [upd_ne (ne_of_none e hD)]; exact e⟩
theorem Rep.apart (r : Rep I ι h H) {D : Addr} {vs : List V} (hD : H D = none) : Rep I (ι.apart D) h (upd H D (.lst vs)) :=
  ⟨r.len, r.nd, fun a m => by
    by_cases z : a = D
    · rw [z, upd_same]; exact ⟨(fun z => nomatch z), (fun _ z => nomatch z)⟩
    · rw [upd_ne z]; exact r.res a ((List.mem_cons.mp m).resolve_left z), fun i ob q => by
    obtain ⟨a, ea, ro⟩ := r.ob i ob q
    exact ⟨a, ea, RO.mo (Mo.apart hD).toMw ro (upd_ne fun z => RO.some ro (by rw [z]; exact hD))⟩, r.tb⟩
/-- what is kept apart is changed -/
theorem Mo.res {D : Addr} {o : HO} (m : D ∈ ι.res) (nf : ∀ o u, H D ≠ some (.frz o u)) : Mo ι H ι (upd H D o) := ⟨⟨fun _ _ e => e, fun a u e n => by
  have nd : a ≠ D := fun z => n (.inr (by rw [z]; exact m))
  exact ⟨by rw [upd_ne nd]; exact e, n⟩⟩, fun a o' u e => by rw [upd_ne fun z => nf o' u (by rw [← z]; exact e)]; exact e⟩
theorem Rep.resUpd (r : Rep I ι h H) {D : Addr} {vs : List V} (m : D ∈ ι.res) (hn : D ∉ ι.own) (nf : ∀ o u, H D ≠ some (.frz o u)) : Rep I ι h (upd H D (.lst vs)) :=
  ⟨r.len, r.nd, fun a ma => by
    by_cases z : a = D
    · rw [z, upd_same]; exact ⟨(fun z => nomatch z), (fun _ z => nomatch z)⟩
    · rw [upd_ne z]; exact r.res a ma, fun i ob q => by
    obtain ⟨a, ea, ro⟩ := r.ob i ob q
    exact ⟨a, ea, RO.mo (Mo.res m nf).toMw ro (upd_ne fun z => hn (by rw [← z]; exact List.mem_of_getElem? ea))⟩, r.tb⟩
/-- what was kept apart is let go -/
theorem Mo.back {D : Addr} {rs : List Addr} (e1 : ι.res = D :: rs) : Mo ι H ⟨ι.own, rs⟩ H := ⟨⟨fun _ _ e => e, fun a u e n => ⟨e, fun m => by
  rcases m with m | m
  · exact n (.inl m)
  · exact n (.inr (by rw [e1]; exact List.mem_cons_of_mem _ m))⟩⟩, fun _ _ _ e => e⟩
theorem Rep.back (r : Rep I ι h H) {D : Addr} {rs : List Addr} (e1 : ι.res = D :: rs) : Rep I ⟨ι.own, rs⟩ h H :=
  ⟨r.len, r.nd, fun a m => r.res a (by rw [e1]; exact List.mem_cons_of_mem _ m), fun i ob q => by
    obtain ⟨a, ea, ro⟩ := r.ob i ob q
    exact ⟨a, ea, RO.mo (Mo.back e1).toMw ro rfl⟩, r.tb⟩
theorem Ext.swap (a : Ext ι H ι' H') (rs : List Addr) : Ext ⟨ι.own, rs⟩ H ⟨ι'.own, rs⟩ H' := ⟨a.pre, rfl, a.keep, a.there, a.frz⟩
/-- a thing of ours is locked, and let go again -/
theorem Ext.unl {d : Addr} {o u : HO} (a : Ext ι (upd H d o) ι' H') (hd : d ∈ ι.own) (hf : H d = some u) (nf : ∀ o u, H d ≠ some (.frz o u)) : Ext ι H ι' (upd H' d u) := by
  obtain ⟨n1, e1, q1⟩ := a.pre
  refine ⟨⟨n1, e1, fun b hb => ?_⟩, a.rs, fun b w e n => ?_, fun b e => ?_, fun b o' w e => ?_⟩
  · have z := q1 b hb
    by_cases hb : b = d
    · rw [hb, upd_same] at z; cases z
    · rw [upd_ne hb] at z; exact z
  · have hb : b ≠ d := fun z => n (by rw [z]; exact hd)
    rw [upd_ne hb]
    exact a.keep b w (by rw [upd_ne hb]; exact e) n
  · by_cases hb : b = d
    · rw [hb, upd_same]; exact fun z => nomatch z
    · rw [upd_ne hb]; exact a.there b (by rw [upd_ne hb]; exact e)
  · have hb : b ≠ d := fun z => nf o' w (by rw [← z]; exact e)
    rw [upd_ne hb]
    exact a.frz b o' w (by rw [upd_ne hb]; exact e)
theorem Mw.own {d : Addr} {o : HO} (hd : d ∈ ι.own) : Mw ι H ι (upd H d o) := ⟨fun _ _ e => e, fun a u e n => by
  have nd : a ≠ d := fun z => n (.inl (by rw [z]; exact hd))
  exact ⟨by rw [upd_ne nd]; exact e, n⟩⟩
theorem Rep.chgW (r : Rep I ι h H) {n : Nat} {a : Addr} {o : HO} {eo : EO} (e : ι.own[n]? = some a) (ro : RO I ι (upd H a o) eo a) : Rep I ι (h.set n eo) (upd H a o) := by
  refine ⟨by rw [List.length_set]; exact r.len, r.nd, fun b m => ?_, fun i ob q => ?_, r.tb⟩
  · by_cases z : b = a
    · rw [z]; exact ⟨ro.some, ro.noTup⟩
    · rw [upd_ne z]; exact r.res b m
  · by_cases hi : n = i
    · subst hi
      have hl : n < h.length := by
        have := (List.getElem?_eq_some_iff.mp q).1
        simpa using this
      rw [List.getElem?_set_self hl] at q
      cases q
      exact ⟨a, e, ro⟩
    · rw [List.getElem?_set_ne hi] at q
      obtain ⟨b, eb, rb⟩ := r.ob i ob q
      refine ⟨b, eb, RO.mo (Mw.own (List.mem_of_getElem? e)) rb (upd_ne fun z => hi ?_)⟩
      subst z
      exact nd_ix r.nd e eb
/-- a thing that was not there may change -/
theorem Ext.chgNew (a : Ext ι H ι' H') {D : Addr} {o : HO} (hD : H D = none) : Ext ι H ι' (upd H' D o) := ⟨a.pre, a.rs, fun b u e n => by rw [upd_ne (ne_of_none e hD)]; exact a.keep b u e n, fun b e => by
  by_cases z : b = D
  · exact absurd (by rw [z]; exact hD) e
  · rw [upd_ne z]; exact a.there b e, fun b o u e => by rw [upd_ne (ne_of_none e hD)]; exact a.frz b o u e⟩
/-- the items of what is a list or a tuple -/
theorem Rep.seq (r : Rep I ι h H) {w : W} {v : V} {ws : List W} (q : RW I ι H w v) (e : seqOf h w = some ws) : ∃ p vs, v = .ref p ∧ (SqL I.K H p vs ∨ SqT I.K H p vs) ∧ RWs I ι H ws vs ∧ ws.length ≤ LIM := by
  cases q with
  | tup e1 n r l => simp only [seqOf, Option.some.injEq] at e; subst e; exact ⟨_, _, rfl, .inr (.inl (.inl e1)), r, l⟩
  | lst e1 n r l => simp only [seqOf, Option.some.injEq] at e; subst e; exact ⟨_, _, rfl, .inl (.inl (.inl e1)), r, l⟩
  | @ref n a e1 =>
    simp only [seqOf] at e
    split at e
    · rename_i xs hx
      cases e
      obtain ⟨vs, h1, h2, h3⟩ := r.at e1 hx
      exact ⟨_, vs, rfl, .inl (.inl (.inl h1)), h2, h3⟩
    · rename_i xs hx
      cases e
      obtain ⟨o, vs, h1, h2, h3⟩ := r.at e1 hx
      exact ⟨_, vs, rfl, .inl (.inl (.inr ⟨o, h1⟩)), h2, h3⟩
    · cases e
  | _ => cases e
theorem RWs.ints {ι : Pl} {H : Hp} : ∀ ns : List Int, RWs I ι H (ns.map W.int) (ns.map V.int)
  | [] => .nil
  | n :: ns => .cons (.int n) (RWs.ints ns)
theorem Rep.lsq (r : Rep I ι h H) {w : W} {v : V} {ws : List W} (q : RW I ι H w v) (e : lsqOf h w = some ws) : ∃ p vs, v = .ref p ∧ SqL I.K H p vs ∧ RWs I ι H ws vs ∧ ws.length ≤ LIM := by
  cases q with
  | lst e1 n r l => simp only [lsqOf, Option.some.injEq] at e; subst e; exact ⟨_, _, rfl, .inl (.inl e1), r, l⟩
  | @ref n a e1 =>
    simp only [lsqOf] at e
    split at e
    · rename_i xs hx
      cases e
      obtain ⟨vs, h1, h2, h3⟩ := r.at e1 hx
      exact ⟨_, vs, rfl, .inl (.inl h1), h2, h3⟩
    · rename_i xs hx
      cases e
      obtain ⟨o, vs, h1, h2, h3⟩ := r.at e1 hx
      exact ⟨_, vs, rfl, .inl (.inr ⟨o, h1⟩), h2, h3⟩
    · cases e
  | @scr a ns e1 l =>
    simp only [lsqOf, Option.some.injEq] at e
    subst e
    refine ⟨a, _, rfl, ?_, RWs.ints ns, by rw [List.length_map]; exact Nat.le_trans l (by decide)⟩
    rcases e1 with ⟨e1, _⟩ | e1
    · exact .inl e1
    · exact .inr e1
  | _ => cases e
theorem Rep.lst (r : Rep I ι h H) {w : W} {v : V} {ws : List W} (q : RW I ι H w v) (e : lstOf h w = some ws) : ∃ p vs, v = .ref p ∧ H p = some (.lst vs) ∧ RWs I ι H ws vs ∧ ws.length ≤ LIM := by
  cases q with
  | lst e1 n r l => simp only [lstOf, Option.some.injEq] at e; subst e; exact ⟨_, _, rfl, e1, r, l⟩
  | @ref n a e1 =>
    simp only [lstOf] at e
    split at e
    · rename_i xs hx
      cases e
      obtain ⟨vs, h1, h2, h3⟩ := r.at e1 hx
      exact ⟨_, vs, rfl, h1, h2, h3⟩
    · cases e
  | _ => cases e
theorem Rep.dic (r : Rep I ι h H) {w : W} {v : V} {ks : List (W × W)} (q : RW I ι H w v) (e : dicOf h w = some ks) : ∃ p ls, v = .ref p ∧ Rd H p (.dK ls) ∧ RKV I ι H ks ls ∧ ks.length ≤ LIM := by
  cases q with
  | @ref n a e1 =>
    simp only [dicOf] at e
    split at e
    · rename_i xs hx
      cases e
      obtain ⟨vs, h1, h2, h3, _⟩ := r.at e1 hx
      exact ⟨_, vs, rfl, .inl h1, h2, h3⟩
    · rename_i xs hx
      cases e
      obtain ⟨o, vs, h1, h2, h3, _⟩ := r.at e1 hx
      exact ⟨_, vs, rfl, .inr ⟨o, h1⟩, h2, h3⟩
    · cases e
  | _ => cases e
theorem Rep.ins (r : Rep I ι h H) {w : W} {v : V} {c : Nat} {fs : List (Nat × W)} (q : RW I ι H w v) (e : insOf h w = some (c, fs)) : ∃ n p dx ls, w = .ref n ∧ ι.own[n]? = some p ∧ v = .ref p ∧ H p = some (.ins (I.ca c) dx ls) ∧ RF I ι H fs ls ∧ fs.length ≤ 900 ∧ I.isC c = true ∧ h[n]? = some (.ins c fs) := by
  cases q with
  | @ref n a e1 =>
    simp only [insOf] at e
    split at e
    · rename_i c' xs hx
      cases e
      obtain ⟨dx, vs, h1, h2, h3, h4⟩ := r.at e1 hx
      exact ⟨n, _, dx, vs, rfl, e1, rfl, h1, h2, h3, h4, hx⟩
    · cases e
  | _ => cases e

/-! ### fields -/
theorem RF.look (nd : I.fl.Nodup) {f : Nat} {n : Str} (hn : I.fl[f]? = some n) : ∀ {fs : List (Nat × W)} {ls : List (Str × V)} {w : W}, RF I ι H fs ls → look fs f = some w → ∃ v, ls.lookup n = some v ∧ RW I ι H w v
  | [], _, _, .nil, e => by simp [Z.look] at e
  | (g, u) :: fs, (m, v) :: ls, w, .cons ⟨q1, q2⟩ r, e => by
    simp only [Z.look] at e
    simp only at q1 q2
    by_cases hg : g = f
    · rw [if_pos hg] at e
      cases e
      rw [hg, hn] at q1
      cases q1
      exact ⟨v, by simp, q2⟩
    · rw [if_neg hg] at e
      obtain ⟨v', h1, h2⟩ := RF.look nd hn r e
      have hm : (n == m) = false := by
        apply beq_eq_false_iff_ne.mpr
        intro z
        exact hg (nd_ix nd (z ▸ q1) hn)
      exact ⟨v', by rw [List.lookup_cons, hm]; exact h1, h2⟩
theorem RF.no {m : Str} (hm : m ∉ I.fl) : ∀ {fs : List (Nat × W)} {ls : List (Str × V)}, RF I ι H fs ls → ls.lookup m = none
  | [], _, .nil => rfl
  | (g, u) :: fs, (k, v) :: ls, .cons ⟨q1, q2⟩ r => by
    have hk : (m == k) = false := by
      apply beq_eq_false_iff_ne.mpr
      intro z
      exact hm (by rw [z]; exact List.mem_of_getElem? q1)
    rw [List.lookup_cons, hk]
    exact RF.no hm r
theorem RF.put (nd : I.fl.Nodup) {f : Nat} {n : Str} (hn : I.fl[f]? = some n) {w : W} {v : V} (rw' : RW I ι H w v) : ∀ {fs : List (Nat × W)} {ls : List (Str × V)}, RF I ι H fs ls → RF I ι H (putf fs f w) (putF n v ls)
  | [], _, .nil => .cons ⟨hn, rw'⟩ .nil
  | (g, u) :: fs, (k, x) :: ls, .cons ⟨q1, q2⟩ r => by
    simp only at q1 q2
    unfold putf putF
    by_cases hg : g = f
    · have hk : k = n := by
        rw [hg, hn] at q1
        exact (Option.some.inj q1).symm
      rw [if_pos hg, if_pos hk]
      exact .cons ⟨by show I.fl[f]? = some k; rw [hk]; exact hn, rw'⟩ r
    · have hk : ¬ k = n := fun z => hg (nd_ix nd (z ▸ q1) hn)
      rw [if_neg hg, if_neg hk]
      exact .cons ⟨q1, q2⟩ (RF.put nd hn rw' r)
theorem RF.len {fs : List (Nat × W)} {ls : List (Str × V)} (r : RF I ι H fs ls) : fs.length = ls.length := Paired.length r
/-! ### keys -/
theorem isKey_kV {ι : Pl} {w : W} {v : V} (r : RW I ι H w v) (k : isKey w = true) : ∃ y : Key, v = kV y ∧ RK w y := by
  cases r <;> simp [isKey] at k
  · exact ⟨.inl _, rfl, rfl⟩
  · exact ⟨.inr _, rfl, rfl⟩
theorem keyE_iff {a b : W} {x y : Key} (ra : RK a x) (rb : RK b y) : keyE a b = decide (x = y) := by
  cases a <;> cases x <;> simp [RK] at ra <;> cases b <;> cases y <;> simp [RK] at rb <;> subst ra <;> subst rb <;> simp [keyE]
theorem RKV.get {k : W} {y : Key} (rk : RK k y) : ∀ {ks : List (W × W)} {ls : List (Key × V)}, RKV I ι H ks ls → (dget ks k = none ∧ valV ls y = none) ∨ ∃ w v, dget ks k = some w ∧ valV ls y = some v ∧ RW I ι H w v
  | [], _, .nil => .inl ⟨rfl, rfl⟩
  | (j, w) :: ks, (z, v) :: ls, .cons ⟨q1, q2⟩ r => by
    simp only at q1 q2
    have e := keyE_iff q1 rk
    unfold dget
    by_cases hz : z = y
    · rw [e, decide_eq_true hz, if_pos rfl]
      refine .inr ⟨w, v, rfl, ?_, q2⟩
      unfold valV
      rw [List.find?_cons, decide_eq_true hz]
      rfl
    · rw [e, decide_eq_false hz, if_neg Bool.false_ne_true]
      have ev : valV ((z, v) :: ls) y = valV ls y := by
        unfold valV
        rw [List.find?_cons, decide_eq_false hz]
      rw [ev]
      exact RKV.get rk r
theorem putK_cons {z y : Key} {v u : V} {ls : List (Key × V)} (hnd : z ∉ ls.map (·.1)) : putK ((z, v) :: ls) y u = if z = y then (z, u) :: ls else (z, v) :: putK ls y u := by
  unfold putK
  by_cases hz : z = y
  · subst hz
    rw [if_pos rfl, List.any_cons, decide_eq_true rfl, Bool.true_or, if_pos rfl, List.map_cons, if_pos rfl]
    congr 1
    rw [List.map_congr_left (g := id), List.map_id]
    intro p hp
    rw [if_neg fun e => hnd (List.mem_map.mpr ⟨p, hp, e⟩)]
    rfl
  · rw [if_neg hz, List.any_cons, decide_eq_false hz, Bool.false_or]
    split
    · rw [List.map_cons, if_neg hz]
    · rfl
theorem RKV.put {k : W} {y : Key} (rk : RK k y) {w : W} {v : V} (rw' : RW I ι H w v) : ∀ {ks : List (W × W)} {ls : List (Key × V)}, (ls.map (·.1)).Nodup → RKV I ι H ks ls → RKV I ι H (dput ks k w) (putK ls y v)
  | [], _, _, .nil => .cons ⟨rk, rw'⟩ .nil
  | (j, u) :: ks, (z, x) :: ls, nd, .cons ⟨q1, q2⟩ r => by
    simp only at q1 q2
    have nd' : (z :: ls.map (·.1)).Nodup := nd
    obtain ⟨n1, n2⟩ := List.nodup_cons.mp nd'
    rw [putK_cons n1]
    unfold dput
    rw [keyE_iff q1 rk]
    by_cases hz : z = y
    · rw [decide_eq_true hz, if_pos rfl, if_pos hz]
      exact .cons ⟨q1, rw'⟩ r
    · rw [decide_eq_false hz, if_neg Bool.false_ne_true, if_neg hz]
      exact .cons ⟨q1, q2⟩ (RKV.put rk rw' n2 r)
/-! ### tuples for keys -/
theorem isKeyT_kV {ι : Pl} {H : Hp} {w : W} {v : V} (r : RW I ι H w v) (k : isKeyT w = true) : ∃ (b : Addr) (y : List Key), v = .ref b ∧ H b = some (.tup (y.map kV)) ∧ RKT w y ∧ b ∉ ι := by
  cases r with
  | @tup p ws vs hp hn rr l =>
    have hk : ws.all isKey = true := k
    have go : ∀ {ws : List W} {vs : List V}, RWs I ι H ws vs → ws.all isKey = true → ∃ y : List Key, vs = y.map kV ∧ Paired RK ws y := by
      intro ws
      induction ws with
      | nil => intro vs r _; cases r; exact ⟨[], rfl, .nil⟩
      | cons w ws ih =>
        intro vs r hk
        cases r with
        | cons r1 r2 =>
          simp only [List.all_cons, Bool.and_eq_true] at hk
          obtain ⟨y, e, q⟩ := isKey_kV r1 hk.1
          obtain ⟨ys, e2, q2⟩ := ih r2 hk.2
          exact ⟨y :: ys, by rw [e, e2]; rfl, .cons q q2⟩
    obtain ⟨y, e, q⟩ := go rr hk
    exact ⟨p, y, rfl, by rw [← e]; exact hp, ⟨q, l⟩, hn⟩
  | _ => cases k
theorem keyEs_iff : ∀ {a b : List W} {x y : List Key}, Paired RK a x → Paired RK b y → keyEs a b = decide (x = y)
  | [], [], _, _, .nil, .nil => by simp [keyEs]
  | [], _ :: _, _, _, .nil, .cons _ _ => by simp [keyEs]
  | _ :: _, [], _, _, .cons _ _, .nil => by simp [keyEs]
  | a :: as, b :: bs, x :: xs, y :: ys, .cons p ps, .cons q qs => by
    simp only [keyEs, keyE_iff p q, keyEs_iff ps qs, List.cons.injEq]
    by_cases h1 : x = y <;> by_cases h2 : xs = ys <;> simp [h1, h2]
theorem keyET_iff {a b : W} {x y : List Key} (ra : RKT a x) (rb : RKT b y) : keyET a b = decide (x = y) := by
  cases a <;> first | exact ra.elim | skip
  cases b <;> first | exact rb.elim | skip
  exact keyEs_iff ra.1 rb.1
theorem RKVT.get {k : W} {y : List Key} (rk : RKT k y) : ∀ {ks : List (W × W)} {ls : List (List Key × V)}, RKVT I ι H ks ls → (tget ks k = none ∧ valV ls y = none) ∨ ∃ w v, tget ks k = some w ∧ valV ls y = some v ∧ RW I ι H w v
  | [], _, .nil => .inl ⟨rfl, rfl⟩
  | (j, w) :: ks, (z, v) :: ls, .cons ⟨q1, q2⟩ r => by
    simp only at q1 q2
    have e := keyET_iff q1 rk
    unfold tget
    by_cases hz : z = y
    · rw [e, decide_eq_true hz, if_pos rfl]
      refine .inr ⟨w, v, rfl, ?_, q2⟩
      unfold valV
      rw [List.find?_cons, decide_eq_true hz]
      rfl
    · rw [e, decide_eq_false hz, if_neg Bool.false_ne_true]
      have ev : valV ((z, v) :: ls) y = valV ls y := by
        unfold valV
        rw [List.find?_cons, decide_eq_false hz]
      rw [ev]
      exact RKVT.get rk r
theorem putT_cons {z y : List Key} {v u : V} {ls : List (List Key × V)} (hnd : z ∉ ls.map (·.1)) : putK ((z, v) :: ls) y u = if z = y then (z, u) :: ls else (z, v) :: putK ls y u := by
  unfold putK
  by_cases hz : z = y
  · subst hz
    rw [if_pos rfl, List.any_cons, decide_eq_true rfl, Bool.true_or, if_pos rfl, List.map_cons, if_pos rfl]
    congr 1
    rw [List.map_congr_left (g := id), List.map_id]
    intro p hp
    rw [if_neg fun e => hnd (List.mem_map.mpr ⟨p, hp, e⟩)]
    rfl
  · rw [if_neg hz, List.any_cons, decide_eq_false hz, Bool.false_or]
    split
    · rw [List.map_cons, if_neg hz]
    · rfl
theorem RKVT.put {k : W} {y : List Key} (rk : RKT k y) {w : W} {v : V} (rw' : RW I ι H w v) : ∀ {ks : List (W × W)} {ls : List (List Key × V)}, (ls.map (·.1)).Nodup → RKVT I ι H ks ls → RKVT I ι H (tput ks k w) (putK ls y v)
  | [], _, _, .nil => .cons ⟨rk, rw'⟩ .nil
  | (j, u) :: ks, (z, x) :: ls, nd, .cons ⟨q1, q2⟩ r => by
    simp only at q1 q2
    have nd' : (z :: ls.map (·.1)).Nodup := nd
    obtain ⟨n1, n2⟩ := List.nodup_cons.mp nd'
    rw [putT_cons n1]
    unfold tput
    rw [keyET_iff q1 rk]
    by_cases hz : z = y
    · rw [decide_eq_true hz, if_pos rfl, if_pos hz]
      exact .cons ⟨q1, rw'⟩ r
    · rw [decide_eq_false hz, if_neg Bool.false_ne_true, if_neg hz]
      exact .cons ⟨q1, q2⟩ (RKVT.put rk rw' n2 r)
theorem RKVT.ext (a : Ext ι H ι' H') {ks : List (W × W)} {ls : List (List Key × V)} (r : RKVT I ι H ks ls) : RKVT I ι' H' ks ls := Paired.mapP r fun _ _ q => ⟨q.1, q.2.ext a⟩
theorem RKVT.mo (m : Mw ι H ι' H') {ks : List (W × W)} {ls : List (List Key × V)} (r : RKVT I ι H ks ls) : RKVT I ι' H' ks ls := Paired.mapP r fun _ _ q => ⟨q.1, q.2.mo m⟩
theorem Rep.dicT (r : Rep I ι h H) {w : W} {v : V} {ks : List (W × W)} (q : RW I ι H w v) (e : dicTOf h w = some ks) : ∃ p ls, v = .ref p ∧ Rd H p (.dT ls) ∧ RKVT I ι H ks ls ∧ ks.length ≤ LIM := by
  cases q with
  | @ref n a e1 =>
    simp only [dicTOf] at e
    split at e
    · rename_i xs hx
      cases e
      obtain ⟨vs, h1, h2, h3, _⟩ := r.at e1 hx
      exact ⟨_, vs, rfl, .inl h1, h2, h3⟩
    · rename_i xs hx
      cases e
      obtain ⟨o, vs, h1, h2, h3, _⟩ := r.at e1 hx
      exact ⟨_, vs, rfl, .inr ⟨o, h1⟩, h2, h3⟩
    · cases e
  | _ => cases e
/-- a tuple that is tracked is none of ours -/
theorem Rep.tup_new (r : Rep I ι h H) {p : Addr} {vs : List V} (e : H p = some (.tup vs)) : p ∉ ι := fun m => by
  rcases m with m | m
  · obtain ⟨i, hi, rfl⟩ := List.getElem_of_mem m
    have hl : i < h.length := by rw [← r.len]; exact hi
    obtain ⟨b, eb, ro⟩ := r.ob i h[i] (List.getElem?_eq_getElem hl)
    rw [List.getElem?_eq_getElem hi] at eb
    cases eb
    exact ro.noTup vs e
  · exact (r.res p m).2 vs e
end
end Z
namespace Z
open PySem
/-- that is read without a change -/
def simp : E → Bool
  | .var _ => true
  | .fld a _ => simp a
  | .ix a i => simp a && simp i
  | .int _ => true
  | _ => false
structure FnI where
  x : Str
  glob : Bool
  ps : List Str
structure Tb where
  fn : Nat → Option FnI
  cls : Nat → Option Str
  fl : List Str
  mth : Nat → Str
  blt : List Str
def plain : Expr → Bool
  | .Name .. | .Constant .. | .BinOp .. | .Compare .. | .BoolOp .. | .UnaryOp .. | .IfExp .. | .Tuple .. | .List .. | .Dict .. | .Subscript .. | .Attribute .. | .Call .. | .ListComp .. => true
  | _ => false
def plainB : Expr → Bool
  | .Name .. | .Subscript .. | .Attribute .. => true
  | .Call (.Attribute ..) _ _ _ => true
  | .Call (.Name ..) (_ :: _) _ _ => true
  | _ => false
def vis (sc : Scope) (x : Str) : Bool := match sc.names.lookup x with
  | some .local => true
  | some .cell => true
  | some .free => true
  | _ => false
def glb (sc : Scope) (x : Str) : Bool := match sc.names.lookup x with
  | some .globalImplicit => true
  | _ => false
def okN (x : Str) : Bool := !(x == ("__debug__" : Str)) && !(x == ("__classdict__" : Str))
def opR : Op → Operator
  | .add => .Add | .sub => .Sub | .mul => .Mult | .fdiv => .FloorDiv | .mod => .Mod | .pow => .Pow
def cmR : Cm → CmpOp
  | .lt => .Lt | .le => .LtE | .gt => .Gt | .ge => .GtE
section
variable (T : Tb) (N : List Str)
def isB (sc : Scope) (n x : Str) : Bool := decide (x = n) && glb sc n && T.blt.contains n
def chkN (sc : Scope) (i : Nat) (x : Str) : Bool := decide (N[i]? = some x) && vis sc x && okN x
/-- a target's name: the def's own, or the block's -/
def locK (fn : Str → Bool) (sc : Scope) (x : Str) : Bool := match sc.names.lookup x with
  | some .local => true
  | some .cell => fn x
  | _ => false
def chkL (fn : Str → Bool) (sc : Scope) (i : Nat) (x : Str) : Bool := decide (N[i]? = some x) && locK fn sc x
def chkNs (fn : Str → Bool) (sc : Scope) : List Nat → List Expr → Bool
  | [], es => match es with | [] => true | _ => false
  | i :: is, es => match es with
    | .Name x _ :: es => chkL N fn sc i x && chkNs fn sc is es
    | _ => false
def chkG (fn : Str → Bool) (sc : Scope) : G → Expr → Bool
  | .name i, e => match e with | .Name x _ => chkL N fn sc i x | _ => false
  | .tup is, e => match e with | .Tuple es _ _ => chkNs N fn sc is es | _ => false
/-- the target's names are the block's own -/
def gIn (g : G) (own : List Nat) : Bool := match g with | .name i => own.contains i | .tup is => is.all own.contains
/-! shapes of the words -/
def b1nm : P1 → Option Str
  | .sumL => some "sum" | .maxL => some "max" | .minL => some "min" | .sortI => some "sorted" | .sortIT => some "sorted" | .sortU => some "sorted" | .sortF => some "sorted"
  | .sortDI => some "sorted" | .sortDT => some "sorted" | .dictP => some "dict" | .lenT => some "len" | .lstD => some "list" | _ => none
def rg1 (sc : Scope) (nm : Str) : Expr → Option Expr
  | .Call (.Name n _) [.Call (.Name n2 _) [x] [] _] [] _ => if isB T sc nm n && isB T sc "range" n2 && plain x then some x else none
  | _ => none
def rg2 (sc : Scope) (nm : Str) : Expr → Option (Expr × Expr)
  | .Call (.Name n _) [.Call (.Name n2 _) [x, y] [] _] [] _ => if isB T sc nm n && isB T sc "range" n2 && plain x && plain y then some (x, y) else none
  | _ => none
def shb (sc : Scope) (p : P1) (e : Expr) : Option Expr := match b1nm p, e with
  | some nm, .Call (.Name n _) [x] [] _ => if isB T sc nm n && plain x then some x else none
  | _, _ => none
def sh1 (sc : Scope) (p : P1) (e : Expr) : Option Expr := match p with
  | .neg => match e with | .UnaryOp .USub x _ => some x | _ => none
  | .tupRev => match e with | .Call (.Name n _) [.Call (.Name n2 _) [x] [] _] [] _ => if isB T sc "tuple" n && isB T sc "reversed" n2 && plain x then some x else none | _ => none
  | .lstRng => rg1 T sc "list" e
  | .tupRng => rg1 T sc "tuple" e
  | .pop => match e with | .Call (.Attribute o n ap) [] [] cp => if decide (n = "pop") && (ap.endLine == cp.line) && plainB o then some o else none | _ => none
  | p => shb T sc p e
def m1 (nm : Str) : Expr → Option (Expr × Expr)
  | .Call (.Attribute o n ap) [x] [] cp => if decide (n = nm) && (ap.endLine == cp.line) && plainB o && plain x then some (o, x) else none
  | _ => none
def inOp (n : Bool) : CmpOp := if n then .NotIn else .In
def sh2 (sc : Scope) (p : P2) (e : Expr) : Option (Expr × Expr) := match p with
  | .dixT => match e with | .Subscript x y _ => if plain y then some (x, y) else none | _ => none
  | .inT n => match e with | .Compare x [p] [y] _ => if decide (p = inOp n) && plain y then some (x, y) else none | _ => none
  | .lstRng2 => rg2 T sc "list" e
  | .tupRng2 => rg2 T sc "tuple" e
  | .popAt => m1 "pop" e
  | .get1 => m1 "get" e
  | .remI => m1 "remove" e
def m2 (nm : Str) : Expr → Option (Expr × Expr × Expr)
  | .Call (.Attribute o n ap) [x, y] [] cp => if decide (n = nm) && (ap.endLine == cp.line) && plainB o && plain x && plain y then some (o, x, y) else none
  | _ => none
def sh3 (p : P3) (e : Expr) : Option (Expr × Expr × Expr) := match p with
  | .get2 => m2 "get" e
  | .getT2 => m2 "get" e
  | .insert => m2 "insert" e
def GK.nm : GK → Str
  | .any => "any" | .all => "all" | .sum => "sum"
/-- the iterable of a generator expression is not folded -/
def genFC : Expr → Bool
  | .Set .. => false
  | .List .. => false
  | _ => true
/-- the scope of a generator expression -/
def gscC (sc scope : Scope) (own : List Nat) : Bool := L2.blkC N sc scope (own.map fun i => (N.getD i Str.empty, i)) && !scope.isCoroutine && scope.names.all (fun y => decide (y.2 ≠ .cell)) && decide (scope.names.lookup (".0" : Str) = some NameKind.local)
def shM (nm : Str) : Expr → Option Expr
  | .Call (.Attribute o n ap) [] [] cp => if decide (n = nm) && (ap.endLine == cp.line) && plainB o then some o else none
  | _ => none
def isTup : Expr → Bool
  | .Tuple .. => true
  | _ => false
def b1c (sc : Scope) (nm : Str) : Expr → Option Expr
  | .Call (.Name n _) [x] [] _ => if isB T sc nm n then some x else none
  | _ => none
def shW (sc : Scope) (k : WK) (e tg : Expr) : Option Expr := match k with
  | .vals => shM "values" e
  | .items => if isTup tg then shM "items" e else none
  | .keysT => some e
  | .enum => if isTup tg then b1c T sc "enumerate" e else none
  | .rev => b1c T sc "reversed" e

mutual
def chk : E → Option Nat → Scope → Expr → Bool
  | .nev, gt, _, _ => true
  | .var i, gt, sc, e => match e with | .Name x _ => chkN N sc i x | _ => false
  | .int i, gt, _, e => match e with | .Constant (.int j) _ _ => decide (i = j) | _ => false
  | .bl i, gt, _, e => match e with | .Constant (.bool j) _ _ => decide (i = j) | _ => false
  | .non, gt, _, e => match e with | .Constant .none _ _ => true | _ => false
  | .str i, gt, _, e => match e with | .Constant (.str j) _ _ => decide (i = j) | _ => false
  | .bin o a b, gt, sc, e => match e with | .BinOp x p y _ => decide (p = opR o) && chk a gt sc x && chk b gt sc y | _ => false
  | .cmp c a b, gt, sc, e => match e with | .Compare x [p] [y] _ => decide (p = cmR c) && chk a gt sc x && chk b gt sc y | _ => false
  | .chain c d a b f, gt, sc, e => match e with | .Compare x [p, q] [y, z] _ => decide (p = cmR c) && decide (q = cmR d) && chk a gt sc x && chk b gt sc y && chk f gt sc z | _ => false
  | .eqI n a b, gt, sc, e => match e with | .Compare x [p] [y] _ => decide (p = if n then .NotEq else .Eq) && chk a gt sc x && chk b gt sc y | _ => false
  | .eqD n a b, gt, sc, e => match e with | .Compare x [p] [y] _ => decide (p = if n then .NotEq else .Eq) && chk a gt sc x && chk b gt sc y | _ => false
  | .isN n a, gt, sc, e => match e with | .Compare x [p] [.Constant .none _ _] _ => decide (p = if n then .IsNot else .Is) && chk a gt sc x | _ => false
  | .not a, gt, sc, e => match e with | .UnaryOp .Not x _ => chk a gt sc x | _ => false
  | .and es, gt, sc, e => match e with | .BoolOp .And xs _ => chks es gt sc xs | _ => false
  | .or es, gt, sc, e => match e with | .BoolOp .Or xs _ => chks es gt sc xs | _ => false
  | .ite c a b, gt, sc, e => match e with | .IfExp x y z _ => chk c gt sc x && chk a gt sc y && chk b gt sc z | _ => false
  | .tup es, gt, sc, e => match e with | .Tuple xs _ _ => chks es gt sc xs && decide (xs.length ≤ 1000) | _ => false
  | .lst _ es, gt, sc, e => match e with | .List xs _ => chks es gt sc xs && decide (xs.length ≤ 1000) | _ => false
  | .dic, gt, _, e => match e with | .Dict [] [] _ => true | _ => false
  | .ix a i, gt, sc, e => match e with | .Subscript x y _ => plain y && chk a gt sc x && chk i gt sc y | _ => false
  | .dix a i, gt, sc, e => match e with | .Subscript x y _ => plain y && chk a gt sc x && chk i gt sc y | _ => false
  | .slL _ a lo hi, gt, sc, e => match e with | .Subscript x (.Slice l u none _) _ => chk a gt sc x && chko lo gt sc l && chko hi gt sc u | _ => false
  | .slT a lo hi, gt, sc, e => match e with | .Subscript x (.Slice l u none _) _ => chk a gt sc x && chko lo gt sc l && chko hi gt sc u | _ => false
  | .fld a f, gt, sc, e => match e with | .Attribute x n _ => decide (T.fl[f]? = some n) && plainB x && chk a gt sc x | _ => false
  | .inS n a b, gt, sc, e => match e with | .Compare x [p] [y] _ => decide (p = if n then .NotIn else .In) && plain y && chk a gt sc x && chk b gt sc y | _ => false
  | .inD n a b, gt, sc, e => match e with | .Compare x [p] [y] _ => decide (p = if n then .NotIn else .In) && plain y && chk a gt sc x && chk b gt sc y | _ => false
  | .catL _ a b, gt, sc, e => match e with | .BinOp x p y _ => decide (p = .Add) && chk a gt sc x && chk b gt sc y | _ => false
  | .catT a b, gt, sc, e => match e with | .BinOp x p y _ => decide (p = .Add) && chk a gt sc x && chk b gt sc y | _ => false
  | .rep _ a b, gt, sc, e => match e with | .BinOp x p y _ => decide (p = .Mult) && chk a gt sc x && chk b gt sc y | _ => false
  | .len a, gt, sc, e => match e with | .Call (.Name n _) [x] [] _ => isB T sc "len" n && plain x && chk a gt sc x | _ => false
  | .lenD a, gt, sc, e => match e with | .Call (.Name n _) [x] [] _ => isB T sc "len" n && plain x && chk a gt sc x | _ => false
  | .max2 a b, gt, sc, e => match e with | .Call (.Name n _) [x, y] [] _ => isB T sc "max" n && plain x && plain y && chk a gt sc x && chk b gt sc y | _ => false
  | .min2 a b, gt, sc, e => match e with | .Call (.Name n _) [x, y] [] _ => isB T sc "min" n && plain x && plain y && chk a gt sc x && chk b gt sc y | _ => false
  | .abs a, gt, sc, e => match e with | .Call (.Name n _) [x] [] _ => isB T sc "abs" n && plain x && chk a gt sc x | _ => false
  | .toInt a, gt, sc, e => match e with | .Call (.Name n _) [x] [] _ => isB T sc "int" n && plain x && chk a gt sc x | _ => false
  | .toTup a, gt, sc, e => match e with | .Call (.Name n _) [x] [] _ => isB T sc "tuple" n && plain x && chk a gt sc x | _ => false
  | .toLst _ a, gt, sc, e => match e with | .Call (.Name n _) [x] [] _ => isB T sc "list" n && plain x && chk a gt sc x | _ => false
  | .call f es, gt, sc, e => match e, T.fn f with | .Call (.Name n _) xs [] _, some i => i.glob && decide (n = i.x) && glb sc n && okN n && decide (xs.length = i.ps.length) && chks es gt sc xs | _, _ => false
  | .make c es, gt, sc, e => match e, T.cls c with | .Call (.Name n _) xs [] _, some x => decide (n = x) && glb sc n && okN n && chks es gt sc xs | _, _ => false
  | .meth a m es, gt, sc, e => match e with | .Call (.Attribute o n ap) xs [] ps => (ap.endLine == ps.line) && decide (xs.length < 30) && decide (n = T.mth m) && !T.fl.contains n && plainB o && chk a gt sc o && chks es gt sc xs | _ => false
  | .comp a g it c own, gt, sc, e => match e with
    | .ListComp x [⟨tg, iter, ifs, 0⟩] scope _ =>
      L2.blkC N sc scope (own.map fun i => (N.getD i Str.empty, i)) && chkI it gt sc iter tg && chkG N (fun x => scope.names.lookup x == some .cell) (L2.relS scope sc) g tg && chkc c gt (L2.relS scope sc) ifs && chk a gt (L2.relS scope sc) x
        && gIn g own
    | _ => false
  | .compM a g it c own, gt, sc, e => match e with
    | .ListComp x [⟨tg, iter, ifs, 0⟩] scope _ =>
      L2.blkC N sc scope (own.map fun i => (N.getD i Str.empty, i)) && chkI it gt sc iter tg && chkG N (fun x => scope.names.lookup x == some .cell) (L2.relS scope sc) g tg && chkc c gt (L2.relS scope sc) ifs && chk a gt (L2.relS scope sc) x
        && gIn g own
    | _ => false
  | .dicT, gt, _, e => match e with | .Dict [] [] _ => true | _ => false
  | .p1 p _ a, gt, sc, e => match sh1 T sc p e with | some x => chk a gt sc x | none => false
  | .p2 p _ a b, gt, sc, e => match sh2 T sc p e with | some (x, y) => chk a gt sc x && chk b gt sc y | none => false
  | .p3 p a b c, gt, sc, e => match sh3 p e with | some (x, y, z) => chk a gt sc x && chk b gt sc y && chk c gt sc z | none => false
  | .comp2 a g it c g2 it2 c2 own own2, gt, sc, e => match e with
    | .ListComp x [⟨tg, iter, ifs, 0⟩, ⟨tg2, iter2, ifs2, 0⟩] scope _ =>
      L2.blkC N sc scope (own.map fun i => (N.getD i Str.empty, i)) && chkI it gt sc iter tg && chkG N (fun x => scope.names.lookup x == some .cell) (L2.relS scope sc) g tg && chkc c gt (L2.relS scope sc) ifs
        && chkJ it2 gt (L2.relS scope sc) iter2 tg2 && chkG N (fun x => scope.names.lookup x == some .cell) (L2.relS scope sc) g2 tg2 && chkc c2 gt (L2.relS scope sc) ifs2 && chk a gt (L2.relS scope sc) x
        && gIn g own && gIn g2 own2 && own2.all own.contains
    | _ => false
  | .gen k a g it c own t, gt, sc, e => match e with
    | .Call (.Name n _) [.GeneratorExp x [⟨tg, iter, ifs, 0⟩] scope _] [] _ =>
      isB T sc k.nm n && decide (gt = some t) && gscC N sc scope own && chkI it gt sc iter tg && genFC iter && chkG N (fun _ => false) scope g tg && chkc c none scope ifs && chk a none scope x && gIn g own
    | _ => false
  | .gen2 k a g it c g2 it2 c2 own own2 t, gt, sc, e => match e with
    | .Call (.Name n _) [.GeneratorExp x [⟨tg, iter, ifs, 0⟩, ⟨tg2, iter2, ifs2, 0⟩] scope _] [] _ =>
      isB T sc k.nm n && decide (gt = some t) && gscC N sc scope own && chkI it gt sc iter tg && genFC iter && chkG N (fun _ => false) scope g tg && chkc c none scope ifs
        && chkJ it2 none scope iter2 tg2 && chkG N (fun _ => false) scope g2 tg2 && chkc c2 none scope ifs2 && chk a none scope x && gIn g own && gIn g2 own2 && own2.all own.contains
    | _ => false
def chks : Es → Option Nat → Scope → List Expr → Bool
  | .nil, gt, _, es => match es with | [] => true | _ => false
  | .cons a r, gt, sc, es => match es with | x :: xs => plain x && chk a gt sc x && chks r gt sc xs | _ => false
def chko : Eo → Option Nat → Scope → Option Expr → Bool
  | .none, gt, _, e => match e with | none => true | _ => false
  | .some a, gt, sc, e => match e with | some x => plain x && chk a gt sc x | _ => false
def chkc : Eo → Option Nat → Scope → List Expr → Bool
  | .none, gt, _, e => match e with | [] => true | _ => false
  | .some a, gt, sc, e => match e with | [x] => plain x && chk a gt sc x | _ => false
def chkI : I → Option Nat → Scope → Expr → Expr → Bool
  | .seq a, gt, sc, e, _ => plain e && chk a gt sc e
  | .seqR a, gt, sc, e, _ => simp a && plain e && chk a gt sc e
  | .rng a, gt, sc, e, _ => match e with | .Call (.Name n _) [x] [] _ => isB T sc "range" n && plain x && chk a gt sc x | _ => false
  | .rng2 a b, gt, sc, e, _ => match e with | .Call (.Name n _) [x, y] [] _ => isB T sc "range" n && plain x && plain y && chk a gt sc x && chk b gt sc y | _ => false
  | .keys a, gt, sc, e, _ => simp a && plain e && chk a gt sc e
  | .w k a, gt, sc, e, tg => match shW T sc k e tg with | some x => simp a && plain x && chk a gt sc x | none => false
  | .zip _ _, _, _, _, _ => false
/-- the second clause's walk -/
def chkJ : I → Option Nat → Scope → Expr → Expr → Bool
  | .seq a, gt, sc, e, _ => plain e && chk a gt sc e
  | .seqR a, gt, sc, e, _ => plain e && chk a gt sc e
  | .rng a, gt, sc, e, _ => match e with | .Call (.Name n _) [x] [] _ => isB T sc "range" n && plain x && chk a gt sc x | _ => false
  | .rng2 a b, gt, sc, e, _ => match e with | .Call (.Name n _) [x, y] [] _ => isB T sc "range" n && plain x && plain y && chk a gt sc x && chk b gt sc y | _ => false
  | .keys _, _, _, _, _ => false
  | .w _ _, _, _, _, _ => false
  | .zip _ _, _, _, _, _ => false
end
/-! ### statements -/
def isLc : Expr → Bool
  | .ListComp .. => true
  | _ => false
def isTp (sc : Scope) (es : List Expr) : Expr → Bool
  | .Tuple vs _ _ => (es.length == 2 || es.length == 3) && !(es.any fun | .Name x _ => !(sc.names.lookup x == some .local) | _ => true) && !(vs.all (foldedForSure 8))
  | _ => false
/-- the comprehension's own names are not the target -/
def lcSet0 (sc : Scope) (y : Str) (l : Nat) (v : Expr) : Bool := match v with
  | .ListComp _ _ scope p => (l == p.line) && decide (sc.names.lookup y = some .local) && !(scope.names.any fun (n, k) => n == y && (k == .local || k == .cell))
  | _ => true
def lcSet (sc : Scope) (y : Str) (l : Nat) (v : Expr) : Bool := decide (sc.names.lookup y = some .cell) || lcSet0 sc y l v
def locL (sc : Scope) (i : Nat) (x : Str) : Bool := decide (N[i]? = some x) && decide (sc.names.lookup x = some .local)
mutual
def chkS (gt : Option Nat) (fn : Str → Bool) (sc : Scope) : S → Stmt → Bool
  | .set (.name i) e, st => match st with | .Assign [.Name y py] v _ => plain v && chk T N e gt sc v && chkL N fn sc i y && lcSet sc y py.line v | _ => false
  | .set (.tup is) e, st => match st with | .Assign [.Tuple es _ _] v _ => plain v && !isLc v && !isTp sc es v && chk T N e gt sc v && chkNs N fn sc is es | _ => false
  | .set (.fld a f) e, st => match st with | .Assign [.Attribute o n _] v _ => plain v && chk T N e gt sc v && decide (T.fl[f]? = some n) && chk T N a gt sc o | _ => false
  | .set (.sub a i) e, st => match st with | .Assign [.Subscript o x _] v _ => plain v && chk T N e gt sc v && plain x && chk T N a gt sc o && chk T N i gt sc x | _ => false
  | .set (.dsub a i) e, st => match st with | .Assign [.Subscript o x _] v _ => plain v && chk T N e gt sc v && plain x && chk T N a gt sc o && chk T N i gt sc x | _ => false
  | .set (.tsub a i) e, st => match st with | .Assign [.Subscript o x _] v _ => plain v && chk T N e gt sc v && plain x && chk T N a gt sc o && chk T N i gt sc x | _ => false
  | .par i j a b, st => match st with | .Assign [.Tuple [.Name x px, .Name y py] _ _] (.Tuple [u, w] _ _) _ => decide (i ≠ j) && locL N sc i x && locL N sc j y && decide (x ≠ y) && (py.line == px.line) && plain u && plain w && !([u, w].all (foldedForSure 8)) && !([u, w].all (constantsAlone 8)) && chk T N a gt sc u && chk T N b gt sc w | _ => false
  | .par3 i j l a b c, st => match st with | .Assign [.Tuple [.Name x px, .Name y py, .Name z pz] _ _] (.Tuple [u, v, w] _ _) _ => decide (i ≠ j) && decide (i ≠ l) && decide (j ≠ l) && locL N sc i x && locL N sc j y && locL N sc l z && decide (x ≠ y) && decide (x ≠ z) && decide (y ≠ z) && (py.line == px.line) && (pz.line == px.line) && plain u && plain v && plain w && !([u, v, w].all (foldedForSure 8)) && !([u, v, w].all (constantsAlone 8)) && chk T N a gt sc u && chk T N b gt sc v && chk T N c gt sc w | _ => false
  | .augN i o e, st => match st with | .AugAssign (.Name x _) p v _ => decide (o ≠ .pow) && decide (p = opR o) && chkL N fn sc i x && chk T N e gt sc v | _ => false
  | .augF a f o e, st => match st with | .AugAssign (.Attribute ob n _) p v _ => decide (o ≠ .pow) && decide (p = opR o) && decide (T.fl[f]? = some n) && chk T N a gt sc ob && chk T N e gt sc v | _ => false
  | .extF a f e, st => match st with | .AugAssign (.Attribute ob n _) p v _ => decide (p = .Add) && decide (T.fl[f]? = some n) && chk T N a gt sc ob && chk T N e gt sc v | _ => false
  | .ret e, st => match st with | .Return (some v) _ => chk T N e gt sc v | _ => false
  | .retN, st => match st with | .Return none _ => true | _ => false
  | .expr e, st => match st with | .Expr v _ => plain v && !isLc v && chk T N e gt sc v | _ => false
  | .pass, st => match st with | .Pass _ => true | _ => false
  | .ite c t e, st => match st with | .If x p q _ => chk T N c gt sc x && chkSs gt fn sc t p && chkSs gt fn sc e q | _ => false
  | .loop g it b, st => match st with | .For tg iter body [] _ => chkI T N it gt sc iter tg && chkG N fn sc g tg && chkSs gt fn sc b body | _ => false
  | .whl c b, st => match st with | .While x body [] _ => chk T N c gt sc x && chkSs gt fn sc b body | _ => false
  | .brk, st => match st with | .Break _ => true | _ => false
  | .cont, st => match st with | .Continue _ => true | _ => false
  | .append a e, st => match st with | .Expr (.Call (.Attribute o n ap) [x] [] cp) _ => decide (n = "append") && (ap.endLine == cp.line) && plainB o && plain x && chk T N a gt sc o && chk T N e gt sc x | _ => false
  | .raise _, _ => false
  | .nev, _ => true
  | .augS a i o e, st => match st with | .AugAssign (.Subscript ob x _) p v _ => decide (o ≠ .pow) && decide (p = opR o) && plain x && chk T N a gt sc ob && chk T N i gt sc x && chk T N e gt sc v | _ => false
  | .augD a i o e, st => match st with | .AugAssign (.Subscript ob x _) p v _ => decide (o ≠ .pow) && decide (p = opR o) && plain x && chk T N a gt sc ob && chk T N i gt sc x && chk T N e gt sc v | _ => false
  | .augT a i o e, st => match st with | .AugAssign (.Subscript ob x _) p v _ => decide (o ≠ .pow) && decide (p = opR o) && plain x && chk T N a gt sc ob && chk T N i gt sc x && chk T N e gt sc v | _ => false
  | .delL a i, st => match st with | .Delete [.Subscript o x _] _ => plain x && chk T N a gt sc o && chk T N i gt sc x | _ => false
  | .delD a i, st => match st with | .Delete [.Subscript o x _] _ => plain x && chk T N a gt sc o && chk T N i gt sc x | _ => false
def chkSs (gt : Option Nat) (fn : Str → Bool) (sc : Scope) : Ss → List Stmt → Bool
  | .nil, st => match st with | [] => true | _ => false
  | .cons a r, st => match st with | x :: xs => chkS gt fn sc a x && chkSs gt fn sc r xs | _ => false
end
end
end Z
namespace Z
open PySem PySem.Spec L2

section
variable (I : Inf)
def RS (ι : Pl) (H : Hp) (σc : Env) (σ : St) : Prop := σc.length = σ.length ∧ ∀ (i : Nat) (w : W), σc[i]? = some (some w) → ∃ v, σ[i]? = some (some v) ∧ RW I ι H w v
/-- what is wanted of a value's end, of an exception -/
def Pv (ι : Pl) (H : Hp) (Q : VK) (w : W) (h' : EH) : Prop := ∀ ι' H' v, Ext ι H ι' H' → Rep I ι' h' H' → RW I ι' H' w v → Q v H'
def Px (ι : Pl) (H : Hp) (Wx : XK) (c : Nat) (h' : EH) : Prop := ∀ ι' H', Ext ι H ι' H' → Rep I ι' h' H' → Wx (.ref (I.ca c)) none H'
def Pvs (ι : Pl) (H : Hp) (Q : List V → Hp → Prop) (ws : List W) (h' : EH) : Prop := ∀ ι' H' vs, Ext ι H ι' H' → Rep I ι' h' H' → RWs I ι' H' ws vs → Q vs H'
def Pb (ι : Pl) (H : Hp) (Q : Bool → Hp → Prop) (b : Bool) (h' : EH) : Prop := ∀ ι' H', Ext ι H ι' H' → Rep I ι' h' H' → Q b H'
def Po (ι : Pl) (H : Hp) (Q : Option Int → Hp → Prop) (b : Option Int) (h' : EH) : Prop := ∀ ι' H', Ext ι H ι' H' → Rep I ι' h' H' → Q b H'
/-- the readings -/
def tE (f : Env → EH → T W) (Wx : XK) : TE := fun σ H Q => ∃ ι h σc, RS I ι H σc σ ∧ Rep I ι h H ∧ (f σc h).All (Pv I ι H Q) (Px I ι H Wx)
def tA (f : Env → EH → T (List W)) (Wx : XK) : TA := fun σ H Q => ∃ ι h σc, RS I ι H σc σ ∧ Rep I ι h H ∧ (f σc h).All (Pvs I ι H Q) (Px I ι H Wx)
def tB (f : Env → EH → T Bool) (Wx : XK) : TT := fun σ H Q => ∃ ι h σc, RS I ι H σc σ ∧ Rep I ι h H ∧ (f σc h).All (Pb I ι H Q) (Px I ι H Wx)
def tOo (f : Env → EH → T (Option Int)) (Wx : XK) : TO := fun σ H Q => ∃ ι h σc, RS I ι H σc σ ∧ Rep I ι h H ∧ (f σc h).All (Po I ι H Q) (Px I ι H Wx)
end
section
variable {I : Inf} {ι ι' : Pl} {H H' : Hp} {h h' : EH} {σc : Env} {σ : St} {Wx : XK} {Q : VK}
theorem RS.ext (r : RS I ι H σc σ) (a : Ext ι H ι' H') : RS I ι' H' σc σ := ⟨r.1, fun i w e => by
  obtain ⟨v, h1, h2⟩ := r.2 i w e
  exact ⟨v, h1, h2.ext a⟩⟩
theorem RS.mo (r : RS I ι H σc σ) (a : Mo ι H ι' H') : RS I ι' H' σc σ := ⟨r.1, fun i w e => by
  obtain ⟨v, h1, h2⟩ := r.2 i w e
  exact ⟨v, h1, h2.mo a.toMw⟩⟩
theorem RS.set (r : RS I ι H σc σ) {i : Nat} {w : W} {v : V} (rw' : RW I ι H w v) : RS I ι H (σc.set i (some w)) (σ.set i (some v)) := by
  refine ⟨by simp [r.1], fun j u e => ?_⟩
  by_cases hj : i = j
  · subst hj
    have hl : i < σc.length := by
      have := (List.getElem?_eq_some_iff.mp e).1
      simpa using this
    rw [List.getElem?_set_self hl] at e
    cases e
    exact ⟨v, by rw [List.getElem?_set_self (by rw [← r.1]; exact hl)], rw'⟩
  · rw [List.getElem?_set_ne hj] at e
    obtain ⟨v', h1, h2⟩ := r.2 j u e
    exact ⟨v', by rw [List.getElem?_set_ne hj]; exact h1, h2⟩
theorem RS.wipe (r : RS I ι H σc σ) : ∀ own : List Nat, RS I ι H (wipeE σc own) (wipe σ own)
  | [] => r
  | i :: own => by
    have q := RS.wipe r own
    unfold wipeE L2.wipe
    refine ⟨by simp [q.1], fun j u e => ?_⟩
    by_cases hj : i = j
    · subst hj
      by_cases hl : i < (wipeE σc own).length
      · rw [List.getElem?_set_self hl] at e; cases e
      · rw [List.getElem?_eq_none (by simpa using hl)] at e; cases e
    · rw [List.getElem?_set_ne hj] at e
      obtain ⟨v', h1, h2⟩ := q.2 j u e
      exact ⟨v', by rw [List.getElem?_set_ne hj]; exact h1, h2⟩
theorem later {t : T W} (q : t.All (Pv I ι H Q) (Px I ι H Wx)) (a : Ext ι H ι' H') : t.All (Pv I ι' H' Q) (Px I ι' H' Wx) :=
  q.mono (fun _ _ k ι'' H'' v e => k ι'' H'' v (a.trans e)) fun _ _ k ι'' H'' e => k ι'' H'' (a.trans e)
theorem lates {Q : List V → Hp → Prop} {t : T (List W)} (q : t.All (Pvs I ι H Q) (Px I ι H Wx)) (a : Ext ι H ι' H') : t.All (Pvs I ι' H' Q) (Px I ι' H' Wx) :=
  q.mono (fun _ _ k ι'' H'' v e => k ι'' H'' v (a.trans e)) fun _ _ k ι'' H'' e => k ι'' H'' (a.trans e)
theorem laterB {Q : Bool → Hp → Prop} {t : T Bool} (q : t.All (Pb I ι H Q) (Px I ι H Wx)) (a : Ext ι H ι' H') : t.All (Pb I ι' H' Q) (Px I ι' H' Wx) :=
  q.mono (fun _ _ k ι'' H'' e => k ι'' H'' (a.trans e)) fun _ _ k ι'' H'' e => k ι'' H'' (a.trans e)
theorem laterO {Q : Option Int → Hp → Prop} {t : T (Option Int)} (q : t.All (Po I ι H Q) (Px I ι H Wx)) (a : Ext ι H ι' H') : t.All (Po I ι' H' Q) (Px I ι' H' Wx) :=
  q.mono (fun _ _ k ι'' H'' e => k ι'' H'' (a.trans e)) fun _ _ k ι'' H'' e => k ι'' H'' (a.trans e)
/-- a part is evaluated, then the rest; the rest's wish is any that stays true later -/
theorem goE {α : Type} {f : Env → EH → T W} {k : W → EH → T α} {P : Pl → Hp → α → EH → Prop} (hP : ∀ {ι1 H1 a h}, Ext ι H ι1 H1 → P ι H a h → P ι1 H1 a h) (rs : RS I ι H σc σ) (rp : Rep I ι h H)
    (q : ((f σc h).bind k).All (P ι H) (Px I ι H Wx)) {R : VK}
    (c : ∀ ι1 H1 h1 w v, Ext ι H ι1 H1 → RS I ι1 H1 σc σ → Rep I ι1 h1 H1 → RW I ι1 H1 w v → (k w h1).All (P ι1 H1) (Px I ι1 H1 Wx) → R v H1) : tE I f Wx σ H R := by
  refine ⟨ι, h, σc, rs, rp, (T.All.bind q).mono (fun w h1 q1 ι1 H1 v e rp1 rw1 => c ι1 H1 h1 w v e (rs.ext e) rp1 rw1 ?_) fun _ _ z => z⟩
  exact q1.mono (fun _ _ z => hP e z) fun _ _ z ι2 H2 e2 => z ι2 H2 (e.trans e2)
theorem goV {f : Env → EH → T W} {k : W → EH → T W} (rs : RS I ι H σc σ) (rp : Rep I ι h H) (q : ((f σc h).bind k).All (Pv I ι H Q) (Px I ι H Wx)) {R : VK}
    (c : ∀ ι1 H1 h1 w v, Ext ι H ι1 H1 → RS I ι1 H1 σc σ → Rep I ι1 h1 H1 → RW I ι1 H1 w v → (k w h1).All (Pv I ι1 H1 Q) (Px I ι1 H1 Wx) → R v H1) : tE I f Wx σ H R :=
  goE (P := fun ι H => Pv I ι H Q) (fun e z ι2 H2 v e2 => z ι2 H2 v (e.trans e2)) rs rp q c
/-- the end: a value -/
theorem fin {w : W} {v : V} (q : (T.ok w h).All (Pv I ι H Q) (Px I ι H Wx)) (rp : Rep I ι h H) (r : RW I ι H w v) : Q v H := q ι H v Ext.refl rp r
theorem finO {o : Option W} (q : (ofO o h).All (Pv I ι H Q) (Px I ι H Wx)) (rp : Rep I ι h H) : ∃ w, o = some w ∧ ∀ v, RW I ι H w v → Q v H := by
  cases o with
  | none => exact q.elim
  | some w => exact ⟨w, rfl, fun v r => fin q rp r⟩
end

section
variable {X : Cx} {I : Inf} {Wx : XK} {a b c e : Expr} {fa fb fc : Env → EH → T W} {pos : Pos}
theorem s_op {op : Operator} {g : W → W → EH → T W} {r : R2} (ho : OpR X (binaryOp op) r) (ha : PE X a (tE I fa Wx)) (hb : PE X b (tE I fb Wx))
    (hk : ∀ ι h H Q w1 w2 v1 v2, Rep I ι h H → RW I ι H w1 v1 → RW I ι H w2 v2 → (g w1 w2 h).All (Pv I ι H Q) (Px I ι H Wx) → r v1 v2 H Q) :
    PE X (.BinOp a op b pos) (tE I (fun σ h => (fa σ h).bind fun x h => (fb σ h).bind fun y h => g x y h) Wx) := by
  refine ⟨fun pins s σ H Q J ⟨ι, h, σc, rs, rp, q⟩ => (pe_op ho ha hb).run pins s σ H Q J ?_⟩
  refine goV rs rp q fun ι1 H1 h1 w1 v1 e1 rs1 rp1 r1 q1 => ?_
  refine goV rs1 rp1 q1 fun ι2 H2 h2 w2 v2 e2 rs2 rp2 r2 q2 => ?_
  exact hk ι2 h2 H2 Q w1 w2 v1 v2 rp2 (r1.ext e2) r2 q2
theorem s_cm {op : CmpOp} {g : W → W → EH → T W} {r : R2} (ho : OpR X (compareOp op) r) (ha : PE X a (tE I fa Wx)) (hb : PE X b (tE I fb Wx)) (hm : behindInMarks op b = false)
    (hk : ∀ ι h H Q w1 w2 v1 v2, Rep I ι h H → RW I ι H w1 v1 → RW I ι H w2 v2 → (g w1 w2 h).All (Pv I ι H Q) (Px I ι H Wx) → r v1 v2 H Q) :
    PE X (.Compare a [op] [b] pos) (tE I (fun σ h => (fa σ h).bind fun x h => (fb σ h).bind fun y h => g x y h) Wx) ∧
    PT X (.Compare a [op] [b] pos) (tTest (tE I (fun σ h => (fa σ h).bind fun x h => (fb σ h).bind fun y h => g x y h) Wx)) := by
  have step : ∀ {σ H Q}, tE I (fun σ h => (fa σ h).bind fun x h => (fb σ h).bind fun y h => g x y h) Wx σ H Q → tOp r (tE I fa Wx) (tE I fb Wx) σ H Q := by
    intro σ H Q ⟨ι, h, σc, rs, rp, q⟩
    refine goV rs rp q fun ι1 H1 h1 w1 v1 e1 rs1 rp1 r1 q1 => ?_
    refine goV rs1 rp1 q1 fun ι2 H2 h2 w2 v2 e2 rs2 rp2 r2 q2 => ?_
    exact hk ι2 h2 H2 Q w1 w2 v1 v2 rp2 (r1.ext e2) r2 q2
  exact ⟨⟨fun pins s σ H Q J q => (pe_cmpR ho ha hb hm).run pins s σ H Q J (step q)⟩, ⟨fun pins s σ H Q J q => (pt_cmpR ho ha hb hm).run pins s σ H Q J (step q)⟩⟩
theorem s_bin {o : Op} (ha : PE X a (tE I fa Wx)) (hb : PE X b (tE I fb Wx)) : PE X (.BinOp a (opR o) b pos) (tE I (fun σ h => (fa σ h).bind fun x h => (fb σ h).bind fun y h => ofO (opW o x y) h) Wx) := by
  cases o with
  | add =>
    exact s_op op_add ha hb fun ι h H Q w1 w2 v1 v2 rp r1 r2 q => by
      obtain ⟨w, ew, k⟩ := finO q rp
      cases r1 <;> cases r2 <;> simp [opW] at ew
      subst ew; exact ⟨_, _, rfl, rfl, k _ (.int _)⟩
  | sub =>
    exact s_op op_sub ha hb fun ι h H Q w1 w2 v1 v2 rp r1 r2 q => by
      obtain ⟨w, ew, k⟩ := finO q rp
      cases r1 <;> cases r2 <;> simp [opW] at ew
      subst ew; exact ⟨_, _, rfl, rfl, k _ (.int _)⟩
  | mul =>
    exact s_op op_mul ha hb fun ι h H Q w1 w2 v1 v2 rp r1 r2 q => by
      obtain ⟨w, ew, k⟩ := finO q rp
      cases r1 <;> cases r2 <;> simp only [opW, reduceCtorEq] at ew
      split at ew
      · rename_i hc; cases ew; exact ⟨_, _, rfl, rfl, hc, k _ (.int _)⟩
      · cases ew
  | fdiv =>
    exact s_op op_fdiv ha hb fun ι h H Q w1 w2 v1 v2 rp r1 r2 q => by
      obtain ⟨w, ew, k⟩ := finO q rp
      cases r1 <;> cases r2 <;> simp only [opW, reduceCtorEq] at ew
      split at ew
      · rename_i hc; cases ew; exact ⟨_, _, rfl, rfl, hc, k _ (.int _)⟩
      · cases ew
  | mod =>
    exact s_op op_mod ha hb fun ι h H Q w1 w2 v1 v2 rp r1 r2 q => by
      obtain ⟨w, ew, k⟩ := finO q rp
      cases r1 <;> cases r2 <;> simp only [opW, reduceCtorEq] at ew
      split at ew
      · rename_i hc; cases ew; exact ⟨_, _, rfl, rfl, hc, k _ (.int _)⟩
      · cases ew
  | pow =>
    exact s_op op_pow ha hb fun ι h H Q w1 w2 v1 v2 rp r1 r2 q => by
      obtain ⟨w, ew, k⟩ := finO q rp
      cases r1 <;> cases r2 <;> simp only [opW, reduceCtorEq] at ew
      split at ew
      · rename_i hc; cases ew; exact ⟨_, _, rfl, rfl, ⟨hc.1, by have := hc.2.1; omega, hc.2.2⟩, k _ (.int _)⟩
      · cases ew
theorem cm_int {c : Cm} {ι : Pl} {h : EH} {H : Hp} {Q : VK} {w1 w2 : W} {v1 v2 : V} (rp : Rep I ι h H) (r1 : RW I ι H w1 v1) (r2 : RW I ι H w2 v2) (q : (ofO (cmW c w1 w2) h).All (Pv I ι H Q) (Px I ι H Wx)) :
    rI0 (fun i j => .bl (cmI c i j)) v1 v2 H Q := by
  obtain ⟨w, ew, k⟩ := finO q rp
  cases r1 <;> cases r2 <;> simp [cmW] at ew
  subst ew; exact ⟨_, _, rfl, rfl, k _ (.bl _)⟩
theorem ocm {c : Cm} : OpR X (compareOp (cmR c)) (rI0 fun i j => .bl (cmI c i j)) := by
  cases c with
  | lt => exact op_lt
  | le => exact op_le
  | gt => exact op_gt
  | ge => exact op_ge
theorem nb {c : Cm} (b : Expr) : behindInMarks (cmR c) b = false := nobehind b (by cases c <;> decide) (by cases c <;> decide)
theorem s_cmp {c : Cm} (ha : PE X a (tE I fa Wx)) (hb : PE X b (tE I fb Wx)) :
    PE X (.Compare a [cmR c] [b] pos) (tE I (fun σ h => (fa σ h).bind fun x h => (fb σ h).bind fun y h => ofO (cmW c x y) h) Wx) ∧
    PT X (.Compare a [cmR c] [b] pos) (tTest (tE I (fun σ h => (fa σ h).bind fun x h => (fb σ h).bind fun y h => ofO (cmW c x y) h) Wx)) :=
  s_cm ocm ha hb (nb b) fun ι h H Q w1 w2 v1 v2 rp r1 r2 q => cm_int rp r1 r2 q
theorem finK {α : Type} {w : W} {ι : Pl} {H : Hp} {f : Bool → T α} {P : α → EH → Prop} {E : Nat → EH → Prop} {v : V} (r : RW I ι H w v) (q : (boolK w f).All P E) : ∃ k, w = .bl k ∧ v = .bl k ∧ (f k).All P E := by
  cases r with
  | bl b => exact ⟨b, rfl, rfl, q⟩
  | _ => exact q.elim
theorem s_chain {c d : Cm} {e : Expr} (ha : PE X a (tE I fa Wx)) (hb : PE X b (tE I fb Wx)) (hc : PE X e (tE I fc Wx)) :
    PE X (.Compare a [cmR c, cmR d] [b, e] pos) (tE I (fun σ h => (fa σ h).bind fun x h => (fb σ h).bind fun y h => (ofO (cmW c x y) h).bind fun k h => boolK k fun k => if k then (fc σ h).bind fun z h => ofO (cmW d y z) h else .ok (.bl false) h) Wx) ∧
    PT X (.Compare a [cmR c, cmR d] [b, e] pos) (tTest (tE I (fun σ h => (fa σ h).bind fun x h => (fb σ h).bind fun y h => (ofO (cmW c x y) h).bind fun k h => boolK k fun k => if k then (fc σ h).bind fun z h => ofO (cmW d y z) h else .ok (.bl false) h) Wx)) := by
  have hm : lastMarks [cmR c, cmR d] [b, e] = false := by
    show behindInMarks (cmR d) e = false
    exact nb e
  have step : ∀ {σ H Q}, tE I (fun σ h => (fa σ h).bind fun x h => (fb σ h).bind fun y h => (ofO (cmW c x y) h).bind fun k h => boolK k fun k => if k then (fc σ h).bind fun z h => ofO (cmW d y z) h else .ok (.bl false) h) Wx σ H Q →
      tChain (rI0 fun i j => .bl (cmI c i j)) (rI0 fun i j => .bl (cmI d i j)) (tE I fa Wx) (tE I fb Wx) (tE I fc Wx) σ H Q := by
    intro σ H Q ⟨ι, h, σc, rs, rp, q⟩
    refine goV rs rp q fun ι1 H1 h1 w1 v1 e1 rs1 rp1 r1 q1 => ?_
    refine goV rs1 rp1 q1 fun ι2 H2 h2 w2 v2 e2 rs2 rp2 r2 q2 => ?_
    have r1 := r1.ext e2
    cases r1 <;> cases r2 <;> simp only [cmW, ofO] at q2 <;> first | exact q2.elim | skip
    rename_i i j
    refine ⟨i, j, rfl, rfl, cmI c i j, rfl, ?_⟩
    have q3 := T.All.bind q2
    simp only [T.All, boolK] at q3
    cases hk : cmI c i j with
    | false =>
      rw [hk] at q3
      exact fin q3 rp2 (.bl false)
    | true =>
      rw [hk] at q3
      refine goV rs2 rp2 q3 fun ι3 H3 h3 w3 v3 e3 rs3 rp3 r3 q4 => ?_
      exact cm_int rp3 (.int j) r3 q4
  exact ⟨⟨fun pins s σ H Q J q => (pe_chain ocm ocm ha hb hc hm).run pins s σ H Q J (step q)⟩, ⟨fun pins s σ H Q J q => (pt_chain ocm ocm ha hb hc hm).run pins s σ H Q J (step q)⟩⟩
theorem s_eqI {n : Bool} (ha : PE X a (tE I fa Wx)) (hb : PE X b (tE I fb Wx)) :
    PE X (.Compare a [if n then .NotEq else .Eq] [b] pos) (tE I (fun σ h => (fa σ h).bind fun x h => (fb σ h).bind fun y h => ofO ((eqS x y).map fun k => W.bl (if n then !k else k)) h) Wx) ∧
    PT X (.Compare a [if n then .NotEq else .Eq] [b] pos) (tTest (tE I (fun σ h => (fa σ h).bind fun x h => (fb σ h).bind fun y h => ofO ((eqS x y).map fun k => W.bl (if n then !k else k)) h) Wx)) := by
  have key : ∀ {ι h H w1 w2 v1 v2} {k : Bool}, Rep I ι h H → RW I ι H w1 v1 → RW I ι H w2 v2 → eqS w1 w2 = some k → scal v1 v2 = true ∧ decide (v1 = v2) = k := by
    intro ι h H w1 w2 v1 v2 k rp r1 r2 ek
    cases r1 <;> cases r2 <;> simp [eqS] at ek <;> subst ek <;> simp [scal]
  cases n with
  | false =>
    exact s_cm op_eq ha hb (nobehind b (by decide) (by decide)) fun ι h H Q w1 w2 v1 v2 rp r1 r2 q => by
      obtain ⟨w, ew, k⟩ := finO q rp
      cases hq : eqS w1 w2 with
      | none => rw [hq] at ew; cases ew
      | some kk =>
        rw [hq] at ew; cases ew
        obtain ⟨z1, z2⟩ := key rp r1 r2 hq
        exact ⟨z1, k _ (by rw [z2]; exact .bl _)⟩
  | true =>
    exact s_cm op_ne ha hb (nobehind b (by decide) (by decide)) fun ι h H Q w1 w2 v1 v2 rp r1 r2 q => by
      obtain ⟨w, ew, k⟩ := finO q rp
      cases hq : eqS w1 w2 with
      | none => rw [hq] at ew; cases ew
      | some kk =>
        rw [hq] at ew; cases ew
        obtain ⟨z1, z2⟩ := key rp r1 r2 hq
        exact ⟨z1, k _ (by rw [z2]; exact .bl _)⟩

/-! ### == of data -/
theorem mapO_dp {ι : Pl} {h : EH} {H : Hp} {n : Nat} (ih : ∀ w v d, RW I ι H w v → froz h n w = some d → Dp I.K H v d ∧ d.canLay0 = true ∧ d.depth ≤ n) :
    ∀ {ws vs ds}, RWs I ι H ws vs → mapO (froz h n) ws = some ds → DpAll I.K H vs ds ∧ PyData.canLayAll0 ds = true ∧ PyData.depthAll ds ≤ n
  | [], _, _, .nil, e => by
    simp only [mapO, Option.some.injEq] at e
    subst e
    exact ⟨.nil, by simp [PyData.canLayAll0], by simp [PyData.depthAll]⟩
  | w :: ws, _, _, .cons r rr, e => by
    simp only [mapO] at e
    split at e
    · cases e
    · rename_i d hd
      split at e
      · cases e
      · rename_i ds hds
        cases e
        obtain ⟨a1, a2, a3⟩ := ih _ _ _ r hd
        obtain ⟨b1, b2, b3⟩ := mapO_dp ih rr hds
        exact ⟨.cons a1 b1, by simp [PyData.canLayAll0, a2, b2], by simp only [PyData.depthAll]; omega⟩
theorem dp_of {ι : Pl} {h : EH} {H : Hp} (rp : Rep I ι h H) : ∀ n w v d, RW I ι H w v → froz h n w = some d → Dp I.K H v d ∧ d.canLay0 = true ∧ d.depth ≤ n := by
  intro n
  induction n with
  | zero =>
    intro w v d r e
    cases r <;> simp only [froz] at e <;> (try cases e)
    · exact ⟨.non, by simp [PyData.canLay0], by simp [PyData.depth]⟩
    · exact ⟨.bl _, by simp [PyData.canLay0], by simp [PyData.depth]⟩
    · exact ⟨.int _, by simp [PyData.canLay0], by simp [PyData.depth]⟩
    · split at e
      · rename_i hc; cases e; exact ⟨.str _, hc, by simp [PyData.depth]⟩
      · cases e
  | succ n ih =>
    have hl : ∀ {p vs ws d}, Rd H p (.lst vs) → RWs I ι H ws vs → (mapO (froz h n) ws).map PyData.list = some d → Dp I.K H (.ref p) d ∧ d.canLay0 = true ∧ d.depth ≤ n + 1 := by
      intro p vs ws d hp rr e
      cases hm : mapO (froz h n) ws with
      | none => rw [hm] at e; cases e
      | some ds =>
        rw [hm] at e; cases e
        obtain ⟨b1, b2, b3⟩ := mapO_dp ih rr hm
        exact ⟨.lst (.inl hp) b1, by simpa [PyData.canLay0] using b2, by simp only [PyData.depth]; omega⟩
    intro w v d r e
    cases r with
    | non => simp only [froz] at e; cases e; exact ⟨.non, by simp [PyData.canLay0], by simp [PyData.depth]⟩
    | bl b => simp only [froz] at e; cases e; exact ⟨.bl _, by simp [PyData.canLay0], by simp [PyData.depth]⟩
    | int i => simp only [froz] at e; cases e; exact ⟨.int _, by simp [PyData.canLay0], by simp [PyData.depth]⟩
    | str x =>
      simp only [froz] at e
      split at e
      · rename_i hc; cases e; exact ⟨.str _, hc, by simp [PyData.depth]⟩
      · cases e
    | tup hp np rr l =>
      simp only [froz] at e
      rename_i ws vs
      cases hm : mapO (froz h n) ws with
      | none => rw [hm] at e; cases e
      | some ds =>
        rw [hm] at e; cases e
        obtain ⟨b1, b2, b3⟩ := mapO_dp ih rr hm
        exact ⟨.tup (.inl (.inl hp)) b1, by simpa [PyData.canLay0] using b2, by simp only [PyData.depth]; omega⟩
    | lst hp np rr l =>
      simp only [froz] at e
      exact hl (.inl hp) rr e
    | @ref m a ea =>
      simp only [froz] at e
      split at e
      · rename_i xs hx
        obtain ⟨vs, h1, h2, h3⟩ := rp.at ea hx
        exact hl (.inl h1) h2 e
      · rename_i xs hx
        obtain ⟨o, vs, h1, h2, h3⟩ := rp.at ea hx
        exact hl (.inr ⟨o, h1⟩) h2 e
      · cases e
    | scr _ _ => simp only [froz] at e; cases e
theorem shaped_of {n : Nat} {d : PyData} (hn : n ≤ 64) (h1 : d.canLay0 = true) (h2 : d.depth ≤ n) : SeqAt.shaped d = true := by
  show (d.canLay0 && decide (d.depth ≤ 64)) = true
  rw [h1, Bool.true_and]
  exact decide_eq_true (by omega)
theorem s_eqD {n : Bool} (hK : X.K = I.K) (hu : X.A.units + 64 < cLine) (ha : PE X a (tE I fa Wx)) (hb : PE X b (tE I fb Wx)) :
    PE X (.Compare a [if n then .NotEq else .Eq] [b] pos) (tE I (fun σ h => (fa σ h).bind fun x h => (fb σ h).bind fun y h => ofO ((eqDW h x y).map fun k => W.bl (if n then !k else k)) h) Wx) ∧
    PT X (.Compare a [if n then .NotEq else .Eq] [b] pos) (tTest (tE I (fun σ h => (fa σ h).bind fun x h => (fb σ h).bind fun y h => ofO ((eqDW h x y).map fun k => W.bl (if n then !k else k)) h) Wx)) := by
  have key : ∀ {ι h H w1 w2 v1 v2 w}, Rep I ι h H → RW I ι H w1 v1 → RW I ι H w2 v2 → (eqDW h w1 w2).map (fun k => W.bl (if n then !k else k)) = some w →
      ∃ d e, Dp X.K H v1 d ∧ Dp X.K H v2 e ∧ SeqAt.shaped d = true ∧ SeqAt.shaped e = true ∧ w = .bl (if n then !(PyData.eqv d e) else PyData.eqv d e) := by
    intro ι h H w1 w2 v1 v2 w rp r1 r2 e
    cases hd : froz h 8 w1 with
    | none => simp [eqDW, hd] at e
    | some d =>
      cases he : froz h 8 w2 with
      | none => simp [eqDW, hd, he] at e
      | some d2 =>
        obtain ⟨a1, a2, a3⟩ := dp_of rp _ _ _ _ r1 hd
        obtain ⟨b1, b2, b3⟩ := dp_of rp _ _ _ _ r2 he
        simp only [eqDW, hd, he, Option.map_some, Option.some.injEq] at e
        exact ⟨d, d2, by rw [hK]; exact a1, by rw [hK]; exact b1, shaped_of (by decide) a2 a3, shaped_of (by decide) b2 b3, e.symm⟩
  cases n with
  | false =>
    exact s_cm (op_eqD hu) ha hb (nobehind b (by decide) (by decide)) fun ι h H Q w1 w2 v1 v2 rp r1 r2 q => by
      obtain ⟨w, ew, k⟩ := finO q rp
      obtain ⟨d, e, h1, h2, h3, h4, h5⟩ := key rp r1 r2 ew
      exact ⟨d, e, h1, h2, h3, h4, k _ (by rw [h5]; exact .bl _)⟩
  | true =>
    exact s_cm (op_neD hu) ha hb (nobehind b (by decide) (by decide)) fun ι h H Q w1 w2 v1 v2 rp r1 r2 q => by
      obtain ⟨w, ew, k⟩ := finO q rp
      obtain ⟨d, e, h1, h2, h3, h4, h5⟩ := key rp r1 r2 ew
      exact ⟨d, e, h1, h2, h3, h4, k _ (by rw [h5]; exact .bl _)⟩
theorem s_isN {n : Bool} {j : Nat} {p2 : Pos} (ha : PE X a (tE I fa Wx)) :
    PE X (.Compare a [if n then .IsNot else .Is] [.Constant .none j p2] pos) (tE I (fun σ h => (fa σ h).bind fun x h => .ok (.bl (match x with | .non => !n | _ => n)) h) Wx) ∧
    PT X (.Compare a [if n then .IsNot else .Is] [.Constant .none j p2] pos) (tTest (tE I (fun σ h => (fa σ h).bind fun x h => .ok (.bl (match x with | .non => !n | _ => n)) h) Wx)) := by
  have key : ∀ {ι H w v}, RW I ι H w v → (match w with | .non => !n | _ => n) = (if n then !decide (v = .non) else decide (v = .non)) := by
    intro ι H w v r
    cases r <;> cases n <;> simp
  have st : ∀ {σ H Q}, tE I (fun σ h => (fa σ h).bind fun x h => .ok (.bl (match x with | .non => !n | _ => n)) h) Wx σ H Q → tE I fa Wx σ H (fun x H1 => Q (.bl (if n then !decide (x = .non) else decide (x = .non))) H1) := by
    intro σ H Q ⟨ι, h, σc, rs, rp, q⟩
    refine goV rs rp q fun ι1 H1 h1 w1 v1 e1 rs1 rp1 r1 q1 => ?_
    refine fin q1 rp1 ?_
    rw [key r1]
    exact .bl _
  cases n with
  | false => exact ⟨⟨fun pins s σ H Q J q => (pe_cmp (pc_isN ha)).run pins s σ H Q J (st q)⟩, ⟨fun pins s σ H Q J q => (pt_cmp (pc_isN ha)).run pins s σ H Q J (st q)⟩⟩
  | true => exact ⟨⟨fun pins s σ H Q J q => (pe_cmp (pc_notN ha)).run pins s σ H Q J (st q)⟩, ⟨fun pins s σ H Q J q => (pt_cmp (pc_notN ha)).run pins s σ H Q J (st q)⟩⟩
theorem s_not (ha : PE X a (tE I fa Wx)) (ht : PT X a (tTest (tE I fa Wx))) :
    PE X (.UnaryOp .Not a pos) (tE I (fun σ h => (fa σ h).bind fun x h => boolK x fun k => .ok (.bl (!k)) h) Wx) ∧
    PT X (.UnaryOp .Not a pos) (tTest (tE I (fun σ h => (fa σ h).bind fun x h => boolK x fun k => .ok (.bl (!k)) h) Wx)) := by
  have st : ∀ {σ H Q}, tE I (fun σ h => (fa σ h).bind fun x h => boolK x fun k => .ok (.bl (!k)) h) Wx σ H Q → tE I fa Wx σ H (fun x H1 => ∃ c, x = .bl c ∧ Q (.bl (!c)) H1) := by
    intro σ H Q ⟨ι, h, σc, rs, rp, q⟩
    refine goV rs rp q fun ι1 H1 h1 w1 v1 e1 rs1 rp1 r1 q1 => ?_
    obtain ⟨k, rfl, rfl, q2⟩ := finK r1 q1
    exact ⟨k, rfl, fin q2 rp1 (.bl _)⟩
  refine ⟨⟨fun pins s σ H Q J q => (pe_not ha).run pins s σ H Q J (st q)⟩, ⟨fun pins s σ H Q J q => (pt_not ht).run pins s σ H Q J ?_⟩⟩
  obtain ⟨ι, h, σc, rs, rp, q⟩ := q
  show tE I fa Wx σ H (fun x H' => ∃ k, x = .bl k ∧ Q (!k) H')
  refine goV rs rp q fun ι1 H1 h1 w1 v1 e1 rs1 rp1 r1 q1 => ?_
  obtain ⟨k, rfl, rfl, q2⟩ := finK r1 q1
  obtain ⟨c, e, z⟩ := fin q2 rp1 (.bl _)
  cases e
  exact ⟨k, rfl, z⟩
theorem s_ite (hc : PT X c (tTest (tE I fc Wx))) (ha : PE X a (tE I fa Wx)) (hb : PE X b (tE I fb Wx)) :
    PE X (.IfExp c a b pos) (tE I (fun σ h => (fc σ h).bind fun x h => boolK x fun k => if k then fa σ h else fb σ h) Wx) := by
  refine ⟨fun pins s σ H Q J ⟨ι, h, σc, rs, rp, q⟩ => (pe_ifExp hc ha hb).run pins s σ H Q J ?_⟩
  show tE I fc Wx σ H (fun x H' => ∃ k, x = .bl k ∧ (if k = true then tE I fa Wx σ H' Q else tE I fb Wx σ H' Q))
  refine goV rs rp q fun ι1 H1 h1 w1 v1 e1 rs1 rp1 r1 q1 => ?_
  obtain ⟨k, rfl, rfl, q2⟩ := finK r1 q1
  refine ⟨k, rfl, ?_⟩
  cases k with
  | true => rw [if_pos rfl] at q2 ⊢; exact ⟨ι1, h1, σc, rs1, rp1, q2⟩
  | false => rw [if_neg Bool.false_ne_true] at q2 ⊢; exact ⟨ι1, h1, σc, rs1, rp1, q2⟩
theorem pt_ifExp {tc ta tb : TT} (hc : PT X c tc) (ha : PT X a ta) (hb : PT X b tb) : PT X (.IfExp c a b pos) (fun σ H Q => tc σ H fun k H1 => if k = true then ta σ H1 Q else tb σ H1 Q) := by
  refine ⟨fun pins s σ H Q J h => ?_⟩
  show wpAny _ _ (do if ← isTrue c X.env (eval c X.env) then isTrue a X.env (eval a X.env) else isTrue b X.env (eval b X.env)) _ _ _
  refine wpAny_bind (thn (hc.run pins s σ H _ J h) fun d s1 ⟨H1, J1, q1⟩ => ?_)
  cases d with
  | true => exact ha.run pins s1 σ H1 Q J1 q1
  | false => exact hb.run pins s1 σ H1 Q J1 q1
theorem s_iteT (hc : PT X c (tTest (tE I fc Wx))) (ha : PT X a (tTest (tE I fa Wx))) (hb : PT X b (tTest (tE I fb Wx))) :
    PT X (.IfExp c a b pos) (tTest (tE I (fun σ h => (fc σ h).bind fun x h => boolK x fun k => if k then fa σ h else fb σ h) Wx)) := by
  refine ⟨fun pins s σ H Q J ⟨ι, h, σc, rs, rp, q⟩ => (pt_ifExp hc ha hb).run pins s σ H Q J ?_⟩
  show tE I fc Wx σ H (fun x H' => ∃ k, x = .bl k ∧ (if k = true then tTest (tE I fa Wx) σ H' Q else tTest (tE I fb Wx) σ H' Q))
  refine goV rs rp q fun ι1 H1 h1 w1 v1 e1 rs1 rp1 r1 q1 => ?_
  obtain ⟨k, rfl, rfl, q2⟩ := finK r1 q1
  refine ⟨k, rfl, ?_⟩
  cases k with
  | true => rw [if_pos rfl] at q2 ⊢; exact ⟨ι1, h1, σc, rs1, rp1, q2⟩
  | false => rw [if_neg Bool.false_ne_true] at q2 ⊢; exact ⟨ι1, h1, σc, rs1, rp1, q2⟩
end
end Z
namespace Z
open PySem PySem.Spec L2
theorem lim_sz {n : Nat} (h : n ≤ LIM) : n ≤ sizeLine := Nat.le_trans h (by decide)
theorem lim_lt {n : Nat} (h : n ≤ LIM) : n < sizeLine := Nat.lt_of_le_of_lt h (by decide)
/-- what the rules lean on at a place -/
structure Cs (B : Tb) (I : Inf) (X : Cx) : Prop where
  K : X.K = I.K
  calm : X.calm = true
  nd : X.N.Nodup
  hu : X.A.units + 65 < cLine
  fl : B.fl = I.fl
  fnd : I.fl.Nodup
  cls : ∀ c, I.isC c = true → Cls I.K (I.ca c) ∧ ∀ n ∈ I.fl, NoAttr I.K (I.ca c) n
  blt : ∀ n ∈ B.blt, X.mg n = none
section
variable {I : Inf} {ι : Pl} {H : Hp} {h : EH} {Wx : XK} {Q : VK}
theorem new_lst {m : Bool} {ws : List W} {vs : List V} (q : (newL m ws h).All (Pv I ι H Q) (Px I ι H Wx)) (rp : Rep I ι h H) (r : RWs I ι H ws vs) (l : ws.length ≤ LIM) : ∀ p, H p = none → Q (.ref p) (upd H p (.lst vs)) := by
  intro p hp
  cases m with
  | false =>
    have q : Pv I ι H Q (.lst ws) h := q
    exact q ι _ _ (Ext.side hp) (rp.side hp) (.lst upd_same (rp.new hp) (r.ext (Ext.side hp)) l)
  | true =>
    have q : Pv I ι H Q (.ref h.length) (h ++ [.lst ws]) := q
    refine q (ι.push p) _ _ (Ext.mine hp) (rp.mine hp ⟨vs, upd_same, r.ext (Ext.mine hp), l⟩) (.ref ?_)
    exact ι.push_at p rp.len.symm
theorem new_tup {ws : List W} {vs : List V} (q : (T.ok (W.tup ws) h).All (Pv I ι H Q) (Px I ι H Wx)) (rp : Rep I ι h H) (r : RWs I ι H ws vs) (l : ws.length ≤ LIM) : ∀ p, H p = none → Q (.ref p) (upd H p (.tup vs)) := by
  intro p hp
  have q : Pv I ι H Q (.tup ws) h := q
  exact q ι _ _ (Ext.side hp) (rp.side hp) (.tup upd_same (rp.new hp) (r.ext (Ext.side hp)) l)
end
section
variable {X : Cx} {I : Inf} {B : Tb} {Wx : XK} {a b c e o : Expr} {es : List Expr} {fa fb fc : Env → EH → T W} {fs gs : Env → EH → T (List W)} {pos p p2 : Pos} {σc : Env}
theorem goA {α : Type} {ι : Pl} {H : Hp} {h : EH} {σ : St} {f : Env → EH → T (List W)} {k : List W → EH → T α} {P : Pl → Hp → α → EH → Prop} (hP : ∀ {ι1 H1 a h}, Ext ι H ι1 H1 → P ι H a h → P ι1 H1 a h) (rs : RS I ι H σc σ) (rp : Rep I ι h H)
    (q : ((f σc h).bind k).All (P ι H) (Px I ι H Wx)) {R : List V → Hp → Prop}
    (c : ∀ ι1 H1 h1 ws vs, Ext ι H ι1 H1 → RS I ι1 H1 σc σ → Rep I ι1 h1 H1 → RWs I ι1 H1 ws vs → (k ws h1).All (P ι1 H1) (Px I ι1 H1 Wx) → R vs H1) : tA I f Wx σ H R := by
  refine ⟨ι, h, σc, rs, rp, (T.All.bind q).mono (fun w h1 q1 ι1 H1 v e rp1 rw1 => c ι1 H1 h1 w v e (rs.ext e) rp1 rw1 ?_) fun _ _ z => z⟩
  exact q1.mono (fun _ _ z => hP e z) fun _ _ z ι2 H2 e2 => z ι2 H2 (e.trans e2)
theorem goAv {ι : Pl} {H : Hp} {h : EH} {σ : St} {f : Env → EH → T (List W)} {k : List W → EH → T W} {Q : VK} (rs : RS I ι H σc σ) (rp : Rep I ι h H) (q : ((f σc h).bind k).All (Pv I ι H Q) (Px I ι H Wx)) {R : List V → Hp → Prop}
    (c : ∀ ι1 H1 h1 ws vs, Ext ι H ι1 H1 → RS I ι1 H1 σc σ → Rep I ι1 h1 H1 → RWs I ι1 H1 ws vs → (k ws h1).All (Pv I ι1 H1 Q) (Px I ι1 H1 Wx) → R vs H1) : tA I f Wx σ H R :=
  goA (P := fun ι H => Pv I ι H Q) (fun e z ι2 H2 v e2 => z ι2 H2 v (e.trans e2)) rs rp q c
theorem goAs {ι : Pl} {H : Hp} {h : EH} {σ : St} {f : Env → EH → T (List W)} {k : List W → EH → T (List W)} {Q : List V → Hp → Prop} (rs : RS I ι H σc σ) (rp : Rep I ι h H) (q : ((f σc h).bind k).All (Pvs I ι H Q) (Px I ι H Wx)) {R : List V → Hp → Prop}
    (c : ∀ ι1 H1 h1 ws vs, Ext ι H ι1 H1 → RS I ι1 H1 σc σ → Rep I ι1 h1 H1 → RWs I ι1 H1 ws vs → (k ws h1).All (Pvs I ι1 H1 Q) (Px I ι1 H1 Wx) → R vs H1) : tA I f Wx σ H R :=
  goA (P := fun ι H => Pvs I ι H Q) (fun e z ι2 H2 v e2 => z ι2 H2 v (e.trans e2)) rs rp q c
theorem starE (hp : plain e = true) : starEach (e :: es) X.env = (false, eval e X.env) :: starEach es X.env := by
  cases e <;> first | rfl | cases hp
theorem a_nil : PA X [] (tA I (fun _ h => .ok [] h) Wx) := ⟨fun pos pins s σ H Q J ⟨ι, h, σc, rs, rp, q⟩ => pa_nil.run pos pins s σ H Q J (q ι H [] Ext.refl rp .nil)⟩
theorem a_cons (hp : plain e = true) (ha : PE X e (tE I fa Wx)) (hr : PA X es (tA I fs Wx)) : PA X (e :: es) (tA I (fun σ h => (fa σ h).bind fun x h => (fs σ h).bind fun xs h => .ok (x :: xs) h) Wx) := by
  refine ⟨fun pos pins s σ H Q J ⟨ι, h, σc, rs, rp, q⟩ => (pa_cons ha hr (starE hp)).run pos pins s σ H Q J ?_⟩
  refine goE (P := fun ι H => Pvs I ι H Q) (fun e z ι2 H2 v e2 => z ι2 H2 v (e.trans e2)) rs rp q fun ι1 H1 h1 w1 v1 e1 rs1 rp1 r1 q1 => ?_
  refine goAs rs1 rp1 q1 fun ι2 H2 h2 ws vs e2 rs2 rp2 r2 q2 => ?_
  exact q2 ι2 H2 _ Ext.refl rp2 (.cons (r1.ext e2) r2)
theorem s_tup {x1 : Nat} (ha : PA X es (tA I fs Wx)) (hlen : ∀ σ h (P : List W → EH → Prop) E, (fs σ h).All P E → (fs σ h).All (fun ws h => P ws h ∧ ws.length ≤ LIM) E) :
    PE X (.Tuple es x1 pos) (tE I (fun σ h => (fs σ h).bind fun xs h => .ok (.tup xs) h) Wx) := by
  refine ⟨fun pins s σ H Q J ⟨ι, h, σc, rs, rp, q⟩ => (pe_tup ha).run pins s σ H Q J ?_⟩
  refine ⟨ι, h, σc, rs, rp, (hlen _ _ _ _ (T.All.bind q)).mono (fun ws h1 ⟨q1, l⟩ ι1 H1 vs e1 rp1 r1 => ?_) fun _ _ z => z⟩
  have q2 := later q1 e1
  exact ⟨by rw [← r1.length]; exact lim_sz l, new_tup q2 rp1 r1 l⟩
theorem s_lst {m : Bool} (ha : PA X es (tA I fs Wx)) (hlen : ∀ σ h (P : List W → EH → Prop) E, (fs σ h).All P E → (fs σ h).All (fun ws h => P ws h ∧ ws.length ≤ LIM) E) :
    PE X (.List es pos) (tE I (fun σ h => (fs σ h).bind fun xs h => newL m xs h) Wx) := by
  refine ⟨fun pins s σ H Q J ⟨ι, h, σc, rs, rp, q⟩ => (pe_lst ha).run pins s σ H Q J ?_⟩
  refine ⟨ι, h, σc, rs, rp, (hlen _ _ _ _ (T.All.bind q)).mono (fun ws h1 ⟨q1, l⟩ ι1 H1 vs e1 rp1 r1 => ?_) fun _ _ z => z⟩
  have q2 := later q1 e1
  exact ⟨by rw [← r1.length]; exact lim_sz l, new_lst q2 rp1 r1 l⟩
theorem s_dic : PE X (.Dict [] [] pos) (tE I (fun _ h => .ok (.ref h.length) (h ++ [.dic []])) Wx) := by
  refine ⟨fun pins s σ H Q J ⟨ι, h, σc, rs, rp, q⟩ => pe_dnewK.run pins s σ H Q J fun p hp => ?_⟩
  refine q (ι.push p) _ _ (Ext.mine hp) (rp.mine hp ⟨[], upd_same, .nil, Nat.zero_le _, List.nodup_nil⟩) (.ref ?_)
  exact ι.push_at p rp.len.symm
theorem ixW_at {ι : Pl} {H : Hp} {ws : List W} {vs : List V} (r : RWs I ι H ws vs) {i : Int} {w : W} (e : ixW ws i = some w) : ∃ v, atI vs i = some v ∧ RW I ι H w v := by
  unfold ixW at e
  split at e
  · rename_i j hj
    obtain ⟨v, h1, h2⟩ := r.get e
    refine ⟨v, ?_, h2⟩
    unfold atI
    have : L2.ixN vs.length i = some j := by rw [← r.length]; exact hj
    rw [this]
    exact h1
  · cases e
theorem s_ix (C : Cs B I X) (hp : plain b = true) (ha : PE X a (tE I fa Wx)) (hb : PE X b (tE I fb Wx)) :
    PE X (.Subscript a b pos) (tE I (fun σ h => (fa σ h).bind fun x h => (fb σ h).bind fun y h => match seqOf h x, y with | some xs, .int k => ofO (ixW xs k) h | _, _ => .fail) Wx) := by
  have hs : PlainIx b := fun o i => by cases b <;> first | rfl | cases hp
  refine ⟨fun pins s σ H Q J ⟨ι, h, σc, rs, rp, q⟩ => (pe_ix ix_seq ha hb hs).run pins s σ H Q J ?_⟩
  refine goV rs rp q fun ι1 H1 h1 w1 v1 e1 rs1 rp1 r1 q1 => ?_
  refine goV rs1 rp1 q1 fun ι2 H2 h2 w2 v2 e2 rs2 rp2 r2 q2 => ?_
  split at q2
  · rename_i xs k hx
    cases r2
    obtain ⟨p, vs, rfl, hq, rr, l⟩ := rp2.seq (r1.ext e2) hx
    obtain ⟨w, ew, kq⟩ := finO q2 rp2
    obtain ⟨v, hv, rv⟩ := ixW_at rr ew
    rcases hq with hq | hq
    · exact .inl ⟨p, vs, k, v, rfl, rfl, by rw [C.K]; exact hq, hv, kq v rv⟩
    · exact .inr (.inl ⟨p, vs, k, v, rfl, rfl, by rw [C.K]; exact hq, hv, kq v rv⟩)
  · exact q2.elim
theorem s_dix (C : Cs B I X) (hp : plain b = true) (ha : PE X a (tE I fa Wx)) (hb : PE X b (tE I fb Wx)) :
    PE X (.Subscript a b pos) (tE I (fun σ h => (fa σ h).bind fun x h => (fb σ h).bind fun y h => match dicOf h x with | some kvs => if isKey y then ofO (dget kvs y) h else .fail | none => .fail) Wx) := by
  have hs : NoSl b := fun o i => by cases b <;> first | rfl | cases hp
  have hu : X.A.units + 1 < cLine := by have := C.hu; omega
  refine ⟨fun pins s σ H Q J ⟨ι, h, σc, rs, rp, q⟩ => (pe_dget hu ha hb hs).run pins s σ H Q J ?_⟩
  refine goV rs rp q fun ι1 H1 h1 w1 v1 e1 rs1 rp1 r1 q1 => ?_
  refine goV rs1 rp1 q1 fun ι2 H2 h2 w2 v2 e2 rs2 rp2 r2 q2 => ?_
  split at q2
  · rename_i kvs hx
    obtain ⟨p, ls, rfl, hq, rr, l⟩ := rp2.dic (r1.ext e2) hx
    split at q2
    · rename_i hk
      obtain ⟨y, rfl, rk⟩ := isKey_kV r2 hk
      obtain ⟨w, ew, kq⟩ := finO q2 rp2
      rcases RKV.get rk rr with ⟨z, _⟩ | ⟨w', v, z1, z2, z3⟩
      · rw [z] at ew; cases ew
      · rw [z1] at ew; cases ew
        exact ⟨p, v, rfl, .inl ⟨ls, y, hq, rfl, z2.symm⟩, kq v z3⟩
    · exact q2.elim
  · exact q2.elim
theorem o_none : PO X none (tOo I (fun _ h => .ok none h) Wx) := ⟨fun pins s σ H Q J ⟨ι, h, σc, rs, rp, q⟩ => po_none.run pins s σ H Q J (q ι H Ext.refl rp)⟩
theorem o_some (ha : PE X a (tE I fa Wx)) : PO X (some a) (tOo I (fun σ h => (fa σ h).bind fun x h => match x with | .int i => .ok (some i) h | _ => .fail) Wx) := by
  refine ⟨fun pins s σ H Q J ⟨ι, h, σc, rs, rp, q⟩ => (po_some ha).run pins s σ H Q J ?_⟩
  refine goE (P := fun ι H => Po I ι H Q) (fun e z ι2 H2 e2 => z ι2 H2 (e.trans e2)) rs rp q fun ι1 H1 h1 w1 v1 e1 rs1 rp1 r1 q1 => ?_
  cases r1 <;> first | exact q1.elim | skip
  exact ⟨_, rfl, q1 ι1 H1 Ext.refl rp1⟩
theorem cut_eq {ι : Pl} {H : Hp} {ws : List W} {vs : List V} (r : RWs I ι H ws vs) (lo hi : Option Int) : RWs I ι H (cutW ws lo hi) (cutV vs lo hi) := by
  have e : ∀ d o, sIx ws.length d o = HT.sIx vs.length d o := fun d o => by
    rw [r.length]
    cases o <;> rfl
  unfold cutW cutV
  rw [e 0 lo, e ws.length hi, r.length]
  exact (r.drop _).take _
theorem cutW_len (ws : List W) (lo hi : Option Int) : (cutW ws lo hi).length ≤ ws.length := by
  unfold cutW
  rw [List.length_take, List.length_drop]
  omega
theorem goO {ι : Pl} {H : Hp} {h : EH} {σ : St} {f : Env → EH → T (Option Int)} {k : Option Int → EH → T W} {Q : VK} (rs : RS I ι H σc σ) (rp : Rep I ι h H) (q : ((f σc h).bind k).All (Pv I ι H Q) (Px I ι H Wx)) {R : Option Int → Hp → Prop}
    (c : ∀ ι1 H1 h1 o, Ext ι H ι1 H1 → RS I ι1 H1 σc σ → Rep I ι1 h1 H1 → (k o h1).All (Pv I ι1 H1 Q) (Px I ι1 H1 Wx) → R o H1) : tOo I f Wx σ H R := by
  refine ⟨ι, h, σc, rs, rp, (T.All.bind q).mono (fun w h1 q1 ι1 H1 e rp1 => c ι1 H1 h1 w e (rs.ext e) rp1 (later q1 e)) fun _ _ z => z⟩
theorem s_slL (C : Cs B I X) {m : Bool} {lo hi : Option Expr} {fl fu : Env → EH → T (Option Int)} (ha : PE X a (tE I fa Wx)) (hl : PO X lo (tOo I fl Wx)) (hh : PO X hi (tOo I fu Wx)) :
    PE X (.Subscript a (.Slice lo hi none p2) pos) (tE I (fun σ h => (fa σ h).bind fun x h => (fl σ h).bind fun l h => (fu σ h).bind fun u h => match lsqOf h x with
      | some xs => newL m (cutW xs l u) h
      | none => .fail) Wx) := by
  refine ⟨fun pins s σ H Q J ⟨ι, h, σc, rs, rp, q⟩ => (pe_slice sl_list ha hl hh).run pins s σ H Q J ?_⟩
  refine goV rs rp q fun ι1 H1 h1 w1 v1 e1 rs1 rp1 r1 q1 => ?_
  refine goO rs1 rp1 q1 fun ι2 H2 h2 l e2 rs2 rp2 q2 => ?_
  refine goO rs2 rp2 q2 fun ι3 H3 h3 u e3 rs3 rp3 q3 => ?_
  split at q3
  · rename_i xs hx
    obtain ⟨p, vs, rfl, hq, rr, ll⟩ := rp3.lsq ((r1.ext e2).ext e3) hx
    exact ⟨p, vs, rfl, by rw [C.K]; exact hq, new_lst q3 rp3 (cut_eq rr l u) (Nat.le_trans (cutW_len ..) ll)⟩
  · exact q3.elim
theorem s_slT (C : Cs B I X) {lo hi : Option Expr} {fl fu : Env → EH → T (Option Int)} (ha : PE X a (tE I fa Wx)) (hl : PO X lo (tOo I fl Wx)) (hh : PO X hi (tOo I fu Wx)) :
    PE X (.Subscript a (.Slice lo hi none p2) pos) (tE I (fun σ h => (fa σ h).bind fun x h => (fl σ h).bind fun l h => (fu σ h).bind fun u h => match x with
      | .tup xs => .ok (.tup (cutW xs l u)) h
      | _ => .fail) Wx) := by
  refine ⟨fun pins s σ H Q J ⟨ι, h, σc, rs, rp, q⟩ => (pe_slice sl_tupA ha hl hh).run pins s σ H Q J ?_⟩
  refine goV rs rp q fun ι1 H1 h1 w1 v1 e1 rs1 rp1 r1 q1 => ?_
  refine goO rs1 rp1 q1 fun ι2 H2 h2 l e2 rs2 rp2 q2 => ?_
  refine goO rs2 rp2 q2 fun ι3 H3 h3 u e3 rs3 rp3 q3 => ?_
  have r3 := (r1.ext e2).ext e3
  cases r3 <;> first | exact q3.elim | skip
  rename_i pp ws vs hp hn rr ll
  refine ⟨pp, vs, rfl, .inl (.inl hp), fun ⟨z1, z2⟩ => ?_, fun _ => new_tup q3 rp3 (cut_eq rr l u) (Nat.le_trans (cutW_len ..) ll)⟩
  refine fin q3 rp3 ?_
  have e0 : cutW ws l u = ws := by
    unfold cutW
    have e : ∀ d o, sIx ws.length d o = HT.sIx vs.length d o := fun d o => by
      rw [rr.length]
      cases o <;> rfl
    rw [e 0 l, e ws.length u, rr.length, z1, z2, Nat.sub_zero, List.drop_zero, ← rr.length, List.take_length]
  rw [e0]
  exact .tup hp hn rr ll
theorem baseE (hp : plainB a = true) (n : Str) : attributeBase a n X.env (eval a X.env) = eval a X.env := by
  cases a with
  | Name _ _ => rfl
  | Subscript _ _ _ => rfl
  | Attribute _ _ _ => rfl
  | Call f as ks ps =>
    cases f with
    | Attribute _ _ _ => rfl
    | Name _ _ => cases as with
      | nil => cases hp
      | cons _ _ => rfl
    | _ => cases hp
  | _ => cases hp
theorem s_fld (C : Cs B I X) {f : Nat} {n : Str} (hn : I.fl[f]? = some n) (hp : plainB a = true) (ha : PE X a (tE I fa Wx)) :
    PE X (.Attribute a n pos) (tE I (fun σ h => (fa σ h).bind fun x h => match insOf h x with | some (_, fs) => ofO (look fs f) h | none => .fail) Wx) := by
  refine ⟨fun pins s σ H Q J ⟨ι, h, σc, rs, rp, q⟩ => (pe_fld ha (baseE hp n)).run pins s σ H Q J ?_⟩
  refine goV rs rp q fun ι1 H1 h1 w1 v1 e1 rs1 rp1 r1 q1 => ?_
  split at q1
  · rename_i c fs hx
    obtain ⟨m, p, dx, ls, rfl, hm, rfl, hH, rf, hl, hc, hh⟩ := rp1.ins r1 hx
    obtain ⟨w, ew, kq⟩ := finO q1 rp1
    obtain ⟨v, hv, rv⟩ := RF.look C.fnd hn rf ew
    obtain ⟨k1, k2⟩ := C.cls c hc
    exact ⟨p, _, dx, ls, v, rfl, hH, by rw [C.K]; exact k1, by rw [C.K]; exact k2 n (List.mem_of_getElem? hn), hv, kq v rv⟩
  · exact q1.elim

theorem beq_dec {α : Type} [DecidableEq α] [BEq α] [LawfulBEq α] (i j : α) : (j == i) = decide (i = j) := by
  by_cases h : i = j
  · subst h; simp
  · rw [decide_eq_false h]; exact beq_eq_false_iff_ne.mpr fun z => h z.symm
theorem eqS_flat {ι : Pl} {H : Hp} {w x : W} {v u : V} {k : Bool} (hs : isSc w = true) (r : RW I ι H w v) (q : RW I ι H x u) (hk : eqS w x = some k) : flatV u = true ∧ eqV u v = k := by
  cases r <;> first | (cases hs; done) | skip
  all_goals cases q
  all_goals simp only [eqS, Option.some.injEq, reduceCtorEq] at hk
  all_goals subst hk
  all_goals first | exact ⟨rfl, rfl⟩ | exact ⟨rfl, beq_dec _ _⟩
theorem mapO_in {ι : Pl} {H : Hp} {w : W} {v : V} (hs : isSc w = true) (r : RW I ι H w v) : ∀ {ws : List W} {vs : List V} {ks : List Bool}, RWs I ι H ws vs → mapO (eqS w) ws = some ks → vs.all flatV = true ∧ inV v vs = ks.any id
  | [], _, _, .nil, e => by
    simp only [mapO, Option.some.injEq] at e
    subst e
    exact ⟨rfl, rfl⟩
  | x :: ws, _, _, .cons (v := u) (vs := us) q qs, e => by
    simp only [mapO] at e
    split at e
    · cases e
    · rename_i k hk
      split at e
      · cases e
      · rename_i ks hks
        cases e
        obtain ⟨h1, h2⟩ := mapO_in hs r qs hks
        have h3 : flatV u = true ∧ eqV u v = k := eqS_flat hs r q hk
        refine ⟨by rw [List.all_cons, h3.1, h1]; rfl, ?_⟩
        show (eqV u v || inV v us) = (k || ks.any id)
        rw [h3.2, h2]
theorem sc_flat {ι : Pl} {H : Hp} {w : W} {v : V} (hs : isSc w = true) (r : RW I ι H w v) : flatV v = true := by
  cases r <;> simp [isSc] at hs <;> rfl
theorem noB {op : CmpOp} (hp : plain b = true) : behindInMarks op b = false := by
  cases b <;> first | rfl | cases hp
theorem s_inS (C : Cs B I X) {n : Bool} (hp : plain b = true) (ha : PE X a (tE I fa Wx)) (hb : PE X b (tE I fb Wx)) :
    PE X (.Compare a [if n then .NotIn else .In] [b] pos) (tE I (fun σ h => (fa σ h).bind fun x h => (fb σ h).bind fun y h => match seqOf h y with
      | some xs => if isSc x then ofO ((mapO (eqS x) xs).map fun ks => W.bl (if n then !ks.any id else ks.any id)) h else .fail
      | none => .fail) Wx) ∧
    PT X (.Compare a [if n then .NotIn else .In] [b] pos) (tTest (tE I (fun σ h => (fa σ h).bind fun x h => (fb σ h).bind fun y h => match seqOf h y with
      | some xs => if isSc x then ofO ((mapO (eqS x) xs).map fun ks => W.bl (if n then !ks.any id else ks.any id)) h else .fail
      | none => .fail) Wx)) := by
  have ho : OpR X (compareOp (if n then .NotIn else .In)) (rIn X.K n) := by
    cases n with
    | false => exact op_in_seq
    | true => exact op_notIn_seq
  refine s_cm ho ha hb (noB hp) fun ι h H Q w1 w2 v1 v2 rp r1 r2 q => ?_
  split at q
  · rename_i xs hx
    split at q
    · rename_i hs
      obtain ⟨p, vs, rfl, hq, rr, l⟩ := rp.seq r2 hx
      obtain ⟨w, ew, kq⟩ := finO q rp
      cases hm : mapO (eqS w1) xs with
      | none => rw [hm] at ew; cases ew
      | some ks =>
        rw [hm] at ew
        cases ew
        obtain ⟨h1, h2⟩ := mapO_in hs r1 rr hm
        refine ⟨p, vs, rfl, by rw [C.K]; exact hq, sc_flat hs r1, h1, kq _ ?_⟩
        rw [h2]
        exact .bl _
    · exact q.elim
  · exact q.elim
theorem s_inD (C : Cs B I X) {n : Bool} (hp : plain b = true) (ha : PE X a (tE I fa Wx)) (hb : PE X b (tE I fb Wx)) :
    PE X (.Compare a [if n then .NotIn else .In] [b] pos) (tE I (fun σ h => (fa σ h).bind fun x h => (fb σ h).bind fun y h => match dicOf h y with
      | some kvs => if isKey x then .ok (.bl (if n then (dget kvs x).isNone else (dget kvs x).isSome)) h else .fail
      | none => .fail) Wx) ∧
    PT X (.Compare a [if n then .NotIn else .In] [b] pos) (tTest (tE I (fun σ h => (fa σ h).bind fun x h => (fb σ h).bind fun y h => match dicOf h y with
      | some kvs => if isKey x then .ok (.bl (if n then (dget kvs x).isNone else (dget kvs x).isSome)) h else .fail
      | none => .fail) Wx)) := by
  have hu : X.A.units + 1 < cLine := by have := C.hu; omega
  have st : ∀ {σ H Q}, tE I (fun σ h => (fa σ h).bind fun x h => (fb σ h).bind fun y h => match dicOf h y with
      | some kvs => if isKey x then .ok (.bl (if n then (dget kvs x).isNone else (dget kvs x).isSome)) h else .fail
      | none => .fail) Wx σ H Q → tE I fa Wx σ H fun y H1 => tE I fb Wx σ H1 fun x H2 => ∃ a o, x = .ref a ∧ DGet H2 a y o ∧ Q (.bl (if n then !o.isSome else o.isSome)) H2 := by
    intro σ H Q ⟨ι, h, σc, rs, rp, q⟩
    refine goV rs rp q fun ι1 H1 h1 w1 v1 e1 rs1 rp1 r1 q1 => ?_
    refine goV rs1 rp1 q1 fun ι2 H2 h2 w2 v2 e2 rs2 rp2 r2 q2 => ?_
    split at q2
    · rename_i kvs hx
      obtain ⟨p, ls, rfl, hq, rr, l⟩ := rp2.dic r2 hx
      split at q2
      · rename_i hk
        obtain ⟨y, rfl, rk⟩ := isKey_kV (r1.ext e2) hk
        refine ⟨p, valV ls y, rfl, .inl ⟨ls, y, hq, rfl, rfl⟩, ?_⟩
        rcases RKV.get rk rr with ⟨z1, z2⟩ | ⟨w', v, z1, z2, z3⟩
        · rw [z1] at q2
          rw [z2]
          have q3 := fin q2 rp2 (.bl _)
          cases n <;> exact q3
        · rw [z1] at q2
          rw [z2]
          have q3 := fin q2 rp2 (.bl _)
          cases n <;> exact q3
      · exact q2.elim
    · exact q2.elim
  cases n with
  | false => exact ⟨⟨fun pins s σ H Q J q => (pe_cmp (pc_din hu ha hb) (noB hp)).run pins s σ H Q J (st q)⟩, ⟨fun pins s σ H Q J q => (pt_cmp (pc_din hu ha hb) (noB hp)).run pins s σ H Q J (st q)⟩⟩
  | true => exact ⟨⟨fun pins s σ H Q J q => (pe_cmp (pc_dnotin hu ha hb) (noB hp)).run pins s σ H Q J (st q)⟩, ⟨fun pins s σ H Q J q => (pt_cmp (pc_dnotin hu ha hb) (noB hp)).run pins s σ H Q J (st q)⟩⟩
theorem s_catL {m : Bool} (ha : PE X a (tE I fa Wx)) (hb : PE X b (tE I fb Wx)) :
    PE X (.BinOp a .Add b pos) (tE I (fun σ h => (fa σ h).bind fun x h => (fb σ h).bind fun y h => match lstOf h x, lstOf h y with
      | some xs, some ys => if xs.length + ys.length ≤ LIM then newL m (xs ++ ys) h else .fail
      | _, _ => .fail) Wx) :=
  s_op op_cat ha hb fun ι h H Q w1 w2 v1 v2 rp r1 r2 q => by
    split at q
    · rename_i xs ys hx hy
      obtain ⟨p1, vs1, rfl, g1, rr1, l1⟩ := rp.lst r1 hx
      obtain ⟨p2, vs2, rfl, g2, rr2, l2⟩ := rp.lst r2 hy
      split at q
      · rename_i hl
        exact ⟨p1, p2, vs1, vs2, rfl, rfl, g1, g2, by rw [← rr1.length, ← rr2.length]; exact lim_sz hl, new_lst q rp (rr1.append rr2) (by rw [List.length_append]; exact hl)⟩
      · exact q.elim
    · exact q.elim
theorem s_catT (C : Cs B I X) (ha : PE X a (tE I fa Wx)) (hb : PE X b (tE I fb Wx)) :
    PE X (.BinOp a .Add b pos) (tE I (fun σ h => (fa σ h).bind fun x h => (fb σ h).bind fun y h => match x, y with
      | .tup xs, .tup ys => if xs.length + ys.length ≤ LIM then .ok (.tup (xs ++ ys)) h else .fail
      | _, _ => .fail) Wx) :=
  s_op op_catA ha hb fun ι h H Q w1 w2 v1 v2 rp r1 r2 q => by
    cases r1 <;> first | exact q.elim | skip
    cases r2 <;> first | exact q.elim | skip
    rename_i p1 ws1 vs1 g1 n1 rr1 l1 p2 ws2 vs2 g2 n2 rr2 l2
    simp only at q
    split at q
    · rename_i hl
      refine ⟨p1, p2, vs1, vs2, rfl, rfl, .inl (.inl g1), .inl (.inl g2), by rw [← rr1.length, ← rr2.length]; exact lim_sz hl, fun z => ?_, fun _ z => ?_, fun _ _ => new_tup q rp (rr1.append rr2) (by rw [List.length_append]; exact hl)⟩
      · subst z
        cases rr1
        exact fin q rp (.tup g2 n2 rr2 l2)
      · subst z
        cases rr2
        refine fin q rp ?_
        rw [List.append_nil]
        exact .tup g1 n1 rr1 l1
    · exact q.elim
theorem s_rep {m : Bool} (ha : PE X a (tE I fa Wx)) (hb : PE X b (tE I fb Wx)) :
    PE X (.BinOp a .Mult b pos) (tE I (fun σ h => (fa σ h).bind fun x h => (fb σ h).bind fun y h => match lstOf h x, y with
      | some xs, .int k => if xs.length * k.toNat ≤ LIM ∧ k < 1000000 ∧ -1000000 < k then newL m (List.replicate k.toNat xs).flatten h else .fail
      | _, _ => .fail) Wx) :=
  s_op op_rep ha hb fun ι h H Q w1 w2 v1 v2 rp r1 r2 q => by
    split at q
    · rename_i xs k hx
      cases r2
      obtain ⟨p1, vs1, rfl, g1, rr1, l1⟩ := rp.lst r1 hx
      split at q
      · rename_i hl
        refine ⟨p1, k, vs1, rfl, rfl, g1, by omega, by omega, by rw [← rr1.length]; exact lim_sz hl.1, new_lst q rp (rr1.rep _) ?_⟩
        rw [List.length_flatten, List.map_replicate, List.sum_replicate_nat, Nat.mul_comm]
        exact hl.1
      · exact q.elim
    · exact q.elim
/-! ### built-ins -/
theorem gl_of {n : Str} (h : glb X.env.scope n = true) : Gl X n := by
  unfold glb at h
  show X.env.scope.names.lookup n = some .globalImplicit
  split at h
  · assumption
  · cases h
theorem s_b1 {x : Str} {r : List V → Hp → VK → Prop} {g : W → EH → T W} (hp : plain a = true) (ha : PE X a (tE I fa Wx)) (hcall : ∀ {t}, PA X [a] t → PE X (.Call (.Name x p) [a] [] pos) (tCB r t))
    (hk : ∀ ι h H Q w v, Rep I ι h H → RW I ι H w v → (g w h).All (Pv I ι H Q) (Px I ι H Wx) → r [v] H Q) : PE X (.Call (.Name x p) [a] [] pos) (tE I (fun σ h => (fa σ h).bind fun x h => g x h) Wx) := by
  refine ⟨fun pins s σ H Q J ⟨ι, h, σc, rs, rp, q⟩ => (hcall (a_cons hp ha a_nil)).run pins s σ H Q J ?_⟩
  refine ⟨ι, h, σc, rs, rp, T.All.of_bind ((T.All.bind q).mono (fun w h1 q1 => ?_) fun _ _ z => z)⟩
  intro ι1 H1 vs e1 rp1 r1
  cases r1 with
  | cons r2 rr =>
    cases rr
    exact hk ι1 h1 H1 Q w _ rp1 r2 (later q1 e1)
theorem s_b2 {x : Str} {r : List V → Hp → VK → Prop} {g : W → W → EH → T W} (hp : plain a = true) (hp2 : plain b = true) (ha : PE X a (tE I fa Wx)) (hb : PE X b (tE I fb Wx)) (hcall : ∀ {t}, PA X [a, b] t → PE X (.Call (.Name x p) [a, b] [] pos) (tCB r t))
    (hk : ∀ ι h H Q w v w2 v2, Rep I ι h H → RW I ι H w v → RW I ι H w2 v2 → (g w w2 h).All (Pv I ι H Q) (Px I ι H Wx) → r [v, v2] H Q) : PE X (.Call (.Name x p) [a, b] [] pos) (tE I (fun σ h => (fa σ h).bind fun x h => (fb σ h).bind fun y h => g x y h) Wx) := by
  refine ⟨fun pins s σ H Q J ⟨ι, h, σc, rs, rp, q⟩ => (hcall (a_cons hp ha (a_cons hp2 hb a_nil))).run pins s σ H Q J ?_⟩
  refine ⟨ι, h, σc, rs, rp, T.All.of_bind ((T.All.bind q).mono (fun w h1 q1 => T.All.of_bind (T.All.of_bind ((T.All.bind q1).mono (fun w2 h2 q2 => ?_) fun _ _ z => z))) fun _ _ z => z)⟩
  intro ι1 H1 vs e1 rp1 r1
  cases r1 with
  | cons r2 rr =>
    cases rr with
    | cons r3 rr =>
      cases rr
      exact hk ι1 h2 H1 Q w _ w2 _ rp1 r2 r3 (later q2 e1)
theorem plE (hp : plain b = true) : (backTo pos (starEach [b] X.env)).any (·.1) = false := by
  rw [starE hp]
  rfl
structure Bn (B : Tb) (X : Cx) (n x : Str) : Prop where
  eq : x = n
  gl : Gl X n
  no : X.mg n = none
theorem bn_of (C : Cs B I X) {n x : Str} (h : isB B X.env.scope n x = true) : Bn B X n x := by
  simp only [isB, Bool.and_eq_true, decide_eq_true_eq] at h
  exact ⟨h.1.1, gl_of h.1.2, C.blt n (by simpa using h.2)⟩
theorem boot_max' : bootBuiltins "max" = some (.builtin "max") := by decide +kernel
theorem boot_min' : bootBuiltins "min" = some (.builtin "min") := by decide +kernel
theorem boot_abs' : bootBuiltins "abs" = some (.builtin "abs") := by decide +kernel
theorem boot_int' : bootBuiltins "int" = some (.type "int") := by decide +kernel
theorem boot_list' : bootBuiltins "list" = some (.type "list") := by decide +kernel
theorem boot_tuple' : bootBuiltins "tuple" = some (.type "tuple") := by decide +kernel
theorem boot_len' : bootBuiltins "len" = some (.builtin "len") := by decide +kernel
theorem s_len (C : Cs B I X) {x : Str} (hn : isB B X.env.scope "len" x = true) (hp : plain a = true) (ha : PE X a (tE I fa Wx)) : PE X (.Call (.Name x p) [a] [] pos) (tE I (fun σ h => (fa σ h).bind fun x h => match seqOf h x with
    | some xs => .ok (.int (xs.length : Int)) h
    | none => .fail) Wx) := by
  obtain ⟨rfl, g, n⟩ := bn_of C hn
  refine s_b1 hp ha (fun t => pe_callB call_len_seq g n boot_len' t (he := starE hp) (hpl := rfl)) fun ι h H Q w v rp r q => ?_
  split at q
  · rename_i xs hx
    obtain ⟨p, vs, rfl, hq, rr, l⟩ := rp.seq r hx
    refine ⟨p, vs, rfl, by rw [C.K]; exact hq, ?_⟩
    rw [← rr.length]
    exact fin q rp (.int _)
  · exact q.elim
theorem RKV.len {ι : Pl} {H : Hp} {ks : List (W × W)} {ls : List (Key × V)} (r : RKV I ι H ks ls) : ks.length = ls.length := Paired.length r
theorem call_lenR : CallR X (.builtin "len") (fun xs H Q => ∃ a kvs, xs = [V.ref a] ∧ Rd H a (.dK kvs) ∧ Q (.int kvs.length) H) := by
  intro pins s σ H xs us Q I r h
  obtain ⟨a, kvs, rfl, ha, q⟩ := h
  cases r with
  | cons ru rr =>
    cases rr
    cases ru
    exact d_len I (ha.imp id id) fun t s' I' => ⟨.int kvs.length, H, I', ⟨t, rfl⟩, q⟩
end
end Z
namespace Z
open PySem PySem.Spec L2
section
variable {X : Cx} {I : Inf} {B : Tb} {Wx : XK} {a b c e o : Expr} {es : List Expr} {fa fb fc : Env → EH → T W} {fs gs : Env → EH → T (List W)} {pos p p2 : Pos} {σc : Env}
theorem s_lenD (C : Cs B I X) {x : Str} (hn : isB B X.env.scope "len" x = true) (hp : plain a = true) (ha : PE X a (tE I fa Wx)) : PE X (.Call (.Name x p) [a] [] pos) (tE I (fun σ h => (fa σ h).bind fun x h => match dicOf h x with
    | some kvs => .ok (.int (kvs.length : Int)) h
    | none => .fail) Wx) := by
  obtain ⟨rfl, g, n⟩ := bn_of C hn
  refine s_b1 hp ha (fun t => pe_callB call_lenR g n boot_len' t (he := starE hp) (hpl := rfl)) fun ι h H Q w v rp r q => ?_
  split at q
  · rename_i xs hx
    obtain ⟨p, vs, rfl, hq, rr, l⟩ := rp.dic r hx
    refine ⟨p, vs, rfl, hq, ?_⟩
    rw [← RKV.len rr]
    exact fin q rp (.int _)
  · exact q.elim
theorem s_max2 (C : Cs B I X) {x : Str} (hn : isB B X.env.scope "max" x = true) (hp : plain a = true) (hp2 : plain b = true) (ha : PE X a (tE I fa Wx)) (hb : PE X b (tE I fb Wx)) : PE X (.Call (.Name x p) [a, b] [] pos) (tE I (fun σ h => (fa σ h).bind fun x h => (fb σ h).bind fun y h => match x, y with
    | .int i, .int j => .ok (.int (if j > i then j else i)) h
    | _, _ => .fail) Wx) := by
  obtain ⟨rfl, g, n⟩ := bn_of C hn
  refine s_b2 hp hp2 ha hb (fun t => pe_callB (call_max2 C.calm) g n boot_max' t (he := starE hp) (hpl := plE hp2)) fun ι h H Q w v w2 v2 rp r r2 q => ?_
  cases r <;> cases r2 <;> first | exact q.elim | skip
  exact ⟨_, _, rfl, fin q rp (.int _)⟩
theorem s_min2 (C : Cs B I X) {x : Str} (hn : isB B X.env.scope "min" x = true) (hp : plain a = true) (hp2 : plain b = true) (ha : PE X a (tE I fa Wx)) (hb : PE X b (tE I fb Wx)) : PE X (.Call (.Name x p) [a, b] [] pos) (tE I (fun σ h => (fa σ h).bind fun x h => (fb σ h).bind fun y h => match x, y with
    | .int i, .int j => .ok (.int (if j < i then j else i)) h
    | _, _ => .fail) Wx) := by
  obtain ⟨rfl, g, n⟩ := bn_of C hn
  refine s_b2 hp hp2 ha hb (fun t => pe_callB (call_min2 C.calm) g n boot_min' t (he := starE hp) (hpl := plE hp2)) fun ι h H Q w v w2 v2 rp r r2 q => ?_
  cases r <;> cases r2 <;> first | exact q.elim | skip
  exact ⟨_, _, rfl, fin q rp (.int _)⟩
theorem s_abs (C : Cs B I X) {x : Str} (hn : isB B X.env.scope "abs" x = true) (hp : plain a = true) (ha : PE X a (tE I fa Wx)) : PE X (.Call (.Name x p) [a] [] pos) (tE I (fun σ h => (fa σ h).bind fun x h => match x with
    | .int i => .ok (.int (if i < 0 then -i else i)) h
    | _ => .fail) Wx) := by
  obtain ⟨rfl, g, n⟩ := bn_of C hn
  refine s_b1 hp ha (fun t => pe_callB call_abs g n boot_abs' t (he := starE hp) (hpl := rfl)) fun ι h H Q w v rp r q => ?_
  cases r <;> first | exact q.elim | skip
  exact ⟨_, rfl, fin q rp (.int _)⟩
theorem s_toInt (C : Cs B I X) {x : Str} (hn : isB B X.env.scope "int" x = true) (hp : plain a = true) (ha : PE X a (tE I fa Wx)) : PE X (.Call (.Name x p) [a] [] pos) (tE I (fun σ h => (fa σ h).bind fun x h => match x with
    | .int i => .ok (.int i) h
    | .bl b => .ok (.int (if b then 1 else 0)) h
    | _ => .fail) Wx) := by
  obtain ⟨rfl, g, n⟩ := bn_of C hn
  refine s_b1 hp ha (fun t => pe_callTy call_int1 g n boot_int' t (he := starE hp) (hpl := rfl)) fun ι h H Q w v rp r q => ?_
  cases r <;> first | exact q.elim | skip
  · exact .inr ⟨_, rfl, fin q rp (.int _)⟩
  · exact .inl ⟨_, rfl, fin q rp (.int _)⟩
theorem s_toTup (C : Cs B I X) {x : Str} (hn : isB B X.env.scope "tuple" x = true) (hp : plain a = true) (ha : PE X a (tE I fa Wx)) : PE X (.Call (.Name x p) [a] [] pos) (tE I (fun σ h => (fa σ h).bind fun x h => match seqOf h x with
    | some xs => .ok (.tup xs) h
    | none => .fail) Wx) := by
  obtain ⟨rfl, g, n⟩ := bn_of C hn
  refine s_b1 hp ha (fun t => pe_callTy call_tuple_of g n boot_tuple' t (he := starE hp) (hpl := rfl)) fun ι h H Q w v rp r q => ?_
  split at q
  · rename_i xs hx
    cases r with
    | tup hp hn rr ll =>
      simp only [seqOf, Option.some.injEq] at hx
      subst hx
      exact ⟨_, _, rfl, .inr ⟨.inl (.inl hp), fin q rp (.tup hp hn rr ll)⟩⟩
    | lst hp hn rr ll =>
      simp only [seqOf, Option.some.injEq] at hx
      subst hx
      exact ⟨_, _, rfl, .inl ⟨.inl (.inl hp), new_tup q rp rr ll⟩⟩
    | @ref m a em =>
      obtain ⟨p, vs, e, hq, rr, l⟩ := rp.lsq (.ref em) (show lsqOf h (.ref m) = some xs from hx)
      cases e
      exact ⟨_, vs, rfl, .inl ⟨by rw [C.K]; exact hq, new_tup q rp rr l⟩⟩
    | _ => cases hx
  · exact q.elim
theorem s_toLst (C : Cs B I X) {m : Bool} {x : Str} (hn : isB B X.env.scope "list" x = true) (hp : plain a = true) (ha : PE X a (tE I fa Wx)) : PE X (.Call (.Name x p) [a] [] pos) (tE I (fun σ h => (fa σ h).bind fun x h => match seqOf h x with
    | some xs => newL m xs h
    | none => .fail) Wx) := by
  obtain ⟨rfl, g, n⟩ := bn_of C hn
  refine s_b1 hp ha (fun t => pe_callTy call_list_of g n boot_list' t (he := starE hp) (hpl := rfl)) fun ι h H Q w v rp r q => ?_
  split at q
  · rename_i xs hx
    obtain ⟨p, vs, rfl, hq, rr, l⟩ := rp.seq r hx
    exact ⟨p, vs, rfl, by rw [C.K]; exact hq, new_lst q rp rr l⟩
  · exact q.elim

/-! ### calls -/
/-- what a def promises: what its evaluation tells -/
def spC (I : Inf) (C : CallH) (f n : Nat) : Sp := fun vs H Q E => ∃ ι h ws, Rep I ι h H ∧ RWs I ι H ws vs ∧ vs.length = n ∧ (C f ws h).All (Pv I ι H Q) (Px I ι H E)
/-- the defs at hand -/
structure Fs (B : Tb) (I : Inf) (C : CallH) (M : MTab) (ini : Nat → Nat) (lv : Nat) (fa : Nat → Addr) (fd : Nat → FuncData) (X : Cx) : Prop where
  room : Room (lv + 1) X.A
  no : ∀ f ws h, B.fn f = none → C f ws h = .fail
  ar : ∀ f i ws h P E, B.fn f = some i → (C f ws h).All P E → ws.length = i.ps.length
  ok : ∀ f i, B.fn f = some i → FnOk X.prog X.w X.K X.mg X.base (L2.CX X.prog X.w) lv (fa f) (fd f) i.ps (spC I C f i.ps.length)
  kp : ∀ f i, B.fn f = some i → PySem.W.keepIn X.K (.ref (fa f)) = true
  bd : ∀ f i, B.fn f = some i → Binds X.K (fd f) i.ps []
  gl : ∀ f i, B.fn f = some i → i.glob = true → X.mg i.x = some (.ref (fa f))
  cl : ∀ c x, B.cls c = some x → X.mg x = some (.ref (I.ca c)) ∧ I.isC c = true ∧ Mk X.K (I.ca c) (fa (ini c)) ∧ ∃ i, B.fn (ini c) = some i
  mt : ∀ c m f, I.isC c = true → M c m = some f → Meth X.K (I.ca c) (B.mth m) (fa f) ∧ ∃ i, B.fn f = some i
variable {C : CallH} {M : MTab} {ini : Nat → Nat} {lv : Nat} {fn : Nat → Addr} {fd : Nat → FuncData}
theorem okN_1 {x : Str} (h : okN x = true) : (x == ("__debug__" : Str)) = false := by
  unfold okN at h
  rw [Bool.and_eq_true] at h
  simpa using h.1
theorem okN_2 {x : Str} (h : okN x = true) : (x == ("__classdict__" : Str)) = false := by
  unfold okN at h
  rw [Bool.and_eq_true] at h
  simpa using h.2
theorem plEs {xs : List Expr} (hp : ∀ x ∈ xs, plain x = true) : (backTo pos (starEach xs X.env)).any (·.1) = false := by
  induction xs with
  | nil => rfl
  | cons y ys ih =>
    rw [starE (hp y (by simp))]
    show (false || (backTo pos (starEach ys X.env)).any (·.1)) = false
    rw [ih fun x hx => hp x (by simp [hx])]
    rfl
theorem some_of (F : Fs B I C M ini lv fn fd X) {f : Nat} {ws : List W} {h : EH} {P : W → EH → Prop} {E : Nat → EH → Prop} (q : (C f ws h).All P E) : ∃ i, B.fn f = some i := by
  cases hf : B.fn f with
  | none =>
    rw [F.no f ws h hf] at q
    exact q.elim
  | some i => exact ⟨i, rfl⟩
theorem s_call (F : Fs B I C M ini lv fn fd X) (tk : Takes X (fun c d _ H => Wx c d H)) {f : Nat} {i : FnI} (hf : B.fn f = some i) (hg : i.glob = true) (gx : glb X.env.scope i.x = true) (ox : okN i.x = true) {xs : List Expr} (hp : ∀ x ∈ xs, plain x = true) (ha : PA X xs (tA I fs Wx)) (hz : xs = [] → fs = fun _ h => .ok [] h) :
    PE X (.Call (.Name i.x p) xs [] pos) (tE I (fun σ h => (fs σ h).bind fun xs h => C f xs h) Wx) := by
  have hx : Passes (L2.CX X.prog X.w) X Wx := passes_call tk fun _ _ _ _ z => z
  have st : ∀ {σ H Q}, tE I (fun σ h => (fs σ h).bind fun xs h => C f xs h) Wx σ H Q → tCall (spC I C f i.ps.length) [] Wx (tA I fs Wx) σ H Q := by
    intro σ H Q ⟨ι, h, σc, rs, rp, q⟩
    refine goAv rs rp q fun ι1 H1 h1 ws vs e1 rs1 rp1 r1 q1 => ?_
    rw [List.append_nil]
    exact ⟨ι1, h1, ws, rp1, r1, by rw [← r1.length]; exact F.ar f i ws h1 _ _ hf q1, q1⟩
  cases xs with
  | nil =>
    refine ⟨fun pins s σ H Q J q => (pe_call0 (F.ok f i hf) (F.room.mono (Nat.le_succ _)) (gl_of gx) (F.gl f i hf hg) (F.kp f i hf) (F.bd f i hf) .nil hx (okN_1 ox)).run pins s σ H Q J ?_⟩
    obtain ⟨ι, h, σc, rs, rp, q⟩ := q
    rw [hz rfl] at q
    exact ⟨ι, h, [], rp, .nil, F.ar f i [] h _ _ hf q, q⟩
  | cons y ys =>
    exact ⟨fun pins s σ H Q J q => (pe_call (F.ok f i hf) (F.room.mono (Nat.le_succ _)) (gl_of gx) (F.gl f i hf hg) (F.kp f i hf) (F.bd f i hf) .nil hx ha (okN_1 ox) (starE (hp y (by simp))) (plEs fun x hx => hp x (by simp [hx]))).run pins s σ H Q J (st q)⟩

theorem s_make (F : Fs B I C M ini lv fn fd X) (tk : Takes X (fun c d _ H => Wx c d H)) {c : Nat} {x : Str} (hc : B.cls c = some x) (gx : glb X.env.scope x = true) (ox : okN x = true) {xs : List Expr} (hp : ∀ x ∈ xs, plain x = true) (ha : PA X xs (tA I fs Wx)) (hz : xs = [] → fs = fun _ h => .ok [] h) :
    PE X (.Call (.Name x p) xs [] pos) (tE I (fun σ h => (fs σ h).bind fun xs h => (C (ini c) (.ref h.length :: xs) (h ++ [.ins c []])).bind fun v h' => match v with
      | .non => .ok (.ref h.length) h'
      | _ => .fail) Wx) := by
  have hx : Passes (L2.CX X.prog X.w) X Wx := passes_call tk fun _ _ _ _ z => z
  obtain ⟨g1, g2, g3, i, hi⟩ := F.cl c x hc
  have key : ∀ {ι h H ws vs Q}, Rep I ι h H → RWs I ι H ws vs → ((C (ini c) (.ref h.length :: ws) (h ++ [.ins c []])).bind fun v h' => match v with | .non => (T.ok (W.ref h.length) h' : T W) | _ => .fail).All (Pv I ι H Q) (Px I ι H Wx) →
      ∀ x dx, H x = none → H dx = none → dx ≠ x → spC I C (ini c) i.ps.length (.ref x :: (vs ++ [])) (upd (upd H dx (.own x)) x (.ins (I.ca c) dx [])) (fun v H2 => v = .non ∧ Q (.ref x) H2) Wx := by
    intro ι h H ws vs Q rp r q x dx hx hdx hne
    have e1 : Ext ι H ι (upd H dx (.own x)) := Ext.side hdx
    have hx1 : upd H dx (.own x) x = none := by rw [upd_ne (Ne.symm hne)]; exact hx
    have e2 : Ext ι (upd H dx (.own x)) (ι.push x) (upd (upd H dx (.own x)) x (.ins (I.ca c) dx [])) := Ext.mine hx1
    have rp2 : Rep I (ι.push x) (h ++ [.ins c []]) (upd (upd H dx (.own x)) x (.ins (I.ca c) dx [])) := (rp.side hdx).mine hx1 ⟨dx, [], upd_same, .nil, Nat.zero_le _, g2⟩
    have hn : (ι.push x).own[h.length]? = some x := ι.push_at x rp.len.symm
    have q1 := T.All.bind q
    have rws : RWs I (ι.push x) (upd (upd H dx (.own x)) x (.ins (I.ca c) dx [])) (.ref h.length :: ws) (.ref x :: (vs ++ [])) := by
      rw [List.append_nil]
      exact .cons (.ref hn) ((r.ext e1).ext e2)
    refine ⟨ι.push x, _, _, rp2, rws, by rw [← rws.length]; exact F.ar _ i _ _ _ _ hi q1, q1.mono (fun w h' k => ?_) fun cc h' k ι' H' e => k ι' H' ((e1.trans e2).trans e)⟩
    intro ι3 H3 v e3 rp3 r3
    cases r3 <;> first | exact k.elim | skip
    exact ⟨rfl, k ι3 H3 _ ((e1.trans e2).trans e3) rp3 (.ref (e3.ix hn))⟩
  cases xs with
  | nil =>
    refine ⟨fun pins s σ H Q J q => (pe_make0 g3 (F.ok _ i hi) F.room (gl_of gx) g1 (F.bd _ i hi) .nil hx (okN_1 ox)).run pins s σ H Q J ?_⟩
    obtain ⟨ι, h, σc, rs, rp, q⟩ := q
    rw [hz rfl] at q
    exact key rp .nil q
  | cons y ys =>
    refine ⟨fun pins s σ H Q J ⟨ι, h, σc, rs, rp, q⟩ => (pe_make g3 (F.ok _ i hi) F.room (gl_of gx) g1 (F.bd _ i hi) .nil hx ha (okN_1 ox) (starE (hp y (by simp))) (plEs fun x hx => hp x (by simp [hx]))).run pins s σ H Q J ?_⟩
    exact goAv rs rp q fun ι1 H1 h1 ws vs e1 rs1 rp1 r1 q1 => key rp1 r1 q1
/-- o.m(e, ..): the class told behind the receiver's evaluation -/
structure MethOk (X : Cx) (E : XK) (m : Str) (Cl f : Addr) (k : Nat) (fd : FuncData) (ps : List Str) (sp : Sp) : Prop where
  c : Cls X.K Cl
  hm : Meth X.K Cl m f
  F : FnOk X.prog X.w X.K X.mg X.base (L2.CX X.prog X.w) k f fd ps sp
  hr : Room k X.A
  hb : Binds X.K fd ps []
def tMethD (X : Cx) (m : Str) (E : XK) (ta : TE) (t : TA) : TE := fun σ H Q => ta σ H fun x H1 => ∃ a Cl dx fs f k fd ps sp, MethOk X E m Cl f k fd ps sp ∧ x = .ref a ∧ H1 a = some (.ins Cl dx fs) ∧ fs.lookup m = none ∧
  t σ H1 fun vs H2 => sp (x :: vs) H2 Q E
theorem pe_methD {m : Str} {E : XK} {ta : TE} {t : TA} {apos : Pos} {pl : Sem Bool} (he : PE X o ta) (hx : Passes (L2.CX X.prog X.w) X E) (ha : PA X (e :: es) t)
    (hst : starEach (e :: es) X.env = (false, eval e X.env) :: starEach es X.env) (hpl : (backTo pos (starEach es X.env)).any (·.1) = false)
    (ht : eval (.Call (.Attribute o m apos) (e :: es) [] pos) X.env = (do
      let ov ← eval o X.env
      standAt apos.atName
      let (f, first) ← holding [ov] (getMethod ov m pl)
      callWith pos f first (backTo pos (starEach (e :: es) X.env)) (backToKw pos (keywordEach [] X.env)))) :
    PE X (.Call (.Attribute o m apos) (e :: es) [] pos) (tMethD X m E ta t) := by
  refine ⟨fun pins s σ H Q I h => ?_⟩
  refine PySem.W.methodCall_KW (pl := pl) (thn (he.run pins s σ H _ I h) fun u s1 ⟨x, H1, I1, rx, a, Cl, dx, fs, f, k, fd, ps, sp, ⟨c, hm, F, hr, hb⟩, ex, ea, l, q⟩ => ?_) ht
  subst ex
  obtain rfl : u = Value.ref a := rx
  refine getmeth_ok I1 ea c hm l ?_
  refine PySem.W.callWith_K (first := [.ref a]) (h₀ := X.base) I.ok.mod.kin hm.kp (thn (ha.run pos pins s1 σ H1 _ I1 q) fun us s2 ⟨vs, H2, I2, r, q2⟩ => ⟨I2.kIn, ?_⟩) hst hpl
  exact run_fn (us := .ref a :: us) (vs := .ref a :: vs) F hr hb .nil hx I2 (.cons rfl r) (by rw [List.append_nil]; exact q2)
theorem pe_methD0 {m : Str} {E : XK} {ta : TE} {apos : Pos} {pl : Sem Bool} (he : PE X o ta) (hx : Passes (L2.CX X.prog X.w) X E)
    (ht : eval (.Call (.Attribute o m apos) [] [] pos) X.env = (do
      let ov ← eval o X.env
      standAt apos.atName
      let (f, first) ← holding [ov] (getMethod ov m pl)
      callWith pos f first (backTo pos (starEach [] X.env)) (backToKw pos (keywordEach [] X.env)))) :
    PE X (.Call (.Attribute o m apos) [] [] pos) (tMethD X m E ta tNil) := by
  refine ⟨fun pins s σ H Q I h => ?_⟩
  refine PySem.W.methodCall_KW (pl := pl) (thn (he.run pins s σ H _ I h) fun u s1 ⟨x, H1, I1, rx, a, Cl, dx, fs, f, k, fd, ps, sp, ⟨c, hm, F, hr, hb⟩, ex, ea, l, q⟩ => ?_) ht
  subst ex
  obtain rfl : u = Value.ref a := rx
  refine getmeth_ok I1 ea c hm l ?_
  exact PySem.W.callWith_K0 (first := [.ref a]) I1.kIn hm.kp (run_fn (us := [.ref a]) (vs := [.ref a]) F hr hb .nil hx I1 (.cons rfl .nil) q)
theorem plAll {xs : List Expr} (hp : ∀ x ∈ xs, plain x = true) : (backTo pos (starEach xs X.env)).all (!·.1) = true := by
  induction xs with
  | nil => rfl
  | cons y ys ih =>
    rw [starE (hp y (by simp))]
    show (true && (backTo pos (starEach ys X.env)).all (!·.1)) = true
    rw [ih fun x hx => hp x (by simp [hx])]
    rfl
theorem methE (hpo : plainB o = true) (m : Str) {apos : Pos} (hl : (apos.endLine == pos.line) = true) {xs : List Expr} (hn : xs.length < 30) (hp : ∀ x ∈ xs, plain x = true) :
    eval (.Call (.Attribute o m apos) xs [] pos) X.env = (do
      let ov ← eval o X.env
      standAt apos.atName
      let (f, first) ← holding [ov] (getMethod ov m (do return (← importBound o X.env).getD true))
      callWith pos f first (backTo pos (starEach xs X.env)) (backToKw pos (keywordEach [] X.env))) := by
  have hf : methodCallForm (xs.length + ([] : List Keyword).length) (backTo pos (starEach xs X.env)) (backToKw pos (keywordEach [] X.env)) = true := by
    unfold methodCallForm
    rw [plAll hp]
    show (true && true && decide (xs.length + 0 + 0 < 30)) = true
    simpa using hn
  have e1 : eval (.Call (.Attribute o m apos) xs [] pos) X.env = (do
      let ov ← attributeBase o m X.env (eval o X.env)
      standAt apos.atName
      methodCall o m apos pos X.env ov (xs.length + ([] : List Keyword).length) (backTo pos (starEach xs X.env)) (backToKw pos (keywordEach [] X.env))) := rfl
  rw [e1, baseE hpo]
  unfold methodCall
  rw [hf]
  unfold methodCallPos
  rw [hl]
  rfl
theorem s_meth (C' : Cs B I X) (F : Fs B I C M ini lv fn fd X) (tk : Takes X (fun c d _ H => Wx c d H)) {m : Nat} {apos : Pos} (hl : (apos.endLine == pos.line) = true) (hm : B.mth m ∉ I.fl) (hpo : plainB o = true) (ho : PE X o (tE I fa Wx)) {xs : List Expr} (h30 : xs.length < 30) (hp : ∀ x ∈ xs, plain x = true) (ha : PA X xs (tA I fs Wx)) (hz : xs = [] → fs = fun _ h => .ok [] h) :
    PE X (.Call (.Attribute o (B.mth m) apos) xs [] pos) (tE I (fun σ h => (fa σ h).bind fun x h => match insOf h x with
      | some (c, _) => (match M c m with
        | some f => (fs σ h).bind fun xs h => C f (x :: xs) h
        | none => .fail)
      | none => .fail) Wx) := by
  have hx : Passes (L2.CX X.prog X.w) X Wx := passes_call tk fun _ _ _ _ z => z
  have ht := methE (X := X) hpo (B.mth m) hl h30 hp
  have some_meth : ∀ c f, I.isC c = true → M c m = some f → ∃ i, B.fn f = some i ∧ MethOk X Wx (B.mth m) (I.ca c) (fn f) lv (fd f) i.ps (spC I C f i.ps.length) := fun c f hc hf => by
    obtain ⟨h1, i, hi⟩ := F.mt c m f hc hf
    exact ⟨i, hi, by rw [C'.K]; exact (C'.cls c hc).1, h1, F.ok _ i hi, F.room.mono (Nat.le_succ _), F.bd _ i hi⟩
  cases xs with
  | nil =>
    refine ⟨fun pins s σ H Q J ⟨ι, h, σc, rs, rp, q⟩ => (pe_methD0 ho hx ht).run pins s σ H Q J ?_⟩
    refine goV rs rp q fun ι1 H1 h1 w1 v1 e1 rs1 rp1 r1 q1 => ?_
    split at q1
    · rename_i c flds hx'
      split at q1
      · rename_i f hf
        obtain ⟨n, a, dx, ls, rfl, hm', rfl, hH, rf, hl, hc, hh⟩ := rp1.ins r1 hx'
        obtain ⟨i, hi, mo⟩ := some_meth c f hc hf
        rw [hz rfl] at q1
        have q2 : (C f [.ref n] h1).All _ _ := q1
        exact ⟨a, _, dx, ls, _, _, _, _, _, mo, rfl, hH, RF.no hm rf, ι1, h1, [.ref n], rp1, .cons r1 .nil, F.ar _ i _ _ _ _ hi q2, q2⟩
      · exact q1.elim
    · exact q1.elim
  | cons y ys =>
    refine ⟨fun pins s σ H Q J ⟨ι, h, σc, rs, rp, q⟩ => (pe_methD ho hx ha (starE (hp y (by simp))) (plEs fun x hx => hp x (by simp [hx])) ht).run pins s σ H Q J ?_⟩
    refine goV rs rp q fun ι1 H1 h1 w1 v1 e1 rs1 rp1 r1 q1 => ?_
    split at q1
    · rename_i c flds hx'
      split at q1
      · rename_i f hf
        obtain ⟨n, a, dx, ls, rfl, hm', rfl, hH, rf, hl, hc, hh⟩ := rp1.ins r1 hx'
        obtain ⟨i, hi, mo⟩ := some_meth c f hc hf
        refine ⟨a, _, dx, ls, _, _, _, _, _, mo, rfl, hH, RF.no hm rf, ?_⟩
        refine goAv rs1 rp1 q1 fun ι2 H2 h2 ws vs e2 rs2 rp2 r2 q2 => ?_
        exact ⟨ι2, h2, .ref n :: ws, rp2, .cons (r1.ext e2) r2, by rw [← (RWs.cons (r1.ext e2) r2).length]; exact F.ar _ i _ _ _ _ hi q2, q2⟩
      · exact q1.elim
    · exact q1.elim
end
end Z
namespace Z
open PySem PySem.Spec L2
abbrev noX : XK := fun _ _ _ => False
section
variable {X : Cx} {I : Inf} {B : Tb} {Wx : XK} {a b c e o : Expr} {es : List Expr} {fa fb fc : Env → EH → T W} {fs gs : Env → EH → T (List W)} {pos p p2 : Pos} {σc : Env}
/-! ### targets -/
/-- what a target's reading tells -/
def GOk (I : Inf) (g : G) (gt : TG) : Prop := ∀ ι H w v σc σ σ', RS I ι H σc σ → RW I ι H w v → store g w σc = some σ' → ∃ τ, RS I ι H σ' τ ∧ (∀ own : List Nat, gIn g own = true → wipe τ own = wipe σ own) ∧ ∀ Q : St → Hp → Prop, Q τ H → gt v σ H Q
theorem loc_of {fn : Str → Bool} {sc : Scope} {x : Str} (h : locK fn sc x = true) : Loc sc x ∧ (fn x = true ∨ sc.names.lookup x = some .local) := by
  unfold locK at h
  split at h
  · rename_i e; exact ⟨.inl e, .inr e⟩
  · rename_i e; exact ⟨.inr e, .inl h⟩
  · cases h
theorem wipe_set {σ : St} {i : Nat} {v : Option V} : ∀ {own : List Nat}, i ∈ own → wipe (σ.set i v) own = wipe σ own
  | j :: own, h => by
    unfold wipe
    by_cases e : j = i
    · subst e
      have : ∀ own : List Nat, (wipe (σ.set j v) own).set j none = (wipe σ own).set j none := by
        intro own
        induction own with
        | nil => unfold wipe; simp
        | cons k own ih =>
          unfold wipe
          by_cases hk : k = j
          · subst hk; simp [ih]
          · rw [List.set_comm _ _ hk, List.set_comm _ _ hk, ih]
      exact this own
    · rw [wipe_set ((List.mem_cons.mp h).resolve_left fun z => e z.symm)]
theorem wipe_wipe {σ : St} {own : List Nat} : ∀ vs : List Nat, (∀ i ∈ vs, i ∈ own) → wipe (wipe σ vs) own = wipe σ own
  | [], _ => rfl
  | v :: vs, h => by
    show wipe ((wipe σ vs).set v none) own = _
    rw [wipe_set (h v (by simp)), wipe_wipe vs fun i hi => h i (by simp [hi])]
def gNs : List Nat → TGs
  | [] => gNil
  | i :: is => gCons (gName i) (gNs is)
theorem ns_ok {ι : Pl} {H : Hp} : ∀ {is : List Nat} {ws : List W} {vs : List V} {σc σ' : Env} {σ : St}, RS I ι H σc σ → RWs I ι H ws vs → setAll σc is ws = some σ' → is.length = vs.length ∧ ∃ τ, RS I ι H σ' τ ∧ (∀ own : List Nat, is.all own.contains = true → wipe τ own = wipe σ own) ∧ ∀ Q : St → Hp → Prop, Q τ H → gNs is vs σ H Q
  | [], [], _, σc, σ', σ, rs, .nil, e => by
    simp only [setAll, Option.some.injEq] at e
    subst e
    exact ⟨rfl, σ, rs, fun _ _ => rfl, fun Q q => ⟨rfl, q⟩⟩
  | [], _ :: _, _, _, _, _, _, _, e => by simp [setAll] at e
  | _ :: _, [], _, _, _, _, _, _, e => by simp [setAll] at e
  | i :: is, w :: ws, v :: vs, σc, σ', σ, rs, .cons r rr, e => by
    simp only [setAll] at e
    obtain ⟨h1, τ, h2, h3, h4⟩ := ns_ok (rs.set (i := i) r) rr e
    refine ⟨by simp [h1], τ, h2, fun own ho => ?_, fun Q q => ⟨v, vs, rfl, h4 Q q⟩⟩
    simp only [List.all_cons, Bool.and_eq_true] at ho
    rw [h3 own ho.2]
    exact wipe_set (by simpa using ho.1)
theorem pgs_ns (hN : X.N.Nodup) : ∀ {is : List Nat} {es : List Expr}, chkNs X.N X.fn X.env.scope is es = true → PGs X es (gNs is) ∧ (assignEach es X.env).length = is.length ∧ (assignEach es X.env).findIdx? (·.1) = none
  | [], es, h => by
    unfold chkNs at h
    split at h
    · exact ⟨pgs_nil, rfl, rfl⟩
    · cases h
  | i :: is, es, h => by
    unfold chkNs at h
    split at h
    · rename_i x q es
      simp only [Bool.and_eq_true, chkL, decide_eq_true_eq] at h
      obtain ⟨⟨h1, h2⟩, h3⟩ := h
      obtain ⟨l1, l2⟩ := loc_of h2
      obtain ⟨p1, p2, p3⟩ := pgs_ns hN h3
      refine ⟨pgs_cons (pg_name hN h1 l1 l2) p1, ?_, ?_⟩
      · show (assignEach es X.env).length + 1 = _
        rw [p2]
        rfl
      · show List.findIdx? _ ((false, assign (.Name x q) X.env) :: assignEach es X.env) = none
        rw [List.findIdx?_cons]
        simp [p3]
    · cases h
def gtOf (K : PySem.W.Frag) : G → TG
  | .name i => gName i
  | .tup is => gTup K is.length (gNs is)
theorem g_ok (C : Cs B I X) {g : G} {e : Expr} (h : chkG X.N X.fn X.env.scope g e = true) : PG X e (gtOf X.K g) := by
  cases g with
  | name i =>
    simp only [chkG] at h
    split at h
    · rename_i x q
      simp only [Bool.and_eq_true, chkL, decide_eq_true_eq] at h
      obtain ⟨l1, l2⟩ := loc_of h.2
      exact pg_name C.nd h.1 l1 l2
    · cases h
  | tup is =>
    simp only [chkG] at h
    split at h
    · rename_i es k q
      obtain ⟨p1, p2, p3⟩ := pgs_ns C.nd h
      exact pg_tup C.calm p1 p2 p3
    · cases h
theorem gok (K : PySem.W.Frag) (g : G) : GOk I g (gtOf K g) := by
  cases g with
  | name i =>
    intro ι H w v σc σ σ' rs r e
    simp only [store, Option.some.injEq] at e
    subst e
    exact ⟨σ.set i (some v), rs.set r, fun own ho => wipe_set (by simpa [gIn] using ho), fun Q q => q⟩
  | tup is =>
    intro ι H w v σc σ σ' rs r e
    simp only [store] at e
    split at e
    · rename_i ws
      cases r with
      | tup hp hn rr l =>
        obtain ⟨q1, τ, q2, q3, q4⟩ := ns_ok rs rr e
        exact ⟨τ, q2, q3, fun Q q => ⟨_, _, rfl, .inl (.inl hp), q1.symm, q4 Q q⟩⟩
    · cases e

/-! ### what is walked -/
/-- the walker yields the items, whatever happens to what is ours -/
def JOk (I : Inf) (ι : Pl) (H : Hp) (xs : List W) (J : It) : Prop := xs.length ≤ LIM ∧ ∀ ι2 H2 h2, Mo ι H ι2 H2 → Rep I ι2 h2 H2 → ∀ i, (∀ w, xs[i]? = some w → J.go i H2 ∧ ∀ x H3, J.yld i H2 x H3 → Ext ι2 H2 ι2 H3 ∧ Rep I ι2 h2 H3 ∧ RW I ι2 H3 w x) ∧ (xs.length ≤ i → J.stop i H2)
def tI (I : Inf) (f : Env → EH → T (List W × Lk)) (Wx : XK) : TI := fun σ H R => ∃ ι h σc, RS I ι H σc σ ∧ Rep I ι h H ∧ (f σc h).All (fun p h' => ∀ ι' H' J, Ext ι H ι' H' → Rep I ι' h' H' → JOk I ι' H' p.1 J → R J H') (Px I ι H Wx)
theorem j_list {ι : Pl} {H : Hp} {p : Addr} {ws : List W} {vs : List V} (K : PySem.W.Frag) (h : H p = some (.lst vs) ∧ p ∉ ι ∨ ∃ o, H p = some (.frz o (.lst vs))) (r : RWs I ι H ws vs) (l : ws.length ≤ LIM) : JOk I ι H ws (Itl K p) := by
  refine ⟨l, fun ι2 H2 h2 e2 rp2 i => ?_⟩
  have hs : SqL K H2 p vs := by
    rcases h with ⟨h, hn⟩ | ⟨o, h⟩
    · exact .inl (.inl (e2.kp _ _ h hn).1)
    · exact .inl (.inr ⟨o, e2.frz _ _ _ h⟩)
  refine ⟨fun w hw => ?_, fun hi => ⟨vs, hs, by rw [← r.length]; exact hi⟩⟩
  obtain ⟨v, hv, rv⟩ := r.get hw
  refine ⟨⟨vs, v, hs, hv⟩, fun x H3 y => ?_⟩
  obtain ⟨e, y⟩ := y
  subst e
  have := y vs hs
  rw [hv] at this
  cases this
  exact ⟨Ext.refl, rp2, rv.mo e2.toMw⟩
theorem j_tup {ι : Pl} {H : Hp} {p : Addr} {ws : List W} {vs : List V} (K : PySem.W.Frag) (h : H p = some (.tup vs)) (hn : p ∉ ι) (r : RWs I ι H ws vs) (l : ws.length ≤ LIM) : JOk I ι H ws (Itt K p) := by
  refine ⟨l, fun ι2 H2 h2 e2 rp2 i => ?_⟩
  have hs : SqT K H2 p vs := .inl (.inl (e2.kp _ _ h hn).1)
  refine ⟨fun w hw => ?_, fun hi => ⟨vs, hs, by rw [← r.length]; exact hi⟩⟩
  obtain ⟨v, hv, rv⟩ := r.get hw
  refine ⟨⟨vs, v, hs, hv⟩, fun x H3 y => ?_⟩
  obtain ⟨e, y⟩ := y
  subst e
  have := y vs hs
  rw [hv] at this
  cases this
  exact ⟨Ext.refl, rp2, rv.mo e2.toMw⟩
theorem rngW_get : ∀ {n : Nat} {lo : Int} {i : Nat}, (rngW lo n)[i]? = if i < n then some (.int (lo + i)) else none
  | 0, lo, i => by simp [rngW]
  | n + 1, lo, 0 => by simp [rngW]
  | n + 1, lo, i + 1 => by
    have h := rngW_get (n := n) (lo := lo + 1) (i := i)
    simp only [rngW, List.getElem?_cons_succ, h]
    by_cases hi : i < n
    · rw [if_pos hi, if_pos (by omega)]
      congr 2
      push_cast
      omega
    · rw [if_neg hi, if_neg (by omega)]
theorem rngW_len : ∀ {n : Nat} {lo : Int}, (rngW lo n).length = n
  | 0, _ => rfl
  | n + 1, lo => by simp [rngW, rngW_len]
theorem j_rng {ι : Pl} {H : Hp} {lo : Int} {n : Nat} (l : n ≤ LIM) : JOk I ι H (rngW lo n) (Itr lo n) := by
  refine ⟨by rw [rngW_len]; exact l, fun ι2 H2 h2 e2 rp2 i => ⟨fun w hw => ?_, fun hi => by rw [rngW_len] at hi; exact hi⟩⟩
  rw [rngW_get] at hw
  split at hw
  · rename_i hi
    cases hw
    refine ⟨hi, fun x H3 y => ?_⟩
    obtain ⟨e, y⟩ := y
    subst e y
    exact ⟨Ext.refl, rp2, .int _⟩
  · cases hw
/-- a list or a tuple is walked -/
def iSeq (K : PySem.W.Frag) (tl : TE) : TI := fun σ H R => tl σ H fun x H1 => ∃ a, x = .ref a ∧ (((∃ xs, SqL K H1 a xs) ∧ R (Itl K a) H1) ∨ ((∃ xs, SqT K H1 a xs) ∧ R (Itt K a) H1))
theorem pi_seq {tg l : Expr} {tl : TE} (hl : PE X l tl) : PI X tg l (iSeq X.K tl) := by
  refine ⟨fun pins s σ H R I h => ?_⟩
  refine thn (hl.run pins s σ H _ I h) fun v s1 ⟨x, H1, I1, r1, q1⟩ => ?_
  obtain ⟨a, e, q1⟩ := q1
  subst e
  cases r1
  rcases q1 with ⟨⟨xs, hq⟩, q⟩ | ⟨⟨xs, hq⟩, q⟩
  · obtain ⟨its, rv, p, hz⟩ := I1.list hq
    refine wpAny_pyIter_list p.isList ?_
    refine ⟨s1.heap.objs.size, [s1.heap.objs.size], _, _, H1, rfl, I1.kept (t' := s1.toks) fun b o e => Heap.get?_push_of_some _ e, turn_list a _, ⟨_, Heap.get?_push_size _ rfl, rfl, rfl⟩, fun b hb => ?_, q⟩
    have e : b = s1.heap.objs.size := by simpa using hb
    subst e
    exact I1.fpOk (Nat.le_refl _) (I1.hok.fresh (Nat.le_refl _))
  · obtain ⟨its, rv, p, hz⟩ := I1.tuple hq
    refine wpAny_pyIter_tuple (show s1.heap.IsTuple a its.toArray from p) ?_
    refine ⟨s1.heap.objs.size, [s1.heap.objs.size], _, _, H1, rfl, I1.kept (t' := s1.toks) fun b o e => Heap.get?_push_of_some _ e, turn_tuple a _, ⟨_, Heap.get?_push_size _ rfl, rfl, rfl⟩, fun b hb => ?_, q⟩
    have e : b = s1.heap.objs.size := by simpa using hb
    subst e
    exact I1.fpOk (Nat.le_refl _) (I1.hok.fresh (Nat.le_refl _))
theorem goI {ι : Pl} {H : Hp} {h : EH} {σ : St} {f : Env → EH → T W} {k : W → EH → T (List W × Lk)} {R : It → Hp → Prop} (rs : RS I ι H σc σ) (rp : Rep I ι h H)
    (q : ((f σc h).bind k).All (fun p h' => ∀ ι' H' J, Ext ι H ι' H' → Rep I ι' h' H' → JOk I ι' H' p.1 J → R J H') (Px I ι H Wx)) {Q : VK}
    (c : ∀ ι1 H1 h1 w v, Ext ι H ι1 H1 → RS I ι1 H1 σc σ → Rep I ι1 h1 H1 → RW I ι1 H1 w v → (k w h1).All (fun p h' => ∀ ι' H' J, Ext ι1 H1 ι' H' → Rep I ι' h' H' → JOk I ι' H' p.1 J → R J H') (Px I ι1 H1 Wx) → Q v H1) : tE I f Wx σ H Q :=
  goE (P := fun ι H (p : List W × Lk) h' => ∀ ι' H' J, Ext ι H ι' H' → Rep I ι' h' H' → JOk I ι' H' p.1 J → R J H') (fun e z ι2 H2 J e2 => z ι2 H2 J (e.trans e2)) rs rp q c
theorem i_seq {tg : Expr} (ha : PE X a (tE I fa Wx)) : PI X tg a (tI I (fun σ h => (fa σ h).bind fun x h => match x with
    | .tup xs => .ok (xs, .no) h
    | .lst xs => .ok (xs, .no) h
    | _ => .fail) Wx) := by
  refine ⟨fun pins s σ H R J ⟨ι, h, σc, rs, rp, q⟩ => (pi_seq ha).run pins s σ H R J ?_⟩
  refine goI rs rp q fun ι1 H1 h1 w1 v1 e1 rs1 rp1 r1 q1 => ?_
  cases r1 <;> first | exact q1.elim | skip
  · rename_i p ws vs hp hn rr l
    exact ⟨p, rfl, .inr ⟨⟨vs, .inl (.inl hp)⟩, q1 ι1 H1 _ Ext.refl rp1 (j_tup _ hp hn rr l)⟩⟩
  · rename_i p ws vs hp hn rr l
    exact ⟨p, rfl, .inl ⟨⟨vs, .inl (.inl hp)⟩, q1 ι1 H1 _ Ext.refl rp1 (j_list _ (.inl ⟨hp, hn⟩) rr l)⟩⟩
/-- a list at a place, locked -/
theorem i_seqL {tg : Expr} (ha : PE X a (tE I fa Wx)) : PI X tg a (tI I (fun σ h => (fa σ h).bind fun x h => match x with
    | .ref n => (match h[n]? with
      | some (.lstL xs) => .ok (xs, .no) h
      | _ => .fail)
    | _ => .fail) Wx) := by
  refine ⟨fun pins s σ H R J ⟨ι, h, σc, rs, rp, q⟩ => (pi_seq ha).run pins s σ H R J ?_⟩
  refine goI rs rp q fun ι1 H1 h1 w1 v1 e1 rs1 rp1 r1 q1 => ?_
  cases r1 <;> first | exact q1.elim | skip
  rename_i n p hp
  simp only at q1
  split at q1
  · rename_i xs hx
    obtain ⟨o, vs, g1, g2, g3⟩ := rp1.at hp hx
    exact ⟨p, rfl, .inl ⟨⟨vs, .inl (.inr ⟨o, g1⟩)⟩, q1 ι1 H1 _ Ext.refl rp1 (j_list _ (.inr ⟨o, g1⟩) g2 g3)⟩⟩
  · exact q1.elim
theorem rk_kV {ι : Pl} {H : Hp} {w : W} {k : Key} (r : RK w k) : RW I ι H w (kV k) := by
  cases w <;> cases k <;> simp [RK] at r <;> subst r
  · exact .int _
  · exact .str _
theorem RKV.at {ι : Pl} {H : Hp} : ∀ {ks : List (W × W)} {ls : List (Key × V)} {i : Nat}, RKV I ι H ks ls → (∀ w, (ks.map (·.1))[i]? = some w → ∃ k v, ls[i]? = some (k, v) ∧ RK w k)
  | [], [], i, .nil => fun w h => by simp at h
  | (a, b) :: ks, (k, v) :: ls, 0, .cons ⟨q1, q2⟩ r => fun w h => by
    simp at h
    subst h
    exact ⟨k, v, rfl, q1⟩
  | (a, b) :: ks, (k, v) :: ls, i + 1, .cons ⟨q1, q2⟩ r => fun w h => by
    obtain ⟨k', v', h1, h2⟩ := RKV.at r w (by simpa using h)
    exact ⟨k', v', by simpa using h1, h2⟩
theorem j_keys {ι : Pl} {H : Hp} {d : Addr} {o : Obj} {ks : List (W × W)} {ls : List (Key × V)} (h : H d = some (.frz o (.dK ls))) (r : RKV I ι H ks ls) (l : ks.length ≤ LIM) : JOk I ι H (ks.map (·.1)) (Itk d o ls) := by
  refine ⟨by simpa using l, fun ι2 H2 h2 e2 rp2 i => ⟨fun w hw => ?_, fun hi => ?_⟩⟩
  · obtain ⟨k, v, h1, h3⟩ := RKV.at r w hw
    refine ⟨⟨e2.frz _ _ _ h, (List.getElem?_eq_some_iff.mp h1).1⟩, fun x H3 y => ?_⟩
    obtain ⟨e, k', v', h4, h5⟩ := y
    subst e
    rw [h1] at h4
    cases h4
    subst h5
    exact ⟨Ext.refl, rp2, rk_kV h3⟩
  · refine ⟨e2.frz _ _ _ h, ?_⟩
    rw [← RKV.len r]
    simpa using hi
theorem i_keysL {tg : Expr} (ha : PE X a (tE I fa Wx)) : PI X tg a (tI I (fun σ h => (fa σ h).bind fun x h => match x with
    | .ref n => (match h[n]? with
      | some (.dicL kvs) => .ok (kvs.map (·.1), .no) h
      | _ => .fail)
    | _ => .fail) Wx) := by
  refine ⟨fun pins s σ H R J ⟨ι, h, σc, rs, rp, q⟩ => (pi_keys ha).run pins s σ H R J ?_⟩
  refine goI rs rp q fun ι1 H1 h1 w1 v1 e1 rs1 rp1 r1 q1 => ?_
  cases r1 <;> first | exact q1.elim | skip
  rename_i n p hp
  simp only at q1
  split at q1
  · rename_i xs hx
    obtain ⟨o, ls, g1, g2, g3, _⟩ := rp1.at hp hx
    exact ⟨p, o, rfl, .inl ⟨ls, g1, q1 ι1 H1 _ Ext.refl rp1 (j_keys g1 g2 g3)⟩⟩
  · exact q1.elim
theorem i_rng (C : Cs B I X) {tg : Expr} {x : Str} (hn : isB B X.env.scope "range" x = true) (hp : plain a = true) (ha : PE X a (tE I fa Wx)) : PI X tg (.Call (.Name x p) [a] [] pos) (tI I (fun σ h => (fa σ h).bind fun x h => match x with
    | .int n => if n ≤ LIM ∧ -1000000 < n then .ok (rngW 0 n.toNat, .no) h else .fail
    | _ => .fail) Wx) := by
  obtain ⟨rfl, g, n⟩ := bn_of C hn
  refine ⟨fun pins s σ H R J ⟨ι, h, σc, rs, rp, q⟩ => (pi_range1 g n (a_cons (Wx := Wx) hp ha a_nil) (by rw [starE hp]; rfl)).run pins s σ H R J ?_⟩
  refine ⟨ι, h, σc, rs, rp, T.All.of_bind ((T.All.bind q).mono (fun w h1 q1 => ?_) fun _ _ z => z)⟩
  intro ι1 H1 vs e1 rp1 r1
  cases r1 with
  | cons r2 rr =>
    cases rr
    cases r2 <;> first | exact q1.elim | skip
    rename_i k
    simp only at q1
    split at q1
    · rename_i hk
      refine ⟨k, rfl, by omega, ?_, q1 ι1 H1 _ e1 rp1 (j_rng ?_)⟩
      · have : (LIM : Int) = 100000 := rfl
        omega
      · have : (LIM : Int) = 100000 := rfl
        omega
    · exact q1.elim
theorem i_rng2 (C : Cs B I X) {tg : Expr} {x : Str} (hn : isB B X.env.scope "range" x = true) (hp : plain a = true) (hp2 : plain b = true) (ha : PE X a (tE I fa Wx)) (hb : PE X b (tE I fb Wx)) : PI X tg (.Call (.Name x p) [a, b] [] pos) (tI I (fun σ h => (fa σ h).bind fun x h => (fb σ h).bind fun y h => match x, y with
    | .int i, .int n => if n - i ≤ LIM ∧ -1000000 < n ∧ -1000000 < i ∧ i < 1000000 ∧ n < 1000000 then .ok (rngW i (n - i).toNat, .no) h else .fail
    | _, _ => .fail) Wx) := by
  obtain ⟨rfl, g, n⟩ := bn_of C hn
  refine ⟨fun pins s σ H R J ⟨ι, h, σc, rs, rp, q⟩ => (pi_range2 g n (a_cons (Wx := Wx) hp ha (a_cons hp2 hb a_nil)) (by rw [starE hp, starE hp2]; rfl) (by rw [starE hp2]; rfl)).run pins s σ H R J ?_⟩
  refine ⟨ι, h, σc, rs, rp, T.All.of_bind ((T.All.bind q).mono (fun w h1 q1 => T.All.of_bind (T.All.of_bind ((T.All.bind q1).mono (fun w2 h2 q2 => ?_) fun _ _ z => z))) fun _ _ z => z)⟩
  intro ι1 H1 vs e1 rp1 r1
  cases r1 with
  | cons r2 rr =>
    cases rr with
    | cons r3 rr =>
      cases rr
      cases r2 <;> cases r3 <;> first | exact q2.elim | skip
      rename_i i k
      simp only at q2
      split at q2
      · rename_i hk
        have hL : (LIM : Int) = 100000 := rfl
        refine ⟨i, k, rfl, by omega, q2 ι1 H1 _ e1 rp1 (j_rng ?_)⟩
        omega
      · exact q2.elim
/-! ### comprehensions -/
theorem c_none : PTs X [] (tB I (fun _ h => .ok true h) Wx) := ⟨fun pins s σ H Q J ⟨ι, h, σc, rs, rp, q⟩ => pts_nil.run pins s σ H Q J (q ι H Ext.refl rp)⟩
theorem c_some (hc : PT X c (tTest (tE I fc Wx))) : PTs X [c] (tB I (fun σ h => (fc σ h).bind fun x h => boolK x fun k => .ok k h) Wx) := by
  refine ⟨fun pins s σ H Q J ⟨ι, h, σc, rs, rp, q⟩ => (pts_one hc).run pins s σ H Q J ?_⟩
  show tE I fc Wx σ H (fun x H' => ∃ k, x = .bl k ∧ Q k H')
  refine goE (P := fun ι H => Pb I ι H Q) (fun e z ι2 H2 e2 => z ι2 H2 (e.trans e2)) rs rp q fun ι1 H1 h1 w1 v1 e1 rs1 rp1 r1 q1 => ?_
  obtain ⟨k, rfl, rfl, q2⟩ := finK r1 q1
  exact ⟨k, rfl, q2 ι1 H1 Ext.refl rp1⟩
/-- one turn's body -/
def bodyC (g : G) (own : List Nat) (fc : Env → EH → T Bool) (fe : Env → EH → T W) (σc : Env) (x : W) (h : EH) : T (Option W) := match store g x (wipeE σc own) with
  | none => .fail
  | some σ' => (fc σ' h).bind fun k h => if k then (fe σ' h).bind fun y h => .ok (some y) h else .ok none h
theorem comp_read {g : G} {gt : TG} {own : List Nat} {fi : Env → EH → T (List W × Lk)} {fc : Env → EH → T Bool} {fe : Env → EH → T W} (hg : GOk I g gt) (ho : gIn g own = true) {σ : St} {H : Hp} {Q : VK}
    (hw : tE I (fun σ h => (fi σ h).bind fun p h => (forL (bodyC g own fc fe σ) [] p.1 h).nox.bind fun ys h => .ok (.lst ys) h) Wx σ H Q) : tLc (tI I fi Wx) gt (tB I fc noX) (tE I fe noX) own σ H Q := by
  obtain ⟨ι, h, σc, rs, rp, q⟩ := hw
  refine ⟨ι, h, σc, rs, rp, (T.All.bind q).mono (fun pp h1 q1 ι1 H1 J e1 rp1 hJ => ?_) fun _ _ z => z⟩
  intro D hD
  have q2 := T.All.of_nox ((T.All.bind q1).mono (X' := fun _ _ => True) (fun _ _ z => z) fun _ _ _ => trivial)
  obtain ⟨xs, lk⟩ := pp
  obtain ⟨hlen, hJ⟩ := hJ
  simp only at q2 hlen hJ
  -- the state at a turn
  let St (i : Nat) (H2 : Hp) : Prop := ∃ ι2 h2 acc vacc, i ≤ xs.length ∧ Ext ι1 H1 ⟨ι2.own, ι1.res⟩ H2 ∧ ι2.res = D :: ι1.res ∧ D ∉ ι2.own ∧ Mo ι1 H1 ι2 H2 ∧ Rep I ι2 h2 H2 ∧ H2 D = some (.lst vacc) ∧ RWs I ι2 H2 acc vacc ∧ acc.length ≤ i ∧
    (forL (bodyC g own fc fe σc) acc (xs.drop i) h2).All (fun ys h' => Pv I ι H Q (.lst ys) h') (fun _ _ => False)
  have hDn1 : D ∉ ι1 := rp1.new hD
  refine ⟨fun i m H2 => m = xs.length - i ∧ St i H2, ⟨xs.length, by simp, ι1.apart D, h1, [], [], Nat.zero_le _, (Ext.refl (ι := ι1)).chgNew hD, rfl, fun z => hDn1 (.inl z), Mo.apart hD, rp1.apart hD, upd_same, .nil, Nat.le_refl _, q2⟩, ?_⟩
  rintro i m H2 ⟨rfl, ι2, h2, acc, vacc, hi, e2, hr2, hn2, m2, rp2, hD2, racc, hacc, q3⟩
  obtain ⟨hj1, hj2⟩ := hJ ι2 H2 h2 m2 rp2 i
  have hDm : D ∈ ι2.res := by rw [hr2]; exact List.mem_cons_self
  by_cases hlt : i < xs.length
  · have hx : xs[i]? = some xs[i] := List.getElem?_eq_getElem hlt
    obtain ⟨hgo, hy⟩ := hj1 _ hx
    rw [List.drop_eq_getElem_cons hlt] at q3
    refine .inr ⟨hgo, St (i + 1), fun H' st => ⟨xs.length - (i + 1), by omega, rfl, st⟩, fun x H3 y => ?_⟩
    obtain ⟨e3, rp3, rx⟩ := hy x H3 y
    have m3 := m2.trans e3.mo
    have rs3 : RS I ι2 H3 (wipeE σc own) (wipe σ own) := ((rs.ext e1).mo m3).wipe own
    simp only [forL] at q3
    have q4 := T.All.bind q3
    unfold bodyC at q4
    cases hst : store g xs[i] (wipeE σc own) with
    | none => rw [hst] at q4; exact q4.elim
    | some σ' =>
      rw [hst] at q4
      obtain ⟨τ, rs4, hwp, hq⟩ := hg ι2 H3 _ _ _ _ _ rs3 rx hst
      have hD3 : H3 D = some (.lst vacc) := e3.keep _ _ hD2 hn2
      refine hq _ ⟨(hwp own ho).trans (wipe_wipe own fun _ z => z), ?_⟩
      refine ⟨ι2, h2, σ', rs4, rp3, ((T.All.bind q4).mono (X' := Px I ι2 H3 noX) (fun k h4 q5 => ?_) fun _ _ z => z.elim)⟩
      intro ι4 H4 e4 rp4
      have hD4 : H4 D = some (.lst vacc) := e4.keep _ _ hD3 hn2
      have hn4 : D ∉ ι4.own := e4.own_not hD3 hn2
      have m4 := m3.trans e4.mo
      have e14 : Ext ι1 H1 ⟨ι4.own, ι1.res⟩ H4 := e2.trans ((e3.trans e4).swap ι1.res)
      have racc4 : RWs I ι4 H4 acc vacc := (racc.ext e3).ext e4
      have hr4 : ι4.res = D :: ι1.res := e4.rs.trans hr2
      cases k with
      | false =>
        rw [if_neg Bool.false_ne_true] at q5 ⊢
        have q6 : (forL _ acc (xs.drop (i + 1)) h4).All _ _ := q5
        exact ⟨ι4, h4, acc, vacc, hlt, e14, hr4, hn4, m4, rp4, hD4, racc4, by omega, q6⟩
      | true =>
        rw [if_pos rfl] at q5 ⊢
        refine ⟨ι4, h4, σ', rs4.ext e4, rp4, ((T.All.bind q5).mono (X' := Px I ι4 H4 noX) (fun w h5 q6 => ?_) fun _ _ z => z.elim)⟩
        intro ι5 H5 v e5 rp5 r5
        have hD5 : H5 D = some (.lst vacc) := e5.keep _ _ hD4 hn4
        have hn5 : D ∉ ι5.own := e5.own_not hD4 hn4
        have hr5 : ι5.res = D :: ι1.res := e5.rs.trans hr4
        have hm5 : D ∈ ι5.res := by rw [hr5]; exact List.mem_cons_self
        have racc5 : RWs I ι5 H5 acc vacc := racc4.ext e5
        have hll : vacc.length ≤ i := by rw [← racc.length]; exact hacc
        have nf : ∀ o u, H5 D ≠ some (.frz o u) := fun o u z => by rw [hD5] at z; cases z
        refine ⟨vacc, hD5, lim_lt (by omega), ι5, h5, acc ++ [w], vacc ++ [v], hlt, (e14.trans (e5.swap ι1.res)).chgNew hD, hr5, hn5, (m4.trans e5.mo).trans (Mo.res hm5 nf), rp5.resUpd hm5 hn5 nf, upd_same, ?_, by simp; omega, q6⟩
        exact (racc5.append (.cons r5 .nil)).mo (Mo.res hm5 nf).toMw
  · have hi2 : i = xs.length := by omega
    refine .inl ⟨hj2 (by omega), ?_⟩
    rw [hi2, List.drop_length] at q3
    have q4 : Pv I ι H Q (.lst acc) h2 := q3
    refine q4 ⟨ι2.own, ι1.res⟩ H2 _ (e1.trans e2) (rp2.back hr2) (.lst hD2 (fun z => ?_) (racc.mo (Mo.back hr2).toMw) (by omega))
    rcases z with z | z
    · exact hn2 z
    · exact hDn1 (.inr z)

theorem compM_read {g : G} {gt : TG} {own : List Nat} {fi : Env → EH → T (List W × Lk)} {fc : Env → EH → T Bool} {fe : Env → EH → T W} (hg : GOk I g gt) (ho : gIn g own = true) {σ : St} {H : Hp} {Q : VK}
    (hw : tE I (fun σ h => (fi σ h).bind fun p h => (forM h.length (bodyC g own fc fe σ) p.1 (h ++ [.lst []])).nox.bind fun _ h' => .ok (.ref h.length) h') Wx σ H Q) : tLc (tI I fi Wx) gt (tB I fc noX) (tE I fe noX) own σ H Q := by
  obtain ⟨ι, h, σc, rs, rp, q⟩ := hw
  refine ⟨ι, h, σc, rs, rp, (T.All.bind q).mono (fun pp h1 q1 ι1 H1 J e1 rp1 hJ => ?_) fun _ _ z => z⟩
  intro D hD
  have q2 := T.All.of_nox ((T.All.bind q1).mono (X' := fun _ _ => True) (fun _ _ z => z) fun _ _ _ => trivial)
  obtain ⟨xs, lk⟩ := pp
  obtain ⟨hlen, hJ⟩ := hJ
  simp only at q2 hlen hJ
  have hDn : (ι1.push D).own[h1.length]? = some D := ι1.push_at D rp1.len.symm
  have eD : Ext ι1 H1 (ι1.push D) (upd H1 D (.lst [])) := Ext.mine hD
  let St (i : Nat) (H2 : Hp) : Prop := ∃ ι2 h2, i ≤ xs.length ∧ Ext (ι1.push D) (upd H1 D (.lst [])) ι2 H2 ∧ Rep I ι2 h2 H2 ∧
    (forM h1.length (bodyC g own fc fe σc) (xs.drop i) h2).All (fun _ h' => Pv I ι H Q (.ref h1.length) h') (fun _ _ => False)
  have roD : RO I (ι1.push D) (upd H1 D (.lst [])) (.lst []) D := ⟨[], upd_same, .nil, Nat.zero_le _⟩
  have rpD : Rep I (ι1.push D) (h1 ++ [.lst []]) (upd H1 D (.lst [])) := rp1.mine hD roD
  have st0 : St 0 (upd H1 D (.lst [])) := by
    refine ⟨ι1.push D, h1 ++ [.lst []], Nat.zero_le _, Ext.refl, rpD, ?_⟩
    rw [List.drop_zero]
    exact q2
  refine ⟨fun i m H2 => m = xs.length - i ∧ St i H2, ⟨xs.length, by simp, st0⟩, ?_⟩
  rintro i m H2 ⟨rfl, ι2, h2, hi, e2, rp2, q3⟩
  obtain ⟨hj1, hj2⟩ := hJ ι2 H2 h2 (eD.trans e2).mo rp2 i
  by_cases hlt : i < xs.length
  · have hx : xs[i]? = some xs[i] := List.getElem?_eq_getElem hlt
    obtain ⟨hgo, hy⟩ := hj1 _ hx
    rw [List.drop_eq_getElem_cons hlt] at q3
    refine .inr ⟨hgo, St (i + 1), fun H' st => ⟨xs.length - (i + 1), by omega, rfl, st⟩, fun x H3 y => ?_⟩
    obtain ⟨e3, rp3, rx⟩ := hy x H3 y
    have rs3 : RS I ι2 H3 (wipeE σc own) (wipe σ own) := ((rs.ext e1).ext ((eD.trans e2).trans e3)).wipe own
    simp only [forM] at q3
    have q4 := T.All.bind q3
    unfold bodyC at q4
    cases hst : store g xs[i] (wipeE σc own) with
    | none => rw [hst] at q4; exact q4.elim
    | some σ' =>
      rw [hst] at q4
      obtain ⟨τ, rs4, hwp, hq⟩ := hg ι2 H3 _ _ _ _ _ rs3 rx hst
      refine hq _ ⟨(hwp own ho).trans (wipe_wipe own fun _ z => z), ?_⟩
      refine ⟨ι2, h2, σ', rs4, rp3, ((T.All.bind q4).mono (X' := Px I ι2 H3 noX) (fun k h4 q5 => ?_) fun _ _ z => z.elim)⟩
      intro ι4 H4 e4 rp4
      have e24 : Ext (ι1.push D) (upd H1 D (.lst [])) ι4 H4 := (e2.trans e3).trans e4
      cases k with
      | false =>
        rw [if_neg Bool.false_ne_true] at q5 ⊢
        have q6 : (forM h1.length _ (xs.drop (i + 1)) h4).All _ _ := q5
        exact ⟨ι4, h4, hlt, e24, rp4, q6⟩
      | true =>
        rw [if_pos rfl] at q5 ⊢
        refine ⟨ι4, h4, σ', rs4.ext e4, rp4, ((T.All.bind q5).mono (X' := Px I ι4 H4 noX) (fun w h5 q6 => ?_) fun _ _ z => z.elim)⟩
        intro ι5 H5 v e5 rp5 r5
        have hD5 := (e24.trans e5).ix hDn
        have q7 : (match h5[h1.length]? with | some (.lst ys) => if ys.length < LIM then forM h1.length (bodyC g own fc fe σc) (xs.drop (i + 1)) (h5.set h1.length (.lst (ys ++ [w]))) else .fail | _ => .fail).All _ _ := q6
        split at q7
        · rename_i ys hys
          split at q7
          · rename_i hl
            obtain ⟨vs, g1, g2, g3⟩ := rp5.at hD5 hys
            have nf : ∀ o u, H5 D ≠ some (.frz o u) := fun o u z => by rw [g1] at z; cases z
            refine ⟨vs, g1, lim_lt (by rw [← g2.length]; omega), ι5, h5.set h1.length (.lst (ys ++ [w])), hlt, (e24.trans e5).trans (Ext.chg hD5 nf), rp5.chg hD5 nf ?_, q7⟩
            exact ⟨vs ++ [v], upd_same, (g2.append (.cons r5 .nil)).ext (Ext.chg hD5 nf), by rw [List.length_append]; exact hl⟩
          · exact q7.elim
        · exact q7.elim
  · have hi2 : i = xs.length := by omega
    refine .inl ⟨hj2 (by omega), ?_⟩
    rw [hi2, List.drop_length] at q3
    have q4 : Pv I ι H Q (.ref h1.length) h2 := q3
    exact q4 ι2 H2 _ ((e1.trans eD).trans e2) rp2 (.ref (e2.ix hDn))
end
end Z
namespace Z
open PySem PySem.Spec L2
section
variable {X : Cx} {I : Inf} {B : Tb} {Wx : XK} {pos p p2 : Pos} {σc : Env} {C : CallH} {M : MTab} {ini : Nat → Nat}
theorem PE_or {e : Expr} {t u : TE} (h1 : PE X e t) (h2 : PE X e u) : PE X e (fun σ H Q => t σ H Q ∨ u σ H Q) :=
  ⟨fun pins s σ H Q J q => q.elim (h1.run pins s σ H Q J) (h2.run pins s σ H Q J)⟩
theorem PE_imp {e : Expr} {t u : TE} (h1 : PE X e t) (h : ∀ σ H Q, u σ H Q → t σ H Q) : PE X e u := ⟨fun pins s σ H Q J q => h1.run pins s σ H Q J (h _ _ _ q)⟩
theorem simp_ev {σ : Env} {h : EH} : ∀ a : E, simp a = true → ev C M ini a σ h = .fail ∨ ∃ w, ev C M ini a σ h = .ok w h
  | .var i, _ => by
    simp only [ev]
    split
    · exact .inr ⟨_, rfl⟩
    · exact .inl rfl
  | .int i, _ => .inr ⟨_, rfl⟩
  | .fld a f, hs => by
    rcases simp_ev (σ := σ) (h := h) a hs with e | ⟨w, e⟩
    · simp only [ev, e, T.bind]; exact .inl trivial
    · simp only [ev, e, T.bind]
      split
      · unfold ofO
        split
        · exact .inr ⟨_, rfl⟩
        · exact .inl rfl
      · exact .inl rfl
  | .ix a i, hs => by
    simp only [simp, Bool.and_eq_true] at hs
    rcases simp_ev (σ := σ) (h := h) a hs.1 with e | ⟨w, e⟩
    · simp only [ev, e, T.bind]; exact .inl trivial
    · rcases simp_ev (σ := σ) (h := h) i hs.2 with e2 | ⟨w2, e2⟩
      · simp only [ev, e, e2, T.bind]; exact .inl trivial
      · simp only [ev, e, e2, T.bind]
        split
        · unfold ofO
          split
          · exact .inr ⟨_, rfl⟩
          · exact .inl rfl
        · exact .inl rfl
/-- o is locked: o' -/
inductive Lkd : EO → EO → Prop
  | l (xs : List W) : Lkd (.lst xs) (.lstL xs)
  | d (kvs : List (W × W)) : Lkd (.dic kvs) (.dicL kvs)
  | t (kvs : List (W × W)) : Lkd (.dicT kvs) (.dicTL kvs)
theorem Lkd.ins {o o' : EO} {h : EH} {n : Nat} (l : Lkd o o') (hn : h[n]? = some o) (w : W) : insOf (h.set n o') w = insOf h w := by
  cases w <;> try rfl
  rename_i m
  unfold insOf
  simp only
  by_cases e : n = m
  · subst e
    have hl : n < h.length := (List.getElem?_eq_some_iff.mp hn).1
    rw [List.getElem?_set_self hl, hn]
    cases l <;> rfl
  · rw [List.getElem?_set_ne e]
theorem Lkd.seq {o o' : EO} {h : EH} {n : Nat} (l : Lkd o o') (hn : h[n]? = some o) (w : W) : seqOf (h.set n o') w = seqOf h w := by
  cases w <;> try rfl
  rename_i m
  unfold seqOf
  simp only
  by_cases e : n = m
  · subst e
    have hl : n < h.length := (List.getElem?_eq_some_iff.mp hn).1
    rw [List.getElem?_set_self hl, hn]
    cases l <;> rfl
  · rw [List.getElem?_set_ne e]
theorem simp_set {σ : Env} {h : EH} {n : Nat} {o o' : EO} (hn : h[n]? = some o) (l : Lkd o o') : ∀ (a : E) (w : W), simp a = true → ev C M ini a σ h = .ok w h → ev C M ini a σ (h.set n o') = .ok w (h.set n o')
  | .var i, w, _, e => by
    simp only [ev] at e ⊢
    split at e
    · rename_i w' hw
      cases e
      simp only [hw]
    · cases e
  | .int i, w, _, e => by
    simp only [ev] at e ⊢
    cases e
    rfl
  | .fld a f, w, hs, e => by
    rcases simp_ev (C := C) (M := M) (ini := ini) (σ := σ) (h := h) a hs with e1 | ⟨w1, e1⟩
    · simp only [ev, e1, T.bind] at e; cases e
    · have e2 := simp_set hn l a w1 hs e1
      simp only [ev, e1, e2, T.bind] at e ⊢
      rw [l.ins hn]
      split at e
      · rename_i c fs hc
        cases hl : look fs f with
        | none => rw [hl] at e; cases e
        | some w2 => rw [hl] at e; cases e; rfl
      · cases e
  | .ix a i, w, hs, e => by
    simp only [simp, Bool.and_eq_true] at hs
    rcases simp_ev (C := C) (M := M) (ini := ini) (σ := σ) (h := h) a hs.1 with e1 | ⟨w1, e1⟩
    · simp only [ev, e1, T.bind] at e; cases e
    · rcases simp_ev (C := C) (M := M) (ini := ini) (σ := σ) (h := h) i hs.2 with f1 | ⟨v1, f1⟩
      · simp only [ev, e1, f1, T.bind] at e; cases e
      · have e2 := simp_set hn l a w1 hs.1 e1
        have f2 := simp_set hn l i v1 hs.2 f1
        simp only [ev, e1, e2, f1, f2, T.bind] at e ⊢
        rw [l.seq hn]
        split at e
        · rename_i xs k hx
          cases hl : ixW xs k with
          | none => rw [hl] at e; cases e
          | some w2 => rw [hl] at e; cases e; rfl
        · cases e
/-- the items of what is locked, or nobody's -/
def wkIl (k : WK) (x : W) (h : EH) : T (List W × Lk) := match k with
  | .vals => (match x with
    | .ref n => (match h[n]? with
      | some (.dicL kvs) => .ok (kvs.map (·.2), .no) h
      | _ => .fail)
    | _ => .fail)
  | .items => (match x with
    | .ref n => (match h[n]? with
      | some (.dicL kvs) => .ok (pairW kvs, .no) h
      | _ => .fail)
    | _ => .fail)
  | .keysT => (match x with
    | .ref n => (match h[n]? with
      | some (.dicTL kvs) => .ok (kvs.map (·.1), .no) h
      | _ => .fail)
    | _ => .fail)
  | .enum => (match x with
    | .ref n => (match h[n]? with
      | some (.lstL xs) => .ok (enumW 0 xs, .no) h
      | _ => .fail)
    | .lst xs => .ok (enumW 0 xs, .no) h
    | .tup xs => .ok (enumW 0 xs, .no) h
    | _ => .fail)
  | .rev => (match x with
    | .ref n => (match h[n]? with
      | some (.lstL xs) => .ok (xs.reverse, .no) h
      | _ => .fail)
    | .lst xs => .ok (xs.reverse, .no) h
    | .tup xs => .ok (xs.reverse, .no) h
    | _ => .fail)
/-- the walker of what is locked already -/
def evIl (C : CallH) (M : MTab) (ini : Nat → Nat) : Z.I → Env → EH → T (List W × Lk)
  | .seqR a, σ, h => (ev C M ini a σ h).bind fun x h => match x with
    | .ref n => (match h[n]? with
      | some (.lstL xs) => .ok (xs, .no) h
      | _ => .fail)
    | _ => .fail
  | .keys a, σ, h => (ev C M ini a σ h).bind fun x h => match x with
    | .ref n => (match h[n]? with
      | some (.dicL kvs) => .ok (kvs.map (·.1), .no) h
      | _ => .fail)
    | _ => .fail
  | .w k a, σ, h => (ev C M ini a σ h).bind fun x h => wkIl k x h
  | it, σ, h => evI C M ini it σ h
theorem lock_go {t : TE} {fi : Env → EH → T W} (ht : ∀ σ H Q, tE I fi Wx σ H Q → t σ H Q) {ι : Pl} {h : EH} {H : Hp} {σ : St} {Q : VK} {n : Nat} {d : Addr} {u : HO} {eoL eoU : EO} (rs : RS I ι H σc σ) (rp : Rep I ι h H) (hd : ι.own[n]? = some d) (hu : H d = some u) (mu : Mut (some u))
    (hL : ∀ od, RO I ι (upd H d (.frz od u)) eoL d) (hU : ∀ od ι' H', Ext ι (upd H d (.frz od u)) ι' H' → RO I ι' (upd H' d u) eoU d)
    (q : ((fi σc (h.set n eoL)).bind fun w h => T.ok w (h.set n eoU)).All (Pv I ι H Q) (Px I ι H Wx)) : tLockE t σ H Q := by
  have nf : ∀ o u, H d ≠ some (.frz o u) := fun o u' z => by
    rw [hu] at z
    cases z
    exact mu
  refine ⟨d, u, hu, mu, fun od => ht _ _ _ ⟨ι, h.set n eoL, σc, rs.ext (Ext.chg hd nf), rp.chg hd nf (hL od), (T.All.bind q).mono (fun w h' k => ?_) fun c h' k ι' H' e => k ι' H' ((Ext.chg hd nf).trans e)⟩⟩
  intro ι' H' v e rp' r
  have k : Pv I ι H Q w (h'.set n eoU) := k
  exact ⟨e.frz _ _ _ upd_same, k ι' (upd H' d u) v (e.unl (List.mem_of_getElem? hd) hu nf) (rp'.chgW (e.ix hd) (hU od ι' H' e)) (r.mo (Mw.own (List.mem_of_getElem? (e.ix hd))))⟩
theorem ro_lst {ι : Pl} {H : Hp} {d : Addr} {n : Nat} {xs : List W} {vs : List V} (hd : ι.own[n]? = some d) (hu : H d = some (.lst vs)) (r : RWs I ι H xs vs) (l : xs.length ≤ LIM) :
    (∀ od, RO I ι (upd H d (.frz od (.lst vs))) (.lstL xs) d) ∧ ∀ od ι' H', Ext ι (upd H d (.frz od (.lst vs))) ι' H' → RO I ι' (upd H' d (.lst vs)) (.lst xs) d :=
  ⟨fun od => ⟨od, vs, upd_same, r.mo (Mw.own (List.mem_of_getElem? hd)), l⟩, fun od ι' H' e => ⟨vs, upd_same, ((r.mo (Mw.own (List.mem_of_getElem? hd))).ext e).mo (Mw.own (List.mem_of_getElem? (e.ix hd))), l⟩⟩
theorem RKV.mo {ι ι' : Pl} {H H' : Hp} (m : Mw ι H ι' H') {ks : List (W × W)} {ls : List (Key × V)} (r : RKV I ι H ks ls) : RKV I ι' H' ks ls := Paired.mapP r fun _ _ q => ⟨q.1, q.2.mo m⟩
theorem ro_dic {ι : Pl} {H : Hp} {d : Addr} {n : Nat} {ks : List (W × W)} {ls : List (Key × V)} (hd : ι.own[n]? = some d) (hu : H d = some (.dK ls)) (r : RKV I ι H ks ls) (l : ks.length ≤ LIM) (nd : (ls.map (·.1)).Nodup) :
    (∀ od, RO I ι (upd H d (.frz od (.dK ls))) (.dicL ks) d) ∧ ∀ od ι' H', Ext ι (upd H d (.frz od (.dK ls))) ι' H' → RO I ι' (upd H' d (.dK ls)) (.dic ks) d :=
  ⟨fun od => ⟨od, ls, upd_same, RKV.mo (Mw.own (List.mem_of_getElem? hd)) r, l, nd⟩, fun od ι' H' e => ⟨ls, upd_same, RKV.mo (Mw.own (List.mem_of_getElem? (e.ix hd))) ((RKV.mo (Mw.own (List.mem_of_getElem? hd)) r).ext e), l, nd⟩⟩
theorem ro_dicT {ι : Pl} {H : Hp} {d : Addr} {n : Nat} {ks : List (W × W)} {ls : List (List Key × V)} (hd : ι.own[n]? = some d) (hu : H d = some (.dT ls)) (r : RKVT I ι H ks ls) (l : ks.length ≤ LIM) (nd : (ls.map (·.1)).Nodup) :
    (∀ od, RO I ι (upd H d (.frz od (.dT ls))) (.dicTL ks) d) ∧ ∀ od ι' H', Ext ι (upd H d (.frz od (.dT ls))) ι' H' → RO I ι' (upd H' d (.dT ls)) (.dicT ks) d :=
  ⟨fun od => ⟨od, ls, upd_same, RKVT.mo (Mw.own (List.mem_of_getElem? hd)) r, l, nd⟩, fun od ι' H' e => ⟨ls, upd_same, RKVT.mo (Mw.own (List.mem_of_getElem? (e.ix hd))) ((RKVT.mo (Mw.own (List.mem_of_getElem? hd)) r).ext e), l, nd⟩⟩
def isLk : Z.I → Bool
  | .seqR a => simp a
  | .keys a => simp a
  | .w _ a => simp a
  | _ => false
theorem bind_assoc {α β γ : Type} {f : α → EH → T β} {g : β → EH → T γ} : ∀ {t : T α}, (t.bind f).bind g = t.bind fun a h => (f a h).bind g
  | .fail => rfl
  | .ok _ _ => rfl
  | .exc _ _ => rfl
  | .draw n k => by
    show T.draw n _ = T.draw n _
    congr 1
    funext i
    exact bind_assoc (t := k i)
theorem bind_ok {α : Type} : ∀ {t : T α}, (t.bind fun a h => .ok a h) = t
  | .fail => rfl
  | .ok _ _ => rfl
  | .exc _ _ => rfl
  | .draw n k => by
    show T.draw n _ = T.draw n _
    congr 1
    funext i
    exact bind_ok (t := k i)
/-- a walk with a lock: the inner reading is asked of what is locked -/
theorem walk_lock {it : Z.I} {t : TE} {k : Z.Env → List W → EH → T W} (hr : ∀ σ H Q, tE I (fun σ h => (evIl C M ini it σ h).bind fun p h => k σ p.1 h) Wx σ H Q → t σ H Q) (hs : isLk it = true) {σ : St} {H : Hp} {Q : VK}
    (hw : tE I (fun σ h => (evI C M ini it σ h).bind fun p h => (k σ p.1 h).bind fun w h => .ok w (unlock p.2 h)) Wx σ H Q) : t σ H Q ∨ tLockE t σ H Q := by
  obtain ⟨ι, h, σc, rs, rp, q⟩ := hw
  cases it with
  | seqR a =>
    have hs' : simp a = true := hs
    simp only [evI] at q
    rcases simp_ev (C := C) (M := M) (ini := ini) (σ := σc) (h := h) a hs' with e1 | ⟨w1, e1⟩
    · rw [e1] at q; exact q.elim
    · rw [e1] at q
      cases w1 <;> first | exact q.elim | skip
      rename_i n
      simp only [T.bind] at q
      cases hx : h[n]? with
      | none => rw [hx] at q; exact q.elim
      | some o =>
        rw [hx] at q
        cases o <;> first | exact q.elim | skip
        · rename_i xs
          obtain ⟨d, hd, vs, g1, g2, g3⟩ := rp.ob n _ hx
          obtain ⟨hL, hU⟩ := ro_lst hd g1 g2 g3
          have e2 := simp_set hx (.l xs) a _ hs' e1
          refine .inr (lock_go hr rs rp hd g1 trivial hL hU ?_)
          have hl : n < h.length := (List.getElem?_eq_some_iff.mp hx).1
          simp only [evIl, e2, T.bind, List.getElem?_set_self hl]
          exact q
        · rename_i xs
          refine .inl (hr _ _ _ ⟨ι, h, σc, rs, rp, ?_⟩)
          simp only [evIl, e1, T.bind, hx]
          have q2 : ((k σc xs h).bind fun w h => T.ok w h).All (Pv I ι H Q) (Px I ι H Wx) := q
          rw [bind_ok] at q2
          exact q2
  | keys a =>
    have hs' : simp a = true := hs
    simp only [evI] at q
    rcases simp_ev (C := C) (M := M) (ini := ini) (σ := σc) (h := h) a hs' with e1 | ⟨w1, e1⟩
    · rw [e1] at q; exact q.elim
    · rw [e1] at q
      cases w1 <;> first | exact q.elim | skip
      rename_i n
      simp only [T.bind] at q
      cases hx : h[n]? with
      | none => rw [hx] at q; exact q.elim
      | some o =>
        rw [hx] at q
        cases o <;> first | exact q.elim | skip
        · rename_i xs
          obtain ⟨d, hd, vs, g1, g2, g3, g4⟩ := rp.ob n _ hx
          obtain ⟨hL, hU⟩ := ro_dic hd g1 g2 g3 g4
          have e2 := simp_set hx (.d xs) a _ hs' e1
          refine .inr (lock_go hr rs rp hd g1 trivial hL hU ?_)
          have hl : n < h.length := (List.getElem?_eq_some_iff.mp hx).1
          simp only [evIl, e2, T.bind, List.getElem?_set_self hl]
          exact q
        · rename_i xs
          refine .inl (hr _ _ _ ⟨ι, h, σc, rs, rp, ?_⟩)
          simp only [evIl, e1, T.bind, hx]
          have q2 : ((k σc (xs.map (·.1)) h).bind fun w h => T.ok w h).All (Pv I ι H Q) (Px I ι H Wx) := q
          rw [bind_ok] at q2
          exact q2
  | w wk a =>
    have hs' : simp a = true := hs
    simp only [evI] at q
    rcases simp_ev (C := C) (M := M) (ini := ini) (σ := σc) (h := h) a hs' with e1 | ⟨w1, e1⟩
    · rw [e1] at q; exact q.elim
    · rw [e1] at q
      simp only [T.bind] at q
      -- by value, or locked already
      have free : ∀ ys : List W, wkIl wk w1 h = .ok (ys, .no) h → ((k σc ys h).bind fun w h => T.ok w h).All (Pv I ι H Q) (Px I ι H Wx) → t σ H Q ∨ tLockE t σ H Q := fun ys el q2 => by
        refine .inl (hr _ _ _ ⟨ι, h, σc, rs, rp, ?_⟩)
        rw [bind_ok] at q2
        simp only [evIl, e1, T.bind, el]
        exact q2
      cases wk with
      | vals =>
        simp only [wkI] at q
        cases w1 <;> first | exact q.elim | skip
        rename_i n
        simp only at q
        cases hx : h[n]? with
        | none => rw [hx] at q; exact q.elim
        | some o =>
          rw [hx] at q
          cases o <;> first | exact q.elim | skip
          · rename_i xs
            obtain ⟨d, hd, vs, g1, g2, g3, g4⟩ := rp.ob n _ hx
            obtain ⟨hL, hU⟩ := ro_dic hd g1 g2 g3 g4
            have e2 := simp_set hx (.d xs) a _ hs' e1
            refine .inr (lock_go hr rs rp hd g1 trivial hL hU ?_)
            have hl : n < h.length := (List.getElem?_eq_some_iff.mp hx).1
            simp only [evIl, wkIl, e2, T.bind, List.getElem?_set_self hl]
            exact q
          · rename_i xs
            exact free _ (by simp only [wkIl, hx]) q
      | items =>
        simp only [wkI] at q
        cases w1 <;> first | exact q.elim | skip
        rename_i n
        simp only at q
        cases hx : h[n]? with
        | none => rw [hx] at q; exact q.elim
        | some o =>
          rw [hx] at q
          cases o <;> first | exact q.elim | skip
          · rename_i xs
            obtain ⟨d, hd, vs, g1, g2, g3, g4⟩ := rp.ob n _ hx
            obtain ⟨hL, hU⟩ := ro_dic hd g1 g2 g3 g4
            have e2 := simp_set hx (.d xs) a _ hs' e1
            refine .inr (lock_go hr rs rp hd g1 trivial hL hU ?_)
            have hl : n < h.length := (List.getElem?_eq_some_iff.mp hx).1
            simp only [evIl, wkIl, e2, T.bind, List.getElem?_set_self hl]
            exact q
          · rename_i xs
            exact free _ (by simp only [wkIl, hx]) q
      | keysT =>
        simp only [wkI] at q
        cases w1 <;> first | exact q.elim | skip
        rename_i n
        simp only at q
        cases hx : h[n]? with
        | none => rw [hx] at q; exact q.elim
        | some o =>
          rw [hx] at q
          cases o <;> first | exact q.elim | skip
          · rename_i xs
            obtain ⟨d, hd, vs, g1, g2, g3, g4⟩ := rp.ob n _ hx
            obtain ⟨hL, hU⟩ := ro_dicT hd g1 g2 g3 g4
            have e2 := simp_set hx (.t xs) a _ hs' e1
            refine .inr (lock_go hr rs rp hd g1 trivial hL hU ?_)
            have hl : n < h.length := (List.getElem?_eq_some_iff.mp hx).1
            simp only [evIl, wkIl, e2, T.bind, List.getElem?_set_self hl]
            exact q
          · rename_i xs
            exact free _ (by simp only [wkIl, hx]) q
      | enum =>
        simp only [wkI] at q
        cases w1 <;> first | exact q.elim | skip
        · rename_i xs
          exact free _ (by simp only [wkIl]) q
        · rename_i xs
          exact free _ (by simp only [wkIl]) q
        · rename_i n
          simp only at q
          cases hx : h[n]? with
          | none => rw [hx] at q; exact q.elim
          | some o =>
            rw [hx] at q
            cases o <;> first | exact q.elim | skip
            · rename_i xs
              obtain ⟨d, hd, vs, g1, g2, g3⟩ := rp.ob n _ hx
              obtain ⟨hL, hU⟩ := ro_lst hd g1 g2 g3
              have e2 := simp_set hx (.l xs) a _ hs' e1
              refine .inr (lock_go hr rs rp hd g1 trivial hL hU ?_)
              have hl : n < h.length := (List.getElem?_eq_some_iff.mp hx).1
              simp only [evIl, wkIl, e2, T.bind, List.getElem?_set_self hl]
              exact q
            · rename_i xs
              exact free _ (by simp only [wkIl, hx]) q
      | rev =>
        simp only [wkI] at q
        cases w1 <;> first | exact q.elim | skip
        · rename_i xs
          exact free _ (by simp only [wkIl]) q
        · rename_i xs
          exact free _ (by simp only [wkIl]) q
        · rename_i n
          simp only at q
          cases hx : h[n]? with
          | none => rw [hx] at q; exact q.elim
          | some o =>
            rw [hx] at q
            cases o <;> first | exact q.elim | skip
            · rename_i xs
              obtain ⟨d, hd, vs, g1, g2, g3⟩ := rp.ob n _ hx
              obtain ⟨hL, hU⟩ := ro_lst hd g1 g2 g3
              have e2 := simp_set hx (.l xs) a _ hs' e1
              refine .inr (lock_go hr rs rp hd g1 trivial hL hU ?_)
              have hl : n < h.length := (List.getElem?_eq_some_iff.mp hx).1
              simp only [evIl, wkIl, e2, T.bind, List.getElem?_set_self hl]
              exact q
            · rename_i xs
              exact free _ (by simp only [wkIl, hx]) q
  | _ => cases hs
/-- what is walked without a lock -/
theorem walk_free {it : Z.I} {t : TE} {k : Z.Env → List W → EH → T W} (hr : ∀ σ H Q, tE I (fun σ h => (evIl C M ini it σ h).bind fun p h => k σ p.1 h) Wx σ H Q → t σ H Q) (hs : match it with | .seqR _ => False | .keys _ => False | .w _ _ => False | _ => True) {σ : St} {H : Hp} {Q : VK}
    (hw : tE I (fun σ h => (evI C M ini it σ h).bind fun p h => (k σ p.1 h).bind fun w h => .ok w (unlock p.2 h)) Wx σ H Q) : t σ H Q := by
  refine hr _ _ _ ?_
  have e : (fun σ h => (evI C M ini it σ h).bind fun p h => (k σ p.1 h).bind fun w h => T.ok w (unlock p.2 h)) = fun σ h => (evIl C M ini it σ h).bind fun p h => k σ p.1 h := by
    funext σ h
    cases it with
    | seq a =>
      simp only [evIl, evI, bind_assoc]
      congr 1
      funext x h
      cases x <;> simp only [T.bind] <;> exact bind_ok
    | rng a =>
      simp only [evIl, evI, bind_assoc]
      congr 1
      funext x h
      cases x <;> simp only [T.bind]
      split
      · exact bind_ok
      · rfl
    | rng2 a b =>
      simp only [evIl, evI, bind_assoc]
      congr 1
      funext x h
      congr 1
      funext y h
      cases x <;> cases y <;> simp only [T.bind]
      split
      · exact bind_ok
      · rfl
    | seqR _ => exact hs.elim
    | keys _ => exact hs.elim
    | w _ _ => exact hs.elim
    | zip a b => simp only [evIl, evI, T.bind]
  rw [e] at hw
  exact hw
end
end Z
namespace ZI
open PySem PySem.Spec PyProof.Rows L2
theorem meets_enumT (l : Addr) (items : Array Value) :
    Meets (Builtin.«enumerate.__new__» ⟨[.type "enumerate", .ref l], []⟩) (fun _ R s => s.heap.IsTuple l items ∧
      R (.ok (.ret (.ref (s.heap.push { cls := .type "tuple_iterator", data := .fields #[.ref l, .int 0 0] }).objs.size)))
        { s with heap := (s.heap.push { cls := .type "tuple_iterator", data := .fields #[.ref l, .int 0 0] }).push { cls := .type "enumerate", data := .fields #[.none, .bool false, .ref s.heap.objs.size, rawInt 0, .none, .none] } }) :=
  .of_wp fun prog w A R s h => by
    obtain ⟨hp, g, d, tk, os⟩ := s; obtain ⟨hl, h⟩ := h
    have hsub := sub_enumerate
    have q1 : ∀ {A' : Around} {E : Value → Shared → Prop} {Q : Value → Shared → Prop}, Q (.ref hp.objs.size) ⟨(hp.push { cls := .type "tuple_iterator", data := .fields #[.ref l, .int 0 0] }), g, d, tk, os⟩ → wpAny (model prog w) A' (pyIter (.ref l)) Q E ⟨hp, g, d, tk, os⟩ :=
      fun q => wpAny_pyIter_tuple hl q
    wp_walk using q1
    refine wpAny_stack_any fun st => wpAny_pure ?_
    split
    · rename_i c _ _ _ _ _
      cases (c == Value.type "enumerate")
      · wp_walk using q1
        exact ⟨_, rfl, h⟩
      · wp_walk using q1
        exact ⟨_, rfl, h⟩
    · wp_walk using q1
      exact ⟨_, rfl, h⟩
section
variable {prog : Program} {w : World} {A : Around} {E : Value → Shared → Prop} {s : Shared}
theorem call_enumT {l : Addr} {items : Array Value} {Q : Value → Shared → Prop} (hL : s.heap.IsTuple l items)
    (h : ∀ h', IsEnum h' (s.heap.objs.size + 1) s.heap.objs.size 0 .none → h'.IsTupleIter s.heap.objs.size l 0 → h'.objs.size = s.heap.objs.size + 2 →
      (∀ b o, s.heap.get? b = some o → h'.get? b = some o) → Q (.ref (s.heap.objs.size + 1)) { s with heap := h' }) :
    wpAny (model prog w) A (call (.type "enumerate") [.ref l]) Q E s := by
  refine callType_new F.called_enumerate (by decide) (F.typeCall_enumerate_1 _) (F.newCall_enumerate_1 _) (fun obj => F.args_object_init_2 obj _) F.entry_enumerate_new
    (meets_enumT l items) ⟨hL, ?_⟩
  have hz : (s.heap.push { cls := .type "tuple_iterator", data := .fields #[.ref l, .int 0 0] }).objs.size = s.heap.objs.size + 1 := Heap.size_push ..
  show _ ∧ _
  rw [hz]
  have he : IsEnum ((s.heap.push { cls := .type "tuple_iterator", data := .fields #[.ref l, .int 0 0] }).push
      { cls := .type "enumerate", data := .fields #[.none, .bool false, .ref s.heap.objs.size, rawInt 0, .none, .none] }) (s.heap.objs.size + 1) s.heap.objs.size 0 .none := by
    have := Heap.get?_push_size (s.heap.push { cls := .type "tuple_iterator", data := .fields #[.ref l, .int 0 0] })
      (o := { cls := .type "enumerate", data := .fields #[.none, .bool false, .ref s.heap.objs.size, rawInt 0, .none, .none] }) rfl
    rw [hz] at this; exact this
  refine ⟨⟨_, he, rfl⟩, h _ he ⟨_, Heap.get?_push_of_some _ (Heap.get?_push_size _ rfl), rfl, rfl⟩ (by rw [Heap.size_push, hz]) fun b o x => Heap.get?_push_of_some _ (Heap.get?_push_of_some _ x)⟩
end
/-- the tuple at a, each item in a new pair -/
def IteT (K : PySem.W.Frag) (a : Addr) : It :=
  ⟨fun i H => ∃ (xs : List V) (x : V), SqT K H a xs ∧ xs[i]? = some x, fun i H v H' => ∃ T x, v = .ref T ∧ H T = none ∧ H' = upd H T (.tup [.int (i : Nat), x]) ∧ ∀ xs, SqT K H a xs → xs[i]? = some x, fun i H => ∃ xs : List V, SqT K H a xs ∧ xs.length ≤ i⟩
theorem turn_enumT {P : Program} {w : World} {K : PySem.W.Frag} {elts : List Expr} {kk : Nat} {tpos : Pos} (a e it : Addr) (hai : a ≠ it) :
    Turn P w K (.Tuple elts kk tpos) (IteT K a) [e, it] e (fun i h => (∃ old, IsEnum h e it ((i : Nat) : Int) old) ∧ h.IsTupleIter it a i ∧ e ≠ it ∧ e ≠ a) where
  mem := by simp
  obj := fun i h st b hb => by
    obtain ⟨⟨old, he⟩, ⟨o, ho, hc, hd⟩, _⟩ := st
    have e' : b = e ∨ b = it := by simpa using hb
    rcases e' with z | z
    · rw [z]; exact ⟨_, he, fun v q => nomatch q⟩
    · rw [z]; exact ⟨o, ho, fun v q => by rw [hd] at q; cases q⟩
  keep := fun i h h' st k => let ⟨⟨old, he⟩, hi, hne, hna⟩ := st; ⟨⟨old, k e (by simp) _ he⟩, hi.at fun o q => k it (by simp) o q, hne, hna⟩
  item := by
    intro X hP hw hK hc i pins s σ H E I hf st hg
    subst hP hw hK
    obtain ⟨⟨old, he⟩, hit, hne, hna⟩ := st
    obtain ⟨xs, x, hq, hx⟩ := hg
    obtain ⟨its, rv, p, hz⟩ := I.tuple hq
    obtain ⟨u, hu, ru⟩ := rv.get hx
    have hel : e < s.heap.objs.size := Heap.lt_size he
    have hil : it < s.heap.objs.size := by obtain ⟨_, q, _⟩ := hit; exact Heap.lt_size q
    have hlt : i < its.toArray.size := by
      have := (List.getElem?_eq_some_iff.mp hu).1
      simpa using this
    refine wpAny_pyNext_enum_itemC (Draws.tuple (A := X.A.in1) (show X.A.in1.handled = none from I.ok.hd hc) it a hai its.toArray) he ⟨hit, p⟩ hlt hne (by simp [hne, hna]) fun x' h' tk hP ho hs' hT hsz hk => ?_
    have hux : x' = u := by
      have h2 : its.toArray[i]? = some u := by rw [← Array.getElem?_toList]; simpa using hu
      rw [h2] at hP; exact (Option.some.inj hP).symm
    subst hux
    refine ⟨_, rfl, wpAny_letOwnedTupleGo_enum (s := { s with heap := h', toks := tk + 1 }) ho fun h'' he' sb => ?_⟩
    have hT2 : h''.get? s.heap.objs.size = some { cls := .type "tuple", data := .seq #[.int i tk, x'] } := (sb.2 _ (Nat.ne_of_gt hel)).trans hT
    have new : ObjOk X.prog X.w (upd H s.heap.objs.size (.tup [.int (i : Nat), x])) h'' s.heap.objs.size (.tup [.int (i : Nat), x]) :=
      ⟨by show 2 ≤ sizeLine; decide, [.int i tk, x'], .cons ⟨_, rfl⟩ (.cons ru .nil), ⟨_, hT2, rfl, _, rfl⟩⟩
    have I1 : Inv X pins σ (upd H s.heap.objs.size (.tup [.int (i : Nat), x])) { s with heap := h'', toks := tk + 1 } :=
      I.turnedNew (ch := [e, it]) (fun b ob hb q => (sb.2 b (fun z => hb (by simp [z]))).trans (hk b ob (fun z => hb (by simp [z])) (fun z => hb (by simp [z])) q)) hf (Nat.le_refl _) new
    refine ⟨.ref s.heap.objs.size, _, I1, rfl, ⟨_, x, rfl, I.hok.fresh (Nat.le_refl _), rfl, fun ys hy => by rw [I.tuple_inj hy hq]; exact hx⟩, ⟨⟨x', ?_⟩, hs'.1.at fun o q => (sb.2 it (Ne.symm hne)).trans q, hne, hna⟩, fun b hb => ?_⟩
    · have e1 : ((i + 1 : Nat) : Int) = (i : Int) + 1 := by omega
      rw [e1]; exact he'
    · have hb' : b < s.heap.objs.size := by
        have e' : b = e ∨ b = it := by simpa using hb
        rcases e' with z | z
        · rw [z]; exact hel
        · rw [z]; exact hil
      rw [upd_ne (Nat.ne_of_lt hb')]
      exact (hf b hb).1
  done := by
    intro X hP hw hK hc i pins s σ H E I hf st hg
    subst hP hw hK
    obtain ⟨⟨old, he⟩, hit, hne, hna⟩ := st
    obtain ⟨xs, hq, hx⟩ := hg
    obtain ⟨its, rv, p, hz⟩ := I.tuple hq
    obtain ⟨f0, f1, f2, f3, f4, f5⟩ := hf it (by simp)
    have hl := rv.length
    have hT : s.TypeIs (.ref e) "enumerate" := ⟨_, he, rfl⟩
    unfold pyNext
    refine wpAny_bind (wpAny_attempt (wpAny_callSpecial?_slot (name := Str.ofString "__next__") hT F.slot_enumerate_next
      (wpAny_call_entry F.slot_enumerate_next hT F.entry_enumerate_next ?_ (F.args_enumerate_next_1 _))))
    show wpAny _ _ (field (.ref e) 2 >>= _) _ _ _
    refine wpAny_bind (wpAny_field he rfl (x := .ref it) rfl ?_)
    refine wpAny_bind (wpAny_nextOf_tuple_end (I.ok.hd hc) hit p (by simp; omega) fun h' x he' hx' => ?_)
    obtain ⟨o, ho, hc⟩ := hx'
    refine wpAny_bind (wpAny_isInstance (T := "StopIteration") (b := true) ⟨o, ho, hc⟩ isSubtype_stop ?_)
    exact wpAny_pure ⟨rfl, I.turned (t' := s.toks) (fun b o hb q => he' b o hb q) f0 f1 f3 f4 f5⟩
  self := fun A i s Q E st h => let ⟨⟨_, he⟩, _⟩ := st; wpAny_pyIter_enum he h
/-- enumerate(a list or a tuple) -/
def iEnumA (K : PySem.W.Frag) (te : TE) : TI := fun σ H R => te σ H fun v H1 => ∃ a xs, v = .ref a ∧ ((SqL K H1 a xs ∧ R (Ite K a) H1) ∨ (SqT K H1 a xs ∧ R (IteT K a) H1))
theorem pi_enumA {X : Cx} {e : Expr} {te : TE} {p pos tpos : Pos} {elts : List Expr} {kk : Nat} (hg : Gl X "enumerate") (hm : X.mg "enumerate" = none) (he : PE X e te) (hs : starEach [e] X.env = (false, eval e X.env) :: starEach [] X.env := by rfl) :
    PI X (.Tuple elts kk tpos) (.Call (.Name "enumerate" p) [e] [] pos) (iEnumA X.K te) := by
  refine ⟨fun pins s σ H R I h => ?_⟩
  refine Call_ (ld_blt I hg hm boot_enumerate (PyProof.Rows.callWith_type1 (args_cons (thn (he.run pins s σ H _ I h) fun u s1 ⟨v, H1, I1, r1, q1⟩ => args_nil ?_) hs) hs rfl))
  obtain ⟨a, xs, ev, q⟩ := q1
  subst ev
  obtain rfl : u = Value.ref a := r1
  have fin : ∀ {tg : Expr} {J : It} {tn : Nat → Heap → Prop} {h' : Heap}, (∀ b o, s1.heap.get? b = some o → h'.get? b = some o) → Turn X.prog X.w X.K tg J [s1.heap.objs.size + 1, s1.heap.objs.size] (s1.heap.objs.size + 1) tn → tn 0 h' → R J H1 →
      PIE X pins σ tg R (.ref (s1.heap.objs.size + 1)) { s1 with heap := h' } := fun {tg J tn h'} hk T st q => by
    have I2 : Inv X pins σ H1 { s1 with heap := h' } := I1.kept (t' := s1.toks) hk
    refine ⟨s1.heap.objs.size + 1, [s1.heap.objs.size + 1, s1.heap.objs.size], _, _, H1, rfl, I2, T, st, fun b hb => ?_, q⟩
    have e' : b = s1.heap.objs.size + 1 ∨ b = s1.heap.objs.size := by simpa using hb
    have hle : s1.heap.objs.size ≤ b := by
      rcases e' with z | z
      · rw [z]; exact Nat.le_add_right _ _
      · rw [z]; exact Nat.le_refl _
    exact I1.fpOk hle (I1.hok.fresh hle)
  rcases q with ⟨hq, q⟩ | ⟨hq, q⟩
  · obtain ⟨its, rv, p', hz⟩ := I1.list hq
    exact call_enumerate_list p'.isList fun h' he hit hsz hk => wpAny_pyIter_enum he (fin hk (turn_enum a (s1.heap.objs.size + 1) s1.heap.objs.size) ⟨⟨.none, he⟩, hit, Nat.succ_ne_self _⟩ q)
  · obtain ⟨its, rv, p', hz⟩ := I1.tuple hq
    obtain ⟨ol, hol, _⟩ := id p'
    have hal : a < s1.heap.objs.size := Heap.lt_size hol
    exact call_enumT p' fun h' he hit hsz hk => wpAny_pyIter_enum he (fin hk (turn_enumT a (s1.heap.objs.size + 1) s1.heap.objs.size (Nat.ne_of_lt hal)) ⟨⟨.none, he⟩, hit, Nat.succ_ne_self _, Nat.ne_of_gt (Nat.lt_succ_of_lt hal)⟩ q)
end ZI
namespace ZI
open PySem PySem.Spec PyProof.Rows L2
section
variable {prog : Program} {w : World} {A : Around} {E : Value → Shared → Prop} {s : Shared}
/-- sorted(x): x gives vs, which are sorted -/
theorem sorted_shell {x : Value} {vs : List Value} {P : List Value → Prop} {Q : Value → Shared → Prop} (hz : vs.length ≤ sizeLine)
    (hcol : ∀ (R : List Value → Shared → Prop) (E' : Value → Shared → Prop), (∀ h' tk, (∀ b o, s.heap.get? b = some o → h'.get? b = some o) → R vs { s with heap := h', toks := tk }) → wpAny (model prog w) A.in1 (collect x) R E' s)
    (hsort : ∀ (h₁ : Heap) (tk : Nat) (a : Addr) (R : PySem.Fin → Shared → Prop) (E' : Value → Shared → Prop), h₁.get? a = some (seqObj "list" vs.toArray 0) → (∀ b o, s.heap.get? b = some o → b ≠ a ∧ h₁.get? b = some o) →
      (∀ out : List Value, P out → R (.done (.ret .none)) { s with heap := sortedHeap h₁ a vs out.toArray, toks := tk }) → wpAny (model prog w) A.in1.in1 (Builtin.«list.sort» ⟨[.ref a], []⟩) R E' { s with heap := h₁, toks := tk })
    (h : ∀ (h₀ h' : Heap) (tk : Nat) (out : List Value), P out → (∀ b o, s.heap.get? b = some o → h₀.get? b = some o) → (∀ b o, h₀.get? b = some o → h'.get? b = some o) → (∃ n, h'.get? h₀.objs.size = some (seqObj "list" out.toArray n)) → Q (.ref h₀.objs.size) { s with heap := h', toks := tk }) :
    wpAny (model prog w) A (call (.builtin "sorted") [x]) Q E s := by
  refine Calls.call_function_entry kind_sorted plain_sorted entry_sorted (args_sorted1 _) ?_
  unfold Builtin.«sorted»
  refine wpAny_bind (m := checkCount "sorted" 1 1 _) (wpAny_pure ?_)
  refine wpAny_bind (hcol _ _ fun h' tk keep => ?_)
  refine wpAny_bind (wpAny_newList ?_ hz)
  have hoL : (h'.push (seqObj "list" vs.toArray 0)).get? h'.objs.size = some (seqObj "list" vs.toArray 0) := Heap.get?_push_size _ rfl
  have keep2 : ∀ b o, s.heap.get? b = some o → b ≠ h'.objs.size ∧ (h'.push (seqObj "list" vs.toArray 0)).get? b = some o := fun b o q =>
    ⟨Nat.ne_of_lt (Heap.lt_size (keep b o q)), Heap.get?_push_of_some _ (keep b o q)⟩
  show wpAny _ _ _ _ _ { s with heap := h'.push (seqObj "list" vs.toArray 0), toks := tk }
  refine wpAny_bind (wpAny_holding (wpAny_call_entry slot_list_sort ⟨_, hoL, rfl⟩ entry_list_sort (hsort (h'.push (seqObj "list" vs.toArray 0)) tk _ _ _ hoL keep2 fun out hp => ⟨_, rfl, ?_⟩) (args_list_sort _)))
  obtain ⟨e', he'⟩ := PyProof.Rows.sortedHeap_at (vs := vs) (out := out.toArray) hoL
  refine wpAny_pure ⟨_, rfl, h h' _ tk out hp keep (fun b o q => ?_) ⟨e', he'⟩⟩
  rw [PyProof.Rows.sortedHeap_old (Nat.ne_of_lt (Heap.lt_size q)) (by rw [Heap.size_push]; exact Nat.lt_succ_of_lt (Heap.lt_size q))]
  exact Heap.get?_push_of_some _ q
/-- a tuple of ints -/
theorem sorted_tupI {t : Addr} {vs : List Value} {ns : List Int} {Q : Value → Shared → Prop} (ht : s.heap.IsTuple t vs.toArray) (hi : IntsAre vs ns) (hz : vs.length ≤ sizeLine)
    (h : ∀ (h₀ h' : Heap) (tk : Nat) (out : List Value) (ms : List Int), IntsAre out ms → ms.Perm ns → ms.Pairwise (· ≤ ·) → (∀ b o, s.heap.get? b = some o → h₀.get? b = some o) → (∀ b o, h₀.get? b = some o → h'.get? b = some o) → (∃ n, h'.get? h₀.objs.size = some (seqObj "list" out.toArray n)) → Q (.ref h₀.objs.size) { s with heap := h', toks := tk }) :
    wpAny (model prog w) A (call (.builtin "sorted") [.ref t]) Q E s := by
  obtain ⟨o, ho, hc, n, hd⟩ := ht
  refine sorted_shell (P := fun out => SrtO.Srtd SrtO.ltIv out ∧ SrtO.Stb SrtO.ltIv out vs) hz (fun R E' k => ?_) (fun h₁ tk a R E' ha kp k => ?_) fun h₀ h' tk out hp k0 k1 hd' => ?_
  · refine wpAny_collect_seq t (.inr rfl) ho hc hd (fun h' hk => ?_) (by simpa using hz)
    have := k h' s.toks hk
    simpa using this
  · exact SrtO.list_sort_ord (s := { s with heap := h₁, toks := tk }) SrtO.swo_int ha hz (fun h2 => SrtO.ints_sortable hi h2) fun out h1 h2 => k out ⟨h1, h2⟩
  · obtain ⟨h1, h2⟩ := hp
    obtain ⟨k1', k2, k3⟩ := SrtO.ints_out hi h1 h2
    exact h h₀ h' tk out _ k1' k2 k3 k0 k1 hd'
end
section
variable {X : Cx}
/-- sorted(t), t a tuple of ints -/
def rSortIT (K : PySem.W.Frag) : List V → Hp → VK → Prop := fun vs H Q => ∃ (a : Addr) (ns : List Int), vs = [V.ref a] ∧ SqT K H a (ns.map V.int) ∧
  ∀ (ns' : List Int) (p : Addr), ns'.Perm ns → ns'.Pairwise (· ≤ ·) → H p = none → Q (.ref p) (upd H p (.lst (ns'.map V.int)))
theorem cr_sortIT : CallR X (.builtin "sorted") (rSortIT X.K) := by
  intro pins s σ H vs us Q I r h
  obtain ⟨a, ns, rfl, hs, q⟩ := h
  obtain ⟨its, rv, hl, hz⟩ := I.tuple hs
  rw [Vals.ref1 r]
  have hi := rv.ints
  refine sorted_tupI hl hi (by rw [← rv.length]; exact hz) fun h₀ h' tk out ms k1 k2 k3 kp0 kp1 hd => ?_
  have I1 : Inv X pins σ H { s with heap := h₀, toks := tk } := I.kept kp0
  obtain ⟨n, hd⟩ := hd
  have hlen : (ms.map V.int).length ≤ sizeLine := by
    rw [List.length_map, k2.length_eq]
    rw [List.length_map] at hz
    exact hz
  exact ⟨.ref _, upd H h₀.objs.size (.lst (ms.map V.int)), I1.laid (t' := tk) kp1 (Nat.le_refl _) ⟨hlen, out, n, vals_of_ints k1, hd⟩, rfl, q _ _ k2 k3 (I1.hok.fresh (Nat.le_refl _))⟩
/-- sorted(d), d a dict with fewer than 64 keys, all tuples of d ints in [0, B) -/
def rSortDT : List V → Hp → VK → Prop := fun vs H Q => ∃ (a : Addr) (kvs : List (List Key × V)) (iss : List (List Int)) (d : Nat) (B : Int), vs = [V.ref a] ∧ Rd H a (.dT kvs) ∧ kvs.map (·.1) = iss.map (fun is => is.map Sum.inl) ∧ iss.length < 64 ∧ 1 ≤ d ∧
  (∀ is ∈ iss, is.length = d ∧ TS.Bd B is) ∧
  ∀ (out : List (Addr × List Int)) (p : Addr), (out.map (·.2)).Perm iss → (∀ x ∈ out, H x.1 = some (.tup (x.2.map V.int))) → out.Pairwise (fun x y => TS.code B x.2 ≤ TS.code B y.2) → H p = none → Q (.ref p) (upd H p (.lst (out.map fun x => V.ref x.1)))
theorem cr_sortDT (hc : X.calm = true) : CallR X (.builtin "sorted") rSortDT := by
  intro pins s σ H vs us Q I r h
  obtain ⟨a, kvs, iss, d, B, rfl, hd, hk, h64, h1d, hB, q⟩ := h
  rw [Vals.ref1 r]
  obtain ⟨z, hs, ks, pr, o, es, ep, ho, hx, hdt, he, hn⟩ := (show ObjOk X.prog X.w H s.heap a (.dT kvs) from hd.ok I.hok)
  have l1 : es.size = ks.length := size_of_entries he
  have l2 : kvs.length = ks.length := Paired.length pr
  have l3 : kvs.length = iss.length := by
    have e := congrArg List.length hk
    rwa [List.length_map, List.length_map] at e
  -- the keys: address and ints
  have keys : ∀ {kvs : List (List Key × V)} {ks : List (List Key × Addr × Value)} {iss : List (List Int)}, KT H kvs ks → kvs.map (·.1) = iss.map (fun is => is.map Sum.inl) →
      ∃ L : List (Addr × List Int), L.map (·.2) = iss ∧ L.map (fun x => Value.ref x.1) = ks.map (fun x => Value.ref x.2.1) ∧ ∀ x ∈ L, H x.1 = some (.tup (x.2.map V.int)) := by
    intro kvs ks iss pr
    induction pr generalizing iss with
    | nil =>
      intro e
      cases iss with
      | nil => exact ⟨[], rfl, rfl, by simp⟩
      | cons _ _ => cases e
    | @cons p q ps qs hq t ih =>
      intro e
      cases iss with
      | nil => cases e
      | cons is iss =>
        rw [List.map_cons, List.map_cons] at e
        injection e with e1 e2
        obtain ⟨L, h1, h2, h3⟩ := ih e2
        refine ⟨(q.2.1, is) :: L, by rw [List.map_cons, h1], by rw [List.map_cons, List.map_cons, h2], fun x hx => ?_⟩
        rcases List.mem_cons.mp hx with rfl | hx
        · have e3 := hq.2.1
          have e1 : p.1 = is.map Sum.inl := e1
          rw [e1, List.map_map] at e3
          exact e3
        · exact h3 x hx
  obtain ⟨L, L1, L2, L3⟩ := keys pr hk
  have hLl : L.length = iss.length := by rw [← L1, List.length_map]
  have tup : ∀ x ∈ L, TS.TupInts s.heap (.ref x.1) x.2 := fun x hx => tupI_raw I (.inl (.inl (L3 x hx)))
  have hz64 : (L.map fun x => Value.ref x.1).length < 64 := by rw [List.length_map, hLl]; exact h64
  refine sorted_shell (vs := L.map fun x => Value.ref x.1) (P := fun out => out.Perm (L.map fun x => Value.ref x.1) ∧ out.Pairwise (fun u v => TS.code B (TS.intsOf s.heap u) ≤ TS.code B (TS.intsOf s.heap v))) (by rw [sizeLine_eq]; omega) (fun R E' k => ?_) (fun h₁ tk b R E' hb kp k => ?_) fun h₀ h' tk out hp k0 k1 hd' => ?_
  · refine PySem.W.kdu_collect (A := X.A.in1) (kdl_raw hs hx hdt) (I.ok.hd hc) ho (by omega) fun h' tk acc kp it => ?_
    have ea : acc.toList = ks.map fun x => Value.ref x.2.1 := by
      have hl : acc.toList.length = ks.length := by rw [Array.length_toList, it.1]; exact l1
      apply List.ext_getElem?
      intro j
      rw [List.getElem?_map]
      cases hj : acc.toList[j]? with
      | none =>
        have h1 := List.getElem?_eq_none_iff.mp hj
        rw [List.getElem?_eq_none (by omega)]
        all_goals rfl
      | some v =>
        obtain ⟨en, hen, hv⟩ := it.2 j v (by rw [← Array.getElem?_toList]; exact hj)
        have qe := entry_at he j
        rw [hen] at qe
        cases hb : ks[j]? with
        | none =>
          rw [hb] at qe
          exact nomatch (show some en = none from qe)
        | some b =>
          rw [hb] at qe
          have e2 : en = entryOfKey (tupleKind (mixKind X.prog X.w)) b := Option.some.inj qe
          rw [hv, e2]
          all_goals rfl
    rw [ea, ← L2]
    exact k h' tk kp
  · have ok : TS.TupsOk h₁ d B (L.map fun x => Value.ref x.1) := fun v hv => by
      obtain ⟨x, hx, rfl⟩ := List.mem_map.mp hv
      have hm : x.2 ∈ iss := by rw [← L1]; exact List.mem_map.mpr ⟨x, hx, rfl⟩
      exact ⟨x.2, (tup x hx).keeps fun b' o' e _ => (kp b' o' e).2, (hB _ hm).1, (hB _ hm).2⟩
    refine TS.sort_tups (s := { s with heap := h₁, toks := tk }) hb hz64 h1d ok (fun v => TS.code B (TS.intsOf s.heap v)) (fun v hv ns t => ?_) fun out h1 h2 => ?_
    · obtain ⟨x, hx, rfl⟩ := List.mem_map.mp hv
      have e : ns = x.2 := t.ints.symm.trans ((tup x hx).keeps fun b' o' e _ => (kp b' o' e).2).ints
      rw [e]
      show TS.code B (TS.intsOf s.heap _) = _
      rw [(tup x hx).ints]
    · have := k out.toList ⟨h1, h2⟩
      rwa [Array.toArray_toList] at this
  · obtain ⟨hp, hw⟩ := hp
    have I1 : Inv X pins σ H { s with heap := h₀, toks := tk } := I.kept k0
    obtain ⟨n, hd'⟩ := hd'
    -- out, told by address and ints
    have back : ∀ {out : List Value} {L : List (Addr × List Int)}, out.Perm (L.map fun x => Value.ref x.1) → ∃ M : List (Addr × List Int), M.Perm L ∧ out = M.map fun x => Value.ref x.1 := by
      intro out L hp
      generalize e : (L.map fun x => Value.ref x.1) = l at hp
      induction hp generalizing L with
      | nil => exact ⟨L, List.Perm.refl _, e.symm⟩
      | @cons x l₁ l₂ _ ih =>
        cases L with
        | nil => cases e
        | cons y L =>
          rw [List.map_cons] at e
          injection e with e1 e2
          obtain ⟨M, p, q⟩ := ih e2
          exact ⟨y :: M, p.cons y, by rw [List.map_cons, ← q, e1]⟩
      | swap x y l =>
        cases L with
        | nil => cases e
        | cons a L =>
          cases L with
          | nil => cases e
          | cons b L =>
            rw [List.map_cons, List.map_cons] at e
            injection e with e1 e2
            injection e2 with e2 e3
            exact ⟨b :: a :: L, List.Perm.swap .., by rw [List.map_cons, List.map_cons, e1, e2, e3]⟩
      | trans _ _ ih1 ih2 =>
        obtain ⟨M, p, q⟩ := ih2 e
        obtain ⟨N, p2, q2⟩ := ih1 q.symm
        exact ⟨N, p2.trans p, q2⟩
    obtain ⟨M, pM, eM⟩ := back hp
    have mM : ∀ x ∈ M, x ∈ L := fun x hx => pM.mem_iff.mp hx
    have hlen : (M.map fun x => V.ref x.1).length ≤ sizeLine := by
      rw [List.length_map, pM.length_eq, hLl, sizeLine_eq]
      omega
    have hv : Vals (M.map fun x => V.ref x.1) out := by
      rw [eM]
      clear hlen mM eM pM hw hp hd'
      induction M with
      | nil => exact .nil
      | cons x M ih => exact .cons rfl ih
    refine ⟨.ref _, upd H h₀.objs.size (.lst (M.map fun x => V.ref x.1)), I1.laid (t' := tk) k1 (Nat.le_refl _) ⟨hlen, out, n, hv, hd'⟩, rfl, q M _ ?_ (fun x hx => L3 x (mM x hx)) ?_ (I1.hok.fresh (Nat.le_refl _))⟩
    · rw [← L1]; exact pM.map _
    · rw [eM, List.pairwise_map] at hw
      refine hw.imp_of_mem fun {x y} hx hy h => ?_
      rwa [(tup x (mM x hx)).ints, (tup y (mM y hy)).ints] at h
end
/-! ### tuples told apart by their first items -/
/-- a tuple that begins with i -/
def IsF (h : Heap) (v : Value) (i : Int) : Prop := ∃ a o xs n t, v = .ref a ∧ h.get? a = some o ∧ o.cls = .type "tuple" ∧ o.data = .seq xs n ∧ xs[0]? = some (.int i t)
theorem IsF.keeps {h h' : Heap} {v : Value} {i : Int} (x : IsF h v i) (k : ∀ b o, h.get? b = some o → o.cls = .type "tuple" → h'.get? b = some o) : IsF h' v i := by
  obtain ⟨a, o, xs, n, t, e, ho, hc, hd, hx⟩ := x
  exact ⟨a, o, xs, n, t, e, k _ _ ho hc, hc, hd, hx⟩
def ltF (k : Value → Int) (u v : Value) : Bool := decide (k u < k v)
theorem swo_F (k : Value → Int) : SrtO.Swo (ltF k) := by
  refine ⟨fun x y h => ?_, fun x y z h1 h2 => ?_⟩
  · have a := of_decide_eq_true (p := k x < k y) h
    exact decide_eq_false (p := k y < k x) (by omega)
  · have a := of_decide_eq_false (p := k y < k x) h1
    have b := of_decide_eq_false (p := k z < k y) h2
    exact decide_eq_false (p := k z < k x) (by omega)
section
variable {prog : Program} {w : World} {A : Around} {E : Value → Shared → Prop} {s : Shared}
theorem lex_same {Q : Bool → Shared → Prop} (h : Q false s) : ∀ (xs : List Value) (i : Nat), PySem.W.KatLex prog w A true false Q (xs.zip xs) i s
  | [], i => PySem.W.kat_nil h
  | x :: xs, i => by
    show PySem.W.KatLex prog w A true false Q ((x, x) :: xs.zip xs) i s
    exact PySem.W.kat_cons (SeqAt.EqAt.same x prog w _ _ (PySem.W.kat_yes (lex_same h xs (i + 1))))
theorem cmp_F {vs : List Value} {k : Value → Int} (hp : ∀ v ∈ vs, IsF s.heap v (k v)) (hu : ∀ u ∈ vs, ∀ v ∈ vs, k u = k v → u = v) : SrtO.Cmp prog w A s (tuples' true) (fun p => p.1 ∈ vs) (SrtO.lt2 (ltF k)) := by
  intro p q hm hm'
  show wpAny (model prog w) A (keyLt' (tuples' true) p.1 q.1) (fun r s' => s' = s ∧ r = decide (k p.1 < k q.1)) (fun _ _ => False) s
  obtain ⟨a, o, xs, n, t, e, ho, hc, hd, hx⟩ := hp _ hm
  obtain ⟨a', o', xs', n', t', e', ho', hc', hd', hx'⟩ := hp _ hm'
  by_cases hk : k p.1 = k q.1
  · have hpq := hu _ hm _ hm' hk
    rw [← hpq]
    rw [e]
    refine PySem.W.kat_lt ho hd ho hd ?_
    have : decide (xs.size < xs.size) = false := decide_eq_false (Nat.lt_irrefl _)
    rw [this]
    refine lex_same ⟨rfl, ?_⟩ _ _
    rw [← e]
    exact (decide_eq_false (Int.lt_irrefl _)).symm
  · generalize k p.1 = x at hx hk ⊢
    generalize k q.1 = x' at hx' hk ⊢
    rw [e, e']
    refine PySem.W.kat_lt ho hd ho' hd' ?_
    have l1 : ∃ r, xs.toList = .int x t :: r := by
      cases q : xs.toList with
      | nil => rw [← Array.getElem?_toList, q] at hx; cases hx
      | cons y ys => rw [← Array.getElem?_toList, q] at hx; cases hx; exact ⟨ys, rfl⟩
    have l2 : ∃ r, xs'.toList = .int x' t' :: r := by
      cases q : xs'.toList with
      | nil => rw [← Array.getElem?_toList, q] at hx'; cases hx'
      | cons y ys => rw [← Array.getElem?_toList, q] at hx'; cases hx'; exact ⟨ys, rfl⟩
    obtain ⟨r1, e1⟩ := l1
    obtain ⟨r2, e2⟩ := l2
    rw [e1, e2]
    show PySem.W.KatLex prog w A true _ _ ((.int x t, .int x' t') :: r1.zip r2) 0 s
    refine PySem.W.kat_cons (SeqAt.EqAt.int_int x t x' t' prog w _ _ ?_)
    rw [show (x == x') = false from beq_eq_false_iff_ne.mpr hk]
    exact PySem.W.kat_no (oneLt_int ⟨rfl, rfl⟩)
theorem firsts_F {h : Heap} {k : Value → Int} : ∀ {vs : List Value}, (∀ v ∈ vs, IsF h v (k v)) → ∃ fs : List Value, PySem.W.KatTups h vs fs ∧ fs.length = vs.length ∧ ∀ f ∈ fs, ∃ x t, f = Value.int x t
  | [], _ => ⟨[], PySem.W.KatTups.nil, rfl, fun _ hm => by simp at hm⟩
  | v :: vs, hp => by
    obtain ⟨fs, h1, h2, h3⟩ := firsts_F (vs := vs) fun v' hm => hp v' (List.mem_cons_of_mem _ hm)
    obtain ⟨a, o, xs, n, t, e, ho, hc, hd, hx⟩ := hp v (List.mem_cons_self ..)
    subst e
    refine ⟨.int (k (.ref a)) t :: fs, PySem.W.KatTups.cons ho hc hd hx h1, by rw [List.length_cons, List.length_cons, h2], fun f hm => ?_⟩
    rcases List.mem_cons.mp hm with rfl | hm
    · exact ⟨_, t, rfl⟩
    · exact h3 f hm
theorem sortable_F {a : Addr} {vs : List Value} {k : Value → Int} (h0 : 0 < vs.length) (hp : ∀ v ∈ vs, IsF s.heap v (k v)) (hu : ∀ u ∈ vs, ∀ v ∈ vs, k u = k v → u = v) (ha : ∀ o, s.heap.get? a = some o → o.cls ≠ .type "tuple") : SrtO.SortableO prog w A s a vs (ltF k) := by
  intro h' keep
  have hp' : ∀ v ∈ vs, IsF h' v (k v) := fun v hm => (hp v hm).keeps fun b o e c => keep b o (fun z => by subst z; exact ha o e c) e
  obtain ⟨fs, h1, h2, h3⟩ := firsts_F hp'
  refine ⟨tuples' true, fun Q E hq => ?_, cmp_F hp' hu⟩
  refine PySem.W.kat_kind (T := .type "int") h1 (by omega) (fun f hm => ?_) (by rfl) ?_
  · obtain ⟨x, t, rfl⟩ := h3 f hm
    exact PySem.W.Looks.now
  · have e : (Value.type "int" != Value.type "tuple") = true := by first | decide +kernel | rfl | decide
    rw [e]
    exact hq
theorem sorted_F {l : Addr} {vs : List Value} {k : Value → Int} {Q : Value → Shared → Prop} (hl : s.heap.IsList l vs.toArray) (hz : vs.length ≤ sizeLine) (hp : ∀ v ∈ vs, IsF s.heap v (k v)) (hu : ∀ u ∈ vs, ∀ v ∈ vs, k u = k v → u = v)
    (h : ∀ (h' : Heap) (d : Addr) (out : List Value), SrtO.Srtd (ltF k) out → out.Perm vs → (∀ b o, s.heap.get? b = some o → h'.get? b = some o) → s.heap.objs.size ≤ d → (∃ n, h'.get? d = some (seqObj "list" out.toArray n)) → Q (.ref d) { s with heap := h' }) :
    wpAny (model prog w) A (call (.builtin "sorted") [.ref l]) Q E s := by
  refine SrtO.sorted_ord (swo_F k) hl hz (fun h2 h₁ a ha kk => ?_) fun out hs hb => ?_
  · refine sortable_F (s := { s with heap := h₁ }) (by omega) (fun v hm => (hp v hm).keeps fun b o e _ => (kk b o e).2) hu fun o e => ?_
    have e' : some o = some (seqObj "list" vs.toArray 0) := e.symm.trans ha
    cases e'
    intro c
    exact absurd (Value.type.inj c) (by decide)
  · exact h _ _ out hs hb.perm (fun b o e => sortedAll_old e) (Nat.le_succ _) (sortedAll_at s.heap vs out.toArray)
end
section
variable {X : Cx}
def rSortF (K : PySem.W.Frag) : List V → Hp → VK → Prop := fun vs H Q => ∃ (a : Addr) (xs : List V) (k : V → Int), vs = [V.ref a] ∧ SqL K H a xs ∧ (∀ x ∈ xs, ∃ t ys, x = V.ref t ∧ H t = some (.tup (.int (k x) :: ys))) ∧ (∀ x ∈ xs, ∀ y ∈ xs, k x = k y → x = y) ∧
  ∀ ys p, ys.Perm xs → ys.Pairwise (fun x y => k x ≤ k y) → H p = none → Q (.ref p) (upd H p (.lst ys))
theorem cr_sortF : CallR X (.builtin "sorted") (rSortF X.K) := by
  intro pins s σ H vs us Q I r h
  obtain ⟨a, xs, k, rfl, hs, hx, hu, q⟩ := h
  obtain ⟨its, rv, hl, hz⟩ := I.list hs
  rw [Vals.ref1 r]
  obtain ⟨e1, e2⟩ := refs_back rv fun x m => by
    obtain ⟨t, _, e, _⟩ := hx x m
    exact ⟨t, e⟩
  have mem : ∀ v ∈ its, backV v ∈ xs := fun v hv => by rw [e1]; exact List.mem_map.mpr ⟨_, hv, rfl⟩
  refine sorted_F (k := fun u => k (backV u)) hl.isList (by rw [← rv.length]; exact hz) (fun v hv => ?_) (fun u hu' v hv e => ?_) fun h' d out h1 h2 kp hd hn => ?_
  · obtain ⟨t, rfl⟩ := e2 v hv
    obtain ⟨t', ys, e, ht⟩ := hx _ (mem _ hv)
    have e : V.ref t = V.ref t' := e
    cases e
    obtain ⟨_, its2, r2, o, ho, hc, n, hd⟩ := I.hok _ _ ht
    cases r2 with
    | cons ri rr =>
      obtain ⟨t1, rfl⟩ := ri
      exact ⟨t, o, _, n, t1, rfl, ho, hc, hd, rfl⟩
  · obtain ⟨t, rfl⟩ := e2 u hu'
    obtain ⟨t', rfl⟩ := e2 v hv
    have := hu _ (mem _ hu') _ (mem _ hv) e
    have this : V.ref t = V.ref t' := this
    cases this
    rfl
  · have h3 : ∀ u ∈ out, ∃ a, u = Value.ref a := fun u hu => e2 u (h2.mem_iff.mp hu)
    obtain ⟨n, hn⟩ := hn
    have hb : (out.map backV).Perm xs := by
      rw [e1]
      exact h2.map backV
    refine ⟨.ref d, upd H d (.lst (out.map backV)), I.laid (t' := s.toks) kp hd ⟨?_, out, n, vals_back h3, hn⟩, rfl, q _ d hb ?_ (I.hok.fresh hd)⟩
    · rw [hb.length_eq]
      exact hz
    · rw [List.pairwise_map]
      refine h1.imp fun {x y} h => ?_
      have := of_decide_eq_false (p := k (backV y) < k (backV x)) h
      omega
end
end ZI
namespace Z
open PySem PySem.Spec L2
section
variable {I : Inf} {ι ι' : Pl} {H H' : Hp} {h : EH}
theorem ints_v : ∀ {ws : List W} {vs : List V} {is : List Int}, RWs I ι H ws vs → intsOf ws = some is → vs = is.map V.int ∧ ws = is.map W.int
  | [], _, is, .nil, e => by simp [intsOf] at e; subst e; exact ⟨rfl, rfl⟩
  | w :: ws, _, is, .cons r rr, e => by
    cases r <;> first | (simp [intsOf] at e; done) | skip
    rename_i vs i
    simp only [intsOf] at e
    cases h2 : intsOf ws with
    | none => rw [h2] at e; cases e
    | some js =>
      rw [h2] at e
      cases e
      obtain ⟨e1, e2⟩ := ints_v rr h2
      exact ⟨by rw [e1]; rfl, by rw [e2]; rfl⟩
theorem RWs.intsI : ∀ is : List Int, RWs I ι H (is.map W.int) (is.map V.int)
  | [] => .nil
  | i :: is => .cons (.int i) (RWs.intsI is)
theorem insI_perm (x : Int) : ∀ l : List Int, (insI x l).Perm (x :: l)
  | [] => List.Perm.refl _
  | y :: r => by
    unfold insI
    split
    · exact List.Perm.refl _
    · exact ((insI_perm x r).cons y).trans (List.Perm.swap x y r)
theorem srtI_perm : ∀ l : List Int, (srtI l).Perm l
  | [] => List.Perm.refl _
  | x :: r => (insI_perm x _).trans ((srtI_perm r).cons x)
theorem insI_srt (x : Int) : ∀ {l : List Int}, l.Pairwise (· ≤ ·) → (insI x l).Pairwise (· ≤ ·)
  | [], _ => List.pairwise_singleton _ _
  | y :: r, h => by
    obtain ⟨h1, h2⟩ := List.pairwise_cons.mp h
    unfold insI
    split
    · rename_i hx
      refine List.pairwise_cons.mpr ⟨fun z hz => ?_, h⟩
      rcases List.mem_cons.mp hz with rfl | hz
      · exact hx
      · exact Int.le_trans hx (h1 z hz)
    · rename_i hx
      refine List.pairwise_cons.mpr ⟨fun z hz => ?_, insI_srt x h2⟩
      rcases List.mem_cons.mp ((insI_perm x r).mem_iff.mp hz) with rfl | hz
      · omega
      · exact h1 z hz
theorem srtI_srt : ∀ l : List Int, (srtI l).Pairwise (· ≤ ·)
  | [] => List.Pairwise.nil
  | x :: r => insI_srt x (srtI_srt r)
theorem srtI_eq {l m : List Int} (p : m.Perm l) (s : m.Pairwise (· ≤ ·)) : m = srtI l :=
  List.Perm.eq_of_pairwise (fun a b _ _ h1 h2 => Int.le_antisymm h1 h2) s (srtI_srt l) (p.trans (srtI_perm l).symm)
theorem maxI_is : ∀ (l : List Int) (x : Int), maxI x l ∈ x :: l ∧ ∀ y ∈ x :: l, y ≤ maxI x l
  | [], x => ⟨by simp [maxI], fun y hy => by simp at hy; simp [maxI, hy]⟩
  | z :: r, x => by
    simp only [maxI]
    split
    · rename_i hx
      obtain ⟨h1, h2⟩ := maxI_is r z
      refine ⟨by simp only [List.mem_cons] at h1 ⊢; exact .inr h1, fun y hy => ?_⟩
      rcases List.mem_cons.mp hy with rfl | hy
      · exact Int.le_trans (Int.le_of_lt hx) (h2 z (by simp))
      · exact h2 y hy
    · rename_i hx
      obtain ⟨h1, h2⟩ := maxI_is r x
      refine ⟨by simp only [List.mem_cons] at h1 ⊢; rcases h1 with h1 | h1; exact .inl h1; exact .inr (.inr h1), fun y hy => ?_⟩
      simp only [List.mem_cons] at hy h2
      rcases hy with rfl | rfl | hy
      · exact h2 _ (.inl rfl)
      · exact Int.le_trans (by omega) (h2 x (.inl rfl))
      · exact h2 y (.inr hy)
theorem minI_is : ∀ (l : List Int) (x : Int), minI x l ∈ x :: l ∧ ∀ y ∈ x :: l, minI x l ≤ y
  | [], x => ⟨by simp [minI], fun y hy => by simp at hy; simp [minI, hy]⟩
  | z :: r, x => by
    simp only [minI]
    split
    · rename_i hx
      obtain ⟨h1, h2⟩ := minI_is r z
      refine ⟨by simp only [List.mem_cons] at h1 ⊢; exact .inr h1, fun y hy => ?_⟩
      rcases List.mem_cons.mp hy with rfl | hy
      · exact Int.le_trans (h2 z (by simp)) (Int.le_of_lt hx)
      · exact h2 y hy
    · rename_i hx
      obtain ⟨h1, h2⟩ := minI_is r x
      refine ⟨by simp only [List.mem_cons] at h1 ⊢; rcases h1 with h1 | h1; exact .inl h1; exact .inr (.inr h1), fun y hy => ?_⟩
      simp only [List.mem_cons] at hy h2
      rcases hy with rfl | rfl | hy
      · exact h2 _ (.inl rfl)
      · exact Int.le_trans (h2 x (.inl rfl)) (by omega)
      · exact h2 y (.inr hy)
theorem sumI_is : ∀ l : List Int, sumI l = l.sum
  | [] => rfl
  | x :: r => by simp [sumI, sumI_is r]
/-! texts of numbers -/
theorem leL_code {B : Int} : ∀ {x y : List Int}, x.length = y.length → TS.Bd B x → TS.Bd B y → (leL x y = true ↔ TS.code B x ≤ TS.code B y)
  | [], [], _, _, _ => by simp [leL, TS.code]
  | [], _ :: _, h, _, _ => by simp at h
  | _ :: _, [], h, _, _ => by simp at h
  | x :: xs, y :: ys, hl, hx, hy => by
    have hl' : xs.length = ys.length := by simpa using hl
    simp only [leL]
    by_cases h1 : x < y
    · rw [if_pos h1]
      exact ⟨fun _ => Int.le_of_lt (TS.code_lt hl' hx.tail hy.tail h1), fun _ => rfl⟩
    · rw [if_neg h1]
      by_cases h2 : x = y
      · subst h2
        rw [if_pos rfl, leL_code hl' hx.tail hy.tail]
        have := TS.code_same (B := B) (d := x) hl'
        have := TS.code_same (B := B) (d := x) hl'.symm
        constructor <;> intro z <;> omega
      · rw [if_neg h2]
        refine ⟨fun z => (by cases z), fun z => ?_⟩
        have := TS.code_lt hl'.symm hy.tail hx.tail (show y < x by omega)
        omega
theorem code_inj {B : Int} : ∀ {x y : List Int}, x.length = y.length → TS.Bd B x → TS.Bd B y → TS.code B x = TS.code B y → x = y
  | [], [], _, _, _, _ => rfl
  | [], _ :: _, h, _, _, _ => by simp at h
  | _ :: _, [], h, _, _, _ => by simp at h
  | x :: xs, y :: ys, hl, hx, hy, e => by
    have hl' : xs.length = ys.length := by simpa using hl
    have : x = y := by
      rcases Int.lt_trichotomy x y with h | h | h
      · have := TS.code_lt hl' hx.tail hy.tail h; omega
      · exact h
      · have := TS.code_lt hl'.symm hy.tail hx.tail h; omega
    subst this
    have a := TS.code_same (B := B) (d := x) hl'
    have b := TS.code_same (B := B) (d := x) hl'.symm
    rw [code_inj hl' hx.tail hy.tail (by omega)]
theorem insL_perm (x : List Int) : ∀ l : List (List Int), (insL x l).Perm (x :: l)
  | [] => List.Perm.refl _
  | y :: r => by
    unfold insL
    split
    · exact List.Perm.refl _
    · exact ((insL_perm x r).cons y).trans (List.Perm.swap x y r)
theorem srtL_perm : ∀ l : List (List Int), (srtL l).Perm l
  | [] => List.Perm.refl _
  | x :: r => (insL_perm x _).trans ((srtL_perm r).cons x)
theorem leL_or : ∀ x y : List Int, leL x y = true ∨ leL y x = true
  | [], _ => .inl rfl
  | _ :: _, [] => .inr rfl
  | x :: xs, y :: ys => by
    simp only [leL]
    by_cases h1 : x < y
    · rw [if_pos h1]; exact .inl rfl
    · by_cases h2 : x = y
      · rw [if_neg h1, if_pos h2, if_neg (by omega), if_pos h2.symm]
        exact leL_or xs ys
      · rw [if_pos (show y < x by omega)]; exact .inr rfl
theorem leL_tr : ∀ {x y z : List Int}, leL x y = true → leL y z = true → leL x z = true
  | [], _, _, _, _ => rfl
  | _ :: _, [], _, h, _ => by cases h
  | _ :: _, _ :: _, [], _, h => by cases h
  | x :: xs, y :: ys, z :: zs, h1, h2 => by
    simp only [leL] at h1 h2 ⊢
    by_cases a : x < y
    · by_cases b : y < z
      · rw [if_pos (by omega)]
      · rw [if_neg b] at h2
        by_cases c : y = z
        · rw [if_pos (by omega)]
        · rw [if_neg c] at h2; cases h2
    · rw [if_neg a] at h1
      by_cases a2 : x = y
      · rw [if_pos a2] at h1
        subst a2
        by_cases b : x < z
        · rw [if_pos b]
        · rw [if_neg b] at h2 ⊢
          by_cases c : x = z
          · rw [if_pos c] at h2 ⊢
            exact leL_tr h1 h2
          · rw [if_neg c] at h2; cases h2
      · rw [if_neg a2] at h1; cases h1
theorem insL_srt (x : List Int) : ∀ {l : List (List Int)}, l.Pairwise (fun x y => leL x y = true) → (insL x l).Pairwise (fun x y => leL x y = true)
  | [], _ => List.pairwise_singleton _ _
  | y :: r, h => by
    obtain ⟨h1, h2⟩ := List.pairwise_cons.mp h
    unfold insL
    split
    · rename_i hx
      refine List.pairwise_cons.mpr ⟨fun z hz => ?_, h⟩
      rcases List.mem_cons.mp hz with rfl | hz
      · exact hx
      · exact leL_tr hx (h1 z hz)
    · rename_i hx
      refine List.pairwise_cons.mpr ⟨fun z hz => ?_, insL_srt x h2⟩
      rcases List.mem_cons.mp ((insL_perm x r).mem_iff.mp hz) with rfl | hz
      · exact (leL_or y z).resolve_right hx
      · exact h1 z hz
theorem srtL_srt : ∀ l : List (List Int), (srtL l).Pairwise (fun x y => leL x y = true)
  | [] => List.Pairwise.nil
  | x :: r => insL_srt x (srtL_srt r)
theorem RWs.perm {vs vs' : List V} (p : vs'.Perm vs) : ∀ {ws : List W}, RWs I ι H ws vs → ∃ ws', ws'.Perm ws ∧ RWs I ι H ws' vs' := by
  induction p with
  | nil => intro ws r; exact ⟨ws, List.Perm.refl _, r⟩
  | cons x _ ih =>
    intro ws r
    cases r with
    | cons r1 r2 =>
      obtain ⟨ws', p', r'⟩ := ih r2
      exact ⟨_ :: ws', p'.cons _, .cons r1 r'⟩
  | swap x y l =>
    intro ws r
    cases r with
    | cons r1 r2 =>
      cases r2 with
      | cons r2 r3 => exact ⟨_, List.Perm.swap .., .cons r2 (.cons r1 r3)⟩
  | trans _ _ ih1 ih2 =>
    intro ws r
    obtain ⟨w1, p1, r1⟩ := ih2 r
    obtain ⟨w2, p2, r2⟩ := ih1 r1
    exact ⟨w2, p2.trans p1, r2⟩
theorem tups_v : ∀ {ws : List W} {iss : List (List Int)}, tupsOf ws = some iss → ws = iss.map fun is => W.tup (is.map W.int)
  | [], iss, e => by simp [tupsOf] at e; subst e; rfl
  | w :: ws, iss, e => by
    cases w <;> first | (simp [tupsOf] at e; done) | skip
    rename_i xs
    simp only [tupsOf] at e
    cases h1 : intsOf xs with
    | none => rw [h1] at e; cases e
    | some is =>
      cases h2 : tupsOf ws with
      | none => rw [h1, h2] at e; cases e
      | some rs =>
        rw [h1, h2] at e
        cases e
        have e1 : ∀ {xs : List W} {is : List Int}, intsOf xs = some is → xs = is.map W.int := by
          intro xs
          induction xs with
          | nil => intro is e; simp [intsOf] at e; subst e; rfl
          | cons x xs ih =>
            intro is e
            cases x <;> first | (simp [intsOf] at e; done) | skip
            simp only [intsOf] at e
            cases h3 : intsOf xs with
            | none => rw [h3] at e; cases e
            | some js => rw [h3] at e; cases e; rw [ih h3]; rfl
        rw [e1 h1, tups_v h2]
        rfl
theorem bd_ex : ∀ iss : List (List Int), (∀ is ∈ iss, ∀ i ∈ is, 0 ≤ i) → ∃ B, ∀ is ∈ iss, TS.Bd B is
  | [], _ => ⟨0, by simp⟩
  | is :: iss, h => by
    obtain ⟨B, hB⟩ := bd_ex iss fun js hj => h js (by simp [hj])
    have : ∀ l : List Int, (∀ i ∈ l, 0 ≤ i) → ∃ C, B ≤ C ∧ TS.Bd C l := by
      intro l
      induction l with
      | nil => intro _; exact ⟨B, Int.le_refl _, fun m hm => by cases hm⟩
      | cons a l ih =>
        intro hl
        obtain ⟨C, h1, h2⟩ := ih fun i hi => hl i (by simp [hi])
        refine ⟨max C (a + 1), by omega, fun m hm => ?_⟩
        rcases List.mem_cons.mp hm with rfl | hm
        · exact ⟨hl m (by simp), by omega⟩
        · have := h2 m hm; omega
    obtain ⟨C, h1, h2⟩ := this is (h is (by simp))
    refine ⟨C, fun js hj => ?_⟩
    rcases List.mem_cons.mp hj with rfl | hj
    · exact h2
    · exact fun m hm => ⟨(hB js hj m hm).1, by have := (hB js hj m hm).2; omega⟩
theorem like_all {d : Nat} : ∀ {iss : List (List Int)}, likeL d iss = true → ∀ is ∈ iss, is.length = d ∧ ∀ i ∈ is, 0 ≤ i
  | [], _, is, h => by cases h
  | x :: r, e, is, h => by
    simp only [likeL, Bool.and_eq_true, decide_eq_true_eq, List.all_eq_true] at e
    rcases List.mem_cons.mp h with rfl | h
    · exact e.1
    · exact like_all e.2 is h
def unI : W → Int
  | .int i => i
  | _ => 0
theorem unI_map : ∀ is : List Int, (is.map W.int).map unI = is
  | [] => rfl
  | i :: is => by simp only [List.map_cons, unI_map is]; rfl
def unT : W → List Int
  | .tup ws => ws.map unI
  | _ => []
theorem unT_map : ∀ iss : List (List Int), (iss.map fun is => W.tup (is.map W.int)).map unT = iss
  | [] => rfl
  | i :: is => by
    simp only [List.map_cons, unT_map is]
    show (i.map W.int).map unI :: is = _
    rw [unI_map]
theorem tup_ints {w : W} {v : V} {is : List Int} (r : RW I ι H (.tup (is.map W.int)) v) : ∃ t, v = .ref t ∧ H t = some (.tup (is.map V.int)) := by
  cases r with
  | tup hp hn rr l =>
    have e : ∀ {is : List Int} {vs : List V}, RWs I ι H (is.map W.int) vs → vs = is.map V.int := by
      intro is
      induction is with
      | nil => intro vs r; cases r; rfl
      | cons i is ih =>
        intro vs r
        cases r with
        | cons r1 r2 => cases r1; rw [ih r2]; rfl
    rw [e rr] at hp
    exact ⟨_, rfl, hp⟩
/-- a sorted list of tuples, told by values -/
theorem srtT_is {K : PySem.W.Frag} {iss : List (List Int)} {ws : List W} {xs : List V} (e : srtT iss = some ws) (r : RWs I ι H (iss.map fun is => W.tup (is.map W.int)) xs) :
    (iss = [] ∨ ∃ d B, 1 ≤ d ∧ xs.length < 64 ∧ (∀ x ∈ xs, ∃ ns, TupI K H x ns ∧ ns.length = d ∧ TS.Bd B ns) ∧
      ∀ ys : List V, (ys.Perm xs → ys.Pairwise (fun x y => ∀ n m, TupI K H x n → TupI K H y m → TS.code B n ≤ TS.code B m) → RWs I ι H ws ys)) := by
  cases iss with
  | nil => exact .inl rfl
  | cons x iss =>
    refine .inr ?_
    simp only [srtT] at e
    by_cases c : x.length ≠ 0 ∧ x.length < 64 ∧ likeL x.length (x :: iss) = true ∧ (x :: iss).length < 64
    · rw [if_pos c] at e
      cases e
      obtain ⟨hd, _, hl, h64⟩ := c
      have hall := like_all hl
      obtain ⟨B, hB⟩ := bd_ex (x :: iss) fun is hi => (hall is hi).2
      have memx : ∀ {iss : List (List Int)} {xs : List V}, RWs I ι H (iss.map fun is => W.tup (is.map W.int)) xs → ∀ v ∈ xs, ∃ is ∈ iss, RW I ι H (.tup (is.map W.int)) v := by
        intro iss
        induction iss with
        | nil => intro xs r v hv; cases r; cases hv
        | cons a iss ih =>
          intro xs r v hv
          cases r with
          | cons r1 r2 =>
            rcases List.mem_cons.mp hv with rfl | hv
            · exact ⟨a, by simp, r1⟩
            · obtain ⟨is, hi, q⟩ := ih r2 v hv
              exact ⟨is, by simp [hi], q⟩
      have tupI : ∀ {is : List Int} {v : V}, RW I ι H (.tup (is.map W.int)) v → TupI K H v is := fun {is v} q => by
        obtain ⟨t, e, ht⟩ := tup_ints (w := .tup (is.map W.int)) q
        exact ⟨t, e, .inl (.inl ht)⟩
      refine ⟨x.length, B, by omega, by rw [← r.length, List.length_map]; exact h64, fun v hv => ?_, fun ys p pw => ?_⟩
      · obtain ⟨is, hi, q⟩ := memx r v hv
        exact ⟨is, tupI q, (hall is hi).1, hB is hi⟩
      · obtain ⟨ws', pp, rr⟩ := r.perm p
        -- ws' are tuples of ints, too
        have back : ∀ {l : List W}, (∀ w ∈ l, ∃ is ∈ x :: iss, w = W.tup (is.map W.int)) → ∃ js : List (List Int), l = js.map (fun is => W.tup (is.map W.int)) ∧ ∀ j ∈ js, j ∈ x :: iss := by
          intro l
          induction l with
          | nil => intro _; exact ⟨[], rfl, by simp⟩
          | cons w l ih =>
            intro hl
            obtain ⟨js, e1, e2⟩ := ih fun w hw => hl w (by simp [hw])
            obtain ⟨is, hi, e3⟩ := hl w (by simp)
            refine ⟨is :: js, by rw [e1, e3]; rfl, fun j hj => ?_⟩
            rcases List.mem_cons.mp hj with rfl | hj
            · exact hi
            · exact e2 j hj
        obtain ⟨js, e1, e2⟩ := back fun w hw => by
          have := pp.mem_iff.mp hw
          obtain ⟨is, hi, e⟩ := List.mem_map.mp this
          exact ⟨is, hi, e.symm⟩
        subst e1
        have inj : ∀ {a b : List Int}, W.tup (a.map W.int) = W.tup (b.map W.int) → a = b := fun {a b} e => by
          injection e with e
          have := congrArg (List.map unI) e
          rwa [unI_map, unI_map] at this
        have pj : js.Perm (x :: iss) := by
          have h1 := pp.map unT
          rwa [unT_map, unT_map] at h1
        have pwj : ∀ {js : List (List Int)} {ys : List V}, (∀ j ∈ js, j ∈ x :: iss) → RWs I ι H (js.map fun is => W.tup (is.map W.int)) ys → ys.Pairwise (fun x y => ∀ n m, TupI K H x n → TupI K H y m → TS.code B n ≤ TS.code B m) → js.Pairwise (fun x y => leL x y = true) := by
          intro js
          induction js with
          | nil => intros; exact List.Pairwise.nil
          | cons a js ih =>
            intro ys hm r pw
            cases r with
            | cons r1 r2 =>
              obtain ⟨p1, p2⟩ := List.pairwise_cons.mp pw
              refine List.pairwise_cons.mpr ⟨fun b hb => ?_, ih (fun j hj => hm j (by simp [hj])) r2 p2⟩
              obtain ⟨i, hi, rfl⟩ := List.getElem_of_mem hb
              obtain ⟨v, hv, rv⟩ := r2.get (i := i) (w := W.tup (js[i].map W.int)) (by rw [List.getElem?_map, List.getElem?_eq_getElem hi]; rfl)
              have q := p1 v (List.mem_of_getElem? hv) a js[i] (tupI r1) (tupI rv)
              have ma := hm a (by simp)
              have mb := hm js[i] (by simp)
              exact (leL_code (by rw [(hall _ ma).1, (hall _ mb).1]) (hB _ ma) (hB _ mb)).mpr q
        have ej : js = srtL (x :: iss) := List.Perm.eq_of_pairwise (fun a b ha hb h1 h2 => by
          have ma := e2 a ha
          have mb := (srtL_perm _).mem_iff.mp hb
          have l : a.length = b.length := by rw [(hall _ ma).1, (hall _ mb).1]
          exact code_inj l (hB _ ma) (hB _ mb) (Int.le_antisymm ((leL_code l (hB _ ma) (hB _ mb)).mp h1) ((leL_code l.symm (hB _ mb) (hB _ ma)).mp h2))) (pwj e2 rr pw) (srtL_srt _) (pj.trans (srtL_perm _).symm)
        rw [← ej]
        exact rr
    · rw [if_neg c] at e
      cases e
end
end Z
namespace Z
open PySem PySem.Spec L2
theorem boot_sum' : bootBuiltins "sum" = some (.builtin "sum") := by decide +kernel
theorem boot_sorted' : bootBuiltins "sorted" = some (.builtin "sorted") := by decide +kernel
theorem boot_dict' : bootBuiltins "dict" = some (.type "dict") := by decide +kernel
section
variable {X : Cx} {I : Inf} {B : Tb} {Wx : XK} {a b c e o x : Expr} {es : List Expr} {fa fb fc : Env → EH → T W} {fs gs : Env → EH → T (List W)} {pos p p2 : Pos} {σc : Env}
theorem sh1_b {sc : Scope} {p : P1} {nm : Str} (hp : b1nm p = some nm) (h : sh1 B sc p e = some x) : ∃ n q pos, e = .Call (.Name n q) [x] [] pos ∧ isB B sc nm n = true ∧ plain x = true := by
  have h2 : shb B sc p e = some x := by
    cases p <;> first | exact h | cases hp
  unfold shb at h2
  rw [hp] at h2
  split at h2
  · rename_i nm' n q y pos e1
    cases e1
    split at h2
    · rename_i c
      simp only [Bool.and_eq_true] at c
      cases h2
      exact ⟨n, q, pos, rfl, c.1, c.2⟩
    · cases h2
  · cases h2
theorem rg1_e {sc : Scope} {nm : Str} (h : rg1 B sc nm e = some x) : ∃ n q n2 q2 pos2 pos, e = .Call (.Name n q) [.Call (.Name n2 q2) [x] [] pos2] [] pos ∧ isB B sc nm n = true ∧ isB B sc "range" n2 = true ∧ plain x = true := by
  unfold rg1 at h
  split at h
  · split at h
    · rename_i c
      simp only [Bool.and_eq_true] at c
      cases h
      exact ⟨_, _, _, _, _, _, rfl, c.1.1, c.1.2, c.2⟩
    · cases h
  · cases h
/-- truth by the value -/
abbrev ByV (X : Cx) (e : Expr) : Prop := ∀ whole, isTrue e X.env whole = (do let v ← whole; standAt e.pos; holding [v] (truthy v))
theorem oL_new {m : Bool} {ι : Pl} {h : EH} {H : Hp} {Q : VK} {o : Option (List W)} {vs : List V} (q : (oL m h o).All (Pv I ι H Q) (Px I ι H Wx)) (rp : Rep I ι h H) : ∃ ws, o = some ws ∧ (newL m ws h).All (Pv I ι H Q) (Px I ι H Wx) := by
  cases o with
  | none => exact q.elim
  | some ws => exact ⟨ws, rfl, q⟩
theorem rgw_v (I : Inf) (ι : Pl) (H : Hp) : ∀ (n : Nat) (lo : Int), RWs I ι H (rngW lo n) ((List.range n).map fun i => V.int (lo + (i : Nat)))
  | 0, _ => .nil
  | n + 1, lo => by
    rw [List.range_succ_eq_map, List.map_cons, List.map_map]
    refine .cons (by simpa using RW.int lo) ?_
    have := rgw_v I ι H n (lo + 1)
    have e : (List.range n).map (fun i : Nat => V.int (lo + 1 + (i : Nat))) = (List.range n).map ((fun i : Nat => V.int (lo + (i : Nat))) ∘ Nat.succ) := by
      refine List.map_congr_left fun i _ => ?_
      show V.int _ = V.int _
      congr 1
      push_cast
      omega
    rw [← e]
    exact this
theorem rgV_w {ι : Pl} {H : Hp} (lo hi : Int) : RWs I ι H (rngW lo (hi - lo).toNat) (rgV lo hi) := rgw_v I ι H _ _
theorem cr_sortUx : CallR X (.builtin "sorted") (fun vs H Q => rSortedI X.K vs H Q ∨ ∃ d B, 1 ≤ d ∧ rSortU X.K d B vs H Q) := by
  intro pins s σ H xs us Q I r q
  rcases q with q | ⟨d, B, hd, q⟩
  · exact cr_sortedI pins s σ H xs us Q I r q
  · exact cr_sortT hd pins s σ H xs us Q I r q
/-! sorted by the first items -/
theorem insF_perm {x : W} {i : Int} : ∀ {l s : List (Int × W)}, insF x i l = some s → s.Perm ((i, x) :: l)
  | [], s, e => by simp only [insF, Option.some.injEq] at e; subst e; exact List.Perm.refl _
  | (j, y) :: r, s, e => by
    simp only [insF] at e
    split at e
    · cases e; exact List.Perm.refl _
    · split at e
      · cases e
      · cases h2 : insF x i r with
        | none => rw [h2] at e; cases e
        | some t => rw [h2] at e; cases e; exact ((insF_perm h2).cons (j, y)).trans (List.Perm.swap ..)
theorem insF_srt {x : W} {i : Int} : ∀ {l s : List (Int × W)}, insF x i l = some s → l.Pairwise (fun p q => p.1 < q.1) → s.Pairwise (fun p q => p.1 < q.1)
  | [], s, e, _ => by simp only [insF, Option.some.injEq] at e; subst e; exact List.pairwise_singleton _ _
  | (j, y) :: r, s, e, pw => by
    obtain ⟨p1, p2⟩ := List.pairwise_cons.mp pw
    simp only [insF] at e
    split at e
    · rename_i hij
      cases e
      refine List.pairwise_cons.mpr ⟨fun z hz => ?_, pw⟩
      rcases List.mem_cons.mp hz with rfl | hz
      · exact hij
      · exact Int.lt_trans hij (p1 z hz)
    · rename_i h1
      split at e
      · cases e
      · rename_i h2'
        cases h2 : insF x i r with
        | none => rw [h2] at e; cases e
        | some t =>
          rw [h2] at e
          cases e
          refine List.pairwise_cons.mpr ⟨fun z hz => ?_, insF_srt h2 p2⟩
          rcases List.mem_cons.mp ((insF_perm h2).mem_iff.mp hz) with rfl | hz
          · show j < i
            omega
          · exact p1 z hz
theorem srtF_perm : ∀ {ws : List W} {L : List (Int × W)}, srtF ws = some L → ∃ M : List (Int × W), M.map (·.2) = ws ∧ (∀ p ∈ M, firstI p.2 = some p.1) ∧ L.Perm M ∧ L.Pairwise (fun p q => p.1 < q.1)
  | [], L, e => by simp only [srtF, Option.some.injEq] at e; subst e; exact ⟨[], rfl, by simp, List.Perm.refl _, List.Pairwise.nil⟩
  | x :: r, L, e => by
    simp only [srtF] at e
    split at e
    · rename_i i s h1 h2
      obtain ⟨M, m1, m2, m3, m4⟩ := srtF_perm h2
      refine ⟨(i, x) :: M, by rw [List.map_cons, m1], fun p hp => ?_, (insF_perm e).trans (m3.cons _), insF_srt e m4⟩
      rcases List.mem_cons.mp hp with rfl | hp
      · exact h1
      · exact m2 p hp
    · cases e
theorem srtF_is {ι : Pl} {H : Hp} {ws : List W} {vs : List V} {L : List (Int × W)} (e : srtF ws = some L) (r : RWs I ι H ws vs) : ∃ k : V → Int, (∀ x ∈ vs, ∃ t ys, x = V.ref t ∧ H t = some (.tup (.int (k x) :: ys))) ∧ (∀ x ∈ vs, ∀ y ∈ vs, k x = k y → x = y) ∧
    ∀ ys : List V, ys.Perm vs → ys.Pairwise (fun x y => k x ≤ k y) → RWs I ι H (L.map (·.2)) ys := by
  obtain ⟨M, m1, m2, m3, m4⟩ := srtF_perm e
  -- a tuple's first item, read off the heap
  let k : V → Int := fun v => match v with
    | .ref t => match H t with
      | some (.tup (.int i :: _)) => i
      | _ => 0
    | _ => 0
  have key : ∀ {w : W} {v : V} {i : Int}, RW I ι H w v → firstI w = some i → ∃ t ys, v = V.ref t ∧ H t = some (.tup (.int i :: ys)) ∧ k v = i := by
    intro w v i r hf
    cases r <;> first | (cases hf; done) | skip
    rename_i p ws vs hp hn rr l
    cases rr with
    | nil => cases hf
    | cons r1 r2 =>
      cases r1 <;> first | (cases hf; done) | skip
      cases hf
      exact ⟨p, _, rfl, hp, by show (match H p with | some (.tup (.int i :: _)) => i | _ => 0) = _; rw [hp]⟩
  -- M beside the values
  have pr : ∀ {M : List (Int × W)} {vs : List V}, RWs I ι H (M.map (·.2)) vs → (∀ p ∈ M, firstI p.2 = some p.1) → vs.map k = M.map (·.1) ∧ ∀ x ∈ vs, ∃ t ys, x = V.ref t ∧ H t = some (.tup (.int (k x) :: ys)) := by
    intro M
    induction M with
    | nil => intro vs r _; cases r; exact ⟨rfl, by simp⟩
    | cons p M ih =>
      intro vs r hm
      cases r with
      | cons r1 r2 =>
        obtain ⟨h1, h2⟩ := ih r2 fun q hq => hm q (by simp [hq])
        obtain ⟨t, ys, e1, e2, e3⟩ := key r1 (hm p (by simp))
        refine ⟨by rw [List.map_cons, List.map_cons, h1, e3], fun x hx => ?_⟩
        rcases List.mem_cons.mp hx with rfl | hx
        · exact ⟨t, ys, e1, by rw [e3]; exact e2⟩
        · exact h2 x hx
  have rM : RWs I ι H (M.map (·.2)) vs := by rw [m1]; exact r
  obtain ⟨hk, hv⟩ := pr rM m2
  have ndL : (L.map (·.1)).Nodup := by
    rw [List.nodup_iff_pairwise_ne, List.pairwise_map]
    exact m4.imp fun h => Int.ne_of_lt h
  have ndM : (M.map (·.1)).Nodup := (m3.map (·.1)).nodup_iff.mp ndL
  have inj : ∀ x ∈ vs, ∀ y ∈ vs, k x = k y → x = y := by
    rw [← hk] at ndM
    intro x hx y hy exy
    obtain ⟨i, hi, rfl⟩ := List.getElem_of_mem hx
    obtain ⟨j, hj, rfl⟩ := List.getElem_of_mem hy
    have := (List.getElem_inj (h₀ := by simpa using hi) (h₁ := by simpa using hj) ndM (i := i) (j := j)).mp (by simpa using exy)
    subst this
    rfl
  refine ⟨k, hv, inj, fun ys pm pw => ?_⟩
  obtain ⟨ws', pp, rr⟩ := rM.perm pm
  -- ws' beside its firsts
  have back : ∀ {l : List W}, (∀ w ∈ l, ∃ p ∈ M, p.2 = w) → ∃ N : List (Int × W), N.map (·.2) = l ∧ ∀ p ∈ N, p ∈ M := by
    intro l
    induction l with
    | nil => intro _; exact ⟨[], rfl, by simp⟩
    | cons w l ih =>
      intro hl
      obtain ⟨N, n1, n2⟩ := ih fun x hx => hl x (by simp [hx])
      obtain ⟨p, hp, e⟩ := hl w (by simp)
      refine ⟨p :: N, by rw [List.map_cons, n1, e], fun q hq => ?_⟩
      rcases List.mem_cons.mp hq with rfl | hq
      · exact hp
      · exact n2 q hq
  obtain ⟨N, n1, n2⟩ := back fun w hw => by
    obtain ⟨p, hp, e⟩ := List.mem_map.mp (pp.mem_iff.mp hw)
    exact ⟨p, hp, e⟩
  subst n1
  have kN := (pr rr fun p hp => m2 p (n2 p hp)).1
  have pwN : (N.map (·.1)).Pairwise (· ≤ ·) := by
    rw [← kN, List.pairwise_map]
    exact pw
  have fst_of : ∀ {N : List (Int × W)}, (∀ p ∈ N, p ∈ M) → N.map (·.1) = (N.map (·.2)).map fun w => (firstI w).getD 0 := by
    intro N hN
    rw [List.map_map]
    refine List.map_congr_left fun p hp => ?_
    show p.1 = (firstI p.2).getD 0
    rw [m2 p (hN p hp)]
    rfl
  have pN : (N.map (·.1)).Perm (L.map (·.1)) := by
    rw [fst_of n2]
    refine (pp.map _).trans ?_
    rw [← fst_of fun p hp => hp]
    exact (m3.map _).symm
  have eN : N.map (·.1) = L.map (·.1) := List.Perm.eq_of_pairwise (fun a b _ _ h1 h2 => Int.le_antisymm h1 h2) pwN (by rw [List.pairwise_map]; exact m4.imp fun h => Int.le_of_lt h) pN
  have eNL : N = L := by
    have mL : ∀ p ∈ L, p ∈ M := fun p hp => m3.mem_iff.mp hp
    have inM : ∀ p ∈ M, ∀ q ∈ M, p.1 = q.1 → p = q := by
      intro p hp q hq e
      obtain ⟨i, hi, rfl⟩ := List.getElem_of_mem hp
      obtain ⟨j, hj, rfl⟩ := List.getElem_of_mem hq
      have := (List.getElem_inj (h₀ := by simpa using hi) (h₁ := by simpa using hj) ndM (i := i) (j := j)).mp (by simpa using e)
      subst this
      rfl
    clear pN pwN kN rr pp pw pm
    have go : ∀ {N L : List (Int × W)}, (∀ p ∈ N, p ∈ M) → (∀ p ∈ L, p ∈ M) → N.map (·.1) = L.map (·.1) → N = L := by
      intro N
      induction N with
      | nil =>
        intro L _ _ e
        cases L with
        | nil => rfl
        | cons _ _ => cases e
      | cons p N ih =>
        intro L hN hL e
        cases L with
        | nil => cases e
        | cons q L =>
          rw [List.map_cons, List.map_cons] at e
          injection e with e1 e2
          rw [inM p (hN p (by simp)) q (hL q (by simp)) e1, ih (fun x hx => hN x (by simp [hx])) (fun x hx => hL x (by simp [hx])) e2]
    exact go n2 mL eN
  rw [← eNL]
  exact rr
theorem keysI_v {ι : Pl} {H : Hp} : ∀ {ks : List (W × W)} {ls : List (Key × V)} {is : List Int}, RKV I ι H ks ls → keysI ks = some is → ls.map (·.1) = is.map Sum.inl
  | [], [], is, .nil, e => by simp only [keysI, Option.some.injEq] at e; subst e; rfl
  | (a, b) :: ks, (k, v) :: ls, is, .cons ⟨q1, q2⟩ r, e => by
    cases a <;> first | (simp [keysI] at e; done) | skip
    rename_i i
    simp only [keysI] at e
    cases h2 : keysI ks with
    | none => rw [h2] at e; cases e
    | some js =>
      rw [h2] at e
      cases e
      cases k <;> simp [RK] at q1
      subst q1
      rw [List.map_cons, List.map_cons, keysI_v r h2]
theorem ints_rk : ∀ {ws : List W} {is : List Int} {ks : List Key}, intsOf ws = some is → Paired RK ws ks → ks = is.map Sum.inl
  | [], is, [], e, .nil => by simp only [intsOf, Option.some.injEq] at e; subst e; rfl
  | w :: ws, is, k :: ks, e, .cons q r => by
    cases w <;> first | (simp [intsOf] at e; done) | skip
    simp only [intsOf] at e
    cases h2 : intsOf ws with
    | none => rw [h2] at e; cases e
    | some js =>
      rw [h2] at e
      cases e
      cases k <;> simp [RK] at q
      subst q
      rw [ints_rk h2 r]
      rfl
theorem keysTI_v {ι : Pl} {H : Hp} : ∀ {ks : List (W × W)} {ls : List (List Key × V)} {iss : List (List Int)}, RKVT I ι H ks ls → keysTI ks = some iss → ls.map (·.1) = iss.map (fun is => is.map Sum.inl)
  | [], [], iss, .nil, e => by simp only [keysTI, Option.some.injEq] at e; subst e; rfl
  | (a, b) :: ks, (k, v) :: ls, iss, .cons ⟨q1, q2⟩ r, e => by
    cases a <;> first | (simp [keysTI] at e; done) | skip
    rename_i ws
    simp only [keysTI] at e
    cases h1 : intsOf ws with
    | none => rw [h1] at e; cases e
    | some is =>
      cases h2 : keysTI ks with
      | none => rw [h1, h2] at e; cases e
      | some js =>
        rw [h1, h2] at e
        cases e
        rw [List.map_cons, List.map_cons, keysTI_v r h2]
        congr 1
        exact ints_rk h1 q1.1
theorem cr_sortDTx (hc : X.calm = true) : CallR X (.builtin "sorted") (fun vs H Q => (∃ a, vs = [V.ref a] ∧ Rd H a (.dT []) ∧ ∀ p, H p = none → Q (.ref p) (upd H p (.lst []))) ∨ ZI.rSortDT vs H Q) := by
  intro pins s σ H xs us Q I r q
  rcases q with ⟨a, rfl, hd, q⟩ | q
  · refine ZI.cr_sortDT hc pins s σ H _ us Q I r ⟨a, [], [], 1, 0, rfl, hd, rfl, by decide, Nat.le_refl _, by simp, fun out p pm hm pw hp => ?_⟩
    have : out = [] := by
      have := List.Perm.eq_nil pm
      simpa using this
    subst this
    exact q p hp
  · exact ZI.cr_sortDT hc pins s σ H _ us Q I r q
theorem putK_nd' {ls : List (Key × V)} {y : Key} {v : V} (hn : (ls.map (·.1)).Nodup) : ((putK ls y v).map (·.1)).Nodup := by
  unfold putK
  split
  · rw [List.map_map]
    have : ls.map ((fun kv => kv.1) ∘ fun kv : Key × V => if kv.1 = y then (kv.1, v) else kv) = ls.map (·.1) := by
      refine List.map_congr_left fun p _ => ?_
      show (if p.1 = y then (p.1, v) else p).1 = p.1
      split <;> rfl
    rw [this]
    exact hn
  · rename_i h
    rw [List.map_append]
    refine List.nodup_append.mpr ⟨hn, by simp, fun a ha b hb e => h ?_⟩
    have : b = y := by simpa using hb
    subst this
    subst e
    obtain ⟨p, hp, e⟩ := List.mem_map.mp ha
    exact List.any_eq_true.mpr ⟨p, hp, by simpa using e⟩
theorem dput_len' : ∀ {kvs : List (W × W)} {y w : W}, (dput kvs y w).length ≤ kvs.length + 1
  | [], _, _ => by simp [dput]
  | (j, u) :: r, y, w => by
    unfold dput
    split
    · simp
    · have := dput_len' (kvs := r) (y := y) (w := w)
      simp only [List.length_cons]
      omega
theorem dictOf_is {ι : Pl} {H : Hp} {K : PySem.W.Frag} : ∀ {ws : List W} {vs : List V} {acc res : List (W × W)} {al : List (Key × V)}, RWs I ι H ws vs → dictOf acc ws = some res → RKV I ι H acc al → (al.map (·.1)).Nodup →
    ∃ (ps : List Addr) (kvs : List (Key × V)), vs = ps.map V.ref ∧ Paired (fun p kv => SqT K H p [kV kv.1, kv.2]) ps kvs ∧ RKV I ι H res (mergeK al kvs) ∧ ((mergeK al kvs).map (·.1)).Nodup ∧ res.length ≤ acc.length + ws.length
  | [], _, acc, res, al, .nil, e, ra, nd => by
    simp only [dictOf, Option.some.injEq] at e
    subst e
    exact ⟨[], [], rfl, .nil, ra, nd, by simp⟩
  | w :: ws, v :: vs, acc, res, al, .cons r rr, e, ra, nd => by
    unfold dictOf at e
    split at e
    · cases ‹_ :: _ = []›
    · rename_i k u r' e1
      cases e1
      split at e
      · rename_i hk
        cases r with
        | tup hp hn rt l =>
          cases rt with
          | cons r1 rt =>
            cases rt with
            | cons r2 rt =>
              cases rt
              obtain ⟨y, rfl, rk⟩ := isKey_kV r1 hk
              obtain ⟨ps, kvs, h1, h2, h3, h4, h5⟩ := dictOf_is (K := K) rr e (RKV.put rk r2 nd ra) (putK_nd' nd)
              refine ⟨_ :: ps, (y, _) :: kvs, by rw [h1]; rfl, .cons (.inl (.inl hp)) h2, h3, h4, ?_⟩
              exact Nat.le_trans h5 (Nat.le_trans (Nat.add_le_add_right dput_len' _) (by simp only [List.length_cons]; omega))
      · cases e
    · cases e
theorem p1_ok (C : Cs B I X) {p : P1} {m : Bool} (h : sh1 B X.env.scope p e = some x) (ha : PE X x (tE I fa Wx)) : PE X e (tE I (fun σ h => (fa σ h).bind fun w h => p1W p m w h) Wx) ∧ ByV X e := by
  cases p with
  | neg =>
    simp only [sh1] at h
    split at h
    · cases h
      refine ⟨⟨fun pins s σ H Q J ⟨ι, h, σc, rs, rp, q⟩ => (pe_un un_neg ha).run pins s σ H Q J ?_⟩, fun _ => rfl⟩
      refine goV rs rp q fun ι1 H1 h1 w1 v1 e1 rs1 rp1 r1 q1 => ?_
      cases r1 <;> first | exact q1.elim | skip
      exact ⟨_, rfl, fin q1 rp1 (.int _)⟩
    · cases h
  | tupRev =>
    simp only [sh1] at h
    split at h
    · split at h
      · rename_i c
        simp only [Bool.and_eq_true] at c
        cases h
        obtain ⟨⟨h1, h2⟩, h3⟩ := c
        obtain ⟨rfl, g1, n1⟩ := bn_of C h1
        obtain ⟨rfl, g2, n2⟩ := bn_of C h2
        refine ⟨⟨fun pins s σ H Q J ⟨ι, h, σc, rs, rp, q⟩ => (RT.pe_tupRev C.calm g1 n1 g2 n2 ha (starE h3)).run pins s σ H Q J ?_⟩, fun _ => rfl⟩
        refine goV rs rp q fun ι1 H1 h1 w1 v1 e1 rs1 rp1 r1 q1 => ?_
        simp only [p1W] at q1
        split at q1
        · rename_i xs hx
          obtain ⟨p, vs, rfl, hq, rr, l⟩ := rp1.lsq r1 hx
          have rev : ∀ {ws : List W} {vs : List V}, RWs I ι1 H1 ws vs → RWs I ι1 H1 ws.reverse vs.reverse := by
            intro ws
            induction ws with
            | nil => intro vs r; cases r; exact .nil
            | cons w ws ih =>
              intro vs r
              cases r with
              | cons r1 r2 => rw [List.reverse_cons, List.reverse_cons]; exact (ih r2).append (.cons r1 .nil)
          exact ⟨p, vs, rfl, by rw [C.K]; exact hq, new_tup q1 rp1 (rev rr) (by rw [List.length_reverse]; exact l)⟩
        · exact q1.elim
      · cases h
    · cases h
  | lstRng =>
    obtain ⟨n, q, n2, q2, pos2, pos, rfl, h1, h2, h3⟩ := rg1_e h
    obtain ⟨rfl, g1, n1⟩ := bn_of C h1
    obtain ⟨rfl, g2, n2⟩ := bn_of C h2
    refine ⟨⟨fun pins s σ H Q J ⟨ι, h, σc, rs, rp, q⟩ => (pe_listRg C.calm g1 n1 (prg_1 g2 n2 ha (starE h3))).run pins s σ H Q J ?_⟩, fun _ => rfl⟩
    refine goV rs rp q fun ι1 H1 h1 w1 v1 e1 rs1 rp1 r1 q1 => ?_
    cases r1 <;> first | exact q1.elim | skip
    rename_i k
    simp only [p1W] at q1
    split at q1
    · rename_i hk
      have hL : (LIM : Int) = 100000 := rfl
      refine ⟨k, rfl, ⟨by omega, by omega, by omega, by omega, by omega⟩, new_lst q1 rp1 ?_ (by rw [rngW_len]; omega)⟩
      have := rgV_w (I := I) (ι := ι1) (H := H1) 0 k
      rwa [Int.sub_zero] at this
    · exact q1.elim
  | tupRng =>
    obtain ⟨n, q, n2, q2, pos2, pos, rfl, h1, h2, h3⟩ := rg1_e h
    obtain ⟨rfl, g1, n1⟩ := bn_of C h1
    obtain ⟨rfl, g2, n2⟩ := bn_of C h2
    refine ⟨⟨fun pins s σ H Q J ⟨ι, h, σc, rs, rp, q⟩ => (pe_tupRg C.calm g1 n1 (prg_1 g2 n2 ha (starE h3))).run pins s σ H Q J ?_⟩, fun _ => rfl⟩
    refine goV rs rp q fun ι1 H1 h1 w1 v1 e1 rs1 rp1 r1 q1 => ?_
    cases r1 <;> first | exact q1.elim | skip
    rename_i k
    simp only [p1W] at q1
    split at q1
    · rename_i hk
      have hL : (LIM : Int) = 100000 := rfl
      refine ⟨k, rfl, ⟨by omega, by omega, by omega, by omega, by omega⟩, new_tup q1 rp1 ?_ (by rw [rngW_len]; omega)⟩
      have := rgV_w (I := I) (ι := ι1) (H := H1) 0 k
      rwa [Int.sub_zero] at this
    · exact q1.elim
  | sumL =>
    obtain ⟨n, q, pos, rfl, h1, h3⟩ := sh1_b rfl h
    obtain ⟨rfl, g, n⟩ := bn_of C h1
    refine ⟨s_b1 h3 ha (fun t => pe_callB (cr_sum C.calm) g n boot_sum' t (he := starE h3) (hpl := rfl)) fun ι h H Q w v rp r q => ?_, fun _ => rfl⟩
    simp only [p1W] at q
    split at q
    · rename_i xs hx
      split at q
      · rename_i is hi
        obtain ⟨p, vs, rfl, hq, rr, l⟩ := rp.lsq r hx
        obtain ⟨rfl, _⟩ := ints_v rr hi
        refine ⟨p, is, rfl, by rw [C.K]; exact hq, ?_⟩
        rw [← sumI_is]
        exact fin q rp (.int _)
      · exact q.elim
    · exact q.elim
  | maxL =>
    obtain ⟨n, q, pos, rfl, h1, h3⟩ := sh1_b rfl h
    obtain ⟨rfl, g, n⟩ := bn_of C h1
    refine ⟨s_b1 h3 ha (fun t => pe_callB (cr_max C.calm) g n boot_max' t (he := starE h3) (hpl := rfl)) fun ι h H Q w v rp r q => ?_, fun _ => rfl⟩
    simp only [p1W] at q
    split at q
    · rename_i xs hx
      split at q
      · rename_i i is hi
        obtain ⟨p, vs, rfl, hq, rr, l⟩ := rp.lsq r hx
        obtain ⟨rfl, _⟩ := ints_v rr hi
        refine ⟨p, _, rfl, by rw [C.K]; exact hq, by simp, fun m hm hmx => ?_⟩
        obtain ⟨k1, k2⟩ := maxI_is is i
        have : m = maxI i is := Int.le_antisymm (k2 m hm) (hmx _ k1)
        rw [this]
        exact fin q rp (.int _)
      · exact q.elim
    · exact q.elim
  | minL =>
    obtain ⟨n, q, pos, rfl, h1, h3⟩ := sh1_b rfl h
    obtain ⟨rfl, g, n⟩ := bn_of C h1
    refine ⟨s_b1 h3 ha (fun t => pe_callB (cr_min C.calm) g n boot_min' t (he := starE h3) (hpl := rfl)) fun ι h H Q w v rp r q => ?_, fun _ => rfl⟩
    simp only [p1W] at q
    split at q
    · rename_i xs hx
      split at q
      · rename_i i is hi
        obtain ⟨p, vs, rfl, hq, rr, l⟩ := rp.lsq r hx
        obtain ⟨rfl, _⟩ := ints_v rr hi
        refine ⟨p, _, rfl, by rw [C.K]; exact hq, by simp, fun m hm hmx => ?_⟩
        obtain ⟨k1, k2⟩ := minI_is is i
        have : m = minI i is := Int.le_antisymm (hmx _ k1) (k2 m hm)
        rw [this]
        exact fin q rp (.int _)
      · exact q.elim
    · exact q.elim
  | sortI =>
    obtain ⟨n, q, pos, rfl, h1, h3⟩ := sh1_b rfl h
    obtain ⟨rfl, g, n⟩ := bn_of C h1
    refine ⟨s_b1 h3 ha (fun t => pe_callB cr_sortedI g n boot_sorted' t (he := starE h3) (hpl := rfl)) fun ι h H Q w v rp r q => ?_, fun _ => rfl⟩
    simp only [p1W] at q
    split at q
    · rename_i xs hx
      obtain ⟨ws, e, q'⟩ := oL_new (vs := []) q rp
      obtain ⟨is, hi, rfl⟩ := Option.map_eq_some_iff.mp e
      obtain ⟨p, vs, rfl, hq, rr, l⟩ := rp.lsq r hx
      obtain ⟨rfl, rfl⟩ := ints_v rr hi
      refine ⟨p, is, rfl, by rw [C.K]; exact hq, fun ns' p' pm pw hp' => ?_⟩
      rw [srtI_eq pm pw]
      refine new_lst q' rp (RWs.intsI _) ?_ p' hp'
      rw [List.length_map, (srtI_perm is).length_eq]
      simpa using l
    · exact q.elim
  | sortIT =>
    obtain ⟨n, q, pos, rfl, h1, h3⟩ := sh1_b rfl h
    obtain ⟨rfl, g, n⟩ := bn_of C h1
    refine ⟨s_b1 h3 ha (fun t => pe_callB ZI.cr_sortIT g n boot_sorted' t (he := starE h3) (hpl := rfl)) fun ι h H Q w v rp r q => ?_, fun _ => rfl⟩
    cases r <;> first | exact q.elim | skip
    rename_i p ws vs hp hn rr l
    simp only [p1W] at q
    obtain ⟨ws', e, q'⟩ := oL_new (vs := []) q rp
    obtain ⟨is, hi, rfl⟩ := Option.map_eq_some_iff.mp e
    obtain ⟨rfl, rfl⟩ := ints_v rr hi
    refine ⟨p, is, rfl, .inl (.inl hp), fun ns' p' pm pw hp' => ?_⟩
    rw [srtI_eq pm pw]
    refine new_lst q' rp (RWs.intsI _) ?_ p' hp'
    rw [List.length_map, (srtI_perm is).length_eq]
    simpa using l
  | sortU =>
    obtain ⟨n, q, pos, rfl, h1, h3⟩ := sh1_b rfl h
    obtain ⟨rfl, g, n⟩ := bn_of C h1
    refine ⟨s_b1 h3 ha (fun t => pe_callB cr_sortUx g n boot_sorted' t (he := starE h3) (hpl := rfl)) fun ι h H Q w v rp r q => ?_, fun _ => rfl⟩
    simp only [p1W] at q
    split at q
    · rename_i xs hx
      obtain ⟨ws, e, q'⟩ := oL_new (vs := []) q rp
      obtain ⟨iss, hi, e⟩ := Option.bind_eq_some_iff.mp e
      obtain ⟨p, vs, rfl, hq, rr, l⟩ := rp.lsq r hx
      clear q
      have et := tups_v hi
      subst et
      rcases srtT_is (K := X.K) (by first | exact e | assumption) rr with h0 | ⟨d, B', k1, k2, k3, k4⟩
      · subst h0
        have e : some ([] : List W) = some ws := e
        cases e
        cases rr
        refine .inl ⟨p, [], rfl, by rw [C.K]; exact hq, fun ns' p' pm pw hp' => ?_⟩
        have : ns' = [] := List.Perm.eq_nil pm
        subst this
        exact new_lst q' rp .nil (Nat.zero_le _) p' hp'
      · refine .inr ⟨d, B', k1, p, vs, rfl, by rw [C.K]; exact hq, k2, k3, fun ys p' pm pw hp' => ?_⟩
        have r' := k4 ys pm pw
        refine new_lst q' rp r' ?_ p' hp'
        rw [r'.length, pm.length_eq, ← rr.length]
        exact l
    · exact q.elim
  | sortF =>
    obtain ⟨n, q, pos, rfl, h1, h3⟩ := sh1_b rfl h
    obtain ⟨rfl, g, n⟩ := bn_of C h1
    refine ⟨s_b1 h3 ha (fun t => pe_callB ZI.cr_sortF g n boot_sorted' t (he := starE h3) (hpl := rfl)) fun ι h H Q w v rp r q => ?_, fun _ => rfl⟩
    simp only [p1W] at q
    split at q
    · rename_i xs hx
      obtain ⟨ws, e, q'⟩ := oL_new (vs := []) q rp
      obtain ⟨L, hL, rfl⟩ := Option.map_eq_some_iff.mp e
      obtain ⟨p, vs, rfl, hq, rr, l⟩ := rp.lsq r hx
      obtain ⟨k, hk1, hk2, hk3⟩ := srtF_is hL rr
      refine ⟨p, vs, k, rfl, by rw [C.K]; exact hq, hk1, hk2, fun ys p' pm pw hp' => ?_⟩
      have r' := hk3 ys pm pw
      refine new_lst q' rp r' ?_ p' hp'
      rw [r'.length, pm.length_eq, ← rr.length]
      exact l
    · exact q.elim
  | sortDI =>
    obtain ⟨n, q, pos, rfl, h1, h3⟩ := sh1_b rfl h
    obtain ⟨rfl, g, n⟩ := bn_of C h1
    refine ⟨s_b1 h3 ha (fun t => pe_callB (call_sortedDI C.calm) g n boot_sorted' t (he := starE h3) (hpl := rfl)) fun ι h H Q w v rp r q => ?_, fun _ => rfl⟩
    simp only [p1W] at q
    split at q
    · rename_i kvs hx
      split at q
      · rename_i h64
        obtain ⟨ws, e, q'⟩ := oL_new (vs := []) q rp
        obtain ⟨is, hi, rfl⟩ := Option.map_eq_some_iff.mp e
        obtain ⟨p, ls, rfl, hq, rr, l⟩ := rp.dic r hx
        have hk := keysI_v rr hi
        have hl : is.length = kvs.length := by
          have := congrArg List.length hk
          rw [List.length_map, List.length_map] at this
          rw [← this, ← RKV.len rr]
        refine ⟨p, ls, is, rfl, hq, hk, by rw [hl]; exact h64, fun ys p' pm pw hp' => ?_⟩
        rw [srtI_eq pm pw]
        refine new_lst q' rp (RWs.intsI _) ?_ p' hp'
        rw [List.length_map, (srtI_perm is).length_eq, hl]
        exact l
      · exact q.elim
    · exact q.elim
  | sortDT =>
    obtain ⟨n, q, pos, rfl, h1, h3⟩ := sh1_b rfl h
    obtain ⟨rfl, g, n⟩ := bn_of C h1
    refine ⟨s_b1 h3 ha (fun t => pe_callB (cr_sortDTx C.calm) g n boot_sorted' t (he := starE h3) (hpl := rfl)) fun ι h H Q w v rp r q => ?_, fun _ => rfl⟩
    simp only [p1W] at q
    split at q
    · rename_i kvs hx
      obtain ⟨ws, e, q'⟩ := oL_new (vs := []) q rp
      obtain ⟨iss, hi, e⟩ := Option.bind_eq_some_iff.mp e
      obtain ⟨p, ls, rfl, hq, rr, l⟩ := rp.dicT r hx
      have hk := keysTI_v rr hi
      have hl : iss.length = kvs.length := by
        have := congrArg List.length hk
        rw [List.length_map, List.length_map] at this
        rw [← this]
        exact (Paired.length rr).symm
      cases iss with
      | nil =>
        cases e
        have hls : ls = [] := by
          cases ls with
          | nil => rfl
          | cons _ _ => cases hk
        exact .inl ⟨p, rfl, by rw [← hls]; exact hq, fun p' hp' => new_lst q' rp .nil (Nat.zero_le _) p' hp'⟩
      | cons x iss =>
        simp only [srtT] at e
        by_cases c : x.length ≠ 0 ∧ x.length < 64 ∧ likeL x.length (x :: iss) = true ∧ (x :: iss).length < 64
        · rw [if_pos c] at e
          cases e
          obtain ⟨c1, c4, c2, c3⟩ := c
          have hall := like_all c2
          obtain ⟨B', hB⟩ := bd_ex (x :: iss) fun is hi => (hall is hi).2
          refine .inr ⟨p, ls, x :: iss, x.length, B', rfl, hq, hk, c3, by omega, fun is hi => ⟨(hall is hi).1, hB is hi⟩, fun out p' pm hm pw hp' => ?_⟩
          have ej : out.map (·.2) = srtL (x :: iss) := List.Perm.eq_of_pairwise (le := fun x y => leL x y = true) (fun a b ha' hb h1 h2 => by
            have ma := pm.mem_iff.mp ha'
            have mb := (srtL_perm _).mem_iff.mp hb
            have l : a.length = b.length := by rw [(hall _ ma).1, (hall _ mb).1]
            exact code_inj l (hB _ ma) (hB _ mb) (Int.le_antisymm ((leL_code l (hB _ ma) (hB _ mb)).mp h1) ((leL_code l.symm (hB _ mb) (hB _ ma)).mp h2))) (by
              rw [List.pairwise_map]
              refine pw.imp_of_mem fun {a b} ha' hb hc => ?_
              have ma := pm.mem_iff.mp (List.mem_map.mpr ⟨a, ha', rfl⟩)
              have mb := pm.mem_iff.mp (List.mem_map.mpr ⟨b, hb, rfl⟩)
              exact (leL_code (by rw [(hall _ ma).1, (hall _ mb).1]) (hB _ ma) (hB _ mb)).mpr hc) (srtL_srt _) (pm.trans (srtL_perm _).symm)
          have hlen : ∀ x ∈ out, (x.2.map W.int).length ≤ LIM := fun y hy => by
            have ma := pm.mem_iff.mp (List.mem_map.mpr ⟨y, hy, rfl⟩)
            rw [List.length_map, (hall _ ma).1]
            exact Nat.le_trans (Nat.le_of_lt c4) (by decide)
          rw [← ej] at q'
          refine new_lst q' rp ?_ ?_ p' hp'
          · clear ej pw pm q'
            induction out with
            | nil => exact .nil
            | cons y out ih =>
              refine .cons (.tup (hm y (by simp)) (rp.tup_new (hm y (by simp))) (RWs.intsI _) (hlen y (by simp))) (ih (fun z hz => hm z (by simp [hz])) fun z hz => hlen z (by simp [hz]))
          · rw [List.length_map, ej, (srtL_perm _).length_eq, hl]
            exact l
        · rw [if_neg c] at e
          cases e
    · exact q.elim
  | dictP =>
    obtain ⟨n, q, pos, rfl, h1, h3⟩ := sh1_b rfl h
    obtain ⟨rfl, g, n⟩ := bn_of C h1
    refine ⟨s_b1 h3 ha (fun t => pe_callTy (call_dictP C.calm) g n boot_dict' t (he := starE h3) (hpl := rfl)) fun ι h H Q w v rp r q => ?_, fun _ => rfl⟩
    simp only [p1W] at q
    split at q
    · rename_i xs hx
      split at q
      · rename_i kvs hk
        obtain ⟨p, vs, rfl, hq, rr, l⟩ := rp.lsq r hx
        obtain ⟨ps, ks, h1, h2, h3, h4, h5⟩ := dictOf_is (K := X.K) rr hk (al := []) .nil List.nodup_nil
        subst h1
        refine ⟨p, ps, ks, rfl, by rw [C.K]; exact hq, h2, fun p' hp' => ?_⟩
        have q : Pv I ι H Q (.ref h.length) (h ++ [.dic kvs]) := q
        refine q (ι.push p') _ _ (Ext.mine hp') (rp.mine hp' ⟨_, upd_same, RKV.ext (Ext.mine hp') h3, by simp at h5; omega, h4⟩) (.ref (ι.push_at p' rp.len.symm))
      · exact q.elim
    · exact q.elim
  | lenT =>
    obtain ⟨n, q, pos, rfl, h1, h3⟩ := sh1_b rfl h
    obtain ⟨rfl, g, n⟩ := bn_of C h1
    refine ⟨s_b1 h3 ha (fun t => pe_callB call_len_dT g n boot_len' t (he := starE h3) (hpl := rfl)) fun ι h H Q w v rp r q => ?_, fun _ => rfl⟩
    cases r <;> first | exact q.elim | skip
    rename_i m p hp
    simp only [p1W] at q
    split at q
    · rename_i kvs hx
      obtain ⟨ls, g1, g2, g3, _⟩ := rp.at hp hx
      refine ⟨p, ls, rfl, g1, ?_⟩
      have hl : kvs.length = ls.length := Paired.length g2
      rw [← hl]
      exact fin q rp (.int _)
    · exact q.elim
  | pop =>
    simp only [sh1] at h
    split at h
    · rename_i ob nm ap cp
      split at h
      · rename_i c
        simp only [Bool.and_eq_true, decide_eq_true_eq] at c
        cases h
        obtain ⟨⟨rfl, h2⟩, h3⟩ := c
        refine ⟨⟨fun pins s σ H Q J ⟨ι, h, σc, rs, rp, q⟩ => (pe_bm0 PySem.F.plainAttrs_list PySem.F.slot_list_pop PySem.F.type_list_pop mt_pop ha (baseE h3 "pop") h2).run pins s σ H Q J ?_⟩, fun _ => rfl⟩
        refine goV rs rp q fun ι1 H1 h1 w1 v1 e1 rs1 rp1 r1 q1 => ?_
        cases r1 <;> first | exact q1.elim | skip
        rename_i m p hp
        simp only [p1W] at q1
        split at q1
        · rename_i xs hx
          split at q1
          · rename_i w hw
            obtain ⟨vs, g1, g2, g3⟩ := rp1.at hp hx
            obtain ⟨v, hv, rv⟩ := g2.get hw
            have nf : ∀ o u, H1 p ≠ some (.frz o u) := fun o u z => by rw [g1] at z; cases z
            refine ⟨.inl ⟨rfl, _, .inl (.inl g1)⟩, p, vs, v, rfl, rfl, g1, by rw [← g2.length]; exact hv, ?_⟩
            have q1 : Pv I ι1 H1 Q w (h1.set m (.lst xs.dropLast)) := q1
            have dl : RWs I ι1 H1 xs.dropLast vs.dropLast := by
              rw [List.dropLast_eq_take, List.dropLast_eq_take, ← g2.length]
              exact g2.take _
            exact q1 ι1 _ v (Ext.chg hp nf) (rp1.chg hp nf ⟨_, upd_same, dl.ext (Ext.chg hp nf), by rw [List.length_dropLast]; omega⟩) (rv.ext (Ext.chg hp nf))
          · exact q1.elim
        · exact q1.elim
      · cases h
    · cases h
  | lstD =>
    obtain ⟨n, q, pos, rfl, h1, h3⟩ := sh1_b rfl h
    obtain ⟨rfl, g, n⟩ := bn_of C h1
    refine ⟨s_b1 h3 ha (fun t => pe_callTy (call_listD C.calm) g n boot_list' t (he := starE h3) (hpl := rfl)) fun ι h H Q w v rp r q => ?_, fun _ => rfl⟩
    simp only [p1W] at q
    split at q
    · rename_i kvs hx
      obtain ⟨p, ls, rfl, hq, rr, l⟩ := rp.dic r hx
      refine ⟨p, ls, rfl, hq, fun p' hp' => new_lst q rp ?_ (by simpa using l) p' hp'⟩
      have go : ∀ {ks : List (W × W)} {ls : List (Key × V)}, RKV I ι H ks ls → RWs I ι H (ks.map (·.1)) (ls.map fun kv => kV kv.1) := by
        intro ks
        induction ks with
        | nil => intro ls r; cases r; exact .nil
        | cons k ks ih =>
          intro ls r
          cases r with
          | cons q1 r => exact .cons (rk_kV q1.1) (ih r)
      exact go rr
    · exact q.elim
  | minU =>
    have h2 : shb B X.env.scope .minU e = some x := h
    unfold shb b1nm at h2
    simp at h2
end
end Z
namespace Z
open PySem PySem.Spec L2
section
variable {X : Cx} {I : Inf} {B : Tb} {Wx : XK} {a b c e o x y z : Expr} {es : List Expr} {fa fb fc : Env → EH → T W} {fs gs : Env → EH → T (List W)} {pos p p2 : Pos} {σc : Env}
theorem m1_e {nm : Str} (h : m1 nm e = some (x, y)) : ∃ ap cp, e = .Call (.Attribute x nm ap) [y] [] cp ∧ (ap.endLine == cp.line) = true ∧ plainB x = true ∧ plain y = true := by
  unfold m1 at h
  split at h
  · split at h
    · rename_i c
      simp only [Bool.and_eq_true, decide_eq_true_eq] at c
      cases h
      obtain ⟨⟨⟨rfl, c2⟩, c3⟩, c4⟩ := c
      exact ⟨_, _, rfl, c2, c3, c4⟩
    · cases h
  · cases h
theorem m2_e {nm : Str} (h : m2 nm e = some (x, y, z)) : ∃ ap cp, e = .Call (.Attribute x nm ap) [y, z] [] cp ∧ (ap.endLine == cp.line) = true ∧ plainB x = true ∧ plain y = true ∧ plain z = true := by
  unfold m2 at h
  split at h
  · split at h
    · rename_i c
      simp only [Bool.and_eq_true, decide_eq_true_eq] at c
      cases h
      obtain ⟨⟨⟨⟨rfl, c2⟩, c3⟩, c4⟩, c5⟩ := c
      exact ⟨_, _, rfl, c2, c3, c4, c5⟩
    · cases h
  · cases h
theorem rg2_e {sc : Scope} {nm : Str} (h : rg2 B sc nm e = some (x, y)) : ∃ n q n2 q2 pos2 pos, e = .Call (.Name n q) [.Call (.Name n2 q2) [x, y] [] pos2] [] pos ∧ isB B sc nm n = true ∧ isB B sc "range" n2 = true ∧ plain x = true ∧ plain y = true := by
  unfold rg2 at h
  split at h
  · split at h
    · rename_i c
      simp only [Bool.and_eq_true] at c
      cases h
      exact ⟨_, _, _, _, _, _, rfl, c.1.1.1, c.1.1.2, c.1.2, c.2⟩
    · cases h
  · cases h
theorem seqIx {n : Nat} {i : Int} {j : Nat} (h : ixN n i = some j) : seqIndex? i n = some j := by
  unfold ixN at h
  unfold seqIndex?
  by_cases h0 : 0 ≤ i
  · rw [if_pos h0] at h
    by_cases h1 : i < (n : Int)
    · rw [if_pos h1] at h
      cases h
      have h2 : ¬ i < 0 := by omega
      simp only [if_neg h2]
      rw [if_pos (by simp; omega)]
    · rw [if_neg h1] at h; cases h
  · rw [if_neg h0] at h
    by_cases h1 : -(n : Int) ≤ i
    · rw [if_pos h1] at h
      cases h
      have h2 : i < 0 := by omega
      simp only [if_pos h2]
      rw [if_pos (by simp; omega)]
    · rw [if_neg h1] at h; cases h
theorem isLW0_at {ι : Pl} {h : EH} {H : Hp} {w : W} {v : V} (rp : Rep I ι h H) (r : RW I ι H w v) (e : isLW0 h w = true) : ∃ p vs, v = .ref p ∧ H p = some (.lst vs) := by
  unfold isLW0 at e
  split at e
  · split at e
    · rename_i xs hx
      cases r with
      | ref hp =>
        obtain ⟨vs, g1, _⟩ := rp.at hp hx
        exact ⟨_, vs, rfl, g1⟩
    · cases e
  · cases e
theorem isD_at {ι : Pl} {h : EH} {H : Hp} {w : W} {v : V} (rp : Rep I ι h H) (r : RW I ι H w v) (e : (dicOf h w).isSome = true) : ∃ p, v = .ref p ∧ IsD H p := by
  cases q : dicOf h w with
  | none => rw [q] at e; cases e
  | some kvs =>
    obtain ⟨p, ls, rfl, hq, _⟩ := rp.dic r q
    exact ⟨p, rfl, .inl ⟨ls, hq⟩⟩
theorem isDT_at {ι : Pl} {h : EH} {H : Hp} {w : W} {v : V} (rp : Rep I ι h H) (r : RW I ι H w v) (e : (dicTOf h w).isSome = true) : ∃ p, v = .ref p ∧ IsD H p := by
  cases q : dicTOf h w with
  | none => rw [q] at e; cases e
  | some kvs =>
    obtain ⟨p, ls, rfl, hq, _⟩ := rp.dicT r q
    exact ⟨p, rfl, .inr ⟨ls, hq⟩⟩
theorem eraseIdx_rws {ι : Pl} {H : Hp} : ∀ {ws : List W} {vs : List V} (i : Nat), RWs I ι H ws vs → RWs I ι H (ws.eraseIdx i) (vs.eraseIdx i)
  | _, _, _, .nil => .nil
  | _, _, 0, .cons _ t => t
  | _, _, i + 1, .cons r t => .cons r (eraseIdx_rws i t)
theorem remI_v {ι : Pl} {H : Hp} {i : Int} : ∀ {ws ws' : List W} {vs : List V}, RWs I ι H ws vs → remI i ws = some ws' → ∀ ns : List Int, vs = ns.map V.int → i ∈ ns ∧ RWs I ι H ws' ((ns.erase i).map V.int)
  | [], _, _, .nil, e, _, _ => by simp [remI] at e
  | w :: ws, ws', _, .cons r rr, e, ns, en => by
    cases r <;> first | (simp [remI] at e; done) | skip
    rename_i vs j
    cases ns with
    | nil => cases en
    | cons n ns =>
      rw [List.map_cons] at en
      injection en with e1 e2
      injection e1 with e1
      subst e1
      simp only [remI] at e
      by_cases hj : j = i
      · rw [if_pos hj] at e
        cases e
        subst hj
        refine ⟨by simp, ?_⟩
        rw [List.erase_cons_head, ← e2]
        exact rr
      · rw [if_neg hj] at e
        cases h2 : remI i ws with
        | none => rw [h2] at e; cases e
        | some s =>
          rw [h2] at e
          cases e
          obtain ⟨k1, k2⟩ := remI_v rr h2 ns e2
          refine ⟨by simp [k1], ?_⟩
          rw [List.erase_cons_tail (by simpa using hj), List.map_cons]
          exact .cons (.int _) k2
theorem remI_ints {i : Int} : ∀ {ws ws' : List W}, remI i ws = some ws' → ws'.length ≤ ws.length
  | [], _, e => by simp [remI] at e
  | w :: ws, ws', e => by
    cases w <;> first | (simp [remI] at e; done) | skip
    simp only [remI] at e
    split at e
    · cases e; simp
    · cases h2 : remI i ws with
      | none => rw [h2] at e; cases e
      | some s =>
        rw [h2] at e
        cases e
        have := remI_ints h2
        simp only [List.length_cons]
        omega
theorem s_inT (C : Cs B I X) {m : Bool} {n : Bool} (hp : plain b = true) (ha : PE X a (tE I fa Wx)) (hb : PE X b (tE I fb Wx)) :
    PE X (.Compare a [if n then .NotIn else .In] [b] pos) (tE I (fun σ h => (fa σ h).bind fun x h => (fb σ h).bind fun y h => p2W (.inT n) m x y h) Wx) ∧
    PT X (.Compare a [if n then .NotIn else .In] [b] pos) (tTest (tE I (fun σ h => (fa σ h).bind fun x h => (fb σ h).bind fun y h => p2W (.inT n) m x y h) Wx)) := by
  have hu : X.A.units + 1 < cLine := by have := C.hu; omega
  have st : ∀ {σ H Q}, tE I (fun σ h => (fa σ h).bind fun x h => (fb σ h).bind fun y h => p2W (.inT n) m x y h) Wx σ H Q → tE I fa Wx σ H fun y H1 => tE I fb Wx σ H1 fun x H2 => ∃ a o, x = .ref a ∧ DGet H2 a y o ∧ Q (.bl (if n then !o.isSome else o.isSome)) H2 := by
    intro σ H Q ⟨ι, h, σc, rs, rp, q⟩
    refine goV rs rp q fun ι1 H1 h1 w1 v1 e1 rs1 rp1 r1 q1 => ?_
    refine goV rs1 rp1 q1 fun ι2 H2 h2 w2 v2 e2 rs2 rp2 r2 q2 => ?_
    simp only [p2W] at q2
    split at q2
    · rename_i kvs hx
      obtain ⟨p, ls, rfl, hq, rr, l⟩ := rp2.dicT r2 hx
      split at q2
      · rename_i hk
        obtain ⟨bb, y, rfl, hb', rk, hn⟩ := isKeyT_kV (r1.ext e2) hk
        refine ⟨p, valV ls y, rfl, .inr ⟨ls, y, bb, hq, rfl, hb', rfl⟩, ?_⟩
        rcases RKVT.get rk rr with ⟨z1, z2⟩ | ⟨w', v, z1, z2, z3⟩
        · rw [z1] at q2
          rw [z2]
          have q3 := fin q2 rp2 (.bl _)
          cases n <;> exact q3
        · rw [z1] at q2
          rw [z2]
          have q3 := fin q2 rp2 (.bl _)
          cases n <;> exact q3
      · exact q2.elim
    · exact q2.elim
  cases n with
  | false => exact ⟨⟨fun pins s σ H Q J q => (pe_cmp (pc_din hu ha hb) (noB hp)).run pins s σ H Q J (st q)⟩, ⟨fun pins s σ H Q J q => (pt_cmp (pc_din hu ha hb) (noB hp)).run pins s σ H Q J (st q)⟩⟩
  | true => exact ⟨⟨fun pins s σ H Q J q => (pe_cmp (pc_dnotin hu ha hb) (noB hp)).run pins s σ H Q J (st q)⟩, ⟨fun pins s σ H Q J q => (pt_cmp (pc_dnotin hu ha hb) (noB hp)).run pins s σ H Q J (st q)⟩⟩
theorem s_dixT (C : Cs B I X) {m : Bool} (hp : plain b = true) (ha : PE X a (tE I fa Wx)) (hb : PE X b (tE I fb Wx)) : PE X (.Subscript a b pos) (tE I (fun σ h => (fa σ h).bind fun v h => (fb σ h).bind fun w h => p2W .dixT m v w h) Wx) := by
  have hu : X.A.units + 1 < cLine := by have := C.hu; omega
  have hs : NoSl b := fun o i => by cases b <;> first | rfl | cases hp
  refine ⟨fun pins s σ H Q J ⟨ι, h, σc, rs, rp, q⟩ => (pe_dget hu ha hb hs).run pins s σ H Q J ?_⟩
  refine goV rs rp q fun ι1 H1 h1 w1 v1 e1 rs1 rp1 r1 q1 => ?_
  refine goV rs1 rp1 q1 fun ι2 H2 h2 w2 v2 e2 rs2 rp2 r2 q2 => ?_
  simp only [p2W] at q2
  split at q2
  · rename_i kvs hx
    obtain ⟨p, ls, rfl, hq, rr, l⟩ := rp2.dicT (r1.ext e2) hx
    split at q2
    · rename_i hk
      obtain ⟨bb, y, rfl, hb', rk, hn⟩ := isKeyT_kV r2 hk
      obtain ⟨w, ew, kq⟩ := finO q2 rp2
      rcases RKVT.get rk rr with ⟨z, _⟩ | ⟨w', v, z1, z2, z3⟩
      · rw [z] at ew; cases ew
      · rw [z1] at ew; cases ew
        exact ⟨p, v, rfl, .inr ⟨ls, y, bb, hq, rfl, hb', z2.symm⟩, kq v z3⟩
    · exact q2.elim
  · exact q2.elim
theorem preT {p : P2} {m : Bool} (hp : ∀ x h, pre2 p x h = true) : (fun σ h => (fa σ h).bind fun v h => if pre2 p v h then (fb σ h).bind fun w h => p2W p m v w h else (.fail : T W)) = fun σ h => (fa σ h).bind fun v h => (fb σ h).bind fun w h => p2W p m v w h := by
  funext σ h
  congr 1
  funext v h
  rw [if_pos (hp v h)]
theorem p2_ok (C : Cs B I X) (tk : Takes X (fun c d _ H => Wx c d H)) {p : P2} {m : Bool} (h : sh2 B X.env.scope p e = some (x, y)) (ha : PE X x (tE I fa Wx)) (hb : PE X y (tE I fb Wx)) :
    PE X e (tE I (fun σ h => (fa σ h).bind fun v h => if pre2 p v h then (fb σ h).bind fun w h => p2W p m v w h else .fail) Wx) ∧
    PT X e (tTest (tE I (fun σ h => (fa σ h).bind fun v h => if pre2 p v h then (fb σ h).bind fun w h => p2W p m v w h else .fail) Wx)) := by
  have hu : X.A.units + 1 < cLine := by have := C.hu; omega
  cases p with
  | dixT =>
    rw [preT fun _ _ => rfl]
    simp only [sh2] at h
    split at h
    · split at h
      · rename_i hp
        cases h
        exact ⟨s_dixT C hp ha hb, pt_val (s_dixT C hp ha hb) fun _ => rfl⟩
      · cases h
    · cases h
  | inT n =>
    rw [preT fun _ _ => rfl]
    simp only [sh2] at h
    split at h
    · split at h
      · rename_i c
        simp only [Bool.and_eq_true, decide_eq_true_eq] at c
        cases h
        obtain ⟨rfl, hp⟩ := c
        exact s_inT C hp ha hb
      · cases h
    · cases h
  | lstRng2 =>
    rw [preT fun _ _ => rfl]
    obtain ⟨n, q, n2, q2, pos2, pos, rfl, h1, h2, h3, h4⟩ := rg2_e h
    obtain ⟨rfl, g1, n1⟩ := bn_of C h1
    obtain ⟨rfl, g2, n2⟩ := bn_of C h2
    have pe : PE X (.Call (.Name "list" q) [.Call (.Name "range" q2) [x, y] [] pos2] [] pos) (tE I (fun σ h => (fa σ h).bind fun v h => (fb σ h).bind fun w h => p2W .lstRng2 m v w h) Wx) := ⟨fun pins s σ H Q J ⟨ι, h, σc, rs, rp, q⟩ => (pe_listRg C.calm g1 n1 (prg_2 g2 n2 ha hb (starE h3) (starE h4) (plE h4))).run pins s σ H Q J (by
      refine goV rs rp q fun ι1 H1 h1 w1 v1 e1 rs1 rp1 r1 q1 => ?_
      refine goV rs1 rp1 q1 fun ι2 H2 h2 w2 v2 e2 rs2 rp2 r2 q2 => ?_
      cases r1 <;> cases r2 <;> first | exact q2.elim | skip
      rename_i i k
      simp only [p2W] at q2
      split at q2
      · rename_i hk
        have hL : (LIM : Int) = 100000 := rfl
        exact ⟨i, k, rfl, rfl, ⟨by omega, by omega, by omega, by omega, by omega⟩, new_lst q2 rp2 (rgV_w _ _) (by rw [rngW_len]; omega)⟩
      · exact q2.elim)⟩
    exact ⟨pe, pt_val pe fun _ => rfl⟩
  | tupRng2 =>
    rw [preT fun _ _ => rfl]
    obtain ⟨n, q, n2, q2, pos2, pos, rfl, h1, h2, h3, h4⟩ := rg2_e h
    obtain ⟨rfl, g1, n1⟩ := bn_of C h1
    obtain ⟨rfl, g2, n2⟩ := bn_of C h2
    have pe : PE X (.Call (.Name "tuple" q) [.Call (.Name "range" q2) [x, y] [] pos2] [] pos) (tE I (fun σ h => (fa σ h).bind fun v h => (fb σ h).bind fun w h => p2W .tupRng2 m v w h) Wx) := ⟨fun pins s σ H Q J ⟨ι, h, σc, rs, rp, q⟩ => (pe_tupRg C.calm g1 n1 (prg_2 g2 n2 ha hb (starE h3) (starE h4) (plE h4))).run pins s σ H Q J (by
      refine goV rs rp q fun ι1 H1 h1 w1 v1 e1 rs1 rp1 r1 q1 => ?_
      refine goV rs1 rp1 q1 fun ι2 H2 h2 w2 v2 e2 rs2 rp2 r2 q2 => ?_
      cases r1 <;> cases r2 <;> first | exact q2.elim | skip
      rename_i i k
      simp only [p2W] at q2
      split at q2
      · rename_i hk
        have hL : (LIM : Int) = 100000 := rfl
        exact ⟨i, k, rfl, rfl, ⟨by omega, by omega, by omega, by omega, by omega⟩, new_tup q2 rp2 (rgV_w _ _) (by rw [rngW_len]; omega)⟩
      · exact q2.elim)⟩
    exact ⟨pe, pt_val pe fun _ => rfl⟩
  | popAt =>
    obtain ⟨ap, cp, rfl, h2, h3, h4⟩ := m1_e (show m1 "pop" e = some (x, y) from h)
    have hs : starEach [y] X.env = (false, eval y X.env) :: starEach [] X.env := by rw [starE h4]
    have pe : PE X (.Call (.Attribute x "pop" ap) [y] [] cp) (tE I (fun σ h => (fa σ h).bind fun v h => if pre2 .popAt v h then (fb σ h).bind fun w h => p2W .popAt m v w h else .fail) Wx) := by
      refine PE_imp (pe_bm PySem.F.plainAttrs_list PySem.F.slot_list_pop PySem.F.type_list_pop mt_popAt ha (a_cons (Wx := Wx) h4 hb a_nil) (baseE h3 "pop") (by rw [hs]; rfl) h2 hs rfl) fun σ H Q ⟨ι, h, σc, rs, rp, q⟩ => ?_
      refine goV rs rp q fun ι1 H1 h1 w1 v1 e1 rs1 rp1 r1 q1 => ?_
      split at q1
      · rename_i hw
        obtain ⟨p, vs, rfl, g1⟩ := isLW0_at rp1 r1 hw
        refine ⟨.inl ⟨rfl, _, .inl (.inl g1)⟩, ?_⟩
        refine ⟨ι1, h1, σc, rs1, rp1, T.All.of_bind ((T.All.bind q1).mono (fun w2 h2 q2 ι2 H2 vs2 e2 rp2 r2 => ?_) fun _ _ z => z)⟩
        cases r2 with
        | cons r3 rr =>
          cases rr
          have q3 := later q2 e2
          cases r1 with
          | ref hm =>
            cases r3 <;> first | exact q3.elim | skip
            rename_i i
            simp only [p2W] at q3
            split at q3
            · rename_i xs hx
              split at q3
              · rename_i j hj
                split at q3
                · rename_i w hw
                  obtain ⟨us, k1, k2, k3⟩ := rp2.at (e2.ix hm) hx
                  obtain ⟨v, hv, rv⟩ := k2.get hw
                  have nf : ∀ o u, H2 p ≠ some (.frz o u) := fun o u z => by rw [k1] at z; cases z
                  have hd := e2.ix hm
                  have hb1 : -(2 ^ 63 : Int) ≤ i ∧ i < 2 ^ 63 := by
                    have hL : xs.length ≤ 100000 := k3
                    unfold ixN at hj
                    split at hj
                    · split at hj
                      · omega
                      · cases hj
                    · split at hj
                      · omega
                      · cases hj
                  refine ⟨p, us, i, j, v, rfl, rfl, k1, hb1.1, hb1.2, ?_, hv, ?_⟩
                  · rw [← k2.length]; exact seqIx hj
                  · have q4 : Pv I ι2 H2 Q w (h2.set _ (.lst (xs.eraseIdx j))) := q3
                    exact q4 ι2 _ v (Ext.chg hd nf) (rp2.chg hd nf ⟨_, upd_same, (eraseIdx_rws j k2).ext (Ext.chg hd nf), Nat.le_trans (List.length_eraseIdx_le ..) k3⟩) (rv.ext (Ext.chg hd nf))
                · exact q3.elim
              · exact q3.elim
            · exact q3.elim
          | _ => cases hw
      · exact q1.elim
    exact ⟨pe, pt_val pe fun _ => rfl⟩
  | get1 =>
    obtain ⟨ap, cp, rfl, h2, h3, h4⟩ := m1_e (show m1 "get" e = some (x, y) from h)
    have hs : starEach [y] X.env = (false, eval y X.env) :: starEach [] X.env := by rw [starE h4]
    have pe : PE X (.Call (.Attribute x "get" ap) [y] [] cp) (tE I (fun σ h => (fa σ h).bind fun v h => if pre2 .get1 v h then (fb σ h).bind fun w h => p2W .get1 m v w h else .fail) Wx) := by
      refine PE_imp (pe_dget1 hu ha hb ⟨baseE h3 "get", by rw [hs]; rfl, h2, by rw [hs]; rfl⟩) fun σ H Q ⟨ι, h, σc, rs, rp, q⟩ => ?_
      refine goV rs rp q fun ι1 H1 h1 w1 v1 e1 rs1 rp1 r1 q1 => ?_
      split at q1
      · rename_i hw
        obtain ⟨p, rfl, g1⟩ := isD_at rp1 r1 hw
        refine ⟨p, rfl, g1, goV rs1 rp1 q1 fun ι2 H2 h2 w2 v2 e2 rs2 rp2 r2 q2 => ?_⟩
        simp only [p2W] at q2
        split at q2
        · rename_i kvs hx
          obtain ⟨p', ls, e', hq, rr, l⟩ := rp2.dic (r1.ext e2) hx
          cases e'
          split at q2
          · rename_i hk
            obtain ⟨y, rfl, rk⟩ := isKey_kV r2 hk
            refine ⟨valV ls y, .inl ⟨ls, y, hq, rfl, rfl⟩, ?_⟩
            rcases RKV.get rk rr with ⟨z1, z2⟩ | ⟨w', v, z1, z2, z3⟩
            · rw [z1] at q2
              rw [z2]
              exact fin q2 rp2 .non
            · rw [z1] at q2
              rw [z2]
              exact fin q2 rp2 z3
          · exact q2.elim
        · exact q2.elim
      · exact q1.elim
    exact ⟨pe, pt_val pe fun _ => rfl⟩
  | remI =>
    obtain ⟨ap, cp, rfl, h2, h3, h4⟩ := m1_e (show m1 "remove" e = some (x, y) from h)
    have hs : starEach [y] X.env = (false, eval y X.env) :: starEach [] X.env := by rw [starE h4]
    have pe : PE X (.Call (.Attribute x "remove" ap) [y] [] cp) (tE I (fun σ h => (fa σ h).bind fun v h => if pre2 .remI v h then (fb σ h).bind fun w h => p2W .remI m v w h else .fail) Wx) := by
      refine PE_imp (pe_remX C.calm tk ha hb (baseE h3 "remove") (by rw [hs]; rfl) h2 hs rfl) fun σ H Q ⟨ι, h, σc, rs, rp, q⟩ => ?_
      refine goV rs rp q fun ι1 H1 h1 w1 v1 e1 rs1 rp1 r1 q1 => ?_
      split at q1
      · rename_i hw
        obtain ⟨p, vs, rfl, g1⟩ := isLW0_at rp1 r1 hw
        refine ⟨.inl ⟨rfl, _, .inl (.inl g1)⟩, goV rs1 rp1 q1 fun ι2 H2 h2 w2 v2 e2 rs2 rp2 r2 q2 => ?_⟩
        cases r1 with
        | ref hm =>
          cases r2 <;> first | exact q2.elim | skip
          rename_i i
          simp only [p2W] at q2
          split at q2
          · rename_i xs hx
            split at q2
            · rename_i is' s hi' hs'
              obtain ⟨us, k1, k2, k3⟩ := rp2.at (e2.ix hm) hx
              have nf : ∀ o u, H2 p ≠ some (.frz o u) := fun o u z => by rw [k1] at z; cases z
              have hd := e2.ix hm
              -- all are ints: the erased part and what is behind it
              obtain ⟨ns, hns⟩ : ∃ ns : List Int, us = ns.map V.int := ⟨_, (ints_v k2 hi').1⟩
              obtain ⟨k4, k5⟩ := remI_v k2 hs' ns hns
              refine ⟨p, ns, i, rfl, rfl, by rw [← hns]; exact k1, fun _ => ?_, fun z => absurd k4 z⟩
              have q4 : Pv I ι2 H2 Q .non (h2.set _ (.lst s)) := q2
              exact q4 ι2 _ _ (Ext.chg hd nf) (rp2.chg hd nf ⟨_, upd_same, k5.ext (Ext.chg hd nf), Nat.le_trans (remI_ints hs') k3⟩) .non
            · exact q2.elim
          · exact q2.elim
        | _ => cases hw
      · exact q1.elim
    exact ⟨pe, pt_val pe fun _ => rfl⟩
end
end Z
namespace Z
open PySem PySem.Spec L2
section
variable {X : Cx} {I : Inf} {B : Tb} {Wx : XK} {a b c e o x y z : Expr} {es : List Expr} {fa fb fc : Env → EH → T W} {fs gs : Env → EH → T (List W)} {pos p p2 : Pos} {σc : Env}
theorem p3_ok (C : Cs B I X) {p : P3} (h : sh3 p e = some (x, y, z)) (ha : PE X x (tE I fa Wx)) (hb : PE X y (tE I fb Wx)) (hc : PE X z (tE I fc Wx)) :
    PE X e (tE I (fun σ h => (fa σ h).bind fun v h => if pre3 p v h then (fb σ h).bind fun w h => (fc σ h).bind fun u h => p3W p v w u h else .fail) Wx) ∧ ByV X e := by
  have hu : X.A.units + 1 < cLine := by have := C.hu; omega
  cases p with
  | get2 =>
    obtain ⟨ap, cp, rfl, h2, h3, h4, h5⟩ := m2_e (show m2 "get" e = some (x, y, z) from h)
    have hs : starEach [y, z] X.env = [(false, eval y X.env), (false, eval z X.env)] := by rw [starE h4, starE h5]; rfl
    refine ⟨PE_imp (pe_dget2 hu ha hb hc ⟨baseE h3 "get", by rw [hs]; rfl, h2, by rw [hs]; rfl⟩) fun σ H Q ⟨ι, h, σc, rs, rp, q⟩ => ?_, fun _ => rfl⟩
    refine goV rs rp q fun ι1 H1 h1 w1 v1 e1 rs1 rp1 r1 q1 => ?_
    split at q1
    · rename_i hw
      obtain ⟨p, rfl, g1⟩ := isD_at rp1 r1 hw
      refine ⟨p, rfl, g1, goV rs1 rp1 q1 fun ι2 H2 h2 w2 v2 e2 rs2 rp2 r2 q2 => goV rs2 rp2 q2 fun ι3 H3 h3 w3 v3 e3 rs3 rp3 r3 q3 => ?_⟩
      simp only [p3W] at q3
      split at q3
      · rename_i kvs hx
        obtain ⟨p', ls, e', hq, rr, l⟩ := rp3.dic ((r1.ext e2).ext e3) hx
        cases e'
        split at q3
        · rename_i hk
          obtain ⟨y, rfl, rk⟩ := isKey_kV (r2.ext e3) hk
          refine ⟨valV ls y, .inl ⟨ls, y, hq, rfl, rfl⟩, ?_⟩
          rcases RKV.get rk rr with ⟨z1, z2⟩ | ⟨w', v, z1, z2, z3⟩
          · rw [z1] at q3
            rw [z2]
            exact fin q3 rp3 r3
          · rw [z1] at q3
            rw [z2]
            exact fin q3 rp3 z3
        · exact q3.elim
      · exact q3.elim
    · exact q1.elim
  | getT2 =>
    obtain ⟨ap, cp, rfl, h2, h3, h4, h5⟩ := m2_e (show m2 "get" e = some (x, y, z) from h)
    have hs : starEach [y, z] X.env = [(false, eval y X.env), (false, eval z X.env)] := by rw [starE h4, starE h5]; rfl
    refine ⟨PE_imp (pe_dget2 hu ha hb hc ⟨baseE h3 "get", by rw [hs]; rfl, h2, by rw [hs]; rfl⟩) fun σ H Q ⟨ι, h, σc, rs, rp, q⟩ => ?_, fun _ => rfl⟩
    refine goV rs rp q fun ι1 H1 h1 w1 v1 e1 rs1 rp1 r1 q1 => ?_
    split at q1
    · rename_i hw
      obtain ⟨p, rfl, g1⟩ := isDT_at rp1 r1 hw
      refine ⟨p, rfl, g1, goV rs1 rp1 q1 fun ι2 H2 h2 w2 v2 e2 rs2 rp2 r2 q2 => goV rs2 rp2 q2 fun ι3 H3 h3 w3 v3 e3 rs3 rp3 r3 q3 => ?_⟩
      simp only [p3W] at q3
      split at q3
      · rename_i kvs hx
        obtain ⟨p', ls, e', hq, rr, l⟩ := rp3.dicT ((r1.ext e2).ext e3) hx
        cases e'
        split at q3
        · rename_i hk
          obtain ⟨bb, y, rfl, hb', rk, hn⟩ := isKeyT_kV (r2.ext e3) hk
          refine ⟨valV ls y, .inr ⟨ls, y, bb, hq, rfl, hb', rfl⟩, ?_⟩
          rcases RKVT.get rk rr with ⟨z1, z2⟩ | ⟨w', v, z1, z2, z3⟩
          · rw [z1] at q3
            rw [z2]
            exact fin q3 rp3 r3
          · rw [z1] at q3
            rw [z2]
            exact fin q3 rp3 z3
        · exact q3.elim
      · exact q3.elim
    · exact q1.elim
  | insert =>
    obtain ⟨ap, cp, rfl, h2, h3, h4, h5⟩ := m2_e (show m2 "insert" e = some (x, y, z) from h)
    have hs : starEach [y, z] X.env = (false, eval y X.env) :: starEach [z] X.env := starE h4
    have hs2 : starEach [z] X.env = (false, eval z X.env) :: starEach [] X.env := starE h5
    refine ⟨PE_imp (pe_bm PySem.F.plainAttrs_list PySem.F.slot_list_insert PySem.F.type_list_insert mt_insert ha (a_cons (Wx := Wx) h4 hb (a_cons h5 hc a_nil)) (baseE h3 "insert") (by rw [hs, hs2]; rfl) h2 hs (by rw [hs2]; rfl)) fun σ H Q ⟨ι, h, σc, rs, rp, q⟩ => ?_, fun _ => rfl⟩
    refine goV rs rp q fun ι1 H1 h1 w1 v1 e1 rs1 rp1 r1 q1 => ?_
    split at q1
    · rename_i hw
      obtain ⟨p, vs, rfl, g1⟩ := isLW0_at rp1 r1 hw
      refine ⟨.inl ⟨rfl, _, .inl (.inl g1)⟩, ?_⟩
      refine ⟨ι1, h1, σc, rs1, rp1, T.All.of_bind ((T.All.bind q1).mono (fun w2 h2 q2 => T.All.of_bind (T.All.of_bind ((T.All.bind q2).mono (fun w3 h3 q3 ι2 H2 vs2 e2 rp2 r2 => ?_) fun _ _ z => z))) fun _ _ z => z)⟩
      cases r2 with
      | cons r3 rr =>
        cases rr with
        | cons r4 rr =>
          cases rr
          replace q3 := later q3 e2
          cases r1 with
          | ref hm =>
            cases r3 <;> first | exact q3.elim | skip
            rename_i i
            simp only [p3W] at q3
            split at q3
            · rename_i xs hx
              split at q3
              · rename_i hi
                obtain ⟨us, k1, k2, k3⟩ := rp2.at (e2.ix hm) hx
                have nf : ∀ o u, H2 p ≠ some (.frz o u) := fun o u z => by rw [k1] at z; cases z
                have hd := e2.ix hm
                have hL : xs.length < 100000 := hi.2.2
                refine ⟨p, us, i, _, rfl, rfl, k1, ?_, hi.1, by omega, ?_⟩
                · rw [← k2.length]; exact Nat.lt_of_lt_of_le hL (by decide)
                · have q4 : Pv I ι2 H2 Q .non (h3.set _ (.lst (xs.take i.toNat ++ [w3] ++ xs.drop i.toNat))) := q3
                  refine q4 ι2 _ _ (Ext.chg hd nf) (rp2.chg hd nf ⟨_, upd_same, (((k2.take _).append (.cons r4 .nil)).append (k2.drop _)).ext (Ext.chg hd nf), ?_⟩) .non
                  simp only [List.length_append, List.length_take, List.length_drop, List.length_singleton]
                  have hL2 : LIM = 100000 := rfl
                  omega
              · exact q3.elim
            · exact q3.elim
          | _ => cases hw
    · exact q1.elim
/-! ### walks -/
theorem mem_pairW {ι : Pl} {H : Hp} : ∀ {ks : List (W × W)} {ls : List (Key × V)} {i : Nat}, RKV I ι H ks ls → ∀ w, (pairW ks)[i]? = some w → ∃ a b k v, w = .tup [a, b] ∧ ls[i]? = some (k, v) ∧ RK a k ∧ RW I ι H b v
  | [], [], i, .nil => fun w h => by simp [pairW] at h
  | (a, b) :: ks, (k, v) :: ls, 0, .cons ⟨q1, q2⟩ r => fun w h => by
    simp [pairW] at h
    subst h
    exact ⟨a, b, k, v, rfl, rfl, q1, q2⟩
  | (a, b) :: ks, (k, v) :: ls, i + 1, .cons ⟨q1, q2⟩ r => fun w h => by
    obtain ⟨a', b', k', v', h1, h2, h3⟩ := mem_pairW (i := i) r w (by simpa [pairW] using h)
    exact ⟨a', b', k', v', h1, by simpa using h2, h3⟩
theorem pairW_len : ∀ ks : List (W × W), (pairW ks).length = ks.length
  | [] => rfl
  | (a, b) :: ks => by simp [pairW, pairW_len ks]
theorem enumW_len : ∀ (xs : List W) (i : Int), (enumW i xs).length = xs.length
  | [], _ => rfl
  | x :: xs, i => by simp [enumW, enumW_len xs]
theorem enumW_get : ∀ {xs : List W} {k : Int} {i : Nat}, (enumW k xs)[i]? = (xs[i]?).map fun x => W.tup [.int (k + i), x]
  | [], _, _ => by simp [enumW]
  | x :: xs, k, 0 => by simp [enumW]
  | x :: xs, k, i + 1 => by
    simp only [enumW, List.getElem?_cons_succ]
    rw [enumW_get]
    congr 1
    funext x
    congr 3
    push_cast
    omega
theorem j_vals {ι : Pl} {H : Hp} {d : Addr} {o : Obj} {ks : List (W × W)} {ls : List (Key × V)} (h : H d = some (.frz o (.dK ls))) (r : RKV I ι H ks ls) (l : ks.length ≤ LIM) : JOk I ι H (ks.map (·.2)) (Itd d o ls) := by
  refine ⟨by simpa using l, fun ι2 H2 h2 e2 rp2 i => ⟨fun w hw => ?_, fun hi => ?_⟩⟩
  · rw [List.getElem?_map] at hw
    obtain ⟨p, hp, rfl⟩ := Option.map_eq_some_iff.mp hw
    obtain ⟨q, h1, q1, q2⟩ := paired_get r hp
    refine ⟨⟨e2.frz _ _ _ h, (List.getElem?_eq_some_iff.mp h1).1⟩, fun x H3 y => ?_⟩
    obtain ⟨e, k', h4⟩ := y
    subst e
    rw [h1] at h4
    cases h4
    exact ⟨Ext.refl, rp2, q2.mo e2.toMw⟩
  · refine ⟨e2.frz _ _ _ h, ?_⟩
    rw [← RKV.len r]
    simpa using hi
theorem new_pair {ι2 : Pl} {h2 : EH} {H2 : Hp} {a b : W} {u v : V} {T : Addr} (hT : H2 T = none) (rp2 : Rep I ι2 h2 H2) (ra : RW I ι2 H2 a u) (rb : RW I ι2 H2 b v) : Ext ι2 H2 ι2 (upd H2 T (.tup [u, v])) ∧ Rep I ι2 h2 (upd H2 T (.tup [u, v])) ∧ RW I ι2 (upd H2 T (.tup [u, v])) (.tup [a, b]) (.ref T) :=
  ⟨Ext.side hT, rp2.side hT, .tup upd_same (rp2.new hT) (.cons (ra.ext (Ext.side hT)) (.cons (rb.ext (Ext.side hT)) .nil)) (Nat.le_of_ble_eq_true rfl)⟩
theorem j_items {ι : Pl} {H : Hp} {d : Addr} {o : Obj} {ks : List (W × W)} {ls : List (Key × V)} (h : H d = some (.frz o (.dK ls))) (r : RKV I ι H ks ls) (l : ks.length ≤ LIM) : JOk I ι H (pairW ks) (Iti d o ls) := by
  refine ⟨by rw [pairW_len]; exact l, fun ι2 H2 h2 e2 rp2 i => ⟨fun w hw => ?_, fun hi => ?_⟩⟩
  · obtain ⟨a, b, k, v, rfl, h1, q1, q2⟩ := mem_pairW r w hw
    refine ⟨⟨e2.frz _ _ _ h, (List.getElem?_eq_some_iff.mp h1).1⟩, fun x H3 y => ?_⟩
    obtain ⟨T, k', v', h4, rfl, hT, rfl⟩ := y
    rw [h1] at h4
    cases h4
    exact new_pair hT rp2 (rk_kV q1) (q2.mo e2.toMw)
  · refine ⟨e2.frz _ _ _ h, ?_⟩
    rw [← RKV.len r]
    rw [pairW_len] at hi
    exact hi
theorem rkt_tup {ι : Pl} {H : Hp} {w : W} {k : List Key} {q : Addr} {h : EH} (rp : Rep I ι h H) (r : RKT w k) (hq : H q = some (.tup (k.map kV))) : RW I ι H w (.ref q) := by
  cases w <;> first | exact r.elim | skip
  rename_i ws
  obtain ⟨r, l⟩ : Paired RK ws k ∧ ws.length ≤ LIM := r
  have go : ∀ {ws : List W} {k : List Key}, Paired RK ws k → RWs I ι H ws (k.map kV) := by
    intro ws
    induction ws with
    | nil => intro k r; cases r; exact .nil
    | cons w ws ih =>
      intro k r
      cases r with
      | cons q r => exact .cons (rk_kV q) (ih r)
  exact .tup hq (rp.tup_new hq) (go r) l
theorem j_keysT {ι : Pl} {H : Hp} {d : Addr} {o : Obj} {ks : List (W × W)} {ls : List (List Key × V)} (h : H d = some (.frz o (.dT ls))) (r : RKVT I ι H ks ls) (l : ks.length ≤ LIM) : JOk I ι H (ks.map (·.1)) (Itkt d o ls) := by
  refine ⟨by simpa using l, fun ι2 H2 h2 e2 rp2 i => ⟨fun w hw => ?_, fun hi => ?_⟩⟩
  · rw [List.getElem?_map] at hw
    obtain ⟨p, hp, rfl⟩ := Option.map_eq_some_iff.mp hw
    obtain ⟨q, h1, q1, q2⟩ := paired_get r hp
    refine ⟨⟨e2.frz _ _ _ h, (List.getElem?_eq_some_iff.mp h1).1⟩, fun x H3 y => ?_⟩
    obtain ⟨e, k', v', qa, h4, rfl, hq⟩ := y
    subst e
    rw [h1] at h4
    cases h4
    exact ⟨Ext.refl, rp2, rkt_tup rp2 q1 hq⟩
  · refine ⟨e2.frz _ _ _ h, ?_⟩
    have : ks.length = ls.length := Paired.length r
    rw [← this]
    simpa using hi
theorem j_enumL {ι : Pl} {H : Hp} {p : Addr} {ws : List W} {vs : List V} (K : PySem.W.Frag) (h : H p = some (.lst vs) ∧ p ∉ ι ∨ ∃ o, H p = some (.frz o (.lst vs))) (r : RWs I ι H ws vs) (l : ws.length ≤ LIM) : JOk I ι H (enumW 0 ws) (Ite K p) := by
  refine ⟨by rw [enumW_len]; exact l, fun ι2 H2 h2 e2 rp2 i => ?_⟩
  have hs : SqL K H2 p vs := by
    rcases h with ⟨h, hn⟩ | ⟨o, h⟩
    · exact .inl (.inl (e2.kp _ _ h hn).1)
    · exact .inl (.inr ⟨o, e2.frz _ _ _ h⟩)
  refine ⟨fun w hw => ?_, fun hi => ⟨vs, hs, by rw [enumW_len] at hi; rw [← r.length]; exact hi⟩⟩
  rw [enumW_get] at hw
  obtain ⟨x, hx, rfl⟩ := Option.map_eq_some_iff.mp hw
  obtain ⟨v, hv, rv⟩ := r.get hx
  refine ⟨⟨vs, v, hs, hv⟩, fun x' H3 y => ?_⟩
  obtain ⟨T, x2, rfl, hT, rfl, hy⟩ := y
  have := hy vs hs
  rw [hv] at this
  cases this
  rw [Int.zero_add]
  exact new_pair hT rp2 (.int _) (rv.mo e2.toMw)
theorem j_enumT {ι : Pl} {H : Hp} {p : Addr} {ws : List W} {vs : List V} (K : PySem.W.Frag) (h : H p = some (.tup vs)) (hn : p ∉ ι) (r : RWs I ι H ws vs) (l : ws.length ≤ LIM) : JOk I ι H (enumW 0 ws) (ZI.IteT K p) := by
  refine ⟨by rw [enumW_len]; exact l, fun ι2 H2 h2 e2 rp2 i => ?_⟩
  have hs : SqT K H2 p vs := .inl (.inl (e2.kp _ _ h hn).1)
  refine ⟨fun w hw => ?_, fun hi => ⟨vs, hs, by rw [enumW_len] at hi; rw [← r.length]; exact hi⟩⟩
  rw [enumW_get] at hw
  obtain ⟨x, hx, rfl⟩ := Option.map_eq_some_iff.mp hw
  obtain ⟨v, hv, rv⟩ := r.get hx
  refine ⟨⟨vs, v, hs, hv⟩, fun x' H3 y => ?_⟩
  obtain ⟨T, x2, rfl, hT, rfl, hy⟩ := y
  have := hy vs hs
  rw [hv] at this
  cases this
  rw [Int.zero_add]
  exact new_pair hT rp2 (.int _) (rv.mo e2.toMw)
theorem rev_get {α : Type} {xs : List α} {i : Nat} (hi : i < xs.length) : xs.reverse[i]? = xs[xs.length - 1 - i]? := List.getElem?_reverse hi
theorem j_revL {ι : Pl} {H : Hp} {p : Addr} {ws : List W} {vs : List V} (K : PySem.W.Frag) (h : H p = some (.lst vs) ∧ p ∉ ι ∨ ∃ o, H p = some (.frz o (.lst vs))) (r : RWs I ι H ws vs) (l : ws.length ≤ LIM) : JOk I ι H ws.reverse (Itv K p vs.length) := by
  refine ⟨by rw [List.length_reverse]; exact l, fun ι2 H2 h2 e2 rp2 i => ?_⟩
  have hs : SqL K H2 p vs := by
    rcases h with ⟨h, hn⟩ | ⟨o, h⟩
    · exact .inl (.inl (e2.kp _ _ h hn).1)
    · exact .inl (.inr ⟨o, e2.frz _ _ _ h⟩)
  refine ⟨fun w hw => ?_, fun hi => by rw [List.length_reverse, r.length] at hi; exact hi⟩
  have hi : i < ws.length := by
    have := (List.getElem?_eq_some_iff.mp hw).1
    simpa using this
  rw [rev_get hi] at hw
  obtain ⟨v, hv, rv⟩ := r.get hw
  rw [r.length] at hv hi
  refine ⟨⟨hi, vs, v, hs, hv⟩, fun x' H3 y => ?_⟩
  obtain ⟨e, y⟩ := y
  subst e
  have := y vs hs
  rw [hv] at this
  cases this
  exact ⟨Ext.refl, rp2, rv.mo e2.toMw⟩
theorem j_revT {ι : Pl} {H : Hp} {p : Addr} {ws : List W} {vs : List V} (K : PySem.W.Frag) (h : H p = some (.tup vs)) (hn : p ∉ ι) (r : RWs I ι H ws vs) (l : ws.length ≤ LIM) : JOk I ι H ws.reverse (RT.ItvT K p vs.length) := by
  refine ⟨by rw [List.length_reverse]; exact l, fun ι2 H2 h2 e2 rp2 i => ?_⟩
  have hs : SqT K H2 p vs := .inl (.inl (e2.kp _ _ h hn).1)
  refine ⟨fun w hw => ?_, fun hi => by rw [List.length_reverse, r.length] at hi; exact hi⟩
  have hi : i < ws.length := by
    have := (List.getElem?_eq_some_iff.mp hw).1
    simpa using this
  rw [rev_get hi] at hw
  obtain ⟨v, hv, rv⟩ := r.get hw
  rw [r.length] at hv hi
  refine ⟨⟨hi, vs, v, hs, hv⟩, fun x' H3 y => ?_⟩
  obtain ⟨e, y⟩ := y
  subst e
  have := y vs hs
  rw [hv] at this
  cases this
  exact ⟨Ext.refl, rp2, rv.mo e2.toMw⟩
theorem shM_e {nm : Str} (h : shM nm e = some x) : ∃ ap cp, e = .Call (.Attribute x nm ap) [] [] cp ∧ (ap.endLine == cp.line) = true ∧ plainB x = true := by
  unfold shM at h
  split at h
  · split at h
    · rename_i c
      simp only [Bool.and_eq_true, decide_eq_true_eq] at c
      cases h
      obtain ⟨⟨rfl, c2⟩, c3⟩ := c
      exact ⟨_, _, rfl, c2, c3⟩
    · cases h
  · cases h
theorem isTup_e {tg : Expr} (h : isTup tg = true) : ∃ es k q, tg = .Tuple es k q := by
  cases tg <;> first | exact ⟨_, _, _, rfl⟩ | cases h
theorem w_ok (C : Cs B I X) {k : WK} {tg : Expr} (h : shW B X.env.scope k e tg = some x) (hpl : plain x = true) (ha : PE X x (tE I fa Wx)) :
    PI X tg e (tI I (fun σ h => (fa σ h).bind fun v h => wkIl k v h) Wx) ∧ ∀ y, foldedSetIterable e X.env y = pure y := by
  cases k with
  | vals =>
    obtain ⟨ap, cp, rfl, h2, h3⟩ := shM_e (show shM "values" e = some x from h)
    refine ⟨⟨fun pins s σ H R J ⟨ι, h, σc, rs, rp, q⟩ => (pi_values ha (baseE h3 "values") h2).run pins s σ H R J ?_⟩, fun _ => rfl⟩
    refine goI rs rp q fun ι1 H1 h1 w1 v1 e1 rs1 rp1 r1 q1 => ?_
    simp only [wkIl] at q1
    cases r1 <;> first | exact q1.elim | skip
    rename_i n p hp
    simp only at q1
    split at q1
    · rename_i xs hx
      obtain ⟨o, ls, g1, g2, g3, _⟩ := rp1.at hp hx
      exact ⟨p, o, ls, rfl, g1, q1 ι1 H1 _ Ext.refl rp1 (j_vals g1 g2 g3)⟩
    · exact q1.elim
  | items =>
    have h : (if isTup tg then shM "items" e else none) = some x := h
    split at h
    · rename_i ht
      obtain ⟨ap, cp, rfl, h2, h3⟩ := shM_e h
      obtain ⟨es, kk, q, rfl⟩ := isTup_e ht
      refine ⟨⟨fun pins s σ H R J ⟨ι, h, σc, rs, rp, q⟩ => (pi_items ha (baseE h3 "items") h2).run pins s σ H R J ?_⟩, fun _ => rfl⟩
      refine goI rs rp q fun ι1 H1 h1 w1 v1 e1 rs1 rp1 r1 q1 => ?_
      simp only [wkIl] at q1
      cases r1 <;> first | exact q1.elim | skip
      rename_i n p hp
      simp only at q1
      split at q1
      · rename_i xs hx
        obtain ⟨o, ls, g1, g2, g3, _⟩ := rp1.at hp hx
        exact ⟨p, o, ls, rfl, g1, q1 ι1 H1 _ Ext.refl rp1 (j_items g1 g2 g3)⟩
      · exact q1.elim
    · cases h
  | keysT =>
    have h : some e = some x := h
    cases h
    refine ⟨⟨fun pins s σ H R J ⟨ι, h, σc, rs, rp, q⟩ => (pi_keys ha).run pins s σ H R J ?_⟩, fun y => ?_⟩
    · refine goI rs rp q fun ι1 H1 h1 w1 v1 e1 rs1 rp1 r1 q1 => ?_
      simp only [wkIl] at q1
      cases r1 <;> first | exact q1.elim | skip
      rename_i n p hp
      simp only at q1
      split at q1
      · rename_i xs hx
        obtain ⟨o, ls, g1, g2, g3, _⟩ := rp1.at hp hx
        exact ⟨p, o, rfl, .inr ⟨ls, g1, q1 ι1 H1 _ Ext.refl rp1 (j_keysT g1 g2 g3)⟩⟩
      · exact q1.elim
    · cases e <;> first | rfl | cases hpl
  | enum =>
    have h9 : (if isTup tg then b1c B X.env.scope "enumerate" e else none) = some x := h
    clear h
    by_cases ht : isTup tg = true
    · rw [if_pos ht] at h9
      rename (_ = some x) => h
      obtain ⟨es, kk, q, rfl⟩ := isTup_e ht
      unfold b1c at h
      split at h
      · split at h
        · rename_i hn
          cases h
          obtain ⟨rfl, g, n⟩ := bn_of C hn
          refine ⟨⟨fun pins s σ H R J ⟨ι, h, σc, rs, rp, q⟩ => (ZI.pi_enumA g n ha (starE hpl)).run pins s σ H R J ?_⟩, fun _ => rfl⟩
          refine goI rs rp q fun ι1 H1 h1 w1 v1 e1 rs1 rp1 r1 q1 => ?_
          simp only [wkIl] at q1
          cases r1 <;> first | exact q1.elim | skip
          · rename_i p ws vs hp hn rr l
            exact ⟨p, vs, rfl, .inr ⟨.inl (.inl hp), q1 ι1 H1 _ Ext.refl rp1 (j_enumT _ hp hn rr l)⟩⟩
          · rename_i p ws vs hp hn rr l
            exact ⟨p, vs, rfl, .inl ⟨.inl (.inl hp), q1 ι1 H1 _ Ext.refl rp1 (j_enumL _ (.inl ⟨hp, hn⟩) rr l)⟩⟩
          · rename_i n p hp
            simp only at q1
            split at q1
            · rename_i xs hx
              obtain ⟨o, vs, g1, g2, g3⟩ := rp1.at hp hx
              exact ⟨p, vs, rfl, .inl ⟨.inl (.inr ⟨o, g1⟩), q1 ι1 H1 _ Ext.refl rp1 (j_enumL _ (.inr ⟨o, g1⟩) g2 g3)⟩⟩
            · exact q1.elim
        · cases h
      · cases h
    · rw [if_neg ht] at h9; cases h9
  | rev =>
    have h : b1c B X.env.scope "reversed" e = some x := h
    unfold b1c at h
    split at h
    · split at h
      · rename_i hn
        cases h
        obtain ⟨rfl, g, n⟩ := bn_of C hn
        refine ⟨⟨fun pins s σ H R J ⟨ι, h, σc, rs, rp, q⟩ => (RT.pi_revA g n ha (starE hpl)).run pins s σ H R J ?_⟩, fun _ => rfl⟩
        refine goI rs rp q fun ι1 H1 h1 w1 v1 e1 rs1 rp1 r1 q1 => ?_
        simp only [wkIl] at q1
        cases r1 <;> first | exact q1.elim | skip
        · rename_i p ws vs hp hn rr l
          exact ⟨p, vs, rfl, .inr ⟨.inl (.inl hp), q1 ι1 H1 _ Ext.refl rp1 (j_revT _ hp hn rr l)⟩⟩
        · rename_i p ws vs hp hn rr l
          exact ⟨p, vs, rfl, .inl ⟨.inl (.inl hp), q1 ι1 H1 _ Ext.refl rp1 (j_revL _ (.inl ⟨hp, hn⟩) rr l)⟩⟩
        · rename_i n p hp
          simp only at q1
          split at q1
          · rename_i xs hx
            obtain ⟨o, vs, g1, g2, g3⟩ := rp1.at hp hx
            exact ⟨p, vs, rfl, .inl ⟨.inl (.inr ⟨o, g1⟩), q1 ι1 H1 _ Ext.refl rp1 (j_revL _ (.inr ⟨o, g1⟩) g2 g3)⟩⟩
          · exact q1.elim
      · cases h
    · cases h
end
end Z
namespace ZG
open PySem PySem.Spec L2 GenW
open PyProof.Rows (AllBare)
open Sem (wp)

/-! ### sleeping: what a consumer may do meanwhile -/
structure Sl (PL : List Addr) (s s' : Shared) : Prop where
  os : s'.os = s.os
  bare : AllBare s'.gens
  keep : ∀ b o, b ∉ PL → s.heap.get? b = some o → s'.heap.get? b = some o
  own : ∀ b ∈ PL, ∃ o, s'.heap.get? b = some o ∧ ∀ v, o.data ≠ .cell v
/-- younger than all, none of the frame's -/
structure Yg (X : Cx) (PL : List Addr) : Prop where
  y : ∀ b ∈ PL, X.s_0.heap.objs.size ≤ b
  l : ∀ b ∈ PL, b ≠ X.env.locals
  c : ∀ b ∈ PL, ∀ x c, X.env.cells.lookup x = some c → c ≠ b
  p : ∀ b ∈ PL, ∀ p ∈ X.pn, p.1 ≠ b
  f : ∀ b ∈ PL, b ∉ X.fs
theorem Yg.nil {X : Cx} : Yg X [] := ⟨by simp, by simp, by simp, by simp, by simp⟩
/-- .. asleep, with things pinned that are none of the consumer's -/
theorem sleptP {X : Cx} {PL : List Addr} {pf : List (Addr × Obj)} {σ : St} {H : Hp} {s s' : Shared} (y : Yg X PL) (hpf : ∀ p ∈ pf, p.1 ∉ PL) (I : Inv X pf σ H s) (hH : ∀ b ∈ PL, H b = none) (z : Sl PL s s') : Inv X pf σ H s' := by
  have nt : ∀ b u, H b = some u → b ∉ PL := fun b u q hb => by rw [hH b hb] at q; cases q
  obtain ⟨z1, z2, z3, z4⟩ := z
  obtain ⟨hh, g, d, t, o⟩ := s'
  have ho : o = s.os := z1
  subst ho
  refine I.step (g' := g) (t' := t) (d' := d) (ch := PL) (fun b hb => ⟨.inr (y.y b hb), y.l b hb, y.c b hb, fun p hp => ?_⟩)
    (fun b ob _ _ hc q _ => z3 b ob hc q) (fun b ob _ _ hc q _ => ⟨ob.slots, z3 b ob hc q⟩) (fun _ _ _ _ n => n) (fun b ob hc q => ⟨ob, z3 b ob hc q⟩)
    (fun _ _ q => q) (fun _ _ _ q => q) (fun b ps q => ⟨#[], by rw [q]; simp⟩) (fun m hm => ?_) (fun b u q => ?_) z2
  · rcases List.mem_append.mp hp with hp | hp
    · exact y.p b hb p hp
    · exact fun zz => hpf p hp (by rw [zz]; exact hb)
  · obtain ⟨ob, es, ep, ho, r⟩ := hm
    exact ⟨ob, es, ep, z3 _ ob (fun hb => y.l _ hb rfl) ho, r⟩
  · refine (I.hok b u q).stay (fun c v hc y' => z3 c v ?_ y') (fun _ y' => y') fun _ _ y' => y'
    rcases hc with y' | y'
    · rw [y']; exact nt b u q
    · exact nt c _ y'
theorem slept {X : Cx} {PL : List Addr} {σ : St} {H : Hp} {s s' : Shared} (y : Yg X PL) (I : Inv X [] σ H s) (hH : ∀ b ∈ PL, H b = none) (z : Sl PL s s') : Inv X [] σ H s' := sleptP y (by simp) I hH z
/-- the consumer's things pinned as they stand -/
theorem pinnedS {X : Cx} {PL : List Addr} {σ : St} {H : Hp} {s : Shared} (y : Yg X PL) (I : Inv X [] σ H s) (hH : ∀ b ∈ PL, H b = none) (ho : ∀ b ∈ PL, ∃ o, s.heap.get? b = some o ∧ ∀ v, o.data ≠ .cell v) : Inv X (pinsAt PL s.heap) σ H s :=
  I.pins_of fun p hp => by
    obtain ⟨hb, e⟩ := of_pinsAt hp
    obtain ⟨o, e', d⟩ := ho p.1 hb
    rw [e] at e'; cases e'
    exact ⟨e, hH _ hb, y.l _ hb, y.f _ hb, d⟩
theorem pinnedP {X : Cx} {PL : List Addr} {pf : List (Addr × Obj)} {σ : St} {H : Hp} {s : Shared} (y : Yg X PL) (I : Inv X pf σ H s) (hH : ∀ b ∈ PL, H b = none) (ho : ∀ b ∈ PL, ∃ o, s.heap.get? b = some o ∧ ∀ v, o.data ≠ .cell v) : Inv X (pinsAt PL s.heap ++ pf) σ H s :=
  I.pins_of fun p hp => by
    rcases List.mem_append.mp hp with hp | hp
    · obtain ⟨hb, e⟩ := of_pinsAt hp
      obtain ⟨o, e', d⟩ := ho p.1 hb
      rw [e] at e'; cases e'
      exact ⟨e, hH _ hb, y.l _ hb, y.f _ hb, d⟩
    · exact I.pin p (List.mem_append_right _ hp)
theorem unpinS {X : Cx} {pl : List (Addr × Obj)} {σ : St} {H : Hp} {s : Shared} (I : Inv X pl σ H s) : Inv X [] σ H s := I.pins_of fun p hp => nomatch hp
/-- what is pinned stands as it stood, and is none of the layer's -/
theorem pin_at {X : Cx} {PL : List Addr} {σ : St} {H : Hp} {h : Heap} {s : Shared} (I : Inv X (pinsAt PL h) σ H s) {b : Addr} (hb : b ∈ PL) {o : Obj} (e : h.get? b = some o) : s.heap.get? b = some o ∧ H b = none :=
  let z := I.pin (b, o) (List.mem_append_right _ (mem_pinsAt hb e))
  ⟨z.1, z.2.1⟩

/-! ### the generator's frame -/
abbrev gEnv (X : Cx) (scope : Scope) (C : Addr) (code : Value) : Env := genEnv scope (cloFrom X.env.cells scope.names []) C code builtinsNs X.env
def gCx (X : Cx) (A : Around) (s : Shared) (H : Hp) (scope : Scope) (C : Addr) (code : Value) (fp : List Addr) (pn : List (Addr × Obj)) : Cx where
  prog := X.prog
  w := X.w
  K := X.K
  mg := X.mg
  base := X.base
  A := A
  N := X.N
  s_0 := s
  H_0 := H
  env := gEnv X scope C code
  outer := X.stack
  stack := gEnv X scope C code :: X.stack
  ex := fp
  fn := fun _ => false
  calm := true
  pn := pn
  xe := fun _ _ => False
/-- the names of a generator expression: its own (places in N), or captured -/
structure GScp (N : List Str) (sc scope : Scope) (own : List (Str × Nat)) : Prop where
  blk : BlkOk N sc scope own
  co : scope.isCoroutine = false
  nocell : ∀ y ∈ scope.names, y.2 ≠ .cell
  dot : scope.names.lookup (".0" : Str) = some NameKind.local
theorem GScp.has {X : Cx} {scope : Scope} {own : List (Str × Nat)} (G : GScp X.N X.env.scope scope own) (ok : X.Ok) : ∀ y ∈ scope.names, y.2 = .free → ∃ c, X.env.cells.lookup y.1 = some c := fun y hy e => by
  rcases G.blk.free y hy e with k | k
  · exact ok.has _ (.inl k)
  · exact ok.has _ (.inr k)
theorem gen_start {X : Cx} {pins : List (Addr × Obj)} {σ : St} {H : Hp} {s s5 : Shared} {A : Around} {scope : Scope} {own : List (Str × Nat)} {code : Value} {fp : List Addr} {pn : List (Addr × Obj)} {m : Str → Option Value}
    (I : Inv X pins σ H s) (G : GScp X.N X.env.scope scope own) (hN : X.N.Nodup) (hfp : ∀ b ∈ fp, FpOk X pins H b ∧ b < s.heap.objs.size) (hA : A.handled = none) (hF : A.frames = some (gEnv X scope s.heap.objs.size code :: X.stack))
    (hns : s5.heap.Ns s.heap.objs.size m) (kp : ∀ b o, s.heap.get? b = some o → s5.heap.get? b = some o) (hos : s5.os = s.os) (hb : AllBare s5.gens)
    (hpn : ∀ p ∈ pn, s5.heap.get? p.1 = some p.2 ∧ s.heap.objs.size < p.1 ∧ ∀ v, p.2.data ≠ .cell v) :
    Inv (gCx X A s H scope s.heap.objs.size code fp pn) [] (wipe σ (own.map (·.2))) H s5 := by
  have hfree := G.has I.ok
  have cm : ∀ {y c}, (cloFrom X.env.cells scope.names []).lookup y = some c → X.env.cells.lookup y = some c := fun {y c} e => by
    rcases cloFrom_mem (PySem.mem_of_lookup e) with hm | ⟨h1, h2⟩
    · cases hm
    · obtain ⟨c1, hc⟩ := hfree _ h1 rfl
      have hc : X.env.cells.lookup y = some c1 := hc
      have e2 : c = c1 := by
        rw [h2, hc] <;> rfl
      rw [e2]
      exact hc
  have look : ∀ {y}, scope.names.lookup y = some .free → ∃ c, (cloFrom X.env.cells scope.names []).lookup y = some c := fun {y} hl => by
    have hy : (y, NameKind.free) ∈ scope.names := PySem.mem_of_lookup hl
    exact mem_lookup (cloFrom_has (cells := X.env.cells) (acc := []) hy)
  have clt : ∀ {y c}, X.env.cells.lookup y = some c → c < s.heap.objs.size := fun {y c} e => by
    obtain ⟨w, z⟩ := I.cell _ _ e
    exact z.lt
  refine ⟨⟨I.ok.mod, G.blk.kind, I.ok.glob, rfl, Nat.le_refl _, fun y z c e1 e2 => I.ok.inj y z c (cm e1) (cm e2), fun y hy => ?_, fun y c z _ => ?_, fun _ => hA, hF, .inr ⟨rfl, rfl⟩, fun b hb => ⟨?_, fun y c e z => ?_⟩, I.bs, Nat.le_trans I.ok.bsz I.sz, fun b o e hb => ?_, fun b hb z => ?_, I.stack, I.stkFree⟩,
    hos, hb, Un.kept kp, ⟨m, hns, fun i y v e1 e2 e3 => ?_⟩, fun y c e => ?_, I.hok.fresh (Nat.le_refl _), fun y c e => I.freeC y c (cm e), fun p hp => ?_, I.hok.kept kp, by rw [wipe_length]; exact I.len⟩
  · have hy : scope.names.lookup y = some .cell ∨ scope.names.lookup y = some .free := hy
    rcases hy with hy | hy
    · exact absurd rfl (G.nocell _ (PySem.mem_of_lookup hy))
    · exact look hy
  · have z : false = true := z
    cases z
  · exact Nat.ne_of_lt (hfp b hb).2
  · exact (hfp b hb).1.2.2.2.2.1 y c (cm e) z
  · rcases (hfp b hb).1.2.2.2.1 with z | z
    · exact I.ok.noex b o e z
    · exact absurd (Nat.lt_of_lt_of_le (Heap.lt_size e) (Nat.le_trans I.ok.bsz z)) (Nat.lt_irrefl _)
  · rcases List.mem_cons.mp (I.stkSub b z) with z | z
    · exact (hfp b hb).1.2.1 z
    · exact (hfp b hb).1.2.2.1 z
  · have e1 : X.N[i]? = some y := e1
    obtain ⟨e2, hne⟩ := wipe_some e2
    have no : ∀ k, scope.names.lookup y = some k → ¬ (k = .local ∨ k = .cell) := fun k e hh => by
      rcases G.blk.own _ (PySem.mem_of_lookup e) hh with e' | e'
      · obtain ⟨p, hp, hpy⟩ := List.mem_map.mp e'
        have e3 := G.blk.ix p hp
        have : p.1 = y := hpy
        rw [this] at e3
        exact hne (List.mem_map.mpr ⟨p, hp, nodup_ix hN e3 e1⟩)
      · exact e' (List.mem_of_getElem? e1)
    have e3 : Vis scope y := e3
    have k : scope.names.lookup y = some .free := by
      rcases e3 with k | k | k
      · exact absurd (.inl rfl) (no _ k)
      · exact absurd (.inr rfl) (no _ k)
      · exact k
    obtain ⟨m', hn, hl⟩ := I.loc
    have hvis : Vis X.env.scope y := (G.blk.free _ (PySem.mem_of_lookup k) rfl).elim (fun k => .inr (.inl k)) (fun k => .inr (.inr k))
    obtain ⟨w', r, q⟩ := hl i y v e1 e2 hvis
    obtain ⟨c2, h2⟩ := look k
    refine ⟨w', r, .inr ⟨.inr k, c2, h2, ?_⟩⟩
    have c1 := cm h2
    rcases q with ⟨k', _⟩ | ⟨_, c3, e', z⟩
    · have k' : X.env.scope.names.lookup y = some .local := k'
      rcases G.blk.free _ (PySem.mem_of_lookup k) rfl with k2 | k2 <;> rw [show X.env.scope.names.lookup y = _ from k2] at k' <;> cases k'
    · rw [c1] at e'
      cases e'
      exact z.keeps kp
  · obtain ⟨w', z⟩ := I.cell y c (cm e)
    exact ⟨w', z.keeps kp⟩
  · have hp : p ∈ pn := by
      rcases List.mem_append.mp hp with hp | hp
      · exact hp
      · cases hp
    obtain ⟨p1, p2, p3⟩ := hpn p hp
    refine ⟨p1, I.hok.fresh (Nat.le_of_lt p2), Nat.ne_of_gt p2, fun z => ?_, p3⟩
    rcases List.mem_cons.mp (I.stkSub p.1 z) with z | z
    · exact absurd (Nat.lt_trans (show X.env.locals < s.heap.objs.size from I.lt) p2) (by rw [z]; exact Nat.lt_irrefl _)
    · exact I.nofs (Nat.le_of_lt p2) z
/-- back in the outer frame -/
theorem gen_back {X : Cx} {pins pl : List (Addr × Obj)} {σ σ' : St} {H H' : Hp} {s s' : Shared} {A : Around} {scope : Scope} {C : Addr} {code : Value} {fp : List Addr} {pn : List (Addr × Obj)}
    (I : Inv X pins σ H s) (hfp : ∀ b ∈ fp, FpOk X pins H b) (J : Inv (gCx X A s H scope C code fp pn) pl σ' H' s') : Inv X pins σ H' s' :=
  I.call' (ch := fp) J.os J.base J.hok J.bare fun b hb => ⟨(hfp b hb).2.2.2.1, (hfp b hb).2.1, (hfp b hb).2.2.2.2.1, (hfp b hb).2.2.2.2.2⟩
end ZG
namespace ZG
open PySem PySem.Spec L2 GenW
open PyProof.Rows (AllBare)
open Sem (wp)
/-- what is handed out (zs), whether the consumer stops at its last; where the generator stands (a, pinned in the context), what the consumer keeps (PL) -/
structure Gp where
  zs : List V
  stop : Bool
  PL : List Addr
section
variable {X : Cx}
def gY (X : Cx) (g : Gp) (Fin : Hp → Prop) : Protocol := fun n s₀ v s kap =>
  ∃ σ H x, Inv X (pinsAt g.PL s₀.heap) σ H s ∧ RelV x v ∧ n < g.zs.length ∧ g.zs[g.zs.length - 1 - n]? = some x ∧ ((g.stop = true ∧ n = 0) → Fin H) ∧ (¬ (g.stop = true ∧ n = 0) → ∀ s', Sl g.PL s s' → kap (.send .none) s')
def gP (X : Cx) (g : Gp) (Fin : Hp → Prop) : Nat → Shared → Shared → Prop := fun n s₀ s => n = 0 ∧ g.stop = false ∧ ∃ σ H, Inv X (pinsAt g.PL s₀.heap) σ H s ∧ Fin H
def gR (X : Cx) (g : Gp) (Fin : Hp → Prop) : GenEnd := fun n s₀ r s => r = .ok .next ∧ gP X g Fin n s₀ s
/-- one turn, as a reading: J the walked thing, i the turn, m a measure, j how many are out -/
def Turns (g : Gp) (Fin : Hp → Prop) (J : It) (gt : TG) (tt : TT) (te : TE) (vs : List Nat) (σ : L2.St) (W : Nat → Nat → Nat → Hp → Prop) : Prop := ∀ i m j H, W i m j H →
  (J.stop i H ∧ j = g.zs.length ∧ g.stop = false ∧ Fin H) ∨
  (J.go i H ∧ ∀ x H', J.yld i H x H' → gt x (wipe σ vs) H' fun σ2 H2 => wipe σ2 vs = wipe σ vs ∧ tt σ2 H2 fun b H3 =>
    if b = true then te σ2 H3 fun y H4 => g.zs[j]? = some y ∧ (if g.stop = true ∧ j + 1 = g.zs.length then Fin H4 else ∃ m', m' < m ∧ W (i + 1) m' (j + 1) H4) else ∃ m', m' < m ∧ W (i + 1) m' j H3)
theorem xF {α : Type} {t : Sem α} {Q Q' : α → Shared → Prop} {M : Model} {A : Around} {E : Value → Shared → Prop} {s : Shared} (h : wpAny M A t Q (fun _ _ => False) s) (hQ : ∀ a s, Q a s → Q' a s) : wpAny M A t Q' E s := wpAny_mono h hQ fun _ _ z => False.elim z
theorem seg_loop {g : Gp} {Fin : Hp → Prop} {A : Around} {elt tg iter : Expr} {ifs : List Expr} {scope : Scope} {pos : Pos} {it : Addr} {fp : List Addr} {tn : Nat → Heap → Prop} {J : It} {gt : TG} {tt : TT} {te : TE} {vs : List Nat} {σ : L2.St} {W : Nat → Nat → Nat → Hp → Prop}
    (hc : X.calm = true) (hx : ∀ e s, ¬ X.xe e s) (hco : X.env.scope.isCoroutine = false) (y : Yg X g.PL) (hfp : fp = X.ex)
    (hA : A.over (.compLoop (.GeneratorExp elt [⟨tg, iter, ifs, 0⟩] scope pos) 0 (.ref it) .none X.env) [] = X.A)
    (T : Turn X.prog X.w X.K tg J fp it tn) (pg : PG X tg gt) (pt : PTs X ifs tt) (pe : PE X elt te) (hT : Turns g Fin J gt tt te vs σ W)
    (hdis : ∀ b ∈ fp, b ∉ g.PL) (hpn : ∀ p ∈ X.pn, ∀ b ∈ fp, p.1 ≠ b) :
    ∀ (m i j : Nat) (H : Hp) (s₀ s : Shared), W i m j H → j ≤ g.zs.length → Inv X (pinsAt g.PL s₀.heap) (wipe σ vs) H s → tn i s.heap → (∀ b ∈ fp, H b = none) → (∀ b ∈ g.PL, ∃ o, s₀.heap.get? b = some o) →
      Seg (model X.prog X.w) A (gR X g Fin) (gY X g Fin) (g.zs.length - j) s₀ (.compLoop (.GeneratorExp elt [⟨tg, iter, ifs, 0⟩] scope pos) 0 (.ref it) .none X.env)
        ((model X.prog X.w).den (.compLoop (.GeneratorExp elt [⟨tg, iter, ifs, 0⟩] scope pos) 0 (.ref it) .none X.env)) [] s := by
  intro m
  induction m using Nat.strongRecOn with
  | ind m ih =>
    intro i j H s₀ s hW hj I st nf hPL
    have stat : ∀ {pins : List (Addr × Obj)} {σ' : L2.St} {H' : Hp} {s' : Shared}, Inv X pins σ' H' s' → (∀ p ∈ pins, p.1 ∈ g.PL) → (∀ b ∈ fp, H' b = none) → ∀ b ∈ fp, FpOk X pins H' b := fun {pins σ' H' s'} I' hp hn b hb => by
      have hb' : b ∈ X.ex := by rw [← hfp]; exact hb
      refine ⟨hn b hb, (I'.ok.exf b hb').1, I'.ok.exfs b hb', .inl hb', fun x c e => (I'.ok.exf b hb').2 x c e, fun p hp' => ?_⟩
      intro z
      rcases List.mem_append.mp hp' with hp' | hp'
      · exact hpn p hp' b hb z
      · exact hdis b hb (by rw [← z]; exact hp p hp')
    have hpp : ∀ p ∈ pinsAt g.PL s₀.heap, p.1 ∈ g.PL := fun p hp => (of_pinsAt hp).1
    show Seg _ A _ _ _ s₀ _ ((compTurn (.GeneratorExp elt [⟨tg, iter, ifs, 0⟩] scope pos) 0 (.ref it) .none X.env).onRaise (leaving X.env)) [] s
    rw [compTurn_gen, Sem.onRaise_eq_wrap]
    refine seg_bind_wrap (wpAny_standAt ?_)
    rcases hT i m j H hW with ⟨hs, hj2, hst, hF⟩ | ⟨hgo, step⟩
    · refine seg_bind_wrap ?_
      rw [hA]
      refine xF (T.done X rfl rfl rfl hc i _ s _ H (fun _ _ => False) I (stat I hpp nf) st hs) fun r s1 ⟨hr, I1⟩ => ?_
      subst hr
      exact seg_end (.ok .next) ⟨rfl, by omega, hst, _, H, I1, hF⟩
    · refine seg_bind_wrap ?_
      rw [hA]
      refine xF (T.item X rfl rfl rfl hc i _ s _ H (fun _ _ => False) I (stat I hpp nf) st hgo) fun r s1 ⟨u, hr, h1⟩ => ?_
      subst hr
      refine seg_bind_wrap ?_
      rw [hA]
      refine xF h1 fun _ s2 ⟨x, H2, I2, r2, y2, st2, nf2⟩ => ?_
      have I2' := I2.pinned (stat I2 hpp nf2) (T.obj _ _ st2)
      refine seg_bind_wrap ?_
      rw [hA]
      refine wpAny_mono (pg.run _ s2 _ H2 x u _ I2' r2 (step x H2 y2)) (fun _ s3 ⟨σ3, H3, I3, hw3, q3⟩ => ?_) fun e s' hx' => (hx e s' hx').elim
      refine seg_bind_wrap ?_
      rw [hA]
      refine wpAny_mono (pt.run _ s3 σ3 H3 _ I3 q3) (fun b s4 ⟨H4, I4, q4⟩ => ?_) fun e s' hx' => (hx e s' hx').elim
      have pin' : ∀ {σ' : L2.St} {H' : Hp} {s' : Shared}, Inv X (pinsAt g.PL s₀.heap ++ pinsAt fp s2.heap) σ' H' s' → ∀ b ∈ fp, ∀ o, s2.heap.get? b = some o → s'.heap.get? b = some o ∧ H' b = none := fun {σ' H' s'} I' b hb o e =>
        let z := I'.pin (b, o) (List.mem_append_right _ (List.mem_append_right _ (mem_pinsAt hb e)))
        ⟨z.1, z.2.1⟩
      have hl : (wipe σ vs).length = σ3.length := by rw [← hw3, wipe_length]
      have wk : ∀ {pins : List (Addr × Obj)} {H' : Hp} {s' : Shared}, Inv X pins σ3 H' s' → Inv X pins (wipe σ vs) H' s' := fun {pins H' s'} I' => I'.weak hl fun k v e => by
        rw [← hw3] at e
        exact (wipe_some e).1
      cases b with
      | false =>
        rw [if_neg Bool.false_ne_true] at q4
        simp only [Bool.false_eq_true, if_false]
        obtain ⟨m', hm, w'⟩ := q4
        refine seg_again rfl (ih m' hm (i + 1) j H4 s₀ s4 w' hj (wk I4).unpinned (T.keep _ _ _ st2 fun b hb o e => (pin' I4 b hb o e).1) (fun b hb => ?_) hPL)
        obtain ⟨o, e, _⟩ := T.obj _ _ st2 b hb
        exact (pin' I4 b hb o e).2
      | true =>
        rw [if_pos rfl] at q4
        simp only [if_true]
        have hy : ∀ v, yieldOut X.env v = yieldValue v := fun v => by simp only [yieldOut, hco, Bool.false_eq_true, if_false]
        simp only [hy]
        rw [Sem.bind_eq_wrap', Sem.bind_eq_wrap', Sem.wrap_wrap, Sem.wrap_wrap]
        refine seg_wrap ?_
        rw [hA]
        refine wpAny_mono (pe.run _ s4 σ3 H4 _ I4 q4) (fun v s5 ⟨yv, H5, I5, r5, hz, q5⟩ => ?_) fun e s' hx' => (hx e s' hx').elim
        have hjl : j < g.zs.length := (List.getElem?_eq_some_iff.mp hz).1
        obtain ⟨n, hn⟩ : ∃ n, g.zs.length - j = n + 1 := ⟨g.zs.length - j - 1, by omega⟩
        rw [hn]
        have I5' : Inv X (pinsAt g.PL s₀.heap) (wipe σ vs) H5 s5 := (wk I5).unpinned
        refine seg_at (seg_yield rfl rfl rfl ⟨wipe σ vs, H5, yv, I5', r5, by omega, ?_, fun hs => ?_, fun hs s' z => ?_⟩)
        · have e : g.zs.length - 1 - n = j := by omega
          rw [e]; exact hz
        · rw [if_pos ⟨hs.1, by omega⟩] at q5
          exact q5
        · rw [if_neg (fun hh => hs ⟨hh.1, by omega⟩)] at q5
          obtain ⟨m', hm, w'⟩ := q5
          have hHP : ∀ b ∈ g.PL, H5 b = none := fun b hb => by
            obtain ⟨o, e⟩ := hPL b hb
            exact (pin_at I5' hb e).2
          have I6 := slept y (unpinS I5') hHP z
          have I7 := pinnedS y I6 hHP z.own
          have e : n = g.zs.length - (j + 1) := by omega
          rw [e]
          refine seg_again rfl (ih m' hm (i + 1) (j + 1) H5 s' s' w' hjl I7 (T.keep _ _ _ st2 fun b hb o e => ?_) (fun b hb => ?_) fun b hb => let ⟨o, e, _⟩ := z.own b hb; ⟨o, e⟩)
          · exact z.keep b o (hdis b hb) (pin' I5 b hb o e).1
          · obtain ⟨o, e, _⟩ := T.obj _ _ st2 b hb
            exact (pin' I5 b hb o e).2
end
end ZG
namespace ZG
open PySem PySem.Spec L2 GenW
open PyProof.Rows (AllBare)
open Sem (wp)
/-- j are out, the generator sleeps -/
structure GSt (X : Cx) (A : Around) (g : Gp) (Fin : Hp → Prop) (a : Addr) (gi : Nat) (j : Nat) (s : Shared) : Prop where
  gen : s.heap.IsGen a gi
  inv : ∃ σ H, Inv X [] σ H s ∧ (∀ b ∈ g.PL, H b = none) ∧ ((g.stop = true ∧ j = g.zs.length) → Fin H)
  own : ∀ b ∈ g.PL, ∃ o, s.heap.get? b = some o ∧ ∀ v, o.data ≠ .cell v
  go : ∃ gs, s.gens[gi]? = some gs ∧ (¬ (g.stop = true ∧ j = g.zs.length) → ∀ s', Sl g.PL s s' → gs.Goes (model X.prog X.w) A (gR X g Fin) (gY X g Fin) (g.zs.length - j) (.send .none) s')
/-- it is over -/
def GFin (X : Cx) (g : Gp) (Fin : Hp → Prop) (s : Shared) : Prop := ∃ σ H, Inv X [] σ H s ∧ Fin H ∧ (∀ b ∈ g.PL, H b = none)
section
variable {X : Cx} {A : Around} {g : Gp} {Fin : Hp → Prop} {a : Addr} {gi j : Nat} {s : Shared}
theorem Sl.refl {PL : List Addr} (hb : AllBare s.gens) (ho : ∀ b ∈ PL, ∃ o, s.heap.get? b = some o ∧ ∀ v, o.data ≠ .cell v) : Sl PL s s := ⟨rfl, hb, fun _ _ _ e => e, ho⟩
theorem Sl.trans {PL : List Addr} {s s' s'' : Shared} (x : Sl PL s s') (z : Sl PL s' s'') : Sl PL s s'' := ⟨z.os.trans x.os, z.bare, fun b o h e => z.keep b o h (x.keep b o h e), z.own⟩
/-- the consumer has done something -/
theorem GSt.frame (y : Yg X g.PL) (hap : a ∉ g.PL) (t : GSt X A g Fin a gi j s) {s' : Shared} (z : Sl g.PL s s') (hg : s'.gens = s.gens) : GSt X A g Fin a gi j s' := by
  obtain ⟨σ, H, I, h1, h2⟩ := t.inv
  obtain ⟨gs, h3, h4⟩ := t.go
  refine ⟨?_, ⟨σ, H, slept y I h1 z, h1, h2⟩, z.own, gs, by rw [hg]; exact h3, fun hn s'' z' => h4 hn s'' (z.trans z')⟩
  obtain ⟨o, nm, qn, ho, r⟩ := t.gen
  exact ⟨o, nm, qn, z.keep a o hap ho, r⟩
theorem GFin.frame (y : Yg X g.PL) (t : GFin X g Fin s) {s' : Shared} (z : Sl g.PL s s') : GFin X g Fin s' := by
  obtain ⟨σ, H, I, h1, h2⟩ := t
  exact ⟨σ, H, slept y I h2 z, h1, h2⟩
/-- the consumer stops here -/
theorem GSt.out (hs : g.stop = true) (t : GSt X A g Fin a gi g.zs.length s) : GFin X g Fin s := by
  obtain ⟨σ, H, I, h1, h2⟩ := t.inv
  exact ⟨σ, H, I, h2 ⟨hs, rfl⟩, h1⟩
/-- the generator's object is pinned -/
structure GOb (X : Cx) (a : Addr) (gi : Nat) : Prop where
  ob : ∃ go, (a, go) ∈ X.pn ∧ ∀ h : Heap, h.get? a = some go → h.IsGen a gi
theorem GOb.is (b : GOb X a gi) {pins : List (Addr × Obj)} {σ : L2.St} {H : Hp} (I : Inv X pins σ H s) : s.heap.IsGen a gi := by
  obtain ⟨go, h1, h2⟩ := b.ob
  exact h2 _ (I.pin _ (List.mem_append_left _ h1)).1
theorem GSt.item {B : Around} {Q : Option Value → Shared → Prop} {E : Value → Shared → Prop} (y : Yg X g.PL) (ob : GOb X a gi) (hh : B.handled = none) (hroom : B.depth < recursionLimit) (t : GSt X B.in1 g Fin a gi j s) (hj : j < g.zs.length)
    (hQ : ∀ v x s', g.zs[j]? = some x → RelV x v → GSt X B.in1 g Fin a gi (j + 1) s' → (∀ b ∈ g.PL, s'.heap.get? b = s.heap.get? b) → s'.os = s.os → Q (some v) s') : wpAny (model X.prog X.w) B (pyNext (.ref a)) Q E s := by
  obtain ⟨tg, ⟨σ, H, I, h1, h2⟩, to, gs, hgs, hgo⟩ := t
  have hne : ¬ (g.stop = true ∧ j = g.zs.length) := fun z => by omega
  have hgl : gi < s.gens.size := (Array.getElem?_eq_some_iff.mp hgs).1
  have sl : Sl g.PL s (s.setGen gi .running) := ⟨rfl, allBare_setGen I.bare rfl, fun _ _ _ e => e, to⟩
  obtain ⟨n, hn⟩ : ∃ n, g.zs.length - j = n + 1 := ⟨g.zs.length - j - 1, by omega⟩
  have hgo' := hgo hne _ sl
  rw [hn] at hgo'
  refine wpAny_gsz (n := gi + 1) hgl (wpAny_pyNext_genexpQ (A := B) (P := gP X g Fin) (Y := gY X g Fin) hh I.nolimit hroom tg hgs hgo' (fun v s₁ gs' hb hv => ?_) fun s₁ hp h' hk => ?_)
  · intro hsz
    obtain ⟨σ1, H1, x, I1, r1, hlt, hz, hfin, hkap⟩ := hv
    have e0 : g.zs.length - 1 - (n + 1 - 1) = j := by omega
    rw [e0] at hz
    have hp0 : ∀ b ∈ g.PL, s₁.heap.get? b = s.heap.get? b ∧ H1 b = none := fun b hb => by
      obtain ⟨o, e, _⟩ := to b hb
      obtain ⟨q1, q2⟩ := pin_at I1 hb (show (s.setGen gi .running).heap.get? b = some o from e)
      exact ⟨q1.trans e.symm, q2⟩
    have to1 : ∀ b ∈ g.PL, ∃ o, s₁.heap.get? b = some o ∧ ∀ v, o.data ≠ .cell v := fun b hb => by
      obtain ⟨o, e, d⟩ := to b hb
      exact ⟨o, (hp0 b hb).1.trans e, d⟩
    have hb1 : AllBare (s₁.setGen gi gs').gens := allBare_setGen I1.bare hb
    have sl1 : Sl g.PL s₁ (s₁.setGen gi gs') := ⟨rfl, hb1, fun _ _ _ e => e, to1⟩
    have I2 := slept y (unpinS I1) (fun b hb => (hp0 b hb).2) sl1
    have hsz1 : gi < s₁.gens.size := by
      have q : (s₁.setGen gi gs').gens.size = s₁.gens.size := setGen_size _ _ _
      have hsz' : gi + 1 ≤ (s₁.setGen gi gs').gens.size := hsz
      omega
    refine hQ v x _ hz r1 ⟨ob.is I2, ⟨σ1, H1, I2, fun b hb => (hp0 b hb).2, fun z => hfin ⟨z.1, by omega⟩⟩, to1, gs', setGen_at hsz1, fun hn' s' z => ?_⟩ (fun b hb => (hp0 b hb).1) (I2.os.trans I.os.symm)
    have e1 : g.zs.length - (j + 1) = n := by omega
    rw [e1]
    exact hkap (fun z' => hn' ⟨z'.1, by omega⟩) s' (sl1.trans z)
  · exact absurd hp.1 (Nat.succ_ne_zero n)
theorem GSt.done {B : Around} {Q : Option Value → Shared → Prop} {E : Value → Shared → Prop} (y : Yg X g.PL) (ob : GOb X a gi) (hh : B.handled = none) (hroom : B.depth < recursionLimit) (t : GSt X B.in1 g Fin a gi g.zs.length s) (hst : g.stop = false)
    (hQ : ∀ s', GFin X g Fin s' → (∀ b ∈ g.PL, s'.heap.get? b = s.heap.get? b) → s'.os = s.os → AllBare s'.gens → Q none s') : wpAny (model X.prog X.w) B (pyNext (.ref a)) Q E s := by
  obtain ⟨tg, ⟨σ, H, I, h1, h2⟩, to, gs, hgs, hgo⟩ := t
  have hne : ¬ (g.stop = true ∧ g.zs.length = g.zs.length) := fun z => by rw [hst] at z; cases z.1
  have sl : Sl g.PL s (s.setGen gi .running) := ⟨rfl, allBare_setGen I.bare rfl, fun _ _ _ e => e, to⟩
  have hgo' := hgo hne _ sl
  rw [Nat.sub_self] at hgo'
  have here : ∀ {σ1 : L2.St} {H1 : Hp} {s₁ : Shared}, Inv X (pinsAt g.PL (s.setGen gi .running).heap) σ1 H1 s₁ → ∀ b ∈ g.PL, s₁.heap.get? b = s.heap.get? b ∧ H1 b = none := fun {σ1 H1 s₁} I1 b hb => by
    obtain ⟨o, e, _⟩ := to b hb
    obtain ⟨q1, q2⟩ := pin_at I1 hb (show (s.setGen gi .running).heap.get? b = some o from e)
    exact ⟨q1.trans e.symm, q2⟩
  have here' : ∀ {σ1 : L2.St} {H1 : Hp} {s₁ : Shared}, Inv X (pinsAt g.PL (s.setGen gi .running).heap) σ1 H1 s₁ → ∀ b ∈ g.PL, ∃ o, s₁.heap.get? b = some o ∧ ∀ v, o.data ≠ .cell v := fun {σ1 H1 s₁} I1 b hb => by
    obtain ⟨o, e, d⟩ := to b hb
    exact ⟨o, (here I1 b hb).1.trans e, d⟩
  refine wpAny_pyNext_genexpQ (A := B) (P := gP X g Fin) (Y := gY X g Fin) hh I.nolimit hroom tg hgs hgo' (fun v s₁ gs' hb hv => ?_) fun s₁ hp h' hk => ?_
  · obtain ⟨σ1, H1, x, I1, r1, hlt, hz, hfin, hkap⟩ := hv
    exact (hkap (fun z => by rw [hst] at z; cases z.1) s₁ (Sl.refl I1.bare (here' I1))).elim
  · obtain ⟨_, _, σ1, H1, I1, hF⟩ := hp
    have hb1 : AllBare (s₁.setGen gi .finished).gens := allBare_setGen I1.bare rfl
    have up : ∀ b ∈ g.PL, h'.get? b = s₁.heap.get? b := fun b hb => by
      obtain ⟨o, e, _⟩ := here' I1 b hb
      rw [e]; exact hk b o e
    have sl1 : Sl g.PL s₁ { s₁.setGen gi .finished with heap := h' } := ⟨rfl, hb1, fun b o _ e => hk b o e, fun b hb => by
      obtain ⟨o, e, d⟩ := here' I1 b hb
      exact ⟨o, (up b hb).trans e, d⟩⟩
    have I2 := slept y (unpinS I1) (fun b hb => (here I1 b hb).2) sl1
    exact hQ _ ⟨σ1, H1, I2, hF, fun b hb => (here I1 b hb).2⟩ (fun b hb => (up b hb).trans (here I1 b hb).1) (I2.os.trans I.os.symm) hb1
end
end ZG
namespace ZG
open PySem PySem.Spec L2 GenW
open PyProof.Rows (AllBare)
open Sem (wp)
theorem eval_gen (elt tg iter : Expr) (ifs : List Expr) (rest : List Comprehension) (scope : Scope) (pos : Pos) (env : Env) (hco : scope.isCoroutine = false) :
    eval (.GeneratorExp elt (⟨tg, iter, ifs, 0⟩ :: rest) scope pos) env = (do
      let x ← eval iter env
      standAt iter.pos
      let x ← genFold iter env x
      let it ← holding [x] (pyIter x)
      enterFrame
      let cl ← closureFor scope env
      let code ← genexprCode env pos (env.qual ++ "<genexpr>") scope
      let bi ← builtinsFor env.globals env.builtins
      let cenv ← newFunctionEnv scope env.globals cl [(".0", it)] (env.qual ++ "<genexpr>.") none code none bi
      newGenerator (.compStart (.GeneratorExp elt (⟨tg, iter, ifs, 0⟩ :: rest) scope pos) 0 it .none cenv) "<genexpr>" (env.qual ++ "<genexpr>")) := by
  rw [arm_eval_GeneratorExp]
  simp only [hco, Bool.false_eq_true, if_false]
  cases iter <;> rfl
theorem make_gen {M : Model} {A : Around} {E : Value → Shared → Prop} {s : Shared} {env : Env} {elt tg iter : Expr} {ifs : List Expr} {rest : List Comprehension} {scope : Scope} {cl : List (Str × Addr)} {pos : Pos} {Q : Value → Shared → Prop}
    (hco : scope.isCoroutine = false) (hclos : closureFor scope env = pure cl) (hcell : ∀ y ∈ scope.names, y.2 ≠ .cell) (h0 : scope.names.lookup (".0" : Str) = some NameKind.local) (hkind : scope.kind = .function)
    (hroom : A.depth < recursionLimit)
    (h : wpAny M A (eval iter env) (fun xv s₁ => wpAny M A (pyIter xv) (fun it s₂ => s₂.heap.NoLimit ∧
      wpAny M A (genexprCode env pos (env.qual ++ "<genexpr>") scope) (fun code s₃ => wpAny M A (builtinsFor env.globals env.builtins) (fun bi s₄ =>
        ∀ h', h'.Ns s₄.heap.objs.size (fun y => if y = ".0" then some it else none) → Heap.SameBut s₄.heap.objs.size (s₄.heap.push { cls := .type "frame", data := .dict #[] }) h' →
          Q (.ref h'.objs.size) { s₄ with
            gens := s₄.gens.push (.fresh (.compStart (.GeneratorExp elt (⟨tg, iter, ifs, 0⟩ :: rest) scope pos) 0 it .none (genEnv scope cl s₄.heap.objs.size code bi env))),
            toks := s₄.toks + 1 + 1 + 1,
            heap := h'.push { cls := .type "generator", data := .fields #[.int s₄.gens.size 0, .str "<genexpr>" (s₄.toks + 1), .str (env.qual ++ "<genexpr>") (s₄.toks + 1 + 1)] } }) E s₃) E s₂) E s₁) E s)
    (hs : ∀ x, genFold iter env x = pure x) :
    wpAny M A (eval (.GeneratorExp elt (⟨tg, iter, ifs, 0⟩ :: rest) scope pos) env) Q E s := by
  rw [eval_gen _ _ _ _ _ _ _ _ hco, hclos]
  refine wpAny_bind (wpAny_mono h (fun xv s₁ h₁ => ?_) fun _ _ e => e)
  refine wpAny_bind (wpAny_standAt ?_)
  refine wpAny_bind (wpAny_of_eq (hs xv) ?_)
  refine wpAny_bind (wpAny_holding (wpAny_mono h₁ (fun it s₂ h₂ => ?_) fun _ _ e => e))
  refine wpAny_bind (wpAny_enterFrame h₂.1 hroom ?_)
  refine wpAny_bind (wpAny_pure ?_)
  refine wpAny_bind (wpAny_mono h₂.2 (fun code s₃ h₃ => ?_) fun _ _ e => e)
  refine wpAny_bind (wpAny_mono h₃ (fun bi s₄ h₄ => ?_) fun _ _ e => e)
  have hbinds : ∀ y ∈ ([((".0" : Str), it)] : List (Str × Value)), scope.names.lookup y.1 = some NameKind.local := by
    intro y hy
    rcases List.mem_cons.mp hy with rfl | hy
    · exact h0
    · cases hy
  refine wpAny_bind (wpAny_newFunctionEnv hcell hbinds (fun h' hn' hs' => ?_) hkind)
  have e : (fun y : Str => ([((".0" : Str), it)] : List (Str × Value)).reverse.lookup y) = fun y : Str => if y = (".0" : Str) then some it else none := by
    funext y
    by_cases hy : y = ".0"
    · subst hy; simp
    · have : (y == (".0" : Str)) = false := by simpa using hy
      simp [List.lookup, this, hy]
  rw [e] at hn'
  simp only [newGenerator, newFields]
  refine wpAny_bind (wpAny_newGen (wpAny_bind (wpAny_mkText (wpAny_bind (wpAny_mkText (wpAny_newObj_type ?_ (by size_fits)))))))
  exact h₄ h' hn' hs'
section
variable {X : Cx}
theorem seg_start {rest : List Comprehension} {g : Gp} {Fin : Hp → Prop} {A : Around} {elt tg iter : Expr} {ifs : List Expr} {scope : Scope} {pos : Pos} {it : Addr} {fp : List Addr} {tn : Nat → Heap → Prop} {J : It} {n : Nat} {s₀ s : Shared}
    (T : Turn X.prog X.w X.K tg J fp it tn) (st : tn 0 s.heap)
    (loop : Seg (model X.prog X.w) A (gR X g Fin) (gY X g Fin) n s₀ (.compLoop (.GeneratorExp elt (⟨tg, iter, ifs, 0⟩ :: rest) scope pos) 0 (.ref it) .none X.env)
        ((model X.prog X.w).den (.compLoop (.GeneratorExp elt (⟨tg, iter, ifs, 0⟩ :: rest) scope pos) 0 (.ref it) .none X.env)) [] s) :
    Seg (model X.prog X.w) A (gR X g Fin) (gY X g Fin) n s₀ (.compStart (.GeneratorExp elt (⟨tg, iter, ifs, 0⟩ :: rest) scope pos) 0 (.ref it) .none X.env)
        ((model X.prog X.w).den (.compStart (.GeneratorExp elt (⟨tg, iter, ifs, 0⟩ :: rest) scope pos) 0 (.ref it) .none X.env)) [] s := by
  show Seg _ A _ _ _ s₀ _ ((compStart (.GeneratorExp elt (⟨tg, iter, ifs, 0⟩ :: rest) scope pos) 0 (.ref it) .none X.env).onRaise (leaving X.env)) [] s
  unfold compStart
  rw [Sem.onRaise_eq_wrap]
  show Seg _ A _ _ _ s₀ _ ((ask >>= _).wrap _ _ _ _) [] s
  refine seg_bind_wrap (wpAny_askSetting ?_)
  split
  · exact seg_again rfl loop
  · exact seg_bind_wrap (wpAny_rule (seg_bind_wrap (wpAny_standAt (seg_bind_wrap (T.self _ 0 s _ _ st (seg_again rfl loop))))))
/-- the around of the generator's frame, woken by what X's builtin calls -/
def gAr (X : Cx) (cenv : Env) : Around := ⟨none, X.A.depth + 1, some (cenv :: X.stack), X.A.guards, X.A.units + 5⟩
theorem over_gen {e : Expr} {it : Value} {cenv : Env} {elt : Expr} {gs : List Comprehension} {scope : Scope} {pos : Pos} (he : e = .GeneratorExp elt gs scope pos) (hh : X.A.handled = none) (hf : X.A.frames = some X.stack) :
    X.A.in1.in1.over (.compLoop e 0 it .none cenv) [] = gAr X cenv := by
  subst he
  have h1 : X.A.in1.in1.handled = none := hh
  have h2 : X.A.in1.in1.frames = some X.stack := hf
  unfold Around.over gAr
  rw [h2]
  simp only [marksOver, List.foldr_nil, h1, List.map_nil, envsOf, guardsOf, frameCount, unitsOf, Code.envs, Code.isFrame, Code.env?, Code.guards, Code.isGuard, Code.weight, Code.frames, Code.isCreation, Code.isCaller, Code.cUnits, pushEnvs, pushGuards,
    List.filter_nil, List.filterMap_nil, List.sum_nil, if_true, Option.toList, Option.map_some, Bool.false_eq_true, if_false, Nat.add_zero]
  rw [hh]
  rfl
/-- made: a generator as its consumer gets it -/
def Made (X : Cx) (pins : List (Addr × Obj)) (σ : L2.St) (zs : List V) (stop : Bool) (Fin : Hp → Prop) (u : Value) (s5 : Shared) : Prop :=
  ∃ (a : Addr) (gi : Nat) (X' : Cx), u = .ref a ∧ X'.prog = X.prog ∧ X'.w = X.w ∧ GOb X' a gi ∧ s5.heap.IsGen a gi ∧ (∃ H, Inv X pins σ H s5) ∧
    (∀ σ' H' s', Inv X' [] σ' H' s' → Inv X pins σ H' s') ∧ (∀ PL, (∀ b ∈ PL, s5.heap.objs.size ≤ b) → Yg X' PL ∧ a ∉ PL ∧ ∀ s', Sl PL s5 s' → s'.gens = s5.gens → GSt X' X.A.in1.in1 ⟨zs, stop, PL⟩ Fin a gi 0 s')
/-- what the code object asks -/
structure GCode (X : Cx) (c P : Addr) : Prop where
  code : X.env.code = .ref c
  hd : ∀ {pins : List (Addr × Obj)} {σ : L2.St} {H : Hp} {s : Shared}, Inv X pins σ H s → PySem.W.CodeHd s.heap c P
  bm : X.base.BuiltinsAt X.mg P
  gP : mainGlobals ≠ P
/-- the reading; Rd: what is asked of the walk from there on -/
def tGenG (P : Addr) (wi : TI) (Rd : It → Hp → List V → Bool → Prop) (Z : List V → Bool → Prop) : L2.St → Hp → Prop := fun σ H => wi σ H fun J H1 => (∃ ps : Array Value, H1 P = some (.tbl ps) ∧ TriplesOk ps.toList) ∧
  ∀ ps' : Array Value, TriplesOk ps'.toList → ∃ zs stop, Z zs stop ∧ (stop = true → 0 < zs.length) ∧ Rd J (upd H1 P (.tbl ps')) zs stop
/-- the loop, from any frame of the generator's -/
def LoopOk (X : Cx) (σ : L2.St) (e : Expr) (tg : Expr) (Bd : Cx → Prop) (Rd : It → Hp → List V → Bool → Prop) (K : List V → Bool → Hp → Prop) (scope : Scope) (vs : List Nat) : Prop :=
  ∀ (X' : Cx) (A : Around) (g : Gp) (it : Addr) (fp : List Addr) (tn : Nat → Heap → Prop) (J : It) (H : Hp) (s : Shared), X'.calm = true → (∀ e s, ¬ X'.xe e s) → X'.env.scope.isCoroutine = false → Yg X' g.PL → fp = X'.ex →
    A.over (.compLoop e 0 (.ref it) .none X'.env) [] = X'.A → Turn X'.prog X'.w X'.K tg J fp it tn → Bd X' → Rd J H g.zs g.stop → (∀ b ∈ fp, b ∉ g.PL) → (∀ p ∈ X'.pn, ∀ b ∈ fp, p.1 ≠ b) →
    Inv X' (pinsAt g.PL s.heap) (wipe σ vs) H s → tn 0 s.heap → (∀ b ∈ fp, H b = none) → (∀ b ∈ g.PL, ∃ o, s.heap.get? b = some o) →
      Seg (model X'.prog X'.w) A (gR X' g (K g.zs g.stop)) (gY X' g (K g.zs g.stop)) g.zs.length s (.compLoop e 0 (.ref it) .none X'.env) ((model X'.prog X'.w).den (.compLoop e 0 (.ref it) .none X'.env)) [] s
theorem gen_made {pins : List (Addr × Obj)} {s : Shared} {σ : L2.St} {H : Hp} {elt tg iter : Expr} {ifs : List Expr} {scope : Scope} {own : List (Str × Nat)} {pos : Pos} {rest : List Comprehension} {wi : TI} {Rd : It → Hp → List V → Bool → Prop} {Bd : Cx → Prop} {c P : Addr} {Z : List V → Bool → Prop} {K : List V → Bool → Hp → Prop} {Q : Value → Shared → Prop} {k : Nat}
    (hr : Room k X.A) (GC : GCode X c P) (hN : X.N.Nodup) (I : Inv X pins σ H s) (hi : PI X tg iter wi) (G : GScp X.N X.env.scope scope own)
    (hb : ∀ (s : Shared) (H : Hp) (C : Addr) (code : Value) (fp : List Addr) (pn : List (Addr × Obj)), Bd (gCx X (gAr X (gEnv X scope C code)) s H scope C code fp pn))
    (hL : LoopOk X σ (.GeneratorExp elt (⟨tg, iter, ifs, 0⟩ :: rest) scope pos) tg Bd Rd K scope (own.map (·.2)))
    (hs : ∀ x, genFold iter X.env x = pure x) (h : tGenG P wi Rd Z σ H)
    (hQ : ∀ zs stop u s5, Z zs stop → (stop = true → 0 < zs.length) → Made X pins σ zs stop (K zs stop) u s5 → Q u s5) :
    wpAny (model X.prog X.w) X.A (eval (.GeneratorExp elt (⟨tg, iter, ifs, 0⟩ :: rest) scope pos) X.env) Q X.xe s := by
  refine make_gen G.co (closure_ok (G.has I.ok)) G.nocell G.dot G.blk.kind (by have := hr.dp; omega) ?_ hs
  refine thn (hi.run pins s σ H _ I h) fun v s1 h1 => thn h1 fun itv s2 h2 => ?_
  obtain ⟨it, fp, tn, J, H2, e, I2, T, st2, f2, ⟨ps, hP, ht⟩, q⟩ := h2
  subst e
  have hPs : s2.heap.get? P = some { cls := .none, data := .fields ps } := I2.hok P _ hP
  have cd := GC.hd I2
  have sz : ∀ b ∈ fp, b < s2.heap.objs.size := fun b hb => by
    obtain ⟨o, e, _⟩ := T.obj _ _ st2 b hb
    exact Heap.lt_size e
  have hPf : ∀ b ∈ fp, b ≠ P := fun b hb z => by
    have := (f2 b hb).1
    rw [z, hP] at this
    cases this
  have cont : ∀ (code : Value) (h3 : Heap) (tk : Nat) (more : Array Value), Heap.ExtBut P s2.heap h3 → s2.heap.objs.size ≤ h3.objs.size → h3.get? P = some { cls := .none, data := .fields (ps ++ more) } → TriplesOk (ps ++ more).toList →
      wpAny (model X.prog X.w) X.A (builtinsFor X.env.globals X.env.builtins) (fun bi s₄ => ∀ h', h'.Ns s₄.heap.objs.size (fun y => if y = (".0" : Str) then some (Value.ref it) else none) → Heap.SameBut s₄.heap.objs.size (s₄.heap.push { cls := .type "frame", data := .dict #[] }) h' →
        Q (.ref h'.objs.size) { s₄ with gens := s₄.gens.push (.fresh (.compStart (.GeneratorExp elt (⟨tg, iter, ifs, 0⟩ :: rest) scope pos) 0 (.ref it) .none (genEnv scope (cloFrom X.env.cells scope.names []) s₄.heap.objs.size code bi X.env))), toks := s₄.toks + 1 + 1 + 1, heap := h'.push { cls := .type "generator", data := .fields #[.int s₄.gens.size 0, .str "<genexpr>" (s₄.toks + 1), .str (X.env.qual ++ "<genexpr>") (s₄.toks + 1 + 1)] } }) X.xe { s2 with heap := h3, toks := tk } := by
    intro code h3 tk more hx hsz hP3 ht3
    obtain ⟨bm, ob, e1, e2, e3, e4, e5, e6, e7, e8⟩ := GC.bm
    have I3 : Inv X pins σ (upd H2 P (.tbl (ps ++ more))) { s2 with heap := h3, toks := tk } := GxR.inv_tab (g' := s2.gens) (d' := s2.drawn) (t' := tk) I2 hP (fun b u hb e => hx b u hb e) hP3 I2.bare
    have glob3 : h3.Ns mainGlobals X.mg := I3.mod.glob.keeps I3.bk
    refine wpAny_builtinsFor (m := X.mg) (by rw [I3.ok.glob]; exact glob3) e1 e2 (I3.bk _ _ e5) e6 e7 e8 ?_
    intro h' hns hsb
    generalize hs3 : ({ s2 with heap := h3, toks := tk } : Shared) = s3 at I3 hns hsb ⊢
    have hh3 : s3.heap = h3 := by rw [← hs3]
    obtain ⟨zs, stop, hZ, hz, w0⟩ := q (ps ++ more) ht3
    generalize hgo : ({ cls := .type "generator", data := .fields #[.int s3.gens.size 0, .str "<genexpr>" (s3.toks + 1), .str (X.env.qual ++ "<genexpr>") (s3.toks + 1 + 1)] } : Obj) = go
    have hgc : go.cls = .type "generator" ∧ (∃ nm qn, go.data = .fields #[.int s3.gens.size 0, nm, qn]) ∧ go.slots = #[] := by rw [← hgo]; exact ⟨rfl, ⟨_, _, rfl⟩, rfl⟩
    have hgf : ∀ h : Heap, (h.push go).get? h.objs.size = some go := fun h => Heap.get?_push_size _ (by rw [← hgo]; rfl)
    have hgen : ∀ h : Heap, ∀ a, h.get? a = some go → h.IsGen a s3.gens.size := fun h a e => by
      obtain ⟨g1, ⟨nm, qn, g2⟩, g3⟩ := hgc
      exact ⟨go, nm, qn, e, g1, g2, g3⟩
    have hsz' : h'.objs.size = s3.heap.objs.size + 1 := by rw [hsb.1, Heap.size_push]
    have keep' : ∀ b o, s3.heap.get? b = some o → h'.get? b = some o := fun b o e => hsb.extBut b o (Nat.ne_of_lt (Heap.lt_size e)) (Heap.get?_push_of_some _ e)
    have keep5 : ∀ b o, s3.heap.get? b = some o → (h'.push go).get? b = some o := fun b o e => Heap.get?_push_of_some _ (keep' b o e)
    have hb5 : AllBare (s3.gens.push (.fresh (.compStart (.GeneratorExp elt (⟨tg, iter, ifs, 0⟩ :: rest) scope pos) 0 (.ref it) .none (gEnv X scope s3.heap.objs.size code)))) := I3.bare.push rfl
    generalize hH3 : upd H2 P (.tbl (ps ++ more)) = H3 at I3 w0
    have nf3 : ∀ b ∈ fp, H3 b = none := fun b hb => by rw [← hH3, upd_ne (hPf b hb)]; exact (f2 b hb).1
    have f3 : ∀ b ∈ fp, FpOk X pins H3 b ∧ b < s3.heap.objs.size := fun b hb => ⟨⟨nf3 b hb, (f2 b hb).2⟩, Nat.lt_of_lt_of_le (sz b hb) (by rw [hh3]; exact hsz)⟩
    have hover : X.A.in1.in1.over (.compLoop (.GeneratorExp elt (⟨tg, iter, ifs, 0⟩ :: rest) scope pos) 0 (.ref it) .none (gEnv X scope s3.heap.objs.size code)) [] = gAr X (gEnv X scope s3.heap.objs.size code) := over_gen rfl hr.hd I3.ok.frames
    refine hQ zs stop _ _ hZ hz ?_
    generalize hs5 : ({ s3 with gens := s3.gens.push (.fresh (.compStart (.GeneratorExp elt (⟨tg, iter, ifs, 0⟩ :: rest) scope pos) 0 (.ref it) .none (gEnv X scope s3.heap.objs.size code))), toks := s3.toks + 1 + 1 + 1, heap := h'.push go } : Shared) = s5
    have hh5 : s5.heap = h'.push go := by rw [← hs5]
    have hg5 : s5.gens = s3.gens.push (.fresh (.compStart (.GeneratorExp elt (⟨tg, iter, ifs, 0⟩ :: rest) scope pos) 0 (.ref it) .none (gEnv X scope s3.heap.objs.size code))) := by rw [← hs5]
    have ho5 : s5.os = s3.os := by rw [← hs5]
    have k5 : ∀ b o, s3.heap.get? b = some o → s5.heap.get? b = some o := fun b o e => by rw [hh5]; exact keep5 b o e
    have ha5 : s5.heap.get? h'.objs.size = some go := by rw [hh5]; exact hgf h'
    have I5 := gen_start (s5 := s5) (A := gAr X (gEnv X scope s3.heap.objs.size code)) (code := code) (pn := [(h'.objs.size, go)]) I3 G hN f3 rfl rfl (by rw [hh5]; exact hns.push go) k5 ho5 (by rw [hg5]; exact hb5) (fun p hp => by
      obtain rfl := List.mem_singleton.mp hp
      refine ⟨ha5, by show s3.heap.objs.size < h'.objs.size; omega, fun v z => ?_⟩
      obtain ⟨nm, qn, g2⟩ := hgc.2.1
      rw [g2] at z; cases z)
    have pb := hb s3 H3 s3.heap.objs.size code fp [(h'.objs.size, go)]
    generalize hX' : gCx X (gAr X (gEnv X scope s3.heap.objs.size code)) s3 H3 scope s3.heap.objs.size code fp [(h'.objs.size, go)] = X' at I5 pb
    have xp : X'.prog = X.prog := by rw [← hX']; rfl
    have xw : X'.w = X.w := by rw [← hX']; rfl
    have xk : X'.K = X.K := by rw [← hX']; rfl
    have xe : X'.env = gEnv X scope s3.heap.objs.size code := by rw [← hX']; rfl
    have xex : X'.ex = fp := by rw [← hX']; rfl
    have xpn : X'.pn = [(h'.objs.size, go)] := by rw [← hX']; rfl
    have xs : X'.s_0 = s3 := by rw [← hX']; rfl
    have xf : X'.fs = frs X.stack := by rw [← hX']; rfl
    have xA : X'.A = gAr X (gEnv X scope s3.heap.objs.size code) := by rw [← hX']; rfl
    have ob : GOb X' h'.objs.size s3.gens.size := ⟨go, by rw [xpn]; exact List.mem_singleton.mpr rfl, fun h e => hgen h _ e⟩
    have T' : Turn X'.prog X'.w X'.K tg J fp it tn := by rw [xp, xw, xk]; exact T
    refine ⟨h'.objs.size, s3.gens.size, X', rfl, xp, xw, ob, ob.is I5, ⟨H3, I3.call' (ch := []) ho5 (Un.kept k5) (I3.hok.kept k5) (by rw [hg5]; exact hb5) (fun b z => by simp at z)⟩, fun σ' H' s' J' => by rw [← hX'] at J'; exact gen_back I3 (fun b hb => (f3 b hb).1) J', fun PL hPL => ?_⟩
    have sz5 : s5.heap.objs.size = s3.heap.objs.size + 1 + 1 := by rw [hh5, Heap.size_push, hsz']
    have y : Yg X' PL := by
      refine ⟨fun b hb => ?_, fun b hb z => ?_, fun b hb x c e z => ?_, fun b hb p hp z => ?_, fun b hb z => ?_⟩
      · have := hPL b hb
        rw [xs]
        omega
      · have := hPL b hb
        rw [z, xe] at this
        have this : s5.heap.objs.size ≤ s3.heap.objs.size := this
        omega
      · obtain ⟨w', z'⟩ := I5.cell x c e
        have h1 := z'.lt
        have h2 := hPL b hb
        rw [z] at h1
        exact absurd (Nat.lt_of_lt_of_le h1 h2) (Nat.lt_irrefl _)
      · rw [xpn] at hp
        obtain rfl := List.mem_singleton.mp hp
        have := hPL b hb
        have z : h'.objs.size = b := z
        omega
      · rw [xf] at z
        have h2 := hPL b hb
        rcases List.mem_cons.mp (I3.stkSub b z) with z | z
        · have h3 : X.env.locals < s3.heap.objs.size := I3.lt
          rw [← z] at h3
          have h3 : @LT.lt Nat _ b s3.heap.objs.size := h3
          have h2 : @LE.le Nat _ s5.heap.objs.size b := h2
          omega
        · exact I3.nofs (show s3.heap.objs.size ≤ b by omega) z
    have hap : h'.objs.size ∉ PL := fun z => by
      have := hPL _ z
      omega
    refine ⟨y, hap, fun s' z hg' => ?_⟩
    have nH : ∀ b ∈ PL, H3 b = none := fun b hb => I3.hok.fresh (show s3.heap.objs.size ≤ b by have := hPL b hb; omega)
    have I6 := slept y I5 nH z
    have hdis : ∀ b ∈ fp, b ∉ PL := fun b hb hm => by
      have h1 : @LT.lt Nat _ b s3.heap.objs.size := (f3 b hb).2
      have h2 : @LE.le Nat _ s5.heap.objs.size b := hPL b hm
      omega
    have st5 : tn 0 s5.heap := T.keep _ _ _ st2 fun b hb o e => k5 b o (by rw [hh3]; exact hx b o (hPf b hb) e)
    have hgs : s'.gens[s3.gens.size]? = some (.fresh (.compStart (.GeneratorExp elt (⟨tg, iter, ifs, 0⟩ :: rest) scope pos) 0 (.ref it) .none (gEnv X scope s3.heap.objs.size code))) := by rw [hg', hg5]; exact Array.getElem?_push_size ..
    refine ⟨ob.is I6, ⟨_, H3, I6, nH, fun zz => ?_⟩, z.own, _, hgs, fun hne s'' z' => ⟨rfl, ?_⟩⟩
    · have h1 := hz zz.1
      have h2 : 0 = zs.length := zz.2
      omega
    · have I7 := slept y I6 nH z'
      have I8 := pinnedS y I7 nH z'.own
      have st7 : tn 0 s''.heap := T.keep _ _ _ st5 fun b hb o e => z'.keep b o (hdis b hb) (z.keep b o (hdis b hb) e)
      have lp := hL X' X.A.in1.in1 ⟨zs, stop, PL⟩ it fp tn J H3 s'' (by rw [← hX']; rfl) (by rw [← hX']; exact fun _ _ z => z) (by rw [xe]; exact G.co) y xex.symm (by rw [xe, xA]; exact hover) T' pb w0 hdis (fun p hp b hb zz => by
          rw [xpn] at hp
          obtain rfl := List.mem_singleton.mp hp
          have h1 : @LT.lt Nat _ b s3.heap.objs.size := (f3 b hb).2
          have zz : @Eq Nat h'.objs.size b := zz
          omega) I8 st7 nf3 (fun b hb => let ⟨o, e, _⟩ := z'.own b hb; ⟨o, e⟩)
      have := seg_start (X := X') (g := ⟨zs, stop, PL⟩) (Fin := K zs stop) (A := X.A.in1.in1) T' st7 lp
      rw [xe] at this
      exact this
  refine ⟨I2.nolimit, ?_⟩
  cases hf : codeAmong pos ps.toList with
  | none =>
    refine wpAny_genexprCodeX GC.code (cd.code hPs ht) (cd.tab hPs) hf fun c' h' tk hx hge hlt hco' _ htab' _ => ?_
    obtain ⟨o1, vs, f1, tf, fl, tg, inF, tx, tt, op, _, _, _, _, _, _, _, _, _, htr, _⟩ := hco'
    exact cont _ h' tk _ hx (Nat.le_trans hge (Nat.le_of_lt hlt)) htab'.2 htr
  | some cv =>
    refine wpAny_genexprCode_hit GC.code (cd.code hPs ht) hf ?_
    exact cont cv s2.heap s2.toks #[] (Heap.ExtBut.refl _ _) (Nat.le_refl _) (by simpa using hPs) (by simpa using ht)
/-- one clause -/
def Rd1 (gt : TG) (tt : TT) (te : TE) (vs : List Nat) (K : List V → Bool → Hp → Prop) (σ : L2.St) : It → Hp → List V → Bool → Prop := fun J H zs stop => ∃ W, (∃ m, W 0 m 0 H) ∧ Turns ⟨zs, stop, []⟩ (K zs stop) J gt tt te vs σ W
theorem loop1 {σ : L2.St} {elt tg iter : Expr} {ifs : List Expr} {scope : Scope} {pos : Pos} {gt : TG} {tt : TT} {te : TE} {vs : List Nat} {K : List V → Bool → Hp → Prop} :
    LoopOk X σ (.GeneratorExp elt [⟨tg, iter, ifs, 0⟩] scope pos) tg (fun X' => PG X' tg gt ∧ PTs X' ifs tt ∧ PE X' elt te) (Rd1 gt tt te vs K σ) K scope vs := by
  intro X' A g it fp tn J H s hc hx hco y hfp hA T ⟨pg, pt, pe⟩ ⟨W, ⟨m, w⟩, hT⟩ hdis hpn I st nf hPL
  exact seg_loop (g := g) hc hx hco y hfp hA T pg pt pe hT hdis hpn m 0 0 H s s w (Nat.zero_le _) I st nf hPL
end
end ZG
namespace ZG
open PySem PySem.Spec L2 GenW
open PyProof.Rows (AllBare)
open Sem (wp)
section
variable {X : Cx} {A : Around} {g : Gp} {Fin : Hp → Prop} {a : Addr} {gi : Nat} {R : Result → Shared → Prop}
/-- truth values; the one at which the consumer stops is t -/
def ZB (t : Bool) (zs : List V) (stop : Bool) : Prop := ∃ bs : List Bool, zs = bs.map V.bl ∧ ∀ j b, bs[j]? = some b → (b = t ↔ (stop = true ∧ j + 1 = bs.length))
theorem any_loop (y : Yg X g.PL) (ob : GOb X a gi) (hh : A.handled = none) (hroom : A.depth < recursionLimit) (hZ : ZB true g.zs g.stop) (hR : ∀ s', GFin X g Fin s' → R (.ok (.ret (.bool g.stop))) s') :
    ∀ (k j : Nat) (s : Shared), g.zs.length - j = k → j ≤ g.zs.length → ¬ (g.stop = true ∧ j = g.zs.length) → GSt X A.in1.in1 g Fin a gi j s → codeAny (model X.prog X.w) A (.builtin "any.loop" ⟨[.ref a], []⟩) R s := by
  obtain ⟨bs, hbs, hb⟩ := hZ
  have hlen : g.zs.length = bs.length := by rw [hbs]; simp
  intro k
  induction k with
  | zero =>
    intro j s hk hj hne t
    have hjn : j = g.zs.length := by omega
    subst hjn
    have hst : g.stop = false := by
      cases h : g.stop with
      | false => rfl
      | true => exact absurd ⟨h, rfl⟩ hne
    refine codeAny_builtin F.entry_any_loop ?_
    rw [Around.under_plainId F.plain_any_loop _]
    show wpAny _ A.in1 (pyNext (.ref a) >>= _) _ _ s
    refine wpAny_bind (GSt.done (B := A.in1) y ob hh hroom t hst fun s' hf _ _ _ => ?_)
    refine wpAny_bind (wpAny_rule (wpAny_pure ?_))
    have := hR s' hf
    rw [hst] at this
    exact this
  | succ k ih =>
    intro j s hk hj hne t
    have hlt : j < g.zs.length := by omega
    refine codeAny_builtin F.entry_any_loop ?_
    rw [Around.under_plainId F.plain_any_loop _]
    show wpAny _ A.in1 (pyNext (.ref a) >>= _) _ _ s
    refine wpAny_bind (GSt.item (B := A.in1) y ob hh hroom t hlt fun v x s' hx r t' _ _ => ?_)
    have hbl : j < bs.length := by omega
    have hxb : bs[j]? = some bs[j] := List.getElem?_eq_getElem hbl
    have hx2 : x = .bl bs[j] := by
      rw [hbs, List.getElem?_map, hxb] at hx
      exact (Option.some.inj hx).symm
    subst hx2
    have hv : v = Value.bool bs[j] := r
    subst hv
    have hbj := hb j _ hxb
    refine wpAny_bind (wpAny_holding (wpAny_truthy_bool ?_))
    refine wpAny_bind (wpAny_letGo ?_)
    cases hq : bs[j] with
    | false =>
      rw [hq] at hbj
      simp only [Bool.false_eq_true, if_false]
      exact wpAny_pure ⟨plainId_quiet F.plain_any_loop _, ih (j + 1) _ (by omega) hlt (fun z => nomatch hbj.mpr ⟨z.1, by omega⟩) t'⟩
    | true =>
      rw [hq] at hbj
      obtain ⟨h1, h2⟩ := hbj.mp rfl
      simp only [if_true]
      refine wpAny_bind (wpAny_rule (wpAny_pure ?_))
      have e : j + 1 = g.zs.length := by omega
      rw [e] at t'
      have := hR s' (t'.out h1)
      rw [h1] at this
      exact this
theorem all_loop (y : Yg X g.PL) (ob : GOb X a gi) (hh : A.handled = none) (hroom : A.depth < recursionLimit) (hZ : ZB false g.zs g.stop) (hR : ∀ s', GFin X g Fin s' → R (.ok (.ret (.bool (!g.stop)))) s') :
    ∀ (k j : Nat) (s : Shared), g.zs.length - j = k → j ≤ g.zs.length → ¬ (g.stop = true ∧ j = g.zs.length) → GSt X A.in1.in1 g Fin a gi j s → codeAny (model X.prog X.w) A (.builtin "all.loop" ⟨[.ref a], []⟩) R s := by
  obtain ⟨bs, hbs, hb⟩ := hZ
  have hlen : g.zs.length = bs.length := by rw [hbs]; simp
  intro k
  induction k with
  | zero =>
    intro j s hk hj hne t
    have hjn : j = g.zs.length := by omega
    subst hjn
    have hst : g.stop = false := by
      cases h : g.stop with
      | false => rfl
      | true => exact absurd ⟨h, rfl⟩ hne
    refine codeAny_builtin F.entry_all_loop ?_
    rw [Around.under_plainId F.plain_all_loop _]
    show wpAny _ A.in1 (pyNext (.ref a) >>= _) _ _ s
    refine wpAny_bind (GSt.done (B := A.in1) y ob hh hroom t hst fun s' hf _ _ _ => ?_)
    refine wpAny_bind (wpAny_rule (wpAny_pure ?_))
    have := hR s' hf
    rw [hst] at this
    exact this
  | succ k ih =>
    intro j s hk hj hne t
    have hlt : j < g.zs.length := by omega
    refine codeAny_builtin F.entry_all_loop ?_
    rw [Around.under_plainId F.plain_all_loop _]
    show wpAny _ A.in1 (pyNext (.ref a) >>= _) _ _ s
    refine wpAny_bind (GSt.item (B := A.in1) y ob hh hroom t hlt fun v x s' hx r t' _ _ => ?_)
    have hbl : j < bs.length := by omega
    have hxb : bs[j]? = some bs[j] := List.getElem?_eq_getElem hbl
    have hx2 : x = .bl bs[j] := by
      rw [hbs, List.getElem?_map, hxb] at hx
      exact (Option.some.inj hx).symm
    subst hx2
    have hv : v = Value.bool bs[j] := r
    subst hv
    have hbj := hb j _ hxb
    refine wpAny_bind (wpAny_holding (wpAny_truthy_bool ?_))
    refine wpAny_bind (wpAny_letGo ?_)
    cases hq : bs[j] with
    | true =>
      rw [hq] at hbj
      simp only [if_true]
      exact wpAny_pure ⟨plainId_quiet F.plain_all_loop _, ih (j + 1) _ (by omega) hlt (fun z => nomatch hbj.mpr ⟨z.1, by omega⟩) t'⟩
    | false =>
      rw [hq] at hbj
      obtain ⟨h1, h2⟩ := hbj.mp rfl
      simp only [Bool.false_eq_true, if_false]
      refine wpAny_bind (wpAny_rule (wpAny_pure ?_))
      have e : j + 1 = g.zs.length := by omega
      rw [e] at t'
      have := hR s' (t'.out h1)
      rw [h1] at this
      exact this
/-- the list in which sum keeps its sum -/
theorem sl_list {PL : List Addr} {S : Addr} (hPL : PL = [S]) {s : Shared} {f : Obj → Obj} {o o' : Obj} (hb : AllBare s.gens) (e : s.heap.get? S = some o) (e' : (s.heap.update S f).get? S = some o') (hd : ∀ v, o'.data ≠ .cell v) (tk : Nat) :
    Sl PL s { s with heap := s.heap.update S f, toks := tk } := ⟨rfl, hb, fun b ob h q => (Heap.get?_update_other _ _ (fun z : S = b => h (by rw [hPL, z]; exact List.mem_singleton.mpr rfl))).trans q, fun b hb' => by
  rw [hPL] at hb'
  obtain rfl := List.mem_singleton.mp hb'
  exact ⟨o', e', hd⟩⟩
theorem lst_at {h : Heap} {S : Addr} {c : Nat} {f : Array Value → Array Value} {vs : Array Value} (e : h.get? S = some (Obj.mapSeq f { cls := .type "list", dict := none, data := .seq vs c, slots := #[] })) : ∃ c', h.get? S = some { cls := .type "list", dict := none, data := .seq (f vs) c', slots := #[] } := ⟨_, e⟩
theorem bare_of (t : GSt X A g Fin a gi j s) : AllBare s.gens := let ⟨_, _, I, _⟩ := t.inv; I.bare
theorem sum_loop (y : Yg X g.PL) (hap : a ∉ g.PL) (ob : GOb X a gi) (hh : A.handled = none) (hroom : A.depth < recursionLimit) {S : Addr} (hPL : g.PL = [S]) {ns : List Int} (hz : g.zs = ns.map V.int) (hst : g.stop = false) (hR : ∀ t' s', GFin X g Fin s' → R (.ok (.ret (.int ns.sum t'))) s') :
    ∀ (k j : Nat) (s : Shared) (tA : Tok) (c : Nat) (st : Int), (st = 0 ∨ st = 2) → g.zs.length - j = k → j ≤ g.zs.length → GSt X A.in1.in1 g Fin a gi j s → s.heap.get? S = some { cls := .type "list", dict := none, data := .seq #[.int (ns.take j).sum tA] c, slots := #[] } →
      codeAny (model X.prog X.w) A (.builtin "sum.loop" ⟨[.ref a, .ref S, rawInt st, rawInt 0], []⟩) R s := by
  have hlen : g.zs.length = ns.length := by rw [hz]; simp
  have hSm : S ∈ g.PL := by rw [hPL]; exact List.mem_singleton.mpr rfl
  intro k
  induction k with
  | zero =>
    intro j s tA c st hst2 hk hj t hS
    have hjn : j = g.zs.length := by omega
    subst hjn
    refine codeAny_builtin F.entry_sum_loop ?_
    rw [Around.under_plainId F.plain_sum_loop _]
    show wpAny _ A.in1 (seqItems? (.ref S) >>= _) _ _ s
    refine wpAny_bind (wpAny_seqItems hS rfl ?_)
    show wpAny _ A.in1 (tryCatch (pyNext (.ref a)) _ >>= _) _ _ s
    refine wpAny_bind (wpAny_tryCatch (GSt.done (B := A.in1) y ob hh hroom t hst fun s' hf _ _ _ => ?_))
    have := hR tA s' hf
    rw [show ns = ns.take g.zs.length from by rw [hlen, List.take_length]] at this
    exact wpAny_pure this
  | succ k ih =>
    intro j s tA c st hst2 hk hj t hS
    have hlt : j < g.zs.length := by omega
    refine codeAny_builtin F.entry_sum_loop ?_
    rw [Around.under_plainId F.plain_sum_loop _]
    show wpAny _ A.in1 (seqItems? (.ref S) >>= _) _ _ s
    refine wpAny_bind (wpAny_seqItems hS rfl ?_)
    show wpAny _ A.in1 (tryCatch (pyNext (.ref a)) _ >>= _) _ _ s
    refine wpAny_bind (wpAny_tryCatch (GSt.item (B := A.in1) y ob hh hroom t hlt fun v x s' hx r t' hS0 _ => ?_))
    have hbl : j < ns.length := by omega
    have hxb : ns[j]? = some ns[j] := List.getElem?_eq_getElem hbl
    have hx2 : x = .int ns[j] := by
      rw [hz, List.getElem?_map, hxb] at hx
      exact (Option.some.inj hx).symm
    subst hx2
    obtain ⟨tk, hv⟩ : ∃ tk, v = Value.int ns[j] tk := r
    subst hv
    have hsum : (ns.take j).sum + ns[j] = (ns.take (j + 1)).sum := by
      rw [List.take_succ_eq_append_getElem hbl, List.sum_append]
      simp
    have hS' := (hS0 S hSm).trans hS
    have hb' := bare_of t'
    rcases hst2 with rfl | rfl
    · show wpAny _ A.in1 (if (_ : Bool) = true then (mkInt ((ns.take j).sum + ns[j]) >>= _) else _) _ _ _
      split
      · refine wpAny_bind (wpAny_mkInt ?_)
        show wpAny _ A.in1 (updateSeq S (fun _ => #[.int ((ns.take j).sum + ns[j]) s'.toks]) >>= _) _ _ _
        refine wpAny_bind ?_
        refine wpAny_updateSeq hS' rfl (wpAny_pure ⟨plainId_quiet F.plain_sum_loop _, ?_⟩)
        have e' := Heap.get?_update_self (Obj.mapSeq fun _ => #[Value.int ((ns.take j).sum + ns[j]) s'.toks]) hS' rfl
        obtain ⟨c', ec⟩ := lst_at e'
        refine ih (j + 1) _ s'.toks c' 0 (.inl rfl) (by omega) hlt (t'.frame y hap (sl_list hPL hb' hS' e' (fun v z => by cases z) _) rfl) (by rw [← hsum]; exact ec)
      · refine wpAny_bind (wpAny_rule ?_)
        refine wpAny_bind (wpAny_attempt (wpAny_holding (wpAny_add_int ?_)))
        show wpAny _ A.in1 (updateSeq S (fun _ => #[.int ((ns.take j).sum + ns[j]) s'.toks]) >>= _) _ _ _
        refine wpAny_bind (wpAny_updateSeq hS' rfl ?_)
        have hS₂ := Heap.get?_update_self (Obj.mapSeq fun _ => #[Value.int ((ns.take j).sum + ns[j]) s'.toks]) hS' rfl
        refine wpAny_bind (wpAny_letGo ?_)
        refine wpAny_bind (wpAny_updateSeq hS₂ rfl (wpAny_pure ⟨plainId_quiet F.plain_sum_loop _, ?_⟩))
        have e' := Heap.get?_update_self (Obj.mapSeq fun _ => #[Value.int ((ns.take j).sum + ns[j]) s'.toks]) hS₂ rfl
        obtain ⟨c', ec⟩ := lst_at e'
        refine ih (j + 1) _ s'.toks c' 2 (.inr rfl) (by omega) hlt ((t'.frame y hap (sl_list hPL hb' hS' hS₂ (fun v z => by cases z) _) rfl).frame y hap (sl_list (s := { s' with heap := s'.heap.update S (Obj.mapSeq fun _ => #[Value.int ((ns.take j).sum + ns[j]) s'.toks]), toks := s'.toks }) hPL hb' hS₂ e' (fun v z => by cases z) _) rfl) (by rw [← hsum]; exact ec)
    · show wpAny _ A.in1 ((holding [Value.int ns[j] tk] (binaryOp .Add (.int (ns.take j).sum tA) (.int ns[j] tk))).attempt >>= _) _ _ _
      refine wpAny_bind (wpAny_attempt (wpAny_holding (wpAny_add_int ?_)))
      show wpAny _ A.in1 (updateSeq S (fun _ => #[.int ((ns.take j).sum + ns[j]) s'.toks]) >>= _) _ _ _
      refine wpAny_bind (wpAny_updateSeq hS' rfl ?_)
      have hS₂ := Heap.get?_update_self (Obj.mapSeq fun _ => #[Value.int ((ns.take j).sum + ns[j]) s'.toks]) hS' rfl
      refine wpAny_bind (wpAny_letGo ?_)
      refine wpAny_bind (wpAny_updateSeq hS₂ rfl (wpAny_pure ⟨plainId_quiet F.plain_sum_loop _, ?_⟩))
      have e' := Heap.get?_update_self (Obj.mapSeq fun _ => #[Value.int ((ns.take j).sum + ns[j]) s'.toks]) hS₂ rfl
      obtain ⟨c', ec⟩ := lst_at e'
      refine ih (j + 1) _ s'.toks c' 2 (.inr rfl) (by omega) hlt ((t'.frame y hap (sl_list hPL hb' hS' hS₂ (fun v z => by cases z) _) rfl).frame y hap (sl_list (s := { s' with heap := s'.heap.update S (Obj.mapSeq fun _ => #[Value.int ((ns.take j).sum + ns[j]) s'.toks]), toks := s'.toks }) hPL hb' hS₂ e' (fun v z => by cases z) _) rfl) (by rw [← hsum]; exact ec)
end
end ZG
namespace ZG
open PySem PySem.Spec L2 GenW
open PyProof.Rows (AllBare)
open Sem (wp)
section
variable {X : Cx}
/-- a reading of the walk from its start on, by what is wanted at the end -/
abbrev TRd := (List V → Bool → Hp → Prop) → L2.St → It → Hp → List V → Bool → Prop
def tAny (P : Addr) (wi : TI) (Rd : TRd) : TE := fun σ H Q => tGenG P wi (Rd (fun _ stop H' => Q (.bl stop) H') σ) (ZB true) σ H
def tAll (P : Addr) (wi : TI) (Rd : TRd) : TE := fun σ H Q => tGenG P wi (Rd (fun _ stop H' => Q (.bl (!stop)) H') σ) (ZB false) σ H
def tSum (P : Addr) (wi : TI) (Rd : TRd) : TE := fun σ H Q => tGenG P wi (Rd (fun zs _ H' => ∀ ns : List Int, zs = ns.map V.int → Q (.int ns.sum) H') σ) (fun zs stop => stop = false ∧ ∃ ns : List Int, zs = ns.map V.int) σ H
theorem boot_all : bootBuiltins "all" = some (.builtin "all") := by decide +kernel
theorem boot_any : bootBuiltins "any" = some (.builtin "any") := by decide +kernel
theorem boot_sum : bootBuiltins "sum" = some (.builtin "sum") := by decide +kernel
theorem sl_tok {s : Shared} (hb : AllBare s.gens) : Sl [] s s := Sl.refl hb (by simp)
variable {pins : List (Addr × Obj)} {s : Shared} {σ : L2.St} {H : Hp} {elt tg iter : Expr} {ifs : List Expr} {scope : Scope} {own : List (Str × Nat)} {p pos gpos : Pos} {rest : List Comprehension} {wi : TI} {Rd : TRd} {Bd : Cx → Prop} {c P : Addr} {k : Nat}
theorem pe_any (hr : Room k X.A) (hg : Gl X "any") (hm : X.mg "any" = none) (GC : GCode X c P) (hN : X.N.Nodup) (hi : PI X tg iter wi) (G : GScp X.N X.env.scope scope own)
    (hb : ∀ (s : Shared) (H : Hp) (C : Addr) (code : Value) (fp : List Addr) (pn : List (Addr × Obj)), Bd (gCx X (gAr X (gEnv X scope C code)) s H scope C code fp pn))
    (hL : ∀ σ K, LoopOk X σ (.GeneratorExp elt (⟨tg, iter, ifs, 0⟩ :: rest) scope gpos) tg Bd (Rd K σ) K scope (own.map (·.2)))
    (hs : ∀ x, genFold iter X.env x = pure x)
    (he : starEach [.GeneratorExp elt (⟨tg, iter, ifs, 0⟩ :: rest) scope gpos] X.env = (false, eval (.GeneratorExp elt (⟨tg, iter, ifs, 0⟩ :: rest) scope gpos) X.env) :: starEach [] X.env := by rfl) :
    PE X (.Call (.Name "any" p) [.GeneratorExp elt (⟨tg, iter, ifs, 0⟩ :: rest) scope gpos] [] pos) (tAny P wi Rd) := by
  refine ⟨fun pins s σ H Q I h => ?_⟩
  refine wpAny_Call_Name_kw (ld_blt I hg hm boot_any ?_)
  refine PyProof.Rows.callWith_builtin1 ?_ he (by rfl)
  rw [he]
  show wpAny _ _ (spliced ((false, eval (.GeneratorExp elt (⟨tg, iter, ifs, 0⟩ :: rest) scope gpos) X.env) :: backTo pos (starEach [] X.env))) _ _ s
  refine Calls.spliced_cons (gen_made hr GC hN I hi G hb (hL _ _) hs h fun zs stop u s5 hZ hpos hM => ?_)
  obtain ⟨a, gi, X', rfl, xp, xw, ob, tg5, ⟨H5, I5⟩, back, hst⟩ := hM
  refine Calls.spliced_nil ?_
  refine call_function_tree F.kind_any F.plain_any F.entry_any (F.args_any1 _) ?_
  unfold Builtin.«any»
  refine wpAny_bind (m := oneArg "any" _) (wpAny_pure ?_)
  refine wpAny_bind (wpAny_pyIter_gen tg5 ?_)
  obtain ⟨y, hap, hst⟩ := hst [] (by simp)
  have t0 := hst s5 (sl_tok I5.bare) rfl
  refine wpAny_pure ⟨plainId_quiet F.plain_any_loop _, ?_⟩
  have L := any_loop (X := X') (A := X.A) (g := ⟨zs, stop, []⟩) (a := a) (gi := gi) (R := fun r s' => ∃ v, r = .ok (.ret v) ∧ EP X pins σ Q v s') y ob hr.hd hr.depth hZ (fun s' ⟨σ', H', J, hF, _⟩ => ⟨_, rfl, .bl stop, H', back σ' H' s' J, rfl, hF⟩) zs.length 0 s5 rfl (Nat.zero_le _) (fun z => by
    have h1 := hpos z.1
    have h2 : 0 = zs.length := z.2
    omega) t0
  rw [xp, xw] at L
  refine codeAny_mono L fun r s' ⟨v, hv, q⟩ => ?_
  subst hv
  exact q
theorem pe_all (hr : Room k X.A) (hg : Gl X "all") (hm : X.mg "all" = none) (GC : GCode X c P) (hN : X.N.Nodup) (hi : PI X tg iter wi) (G : GScp X.N X.env.scope scope own)
    (hb : ∀ (s : Shared) (H : Hp) (C : Addr) (code : Value) (fp : List Addr) (pn : List (Addr × Obj)), Bd (gCx X (gAr X (gEnv X scope C code)) s H scope C code fp pn))
    (hL : ∀ σ K, LoopOk X σ (.GeneratorExp elt (⟨tg, iter, ifs, 0⟩ :: rest) scope gpos) tg Bd (Rd K σ) K scope (own.map (·.2)))
    (hs : ∀ x, genFold iter X.env x = pure x)
    (he : starEach [.GeneratorExp elt (⟨tg, iter, ifs, 0⟩ :: rest) scope gpos] X.env = (false, eval (.GeneratorExp elt (⟨tg, iter, ifs, 0⟩ :: rest) scope gpos) X.env) :: starEach [] X.env := by rfl) :
    PE X (.Call (.Name "all" p) [.GeneratorExp elt (⟨tg, iter, ifs, 0⟩ :: rest) scope gpos] [] pos) (tAll P wi Rd) := by
  refine ⟨fun pins s σ H Q I h => ?_⟩
  refine wpAny_Call_Name_kw (ld_blt I hg hm boot_all ?_)
  refine PyProof.Rows.callWith_builtin1 ?_ he (by rfl)
  rw [he]
  show wpAny _ _ (spliced ((false, eval (.GeneratorExp elt (⟨tg, iter, ifs, 0⟩ :: rest) scope gpos) X.env) :: backTo pos (starEach [] X.env))) _ _ s
  refine Calls.spliced_cons (gen_made hr GC hN I hi G hb (hL _ _) hs h fun zs stop u s5 hZ hpos hM => ?_)
  obtain ⟨a, gi, X', rfl, xp, xw, ob, tg5, ⟨H5, I5⟩, back, hst⟩ := hM
  refine Calls.spliced_nil ?_
  refine call_function_tree F.kind_all F.plain_all F.entry_all (F.args_all1 _) ?_
  unfold Builtin.«all»
  refine wpAny_bind (m := oneArg "all" _) (wpAny_pure ?_)
  refine wpAny_bind (wpAny_pyIter_gen tg5 ?_)
  obtain ⟨y, hap, hst⟩ := hst [] (by simp)
  have t0 := hst s5 (sl_tok I5.bare) rfl
  refine wpAny_pure ⟨plainId_quiet F.plain_all_loop _, ?_⟩
  have L := all_loop (X := X') (A := X.A) (g := ⟨zs, stop, []⟩) (a := a) (gi := gi) (R := fun r s' => ∃ v, r = .ok (.ret v) ∧ EP X pins σ Q v s') y ob hr.hd hr.depth hZ (fun s' ⟨σ', H', J, hF, _⟩ => ⟨_, rfl, .bl (!stop), H', back σ' H' s' J, rfl, hF⟩) zs.length 0 s5 rfl (Nat.zero_le _) (fun z => by
    have h1 := hpos z.1
    have h2 : 0 = zs.length := z.2
    omega) t0
  rw [xp, xw] at L
  refine codeAny_mono L fun r s' ⟨v, hv, q⟩ => ?_
  subst hv
  exact q
theorem pe_sum (hr : Room k X.A) (hg : Gl X "sum") (hm : X.mg "sum" = none) (GC : GCode X c P) (hN : X.N.Nodup) (hi : PI X tg iter wi) (G : GScp X.N X.env.scope scope own)
    (hb : ∀ (s : Shared) (H : Hp) (C : Addr) (code : Value) (fp : List Addr) (pn : List (Addr × Obj)), Bd (gCx X (gAr X (gEnv X scope C code)) s H scope C code fp pn))
    (hL : ∀ σ K, LoopOk X σ (.GeneratorExp elt (⟨tg, iter, ifs, 0⟩ :: rest) scope gpos) tg Bd (Rd K σ) K scope (own.map (·.2)))
    (hs : ∀ x, genFold iter X.env x = pure x)
    (he : starEach [.GeneratorExp elt (⟨tg, iter, ifs, 0⟩ :: rest) scope gpos] X.env = (false, eval (.GeneratorExp elt (⟨tg, iter, ifs, 0⟩ :: rest) scope gpos) X.env) :: starEach [] X.env := by rfl) :
    PE X (.Call (.Name "sum" p) [.GeneratorExp elt (⟨tg, iter, ifs, 0⟩ :: rest) scope gpos] [] pos) (tSum P wi Rd) := by
  refine ⟨fun pins s σ H Q I h => ?_⟩
  refine wpAny_Call_Name_kw (ld_blt I hg hm boot_sum ?_)
  refine PyProof.Rows.callWith_builtin1 ?_ he (by rfl)
  rw [he]
  show wpAny _ _ (spliced ((false, eval (.GeneratorExp elt (⟨tg, iter, ifs, 0⟩ :: rest) scope gpos) X.env) :: backTo pos (starEach [] X.env))) _ _ s
  refine Calls.spliced_cons (gen_made hr GC hN I hi G hb (hL _ _) hs h fun zs stop u s5 hZ hpos hM => ?_)
  obtain ⟨a, gi, X', rfl, xp, xw, ob, tg5, ⟨H5, I5⟩, back, hst⟩ := hM
  obtain ⟨hstop, ns, hns⟩ := hZ
  refine Calls.spliced_nil ?_
  refine call_function_tree F.kind_sum F.plain_sum F.entry_sum (F.args_sum1 _) ?_
  unfold Builtin.«sum»
  simp only [List.length_cons, List.length_nil]
  rw [if_neg (by decide)]
  refine wpAny_bind (wpAny_of_eq (show Builtin.Builtins.bindParams "sum" ["start"] 0 { } = pure [none] from rfl) ?_)
  refine wpAny_bind (wpAny_pyIter_gen tg5 ?_)
  refine wpAny_bind (wpAny_mkInt ?_)
  refine wpAny_bind (wpAny_pure ?_)
  simp only [List.forIn_cons, List.forIn_nil]
  refine wpAny_bind (wpAny_bind (wpAny_bind (wpAny_isInstance (T := "int") (b := false) (typeIs_int _ _ _) sub_int_str ?_)))
  simp only [Bool.false_eq_true, if_false]
  refine wpAny_pure (wpAny_bind (wpAny_bind (wpAny_isInstance (T := "int") (b := false) (typeIs_int _ _ _) sub_int_bytes ?_)))
  simp only [Bool.false_eq_true, if_false]
  refine wpAny_pure (wpAny_bind (wpAny_bind (wpAny_isInstance (T := "int") (b := false) (typeIs_int _ _ _) sub_int_bytearray ?_)))
  simp only [Bool.false_eq_true, if_false]
  refine wpAny_pure (wpAny_pure ?_)
  refine wpAny_bind (wpAny_newObj_type ?_)
  obtain ⟨y, hap, hst⟩ := hst [s5.heap.objs.size] (by simp)
  have hS := Heap.get?_push_size s5.heap (o := { cls := .type "list", data := .seq #[Value.int 0 s5.toks] }) rfl
  have t0 := hst { s5 with heap := s5.heap.push { cls := .type "list", data := .seq #[Value.int 0 s5.toks] }, toks := s5.toks + 1 } ⟨rfl, I5.bare, fun b o _ e => Heap.get?_push_of_some _ e, fun b hb => by
    obtain rfl := List.mem_singleton.mp hb
    exact ⟨_, hS, fun v z => by cases z⟩⟩ rfl
  refine wpAny_pure ⟨plainId_quiet F.plain_sum_loop _, ?_⟩
  have L := sum_loop (X := X') (A := X.A) (g := ⟨zs, stop, [s5.heap.objs.size]⟩) (a := a) (gi := gi) (R := fun r s' => ∃ v, r = .ok (.ret v) ∧ EP X pins σ Q v s') y hap ob hr.hd hr.depth rfl hns hstop (fun t' s' ⟨σ', H', J, hF, _⟩ => ⟨_, rfl, .int ns.sum, H', back σ' H' s' J, ⟨t', rfl⟩, hF ns hns⟩) zs.length 0 _ s5.toks _ 0 (.inl rfl) rfl (Nat.zero_le _) t0 hS
  rw [xp, xw] at L
  refine codeAny_mono L fun r s' ⟨v, hv, q⟩ => ?_
  subst hv
  exact q
end
end ZG
namespace ZG
open PySem PySem.Spec L2 GenW
open PyProof.Rows (AllBare)
open Sem (wp)
theorem turn_out (elt t0 i0 t1 i1 : Expr) (ifs0 ifs1 : List Expr) (scope : Scope) (pos : Pos) (it acc : Value) (env : Env) :
    compTurn (.GeneratorExp elt [⟨t0, i0, ifs0, 0⟩, ⟨t1, i1, ifs1, 0⟩] scope pos) 0 it acc env = (do
      standAt i0.pos
      match ← pyNext it with
      | none => pure (.done .next)
      | some v =>
        letOwnedTupleGo t0 it v
        assign t0 env v
        let mut ok := true
        for c in ifs0 do
          if ok then ok ← isTrue c env (eval c env)
        if ok then
          let x ← eval i1 env
          standAt i1.pos
          let x ← foldedSetIterable i1 env x
          let _ ← runOwn (.compStart (.GeneratorExp elt [⟨t0, i0, ifs0, 0⟩, ⟨t1, i1, ifs1, 0⟩] scope pos) 1 (← holding [x] (pyIter x)) acc env) env
        again (.compLoop (.GeneratorExp elt [⟨t0, i0, ifs0, 0⟩, ⟨t1, i1, ifs1, 0⟩] scope pos) 0 it acc env)) := by rfl
theorem turn_in (elt t0 i0 t1 i1 : Expr) (ifs0 ifs1 : List Expr) (scope : Scope) (pos : Pos) (it acc : Value) (env : Env) :
    compTurn (.GeneratorExp elt [⟨t0, i0, ifs0, 0⟩, ⟨t1, i1, ifs1, 0⟩] scope pos) 1 it acc env = (do
      standAt i1.pos
      match ← pyNext it with
      | none => pure (.done .next)
      | some v =>
        letOwnedTupleGo t1 it v
        assign t1 env v
        let mut ok := true
        for c in ifs1 do
          if ok then ok ← isTrue c env (eval c env)
        if ok then
          (do let v ← eval elt env; standAt elt.pos; let _ ← yieldOut env v)
        again (.compLoop (.GeneratorExp elt [⟨t0, i0, ifs0, 0⟩, ⟨t1, i1, ifs1, 0⟩] scope pos) 1 it acc env)) := by rfl
section
variable {X : Cx}
/-- the second clause's turns; Nx: what the first goes on from -/
def TurnsI (zs : List V) (stop : Bool) (Fin : Hp → Prop) (J : It) (gt : TG) (tt : TT) (te : TE) (vs : List Nat) (σ : L2.St) (Nx : Nat → Hp → Prop) (W : Nat → Nat → Nat → Hp → Prop) : Prop := ∀ i m j H, W i m j H →
  (J.stop i H ∧ Nx j H) ∨
  (J.go i H ∧ ∀ x H', J.yld i H x H' → gt x (wipe σ vs) H' fun σ2 H2 => wipe σ2 vs = wipe σ vs ∧ tt σ2 H2 fun b H3 =>
    if b = true then te σ2 H3 fun y H4 => zs[j]? = some y ∧ (if stop = true ∧ j + 1 = zs.length then Fin H4 else ∃ m', m' < m ∧ W (i + 1) m' (j + 1) H4) else ∃ m', m' < m ∧ W (i + 1) m' j H3)
theorem seg_in {g : Gp} {Fin : Hp → Prop} {A : Around} {e elt t0 i0 tg iter : Expr} {ifs0 ifs : List Expr} {scope : Scope} {pos : Pos} {it : Addr} {fp : List Addr} {tn : Nat → Heap → Prop} {J : It} {gt : TG} {tt : TT} {te : TE} {vs : List Nat} {σ : L2.St} {Nx : Nat → Hp → Prop} {W : Nat → Nat → Nat → Hp → Prop} {fs : List Frame} {pf : List (Addr × Obj)}
    (he : e = .GeneratorExp elt [⟨t0, i0, ifs0, 0⟩, ⟨tg, iter, ifs, 0⟩] scope pos) (hc : X.calm = true) (hx : ∀ e s, ¬ X.xe e s) (hco : X.env.scope.isCoroutine = false) (y : Yg X g.PL)
    (hA : A.over (.compLoop e 1 (.ref it) .none X.env) fs = X.A) (hfs : splitAtGen fs = none) (hfg : fs.any Frame.guarded = false)
    (T : Turn X.prog X.w X.K tg J fp it tn) (pg : PG X tg gt) (pt : PTs X ifs tt) (pe : PE X elt te) (hT : TurnsI g.zs g.stop Fin J gt tt te vs σ Nx W)
    (hdis : ∀ b ∈ fp, b ∉ g.PL) (hpf : ∀ p ∈ pf, p.1 ∉ g.PL) (hst : ∀ b ∈ fp, b ≠ X.env.locals ∧ b ∉ X.fs ∧ (b ∈ X.ex ∨ X.s_0.heap.objs.size ≤ b) ∧ (∀ x c, X.env.cells.lookup x = some c → c ≠ b) ∧ (∀ p ∈ X.pn ++ pf, p.1 ≠ b))
    (hK : ∀ (j : Nat) (H : Hp) (s₀ s : Shared), Nx j H → j ≤ g.zs.length → Inv X (pinsAt g.PL s₀.heap ++ pf) (wipe σ vs) H s → (∀ b ∈ g.PL, ∃ o, s₀.heap.get? b = some o) →
      Seg (model X.prog X.w) A (gR X g Fin) (gY X g Fin) (g.zs.length - j) s₀ (.compLoop e 1 (.ref it) .none X.env) (leafOf (.ok .next)) fs s) :
    ∀ (m i j : Nat) (H : Hp) (s₀ s : Shared), W i m j H → j ≤ g.zs.length → Inv X (pinsAt g.PL s₀.heap ++ pf) (wipe σ vs) H s → tn i s.heap → (∀ b ∈ fp, H b = none) → (∀ b ∈ g.PL, ∃ o, s₀.heap.get? b = some o) →
      Seg (model X.prog X.w) A (gR X g Fin) (gY X g Fin) (g.zs.length - j) s₀ (.compLoop e 1 (.ref it) .none X.env) ((model X.prog X.w).den (.compLoop e 1 (.ref it) .none X.env)) fs s := by
  subst he
  intro m
  induction m using Nat.strongRecOn with
  | ind m ih =>
    intro i j H s₀ s hW hj I st nf hPL
    have stat : ∀ {H' : Hp}, (∀ b ∈ fp, H' b = none) → ∀ b ∈ fp, FpOk X (pinsAt g.PL s₀.heap ++ pf) H' b := fun {H'} hn b hb => by
      obtain ⟨h1, h2, h3, h4, h5⟩ := hst b hb
      refine ⟨hn b hb, h1, h2, h3, h4, fun p hp z => ?_⟩
      rcases List.mem_append.mp hp with hp | hp
      · exact h5 p (List.mem_append_left _ hp) z
      · rcases List.mem_append.mp hp with hp | hp
        · exact hdis b hb (by rw [← z]; exact (of_pinsAt hp).1)
        · exact h5 p (List.mem_append_right _ hp) z
    show Seg _ A _ _ _ s₀ _ ((compTurn (.GeneratorExp elt [⟨t0, i0, ifs0, 0⟩, ⟨tg, iter, ifs, 0⟩] scope pos) 1 (.ref it) .none X.env).onRaise (fun x => do noteFrame x X.env; theTreesLotGoes x)) fs s
    rw [turn_in, Sem.onRaise_eq_wrap]
    refine seg_bind_wrap (wpAny_standAt ?_)
    rcases hT i m j H hW with ⟨hs, hN⟩ | ⟨hgo, step⟩
    · refine seg_bind_wrap ?_
      rw [hA]
      refine xF (T.done X rfl rfl rfl hc i _ s _ H (fun _ _ => False) I (stat nf) st hs) fun r s1 ⟨hr, I1⟩ => ?_
      subst hr
      exact hK j H s₀ s1 hN hj I1 hPL
    · refine seg_bind_wrap ?_
      rw [hA]
      refine xF (T.item X rfl rfl rfl hc i _ s _ H (fun _ _ => False) I (stat nf) st hgo) fun r s1 ⟨u, hr, h1⟩ => ?_
      subst hr
      refine seg_bind_wrap ?_
      rw [hA]
      refine xF h1 fun _ s2 ⟨x, H2, I2, r2, y2, st2, nf2⟩ => ?_
      have I2' := I2.pinned (stat nf2) (T.obj _ _ st2)
      refine seg_bind_wrap ?_
      rw [hA]
      refine wpAny_mono (pg.run _ s2 _ H2 x u _ I2' r2 (step x H2 y2)) (fun _ s3 ⟨σ3, H3, I3, hw3, q3⟩ => ?_) fun e s' hx' => (hx e s' hx').elim
      refine seg_bind_wrap ?_
      rw [hA]
      refine wpAny_mono (pt.run _ s3 σ3 H3 _ I3 q3) (fun b s4 ⟨H4, I4, q4⟩ => ?_) fun e s' hx' => (hx e s' hx').elim
      have pin' : ∀ {σ' : L2.St} {H' : Hp} {s' : Shared}, Inv X ((pinsAt g.PL s₀.heap ++ pf) ++ pinsAt fp s2.heap) σ' H' s' → ∀ b ∈ fp, ∀ o, s2.heap.get? b = some o → s'.heap.get? b = some o ∧ H' b = none := fun {σ' H' s'} I' b hb o e =>
        let z := I'.pin (b, o) (List.mem_append_right _ (List.mem_append_right _ (mem_pinsAt hb e)))
        ⟨z.1, z.2.1⟩
      have hl : (wipe σ vs).length = σ3.length := by rw [← hw3, wipe_length]
      have wk : ∀ {pins : List (Addr × Obj)} {H' : Hp} {s' : Shared}, Inv X pins σ3 H' s' → Inv X pins (wipe σ vs) H' s' := fun {pins H' s'} I' => I'.weak hl fun k v e => by
        rw [← hw3] at e
        exact (wipe_some e).1
      cases b with
      | false =>
        rw [if_neg Bool.false_ne_true] at q4
        simp only [Bool.false_eq_true, if_false]
        obtain ⟨m', hm, w'⟩ := q4
        refine seg_again rfl (ih m' hm (i + 1) j H4 s₀ s4 w' hj (wk I4).unpinned (T.keep _ _ _ st2 fun b hb o e => (pin' I4 b hb o e).1) (fun b hb => ?_) hPL)
        obtain ⟨o, e, _⟩ := T.obj _ _ st2 b hb
        exact (pin' I4 b hb o e).2
      | true =>
        rw [if_pos rfl] at q4
        simp only [if_true]
        have hy : ∀ v, yieldOut X.env v = yieldValue v := fun v => by simp only [yieldOut, hco, Bool.false_eq_true, if_false]
        simp only [hy]
        rw [Sem.bind_eq_wrap', Sem.bind_eq_wrap', Sem.wrap_wrap, Sem.wrap_wrap]
        refine seg_wrap ?_
        rw [hA]
        refine wpAny_mono (pe.run _ s4 σ3 H4 _ I4 q4) (fun v s5 ⟨yv, H5, I5, r5, hz, q5⟩ => ?_) fun e s' hx' => (hx e s' hx').elim
        have hjl : j < g.zs.length := (List.getElem?_eq_some_iff.mp hz).1
        obtain ⟨n, hn⟩ : ∃ n, g.zs.length - j = n + 1 := ⟨g.zs.length - j - 1, by omega⟩
        rw [hn]
        have I5' : Inv X (pinsAt g.PL s₀.heap ++ pf) (wipe σ vs) H5 s5 := (wk I5).unpinned
        have I5a : Inv X (pinsAt g.PL s₀.heap) (wipe σ vs) H5 s5 := I5'.unpinned
        refine seg_at (seg_yield hfs rfl hfg ⟨wipe σ vs, H5, yv, I5a, r5, by omega, ?_, fun hs => ?_, fun hs s' z => ?_⟩)
        · have e : g.zs.length - 1 - n = j := by omega
          rw [e]; exact hz
        · rw [if_pos ⟨hs.1, by omega⟩] at q5
          exact q5
        · rw [if_neg (fun hh => hs ⟨hh.1, by omega⟩)] at q5
          obtain ⟨m', hm, w'⟩ := q5
          have hHP : ∀ b ∈ g.PL, H5 b = none := fun b hb => by
            obtain ⟨o, e⟩ := hPL b hb
            exact (pin_at I5a hb e).2
          have I5b : Inv X pf (wipe σ vs) H5 s5 := I5'.pins_of fun p hp => I5'.pin p (List.mem_append_right _ (List.mem_append_right _ hp))
          have I6 := sleptP y hpf I5b hHP z
          have I7 := pinnedP y I6 hHP z.own
          have e : n = g.zs.length - (j + 1) := by omega
          rw [e]
          refine seg_again rfl (ih m' hm (i + 1) (j + 1) H5 s' s' w' hjl I7 (T.keep _ _ _ st2 fun b hb o e => ?_) (fun b hb => ?_) fun b hb => let ⟨o, e, _⟩ := z.own b hb; ⟨o, e⟩)
          · exact z.keep b o (hdis b hb) (pin' I5 b hb o e).1
          · obtain ⟨o, e, _⟩ := T.obj _ _ st2 b hb
            exact (pin' I5 b hb o e).2
end
end ZG
namespace ZG
open PySem PySem.Spec L2 GenW
open PyProof.Rows (AllBare)
open Sem (wp)
section
variable {X : Cx}
theorem seg_start1 {g : Gp} {Fin : Hp → Prop} {A : Around} {elt t0 i0 tg iter : Expr} {ifs0 ifs : List Expr} {scope : Scope} {pos : Pos} {it : Addr} {fp : List Addr} {tn : Nat → Heap → Prop} {J : It} {n : Nat} {s₀ s : Shared} {fs : List Frame}
    (T : Turn X.prog X.w X.K tg J fp it tn) (st : tn 0 s.heap)
    (loop : Seg (model X.prog X.w) A (gR X g Fin) (gY X g Fin) n s₀ (.compLoop (.GeneratorExp elt [⟨t0, i0, ifs0, 0⟩, ⟨tg, iter, ifs, 0⟩] scope pos) 1 (.ref it) .none X.env)
        ((model X.prog X.w).den (.compLoop (.GeneratorExp elt [⟨t0, i0, ifs0, 0⟩, ⟨tg, iter, ifs, 0⟩] scope pos) 1 (.ref it) .none X.env)) fs s) :
    Seg (model X.prog X.w) A (gR X g Fin) (gY X g Fin) n s₀ (.compStart (.GeneratorExp elt [⟨t0, i0, ifs0, 0⟩, ⟨tg, iter, ifs, 0⟩] scope pos) 1 (.ref it) .none X.env)
        ((model X.prog X.w).den (.compStart (.GeneratorExp elt [⟨t0, i0, ifs0, 0⟩, ⟨tg, iter, ifs, 0⟩] scope pos) 1 (.ref it) .none X.env)) fs s := by
  show Seg _ A _ _ _ s₀ _ ((compStart (.GeneratorExp elt [⟨t0, i0, ifs0, 0⟩, ⟨tg, iter, ifs, 0⟩] scope pos) 1 (.ref it) .none X.env).onRaise (fun x => do noteFrame x X.env; standAt theWindowsPlace)) fs s
  unfold compStart
  rw [Sem.onRaise_eq_wrap]
  show Seg _ A _ _ _ s₀ _ ((ask >>= _).wrap _ _ _ _) fs s
  refine seg_bind_wrap (wpAny_askSetting ?_)
  split
  · exact seg_again rfl loop
  · exact seg_bind_wrap (wpAny_rule (seg_bind_wrap (wpAny_standAt (seg_bind_wrap (T.self _ 0 s _ _ st (seg_again rfl loop))))))
/-- the first clause's turns -/
def Turns2 (zs : List V) (stop : Bool) (Fin : Hp → Prop) (J : It) (gt : TG) (tt : TT) (wi1 : TI) (gt1 : TG) (tt1 : TT) (te : TE) (vs vs1 : List Nat) (σ : L2.St) (W : Nat → Nat → Nat → Hp → Prop) : Prop := ∀ i m j H, W i m j H →
  (J.stop i H ∧ j = zs.length ∧ stop = false ∧ Fin H) ∨
  (J.go i H ∧ ∀ x H', J.yld i H x H' → gt x (wipe σ vs) H' fun σ2 H2 => wipe σ2 vs = wipe σ vs ∧ tt σ2 H2 fun b H3 =>
    if b = true then wi1 σ2 H3 fun J1 H4 => ∃ W1, (∃ m1, W1 0 m1 j H4) ∧ TurnsI zs stop Fin J1 gt1 tt1 te vs1 σ2 (fun j1 H5 => ∃ m', m' < m ∧ W (i + 1) m' j1 H5) W1 else ∃ m', m' < m ∧ W (i + 1) m' j H3)
theorem seg_out {g : Gp} {Fin : Hp → Prop} {A : Around} {e elt tg iter tg1 iter1 : Expr} {ifs ifs1 : List Expr} {scope : Scope} {pos : Pos} {it : Addr} {fp : List Addr} {tn : Nat → Heap → Prop} {J : It} {gt gt1 : TG} {tt tt1 : TT} {wi1 : TI} {te : TE} {vs vs1 : List Nat} {σ : L2.St} {W : Nat → Nat → Nat → Hp → Prop}
    (he : e = .GeneratorExp elt [⟨tg, iter, ifs, 0⟩, ⟨tg1, iter1, ifs1, 0⟩] scope pos) (hv : ∀ i ∈ vs1, i ∈ vs)
    (hc : X.calm = true) (hx : ∀ e s, ¬ X.xe e s) (hco : X.env.scope.isCoroutine = false) (y : Yg X g.PL) (hfp : fp = X.ex)
    (hA : A.over (.compLoop e 0 (.ref it) .none X.env) [] = X.A)
    (T : Turn X.prog X.w X.K tg J fp it tn) (pg : PG X tg gt) (pt : PTs X ifs tt) (pi1 : PI X tg1 iter1 wi1) (hs1 : ∀ x, foldedSetIterable iter1 X.env x = pure x) (pg1 : PG X tg1 gt1) (pt1 : PTs X ifs1 tt1) (pe : PE X elt te) (hT : Turns2 g.zs g.stop Fin J gt tt wi1 gt1 tt1 te vs vs1 σ W)
    (hdis : ∀ b ∈ fp, b ∉ g.PL) (hpn : ∀ p ∈ X.pn, ∀ b ∈ fp, p.1 ≠ b) :
    ∀ (m i j : Nat) (H : Hp) (s₀ s : Shared), W i m j H → j ≤ g.zs.length → Inv X (pinsAt g.PL s₀.heap) (wipe σ vs) H s → tn i s.heap → (∀ b ∈ fp, H b = none) → (∀ b ∈ g.PL, ∃ o, s₀.heap.get? b = some o) →
      Seg (model X.prog X.w) A (gR X g Fin) (gY X g Fin) (g.zs.length - j) s₀ (.compLoop e 0 (.ref it) .none X.env) ((model X.prog X.w).den (.compLoop e 0 (.ref it) .none X.env)) [] s := by
  subst he
  intro m
  induction m using Nat.strongRecOn with
  | ind m ih =>
    intro i j H s₀ s hW hj I st nf hPL
    have stat : ∀ {pins : List (Addr × Obj)} {σ' : L2.St} {H' : Hp} {s' : Shared}, Inv X pins σ' H' s' → (∀ p ∈ pins, p.1 ∈ g.PL) → (∀ b ∈ fp, H' b = none) → ∀ b ∈ fp, FpOk X pins H' b := fun {pins σ' H' s'} I' hp hn b hb => by
      have hb' : b ∈ X.ex := by rw [← hfp]; exact hb
      refine ⟨hn b hb, (I'.ok.exf b hb').1, I'.ok.exfs b hb', .inl hb', fun x c e => (I'.ok.exf b hb').2 x c e, fun p hp' => ?_⟩
      intro z
      rcases List.mem_append.mp hp' with hp' | hp'
      · exact hpn p hp' b hb z
      · exact hdis b hb (by rw [← z]; exact hp p hp')
    have hpp : ∀ p ∈ pinsAt g.PL s₀.heap, p.1 ∈ g.PL := fun p hp => (of_pinsAt hp).1
    show Seg _ A _ _ _ s₀ _ ((compTurn (.GeneratorExp elt [⟨tg, iter, ifs, 0⟩, ⟨tg1, iter1, ifs1, 0⟩] scope pos) 0 (.ref it) .none X.env).onRaise (leaving X.env)) [] s
    rw [turn_out, Sem.onRaise_eq_wrap]
    refine seg_bind_wrap (wpAny_standAt ?_)
    rcases hT i m j H hW with ⟨hs, hj2, hst, hF⟩ | ⟨hgo, step⟩
    · refine seg_bind_wrap ?_
      rw [hA]
      refine xF (T.done X rfl rfl rfl hc i _ s _ H (fun _ _ => False) I (stat I hpp nf) st hs) fun r s1 ⟨hr, I1⟩ => ?_
      subst hr
      exact seg_end (.ok .next) ⟨rfl, by omega, hst, _, H, I1, hF⟩
    · refine seg_bind_wrap ?_
      rw [hA]
      refine xF (T.item X rfl rfl rfl hc i _ s _ H (fun _ _ => False) I (stat I hpp nf) st hgo) fun r s1 ⟨u, hr, h1⟩ => ?_
      subst hr
      refine seg_bind_wrap ?_
      rw [hA]
      refine xF h1 fun _ s2 ⟨x, H2, I2, r2, y2, st2, nf2⟩ => ?_
      have I2' := I2.pinned (stat I2 hpp nf2) (T.obj _ _ st2)
      refine seg_bind_wrap ?_
      rw [hA]
      refine wpAny_mono (pg.run _ s2 _ H2 x u _ I2' r2 (step x H2 y2)) (fun _ s3 ⟨σ3, H3, I3, hw3, q3⟩ => ?_) fun e s' hx' => (hx e s' hx').elim
      refine seg_bind_wrap ?_
      rw [hA]
      refine wpAny_mono (pt.run _ s3 σ3 H3 _ I3 q3) (fun b s4 ⟨H4, I4, q4⟩ => ?_) fun e s' hx' => (hx e s' hx').elim
      have pin' : ∀ {pl : List (Addr × Obj)} {σ' : L2.St} {H' : Hp} {s' : Shared}, Inv X (pl ++ pinsAt fp s2.heap) σ' H' s' → ∀ b ∈ fp, ∀ o, s2.heap.get? b = some o → s'.heap.get? b = some o ∧ H' b = none := fun {pl σ' H' s'} I' b hb o e =>
        let z := I'.pin (b, o) (List.mem_append_right _ (List.mem_append_right _ (mem_pinsAt hb e)))
        ⟨z.1, z.2.1⟩
      have hl : (wipe σ vs).length = σ3.length := by rw [← hw3, wipe_length]
      cases b with
      | false =>
        rw [if_neg Bool.false_ne_true] at q4
        simp only [Bool.false_eq_true, if_false]
        obtain ⟨m', hm, w'⟩ := q4
        refine seg_again rfl (ih m' hm (i + 1) j H4 s₀ s4 w' hj ((I4.weak hl fun k v e => by rw [← hw3] at e; exact (wipe_some e).1)).unpinned (T.keep _ _ _ st2 fun b hb o e => (pin' I4 b hb o e).1) (fun b hb => ?_) hPL)
        obtain ⟨o, e, _⟩ := T.obj _ _ st2 b hb
        exact (pin' I4 b hb o e).2
      | true =>
        rw [if_pos rfl] at q4
        simp only [if_true]
        refine seg_bind_wrap ?_
        rw [hA]
        refine wpAny_mono (pi1.run _ s4 σ3 H4 _ I4 q4) (fun xv s5 h5 => ?_) fun e s' hx' => (hx e s' hx').elim
        refine seg_bind_wrap (wpAny_standAt ?_)
        refine seg_bind_wrap (wpAny_of_eq (hs1 xv) ?_)
        refine seg_bind_wrap (wpAny_holding ?_)
        rw [hA]
        refine wpAny_mono h5 (fun itv s6 h6 => ?_) fun e s' hx' => (hx e s' hx').elim
        obtain ⟨it1, fp1, tn1, J1, H6, e1, I6, T1, st6, f6, W1, ⟨m1, w1⟩, hT1⟩ := h6
        subst e1
        refine seg_call fun p => ?_
        have hdis1 : ∀ b ∈ fp1, b ∉ g.PL := fun b hb hm => by
          obtain ⟨o, e⟩ := hPL b hm
          exact (f6 b hb).2.2.2.2.2 (b, o) (List.mem_append_right _ (List.mem_append_left _ (mem_pinsAt hm e))) rfl
        refine seg_start1 T1 st6 ?_
        refine seg_in (X := X) (g := g) (Fin := Fin) (A := A) (pf := pinsAt fp s2.heap) (σ := σ3) (W := W1) rfl hc hx hco y ((over_loop rfl rfl).trans hA) rfl rfl T1 pg1 pt1 pe hT1 hdis1 (fun p hp hm => hdis _ (of_pinsAt hp).1 hm)
          (fun b hb => ⟨(f6 b hb).2.1, (f6 b hb).2.2.1, (f6 b hb).2.2.2.1, (f6 b hb).2.2.2.2.1, fun p hp => ?_⟩) (fun j' H' s₀' s' hN hj' I' hPL' => ?_) m1 0 j H6 s₀ s6 w1 hj (I6.weak (wipe_length _ _) fun k v e => (wipe_some e).1) st6 (fun b hb => (f6 b hb).1) hPL
        · rcases List.mem_append.mp hp with hp | hp
          · exact (f6 b hb).2.2.2.2.2 p (List.mem_append_left _ hp)
          · exact (f6 b hb).2.2.2.2.2 p (List.mem_append_right _ (List.mem_append_right _ hp))
        · obtain ⟨m', hm, w'⟩ := hN
          refine seg_leaf (.ok .next) ?_
          refine seg_again rfl (ih m' hm (i + 1) j' H' s₀' s' w' hj' (I'.unpinned.weak (hl.trans (wipe_length σ3 vs1).symm) fun k v e => ?_) (T.keep _ _ _ st2 fun b hb o e => (pin' I' b hb o e).1) (fun b hb => ?_) hPL')
          · rw [← hw3] at e
            obtain ⟨e1, e2⟩ := wipe_some e
            rw [wipe_out fun z => e2 (hv k z)]
            exact e1
          · obtain ⟨o, e, _⟩ := T.obj _ _ st2 b hb
            exact (pin' I' b hb o e).2
def Rd2 (gt : TG) (tt : TT) (wi1 : TI) (gt1 : TG) (tt1 : TT) (te : TE) (vs vs1 : List Nat) (K : List V → Bool → Hp → Prop) (σ : L2.St) : It → Hp → List V → Bool → Prop := fun J H zs stop => ∃ W, (∃ m, W 0 m 0 H) ∧ Turns2 zs stop (K zs stop) J gt tt wi1 gt1 tt1 te vs vs1 σ W
theorem loop2 {σ : L2.St} {elt tg iter tg1 iter1 : Expr} {ifs ifs1 : List Expr} {scope : Scope} {pos : Pos} {gt gt1 : TG} {tt tt1 : TT} {wi1 : TI} {te : TE} {vs vs1 : List Nat} {K : List V → Bool → Hp → Prop} (hv : ∀ i ∈ vs1, i ∈ vs) (hs1 : ∀ env x, foldedSetIterable iter1 env x = pure x) :
    LoopOk X σ (.GeneratorExp elt [⟨tg, iter, ifs, 0⟩, ⟨tg1, iter1, ifs1, 0⟩] scope pos) tg (fun X' => PG X' tg gt ∧ PTs X' ifs tt ∧ PI X' tg1 iter1 wi1 ∧ PG X' tg1 gt1 ∧ PTs X' ifs1 tt1 ∧ PE X' elt te) (Rd2 gt tt wi1 gt1 tt1 te vs vs1 K σ) K scope vs := by
  intro X' A g it fp tn J H s hc hx hco y hfp hA T ⟨pg, pt, pi1, pg1, pt1, pe⟩ ⟨W, ⟨m, w⟩, hT⟩ hdis hpn I st nf hPL
  exact seg_out (g := g) rfl hv hc hx hco y hfp hA T pg pt pi1 (fun x => hs1 _ x) pg1 pt1 pe hT hdis hpn m 0 0 H s s w (Nat.zero_le _) I st nf hPL
end
end ZG
namespace Z
open PySem PySem.Spec L2
/-! ### what is handed out -/
theorem bind_isok {α β : Type} {t : T α} {f : α → EH → T β} {b : β} {h : EH} (e : t.bind f = .ok b h) : ∃ a h1, t = .ok a h1 ∧ f a h1 = .ok b h := by
  cases t with
  | ok a h1 => exact ⟨a, h1, rfl, e⟩
  | _ => cases e
theorem okO_is {α : Type} {t : T α} {a : α} {h : EH} (e : okO t = some (a, h)) : t = .ok a h := by
  cases t with
  | ok a h1 => cases e; rfl
  | _ => cases e
def toV : W → V
  | .bl b => .bl b
  | .int i => .int i
  | _ => .non
theorem isStop_kind {st : Option Bool} {y : W} {b : Bool} (e : isStop st y = some b) : (∃ t k, st = some t ∧ y = .bl k ∧ b = (k == t)) ∨ (st = none ∧ b = false ∧ ∃ i, y = .int i) := by
  unfold isStop at e
  split at e
  · cases e; exact .inl ⟨_, _, rfl, rfl, rfl⟩
  · cases e; exact .inr ⟨rfl, rfl, _, rfl⟩
  · cases e
theorem toV_of {I : Inf} {ι : Pl} {H : Hp} {st : Option Bool} {y : W} {b : Bool} {v : V} (e : isStop st y = some b) (r : RW I ι H y v) : toV y = v := by
  rcases isStop_kind e with ⟨t, k, _, rfl, _⟩ | ⟨_, _, i, rfl⟩ <;> cases r <;> rfl
/-- truth values up to t, or ints -/
def ZW (st : Option Bool) (zs : List W) (s : Bool) : Prop := match st with
  | some t => ∃ bs : List Bool, zs = bs.map W.bl ∧ ∀ j b, bs[j]? = some b → (b = t ↔ (s = true ∧ j + 1 = bs.length))
  | none => s = false ∧ ∃ ns : List Int, zs = ns.map W.int
theorem ZW.nil {st : Option Bool} : ZW st [] false := by
  cases st with
  | none => exact ⟨rfl, [], rfl⟩
  | some t => exact ⟨[], rfl, fun j b e => by simp at e⟩
theorem ZW.one {st : Option Bool} {y : W} (e : isStop st y = some true) : ZW st [y] true := by
  rcases isStop_kind e with ⟨t, k, rfl, rfl, hk⟩ | ⟨_, z, _⟩
  · have : k = t := by simpa using hk.symm
    subst this
    refine ⟨[k], rfl, fun j b e => ?_⟩
    cases j with
    | zero => simp at e; subst e; simp
    | succ j => simp at e
  · cases z
theorem ZW.cons {st : Option Bool} {y : W} {zs : List W} {s : Bool} (e : isStop st y = some false) (q : ZW st zs s) (hs : s = true → 0 < zs.length) : ZW st (y :: zs) s := by
  rcases isStop_kind e with ⟨t, k, rfl, rfl, hk⟩ | ⟨rfl, _, i, rfl⟩
  · obtain ⟨bs, rfl, hb⟩ := q
    have hne : ¬ k = t := by
      intro z
      subst z
      simp at hk
    refine ⟨k :: bs, rfl, fun j b e => ?_⟩
    cases j with
    | zero =>
      simp at e
      subst e
      refine ⟨fun z => absurd z hne, fun z => ?_⟩
      have h1 := hs z.1
      have h2 := z.2
      simp only [List.length_cons, List.length_map] at h1 h2
      omega
    | succ j =>
      rw [hb j b (by simpa using e)]
      simp
  · obtain ⟨rfl, ns, rfl⟩ := q
    exact ⟨rfl, i :: ns, rfl⟩
theorem ZW.app {st : Option Bool} {ys zs : List W} {s : Bool} (p : ZW st ys false) (q : ZW st zs s) (hs : s = true → 0 < zs.length) : ZW st (ys ++ zs) s := by
  cases st with
  | none =>
    obtain ⟨_, ns, rfl⟩ := p
    obtain ⟨rfl, ms, rfl⟩ := q
    exact ⟨rfl, ns ++ ms, by simp⟩
  | some t =>
    obtain ⟨as, rfl, ha⟩ := p
    obtain ⟨bs, rfl, hb⟩ := q
    refine ⟨as ++ bs, by simp, fun j b e => ?_⟩
    by_cases hj : j < as.length
    · rw [List.getElem?_append_left hj] at e
      have := ha j b e
      rw [this]
      refine ⟨fun z => (by cases z.1), fun z => ?_⟩
      have h1 := hs z.1
      have h2 := z.2
      simp at h1 h2
      omega
    · rw [List.getElem?_append_right (by omega)] at e
      rw [hb _ b e]
      simp
      omega
theorem genW_is {st : Option Bool} {f : W → EH → T (Option W)} {wk : Wk} : ∀ {k i : Nat} {h h' : EH} {zs : List W} {s : Bool}, genW st f wk k i h = some (zs, s, h') → ZW st zs s ∧ (s = true → 0 < zs.length)
  | 0, i, h, h', zs, s, e => by
    simp only [genW] at e
    split at e
    · cases e; exact ⟨.nil, fun z => by cases z⟩
    · cases e
  | k + 1, i, h, h', zs, s, e => by
    simp only [genW] at e
    split at e
    · split at e
      · cases e
      · exact genW_is e
      · split at e
        · cases e
        · rename_i e1
          cases e
          exact ⟨.one e1, fun _ => by simp⟩
        · rename_i e1
          split at e
          · cases e
          · rename_i ys s' h2 e2
            cases e
            obtain ⟨q1, q2⟩ := genW_is e2
            exact ⟨.cons e1 q1 q2, fun _ => by simp⟩
    · cases e
theorem sumW_int : ∀ ns : List Int, sumW (ns.map W.int) = ns.sum
  | [] => rfl
  | n :: ns => by simp [sumW, sumW_int ns]
section
variable {X : Cx} {I : Inf} {B : Tb} {Wx : XK} {σc : Env}
theorem JOk.mo {ι ι' : Pl} {H H' : Hp} {xs : List W} {J : It} (h : JOk I ι H xs J) (m : Mo ι H ι' H') : JOk I ι' H' xs J := ⟨h.1, fun ι2 H2 h2 m2 rp i => h.2 ι2 H2 h2 (m.trans m2) rp i⟩
/-- the walker goes by the evaluator's walk -/
def JAt (I : Inf) (ι : Pl) (H : Hp) (wk : Wk) (J : It) : Prop := ∀ ι2 H2 h2, Mo ι H ι2 H2 → Rep I ι2 h2 H2 → ∀ i, (∀ w, wk.get h2 i = some (some w) → J.go i H2 ∧ ∀ x H3, J.yld i H2 x H3 → Ext ι2 H2 ι2 H3 ∧ Rep I ι2 h2 H3 ∧ RW I ι2 H3 w x) ∧ (wk.get h2 i = some none → J.stop i H2)
theorem JOk.at {ι : Pl} {H : Hp} {xs : List W} {J : It} (h : JOk I ι H xs J) : JAt I ι H (.fix xs) J := fun ι2 H2 h2 e2 rp i => by
  obtain ⟨h1, h3⟩ := h.2 ι2 H2 h2 e2 rp i
  refine ⟨fun w hw => ?_, fun hw => ?_⟩
  · simp only [Wk.get, Option.some.injEq] at hw
    exact h1 w hw
  · simp only [Wk.get, Option.some.injEq, List.getElem?_eq_none_iff] at hw
    exact h3 hw
theorem JAt.mo {ι ι' : Pl} {H H' : Hp} {wk : Wk} {J : It} (h : JAt I ι H wk J) (e : Mo ι H ι' H') : JAt I ι' H' wk J := fun ι2 H2 h2 e2 rp i => h ι2 H2 h2 (e.trans e2) rp i
/-- a turn that ends well -/
theorem turnW_ok {g : G} {own : List Nat} {fc : Env → EH → T Bool} {fe : Env → EH → T W} {x : W} {h h' : EH} {o : Option W} (e : turnW g own fc fe σc x h = .ok o h') :
    ∃ σ' k h1, store g x (wipeE σc own) = some σ' ∧ fc σ' h = .ok k h1 ∧ ((k = false ∧ o = none ∧ h' = h1) ∨ (k = true ∧ ∃ y, o = some y ∧ fe σ' h1 = .ok y h')) := by
  unfold turnW at e
  split at e
  · cases e
  · rename_i σ' hs
    obtain ⟨k, h1, e1, e2⟩ := bind_isok e
    refine ⟨σ', k, h1, hs, e1, ?_⟩
    cases k with
    | false =>
      rw [if_neg Bool.false_ne_true] at e2
      cases e2
      exact .inl ⟨rfl, rfl, rfl⟩
    | true =>
      rw [if_pos rfl] at e2
      obtain ⟨y, h2, e3, e4⟩ := bind_isok e2
      cases e4
      exact .inr ⟨rfl, y, rfl, e3⟩
theorem gen1_read {g : G} {gt : TG} {own : List Nat} {fc : Env → EH → T Bool} {fe : Env → EH → T W} (hg : GOk I g gt) (ho : gIn g own = true) {σ : L2.St} {st : Option Bool} {xs : List W} {J : It} {ι1 : Pl} {h1 h' : EH} {H1 : Hp} {zs : List W} {s : Bool} {Fin : Hp → Prop}
    (hJ : JAt I ι1 H1 (.fix xs) J) (rs : RS I ι1 H1 σc σ) (rp : Rep I ι1 h1 H1) (e : genW st (turnW g own fc fe σc) (.fix xs) xs.length 0 h1 = some (zs, s, h'))
    (hF : ∀ ι' H', Ext ι1 H1 ι' H' → Rep I ι' h' H' → Fin H') :
    ∃ Wr : Nat → Nat → Nat → Hp → Prop, (∃ m, Wr 0 m 0 H1) ∧ ZG.Turns ⟨zs.map toV, s, []⟩ Fin J gt (tB I fc noX) (tE I fe noX) own σ Wr := by
  refine ⟨fun i m j H2 => m = xs.length - i ∧ ∃ ι2 h2, i ≤ xs.length ∧ Ext ι1 H1 ι2 H2 ∧ Rep I ι2 h2 H2 ∧ j ≤ zs.length ∧ genW st (turnW g own fc fe σc) (.fix xs) (xs.length - i) i h2 = some (zs.drop j, s, h'), ⟨xs.length, by simp, ι1, h1, Nat.zero_le _, Ext.refl, rp, Nat.zero_le _, by simpa using e⟩, ?_⟩
  rintro i m j H2 ⟨rfl, ι2, h2, hi, e2, rp2, hj, eg⟩
  obtain ⟨hj1, hj2⟩ := hJ ι2 H2 h2 e2.mo rp2 i
  have hgl : ∀ j, j < zs.length → (zs.map toV)[j]? = (zs[j]?).map toV := fun j _ => List.getElem?_map ..
  by_cases hlt : i < xs.length
  · have hx : (Wk.fix xs).get h2 i = some (some xs[i]) := by simp [Wk.get, hlt]
    obtain ⟨hgo, hy⟩ := hj1 _ hx
    obtain ⟨k, hk⟩ : ∃ k, xs.length - i = k + 1 := ⟨xs.length - i - 1, by omega⟩
    have hk' : k = xs.length - (i + 1) := by omega
    rw [hk] at eg
    simp only [genW, hx] at eg
    refine .inr ⟨hgo, fun x H3 y => ?_⟩
    obtain ⟨e3, rp3, rx⟩ := hy x H3 y
    have rs3 : RS I ι2 H3 (wipeE σc own) (wipe σ own) := ((rs.ext e2).ext e3).wipe own
    cases ht : okO (turnW g own fc fe σc xs[i] h2) with
    | none => rw [ht] at eg; cases eg
    | some p =>
      obtain ⟨o, h5⟩ := p
      rw [ht] at eg
      obtain ⟨σ', kk, h4, hst, hc, hr⟩ := turnW_ok (okO_is ht)
      obtain ⟨τ, rs4, hwp, hq⟩ := hg ι2 H3 _ _ _ _ _ rs3 rx hst
      refine hq _ ⟨(hwp own ho).trans (wipe_wipe own fun _ z => z), ?_⟩
      refine ⟨ι2, h2, σ', rs4, rp3, ?_⟩
      rw [hc]
      show Pb I ι2 H3 _ kk h4
      intro ι4 H4 e4 rp4
      have e14 : Ext ι1 H1 ι4 H4 := (e2.trans e3).trans e4
      rcases hr with ⟨rfl, rfl, rfl⟩ | ⟨rfl, y0, rfl, hfe⟩
      · rw [if_neg Bool.false_ne_true]
        simp only at eg
        exact ⟨k, by omega, hk', ι4, h5, hlt, e14, rp4, hj, by rw [← hk']; exact eg⟩
      · rw [if_pos rfl]
        refine ⟨ι4, h4, σ', rs4.ext e4, rp4, ?_⟩
        rw [hfe]
        show Pv I ι4 H4 _ y0 h5
        intro ι5 H5 v e5 rp5 r5
        simp only at eg
        cases hs : isStop st y0 with
        | none => rw [hs] at eg; cases eg
        | some b =>
          rw [hs] at eg
          have htv := toV_of hs r5
          cases b with
          | true =>
            simp only [Option.some.injEq, Prod.mk.injEq] at eg
            obtain ⟨ed, es, eh⟩ := eg
            subst es eh
            have hjl : j < zs.length := by
              have := congrArg List.length ed
              simp at this
              omega
            have hz : zs[j]? = some y0 := by
              have := List.getElem?_drop (xs := zs) (i := j) (j := 0)
              rw [← ed] at this
              simpa using this.symm
            have hl : j + 1 = zs.length := by
              have := congrArg List.length ed
              simp at this
              omega
            refine ⟨by rw [hgl j hjl, hz, ← htv]; rfl, ?_⟩
            rw [if_pos ⟨rfl, by simpa using hl⟩]
            exact hF ι5 H5 (e14.trans e5) rp5
          | false =>
            cases hrest : genW st (turnW g own fc fe σc) (.fix xs) k (i + 1) h5 with
            | none => simp only [hrest] at eg; cases eg
            | some p =>
              obtain ⟨ys, s', hh⟩ := p
              simp only [hrest, Option.some.injEq, Prod.mk.injEq] at eg
              obtain ⟨ed, rfl, rfl⟩ := eg
              have hjl : j < zs.length := by
                have := congrArg List.length ed
                simp at this
                omega
              have hz : zs[j]? = some y0 := by
                have := List.getElem?_drop (xs := zs) (i := j) (j := 0)
                rw [← ed] at this
                simpa using this.symm
              have hys : zs.drop (j + 1) = ys := by
                have := List.drop_drop (i := 1) (j := j) (l := zs)
                rw [← ed] at this
                simpa [Nat.add_comm] using this.symm
              refine ⟨by rw [hgl j hjl, hz, ← htv]; rfl, ?_⟩
              rw [if_neg fun z => ?_]
              · exact ⟨k, by omega, hk', ι5, h5, hlt, e14.trans e5, rp5, hjl, by rw [← hk', hys]; exact hrest⟩
              · have h1 := (genW_is hrest).2 z.1
                have h2 : j + 1 = zs.length := by simpa using z.2
                rw [← hys, List.length_drop] at h1
                omega
  · have hi2 : i = xs.length := by omega
    have hx : (Wk.fix xs).get h2 i = some none := by simp [Wk.get, hi2]
    rw [hi2, Nat.sub_self] at eg
    rw [hi2] at hx
    simp only [genW, hx, Option.some.injEq, Prod.mk.injEq] at eg
    obtain ⟨ed, rfl, rfl⟩ := eg
    refine .inl ⟨by rw [← hi2] at hx; exact hj2 hx, ?_, rfl, hF ι2 H2 e2 rp2⟩
    have := congrArg List.length ed
    simp at this
    simp
    omega
end
end Z
namespace Z
open PySem PySem.Spec L2
section
variable {X : Cx} {I : Inf} {B : Tb} {Wx : XK} {σc : Env}
/-- the second clause's walk -/
def tJ (I : Inf) (f : Env → EH → T Wk) (Wx : XK) : TI := fun σ H R => ∃ ι h σc, RS I ι H σc σ ∧ Rep I ι h H ∧ (f σc h).All (fun wk h' => ∀ ι' H' J, Ext ι H ι' H' → Rep I ι' h' H' → JAt I ι' H' wk J → R J H') (Px I ι H Wx)
theorem turnO_ok {st : Option Bool} {g : G} {own : List Nat} {fc : Env → EH → T Bool} {fi : Env → EH → T Wk} {fe : Env → W → EH → T (Option W)} {x : W} {h h' : EH} {o : Option (List W × Bool)} (e : turnO st g own fc fi fe σc x h = some (o, h')) :
    ∃ σ' k h1, store g x (wipeE σc own) = some σ' ∧ fc σ' h = .ok k h1 ∧ ((k = false ∧ o = none ∧ h' = h1) ∨ (k = true ∧ ∃ wk h2 ys s, fi σ' h1 = .ok wk h2 ∧ genW st (fe σ') wk (wk.len h2) 0 h2 = some (ys, s, h') ∧ o = some (ys, s))) := by
  unfold turnO at e
  split at e
  · cases e
  · rename_i σ' hs
    split at e
    · cases e
    · rename_i h1 e1
      cases e
      exact ⟨σ', false, _, hs, okO_is e1, .inl ⟨rfl, rfl, rfl⟩⟩
    · rename_i h1 e1
      split at e
      · cases e
      · rename_i wk h2 e2
        split at e
        · cases e
        · rename_i ys s h3 e3
          cases e
          exact ⟨σ', true, _, hs, okO_is e1, .inr ⟨rfl, wk, h2, ys, s, okO_is e2, e3, rfl⟩⟩
theorem genO_is {st : Option Bool} {g : G} {own : List Nat} {fc : Env → EH → T Bool} {fi : Env → EH → T Wk} {fe : Env → W → EH → T (Option W)} {wk : Wk} : ∀ {k i : Nat} {h h' : EH} {zs : List W} {s : Bool}, genO (turnO st g own fc fi fe σc) wk k i h = some (zs, s, h') → ZW st zs s ∧ (s = true → 0 < zs.length)
  | 0, i, h, h', zs, s, e => by
    simp only [genO] at e
    split at e
    · cases e; exact ⟨.nil, fun z => by cases z⟩
    · cases e
  | k + 1, i, h, h', zs, s, e => by
    simp only [genO] at e
    split at e
    · split at e
      · cases e
      · exact genO_is e
      · rename_i e1
        cases e
        obtain ⟨σ', kk, h1, _, _, hr⟩ := turnO_ok e1
        rcases hr with ⟨_, z, _⟩ | ⟨_, wk', h2, ys, s, _, e3, z⟩
        · cases z
        · cases z
          exact genW_is e3
      · rename_i e1
        obtain ⟨σ', kk, h1, _, _, hr⟩ := turnO_ok e1
        rcases hr with ⟨_, z, _⟩ | ⟨_, wk', h2, ys, s', _, e3, z⟩
        · cases z
        · cases z
          split at e
          · cases e
          · rename_i zs' s2 h3 e4
            cases e
            obtain ⟨q1, q2⟩ := genW_is e3
            obtain ⟨q3, q4⟩ := genO_is e4
            exact ⟨q1.app q3 q4, fun z => by have := q4 z; rw [List.length_append]; omega⟩
    · cases e
/-- the second clause, from the place j0 of all that is handed out -/
theorem genI_read {g : G} {gt : TG} {own : List Nat} {fc : Env → EH → T Bool} {fe : Env → EH → T W} (hg : GOk I g gt) (ho : gIn g own = true) {σ : L2.St} {st : Option Bool} {wk : Wk} {n j0 : Nat} {J : It} {ι1 : Pl} {h1 h' : EH} {H1 : Hp} {zs ys rest : List W} {s stop : Bool} {Fin : Hp → Prop} {Nx : Nat → Hp → Prop}
    (hJ : JAt I ι1 H1 wk J) (rs : RS I ι1 H1 σc σ) (rp : Rep I ι1 h1 H1) (e : genW st (turnW g own fc fe σc) wk n 0 h1 = some (ys, s, h'))
    (hz : zs.drop j0 = ys ++ rest) (hj0 : j0 ≤ zs.length) (h1s : s = true → rest = [] ∧ stop = true) (h0s : s = false → stop = true → rest ≠ [])
    (hF : s = true → ∀ ι' H', Ext ι1 H1 ι' H' → Rep I ι' h' H' → Fin H') (hN : s = false → ∀ ι' H', Ext ι1 H1 ι' H' → Rep I ι' h' H' → Nx (j0 + ys.length) H') :
    ∃ Wr : Nat → Nat → Nat → Hp → Prop, (∃ m, Wr 0 m j0 H1) ∧ ZG.TurnsI (zs.map toV) stop Fin J gt (tB I fc noX) (tE I fe noX) own σ Nx Wr := by
  have hlen : zs.length = j0 + ys.length + rest.length := by
    have := congrArg List.length hz
    rw [List.length_drop, List.length_append] at this
    omega
  refine ⟨fun i m j H2 => m = n - i ∧ ∃ ι2 h2 d, i ≤ n ∧ Ext ι1 H1 ι2 H2 ∧ Rep I ι2 h2 H2 ∧ j = j0 + d ∧ d ≤ ys.length ∧ genW st (turnW g own fc fe σc) wk (n - i) i h2 = some (ys.drop d, s, h'), ⟨n, by simp, ι1, h1, 0, Nat.zero_le _, Ext.refl, rp, rfl, Nat.zero_le _, by simpa using e⟩, ?_⟩
  rintro i m j H2 ⟨rfl, ι2, h2, d, hi, e2, rp2, rfl, hd, eg⟩
  obtain ⟨hj1, hj2⟩ := hJ ι2 H2 h2 e2.mo rp2 i
  by_cases hlt : i < n
  · obtain ⟨k, hk⟩ : ∃ k, n - i = k + 1 := ⟨n - i - 1, by omega⟩
    have hk' : k = n - (i + 1) := by omega
    rw [hk] at eg
    simp only [genW] at eg
    split at eg
    · rename_i x0 hx
      obtain ⟨hgo, hy⟩ := hj1 _ hx
      refine .inr ⟨hgo, fun x H3 y => ?_⟩
      obtain ⟨e3, rp3, rx⟩ := hy x H3 y
      have rs3 : RS I ι2 H3 (wipeE σc own) (wipe σ own) := ((rs.ext e2).ext e3).wipe own
      cases ht : okO (turnW g own fc fe σc x0 h2) with
      | none => rw [ht] at eg; cases eg
      | some p =>
        obtain ⟨o, h5⟩ := p
        rw [ht] at eg
        obtain ⟨σ', kk, h4, hst, hc, hr⟩ := turnW_ok (okO_is ht)
        obtain ⟨τ, rs4, hwp, hq⟩ := hg ι2 H3 _ _ _ _ _ rs3 rx hst
        refine hq _ ⟨(hwp own ho).trans (wipe_wipe own fun _ z => z), ?_⟩
        refine ⟨ι2, h2, σ', rs4, rp3, ?_⟩
        rw [hc]
        show Pb I ι2 H3 _ kk h4
        intro ι4 H4 e4 rp4
        have e14 : Ext ι1 H1 ι4 H4 := (e2.trans e3).trans e4
        rcases hr with ⟨rfl, rfl, rfl⟩ | ⟨rfl, y0, rfl, hfe⟩
        · rw [if_neg Bool.false_ne_true]
          simp only at eg
          exact ⟨k, by omega, hk', ι4, h5, d, hlt, e14, rp4, rfl, hd, by rw [← hk']; exact eg⟩
        · rw [if_pos rfl]
          refine ⟨ι4, h4, σ', rs4.ext e4, rp4, ?_⟩
          rw [hfe]
          show Pv I ι4 H4 _ y0 h5
          intro ι5 H5 v e5 rp5 r5
          simp only at eg
          have put : ∀ {r : List W}, ys.drop d = y0 :: r → d < ys.length ∧ (zs.map toV)[j0 + d]? = some (toV y0) ∧ ys.drop (d + 1) = r := fun {r} ed => by
            have hdl : d < ys.length := by
              have := congrArg List.length ed
              simp at this
              omega
            refine ⟨hdl, ?_, ?_⟩
            · have hy : ys[d]? = some y0 := by
                have := List.getElem?_drop (xs := ys) (i := d) (j := 0)
                rw [ed] at this
                simpa using this.symm
              have h2 : (zs.drop j0)[d]? = some y0 := by rw [hz, List.getElem?_append_left hdl]; exact hy
              rw [List.getElem?_drop] at h2
              rw [List.getElem?_map, h2]
              rfl
            · have := List.drop_drop (i := 1) (j := d) (l := ys)
              rw [ed] at this
              simpa [Nat.add_comm] using this.symm
          cases hs : isStop st y0 with
          | none => rw [hs] at eg; cases eg
          | some b =>
            rw [hs] at eg
            have htv := toV_of hs r5
            cases b with
            | true =>
              simp only [Option.some.injEq, Prod.mk.injEq] at eg
              obtain ⟨ed, es, eh⟩ := eg
              subst es eh
              obtain ⟨hdl, hz2, hd1⟩ := put ed.symm
              obtain ⟨hr0, hstop⟩ := h1s rfl
              refine ⟨by rw [hz2, htv], ?_⟩
              have hl1 : j0 + d + 1 = zs.length := by
                have := congrArg List.length hd1
                have h3 : rest.length = 0 := by rw [hr0]; rfl
                simp at this
                omega
              rw [if_pos ⟨hstop, by simpa using hl1⟩]
              exact hF rfl ι5 H5 (e14.trans e5) rp5
            | false =>
              cases hrest : genW st (turnW g own fc fe σc) wk k (i + 1) h5 with
              | none => simp only [hrest] at eg; cases eg
              | some p =>
                obtain ⟨rs', s', hh⟩ := p
                simp only [hrest, Option.some.injEq, Prod.mk.injEq] at eg
                obtain ⟨ed, rfl, rfl⟩ := eg
                obtain ⟨hdl, hz2, hd1⟩ := put ed.symm
                refine ⟨by rw [hz2, htv], ?_⟩
                rw [if_neg fun z => ?_]
                · exact ⟨k, by omega, hk', ι5, h5, d + 1, hlt, e14.trans e5, rp5, rfl, hdl, by rw [← hk', hd1]; exact hrest⟩
                · have h2 : j0 + d + 1 = zs.length := by simpa using z.2
                  cases s' with
                  | true =>
                    have h1 := (genW_is hrest).2 rfl
                    rw [← hd1, List.length_drop] at h1
                    omega
                  | false =>
                    have := h0s rfl z.1
                    have : rest.length ≠ 0 := fun z => this (List.eq_nil_of_length_eq_zero z)
                    omega
    · cases eg
  · have hi2 : i = n := by omega
    rw [hi2, Nat.sub_self] at eg
    simp only [genW] at eg
    split at eg
    · rename_i hx
      simp only [Option.some.injEq, Prod.mk.injEq] at eg
      obtain ⟨ed, rfl, rfl⟩ := eg
      have hdl : d = ys.length := by
        have := congrArg List.length ed
        simp at this
        omega
      subst hdl
      exact .inl ⟨by rw [hi2] at hj2 ⊢; exact hj2 hx, hN rfl ι2 H2 e2 rp2⟩
    · cases eg
theorem gen2_read {g g2 : G} {gt gt2 : TG} {own own2 : List Nat} {fc fc2 : Env → EH → T Bool} {fi : Env → EH → T Wk} {fe : Env → EH → T W} (hg : GOk I g gt) (ho : gIn g own = true) (hg2 : GOk I g2 gt2) (ho2 : gIn g2 own2 = true) {σ : L2.St} {st : Option Bool} {xs : List W} {J : It} {ι1 : Pl} {h1 h' : EH} {H1 : Hp} {zs : List W} {s : Bool} {Fin : Hp → Prop}
    (hJ : JAt I ι1 H1 (.fix xs) J) (rs : RS I ι1 H1 σc σ) (rp : Rep I ι1 h1 H1) (e : genO (turnO st g own fc fi (fun σ x h => turnW g2 own2 fc2 fe σ x h) σc) (.fix xs) xs.length 0 h1 = some (zs, s, h'))
    (hF : ∀ ι' H', Ext ι1 H1 ι' H' → Rep I ι' h' H' → Fin H') :
    ∃ Wr : Nat → Nat → Nat → Hp → Prop, (∃ m, Wr 0 m 0 H1) ∧ ZG.Turns2 (zs.map toV) s Fin J gt (tB I fc noX) (tJ I fi noX) gt2 (tB I fc2 noX) (tE I fe noX) own own2 σ Wr := by
  refine ⟨fun i m j H2 => m = xs.length - i ∧ ∃ ι2 h2, i ≤ xs.length ∧ Ext ι1 H1 ι2 H2 ∧ Rep I ι2 h2 H2 ∧ j ≤ zs.length ∧ genO (turnO st g own fc fi (fun σ x h => turnW g2 own2 fc2 fe σ x h) σc) (.fix xs) (xs.length - i) i h2 = some (zs.drop j, s, h'), ⟨xs.length, by simp, ι1, h1, Nat.zero_le _, Ext.refl, rp, Nat.zero_le _, by simpa using e⟩, ?_⟩
  rintro i m j H2 ⟨rfl, ι2, h2, hi, e2, rp2, hj, eg⟩
  obtain ⟨hj1, hj2⟩ := hJ ι2 H2 h2 e2.mo rp2 i
  by_cases hlt : i < xs.length
  · have hx : (Wk.fix xs).get h2 i = some (some xs[i]) := by simp [Wk.get, hlt]
    obtain ⟨hgo, hy⟩ := hj1 _ hx
    obtain ⟨k, hk⟩ : ∃ k, xs.length - i = k + 1 := ⟨xs.length - i - 1, by omega⟩
    have hk' : k = xs.length - (i + 1) := by omega
    rw [hk] at eg
    simp only [genO, hx] at eg
    refine .inr ⟨hgo, fun x H3 y => ?_⟩
    obtain ⟨e3, rp3, rx⟩ := hy x H3 y
    have rs3 : RS I ι2 H3 (wipeE σc own) (wipe σ own) := ((rs.ext e2).ext e3).wipe own
    cases ht : turnO st g own fc fi (fun σ x h => turnW g2 own2 fc2 fe σ x h) σc xs[i] h2 with
    | none => rw [ht] at eg; cases eg
    | some p =>
      obtain ⟨o, h5⟩ := p
      rw [ht] at eg
      obtain ⟨σ', kk, h4, hst, hc, hr⟩ := turnO_ok ht
      obtain ⟨τ, rs4, hwp, hq⟩ := hg ι2 H3 _ _ _ _ _ rs3 rx hst
      refine hq _ ⟨(hwp own ho).trans (wipe_wipe own fun _ z => z), ?_⟩
      refine ⟨ι2, h2, σ', rs4, rp3, ?_⟩
      rw [hc]
      show Pb I ι2 H3 _ kk h4
      intro ι4 H4 e4 rp4
      have e14 : Ext ι1 H1 ι4 H4 := (e2.trans e3).trans e4
      rcases hr with ⟨rfl, rfl, rfl⟩ | ⟨rfl, wk, h6, ys, sy, hfi, hgw, rfl⟩
      · rw [if_neg Bool.false_ne_true]
        simp only at eg
        exact ⟨k, by omega, hk', ι4, h5, hlt, e14, rp4, hj, by rw [← hk']; exact eg⟩
      · rw [if_pos rfl]
        refine ⟨ι4, h4, σ', rs4.ext e4, rp4, ?_⟩
        rw [hfi]
        show ∀ ι' H' J, _
        intro ι5 H5 J1 e5 rp5 hJ1
        cases sy with
        | true =>
          simp only [Option.some.injEq, Prod.mk.injEq] at eg
          obtain ⟨ed, rfl, rfl⟩ := eg
          exact genI_read hg2 ho2 hJ1 ((rs4.ext e4).ext e5) rp5 hgw (zs := zs) (rest := []) (by rw [List.append_nil]; exact ed.symm) hj (fun _ => ⟨rfl, rfl⟩) (fun z => by cases z) (fun _ ι' H' e' rp' => hF ι' H' ((e14.trans e5).trans e') rp') (fun z => by cases z)
        | false =>
          cases hrest : genO (turnO st g own fc fi (fun σ x h => turnW g2 own2 fc2 fe σ x h) σc) (.fix xs) k (i + 1) h5 with
          | none => simp only [hrest] at eg; cases eg
          | some p =>
            obtain ⟨rest, s', hh⟩ := p
            simp only [hrest, Option.some.injEq, Prod.mk.injEq] at eg
            obtain ⟨ed, rfl, rfl⟩ := eg
            refine genI_read hg2 ho2 hJ1 ((rs4.ext e4).ext e5) rp5 hgw (zs := zs) (rest := rest) ed.symm hj (fun z => by cases z) (fun _ z h0 => ?_) (fun z => by cases z) (fun _ ι' H' e' rp' => ?_)
            · have := (genO_is hrest).2 z
              rw [h0] at this
              cases this
            · refine ⟨k, by omega, hk', ι', h5, hlt, (e14.trans e5).trans e', rp', ?_, ?_⟩
              · have := congrArg List.length ed
                rw [List.length_drop, List.length_append] at this
                omega
              · rw [← hk', hrest]
                congr 2
                rw [← List.drop_drop, ← ed, List.drop_left]
  · have hi2 : i = xs.length := by omega
    have hx : (Wk.fix xs).get h2 i = some none := by simp [Wk.get, hi2]
    rw [hi2, Nat.sub_self] at eg
    rw [hi2] at hx
    simp only [genO, hx, Option.some.injEq, Prod.mk.injEq] at eg
    obtain ⟨ed, rfl, rfl⟩ := eg
    refine .inl ⟨by rw [← hi2] at hx; exact hj2 hx, ?_, rfl, hF ι2 H2 e2 rp2⟩
    have := congrArg List.length ed
    simp at this
    simp
    omega
end
end Z
namespace Z
open PySem PySem.Spec L2
def Kk (k : GK) (Q : VK) : List V → Bool → Hp → Prop := match k with
  | .any => fun _ stop H' => Q (.bl stop) H'
  | .all => fun _ stop H' => Q (.bl (!stop)) H'
  | .sum => fun zs _ H' => ∀ ns : List Int, zs = ns.map V.int → Q (.int ns.sum) H'
def Zk (k : GK) : List V → Bool → Prop := match k with
  | .any => ZG.ZB true
  | .all => ZG.ZB false
  | .sum => fun zs stop => stop = false ∧ ∃ ns : List Int, zs = ns.map V.int
def tK (k : GK) (P : Addr) (wi : TI) (Rd : ZG.TRd) : TE := fun σ H Q => ZG.tGenG P wi (Rd (Kk k Q) σ) (Zk k) σ H
theorem toV_bls : ∀ bs : List Bool, (bs.map W.bl).map toV = bs.map V.bl
  | [] => rfl
  | b :: bs => by simp [toV, toV_bls bs]
theorem toV_ints : ∀ bs : List Int, (bs.map W.int).map toV = bs.map V.int
  | [] => rfl
  | b :: bs => by simp [toV, toV_ints bs]
theorem Zk_of {k : GK} {zs : List W} {s : Bool} (q : ZW k.st zs s) : Zk k (zs.map toV) s := by
  cases k with
  | any =>
    obtain ⟨bs, rfl, hb⟩ := q
    exact ⟨bs, toV_bls bs, hb⟩
  | all =>
    obtain ⟨bs, rfl, hb⟩ := q
    exact ⟨bs, toV_bls bs, hb⟩
  | sum =>
    obtain ⟨rfl, ns, rfl⟩ := q
    exact ⟨rfl, ns, toV_ints ns⟩
theorem map_int_inj : ∀ {a b : List Int}, a.map V.int = b.map V.int → a = b
  | [], [], _ => rfl
  | [], _ :: _, e => by cases e
  | _ :: _, [], e => by cases e
  | x :: a, y :: b, e => by
    rw [List.map_cons, List.map_cons] at e
    injection e with e1 e2
    injection e1 with e1
    rw [e1, map_int_inj e2]
section
variable {X : Cx} {I : Inf} {B : Tb} {Wx : XK} {σc : Env} {p pos gpos : Pos}
theorem Kk_of {k : GK} {zs : List W} {s : Bool} {h : EH} {ι : Pl} {H : Hp} {Q : VK} (q : ZW k.st zs s) (z : Pv I ι H Q (genF k zs s) h) : ∀ ι' H', Ext ι H ι' H' → Rep I ι' h H' → Kk k Q (zs.map toV) s H' := fun ι' H' e rp => by
  cases k with
  | any => exact z ι' H' _ e rp (.bl s)
  | all => exact z ι' H' _ e rp (.bl (!s))
  | sum =>
    obtain ⟨rfl, ns, rfl⟩ := q
    intro ms em
    rw [toV_ints] at em
    have := map_int_inj em
    subst this
    have z2 : Pv I ι H Q (.int (sumW (ns.map W.int))) h := z
    rw [sumW_int] at z2
    exact z2 ι' H' _ e rp (.int _)
/-- from the evaluator's walk to the layer's reading -/
theorem gen_core {k : GK} {t : Nat} {P : Addr} (ht : I.tb[t]? = some P) {fi : Env → EH → T (List W × Lk)} {go : Env → List W → EH → Option (List W × Bool × EH)} {Rd : ZG.TRd}
    (hz : ∀ {σ xs h zs s h'}, go σ xs h = some (zs, s, h') → ZW k.st zs s ∧ (s = true → 0 < zs.length))
    (hR : ∀ {σ : L2.St} {σc : Env} {xs : List W} {J : It} {ι1 : Pl} {h1 h' : EH} {H1 : Hp} {zs : List W} {s : Bool} {K : List V → Bool → Hp → Prop}, JAt I ι1 H1 (.fix xs) J → RS I ι1 H1 σc σ → Rep I ι1 h1 H1 → go σc xs h1 = some (zs, s, h') →
      (∀ ι' H', Ext ι1 H1 ι' H' → Rep I ι' h' H' → K (zs.map toV) s H') → Rd K σ J H1 (zs.map toV) s)
    {σ : L2.St} {H : Hp} {Q : VK} (q : tE I (fun σ h => (fi σ h).bind fun p h => if isTbl h t then genR k (go σ p.1 h) else .fail) Wx σ H Q) : tK k P (tI I fi Wx) Rd σ H Q := by
  obtain ⟨ι, h, σc, rs, rp, q⟩ := q
  refine ⟨ι, h, σc, rs, rp, (T.All.bind q).mono (fun pp h1 q1 ι1 H1 J e1 rp1 hJ => ?_) fun _ _ z => z⟩
  split at q1
  · rename_i hi
    cases hg : go σc pp.1 h1 with
    | none => rw [hg] at q1; exact q1.elim
    | some r =>
      obtain ⟨zs, s, h'⟩ := r
      rw [hg] at q1
      have q1 : Pv I ι H Q (genF k zs s) h' := q1
      obtain ⟨z1, z2⟩ := hz hg
      have hown := rp1.tb t P ht
      have hx : h1[t]? = some .tbl := by
        unfold isTbl at hi
        split at hi
        · assumption
        · cases hi
      obtain ⟨ps, hP, hT⟩ := rp1.at hown hx
      refine ⟨⟨ps, hP, hT⟩, fun ps' hT' => ⟨zs.map toV, s, Zk_of z1, fun z => by rw [List.length_map]; exact z2 z, ?_⟩⟩
      have nf : ∀ o u, H1 P ≠ some (.frz o u) := fun o u z => by rw [hP] at z; cases z
      have e2 : Ext ι1 H1 ι1 (upd H1 P (.tbl ps')) := Ext.chg hown nf
      have rp2 : Rep I ι1 h1 (upd H1 P (.tbl ps')) := by
        have := rp1.chg (eo := .tbl) hown nf ⟨ps', upd_same, hT'⟩
        rwa [set_same' hx] at this
      exact hR (hJ.mo e2.mo).at ((rs.ext e1).ext e2) rp2 hg fun ι' H' e3 rp3 => Kk_of z1 q1 ι' H' ((e1.trans e2).trans e3) rp3
  · exact q1.elim
where
  set_same' {α : Type} : ∀ {h : List α} {a : Nat} {x : α}, h[a]? = some x → h.set a x = h
  | [], _, _, e => by simp at e
  | y :: h, 0, x, e => by simp at e; simp [e]
  | y :: h, a + 1, x, e => by
    simp only [List.set_cons_succ]
    rw [set_same' (by simpa using e)]
theorem genFold_of {iter : Expr} (h : genFC iter = true) (hF : ∀ y, foldedSetIterable iter X.env y = pure y) (x : Value) : genFold iter X.env x = pure x := by
  cases iter <;> first | exact hF x | cases h
/-- what any, all, sum ask -/
structure GTop (B : Tb) (I : Inf) (X : Cx) (t : Nat) (c P : Addr) : Prop where
  code : ZG.GCode X c P
  tb : I.tb[t]? = some P
theorem pe_gk {k : GK} {j : Nat} {x : Str} {c P : Addr} {elt tg iter : Expr} {ifs : List Expr} {rest : List Comprehension} {scope : Scope} {own : List (Str × Nat)} {wi : TI} {Rd : ZG.TRd} {Bd : Cx → Prop} (C : Cs B I X) (hn : isB B X.env.scope k.nm x = true) (hr : Room j X.A) (GC : ZG.GCode X c P) (hi : PI X tg iter wi) (G : ZG.GScp X.N X.env.scope scope own)
    (hb : ∀ (s : Shared) (H : Hp) (C : Addr) (code : Value) (fp : List Addr) (pn : List (Addr × Obj)), Bd (ZG.gCx X (ZG.gAr X (ZG.gEnv X scope C code)) s H scope C code fp pn))
    (hL : ∀ σ K, ZG.LoopOk X σ (.GeneratorExp elt (⟨tg, iter, ifs, 0⟩ :: rest) scope gpos) tg Bd (Rd K σ) K scope (own.map (·.2)))
    (hs : ∀ x, genFold iter X.env x = pure x) :
    PE X (.Call (.Name x p) [.GeneratorExp elt (⟨tg, iter, ifs, 0⟩ :: rest) scope gpos] [] pos) (tK k P wi Rd) := by
  obtain ⟨rfl, g, n⟩ := bn_of C hn
  cases k with
  | any => exact ZG.pe_any hr g n GC C.nd hi G hb hL hs
  | all => exact ZG.pe_all hr g n GC C.nd hi G hb hL hs
  | sum => exact ZG.pe_sum hr g n GC C.nd hi G hb hL hs
theorem gsc_of {N : List Str} {sc scope : Scope} {own : List Nat} (h : gscC N sc scope own = true) : ZG.GScp N sc scope (own.map fun i => ((N.getD i Str.empty : Str), i)) := by
  unfold gscC at h
  simp only [Bool.and_eq_true, Bool.not_eq_true', List.all_eq_true, decide_eq_true_eq] at h
  obtain ⟨⟨⟨h1, h2⟩, h3⟩, h4⟩ := h
  exact ⟨blkOk_by h1, h2, h3, h4⟩
theorem Cs.gcx (S : Cs B I X) (hu : X.A.units + 75 < cLine) (s : Shared) (H : Hp) (scope : Scope) (C : Addr) (code : Value) (fp : List Addr) (pn : List (Addr × Obj)) : Cs B I (ZG.gCx X (ZG.gAr X (ZG.gEnv X scope C code)) s H scope C code fp pn) :=
  ⟨S.K, rfl, S.nd, by show X.A.units + 5 + 65 < cLine; omega, S.fl, S.fnd, S.cls, S.blt⟩
theorem Fs.gcx {C : CallH} {M : MTab} {ini : Nat → Nat} {lv : Nat} {fn : Nat → Addr} {fd : Nat → FuncData} (F : Fs B I C M ini lv fn fd X) (hr : Room (lv + 2) X.A) (s : Shared) (H : Hp) (scope : Scope) (Cc : Addr) (code : Value) (fp : List Addr) (pn : List (Addr × Obj)) :
    Fs B I C M ini lv fn fd (ZG.gCx X (ZG.gAr X (ZG.gEnv X scope Cc code)) s H scope Cc code fp pn) :=
  ⟨⟨rfl, by have := hr.dp; show X.A.depth + 1 + 3 * (lv + 1) + 5 < _; omega, by have := hr.un; show X.A.units + 5 + 16 * (lv + 1) + 200 < _; omega⟩, F.no, F.ar, F.ok, F.kp, F.bd, F.gl, F.cl, F.mt⟩
/-- one clause -/
theorem s_gen1 {k : GK} {j t : Nat} {x : Str} {c P : Addr} {elt tg iter : Expr} {ifs : List Expr} {scope : Scope} {g : G} {own : List Nat} {fi : Env → EH → T (List W × Lk)} {fc : Env → EH → T Bool} {fe : Env → EH → T W} (C : Cs B I X) (hn : isB B X.env.scope k.nm x = true) (hr : Room j X.A) (GC : ZG.GCode X c P) (ht : I.tb[t]? = some P)
    (hi : PI X tg iter (tI I fi Wx)) (hG : gscC X.N X.env.scope scope own = true) (ho : gIn g own = true) (hs : ∀ x, genFold iter X.env x = pure x)
    (hg : ∀ (s : Shared) (H : Hp) (C : Addr) (code : Value) (fp : List Addr) (pn : List (Addr × Obj)), PG (ZG.gCx X (ZG.gAr X (ZG.gEnv X scope C code)) s H scope C code fp pn) tg (gtOf X.K g))
    (hc : ∀ (s : Shared) (H : Hp) (C : Addr) (code : Value) (fp : List Addr) (pn : List (Addr × Obj)), PTs (ZG.gCx X (ZG.gAr X (ZG.gEnv X scope C code)) s H scope C code fp pn) ifs (tB I fc noX))
    (he : ∀ (s : Shared) (H : Hp) (C : Addr) (code : Value) (fp : List Addr) (pn : List (Addr × Obj)), PE (ZG.gCx X (ZG.gAr X (ZG.gEnv X scope C code)) s H scope C code fp pn) elt (tE I fe noX)) :
    PE X (.Call (.Name x p) [.GeneratorExp elt [⟨tg, iter, ifs, 0⟩] scope gpos] [] pos) (tE I (fun σ h => (fi σ h).bind fun p h => if isTbl h t then genR k (genW k.st (turnW g own fc fe σ) (.fix p.1) p.1.length 0 h) else .fail) Wx) := by
  have G := gsc_of hG
  have body := pe_gk (p := p) (pos := pos) (gpos := gpos) (Rd := fun K σ => ZG.Rd1 (gtOf X.K g) (tB I fc noX) (tE I fe noX) own K σ) (Bd := fun X' => PG X' tg (gtOf X.K g) ∧ PTs X' ifs (tB I fc noX) ∧ PE X' elt (tE I fe noX)) C hn hr GC hi G (fun s H C code fp pn => ⟨hg s H C code fp pn, hc s H C code fp pn, he s H C code fp pn⟩)
    (fun σ K => by
      have := @ZG.loop1 X σ elt tg iter ifs scope gpos (gtOf X.K g) (tB I fc noX) (tE I fe noX) own K
      rw [own_snd']
      exact this) hs
  exact PE_imp body fun σ H Q q => gen_core (go := fun σ xs h => genW k.st (turnW g own fc fe σ) (.fix xs) xs.length 0 h) ht (fun e => genW_is e) (fun hJ rs rp e hF => gen1_read (gok X.K g) ho hJ rs rp e hF) q
where
  own_snd' {N : List Str} {own : List Nat} : (own.map fun i => ((N.getD i Str.empty : Str), i)).map (·.2) = own := by
    rw [List.map_map]
    exact List.map_id' own
theorem s_gen2 {k : GK} {j t : Nat} {x : Str} {c P : Addr} {elt tg iter tg1 iter1 : Expr} {ifs ifs1 : List Expr} {scope : Scope} {g g1 : G} {own own1 : List Nat} {fi : Env → EH → T (List W × Lk)} {fc fc1 : Env → EH → T Bool} {fi1 : Env → EH → T Wk} {fe : Env → EH → T W} (C : Cs B I X) (hn : isB B X.env.scope k.nm x = true) (hr : Room j X.A) (GC : ZG.GCode X c P) (ht : I.tb[t]? = some P)
    (hi : PI X tg iter (tI I fi Wx)) (hG : gscC X.N X.env.scope scope own = true) (ho : gIn g own = true) (ho1 : gIn g1 own1 = true) (hv : ∀ i ∈ own1, i ∈ own) (hs : ∀ x, genFold iter X.env x = pure x) (hs1 : ∀ env x, foldedSetIterable iter1 env x = pure x)
    (hg : ∀ (s : Shared) (H : Hp) (C : Addr) (code : Value) (fp : List Addr) (pn : List (Addr × Obj)), PG (ZG.gCx X (ZG.gAr X (ZG.gEnv X scope C code)) s H scope C code fp pn) tg (gtOf X.K g))
    (hc : ∀ (s : Shared) (H : Hp) (C : Addr) (code : Value) (fp : List Addr) (pn : List (Addr × Obj)), PTs (ZG.gCx X (ZG.gAr X (ZG.gEnv X scope C code)) s H scope C code fp pn) ifs (tB I fc noX))
    (hi1 : ∀ (s : Shared) (H : Hp) (C : Addr) (code : Value) (fp : List Addr) (pn : List (Addr × Obj)), PI (ZG.gCx X (ZG.gAr X (ZG.gEnv X scope C code)) s H scope C code fp pn) tg1 iter1 (tJ I fi1 noX))
    (hg1 : ∀ (s : Shared) (H : Hp) (C : Addr) (code : Value) (fp : List Addr) (pn : List (Addr × Obj)), PG (ZG.gCx X (ZG.gAr X (ZG.gEnv X scope C code)) s H scope C code fp pn) tg1 (gtOf X.K g1))
    (hc1 : ∀ (s : Shared) (H : Hp) (C : Addr) (code : Value) (fp : List Addr) (pn : List (Addr × Obj)), PTs (ZG.gCx X (ZG.gAr X (ZG.gEnv X scope C code)) s H scope C code fp pn) ifs1 (tB I fc1 noX))
    (he : ∀ (s : Shared) (H : Hp) (C : Addr) (code : Value) (fp : List Addr) (pn : List (Addr × Obj)), PE (ZG.gCx X (ZG.gAr X (ZG.gEnv X scope C code)) s H scope C code fp pn) elt (tE I fe noX)) :
    PE X (.Call (.Name x p) [.GeneratorExp elt [⟨tg, iter, ifs, 0⟩, ⟨tg1, iter1, ifs1, 0⟩] scope gpos] [] pos) (tE I (fun σ h => (fi σ h).bind fun p h => if isTbl h t then genR k (genO (turnO k.st g own fc fi1 (fun σ x h => turnW g1 own1 fc1 fe σ x h) σ) (.fix p.1) p.1.length 0 h) else .fail) Wx) := by
  have G := gsc_of hG
  have body := pe_gk (p := p) (pos := pos) (gpos := gpos) (Rd := fun K σ => ZG.Rd2 (gtOf X.K g) (tB I fc noX) (tJ I fi1 noX) (gtOf X.K g1) (tB I fc1 noX) (tE I fe noX) own own1 K σ) (Bd := fun X' => PG X' tg (gtOf X.K g) ∧ PTs X' ifs (tB I fc noX) ∧ PI X' tg1 iter1 (tJ I fi1 noX) ∧ PG X' tg1 (gtOf X.K g1) ∧ PTs X' ifs1 (tB I fc1 noX) ∧ PE X' elt (tE I fe noX)) C hn hr GC hi G
    (fun s H C code fp pn => ⟨hg s H C code fp pn, hc s H C code fp pn, hi1 s H C code fp pn, hg1 s H C code fp pn, hc1 s H C code fp pn, he s H C code fp pn⟩)
    (fun σ K => by
      have := @ZG.loop2 X σ elt tg iter tg1 iter1 ifs ifs1 scope gpos (gtOf X.K g) (gtOf X.K g1) (tB I fc noX) (tB I fc1 noX) (tJ I fi1 noX) (tE I fe noX) own own1 K hv hs1
      rw [s_gen1.own_snd']
      exact this) hs
  exact PE_imp body fun σ H Q q => gen_core (go := fun σ xs h => genO (turnO k.st g own fc fi1 (fun σ x h => turnW g1 own1 fc1 fe σ x h) σ) (.fix xs) xs.length 0 h) ht (fun e => genO_is e) (fun hJ rs rp e hF => gen2_read (gok X.K g) ho (gok X.K g1) ho1 hJ rs rp e hF) q
end
end Z
namespace Z
open PySem PySem.Spec L2
section
variable {X : Cx} {I : Inf} {B : Tb} {Wx : XK} {σc : Env} {a b : Expr} {fa fb : Env → EH → T W} {p pos : Pos}
/-! ### the second clause's walks -/
theorem jAt_place {ι : Pl} {H : Hp} {n : Nat} {p : Addr} (K : PySem.W.Frag) (hp : ι.own[n]? = some p) : JAt I ι H (.at n) (Itl K p) := fun ι2 H2 h2 m2 rp2 i => by
  have hp2 := m2.ix _ _ hp
  have ls : ∀ {xs : List W}, lsAt h2 n = some xs → ∃ vs, SqL K H2 p vs ∧ RWs I ι2 H2 xs vs := fun {xs} e => by
    unfold lsAt at e
    split at e
    · rename_i ys hy
      cases e
      obtain ⟨vs, g1, g2, _⟩ := rp2.at hp2 hy
      exact ⟨vs, .inl (.inl g1), g2⟩
    · rename_i ys hy
      cases e
      obtain ⟨o, vs, g1, g2, _⟩ := rp2.at hp2 hy
      exact ⟨vs, .inl (.inr ⟨o, g1⟩), g2⟩
    · cases e
  refine ⟨fun w hw => ?_, fun hw => ?_⟩
  · simp only [Wk.get] at hw
    split at hw
    · rename_i xs hx
      obtain ⟨vs, hs, rr⟩ := ls hx
      obtain ⟨v, hv, rv⟩ := rr.get (Option.some.inj hw)
      refine ⟨⟨vs, v, hs, hv⟩, fun x H3 y => ?_⟩
      obtain ⟨e, y⟩ := y
      subst e
      have := y vs hs
      rw [hv] at this
      cases this
      exact ⟨Ext.refl, rp2, rv⟩
    · cases hw
  · simp only [Wk.get] at hw
    split at hw
    · rename_i xs hx
      obtain ⟨vs, hs, rr⟩ := ls hx
      refine ⟨vs, hs, ?_⟩
      rw [← rr.length]
      simpa using hw
    · cases hw
theorem goJ {ι : Pl} {H : Hp} {h : EH} {σ : L2.St} {f : Env → EH → T W} {k : W → EH → T Wk} {R : It → Hp → Prop} (rs : RS I ι H σc σ) (rp : Rep I ι h H)
    (q : ((f σc h).bind k).All (fun p h' => ∀ ι' H' J, Ext ι H ι' H' → Rep I ι' h' H' → JAt I ι' H' p J → R J H') (Px I ι H Wx)) {Q : VK}
    (c : ∀ ι1 H1 h1 w v, Ext ι H ι1 H1 → RS I ι1 H1 σc σ → Rep I ι1 h1 H1 → RW I ι1 H1 w v → (k w h1).All (fun p h' => ∀ ι' H' J, Ext ι1 H1 ι' H' → Rep I ι' h' H' → JAt I ι' H' p J → R J H') (Px I ι1 H1 Wx) → Q v H1) : tE I f Wx σ H Q :=
  goE (P := fun ι H (p : Wk) h' => ∀ ι' H' J, Ext ι H ι' H' → Rep I ι' h' H' → JAt I ι' H' p J → R J H') (fun e z ι2 H2 J e2 => z ι2 H2 J (e.trans e2)) rs rp q c
theorem jw_seq {tg : Expr} (ha : PE X a (tE I fa Wx)) : PI X tg a (tJ I (fun σ h => (fa σ h).bind fun x h => match x with
    | .tup xs => .ok (.fix xs) h
    | .lst xs => .ok (.fix xs) h
    | _ => .fail) Wx) := by
  refine ⟨fun pins s σ H R J ⟨ι, h, σc, rs, rp, q⟩ => (pi_seq ha).run pins s σ H R J ?_⟩
  refine goJ rs rp q fun ι1 H1 h1 w1 v1 e1 rs1 rp1 r1 q1 => ?_
  cases r1 <;> first | exact q1.elim | skip
  · rename_i p ws vs hp hn rr l
    exact ⟨p, rfl, .inr ⟨⟨vs, .inl (.inl hp)⟩, q1 ι1 H1 _ Ext.refl rp1 (j_tup _ hp hn rr l).at⟩⟩
  · rename_i p ws vs hp hn rr l
    exact ⟨p, rfl, .inl ⟨⟨vs, .inl (.inl hp)⟩, q1 ι1 H1 _ Ext.refl rp1 (j_list _ (.inl ⟨hp, hn⟩) rr l).at⟩⟩
theorem jw_seqR {tg : Expr} (ha : PE X a (tE I fa Wx)) : PI X tg a (tJ I (fun σ h => (fa σ h).bind fun x h => match x with
    | .ref n => (match lsAt h n with
      | some _ => .ok (.at n) h
      | none => .fail)
    | _ => .fail) Wx) := by
  refine ⟨fun pins s σ H R J ⟨ι, h, σc, rs, rp, q⟩ => (pi_seq ha).run pins s σ H R J ?_⟩
  refine goJ rs rp q fun ι1 H1 h1 w1 v1 e1 rs1 rp1 r1 q1 => ?_
  cases r1 <;> first | exact q1.elim | skip
  rename_i n p hp
  simp only at q1
  split at q1
  · rename_i xs hx
    have : ∃ vs, SqL X.K H1 p vs := by
      unfold lsAt at hx
      split at hx
      · rename_i ys hy
        obtain ⟨vs, g1, _⟩ := rp1.at hp hy
        exact ⟨vs, .inl (.inl g1)⟩
      · rename_i ys hy
        obtain ⟨o, vs, g1, _⟩ := rp1.at hp hy
        exact ⟨vs, .inl (.inr ⟨o, g1⟩)⟩
      · cases hx
    exact ⟨p, rfl, .inl ⟨this, q1 ι1 H1 _ Ext.refl rp1 (jAt_place _ hp)⟩⟩
  · exact q1.elim
theorem jw_rng (C : Cs B I X) {tg : Expr} {x : Str} (hn : isB B X.env.scope "range" x = true) (hp : plain a = true) (ha : PE X a (tE I fa Wx)) : PI X tg (.Call (.Name x p) [a] [] pos) (tJ I (fun σ h => (fa σ h).bind fun x h => match x with
    | .int n => if n ≤ LIM ∧ -1000000 < n then .ok (.fix (rngW 0 n.toNat)) h else .fail
    | _ => .fail) Wx) := by
  obtain ⟨rfl, g, n⟩ := bn_of C hn
  refine ⟨fun pins s σ H R J ⟨ι, h, σc, rs, rp, q⟩ => (pi_range1 g n (a_cons (Wx := Wx) hp ha a_nil) (by rw [starE hp]; rfl)).run pins s σ H R J ?_⟩
  refine ⟨ι, h, σc, rs, rp, T.All.of_bind ((T.All.bind q).mono (fun w h1 q1 => ?_) fun _ _ z => z)⟩
  intro ι1 H1 vs e1 rp1 r1
  cases r1 with
  | cons r2 rr =>
    cases rr
    cases r2 <;> first | exact q1.elim | skip
    rename_i k
    simp only at q1
    split at q1
    · rename_i hk
      have hL : (LIM : Int) = 100000 := rfl
      exact ⟨k, rfl, by omega, by omega, q1 ι1 H1 _ e1 rp1 (j_rng (by omega)).at⟩
    · exact q1.elim
theorem jw_rng2 (C : Cs B I X) {tg : Expr} {x : Str} (hn : isB B X.env.scope "range" x = true) (hp : plain a = true) (hp2 : plain b = true) (ha : PE X a (tE I fa Wx)) (hb : PE X b (tE I fb Wx)) : PI X tg (.Call (.Name x p) [a, b] [] pos) (tJ I (fun σ h => (fa σ h).bind fun x h => (fb σ h).bind fun y h => match x, y with
    | .int i, .int n => if n - i ≤ LIM ∧ -1000000 < n ∧ -1000000 < i ∧ i < 1000000 ∧ n < 1000000 then .ok (.fix (rngW i (n - i).toNat)) h else .fail
    | _, _ => .fail) Wx) := by
  obtain ⟨rfl, g, n⟩ := bn_of C hn
  refine ⟨fun pins s σ H R J ⟨ι, h, σc, rs, rp, q⟩ => (pi_range2 g n (a_cons (Wx := Wx) hp ha (a_cons hp2 hb a_nil)) (by rw [starE hp, starE hp2]; rfl) (by rw [starE hp2]; rfl)).run pins s σ H R J ?_⟩
  refine ⟨ι, h, σc, rs, rp, T.All.of_bind ((T.All.bind q).mono (fun w h1 q1 => T.All.of_bind (T.All.of_bind ((T.All.bind q1).mono (fun w2 h2 q2 => ?_) fun _ _ z => z))) fun _ _ z => z)⟩
  intro ι1 H1 vs e1 rp1 r1
  cases r1 with
  | cons r2 rr =>
    cases rr with
    | cons r3 rr =>
      cases rr
      cases r2 <;> cases r3 <;> first | exact q2.elim | skip
      rename_i i k
      simp only at q2
      split at q2
      · rename_i hk
        have hL : (LIM : Int) = 100000 := rfl
        exact ⟨i, k, rfl, by omega, q2 ι1 H1 _ e1 rp1 (j_rng (by omega)).at⟩
      · exact q2.elim
/-! ### the comprehension -/
theorem comp2_read {g g1 : G} {gt gt1 : TG} {own own1 : List Nat} {fi : Env → EH → T (List W × Lk)} {fc fc1 : Env → EH → T Bool} {fi1 : Env → EH → T Wk} {fe : Env → EH → T W} (hg : GOk I g gt) (ho : gIn g own = true) (hg1 : GOk I g1 gt1) (ho1 : gIn g1 own1 = true) {σ : L2.St} {H : Hp} {Q : VK}
    (hw : tE I (fun σ h => (fi σ h).bind fun p h => (forO (turnC g own fc fi1 (fun σ x h => turnW g1 own1 fc1 fe σ x h) σ) p.1 [] h).nox.bind fun ys h => .ok (.lst ys) h) Wx σ H Q) : tLc2 (tI I fi Wx) gt (tB I fc noX) (tJ I fi1 noX) gt1 (tB I fc1 noX) (tE I fe noX) own own1 σ H Q := by
  obtain ⟨ι, h, σc, rs, rp, q⟩ := hw
  refine ⟨ι, h, σc, rs, rp, (T.All.bind q).mono (fun pp h1 q1 ι1 H1 J e1 rp1 hJ => ?_) fun _ _ z => z⟩
  intro D hD
  have q2 := T.All.of_nox ((T.All.bind q1).mono (X' := fun _ _ => True) (fun _ _ z => z) fun _ _ _ => trivial)
  obtain ⟨xs, lk⟩ := pp
  obtain ⟨hlen, hJ⟩ := hJ
  simp only at q2 hlen hJ
  have hDn1 : D ∉ ι1 := rp1.new hD
  -- what holds all along: the accumulator at D
  let A (H2 : Hp) (h2 : EH) (acc : List W) : Prop := ∃ ι2 vacc, Ext ι1 H1 ⟨ι2.own, ι1.res⟩ H2 ∧ ι2.res = D :: ι1.res ∧ D ∉ ι2.own ∧ Mo ι1 H1 ι2 H2 ∧ Rep I ι2 h2 H2 ∧ H2 D = some (.lst vacc) ∧ RWs I ι2 H2 acc vacc ∧ acc.length ≤ LIM
  let F (acc : List W) (l : List W) (h2 : EH) : Prop := (forO (turnC g own fc fi1 (fun σ x h => turnW g1 own1 fc1 fe σ x h) σc) l acc h2).All (fun ys h' => Pv I ι H Q (.lst ys) h') (fun _ _ => False)
  let St (i : Nat) (H2 : Hp) : Prop := ∃ h2 acc, i ≤ xs.length ∧ A H2 h2 acc ∧ F acc (xs.drop i) h2
  refine ⟨fun i m H2 => m = xs.length - i ∧ St i H2, ⟨xs.length, by simp, h1, [], Nat.zero_le _, ⟨ι1.apart D, [], (Ext.refl (ι := ι1)).chgNew hD, rfl, fun z => hDn1 (.inl z), Mo.apart hD, rp1.apart hD, upd_same, .nil, Nat.zero_le _⟩, q2⟩, ?_⟩
  rintro i m H2 ⟨rfl, h2, acc, hi, ⟨ι2, vacc, e2, hr2, hn2, m2, rp2, hD2, racc, hacc⟩, q3⟩
  obtain ⟨hj1, hj2⟩ := hJ ι2 H2 h2 m2 rp2 i
  by_cases hlt : i < xs.length
  · have hx : xs[i]? = some xs[i] := List.getElem?_eq_getElem hlt
    obtain ⟨hgo, hy⟩ := hj1 _ hx
    rw [List.drop_eq_getElem_cons hlt] at q3
    refine .inr ⟨hgo, St (i + 1), fun H' st => ⟨xs.length - (i + 1), by omega, rfl, st⟩, fun x H3 y => ?_⟩
    obtain ⟨e3, rp3, rx⟩ := hy x H3 y
    have m3 := m2.trans e3.mo
    have rs3 : RS I ι2 H3 (wipeE σc own) (wipe σ own) := ((rs.ext e1).mo m3).wipe own
    have q3 : (forO _ (xs[i] :: xs.drop (i + 1)) acc h2).All _ _ := q3
    simp only [forO] at q3
    have q4 := T.All.bind q3
    unfold turnC at q4
    cases hst : store g xs[i] (wipeE σc own) with
    | none => rw [hst] at q4; exact q4.elim
    | some σ' =>
      rw [hst] at q4
      obtain ⟨τ, rs4, hwp, hq⟩ := hg ι2 H3 _ _ _ _ _ rs3 rx hst
      have hD3 : H3 D = some (.lst vacc) := e3.keep _ _ hD2 hn2
      refine hq _ ⟨(hwp own ho).trans (wipe_wipe own fun _ z => z), ?_⟩
      refine ⟨ι2, h2, σ', rs4, rp3, ((T.All.bind q4).mono (X' := Px I ι2 H3 noX) (fun k h4 q5 => ?_) fun _ _ z => z.elim)⟩
      intro ι4 H4 e4 rp4
      have hD4 : H4 D = some (.lst vacc) := e4.keep _ _ hD3 hn2
      have hn4 : D ∉ ι4.own := e4.own_not hD3 hn2
      have m4 := m3.trans e4.mo
      have e14 : Ext ι1 H1 ⟨ι4.own, ι1.res⟩ H4 := e2.trans ((e3.trans e4).swap ι1.res)
      have racc4 : RWs I ι4 H4 acc vacc := (racc.ext e3).ext e4
      have hr4 : ι4.res = D :: ι1.res := e4.rs.trans hr2
      cases k with
      | false =>
        rw [if_neg Bool.false_ne_true] at q5 ⊢
        exact ⟨h4, acc, hlt, ⟨ι4, vacc, e14, hr4, hn4, m4, rp4, hD4, racc4, hacc⟩, q5⟩
      | true =>
        rw [if_pos rfl] at q5 ⊢
        refine ⟨ι4, h4, σ', rs4.ext e4, rp4, ((T.All.bind q5).mono (X' := Px I ι4 H4 noX) (fun wk h5 q6 => ?_) fun _ _ z => z.elim)⟩
        intro ι5 H5 J1 e5 rp5 hJ1
        have hD5 : H5 D = some (.lst vacc) := e5.keep _ _ hD4 hn4
        have hn5 : D ∉ ι5.own := e5.own_not hD4 hn4
        have hr5 : ι5.res = D :: ι1.res := e5.rs.trans hr4
        have m45 := m4.trans e5.mo
        have e15 : Ext ι1 H1 ⟨ι5.own, ι1.res⟩ H5 := e14.trans (e5.swap ι1.res)
        have racc5 : RWs I ι5 H5 acc vacc := racc4.ext e5
        have rs5 : RS I ι5 H5 σ' τ := (rs4.ext e4).ext e5
        generalize hn : wk.len h5 = n at q6
        -- the inner loop
        let St1 (j : Nat) (H6 : Hp) : Prop := ∃ h6 acc, j ≤ n ∧ (∃ ι6 vacc, Ext ι1 H1 ⟨ι6.own, ι1.res⟩ H6 ∧ ι6.res = D :: ι1.res ∧ D ∉ ι6.own ∧ Mo ι1 H1 ι6 H6 ∧ Mo ι5 H5 ι6 H6 ∧ Rep I ι6 h6 H6 ∧ H6 D = some (.lst vacc) ∧ RWs I ι6 H6 acc vacc ∧ acc.length ≤ LIM) ∧
          (forW (turnW g1 own1 fc1 fe σ') wk (n - j) j acc h6).All (fun acc h' => F acc (xs.drop (i + 1)) h') (fun _ _ => False)
        refine ⟨fun j k H6 => k = n - j ∧ St1 j H6, ⟨n, by simp, h5, acc, Nat.zero_le _, ⟨ι5, vacc, e15, hr5, hn5, m45, Mo.refl, rp5, hD5, racc5, hacc⟩, q6⟩, ?_⟩
        rintro j k H6 ⟨rfl, h6, acc, hj, ⟨ι6, vacc, e6, hr6, hn6, m6, m56, rp6, hD6, racc6, hacc6⟩, q7⟩
        obtain ⟨gj1, gj2⟩ := hJ1 ι6 H6 h6 m56 rp6 j
        by_cases hjn : j < n
        · obtain ⟨k, hk⟩ : ∃ k, n - j = k + 1 := ⟨n - j - 1, by omega⟩
          have hk' : k = n - (j + 1) := by omega
          rw [hk] at q7
          simp only [forW] at q7
          split at q7
          · rename_i x0 hx0
            obtain ⟨hgo1, hy1⟩ := gj1 _ hx0
            refine .inr ⟨hgo1, St1 (j + 1), fun H' st => ⟨n - (j + 1), by omega, rfl, st⟩, fun x H7 y => ?_⟩
            obtain ⟨e7, rp7, rx7⟩ := hy1 x H7 y
            have rs7 : RS I ι6 H7 (wipeE σ' own1) (wipe τ own1) := ((rs5.mo m56).ext e7).wipe own1
            have q8 := T.All.bind q7
            unfold turnW at q8
            cases hst1 : store g1 x0 (wipeE σ' own1) with
            | none => rw [hst1] at q8; exact q8.elim
            | some σ'' =>
              rw [hst1] at q8
              obtain ⟨τ1, rs8, hwp1, hq1⟩ := hg1 ι6 H7 _ _ _ _ _ rs7 rx7 hst1
              have hD7 : H7 D = some (.lst vacc) := e7.keep _ _ hD6 hn6
              refine hq1 _ ⟨(hwp1 own1 ho1).trans (wipe_wipe own1 fun _ z => z), ?_⟩
              refine ⟨ι6, h6, σ'', rs8, rp7, ((T.All.bind q8).mono (X' := Px I ι6 H7 noX) (fun kk h8 q9 => ?_) fun _ _ z => z.elim)⟩
              intro ι8 H8 e8 rp8
              have hD8 : H8 D = some (.lst vacc) := e8.keep _ _ hD7 hn6
              have hn8 : D ∉ ι8.own := e8.own_not hD7 hn6
              have hr8 : ι8.res = D :: ι1.res := e8.rs.trans hr6
              have m8 := (m6.trans e7.mo).trans e8.mo
              have m58 := (m56.trans e7.mo).trans e8.mo
              have e18 : Ext ι1 H1 ⟨ι8.own, ι1.res⟩ H8 := e6.trans ((e7.trans e8).swap ι1.res)
              have racc8 : RWs I ι8 H8 acc vacc := (racc6.ext e7).ext e8
              cases kk with
              | false =>
                rw [if_neg Bool.false_ne_true] at q9 ⊢
                exact ⟨h8, acc, hjn, ⟨ι8, vacc, e18, hr8, hn8, m8, m58, rp8, hD8, racc8, hacc6⟩, by rw [← hk']; exact q9⟩
              | true =>
                rw [if_pos rfl] at q9 ⊢
                refine ⟨ι8, h8, σ'', rs8.ext e8, rp8, ((T.All.bind q9).mono (X' := Px I ι8 H8 noX) (fun w h9 q10 => ?_) fun _ _ z => z.elim)⟩
                intro ι9 H9 v e9 rp9 r9
                have q10 : (if acc.length < LIM then forW (turnW g1 own1 fc1 fe σ') wk k (j + 1) (acc ++ [w]) h9 else T.fail).All _ _ := q10
                split at q10
                · rename_i hal
                  have hD9 : H9 D = some (.lst vacc) := e9.keep _ _ hD8 hn8
                  have hn9 : D ∉ ι9.own := e9.own_not hD8 hn8
                  have hr9 : ι9.res = D :: ι1.res := e9.rs.trans hr8
                  have hm9 : D ∈ ι9.res := by rw [hr9]; exact List.mem_cons_self
                  have racc9 : RWs I ι9 H9 acc vacc := racc8.ext e9
                  have nf : ∀ o u, H9 D ≠ some (.frz o u) := fun o u z => by rw [hD9] at z; cases z
                  refine ⟨vacc, hD9, by rw [← racc9.length]; exact lim_lt (Nat.le_of_lt hal), h9, acc ++ [w], hjn, ⟨ι9, vacc ++ [v], (e18.trans (e9.swap ι1.res)).chgNew hD, hr9, hn9, (m8.trans e9.mo).trans (Mo.res hm9 nf), (m58.trans e9.mo).trans (Mo.res hm9 nf), rp9.resUpd hm9 hn9 nf, upd_same, (racc9.append (.cons r9 .nil)).mo (Mo.res hm9 nf).toMw, by rw [List.length_append]; exact hal⟩, by rw [← hk']; exact q10⟩
                · exact q10.elim
          · exact q7.elim
        · have hjn2 : j = n := by omega
          rw [hjn2, Nat.sub_self] at q7
          simp only [forW] at q7
          split at q7
          · rename_i hx0
            exact .inl ⟨by rw [hjn2] at gj2 ⊢; exact gj2 hx0, h6, acc, hlt, ⟨ι6, vacc, e6, hr6, hn6, m6, rp6, hD6, racc6, hacc6⟩, q7⟩
          · exact q7.elim
  · have hi2 : i = xs.length := by omega
    refine .inl ⟨hj2 (by omega), ?_⟩
    rw [hi2, List.drop_length] at q3
    have q4 : Pv I ι H Q (.lst acc) h2 := q3
    refine q4 ⟨ι2.own, ι1.res⟩ H2 _ (e1.trans e2) (rp2.back hr2) (.lst hD2 (fun z => ?_) (racc.mo (Mo.back hr2).toMw) hacc)
    rcases z with z | z
    · exact hn2 z
    · exact hDn1 (.inr z)
end
end Z
namespace Z
open PySem PySem.Spec L2
section
variable {X : Cx} {I : Inf} {B : Tb} {Wx : XK} {pos p p2 : Pos} {σc : Env} {C : CallH} {M : MTab} {ini : Nat → Nat} {lv : Nat} {fn : Nat → Addr} {fd : Nat → FuncData}
theorem PT_imp {e : Expr} {t u : TT} (h1 : PT X e t) (h : ∀ σ H Q, u σ H Q → t σ H Q) : PT X e u := ⟨fun pins s σ H Q J q => h1.run pins s σ H Q J (h _ _ _ q)⟩
theorem PW_imp {e : Expr} {t u : TT} (h1 : PW X e t) (h : ∀ σ H Q, u σ H Q → t σ H Q) : PW X e u := ⟨fun w pins s σ H Q J q => h1.run w pins s σ H Q J (h _ _ _ q)⟩
/-- both readings of an expression -/
def Both (X : Cx) (e : Expr) (t : TE) : Prop := PE X e t ∧ PT X e (tTest t)
theorem both_v {e : Expr} {t : TE} (h : PE X e t) (he : ∀ whole, isTrue e X.env whole = (do let v ← whole; standAt e.pos; holding [v] (truthy v))) : Both X e t := ⟨h, pt_val h he⟩
def plainL : List Expr → Bool
  | [] => true
  | x :: xs => plain x && plainL xs
theorem vis_of {sc : Scope} {x : Str} (h : vis sc x = true) : Vis sc x := by
  unfold vis at h
  split at h
  · rename_i e; exact .inl e
  · rename_i e; exact .inr (.inl e)
  · rename_i e; exact .inr (.inr e)
  · cases h
def lenEs : Es → Nat
  | .nil => 0
  | .cons _ r => lenEs r + 1
theorem evs_len {σ : Env} : ∀ {es : Es} {h : EH} {P : List W → EH → Prop} {E : Nat → EH → Prop}, (evs C M ini es σ h).All P E → (evs C M ini es σ h).All (fun ws h => P ws h ∧ ws.length = lenEs es) E
  | .nil, h, P, E, q => ⟨q, rfl⟩
  | .cons e r, h, P, E, q => by
    have q1 := T.All.bind (show ((ev C M ini e σ h).bind fun x h => (evs C M ini r σ h).bind fun xs h => T.ok (x :: xs) h).All P E from q)
    show ((ev C M ini e σ h).bind fun x h => (evs C M ini r σ h).bind fun xs h => T.ok (x :: xs) h).All _ E
    refine T.All.of_bind (q1.mono (fun x h1 q2 => T.All.of_bind ((evs_len (T.All.bind q2)).mono (fun xs h2 ⟨q3, l⟩ => ?_) fun _ _ z => z)) fun _ _ z => z)
    exact ⟨q3, by simp [lenEs, l]⟩
theorem chks_len {B : Tb} {N : List Str} {gt : Option Nat} {sc : Scope} : ∀ {es : Es} {xs : List Expr}, chks B N es gt sc xs = true → lenEs es = xs.length ∧ ∀ x ∈ xs, plain x = true
  | .nil, xs, h => by
    simp only [chks] at h
    split at h
    · exact ⟨rfl, by simp⟩
    · cases h
  | .cons e r, xs, h => by
    simp only [chks] at h
    split at h
    · rename_i x xs
      simp only [Bool.and_eq_true] at h
      obtain ⟨l, k⟩ := chks_len h.2
      exact ⟨by simp [lenEs, l], fun y hy => by
        rcases List.mem_cons.mp hy with rfl | hy
        · exact h.1.1
        · exact k y hy⟩
    · cases h
theorem Cs.blk (S : Cs B I X) (s : Shared) (H : Hp) (scope : Scope) (ce : PySem.Env) (fp : List Addr) : Cs B I (X.blk s H scope ce fp) := ⟨S.K, S.calm, S.nd, S.hu, S.fl, S.fnd, S.cls, S.blt⟩
theorem Fs.blk (F : Fs B I C M ini lv fn fd X) (s : Shared) (H : Hp) (scope : Scope) (ce : PySem.Env) (fp : List Addr) : Fs B I C M ini lv fn fd (X.blk s H scope ce fp) := ⟨F.room, F.no, F.ar, F.ok, F.kp, F.bd, F.gl, F.cl, F.mt⟩
/-- the def's table of inner codes -/
structure Gs (I : Inf) (gt : Option Nat) (lv : Nat) (X : Cx) : Prop where
  g : ∀ t, gt = some t → Room (lv + 2) X.A ∧ ∃ c P, X.env.code = .ref c ∧ GxR.TabB X.base X.mg c P ∧ I.tb[t]? = some P
theorem Gs.none : Gs I .none lv X := ⟨fun t z => nomatch z⟩
theorem Gs.blk {gt : Option Nat} (G : Gs I gt lv X) (s : Shared) (H : Hp) (scope : Scope) (cl : List (Str × Addr)) (Cc : Addr) (fp : List Addr) : Gs I gt lv (X.blk s H scope (compEnvC scope cl Cc X.env) fp) := ⟨G.g⟩
theorem Gs.code {gt : Option Nat} (G : Gs I gt lv X) {t : Nat} (h : gt = some t) : Room (lv + 2) X.A ∧ ∃ c P, ZG.GCode X c P ∧ I.tb[t]? = some P := by
  obtain ⟨r, c, P, h1, h2, h3⟩ := G.g t h
  exact ⟨r, c, P, ⟨h1, fun J => h2.code.keeps J.bk, h2.bm, h2.gP⟩, h3⟩
theorem noFold {e : Expr} (hp : plain e = true) : ∀ x, foldedSetIterable e X.env x = pure x := by
  intro x
  cases e <;> first | rfl | cases hp
theorem own_snd {N : List Str} (own : List Nat) : (own.map fun i => ((N.getD i Str.empty : Str), i)).map (·.2) = own := by
  rw [List.map_map]
  exact List.map_id' own

theorem s_var {i : Nat} {x : Str} (hN : X.N[i]? = some x) (hv : Vis X.env.scope x) (hd : (x == ("__debug__" : Str)) = false) (hcd : (x == ("__classdict__" : Str)) = false) : PE X (.Name x pos) (tE I (ev C M ini (.var i)) Wx) := by
  refine ⟨fun pins s σ H Q J ⟨ι, h, σc, rs, rp, q⟩ => (pe_var hN hv hd hcd).run pins s σ H Q J ?_⟩
  simp only [ev] at q
  split at q
  · rename_i w hw
    obtain ⟨v, h1, h2⟩ := rs.2 i w hw
    exact ⟨v, h1, fin q rp h2⟩
  · exact q.elim
def simpI : Z.I → Prop
  | .seqR a => simp a = true
  | .keys a => simp a = true
  | .w _ a => simp a = true
  | _ => True
theorem walk_any {it : Z.I} {t : TE} {e : Expr} {k : Z.Env → List W → EH → T W} (ht : PE X e t) (hr : ∀ σ H Q, tE I (fun σ h => (evIl C M ini it σ h).bind fun p h => k σ p.1 h) Wx σ H Q → t σ H Q) (hs : simpI it) :
    PE X e (tE I (fun σ h => (evI C M ini it σ h).bind fun p h => (k σ p.1 h).bind fun w h => .ok w (unlock p.2 h)) Wx) := by
  cases it with
  | seqR a => exact PE_imp (PE_or ht (pe_lock ht)) fun σ H Q q => walk_lock hr hs q
  | keys a => exact PE_imp (PE_or ht (pe_lock ht)) fun σ H Q q => walk_lock hr hs q
  | w k a => exact PE_imp (PE_or ht (pe_lock ht)) fun σ H Q q => walk_lock hr hs q
  | zip a b => exact PE_imp ht fun σ H Q q => walk_free hr trivial q
  | seq a => exact PE_imp ht fun σ H Q q => walk_free hr trivial q
  | rng a => exact PE_imp ht fun σ H Q q => walk_free hr trivial q
  | rng2 a b => exact PE_imp ht fun σ H Q q => walk_free hr trivial q
theorem chkI_simp {N : List Str} {gt : Option Nat} {sc : Scope} {it : Z.I} {x tg : Expr} (h : chkI B N it gt sc x tg = true) : simpI it := by
  cases it with
  | seqR a => simp only [chkI, Bool.and_eq_true] at h; exact h.1.1
  | keys a => simp only [chkI, Bool.and_eq_true] at h; exact h.1.1
  | w k a =>
    simp only [chkI] at h
    split at h
    · simp only [Bool.and_eq_true] at h; exact h.1.1
    · cases h
  | zip a b => simp [chkI] at h
  | _ => trivial
theorem chkJ_fold {N : List Str} {gt : Option Nat} {sc : Scope} {it : Z.I} {x tg : Expr} (h : chkJ B N it gt sc x tg = true) : ∀ env y, foldedSetIterable x env y = pure y := by
  intro env y
  cases it with
  | seq a =>
    simp only [chkJ, Bool.and_eq_true] at h
    cases x <;> first | rfl | (cases h.1; done)
  | seqR a =>
    simp only [chkJ, Bool.and_eq_true] at h
    cases x <;> first | rfl | (cases h.1; done)
  | rng a =>
    simp only [chkJ] at h
    split at h
    · rfl
    · cases h
  | rng2 a b =>
    simp only [chkJ] at h
    split at h
    · rfl
    · cases h
  | _ => simp [chkJ] at h
theorem s_dicT : PE X (.Dict [] [] pos) (tE I (fun _ h => .ok (.ref h.length) (h ++ [.dicT []])) Wx) := by
  refine ⟨fun pins s σ H Q J ⟨ι, h, σc, rs, rp, q⟩ => pe_dnewT.run pins s σ H Q J ?_⟩
  intro p hp
  have q : Pv I ι H Q (.ref h.length) (h ++ [.dicT []]) := q
  exact q (ι.push p) _ _ (Ext.mine hp) (rp.mine hp ⟨[], upd_same, .nil, Nat.zero_le _, List.nodup_nil⟩) (.ref (ι.push_at p rp.len.symm))
mutual
theorem snd : ∀ (e : E) {gt : Option Nat} {X : Cx} {Wx : XK} (S : Cs B I X) (F : Fs B I C M ini lv fn fd X) (G : Gs I gt lv X) (tk : Takes X (fun c d _ H => Wx c d H)) {x : Expr}, chk B X.N e gt X.env.scope x = true → Both X x (tE I (ev C M ini e) Wx)
  | .nev, gt, X, Wx, S, F, G, tk, x, h => ⟨⟨fun pins s σ H Q J ⟨ι, h, σc, rs, rp, q⟩ => q.elim⟩, ⟨fun pins s σ H Q J ⟨ι, h, σc, rs, rp, q⟩ => q.elim⟩⟩
  | .var i, gt, X, Wx, S, F, G, tk, x, h => by
    simp only [chk] at h
    split at h
    · simp only [chkN, Bool.and_eq_true, decide_eq_true_eq] at h
      exact both_v (s_var h.1.1 (vis_of h.1.2) (okN_1 h.2) (okN_2 h.2)) fun _ => rfl
    · cases h
  | .int i, gt, X, Wx, S, F, G, tk, x, h => by
    simp only [chk] at h
    split at h
    · simp only [decide_eq_true_eq] at h
      subst h
      exact both_v ⟨fun pins s σ H Q J ⟨ι, h, σc, rs, rp, q⟩ => pe_int.run pins s σ H Q J (fin q rp (.int _))⟩ fun _ => rfl
    · cases h
  | .bl i, gt, X, Wx, S, F, G, tk, x, h => by
    simp only [chk] at h
    split at h
    · simp only [decide_eq_true_eq] at h
      subst h
      exact both_v ⟨fun pins s σ H Q J ⟨ι, h, σc, rs, rp, q⟩ => pe_bl.run pins s σ H Q J (fin q rp (.bl _))⟩ fun _ => rfl
    · cases h
  | .non, gt, X, Wx, S, F, G, tk, x, h => by
    simp only [chk] at h
    split at h
    · exact both_v ⟨fun pins s σ H Q J ⟨ι, h, σc, rs, rp, q⟩ => pe_non.run pins s σ H Q J (fin q rp .non)⟩ fun _ => rfl
    · cases h
  | .str i, gt, X, Wx, S, F, G, tk, x, h => by
    simp only [chk] at h
    split at h
    · simp only [decide_eq_true_eq] at h
      subst h
      exact both_v ⟨fun pins s σ H Q J ⟨ι, h, σc, rs, rp, q⟩ => pe_str.run pins s σ H Q J (fin q rp (.str _))⟩ fun _ => rfl
    · cases h
  | .bin o a b, gt, X, Wx, S, F, G, tk, x, h => by
    simp only [chk] at h
    split at h
    · simp only [Bool.and_eq_true, decide_eq_true_eq] at h
      obtain ⟨⟨rfl, h1⟩, h2⟩ := h
      exact both_v (s_bin (snd a S F G tk h1).1 (snd b S F G tk h2).1) fun _ => rfl
    · cases h
  | .cmp c a b, gt, X, Wx, S, F, G, tk, x, h => by
    simp only [chk] at h
    split at h
    · simp only [Bool.and_eq_true, decide_eq_true_eq] at h
      obtain ⟨⟨rfl, h1⟩, h2⟩ := h
      exact s_cmp (snd a S F G tk h1).1 (snd b S F G tk h2).1
    · cases h
  | .chain c d a b f, gt, X, Wx, S, F, G, tk, x, h => by
    simp only [chk] at h
    split at h
    · simp only [Bool.and_eq_true, decide_eq_true_eq] at h
      obtain ⟨⟨⟨⟨rfl, rfl⟩, h1⟩, h2⟩, h3⟩ := h
      exact s_chain (snd a S F G tk h1).1 (snd b S F G tk h2).1 (snd f S F G tk h3).1
    · cases h
  | .eqI n a b, gt, X, Wx, S, F, G, tk, x, h => by
    simp only [chk] at h
    split at h
    · simp only [Bool.and_eq_true, decide_eq_true_eq] at h
      obtain ⟨⟨rfl, h1⟩, h2⟩ := h
      exact s_eqI (snd a S F G tk h1).1 (snd b S F G tk h2).1
    · cases h
  | .eqD n a b, gt, X, Wx, S, F, G, tk, x, h => by
    simp only [chk] at h
    split at h
    · simp only [Bool.and_eq_true, decide_eq_true_eq] at h
      obtain ⟨⟨rfl, h1⟩, h2⟩ := h
      exact s_eqD S.K (by have := S.hu; omega) (snd a S F G tk h1).1 (snd b S F G tk h2).1
    · cases h
  | .isN n a, gt, X, Wx, S, F, G, tk, x, h => by
    simp only [chk] at h
    split at h
    · simp only [Bool.and_eq_true, decide_eq_true_eq] at h
      obtain ⟨rfl, h1⟩ := h
      exact s_isN (snd a S F G tk h1).1
    · cases h
  | .not a, gt, X, Wx, S, F, G, tk, x, h => by
    simp only [chk] at h
    split at h
    · exact s_not (snd a S F G tk h).1 (snd a S F G tk h).2
    · cases h
  | .and es, gt, X, Wx, S, F, G, tk, x, h => by
    simp only [chk] at h
    split at h
    · obtain ⟨h1, h2⟩ := sndA es S F G tk h
      exact ⟨h1, h2.pt⟩
    · cases h
  | .or es, gt, X, Wx, S, F, G, tk, x, h => by
    simp only [chk] at h
    split at h
    · obtain ⟨h1, h2⟩ := sndO es S F G tk h
      exact ⟨h1, h2.pt⟩
    · cases h
  | .ite c a b, gt, X, Wx, S, F, G, tk, x, h => by
    simp only [chk] at h
    split at h
    · simp only [Bool.and_eq_true] at h
      obtain ⟨⟨h0, h1⟩, h2⟩ := h
      exact ⟨s_ite (snd c S F G tk h0).2 (snd a S F G tk h1).1 (snd b S F G tk h2).1, s_iteT (snd c S F G tk h0).2 (snd a S F G tk h1).2 (snd b S F G tk h2).2⟩
    · cases h
  | .tup es, gt, X, Wx, S, F, G, tk, x, h => by
    simp only [chk] at h
    split at h
    · simp only [Bool.and_eq_true, decide_eq_true_eq] at h
      refine both_v (s_tup (snds es S F G tk h.1) fun σ h' P E q => (evs_len q).mono (fun ws h2 ⟨q1, l⟩ => ⟨q1, ?_⟩) fun _ _ z => z) fun _ => rfl
      rw [l, (chks_len h.1).1]
      exact Nat.le_trans h.2 (by decide)
    · cases h
  | .lst m es, gt, X, Wx, S, F, G, tk, x, h => by
    simp only [chk] at h
    split at h
    · simp only [Bool.and_eq_true, decide_eq_true_eq] at h
      refine both_v (s_lst (snds es S F G tk h.1) fun σ h' P E q => (evs_len q).mono (fun ws h2 ⟨q1, l⟩ => ⟨q1, ?_⟩) fun _ _ z => z) fun _ => rfl
      rw [l, (chks_len h.1).1]
      exact Nat.le_trans h.2 (by decide)
    · cases h
  | .dic, gt, X, Wx, S, F, G, tk, x, h => by
    simp only [chk] at h
    split at h
    · exact both_v s_dic fun _ => rfl
    · cases h
  | .ix a i, gt, X, Wx, S, F, G, tk, x, h => by
    simp only [chk] at h
    split at h
    · simp only [Bool.and_eq_true] at h
      exact both_v (s_ix S h.1.1 (snd a S F G tk h.1.2).1 (snd i S F G tk h.2).1) fun _ => rfl
    · cases h
  | .dix a i, gt, X, Wx, S, F, G, tk, x, h => by
    simp only [chk] at h
    split at h
    · simp only [Bool.and_eq_true] at h
      exact both_v (s_dix S h.1.1 (snd a S F G tk h.1.2).1 (snd i S F G tk h.2).1) fun _ => rfl
    · cases h
  | .slL m a lo hi, gt, X, Wx, S, F, G, tk, x, h => by
    simp only [chk] at h
    split at h
    · simp only [Bool.and_eq_true] at h
      exact both_v (s_slL S (snd a S F G tk h.1.1).1 (sndo lo S F G tk h.1.2) (sndo hi S F G tk h.2)) fun _ => rfl
    · cases h
  | .slT a lo hi, gt, X, Wx, S, F, G, tk, x, h => by
    simp only [chk] at h
    split at h
    · simp only [Bool.and_eq_true] at h
      exact both_v (s_slT S (snd a S F G tk h.1.1).1 (sndo lo S F G tk h.1.2) (sndo hi S F G tk h.2)) fun _ => rfl
    · cases h
  | .fld a f, gt, X, Wx, S, F, G, tk, x, h => by
    simp only [chk] at h
    split at h
    · simp only [Bool.and_eq_true, decide_eq_true_eq] at h
      exact both_v (s_fld S (by rw [← S.fl]; exact h.1.1) h.1.2 (snd a S F G tk h.2).1) fun _ => rfl
    · cases h
  | .inS n a b, gt, X, Wx, S, F, G, tk, x, h => by
    simp only [chk] at h
    split at h
    · simp only [Bool.and_eq_true, decide_eq_true_eq] at h
      obtain ⟨⟨⟨rfl, h0⟩, h1⟩, h2⟩ := h
      exact s_inS S h0 (snd a S F G tk h1).1 (snd b S F G tk h2).1
    · cases h
  | .inD n a b, gt, X, Wx, S, F, G, tk, x, h => by
    simp only [chk] at h
    split at h
    · simp only [Bool.and_eq_true, decide_eq_true_eq] at h
      obtain ⟨⟨⟨rfl, h0⟩, h1⟩, h2⟩ := h
      exact s_inD S h0 (snd a S F G tk h1).1 (snd b S F G tk h2).1
    · cases h
  | .catL m a b, gt, X, Wx, S, F, G, tk, x, h => by
    simp only [chk] at h
    split at h
    · simp only [Bool.and_eq_true, decide_eq_true_eq] at h
      obtain ⟨⟨rfl, h1⟩, h2⟩ := h
      exact both_v (s_catL (snd a S F G tk h1).1 (snd b S F G tk h2).1) fun _ => rfl
    · cases h
  | .catT a b, gt, X, Wx, S, F, G, tk, x, h => by
    simp only [chk] at h
    split at h
    · simp only [Bool.and_eq_true, decide_eq_true_eq] at h
      obtain ⟨⟨rfl, h1⟩, h2⟩ := h
      exact both_v (s_catT S (snd a S F G tk h1).1 (snd b S F G tk h2).1) fun _ => rfl
    · cases h
  | .rep m a b, gt, X, Wx, S, F, G, tk, x, h => by
    simp only [chk] at h
    split at h
    · simp only [Bool.and_eq_true, decide_eq_true_eq] at h
      obtain ⟨⟨rfl, h1⟩, h2⟩ := h
      exact both_v (s_rep (snd a S F G tk h1).1 (snd b S F G tk h2).1) fun _ => rfl
    · cases h
  | .len a, gt, X, Wx, S, F, G, tk, x, h => by
    simp only [chk] at h
    split at h
    · simp only [Bool.and_eq_true] at h
      exact both_v (s_len S h.1.1 h.1.2 (snd a S F G tk h.2).1) fun _ => rfl
    · cases h
  | .lenD a, gt, X, Wx, S, F, G, tk, x, h => by
    simp only [chk] at h
    split at h
    · simp only [Bool.and_eq_true] at h
      exact both_v (s_lenD S h.1.1 h.1.2 (snd a S F G tk h.2).1) fun _ => rfl
    · cases h
  | .max2 a b, gt, X, Wx, S, F, G, tk, x, h => by
    simp only [chk] at h
    split at h
    · simp only [Bool.and_eq_true] at h
      exact both_v (s_max2 S h.1.1.1.1 h.1.1.1.2 h.1.1.2 (snd a S F G tk h.1.2).1 (snd b S F G tk h.2).1) fun _ => rfl
    · cases h
  | .min2 a b, gt, X, Wx, S, F, G, tk, x, h => by
    simp only [chk] at h
    split at h
    · simp only [Bool.and_eq_true] at h
      exact both_v (s_min2 S h.1.1.1.1 h.1.1.1.2 h.1.1.2 (snd a S F G tk h.1.2).1 (snd b S F G tk h.2).1) fun _ => rfl
    · cases h
  | .abs a, gt, X, Wx, S, F, G, tk, x, h => by
    simp only [chk] at h
    split at h
    · simp only [Bool.and_eq_true] at h
      exact both_v (s_abs S h.1.1 h.1.2 (snd a S F G tk h.2).1) fun _ => rfl
    · cases h
  | .toInt a, gt, X, Wx, S, F, G, tk, x, h => by
    simp only [chk] at h
    split at h
    · simp only [Bool.and_eq_true] at h
      exact both_v (s_toInt S h.1.1 h.1.2 (snd a S F G tk h.2).1) fun _ => rfl
    · cases h
  | .toTup a, gt, X, Wx, S, F, G, tk, x, h => by
    simp only [chk] at h
    split at h
    · simp only [Bool.and_eq_true] at h
      exact both_v (s_toTup S h.1.1 h.1.2 (snd a S F G tk h.2).1) fun _ => rfl
    · cases h
  | .toLst m a, gt, X, Wx, S, F, G, tk, x, h => by
    simp only [chk] at h
    split at h
    · simp only [Bool.and_eq_true] at h
      exact both_v (s_toLst S h.1.1 h.1.2 (snd a S F G tk h.2).1) fun _ => rfl
    · cases h
  | .call f es, gt, X, Wx, S, F, G, tk, x, h => by
    simp only [chk] at h
    split at h
    · rename_i n _ xs _ i hi
      simp only [Bool.and_eq_true, decide_eq_true_eq] at h
      obtain ⟨⟨⟨⟨⟨hg, rfl⟩, hgl⟩, hok⟩, hl⟩, hc⟩ := h
      refine both_v (s_call F tk hi hg hgl hok (chks_len hc).2 (snds es S F G tk hc) fun z => ?_) fun _ => rfl
      subst z
      cases es with
      | nil => rfl
      | cons _ _ => simp [chks] at hc
    · cases h
  | .make c es, gt, X, Wx, S, F, G, tk, x, h => by
    simp only [chk] at h
    split at h
    · rename_i n _ xs _ y hy
      simp only [Bool.and_eq_true, decide_eq_true_eq] at h
      obtain ⟨⟨⟨rfl, hgl⟩, hok⟩, hc⟩ := h
      refine both_v (s_make F tk hy hgl hok (chks_len hc).2 (snds es S F G tk hc) fun z => ?_) fun _ => rfl
      subst z
      cases es with
      | nil => rfl
      | cons _ _ => simp [chks] at hc
    · cases h
  | .meth a m es, gt, X, Wx, S, F, G, tk, x, h => by
    simp only [chk] at h
    split at h
    · rename_i o n ap xs ps
      simp only [Bool.and_eq_true, decide_eq_true_eq, Bool.not_eq_true'] at h
      obtain ⟨⟨⟨⟨⟨⟨hl, h30⟩, hnm⟩, hno⟩, hpo⟩, ha⟩, hc⟩ := h
      subst hnm
      refine both_v (s_meth S F tk hl (fun z => ?_) hpo (snd a S F G tk ha).1 h30 (chks_len hc).2 (snds es S F G tk hc) fun z => ?_) fun _ => rfl
      · rw [← S.fl] at z
        rw [List.contains_eq_mem, decide_eq_false_iff_not] at hno
        exact hno z
      · subst z
        cases es with
        | nil => rfl
        | cons _ _ => simp [chks] at hc
    · cases h
  | .comp a g it c own, gt, X, Wx, S, F, G, tk, x, h => by
    simp only [chk] at h
    split at h
    · rename_i el tg iter ifs scope ps
      simp only [Bool.and_eq_true] at h
      obtain ⟨⟨⟨⟨⟨hb, hI⟩, hG⟩, hc⟩, ha⟩, ho⟩ := h
      obtain ⟨pI, hF⟩ := sndI it S F G tk hI
      have body := pe_lc (g := gtOf X.K g) (tt := tB I (evc C M ini c) noX) (te := tE I (ev C M ini a) noX) S.calm S.nd pI (blkOk_by hb) (fun s H Cc cl fp => g_ok (S.blk s H scope (compEnvC scope cl Cc X.env) fp) hG)
        (fun s H Cc cl fp => sndc c (S.blk s H scope (compEnvC scope cl Cc X.env) fp) (F.blk s H scope (compEnvC scope cl Cc X.env) fp) (G.blk s H scope cl Cc fp) takes0 hc) (fun s H Cc cl fp => (snd a (S.blk s H scope (compEnvC scope cl Cc X.env) fp) (F.blk s H scope (compEnvC scope cl Cc X.env) fp) (G.blk s H scope cl Cc fp) takes0 ha).1) hF (pos := ps)
      rw [own_snd] at body
      have w := walk_any (C := C) (M := M) (ini := ini) (I := I) (Wx := Wx) body (k := fun σ xs h => (forL (bodyC g own (evc C M ini c) (ev C M ini a) σ) [] xs h).nox.bind fun ys h => .ok (.lst ys) h) (fun σ H Q q => comp_read (gok X.K g) ho q) (chkI_simp hI)
      refine both_v (PE_imp w fun σ H Q q => ?_) fun _ => rfl
      obtain ⟨ι, h, σc, rs, rp, q⟩ := q
      refine ⟨ι, h, σc, rs, rp, ?_⟩
      simp only [bind_assoc]
      exact q
    · cases h
  | .compM a g it c own, gt, X, Wx, S, F, G, tk, x, h => by
    simp only [chk] at h
    split at h
    · rename_i el tg iter ifs scope ps
      simp only [Bool.and_eq_true] at h
      obtain ⟨⟨⟨⟨⟨hb, hI⟩, hG⟩, hc⟩, ha⟩, ho⟩ := h
      obtain ⟨pI, hF⟩ := sndI it S F G tk hI
      have body := pe_lc (g := gtOf X.K g) (tt := tB I (evc C M ini c) noX) (te := tE I (ev C M ini a) noX) S.calm S.nd pI (blkOk_by hb) (fun s H Cc cl fp => g_ok (S.blk s H scope (compEnvC scope cl Cc X.env) fp) hG)
        (fun s H Cc cl fp => sndc c (S.blk s H scope (compEnvC scope cl Cc X.env) fp) (F.blk s H scope (compEnvC scope cl Cc X.env) fp) (G.blk s H scope cl Cc fp) takes0 hc) (fun s H Cc cl fp => (snd a (S.blk s H scope (compEnvC scope cl Cc X.env) fp) (F.blk s H scope (compEnvC scope cl Cc X.env) fp) (G.blk s H scope cl Cc fp) takes0 ha).1) hF (pos := ps)
      rw [own_snd] at body
      have w := walk_any (C := C) (M := M) (ini := ini) (I := I) (Wx := Wx) body (k := fun σ xs h => (forM h.length (bodyC g own (evc C M ini c) (ev C M ini a) σ) xs (h ++ [.lst []])).nox.bind fun _ h' => .ok (.ref h.length) h') (fun σ H Q q => compM_read (gok X.K g) ho q) (chkI_simp hI)
      refine both_v (PE_imp w fun σ H Q q => ?_) fun _ => rfl
      obtain ⟨ι, h, σc, rs, rp, q⟩ := q
      refine ⟨ι, h, σc, rs, rp, ?_⟩
      simp only [bind_assoc]
      exact q
    · cases h
  | .dicT, gt, X, Wx, S, F, G, tk, x, h => by
    simp only [chk] at h
    split at h
    · exact both_v s_dicT fun _ => rfl
    · cases h
  | .p1 p m a, gt, X, Wx, S, F, G, tk, x, h => by
    simp only [chk] at h
    split at h
    · rename_i y hs
      obtain ⟨h1, h2⟩ := p1_ok (m := m) S hs (snd a S F G tk h).1
      exact both_v h1 h2
    · cases h
  | .p2 p m a b, gt, X, Wx, S, F, G, tk, x, h => by
    simp only [chk] at h
    split at h
    · rename_i y z hs
      simp only [Bool.and_eq_true] at h
      exact p2_ok (m := m) S tk hs (snd a S F G tk h.1).1 (snd b S F G tk h.2).1
    · cases h
  | .p3 p a b c, gt, X, Wx, S, F, G, tk, x, h => by
    simp only [chk] at h
    split at h
    · rename_i y z u hs
      simp only [Bool.and_eq_true] at h
      obtain ⟨h1, h2⟩ := p3_ok S hs (snd a S F G tk h.1.1).1 (snd b S F G tk h.1.2).1 (snd c S F G tk h.2).1
      exact both_v h1 h2
    · cases h
  | .comp2 a g it c g1 it1 c1 own own1, gt, X, Wx, S, F, G, tk, x, h => by
    simp only [chk] at h
    split at h
    · rename_i el tg iter ifs tg1 iter1 ifs1 scope ps
      simp only [Bool.and_eq_true] at h
      obtain ⟨⟨⟨⟨⟨⟨⟨⟨⟨⟨hb, hI⟩, hG⟩, hc⟩, hJ⟩, hG1⟩, hc1⟩, ha⟩, ho⟩, ho1⟩, hv⟩ := h
      obtain ⟨pI, hF⟩ := sndI it S F G tk hI
      have hv' : ∀ i ∈ own1, i ∈ own := fun i hi => by
        have := List.all_eq_true.mp hv i hi
        simpa using this
      have bS := fun s H Cc cl fp => S.blk s H scope (compEnvC scope cl Cc X.env) fp
      have bF := fun s H Cc cl fp => F.blk s H scope (compEnvC scope cl Cc X.env) fp
      have bG := fun s H Cc cl fp => G.blk s H scope cl Cc fp
      have body := pe_lc2 (g := gtOf X.K g) (g1 := gtOf X.K g1) (wi1 := tJ I (evJ C M ini it1) noX) (tt := tB I (evc C M ini c) noX) (tt1 := tB I (evc C M ini c1) noX) (te := tE I (ev C M ini a) noX) (vs1 := own1) S.calm S.nd pI (blkOk_by hb) (by rw [own_snd]; exact hv') (fun s H Cc cl fp => g_ok (bS s H Cc cl fp) hG)
        (fun s H Cc cl fp => sndc c (bS s H Cc cl fp) (bF s H Cc cl fp) (bG s H Cc cl fp) takes0 hc) (fun s H Cc cl fp => (sndJ it1 (bS s H Cc cl fp) (bF s H Cc cl fp) (bG s H Cc cl fp) takes0 hJ).1) (fun s H Cc cl fp => g_ok (bS s H Cc cl fp) hG1) (fun s H Cc cl fp => sndc c1 (bS s H Cc cl fp) (bF s H Cc cl fp) (bG s H Cc cl fp) takes0 hc1)
        (fun s H Cc cl fp => (snd a (bS s H Cc cl fp) (bF s H Cc cl fp) (bG s H Cc cl fp) takes0 ha).1) hF (chkJ_fold hJ) (pos := ps)
      rw [own_snd] at body
      have w := walk_any (C := C) (M := M) (ini := ini) (I := I) (Wx := Wx) body (k := fun σ xs h => (forO (turnC g own (fun σ h => evc C M ini c σ h) (fun σ h => evJ C M ini it1 σ h) (fun σ x h => turnW g1 own1 (fun σ h => evc C M ini c1 σ h) (fun σ h => ev C M ini a σ h) σ x h) σ) xs [] h).nox.bind fun ys h => .ok (.lst ys) h) (fun σ H Q q => comp2_read (gok X.K g) ho (gok X.K g1) ho1 q) (chkI_simp hI)
      refine both_v (PE_imp w fun σ H Q q => ?_) fun _ => rfl
      obtain ⟨ι, h, σc, rs, rp, q⟩ := q
      refine ⟨ι, h, σc, rs, rp, ?_⟩
      simp only [bind_assoc]
      exact q
    · cases h
  | .gen k a g it c own t, gt, X, Wx, S, F, G, tk, x, h => by
    simp only [chk] at h
    split at h
    · rename_i n np el tg iter ifs scope ps ps2
      simp only [Bool.and_eq_true, decide_eq_true_eq] at h
      obtain ⟨⟨⟨⟨⟨⟨⟨⟨hn, ht⟩, hS⟩, hI⟩, hf⟩, hG⟩, hc⟩, ha⟩, ho⟩ := h
      obtain ⟨hr, cc, P, GC, hP⟩ := G.code ht
      obtain ⟨pI, hF⟩ := sndI it S F G tk hI
      have hu : X.A.units + 75 < cLine := by have := hr.un; omega
      have body := s_gen1 (gpos := ps) (p := np) (pos := ps2) (k := k) (own := own) (fc := evc C M ini c) (fe := ev C M ini a) S hn hr GC hP pI hS ho (genFold_of hf hF) (fun s H Cc code fp pn => g_ok (S.gcx hu s H scope Cc code fp pn) hG)
        (fun s H Cc code fp pn => sndc c (S.gcx hu s H scope Cc code fp pn) (F.gcx hr s H scope Cc code fp pn) Gs.none takes0 hc)
        (fun s H Cc code fp pn => (snd a (S.gcx hu s H scope Cc code fp pn) (F.gcx hr s H scope Cc code fp pn) Gs.none takes0 ha).1)
      have w := walk_any (C := C) (M := M) (ini := ini) (I := I) (Wx := Wx) (it := it) (k := fun σ xs h => if isTbl h t then genR k (genW k.st (turnW g own (fun σ h => evc C M ini c σ h) (fun σ h => ev C M ini a σ h) σ) (.fix xs) xs.length 0 h) else .fail) body (fun σ H Q q => q) (chkI_simp hI)
      exact both_v w fun _ => rfl
    · cases h
  | .gen2 k a g it c g1 it1 c1 own own1 t, gt, X, Wx, S, F, G, tk, x, h => by
    simp only [chk] at h
    split at h
    · rename_i n np el tg iter ifs tg1 iter1 ifs1 scope ps ps2
      simp only [Bool.and_eq_true, decide_eq_true_eq] at h
      obtain ⟨⟨⟨⟨⟨⟨⟨⟨⟨⟨⟨⟨⟨hn, ht⟩, hS⟩, hI⟩, hf⟩, hG⟩, hc⟩, hJ⟩, hG1⟩, hc1⟩, ha⟩, ho⟩, ho1⟩, hv⟩ := h
      obtain ⟨hr, cc, P, GC, hP⟩ := G.code ht
      obtain ⟨pI, hF⟩ := sndI it S F G tk hI
      have hu : X.A.units + 75 < cLine := by have := hr.un; omega
      have hv' : ∀ i ∈ own1, i ∈ own := fun i hi => by
        have := List.all_eq_true.mp hv i hi
        simpa using this
      have body := s_gen2 (gpos := ps) (p := np) (pos := ps2) (k := k) (own := own) (own1 := own1) (fc := evc C M ini c) (fc1 := evc C M ini c1) (fi1 := evJ C M ini it1) (fe := ev C M ini a) S hn hr GC hP pI hS ho ho1 hv' (genFold_of hf hF) (chkJ_fold hJ) (fun s H Cc code fp pn => g_ok (S.gcx hu s H scope Cc code fp pn) hG)
        (fun s H Cc code fp pn => sndc c (S.gcx hu s H scope Cc code fp pn) (F.gcx hr s H scope Cc code fp pn) Gs.none takes0 hc)
        (fun s H Cc code fp pn => (sndJ it1 (S.gcx hu s H scope Cc code fp pn) (F.gcx hr s H scope Cc code fp pn) Gs.none takes0 hJ).1) (fun s H Cc code fp pn => g_ok (S.gcx hu s H scope Cc code fp pn) hG1)
        (fun s H Cc code fp pn => sndc c1 (S.gcx hu s H scope Cc code fp pn) (F.gcx hr s H scope Cc code fp pn) Gs.none takes0 hc1)
        (fun s H Cc code fp pn => (snd a (S.gcx hu s H scope Cc code fp pn) (F.gcx hr s H scope Cc code fp pn) Gs.none takes0 ha).1)
      have w := walk_any (C := C) (M := M) (ini := ini) (I := I) (Wx := Wx) (it := it) (k := fun σ xs h => if isTbl h t then genR k (genO (turnO k.st g own (fun σ h => evc C M ini c σ h) (fun σ h => evJ C M ini it1 σ h) (fun σ x h => turnW g1 own1 (fun σ h => evc C M ini c1 σ h) (fun σ h => ev C M ini a σ h) σ x h) σ) (.fix xs) xs.length 0 h) else .fail) body (fun σ H Q q => q) (chkI_simp hI)
      exact both_v w fun _ => rfl
    · cases h
theorem snds : ∀ (es : Es) {gt : Option Nat} {X : Cx} {Wx : XK} (S : Cs B I X) (F : Fs B I C M ini lv fn fd X) (G : Gs I gt lv X) (tk : Takes X (fun c d _ H => Wx c d H)) {xs : List Expr}, chks B X.N es gt X.env.scope xs = true → PA X xs (tA I (evs C M ini es) Wx)
  | .nil, gt, X, Wx, S, F, G, tk, x, h => by
    simp only [chks] at h
    split at h
    · exact a_nil
    · cases h
  | .cons e r, gt, X, Wx, S, F, G, tk, x, h => by
    simp only [chks] at h
    split at h
    · simp only [Bool.and_eq_true] at h
      exact a_cons h.1.1 (snd e S F G tk h.1.2).1 (snds r S F G tk h.2)
    · cases h
theorem sndA : ∀ (es : Es) {gt : Option Nat} {X : Cx} {Wx : XK} (S : Cs B I X) (F : Fs B I C M ini lv fn fd X) (G : Gs I gt lv X) (tk : Takes X (fun c d _ H => Wx c d H)) {xs : List Expr} {pos : Pos}, chks B X.N es gt X.env.scope xs = true → PE X (.BoolOp .And xs pos) (tE I (evAnd C M ini es) Wx) ∧ PW X (.BoolOp .And xs pos) (tTest (tE I (evAnd C M ini es) Wx))
  | .nil, gt, X, Wx, S, F, G, tk, x, pos, h => ⟨⟨fun pins s σ H Q J ⟨ι, h, σc, rs, rp, q⟩ => q.elim⟩, ⟨fun w pins s σ H Q J ⟨ι, h, σc, rs, rp, q⟩ => q.elim⟩⟩
  | .cons e .nil, gt, X, Wx, S, F, G, tk, x, pos, h => by
    simp only [chks] at h
    split at h
    · rename_i y ys
      simp only [Bool.and_eq_true] at h
      have : ys = [] := by
        have := h.2
        split at this
        · rfl
        · cases this
      subst this
      obtain ⟨h1, h2⟩ := snd e S F G tk h.1.2
      exact ⟨pe_one h1, pw_and1 h2⟩
    · cases h
  | .cons e (.cons e2 r), gt, X, Wx, S, F, G, tk, x, pos, h => by
    simp only [chks] at h
    split at h
    · rename_i y ys
      simp only [Bool.and_eq_true] at h
      obtain ⟨h1, h2⟩ := snd e S F G tk h.1.2
      have h' : chks B X.N (.cons e2 r) gt X.env.scope ys = true := by
        simp only [chks]
        exact h.2
      cases ys with
      | nil => simp [chks] at h'
      | cons z zs =>
        obtain ⟨k1, k2⟩ := sndA (.cons e2 r) S F G tk (pos := pos) h'
        refine ⟨PE_imp (pe_and h1 k1) fun σ H Q ⟨ι, h, σc, rs, rp, q⟩ => ?_, PW_imp (pw_and h2 k2) fun σ H Q ⟨ι, h, σc, rs, rp, q⟩ => ?_⟩
        · have q' : ((ev C M ini e σc h).bind fun x h => boolK x fun k => if k then evAnd C M ini (.cons e2 r) σc h else .ok (.bl false) h).All (Pv I ι H Q) (Px I ι H Wx) := q
          refine goV rs rp q' fun ι1 H1 h1 w1 v1 e1 rs1 rp1 r1 q1 => ?_
          obtain ⟨k, rfl, rfl, q2⟩ := finK r1 q1
          refine ⟨k, rfl, ?_⟩
          cases k with
          | true => rw [if_pos rfl] at q2 ⊢; exact ⟨ι1, h1, σc, rs1, rp1, q2⟩
          | false => rw [if_neg Bool.false_ne_true] at q2 ⊢; exact fin q2 rp1 (.bl _)
        · have q' : ((ev C M ini e σc h).bind fun x h => boolK x fun k => if k then evAnd C M ini (.cons e2 r) σc h else .ok (.bl false) h).All (Pv I ι H (fun x H' => ∃ k, x = .bl k ∧ Q k H')) (Px I ι H Wx) := q
          show tE I (ev C M ini e) Wx σ H (fun x H' => ∃ k, x = .bl k ∧ (if k = true then tTest (tE I (evAnd C M ini (.cons e2 r)) Wx) σ H' Q else Q false H'))
          refine goV rs rp q' fun ι1 H1 h1 w1 v1 e1 rs1 rp1 r1 q1 => ?_
          obtain ⟨k, rfl, rfl, q2⟩ := finK r1 q1
          refine ⟨k, rfl, ?_⟩
          cases k with
          | true => rw [if_pos rfl] at q2 ⊢; exact ⟨ι1, h1, σc, rs1, rp1, q2⟩
          | false =>
            rw [if_neg Bool.false_ne_true] at q2 ⊢
            obtain ⟨c, e, z⟩ := fin q2 rp1 (.bl _)
            cases e
            exact z
    · cases h
theorem sndO : ∀ (es : Es) {gt : Option Nat} {X : Cx} {Wx : XK} (S : Cs B I X) (F : Fs B I C M ini lv fn fd X) (G : Gs I gt lv X) (tk : Takes X (fun c d _ H => Wx c d H)) {xs : List Expr} {pos : Pos}, chks B X.N es gt X.env.scope xs = true → PE X (.BoolOp .Or xs pos) (tE I (evOr C M ini es) Wx) ∧ PW X (.BoolOp .Or xs pos) (tTest (tE I (evOr C M ini es) Wx))
  | .nil, gt, X, Wx, S, F, G, tk, x, pos, h => ⟨⟨fun pins s σ H Q J ⟨ι, h, σc, rs, rp, q⟩ => q.elim⟩, ⟨fun w pins s σ H Q J ⟨ι, h, σc, rs, rp, q⟩ => q.elim⟩⟩
  | .cons e .nil, gt, X, Wx, S, F, G, tk, x, pos, h => by
    simp only [chks] at h
    split at h
    · rename_i y ys
      simp only [Bool.and_eq_true] at h
      have : ys = [] := by
        have := h.2
        split at this
        · rfl
        · cases this
      subst this
      obtain ⟨h1, h2⟩ := snd e S F G tk h.1.2
      exact ⟨pe_one h1, pw_or1 h2⟩
    · cases h
  | .cons e (.cons e2 r), gt, X, Wx, S, F, G, tk, x, pos, h => by
    simp only [chks] at h
    split at h
    · rename_i y ys
      simp only [Bool.and_eq_true] at h
      obtain ⟨h1, h2⟩ := snd e S F G tk h.1.2
      have h' : chks B X.N (.cons e2 r) gt X.env.scope ys = true := by
        simp only [chks]
        exact h.2
      cases ys with
      | nil => simp [chks] at h'
      | cons z zs =>
        obtain ⟨k1, k2⟩ := sndO (.cons e2 r) S F G tk (pos := pos) h'
        refine ⟨PE_imp (pe_or h1 k1) fun σ H Q ⟨ι, h, σc, rs, rp, q⟩ => ?_, PW_imp (pw_or h2 k2) fun σ H Q ⟨ι, h, σc, rs, rp, q⟩ => ?_⟩
        · have q' : ((ev C M ini e σc h).bind fun x h => boolK x fun k => if k then .ok (.bl true) h else evOr C M ini (.cons e2 r) σc h).All (Pv I ι H Q) (Px I ι H Wx) := q
          refine goV rs rp q' fun ι1 H1 h1 w1 v1 e1 rs1 rp1 r1 q1 => ?_
          obtain ⟨k, rfl, rfl, q2⟩ := finK r1 q1
          refine ⟨k, rfl, ?_⟩
          cases k with
          | true => rw [if_pos rfl] at q2 ⊢; exact fin q2 rp1 (.bl _)
          | false => rw [if_neg Bool.false_ne_true] at q2 ⊢; exact ⟨ι1, h1, σc, rs1, rp1, q2⟩
        · have q' : ((ev C M ini e σc h).bind fun x h => boolK x fun k => if k then .ok (.bl true) h else evOr C M ini (.cons e2 r) σc h).All (Pv I ι H (fun x H' => ∃ k, x = .bl k ∧ Q k H')) (Px I ι H Wx) := q
          show tE I (ev C M ini e) Wx σ H (fun x H' => ∃ k, x = .bl k ∧ (if k = true then Q true H' else tTest (tE I (evOr C M ini (.cons e2 r)) Wx) σ H' Q))
          refine goV rs rp q' fun ι1 H1 h1 w1 v1 e1 rs1 rp1 r1 q1 => ?_
          obtain ⟨k, rfl, rfl, q2⟩ := finK r1 q1
          refine ⟨k, rfl, ?_⟩
          cases k with
          | false => rw [if_neg Bool.false_ne_true] at q2 ⊢; exact ⟨ι1, h1, σc, rs1, rp1, q2⟩
          | true =>
            rw [if_pos rfl] at q2 ⊢
            obtain ⟨c, e, z⟩ := fin q2 rp1 (.bl _)
            cases e
            exact z
    · cases h
theorem sndo : ∀ (o : Eo) {gt : Option Nat} {X : Cx} {Wx : XK} (S : Cs B I X) (F : Fs B I C M ini lv fn fd X) (G : Gs I gt lv X) (tk : Takes X (fun c d _ H => Wx c d H)) {x : Option Expr}, chko B X.N o gt X.env.scope x = true → PO X x (tOo I (evo C M ini o) Wx)
  | .none, gt, X, Wx, S, F, G, tk, x, h => by
    simp only [chko] at h
    split at h
    · exact o_none
    · cases h
  | .some e, gt, X, Wx, S, F, G, tk, x, h => by
    simp only [chko] at h
    split at h
    · simp only [Bool.and_eq_true] at h
      exact o_some (snd e S F G tk h.2).1
    · cases h
theorem sndc : ∀ (o : Eo) {gt : Option Nat} {X : Cx} {Wx : XK} (S : Cs B I X) (F : Fs B I C M ini lv fn fd X) (G : Gs I gt lv X) (tk : Takes X (fun c d _ H => Wx c d H)) {x : List Expr}, chkc B X.N o gt X.env.scope x = true → PTs X x (tB I (evc C M ini o) Wx)
  | .none, gt, X, Wx, S, F, G, tk, x, h => by
    simp only [chkc] at h
    split at h
    · exact c_none
    · cases h
  | .some e, gt, X, Wx, S, F, G, tk, x, h => by
    simp only [chkc] at h
    split at h
    · simp only [Bool.and_eq_true] at h
      exact c_some (snd e S F G tk h.2).2
    · cases h
theorem sndI : ∀ (it : Z.I) {gt : Option Nat} {X : Cx} {Wx : XK} (S : Cs B I X) (F : Fs B I C M ini lv fn fd X) (G : Gs I gt lv X) (tk : Takes X (fun c d _ H => Wx c d H)) {x tg : Expr}, chkI B X.N it gt X.env.scope x tg = true → PI X tg x (tI I (evIl C M ini it) Wx) ∧ (∀ y, foldedSetIterable x X.env y = pure y)
  | .seq e, gt, X, Wx, S, F, G, tk, x, tg, h => by
    simp only [chkI, Bool.and_eq_true] at h
    exact ⟨i_seq (snd e S F G tk h.2).1, noFold h.1⟩
  | .seqR e, gt, X, Wx, S, F, G, tk, x, tg, h => by
    simp only [chkI, Bool.and_eq_true] at h
    exact ⟨i_seqL (snd e S F G tk h.2).1, noFold h.1.2⟩
  | .keys e, gt, X, Wx, S, F, G, tk, x, tg, h => by
    simp only [chkI, Bool.and_eq_true] at h
    exact ⟨i_keysL (snd e S F G tk h.2).1, noFold h.1.2⟩
  | .rng a, gt, X, Wx, S, F, G, tk, x, tg, h => by
    simp only [chkI] at h
    split at h
    · simp only [Bool.and_eq_true] at h
      exact ⟨i_rng S h.1.1 h.1.2 (snd a S F G tk h.2).1, fun _ => rfl⟩
    · cases h
  | .rng2 a b, gt, X, Wx, S, F, G, tk, x, tg, h => by
    simp only [chkI] at h
    split at h
    · simp only [Bool.and_eq_true] at h
      exact ⟨i_rng2 S h.1.1.1.1 h.1.1.1.2 h.1.1.2 (snd a S F G tk h.1.2).1 (snd b S F G tk h.2).1, fun _ => rfl⟩
    · cases h
  | .w k a, gt, X, Wx, S, F, G, tk, x, tg, h => by
    simp only [chkI] at h
    split at h
    · rename_i y hs
      simp only [Bool.and_eq_true] at h
      exact w_ok S hs h.1.2 (snd a S F G tk h.2).1
    · cases h
  | .zip _ _, gt, X, Wx, S, F, G, tk, x, tg, h => by simp [chkI] at h
theorem sndJ : ∀ (it : Z.I) {gt : Option Nat} {X : Cx} {Wx : XK} (S : Cs B I X) (F : Fs B I C M ini lv fn fd X) (G : Gs I gt lv X) (tk : Takes X (fun c d _ H => Wx c d H)) {x tg : Expr}, chkJ B X.N it gt X.env.scope x tg = true → PI X tg x (tJ I (evJ C M ini it) Wx) ∧ True
  | .seq e, gt, X, Wx, S, F, G, tk, x, tg, h => by
    simp only [chkJ, Bool.and_eq_true] at h
    exact ⟨jw_seq (snd e S F G tk h.2).1, trivial⟩
  | .seqR e, gt, X, Wx, S, F, G, tk, x, tg, h => by
    simp only [chkJ, Bool.and_eq_true] at h
    exact ⟨jw_seqR (snd e S F G tk h.2).1, trivial⟩
  | .rng a, gt, X, Wx, S, F, G, tk, x, tg, h => by
    simp only [chkJ] at h
    split at h
    · simp only [Bool.and_eq_true] at h
      exact ⟨jw_rng S h.1.1 h.1.2 (snd a S F G tk h.2).1, trivial⟩
    · cases h
  | .rng2 a b, gt, X, Wx, S, F, G, tk, x, tg, h => by
    simp only [chkJ] at h
    split at h
    · simp only [Bool.and_eq_true] at h
      exact ⟨jw_rng2 S h.1.1.1.1 h.1.1.1.2 h.1.1.2 (snd a S F G tk h.1.2).1 (snd b S F G tk h.2).1, trivial⟩
    · cases h
  | .keys _, gt, X, Wx, S, F, G, tk, x, tg, h => by simp [chkJ] at h
  | .w _ _, gt, X, Wx, S, F, G, tk, x, tg, h => by simp [chkJ] at h
  | .zip _ _, gt, X, Wx, S, F, G, tk, x, tg, h => by simp [chkJ] at h
end
end
end Z
namespace Z
open PySem PySem.Spec L2
section
variable (I : Inf)
def endOf (D : Ends) (ι : Pl) (H : Hp) (σ : St) : Fl → Prop
  | .nx => D.nx σ H
  | .rt w => ∀ v, RW I ι H w v → D.rt v H
  | .bk => D.bk σ H
  | .ct => D.ct σ H
def Ps (ι : Pl) (H : Hp) (D : Ends) (p : Fl × Env) (h' : EH) : Prop := ∀ ι' H' σ', Ext ι H ι' H' → Rep I ι' h' H' → RS I ι' H' p.2 σ' → endOf I D ι' H' σ' p.1
def tS (f : Env → EH → R) (Wx : XK) : TS := fun D σ H => ∃ ι h σc, RS I ι H σc σ ∧ Rep I ι h H ∧ (f σc h).All (Ps I ι H D) (Px I ι H Wx)
end
section
variable {I : Inf} {ι ι' : Pl} {H H' : Hp} {h h' : EH} {σc : Env} {σ : St} {Wx : XK} {D : Ends}
theorem Ps.ext {p : Fl × Env} (q : Ps I ι H D p h') (a : Ext ι H ι' H') : Ps I ι' H' D p h' := fun ι2 H2 σ2 e => q ι2 H2 σ2 (a.trans e)
theorem laterS {t : R} (q : t.All (Ps I ι H D) (Px I ι H Wx)) (a : Ext ι H ι' H') : t.All (Ps I ι' H' D) (Px I ι' H' Wx) :=
  q.mono (fun _ _ k => k.ext a) fun _ _ k ι'' H'' e => k ι'' H'' (a.trans e)
theorem goS {f : Env → EH → T W} {k : W → EH → R} (rs : RS I ι H σc σ) (rp : Rep I ι h H) (q : ((f σc h).bind k).All (Ps I ι H D) (Px I ι H Wx)) {R : VK}
    (c : ∀ ι1 H1 h1 w v, Ext ι H ι1 H1 → RS I ι1 H1 σc σ → Rep I ι1 h1 H1 → RW I ι1 H1 w v → (k w h1).All (Ps I ι1 H1 D) (Px I ι1 H1 Wx) → R v H1) : tE I f Wx σ H R :=
  goE (P := fun ι H => Ps I ι H D) (fun e z => z.ext e) rs rp q c
theorem nxt {σ' : Env} {τ : St} (q : (T.ok (Fl.nx, σ') h).All (Ps I ι H D) (Px I ι H Wx)) (rp : Rep I ι h H) (rs : RS I ι H σ' τ) : D.nx τ H := q ι H τ Ext.refl rp rs
theorem nxO {o : Option EH} {σ' : Env} (q : (nxH σ' o).All (Ps I ι H D) (Px I ι H Wx)) : ∃ h', o = some h' ∧ (T.ok (Fl.nx, σ') h').All (Ps I ι H D) (Px I ι H Wx) := by
  cases o with
  | none => exact q.elim
  | some w => exact ⟨w, rfl, q⟩
theorem finOS {α : Type} {o : Option α} {k : α → EH → R} (q : ((ofO o h).bind k).All (Ps I ι H D) (Px I ι H Wx)) : ∃ w, o = some w ∧ (k w h).All (Ps I ι H D) (Px I ι H Wx) := by
  cases o with
  | none => exact q.elim
  | some w => exact ⟨w, rfl, q⟩
theorem finKS {k : Bool → R} {w : W} {v : V} (r : RW I ι H w v) (q : (boolK w k).All (Ps I ι H D) (Px I ι H Wx)) : ∃ b, w = .bl b ∧ v = .bl b ∧ (k b).All (Ps I ι H D) (Px I ι H Wx) := by
  cases r <;> first | exact q.elim | exact ⟨_, rfl, rfl, q⟩
theorem finKS' {k : Bool → R} {w : W} {v : V} (r : RW I ι' H' w v) (q : (boolK w k).All (Ps I ι H D) (Px I ι H Wx)) : ∃ b, w = .bl b ∧ v = .bl b ∧ (k b).All (Ps I ι H D) (Px I ι H Wx) := by
  cases r <;> first | exact q.elim | exact ⟨_, rfl, rfl, q⟩
theorem RS.mw (r : RS I ι H σc σ) (a : Mw ι H ι' H') : RS I ι' H' σc σ := ⟨r.1, fun i w e => by
  obtain ⟨v, h1, h2⟩ := r.2 i w e
  exact ⟨v, h1, h2.mo a⟩⟩
end
section
variable {X : Cx} {I : Inf} {B : Tb} {Wx : XK} {a b c e o value : Expr} {fa fb fc : Env → EH → T W} {pos p p2 pos' : Pos} {σc : Env} {C : CallH} {M : MTab} {ini : Nat → Nat} {lv : Nat} {fn : Nat → Addr} {fd : Nat → FuncData} {st : Stmt}
theorem PS_imp {t u : TS} (h1 : PS X st t) (h : ∀ D σ H, u D σ H → t D σ H) : PS X st u := ⟨fun pins s σ H D J q => h1.run pins s σ H D J (h _ _ _ q)⟩
theorem PS_or {t u : TS} (h1 : PS X st t) (h2 : PS X st u) : PS X st (fun D σ H => t D σ H ∨ u D σ H) := ⟨fun pins s σ H D J q => q.elim (h1.run pins s σ H D J) (h2.run pins s σ H D J)⟩
theorem swF {t : Expr} {l : Nat} (hp : plain e = true) (ht : ∀ x q, t ≠ .Name x q) : swapsWith e (some t) l X.env = pure false := by
  cases e <;> first | rfl | (cases hp; done) | skip
  cases t <;> first | rfl | exact absurd rfl (ht _ _)
theorem swL {t : Option Expr} {l : Nat} (hp : plain e = true) (hl : isLc e = false) : swapsWith e t l X.env = pure false := by
  cases e <;> first | rfl | (cases hp; done) | (cases hl; done)
/-! ### locks -/
theorem lockS_go {t : TS} {fi : Env → EH → R} (ht : ∀ D σ H, tS I fi Wx D σ H → t D σ H) {ι : Pl} {h : EH} {H : Hp} {σ : St} {D : Ends} {n : Nat} {d : Addr} {u : HO} {eoL eoU : EO} (rs : RS I ι H σc σ) (rp : Rep I ι h H) (hd : ι.own[n]? = some d) (hu : H d = some u) (mu : Mut (some u))
    (hL : ∀ od, RO I ι (upd H d (.frz od u)) eoL d) (hU : ∀ od ι' H', Ext ι (upd H d (.frz od u)) ι' H' → RO I ι' (upd H' d u) eoU d)
    (q : ((fi σc (h.set n eoL)).bind fun w h => T.ok w (h.set n eoU)).All (Ps I ι H D) (Px I ι H Wx)) : tLock t D σ H := by
  have nf : ∀ o u, H d ≠ some (.frz o u) := fun o u' z => by
    rw [hu] at z
    cases z
    exact mu
  refine ⟨d, u, hu, mu, fun od => ht _ _ _ ⟨ι, h.set n eoL, σc, rs.ext (Ext.chg hd nf), rp.chg hd nf (hL od), (T.All.bind q).mono (fun w h' k => ?_) fun c h' k ι' H' e => k ι' H' ((Ext.chg hd nf).trans e)⟩⟩
  intro ι' H' σ' e rp' rs'
  have k : Ps I ι H D w (h'.set n eoU) := k
  have hm : Mw ι' H' ι' (upd H' d u) := Mw.own (List.mem_of_getElem? (e.ix hd))
  have k2 := k ι' (upd H' d u) σ' (e.unl (List.mem_of_getElem? hd) hu nf) (rp'.chgW (e.ix hd) (hU od ι' H' e)) (rs'.mw hm)
  have fz := e.frz _ _ _ (upd_same (H := H) (a := d) (o := .frz od u))
  obtain ⟨fl, σ2⟩ := w
  cases fl with
  | nx => exact ⟨fz, k2⟩
  | rt w => exact fun v r => ⟨fz, k2 v (r.mo hm)⟩
  | bk => exact ⟨fz, k2⟩
  | ct => exact ⟨fz, k2⟩
theorem walkS_lock {it : Z.I} {t : TS} {k : Z.Env → List W → EH → R} (hr : ∀ D σ H, tS I (fun σ h => (evIl C M ini it σ h).bind fun p h => k σ p.1 h) Wx D σ H → t D σ H) (hs : isLk it = true) {σ : St} {H : Hp} {D : Ends}
    (hw : tS I (fun σ h => (evI C M ini it σ h).bind fun p h => (k σ p.1 h).bind fun w h => .ok w (unlock p.2 h)) Wx D σ H) : t D σ H ∨ tLock t D σ H := by
  obtain ⟨ι, h, σc, rs, rp, q⟩ := hw
  cases it with
  | seqR a =>
    have hs' : simp a = true := hs
    simp only [evI] at q
    rcases simp_ev (C := C) (M := M) (ini := ini) (σ := σc) (h := h) a hs' with e1 | ⟨w1, e1⟩
    · rw [e1] at q; exact q.elim
    · rw [e1] at q
      cases w1 <;> first | exact q.elim | skip
      rename_i n
      simp only [T.bind] at q
      cases hx : h[n]? with
      | none => rw [hx] at q; exact q.elim
      | some o =>
        rw [hx] at q
        cases o <;> first | exact q.elim | skip
        · rename_i xs
          obtain ⟨d, hd, vs, g1, g2, g3⟩ := rp.ob n _ hx
          obtain ⟨hL, hU⟩ := ro_lst hd g1 g2 g3
          have e2 := simp_set hx (.l xs) a _ hs' e1
          refine .inr (lockS_go hr rs rp hd g1 trivial hL hU ?_)
          have hl : n < h.length := (List.getElem?_eq_some_iff.mp hx).1
          simp only [evIl, e2, T.bind, List.getElem?_set_self hl]
          exact q
        · rename_i xs
          refine .inl (hr _ _ _ ⟨ι, h, σc, rs, rp, ?_⟩)
          simp only [evIl, e1, T.bind, hx]
          have q2 : ((k σc xs h).bind fun w h => T.ok w h).All (Ps I ι H D) (Px I ι H Wx) := q
          rw [bind_ok] at q2
          exact q2
  | keys a =>
    have hs' : simp a = true := hs
    simp only [evI] at q
    rcases simp_ev (C := C) (M := M) (ini := ini) (σ := σc) (h := h) a hs' with e1 | ⟨w1, e1⟩
    · rw [e1] at q; exact q.elim
    · rw [e1] at q
      cases w1 <;> first | exact q.elim | skip
      rename_i n
      simp only [T.bind] at q
      cases hx : h[n]? with
      | none => rw [hx] at q; exact q.elim
      | some o =>
        rw [hx] at q
        cases o <;> first | exact q.elim | skip
        · rename_i xs
          obtain ⟨d, hd, vs, g1, g2, g3, g4⟩ := rp.ob n _ hx
          obtain ⟨hL, hU⟩ := ro_dic hd g1 g2 g3 g4
          have e2 := simp_set hx (.d xs) a _ hs' e1
          refine .inr (lockS_go hr rs rp hd g1 trivial hL hU ?_)
          have hl : n < h.length := (List.getElem?_eq_some_iff.mp hx).1
          simp only [evIl, e2, T.bind, List.getElem?_set_self hl]
          exact q
        · rename_i xs
          refine .inl (hr _ _ _ ⟨ι, h, σc, rs, rp, ?_⟩)
          simp only [evIl, e1, T.bind, hx]
          have q2 : ((k σc (xs.map (·.1)) h).bind fun w h => T.ok w h).All (Ps I ι H D) (Px I ι H Wx) := q
          rw [bind_ok] at q2
          exact q2
  | w wk a =>
    have hs' : simp a = true := hs
    simp only [evI] at q
    rcases simp_ev (C := C) (M := M) (ini := ini) (σ := σc) (h := h) a hs' with e1 | ⟨w1, e1⟩
    · rw [e1] at q; exact q.elim
    · rw [e1] at q
      simp only [T.bind] at q
      -- by value, or locked already
      have free : ∀ ys : List W, wkIl wk w1 h = .ok (ys, .no) h → ((k σc ys h).bind fun w h => T.ok w h).All (Ps I ι H D) (Px I ι H Wx) → t D σ H ∨ tLock t D σ H := fun ys el q2 => by
        refine .inl (hr _ _ _ ⟨ι, h, σc, rs, rp, ?_⟩)
        rw [bind_ok] at q2
        simp only [evIl, e1, T.bind, el]
        exact q2
      cases wk with
      | vals =>
        simp only [wkI] at q
        cases w1 <;> first | exact q.elim | skip
        rename_i n
        simp only at q
        cases hx : h[n]? with
        | none => rw [hx] at q; exact q.elim
        | some o =>
          rw [hx] at q
          cases o <;> first | exact q.elim | skip
          · rename_i xs
            obtain ⟨d, hd, vs, g1, g2, g3, g4⟩ := rp.ob n _ hx
            obtain ⟨hL, hU⟩ := ro_dic hd g1 g2 g3 g4
            have e2 := simp_set hx (.d xs) a _ hs' e1
            refine .inr (lockS_go hr rs rp hd g1 trivial hL hU ?_)
            have hl : n < h.length := (List.getElem?_eq_some_iff.mp hx).1
            simp only [evIl, wkIl, e2, T.bind, List.getElem?_set_self hl]
            exact q
          · rename_i xs
            exact free _ (by simp only [wkIl, hx]) q
      | items =>
        simp only [wkI] at q
        cases w1 <;> first | exact q.elim | skip
        rename_i n
        simp only at q
        cases hx : h[n]? with
        | none => rw [hx] at q; exact q.elim
        | some o =>
          rw [hx] at q
          cases o <;> first | exact q.elim | skip
          · rename_i xs
            obtain ⟨d, hd, vs, g1, g2, g3, g4⟩ := rp.ob n _ hx
            obtain ⟨hL, hU⟩ := ro_dic hd g1 g2 g3 g4
            have e2 := simp_set hx (.d xs) a _ hs' e1
            refine .inr (lockS_go hr rs rp hd g1 trivial hL hU ?_)
            have hl : n < h.length := (List.getElem?_eq_some_iff.mp hx).1
            simp only [evIl, wkIl, e2, T.bind, List.getElem?_set_self hl]
            exact q
          · rename_i xs
            exact free _ (by simp only [wkIl, hx]) q
      | keysT =>
        simp only [wkI] at q
        cases w1 <;> first | exact q.elim | skip
        rename_i n
        simp only at q
        cases hx : h[n]? with
        | none => rw [hx] at q; exact q.elim
        | some o =>
          rw [hx] at q
          cases o <;> first | exact q.elim | skip
          · rename_i xs
            obtain ⟨d, hd, vs, g1, g2, g3, g4⟩ := rp.ob n _ hx
            obtain ⟨hL, hU⟩ := ro_dicT hd g1 g2 g3 g4
            have e2 := simp_set hx (.t xs) a _ hs' e1
            refine .inr (lockS_go hr rs rp hd g1 trivial hL hU ?_)
            have hl : n < h.length := (List.getElem?_eq_some_iff.mp hx).1
            simp only [evIl, wkIl, e2, T.bind, List.getElem?_set_self hl]
            exact q
          · rename_i xs
            exact free _ (by simp only [wkIl, hx]) q
      | enum =>
        simp only [wkI] at q
        cases w1 <;> first | exact q.elim | skip
        · rename_i xs
          exact free _ (by simp only [wkIl]) q
        · rename_i xs
          exact free _ (by simp only [wkIl]) q
        · rename_i n
          simp only at q
          cases hx : h[n]? with
          | none => rw [hx] at q; exact q.elim
          | some o =>
            rw [hx] at q
            cases o <;> first | exact q.elim | skip
            · rename_i xs
              obtain ⟨d, hd, vs, g1, g2, g3⟩ := rp.ob n _ hx
              obtain ⟨hL, hU⟩ := ro_lst hd g1 g2 g3
              have e2 := simp_set hx (.l xs) a _ hs' e1
              refine .inr (lockS_go hr rs rp hd g1 trivial hL hU ?_)
              have hl : n < h.length := (List.getElem?_eq_some_iff.mp hx).1
              simp only [evIl, wkIl, e2, T.bind, List.getElem?_set_self hl]
              exact q
            · rename_i xs
              exact free _ (by simp only [wkIl, hx]) q
      | rev =>
        simp only [wkI] at q
        cases w1 <;> first | exact q.elim | skip
        · rename_i xs
          exact free _ (by simp only [wkIl]) q
        · rename_i xs
          exact free _ (by simp only [wkIl]) q
        · rename_i n
          simp only at q
          cases hx : h[n]? with
          | none => rw [hx] at q; exact q.elim
          | some o =>
            rw [hx] at q
            cases o <;> first | exact q.elim | skip
            · rename_i xs
              obtain ⟨d, hd, vs, g1, g2, g3⟩ := rp.ob n _ hx
              obtain ⟨hL, hU⟩ := ro_lst hd g1 g2 g3
              have e2 := simp_set hx (.l xs) a _ hs' e1
              refine .inr (lockS_go hr rs rp hd g1 trivial hL hU ?_)
              have hl : n < h.length := (List.getElem?_eq_some_iff.mp hx).1
              simp only [evIl, wkIl, e2, T.bind, List.getElem?_set_self hl]
              exact q
            · rename_i xs
              exact free _ (by simp only [wkIl, hx]) q
  | _ => cases hs
theorem walkS_free {it : Z.I} {t : TS} {k : Z.Env → List W → EH → R} (hr : ∀ D σ H, tS I (fun σ h => (evIl C M ini it σ h).bind fun p h => k σ p.1 h) Wx D σ H → t D σ H) (hs : match it with | .seqR _ => False | .keys _ => False | .w _ _ => False | _ => True) {σ : St} {H : Hp} {D : Ends}
    (hw : tS I (fun σ h => (evI C M ini it σ h).bind fun p h => (k σ p.1 h).bind fun w h => .ok w (unlock p.2 h)) Wx D σ H) : t D σ H := by
  refine hr _ _ _ ?_
  have e : (fun σ h => (evI C M ini it σ h).bind fun p h => (k σ p.1 h).bind fun w h => T.ok w (unlock p.2 h)) = fun σ h => (evIl C M ini it σ h).bind fun p h => k σ p.1 h := by
    funext σ h
    cases it with
    | seq a =>
      simp only [evIl, evI, bind_assoc]
      congr 1
      funext x h
      cases x <;> simp only [T.bind] <;> exact bind_ok
    | rng a =>
      simp only [evIl, evI, bind_assoc]
      congr 1
      funext x h
      cases x <;> simp only [T.bind]
      split
      · exact bind_ok
      · rfl
    | rng2 a b =>
      simp only [evIl, evI, bind_assoc]
      congr 1
      funext x h
      congr 1
      funext y h
      cases x <;> cases y <;> simp only [T.bind]
      split
      · exact bind_ok
      · rfl
    | seqR _ => exact hs.elim
    | keys _ => exact hs.elim
    | w _ _ => exact hs.elim
    | zip a b => simp only [evIl, evI, T.bind]
  rw [e] at hw
  exact hw
theorem walkS_any {it : Z.I} {t : TS} {k : Z.Env → List W → EH → R} (ht : PS X st t) (hr : ∀ D σ H, tS I (fun σ h => (evIl C M ini it σ h).bind fun p h => k σ p.1 h) Wx D σ H → t D σ H) (hs : simpI it) :
    PS X st (tS I (fun σ h => (evI C M ini it σ h).bind fun p h => (k σ p.1 h).bind fun w h => .ok w (unlock p.2 h)) Wx) := by
  cases it with
  | seqR a => exact PS_imp (PS_or ht (ps_lock ht)) fun D σ H q => walkS_lock hr hs q
  | keys a => exact PS_imp (PS_or ht (ps_lock ht)) fun D σ H q => walkS_lock hr hs q
  | w k a => exact PS_imp (PS_or ht (ps_lock ht)) fun D σ H q => walkS_lock hr hs q
  | zip a b => exact PS_imp ht fun D σ H q => walkS_free hr trivial q
  | seq a => exact PS_imp ht fun D σ H q => walkS_free hr trivial q
  | rng a => exact PS_imp ht fun D σ H q => walkS_free hr trivial q
  | rng2 a b => exact PS_imp ht fun D σ H q => walkS_free hr trivial q

/-! ### readings -/
theorem r_seq {f g : Env → EH → R} {D : Ends} {σ : St} {H : Hp} (hw : tS I (fun σ h => (f σ h).bind fun p h => match p.1 with | .nx => g p.2 h | _ => .ok p h) Wx D σ H) : tSeq (tS I f Wx) (tS I g Wx) D σ H := by
  obtain ⟨ι, h, σc, rs, rp, q⟩ := hw
  refine ⟨ι, h, σc, rs, rp, (T.All.bind q).mono (fun p h1 q1 ι1 H1 σ1 e1 rp1 rs1 => ?_) fun _ _ z => z⟩
  obtain ⟨fl, σ2⟩ := p
  cases fl with
  | nx => exact ⟨ι1, h1, σ2, rs1, rp1, laterS q1 e1⟩
  | rt w => exact q1 ι1 H1 σ1 e1 rp1 rs1
  | bk => exact q1 ι1 H1 σ1 e1 rp1 rs1
  | ct => exact q1 ι1 H1 σ1 e1 rp1 rs1
theorem r_set {f : Env → EH → T W} {i : Nat} {D : Ends} {σ : St} {H : Hp} (hw : tS I (fun σ h => (f σ h).bind fun w h => .ok (.nx, σ.set i (some w)) h) Wx D σ H) : tE I f Wx σ H fun x H1 => D.nx (σ.set i (some x)) H1 := by
  obtain ⟨ι, h, σc, rs, rp, q⟩ := hw
  exact goS rs rp q fun ι1 H1 h1 w1 v1 e1 rs1 rp1 r1 q1 => nxt q1 rp1 (rs1.set r1)
theorem r_loop {g : G} {gt : TG} {fi : Env → EH → T (List W × Lk)} {fb : Env → EH → R} (hg : GOk I g gt) {σ : St} {H : Hp} {D : Ends}
    (hw : tS I (fun σ h => (fi σ h).bind fun p h => forS (fun x σ h => match store g x σ with | some σ' => fb σ' h | none => .fail) p.1 σ h) Wx D σ H) : tFor (tI I fi Wx) gt (tS I fb Wx) D σ H := by
  obtain ⟨ι, h, σc, rs, rp, q⟩ := hw
  refine ⟨ι, h, σc, rs, rp, (T.All.bind q).mono (fun pp h1 q1 ι1 H1 J e1 rp1 hJ => ?_) fun _ _ z => z⟩
  obtain ⟨xs, lk⟩ := pp
  obtain ⟨hlen, hJ⟩ := hJ
  simp only at q1 hlen hJ
  let Sx (i : Nat) (σ2 : St) (H2 : Hp) : Prop := ∃ ι2 h2 σc2, i ≤ xs.length ∧ Ext ι1 H1 ι2 H2 ∧ Rep I ι2 h2 H2 ∧ RS I ι2 H2 σc2 σ2 ∧
    (forS (fun x σ h => match store g x σ with | some σ' => fb σ' h | none => .fail) (xs.drop i) σc2 h2).All (Ps I ι H D) (Px I ι H Wx)
  refine ⟨fun i m σ2 H2 => m = xs.length - i ∧ Sx i σ2 H2, ⟨xs.length, by simp, ι1, h1, σc, Nat.zero_le _, Ext.refl, rp1, rs.ext e1, by rw [List.drop_zero]; exact q1⟩, ?_⟩
  rintro i m σ2 H2 ⟨rfl, ι2, h2, σc2, hi, e2, rp2, rs2, q3⟩
  obtain ⟨hj1, hj2⟩ := hJ ι2 H2 h2 e2.mo rp2 i
  by_cases hlt : i < xs.length
  · have hx : xs[i]? = some xs[i] := List.getElem?_eq_getElem hlt
    obtain ⟨hgo, hy⟩ := hj1 _ hx
    rw [List.drop_eq_getElem_cons hlt] at q3
    refine .inr ⟨hgo, Sx (i + 1), fun σ' H' st => ⟨xs.length - (i + 1), by omega, rfl, st⟩, fun x H3 y => ?_⟩
    obtain ⟨e3, rp3, rx⟩ := hy x H3 y
    have rs3 := rs2.ext e3
    simp only [forS] at q3
    have q4 := T.All.bind q3
    cases hst : store g xs[i] σc2 with
    | none => rw [hst] at q4; exact q4.elim
    | some σ' =>
      rw [hst] at q4
      obtain ⟨τ, rs4, hwp, hq⟩ := hg ι2 H3 _ _ _ _ _ rs3 rx hst
      have e13 := (e1.trans e2).trans e3
      refine hq _ ⟨ι2, h2, σ', rs4, rp3, T.All.mono (fun p h4 q5 ι4 H4 σ4 e4 rp4 rs5 => ?_) (fun c h4 z ι4 H4 e4 => z ι4 H4 (e13.trans e4)) q4⟩
      have e14 := (e2.trans e3).trans e4
      obtain ⟨fl, σ5⟩ := p
      cases fl with
      | nx => exact ⟨ι4, h4, σ5, hlt, e14, rp4, rs5, q5⟩
      | ct => exact ⟨ι4, h4, σ5, hlt, e14, rp4, rs5, q5⟩
      | bk => exact q5 ι4 H4 σ4 (e13.trans e4) rp4 rs5
      | rt w => exact q5 ι4 H4 σ4 (e13.trans e4) rp4 rs5
  · have hi2 : i = xs.length := by omega
    refine .inl ⟨hj2 (by omega), ?_⟩
    rw [hi2, List.drop_length] at q3
    exact q3 ι2 H2 σ2 (e1.trans e2) rp2 rs2
theorem r_whl {fc : Env → EH → T W} {fb : Env → EH → R} {n : Nat} {D : Ends} {σ : St} {H : Hp} (hw : tS I (fun σ h => whlN fc fb n σ h) Wx D σ H) : tWhile (tTest (tE I fc Wx)) (tS I fb Wx) D σ H := by
  obtain ⟨ι, h, σc, rs, rp, q⟩ := hw
  let Sx (m : Nat) (σ2 : St) (H2 : Hp) : Prop := ∃ ι2 h2 σc2, Ext ι H ι2 H2 ∧ Rep I ι2 h2 H2 ∧ RS I ι2 H2 σc2 σ2 ∧ (whlN fc fb m σc2 h2).All (Ps I ι H D) (Px I ι H Wx)
  refine ⟨Sx, ⟨n, ι, h, σc, Ext.refl, rp, rs, q⟩, ?_⟩
  rintro m σ2 H2 ⟨ι2, h2, σc2, e2, rp2, rs2, q2⟩
  cases m with
  | zero => exact q2.elim
  | succ m =>
    simp only [whlN] at q2
    refine ⟨ι2, h2, σc2, rs2, rp2, (T.All.bind q2).mono (fun w3 h3 q4 ι3 H3 v3 e3 rp3 r3 => ?_) fun c h3 z ι3 H3 e3 => z ι3 H3 (e2.trans e3)⟩
    obtain ⟨k, rfl, rfl, q5⟩ := finKS' r3 q4
    refine ⟨k, rfl, ?_⟩
    have e23 := e2.trans e3
    cases k with
    | false =>
      rw [if_neg Bool.false_ne_true] at q5
      exact q5 ι3 H3 σ2 e23 rp3 (rs2.ext e3)
    | true =>
      rw [if_pos rfl] at q5
      refine ⟨fun σ' H' => Sx m σ' H', fun σ' H' z => ⟨m, Nat.lt_succ_self _, z⟩, ι3, h3, σc2, rs2.ext e3, rp3, ?_⟩
      refine (T.All.bind q5).mono (fun p h4 q7 ι4 H4 σ4 e4 rp4 rs5 => ?_) fun c h4 z ι4 H4 e4 => z ι4 H4 (e23.trans e4)
      obtain ⟨fl, σ5⟩ := p
      cases fl with
      | nx => exact ⟨ι4, h4, σ5, e23.trans e4, rp4, rs5, q7⟩
      | ct => exact ⟨ι4, h4, σ5, e23.trans e4, rp4, rs5, q7⟩
      | bk => exact q7 ι4 H4 σ4 (e23.trans e4) rp4 rs5
      | rt w => exact q7 ι4 H4 σ4 (e23.trans e4) rp4 rs5
end
end Z
namespace Z
open PySem PySem.Spec L2
/-- what is asked of a def's body -/
structure Bs (X : Cx) : Prop where
  kind : X.env.scope.kind = .function
  pass : PassesOwn (model X.prog X.w) X.A X.env X.xe
section
variable {X : Cx} {I : Inf} {B : Tb} {Wx : XK} {a b c e o value : Expr} {fa fb fc fe : Env → EH → T W} {pos p p2 pos' : Pos} {σc : Env} {C : CallH} {M : MTab} {ini : Nat → Nat} {lv : Nat} {fn : Nat → Addr} {fd : Nat → FuncData} {st : Stmt}
theorem augO {op : Op} (hop : op ≠ .pow) : OpR X (inplaceOp (opR op)) (fun x y H Q => ∃ i j w, x = .int i ∧ y = .int j ∧ opW op (.int i) (.int j) = some w ∧ ∀ v, (∃ k, w = .int k ∧ v = .int k) → Q v H) := by
  intro pins s σ H x y v u Q J rx ry h
  obtain ⟨i, j, w, rfl, rfl, ew, k⟩ := h
  cases op with
  | add =>
    simp only [opW, Option.some.injEq] at ew
    subst ew
    exact iop_add pins s σ H _ _ v u Q J rx ry ⟨i, j, rfl, rfl, k _ ⟨_, rfl, rfl⟩⟩
  | sub =>
    simp only [opW, Option.some.injEq] at ew
    subst ew
    exact iop_sub pins s σ H _ _ v u Q J rx ry ⟨i, j, rfl, rfl, k _ ⟨_, rfl, rfl⟩⟩
  | mul =>
    simp only [opW] at ew
    split at ew
    · rename_i hc
      cases ew
      exact iop_mul pins s σ H _ _ v u Q J rx ry ⟨i, j, rfl, rfl, hc, k _ ⟨_, rfl, rfl⟩⟩
    · cases ew
  | fdiv =>
    simp only [opW] at ew
    split at ew
    · rename_i hc
      cases ew
      exact iop_fdiv pins s σ H _ _ v u Q J rx ry ⟨i, j, rfl, rfl, hc, k _ ⟨_, rfl, rfl⟩⟩
    · cases ew
  | mod =>
    simp only [opW] at ew
    split at ew
    · rename_i hc
      cases ew
      exact iop_mod pins s σ H _ _ v u Q J rx ry ⟨i, j, rfl, rfl, hc, k _ ⟨_, rfl, rfl⟩⟩
    · cases ew
  | pow => exact absurd rfl hop
theorem aug_in {op : Op} {ι : Pl} {H : Hp} {w1 w2 w : W} {v1 v2 : V} {Q : VK} (r1 : RW I ι H w1 v1) (r2 : RW I ι H w2 v2) (ew : opW op w1 w2 = some w) (q : ∀ v, RW I ι H w v → Q v H) :
    ∃ i j w, v1 = .int i ∧ v2 = .int j ∧ opW op (.int i) (.int j) = some w ∧ ∀ v, (∃ k, w = .int k ∧ v = .int k) → Q v H := by
  cases r1 <;> cases r2 <;> first | (simp [opW] at ew; done) | skip
  all_goals first | (cases op <;> simp [opW] at ew; done) | skip
  exact ⟨_, _, w, rfl, rfl, ew, fun v ⟨k, e1, e2⟩ => by subst e1; subst e2; exact q _ (.int _)⟩
theorem z_ret (he : PE X e (tE I fe Wx)) : PS X (.Return (some e) pos) (tS I (fun σ h => (fe σ h).bind fun w h => .ok (.rt w, σ) h) Wx) :=
  PS_imp (ps_ret he) fun D σ H ⟨ι, h, σc, rs, rp, q⟩ => goS rs rp q fun ι1 H1 h1 w1 v1 e1 rs1 rp1 r1 q1 => q1 ι1 H1 σ Ext.refl rp1 rs1 v1 r1
theorem z_retN : PS X (.Return none pos) (tS I (fun σ h => .ok (.rt .non, σ) h) Wx) := PS_imp ps_retN fun D σ H ⟨ι, h, σc, rs, rp, q⟩ => q ι H σ Ext.refl rp rs .non .non
theorem z_pass : PS X (.Pass pos) (tS I (fun σ h => .ok (.nx, σ) h) Wx) := PS_imp ps_pass fun D σ H ⟨ι, h, σc, rs, rp, q⟩ => nxt q rp rs
theorem z_brk : PS X (.Break pos) (tS I (fun σ h => .ok (.bk, σ) h) Wx) := PS_imp ps_break fun D σ H ⟨ι, h, σc, rs, rp, q⟩ => q ι H σ Ext.refl rp rs
theorem z_cont : PS X (.Continue pos) (tS I (fun σ h => .ok (.ct, σ) h) Wx) := PS_imp ps_continue fun D σ H ⟨ι, h, σc, rs, rp, q⟩ => q ι H σ Ext.refl rp rs
theorem z_expr (hp : plain e = true) (hl : isLc e = false) (he : PE X e (tE I fe Wx)) : PS X (.Expr e pos) (tS I (fun σ h => (fe σ h).bind fun _ h => .ok (.nx, σ) h) Wx) :=
  PS_imp (ps_expr he (swL hp hl)) fun D σ H ⟨ι, h, σc, rs, rp, q⟩ => goS rs rp q fun ι1 H1 h1 w1 v1 e1 rs1 rp1 r1 q1 => nxt q1 rp1 rs1
theorem z_ite {t u : List Stmt} {ft fu : Env → EH → R} (hc : PT X c (tTest (tE I fc Wx))) (h1 : PSs X t (tS I ft Wx)) (h2 : PSs X u (tS I fu Wx)) : PS X (.If c t u pos) (tS I (fun σ h => (fc σ h).bind fun x h => boolK x fun k => if k then ft σ h else fu σ h) Wx) := by
  refine PS_imp (ps_if hc h1 h2) fun D σ H ⟨ι, h, σc, rs, rp, q⟩ => ?_
  refine goS rs rp q fun ι1 H1 h1 w1 v1 e1 rs1 rp1 r1 q1 => ?_
  obtain ⟨k, rfl, rfl, q2⟩ := finKS r1 q1
  refine ⟨k, rfl, ?_⟩
  cases k with
  | true => rw [if_pos rfl] at q2 ⊢; exact ⟨ι1, h1, σc, rs1, rp1, q2⟩
  | false => rw [if_neg Bool.false_ne_true] at q2 ⊢; exact ⟨ι1, h1, σc, rs1, rp1, q2⟩
theorem z_set (S : Cs B I X) {i : Nat} {y : Str} {py : Pos} (hp : plain e = true) (hl : isLc e = false) (hL : chkL X.N X.fn X.env.scope i y = true) (he : PE X e (tE I fe Wx)) :
    PS X (.Assign [.Name y py] e pos) (tS I (fun σ h => (fe σ h).bind fun w h => .ok (.nx, σ.set i (some w)) h) Wx) := by
  simp only [chkL, Bool.and_eq_true, decide_eq_true_eq] at hL
  obtain ⟨l1, l2⟩ := loc_of hL.2
  exact PS_imp (ps_set S.nd hL.1 l1 he (swL hp hl) l2) fun D σ H q => r_set q
theorem swS {t e : Expr} {l : Nat} {env : PySem.Env} : swapsWithSole [t] e l env = swapsWith e (some t) l env := rfl
theorem mem_putK : ∀ {ls : List (Key × V)} {y z : Key} {v : V}, z ∈ (putK ls y v).map (·.1) → z = y ∨ z ∈ ls.map (·.1) := by
  intro ls y z v h
  unfold putK at h
  split at h
  · rw [List.map_map] at h
    obtain ⟨q, hq, e⟩ := List.mem_map.mp h
    refine .inr (List.mem_map.mpr ⟨q, hq, ?_⟩)
    rw [← e]
    simp only [Function.comp]
    split <;> rfl
  · rw [List.map_append] at h
    rcases List.mem_append.mp h with h | h
    · exact .inr h
    · exact .inl (by simpa using h)
theorem putK_nd {ls : List (Key × V)} {y : Key} {v : V} (hn : (ls.map (·.1)).Nodup) : ((putK ls y v).map (·.1)).Nodup := by
  induction ls with
  | nil => simp [putK]
  | cons a ls ih =>
    obtain ⟨z, u⟩ := a
    simp only [List.map_cons, List.nodup_cons] at hn
    rw [putK_cons hn.1]
    split
    · simp only [List.map_cons, List.nodup_cons]
      exact hn
    · rename_i ne
      simp only [List.map_cons, List.nodup_cons]
      refine ⟨fun h => ?_, ih hn.2⟩
      rcases mem_putK h with h | h
      · exact ne h
      · exact hn.1 h
theorem sw_none {ts vs : List Expr} {k k2 : Nat} {q q2 : Pos} (ht : isTp X.env.scope ts (.Tuple vs k q) = false) : swappedStores [.Tuple ts k2 q2] (.Tuple vs k q) X.env = pure none := by
  unfold swappedStores
  simp only []
  split
  · rfl
  · rename_i h1
    split
    · rfl
    · split
      · rfl
      · rename_i h3
        split
        · rfl
        · rename_i h4
          exfalso
          simp only [isTp, Bool.and_eq_false_iff, Bool.not_eq_false', List.any_eq_true] at ht
          rcases ht with (ht | ⟨x, hx, hb⟩) | ht
          · simp [ht] at h1
          · refine h3 ?_
            simp only [Bool.or_eq_true]
            refine .inl (bne_iff_ne.mpr fun z => ?_)
            have := (List.filterMap_length_eq_length.mp z) x hx
            cases x <;> first | (simp at this; done) | skip
            simp only [Bool.not_eq_true'] at hb
            have hk : (X.env.kindOf _ == some NameKind.local) = false := hb
            simp [hk] at this
          · exact h4 ht
theorem z_tup (S : Cs B I X) {is : List Nat} {es : List Expr} {k : Nat} (hp : plain e = true) (hl : isLc e = false) (ht : isTp X.env.scope es e = false) (hL : chkNs X.N X.fn X.env.scope is es = true) (he : PE X e (tE I fe Wx)) :
    PS X (.Assign [.Tuple es k p] e pos) (tS I (fun σ h => (fe σ h).bind fun w h => match w with
      | .tup ws => ofO ((setAll σ is ws).map fun σ => (Fl.nx, σ)) h
      | _ => .fail) Wx) := by
  have hg := g_ok (g := .tup is) (e := .Tuple es k p) S (by simp only [chkG]; exact hL)
  have hw : swappedStores [.Tuple es k p] e X.env = pure none := by
    cases e <;> first | rfl | (cases hp; done) | skip
    exact sw_none ht
  refine PS_imp (ps_asg he hg (swS.trans (swL hp hl)) hw) fun D σ H ⟨ι, h, σc, rs, rp, q⟩ => ?_
  refine goS rs rp q fun ι1 H1 h1 w1 v1 e1 rs1 rp1 r1 q1 => ?_
  split at q1
  · rename_i ws
    cases hs : setAll σc is ws with
    | none => rw [hs] at q1; exact q1.elim
    | some σ' =>
      rw [hs] at q1
      obtain ⟨τ, t1, t2, t3⟩ := gok (I := I) X.K (.tup is) ι1 H1 _ _ _ _ _ rs1 r1 (by simp only [store]; exact hs)
      exact t3 _ (nxt q1 rp1 t1)
  · exact q1.elim
theorem set_fld (S : Cs B I X) {ι : Pl} {H : Hp} {h h' : EH} {w y : W} {v z : V} {f : Nat} {n : Str} (hn : I.fl[f]? = some n) (rp : Rep I ι h H) (rw' : RW I ι H w v) (ry : RW I ι H y z) (e : setFld w f y h = some h') :
    ∃ a C dx fs, v = .ref a ∧ H a = some (.ins C dx fs) ∧ Cls X.K C ∧ NoAttr X.K C n ∧ fs.length < 1000 ∧ Ext ι H ι (upd H a (.ins C dx (putF n z fs))) ∧ Rep I ι h' (upd H a (.ins C dx (putF n z fs))) := by
  unfold setFld at e
  split at e
  · rename_i m
    split at e
    · rename_i c fs hx
      split at e
      · rename_i hl
        cases e
        obtain ⟨m', p, dx, ls, e0, hm, rfl, hH, rf, hl2, hc, hh⟩ := rp.ins rw' (show insOf h (.ref m) = some (c, fs) by simp only [insOf, hx])
        cases e0
        obtain ⟨k1, k2⟩ := S.cls c hc
        have nf : ∀ o u, H p ≠ some (.frz o u) := fun o u z => by rw [hH] at z; cases z
        refine ⟨p, _, dx, ls, rfl, hH, by rw [S.K]; exact k1, by rw [S.K]; exact k2 n (List.mem_of_getElem? hn), by rw [← rf.len]; omega, Ext.chg hm nf, rp.chg hm nf ?_⟩
        refine ⟨dx, _, upd_same, (RF.put S.fnd hn ry rf).ext (Ext.chg hm nf), ?_, hc⟩
        have : ∀ {fs : List (Nat × W)}, (putf fs f y).length ≤ fs.length + 1 := by
          intro fs
          induction fs with
          | nil => simp [putf]
          | cons x r ih =>
            simp only [putf]
            split <;> simp <;> omega
        have := this (fs := fs)
        omega
      · cases e
    · cases e
  · cases e
theorem same_c {h h' : EH} {x : W} {c : Nat} {o : Option EH} (e : sameC h x c o = some h') : ∃ d fs, insOf h x = some (d, fs) ∧ d = c ∧ o = some h' := by
  unfold sameC at e
  split at e
  · rename_i d fs hx
    split at e
    · exact ⟨d, fs, hx, by assumption, e⟩
    · cases e
  · cases e
theorem z_fld (S : Cs B I X) {f : Nat} {n : Str} (hn : I.fl[f]? = some n) (hp : plain e = true) (he : PE X e (tE I fe Wx)) (ha : PE X a (tE I fa Wx)) :
    PS X (.Assign [.Attribute a n p] e pos) (tS I (fun σ h => (fe σ h).bind fun w h => (fa σ h).bind fun x h => nxH σ (setFld x f w h)) Wx) := by
  refine PS_imp (ps_fld ha he (swF hp (by intro _ _ z; cases z))) fun D σ H ⟨ι, h, σc, rs, rp, q⟩ => ?_
  refine goS rs rp q fun ι1 H1 h1 w1 v1 e1 rs1 rp1 r1 q1 => ?_
  refine goS rs1 rp1 q1 fun ι2 H2 h2 w2 v2 e2 rs2 rp2 r2 q2 => ?_
  obtain ⟨h3, eh, q3⟩ := nxO q2
  obtain ⟨ad, Cc, dx, fs, k1, k2, k3, k4, k5, k6, k7⟩ := set_fld S hn rp2 r2 (r1.ext e2) eh
  exact ⟨ad, Cc, dx, fs, k1, k2, k3, k4, k5, nxt (laterS q3 k6) k7 (rs2.ext k6)⟩
theorem z_sub (S : Cs B I X) (hp : plain e = true) (hpi : plain b = true) (he : PE X e (tE I fe Wx)) (ha : PE X a (tE I fa Wx)) (hb : PE X b (tE I fb Wx)) :
    PS X (.Assign [.Subscript a b p] e pos) (tS I (fun σ h => (fe σ h).bind fun w h => (fa σ h).bind fun x h => (fb σ h).bind fun y h => nxH σ (setIx x y w h)) Wx) := by
  refine PS_imp (ps_asg he (pg_sub ha hb set_list (by intro v; cases b <;> first | rfl | (cases hpi; done))) (swS.trans (swF hp (by intro _ _ z; cases z))) ?_ ?_) fun D σ H ⟨ι, h, σc, rs, rp, q⟩ => ?_
  · cases e <;> first | rfl | (cases hp; done)
  · rfl
  refine goS rs rp q fun ι1 H1 h1 w1 v1 e1 rs1 rp1 r1 q1 => ?_
  refine goS rs1 rp1 q1 fun ι2 H2 h2 w2 v2 e2 rs2 rp2 r2 q2 => ?_
  refine goS rs2 rp2 q2 fun ι3 H3 h3 w3 v3 e3 rs3 rp3 r3 q3 => ?_
  obtain ⟨h4, eh, q4⟩ := nxO q3
  have ra := r2.ext e3
  have ry := (r1.ext e2).ext e3
  unfold setIx at eh
  split at eh
  · rename_i m k
    cases ra with
    | ref hm =>
      cases r3
      split at eh
      · rename_i xs hx
        split at eh
        · rename_i j hj
          cases eh
          obtain ⟨vs, g1, g2, g3⟩ := rp3.at hm hx
          have nf : ∀ o u, H3 _ ≠ some (.frz o u) := fun o u z => by rw [g1] at z; cases z
          refine ⟨_, vs, k, j, rfl, rfl, g1, ?_, nxt (laterS q4 (Ext.chg hm nf)) (rp3.chg hm nf ⟨_, upd_same, (RWs.set ry j g2).ext (Ext.chg hm nf), by simpa using g3⟩) (rs3.ext (Ext.chg hm nf))⟩
          rw [← g2.length]
          exact hj
        · cases eh
      · cases eh
  · cases eh
theorem dput_len : ∀ {kvs : List (W × W)} {y w : W}, (dput kvs y w).length ≤ kvs.length + 1
  | [], y, w => by simp [dput]
  | (j, u) :: r, y, w => by
    have := dput_len (kvs := r) (y := y) (w := w)
    simp only [dput]
    split <;> simp <;> omega
theorem z_dsub (S : Cs B I X) (hp : plain e = true) (hpi : plain b = true) (he : PE X e (tE I fe Wx)) (ha : PE X a (tE I fa Wx)) (hb : PE X b (tE I fb Wx)) :
    PS X (.Assign [.Subscript a b p] e pos) (tS I (fun σ h => (fe σ h).bind fun w h => (fa σ h).bind fun x h => (fb σ h).bind fun y h => nxH σ (setDx x y w h)) Wx) := by
  refine PS_imp (ps_dput (by have := S.hu; omega) ha hb he (swF hp (by intro _ _ z; cases z))) fun D σ H ⟨ι, h, σc, rs, rp, q⟩ => ?_
  refine goS rs rp q fun ι1 H1 h1 w1 v1 e1 rs1 rp1 r1 q1 => ?_
  refine goS rs1 rp1 q1 fun ι2 H2 h2 w2 v2 e2 rs2 rp2 r2 q2 => ?_
  refine goS rs2 rp2 q2 fun ι3 H3 h3 w3 v3 e3 rs3 rp3 r3 q3 => ?_
  obtain ⟨h4, eh, q4⟩ := nxO q3
  have ra := r2.ext e3
  have ry := (r1.ext e2).ext e3
  unfold setDx at eh
  split at eh
  · rename_i m
    cases ra with
    | ref hm =>
      split at eh
      · rename_i xs hx
        split at eh
        · rename_i hk
          cases eh
          obtain ⟨ls, g1, g2, g3, g4⟩ := rp3.at hm hx
          obtain ⟨y, rfl, rk⟩ := isKey_kV r3 hk.1
          have nf : ∀ o u, H3 _ ≠ some (.frz o u) := fun o u z => by rw [g1] at z; cases z
          refine ⟨_, _, rfl, .inl ⟨ls, y, g1, rfl, ?_, rfl⟩, nxt (laterS q4 (Ext.chg hm nf)) (rp3.chg hm nf ⟨_, upd_same, (RKV.put rk ry g4 g2).ext (Ext.chg hm nf), ?_, ?_⟩) (rs3.ext (Ext.chg hm nf))⟩
          · rw [← RKV.len g2]; exact Nat.lt_of_lt_of_le hk.2 (by decide)
          · exact Nat.le_trans (dput_len (kvs := xs) (y := w3) (w := w1)) hk.2
          · exact putK_nd g4
        · cases eh
      · cases eh
  · cases eh
theorem z_augN (S : Cs B I X) {i : Nat} {y : Str} {py : Pos} {op : Op} (hop : op ≠ .pow) (hL : chkL X.N X.fn X.env.scope i y = true) (he : PE X e (tE I fe Wx)) :
    PS X (.AugAssign (.Name y py) (opR op) e pos) (tS I (fun σ h => match σ[i]? with
      | some (some x) => (fe σ h).bind fun y h => (ofO (opW op x y) h).bind fun w h => .ok (.nx, σ.set i (some w)) h
      | _ => .fail) Wx) := by
  simp only [chkL, Bool.and_eq_true, decide_eq_true_eq] at hL
  obtain ⟨l1, l2⟩ := loc_of hL.2
  refine PS_imp (ps_aug S.nd hL.1 l1 he (ti := _) (augO hop) l2) fun D σ H ⟨ι, h, σc, rs, rp, q⟩ => ?_
  have q : (match σc[i]? with
      | some (some x) => (fe σc h).bind fun y h => (ofO (opW op x y) h).bind fun w h => T.ok (Fl.nx, σc.set i (some w)) h
      | _ => .fail).All (Ps I ι H D) (Px I ι H Wx) := q
  split at q
  · rename_i x hx
    obtain ⟨v, h1, h2⟩ := rs.2 i x hx
    refine ⟨v, h1, goS rs rp q fun ι1 H1 h1 w1 v1 e1 rs1 rp1 r1 q1 => ?_⟩
    obtain ⟨w, ew, q2⟩ := finOS q1
    exact aug_in (h2.ext e1) r1 ew fun v rv => nxt q2 rp1 (rs1.set rv)
  · exact q.elim
theorem z_augF (S : Cs B I X) {f : Nat} {n : Str} {op : Op} (hop : op ≠ .pow) (hn : I.fl[f]? = some n) (he : PE X e (tE I fe Wx)) (ha : PE X a (tE I fa Wx)) :
    PS X (.AugAssign (.Attribute a n p) (opR op) e pos) (tS I (fun σ h => (fa σ h).bind fun x h => match insOf h x with
    | some (c, fs) => (ofO (look fs f) h).bind fun y h => (fe σ h).bind fun z h => (ofO (opW op y z) h).bind fun w h => nxH σ (sameC h x c (setFld x f w h))
    | none => .fail) Wx) := by
  refine PS_imp (ps_fldaug ha he (augO hop)) fun D σ H ⟨ι, h, σc, rs, rp, q⟩ => ?_
  refine goS rs rp q fun ι1 H1 h1 w1 v1 e1 rs1 rp1 r1 q1 => ?_
  split at q1
  · rename_i c fs hx
    obtain ⟨m, p, dx, ls, rfl, hm, rfl, hH, rf, hl, hc, hh⟩ := rp1.ins r1 hx
    obtain ⟨w, ew, q2⟩ := finOS q1
    obtain ⟨v, hv, rv⟩ := RF.look S.fnd hn rf ew
    obtain ⟨k1, k2⟩ := S.cls c hc
    refine ⟨p, _, dx, ls, v, rfl, hH, by rw [S.K]; exact k1, by rw [S.K]; exact k2 n (List.mem_of_getElem? hn), hv, ?_⟩
    refine goS rs1 rp1 q2 fun ι2 H2 h2 w2 v2 e2 rs2 rp2 r2 q3 => ?_
    obtain ⟨w3, ew3, q4⟩ := finOS q3
    refine aug_in (Q := fun z H3 => ∃ dx' fs', H3 p = some (.ins (I.ca c) dx' fs') ∧ fs'.length < 1000 ∧ D.nx σ (upd H3 p (.ins (I.ca c) dx' (putF n z fs')))) (rv.ext e2) r2 ew3 fun v3 rv3 => ?_
    obtain ⟨h4, eh, q5⟩ := nxO q4
    obtain ⟨c2, fs2, eh2, e0c, eh3⟩ := same_c eh
    subst e0c
    obtain ⟨ad, Cc, dx', fs', g1, g2, g3, g4, g5, g6, g7⟩ := set_fld S hn rp2 (r1.ext e2) rv3 eh3
    cases g1
    obtain ⟨m', p', dx2, ls2, e0, hm', e0', hH2, rf2, hl2, hc2, hh2⟩ := rp2.ins (r1.ext e2) eh2
    cases e0'
    rw [g2] at hH2
    cases hH2
    exact ⟨_, _, g2, g5, nxt (laterS q5 g6) g7 (rs2.ext g6)⟩
  · exact q1.elim
end
end Z
namespace Z
open PySem PySem.Spec L2
section
variable {X : Cx} {I : Inf} {B : Tb} {Wx : XK} {a b c e o value : Expr} {fa fb fc fe : Env → EH → T W} {pos p p2 pos' : Pos} {σc : Env} {st : Stmt}
theorem aug_in' {op : Op} {ι : Pl} {H : Hp} {w1 w2 w : W} {v1 v2 : V} {P : V → Prop} (r1 : RW I ι H w1 v1) (r2 : RW I ι H w2 v2) (ew : opW op w1 w2 = some w) (q : ∀ v, RW I ι H w v → P v) :
    ∃ i j w, v1 = .int i ∧ v2 = .int j ∧ opW op (.int i) (.int j) = some w ∧ ∀ v, (∃ k, w = .int k ∧ v = .int k) → P v := aug_in (Q := fun v _ => P v) r1 r2 ew q
theorem get_list : PGet X (rIxL X.K) := by
  intro pins s σ H x y v u Q I rx ry h
  obtain ⟨p, xs, i, z, rfl, rfl, hq, he, q⟩ := h
  cases rx
  obtain ⟨t, rfl⟩ := ry
  obtain ⟨its, r, pl, hz⟩ := I.list hq
  obtain ⟨j, h1, h2, h3, h4, h5⟩ := atI_get he
  obtain ⟨w, ew, rw'⟩ := r.get h2
  have hl := r.length
  have hn := line63
  have fin : EP X pins σ Q w s := ⟨z, H, I, rw', q⟩
  by_cases h0 : 0 ≤ i
  · have hj : i.toNat = j := by
      rw [seqIndex_of h0 h5] at h1
      exact Option.some.inj h1
    exact wpAny_getItem_list pl.isList h0 (by omega) (by rw [hj]; simpa using ew) fin
  · have hj : (i + (its.toArray.size : Int)).toNat = j := by
      rw [seqIndex_neg (by omega) h4] at h1
      rw [List.size_toArray, ← hl]
      exact Option.some.inj h1
    exact wpAny_getItem_list_neg pl.isList (by omega) (by rw [List.size_toArray] <;> omega) (by omega) (by rw [hj]; simpa using ew) fin
theorem putT_nd {ls : List (List Key × V)} {y : List Key} {v : V} (hn : (ls.map (·.1)).Nodup) : ((putK ls y v).map (·.1)).Nodup := by
  unfold putK
  split
  · rw [List.map_map]
    have : ls.map ((fun kv => kv.1) ∘ fun kv : List Key × V => if kv.1 = y then (kv.1, v) else kv) = ls.map (·.1) := by
      refine List.map_congr_left fun p _ => ?_
      show (if p.1 = y then (p.1, v) else p).1 = p.1
      split <;> rfl
    rw [this]
    exact hn
  · rename_i h
    rw [List.map_append]
    refine List.nodup_append.mpr ⟨hn, by simp, fun a ha b hb e => h ?_⟩
    have : b = y := by simpa using hb
    subst this
    subst e
    obtain ⟨p, hp, e⟩ := List.mem_map.mp ha
    exact List.any_eq_true.mpr ⟨p, hp, by simpa using e⟩
theorem tput_len : ∀ {kvs : List (W × W)} {y w : W}, (tput kvs y w).length ≤ kvs.length + 1
  | [], y, w => by simp [tput]
  | (j, u) :: r, y, w => by
    have := tput_len (kvs := r) (y := y) (w := w)
    simp only [tput]
    split <;> simp <;> omega
theorem augSt (hp : plain b = true) : ∀ ov iv new, augStore b ov iv new = (do holding [new, ov, iv] (setItem ov iv new); release [new, ov, iv] []; pure .next) := by
  intro ov iv new
  cases b <;> first | rfl | cases hp
/-- what a store into a list does -/
theorem set_ix {σ : L2.St} {D : Ends} {ι : Pl} {h h4 : EH} {H : Hp} {x y w : W} {vx vy v : V} (rp : Rep I ι h H) (rs : RS I ι H σc σ) (rx : RW I ι H x vx) (ry : RW I ι H y vy) (rw' : RW I ι H w v) (eh : setIx x y w h = some h4) (q : (T.ok (Fl.nx, σc) h4).All (Ps I ι H D) (Px I ι H Wx)) :
    rSetL vx vy v H fun H' => D.nx σ H' := by
  unfold setIx at eh
  split at eh
  · rename_i m k
    cases rx with
    | ref hm =>
      cases ry
      split at eh
      · rename_i xs hx
        split at eh
        · rename_i j hj
          cases eh
          obtain ⟨vs, g1, g2, g3⟩ := rp.at hm hx
          have nf : ∀ o u, H _ ≠ some (.frz o u) := fun o u z => by rw [g1] at z; cases z
          refine ⟨_, vs, k, j, rfl, rfl, g1, ?_, nxt (laterS q (Ext.chg hm nf)) (rp.chg hm nf ⟨_, upd_same, (RWs.set rw' j g2).ext (Ext.chg hm nf), by simpa using g3⟩) (rs.ext (Ext.chg hm nf))⟩
          rw [← g2.length]
          exact hj
        · cases eh
      · cases eh
  · cases eh
theorem set_dx {σ : L2.St} {D : Ends} {ι : Pl} {h h4 : EH} {H : Hp} {x y w : W} {vx vy v : V} (rp : Rep I ι h H) (rs : RS I ι H σc σ) (rx : RW I ι H x vx) (ry : RW I ι H y vy) (rw' : RW I ι H w v) (eh : setDx x y w h = some h4) (q : (T.ok (Fl.nx, σc) h4).All (Ps I ι H D) (Px I ι H Wx)) :
    ∃ a H4, vx = .ref a ∧ DPut H a vy v H4 ∧ D.nx σ H4 := by
  unfold setDx at eh
  split at eh
  · rename_i m
    cases rx with
    | ref hm =>
      split at eh
      · rename_i xs hx
        split at eh
        · rename_i hk
          cases eh
          obtain ⟨ls, g1, g2, g3, g4⟩ := rp.at hm hx
          obtain ⟨y, rfl, rk⟩ := isKey_kV ry hk.1
          have nf : ∀ o u, H _ ≠ some (.frz o u) := fun o u z => by rw [g1] at z; cases z
          refine ⟨_, _, rfl, .inl ⟨ls, y, g1, rfl, ?_, rfl⟩, nxt (laterS q (Ext.chg hm nf)) (rp.chg hm nf ⟨_, upd_same, (RKV.put rk rw' g4 g2).ext (Ext.chg hm nf), ?_, ?_⟩) (rs.ext (Ext.chg hm nf))⟩
          · rw [← RKV.len g2]; exact Nat.lt_of_lt_of_le hk.2 (by decide)
          · exact Nat.le_trans (dput_len (kvs := xs) (y := _) (w := w)) hk.2
          · exact putK_nd g4
        · cases eh
      · cases eh
  · cases eh
theorem set_tx {σ : L2.St} {D : Ends} {ι : Pl} {h h4 : EH} {H : Hp} {x y w : W} {vx vy v : V} (rp : Rep I ι h H) (rs : RS I ι H σc σ) (rx : RW I ι H x vx) (ry : RW I ι H y vy) (rw' : RW I ι H w v) (eh : setTx x y w h = some h4) (q : (T.ok (Fl.nx, σc) h4).All (Ps I ι H D) (Px I ι H Wx)) :
    ∃ a H4, vx = .ref a ∧ DPut H a vy v H4 ∧ D.nx σ H4 := by
  unfold setTx at eh
  split at eh
  · rename_i m
    cases rx with
    | ref hm =>
      split at eh
      · rename_i xs hx
        split at eh
        · rename_i hk
          cases eh
          obtain ⟨ls, g1, g2, g3, g4⟩ := rp.at hm hx
          obtain ⟨bb, y, rfl, hb', rk, hn⟩ := isKeyT_kV ry hk.1
          have nf : ∀ o u, H _ ≠ some (.frz o u) := fun o u z => by rw [g1] at z; cases z
          refine ⟨_, _, rfl, .inr ⟨ls, y, bb, g1, rfl, hb', ?_, rfl⟩, nxt (laterS q (Ext.chg hm nf)) (rp.chg hm nf ⟨_, upd_same, (RKVT.put rk rw' g4 g2).ext (Ext.chg hm nf), ?_, ?_⟩) (rs.ext (Ext.chg hm nf))⟩
          · have : xs.length = ls.length := Paired.length g2
            rw [← this]; exact Nat.lt_of_lt_of_le hk.2 (by decide)
          · exact Nat.le_trans (tput_len (kvs := xs) (y := _) (w := w)) hk.2
          · exact putT_nd g4
        · cases eh
      · cases eh
  · cases eh
theorem z_tsub (S : Cs B I X) (hp : plain e = true) (hpi : plain b = true) (he : PE X e (tE I fe Wx)) (ha : PE X a (tE I fa Wx)) (hb : PE X b (tE I fb Wx)) :
    PS X (.Assign [.Subscript a b p] e pos) (tS I (fun σ h => (fe σ h).bind fun w h => (fa σ h).bind fun x h => (fb σ h).bind fun y h => nxH σ (setTx x y w h)) Wx) := by
  refine PS_imp (ps_dput (by have := S.hu; omega) ha hb he (swF hp (by intro _ _ z; cases z))) fun D σ H ⟨ι, h, σc, rs, rp, q⟩ => ?_
  refine goS rs rp q fun ι1 H1 h1 w1 v1 e1 rs1 rp1 r1 q1 => ?_
  refine goS rs1 rp1 q1 fun ι2 H2 h2 w2 v2 e2 rs2 rp2 r2 q2 => ?_
  refine goS rs2 rp2 q2 fun ι3 H3 h3 w3 v3 e3 rs3 rp3 r3 q3 => ?_
  obtain ⟨h4, eh, q4⟩ := nxO q3
  exact set_tx rp3 rs3 (r2.ext e3) r3 ((r1.ext e2).ext e3) eh q4
theorem z_augS (S : Cs B I X) {op : Op} (hop : op ≠ .pow) (hpi : plain b = true) (ha : PE X a (tE I fa Wx)) (hb : PE X b (tE I fb Wx)) (he : PE X e (tE I fe Wx)) :
    PS X (.AugAssign (.Subscript a b p) (opR op) e pos) (tS I (fun σ h => (fa σ h).bind fun x h => (fb σ h).bind fun y h => (ofO (getIx x y h) h).bind fun u h => (fe σ h).bind fun z h => (ofO (opW op u z) h).bind fun w h => nxH σ (setIx x y w h)) Wx) := by
  refine PS_imp (ps_augS ha hb get_list he (augO hop) set_list (augSt hpi)) fun D σ H ⟨ι, h, σc, rs, rp, q⟩ => ?_
  refine goS rs rp q fun ι1 H1 h1 w1 v1 e1 rs1 rp1 r1 q1 => ?_
  refine goS rs1 rp1 q1 fun ι2 H2 h2 w2 v2 e2 rs2 rp2 r2 q2 => ?_
  obtain ⟨u, eu, q3⟩ := finOS q2
  have ra := r1.ext e2
  unfold getIx at eu
  split at eu
  · rename_i m k
    split at eu
    · rename_i xs hx
      cases ra with
      | ref hm =>
        cases r2
        obtain ⟨vs, g1, g2, g3⟩ := rp2.at hm hx
        obtain ⟨v, hv, rv⟩ := ixW_at g2 eu
        refine ⟨_, vs, k, v, rfl, rfl, .inl (.inl g1), hv, ?_⟩
        refine goS rs2 rp2 q3 fun ι4 H4 h4 w4 v4 e4 rs4 rp4 r4 q4 => ?_
        obtain ⟨w5, ew5, q5⟩ := finOS q4
        refine aug_in' (rv.ext e4) r4 ew5 fun v5 rv5 => ?_
        obtain ⟨h6, eh, q6⟩ := nxO q5
        exact set_ix rp4 rs4 (.ref (e4.ix hm)) (.int k) rv5 eh q6
    · cases eu
  · cases eu
theorem z_augD (S : Cs B I X) {op : Op} (hop : op ≠ .pow) (hpi : plain b = true) (ha : PE X a (tE I fa Wx)) (hb : PE X b (tE I fb Wx)) (he : PE X e (tE I fe Wx)) :
    PS X (.AugAssign (.Subscript a b p) (opR op) e pos) (tS I (fun σ h => (fa σ h).bind fun x h => (fb σ h).bind fun y h => (ofO (getDx x y h) h).bind fun u h => (fe σ h).bind fun z h => (ofO (opW op u z) h).bind fun w h => nxH σ (setDx x y w h)) Wx) := by
  refine PS_imp (ps_daug (by have := S.hu; omega) ha hb he (augO hop) (augSt hpi)) fun D σ H ⟨ι, h, σc, rs, rp, q⟩ => ?_
  refine goS rs rp q fun ι1 H1 h1 w1 v1 e1 rs1 rp1 r1 q1 => ?_
  refine goS rs1 rp1 q1 fun ι2 H2 h2 w2 v2 e2 rs2 rp2 r2 q2 => ?_
  obtain ⟨u, eu, q3⟩ := finOS q2
  have ra := r1.ext e2
  unfold getDx at eu
  split at eu
  · rename_i m
    split at eu
    · rename_i kvs hx
      split at eu
      · rename_i hk
        cases ra with
        | ref hm =>
          obtain ⟨ls, g1, g2, g3, g4⟩ := rp2.at hm hx
          obtain ⟨y, rfl, rk⟩ := isKey_kV r2 hk
          rcases RKV.get rk g2 with ⟨z1, _⟩ | ⟨w', v, z1, z2, z3⟩
          · rw [z1] at eu; cases eu
          · rw [z1] at eu
            cases eu
            refine ⟨_, v, rfl, .inl ⟨ls, y, .inl g1, rfl, z2.symm⟩, ?_⟩
            refine goS rs2 rp2 q3 fun ι4 H4 h4 w4 v4 e4 rs4 rp4 r4 q4 => ?_
            obtain ⟨w5, ew5, q5⟩ := finOS q4
            refine aug_in' (z3.ext e4) r4 ew5 fun v5 rv5 => ?_
            obtain ⟨h6, eh, q6⟩ := nxO q5
            obtain ⟨a', H5, ea, k1, k2⟩ := set_dx rp4 rs4 (.ref (e4.ix hm)) (r2.ext e4) rv5 eh q6
            cases ea
            exact ⟨H5, k1, k2⟩
      · cases eu
    · cases eu
  · cases eu
theorem z_augT (S : Cs B I X) {op : Op} (hop : op ≠ .pow) (hpi : plain b = true) (ha : PE X a (tE I fa Wx)) (hb : PE X b (tE I fb Wx)) (he : PE X e (tE I fe Wx)) :
    PS X (.AugAssign (.Subscript a b p) (opR op) e pos) (tS I (fun σ h => (fa σ h).bind fun x h => (fb σ h).bind fun y h => (ofO (getTx x y h) h).bind fun u h => (fe σ h).bind fun z h => (ofO (opW op u z) h).bind fun w h => nxH σ (setTx x y w h)) Wx) := by
  refine PS_imp (ps_daug (by have := S.hu; omega) ha hb he (augO hop) (augSt hpi)) fun D σ H ⟨ι, h, σc, rs, rp, q⟩ => ?_
  refine goS rs rp q fun ι1 H1 h1 w1 v1 e1 rs1 rp1 r1 q1 => ?_
  refine goS rs1 rp1 q1 fun ι2 H2 h2 w2 v2 e2 rs2 rp2 r2 q2 => ?_
  obtain ⟨u, eu, q3⟩ := finOS q2
  have ra := r1.ext e2
  unfold getTx at eu
  split at eu
  · rename_i m
    split at eu
    · rename_i kvs hx
      split at eu
      · rename_i hk
        cases ra with
        | ref hm =>
          obtain ⟨ls, g1, g2, g3, g4⟩ := rp2.at hm hx
          obtain ⟨bb, y, rfl, hb', rk, hn⟩ := isKeyT_kV r2 hk
          rcases RKVT.get rk g2 with ⟨z1, _⟩ | ⟨w', v, z1, z2, z3⟩
          · rw [z1] at eu; cases eu
          · rw [z1] at eu
            cases eu
            refine ⟨_, v, rfl, .inr ⟨ls, y, bb, .inl g1, rfl, hb', z2.symm⟩, ?_⟩
            refine goS rs2 rp2 q3 fun ι4 H4 h4 w4 v4 e4 rs4 rp4 r4 q4 => ?_
            obtain ⟨w5, ew5, q5⟩ := finOS q4
            refine aug_in' (z3.ext e4) r4 ew5 fun v5 rv5 => ?_
            obtain ⟨h6, eh, q6⟩ := nxO q5
            obtain ⟨a', H5, ea, k1, k2⟩ := set_tx rp4 rs4 (.ref (e4.ix hm)) (r2.ext e4) rv5 eh q6
            cases ea
            exact ⟨H5, k1, k2⟩
      · cases eu
    · cases eu
  · cases eu
theorem z_delL (ha : PE X a (tE I fa Wx)) (hb : PE X b (tE I fb Wx)) :
    PS X (.Delete [.Subscript a b p] pos) (tS I (fun σ h => (fa σ h).bind fun x h => (fb σ h).bind fun y h => nxH σ (delIx x y h)) Wx) := by
  refine PS_imp (ps_delL ha hb) fun D σ H ⟨ι, h, σc, rs, rp, q⟩ => ?_
  refine goS rs rp q fun ι1 H1 h1 w1 v1 e1 rs1 rp1 r1 q1 => ?_
  refine goS rs1 rp1 q1 fun ι2 H2 h2 w2 v2 e2 rs2 rp2 r2 q2 => ?_
  obtain ⟨h4, eh, q4⟩ := nxO q2
  have ra := r1.ext e2
  unfold delIx at eh
  split at eh
  · rename_i m k
    cases ra with
    | ref hm =>
      cases r2
      split at eh
      · rename_i xs hx
        split at eh
        · rename_i j hj
          cases eh
          obtain ⟨vs, g1, g2, g3⟩ := rp2.at hm hx
          have nf : ∀ o u, H2 _ ≠ some (.frz o u) := fun o u z => by rw [g1] at z; cases z
          have hb1 : -(2 ^ 63 : Int) ≤ k ∧ k < 2 ^ 63 := by
            have hL : xs.length ≤ 100000 := g3
            unfold ixN at hj
            split at hj
            · split at hj
              · omega
              · cases hj
            · split at hj
              · omega
              · cases hj
          exact ⟨_, vs, k, j, rfl, rfl, g1, hb1.1, hb1.2, by rw [← g2.length]; exact seqIx hj, nxt (laterS q4 (Ext.chg hm nf)) (rp2.chg hm nf ⟨_, upd_same, (eraseIdx_rws j g2).ext (Ext.chg hm nf), Nat.le_trans (List.length_eraseIdx_le ..) g3⟩) (rs2.ext (Ext.chg hm nf))⟩
        · cases eh
      · cases eh
  · cases eh
theorem ddrop_rkv {ι : Pl} {H : Hp} {k : W} {y : Key} (rk : RK k y) : ∀ {ks : List (W × W)} {ls : List (Key × V)}, (ls.map (·.1)).Nodup → RKV I ι H ks ls → RKV I ι H (ddrop ks k) (dropK ls y) ∧ (ddrop ks k).length ≤ ks.length
  | [], _, _, .nil => ⟨.nil, Nat.le_refl _⟩
  | (j, u) :: ks, (z, x) :: ls, nd, .cons ⟨q1, q2⟩ r => by
    simp only at q1 q2
    have nd' : (z :: ls.map (·.1)).Nodup := nd
    obtain ⟨n1, n2⟩ := List.nodup_cons.mp nd'
    unfold ddrop dropK
    rw [keyE_iff q1 rk, List.filter_cons]
    by_cases hz : z = y
    · subst hz
      rw [decide_eq_true rfl, if_pos rfl]
      have : (decide (((z, x) : Key × V).1 ≠ z)) = false := by simp
      rw [this, if_neg Bool.false_ne_true]
      have e : ls.filter (fun kv => decide (kv.1 ≠ z)) = ls := List.filter_eq_self.mpr fun p hp => by
        have : p.1 ≠ z := fun e => n1 (List.mem_map.mpr ⟨p, hp, e⟩)
        simpa using this
      rw [e]
      exact ⟨r, by simp⟩
    · rw [decide_eq_false hz, if_neg Bool.false_ne_true]
      have : (decide (((z, x) : Key × V).1 ≠ y)) = true := by simpa using hz
      rw [this, if_pos rfl]
      obtain ⟨k1, k2⟩ := ddrop_rkv rk n2 r
      exact ⟨.cons ⟨q1, q2⟩ k1, by simp only [List.length_cons]; omega⟩
theorem z_delD (ha : PE X a (tE I fa Wx)) (hb : PE X b (tE I fb Wx)) :
    PS X (.Delete [.Subscript a b p] pos) (tS I (fun σ h => (fa σ h).bind fun x h => (fb σ h).bind fun y h => nxH σ (delDx x y h)) Wx) := by
  refine PS_imp (ps_ddel ha hb) fun D σ H ⟨ι, h, σc, rs, rp, q⟩ => ?_
  refine goS rs rp q fun ι1 H1 h1 w1 v1 e1 rs1 rp1 r1 q1 => ?_
  refine goS rs1 rp1 q1 fun ι2 H2 h2 w2 v2 e2 rs2 rp2 r2 q2 => ?_
  obtain ⟨h4, eh, q4⟩ := nxO q2
  have ra := r1.ext e2
  unfold delDx at eh
  split at eh
  · rename_i m
    cases ra with
    | ref hm =>
      split at eh
      · rename_i xs hx
        split at eh
        · rename_i hk
          cases eh
          obtain ⟨ls, g1, g2, g3, g4⟩ := rp2.at hm hx
          obtain ⟨y, rfl, rk⟩ := isKey_kV r2 hk.1
          have nf : ∀ o u, H2 _ ≠ some (.frz o u) := fun o u z => by rw [g1] at z; cases z
          obtain ⟨d1, d2⟩ := ddrop_rkv rk g4 g2
          refine ⟨_, ls, y, rfl, g1, rfl, ?_, nxt (laterS q4 (Ext.chg hm nf)) (rp2.chg hm nf ⟨_, upd_same, d1.ext (Ext.chg hm nf), Nat.le_trans d2 g3, ?_⟩) (rs2.ext (Ext.chg hm nf))⟩
          · rcases RKV.get rk g2 with ⟨z1, _⟩ | ⟨w', v, z1, z2, z3⟩
            · rw [z1] at hk; cases hk.2
            · rw [z2]; rfl
          · exact List.Nodup.sublist (List.Sublist.map _ List.filter_sublist) g4
        · cases eh
      · cases eh
  · cases eh
end
end Z
namespace Z
open PySem PySem.Spec L2
section
variable {X : Cx} {I : Inf} {B : Tb} {Wx : XK} {a b c e o value : Expr} {fa fb fc fe : Env → EH → T W} {pos p p2 pos' : Pos} {σc : Env} {C : CallH} {M : MTab} {ini : Nat → Nat} {lv : Nat} {fn : Nat → Addr} {fd : Nat → FuncData} {st : Stmt}
theorem RW.own {ι : Pl} {H : Hp} {m : Nat} {v : V} (r : RW I ι H (.ref m) v) : ∃ a, v = .ref a ∧ ι.own[m]? = some a := by
  cases r with
  | ref h => exact ⟨_, rfl, h⟩
theorem z_extF (S : Cs B I X) {f : Nat} {n : Str} (hn : I.fl[f]? = some n) (he : PE X e (tE I fe Wx)) (ha : PE X a (tE I fa Wx)) :
    PS X (.AugAssign (.Attribute a n p) .Add e pos) (tS I (fun σ h => (fa σ h).bind fun x h => match insOf h x with
    | some (c, fs) => (ofO (look fs f) h).bind fun y h => (fe σ h).bind fun z h => match y, z with
      | .ref n, .lst zs => (match h[n]? with
        | some (.lst ys) => if ys.length + zs.length ≤ LIM then nxH σ (sameC h x c (setFld x f y (h.set n (.lst (ys ++ zs))))) else .fail
        | _ => .fail)
      | _, _ => .fail
    | none => .fail) Wx) := by
  refine PS_imp (ps_fldaug ha he iop_ext) fun D σ H ⟨ι, h, σc, rs, rp, q⟩ => ?_
  refine goS rs rp q fun ι1 H1 h1 w1 v1 e1 rs1 rp1 r1 q1 => ?_
  split at q1
  · rename_i c fs hx
    obtain ⟨m, p, dx, ls, rfl, hm, rfl, hH, rf, hl, hc, hh⟩ := rp1.ins r1 hx
    obtain ⟨w, ew, q2⟩ := finOS q1
    obtain ⟨v, hv, rv⟩ := RF.look S.fnd hn rf ew
    obtain ⟨k1, k2⟩ := S.cls c hc
    refine ⟨p, _, dx, ls, v, rfl, hH, by rw [S.K]; exact k1, by rw [S.K]; exact k2 n (List.mem_of_getElem? hn), hv, ?_⟩
    refine goS rs1 rp1 q2 fun ι2 H2 h2 w2 v2 e2 rs2 rp2 r2 q3 => ?_
    have rv2 := rv.ext e2
    split at q3
    · rename_i j zs
      obtain ⟨aj, rfl, hj⟩ := RW.own rv2
      split at q3
      · rename_i ys hys
        split at q3
        · rename_i hlen
          obtain ⟨h4, eh, q5⟩ := nxO q3
          obtain ⟨c2, fs2, eh2, e0c, eh3⟩ := same_c eh
          subst e0c
          obtain ⟨vs, g1, g2, g3⟩ := rp2.at hj hys
          cases r2 with
          | lst hb hbn rr hbl =>
            rename_i pb us
            have nf : ∀ o u, H2 aj ≠ some (.frz o u) := fun o u z => by rw [g1] at z; cases z
            have ex := Ext.chg (o := .lst (vs ++ us)) hj nf
            have rp3 : Rep I ι2 (h2.set j (.lst (ys ++ zs))) (upd H2 aj (.lst (vs ++ us))) := rp2.chg hj nf ⟨_, upd_same, (g2.append rr).ext ex, by rw [List.length_append]; exact hlen⟩
            refine ⟨aj, pb, vs, us, rfl, rfl, g1, hb, ?_, ?_⟩
            · rw [← g2.length, ← rr.length]
              exact Nat.le_of_lt (lim_lt hlen)
            · obtain ⟨ad, Cc, dx', fs', k1', k2', k3, k4, k5, k6, k7⟩ := set_fld S hn rp3 ((r1.ext e2).ext ex) (.ref hj) eh3
              cases k1'
              obtain ⟨m', p', dx2, ls2, e0, hm', e0', hH2, rf2, hl2, hc2, hh2⟩ := rp2.ins (r1.ext e2) eh2
              cases e0'
              by_cases hpj : p = aj
              · subst hpj
                rw [g1] at hH2
                cases hH2
              · have k22 := k2'
                rw [upd_ne hpj, hH2] at k22
                cases k22
                exact ⟨_, _, k2', k5, nxt (laterS (laterS q5 ex) k6) k7 ((rs2.ext ex).ext k6)⟩
        · exact q3.elim
      · exact q3.elim
    · exact q3.elim
  · exact q1.elim
theorem z_append (S : Cs B I X) {ap cp : Pos} (hl : (ap.endLine == cp.line) = true) (hpb : plainB a = true) (hp : plain e = true) (ha : PE X a (tE I fa Wx)) (he : PE X e (tE I fe Wx)) :
    PS X (.Expr (.Call (.Attribute a "append" ap) [e] [] cp) pos) (tS I (fun σ h => (fa σ h).bind fun x h => if isLW h x then (fe σ h).bind fun w h => appW x w σ h else .fail) Wx) := by
  have hs : starEach [e] X.env = (false, eval e X.env) :: starEach [] X.env := by rw [starE hp]
  refine PS_imp (ps_expr (pe_bm PySem.F.plainAttrs_list PySem.F.slot_list_append PySem.F.type_list_append mt_append ha (a_cons (Wx := Wx) hp he a_nil) (baseE hpb "append") ?_ hl hs rfl)) fun D σ H ⟨ι, h, σc, rs, rp, q⟩ => ?_
  · rw [hs]; rfl
  refine goS rs rp q fun ι1 H1 h1 w1 v1 e1 rs1 rp1 r1 q1 => ?_
  split at q1
  · rename_i hw
    unfold isLW at hw
    split at hw
    · rename_i m
      obtain ⟨am, rfl, hm⟩ := RW.own r1
      split at hw
      · rename_i xs hx
        obtain ⟨vs, g1, g2, g3⟩ := rp1.at hm hx
        refine ⟨.inl ⟨rfl, _, .inl (.inl g1)⟩, ?_⟩
        refine ⟨ι1, h1, σc, rs1, rp1, T.All.of_bind ((T.All.bind q1).mono (fun w2 h2 q2 ι2 H2 vs2 e2 rp2 r2 => ?_) fun _ _ z => z)⟩
        cases r2 with
        | cons r3 rr =>
          cases rr
          have q3 := laterS q2 e2
          simp only [appW] at q3
          split at q3
          · rename_i ys hy
            split at q3
            · rename_i hlen
              obtain ⟨us, k1, k2, k3⟩ := rp2.at (e2.ix hm) hy
              have nf : ∀ o u, H2 am ≠ some (.frz o u) := fun o u z => by rw [k1] at z; cases z
              have hd := e2.ix hm
              refine ⟨am, us, _, rfl, rfl, k1, by rw [← k2.length]; exact lim_lt (Nat.le_of_lt hlen), ?_⟩
              exact nxt (laterS q3 (Ext.chg hd nf)) (rp2.chg hd nf ⟨_, upd_same, (k2.append (.cons r3 .nil)).ext (Ext.chg hd nf), by rw [List.length_append]; exact hlen⟩) (((rs1.ext e2)).ext (Ext.chg hd nf))
            · exact q3.elim
          · exact q3.elim
      · cases hw
    · cases hw
  · exact q1.elim
theorem noStar {e : Expr} (h : plain e = true) : (match e with | .Starred .. => true | _ => false) = false := by
  cases e <;> first | rfl | (cases h; done)
theorem sw2 {env : PySem.Env} {x y : Str} {px py pt : Pos} {kt k2 pt2} (hb : env.blockKind = .function) (kx : env.kindOf x = some .local) (ky : env.kindOf y = some .local) (hl : (py.line == px.line) = true) (hxy : x ≠ y) (hp : plain a = true) (hp2 : plain b = true)
    (hf : ([a, b].all (foldedForSure 8)) = false) (hc : ([a, b].all (constantsAlone 8)) = false) : swappedStores [.Tuple [.Name x px, .Name y py] kt pt] (.Tuple [a, b] k2 pt2) env = pure (some [x, y]) := by
  have s1 := noStar hp
  have s2 := noStar hp2
  have hyx : (y == x) = false := by simp; exact fun z => hxy z.symm
  have hl' : py.line = px.line := by simpa using hl
  unfold swappedStores
  simp only [List.length_cons, List.length_nil, List.head?_cons, Option.map_some, Option.getD_some, Expr.pos, hb, List.any_cons, List.any_nil, s1, s2, List.filterMap_cons, List.filterMap_nil, kx, ky, hf, hc, hl', BEq.rfl, Bool.and_self, Bool.or_false, Bool.false_eq_true, if_false, if_true, bne_self_eq_false, Nat.reduceAdd]
  rw [if_neg (by decide), if_neg ?h1, if_neg ?h2]
  case h1 =>
    intro h
    rw [Bool.or_eq_true] at h
    rcases h with h | h
    · split at h
      · cases hp
      · cases h
    · split at h
      · cases hp2
      · cases h
  case h2 =>
    have e : [x, y].eraseDups = [x, y] := by simp [List.eraseDups_cons, hyx]
    rw [e]
    exact fun z => nomatch z
theorem sw3 {env : PySem.Env} {x y z : Str} {px py pz pt : Pos} {kt k2 pt2} (hb : env.blockKind = .function) (kx : env.kindOf x = some .local) (ky : env.kindOf y = some .local) (kz : env.kindOf z = some .local) (hl : (py.line == px.line) = true) (hl2 : (pz.line == px.line) = true) (hxy : x ≠ y) (hxz : x ≠ z) (hyz : y ≠ z) (hp : plain a = true) (hp2 : plain b = true) (hp3 : plain c = true)
    (hf : ([a, b, c].all (foldedForSure 8)) = false) (hc : ([a, b, c].all (constantsAlone 8)) = false) : swappedStores [.Tuple [.Name x px, .Name y py, .Name z pz] kt pt] (.Tuple [a, b, c] k2 pt2) env = pure (some [x, y, z]) := by
  have s1 := noStar hp
  have hyx : (y == x) = false := by simp; exact fun z => hxy z.symm
  have hzx : (z == x) = false := by simp; exact fun q => hxz q.symm
  have hzy : (z == y) = false := by simp; exact fun q => hyz q.symm
  have hl' : py.line = px.line := by simpa using hl
  have hl2' : pz.line = px.line := by simpa using hl2
  unfold swappedStores
  simp only [List.length_cons, List.length_nil, List.head?_cons, Option.map_some, Option.getD_some, Expr.pos, hb, List.any_cons, List.any_nil, List.filterMap_cons, List.filterMap_nil, kx, ky, kz, hf, hc, hl', hl2', BEq.rfl, Bool.and_self, Bool.or_false, Bool.false_eq_true, if_false, if_true, bne_self_eq_false, Nat.reduceAdd]
  rw [if_neg (by decide), if_neg ?h1, if_neg ?h2]
  case h1 =>
    intro h
    simp only [Bool.or_eq_true] at h
    rcases h with h | h | h
    · split at h
      · cases hp
      · cases h
    · split at h
      · cases hp2
      · cases h
    · split at h
      · cases hp3
      · cases h
  case h2 =>
    have e : [x, y, z].eraseDups = [x, y, z] := by simp [List.eraseDups_cons, hyx, hzx, hzy]
    rw [e]
    exact fun z => nomatch z
theorem z_par (S : Cs B I X) (bs : Bs X) {i j : Nat} {x y : Str} {px py pt : Pos} {kt k2 pt2} (hij : i ≠ j) (hi : locL X.N X.env.scope i x = true) (hj : locL X.N X.env.scope j y = true) (hxy : x ≠ y) (hln : (py.line == px.line) = true) (hp : plain a = true) (hp2 : plain b = true)
    (hf : ([a, b].all (foldedForSure 8)) = false) (hc : ([a, b].all (constantsAlone 8)) = false) (ha : PE X a (tE I fa Wx)) (hb : PE X b (tE I fb Wx)) :
    PS X (.Assign [.Tuple [.Name x px, .Name y py] kt pt] (.Tuple [a, b] k2 pt2) pos) (tS I (fun σ h => (fa σ h).bind fun x h => (fb σ h).bind fun y h => .ok (.nx, (σ.set i (some x)).set j (some y)) h) Wx) := by
  simp only [locL, Bool.and_eq_true, decide_eq_true_eq] at hi hj
  have hb' : X.env.blockKind = .function := by unfold PySem.Env.blockKind; rw [bs.kind]; rfl
  have kx : X.env.kindOf x = some .local := hi.2
  have ky : X.env.kindOf y = some .local := hj.2
  have hw : swappedStores [.Tuple [.Name x px, .Name y py] kt pt] (.Tuple [a, b] k2 pt2) X.env = pure (some [x, y]) := by
    exact sw2 hb' kx ky hln hxy hp hp2 hf hc
  refine PS_imp (ps_par S.calm S.nd hi.1 hj.1 hij hi.2 hj.2 (a_cons (Wx := Wx) hp ha (a_cons hp2 hb a_nil)) hw rfl) fun D σ H ⟨ι, h, σc, rs, rp, q⟩ => ?_
  refine ⟨ι, h, σc, rs, rp, T.All.of_bind ((T.All.bind q).mono (fun w1 h1 q1 => T.All.of_bind (T.All.of_bind ((T.All.bind q1).mono (fun w2 h2 q2 ι2 H2 vs e2 rp2 r2 => ?_) fun _ _ z => z))) fun _ _ z => z)⟩
  cases r2 with
  | cons r3 rr =>
    cases rr with
    | cons r4 rr =>
      cases rr
      exact ⟨_, _, rfl, nxt (laterS q2 e2) rp2 (((rs.ext e2).set r3).set r4)⟩
theorem z_par3 (S : Cs B I X) (bs : Bs X) {i j l : Nat} {x y z : Str} {px py pz pt : Pos} {kt k2 pt2} (hij : i ≠ j) (hil : i ≠ l) (hjl : j ≠ l) (hi : locL X.N X.env.scope i x = true) (hj : locL X.N X.env.scope j y = true) (hlz : locL X.N X.env.scope l z = true) (hxy : x ≠ y) (hxz : x ≠ z) (hyz : y ≠ z) (hln : (py.line == px.line) = true) (hln2 : (pz.line == px.line) = true) (hp : plain a = true) (hp2 : plain b = true) (hp3 : plain c = true)
    (hf : ([a, b, c].all (foldedForSure 8)) = false) (hc : ([a, b, c].all (constantsAlone 8)) = false) (ha : PE X a (tE I fa Wx)) (hb : PE X b (tE I fb Wx)) (hcc : PE X c (tE I fc Wx)) :
    PS X (.Assign [.Tuple [.Name x px, .Name y py, .Name z pz] kt pt] (.Tuple [a, b, c] k2 pt2) pos) (tS I (fun σ h => (fa σ h).bind fun x h => (fb σ h).bind fun y h => (fc σ h).bind fun z h => .ok (.nx, ((σ.set i (some x)).set j (some y)).set l (some z)) h) Wx) := by
  simp only [locL, Bool.and_eq_true, decide_eq_true_eq] at hi hj hlz
  have hb' : X.env.blockKind = .function := by unfold PySem.Env.blockKind; rw [bs.kind]; rfl
  have hw := sw3 (env := X.env) (px := px) (py := py) (pz := pz) (pt := pt) (kt := kt) (k2 := k2) (pt2 := pt2) hb' hi.2 hj.2 hlz.2 hln hln2 hxy hxz hyz hp hp2 hp3 hf hc
  refine PS_imp (ps_par3 S.calm S.nd hi.1 hj.1 hlz.1 hij hil hjl hi.2 hj.2 hlz.2 (a_cons (Wx := Wx) hp ha (a_cons hp2 hb (a_cons hp3 hcc a_nil))) hw rfl) fun D σ H ⟨ι, h, σc, rs, rp, q⟩ => ?_
  refine ⟨ι, h, σc, rs, rp, T.All.of_bind ((T.All.bind q).mono (fun w1 h1 q1 => T.All.of_bind (T.All.of_bind ((T.All.bind q1).mono (fun w2 h2 q2 => T.All.of_bind (T.All.of_bind ((T.All.bind q2).mono (fun w3 h3 q3 ι2 H2 vs e2 rp2 r2 => ?_) fun _ _ z => z))) fun _ _ z => z))) fun _ _ z => z)⟩
  cases r2 with
  | cons r3 rr =>
    cases rr with
    | cons r4 rr =>
      cases rr with
      | cons r5 rr =>
        cases rr
        exact ⟨_, _, _, rfl, nxt (laterS q3 e2) rp2 ((((rs.ext e2).set r3).set r4).set r5)⟩
theorem z_loop (S : Cs B I X) (bs : Bs X) {it : Z.I} {iter tg : Expr} {body : List Stmt} {g : G} {fb : Env → EH → R} (hs : simpI it) (hi : PI X tg iter (tI I (evIl C M ini it) Wx)) (hF : ∀ y, foldedSetIterable iter X.env y = pure y)
    (hg : chkG X.N X.fn X.env.scope g tg = true) (hb : PSs X body (tS I fb Wx)) :
    PS X (.For tg iter body [] pos) (tS I (fun σ h => (evI C M ini it σ h).bind fun p h => (forS (fun x σ h => match store g x σ with
      | some σ' => fb σ' h
      | none => .fail) p.1 σ h).bind fun q h => .ok q (unlock p.2 h)) Wx) :=
  walkS_any (C := C) (M := M) (ini := ini) (k := fun σ xs h => forS (fun x σ h => match store g x σ with
      | some σ' => fb σ' h
      | none => .fail) xs σ h) (ps_for bs.pass S.calm hi (g_ok S hg) hb hF) (fun D σ H q => r_loop (gok X.K g) q) hs
theorem z_whl (bs : Bs X) {body : List Stmt} {fb : Env → EH → R} (hc : PT X c (tTest (tE I fc Wx))) (hb : PSs X body (tS I fb Wx)) :
    PS X (.While c body [] pos) (tS I (fun σ h => whlN fc fb LIM σ h) Wx) := PS_imp (ps_while bs.pass hc hb) fun D σ H q => r_whl q
theorem tS_eq {f g : Env → EH → R} (e : ∀ σ h, f σ h = g σ h) (h : PS X st (tS I f Wx)) : PS X st (tS I g Wx) := by
  have : f = g := funext fun σ => funext fun h => e σ h
  rw [← this]; exact h
theorem lcSet_sw {y : Str} {py : Pos} {el : Expr} {gs : List Comprehension} {scope : Scope} {ps : Pos} {l : Nat} (hk : X.env.scope.kind = .function) (h : lcSet0 X.env.scope y py.line (.ListComp el gs scope ps) = true) :
    X.env.scope.names.lookup y = some .local ∧ swapsWith (.ListComp el gs scope ps) (some (.Name y py)) l X.env = pure true := by
  simp only [lcSet0, Bool.and_eq_true, decide_eq_true_eq, Bool.not_eq_true'] at h
  exact ⟨h.1.2, sw_true hk h.1.2 h.1.1 h.2⟩
theorem sh1_lc {T : Tb} {sc : Scope} {p : P1} {a : Expr} {b : List Comprehension} {c : Scope} {d : Pos} : sh1 T sc p (.ListComp a b c d) = none := by
  cases p <;> rfl
theorem sh2_lc {T : Tb} {sc : Scope} {p : P2} {a : Expr} {b : List Comprehension} {c : Scope} {d : Pos} : sh2 T sc p (.ListComp a b c d) = none := by
  cases p <;> rfl
theorem sh3_lc {p : P3} {a : Expr} {b : List Comprehension} {c : Scope} {d : Pos} : sh3 p (.ListComp a b c d) = none := by
  cases p <;> rfl
/-- a name that inner codes take: stored as any value -/
theorem z_setCell (S : Cs B I X) {i : Nat} {y : Str} {py : Pos} {e : Expr} {fe : Env → EH → T W} (hc : X.env.scope.names.lookup y = some .cell) (hp : plain e = true) (hL : chkL X.N X.fn X.env.scope i y = true) (he : PE X e (tE I fe Wx)) :
    PS X (.Assign [.Name y py] e pos) (tS I (fun σ h => (fe σ h).bind fun w h => .ok (.nx, σ.set i (some w)) h) Wx) := by
  simp only [chkL, Bool.and_eq_true, decide_eq_true_eq] at hL
  obtain ⟨l1, l2⟩ := loc_of hL.2
  have hs : swapsWith e (some (.Name y py)) pos.line X.env = pure false := by
    have ky : X.env.kindOf y = some .cell := hc
    have e2 : (some NameKind.cell == some NameKind.local) = false := rfl
    cases e <;> first | rfl | (cases hp; done) | skip
    unfold swapsWith
    simp only [ky, e2, Bool.and_false, Bool.false_and]
  exact PS_imp (ps_set S.nd hL.1 l1 he hs l2) fun D σ H q => r_set q
/-- name = [..] -/
theorem z_setLc {gt : Option Nat} (S : Cs B I X) (bs : Bs X) (F : Fs B I C M ini lv fn fd X) (G : Gs I gt lv X) (tk : Takes X (fun c d _ H => Wx c d H)) {i : Nat} {y : Str} {py : Pos} {ex : E} {v : Expr} (hlc : isLc v = true) (h : chk B X.N ex gt X.env.scope v = true) (hL : chkL X.N X.fn X.env.scope i y = true) (hl : lcSet0 X.env.scope y py.line v = true) :
    PS X (.Assign [.Name y py] v pos) (tS I (fun σ h => (ev C M ini ex σ h).bind fun w h => .ok (.nx, σ.set i (some w)) h) Wx) := by
  simp only [chkL, Bool.and_eq_true, decide_eq_true_eq] at hL
  cases v <;> first | (cases hlc; done) | skip
  cases ex <;> first | (simp [chk, sh1_lc, sh2_lc, sh3_lc] at h; done) | skip
  · exact PS_imp ps_never fun D σ H ⟨ι, h, σc, rs, rp, q⟩ => q.elim
  · rename_i a g it c own
    simp only [chk] at h
    split at h
    · rename_i e0
      cases e0
      simp only [Bool.and_eq_true] at h
      obtain ⟨⟨⟨⟨⟨hb, hI⟩, hG⟩, hc⟩, ha⟩, ho⟩ := h
      obtain ⟨pI, hF⟩ := sndI it S F G tk hI
      obtain ⟨hyl, hsw⟩ := lcSet_sw (l := pos.line) bs.kind hl
      have body := ps_setLc (g := gtOf X.K g) (tt := tB I (evc C M ini c) noX) (te := tE I (ev C M ini a) noX) S.calm S.nd hL.1 hyl hsw pI (blkOk_by hb) (fun s H Cc cl fp => g_ok (S.blk s H _ (compEnvC _ cl Cc X.env) fp) hG)
        (fun s H Cc cl fp => sndc c (S.blk s H _ (compEnvC _ cl Cc X.env) fp) (F.blk s H _ (compEnvC _ cl Cc X.env) fp) (G.blk s H _ cl Cc fp) takes0 hc) (fun s H Cc cl fp => (snd a (S.blk s H _ (compEnvC _ cl Cc X.env) fp) (F.blk s H _ (compEnvC _ cl Cc X.env) fp) (G.blk s H _ cl Cc fp) takes0 ha).1) hF
      rw [own_snd] at body
      have w := walkS_any (C := C) (M := M) (ini := ini) (I := I) (Wx := Wx) body (k := fun σ xs h => ((forL (bodyC g own (evc C M ini c) (ev C M ini a) σ) [] xs h).nox.bind fun ys h => .ok (.lst ys) h).bind fun w h => .ok (.nx, σ.set i (some w)) h) (fun D σ H q => comp_read (gok X.K g) ho (r_set (f := fun σ h => (evIl C M ini it σ h).bind fun p h => (forL (bodyC g own (evc C M ini c) (ev C M ini a) σ) [] p.1 h).nox.bind fun ys h => .ok (.lst ys) h) (by simp only [bind_assoc] at q ⊢; exact q))) (chkI_simp hI)
      refine PS_imp w fun D σ H q => ?_
      obtain ⟨ι, h, σc, rs, rp, q⟩ := q
      refine ⟨ι, h, σc, rs, rp, ?_⟩
      simp only [ev, bind_assoc, T.bind] at q ⊢
      exact q
    · cases h
  · rename_i a g it c own
    simp only [chk] at h
    split at h
    · rename_i e0
      cases e0
      simp only [Bool.and_eq_true] at h
      obtain ⟨⟨⟨⟨⟨hb, hI⟩, hG⟩, hc⟩, ha⟩, ho⟩ := h
      obtain ⟨pI, hF⟩ := sndI it S F G tk hI
      obtain ⟨hyl, hsw⟩ := lcSet_sw (l := pos.line) bs.kind hl
      have body := ps_setLc (g := gtOf X.K g) (tt := tB I (evc C M ini c) noX) (te := tE I (ev C M ini a) noX) S.calm S.nd hL.1 hyl hsw pI (blkOk_by hb) (fun s H Cc cl fp => g_ok (S.blk s H _ (compEnvC _ cl Cc X.env) fp) hG)
        (fun s H Cc cl fp => sndc c (S.blk s H _ (compEnvC _ cl Cc X.env) fp) (F.blk s H _ (compEnvC _ cl Cc X.env) fp) (G.blk s H _ cl Cc fp) takes0 hc) (fun s H Cc cl fp => (snd a (S.blk s H _ (compEnvC _ cl Cc X.env) fp) (F.blk s H _ (compEnvC _ cl Cc X.env) fp) (G.blk s H _ cl Cc fp) takes0 ha).1) hF
      rw [own_snd] at body
      have w := walkS_any (C := C) (M := M) (ini := ini) (I := I) (Wx := Wx) body (k := fun σ xs h => ((forM h.length (bodyC g own (evc C M ini c) (ev C M ini a) σ) xs (h ++ [.lst []])).nox.bind fun _ h' => .ok (.ref h.length) h').bind fun w h => .ok (.nx, σ.set i (some w)) h) (fun D σ H q => compM_read (gok X.K g) ho (r_set (f := fun σ h => (evIl C M ini it σ h).bind fun p h => (forM h.length (bodyC g own (evc C M ini c) (ev C M ini a) σ) p.1 (h ++ [.lst []])).nox.bind fun _ h' => .ok (.ref h.length) h') (by simp only [bind_assoc] at q ⊢; exact q))) (chkI_simp hI)
      refine PS_imp w fun D σ H q => ?_
      obtain ⟨ι, h, σc, rs, rp, q⟩ := q
      refine ⟨ι, h, σc, rs, rp, ?_⟩
      simp only [ev, bind_assoc, T.bind] at q ⊢
      exact q
    · cases h
  · rename_i a g it c g1 it1 c1 own own1
    simp only [chk] at h
    split at h
    · rename_i e0
      cases e0
      simp only [Bool.and_eq_true] at h
      obtain ⟨⟨⟨⟨⟨⟨⟨⟨⟨⟨hb, hI⟩, hG⟩, hc⟩, hJ⟩, hG1⟩, hc1⟩, ha⟩, ho⟩, ho1⟩, hv⟩ := h
      obtain ⟨pI, hF⟩ := sndI it S F G tk hI
      obtain ⟨hyl, hsw⟩ := lcSet_sw (l := pos.line) bs.kind hl
      have hv' : ∀ i ∈ own1, i ∈ own := fun i hi => by
        have := List.all_eq_true.mp hv i hi
        simpa using this
      have body := ps_setLc2 (g := gtOf X.K g) (g1 := gtOf X.K g1) (wi1 := tJ I (evJ C M ini it1) noX) (tt := tB I (evc C M ini c) noX) (tt1 := tB I (evc C M ini c1) noX) (te := tE I (ev C M ini a) noX) (vs1 := own1) S.calm S.nd hL.1 hyl hsw pI (blkOk_by hb) (by rw [own_snd]; exact hv') (fun s H Cc cl fp => g_ok (S.blk s H _ (compEnvC _ cl Cc X.env) fp) hG)
        (fun s H Cc cl fp => sndc c (S.blk s H _ (compEnvC _ cl Cc X.env) fp) (F.blk s H _ (compEnvC _ cl Cc X.env) fp) (G.blk s H _ cl Cc fp) takes0 hc) (fun s H Cc cl fp => (sndJ it1 (S.blk s H _ (compEnvC _ cl Cc X.env) fp) (F.blk s H _ (compEnvC _ cl Cc X.env) fp) (G.blk s H _ cl Cc fp) takes0 hJ).1) (fun s H Cc cl fp => g_ok (S.blk s H _ (compEnvC _ cl Cc X.env) fp) hG1)
        (fun s H Cc cl fp => sndc c1 (S.blk s H _ (compEnvC _ cl Cc X.env) fp) (F.blk s H _ (compEnvC _ cl Cc X.env) fp) (G.blk s H _ cl Cc fp) takes0 hc1) (fun s H Cc cl fp => (snd a (S.blk s H _ (compEnvC _ cl Cc X.env) fp) (F.blk s H _ (compEnvC _ cl Cc X.env) fp) (G.blk s H _ cl Cc fp) takes0 ha).1) hF (chkJ_fold hJ)
      rw [own_snd] at body
      have w := walkS_any (C := C) (M := M) (ini := ini) (I := I) (Wx := Wx) body (k := fun σ xs h => ((forO (turnC g own (fun σ h => evc C M ini c σ h) (fun σ h => evJ C M ini it1 σ h) (fun σ x h => turnW g1 own1 (fun σ h => evc C M ini c1 σ h) (fun σ h => ev C M ini a σ h) σ x h) σ) xs [] h).nox.bind fun ys h => .ok (.lst ys) h).bind fun w h => .ok (.nx, σ.set i (some w)) h) (fun D σ H q => comp2_read (gok X.K g) ho (gok X.K g1) ho1 (r_set (f := fun σ h => (evIl C M ini it σ h).bind fun p h => (forO (turnC g own (fun σ h => evc C M ini c σ h) (fun σ h => evJ C M ini it1 σ h) (fun σ x h => turnW g1 own1 (fun σ h => evc C M ini c1 σ h) (fun σ h => ev C M ini a σ h) σ x h) σ) p.1 [] h).nox.bind fun ys h => .ok (.lst ys) h) (by simp only [bind_assoc] at q ⊢; exact q))) (chkI_simp hI)
      refine PS_imp w fun D σ H q => ?_
      obtain ⟨ι, h, σc, rs, rp, q⟩ := q
      refine ⟨ι, h, σc, rs, rp, ?_⟩
      simp only [ev, bind_assoc, T.bind] at q ⊢
      exact q
    · cases h
mutual
theorem sndS : ∀ (s : S) {gt : Option Nat} {X : Cx} {Wx : XK} (S : Cs B I X) (bs : Bs X) (F : Fs B I C M ini lv fn fd X) (G : Gs I gt lv X) (tk : Takes X (fun c d _ H => Wx c d H)) {st : Stmt}, chkS B X.N gt X.fn X.env.scope s st = true → PS X st (tS I (ex C M ini s) Wx)
  | .set (.name i) e, gt, X, Wx, S, bs, F, G, tk, st, h => by
    simp only [chkS] at h
    split at h
    · rename_i y py v ps
      simp only [Bool.and_eq_true] at h
      obtain ⟨⟨⟨h1, h2⟩, h3⟩, h4⟩ := h
      cases hl : isLc v with
      | false => exact tS_eq (fun σ h => by simp only [ex] <;> rfl) (z_set S h1 hl h3 (snd e S F G tk h2).1)
      | true =>
        by_cases hc : X.env.scope.names.lookup y = some .cell
        · exact tS_eq (fun σ h => by simp only [ex] <;> rfl) (z_setCell S hc h1 h3 (snd e S F G tk h2).1)
        · simp only [lcSet, decide_eq_false hc, Bool.false_or] at h4
          exact tS_eq (fun σ h => by simp only [ex] <;> rfl) (z_setLc S bs F G tk hl h2 h3 h4)
    · cases h
  | .set (.tup is) e, gt, X, Wx, S, bs, F, G, tk, st, h => by
    simp only [chkS] at h
    split at h
    · simp only [Bool.and_eq_true, Bool.not_eq_true'] at h
      obtain ⟨⟨⟨⟨h1, h2⟩, h3⟩, h4⟩, h5⟩ := h
      exact tS_eq (fun σ h => by simp only [ex] <;> rfl) (z_tup S h1 h2 h3 h5 (snd e S F G tk h4).1)
    · cases h
  | .set (.fld a f) e, gt, X, Wx, S, bs, F, G, tk, st, h => by
    simp only [chkS] at h
    split at h
    · simp only [Bool.and_eq_true, decide_eq_true_eq] at h
      obtain ⟨⟨⟨h1, h2⟩, h3⟩, h4⟩ := h
      exact tS_eq (fun σ h => by simp only [ex] <;> rfl) (z_fld (f := f) S (by rw [← S.fl]; exact h3) h1 (snd e S F G tk h2).1 (snd a S F G tk h4).1)
    · cases h
  | .set (.sub a i) e, gt, X, Wx, S, bs, F, G, tk, st, h => by
    simp only [chkS] at h
    split at h
    · simp only [Bool.and_eq_true] at h
      obtain ⟨⟨⟨⟨h1, h2⟩, h3⟩, h4⟩, h5⟩ := h
      exact tS_eq (fun σ h => by simp only [ex] <;> rfl) (z_sub S h1 h3 (snd e S F G tk h2).1 (snd a S F G tk h4).1 (snd i S F G tk h5).1)
    · cases h
  | .set (.dsub a i) e, gt, X, Wx, S, bs, F, G, tk, st, h => by
    simp only [chkS] at h
    split at h
    · simp only [Bool.and_eq_true] at h
      obtain ⟨⟨⟨⟨h1, h2⟩, h3⟩, h4⟩, h5⟩ := h
      exact tS_eq (fun σ h => by simp only [ex] <;> rfl) (z_dsub S h1 h3 (snd e S F G tk h2).1 (snd a S F G tk h4).1 (snd i S F G tk h5).1)
    · cases h
  | .set (.tsub a i) e, gt, X, Wx, S, bs, F, G, tk, st, h => by
    simp only [chkS] at h
    split at h
    · simp only [Bool.and_eq_true] at h
      obtain ⟨⟨⟨⟨h1, h2⟩, h3⟩, h4⟩, h5⟩ := h
      exact tS_eq (fun σ h => by simp only [ex] <;> rfl) (z_tsub S h1 h3 (snd e S F G tk h2).1 (snd a S F G tk h4).1 (snd i S F G tk h5).1)
    · cases h
  | .par i j a b, gt, X, Wx, S, bs, F, G, tk, st, h => by
    simp only [chkS] at h
    split at h
    · simp only [Bool.and_eq_true, decide_eq_true_eq, Bool.not_eq_true'] at h
      obtain ⟨⟨⟨⟨⟨⟨⟨⟨⟨⟨h1, h2⟩, h3⟩, h4⟩, h5⟩, h6⟩, h7⟩, h8⟩, h9⟩, h10⟩, h11⟩ := h
      exact tS_eq (fun σ h => by simp only [ex] <;> rfl) (z_par S bs h1 h2 h3 h4 h5 h6 h7 h8 h9 (snd a S F G tk h10).1 (snd b S F G tk h11).1)
    · cases h
  | .par3 i j l a b c, gt, X, Wx, S, bs, F, G, tk, st, h => by
    simp only [chkS] at h
    split at h
    · simp only [Bool.and_eq_true, decide_eq_true_eq, Bool.not_eq_true'] at h
      obtain ⟨⟨⟨⟨⟨⟨⟨⟨⟨⟨⟨⟨⟨⟨⟨⟨⟨⟨h1, h2⟩, h3⟩, h4⟩, h5⟩, h6⟩, h7⟩, h8⟩, h9⟩, h10⟩, h11⟩, h12⟩, h13⟩, h14⟩, h15⟩, h16⟩, h17⟩, h18⟩, h19⟩ := h
      exact tS_eq (fun σ h => by simp only [ex] <;> rfl) (z_par3 S bs h1 h2 h3 h4 h5 h6 h7 h8 h9 h10 h11 h12 h13 h14 h15 h16 (snd a S F G tk h17).1 (snd b S F G tk h18).1 (snd c S F G tk h19).1)
    · cases h
  | .augN i o e, gt, X, Wx, S, bs, F, G, tk, st, h => by
    simp only [chkS] at h
    split at h
    · simp only [Bool.and_eq_true, decide_eq_true_eq] at h
      obtain ⟨⟨⟨h0, rfl⟩, h2⟩, h3⟩ := h
      exact tS_eq (fun σ h => by simp only [ex] <;> rfl) (z_augN S h0 h2 (snd e S F G tk h3).1)
    · cases h
  | .augF a f o e, gt, X, Wx, S, bs, F, G, tk, st, h => by
    simp only [chkS] at h
    split at h
    · simp only [Bool.and_eq_true, decide_eq_true_eq] at h
      obtain ⟨⟨⟨⟨h0, rfl⟩, h2⟩, h3⟩, h4⟩ := h
      exact tS_eq (fun σ h => by simp only [ex] <;> rfl) (z_augF (f := f) S h0 (by rw [← S.fl]; exact h2) (snd e S F G tk h4).1 (snd a S F G tk h3).1)
    · cases h
  | .extF a f e, gt, X, Wx, S, bs, F, G, tk, st, h => by
    simp only [chkS] at h
    split at h
    · simp only [Bool.and_eq_true, decide_eq_true_eq] at h
      obtain ⟨⟨⟨rfl, h2⟩, h3⟩, h4⟩ := h
      exact tS_eq (fun σ h => by simp only [ex] <;> rfl) (z_extF (f := f) S (by rw [← S.fl]; exact h2) (snd e S F G tk h4).1 (snd a S F G tk h3).1)
    · cases h
  | .ret e, gt, X, Wx, S, bs, F, G, tk, st, h => by
    simp only [chkS] at h
    split at h
    · exact tS_eq (fun σ h => by simp only [ex] <;> rfl) (z_ret (snd e S F G tk h).1)
    · cases h
  | .retN, gt, X, Wx, S, bs, F, G, tk, st, h => by
    simp only [chkS] at h
    split at h
    · exact tS_eq (fun σ h => by simp only [ex] <;> rfl) z_retN
    · cases h
  | .expr e, gt, X, Wx, S, bs, F, G, tk, st, h => by
    simp only [chkS] at h
    split at h
    · simp only [Bool.and_eq_true, Bool.not_eq_true'] at h
      obtain ⟨⟨h1, h2⟩, h3⟩ := h
      exact tS_eq (fun σ h => by simp only [ex] <;> rfl) (z_expr h1 h2 (snd e S F G tk h3).1)
    · cases h
  | .pass, gt, X, Wx, S, bs, F, G, tk, st, h => by
    simp only [chkS] at h
    split at h
    · exact tS_eq (fun σ h => by simp only [ex] <;> rfl) z_pass
    · cases h
  | .ite c t e, gt, X, Wx, S, bs, F, G, tk, st, h => by
    simp only [chkS] at h
    split at h
    · simp only [Bool.and_eq_true] at h
      obtain ⟨⟨h1, h2⟩, h3⟩ := h
      exact tS_eq (fun σ h => by simp only [ex] <;> rfl) (z_ite (snd c S F G tk h1).2 (sndSs t S bs F G tk h2) (sndSs e S bs F G tk h3))
    · cases h
  | .loop g it b, gt, X, Wx, S, bs, F, G, tk, st, h => by
    simp only [chkS] at h
    split at h
    · simp only [Bool.and_eq_true] at h
      obtain ⟨⟨h1, h2⟩, h3⟩ := h
      obtain ⟨pI, hF⟩ := sndI it S F G tk h1
      exact tS_eq (fun σ h => by simp only [ex] <;> rfl) (z_loop S bs (chkI_simp h1) pI hF h2 (sndSs b S bs F G tk h3))
    · cases h
  | .whl c b, gt, X, Wx, S, bs, F, G, tk, st, h => by
    simp only [chkS] at h
    split at h
    · simp only [Bool.and_eq_true] at h
      exact tS_eq (fun σ h => by simp only [ex] <;> rfl) (z_whl bs (snd c S F G tk h.1).2 (sndSs b S bs F G tk h.2))
    · cases h
  | .brk, gt, X, Wx, S, bs, F, G, tk, st, h => by
    simp only [chkS] at h
    split at h
    · exact tS_eq (fun σ h => by simp only [ex] <;> rfl) z_brk
    · cases h
  | .cont, gt, X, Wx, S, bs, F, G, tk, st, h => by
    simp only [chkS] at h
    split at h
    · exact tS_eq (fun σ h => by simp only [ex] <;> rfl) z_cont
    · cases h
  | .append a e, gt, X, Wx, S, bs, F, G, tk, st, h => by
    simp only [chkS] at h
    split at h
    · simp only [Bool.and_eq_true, decide_eq_true_eq] at h
      obtain ⟨⟨⟨⟨⟨rfl, h1⟩, h2⟩, h3⟩, h4⟩, h5⟩ := h
      exact tS_eq (fun σ h => by simp only [ex] <;> rfl) (z_append S h1 h2 h3 (snd a S F G tk h4).1 (snd e S F G tk h5).1)
    · cases h
  | .raise c, gt, X, Wx, S, bs, F, G, tk, st, h => by
    simp only [chkS] at h
    cases h
  | .nev, gt, X, Wx, S, bs, F, G, tk, st, h => PS_imp ps_never fun D σ H ⟨ι, h, σc, rs, rp, q⟩ => q.elim
  | .augS a i o e, gt, X, Wx, S, bs, F, G, tk, st, h => by
    simp only [chkS] at h
    split at h
    · simp only [Bool.and_eq_true, decide_eq_true_eq] at h
      obtain ⟨⟨⟨⟨⟨h0, rfl⟩, h2⟩, h3⟩, h4⟩, h5⟩ := h
      exact tS_eq (fun σ h => by simp only [ex] <;> rfl) (z_augS S h0 h2 (snd a S F G tk h3).1 (snd i S F G tk h4).1 (snd e S F G tk h5).1)
    · cases h
  | .augD a i o e, gt, X, Wx, S, bs, F, G, tk, st, h => by
    simp only [chkS] at h
    split at h
    · simp only [Bool.and_eq_true, decide_eq_true_eq] at h
      obtain ⟨⟨⟨⟨⟨h0, rfl⟩, h2⟩, h3⟩, h4⟩, h5⟩ := h
      exact tS_eq (fun σ h => by simp only [ex] <;> rfl) (z_augD S h0 h2 (snd a S F G tk h3).1 (snd i S F G tk h4).1 (snd e S F G tk h5).1)
    · cases h
  | .augT a i o e, gt, X, Wx, S, bs, F, G, tk, st, h => by
    simp only [chkS] at h
    split at h
    · simp only [Bool.and_eq_true, decide_eq_true_eq] at h
      obtain ⟨⟨⟨⟨⟨h0, rfl⟩, h2⟩, h3⟩, h4⟩, h5⟩ := h
      exact tS_eq (fun σ h => by simp only [ex] <;> rfl) (z_augT S h0 h2 (snd a S F G tk h3).1 (snd i S F G tk h4).1 (snd e S F G tk h5).1)
    · cases h
  | .delL a i, gt, X, Wx, S, bs, F, G, tk, st, h => by
    simp only [chkS] at h
    split at h
    · simp only [Bool.and_eq_true] at h
      exact tS_eq (fun σ h => by simp only [ex] <;> rfl) (z_delL (snd a S F G tk h.1.2).1 (snd i S F G tk h.2).1)
    · cases h
  | .delD a i, gt, X, Wx, S, bs, F, G, tk, st, h => by
    simp only [chkS] at h
    split at h
    · simp only [Bool.and_eq_true] at h
      exact tS_eq (fun σ h => by simp only [ex] <;> rfl) (z_delD (snd a S F G tk h.1.2).1 (snd i S F G tk h.2).1)
    · cases h
theorem sndSs : ∀ (s : Ss) {gt : Option Nat} {X : Cx} {Wx : XK} (S : Cs B I X) (bs : Bs X) (F : Fs B I C M ini lv fn fd X) (G : Gs I gt lv X) (tk : Takes X (fun c d _ H => Wx c d H)) {st : List Stmt}, chkSs B X.N gt X.fn X.env.scope s st = true → PSs X st (tS I (exs C M ini s) Wx)
  | .nil, gt, X, Wx, S, bs, F, G, tk, st, h => by
    simp only [chkSs] at h
    split at h
    · exact ⟨fun pins s σ H D J ⟨ι, h, σc, rs, rp, q⟩ => pss_nil.run pins s σ H D J (nxt (show (T.ok (Fl.nx, σc) h).All _ _ from by simpa only [exs] using q) rp rs)⟩
    · cases h
  | .cons a r, gt, X, Wx, S, bs, F, G, tk, st, h => by
    simp only [chkSs] at h
    split at h
    · simp only [Bool.and_eq_true] at h
      have p1 := sndS a S bs F G tk h.1
      have p2 := sndSs r S bs F G tk h.2
      refine ⟨fun pins s σ H D J q => (pss_cons p1 p2).run pins s σ H D J (r_seq ?_)⟩
      obtain ⟨ι, h, σc, rs, rp, q⟩ := q
      refine ⟨ι, h, σc, rs, rp, ?_⟩
      simp only [exs] at q
      exact q
    · cases h
end
end
end Z
namespace Z
open PySem PySem.Spec L2
/-! ### the law's dice: their texts in the small language -/
def es1 (a : E) : Es := .cons a .nil
def es2 (a b : E) : Es := .cons a (.cons b .nil)
def es3 (a b c : E) : Es := .cons a (.cons b (.cons c .nil))
def diceB : Ss :=
  .cons (.ite (.chain .lt .lt (.bin .sub (.int 0) (.int 10)) (.var 0) (.int 10)) (.cons (.ret (.lst true (es3 (.abs (.var 0)) (.int 0) (.int 2)))) .nil) .nil)
  (.cons (.ret (.lst true (es3 (.var 0) (.bin .add (.int 1) (.bin .mod (.toInt (.var 0)) (.int 1009))) (.toInt (.cmp .ge (.var 0) (.bin .pow (.int 10) (.int 18))))))) .nil)
def dAt (i : Int) : E := .ix (.var 0) (.int i)
def rollB : Ss :=
  .cons (.ite (.or (es2 (.eqI false (dAt 2) (.int 2)) (.and (es2 (.eqI false (dAt 2) (.int 1)) (.cmp .gt (dAt 0) (.int 0))))))
    (.cons (.set (.name 2) (.bin .mod (.toInt (dAt 0)) (.var 1)))
    (.cons (.set (.sub (.var 0) (.int 0)) (.bin .fdiv (dAt 0) (.var 1)))
    (.cons (.ret (.var 2)) .nil))) .nil)
  (.cons (.set (.sub (.var 0) (.int 2)) (.int 0))
  (.cons (.set (.sub (.var 0) (.int 0)) (.bin .mod (.toInt (.bin .add (.bin .add (.bin .mul (dAt 0) (.int 48271)) (.bin .mul (dAt 1) (.int 69621))) (.int 11))) (.int 2147483647)))
  (.cons (.set (.sub (.var 0) (.int 1)) (.bin .add (dAt 1) (.int 1)))
  (.cons (.ret (.bin .mod (.toInt (.bin .add (.bin .fdiv (dAt 0) (.int 7)) (dAt 0))) (.var 1))) .nil))))
/-- d: the number of the dice's def -/
def rndsB (d : Nat) : Ss :=
  .cons (.set (.name 2) (.slL false (.var 0) .none (.some (.var 1))))
  (.cons (.ite (.eqD false (.var 2) (.lst false .nil)) (.cons (.set (.name 2) (.lst false (es1 (.int 0)))) .nil) .nil)
  (.cons (.ret (.comp (.call d (es1 (.var 3))) (.name 3) (.seq (.var 2)) .none [3])) .nil))
section
variable {C : CallH} {M : MTab} {ini : Nat → Nat}
theorem dice_does (c : Int) (h : EH) : ∃ x y z, exs C M ini diceB [some (.int c)] h = .ok (.rt (.ref h.length), [some (.int c)]) (h ++ [.lst [.int x, .int y, .int z]]) := by
  by_cases h1 : -10 < c
  · by_cases h2 : c < 10
    · refine ⟨if c < 0 then -c else c, 0, 2, ?_⟩
      simp [diceB, es3, exs, ex, ev, evs, T.bind, ofO, opW, cmW, cmI, boolK, newL, h1, h2]
    · refine ⟨c, 1 + c % 1009, if decide ((10 : Int) ^ 18 ≤ c) = true then 1 else 0, ?_⟩
      simp [diceB, es3, exs, ex, ev, evs, T.bind, ofO, opW, cmW, cmI, boolK, newL, h1, h2]
  · refine ⟨c, 1 + c % 1009, if decide ((10 : Int) ^ 18 ≤ c) = true then 1 else 0, ?_⟩
    simp [diceB, es3, exs, ex, ev, evs, T.bind, ofO, opW, cmW, cmI, boolK, newL, h1]
theorem ix3 {x y z : W} {h : EH} {a : Nat} (hl : a < h.length) (w : W) :
    setIx (.ref a) (.int 0) w (h.set a (.lst [x, y, z])) = some (h.set a (.lst [w, y, z])) ∧ setIx (.ref a) (.int 1) w (h.set a (.lst [x, y, z])) = some (h.set a (.lst [x, w, z])) ∧ setIx (.ref a) (.int 2) w (h.set a (.lst [x, y, z])) = some (h.set a (.lst [x, y, w])) := by
  refine ⟨?_, ?_, ?_⟩ <;> simp [setIx, hl, ixN]
theorem at3 {x y z : W} {h : EH} {a : Nat} {σ : Env} (hl : a < h.length) : ev C M ini (dAt 0) (some (.ref a) :: σ) (h.set a (.lst [x, y, z])) = .ok x (h.set a (.lst [x, y, z])) ∧ ev C M ini (dAt 1) (some (.ref a) :: σ) (h.set a (.lst [x, y, z])) = .ok y (h.set a (.lst [x, y, z])) ∧
    ev C M ini (dAt 2) (some (.ref a) :: σ) (h.set a (.lst [x, y, z])) = .ok z (h.set a (.lst [x, y, z])) := by
  refine ⟨?_, ?_, ?_⟩ <;> simp [dAt, ev, T.bind, seqOf, hl, ixW, ixN, ofO]
theorem roll_does {h : EH} {a : Nat} {x y z k : Int} (hk : 0 < k) (hk2 : k < 1073741824) (hl : a < h.length) :
    ∃ v x' y' z' σ, exs C M ini rollB [some (.ref a), some (.int k), none] (h.set a (.lst [.int x, .int y, .int z])) = .ok (.rt (.int v), σ) (h.set a (.lst [.int x', .int y', .int z'])) ∧ 0 ≤ v ∧ v < k := by
  have i0 := fun {x y z : W} (w : W) => (ix3 (x := x) (y := y) (z := z) hl w).1
  have i1 := fun {x y z : W} (w : W) => (ix3 (x := x) (y := y) (z := z) hl w).2.1
  have i2 := fun {x y z : W} (w : W) => (ix3 (x := x) (y := y) (z := z) hl w).2.2
  have a0 := fun {x y z : W} {σ : Env} => (at3 (C := C) (M := M) (ini := ini) (x := x) (y := y) (z := z) (σ := σ) hl).1
  have a1 := fun {x y z : W} {σ : Env} => (at3 (C := C) (M := M) (ini := ini) (x := x) (y := y) (z := z) (σ := σ) hl).2.1
  have a2 := fun {x y z : W} {σ : Env} => (at3 (C := C) (M := M) (ini := ini) (x := x) (y := y) (z := z) (σ := σ) hl).2.2
  have hkk : ∀ m : Int, 0 ≤ m % k ∧ m % k < k := fun m => ⟨Int.emod_nonneg _ (by omega), Int.emod_lt_of_pos _ hk⟩
  by_cases c : z = 2 ∨ (z = 1 ∧ 0 < x)
  · refine ⟨x % k, x / k, y, z, [some (.ref a), some (.int k), some (.int (x % k))], ?_, hkk _⟩
    rcases c with c | ⟨c, c2⟩
    · simp [rollB, es2, exs, ex, ev, evOr, evAnd, T.bind, ofO, opW, eqS, cmW, cmI, boolK, nxH, i0, a0, a2, c, hk, hk2]
    · simp [rollB, es2, exs, ex, ev, evOr, evAnd, T.bind, ofO, opW, eqS, cmW, cmI, boolK, nxH, i0, a0, a2, c, c2, hk, hk2]
  · have c1 : ¬ z = 2 := fun e => c (.inl e)
    refine ⟨((x * 48271 + y * 69621 + 11) % 2147483647 / 7 + (x * 48271 + y * 69621 + 11) % 2147483647) % k, (x * 48271 + y * 69621 + 11) % 2147483647, y + 1, 0, [some (.ref a), some (.int k), none], ?_, hkk _⟩
    by_cases c2 : z = 1
    · have c3 : ¬ 0 < x := fun e => c (.inr ⟨c2, e⟩)
      simp [rollB, es2, exs, ex, ev, evOr, evAnd, T.bind, ofO, opW, eqS, cmW, cmI, boolK, nxH, i0, i1, i2, a0, a1, a2, c1, c2, c3, hk, hk2]
    · simp [rollB, es2, exs, ex, ev, evOr, evAnd, T.bind, ofO, opW, eqS, cmW, cmI, boolK, nxH, i0, i1, i2, a0, a1, a2, c1, c2, hk, hk2]
end
end Z
namespace Z
open PySem PySem.Spec L2
theorem rnds_does {C : CallH} {M : MTab} {ini : Nat → Nat} {d : Nat} (hC : ∀ c h, ∃ x y z, C d [.int c] h = .ok (.ref h.length) (h ++ [.lst [.int x, .int y, .int z]])) (ns : List Int) (h : EH) :
    ∃ x y z σ, exs C M ini (rndsB d) [some (.scr ns), some (.int 1), none, none] h = .ok (.rt (.lst [.ref h.length]), σ) (h ++ [.lst [.int x, .int y, .int z]]) := by
  have e0 : eqDW h (.lst []) (.lst []) = some true := by simp [eqDW, froz, mapO]; rfl
  have e1 : ∀ c : Int, eqDW h (.lst [.int c]) (.lst []) = some false := fun c => by simp [eqDW, froz, mapO]; rfl
  cases ns with
  | nil =>
    obtain ⟨x, y, z, e⟩ := hC 0 h
    refine ⟨x, y, z, [some (.scr []), some (.int 1), some (.lst [.int 0]), none], ?_⟩
    simp [rndsB, es1, exs, ex, ev, evs, evo, evI, evc, T.bind, ofO, boolK, newL, lsqOf, cutW, sIx, e0, forL, store, wipeE, e, T.nox, unlock]
  | cons c ns =>
    obtain ⟨x, y, z, e⟩ := hC c h
    refine ⟨x, y, z, [some (.scr (c :: ns)), some (.int 1), some (.lst [.int c]), none], ?_⟩
    simp [rndsB, es1, exs, ex, ev, evs, evo, evI, evc, T.bind, ofO, boolK, newL, lsqOf, cutW, sIx, e1, forL, store, wipeE, e, T.nox, unlock]
/-- as FunD.ok, the code object known -/
theorem okC {P : Program} {w : World} {K : PySem.W.Frag} {mg : Str → Option Value} {base : Heap} {x qual : Str} {params : Arguments} {body : List Stmt} {scope : Scope} {dvs : List V} {kws : List (Str × V)} {f : Addr} {fd : FuncData} {CX : CXT} {N ps : List Str} {k : Nat} {sp : Sp}
    (F : FunD K x qual params body scope dvs kws f fd) (S : FnScope N ps scope) (len : ∀ vs H Q E, sp vs H Q E → vs.length = ps.length)
    (hbody : ∀ (A : Around) (outer : List PySem.Env) (s : Shared) (H : Hp) (vs : List V) (Q : VK) (E : XK), Room k (A.deeper (PyProof.Rows.envOfC qual scope s.heap.objs.size f fd.code)) → sp vs H Q E →
      ∃ t, PSs (cxOf CX P w K mg base N qual scope f fd.code A outer s H E) body t ∧ t { nx := fun _ H' => Q .non H', rt := Q } (L2.start N vs) H) : FnOk P w K mg base CX (k + 1) f fd ps sp := by
  obtain ⟨oc, od, dV, kV, doc, pm, an, cdv, ct, osl, rfl, lk, hcd, _, _⟩ := F.ex
  exact fn_of lk hcd S len fun A outer s H vs Q E hr hsp => hbody A outer s H vs Q E hr hsp
/-- the facts of the whole text; gt: the defs' tables of inner codes -/
structure Gf (mg : Str → Option Value) (B : Tb) (I : Inf) (G : Pg) (d : Nat) (fa : Nat → Addr) (fd : Nat → FuncData) (gt : Nat → Option Nat) : Prop where
  fl : B.fl = I.fl
  fnd : I.fl.Nodup
  cls : ∀ c, I.isC c = true → Cls I.K (I.ca c) ∧ ∀ n ∈ I.fl, NoAttr I.K (I.ca c) n
  blt : ∀ n ∈ B.blt, mg n = none
  no : ∀ f, B.fn f = none → f ≠ G.roll ∧ f ≠ G.rnds ∧ G.body f = none
  tx : ∀ f i, B.fn f = some i → ∃ x qual st N b, FunD I.K x qual (defArgs st) (defBody st) (defScope st) [] [] (fa f) (fd f) ∧ FnScope N i.ps (defScope st) ∧ chkSs B N (gt f) (fun _ => true) (defScope st) b (defBody st) = true ∧
    (if f = G.roll then b = rollB ∧ i.ps.length = 2 ∧ N.length = 3 else if f = G.rnds then b = rndsB d ∧ i.ps.length = 2 ∧ N.length = 4 else G.body f = some (i.ps.length, N.length, b))
  dc : d ≠ G.roll ∧ d ≠ G.rnds ∧ G.body d = some (1, 1, diceB)
  rr : G.rnds ≠ G.roll
  bd : ∀ f i, B.fn f = some i → Binds I.K (fd f) i.ps []
  gl : ∀ f i, B.fn f = some i → i.glob = true → mg i.x = some (.ref (fa f))
  cl : ∀ c x, B.cls c = some x → mg x = some (.ref (I.ca c)) ∧ I.isC c = true ∧ Mk I.K (I.ca c) (fa (G.ini c)) ∧ ∃ i, B.fn (G.ini c) = some i
  mt : ∀ c m f, I.isC c = true → G.M c m = some f → Meth I.K (I.ca c) (B.mth m) (fa f) ∧ ∃ i, B.fn f = some i
/-- the tables' own facts -/
def GtOk (base : Heap) (mg : Str → Option Value) (I : Inf) (fd : Nat → FuncData) (gt : Nat → Option Nat) : Prop := ∀ f t, gt f = some t → ∃ c P, (fd f).code = .ref c ∧ GxR.TabB base mg c P ∧ I.tb[t]? = some P
section
variable {mg : Str → Option Value} {B : Tb} {I : Inf} {G : Pg} {d : Nat} {fa : Nat → Addr} {fd : Nat → FuncData} {gt : Nat → Option Nat}
theorem roll_len {ws : List W} {h : EH} {P : W → EH → Prop} {E : Nat → EH → Prop} (q : (rollT ws h).All P E) : ∃ a k, ws = [.ref a, .int k] ∧ h[a]? = some .dice ∧ 0 < k ∧ k < 1073741824 ∧ ∀ i, i < k.toNat → P (.int (i : Int)) h := by
  unfold rollT at q
  split at q
  · rename_i a n
    split at q
    · rename_i hx
      split at q
      · rename_i hn
        exact ⟨a, n, rfl, hx, hn.1, hn.2, fun i hi => q.2.2 i hi⟩
      · exact q.elim
    · exact q.elim
  · exact q.elim
theorem rnds_len {ws : List W} {h : EH} {P : W → EH → Prop} {E : Nat → EH → Prop} (q : (rndsT ws h).All P E) : ∃ ns, ws = [.scr ns, .int 1] ∧ P (.lst [.ref h.length]) (h ++ [.dice]) := by
  unfold rndsT at q
  split at q
  · exact ⟨_, rfl, q⟩
  · exact q.elim
theorem fs_of (g : Gf mg B I G d fa fd gt) {n : Nat} {X : Cx} (hK : X.K = I.K) (hm : X.mg = mg) (hr : Room (3 * n + 1) X.A)
    (ok : ∀ f i, B.fn f = some i → FnOk X.prog X.w X.K X.mg X.base (L2.CX X.prog X.w) (3 * n) (fa f) (fd f) i.ps (spC I (callN G n) f i.ps.length)) : Fs B I (callN G n) G.M G.ini (3 * n) fa fd X := by
  subst hm
  refine ⟨hr, fun f ws h hf => ?_, fun f i ws h P E hf q => ?_, ok, fun f i hf => ?_, fun f i hf => ?_, g.gl, fun c x hc => ?_, fun c m f hc hm => ?_⟩
  · obtain ⟨h1, h2, h3⟩ := g.no f hf
    cases n with
    | zero => rfl
    | succ n => simp only [callN, if_neg h1, if_neg h2, h3]
  · cases n with
    | zero => exact q.elim
    | succ n =>
      obtain ⟨x, qual, st, N, b, _, _, _, hb⟩ := g.tx f i hf
      simp only [callN] at q
      split at q
      · rename_i e
        rw [if_pos e] at hb
        obtain ⟨a, k, rfl, _⟩ := roll_len q
        exact hb.2.1.symm
      · rename_i e
        rw [if_neg e] at hb
        split at q
        · rename_i e2
          rw [if_pos e2] at hb
          split at q
          · exact q.elim
          · obtain ⟨_, rfl, _⟩ := rnds_len q
            exact hb.2.1.symm
        · rename_i e2
          rw [if_neg e2] at hb
          rw [hb] at q
          simp only at q
          split at q
          · assumption
          · exact q.elim
  · obtain ⟨x, qual, st, N, b, hF, _⟩ := g.tx f i hf
    rw [hK]
    exact hF.kp
  · rw [hK]; exact g.bd f i hf
  · rw [hK]; exact g.cl c x hc
  · rw [hK]; exact g.mt c m f hc hm
theorem rs_entry {ι : Pl} {H : Hp} {ws : List W} {vs : List V} {N : List Str} (r : RWs I ι H ws vs) : RS I ι H (entry N.length ws) (L2.start N vs) := by
  have hl := r.length
  refine ⟨by simp [entry, L2.start, hl], fun i w e => ?_⟩
  unfold entry at e
  unfold L2.start
  by_cases hi : i < ws.length
  · rw [List.getElem?_append_left (by simpa using hi), List.getElem?_map] at e
    cases hw : ws[i]? with
    | none => rw [hw] at e; cases e
    | some w' =>
      rw [hw] at e
      cases e
      obtain ⟨v, hv, rv⟩ := r.get hw
      exact ⟨v, by rw [List.getElem?_append_left (by rw [List.length_map, ← hl]; exact hi), List.getElem?_map, hv]; rfl, rv⟩
  · rw [List.getElem?_append_right (by simpa using hi), List.getElem?_replicate] at e
    split at e <;> cases e
theorem set_same {α : Type} : ∀ {h : List α} {a : Nat} {x : α}, h[a]? = some x → h.set a x = h
  | [], _, _, e => by simp at e
  | y :: h, 0, x, e => by simp at e; simp [e]
  | y :: h, a + 1, x, e => by
    simp only [List.set_cons_succ]
    rw [set_same (by simpa using e)]
theorem fn_all (g : Gf mg B I G d fa fd gt) {P : Program} {w : World} {base : Heap} (hT : GtOk base mg I fd gt) : ∀ n f i, B.fn f = some i → FnOk P w I.K mg base (L2.CX P w) (3 * n) (fa f) (fd f) i.ps (spC I (callN G n) f i.ps.length)
  | 0, f, i, hf => ⟨fun vs H Q E ⟨ι, h, ws, rp, r, l, q⟩ => l, fun A outer s H args us vs Q E _ _ _ _ ⟨ι, h, ws, rp, r, l, q⟩ => q.elim⟩
  | n + 1, f, i, hf => by
    obtain ⟨x, qual, st, N, b, hF, hS, hch, hb⟩ := g.tx f i hf
    refine okC (k := 3 * n + 2) hF hS (fun vs H Q E ⟨ι, h, ws, rp, r, l, q⟩ => l) fun A outer s H vs Q E hr hsp => ?_
    obtain ⟨ι, h, ws, rp, r, l, q⟩ := hsp
    have F : Fs B I (callN G n) G.M G.ini (3 * n) fa fd (cxOf (L2.CX P w) P w I.K mg base N qual (defScope st) (fa f) (fd f).code A outer s H E) := fs_of g rfl rfl (hr.mono (Nat.le_succ _)) (fn_all g hT n)
    have S : Cs B I (cxOf (L2.CX P w) P w I.K mg base N qual (defScope st) (fa f) (fd f).code A outer s H E) := ⟨rfl, rfl, hS.nd, (Nat.lt_of_le_of_lt (Nat.add_le_add_left (by omega : 65 ≤ 16 * (3 * n + 2) + 200) _) (by have h := hr.un; rw [Nat.add_assoc] at h; exact h)), g.fl, g.fnd, g.cls, g.blt⟩
    have bs : Bs (cxOf (L2.CX P w) P w I.K mg base N qual (defScope st) (fa f) (fd f).code A outer s H E) := ⟨hS.kind, passes_of rfl⟩
    have Gg : Gs I (gt f) (3 * n) (cxOf (L2.CX P w) P w I.K mg base N qual (defScope st) (fa f) (fd f).code A outer s H E) := ⟨fun t ht => ⟨hr, hT f t ht⟩⟩
    refine ⟨_, sndSs (Wx := E) b S bs F Gg (takes_of rfl rfl rfl rfl) hch, ?_⟩
    simp only [callN] at q
    split at q
    · rename_i e
      rw [if_pos e] at hb
      obtain ⟨rfl, h2, h3⟩ := hb
      obtain ⟨a, k, rfl, ha, hk, hk2, hq⟩ := roll_len q
      have hl : a < h.length := (List.getElem?_eq_some_iff.mp ha).1
      obtain ⟨p, hp, x, y, z, hH⟩ := rp.ob a _ ha
      obtain ⟨v, x', y', z', σ', ee, v0, v1⟩ := roll_does (C := callN G n) (M := G.M) (ini := G.ini) (h := h) (x := x) (y := y) (z := z) hk hk2 hl
      have rp2 : Rep I ι (h.set a (.lst [.int x, .int y, .int z])) H := rp.mark hp ⟨_, hH, .cons (.int _) (.cons (.int _) (.cons (.int _) .nil)), Nat.le_of_ble_eq_true rfl⟩
      refine ⟨ι, h.set a (.lst [.int x, .int y, .int z]), entry N.length [.ref a, .int k], rs_entry r, rp2, ?_⟩
      rw [h3]
      show T.All _ _ (exs (callN G n) G.M G.ini rollB [some (.ref a), some (.int k), none] _)
      rw [ee]
      intro ι' H' σ'' e' rp' rs' u ru
      cases ru
      have q2 := hq v.toNat (by omega)
      rw [Int.toNat_of_nonneg v0] at q2
      have hp' := e'.ix hp
      obtain ⟨us, g1, g2, g3⟩ := rp'.at (o := .lst [.int x', .int y', .int z']) hp' (by simp [hl])
      have rp3 := rp'.mark (eo := .dice) hp' (by
        cases g2 with
        | cons r1 g2 =>
          cases g2 with
          | cons r2 g2 =>
            cases g2 with
            | cons r3 g2 =>
              cases g2
              cases r1; cases r2; cases r3
              exact ⟨_, _, _, g1⟩)
      have eh : (h.set a (.lst [.int x', .int y', .int z'])).set a .dice = h := by
        rw [List.set_set]
        exact set_same ha
      rw [eh] at rp3
      exact q2 ι' H' _ e' rp3 (.int _)
    · rename_i e
      rw [if_neg e] at hb
      split at q
      · rename_i e2
        rw [if_pos e2] at hb
        obtain ⟨rfl, h2, h3⟩ := hb
        split at q
        · exact q.elim
        · rename_i hn
          obtain ⟨ns, rfl, hq⟩ := rnds_len q
          obtain ⟨d1, d2, d3⟩ := g.dc
          obtain ⟨x, y, z, σ', ee⟩ := rnds_does (C := callN G n) (M := G.M) (ini := G.ini) (d := d) (fun c h => by
            obtain ⟨m, rfl⟩ := Nat.exists_eq_succ_of_ne_zero hn
            obtain ⟨x, y, z, e⟩ := dice_does (C := callN G m) (M := G.M) (ini := G.ini) c h
            refine ⟨x, y, z, ?_⟩
            have e' : exs (callN G m) G.M G.ini diceB (entry 1 [.int c]) h = _ := e
            simp only [callN, if_neg d1, if_neg d2, d3, List.length_singleton, if_true, e']
            rfl) ns h
          refine ⟨ι, h, entry N.length [.scr ns, .int 1], rs_entry r, rp, ?_⟩
          rw [h3]
          show T.All _ _ (exs (callN G n) G.M G.ini (rndsB d) [some (.scr ns), some (.int 1), none, none] _)
          rw [ee]
          intro ι' H' σ'' e' rp' rs' u ru
          have hx : (h ++ [EO.lst [.int x, .int y, .int z]])[h.length]? = some (.lst [.int x, .int y, .int z]) := by simp
          obtain ⟨p, hp, us, g1, g2, g3⟩ := rp'.ob h.length _ hx
          have rp3 := rp'.mark (eo := .dice) hp (by
            cases g2 with
            | cons r1 g2 =>
              cases g2 with
              | cons r2 g2 =>
                cases g2 with
                | cons r3 g2 =>
                  cases g2
                  cases r1; cases r2; cases r3
                  exact ⟨_, _, _, g1⟩)
          have eh : (h ++ [EO.lst [.int x, .int y, .int z]]).set h.length .dice = h ++ [.dice] := by simp
          rw [eh] at rp3
          exact hq ι' H' u e' rp3 ru
      · rename_i e2
        rw [if_neg e2] at hb
        rw [hb] at q
        simp only at q
        split at q
        · refine ⟨ι, h, entry N.length ws, rs_entry r, rp, (T.All.bind q).mono (fun p h' k => ?_) fun _ _ z => z⟩
          intro ι' H' σ' e' rp' rs'
          obtain ⟨fl, σ2⟩ := p
          cases fl with
          | nx => exact k ι' H' _ e' rp' .non
          | rt w => exact fun v rv => k ι' H' v e' rp' rv
          | bk => exact k.elim
          | ct => exact k.elim
        · exact q.elim
end
end Z
namespace Z
open PySem PySem.Spec L2
def spLaw (K : PySem.W.Frag) : Sp := fun vs H Q _ => ∃ (a : Addr) (ns : List Int), vs = [.ref a] ∧ SqL K H a (ns.map V.int) ∧ ns.length ≤ 63 ∧ ∀ H', Q (.bl true) H'
theorem rep0 {I : Inf} {H : Hp} (nd : I.tb.Nodup) (hH : ∀ P ∈ I.tb, H P = some (.tbl #[])) : Rep I ⟨I.tb, []⟩ (List.replicate I.tb.length .tbl) H :=
  ⟨by simp, nd, fun a h => (by cases h), fun i o h => by
    rw [List.getElem?_replicate] at h
    split at h
    · rename_i hi
      cases h
      exact ⟨I.tb[i], List.getElem?_eq_getElem hi, #[], hH _ (List.getElem_mem hi), trivial⟩
    · exact (nomatch h), fun j P e => e⟩
/-- what a law's script is, with the tables -/
def spLawT (K : PySem.W.Frag) (tb : List Addr) : Sp := fun vs H Q _ => ∃ (a : Addr) (ns : List Int), vs = [.ref a] ∧ SqL K H a (ns.map V.int) ∧ ns.length ≤ 63 ∧ (∀ P ∈ tb, H P = some (.tbl #[])) ∧ ∀ H', Q (.bl true) H'
theorem law_end {mg : Str → Option Value} {B : Tb} {I : Inf} {G : Pg} {d : Nat} {fa : Nat → Addr} {fd : Nat → FuncData} {gt : Nat → Option Nat} (g : Gf mg B I G d fa fd gt) (nd : I.tb.Nodup) {P : Program} {w : World} {base : Heap} (hT : GtOk base mg I fd gt) {n fL : Nat} {x : Str} {i : FnI} (hf : B.fn fL = some i) (hx : i.ps = [x])
    (plain : ∀ ns : List Int, (callN G n fL [.scr ns] (List.replicate I.tb.length .tbl)).All (fun w _ => w = .bl true) (fun _ _ => False)) : FnOk P w I.K mg base (L2.CX P w) (3 * n) (fa fL) (fd fL) [x] (spLawT I.K I.tb) := by
  have h := fn_all g (P := P) (w := w) (base := base) hT n fL i hf
  rw [hx] at h
  refine h.imp fun vs H Q E ⟨a, ns, e, hS, hl, hH, hQ⟩ => ?_
  subst e
  refine ⟨⟨I.tb, []⟩, List.replicate I.tb.length .tbl, [.scr ns], rep0 nd hH, .cons (.scr ?_ hl) .nil, rfl, (plain ns).mono (fun w h' e => ?_) fun _ _ z => z.elim⟩
  · rcases hS with hS | hS
    · refine .inl ⟨hS, fun z => ?_⟩
      rcases z with z | z
      · have := hH a z
        rcases hS with e | ⟨o, e⟩ <;> rw [this] at e <;> cases e
      · cases z
    · exact .inr hS
  · subst e
    intro ι' H' v _ _ r
    cases r
    exact hQ H'
/-- what the kernel can see: every end is True -/
def T.chk : T W → Bool
  | .fail => false
  | .ok w _ => match w with | .bl true => true | _ => false
  | .exc _ _ => false
  | .draw n k => decide (0 < n) && decide (n < 1073741824) && (List.range n).all fun i => (k i).chk
theorem T.chk_all : ∀ {t : T W}, t.chk = true → t.All (fun w _ => w = .bl true) fun _ _ => False
  | .fail, h => by simp [T.chk] at h
  | .ok w _, h => by
    simp only [T.chk] at h
    split at h
    · rfl
    · cases h
  | .exc _ _, h => by simp [T.chk] at h
  | .draw n k, h => by
    simp only [T.chk, Bool.and_eq_true, decide_eq_true_eq, List.all_eq_true, List.mem_range] at h
    exact ⟨h.1.1, h.1.2, fun i hi => T.chk_all (h.2 i hi)⟩
end Z
namespace Z
open PySem PySem.Spec L2
theorem tab_code {K : PySem.W.Frag} {p : He.Defn} {x qual : Str} {params : Arguments} {body : List Stmt} {scope : Scope} {dvs : List V} {kws : List (Str × V)} {fd : FuncData} (F : FunD K x qual params body scope dvs kws (He.fAd K p) fd) : ∃ c, fd.code = .ref c ∧ (He.cT K p).1 = c := by
  obtain ⟨oc, od, dV, kV, doc, pm, an, cdv, ct, osl, rfl, lk, hcd, _, _⟩ := F.ex
  obtain ⟨c, rfl⟩ := He.codeIn_ref hcd
  exact ⟨c, rfl, He.codeOf_eq lk rfl⟩
theorem law_at {l : PySem.W.OpenLaw} {w : World} {K : PySem.W.Frag} {h : Heap} {mg : Str → Option Value} {fas : List He.Fa} {fn : List He.DefD} {tf : List He.Defn} {ex : PySem.W.Frag → Bool} (KX : K.In h) (c : He.SaysX fas fn [] tf ex w h K)
    {B : Tb} {I : Inf} {G : Pg} {d : Nat} {fa : Nat → Addr} {fd : Nat → FuncData} {gt : Nat → Option Nat} (g : Gf mg B I G d fa fd gt) (hK : I.K = K) (htb : I.tb = tf.map fun p => (He.cT K p).2) (nd : I.tb.Nodup)
    (hgt : ∀ f t, gt f = some t → ∃ p, tf[t]? = some p ∧ ∃ c, (fd f).code = .ref c ∧ (He.cT K p).1 = c) {n fL : Nat} {x : Str} {i : FnI} (hf : B.fn fL = some i) (hx : i.ps = [x])
    (hb : ∀ (s : Shared) (u : Value), BindsTo s (fd fL) ⟨[u], []⟩ [(x, u)])
    (plain : ∀ ns : List Int, (callN G n fL [.scr ns] (List.replicate I.tb.length .tbl)).All (fun w _ => w = .bl true) (fun _ _ => False)) : LamX.LawAtS l w K (L2.CX l.prog w) (3 * n) 63 x mg (fa fL) h := by
  have memI : ∀ P ∈ I.tb, ∃ q ∈ tf.map (He.cT K), q.2 = P := fun P hP => by
    rw [htb] at hP
    obtain ⟨p, hp, e⟩ := List.mem_map.mp hP
    exact ⟨_, List.mem_map.mpr ⟨p, hp, rfl⟩, e⟩
  refine ⟨fd fL, tf.map (He.cT K), spLawT K I.tb, fun q hq => ?_, fun q hq => ?_, fun q hq => ?_, hb, fun H a ns hl _ hH hS => ?_, fun base _ _ hT => ?_⟩
  · obtain ⟨p, hp, rfl⟩ := List.mem_map.mp hq
    exact c.empty p hp
  · obtain ⟨p, hp, rfl⟩ := List.mem_map.mp hq
    exact c.out p hp
  · obtain ⟨p, hp, rfl⟩ := List.mem_map.mp hq
    exact PySem.W.codeHd_of_K KX (c.hd p hp)
  · refine ⟨a, ns, rfl, hS, hl, fun P hP => ?_, fun _ => rfl⟩
    obtain ⟨q, hq, rfl⟩ := memI P hP
    exact hH q hq
  · subst hK
    refine law_end g nd (P := l.prog) (w := w) (base := base) (fun f t ht => ?_) hf hx plain
    obtain ⟨p, hp, cc, e1, e2⟩ := hgt f t ht
    have T := hT (He.cT I.K p) (List.mem_map.mpr ⟨p, List.mem_of_getElem? hp, rfl⟩)
    refine ⟨cc, (He.cT I.K p).2, e1, ?_, ?_⟩
    · rw [← e2]
      exact ⟨T.code, T.bm, T.gP⟩
    · rw [htb, List.getElem?_map, hp]
      rfl
end Z
namespace Z
def T.sub : T W → Nat → T W
  | .draw _ k, i => k i
  | t, _ => t
def T.wid : T W → Nat
  | .draw n _ => n
  | _ => 0
theorem T.chk_draw {t : T W} {n : Nat} (hn : t.wid = n) (h0 : 0 < n ∧ n < 1073741824) (h : ∀ i, i < n → (t.sub i).chk = true) : t.chk = true := by
  cases t with
  | fail => exact absurd hn.symm (by simp [T.wid]; omega)
  | ok w h => exact absurd hn.symm (by simp [T.wid]; omega)
  | exc c h => exact absurd hn.symm (by simp [T.wid]; omega)
  | draw m k =>
    simp only [T.wid] at hn
    subst hn
    simp only [T.chk, Bool.and_eq_true, decide_eq_true_eq, List.all_eq_true, List.mem_range]
    exact ⟨h0, h⟩
end Z
noncomputable section
namespace Z.F
open PySem
abbrev CE := Env → EH → T W
abbrev CS := Env → EH → R
def fb {α β : Type} (t : T α) (f : α → EH → T β) : T β := T.rec (motive := fun _ => T β) .fail (fun a h => f a h) (fun c h => .exc c h) (fun n _ ih => .draw n ih) t
theorem fb_eq {α β : Type} : ∀ (t : T α) (f : α → EH → T β), t.bind f = fb t f
  | .fail, f => rfl
  | .ok a h, f => rfl
  | .exc c h, f => rfl
  | .draw n k, f => by
    show (T.draw n fun i => (k i).bind f) = T.draw n (fun i => fb (k i) f)
    congr 1
    funext i
    exact fb_eq (k i) f
def nox {α : Type} (t : T α) : T α := T.rec (motive := fun _ => T α) .fail (fun a h => .ok a h) (fun c h => .fail) (fun n _ ih => .draw n ih) t
theorem nox_eq {α : Type} : ∀ (t : T α), t.nox = nox t
  | .fail => rfl
  | .ok a h => rfl
  | .exc c h => rfl
  | .draw n k => by
    show (T.draw n fun i => (k i).nox) = T.draw n (fun i => nox (k i))
    congr 1
    funext i
    exact nox_eq (k i)
def nth {α : Type} (l : List α) : Nat → Option α := List.rec (motive := fun _ => Nat → Option α) (fun _ => none) (fun x _ ih n => Nat.rec (motive := fun _ => Option α) (some x) (fun m _ => ih m) n) l
theorem nth_eq {α : Type} : ∀ (l : List α) (n : Nat), l[n]? = nth l n
  | [], n => rfl
  | x :: l, 0 => rfl
  | x :: l, n + 1 => by
    show _ = nth l n
    rw [← nth_eq l n]; simp
def put {α : Type} (l : List α) : Nat → α → List α := List.rec (motive := fun _ => Nat → α → List α) (fun _ _ => []) (fun x t ih n y => Nat.rec (motive := fun _ => List α) (y :: t) (fun m _ => x :: ih m y) n) l
theorem put_eq {α : Type} : ∀ (l : List α) (n : Nat) (y : α), l.set n y = put l n y
  | [], n, y => rfl
  | x :: l, 0, y => rfl
  | x :: l, n + 1, y => by
    show _ = x :: put l n y
    rw [← put_eq l n y]; simp
def lenF {α : Type} (l : List α) : Nat := List.rec (motive := fun _ => Nat) Nat.zero (fun _ _ ih => Nat.succ ih) l
theorem lenF_eq {α : Type} : ∀ l : List α, l.length = lenF l
  | [] => rfl
  | x :: l => congrArg Nat.succ (lenF_eq l)
def appF {α : Type} (l r : List α) : List α := List.rec (motive := fun _ => List α) r (fun x _ ih => x :: ih) l
theorem appF_eq {α : Type} (r : List α) : ∀ l : List α, l ++ r = appF l r
  | [] => rfl
  | x :: l => congrArg (x :: ·) (appF_eq r l)
def ob {α β : Type} (o : Option α) (d : β) (f : α → β) : β := Option.rec (motive := fun _ => β) d f o
def ib {α : Type} (b : Bool) (x y : α) : α := Bool.rec (motive := fun _ => α) y x b
theorem ib_eq {α : Type} (b : Bool) (x y : α) : (if b = true then x else y) = ib b x y := by cases b <;> rfl
def wi {β : Type} (w : W) (d : β) (f : Int → β) : β := W.rec (motive_1 := fun _ => β) (motive_2 := fun _ => Unit) d (fun _ => d) f (fun _ => d) (fun _ _ => d) (fun _ _ => d) (fun _ => d) (fun _ => d) () (fun _ _ _ _ => ()) w
def wb {β : Type} (w : W) (d : β) (f : Bool → β) : β := W.rec (motive_1 := fun _ => β) (motive_2 := fun _ => Unit) d f (fun _ => d) (fun _ => d) (fun _ _ => d) (fun _ _ => d) (fun _ => d) (fun _ => d) () (fun _ _ _ _ => ()) w
def wr {β : Type} (w : W) (d : β) (f : Nat → β) : β := W.rec (motive_1 := fun _ => β) (motive_2 := fun _ => Unit) d (fun _ => d) (fun _ => d) (fun _ => d) (fun _ _ => d) (fun _ _ => d) f (fun _ => d) () (fun _ _ _ _ => ()) w
def wt {β : Type} (w : W) (d : β) (f : List W → β) : β := W.rec (motive_1 := fun _ => β) (motive_2 := fun _ => Unit) d (fun _ => d) (fun _ => d) (fun _ => d) (fun xs _ => f xs) (fun _ _ => d) (fun _ => d) (fun _ => d) () (fun _ _ _ _ => ()) w
/-- lists and tuples by value, places -/
def w3 {β : Type} (w : W) (d : β) (t l : List W → β) (f : Nat → β) : β := W.rec (motive_1 := fun _ => β) (motive_2 := fun _ => Unit) d (fun _ => d) (fun _ => d) (fun _ => d) (fun xs _ => t xs) (fun xs _ => l xs) f (fun _ => d) () (fun _ _ _ _ => ()) w
/-- a list at a place, locked or not -/
def ol {β : Type} (o : EO) (d : β) (f g : List W → β) : β := EO.rec (motive := fun _ => β) f g (fun _ => d) (fun _ => d) (fun _ _ => d) d (fun _ => d) (fun _ => d) d o
def od {β : Type} (o : EO) (d : β) (f g : List (W × W) → β) : β := EO.rec (motive := fun _ => β) (fun _ => d) (fun _ => d) f g (fun _ _ => d) d (fun _ => d) (fun _ => d) d o
def ot {β : Type} (o : EO) (d : β) (f g : List (W × W) → β) : β := EO.rec (motive := fun _ => β) (fun _ => d) (fun _ => d) (fun _ => d) (fun _ => d) (fun _ _ => d) d f g d o
def oi {β : Type} (o : EO) (d : β) (f : Nat → List (Nat × W) → β) : β := EO.rec (motive := fun _ => β) (fun _ => d) (fun _ => d) (fun _ => d) (fun _ => d) f d (fun _ => d) (fun _ => d) d o
/-! ### numbers -/
def iK {β : Type} (i : Int) (f g : Nat → β) : β := Int.rec (motive := fun _ => β) f g i
def addI (i j : Int) : Int := iK i (fun m => iK j (fun n => .ofNat (Nat.add m n)) (fun n => Int.subNatNat m (Nat.succ n))) (fun m => iK j (fun n => Int.subNatNat n (Nat.succ m)) (fun n => .negSucc (Nat.succ (Nat.add m n))))
theorem addI_eq (i j : Int) : i + j = addI i j := by cases i <;> cases j <;> rfl
def subN (m n : Nat) : Int := ib (Nat.ble n m) (.ofNat (Nat.sub m n)) (.negSucc (Nat.pred (Nat.sub n m)))
theorem subN_eq (m n : Nat) : (m : Int) - (n : Int) = subN m n := by
  unfold subN ib
  cases e : Nat.ble n m with
  | true =>
    have := Nat.le_of_ble_eq_true e
    show (m : Int) - (n : Int) = ((m - n : Nat) : Int)
    omega
  | false =>
    have : ¬ n ≤ m := fun h => by rw [Nat.ble_eq_true_of_le h] at e; cases e
    show (m : Int) - (n : Int) = Int.negSucc ((n - m) - 1)
    rw [Int.negSucc_eq]
    omega
def subI (i j : Int) : Int := iK i (fun m => iK j (fun n => subN m n) (fun n => .ofNat (Nat.succ (Nat.add m n)))) (fun m => iK j (fun n => .negSucc (Nat.add m n)) (fun n => subN n m))
theorem subI_eq (i j : Int) : i - j = subI i j := by
  cases i with
  | ofNat m =>
    cases j with
    | ofNat n => exact subN_eq m n
    | negSucc n => show (m : Int) - Int.negSucc n = ((m + n + 1 : Nat) : Int); rw [Int.negSucc_eq]; omega
  | negSucc m =>
    cases j with
    | ofNat n => show Int.negSucc m - (n : Int) = Int.negSucc (m + n); rw [Int.negSucc_eq, Int.negSucc_eq]; omega
    | negSucc n => show Int.negSucc m - Int.negSucc n = subN n m; rw [← subN_eq, Int.negSucc_eq, Int.negSucc_eq]; omega
def ltI (i j : Int) : Bool := iK i (fun m => iK j (fun n => Nat.ble (Nat.succ m) n) (fun _ => false)) (fun m => iK j (fun _ => true) (fun n => Nat.ble (Nat.succ n) m))
theorem ble_dec (m n : Nat) : Nat.ble m n = decide (m ≤ n) := by
  cases e : Nat.ble m n with
  | true => exact (decide_eq_true (Nat.le_of_ble_eq_true e)).symm
  | false => exact (decide_eq_false fun h => by rw [Nat.ble_eq_true_of_le h] at e; cases e).symm
theorem ltI_eq (i j : Int) : decide (i < j) = ltI i j := by
  cases i with
  | ofNat m =>
    cases j with
    | ofNat n => show decide ((m : Int) < (n : Int)) = Nat.ble (m + 1) n; rw [ble_dec]; apply decide_eq_decide.mpr; omega
    | negSucc n => show decide ((m : Int) < Int.negSucc n) = false; apply decide_eq_false; rw [Int.negSucc_eq]; omega
  | negSucc m =>
    cases j with
    | ofNat n => show decide (Int.negSucc m < (n : Int)) = true; apply decide_eq_true; rw [Int.negSucc_eq]; omega
    | negSucc n => show decide (Int.negSucc m < Int.negSucc n) = Nat.ble (n + 1) m; rw [ble_dec]; apply decide_eq_decide.mpr; rw [Int.negSucc_eq, Int.negSucc_eq]; omega
def leI (i j : Int) : Bool := ib (ltI j i) false true
theorem leI_eq (i j : Int) : decide (i ≤ j) = leI i j := by
  unfold leI
  rw [← ltI_eq]
  by_cases h : j < i
  · rw [decide_eq_true h]; exact decide_eq_false (by omega)
  · rw [decide_eq_false h]; exact decide_eq_true (by omega)
def eqI (i j : Int) : Bool := iK i (fun m => iK j (fun n => Nat.beq m n) (fun _ => false)) (fun m => iK j (fun _ => false) (fun n => Nat.beq m n))
theorem beq_dec (m n : Nat) : Nat.beq m n = decide (m = n) := by
  cases e : Nat.beq m n with
  | true => exact (decide_eq_true (Nat.eq_of_beq_eq_true e)).symm
  | false => exact (decide_eq_false (Nat.ne_of_beq_eq_false e)).symm
theorem eqI_eq (i j : Int) : decide (i = j) = eqI i j := by
  cases i with
  | ofNat m =>
    cases j with
    | ofNat n => show decide ((m : Int) = (n : Int)) = Nat.beq m n; rw [beq_dec]; apply decide_eq_decide.mpr; omega
    | negSucc n => show decide ((m : Int) = Int.negSucc n) = false; apply decide_eq_false; rw [Int.negSucc_eq]; omega
  | negSucc m =>
    cases j with
    | ofNat n => show decide (Int.negSucc m = (n : Int)) = false; apply decide_eq_false; rw [Int.negSucc_eq]; omega
    | negSucc n => show decide (Int.negSucc m = Int.negSucc n) = Nat.beq m n; rw [beq_dec]; apply decide_eq_decide.mpr; rw [Int.negSucc_eq, Int.negSucc_eq]; omega
def toN (i : Int) : Nat := iK i (fun n => n) (fun _ => 0)
theorem toN_eq (i : Int) : i.toNat = toN i := by cases i <;> rfl
end Z.F
noncomputable section
namespace Z.F
open PySem
def p_add (x y : W) (h : EH) : T W := wi x .fail fun i => wi y .fail fun j => .ok (.int (addI i j)) h
def p_sub (x y : W) (h : EH) : T W := wi x .fail fun i => wi y .fail fun j => .ok (.int (subI i j)) h
def smI (i : Int) : Bool := iK i (fun n => Nat.ble (Nat.succ n) 18446744073709551616) (fun n => Nat.ble (Nat.succ (Nat.succ n)) 18446744073709551616)
def mulI (i j : Int) : Int := iK i (fun m => iK j (fun n => .ofNat (Nat.mul m n)) (fun _ => i * j)) (fun _ => i * j)
theorem mulI_eq (i j : Int) : i * j = mulI i j := by cases i <;> cases j <;> rfl
def p_mul (x y : W) (h : EH) : T W := wi x .fail fun i => wi y .fail fun j => ib (smI i) (.ok (.int (mulI i j)) h) (ib (smI j) (.ok (.int (mulI i j)) h) .fail)
def dvI (f g : Int → Int → Int) (x y : W) (h : EH) (top : Bool) : T W := .fail
def p_fdiv (x y : W) (h : EH) : T W := wi x .fail fun i => wi y .fail fun j => ib (ltI 0 j) (ib (ltI j 1073741824) (.ok (.int (iK i (fun m => iK j (fun n => .ofNat (Nat.div m n)) (fun _ => i / j)) (fun _ => i / j))) h) .fail) .fail
def p_mod (x y : W) (h : EH) : T W := wi x .fail fun i => wi y .fail fun j => ib (ltI 0 j) (.ok (.int (iK i (fun m => iK j (fun n => .ofNat (Nat.mod m n)) (fun _ => i % j)) (fun _ => i % j))) h) .fail
def p_pow (x y : W) (h : EH) : T W := ofO (opW .pow x y) h
theorem p_add_eq (x y : W) (h : EH) : ofO (opW .add x y) h = p_add x y h := by
  cases x <;> cases y <;> first | rfl | (simp only [opW, ofO, p_add, wi, addI_eq])
theorem p_sub_eq (x y : W) (h : EH) : ofO (opW .sub x y) h = p_sub x y h := by
  cases x <;> cases y <;> first | rfl | (simp only [opW, ofO, p_sub, wi, subI_eq])
theorem smI_eq (i : Int) : smI i = decide (-(2 ^ 64) < i ∧ i < 2 ^ 64) := by
  cases i with
  | ofNat n => show Nat.ble (n + 1) 18446744073709551616 = _; rw [ble_dec]; apply decide_eq_decide.mpr; show _ ↔ -(2 ^ 64 : Int) < (n : Int) ∧ (n : Int) < 2 ^ 64; omega
  | negSucc n => show Nat.ble (n + 1 + 1) 18446744073709551616 = _; rw [ble_dec]; apply decide_eq_decide.mpr; rw [Int.negSucc_eq]; omega
theorem p_mul_eq (x y : W) (h : EH) : ofO (opW .mul x y) h = p_mul x y h := by
  cases x <;> cases y <;> first | rfl | skip
  rename_i i j
  simp only [opW, p_mul, wi, mulI_eq, smI_eq, ib]
  by_cases h1 : -(2 ^ 64) < i ∧ i < 2 ^ 64
  · rw [if_pos (.inl h1), decide_eq_true h1] <;> rfl
  · rw [decide_eq_false h1]
    by_cases h2 : -(2 ^ 64) < j ∧ j < 2 ^ 64
    · rw [if_pos (.inr h2), decide_eq_true h2] <;> rfl
    · rw [if_neg (fun q => q.elim h1 h2), decide_eq_false h2] <;> rfl
theorem p_fdiv_eq (x y : W) (h : EH) : ofO (opW .fdiv x y) h = p_fdiv x y h := by
  cases x <;> cases y <;> first | rfl | skip
  rename_i i j
  simp only [opW, p_fdiv, wi, ← ltI_eq, ib]
  by_cases h1 : 0 < j
  · rw [decide_eq_true h1]
    by_cases h2 : j < 1073741824
    · rw [if_pos ⟨h1, h2⟩, decide_eq_true h2]; cases i <;> cases j <;> rfl
    · rw [if_neg (fun q => h2 q.2), decide_eq_false h2] <;> rfl
  · rw [if_neg (fun q => h1 q.1), decide_eq_false h1] <;> rfl
theorem p_mod_eq (x y : W) (h : EH) : ofO (opW .mod x y) h = p_mod x y h := by
  cases x <;> cases y <;> first | rfl | skip
  rename_i i j
  simp only [opW, p_mod, wi, ← ltI_eq, ib]
  by_cases h1 : 0 < j
  · rw [if_pos h1, decide_eq_true h1]; cases i <;> cases j <;> rfl
  · rw [if_neg h1, decide_eq_false h1] <;> rfl
theorem p_pow_eq (x y : W) (h : EH) : ofO (opW .pow x y) h = p_pow x y h := rfl
def p_lt (x y : W) (h : EH) : T W := wi x .fail fun i => wi y .fail fun j => .ok (.bl (ltI i j)) h
def p_le (x y : W) (h : EH) : T W := wi x .fail fun i => wi y .fail fun j => .ok (.bl (leI i j)) h
def p_gt (x y : W) (h : EH) : T W := wi x .fail fun i => wi y .fail fun j => .ok (.bl (ltI j i)) h
def p_ge (x y : W) (h : EH) : T W := wi x .fail fun i => wi y .fail fun j => .ok (.bl (leI j i)) h
theorem p_lt_eq (x y : W) (h : EH) : ofO (cmW .lt x y) h = p_lt x y h := by cases x <;> cases y <;> first | rfl | (simp only [cmW, cmI, ofO, p_lt, wi, ltI_eq])
theorem p_le_eq (x y : W) (h : EH) : ofO (cmW .le x y) h = p_le x y h := by cases x <;> cases y <;> first | rfl | (simp only [cmW, cmI, ofO, p_le, wi, leI_eq])
theorem p_gt_eq (x y : W) (h : EH) : ofO (cmW .gt x y) h = p_gt x y h := by cases x <;> cases y <;> first | rfl | (simp only [cmW, cmI, ofO, p_gt, wi, ltI_eq])
theorem p_ge_eq (x y : W) (h : EH) : ofO (cmW .ge x y) h = p_ge x y h := by cases x <;> cases y <;> first | rfl | (simp only [cmW, cmI, ofO, p_ge, wi, leI_eq])
def nb (b : Bool) : Bool := ib b false true
def p_eqI (n : Bool) (x y : W) (h : EH) : T W := wi x (ofO ((eqS x y).map fun k => W.bl (if n then !k else k)) h) fun i => wi y (ofO ((eqS x y).map fun k => W.bl (if n then !k else k)) h) fun j => .ok (.bl (ib n (nb (eqI i j)) (eqI i j))) h
theorem p_eqI_eq (n : Bool) (x y : W) (h : EH) : ofO ((eqS x y).map fun k => W.bl (if n then !k else k)) h = p_eqI n x y h := by
  cases x <;> cases y <;> first | rfl | skip
  rename_i i j
  simp only [eqS, p_eqI, wi, ← eqI_eq, ofO, Option.map]
  cases n <;> cases decide (i = j) <;> rfl
def p_eqD (n : Bool) (x y : W) (h : EH) : T W := ofO ((eqDW h x y).map fun k => W.bl (if n then !k else k)) h
def p_isN (n : Bool) (x : W) (h : EH) : T W := .ok (.bl (match x with | .non => !n | _ => n)) h
def p_not (x : W) (h : EH) : T W := wb x .fail fun b => .ok (.bl (nb b)) h
theorem p_not_eq (x : W) (h : EH) : (boolK x fun k => (.ok (.bl (!k)) h : T W)) = p_not x h := by
  cases x <;> first | rfl | (rename_i b; cases b <;> rfl)
theorem boolK_eq {α : Type} (x : W) (f : Bool → T α) : boolK x f = wb x .fail f := by cases x <;> rfl
/-! lists -/
def seqK {β : Type} (x : W) (h : EH) (d : β) (f : List W → β) : β := w3 x d f f fun n => ob (nth h n) d fun o => ol o d f f
theorem seqK_eq {β : Type} (x : W) (h : EH) (d : β) (f : List W → β) : (match seqOf h x with | some xs => f xs | none => d) = seqK x h d f := by
  cases x <;> first | rfl | skip
  rename_i n
  simp only [seqOf, seqK, w3, ob, nth_eq]
  cases nth h n with
  | none => rfl
  | some o => cases o <;> rfl
def ixF (xs : List W) (k : Int) : Option W := iK k (fun n => nth xs n) (fun _ => ixW xs k)
theorem ixF_eq (xs : List W) (k : Int) : ixW xs k = ixF xs k := by
  cases k with
  | ofNat n =>
    show ixW xs (n : Int) = nth xs n
    rw [← nth_eq]
    unfold ixW ixN
    rw [if_pos (by omega)]
    by_cases hl : n < xs.length
    · rw [if_pos (by omega)] <;> rfl
    · rw [if_neg (by omega)]; exact (List.getElem?_eq_none (by omega)).symm
  | negSucc n => rfl
def okF {α : Type} (o : Option α) (h : EH) : T α := ob o .fail fun a => .ok a h
theorem okF_eq {α : Type} (o : Option α) (h : EH) : ofO o h = okF o h := by cases o <;> rfl
def p_ix (x y : W) (h : EH) : T W := seqK x h .fail fun xs => wi y .fail fun k => okF (ixF xs k) h
theorem p_ix_eq (x y : W) (h : EH) : (match seqOf h x, y with | some xs, .int k => ofO (ixW xs k) h | _, _ => .fail) = p_ix x y h := by
  unfold p_ix
  rw [← seqK_eq]
  cases seqOf h x with
  | none => cases y <;> rfl
  | some xs => cases y <;> first | rfl | (simp only [wi, ixF_eq, okF_eq])
def dicK {β : Type} (x : W) (h : EH) (d : β) (f : List (W × W) → β) : β := wr x d fun n => ob (nth h n) d fun o => od o d f f
theorem dicK_eq {β : Type} (x : W) (h : EH) (d : β) (f : List (W × W) → β) : (match dicOf h x with | some xs => f xs | none => d) = dicK x h d f := by
  cases x <;> first | rfl | skip
  rename_i n
  simp only [dicOf, dicK, wr, ob, nth_eq]
  cases nth h n with
  | none => rfl
  | some o => cases o <;> rfl
def dicTK {β : Type} (x : W) (h : EH) (d : β) (f : List (W × W) → β) : β := wr x d fun n => ob (nth h n) d fun o => ot o d f f
theorem dicTK_eq {β : Type} (x : W) (h : EH) (d : β) (f : List (W × W) → β) : (match dicTOf h x with | some xs => f xs | none => d) = dicTK x h d f := by
  cases x <;> first | rfl | skip
  rename_i n
  simp only [dicTOf, dicTK, wr, ob, nth_eq]
  cases nth h n with
  | none => rfl
  | some o => cases o <;> rfl
def p_dix (x y : W) (h : EH) : T W := dicK x h .fail fun kvs => ib (isKey y) (okF (dget kvs y) h) .fail
theorem p_dix_eq (x y : W) (h : EH) : (match dicOf h x with | some kvs => if isKey y then ofO (dget kvs y) h else .fail | none => .fail) = p_dix x y h := by
  unfold p_dix
  rw [← dicK_eq]
  cases dicOf h x with
  | none => rfl
  | some kvs => simp only [ib_eq, okF_eq]
def insK {β : Type} (x : W) (h : EH) (d : β) (f : Nat → List (Nat × W) → β) : β := wr x d fun n => ob (nth h n) d fun o => oi o d f
theorem insK_eq {β : Type} (x : W) (h : EH) (d : β) (f : Nat → List (Nat × W) → β) : (match insOf h x with | some (c, fs) => f c fs | none => d) = insK x h d f := by
  cases x <;> first | rfl | skip
  rename_i n
  simp only [insOf, insK, wr, ob, nth_eq]
  cases nth h n with
  | none => rfl
  | some o => cases o <;> rfl
def lookF (fs : List (Nat × W)) (f : Nat) : Option W := List.rec (motive := fun _ => Option W) none (fun p _ ih => Prod.rec (motive := fun _ => Option W) (fun g w => ib (Nat.beq g f) (some w) ih) p) fs
theorem lookF_eq (f : Nat) : ∀ fs : List (Nat × W), look fs f = lookF fs f
  | [] => rfl
  | (g, w) :: r => by
    show (if g = f then some w else look r f) = ib (Nat.beq g f) (some w) (lookF r f)
    rw [beq_dec, lookF_eq f r]
    by_cases h : g = f
    · rw [if_pos h, decide_eq_true h] <;> rfl
    · rw [if_neg h, decide_eq_false h] <;> rfl
def putfF (fs : List (Nat × W)) (f : Nat) (w : W) : List (Nat × W) := List.rec (motive := fun _ => List (Nat × W)) [(f, w)] (fun p r ih => Prod.rec (motive := fun _ => List (Nat × W)) (fun g v => ib (Nat.beq g f) ((f, w) :: r) ((g, v) :: ih)) p) fs
theorem putfF_eq (f : Nat) (w : W) : ∀ fs : List (Nat × W), putf fs f w = putfF fs f w
  | [] => rfl
  | (g, v) :: r => by
    show (if g = f then (f, w) :: r else (g, v) :: putf r f w) = ib (Nat.beq g f) ((f, w) :: r) ((g, v) :: putfF r f w)
    rw [beq_dec, putfF_eq f w r]
    by_cases h : g = f
    · rw [if_pos h, decide_eq_true h] <;> rfl
    · rw [if_neg h, decide_eq_false h] <;> rfl
def p_fld (f : Nat) (x : W) (h : EH) : T W := insK x h .fail fun _ fs => okF (lookF fs f) h
theorem p_fld_eq (f : Nat) (x : W) (h : EH) : (match insOf h x with | some (_, fs) => ofO (look fs f) h | none => .fail) = p_fld f x h := by
  unfold p_fld
  rw [← insK_eq]
  cases insOf h x with
  | none => rfl
  | some p => obtain ⟨c, fs⟩ := p; simp only [okF_eq, lookF_eq]
def p_len (x : W) (h : EH) : T W := seqK x h .fail fun xs => .ok (.int (.ofNat (lenF xs))) h
theorem p_len_eq (x : W) (h : EH) : (match seqOf h x with | some xs => (.ok (.int (xs.length : Int)) h : T W) | none => .fail) = p_len x h := by
  unfold p_len
  rw [← seqK_eq]
  cases seqOf h x with
  | none => rfl
  | some xs => simp only [lenF_eq] <;> rfl
def p_lenD (x : W) (h : EH) : T W := dicK x h .fail fun xs => .ok (.int (.ofNat (lenF xs))) h
theorem p_lenD_eq (x : W) (h : EH) : (match dicOf h x with | some xs => (.ok (.int (xs.length : Int)) h : T W) | none => .fail) = p_lenD x h := by
  unfold p_lenD
  rw [← dicK_eq]
  cases dicOf h x with
  | none => rfl
  | some xs => simp only [lenF_eq] <;> rfl
def p_toTup (x : W) (h : EH) : T W := seqK x h .fail fun xs => .ok (.tup xs) h
theorem p_toTup_eq (x : W) (h : EH) : (match seqOf h x with | some xs => (.ok (.tup xs) h : T W) | none => .fail) = p_toTup x h := seqK_eq x h .fail fun xs => (.ok (.tup xs) h : T W)
def p_max2 (x y : W) (h : EH) : T W := wi x .fail fun i => wi y .fail fun j => .ok (.int (ib (ltI i j) j i)) h
theorem p_max2_eq (x y : W) (h : EH) : (match x, y with | .int i, .int j => (.ok (.int (if j > i then j else i)) h : T W) | _, _ => .fail) = p_max2 x y h := by
  cases x <;> cases y <;> first | rfl | skip
  rename_i i j
  simp only [p_max2, wi, ← ltI_eq]
  by_cases q : i < j
  · rw [if_pos q, decide_eq_true q] <;> rfl
  · rw [if_neg q, decide_eq_false q] <;> rfl
def p_min2 (x y : W) (h : EH) : T W := wi x .fail fun i => wi y .fail fun j => .ok (.int (ib (ltI j i) j i)) h
theorem p_min2_eq (x y : W) (h : EH) : (match x, y with | .int i, .int j => (.ok (.int (if j < i then j else i)) h : T W) | _, _ => .fail) = p_min2 x y h := by
  cases x <;> cases y <;> first | rfl | skip
  rename_i i j
  simp only [p_min2, wi, ← ltI_eq]
  by_cases q : j < i
  · rw [if_pos q, decide_eq_true q] <;> rfl
  · rw [if_neg q, decide_eq_false q] <;> rfl
def newF (m : Bool) (xs : List W) (h : EH) : T W := ib m (.ok (.ref (lenF h)) (appF h [.lst xs])) (.ok (.lst xs) h)
theorem newF_eq (m : Bool) (xs : List W) (h : EH) : newL m xs h = newF m xs h := by
  cases m
  · rfl
  · simp only [newL, newF, ib, if_true, lenF_eq, appF_eq]
/-- words left as they are -/
def q_catL (m : Bool) (x y : W) (h : EH) : T W := match lstOf h x, lstOf h y with
    | some xs, some ys => if xs.length + ys.length ≤ LIM then newL m (xs ++ ys) h else .fail
    | _, _ => .fail
def q_catT (x y : W) (h : EH) : T W := match x, y with
    | .tup xs, .tup ys => if xs.length + ys.length ≤ LIM then .ok (.tup (xs ++ ys)) h else .fail
    | _, _ => .fail
def q_rep (m : Bool) (x y : W) (h : EH) : T W := match lstOf h x, y with
    | some xs, .int k => if xs.length * k.toNat ≤ LIM ∧ k < 1000000 ∧ -1000000 < k then newL m (List.replicate k.toNat xs).flatten h else .fail
    | _, _ => .fail
def q_inS (n : Bool) (x y : W) (h : EH) : T W := match seqOf h y with
    | some xs => if isSc x then ofO ((mapO (eqS x) xs).map fun ks => W.bl (if n then !ks.any id else ks.any id)) h else .fail
    | none => .fail
def q_inD (n : Bool) (x y : W) (h : EH) : T W := match dicOf h y with
    | some kvs => if isKey x then .ok (.bl (if n then (dget kvs x).isNone else (dget kvs x).isSome)) h else .fail
    | none => .fail
def q_abs (x : W) (h : EH) : T W := match x with
    | .int i => .ok (.int (if i < 0 then -i else i)) h
    | _ => .fail
def q_toInt (x : W) (h : EH) : T W := match x with
    | .int i => .ok (.int i) h
    | .bl b => .ok (.int (if b then 1 else 0)) h
    | _ => .fail
def q_toLst (m : Bool) (x : W) (h : EH) : T W := match seqOf h x with
    | some xs => newL m xs h
    | none => .fail
def q_slL (m : Bool) (x : W) (l u : Option Int) (h : EH) : T W := match lsqOf h x with
    | some xs => newL m (cutW xs l u) h
    | none => .fail
def q_slT (x : W) (l u : Option Int) (h : EH) : T W := match x with
    | .tup xs => .ok (.tup (cutW xs l u)) h
    | _ => .fail
/-! ### stores -/
def wipeF (own : List Nat) (σ : Env) : Env := List.rec (motive := fun _ => Env) σ (fun v _ ih => put ih v none) own
theorem wipeF_eq (σ : Env) : ∀ own, wipeE σ own = wipeF own σ
  | [] => rfl
  | v :: vs => by
    show (wipeE σ vs).set v none = put (wipeF vs σ) v none
    rw [wipeF_eq σ vs, put_eq]
def setAllF (is : List Nat) : List W → Env → Option Env := List.rec (motive := fun _ => List W → Env → Option Env) (fun ws σ => List.rec (motive := fun _ => Option Env) (some σ) (fun _ _ _ => none) ws) (fun i _ ih ws σ => List.rec (motive := fun _ => Option Env) none (fun w ws _ => ih ws (put σ i (some w))) ws) is
theorem setAllF_eq : ∀ is ws σ, setAll σ is ws = setAllF is ws σ
  | [], [], σ => rfl
  | [], w :: ws, σ => rfl
  | i :: is, [], σ => rfl
  | i :: is, w :: ws, σ => by
    show setAll (σ.set i (some w)) is ws = setAllF is ws (put σ i (some w))
    rw [setAllF_eq is ws, put_eq]
def g_name (i : Nat) (w : W) (σ : Env) : Option Env := some (put σ i (some w))
def g_tup (is : List Nat) (w : W) (σ : Env) : Option Env := wt w none fun ws => setAllF is ws σ
abbrev RG (g : G) (s : W → Env → Option Env) : Prop := ∀ w σ, store g w σ = s w σ
theorem rg_name (i : Nat) : RG (.name i) (g_name i) := fun w σ => by simp only [store, g_name, put_eq]
theorem rg_tup (is : List Nat) : RG (.tup is) (g_tup is) := fun w σ => by
  cases w <;> first | rfl | (simp only [store, g_tup, wt, setAllF_eq])
def p_setF (f : Nat) (x w : W) (h : EH) : Option EH := wr x none fun n => ob (nth h n) none fun o => oi o none fun c fs => ib (Nat.ble (Nat.succ (lenF fs)) 900) (some (put h n (.ins c (putfF fs f w)))) none
theorem if_ble {α : Type} (m n : Nat) (x y : α) : (if m < n then x else y) = ib (Nat.ble (Nat.succ m) n) x y := by
  rw [ble_dec]
  by_cases q : m < n
  · rw [if_pos q, decide_eq_true (show m.succ ≤ n from q)] <;> rfl
  · rw [if_neg q, decide_eq_false (show ¬ m.succ ≤ n from q)] <;> rfl
theorem p_setF_eq (f : Nat) (x w : W) (h : EH) : setFld x f w h = p_setF f x w h := by
  cases x <;> first | rfl | skip
  rename_i n
  simp only [setFld, p_setF, wr, ob, nth_eq]
  cases nth h n with
  | none => rfl
  | some o => cases o <;> first | rfl | (simp only [oi, if_ble, lenF_eq, putfF_eq, put_eq])
/-- a list that is not locked -/
def lsK {β : Type} (o : EO) (d : β) (f : List W → β) : β := EO.rec (motive := fun _ => β) f (fun _ => d) (fun _ => d) (fun _ => d) (fun _ _ => d) d (fun _ => d) (fun _ => d) d o
def p_setI (x y w : W) (h : EH) : Option EH := wr x none fun n => wi y none fun k => ob (nth h n) none fun o => lsK o none fun xs => iK k (fun m => ib (Nat.ble (Nat.succ m) (lenF xs)) (some (put h n (.lst (put xs m w)))) none) (fun _ => setIx x y w h)
theorem p_setI_eq (x y w : W) (h : EH) : setIx x y w h = p_setI x y w h := by
  cases x <;> cases y <;> first | rfl | skip
  rename_i n k
  simp only [p_setI, wr, wi, ob]
  cases k with
  | ofNat m =>
    simp only [setIx, nth_eq]
    cases nth h n with
    | none => rfl
    | some o =>
      cases o <;> first | rfl | skip
      rename_i xs
      show (match ixN xs.length (m : Int) with | some j => some (h.set n (.lst (xs.set j w))) | none => none) = ib (Nat.ble (Nat.succ m) (lenF xs)) (some (put h n (.lst (put xs m w)))) none
      rw [← if_ble, ← lenF_eq]
      unfold ixN
      rw [if_pos (by omega)]
      by_cases q : m < xs.length
      · rw [if_pos (by omega), if_pos q]
        show some (h.set n (.lst (xs.set m w))) = some _
        rw [put_eq, put_eq]
      · rw [if_neg (by omega), if_neg q]
  | negSucc m =>
    cases e : nth h n with
    | none => simp only [setIx, nth_eq, e]
    | some o => cases o <;> first | rfl | (simp only [setIx, nth_eq, e, lsK])
def isLF (h : EH) (x : W) : Bool := wr x false fun n => ob (nth h n) false fun o => lsK o false fun _ => true
theorem isLF_eq (h : EH) (x : W) : isLW h x = isLF h x := by
  cases x <;> first | rfl | skip
  rename_i n
  simp only [isLW, isLF, wr, ob, nth_eq]
  cases nth h n with
  | none => rfl
  | some o => cases o <;> rfl
theorem isLF_eq0 (h : EH) (x : W) : isLW0 h x = isLF h x := by
  cases x <;> first | rfl | skip
  rename_i n
  simp only [isLW0, isLF, wr, ob, nth_eq]
  cases nth h n with
  | none => rfl
  | some o => cases o <;> rfl
def appWF (x w : W) (σ : Env) (h : EH) : R := wr x .fail fun n => ob (nth h n) .fail fun o => lsK o .fail fun xs => ib (Nat.ble (Nat.succ (lenF xs)) LIM) (.ok (.nx, σ) (put h n (.lst (appF xs [w])))) .fail
theorem appWF_eq (x w : W) (σ : Env) (h : EH) : appW x w σ h = appWF x w σ h := by
  cases x <;> first | rfl | skip
  rename_i n
  simp only [appW, appWF, wr, ob, nth_eq]
  cases nth h n with
  | none => rfl
  | some o => cases o <;> first | rfl | (simp only [lsK, if_ble, lenF_eq, appF_eq, put_eq])
def unlF (k : Lk) (h : EH) : EH := Lk.rec (motive := fun _ => EH) h (fun n xs => put h n (.lst xs)) (fun n xs => put h n (.dic xs)) (fun n xs => put h n (.dicT xs)) k
theorem unlF_eq (k : Lk) (h : EH) : unlock k h = unlF k h := by cases k <;> first | rfl | (simp only [unlock, unlF, put_eq])
def eraF (xs : List W) : Nat → List W := List.rec (motive := fun _ => Nat → List W) (fun _ => []) (fun x t ih n => Nat.rec (motive := fun _ => List W) t (fun m _ => x :: ih m) n) xs
theorem eraF_eq : ∀ (xs : List W) (n : Nat), xs.eraseIdx n = eraF xs n
  | [], n => rfl
  | x :: l, 0 => rfl
  | x :: l, n + 1 => by
    show _ = x :: eraF l n
    rw [← eraF_eq l n] <;> rfl
def p_popAt (m : Bool) (x y : W) (h : EH) : T W := wr x .fail fun n => wi y .fail fun k => ob (nth h n) .fail fun o => lsK o .fail fun xs => iK k (fun j => ob (nth xs j) .fail fun w => .ok w (put h n (.lst (eraF xs j)))) (fun _ => p2W .popAt m x y h)
theorem p_popAt_eq (m : Bool) (x y : W) (h : EH) : p2W .popAt m x y h = p_popAt m x y h := by
  cases x <;> cases y <;> first | rfl | skip
  rename_i n k
  simp only [p_popAt, wr, wi, ob]
  cases k with
  | ofNat j =>
    simp only [p2W, nth_eq]
    cases nth h n with
    | none => rfl
    | some o =>
      cases o <;> first | rfl | skip
      rename_i xs
      show (match ixN xs.length (j : Int) with | some j => (match nth xs j with | some w => (.ok w (h.set n (.lst (xs.eraseIdx j))) : T W) | none => .fail) | none => .fail) = ob (nth xs j) .fail fun w => .ok w (put h n (.lst (eraF xs j)))
      unfold ixN
      rw [if_pos (by omega)]
      by_cases q : j < xs.length
      · rw [if_pos (by omega)]
        show (match nth xs j with | some w => (.ok w (h.set n (.lst (xs.eraseIdx j))) : T W) | none => .fail) = _
        cases nth xs j with
        | none => rfl
        | some w => simp only [ob, put_eq, eraF_eq]
      · rw [if_neg (by omega), ← nth_eq, List.getElem?_eq_none (by omega)] <;> rfl
  | negSucc j =>
    cases e : nth h n with
    | none => simp only [p2W, nth_eq, e]
    | some o => cases o <;> first | rfl | (simp only [p2W, nth_eq, e, lsK])
end Z.F
noncomputable section
namespace Z.F
open PySem
abbrev CEs := Env → EH → T (List W)
abbrev CG := List W → EH → T W
section
variable (C : CallH) (M : MTab) (ini : Nat → Nat)
def RE (e : E) (f : CE) : Prop := ∀ σ h, ev C M ini e σ h = f σ h
def REs (e : Es) (f : CEs) : Prop := ∀ σ h, evs C M ini e σ h = f σ h
def RA (e : Es) (f : CE) : Prop := ∀ σ h, evAnd C M ini e σ h = f σ h
def RO (e : Es) (f : CE) : Prop := ∀ σ h, evOr C M ini e σ h = f σ h
def REo (e : Eo) (f : Env → EH → T (Option Int)) : Prop := ∀ σ h, evo C M ini e σ h = f σ h
def REc (e : Eo) (f : Env → EH → T Bool) : Prop := ∀ σ h, evc C M ini e σ h = f σ h
def RI (e : I) (f : Env → EH → T (List W × Lk)) : Prop := ∀ σ h, evI C M ini e σ h = f σ h
def RJ (e : I) (f : Env → EH → T Wk) : Prop := ∀ σ h, evJ C M ini e σ h = f σ h
def RS (e : S) (f : CS) : Prop := ∀ σ h, ex C M ini e σ h = f σ h
def RSs (e : Ss) (f : CS) : Prop := ∀ σ h, exs C M ini e σ h = f σ h
end
def c_1 (p : W → EH → T W) (f : CE) : CE := fun σ h => fb (f σ h) p
def c_2 (p : W → W → EH → T W) (f g : CE) : CE := fun σ h => fb (f σ h) fun x h => fb (g σ h) fun y h => p x y h
def c_var (i : Nat) : CE := fun σ h => ob (nth σ i) .fail fun o => ob o .fail fun w => .ok w h
def c_val (w : W) : CE := fun _ h => .ok w h
def c_nev : CE := fun _ _ => .fail
def c_chain (p q : W → W → EH → T W) (f g e : CE) : CE := fun σ h => fb (f σ h) fun x h => fb (g σ h) fun y h => fb (p x y h) fun k h => wb k .fail fun k => ib k (fb (e σ h) fun z h => q y z h) (.ok (.bl false) h)
def c_and (f g : CE) : CE := fun σ h => fb (f σ h) fun x h => wb x .fail fun k => ib k (g σ h) (.ok (.bl false) h)
def c_or (f g : CE) : CE := fun σ h => fb (f σ h) fun x h => wb x .fail fun k => ib k (.ok (.bl true) h) (g σ h)
def c_ite (c f g : CE) : CE := fun σ h => fb (c σ h) fun x h => wb x .fail fun k => ib k (f σ h) (g σ h)
def c_tup (fs : CEs) : CE := fun σ h => fb (fs σ h) fun xs h => .ok (.tup xs) h
def c_lst (m : Bool) (fs : CEs) : CE := fun σ h => fb (fs σ h) fun xs h => newF m xs h
def cs_nil : CEs := fun _ h => .ok [] h
def cs_cons (f : CE) (fs : CEs) : CEs := fun σ h => fb (f σ h) fun x h => fb (fs σ h) fun xs h => .ok (x :: xs) h
def c_dic : CE := fun _ h => .ok (.ref (lenF h)) (appF h [.dic []])
def c_dicT : CE := fun _ h => .ok (.ref (lenF h)) (appF h [.dicT []])
def o_none : Env → EH → T (Option Int) := fun _ h => .ok none h
def o_some (f : CE) : Env → EH → T (Option Int) := fun σ h => fb (f σ h) fun x h => wi x .fail fun i => .ok (some i) h
def k_none : Env → EH → T Bool := fun _ h => .ok true h
def k_some (f : CE) : Env → EH → T Bool := fun σ h => fb (f σ h) fun x h => wb x .fail fun k => .ok k h
def c_sl (p : W → Option Int → Option Int → EH → T W) (f : CE) (l u : Env → EH → T (Option Int)) : CE := fun σ h => fb (f σ h) fun x h => fb (l σ h) fun a h => fb (u σ h) fun b h => p x a b h
def c_call (G : CG) (fs : CEs) : CE := fun σ h => fb (fs σ h) G
def c_make (c : Nat) (G : CG) (fs : CEs) : CE := fun σ h => fb (fs σ h) fun xs h => fb (G (.ref (lenF h) :: xs) (appF h [.ins c []])) fun v h' => match v with
    | .non => .ok (.ref (lenF h)) h'
    | _ => .fail
def c_meth (D : Nat → Option CG) (f : CE) (fs : CEs) : CE := fun σ h => fb (f σ h) fun x h => insK x h .fail fun c _ => ob (D c) .fail fun G => fb (fs σ h) fun xs h => G (x :: xs) h
/-! walks -/
def i_seq (f : CE) : Env → EH → T (List W × Lk) := fun σ h => fb (f σ h) fun x h => w3 x .fail (fun xs => .ok (xs, .no) h) (fun xs => .ok (xs, .no) h) (fun _ => .fail)
def i_seqR (f : CE) : Env → EH → T (List W × Lk) := fun σ h => fb (f σ h) fun x h => wr x .fail fun n => ob (nth h n) .fail fun o => ol o .fail (fun xs => .ok (xs, .l n xs) (put h n (.lstL xs))) (fun xs => .ok (xs, .no) h)
def rngF (n : Nat) : Nat → List W := Nat.rec (motive := fun _ => Nat → List W) (fun _ => []) (fun _ ih m => .int (.ofNat m) :: ih (Nat.succ m)) n
theorem rngF_eq : ∀ n m : Nat, rngW (m : Int) n = rngF n m
  | 0, m => rfl
  | n + 1, m => by
    show W.int (m : Int) :: rngW ((m : Int) + 1) n = W.int (.ofNat m) :: rngF n (m + 1)
    rw [← rngF_eq n (m + 1)] <;> rfl
def i_rng (f : CE) : Env → EH → T (List W × Lk) := fun σ h => fb (f σ h) fun x h => wi x .fail fun i => ib (leI i 100000) (ib (ltI (-1000000) i) (.ok (rngF (toN i) 0, .no) h) .fail) .fail
def i_rng2 (f g : CE) : Env → EH → T (List W × Lk) := fun σ h => fb (f σ h) fun x h => fb (g σ h) fun y h => match x, y with
    | .int i, .int n => if n - i ≤ LIM ∧ -1000000 < n ∧ -1000000 < i ∧ i < 1000000 ∧ n < 1000000 then .ok (rngW i (n - i).toNat, .no) h else .fail
    | _, _ => .fail
def i_keys (f : CE) : Env → EH → T (List W × Lk) := fun σ h => fb (f σ h) fun x h => match x with
    | .ref n => (match h[n]? with
      | some (.dic kvs) => .ok (kvs.map (·.1), .d n kvs) (h.set n (.dicL kvs))
      | some (.dicL kvs) => .ok (kvs.map (·.1), .no) h
      | _ => .fail)
    | _ => .fail
def i_w (k : WK) (f : CE) : Env → EH → T (List W × Lk) := fun σ h => fb (f σ h) fun x h => wkI k x h
def j_seq (f : CE) : Env → EH → T Wk := fun σ h => fb (f σ h) fun x h => w3 x .fail (fun xs => .ok (.fix xs) h) (fun xs => .ok (.fix xs) h) (fun _ => .fail)
def j_seqR (f : CE) : Env → EH → T Wk := fun σ h => fb (f σ h) fun x h => match x with
    | .ref n => (match lsAt h n with
      | some _ => .ok (.at n) h
      | none => .fail)
    | _ => .fail
def j_rng (f : CE) : Env → EH → T Wk := fun σ h => fb (f σ h) fun x h => match x with
    | .int n => if n ≤ LIM ∧ -1000000 < n then .ok (.fix (rngW 0 n.toNat)) h else .fail
    | _ => .fail
/-! comprehensions -/
def forLF (f : W → EH → T (Option W)) (xs : List W) : EH → T (List W) := List.rec (motive := fun _ => EH → T (List W)) (fun h => .ok [] h) (fun x _ ih h => fb (f x h) fun o h => ob o (ih h) fun y => fb (ih h) fun ys h => .ok (y :: ys) h) xs
theorem fb_assoc {α β γ : Type} (t : T α) (f : α → EH → T β) (g : β → EH → T γ) : fb (fb t f) g = fb t fun a h => fb (f a h) g := by
  induction t with
  | fail => rfl
  | ok a h => rfl
  | exc c h => rfl
  | draw n k ih => exact congrArg (T.draw n) (funext ih)
theorem fb_ok {α : Type} (t : T α) : (fb t fun a h => .ok a h) = t := by
  induction t with
  | fail => rfl
  | ok a h => rfl
  | exc c h => rfl
  | draw n k ih => exact congrArg (T.draw n) (funext ih)
theorem forLF_eq (f : W → EH → T (Option W)) : ∀ (xs acc : List W) (h : EH), forL f acc xs h = fb (forLF f xs h) fun ys h => .ok (acc ++ ys) h
  | [], acc, h => by simp only [forL, forLF, fb, List.append_nil]
  | x :: xs, acc, h => by
    show ((f x h).bind fun o h => match o with | none => forL f acc xs h | some y => forL f (acc ++ [y]) xs h) = fb (fb (f x h) fun o h => ob o (forLF f xs h) fun y => fb (forLF f xs h) fun ys h => .ok (y :: ys) h) _
    rw [fb_eq, fb_assoc]
    congr 1
    funext o h
    cases o with
    | none => exact forLF_eq f xs acc h
    | some y =>
      show forL f (acc ++ [y]) xs h = fb (fb (forLF f xs h) fun ys h => .ok (y :: ys) h) _
      rw [forLF_eq f xs (acc ++ [y]) h, fb_assoc]
      congr 1
      funext ys h
      show T.ok (acc ++ [y] ++ ys) h = T.ok (acc ++ (y :: ys)) h
      simp
theorem forLF_eq0 (f : W → EH → T (Option W)) (xs : List W) (h : EH) : forL f [] xs h = forLF f xs h := by
  rw [forLF_eq f xs [] h]
  exact fb_ok _
/-- one turn -/
def turnF (s : W → Env → Option Env) (own : List Nat) (c : Env → EH → T Bool) (e : CE) (σ : Env) (x : W) (h : EH) : T (Option W) := ob (s x (wipeF own σ)) .fail fun σ' => fb (c σ' h) fun k h => ib k (fb (e σ' h) fun y h => .ok (some y) h) (.ok none h)
def c_comp (e : CE) (s : W → Env → Option Env) (it : Env → EH → T (List W × Lk)) (c : Env → EH → T Bool) (own : List Nat) : CE := fun σ h => fb (it σ h) fun p h => fb (nox (forLF (turnF s own c e σ) p.1 h)) fun ys h => .ok (.lst ys) (unlF p.2 h)
def c_compM (e : CE) (s : W → Env → Option Env) (it : Env → EH → T (List W × Lk)) (c : Env → EH → T Bool) (own : List Nat) : CE := fun σ h => fb (it σ h) fun p h => fb (nox (forM (lenF h) (turnF s own c e σ) p.1 (appF h [.lst []]))) fun _ h' => .ok (.ref (lenF h)) (unlF p.2 h')
def c_comp2 (e : CE) (g : G) (it : Env → EH → T (List W × Lk)) (c : Env → EH → T Bool) (g2 : G) (it2 : Env → EH → T Wk) (c2 : Env → EH → T Bool) (own own2 : List Nat) : CE := fun σ h => fb (it σ h) fun p h => fb (nox (forO (turnC g own c it2 (turnW g2 own2 c2 e) σ) p.1 [] h)) fun ys h => .ok (.lst ys) (unlF p.2 h)
def c_gen (k : GK) (e : CE) (g : G) (it : Env → EH → T (List W × Lk)) (c : Env → EH → T Bool) (own : List Nat) (t : Nat) : CE := fun σ h => fb (it σ h) fun p h => fb (ib (isTbl h t) (genR k (genW k.st (turnW g own c e σ) (.fix p.1) p.1.length 0 h)) .fail) fun w h => .ok w (unlF p.2 h)
def c_gen2 (k : GK) (e : CE) (g : G) (it : Env → EH → T (List W × Lk)) (c : Env → EH → T Bool) (g2 : G) (it2 : Env → EH → T Wk) (c2 : Env → EH → T Bool) (own own2 : List Nat) (t : Nat) : CE := fun σ h => fb (it σ h) fun p h => fb (ib (isTbl h t) (genR k (genO (turnO k.st g own c it2 (turnW g2 own2 c2 e) σ) (.fix p.1) p.1.length 0 h)) .fail) fun w h => .ok w (unlF p.2 h)
def c_p2 (p : P2) (q : W → W → EH → T W) (f g : CE) : CE := fun σ h => fb (f σ h) fun x h => ib (pre2 p x h) (fb (g σ h) fun y h => q x y h) .fail
def c_pop (m : Bool) (f g : CE) : CE := fun σ h => fb (f σ h) fun x h => ib (isLF h x) (fb (g σ h) fun y h => p_popAt m x y h) .fail
def c_p3 (p : P3) (f g e : CE) : CE := fun σ h => fb (f σ h) fun x h => ib (pre3 p x h) (fb (g σ h) fun y h => fb (e σ h) fun z h => p3W p x y z h) .fail
section
variable {C : CallH} {M : MTab} {ini : Nat → Nat} {a b c d : E} {es : Es} {f g f2 g2 : CE} {fs : CEs} {lo hi : Eo} {it it2 : I}
theorem r_nev : RE C M ini .nev c_nev := fun σ h => rfl
theorem r_var (i : Nat) : RE C M ini (.var i) (c_var i) := fun σ h => by
  simp only [ev, c_var, nth_eq]
  cases nth σ i with
  | none => rfl
  | some o => cases o <;> rfl
theorem r_int (i : Int) : RE C M ini (.int i) (c_val (.int i)) := fun σ h => rfl
theorem r_bl (i : Bool) : RE C M ini (.bl i) (c_val (.bl i)) := fun σ h => rfl
theorem r_non : RE C M ini .non (c_val .non) := fun σ h => rfl
theorem r_str (x : Str) : RE C M ini (.str x) (c_val (.str x)) := fun σ h => rfl
theorem r_bin {o : Op} {p : W → W → EH → T W} (hp : ∀ x y h, ofO (opW o x y) h = p x y h) (ha : RE C M ini a f) (hb : RE C M ini b g) : RE C M ini (.bin o a b) (c_2 p f g) := fun σ h => by
  simp only [RE] at ha hb; simp only [ev, ha, hb, c_2, fb_eq, hp]
theorem r_cmp {o : Cm} {p : W → W → EH → T W} (hp : ∀ x y h, ofO (cmW o x y) h = p x y h) (ha : RE C M ini a f) (hb : RE C M ini b g) : RE C M ini (.cmp o a b) (c_2 p f g) := fun σ h => by
  simp only [RE] at ha hb; simp only [ev, ha, hb, c_2, fb_eq, hp]
theorem r_chain {o o2 : Cm} {p q : W → W → EH → T W} (hp : ∀ x y h, ofO (cmW o x y) h = p x y h) (hq : ∀ x y h, ofO (cmW o2 x y) h = q x y h) (ha : RE C M ini a f) (hb : RE C M ini b g) (hc : RE C M ini c f2) : RE C M ini (.chain o o2 a b c) (c_chain p q f g f2) := fun σ h => by
  simp only [RE] at ha hb hc; simp only [ev, ha, hb, hc, c_chain, fb_eq, hp, hq, boolK_eq, ib_eq]
theorem r_eqI {n : Bool} (ha : RE C M ini a f) (hb : RE C M ini b g) : RE C M ini (.eqI n a b) (c_2 (p_eqI n) f g) := fun σ h => by
  simp only [RE] at ha hb; simp only [ev, ha, hb, c_2, fb_eq, p_eqI_eq]
theorem r_eqD {n : Bool} (ha : RE C M ini a f) (hb : RE C M ini b g) : RE C M ini (.eqD n a b) (c_2 (p_eqD n) f g) := fun σ h => by
  simp only [RE] at ha hb; simp only [ev, ha, hb, c_2, fb_eq, p_eqD]
theorem r_isN {n : Bool} (ha : RE C M ini a f) : RE C M ini (.isN n a) (c_1 (p_isN n) f) := fun σ h => by
  simp only [RE] at ha; simp only [ev, ha, c_1, fb_eq] <;> rfl
theorem r_not (ha : RE C M ini a f) : RE C M ini (.not a) (c_1 p_not f) := fun σ h => by
  simp only [RE] at ha; simp only [ev, ha, c_1, fb_eq, p_not_eq]
theorem r_and (ha : RA C M ini es f) : RE C M ini (.and es) f := fun σ h => by simp only [RA] at ha; simp only [ev, ha]
theorem r_or (ha : RO C M ini es f) : RE C M ini (.or es) f := fun σ h => by simp only [RO] at ha; simp only [ev, ha]
theorem ra_one (ha : RE C M ini a f) : RA C M ini (.cons a .nil) f := fun σ h => by simp only [RE] at ha; simp only [evAnd, ha]
theorem ro_one (ha : RE C M ini a f) : RO C M ini (.cons a .nil) f := fun σ h => by simp only [RE] at ha; simp only [evOr, ha]
theorem ra_cons (ha : RE C M ini a f) (hr : RA C M ini (.cons b es) g) : RA C M ini (.cons a (.cons b es)) (c_and f g) := fun σ h => by
  simp only [RE] at ha; simp only [RA] at hr; rw [evAnd]; simp only [ha, hr, c_and, fb_eq, boolK_eq, ib_eq]; intro z; cases z
theorem ro_cons (ha : RE C M ini a f) (hr : RO C M ini (.cons b es) g) : RO C M ini (.cons a (.cons b es)) (c_or f g) := fun σ h => by
  simp only [RE] at ha; simp only [RO] at hr; rw [evOr]; simp only [ha, hr, c_or, fb_eq, boolK_eq, ib_eq]; intro z; cases z
theorem r_ite (ha : RE C M ini a f) (hb : RE C M ini b g) (hc : RE C M ini c f2) : RE C M ini (.ite a b c) (c_ite f g f2) := fun σ h => by
  simp only [RE] at ha hb hc; simp only [ev, ha, hb, hc, c_ite, fb_eq, boolK_eq, ib_eq]
theorem rs_nil : REs C M ini .nil cs_nil := fun σ h => rfl
theorem rs_cons (ha : RE C M ini a f) (hr : REs C M ini es fs) : REs C M ini (.cons a es) (cs_cons f fs) := fun σ h => by
  simp only [RE] at ha; simp only [REs] at hr; simp only [evs, ha, hr, cs_cons, fb_eq]
theorem r_tup (ha : REs C M ini es fs) : RE C M ini (.tup es) (c_tup fs) := fun σ h => by simp only [REs] at ha; simp only [ev, ha, c_tup, fb_eq]
theorem r_lst {m : Bool} (ha : REs C M ini es fs) : RE C M ini (.lst m es) (c_lst m fs) := fun σ h => by simp only [REs] at ha; simp only [ev, ha, c_lst, fb_eq, newF_eq]
theorem r_dic : RE C M ini .dic c_dic := fun σ h => by simp only [ev, c_dic, lenF_eq, appF_eq]
theorem r_dicT : RE C M ini .dicT c_dicT := fun σ h => by simp only [ev, c_dicT, lenF_eq, appF_eq]
theorem r_ix (ha : RE C M ini a f) (hb : RE C M ini b g) : RE C M ini (.ix a b) (c_2 p_ix f g) := fun σ h => by
  simp only [RE] at ha hb; simp only [ev, ha, hb, c_2, fb_eq, ← p_ix_eq] <;> rfl
theorem r_dix (ha : RE C M ini a f) (hb : RE C M ini b g) : RE C M ini (.dix a b) (c_2 p_dix f g) := fun σ h => by
  simp only [RE] at ha hb; simp only [ev, ha, hb, c_2, fb_eq, ← p_dix_eq] <;> rfl
theorem r_fld {i : Nat} (ha : RE C M ini a f) : RE C M ini (.fld a i) (c_1 (p_fld i) f) := fun σ h => by
  simp only [RE] at ha; simp only [ev, ha, c_1, fb_eq]; congr 1; funext x h; exact p_fld_eq i x h
theorem r_inS {n : Bool} (ha : RE C M ini a f) (hb : RE C M ini b g) : RE C M ini (.inS n a b) (c_2 (q_inS n) f g) := fun σ h => by
  simp only [RE] at ha hb; simp only [ev, ha, hb, c_2, fb_eq] <;> rfl
theorem r_inD {n : Bool} (ha : RE C M ini a f) (hb : RE C M ini b g) : RE C M ini (.inD n a b) (c_2 (q_inD n) f g) := fun σ h => by
  simp only [RE] at ha hb; simp only [ev, ha, hb, c_2, fb_eq] <;> rfl
theorem r_catL {n : Bool} (ha : RE C M ini a f) (hb : RE C M ini b g) : RE C M ini (.catL n a b) (c_2 (q_catL n) f g) := fun σ h => by
  simp only [RE] at ha hb; simp only [ev, ha, hb, c_2, fb_eq] <;> rfl
theorem r_catT (ha : RE C M ini a f) (hb : RE C M ini b g) : RE C M ini (.catT a b) (c_2 q_catT f g) := fun σ h => by
  simp only [RE] at ha hb; simp only [ev, ha, hb, c_2, fb_eq] <;> rfl
theorem r_rep {n : Bool} (ha : RE C M ini a f) (hb : RE C M ini b g) : RE C M ini (.rep n a b) (c_2 (q_rep n) f g) := fun σ h => by
  simp only [RE] at ha hb; simp only [ev, ha, hb, c_2, fb_eq] <;> rfl
theorem r_len (ha : RE C M ini a f) : RE C M ini (.len a) (c_1 p_len f) := fun σ h => by
  simp only [RE] at ha; simp only [ev, ha, c_1, fb_eq]; congr 1; funext x h; exact p_len_eq x h
theorem r_lenD (ha : RE C M ini a f) : RE C M ini (.lenD a) (c_1 p_lenD f) := fun σ h => by
  simp only [RE] at ha; simp only [ev, ha, c_1, fb_eq]; congr 1; funext x h; exact p_lenD_eq x h
theorem r_max2 (ha : RE C M ini a f) (hb : RE C M ini b g) : RE C M ini (.max2 a b) (c_2 p_max2 f g) := fun σ h => by
  simp only [RE] at ha hb; simp only [ev, ha, hb, c_2, fb_eq, ← p_max2_eq] <;> rfl
theorem r_min2 (ha : RE C M ini a f) (hb : RE C M ini b g) : RE C M ini (.min2 a b) (c_2 p_min2 f g) := fun σ h => by
  simp only [RE] at ha hb; simp only [ev, ha, hb, c_2, fb_eq, ← p_min2_eq] <;> rfl
theorem r_abs (ha : RE C M ini a f) : RE C M ini (.abs a) (c_1 q_abs f) := fun σ h => by simp only [RE] at ha; simp only [ev, ha, c_1, fb_eq] <;> rfl
theorem r_toInt (ha : RE C M ini a f) : RE C M ini (.toInt a) (c_1 q_toInt f) := fun σ h => by simp only [RE] at ha; simp only [ev, ha, c_1, fb_eq] <;> rfl
theorem r_toTup (ha : RE C M ini a f) : RE C M ini (.toTup a) (c_1 p_toTup f) := fun σ h => by
  simp only [RE] at ha; simp only [ev, ha, c_1, fb_eq]; congr 1; funext x h; exact p_toTup_eq x h
theorem r_toLst {m : Bool} (ha : RE C M ini a f) : RE C M ini (.toLst m a) (c_1 (q_toLst m) f) := fun σ h => by simp only [RE] at ha; simp only [ev, ha, c_1, fb_eq] <;> rfl
theorem ro_none : REo C M ini .none o_none := fun σ h => rfl
theorem ro_some (ha : RE C M ini a f) : REo C M ini (.some a) (o_some f) := fun σ h => by
  simp only [RE] at ha; simp only [evo, ha, o_some, fb_eq]; congr 1; funext x h; cases x <;> rfl
theorem rc_none : REc C M ini .none k_none := fun σ h => rfl
theorem rc_some (ha : RE C M ini a f) : REc C M ini (.some a) (k_some f) := fun σ h => by
  simp only [RE] at ha; simp only [evc, ha, k_some, fb_eq, boolK_eq]
theorem r_slL {m : Bool} {l u : Env → EH → T (Option Int)} (ha : RE C M ini a f) (hl : REo C M ini lo l) (hu : REo C M ini hi u) : RE C M ini (.slL m a lo hi) (c_sl (q_slL m) f l u) := fun σ h => by
  simp only [RE] at ha; simp only [REo] at hl hu; simp only [ev, ha, hl, hu, c_sl, fb_eq] <;> rfl
theorem r_slT {l u : Env → EH → T (Option Int)} (ha : RE C M ini a f) (hl : REo C M ini lo l) (hu : REo C M ini hi u) : RE C M ini (.slT a lo hi) (c_sl q_slT f l u) := fun σ h => by
  simp only [RE] at ha; simp only [REo] at hl hu; simp only [ev, ha, hl, hu, c_sl, fb_eq] <;> rfl
theorem r_call {i : Nat} {G : CG} (hG : ∀ ws h, C i ws h = G ws h) (ha : REs C M ini es fs) : RE C M ini (.call i es) (c_call G fs) := fun σ h => by
  simp only [REs] at ha; simp only [ev, ha, c_call, fb_eq, hG]
theorem r_make {i : Nat} {G : CG} (hG : ∀ ws h, C (ini i) ws h = G ws h) (ha : REs C M ini es fs) : RE C M ini (.make i es) (c_make i G fs) := fun σ h => by
  simp only [REs] at ha; simp only [ev, ha, c_make, fb_eq, hG, lenF_eq, appF_eq] <;> rfl
theorem r_meth {m : Nat} {D : Nat → Option CG} (hD : ∀ c, match M c m with | some i => ∃ G, D c = some G ∧ ∀ ws h, C i ws h = G ws h | none => D c = none) (ha : RE C M ini a f) (hr : REs C M ini es fs) : RE C M ini (.meth a m es) (c_meth D f fs) := fun σ h => by
  simp only [RE] at ha; simp only [REs] at hr; simp only [ev, ha, hr, c_meth, fb_eq]
  congr 1; funext x h
  rw [← insK_eq]
  cases insOf h x with
  | none => rfl
  | some p =>
    obtain ⟨c, q⟩ := p
    have e := hD c
    show (match M c m with | some f => fb (fs σ h) fun xs h => C f (x :: xs) h | none => .fail) = ob (D c) .fail fun G => fb (fs σ h) fun xs h => G (x :: xs) h
    cases h2 : M c m with
    | none => rw [h2] at e; simp only [show D c = none from e] <;> rfl
    | some i =>
      rw [h2] at e
      obtain ⟨G, e1, e2⟩ := e
      simp only [e1, e2] <;> rfl
theorem ri_seq (ha : RE C M ini a f) : RI C M ini (.seq a) (i_seq f) := fun σ h => by
  simp only [RE] at ha; simp only [evI, ha, i_seq, fb_eq]; congr 1; funext x h; cases x <;> rfl
theorem ri_seqR (ha : RE C M ini a f) : RI C M ini (.seqR a) (i_seqR f) := fun σ h => by
  simp only [RE] at ha; simp only [evI, ha, i_seqR, fb_eq]; congr 1; funext x h
  cases x <;> first | rfl | skip
  rename_i n
  simp only [nth_eq, wr]
  cases nth h n with
  | none => rfl
  | some o => cases o <;> first | rfl | (simp only [ob, ol, put_eq])
theorem ri_rng (ha : RE C M ini a f) : RI C M ini (.rng a) (i_rng f) := fun σ h => by
  simp only [RE] at ha; simp only [evI, ha, i_rng, fb_eq]; congr 1; funext x h
  cases x <;> first | rfl | skip
  rename_i n
  simp only [wi, ← leI_eq, ← ltI_eq, ← toN_eq]
  have e : rngW 0 n.toNat = rngF n.toNat 0 := rngF_eq n.toNat 0
  rw [e]
  by_cases h1 : n ≤ 100000
  · rw [decide_eq_true h1]
    by_cases h2 : -1000000 < n
    · rw [if_pos ⟨h1, h2⟩, decide_eq_true h2] <;> rfl
    · rw [if_neg fun q => h2 q.2, decide_eq_false h2] <;> rfl
  · rw [if_neg fun q => h1 q.1, decide_eq_false h1] <;> rfl
theorem ri_rng2 (ha : RE C M ini a f) (hb : RE C M ini b g) : RI C M ini (.rng2 a b) (i_rng2 f g) := fun σ h => by
  simp only [RE] at ha hb; simp only [evI, ha, hb, i_rng2, fb_eq] <;> rfl
theorem ri_keys (ha : RE C M ini a f) : RI C M ini (.keys a) (i_keys f) := fun σ h => by simp only [RE] at ha; simp only [evI, ha, i_keys, fb_eq] <;> rfl
theorem ri_w {k : WK} (ha : RE C M ini a f) : RI C M ini (.w k a) (i_w k f) := fun σ h => by simp only [RE] at ha; simp only [evI, ha, i_w, fb_eq]
theorem rj_seq (ha : RE C M ini a f) : RJ C M ini (.seq a) (j_seq f) := fun σ h => by
  simp only [RE] at ha; simp only [evJ, ha, j_seq, fb_eq]; congr 1; funext x h; cases x <;> rfl
theorem rj_seqR (ha : RE C M ini a f) : RJ C M ini (.seqR a) (j_seqR f) := fun σ h => by simp only [RE] at ha; simp only [evJ, ha, j_seqR, fb_eq] <;> rfl
theorem rj_rng (ha : RE C M ini a f) : RJ C M ini (.rng a) (j_rng f) := fun σ h => by simp only [RE] at ha; simp only [evJ, ha, j_rng, fb_eq] <;> rfl
def turnE (C : CallH) (M : MTab) (ini : Nat → Nat) (gg : G) (own : List Nat) (k : Eo) (a : E) (σ : Env) (x : W) (h : EH) : T (Option W) := match store gg x (wipeE σ own) with
      | none => .fail
      | some σ' => (evc C M ini k σ' h).bind fun k h => if k = true then (ev C M ini a σ' h).bind fun y h => .ok (some y) h else .ok none h
theorem turnF_eq {gg : G} {s : W → Env → Option Env} {own : List Nat} {k : Eo} {kf : Env → EH → T Bool} (hs : RG gg s) (hk : REc C M ini k kf) (ha : RE C M ini a f) (σ : Env) : turnE C M ini gg own k a σ = turnF s own kf f σ := by
  funext x h
  simp only [RE] at ha; simp only [REc] at hk; simp only [RG] at hs
  simp only [turnE, ha, hk, hs, turnF, fb_eq, wipeF_eq, ib_eq]
  cases s x (wipeF own σ) <;> rfl
theorem r_comp {gg : G} {s : W → Env → Option Env} {own : List Nat} {k : Eo} {kf : Env → EH → T Bool} {jf : Env → EH → T (List W × Lk)} (hs : RG gg s) (hi : RI C M ini it jf) (hk : REc C M ini k kf) (ha : RE C M ini a f) : RE C M ini (.comp a gg it k own) (c_comp f s jf kf own) := fun σ h => by
  simp only [RI] at hi
  show ((evI C M ini it σ h).bind fun p h => (forL (turnE C M ini gg own k a σ) [] p.1 h).nox.bind fun ys h => (.ok (W.lst ys) (unlock p.2 h) : T W)) = _
  rw [turnF_eq hs hk ha]
  simp only [hi, c_comp, fb_eq, nox_eq, forLF_eq0, unlF_eq]
theorem r_compM {gg : G} {s : W → Env → Option Env} {own : List Nat} {k : Eo} {kf : Env → EH → T Bool} {jf : Env → EH → T (List W × Lk)} (hs : RG gg s) (hi : RI C M ini it jf) (hk : REc C M ini k kf) (ha : RE C M ini a f) : RE C M ini (.compM a gg it k own) (c_compM f s jf kf own) := fun σ h => by
  simp only [RI] at hi
  show ((evI C M ini it σ h).bind fun p h => (forM h.length (turnE C M ini gg own k a σ) p.1 (h ++ [.lst []])).nox.bind fun _ h' => (.ok (W.ref h.length) (unlock p.2 h') : T W)) = _
  rw [turnF_eq hs hk ha]
  simp only [hi, c_compM, fb_eq, nox_eq, unlF_eq, lenF_eq, appF_eq]
theorem r_p1 {p : P1} {m : Bool} (ha : RE C M ini a f) : RE C M ini (.p1 p m a) (c_1 (p1W p m) f) := fun σ h => by simp only [RE] at ha; simp only [ev, ha, c_1, fb_eq]
theorem r_p2 {p : P2} {m : Bool} (ha : RE C M ini a f) (hb : RE C M ini b g) : RE C M ini (.p2 p m a b) (c_p2 p (p2W p m) f g) := fun σ h => by
  simp only [RE] at ha hb; simp only [ev, ha, hb, c_p2, fb_eq, ib_eq]
theorem r_pop {m : Bool} (ha : RE C M ini a f) (hb : RE C M ini b g) : RE C M ini (.p2 .popAt m a b) (c_pop m f g) := fun σ h => by
  simp only [RE] at ha hb; simp only [ev, ha, hb, c_pop, fb_eq, ib_eq, pre2, isLF_eq0, p_popAt_eq]
theorem r_p3 {p : P3} (ha : RE C M ini a f) (hb : RE C M ini b g) (hc : RE C M ini c f2) : RE C M ini (.p3 p a b c) (c_p3 p f g f2) := fun σ h => by
  simp only [RE] at ha hb hc; simp only [ev, ha, hb, hc, c_p3, fb_eq, ib_eq]
theorem r_comp2 {gg gg2 : G} {own own2 : List Nat} {k k2 : Eo} {kf kf2 : Env → EH → T Bool} {jf : Env → EH → T (List W × Lk)} {jf2 : Env → EH → T Wk} (hi : RI C M ini it jf) (hk : REc C M ini k kf) (hi2 : RJ C M ini it2 jf2) (hk2 : REc C M ini k2 kf2) (ha : RE C M ini a f) :
    RE C M ini (.comp2 a gg it k gg2 it2 k2 own own2) (c_comp2 f gg jf kf gg2 jf2 kf2 own own2) := fun σ h => by
  have ea : (fun σ h => ev C M ini a σ h) = f := funext fun σ => funext fun h => ha σ h
  have ek : (fun σ h => evc C M ini k σ h) = kf := funext fun σ => funext fun h => hk σ h
  have ek2 : (fun σ h => evc C M ini k2 σ h) = kf2 := funext fun σ => funext fun h => hk2 σ h
  have ei : (fun σ h => evJ C M ini it2 σ h) = jf2 := funext fun σ => funext fun h => hi2 σ h
  rw [ev, ea, ek, ek2, ei, hi σ h, fb_eq]
  simp only [c_comp2, fb_eq, nox_eq, unlF_eq]
theorem r_gen {kk : GK} {gg : G} {own : List Nat} {t : Nat} {k : Eo} {kf : Env → EH → T Bool} {jf : Env → EH → T (List W × Lk)} (hi : RI C M ini it jf) (hk : REc C M ini k kf) (ha : RE C M ini a f) :
    RE C M ini (.gen kk a gg it k own t) (c_gen kk f gg jf kf own t) := fun σ h => by
  have ea : (fun σ h => ev C M ini a σ h) = f := funext fun σ => funext fun h => ha σ h
  have ek : (fun σ h => evc C M ini k σ h) = kf := funext fun σ => funext fun h => hk σ h
  rw [ev, ea, ek, hi σ h, fb_eq]
  simp only [c_gen, fb_eq, unlF_eq, ib_eq]
theorem r_gen2 {kk : GK} {gg gg2 : G} {own own2 : List Nat} {t : Nat} {k k2 : Eo} {kf kf2 : Env → EH → T Bool} {jf : Env → EH → T (List W × Lk)} {jf2 : Env → EH → T Wk} (hi : RI C M ini it jf) (hk : REc C M ini k kf) (hi2 : RJ C M ini it2 jf2) (hk2 : REc C M ini k2 kf2) (ha : RE C M ini a f) :
    RE C M ini (.gen2 kk a gg it k gg2 it2 k2 own own2 t) (c_gen2 kk f gg jf kf gg2 jf2 kf2 own own2 t) := fun σ h => by
  have ea : (fun σ h => ev C M ini a σ h) = f := funext fun σ => funext fun h => ha σ h
  have ek : (fun σ h => evc C M ini k σ h) = kf := funext fun σ => funext fun h => hk σ h
  have ek2 : (fun σ h => evc C M ini k2 σ h) = kf2 := funext fun σ => funext fun h => hk2 σ h
  have ei : (fun σ h => evJ C M ini it2 σ h) = jf2 := funext fun σ => funext fun h => hi2 σ h
  rw [ev, ea, ek, ek2, ei, hi σ h, fb_eq]
  simp only [c_gen2, fb_eq, unlF_eq, ib_eq]
end
end Z.F
noncomputable section
namespace Z.F
open PySem
def flK {β : Type} (p : Fl × Env) (nx : Env → β) (rt : W → Env → β) (bk ct : Env → β) : β := Prod.rec (motive := fun _ => β) (fun f σ => Fl.rec (motive := fun _ => β) (nx σ) (fun w => rt w σ) (bk σ) (ct σ) f) p
def nxF (σ : Env) (o : Option EH) : R := ob o .fail fun h => .ok (.nx, σ) h
theorem nxF_eq (σ : Env) (o : Option EH) : nxH σ o = nxF σ o := by cases o <;> rfl
def s_setN (i : Nat) (f : CE) : CS := fun σ h => fb (f σ h) fun w h => .ok (.nx, put σ i (some w)) h
def s_setT (is : List Nat) (f : CE) : CS := fun σ h => fb (f σ h) fun w h => wt w .fail fun ws => ob (setAllF is ws σ) .fail fun σ => .ok (.nx, σ) h
def s_setF (i : Nat) (f a : CE) : CS := fun σ h => fb (f σ h) fun w h => fb (a σ h) fun x h => nxF σ (p_setF i x w h)
def s_set3 (p : W → W → W → EH → Option EH) (f a b : CE) : CS := fun σ h => fb (f σ h) fun w h => fb (a σ h) fun x h => fb (b σ h) fun y h => nxF σ (p x y w h)
def s_par (i j : Nat) (a b : CE) : CS := fun σ h => fb (a σ h) fun x h => fb (b σ h) fun y h => .ok (.nx, put (put σ i (some x)) j (some y)) h
def s_par3 (i j k : Nat) (a b c : CE) : CS := fun σ h => fb (a σ h) fun x h => fb (b σ h) fun y h => fb (c σ h) fun z h => .ok (.nx, put (put (put σ i (some x)) j (some y)) k (some z)) h
def s_augN (i : Nat) (p : W → W → EH → T W) (f : CE) : CS := fun σ h => ob (nth σ i) .fail fun o => ob o .fail fun x => fb (f σ h) fun y h => fb (p x y h) fun w h => .ok (.nx, put σ i (some w)) h
def s_augF (a : CE) (f : Nat) (p : W → W → EH → T W) (e : CE) : CS := fun σ h => fb (a σ h) fun x h => insK x h .fail fun c fs => ob (lookF fs f) .fail fun y => fb (e σ h) fun z h => fb (p y z h) fun w h => nxF σ (sameC h x c (p_setF f x w h))
def s_extF (a : CE) (f : Nat) (e : CE) : CS := fun σ h => fb (a σ h) fun x h => match insOf h x with
    | some (c, fs) => fb (ofO (look fs f) h) fun y h => fb (e σ h) fun z h => match y, z with
      | .ref n, .lst zs => (match h[n]? with
        | some (.lst ys) => if ys.length + zs.length ≤ LIM then nxH σ (sameC h x c (setFld x f y (h.set n (.lst (ys ++ zs))))) else .fail
        | _ => .fail)
      | _, _ => .fail
    | none => .fail
def s_aug3 (get : W → W → EH → Option W) (set : W → W → W → EH → Option EH) (p : W → W → EH → T W) (a i e : CE) : CS := fun σ h => fb (a σ h) fun x h => fb (i σ h) fun y h => fb (okF (get x y h) h) fun u h => fb (e σ h) fun z h => fb (p u z h) fun w h => nxF σ (set x y w h)
def s_ret (f : CE) : CS := fun σ h => fb (f σ h) fun w h => .ok (.rt w, σ) h
def s_retN : CS := fun σ h => .ok (.rt .non, σ) h
def s_expr (f : CE) : CS := fun σ h => fb (f σ h) fun _ h => .ok (.nx, σ) h
def s_pass : CS := fun σ h => .ok (.nx, σ) h
def s_brk : CS := fun σ h => .ok (.bk, σ) h
def s_cont : CS := fun σ h => .ok (.ct, σ) h
def s_nev : CS := fun _ _ => .fail
def s_ite (c : CE) (f g : CS) : CS := fun σ h => fb (c σ h) fun x h => wb x .fail fun k => ib k (f σ h) (g σ h)
def forSF (f : W → CS) (xs : List W) : CS := List.rec (motive := fun _ => Env → EH → R) (fun σ h => .ok (.nx, σ) h) (fun x _ ih σ h => fb (f x σ h) fun p h => flK p (fun σ => ih σ h) (fun w σ => .ok (.rt w, σ) h) (fun σ => .ok (.nx, σ) h) (fun σ => ih σ h)) xs
theorem forSF_eq (f : W → CS) : ∀ xs σ h, forS f xs σ h = forSF f xs σ h
  | [], σ, h => rfl
  | x :: xs, σ, h => by
    show ((f x σ h).bind fun p h => match p.1 with | .nx => forS f xs p.2 h | .ct => forS f xs p.2 h | .bk => .ok (.nx, p.2) h | .rt w => .ok (.rt w, p.2) h) = fb (f x σ h) fun p h => flK p (fun σ => forSF f xs σ h) (fun w σ => .ok (.rt w, σ) h) (fun σ => .ok (.nx, σ) h) (fun σ => forSF f xs σ h)
    rw [fb_eq]
    congr 1
    funext p h
    obtain ⟨q, τ⟩ := p
    cases q <;> first | rfl | exact forSF_eq f xs τ h
def s_for (s : W → Env → Option Env) (it : Env → EH → T (List W × Lk)) (b : CS) : CS := fun σ h => fb (it σ h) fun p h => fb (forSF (fun x σ h => ob (s x σ) .fail fun σ => b σ h) p.1 σ h) fun q h => .ok q (unlF p.2 h)
def whlF (c : CE) (f : CS) (n : Nat) : CS := Nat.rec (motive := fun _ => Env → EH → R) (fun _ _ => .fail) (fun _ ih σ h => fb (c σ h) fun x h => wb x .fail fun k => ib k (fb (f σ h) fun p h => flK p (fun σ => ih σ h) (fun w σ => .ok (.rt w, σ) h) (fun σ => .ok (.nx, σ) h) (fun σ => ih σ h)) (.ok (.nx, σ) h)) n
theorem whlF_eq (c : CE) (f : CS) : ∀ n σ h, whlN c f n σ h = whlF c f n σ h
  | 0, σ, h => rfl
  | n + 1, σ, h => by
    show ((c σ h).bind fun x h => boolK x fun k => if k = true then (f σ h).bind fun p h => match p.1 with
      | .nx => whlN c f n p.2 h
      | .ct => whlN c f n p.2 h
      | .bk => .ok (.nx, p.2) h
      | .rt w => .ok (.rt w, p.2) h
      else .ok (.nx, σ) h) = fb (c σ h) fun x h => wb x .fail fun k => ib k (fb (f σ h) fun p h => flK p (fun σ => whlF c f n σ h) (fun w σ => .ok (.rt w, σ) h) (fun σ => .ok (.nx, σ) h) (fun σ => whlF c f n σ h)) (.ok (.nx, σ) h)
    rw [fb_eq]
    congr 1
    funext x h
    rw [boolK_eq]
    congr 1
    funext k
    rw [ib_eq, fb_eq]
    congr 1
    congr 1
    funext p h
    obtain ⟨q, τ⟩ := p
    cases q <;> first | rfl | exact whlF_eq c f n τ h
def s_whl (c : CE) (b : CS) : CS := whlF c b LIM
def s_app (a e : CE) : CS := fun σ h => fb (a σ h) fun x h => ib (isLF h x) (fb (e σ h) fun w h => appWF x w σ h) .fail
def s_del (p : W → W → EH → Option EH) (a i : CE) : CS := fun σ h => fb (a σ h) fun x h => fb (i σ h) fun y h => nxF σ (p x y h)
def s_raise (c : Nat) : CS := fun _ h => .exc c h
def ss_nil : CS := fun σ h => .ok (.nx, σ) h
def ss_cons (f g : CS) : CS := fun σ h => fb (f σ h) fun p h => flK p (fun σ => g σ h) (fun _ _ => .ok p h) (fun _ => .ok p h) (fun _ => .ok p h)
section
variable {C : CallH} {M : MTab} {ini : Nat → Nat} {a b c d : E} {es : Es} {f g f2 g2 : CE} {fs : CEs} {lo hi : Eo} {it it2 : I} {s : S} {ss ts : Ss} {u v : CS}
theorem t_setN {i : Nat} (ha : RE C M ini a f) : RS C M ini (.set (.name i) a) (s_setN i f) := fun σ h => by
  simp only [RE] at ha; simp only [ex, ha, s_setN, fb_eq, put_eq]
theorem t_setT {is : List Nat} (ha : RE C M ini a f) : RS C M ini (.set (.tup is) a) (s_setT is f) := fun σ h => by
  simp only [RE] at ha; simp only [ex, ha, s_setT, fb_eq]; congr 1; funext w h
  cases w <;> first | rfl | skip
  rename_i ws
  simp only [wt, setAllF_eq]
  cases setAllF is ws σ <;> rfl
theorem t_setF {i : Nat} (ha : RE C M ini a f) (hb : RE C M ini b g) : RS C M ini (.set (.fld b i) a) (s_setF i f g) := fun σ h => by
  simp only [RE] at ha hb; simp only [ex, ha, hb, s_setF, fb_eq, nxF_eq, p_setF_eq]
theorem t_setS (ha : RE C M ini a f) (hb : RE C M ini b g) (hc : RE C M ini c f2) : RS C M ini (.set (.sub b c) a) (s_set3 p_setI f g f2) := fun σ h => by
  simp only [RE] at ha hb hc; simp only [ex, ha, hb, hc, s_set3, fb_eq, nxF_eq, p_setI_eq]
theorem t_setD (ha : RE C M ini a f) (hb : RE C M ini b g) (hc : RE C M ini c f2) : RS C M ini (.set (.dsub b c) a) (s_set3 setDx f g f2) := fun σ h => by
  simp only [RE] at ha hb hc; simp only [ex, ha, hb, hc, s_set3, fb_eq, nxF_eq]
theorem t_setX (ha : RE C M ini a f) (hb : RE C M ini b g) (hc : RE C M ini c f2) : RS C M ini (.set (.tsub b c) a) (s_set3 setTx f g f2) := fun σ h => by
  simp only [RE] at ha hb hc; simp only [ex, ha, hb, hc, s_set3, fb_eq, nxF_eq]
theorem t_par {i j : Nat} (ha : RE C M ini a f) (hb : RE C M ini b g) : RS C M ini (.par i j a b) (s_par i j f g) := fun σ h => by
  simp only [RE] at ha hb; simp only [ex, ha, hb, s_par, fb_eq, put_eq]
theorem t_par3 {i j k : Nat} (ha : RE C M ini a f) (hb : RE C M ini b g) (hc : RE C M ini c f2) : RS C M ini (.par3 i j k a b c) (s_par3 i j k f g f2) := fun σ h => by
  simp only [RE] at ha hb hc; simp only [ex, ha, hb, hc, s_par3, fb_eq, put_eq]
theorem t_augN {i : Nat} {o : Op} {p : W → W → EH → T W} (hp : ∀ x y h, ofO (opW o x y) h = p x y h) (ha : RE C M ini a f) : RS C M ini (.augN i o a) (s_augN i p f) := fun σ h => by
  simp only [RE] at ha; simp only [ex, ha, s_augN, fb_eq, put_eq, nth_eq, hp]
  cases nth σ i with
  | none => rfl
  | some o => cases o <;> rfl
theorem t_augF {i : Nat} {o : Op} {p : W → W → EH → T W} (hp : ∀ x y h, ofO (opW o x y) h = p x y h) (ha : RE C M ini a f) (hb : RE C M ini b g) : RS C M ini (.augF a i o b) (s_augF f i p g) := fun σ h => by
  simp only [RE] at ha hb; simp only [ex, ha, hb, s_augF, fb_eq, hp, nxF_eq, p_setF_eq]
  congr 1; funext x h
  rw [← insK_eq]
  cases insOf h x with
  | none => rfl
  | some q =>
    obtain ⟨c, fs⟩ := q
    simp only [lookF_eq]
    cases lookF fs i <;> rfl
theorem t_extF {i : Nat} (ha : RE C M ini a f) (hb : RE C M ini b g) : RS C M ini (.extF a i b) (s_extF f i g) := fun σ h => by
  simp only [RE] at ha hb; simp only [ex, ha, hb, s_extF, fb_eq] <;> rfl
theorem t_augS {o : Op} {p : W → W → EH → T W} (hp : ∀ x y h, ofO (opW o x y) h = p x y h) (ha : RE C M ini a f) (hb : RE C M ini b g) (hc : RE C M ini c f2) : RS C M ini (.augS a b o c) (s_aug3 getIx p_setI p f g f2) := fun σ h => by
  simp only [RE] at ha hb hc; simp only [ex, ha, hb, hc, s_aug3, fb_eq, hp, nxF_eq, okF_eq, p_setI_eq]
theorem t_augD {o : Op} {p : W → W → EH → T W} (hp : ∀ x y h, ofO (opW o x y) h = p x y h) (ha : RE C M ini a f) (hb : RE C M ini b g) (hc : RE C M ini c f2) : RS C M ini (.augD a b o c) (s_aug3 getDx setDx p f g f2) := fun σ h => by
  simp only [RE] at ha hb hc; simp only [ex, ha, hb, hc, s_aug3, fb_eq, hp, nxF_eq, okF_eq]
theorem t_augT {o : Op} {p : W → W → EH → T W} (hp : ∀ x y h, ofO (opW o x y) h = p x y h) (ha : RE C M ini a f) (hb : RE C M ini b g) (hc : RE C M ini c f2) : RS C M ini (.augT a b o c) (s_aug3 getTx setTx p f g f2) := fun σ h => by
  simp only [RE] at ha hb hc; simp only [ex, ha, hb, hc, s_aug3, fb_eq, hp, nxF_eq, okF_eq]
theorem t_ret (ha : RE C M ini a f) : RS C M ini (.ret a) (s_ret f) := fun σ h => by simp only [RE] at ha; simp only [ex, ha, s_ret, fb_eq]
theorem t_retN : RS C M ini .retN s_retN := fun σ h => rfl
theorem t_expr (ha : RE C M ini a f) : RS C M ini (.expr a) (s_expr f) := fun σ h => by simp only [RE] at ha; simp only [ex, ha, s_expr, fb_eq]
theorem t_pass : RS C M ini .pass s_pass := fun σ h => rfl
theorem t_brk : RS C M ini .brk s_brk := fun σ h => rfl
theorem t_cont : RS C M ini .cont s_cont := fun σ h => rfl
theorem t_nev : RS C M ini .nev s_nev := fun σ h => rfl
theorem t_raise {i : Nat} : RS C M ini (.raise i) (s_raise i) := fun σ h => rfl
theorem t_ite (ha : RE C M ini a f) (hs : RSs C M ini ss u) (ht : RSs C M ini ts v) : RS C M ini (.ite a ss ts) (s_ite f u v) := fun σ h => by
  simp only [RE] at ha; simp only [RSs] at hs ht; simp only [ex, ha, hs, ht, s_ite, fb_eq, boolK_eq, ib_eq]
theorem t_for {gg : G} {st : W → Env → Option Env} {jf : Env → EH → T (List W × Lk)} (hg : RG gg st) (hi : RI C M ini it jf) (hs : RSs C M ini ss u) : RS C M ini (.loop gg it ss) (s_for st jf u) := fun σ h => by
  simp only [RI] at hi; simp only [RSs] at hs
  have e : (fun (x : W) (σ : Env) (h : EH) => (match store gg x σ with | some σ' => exs C M ini ss σ' h | none => .fail : R)) = fun x σ h => ob (st x σ) .fail fun σ => u σ h := by
    funext x σ h
    rw [hg]
    cases st x σ with
    | none => rfl
    | some τ => exact hs τ h
  show ((evI C M ini it σ h).bind fun p h => (forS (fun (x : W) (σ : Env) (h : EH) => (match store gg x σ with | some σ' => exs C M ini ss σ' h | none => .fail : R)) p.1 σ h).bind fun q h => (.ok q (unlock p.2 h) : R)) = _
  rw [e]
  simp only [hi, s_for, fb_eq, forSF_eq, unlF_eq]
theorem t_whl (ha : RE C M ini a f) (hs : RSs C M ini ss u) : RS C M ini (.whl a ss) (s_whl f u) := fun σ h => by
  have ea : (fun σ h => ev C M ini a σ h) = f := funext fun σ => funext fun h => ha σ h
  have es : (fun σ h => exs C M ini ss σ h) = u := funext fun σ => funext fun h => hs σ h
  rw [ex, ea, es, whlF_eq] <;> rfl
theorem t_app (ha : RE C M ini a f) (hb : RE C M ini b g) : RS C M ini (.append a b) (s_app f g) := fun σ h => by
  simp only [RE] at ha hb; simp only [ex, ha, hb, s_app, fb_eq, isLF_eq, ib_eq, appWF_eq]
theorem t_delL (ha : RE C M ini a f) (hb : RE C M ini b g) : RS C M ini (.delL a b) (s_del delIx f g) := fun σ h => by
  simp only [RE] at ha hb; simp only [ex, ha, hb, s_del, fb_eq, nxF_eq]
theorem t_delD (ha : RE C M ini a f) (hb : RE C M ini b g) : RS C M ini (.delD a b) (s_del delDx f g) := fun σ h => by
  simp only [RE] at ha hb; simp only [ex, ha, hb, s_del, fb_eq, nxF_eq]
theorem ts_nil : RSs C M ini .nil ss_nil := fun σ h => rfl
theorem ts_cons (ha : RS C M ini s u) (hs : RSs C M ini ss v) : RSs C M ini (.cons s ss) (ss_cons u v) := fun σ h => by
  simp only [RS] at ha; simp only [RSs] at hs; simp only [exs, ha, hs, ss_cons, fb_eq]
  congr 1; funext p h
  obtain ⟨q, τ⟩ := p
  cases q <;> rfl
end
/-! ### defs -/
def outF (p : Fl × Env) (h : EH) : T W := flK p (fun _ => .ok .non h) (fun w _ => .ok w h) (fun _ => .fail) (fun _ => .fail)
theorem outF_eq (p : Fl × Env) (h : EH) : out p h = outF p h := by
  obtain ⟨q, τ⟩ := p
  cases q <;> rfl
def d_1 (n : Nat) (u : CS) : CG := fun ws h => match ws with
  | [a] => fb (u (some a :: List.replicate n none) h) outF
  | _ => .fail
def G0 (σ : Env) (u : CS) : CG := fun ws h => match ws with | [] => fb (u σ h) outF | _ => .fail
def G1 (σ : Env) (u : CS) : CG := fun ws h => match ws with | [a] => fb (u (some a :: σ) h) outF | _ => .fail
def G2 (σ : Env) (u : CS) : CG := fun ws h => match ws with | [a, b] => fb (u (some a :: some b :: σ) h) outF | _ => .fail
def G3 (σ : Env) (u : CS) : CG := fun ws h => match ws with | [a, b, c] => fb (u (some a :: some b :: some c :: σ) h) outF | _ => .fail
def G4 (σ : Env) (u : CS) : CG := fun ws h => match ws with | [a, b, c, d] => fb (u (some a :: some b :: some c :: some d :: σ) h) outF | _ => .fail
def G5 (σ : Env) (u : CS) : CG := fun ws h => match ws with | [a, b, c, d, e] => fb (u (some a :: some b :: some c :: some d :: some e :: σ) h) outF | _ => .fail
section
variable {P : Pg} {i k n : Nat} {b : Ss} {σ : Env} {u : CS}
theorem callN_body {m : Nat} (h1 : i ≠ P.roll) (h2 : i ≠ P.rnds) (hb : P.body i = some (m, k, b)) (hu : RSs (callN P n) P.M P.ini b u) (ws : List W) (h : EH) : callN P (n + 1) i ws h = if ws.length = m then fb (u (entry k ws) h) outF else .fail := by
  simp only [RSs] at hu
  simp only [callN, if_neg h1, if_neg h2, hb, hu, fb_eq]
  have e : (out : Fl × Env → EH → T W) = outF := funext fun p => funext fun h => outF_eq p h
  rw [e]
theorem g_0 (h1 : i ≠ P.roll) (h2 : i ≠ P.rnds) (hb : P.body i = some (0, k, b)) (hσ : List.replicate k none = σ) (hu : RSs (callN P n) P.M P.ini b u) (ws : List W) (h : EH) : callN P (n + 1) i ws h = G0 σ u ws h := by
  rw [callN_body h1 h2 hb hu]
  match ws with
  | [] => rw [← hσ] <;> rfl
  | _ :: _ => rfl
theorem g_1 (h1 : i ≠ P.roll) (h2 : i ≠ P.rnds) (hb : P.body i = some (1, k, b)) (hσ : List.replicate (k - 1) none = σ) (hu : RSs (callN P n) P.M P.ini b u) (ws : List W) (h : EH) : callN P (n + 1) i ws h = G1 σ u ws h := by
  rw [callN_body h1 h2 hb hu]
  match ws with
  | [] => rfl
  | [a] => rw [← hσ] <;> rfl
  | _ :: _ :: _ => rw [if_neg (by simp)] <;> rfl
theorem g_2 (h1 : i ≠ P.roll) (h2 : i ≠ P.rnds) (hb : P.body i = some (2, k, b)) (hσ : List.replicate (k - 2) none = σ) (hu : RSs (callN P n) P.M P.ini b u) (ws : List W) (h : EH) : callN P (n + 1) i ws h = G2 σ u ws h := by
  rw [callN_body h1 h2 hb hu]
  match ws with
  | [] => rfl
  | [_] => rfl
  | [a, b] => rw [← hσ] <;> rfl
  | _ :: _ :: _ :: _ => rw [if_neg (by simp)] <;> rfl
theorem g_3 (h1 : i ≠ P.roll) (h2 : i ≠ P.rnds) (hb : P.body i = some (3, k, b)) (hσ : List.replicate (k - 3) none = σ) (hu : RSs (callN P n) P.M P.ini b u) (ws : List W) (h : EH) : callN P (n + 1) i ws h = G3 σ u ws h := by
  rw [callN_body h1 h2 hb hu]
  match ws with
  | [] => rfl
  | [_] => rfl
  | [_, _] => rfl
  | [a, b, c] => rw [← hσ] <;> rfl
  | _ :: _ :: _ :: _ :: _ => rw [if_neg (by simp)] <;> rfl
theorem g_4 (h1 : i ≠ P.roll) (h2 : i ≠ P.rnds) (hb : P.body i = some (4, k, b)) (hσ : List.replicate (k - 4) none = σ) (hu : RSs (callN P n) P.M P.ini b u) (ws : List W) (h : EH) : callN P (n + 1) i ws h = G4 σ u ws h := by
  rw [callN_body h1 h2 hb hu]
  match ws with
  | [] => rfl
  | [_] => rfl
  | [_, _] => rfl
  | [_, _, _] => rfl
  | [a, b, c, d] => rw [← hσ] <;> rfl
  | _ :: _ :: _ :: _ :: _ :: _ => rw [if_neg (by simp)] <;> rfl
theorem g_5 (h1 : i ≠ P.roll) (h2 : i ≠ P.rnds) (hb : P.body i = some (5, k, b)) (hσ : List.replicate (k - 5) none = σ) (hu : RSs (callN P n) P.M P.ini b u) (ws : List W) (h : EH) : callN P (n + 1) i ws h = G5 σ u ws h := by
  rw [callN_body h1 h2 hb hu]
  match ws with
  | [] => rfl
  | [_] => rfl
  | [_, _] => rfl
  | [_, _, _] => rfl
  | [_, _, _, _] => rfl
  | [a, b, c, d, e] => rw [← hσ] <;> rfl
  | _ :: _ :: _ :: _ :: _ :: _ :: _ => rw [if_neg (by simp)] <;> rfl
theorem g_roll (ws : List W) (h : EH) : callN P (n + 1) P.roll ws h = rollT ws h := by simp only [callN, if_true]
theorem g_rnds (hr : P.rnds ≠ P.roll) (ws : List W) (h : EH) : callN P (n + 2) P.rnds ws h = rndsT ws h := by
  rw [callN, if_neg hr, if_pos rfl, if_neg (by omega)]
end
end Z.F
noncomputable section
namespace Z.F
open PySem
/-- .. into the list at n -/
def forMF (n : Nat) (f : W → EH → T (Option W)) (xs : List W) : EH → T Unit := List.rec (motive := fun _ => EH → T Unit) (fun h => .ok () h) (fun x _ ih h => fb (f x h) fun o h => ob o (ih h) fun y => ob (nth h n) .fail fun o => lsK o .fail fun ys => ib (Nat.ble (Nat.succ (lenF ys)) LIM) (ih (put h n (.lst (appF ys [y])))) .fail) xs
theorem forMF_eq (n : Nat) (f : W → EH → T (Option W)) : ∀ (xs : List W) (h : EH), forM n f xs h = forMF n f xs h
  | [], h => rfl
  | x :: xs, h => by
    show ((f x h).bind fun o h => match o with
      | none => forM n f xs h
      | some y => match h[n]? with
        | some (.lst ys) => if ys.length < LIM then forM n f xs (h.set n (.lst (ys ++ [y]))) else .fail
        | _ => .fail) = fb (f x h) fun o h => ob o (forMF n f xs h) fun y => ob (nth h n) .fail fun o => lsK o .fail fun ys => ib (Nat.ble (Nat.succ (lenF ys)) LIM) (forMF n f xs (put h n (.lst (appF ys [y])))) .fail
    rw [fb_eq]
    congr 1
    funext o h
    cases o with
    | none => exact forMF_eq n f xs h
    | some y =>
      simp only [nth_eq, ob]
      cases nth h n with
      | none => rfl
      | some o => cases o <;> first | rfl | (simp only [lsK, if_ble, lenF_eq, put_eq, appF_eq, forMF_eq n f xs])
def c_compN (e : CE) (s : W → Env → Option Env) (it : Env → EH → T (List W × Lk)) (c : Env → EH → T Bool) (own : List Nat) : CE := fun σ h => fb (it σ h) fun p h => fb (nox (forMF (lenF h) (turnF s own c e σ) p.1 (appF h [.lst []]))) fun _ h' => .ok (.ref (lenF h)) (unlF p.2 h')
/-- the items of a list, locked or not, by recursors -/
def lsqF (h : EH) (x : W) : Option (List W) := W.rec (motive_1 := fun _ => Option (List W)) (motive_2 := fun _ => Unit) none (fun _ => none) (fun _ => none) (fun _ => none) (fun _ _ => none) (fun xs _ => some xs) (fun n => ob (nth h n) none fun o => ol o none some some) (fun ns => some (ns.map W.int)) () (fun _ _ _ _ => ()) x
theorem lsqF_eq (h : EH) (x : W) : lsqOf h x = lsqF h x := by
  cases x <;> first | rfl | skip
  rename_i n
  simp only [lsqOf, lsqF, ob, nth_eq]
  cases nth h n with
  | none => rfl
  | some o => cases o <;> rfl
def oF (m : Bool) (h : EH) (o : Option (List W)) : T W := ob o .fail fun xs => newF m xs h
theorem oF_eq (m : Bool) (h : EH) (o : Option (List W)) : oL m h o = oF m h o := by
  cases o <;> first | rfl | (simp only [oL, oF, ob, newF_eq])
def p_sortF (m : Bool) (x : W) (h : EH) : T W := ob (lsqF h x) .fail fun xs => oF m h ((srtF xs).map fun is => is.map (·.2))
theorem p_sortF_eq (m : Bool) (x : W) (h : EH) : p1W .sortF m x h = p_sortF m x h := by
  simp only [p1W, p_sortF, lsqF_eq, oF_eq]
  try (cases lsqF h x <;> rfl)
def p_sortU (m : Bool) (x : W) (h : EH) : T W := ob (lsqF h x) .fail fun xs => oF m h ((tupsOf xs).bind srtT)
theorem p_sortU_eq (m : Bool) (x : W) (h : EH) : p1W .sortU m x h = p_sortU m x h := by
  simp only [p1W, p_sortU, lsqF_eq, oF_eq]
  try (cases lsqF h x <;> rfl)
def p_sortI (m : Bool) (x : W) (h : EH) : T W := ob (lsqF h x) .fail fun xs => oF m h ((intsOf xs).map fun is => (srtI is).map W.int)
theorem p_sortI_eq (m : Bool) (x : W) (h : EH) : p1W .sortI m x h = p_sortI m x h := by
  simp only [p1W, p_sortI, lsqF_eq, oF_eq]
  try (cases lsqF h x <;> rfl)
def p_sortDT (m : Bool) (x : W) (h : EH) : T W := dicTK x h .fail fun kvs => oF m h ((keysTI kvs).bind srtT)
theorem p_sortDT_eq (m : Bool) (x : W) (h : EH) : p1W .sortDT m x h = p_sortDT m x h := by
  unfold p_sortDT
  rw [← dicTK_eq]
  simp only [p1W, oF_eq]
  try (cases dicTOf h x <;> rfl)
def p_dictP (m : Bool) (x : W) (h : EH) : T W := ob (lsqF h x) .fail fun xs => ob (dictOf [] xs) .fail fun kvs => .ok (.ref (lenF h)) (appF h [.dic kvs])
theorem p_dictP_eq (m : Bool) (x : W) (h : EH) : p1W .dictP m x h = p_dictP m x h := by
  simp only [p1W, p_dictP, lsqF_eq, lenF_eq, appF_eq]
  cases lsqF h x with
  | none => rfl
  | some xs =>
    simp only [ob]
    cases dictOf [] xs <;> rfl
def p_dixT (m : Bool) (x y : W) (h : EH) : T W := dicTK x h .fail fun kvs => ib (isKeyT y) (okF (tget kvs y) h) .fail
theorem p_dixT_eq (m : Bool) (x y : W) (h : EH) : p2W .dixT m x y h = p_dixT m x y h := by
  unfold p_dixT
  rw [← dicTK_eq]
  simp only [p2W, okF_eq, ib_eq]
  try (cases dicTOf h x <;> rfl)
/-- a tuple-key dict that is not walked -/
def otK {β : Type} (o : EO) (d : β) (f : List (W × W) → β) : β := EO.rec (motive := fun _ => β) (fun _ => d) (fun _ => d) (fun _ => d) (fun _ => d) (fun _ _ => d) d f (fun _ => d) d o
def odK {β : Type} (o : EO) (d : β) (f : List (W × W) → β) : β := EO.rec (motive := fun _ => β) (fun _ => d) (fun _ => d) f (fun _ => d) (fun _ _ => d) d (fun _ => d) (fun _ => d) d o
def p_setX (x y w : W) (h : EH) : Option EH := wr x none fun n => ob (nth h n) none fun o => otK o none fun kvs => ib (isKeyT y) (ib (Nat.ble (Nat.succ (lenF kvs)) LIM) (some (put h n (.dicT (tput kvs y w)))) none) none
theorem p_setX_eq (x y w : W) (h : EH) : setTx x y w h = p_setX x y w h := by
  cases x <;> first | rfl | skip
  rename_i n
  simp only [setTx, p_setX, wr, ob, nth_eq]
  cases nth h n with
  | none => rfl
  | some o =>
    cases o <;> first | rfl | skip
    rename_i kvs
    simp only [otK, ← lenF_eq, ← put_eq]
    rw [← ib_eq, ← if_ble]
    by_cases h1 : isKeyT y = true
    · by_cases h2 : kvs.length < LIM
      · rw [if_pos ⟨h1, h2⟩, if_pos h1, if_pos h2]
      · rw [if_neg (fun q => h2 q.2), if_pos h1, if_neg h2]
    · rw [if_neg (fun q => h1 q.1), if_neg h1]
def p_setD (x y w : W) (h : EH) : Option EH := wr x none fun n => ob (nth h n) none fun o => odK o none fun kvs => ib (isKey y) (ib (Nat.ble (Nat.succ (lenF kvs)) LIM) (some (put h n (.dic (dput kvs y w)))) none) none
theorem p_setD_eq (x y w : W) (h : EH) : setDx x y w h = p_setD x y w h := by
  cases x <;> first | rfl | skip
  rename_i n
  simp only [setDx, p_setD, wr, ob, nth_eq]
  cases nth h n with
  | none => rfl
  | some o =>
    cases o <;> first | rfl | skip
    rename_i kvs
    simp only [odK, ← lenF_eq, ← put_eq]
    rw [← ib_eq, ← if_ble]
    by_cases h1 : isKey y = true
    · by_cases h2 : kvs.length < LIM
      · rw [if_pos ⟨h1, h2⟩, if_pos h1, if_pos h2]
      · rw [if_neg (fun q => h2 q.2), if_pos h1, if_neg h2]
    · rw [if_neg (fun q => h1 q.1), if_neg h1]
def samF (h : EH) (x : W) (c : Nat) (o : Option EH) : Option EH := insK x h none fun d _ => ib (Nat.beq d c) o none
theorem samF_eq (h : EH) (x : W) (c : Nat) (o : Option EH) : sameC h x c o = samF h x c o := by
  unfold samF sameC
  rw [← insK_eq]
  cases insOf h x with
  | none => rfl
  | some q =>
    obtain ⟨d, fs⟩ := q
    show (if d = c then o else none) = ib (Nat.beq d c) o none
    rw [beq_dec]
    by_cases e : d = c
    · rw [if_pos e, decide_eq_true e] <;> rfl
    · rw [if_neg e, decide_eq_false e] <;> rfl
def s_augG (a : CE) (f : Nat) (p : W → W → EH → T W) (e : CE) : CS := fun σ h => fb (a σ h) fun x h => insK x h .fail fun c fs => ob (lookF fs f) .fail fun y => fb (e σ h) fun z h => fb (p y z h) fun w h => nxF σ (samF h x c (p_setF f x w h))
def p_getI (x y : W) (h : EH) : Option W := wr x none fun n => wi y none fun k => ob (nth h n) none fun o => lsK o none fun xs => ixF xs k
theorem p_getI_eq (x y : W) (h : EH) : getIx x y h = p_getI x y h := by
  cases x <;> cases y <;> first | rfl | skip
  rename_i n k
  simp only [getIx, p_getI, wr, wi, ob, nth_eq]
  cases nth h n with
  | none => rfl
  | some o => cases o <;> first | rfl | (simp only [lsK, ixF_eq])
/-- enumerate -/
def enumF (xs : List W) : Nat → List W := List.rec (motive := fun _ => Nat → List W) (fun _ => []) (fun x _ ih m => .tup [.int (.ofNat m), x] :: ih (Nat.succ m)) xs
theorem enumF_eq : ∀ (xs : List W) (m : Nat), enumW (m : Int) xs = enumF xs m
  | [], m => rfl
  | x :: xs, m => by
    show W.tup [.int (m : Int), x] :: enumW ((m : Int) + 1) xs = W.tup [.int (.ofNat m), x] :: enumF xs (m + 1)
    rw [← enumF_eq xs (m + 1)] <;> rfl
def i_enum (f : CE) : Env → EH → T (List W × Lk) := fun σ h => fb (f σ h) fun x h => w3 x .fail (fun xs => .ok (enumF xs 0, .no) h) (fun xs => .ok (enumF xs 0, .no) h) (fun n => ob (nth h n) .fail fun o => ol o .fail (fun xs => .ok (enumF xs 0, .l n xs) (put h n (.lstL xs))) (fun xs => .ok (enumF xs 0, .no) h))
section
variable {C : CallH} {M : MTab} {ini : Nat → Nat} {a b c d : E} {es : Es} {f g f2 g2 : CE} {fs : CEs} {lo hi : Eo} {it it2 : I} {s : S} {ss ts : Ss} {u v : CS}
theorem r_compN {gg : G} {s : W → Env → Option Env} {own : List Nat} {k : Eo} {kf : Env → EH → T Bool} {jf : Env → EH → T (List W × Lk)} (hs : RG gg s) (hi : RI C M ini it jf) (hk : REc C M ini k kf) (ha : RE C M ini a f) : RE C M ini (.compM a gg it k own) (c_compN f s jf kf own) := fun σ h => by
  rw [r_compM hs hi hk ha]
  simp only [c_compM, c_compN, forMF_eq]
theorem r_p1F {p : P1} {m : Bool} {q : W → EH → T W} (hq : ∀ x h, p1W p m x h = q x h) (ha : RE C M ini a f) : RE C M ini (.p1 p m a) (c_1 q f) := fun σ h => by
  have e : p1W p m = q := funext fun x => funext fun h => hq x h
  rw [r_p1 ha, e]
theorem r_p2F {p : P2} {m : Bool} {q : W → W → EH → T W} (hp : ∀ x h, pre2 p x h = true) (hq : ∀ x y h, p2W p m x y h = q x y h) (ha : RE C M ini a f) (hb : RE C M ini b g) : RE C M ini (.p2 p m a b) (c_2 q f g) := fun σ h => by
  rw [r_p2 ha hb]
  simp only [c_p2, c_2, hp, ib, hq]
theorem t_setX' (ha : RE C M ini a f) (hb : RE C M ini b g) (hc : RE C M ini c f2) : RS C M ini (.set (.tsub b c) a) (s_set3 p_setX f g f2) := fun σ h => by
  rw [t_setX ha hb hc]; simp only [s_set3, p_setX_eq]
theorem t_setD' (ha : RE C M ini a f) (hb : RE C M ini b g) (hc : RE C M ini c f2) : RS C M ini (.set (.dsub b c) a) (s_set3 p_setD f g f2) := fun σ h => by
  rw [t_setD ha hb hc]; simp only [s_set3, p_setD_eq]
theorem t_augG {i : Nat} {o : Op} {p : W → W → EH → T W} (hp : ∀ x y h, ofO (opW o x y) h = p x y h) (ha : RE C M ini a f) (hb : RE C M ini b g) : RS C M ini (.augF a i o b) (s_augG f i p g) := fun σ h => by
  rw [t_augF hp ha hb]; simp only [s_augF, s_augG, samF_eq]
theorem t_augS' {o : Op} {p : W → W → EH → T W} (hp : ∀ x y h, ofO (opW o x y) h = p x y h) (ha : RE C M ini a f) (hb : RE C M ini b g) (hc : RE C M ini c f2) : RS C M ini (.augS a b o c) (s_aug3 p_getI p_setI p f g f2) := fun σ h => by
  rw [t_augS hp ha hb hc]; simp only [s_aug3, p_getI_eq]
theorem ri_enum (ha : RE C M ini a f) : RI C M ini (.w .enum a) (i_enum f) := fun σ h => by
  rw [ri_w ha]
  simp only [i_w, i_enum]
  congr 1; funext x h
  have e : ∀ xs, enumW 0 xs = enumF xs 0 := fun xs => enumF_eq xs 0
  cases x <;> first | rfl | (simp only [wkI, w3, e]) | skip
  rename_i n
  simp only [wkI, w3, nth_eq]
  cases nth h n with
  | none => rfl
  | some o => cases o <;> first | rfl | (simp only [ob, ol, e, put_eq])
end
end Z.F
namespace K38
open PySem L2 Z
def top (i : Nat) : Stmt := PySem.Challenge.pw_crossloom_k38_turns_and_fair_orders.main.body.getD i (.Pass ⟨0, 0, 0, 0⟩)
abbrev s0 : Stmt := top 13
def N0 : List Str := ["_law_cell"]
def b0 : Ss := diceB
def d0 : He.DefD := ⟨("_law_dice", none), "_law_dice", "_law_dice", defArgs s0, defBody s0, defScope s0, [], []⟩
abbrev s1 : Stmt := top 14
def N1 : List Str := ["_law_dice_here", "_law_many", "_law_found"]
def b1 : Ss := rollB
def d1 : He.DefD := ⟨("_law_roll", none), "_law_roll", "_law_roll", defArgs s1, defBody s1, defScope s1, [], []⟩
abbrev s2 : Stmt := top 15
def N2 : List Str := ["_law_script", "_law_most", "_law_cells", "_law_cell"]
def b2 : Ss := (rndsB 0)
def d2 : He.DefD := ⟨("_law_rounds", none), "_law_rounds", "_law_rounds", defArgs s2, defBody s2, defScope s2, [], []⟩
abbrev s3 : Stmt := top 16
def N3 : List Str := ["_law_script", "_law_dice_here", "_law_many", "_law_length", "_law_k", "_law_counts", "_law_turns", "_law_packets", "_law_number_now", "_law_due", "_law_told", "_law_order", "_law_place", "_law_ends", "_law_both", "_law_row", "_law_long", "_law_ones"]
def b3 : Ss := (.cons (.loop (.name 1) (.seq (.call 2 (.cons (.var 0) (.cons (.int 1) .nil)))) (.cons (.set (.tup [2, 3]) (.tup (.cons (.bin .add (.int 1) (.call 1 (.cons (.var 1) (.cons (.int 3) .nil)))) (.cons (.bin .add (.int 1) (.call 1 (.cons (.var 1) (.cons (.int 3) .nil)))) .nil)))) (.cons (.set (.name 5) (.comp (.call 1 (.cons (.var 1) (.cons (.int 4) .nil))) (.name 4) (.rng (.var 2)) .none [4])) (.cons (.set (.tup [6, 7]) (.tup (.cons (.make 0 (.cons (.rep false (.lst false (.cons (.var 3) .nil)) (.var 2)) .nil)) (.cons (.lst true .nil) .nil)))) (.cons (.loop (.name 4) (.rng (.var 2)) (.cons (.loop (.name 8) (.rng (.ix (.var 5) (.var 4))) (.cons (.expr (.meth (.var 6) 1 (.cons (.var 4) (.cons (.var 3) .nil)))) (.cons (.append (.var 7) (.tup (.cons (.var 4) (.cons (.var 3) .nil)))) .nil))) .nil)) (.cons (.set (.name 9) (.call 8 (.cons (.comp (.comp (.tup (.cons (.var 4) (.cons (.var 3) .nil))) (.name 4) (.rng (.var 2)) (.some (.cmp .lt (.var 8) (.ix (.var 5) (.var 4)))) [4]) (.name 8) (.rng (.int 4)) .none [8]) .nil))) (.cons (.set (.name 10) (.lst false .nil)) (.cons (.loop (.name 8) (.rng (.int 5)) (.cons (.set (.name 10) (.catL false (.var 10) (.toLst false (.meth (.var 6) 0 .nil)))) .nil)) (.cons (.set (.name 11) (.call 5 (.cons (.var 7) (.cons (.rep false (.lst false (.cons (.int 1) .nil)) (.var 2)) .nil)))) (.cons (.ite (.or (.cons (.eqD true (.var 10) (.var 9)) (.cons (.eqD true (.comp (.ix (.var 7) (.var 12)) (.name 12) (.seq (.var 11)) .none [12]) (.var 9)) .nil))) (.cons (.ret (.bl false)) .nil) .nil) (.cons (.set (.name 13) (.call 6 (.cons (.var 7) (.cons (.var 11) .nil)))) (.cons (.ite (.eqD true (.p1 .sortIT false (.var 13)) (.comp (.bin .mul (.var 3) (.bin .add (.var 4) (.int 1))) (.name 4) (.rng (.len (.var 7))) .none [4])) (.cons (.ret (.bl false)) .nil) .nil) (.cons (.set (.name 14) (.catL true (.rep false (.lst false (.cons (.tup (.cons (.int 0) (.cons (.var 3) .nil))) .nil)) (.int 8)) (.rep false (.lst false (.cons (.tup (.cons (.int 1) (.cons (.var 3) .nil))) .nil)) (.int 8)))) (.cons (.set (.name 15) (.call 5 (.cons (.var 14) (.cons (.lst false (.cons (.int 2) (.cons (.int 1) .nil))) .nil)))) (.cons (.loop (.name 16) (.rng (.int 13)) (.cons (.set (.name 17) (.len (.comp (.int 1) (.name 12) (.seq (.slT (.var 15) .none (.some (.var 16)))) (.some (.eqI false (.ix (.ix (.var 14) (.var 12)) (.int 0)) (.int 0))) [12]))) (.cons (.ite (.and (.cons (.cmp .lt (.var 17) (.int 8)) (.cons (.cmp .gt (.abs (.bin .sub (.var 17) (.bin .mul (.int 2) (.bin .sub (.var 16) (.var 17))))) (.int 2)) .nil))) (.cons (.ret (.bl false)) .nil) .nil) .nil))) (.cons (.ite (.eqD true (.call 4 (.cons (.var 14) (.cons (.lst false (.cons (.int 2) (.cons (.int 1) .nil))) (.cons (.int 7) .nil)))) (.tup (.cons (.bin .mul (.bin .mul (.int 12) (.var 3)) (.int 2)) (.cons (.int 2) .nil)))) (.cons (.ret (.bl false)) .nil) .nil) .nil)))))))))))))))) (.cons (.ret (.bl true)) .nil))
def d3 : He.DefD := ⟨("law", none), "law", "law", defArgs s3, defBody s3, defScope s3, [], []⟩
abbrev s4 : Stmt := top 10
def N4 : List Str := ["packets", "weights", "place", "top", "low", "whole", "queue", "weight", "one", "length", "every"]
def b4 : Ss := (.cons (.set (.tup [3, 4]) (.call 11 (.cons (.var 0) (.cons (.var 1) (.cons (.var 2) .nil))))) (.cons (.set (.name 5) (.int 0)) (.cons (.loop (.tup [6, 7]) (.w .enum (.var 1)) (.cons (.set (.name 10) (.gen .sum (.var 9) (.tup [8, 9]) (.seqR (.var 0)) (.some (.eqI false (.var 8) (.var 6))) [8, 9] 0)) (.cons (.augN 5 .add (.min2 (.bin .mul (.var 10) (.var 4)) (.bin .mul (.var 3) (.var 7)))) .nil))) (.cons (.ret (.tup (.cons (.var 5) (.cons (.var 4) .nil)))) .nil))))
def d4 : He.DefD := ⟨("fluid_time", none), "fluid_time", "fluid_time", defArgs s4, defBody s4, defScope s4, [], []⟩
abbrev s5 : Stmt := top 8
def N5 : List Str := ["packets", "weights", "found", "left", "order", "best", "place"]
def b5 : Ss := (.cons (.set (.name 2) (.call 13 (.cons (.var 0) (.cons (.var 1) .nil)))) (.cons (.par 3 4 (.p1 .lstRng true (.len (.var 2))) (.lst true .nil)) (.cons (.whl (.eqD true (.var 3) (.lst false .nil)) (.cons (.set (.name 5) (.ix (.var 3) (.int 0))) (.cons (.loop (.name 6) (.seq (.slL false (.var 3) (.some (.int 1)) .none)) (.cons (.ite (.call 12 (.cons (.call 11 (.cons (.var 2) (.cons (.var 1) (.cons (.var 6) .nil)))) (.cons (.call 11 (.cons (.var 2) (.cons (.var 1) (.cons (.var 5) .nil)))) .nil))) (.cons (.set (.name 5) (.var 6)) .nil) .nil) .nil)) (.cons (.append (.var 4) (.var 5)) (.cons (.expr (.p2 .remI false (.var 3) (.var 5))) .nil))))) (.cons (.ret (.toTup (.var 4))) .nil))))
def d5 : He.DefD := ⟨("fair_order", none), "fair_order", "fair_order", defArgs s5, defBody s5, defScope s5, [], []⟩
abbrev s6 : Stmt := top 9
def N6 : List Str := ["packets", "order", "found", "clock", "place"]
def b6 : Ss := (.cons (.par 2 3 (.rep true (.lst false (.cons .non .nil)) (.len (.var 0))) (.int 0)) (.cons (.loop (.name 4) (.seq (.var 1)) (.cons (.augN 3 .add (.ix (.ix (.var 0) (.var 4)) (.int 1))) (.cons (.set (.sub (.var 2) (.var 4)) (.var 3)) .nil))) (.cons (.ret (.toTup (.var 2))) .nil)))
def d6 : He.DefD := ⟨("end_times", none), "end_times", "end_times", defArgs s6, defBody s6, defScope s6, [], []⟩
abbrev s7 : Stmt := inClass (top 4) 3
def N7 : List Str := ["self", "queue", "length"]
def b7 : Ss := (.cons (.ret (.toTup (.comp2 (.tup (.cons (.var 1) (.cons (.var 2) .nil))) (.name 1) (.rng (.len (.fld (.var 0) 0))) .none (.name 2) (.seq (.meth (.var 0) 2 (.cons (.var 1) .nil))) .none [1, 2] [2]))) .nil)
def d7 : He.DefD := ⟨("Deficits", some "round"), "round", "Deficits.round", defArgs s7, defBody s7, defScope s7, [], []⟩
abbrev s8 : Stmt := top 12
def N8 : List Str := ["_law_rows", "_law_found", "_law_row"]
def b8 : Ss := (.cons (.set (.name 1) (.lst false .nil)) (.cons (.loop (.name 2) (.seq (.var 0)) (.cons (.set (.name 1) (.catL false (.var 1) (.var 2))) .nil)) (.cons (.ret (.var 1)) .nil)))
def d8 : He.DefD := ⟨("_law_flat", none), "_law_flat", "_law_flat", defArgs s8, defBody s8, defScope s8, [], []⟩
abbrev s9 : Stmt := inClass (top 4) 1
def N9 : List Str := ["self", "queue", "length"]
def b9 : Ss := (.cons (.ite (.or (.cons (.cmp .lt (.var 2) (.int 1)) (.cons (.not (.chain .le .lt (.int 0) (.var 1) (.len (.fld (.var 0) 0)))) .nil))) (.cons .nev .nil) .nil) (.cons (.append (.ix (.fld (.var 0) 0) (.var 1)) (.var 2)) .nil))
def d9 : He.DefD := ⟨("Deficits", some "put"), "put", "Deficits.put", defArgs s9, defBody s9, defScope s9, [], []⟩
abbrev s10 : Stmt := inClass (top 4) 0
def N10 : List Str := ["self", "quanta", "quantum"]
def b10 : Ss := (.cons (.ite (.gen .any (.cmp .lt (.var 2) (.int 1)) (.name 2) (.seq (.var 1)) .none [2] 1) (.cons .nev .nil) .nil) (.cons (.set (.fld (.var 0) 2) (.toTup (.var 1))) (.cons (.set (.fld (.var 0) 0) (.comp (.lst true .nil) (.name 2) (.seq (.var 1)) .none [2])) (.cons (.set (.fld (.var 0) 3) (.rep true (.lst false (.cons (.int 0) .nil)) (.len (.fld (.var 0) 2)))) (.cons (.set (.fld (.var 0) 1) (.rep true (.lst false (.cons (.int 0) .nil)) (.len (.fld (.var 0) 2)))) .nil)))))
def d10 : He.DefD := ⟨("Deficits", some "__init__"), "__init__", "Deficits.__init__", defArgs s10, defBody s10, defScope s10, [], []⟩
abbrev s11 : Stmt := top 6
def N11 : List Str := ["packets", "weights", "place", "queue", "one", "length"]
def b11 : Ss := (.cons (.set (.name 3) (.ix (.ix (.var 0) (.var 2)) (.int 0))) (.cons (.ret (.tup (.cons (.gen .sum (.var 5) (.tup [4, 5]) (.seq (.slL false (.var 0) .none (.some (.bin .add (.var 2) (.int 1))))) (.some (.eqI false (.var 4) (.var 3))) [4, 5] 2) (.cons (.ix (.var 1) (.var 3)) .nil)))) .nil))
def d11 : He.DefD := ⟨("tag", none), "tag", "tag", defArgs s11, defBody s11, defScope s11, [], []⟩
abbrev s12 : Stmt := top 7
def N12 : List Str := ["one", "other"]
def b12 : Ss := (.cons (.ret (.cmp .lt (.bin .mul (.ix (.var 0) (.int 0)) (.ix (.var 1) (.int 1))) (.bin .mul (.ix (.var 1) (.int 0)) (.ix (.var 0) (.int 1))))) .nil)
def d12 : He.DefD := ⟨("is_ahead", none), "is_ahead", "is_ahead", defArgs s12, defBody s12, defScope s12, [], []⟩
abbrev s13 : Stmt := top 5
def N13 : List Str := ["packets", "weights", "packet", "found", "weight", "queue", "length"]
def b13 : Ss := (.cons (.set (.name 3) (.compM (.toTup (.var 2)) (.name 2) (.seqR (.var 0)) .none [2])) (.cons (.ite (.gen .any (.cmp .lt (.var 4) (.int 1)) (.name 4) (.seq (.var 1)) .none [4] 3) (.cons .nev .nil) .nil) (.cons (.ite (.gen .any (.or (.cons (.not (.chain .le .lt (.int 0) (.var 5) (.len (.var 1)))) (.cons (.cmp .lt (.var 6) (.int 1)) .nil))) (.tup [5, 6]) (.seqR (.var 3)) .none [5, 6] 3) (.cons .nev .nil) .nil) (.cons (.ret (.var 3)) .nil))))
def d13 : He.DefD := ⟨("check_packets", none), "check_packets", "check_packets", defArgs s13, defBody s13, defScope s13, [], []⟩
abbrev s14 : Stmt := inClass (top 4) 2
def N14 : List Str := ["self", "queue", "found", "length"]
def b14 : Ss := (.cons (.set (.name 2) (.lst true .nil)) (.cons (.ite (.eqD false (.ix (.fld (.var 0) 0) (.var 1)) (.lst false .nil)) (.cons (.set (.sub (.fld (.var 0) 3) (.var 1)) (.int 0)) (.cons (.ret (.tup .nil)) .nil)) .nil) (.cons (.augS (.fld (.var 0) 3) (.var 1) .add (.ix (.fld (.var 0) 2) (.var 1))) (.cons (.whl (.and (.cons (.eqD true (.ix (.fld (.var 0) 0) (.var 1)) (.lst false .nil)) (.cons (.cmp .le (.ix (.ix (.fld (.var 0) 0) (.var 1)) (.int 0)) (.ix (.fld (.var 0) 3) (.var 1))) .nil))) (.cons (.set (.name 3) (.p2 .popAt false (.ix (.fld (.var 0) 0) (.var 1)) (.int 0))) (.cons (.augS (.fld (.var 0) 3) (.var 1) .sub (.var 3)) (.cons (.append (.var 2) (.var 3)) .nil)))) (.cons (.augS (.fld (.var 0) 1) (.var 1) .add (.p1 .sumL false (.var 2))) (.cons (.ite (.eqD false (.ix (.fld (.var 0) 0) (.var 1)) (.lst false .nil)) (.cons (.set (.sub (.fld (.var 0) 3) (.var 1)) (.int 0)) .nil) .nil) (.cons (.ret (.toTup (.var 2))) .nil)))))))
def d14 : He.DefD := ⟨("Deficits", some "visit"), "visit", "Deficits.visit", defArgs s14, defBody s14, defScope s14, [], []⟩
def tb : Tb where
  fn f := match f with
    | 0 => some ⟨"_law_dice", true, ["_law_cell"]⟩
    | 1 => some ⟨"_law_roll", true, ["_law_dice_here", "_law_many"]⟩
    | 2 => some ⟨"_law_rounds", true, ["_law_script", "_law_most"]⟩
    | 3 => some ⟨"law", true, ["_law_script"]⟩
    | 4 => some ⟨"fluid_time", true, ["packets", "weights", "place"]⟩
    | 5 => some ⟨"fair_order", true, ["packets", "weights"]⟩
    | 6 => some ⟨"end_times", true, ["packets", "order"]⟩
    | 7 => some ⟨"round", false, ["self"]⟩
    | 8 => some ⟨"_law_flat", true, ["_law_rows"]⟩
    | 9 => some ⟨"put", false, ["self", "queue", "length"]⟩
    | 10 => some ⟨"__init__", false, ["self", "quanta"]⟩
    | 11 => some ⟨"tag", true, ["packets", "weights", "place"]⟩
    | 12 => some ⟨"is_ahead", true, ["one", "other"]⟩
    | 13 => some ⟨"check_packets", true, ["packets", "weights"]⟩
    | 14 => some ⟨"visit", false, ["self", "queue"]⟩
    | _ => none
  cls c := match c with
    | 0 => some "Deficits"
    | _ => none
  fl := ["queues", "sent", "quanta", "left"]
  mth m := match m with
    | 0 => "round"
    | 1 => "put"
    | 2 => "visit"
    | _ => ""
  blt := ["abs", "any", "enumerate", "int", "len", "list", "min", "range", "sorted", "sum", "tuple"]
def pg : Pg where
  body f := match f with
    | 0 => some (1, 1, b0)
    | 3 => some (1, 18, b3)
    | 4 => some (3, 11, b4)
    | 5 => some (2, 7, b5)
    | 6 => some (2, 5, b6)
    | 7 => some (1, 3, b7)
    | 8 => some (1, 3, b8)
    | 9 => some (3, 3, b9)
    | 10 => some (2, 3, b10)
    | 11 => some (3, 6, b11)
    | 12 => some (2, 2, b12)
    | 13 => some (2, 7, b13)
    | 14 => some (2, 4, b14)
    | _ => none
  M c m := match c with
    | 0 => (match m with
      | 0 => some 7
      | 1 => some 9
      | 2 => some 14
      | _ => none)
    | _ => none
  ini c := match c with
    | 0 => 10
    | _ => 0
  roll := 1
  rnds := 2
def gt : Nat → Option Nat := fun n => match n with | 4 => some 0 | 10 => some 1 | 11 => some 2 | 13 => some 3 | _ => none
theorem sc0 : FnScope N0 ["_law_cell"] (defScope s0) := ⟨rfl, rfl, rfl, by decide +kernel, rfl, by decide +kernel, by decide +kernel⟩
theorem ck0 : chkSs tb N0 none (fun _ => true) (defScope s0) b0 (defBody s0) = true := by decide +kernel
theorem sc1 : FnScope N1 ["_law_dice_here", "_law_many"] (defScope s1) := ⟨rfl, rfl, rfl, by decide +kernel, rfl, by decide +kernel, by decide +kernel⟩
theorem ck1 : chkSs tb N1 none (fun _ => true) (defScope s1) b1 (defBody s1) = true := by decide +kernel
theorem sc2 : FnScope N2 ["_law_script", "_law_most"] (defScope s2) := ⟨rfl, rfl, rfl, by decide +kernel, rfl, by decide +kernel, by decide +kernel⟩
theorem ck2 : chkSs tb N2 none (fun _ => true) (defScope s2) b2 (defBody s2) = true := by decide +kernel
theorem sc3 : FnScope N3 ["_law_script"] (defScope s3) := ⟨rfl, rfl, rfl, by decide +kernel, rfl, by decide +kernel, by decide +kernel⟩
theorem ck3 : chkSs tb N3 none (fun _ => true) (defScope s3) b3 (defBody s3) = true := by decide +kernel
theorem sc4 : FnScope N4 ["packets", "weights", "place"] (defScope s4) := ⟨rfl, rfl, rfl, by decide +kernel, rfl, by decide +kernel, by decide +kernel⟩
theorem ck4 : chkSs tb N4 (some 0) (fun _ => true) (defScope s4) b4 (defBody s4) = true := by decide +kernel
theorem sc5 : FnScope N5 ["packets", "weights"] (defScope s5) := ⟨rfl, rfl, rfl, by decide +kernel, rfl, by decide +kernel, by decide +kernel⟩
theorem ck5 : chkSs tb N5 none (fun _ => true) (defScope s5) b5 (defBody s5) = true := by decide +kernel
theorem sc6 : FnScope N6 ["packets", "order"] (defScope s6) := ⟨rfl, rfl, rfl, by decide +kernel, rfl, by decide +kernel, by decide +kernel⟩
theorem ck6 : chkSs tb N6 none (fun _ => true) (defScope s6) b6 (defBody s6) = true := by decide +kernel
theorem sc7 : FnScope N7 ["self"] (defScope s7) := ⟨rfl, rfl, rfl, by decide +kernel, rfl, by decide +kernel, by decide +kernel⟩
theorem ck7 : chkSs tb N7 none (fun _ => true) (defScope s7) b7 (defBody s7) = true := by decide +kernel
theorem sc8 : FnScope N8 ["_law_rows"] (defScope s8) := ⟨rfl, rfl, rfl, by decide +kernel, rfl, by decide +kernel, by decide +kernel⟩
theorem ck8 : chkSs tb N8 none (fun _ => true) (defScope s8) b8 (defBody s8) = true := by decide +kernel
theorem sc9 : FnScope N9 ["self", "queue", "length"] (defScope s9) := ⟨rfl, rfl, rfl, by decide +kernel, rfl, by decide +kernel, by decide +kernel⟩
theorem ck9 : chkSs tb N9 none (fun _ => true) (defScope s9) b9 (defBody s9) = true := by decide +kernel
theorem sc10 : FnScope N10 ["self", "quanta"] (defScope s10) := ⟨rfl, rfl, rfl, by decide +kernel, rfl, by decide +kernel, by decide +kernel⟩
theorem ck10 : chkSs tb N10 (some 1) (fun _ => true) (defScope s10) b10 (defBody s10) = true := by decide +kernel
theorem sc11 : FnScope N11 ["packets", "weights", "place"] (defScope s11) := ⟨rfl, rfl, rfl, by decide +kernel, rfl, by decide +kernel, by decide +kernel⟩
theorem ck11 : chkSs tb N11 (some 2) (fun _ => true) (defScope s11) b11 (defBody s11) = true := by decide +kernel
theorem sc12 : FnScope N12 ["one", "other"] (defScope s12) := ⟨rfl, rfl, rfl, by decide +kernel, rfl, by decide +kernel, by decide +kernel⟩
theorem ck12 : chkSs tb N12 none (fun _ => true) (defScope s12) b12 (defBody s12) = true := by decide +kernel
theorem sc13 : FnScope N13 ["packets", "weights"] (defScope s13) := ⟨rfl, rfl, rfl, by decide +kernel, rfl, by decide +kernel, by decide +kernel⟩
theorem ck13 : chkSs tb N13 (some 3) (fun _ => true) (defScope s13) b13 (defBody s13) = true := by decide +kernel
theorem sc14 : FnScope N14 ["self", "queue"] (defScope s14) := ⟨rfl, rfl, rfl, by decide +kernel, rfl, by decide +kernel, by decide +kernel⟩
theorem ck14 : chkSs tb N14 none (fun _ => true) (defScope s14) b14 (defBody s14) = true := by decide +kernel
def fn : List He.DefD := [d0, d1, d2, d3, d4, d5, d6, d7, d8, d9, d10, d11, d12, d13, d14]
def tf : List He.Defn := [("fluid_time", none), ("Deficits", some "__init__"), ("tag", none), ("check_packets", none)]
def fa : List He.Fa := [.glo "_law_dice", .glo "_law_roll", .glo "_law_rounds", .glo "law", .glo "fluid_time", .glo "fair_order", .glo "end_times", .glo "_law_flat", .glo "tag", .glo "is_ahead", .glo "check_packets", .glo "Deficits", .cls "Deficits", .mkr "Deficits", .noat "Deficits" "queues", .noat "Deficits" "sent", .noat "Deficits" "quanta", .noat "Deficits" "left", .meth "Deficits" "round", .meth "Deficits" "put", .meth "Deficits" "visit", .free "abs", .free "any", .free "enumerate", .free "int", .free "len", .free "list", .free "min", .free "range", .free "sorted", .free "sum", .free "tuple"]
def ex (K : PySem.W.Frag) : Bool := decide ((tf.map fun p => (He.cT K p).2).Nodup)
def inf (K : PySem.W.Frag) : Inf := ⟨K, tb.fl, fun n => match n with | 0 => He.ga K "Deficits" | _ => 0, fun c => decide (c < 1), tf.map fun p => (He.cT K p).2⟩
def fA (K : PySem.W.Frag) : Nat → Addr := fun n => match n with | 0 => He.fAd K ("_law_dice", none) | 1 => He.fAd K ("_law_roll", none) | 2 => He.fAd K ("_law_rounds", none) | 3 => He.fAd K ("law", none) | 4 => He.fAd K ("fluid_time", none) | 5 => He.fAd K ("fair_order", none) | 6 => He.fAd K ("end_times", none) | 7 => He.fAd K ("Deficits", some "round") | 8 => He.fAd K ("_law_flat", none) | 9 => He.fAd K ("Deficits", some "put") | 10 => He.fAd K ("Deficits", some "__init__") | 11 => He.fAd K ("tag", none) | 12 => He.fAd K ("is_ahead", none) | 13 => He.fAd K ("check_packets", none) | 14 => He.fAd K ("Deficits", some "visit") | _ => 0
theorem facts {l : PySem.W.OpenLaw} {w : World} {K : PySem.W.Frag} {h : Heap} {mg : Str → Option Value} {a : Addr} (X : K.In h) (G : h.Ns mainGlobals mg) (hfa : mg "law" = some (.ref a)) (cS : He.SaysX fa fn [] tf ex w h K) {n : Nat}
    (plain : ∀ ns : List Int, (callN pg n 3 [.scr ns] (List.replicate 4 .tbl)).All (fun w _ => w = .bl true) (fun _ _ => False)) : LamX.LawAtS l w K (L2.CX l.prog w) (3 * n) 63 "_law_script" mg a h := by
  have e := hfa.symm.trans (He.glo_ok X G (cS.t.d.fact 3 (f := .glo "law") rfl))
  cases e
  obtain ⟨e0, F0⟩ := cS.t.d.def_ 0 (d := d0) rfl
  have B0 := F0.bindsN (ps := ["_law_cell"]) fun _ _ _ _ _ _ us hl => match us, hl with | [_], _ => rfl
  obtain ⟨e1, F1⟩ := cS.t.d.def_ 1 (d := d1) rfl
  have B1 := F1.bindsN (ps := ["_law_dice_here", "_law_many"]) fun _ _ _ _ _ _ us hl => match us, hl with | [_, _], _ => rfl
  obtain ⟨e2, F2⟩ := cS.t.d.def_ 2 (d := d2) rfl
  have B2 := F2.bindsN (ps := ["_law_script", "_law_most"]) fun _ _ _ _ _ _ us hl => match us, hl with | [_, _], _ => rfl
  obtain ⟨e3, F3⟩ := cS.t.d.def_ 3 (d := d3) rfl
  have B3 := F3.bindsN (ps := ["_law_script"]) fun _ _ _ _ _ _ us hl => match us, hl with | [_], _ => rfl
  obtain ⟨e4, F4⟩ := cS.t.d.def_ 4 (d := d4) rfl
  have B4 := F4.bindsN (ps := ["packets", "weights", "place"]) fun _ _ _ _ _ _ us hl => match us, hl with | [_, _, _], _ => rfl
  obtain ⟨e5, F5⟩ := cS.t.d.def_ 5 (d := d5) rfl
  have B5 := F5.bindsN (ps := ["packets", "weights"]) fun _ _ _ _ _ _ us hl => match us, hl with | [_, _], _ => rfl
  obtain ⟨e6, F6⟩ := cS.t.d.def_ 6 (d := d6) rfl
  have B6 := F6.bindsN (ps := ["packets", "order"]) fun _ _ _ _ _ _ us hl => match us, hl with | [_, _], _ => rfl
  obtain ⟨e7, F7⟩ := cS.t.d.def_ 7 (d := d7) rfl
  have B7 := F7.bindsN (ps := ["self"]) fun _ _ _ _ _ _ us hl => match us, hl with | [_], _ => rfl
  obtain ⟨e8, F8⟩ := cS.t.d.def_ 8 (d := d8) rfl
  have B8 := F8.bindsN (ps := ["_law_rows"]) fun _ _ _ _ _ _ us hl => match us, hl with | [_], _ => rfl
  obtain ⟨e9, F9⟩ := cS.t.d.def_ 9 (d := d9) rfl
  have B9 := F9.bindsN (ps := ["self", "queue", "length"]) fun _ _ _ _ _ _ us hl => match us, hl with | [_, _, _], _ => rfl
  obtain ⟨e10, F10⟩ := cS.t.d.def_ 10 (d := d10) rfl
  have B10 := F10.bindsN (ps := ["self", "quanta"]) fun _ _ _ _ _ _ us hl => match us, hl with | [_, _], _ => rfl
  obtain ⟨e11, F11⟩ := cS.t.d.def_ 11 (d := d11) rfl
  have B11 := F11.bindsN (ps := ["packets", "weights", "place"]) fun _ _ _ _ _ _ us hl => match us, hl with | [_, _, _], _ => rfl
  obtain ⟨e12, F12⟩ := cS.t.d.def_ 12 (d := d12) rfl
  have B12 := F12.bindsN (ps := ["one", "other"]) fun _ _ _ _ _ _ us hl => match us, hl with | [_, _], _ => rfl
  obtain ⟨e13, F13⟩ := cS.t.d.def_ 13 (d := d13) rfl
  have B13 := F13.bindsN (ps := ["packets", "weights"]) fun _ _ _ _ _ _ us hl => match us, hl with | [_, _], _ => rfl
  obtain ⟨e14, F14⟩ := cS.t.d.def_ 14 (d := d14) rfl
  have B14 := F14.bindsN (ps := ["self", "queue"]) fun _ _ _ _ _ _ us hl => match us, hl with | [_, _], _ => rfl
  have BL := FunD.bindsA (ps := ["_law_script"]) F3 fun _ _ _ _ _ _ us hl => match us, hl with | [_], _ => rfl
  let fD : Nat → FuncData := fun n => match n with | 0 => e0 | 1 => e1 | 2 => e2 | 3 => e3 | 4 => e4 | 5 => e5 | 6 => e6 | 7 => e7 | 8 => e8 | 9 => e9 | 10 => e10 | 11 => e11 | 12 => e12 | 13 => e13 | 14 => e14 | _ => e0
  have gf : Gf mg tb (inf K) pg 0 (fA K) fD gt := by
    refine ⟨rfl, (by decide +kernel : tb.fl.Nodup), fun c hc => ?cls, fun n hn => ?blt, fun f hf => ?no, fun f i hf => ?tx, ⟨by decide, by decide, rfl⟩, by decide, fun f i hf => ?bd, fun f i hf hg => ?gl, fun c x hc => ?cl, fun c m f hc hm => ?mt⟩
    case cls =>
      match c, hc with
      | 0, _ => exact ⟨He.cls_ok (cS.t.d.fact 12 (f := .cls "Deficits") rfl), fun n hn => by
          simp only [inf, tb, List.mem_cons, List.not_mem_nil, or_false] at hn
          rcases hn with rfl | rfl | rfl | rfl
          · exact He.noat_ok (cS.t.d.fact 14 (f := .noat "Deficits" "queues") rfl)
          · exact He.noat_ok (cS.t.d.fact 15 (f := .noat "Deficits" "sent") rfl)
          · exact He.noat_ok (cS.t.d.fact 16 (f := .noat "Deficits" "quanta") rfl)
          · exact He.noat_ok (cS.t.d.fact 17 (f := .noat "Deficits" "left") rfl)
          ⟩
      | n + 1, hc => exact absurd hc (by simp [inf])
    case blt =>
      simp only [tb, List.mem_cons, List.not_mem_nil, or_false] at hn
      rcases hn with rfl | rfl | rfl | rfl | rfl | rfl | rfl | rfl | rfl | rfl | rfl
      · exact He.free_ok X G (cS.t.d.fact 21 (f := .free "abs") rfl)
      · exact He.free_ok X G (cS.t.d.fact 22 (f := .free "any") rfl)
      · exact He.free_ok X G (cS.t.d.fact 23 (f := .free "enumerate") rfl)
      · exact He.free_ok X G (cS.t.d.fact 24 (f := .free "int") rfl)
      · exact He.free_ok X G (cS.t.d.fact 25 (f := .free "len") rfl)
      · exact He.free_ok X G (cS.t.d.fact 26 (f := .free "list") rfl)
      · exact He.free_ok X G (cS.t.d.fact 27 (f := .free "min") rfl)
      · exact He.free_ok X G (cS.t.d.fact 28 (f := .free "range") rfl)
      · exact He.free_ok X G (cS.t.d.fact 29 (f := .free "sorted") rfl)
      · exact He.free_ok X G (cS.t.d.fact 30 (f := .free "sum") rfl)
      · exact He.free_ok X G (cS.t.d.fact 31 (f := .free "tuple") rfl)
    case no =>
      match f, hf with
      | 0, hf => cases hf
      | 1, hf => cases hf
      | 2, hf => cases hf
      | 3, hf => cases hf
      | 4, hf => cases hf
      | 5, hf => cases hf
      | 6, hf => cases hf
      | 7, hf => cases hf
      | 8, hf => cases hf
      | 9, hf => cases hf
      | 10, hf => cases hf
      | 11, hf => cases hf
      | 12, hf => cases hf
      | 13, hf => cases hf
      | 14, hf => cases hf
      | n + 15, _ => exact ⟨by show ¬ n + 15 = 1; omega, by show ¬ n + 15 = 2; omega, rfl⟩
    case tx =>
      match f, hf with
      | 0, hf => cases hf; exact ⟨"_law_dice", "_law_dice", s0, N0, b0, F0, sc0, ck0, by rw [if_neg (by decide), if_neg (by decide)]; rfl⟩
      | 1, hf => cases hf; exact ⟨"_law_roll", "_law_roll", s1, N1, b1, F1, sc1, ck1, by rw [if_pos (show (1 : Nat) = pg.roll from rfl)]; exact ⟨rfl, rfl, rfl⟩⟩
      | 2, hf => cases hf; exact ⟨"_law_rounds", "_law_rounds", s2, N2, b2, F2, sc2, ck2, by rw [if_neg (by decide), if_pos (show (2 : Nat) = pg.rnds from rfl)]; exact ⟨rfl, rfl, rfl⟩⟩
      | 3, hf => cases hf; exact ⟨"law", "law", s3, N3, b3, F3, sc3, ck3, by rw [if_neg (by decide), if_neg (by decide)]; rfl⟩
      | 4, hf => cases hf; exact ⟨"fluid_time", "fluid_time", s4, N4, b4, F4, sc4, ck4, by rw [if_neg (by decide), if_neg (by decide)]; rfl⟩
      | 5, hf => cases hf; exact ⟨"fair_order", "fair_order", s5, N5, b5, F5, sc5, ck5, by rw [if_neg (by decide), if_neg (by decide)]; rfl⟩
      | 6, hf => cases hf; exact ⟨"end_times", "end_times", s6, N6, b6, F6, sc6, ck6, by rw [if_neg (by decide), if_neg (by decide)]; rfl⟩
      | 7, hf => cases hf; exact ⟨"round", "Deficits.round", s7, N7, b7, F7, sc7, ck7, by rw [if_neg (by decide), if_neg (by decide)]; rfl⟩
      | 8, hf => cases hf; exact ⟨"_law_flat", "_law_flat", s8, N8, b8, F8, sc8, ck8, by rw [if_neg (by decide), if_neg (by decide)]; rfl⟩
      | 9, hf => cases hf; exact ⟨"put", "Deficits.put", s9, N9, b9, F9, sc9, ck9, by rw [if_neg (by decide), if_neg (by decide)]; rfl⟩
      | 10, hf => cases hf; exact ⟨"__init__", "Deficits.__init__", s10, N10, b10, F10, sc10, ck10, by rw [if_neg (by decide), if_neg (by decide)]; rfl⟩
      | 11, hf => cases hf; exact ⟨"tag", "tag", s11, N11, b11, F11, sc11, ck11, by rw [if_neg (by decide), if_neg (by decide)]; rfl⟩
      | 12, hf => cases hf; exact ⟨"is_ahead", "is_ahead", s12, N12, b12, F12, sc12, ck12, by rw [if_neg (by decide), if_neg (by decide)]; rfl⟩
      | 13, hf => cases hf; exact ⟨"check_packets", "check_packets", s13, N13, b13, F13, sc13, ck13, by rw [if_neg (by decide), if_neg (by decide)]; rfl⟩
      | 14, hf => cases hf; exact ⟨"visit", "Deficits.visit", s14, N14, b14, F14, sc14, ck14, by rw [if_neg (by decide), if_neg (by decide)]; rfl⟩
      | n + 15, hf => cases hf
    case bd =>
      match f, hf with
      | 0, hf => cases hf; exact B0
      | 1, hf => cases hf; exact B1
      | 2, hf => cases hf; exact B2
      | 3, hf => cases hf; exact B3
      | 4, hf => cases hf; exact B4
      | 5, hf => cases hf; exact B5
      | 6, hf => cases hf; exact B6
      | 7, hf => cases hf; exact B7
      | 8, hf => cases hf; exact B8
      | 9, hf => cases hf; exact B9
      | 10, hf => cases hf; exact B10
      | 11, hf => cases hf; exact B11
      | 12, hf => cases hf; exact B12
      | 13, hf => cases hf; exact B13
      | 14, hf => cases hf; exact B14
      | n + 15, hf => cases hf
    case gl =>
      match f, hf with
      | 0, hf => cases hf; exact He.glo_ok X G (cS.t.d.fact 0 (f := .glo "_law_dice") rfl)
      | 1, hf => cases hf; exact He.glo_ok X G (cS.t.d.fact 1 (f := .glo "_law_roll") rfl)
      | 2, hf => cases hf; exact He.glo_ok X G (cS.t.d.fact 2 (f := .glo "_law_rounds") rfl)
      | 3, hf => cases hf; exact He.glo_ok X G (cS.t.d.fact 3 (f := .glo "law") rfl)
      | 4, hf => cases hf; exact He.glo_ok X G (cS.t.d.fact 4 (f := .glo "fluid_time") rfl)
      | 5, hf => cases hf; exact He.glo_ok X G (cS.t.d.fact 5 (f := .glo "fair_order") rfl)
      | 6, hf => cases hf; exact He.glo_ok X G (cS.t.d.fact 6 (f := .glo "end_times") rfl)
      | 7, hf => cases hf; cases hg
      | 8, hf => cases hf; exact He.glo_ok X G (cS.t.d.fact 7 (f := .glo "_law_flat") rfl)
      | 9, hf => cases hf; cases hg
      | 10, hf => cases hf; cases hg
      | 11, hf => cases hf; exact He.glo_ok X G (cS.t.d.fact 8 (f := .glo "tag") rfl)
      | 12, hf => cases hf; exact He.glo_ok X G (cS.t.d.fact 9 (f := .glo "is_ahead") rfl)
      | 13, hf => cases hf; exact He.glo_ok X G (cS.t.d.fact 10 (f := .glo "check_packets") rfl)
      | 14, hf => cases hf; cases hg
      | n + 15, hf => cases hf
    case cl =>
      match c, hc with
      | 0, hc => cases hc; exact ⟨He.glo_ok X G (cS.t.d.fact 11 (f := .glo "Deficits") rfl), rfl, He.mkr_ok (cS.t.d.fact 13 (f := .mkr "Deficits") rfl), _, rfl⟩
      | n + 1, hc => cases hc
    case mt =>
      match c, m, hm with
      | 0, 0, hm => cases hm; exact ⟨He.meth_ok (cS.t.d.fact 18 (f := .meth "Deficits" "round") rfl), _, rfl⟩
      | 0, 1, hm => cases hm; exact ⟨He.meth_ok (cS.t.d.fact 19 (f := .meth "Deficits" "put") rfl), _, rfl⟩
      | 0, 2, hm => cases hm; exact ⟨He.meth_ok (cS.t.d.fact 20 (f := .meth "Deficits" "visit") rfl), _, rfl⟩
      | 0, m + 3, hm => cases hm
      | c + 1, m, hm => cases hm
  refine law_at X cS gf rfl rfl (of_decide_eq_true cS.more) (fun f t ht => ?_) (fL := 3) rfl rfl (fun s v => BL s [v] rfl) plain
  match f, ht with
  | 4, ht => cases ht; exact ⟨_, rfl, tab_code F4⟩
  | 10, ht => cases ht; exact ⟨_, rfl, tab_code F10⟩
  | 11, ht => cases ht; exact ⟨_, rfl, tab_code F11⟩
  | 13, ht => cases ht; exact ⟨_, rfl, tab_code F13⟩
  | 0, ht => cases ht
  | 1, ht => cases ht
  | 2, ht => cases ht
  | 3, ht => cases ht
  | 5, ht => cases ht
  | 6, ht => cases ht
  | 7, ht => cases ht
  | 8, ht => cases ht
  | 9, ht => cases ht
  | 12, ht => cases ht
  | 14, ht => cases ht
  | n + 15, ht => cases ht
abbrev R : PySem.W.OpenRow := PySem.W.OpenLaw.row PySem.Challenge.rw_crossloom_k38_turns_and_fair_orders
abbrev hk : PySem.W.Hook := He.hookX 6 fa fn [] tf ex
def ob (s : PySem.W.SharedT) : He.AlX := He.obsX 6 fa fn [] tf ex (HandSHeadRun.getT s)
theorem ob_eq (s : PySem.W.SharedT) : ob s = hk.obs s.abs := He.obsX_eq (HandSHeadRun.getT_eq s)
theorem run (w : World) : HandSHeadRun.RunEq R (PySem.W.view R.prog [16]) hk ob 2000 ["FabricFault", "BadSize", "Deficits", "check_packets", "tag", "is_ahead", "fair_order", "end_times", "fluid_time", "_law_flat", "_law_dice", "_law_roll", "_law_rounds"] w := by
  intro os
  kernel_rfl
end K38
noncomputable section
namespace K38
open PySem L2 Z Z.F
theorem ok1 (n : Nat) (ws : List W) (h : EH) : callN pg (n + 1) 1 ws h = rollT ws h := g_roll ws h
theorem ok2 (n : Nat) (ws : List W) (h : EH) : callN pg (n + 2) 2 ws h = rndsT ws h := g_rnds (by decide) ws h
/-- end_times -/
def c6 : CS := (ss_cons (s_par 2 3 (c_2 (q_rep true) (c_lst false (cs_cons (c_val .non) cs_nil)) (c_1 p_len (c_var 0))) (c_val (.int 0))) (ss_cons (s_for (g_name 4) (i_seq (c_var 1)) (ss_cons (s_augN 3 p_add (c_2 p_ix (c_2 p_ix (c_var 0) (c_var 4)) (c_val (.int 1)))) (ss_cons (s_set3 p_setI (c_var 3) (c_var 2) (c_var 4)) ss_nil))) (ss_cons (s_ret (c_1 p_toTup (c_var 2))) ss_nil)))
theorem t6 (n : Nat) : RSs (callN pg (n + 0)) pg.M pg.ini b6 c6 := (ts_cons (t_par (r_rep (r_lst (rs_cons r_non rs_nil)) (r_len (r_var 0))) (r_int 0)) (ts_cons (t_for (rg_name 4) (ri_seq (r_var 1)) (ts_cons (t_augN p_add_eq (r_ix (r_ix (r_var 0) (r_var 4)) (r_int 1))) (ts_cons (t_setS (r_var 3) (r_var 2) (r_var 4)) ts_nil))) (ts_cons (t_ret (r_toTup (r_var 2))) ts_nil)))
def G6_ : CG := G2 [none, none, none] c6
theorem ok6 (n : Nat) (ws : List W) (h : EH) : callN pg (n + 1) 6 ws h = G6_ ws h := g_2 (P := pg) (i := 6) (n := n + 0) (k := 5) (b := b6) (σ := [none, none, none]) (u := c6) (show (6 : Nat) ≠ 1 by decide) (show (6 : Nat) ≠ 2 by decide) rfl rfl (t6 n) ws h
/-- _law_flat -/
def c8 : CS := (ss_cons (s_setN 1 (c_lst false cs_nil)) (ss_cons (s_for (g_name 2) (i_seq (c_var 0)) (ss_cons (s_setN 1 (c_2 (q_catL false) (c_var 1) (c_var 2))) ss_nil)) (ss_cons (s_ret (c_var 1)) ss_nil)))
theorem t8 (n : Nat) : RSs (callN pg (n + 0)) pg.M pg.ini b8 c8 := (ts_cons (t_setN (r_lst rs_nil)) (ts_cons (t_for (rg_name 2) (ri_seq (r_var 0)) (ts_cons (t_setN (r_catL (r_var 1) (r_var 2))) ts_nil)) (ts_cons (t_ret (r_var 1)) ts_nil)))
def G8_ : CG := G1 [none, none] c8
theorem ok8 (n : Nat) (ws : List W) (h : EH) : callN pg (n + 1) 8 ws h = G8_ ws h := g_1 (P := pg) (i := 8) (n := n + 0) (k := 3) (b := b8) (σ := [none, none]) (u := c8) (show (8 : Nat) ≠ 1 by decide) (show (8 : Nat) ≠ 2 by decide) rfl rfl (t8 n) ws h
/-- Deficits.put -/
def c9 : CS := (ss_cons (s_ite (c_or (c_2 p_lt (c_var 2) (c_val (.int 1))) (c_1 p_not (c_chain p_le p_lt (c_val (.int 0)) (c_var 1) (c_1 p_len (c_1 (p_fld 0) (c_var 0)))))) (ss_cons s_nev ss_nil) ss_nil) (ss_cons (s_app (c_2 p_ix (c_1 (p_fld 0) (c_var 0)) (c_var 1)) (c_var 2)) ss_nil))
theorem t9 (n : Nat) : RSs (callN pg (n + 0)) pg.M pg.ini b9 c9 := (ts_cons (t_ite (r_or (ro_cons (r_cmp p_lt_eq (r_var 2) (r_int 1)) (ro_one (r_not (r_chain p_le_eq p_lt_eq (r_int 0) (r_var 1) (r_len (r_fld (r_var 0)))))))) (ts_cons t_nev ts_nil) ts_nil) (ts_cons (t_app (r_ix (r_fld (r_var 0)) (r_var 1)) (r_var 2)) ts_nil))
def G9_ : CG := G3 [] c9
theorem ok9 (n : Nat) (ws : List W) (h : EH) : callN pg (n + 1) 9 ws h = G9_ ws h := g_3 (P := pg) (i := 9) (n := n + 0) (k := 3) (b := b9) (σ := []) (u := c9) (show (9 : Nat) ≠ 1 by decide) (show (9 : Nat) ≠ 2 by decide) rfl rfl (t9 n) ws h
/-- Deficits.__init__ -/
def c10 : CS := (ss_cons (s_ite (c_gen .any (c_2 p_lt (c_var 2) (c_val (.int 1))) (.name 2) (i_seq (c_var 1)) k_none [2] 1) (ss_cons s_nev ss_nil) ss_nil) (ss_cons (s_setF 2 (c_1 p_toTup (c_var 1)) (c_var 0)) (ss_cons (s_setF 0 (c_comp (c_lst true cs_nil) (g_name 2) (i_seq (c_var 1)) k_none [2]) (c_var 0)) (ss_cons (s_setF 3 (c_2 (q_rep true) (c_lst false (cs_cons (c_val (.int 0)) cs_nil)) (c_1 p_len (c_1 (p_fld 2) (c_var 0)))) (c_var 0)) (ss_cons (s_setF 1 (c_2 (q_rep true) (c_lst false (cs_cons (c_val (.int 0)) cs_nil)) (c_1 p_len (c_1 (p_fld 2) (c_var 0)))) (c_var 0)) ss_nil)))))
theorem t10 (n : Nat) : RSs (callN pg (n + 0)) pg.M pg.ini b10 c10 := (ts_cons (t_ite (r_gen (ri_seq (r_var 1)) rc_none (r_cmp p_lt_eq (r_var 2) (r_int 1))) (ts_cons t_nev ts_nil) ts_nil) (ts_cons (t_setF (r_toTup (r_var 1)) (r_var 0)) (ts_cons (t_setF (r_comp (rg_name 2) (ri_seq (r_var 1)) rc_none (r_lst rs_nil)) (r_var 0)) (ts_cons (t_setF (r_rep (r_lst (rs_cons (r_int 0) rs_nil)) (r_len (r_fld (r_var 0)))) (r_var 0)) (ts_cons (t_setF (r_rep (r_lst (rs_cons (r_int 0) rs_nil)) (r_len (r_fld (r_var 0)))) (r_var 0)) ts_nil)))))
def G10_ : CG := G2 [none] c10
theorem ok10 (n : Nat) (ws : List W) (h : EH) : callN pg (n + 1) 10 ws h = G10_ ws h := g_2 (P := pg) (i := 10) (n := n + 0) (k := 3) (b := b10) (σ := [none]) (u := c10) (show (10 : Nat) ≠ 1 by decide) (show (10 : Nat) ≠ 2 by decide) rfl rfl (t10 n) ws h
/-- tag -/
def c11 : CS := (ss_cons (s_setN 3 (c_2 p_ix (c_2 p_ix (c_var 0) (c_var 2)) (c_val (.int 0)))) (ss_cons (s_ret (c_tup (cs_cons (c_gen .sum (c_var 5) (.tup [4, 5]) (i_seq (c_sl (q_slL false) (c_var 0) o_none (o_some (c_2 p_add (c_var 2) (c_val (.int 1)))))) (k_some (c_2 (p_eqI false) (c_var 4) (c_var 3))) [4, 5] 2) (cs_cons (c_2 p_ix (c_var 1) (c_var 3)) cs_nil)))) ss_nil))
theorem t11 (n : Nat) : RSs (callN pg (n + 0)) pg.M pg.ini b11 c11 := (ts_cons (t_setN (r_ix (r_ix (r_var 0) (r_var 2)) (r_int 0))) (ts_cons (t_ret (r_tup (rs_cons (r_gen (ri_seq (r_slL (r_var 0) ro_none (ro_some (r_bin p_add_eq (r_var 2) (r_int 1))))) (rc_some (r_eqI (r_var 4) (r_var 3))) (r_var 5)) (rs_cons (r_ix (r_var 1) (r_var 3)) rs_nil)))) ts_nil))
def G11_ : CG := G3 [none, none, none] c11
theorem ok11 (n : Nat) (ws : List W) (h : EH) : callN pg (n + 1) 11 ws h = G11_ ws h := g_3 (P := pg) (i := 11) (n := n + 0) (k := 6) (b := b11) (σ := [none, none, none]) (u := c11) (show (11 : Nat) ≠ 1 by decide) (show (11 : Nat) ≠ 2 by decide) rfl rfl (t11 n) ws h
/-- is_ahead -/
def c12 : CS := (ss_cons (s_ret (c_2 p_lt (c_2 p_mul (c_2 p_ix (c_var 0) (c_val (.int 0))) (c_2 p_ix (c_var 1) (c_val (.int 1)))) (c_2 p_mul (c_2 p_ix (c_var 1) (c_val (.int 0))) (c_2 p_ix (c_var 0) (c_val (.int 1)))))) ss_nil)
theorem t12 (n : Nat) : RSs (callN pg (n + 0)) pg.M pg.ini b12 c12 := (ts_cons (t_ret (r_cmp p_lt_eq (r_bin p_mul_eq (r_ix (r_var 0) (r_int 0)) (r_ix (r_var 1) (r_int 1))) (r_bin p_mul_eq (r_ix (r_var 1) (r_int 0)) (r_ix (r_var 0) (r_int 1))))) ts_nil)
def G12_ : CG := G2 [] c12
theorem ok12 (n : Nat) (ws : List W) (h : EH) : callN pg (n + 1) 12 ws h = G12_ ws h := g_2 (P := pg) (i := 12) (n := n + 0) (k := 2) (b := b12) (σ := []) (u := c12) (show (12 : Nat) ≠ 1 by decide) (show (12 : Nat) ≠ 2 by decide) rfl rfl (t12 n) ws h
/-- check_packets -/
def c13 : CS := (ss_cons (s_setN 3 (c_compN (c_1 p_toTup (c_var 2)) (g_name 2) (i_seqR (c_var 0)) k_none [2])) (ss_cons (s_ite (c_gen .any (c_2 p_lt (c_var 4) (c_val (.int 1))) (.name 4) (i_seq (c_var 1)) k_none [4] 3) (ss_cons s_nev ss_nil) ss_nil) (ss_cons (s_ite (c_gen .any (c_or (c_1 p_not (c_chain p_le p_lt (c_val (.int 0)) (c_var 5) (c_1 p_len (c_var 1)))) (c_2 p_lt (c_var 6) (c_val (.int 1)))) (.tup [5, 6]) (i_seqR (c_var 3)) k_none [5, 6] 3) (ss_cons s_nev ss_nil) ss_nil) (ss_cons (s_ret (c_var 3)) ss_nil))))
theorem t13 (n : Nat) : RSs (callN pg (n + 0)) pg.M pg.ini b13 c13 := (ts_cons (t_setN (r_compN (rg_name 2) (ri_seqR (r_var 0)) rc_none (r_toTup (r_var 2)))) (ts_cons (t_ite (r_gen (ri_seq (r_var 1)) rc_none (r_cmp p_lt_eq (r_var 4) (r_int 1))) (ts_cons t_nev ts_nil) ts_nil) (ts_cons (t_ite (r_gen (ri_seqR (r_var 3)) rc_none (r_or (ro_cons (r_not (r_chain p_le_eq p_lt_eq (r_int 0) (r_var 5) (r_len (r_var 1)))) (ro_one (r_cmp p_lt_eq (r_var 6) (r_int 1)))))) (ts_cons t_nev ts_nil) ts_nil) (ts_cons (t_ret (r_var 3)) ts_nil))))
def G13_ : CG := G2 [none, none, none, none, none] c13
theorem ok13 (n : Nat) (ws : List W) (h : EH) : callN pg (n + 1) 13 ws h = G13_ ws h := g_2 (P := pg) (i := 13) (n := n + 0) (k := 7) (b := b13) (σ := [none, none, none, none, none]) (u := c13) (show (13 : Nat) ≠ 1 by decide) (show (13 : Nat) ≠ 2 by decide) rfl rfl (t13 n) ws h
/-- Deficits.visit -/
def c14 : CS := (ss_cons (s_setN 2 (c_lst true cs_nil)) (ss_cons (s_ite (c_2 (p_eqD false) (c_2 p_ix (c_1 (p_fld 0) (c_var 0)) (c_var 1)) (c_lst false cs_nil)) (ss_cons (s_set3 p_setI (c_val (.int 0)) (c_1 (p_fld 3) (c_var 0)) (c_var 1)) (ss_cons (s_ret (c_tup cs_nil)) ss_nil)) ss_nil) (ss_cons (s_aug3 p_getI p_setI p_add (c_1 (p_fld 3) (c_var 0)) (c_var 1) (c_2 p_ix (c_1 (p_fld 2) (c_var 0)) (c_var 1))) (ss_cons (s_whl (c_and (c_2 (p_eqD true) (c_2 p_ix (c_1 (p_fld 0) (c_var 0)) (c_var 1)) (c_lst false cs_nil)) (c_2 p_le (c_2 p_ix (c_2 p_ix (c_1 (p_fld 0) (c_var 0)) (c_var 1)) (c_val (.int 0))) (c_2 p_ix (c_1 (p_fld 3) (c_var 0)) (c_var 1)))) (ss_cons (s_setN 3 (c_pop false (c_2 p_ix (c_1 (p_fld 0) (c_var 0)) (c_var 1)) (c_val (.int 0)))) (ss_cons (s_aug3 p_getI p_setI p_sub (c_1 (p_fld 3) (c_var 0)) (c_var 1) (c_var 3)) (ss_cons (s_app (c_var 2) (c_var 3)) ss_nil)))) (ss_cons (s_aug3 p_getI p_setI p_add (c_1 (p_fld 1) (c_var 0)) (c_var 1) (c_1 (p1W .sumL false) (c_var 2))) (ss_cons (s_ite (c_2 (p_eqD false) (c_2 p_ix (c_1 (p_fld 0) (c_var 0)) (c_var 1)) (c_lst false cs_nil)) (ss_cons (s_set3 p_setI (c_val (.int 0)) (c_1 (p_fld 3) (c_var 0)) (c_var 1)) ss_nil) ss_nil) (ss_cons (s_ret (c_1 p_toTup (c_var 2))) ss_nil)))))))
theorem t14 (n : Nat) : RSs (callN pg (n + 0)) pg.M pg.ini b14 c14 := (ts_cons (t_setN (r_lst rs_nil)) (ts_cons (t_ite (r_eqD (r_ix (r_fld (r_var 0)) (r_var 1)) (r_lst rs_nil)) (ts_cons (t_setS (r_int 0) (r_fld (r_var 0)) (r_var 1)) (ts_cons (t_ret (r_tup rs_nil)) ts_nil)) ts_nil) (ts_cons (t_augS' p_add_eq (r_fld (r_var 0)) (r_var 1) (r_ix (r_fld (r_var 0)) (r_var 1))) (ts_cons (t_whl (r_and (ra_cons (r_eqD (r_ix (r_fld (r_var 0)) (r_var 1)) (r_lst rs_nil)) (ra_one (r_cmp p_le_eq (r_ix (r_ix (r_fld (r_var 0)) (r_var 1)) (r_int 0)) (r_ix (r_fld (r_var 0)) (r_var 1)))))) (ts_cons (t_setN (r_pop (r_ix (r_fld (r_var 0)) (r_var 1)) (r_int 0))) (ts_cons (t_augS' p_sub_eq (r_fld (r_var 0)) (r_var 1) (r_var 3)) (ts_cons (t_app (r_var 2) (r_var 3)) ts_nil)))) (ts_cons (t_augS' p_add_eq (r_fld (r_var 0)) (r_var 1) (r_p1 (r_var 2))) (ts_cons (t_ite (r_eqD (r_ix (r_fld (r_var 0)) (r_var 1)) (r_lst rs_nil)) (ts_cons (t_setS (r_int 0) (r_fld (r_var 0)) (r_var 1)) ts_nil) ts_nil) (ts_cons (t_ret (r_toTup (r_var 2))) ts_nil)))))))
def G14_ : CG := G2 [none, none] c14
theorem ok14 (n : Nat) (ws : List W) (h : EH) : callN pg (n + 1) 14 ws h = G14_ ws h := g_2 (P := pg) (i := 14) (n := n + 0) (k := 4) (b := b14) (σ := [none, none]) (u := c14) (show (14 : Nat) ≠ 1 by decide) (show (14 : Nat) ≠ 2 by decide) rfl rfl (t14 n) ws h
/-- fluid_time -/
def c4 : CS := (ss_cons (s_setT [3, 4] (c_call G11_ (cs_cons (c_var 0) (cs_cons (c_var 1) (cs_cons (c_var 2) cs_nil))))) (ss_cons (s_setN 5 (c_val (.int 0))) (ss_cons (s_for (g_tup [6, 7]) (i_enum (c_var 1)) (ss_cons (s_setN 10 (c_gen .sum (c_var 9) (.tup [8, 9]) (i_seqR (c_var 0)) (k_some (c_2 (p_eqI false) (c_var 8) (c_var 6))) [8, 9] 0)) (ss_cons (s_augN 5 p_add (c_2 p_min2 (c_2 p_mul (c_var 10) (c_var 4)) (c_2 p_mul (c_var 3) (c_var 7)))) ss_nil))) (ss_cons (s_ret (c_tup (cs_cons (c_var 5) (cs_cons (c_var 4) cs_nil)))) ss_nil))))
theorem t4 (n : Nat) : RSs (callN pg (n + 1)) pg.M pg.ini b4 c4 := (ts_cons (t_setT (r_call (ok11 (n + 0)) (rs_cons (r_var 0) (rs_cons (r_var 1) (rs_cons (r_var 2) rs_nil))))) (ts_cons (t_setN (r_int 0)) (ts_cons (t_for (rg_tup [6, 7]) (ri_enum (r_var 1)) (ts_cons (t_setN (r_gen (ri_seqR (r_var 0)) (rc_some (r_eqI (r_var 8) (r_var 6))) (r_var 9))) (ts_cons (t_augN p_add_eq (r_min2 (r_bin p_mul_eq (r_var 10) (r_var 4)) (r_bin p_mul_eq (r_var 3) (r_var 7)))) ts_nil))) (ts_cons (t_ret (r_tup (rs_cons (r_var 5) (rs_cons (r_var 4) rs_nil)))) ts_nil))))
def G4_ : CG := G3 [none, none, none, none, none, none, none, none] c4
theorem ok4 (n : Nat) (ws : List W) (h : EH) : callN pg (n + 2) 4 ws h = G4_ ws h := g_3 (P := pg) (i := 4) (n := n + 1) (k := 11) (b := b4) (σ := [none, none, none, none, none, none, none, none]) (u := c4) (show (4 : Nat) ≠ 1 by decide) (show (4 : Nat) ≠ 2 by decide) rfl rfl (t4 n) ws h
/-- fair_order -/
def c5 : CS := (ss_cons (s_setN 2 (c_call G13_ (cs_cons (c_var 0) (cs_cons (c_var 1) cs_nil)))) (ss_cons (s_par 3 4 (c_1 (p1W .lstRng true) (c_1 p_len (c_var 2))) (c_lst true cs_nil)) (ss_cons (s_whl (c_2 (p_eqD true) (c_var 3) (c_lst false cs_nil)) (ss_cons (s_setN 5 (c_2 p_ix (c_var 3) (c_val (.int 0)))) (ss_cons (s_for (g_name 6) (i_seq (c_sl (q_slL false) (c_var 3) (o_some (c_val (.int 1))) o_none)) (ss_cons (s_ite (c_call G12_ (cs_cons (c_call G11_ (cs_cons (c_var 2) (cs_cons (c_var 1) (cs_cons (c_var 6) cs_nil)))) (cs_cons (c_call G11_ (cs_cons (c_var 2) (cs_cons (c_var 1) (cs_cons (c_var 5) cs_nil)))) cs_nil))) (ss_cons (s_setN 5 (c_var 6)) ss_nil) ss_nil) ss_nil)) (ss_cons (s_app (c_var 4) (c_var 5)) (ss_cons (s_expr (c_p2 (.remI) (p2W (.remI) false) (c_var 3) (c_var 5))) ss_nil))))) (ss_cons (s_ret (c_1 p_toTup (c_var 4))) ss_nil))))
theorem t5 (n : Nat) : RSs (callN pg (n + 1)) pg.M pg.ini b5 c5 := (ts_cons (t_setN (r_call (ok13 (n + 0)) (rs_cons (r_var 0) (rs_cons (r_var 1) rs_nil)))) (ts_cons (t_par (r_p1 (r_len (r_var 2))) (r_lst rs_nil)) (ts_cons (t_whl (r_eqD (r_var 3) (r_lst rs_nil)) (ts_cons (t_setN (r_ix (r_var 3) (r_int 0))) (ts_cons (t_for (rg_name 6) (ri_seq (r_slL (r_var 3) (ro_some (r_int 1)) ro_none)) (ts_cons (t_ite (r_call (ok12 (n + 0)) (rs_cons (r_call (ok11 (n + 0)) (rs_cons (r_var 2) (rs_cons (r_var 1) (rs_cons (r_var 6) rs_nil)))) (rs_cons (r_call (ok11 (n + 0)) (rs_cons (r_var 2) (rs_cons (r_var 1) (rs_cons (r_var 5) rs_nil)))) rs_nil))) (ts_cons (t_setN (r_var 6)) ts_nil) ts_nil) ts_nil)) (ts_cons (t_app (r_var 4) (r_var 5)) (ts_cons (t_expr (r_p2 (r_var 3) (r_var 5))) ts_nil))))) (ts_cons (t_ret (r_toTup (r_var 4))) ts_nil))))
def G5_ : CG := G2 [none, none, none, none, none] c5
theorem ok5 (n : Nat) (ws : List W) (h : EH) : callN pg (n + 2) 5 ws h = G5_ ws h := g_2 (P := pg) (i := 5) (n := n + 1) (k := 7) (b := b5) (σ := [none, none, none, none, none]) (u := c5) (show (5 : Nat) ≠ 1 by decide) (show (5 : Nat) ≠ 2 by decide) rfl rfl (t5 n) ws h
/-- Deficits.round -/
def c7 : CS := (ss_cons (s_ret (c_1 p_toTup (c_comp2 (c_tup (cs_cons (c_var 1) (cs_cons (c_var 2) cs_nil))) (.name 1) (i_rng (c_1 p_len (c_1 (p_fld 0) (c_var 0)))) k_none (.name 2) (j_seq (c_meth (fun c => match c with | 0 => some G14_ | _ => none) (c_var 0) (cs_cons (c_var 1) cs_nil))) k_none [1, 2] [2]))) ss_nil)
theorem t7 (n : Nat) : RSs (callN pg (n + 1)) pg.M pg.ini b7 c7 := (ts_cons (t_ret (r_toTup (r_comp2 (ri_rng (r_len (r_fld (r_var 0)))) rc_none (rj_seq (r_meth (fun c => match c with | 0 => (show ∃ G, some G14_ = some G ∧ ∀ ws h, callN pg (n + 1) 14 ws h = G ws h from ⟨G14_, rfl, (ok14 (n + 0))⟩) | c + 1 => rfl) (r_var 0) (rs_cons (r_var 1) rs_nil))) rc_none (r_tup (rs_cons (r_var 1) (rs_cons (r_var 2) rs_nil)))))) ts_nil)
def G7_ : CG := G1 [none, none] c7
theorem ok7 (n : Nat) (ws : List W) (h : EH) : callN pg (n + 2) 7 ws h = G7_ ws h := g_1 (P := pg) (i := 7) (n := n + 1) (k := 3) (b := b7) (σ := [none, none]) (u := c7) (show (7 : Nat) ≠ 1 by decide) (show (7 : Nat) ≠ 2 by decide) rfl rfl (t7 n) ws h
/-- law -/
def c3 : CS := (ss_cons (s_for (g_name 1) (i_seq (c_call rndsT (cs_cons (c_var 0) (cs_cons (c_val (.int 1)) cs_nil)))) (ss_cons (s_setT [2, 3] (c_tup (cs_cons (c_2 p_add (c_val (.int 1)) (c_call rollT (cs_cons (c_var 1) (cs_cons (c_val (.int 3)) cs_nil)))) (cs_cons (c_2 p_add (c_val (.int 1)) (c_call rollT (cs_cons (c_var 1) (cs_cons (c_val (.int 3)) cs_nil)))) cs_nil)))) (ss_cons (s_setN 5 (c_comp (c_call rollT (cs_cons (c_var 1) (cs_cons (c_val (.int 4)) cs_nil))) (g_name 4) (i_rng (c_var 2)) k_none [4])) (ss_cons (s_setT [6, 7] (c_tup (cs_cons (c_make 0 G10_ (cs_cons (c_2 (q_rep false) (c_lst false (cs_cons (c_var 3) cs_nil)) (c_var 2)) cs_nil)) (cs_cons (c_lst true cs_nil) cs_nil)))) (ss_cons (s_for (g_name 4) (i_rng (c_var 2)) (ss_cons (s_for (g_name 8) (i_rng (c_2 p_ix (c_var 5) (c_var 4))) (ss_cons (s_expr (c_meth (fun c => match c with | 0 => some G9_ | _ => none) (c_var 6) (cs_cons (c_var 4) (cs_cons (c_var 3) cs_nil)))) (ss_cons (s_app (c_var 7) (c_tup (cs_cons (c_var 4) (cs_cons (c_var 3) cs_nil)))) ss_nil))) ss_nil)) (ss_cons (s_setN 9 (c_call G8_ (cs_cons (c_comp (c_comp (c_tup (cs_cons (c_var 4) (cs_cons (c_var 3) cs_nil))) (g_name 4) (i_rng (c_var 2)) (k_some (c_2 p_lt (c_var 8) (c_2 p_ix (c_var 5) (c_var 4)))) [4]) (g_name 8) (i_rng (c_val (.int 4))) k_none [8]) cs_nil))) (ss_cons (s_setN 10 (c_lst false cs_nil)) (ss_cons (s_for (g_name 8) (i_rng (c_val (.int 5))) (ss_cons (s_setN 10 (c_2 (q_catL false) (c_var 10) (c_1 (q_toLst false) (c_meth (fun c => match c with | 0 => some G7_ | _ => none) (c_var 6) cs_nil)))) ss_nil)) (ss_cons (s_setN 11 (c_call G5_ (cs_cons (c_var 7) (cs_cons (c_2 (q_rep false) (c_lst false (cs_cons (c_val (.int 1)) cs_nil)) (c_var 2)) cs_nil)))) (ss_cons (s_ite (c_or (c_2 (p_eqD true) (c_var 10) (c_var 9)) (c_2 (p_eqD true) (c_comp (c_2 p_ix (c_var 7) (c_var 12)) (g_name 12) (i_seq (c_var 11)) k_none [12]) (c_var 9))) (ss_cons (s_ret (c_val (.bl false))) ss_nil) ss_nil) (ss_cons (s_setN 13 (c_call G6_ (cs_cons (c_var 7) (cs_cons (c_var 11) cs_nil)))) (ss_cons (s_ite (c_2 (p_eqD true) (c_1 (p1W .sortIT false) (c_var 13)) (c_comp (c_2 p_mul (c_var 3) (c_2 p_add (c_var 4) (c_val (.int 1)))) (g_name 4) (i_rng (c_1 p_len (c_var 7))) k_none [4])) (ss_cons (s_ret (c_val (.bl false))) ss_nil) ss_nil) (ss_cons (s_setN 14 (c_2 (q_catL true) (c_2 (q_rep false) (c_lst false (cs_cons (c_tup (cs_cons (c_val (.int 0)) (cs_cons (c_var 3) cs_nil))) cs_nil)) (c_val (.int 8))) (c_2 (q_rep false) (c_lst false (cs_cons (c_tup (cs_cons (c_val (.int 1)) (cs_cons (c_var 3) cs_nil))) cs_nil)) (c_val (.int 8))))) (ss_cons (s_setN 15 (c_call G5_ (cs_cons (c_var 14) (cs_cons (c_lst false (cs_cons (c_val (.int 2)) (cs_cons (c_val (.int 1)) cs_nil))) cs_nil)))) (ss_cons (s_for (g_name 16) (i_rng (c_val (.int 13))) (ss_cons (s_setN 17 (c_1 p_len (c_comp (c_val (.int 1)) (g_name 12) (i_seq (c_sl q_slT (c_var 15) o_none (o_some (c_var 16)))) (k_some (c_2 (p_eqI false) (c_2 p_ix (c_2 p_ix (c_var 14) (c_var 12)) (c_val (.int 0))) (c_val (.int 0)))) [12]))) (ss_cons (s_ite (c_and (c_2 p_lt (c_var 17) (c_val (.int 8))) (c_2 p_gt (c_1 q_abs (c_2 p_sub (c_var 17) (c_2 p_mul (c_val (.int 2)) (c_2 p_sub (c_var 16) (c_var 17))))) (c_val (.int 2)))) (ss_cons (s_ret (c_val (.bl false))) ss_nil) ss_nil) ss_nil))) (ss_cons (s_ite (c_2 (p_eqD true) (c_call G4_ (cs_cons (c_var 14) (cs_cons (c_lst false (cs_cons (c_val (.int 2)) (cs_cons (c_val (.int 1)) cs_nil))) (cs_cons (c_val (.int 7)) cs_nil)))) (c_tup (cs_cons (c_2 p_mul (c_2 p_mul (c_val (.int 12)) (c_var 3)) (c_val (.int 2))) (cs_cons (c_val (.int 2)) cs_nil)))) (ss_cons (s_ret (c_val (.bl false))) ss_nil) ss_nil) ss_nil)))))))))))))))) (ss_cons (s_ret (c_val (.bl true))) ss_nil))
theorem t3 (n : Nat) : RSs (callN pg (n + 2)) pg.M pg.ini b3 c3 := (ts_cons (t_for (rg_name 1) (ri_seq (r_call (ok2 (n + 0)) (rs_cons (r_var 0) (rs_cons (r_int 1) rs_nil)))) (ts_cons (t_setT (r_tup (rs_cons (r_bin p_add_eq (r_int 1) (r_call (ok1 (n + 1)) (rs_cons (r_var 1) (rs_cons (r_int 3) rs_nil)))) (rs_cons (r_bin p_add_eq (r_int 1) (r_call (ok1 (n + 1)) (rs_cons (r_var 1) (rs_cons (r_int 3) rs_nil)))) rs_nil)))) (ts_cons (t_setN (r_comp (rg_name 4) (ri_rng (r_var 2)) rc_none (r_call (ok1 (n + 1)) (rs_cons (r_var 1) (rs_cons (r_int 4) rs_nil))))) (ts_cons (t_setT (r_tup (rs_cons (r_make (ok10 (n + 1)) (rs_cons (r_rep (r_lst (rs_cons (r_var 3) rs_nil)) (r_var 2)) rs_nil)) (rs_cons (r_lst rs_nil) rs_nil)))) (ts_cons (t_for (rg_name 4) (ri_rng (r_var 2)) (ts_cons (t_for (rg_name 8) (ri_rng (r_ix (r_var 5) (r_var 4))) (ts_cons (t_expr (r_meth (fun c => match c with | 0 => (show ∃ G, some G9_ = some G ∧ ∀ ws h, callN pg (n + 2) 9 ws h = G ws h from ⟨G9_, rfl, (ok9 (n + 1))⟩) | c + 1 => rfl) (r_var 6) (rs_cons (r_var 4) (rs_cons (r_var 3) rs_nil)))) (ts_cons (t_app (r_var 7) (r_tup (rs_cons (r_var 4) (rs_cons (r_var 3) rs_nil)))) ts_nil))) ts_nil)) (ts_cons (t_setN (r_call (ok8 (n + 1)) (rs_cons (r_comp (rg_name 8) (ri_rng (r_int 4)) rc_none (r_comp (rg_name 4) (ri_rng (r_var 2)) (rc_some (r_cmp p_lt_eq (r_var 8) (r_ix (r_var 5) (r_var 4)))) (r_tup (rs_cons (r_var 4) (rs_cons (r_var 3) rs_nil))))) rs_nil))) (ts_cons (t_setN (r_lst rs_nil)) (ts_cons (t_for (rg_name 8) (ri_rng (r_int 5)) (ts_cons (t_setN (r_catL (r_var 10) (r_toLst (r_meth (fun c => match c with | 0 => (show ∃ G, some G7_ = some G ∧ ∀ ws h, callN pg (n + 2) 7 ws h = G ws h from ⟨G7_, rfl, (ok7 (n + 0))⟩) | c + 1 => rfl) (r_var 6) rs_nil)))) ts_nil)) (ts_cons (t_setN (r_call (ok5 (n + 0)) (rs_cons (r_var 7) (rs_cons (r_rep (r_lst (rs_cons (r_int 1) rs_nil)) (r_var 2)) rs_nil)))) (ts_cons (t_ite (r_or (ro_cons (r_eqD (r_var 10) (r_var 9)) (ro_one (r_eqD (r_comp (rg_name 12) (ri_seq (r_var 11)) rc_none (r_ix (r_var 7) (r_var 12))) (r_var 9))))) (ts_cons (t_ret (r_bl false)) ts_nil) ts_nil) (ts_cons (t_setN (r_call (ok6 (n + 1)) (rs_cons (r_var 7) (rs_cons (r_var 11) rs_nil)))) (ts_cons (t_ite (r_eqD (r_p1 (r_var 13)) (r_comp (rg_name 4) (ri_rng (r_len (r_var 7))) rc_none (r_bin p_mul_eq (r_var 3) (r_bin p_add_eq (r_var 4) (r_int 1))))) (ts_cons (t_ret (r_bl false)) ts_nil) ts_nil) (ts_cons (t_setN (r_catL (r_rep (r_lst (rs_cons (r_tup (rs_cons (r_int 0) (rs_cons (r_var 3) rs_nil))) rs_nil)) (r_int 8)) (r_rep (r_lst (rs_cons (r_tup (rs_cons (r_int 1) (rs_cons (r_var 3) rs_nil))) rs_nil)) (r_int 8)))) (ts_cons (t_setN (r_call (ok5 (n + 0)) (rs_cons (r_var 14) (rs_cons (r_lst (rs_cons (r_int 2) (rs_cons (r_int 1) rs_nil))) rs_nil)))) (ts_cons (t_for (rg_name 16) (ri_rng (r_int 13)) (ts_cons (t_setN (r_len (r_comp (rg_name 12) (ri_seq (r_slT (r_var 15) ro_none (ro_some (r_var 16)))) (rc_some (r_eqI (r_ix (r_ix (r_var 14) (r_var 12)) (r_int 0)) (r_int 0))) (r_int 1)))) (ts_cons (t_ite (r_and (ra_cons (r_cmp p_lt_eq (r_var 17) (r_int 8)) (ra_one (r_cmp p_gt_eq (r_abs (r_bin p_sub_eq (r_var 17) (r_bin p_mul_eq (r_int 2) (r_bin p_sub_eq (r_var 16) (r_var 17))))) (r_int 2))))) (ts_cons (t_ret (r_bl false)) ts_nil) ts_nil) ts_nil))) (ts_cons (t_ite (r_eqD (r_call (ok4 (n + 0)) (rs_cons (r_var 14) (rs_cons (r_lst (rs_cons (r_int 2) (rs_cons (r_int 1) rs_nil))) (rs_cons (r_int 7) rs_nil)))) (r_tup (rs_cons (r_bin p_mul_eq (r_bin p_mul_eq (r_int 12) (r_var 3)) (r_int 2)) (rs_cons (r_int 2) rs_nil)))) (ts_cons (t_ret (r_bl false)) ts_nil) ts_nil) ts_nil)))))))))))))))) (ts_cons (t_ret (r_bl true)) ts_nil))
def G3_ : CG := G1 [none, none, none, none, none, none, none, none, none, none, none, none, none, none, none, none, none] c3
theorem ok3 (n : Nat) (ws : List W) (h : EH) : callN pg (n + 3) 3 ws h = G3_ ws h := g_1 (P := pg) (i := 3) (n := n + 2) (k := 18) (b := b3) (σ := [none, none, none, none, none, none, none, none, none, none, none, none, none, none, none, none, none]) (u := c3) (show (3 : Nat) ≠ 1 by decide) (show (3 : Nat) ≠ 2 by decide) rfl rfl (t3 n) ws h
def fuel : Nat := 3
end K38
end
namespace K38
open PySem L2 Z
noncomputable def A (ns : List Int) : T W := G3_ [.scr ns] [.tbl, .tbl, .tbl, .tbl]
theorem q_00 (ns : List Int) : (((A ns).sub 0).sub 0).chk = true := by kernel_rfl
theorem q_01 (ns : List Int) : (((A ns).sub 0).sub 1).chk = true := by kernel_rfl
theorem q_02 (ns : List Int) : (((A ns).sub 0).sub 2).chk = true := by kernel_rfl
theorem w_0 (ns : List Int) : ((A ns).sub 0).wid = 3 := by kernel_rfl
theorem q_0 (ns : List Int) : ((A ns).sub 0).chk = true := T.chk_draw (w_0 ns) (by decide) fun i hi => match i, hi with | 0, _ => q_00 ns | 1, _ => q_01 ns | 2, _ => q_02 ns
theorem q_100 (ns : List Int) : ((((A ns).sub 1).sub 0).sub 0).chk = true := by kernel_rfl
theorem q_101 (ns : List Int) : ((((A ns).sub 1).sub 0).sub 1).chk = true := by kernel_rfl
theorem q_102 (ns : List Int) : ((((A ns).sub 1).sub 0).sub 2).chk = true := by kernel_rfl
theorem q_103 (ns : List Int) : ((((A ns).sub 1).sub 0).sub 3).chk = true := by kernel_rfl
theorem w_10 (ns : List Int) : (((A ns).sub 1).sub 0).wid = 4 := by kernel_rfl
theorem q_10 (ns : List Int) : (((A ns).sub 1).sub 0).chk = true := T.chk_draw (w_10 ns) (by decide) fun i hi => match i, hi with | 0, _ => q_100 ns | 1, _ => q_101 ns | 2, _ => q_102 ns | 3, _ => q_103 ns
theorem q_110 (ns : List Int) : ((((A ns).sub 1).sub 1).sub 0).chk = true := by kernel_rfl
theorem q_111 (ns : List Int) : ((((A ns).sub 1).sub 1).sub 1).chk = true := by kernel_rfl
theorem q_112 (ns : List Int) : ((((A ns).sub 1).sub 1).sub 2).chk = true := by kernel_rfl
theorem q_113 (ns : List Int) : ((((A ns).sub 1).sub 1).sub 3).chk = true := by kernel_rfl
theorem w_11 (ns : List Int) : (((A ns).sub 1).sub 1).wid = 4 := by kernel_rfl
theorem q_11 (ns : List Int) : (((A ns).sub 1).sub 1).chk = true := T.chk_draw (w_11 ns) (by decide) fun i hi => match i, hi with | 0, _ => q_110 ns | 1, _ => q_111 ns | 2, _ => q_112 ns | 3, _ => q_113 ns
theorem q_120 (ns : List Int) : ((((A ns).sub 1).sub 2).sub 0).chk = true := by kernel_rfl
theorem q_121 (ns : List Int) : ((((A ns).sub 1).sub 2).sub 1).chk = true := by kernel_rfl
theorem q_122 (ns : List Int) : ((((A ns).sub 1).sub 2).sub 2).chk = true := by kernel_rfl
theorem q_123 (ns : List Int) : ((((A ns).sub 1).sub 2).sub 3).chk = true := by kernel_rfl
theorem w_12 (ns : List Int) : (((A ns).sub 1).sub 2).wid = 4 := by kernel_rfl
theorem q_12 (ns : List Int) : (((A ns).sub 1).sub 2).chk = true := T.chk_draw (w_12 ns) (by decide) fun i hi => match i, hi with | 0, _ => q_120 ns | 1, _ => q_121 ns | 2, _ => q_122 ns | 3, _ => q_123 ns
theorem w_1 (ns : List Int) : ((A ns).sub 1).wid = 3 := by kernel_rfl
theorem q_1 (ns : List Int) : ((A ns).sub 1).chk = true := T.chk_draw (w_1 ns) (by decide) fun i hi => match i, hi with | 0, _ => q_10 ns | 1, _ => q_11 ns | 2, _ => q_12 ns
theorem q_2000 (ns : List Int) : (((((A ns).sub 2).sub 0).sub 0).sub 0).chk = true := by kernel_rfl
theorem q_2001 (ns : List Int) : (((((A ns).sub 2).sub 0).sub 0).sub 1).chk = true := by kernel_rfl
theorem q_2002 (ns : List Int) : (((((A ns).sub 2).sub 0).sub 0).sub 2).chk = true := by kernel_rfl
theorem q_2003 (ns : List Int) : (((((A ns).sub 2).sub 0).sub 0).sub 3).chk = true := by kernel_rfl
theorem w_200 (ns : List Int) : ((((A ns).sub 2).sub 0).sub 0).wid = 4 := by kernel_rfl
theorem q_200 (ns : List Int) : ((((A ns).sub 2).sub 0).sub 0).chk = true := T.chk_draw (w_200 ns) (by decide) fun i hi => match i, hi with | 0, _ => q_2000 ns | 1, _ => q_2001 ns | 2, _ => q_2002 ns | 3, _ => q_2003 ns
theorem q_2010 (ns : List Int) : (((((A ns).sub 2).sub 0).sub 1).sub 0).chk = true := by kernel_rfl
theorem q_2011 (ns : List Int) : (((((A ns).sub 2).sub 0).sub 1).sub 1).chk = true := by kernel_rfl
theorem q_2012 (ns : List Int) : (((((A ns).sub 2).sub 0).sub 1).sub 2).chk = true := by kernel_rfl
theorem q_2013 (ns : List Int) : (((((A ns).sub 2).sub 0).sub 1).sub 3).chk = true := by kernel_rfl
theorem w_201 (ns : List Int) : ((((A ns).sub 2).sub 0).sub 1).wid = 4 := by kernel_rfl
theorem q_201 (ns : List Int) : ((((A ns).sub 2).sub 0).sub 1).chk = true := T.chk_draw (w_201 ns) (by decide) fun i hi => match i, hi with | 0, _ => q_2010 ns | 1, _ => q_2011 ns | 2, _ => q_2012 ns | 3, _ => q_2013 ns
theorem q_2020 (ns : List Int) : (((((A ns).sub 2).sub 0).sub 2).sub 0).chk = true := by kernel_rfl
theorem q_2021 (ns : List Int) : (((((A ns).sub 2).sub 0).sub 2).sub 1).chk = true := by kernel_rfl
theorem q_2022 (ns : List Int) : (((((A ns).sub 2).sub 0).sub 2).sub 2).chk = true := by kernel_rfl
theorem q_2023 (ns : List Int) : (((((A ns).sub 2).sub 0).sub 2).sub 3).chk = true := by kernel_rfl
theorem w_202 (ns : List Int) : ((((A ns).sub 2).sub 0).sub 2).wid = 4 := by kernel_rfl
theorem q_202 (ns : List Int) : ((((A ns).sub 2).sub 0).sub 2).chk = true := T.chk_draw (w_202 ns) (by decide) fun i hi => match i, hi with | 0, _ => q_2020 ns | 1, _ => q_2021 ns | 2, _ => q_2022 ns | 3, _ => q_2023 ns
theorem q_2030 (ns : List Int) : (((((A ns).sub 2).sub 0).sub 3).sub 0).chk = true := by kernel_rfl
theorem q_2031 (ns : List Int) : (((((A ns).sub 2).sub 0).sub 3).sub 1).chk = true := by kernel_rfl
theorem q_2032 (ns : List Int) : (((((A ns).sub 2).sub 0).sub 3).sub 2).chk = true := by kernel_rfl
theorem q_2033 (ns : List Int) : (((((A ns).sub 2).sub 0).sub 3).sub 3).chk = true := by kernel_rfl
theorem w_203 (ns : List Int) : ((((A ns).sub 2).sub 0).sub 3).wid = 4 := by kernel_rfl
theorem q_203 (ns : List Int) : ((((A ns).sub 2).sub 0).sub 3).chk = true := T.chk_draw (w_203 ns) (by decide) fun i hi => match i, hi with | 0, _ => q_2030 ns | 1, _ => q_2031 ns | 2, _ => q_2032 ns | 3, _ => q_2033 ns
theorem w_20 (ns : List Int) : (((A ns).sub 2).sub 0).wid = 4 := by kernel_rfl
theorem q_20 (ns : List Int) : (((A ns).sub 2).sub 0).chk = true := T.chk_draw (w_20 ns) (by decide) fun i hi => match i, hi with | 0, _ => q_200 ns | 1, _ => q_201 ns | 2, _ => q_202 ns | 3, _ => q_203 ns
theorem q_2100 (ns : List Int) : (((((A ns).sub 2).sub 1).sub 0).sub 0).chk = true := by kernel_rfl
theorem q_2101 (ns : List Int) : (((((A ns).sub 2).sub 1).sub 0).sub 1).chk = true := by kernel_rfl
theorem q_2102 (ns : List Int) : (((((A ns).sub 2).sub 1).sub 0).sub 2).chk = true := by kernel_rfl
theorem q_2103 (ns : List Int) : (((((A ns).sub 2).sub 1).sub 0).sub 3).chk = true := by kernel_rfl
theorem w_210 (ns : List Int) : ((((A ns).sub 2).sub 1).sub 0).wid = 4 := by kernel_rfl
theorem q_210 (ns : List Int) : ((((A ns).sub 2).sub 1).sub 0).chk = true := T.chk_draw (w_210 ns) (by decide) fun i hi => match i, hi with | 0, _ => q_2100 ns | 1, _ => q_2101 ns | 2, _ => q_2102 ns | 3, _ => q_2103 ns
theorem q_2110 (ns : List Int) : (((((A ns).sub 2).sub 1).sub 1).sub 0).chk = true := by kernel_rfl
theorem q_2111 (ns : List Int) : (((((A ns).sub 2).sub 1).sub 1).sub 1).chk = true := by kernel_rfl
theorem q_2112 (ns : List Int) : (((((A ns).sub 2).sub 1).sub 1).sub 2).chk = true := by kernel_rfl
theorem q_2113 (ns : List Int) : (((((A ns).sub 2).sub 1).sub 1).sub 3).chk = true := by kernel_rfl
theorem w_211 (ns : List Int) : ((((A ns).sub 2).sub 1).sub 1).wid = 4 := by kernel_rfl
theorem q_211 (ns : List Int) : ((((A ns).sub 2).sub 1).sub 1).chk = true := T.chk_draw (w_211 ns) (by decide) fun i hi => match i, hi with | 0, _ => q_2110 ns | 1, _ => q_2111 ns | 2, _ => q_2112 ns | 3, _ => q_2113 ns
theorem q_2120 (ns : List Int) : (((((A ns).sub 2).sub 1).sub 2).sub 0).chk = true := by kernel_rfl
theorem q_2121 (ns : List Int) : (((((A ns).sub 2).sub 1).sub 2).sub 1).chk = true := by kernel_rfl
theorem q_2122 (ns : List Int) : (((((A ns).sub 2).sub 1).sub 2).sub 2).chk = true := by kernel_rfl
theorem q_2123 (ns : List Int) : (((((A ns).sub 2).sub 1).sub 2).sub 3).chk = true := by kernel_rfl
theorem w_212 (ns : List Int) : ((((A ns).sub 2).sub 1).sub 2).wid = 4 := by kernel_rfl
theorem q_212 (ns : List Int) : ((((A ns).sub 2).sub 1).sub 2).chk = true := T.chk_draw (w_212 ns) (by decide) fun i hi => match i, hi with | 0, _ => q_2120 ns | 1, _ => q_2121 ns | 2, _ => q_2122 ns | 3, _ => q_2123 ns
theorem q_2130 (ns : List Int) : (((((A ns).sub 2).sub 1).sub 3).sub 0).chk = true := by kernel_rfl
theorem q_2131 (ns : List Int) : (((((A ns).sub 2).sub 1).sub 3).sub 1).chk = true := by kernel_rfl
theorem q_2132 (ns : List Int) : (((((A ns).sub 2).sub 1).sub 3).sub 2).chk = true := by kernel_rfl
theorem q_2133 (ns : List Int) : (((((A ns).sub 2).sub 1).sub 3).sub 3).chk = true := by kernel_rfl
theorem w_213 (ns : List Int) : ((((A ns).sub 2).sub 1).sub 3).wid = 4 := by kernel_rfl
theorem q_213 (ns : List Int) : ((((A ns).sub 2).sub 1).sub 3).chk = true := T.chk_draw (w_213 ns) (by decide) fun i hi => match i, hi with | 0, _ => q_2130 ns | 1, _ => q_2131 ns | 2, _ => q_2132 ns | 3, _ => q_2133 ns
theorem w_21 (ns : List Int) : (((A ns).sub 2).sub 1).wid = 4 := by kernel_rfl
theorem q_21 (ns : List Int) : (((A ns).sub 2).sub 1).chk = true := T.chk_draw (w_21 ns) (by decide) fun i hi => match i, hi with | 0, _ => q_210 ns | 1, _ => q_211 ns | 2, _ => q_212 ns | 3, _ => q_213 ns
theorem q_2200 (ns : List Int) : (((((A ns).sub 2).sub 2).sub 0).sub 0).chk = true := by kernel_rfl
theorem q_2201 (ns : List Int) : (((((A ns).sub 2).sub 2).sub 0).sub 1).chk = true := by kernel_rfl
theorem q_2202 (ns : List Int) : (((((A ns).sub 2).sub 2).sub 0).sub 2).chk = true := by kernel_rfl
theorem q_2203 (ns : List Int) : (((((A ns).sub 2).sub 2).sub 0).sub 3).chk = true := by kernel_rfl
theorem w_220 (ns : List Int) : ((((A ns).sub 2).sub 2).sub 0).wid = 4 := by kernel_rfl
theorem q_220 (ns : List Int) : ((((A ns).sub 2).sub 2).sub 0).chk = true := T.chk_draw (w_220 ns) (by decide) fun i hi => match i, hi with | 0, _ => q_2200 ns | 1, _ => q_2201 ns | 2, _ => q_2202 ns | 3, _ => q_2203 ns
theorem q_2210 (ns : List Int) : (((((A ns).sub 2).sub 2).sub 1).sub 0).chk = true := by kernel_rfl
theorem q_2211 (ns : List Int) : (((((A ns).sub 2).sub 2).sub 1).sub 1).chk = true := by kernel_rfl
theorem q_2212 (ns : List Int) : (((((A ns).sub 2).sub 2).sub 1).sub 2).chk = true := by kernel_rfl
theorem q_2213 (ns : List Int) : (((((A ns).sub 2).sub 2).sub 1).sub 3).chk = true := by kernel_rfl
theorem w_221 (ns : List Int) : ((((A ns).sub 2).sub 2).sub 1).wid = 4 := by kernel_rfl
theorem q_221 (ns : List Int) : ((((A ns).sub 2).sub 2).sub 1).chk = true := T.chk_draw (w_221 ns) (by decide) fun i hi => match i, hi with | 0, _ => q_2210 ns | 1, _ => q_2211 ns | 2, _ => q_2212 ns | 3, _ => q_2213 ns
theorem q_2220 (ns : List Int) : (((((A ns).sub 2).sub 2).sub 2).sub 0).chk = true := by kernel_rfl
theorem q_2221 (ns : List Int) : (((((A ns).sub 2).sub 2).sub 2).sub 1).chk = true := by kernel_rfl
theorem q_2222 (ns : List Int) : (((((A ns).sub 2).sub 2).sub 2).sub 2).chk = true := by kernel_rfl
theorem q_2223 (ns : List Int) : (((((A ns).sub 2).sub 2).sub 2).sub 3).chk = true := by kernel_rfl
theorem w_222 (ns : List Int) : ((((A ns).sub 2).sub 2).sub 2).wid = 4 := by kernel_rfl
theorem q_222 (ns : List Int) : ((((A ns).sub 2).sub 2).sub 2).chk = true := T.chk_draw (w_222 ns) (by decide) fun i hi => match i, hi with | 0, _ => q_2220 ns | 1, _ => q_2221 ns | 2, _ => q_2222 ns | 3, _ => q_2223 ns
theorem q_2230 (ns : List Int) : (((((A ns).sub 2).sub 2).sub 3).sub 0).chk = true := by kernel_rfl
theorem q_2231 (ns : List Int) : (((((A ns).sub 2).sub 2).sub 3).sub 1).chk = true := by kernel_rfl
theorem q_2232 (ns : List Int) : (((((A ns).sub 2).sub 2).sub 3).sub 2).chk = true := by kernel_rfl
theorem q_2233 (ns : List Int) : (((((A ns).sub 2).sub 2).sub 3).sub 3).chk = true := by kernel_rfl
theorem w_223 (ns : List Int) : ((((A ns).sub 2).sub 2).sub 3).wid = 4 := by kernel_rfl
theorem q_223 (ns : List Int) : ((((A ns).sub 2).sub 2).sub 3).chk = true := T.chk_draw (w_223 ns) (by decide) fun i hi => match i, hi with | 0, _ => q_2230 ns | 1, _ => q_2231 ns | 2, _ => q_2232 ns | 3, _ => q_2233 ns
theorem w_22 (ns : List Int) : (((A ns).sub 2).sub 2).wid = 4 := by kernel_rfl
theorem q_22 (ns : List Int) : (((A ns).sub 2).sub 2).chk = true := T.chk_draw (w_22 ns) (by decide) fun i hi => match i, hi with | 0, _ => q_220 ns | 1, _ => q_221 ns | 2, _ => q_222 ns | 3, _ => q_223 ns
theorem w_2 (ns : List Int) : ((A ns).sub 2).wid = 3 := by kernel_rfl
theorem q_2 (ns : List Int) : ((A ns).sub 2).chk = true := T.chk_draw (w_2 ns) (by decide) fun i hi => match i, hi with | 0, _ => q_20 ns | 1, _ => q_21 ns | 2, _ => q_22 ns
theorem w_ (ns : List Int) : (A ns).wid = 3 := by kernel_rfl
theorem q_ (ns : List Int) : (A ns).chk = true := T.chk_draw (w_ ns) (by decide) fun i hi => match i, hi with | 0, _ => q_0 ns | 1, _ => q_1 ns | 2, _ => q_2 ns
theorem plain (ns : List Int) : (callN pg fuel 3 [.scr ns] (List.replicate 4 .tbl)).All (fun w _ => w = .bl true) (fun _ _ => False) := by
  have e : callN pg fuel 3 [.scr ns] (List.replicate 4 .tbl) = A ns := ok3 0 _ _
  rw [e]
  exact T.chk_all (q_ ns)
end K38
open PySem PySem.W PyProof.Rows in
set_option maxRecDepth 100000 in
set_option maxHeartbeats 0 in
theorem PySem.Challenge.cw_crossloom_k38_turns_and_fair_orders_holds : PySem.Challenge.rw_crossloom_k38_turns_and_fair_orders.Holds := by
  w_on; o_law
  refine HandSHeadRun.head_any (r := OpenLaw.row PySem.Challenge.rw_crossloom_k38_turns_and_fair_orders) (q := view (OpenLaw.row PySem.Challenge.rw_crossloom_k38_turns_and_fair_orders).prog [16]) (H := K38.hk) (ob := K38.ob) (M := 2000) (loose := ["FabricFault", "BadSize", "Deficits", "check_packets", "tag", "is_ahead", "fair_order", "end_times", "fluid_time", "_law_flat", "_law_dice", "_law_roll", "_law_rounds"]) (d := HandSHeadRun.topDef (OpenLaw.row PySem.Challenge.rw_crossloom_k38_turns_and_fair_orders).prog 16) (kwd := []) K38.ob_eq
    (by kernel_rfl) (fun s => by kernel_rfl) K38.run (by kernel_rfl) (by kernel_rfl) (by kernel_rfl) (by rfl) (by first | assumption | decide +kernel) (by decide +kernel) ⟨rfl, rfl, rfl, rfl, rfl, by decide +kernel⟩ ?hw ?hc
  case hw => w_witness2
  case hc =>
    refine LamX.walk_ofTsE (l := PySem.Challenge.rw_crossloom_k38_turns_and_fair_orders) (n := 63) (k := 3 * K38.fuel) (x := "_law_script") (CX := fun w => L2.CX PySem.Challenge.rw_crossloom_k38_turns_and_fair_orders.prog w) rfl (by decide) (by kernel_rfl) ⟨rfl, by decide, by decide⟩ ?F ?X
    case X =>
      intro w H s e s' h
      obtain ⟨_, _, _, _, _, _, _, _, _, _, _, _, z⟩ := h
      exact z.elim
    case F =>
    intro w mg fa h Y G hmg0
    obtain ⟨K, KX, c⟩ := Y
    have hmg : mg ("law" : PySem.Str) = some (.ref fa) := by
      have e : (HandSHeadRun.topDef (OpenLaw.row PySem.Challenge.rw_crossloom_k38_turns_and_fair_orders).prog 16).name = ("law" : PySem.Str) := by kernel_rfl
      rw [← e]
      exact hmg0
    exact ⟨K, KX, K38.facts KX G hmg c K38.plain⟩
