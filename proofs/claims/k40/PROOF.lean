import PyProof.Rows.All
import Wide.All
import OpenK.AllK
import Wide.FinOn
import HandS.ForMost
import HandS.TupAny
import HandS.Deep
import HandS.ForExc
import HandS.TryMany
import HandS.Style
import HandS.WordsExc
import PySem.Challenge.RW_crossloom_k40_links_told_by_their_room
set_option Elab.async false
set_option linter.all false
set_option maxRecDepth 100000
set_option maxHeartbeats 4000000
namespace Z
open PySem

/-- values: lists that nobody changes any more (lst) stand by value, others by their place in the heap (ref) -/
inductive W where
  | non | bl (b : Bool) | int (i : Int) | str (s : Str) | tup (xs : List W) | lst (xs : List W) | ref (n : Nat) | scr (ns : List Int)

/-- what stands at a place of the heap; dicL: a dict that is being walked; dice: the law's dice -/
inductive EO where
  | lst (xs : List W) | lstL (xs : List W) | dic (kvs : List (W × W)) | dicL (kvs : List (W × W)) | ins (c : Nat) (fs : List (Nat × W)) | dice
abbrev EH := List EO
abbrev Env := List (Option W)

/-- how an evaluation ends: by a value and a heap, by an exception (its class), or it asks for a number below n and goes on -/
inductive T (α : Type) where
  | fail | ok (a : α) (h : EH) | exc (c : Nat) (h : EH) | draw (n : Nat) (k : Nat → T α)
def T.bind {α β : Type} : T α → (α → EH → T β) → T β
  | .fail, _ => .fail
  | .ok a h, f => f a h
  | .exc c h, _ => .exc c h
  | .draw n k, f => .draw n fun i => (k i).bind f
/-- whatever is drawn: it ends by a value with P, or by an exception with X -/
def T.All {α : Type} (P : α → EH → Prop) (X : Nat → EH → Prop) : T α → Prop
  | .fail => False
  | .ok a h => P a h
  | .exc c h => X c h
  | .draw n k => 0 < n ∧ n < 1073741824 ∧ ∀ i, i < n → (k i).All P X
theorem T.All.mono {α : Type} {P P' : α → EH → Prop} {X X' : Nat → EH → Prop} (hp : ∀ a h, P a h → P' a h) (hx : ∀ c h, X c h → X' c h) : ∀ {t : T α}, t.All P X → t.All P' X'
  | .fail, q => q
  | .ok a h, q => hp a h q
  | .exc c h, q => hx c h q
  | .draw n k, q => ⟨q.1, q.2.1, fun i hi => T.All.mono hp hx (q.2.2 i hi)⟩
theorem T.All.bind {α β : Type} {P : β → EH → Prop} {X : Nat → EH → Prop} {f : α → EH → T β} : ∀ {t : T α}, (t.bind f).All P X → t.All (fun a h => (f a h).All P X) X
  | .fail, q => q
  | .ok _ _, q => q
  | .exc _ _, q => q
  | .draw _ k, q => ⟨q.1, q.2.1, fun i hi => T.All.bind (t := k i) (q.2.2 i hi)⟩
theorem T.All.of_bind {α β : Type} {P : β → EH → Prop} {X : Nat → EH → Prop} {f : α → EH → T β} : ∀ {t : T α}, t.All (fun a h => (f a h).All P X) X → (t.bind f).All P X
  | .fail, q => q
  | .ok _ _, q => q
  | .exc _ _, q => q
  | .draw _ k, q => ⟨q.1, q.2.1, fun i hi => T.All.of_bind (t := k i) (q.2.2 i hi)⟩
/-- an exception out of it is not told -/
def T.nox {α : Type} : T α → T α
  | .fail => .fail
  | .ok a h => .ok a h
  | .exc _ _ => .fail
  | .draw n k => .draw n fun i => (k i).nox
theorem T.All.of_nox {α : Type} {P : α → EH → Prop} {X : Nat → EH → Prop} : ∀ {t : T α}, t.nox.All P X → t.All P fun _ _ => False
  | .fail, q => q
  | .ok _ _, q => q
  | .exc _ _, q => q
  | .draw _ k, q => ⟨q.1, q.2.1, fun i hi => T.All.of_nox (t := k i) (q.2.2 i hi)⟩
def ofO {α : Type} (o : Option α) (h : EH) : T α := match o with
  | some a => .ok a h
  | none => .fail

/-- the most items of anything -/
def LIM : Nat := 100000

/-! ### the text -/
inductive Op where | add | sub | mul | fdiv | mod | pow
  deriving DecidableEq
inductive Cm where | lt | le | gt | ge
  deriving DecidableEq
/-- targets of loops -/
inductive G where | name (i : Nat) | tup (is : List Nat)
  deriving DecidableEq
mutual
inductive E where
  | nev | var (i : Nat) | int (i : Int) | bl (b : Bool) | non | str (x : Str)
  | bin (o : Op) (a b : E) | cmp (c : Cm) (a b : E) | chain (c d : Cm) (a b e : E) | eqI (neg : Bool) (a b : E) | eqD (neg : Bool) (a b : E) | isN (neg : Bool) (a : E)
  | not (a : E) | and (es : Es) | or (es : Es) | ite (c a b : E)
  | tup (es : Es) | lst (m : Bool) (es : Es) | dic
  | ix (a i : E) | dix (a i : E) | slL (m : Bool) (a : E) (lo hi : Eo) | slT (a : E) (lo hi : Eo) | fld (a : E) (f : Nat)
  | inS (neg : Bool) (a b : E) | inD (neg : Bool) (a b : E) | catL (m : Bool) (a b : E) | catT (a b : E) | rep (m : Bool) (a b : E)
  | len (a : E) | lenD (a : E) | max2 (a b : E) | min2 (a b : E) | abs (a : E) | toInt (a : E) | toTup (a : E) | toLst (m : Bool) (a : E)
  | call (f : Nat) (es : Es) | make (c : Nat) (es : Es) | meth (a : E) (m : Nat) (es : Es)
  | comp (e : E) (g : G) (it : I) (c : Eo) (own : List Nat) | compM (e : E) (g : G) (it : I) (c : Eo) (own : List Nat)
inductive Es where | nil | cons (e : E) (r : Es)
inductive Eo where | none | some (e : E)
/-- what is walked -/
inductive I where
  | seq (e : E) | seqR (e : E) | rng (a : E) | rng2 (a b : E) | keys (e : E)
end
inductive Tg where | name (i : Nat) | tup (is : List Nat) | fld (a : E) (f : Nat) | sub (a i : E) | dsub (a i : E)
mutual
inductive S where
  | set (g : Tg) (e : E) | par (i j : Nat) (a b : E) | par3 (i j k : Nat) (a b c : E) | augN (i : Nat) (o : Op) (e : E) | augF (a : E) (f : Nat) (o : Op) (e : E) | extF (a : E) (f : Nat) (e : E)
  | ret (e : E) | retN | expr (e : E) | pass | ite (c : E) (t e : Ss) | loop (g : G) (it : I) (b : Ss) | whl (c : E) (b : Ss) | brk | cont
  | append (a e : E) | raise (c : Nat) | nev
inductive Ss where | nil | cons (s : S) (r : Ss)
end

/-! ### what it does: values -/
/-- the items of a list or tuple -/
def seqOf (h : EH) : W → Option (List W)
  | .tup xs => some xs
  | .lst xs => some xs
  | .ref n => match h[n]? with
    | some (.lst xs) => some xs
    | some (.lstL xs) => some xs
    | _ => none
  | _ => none
/-- the items of a list, locked or not -/
def lsqOf (h : EH) : W → Option (List W)
  | .lst xs => some xs
  | .scr ns => some (ns.map W.int)
  | .ref n => match h[n]? with
    | some (.lst xs) => some xs
    | some (.lstL xs) => some xs
    | _ => none
  | _ => none
/-- the items of a list -/
def lstOf (h : EH) : W → Option (List W)
  | .lst xs => some xs
  | .ref n => match h[n]? with
    | some (.lst xs) => some xs
    | _ => none
  | _ => none
def opW (o : Op) (a b : W) : Option W := match o, a, b with
  | .add, .int i, .int j => some (.int (i + j))
  | .sub, .int i, .int j => some (.int (i - j))
  | .mul, .int i, .int j => if (-(2 ^ 64) < i ∧ i < 2 ^ 64) ∨ (-(2 ^ 64) < j ∧ j < 2 ^ 64) then some (.int (i * j)) else none
  | .fdiv, .int i, .int j => if 0 < j ∧ j < 1073741824 then some (.int (i / j)) else none
  | .mod, .int i, .int j => if 0 < j then some (.int (i % j)) else none
  | .pow, .int i, .int j => if 0 ≤ j ∧ j ≤ 1000 ∧ i.natAbs < 2 ^ 64 then some (.int (i ^ j.toNat)) else none
  | _, _, _ => none
def cmI (c : Cm) (i j : Int) : Bool := match c with
  | .lt => decide (i < j)
  | .le => decide (i ≤ j)
  | .gt => decide (j < i)
  | .ge => decide (j ≤ i)
def cmW (c : Cm) (a b : W) : Option W := match a, b with
  | .int i, .int j => some (.bl (cmI c i j))
  | _, _ => none
/-- == of ints, texts, None: whether both are such, and their equality -/
def eqS (a b : W) : Option Bool := match a, b with
  | .int i, .int j => some (decide (i = j))
  | .str x, .str y => some (decide (x = y))
  | .bl x, .bl y => some (decide (x = y))
  | .non, .non => some true
  | .non, .int _ => some false
  | .int _, .non => some false
  | .non, .str _ => some false
  | .str _, .non => some false
  | .int _, .str _ => some false
  | .str _, .int _ => some false
  | _, _ => none
def isSc : W → Bool
  | .int _ => true
  | .str _ => true
  | .bl _ => true
  | .non => true
  | _ => false
/-- a map that may fail -/
def mapO {α β : Type} (f : α → Option β) : List α → Option (List β)
  | [] => some []
  | x :: xs => match f x with
    | none => none
    | some y => match mapO f xs with
      | none => none
      | some ys => some (y :: ys)
/-- data without places: the heap's lists put in, to a depth -/
def froz (h : EH) : Nat → W → Option PyData
  | _, .non => some .none
  | _, .bl b => some (.bool b)
  | _, .int i => some (.int i)
  | _, .str x => if PyData.canLay0 (.str x) = true then some (.str x) else none
  | 0, _ => none
  | n + 1, .tup xs => (mapO (froz h n) xs).map .tuple
  | n + 1, .lst xs => (mapO (froz h n) xs).map .list
  | n + 1, .ref a => match h[a]? with
    | some (.lst xs) => (mapO (froz h n) xs).map .list
    | some (.lstL xs) => (mapO (froz h n) xs).map .list
    | _ => none
  | _ + 1, .scr _ => none
def eqDW (h : EH) (a b : W) : Option Bool := match froz h 8 a, froz h 8 b with
  | some d, some e => some (PyData.eqv d e)
  | _, _ => none
/-- the place of an index -/
def ixN (n : Nat) (i : Int) : Option Nat := if 0 ≤ i then if i < (n : Int) then some i.toNat else none else if -(n : Int) ≤ i then some (i + (n : Int)).toNat else none
def ixW (xs : List W) (i : Int) : Option W := match ixN xs.length i with
  | some j => xs[j]?
  | none => none
def look (fs : List (Nat × W)) (f : Nat) : Option W := match fs with
  | [] => none
  | (g, w) :: r => if g = f then some w else look r f
def putf (fs : List (Nat × W)) (f : Nat) (w : W) : List (Nat × W) := match fs with
  | [] => [(f, w)]
  | (g, v) :: r => if g = f then (f, w) :: r else (g, v) :: putf r f w
/-- equality of keys: ints, texts, tuples of such -/
def keyE : W → W → Bool
  | .int i, .int j => decide (i = j)
  | .str x, .str y => decide (x = y)
  | _, _ => false
def isKey : W → Bool
  | .int _ => true
  | .str _ => true
  | _ => false
def dget (kvs : List (W × W)) (k : W) : Option W := match kvs with
  | [] => none
  | (j, v) :: r => if keyE j k then some v else dget r k
def dput (kvs : List (W × W)) (k v : W) : List (W × W) := match kvs with
  | [] => [(k, v)]
  | (j, u) :: r => if keyE j k then (j, v) :: r else (j, u) :: dput r k v
def dicOf (h : EH) : W → Option (List (W × W))
  | .ref n => match h[n]? with
    | some (.dic kvs) => some kvs
    | some (.dicL kvs) => some kvs
    | _ => none
  | _ => none
def insOf (h : EH) : W → Option (Nat × List (Nat × W))
  | .ref n => match h[n]? with
    | some (.ins c fs) => some (c, fs)
    | _ => none
  | _ => none
/-- the bounds of a slice -/
def sIx (n d : Nat) : Option Int → Nat
  | none => d
  | some v => if v < 0 then (v + (n : Int)).toNat else min v.toNat n
def cutW (xs : List W) (lo hi : Option Int) : List W := (xs.drop (sIx xs.length 0 lo)).take (sIx xs.length xs.length hi - sIx xs.length 0 lo)
def boolK {α : Type} (w : W) (f : Bool → T α) : T α := match w with
  | .bl b => f b
  | _ => .fail
def wipeE (σ : Env) : List Nat → Env
  | [] => σ
  | v :: vs => (wipeE σ vs).set v none
def setAll (σ : Env) : List Nat → List W → Option Env
  | [], [] => some σ
  | i :: is, w :: ws => setAll (σ.set i (some w)) is ws
  | _, _ => none
def store (g : G) (w : W) (σ : Env) : Option Env := match g with
  | .name i => some (σ.set i (some w))
  | .tup is => match w with
    | .tup ws => setAll σ is ws
    | _ => none
/-- a list that is made: one that will be changed (m) goes to the heap -/
def newL (m : Bool) (xs : List W) (h : EH) : T W := if m then .ok (.ref h.length) (h ++ [.lst xs]) else .ok (.lst xs) h
def rngW (i : Int) : Nat → List W
  | 0 => []
  | n + 1 => .int i :: rngW (i + 1) n
abbrev CallH := Nat → List W → EH → T W
/-- the methods of a class: (class, method) to the def -/
abbrev MTab := Nat → Nat → Option Nat
def forL (f : W → EH → T (Option W)) (acc : List W) : List W → EH → T (List W)
  | [], h => .ok acc h
  | x :: xs, h => (f x h).bind fun o h => match o with
    | none => forL f acc xs h
    | some y => forL f (acc ++ [y]) xs h
/-- .. into the list at n -/
def forM (n : Nat) (f : W → EH → T (Option W)) : List W → EH → T Unit
  | [], h => .ok () h
  | x :: xs, h => (f x h).bind fun o h => match o with
    | none => forM n f xs h
    | some y => match h[n]? with
      | some (.lst ys) => if ys.length < LIM then forM n f xs (h.set n (.lst (ys ++ [y]))) else .fail
      | _ => .fail
/-- what is locked while it is walked -/
inductive Lk where | no | l (n : Nat) (xs : List W) | d (n : Nat) (kvs : List (W × W))
def unlock (k : Lk) (h : EH) : EH := match k with
  | .no => h
  | .l n xs => h.set n (.lst xs)
  | .d n kvs => h.set n (.dic kvs)
section
variable (C : CallH) (M : MTab) (ini : Nat → Nat)
mutual
def ev : E → Env → EH → T W
  | .nev, _, _ => .fail
  | .var i, σ, h => match σ[i]? with
    | some (some w) => .ok w h
    | _ => .fail
  | .int i, _, h => .ok (.int i) h
  | .bl b, _, h => .ok (.bl b) h
  | .non, _, h => .ok .non h
  | .str x, _, h => .ok (.str x) h
  | .bin o a b, σ, h => (ev a σ h).bind fun x h => (ev b σ h).bind fun y h => ofO (opW o x y) h
  | .cmp c a b, σ, h => (ev a σ h).bind fun x h => (ev b σ h).bind fun y h => ofO (cmW c x y) h
  | .chain c d a b e, σ, h => (ev a σ h).bind fun x h => (ev b σ h).bind fun y h => (ofO (cmW c x y) h).bind fun k h => boolK k fun k => if k then (ev e σ h).bind fun z h => ofO (cmW d y z) h else .ok (.bl false) h
  | .eqI n a b, σ, h => (ev a σ h).bind fun x h => (ev b σ h).bind fun y h => ofO ((eqS x y).map fun k => W.bl (if n then !k else k)) h
  | .eqD n a b, σ, h => (ev a σ h).bind fun x h => (ev b σ h).bind fun y h => ofO ((eqDW h x y).map fun k => W.bl (if n then !k else k)) h
  | .isN n a, σ, h => (ev a σ h).bind fun x h => .ok (.bl (match x with | .non => !n | _ => n)) h
  | .not a, σ, h => (ev a σ h).bind fun x h => boolK x fun k => .ok (.bl (!k)) h
  | .and es, σ, h => evAnd es σ h
  | .or es, σ, h => evOr es σ h
  | .ite c a b, σ, h => (ev c σ h).bind fun x h => boolK x fun k => if k then ev a σ h else ev b σ h
  | .tup es, σ, h => (evs es σ h).bind fun xs h => .ok (.tup xs) h
  | .lst m es, σ, h => (evs es σ h).bind fun xs h => newL m xs h
  | .dic, _, h => .ok (.ref h.length) (h ++ [.dic []])
  | .ix a i, σ, h => (ev a σ h).bind fun x h => (ev i σ h).bind fun y h => match seqOf h x, y with
    | some xs, .int k => ofO (ixW xs k) h
    | _, _ => .fail
  | .dix a i, σ, h => (ev a σ h).bind fun x h => (ev i σ h).bind fun y h => match dicOf h x with
    | some kvs => if isKey y then ofO (dget kvs y) h else .fail
    | none => .fail
  | .slL m a lo hi, σ, h => (ev a σ h).bind fun x h => (evo lo σ h).bind fun l h => (evo hi σ h).bind fun u h => match lsqOf h x with
    | some xs => newL m (cutW xs l u) h
    | none => .fail
  | .slT a lo hi, σ, h => (ev a σ h).bind fun x h => (evo lo σ h).bind fun l h => (evo hi σ h).bind fun u h => match x with
    | .tup xs => .ok (.tup (cutW xs l u)) h
    | _ => .fail
  | .fld a f, σ, h => (ev a σ h).bind fun x h => match insOf h x with
    | some (_, fs) => ofO (look fs f) h
    | none => .fail
  | .inS n a b, σ, h => (ev a σ h).bind fun x h => (ev b σ h).bind fun y h => match seqOf h y with
    | some xs => if isSc x then ofO ((mapO (eqS x) xs).map fun ks => W.bl (if n then !ks.any id else ks.any id)) h else .fail
    | none => .fail
  | .inD n a b, σ, h => (ev a σ h).bind fun x h => (ev b σ h).bind fun y h => match dicOf h y with
    | some kvs => if isKey x then .ok (.bl (if n then (dget kvs x).isNone else (dget kvs x).isSome)) h else .fail
    | none => .fail
  | .catL m a b, σ, h => (ev a σ h).bind fun x h => (ev b σ h).bind fun y h => match lstOf h x, lstOf h y with
    | some xs, some ys => if xs.length + ys.length ≤ LIM then newL m (xs ++ ys) h else .fail
    | _, _ => .fail
  | .catT a b, σ, h => (ev a σ h).bind fun x h => (ev b σ h).bind fun y h => match x, y with
    | .tup xs, .tup ys => if xs.length + ys.length ≤ LIM then .ok (.tup (xs ++ ys)) h else .fail
    | _, _ => .fail
  | .rep m a b, σ, h => (ev a σ h).bind fun x h => (ev b σ h).bind fun y h => match lstOf h x, y with
    | some xs, .int k => if xs.length * k.toNat ≤ LIM ∧ k < 1000000 ∧ -1000000 < k then newL m (List.replicate k.toNat xs).flatten h else .fail
    | _, _ => .fail
  | .len a, σ, h => (ev a σ h).bind fun x h => match seqOf h x with
    | some xs => .ok (.int (xs.length : Int)) h
    | none => .fail
  | .lenD a, σ, h => (ev a σ h).bind fun x h => match dicOf h x with
    | some kvs => .ok (.int (kvs.length : Int)) h
    | none => .fail
  | .max2 a b, σ, h => (ev a σ h).bind fun x h => (ev b σ h).bind fun y h => match x, y with
    | .int i, .int j => .ok (.int (if j > i then j else i)) h
    | _, _ => .fail
  | .min2 a b, σ, h => (ev a σ h).bind fun x h => (ev b σ h).bind fun y h => match x, y with
    | .int i, .int j => .ok (.int (if j < i then j else i)) h
    | _, _ => .fail
  | .abs a, σ, h => (ev a σ h).bind fun x h => match x with
    | .int i => .ok (.int (if i < 0 then -i else i)) h
    | _ => .fail
  | .toInt a, σ, h => (ev a σ h).bind fun x h => match x with
    | .int i => .ok (.int i) h
    | .bl b => .ok (.int (if b then 1 else 0)) h
    | _ => .fail
  | .toTup a, σ, h => (ev a σ h).bind fun x h => match seqOf h x with
    | some xs => .ok (.tup xs) h
    | none => .fail
  | .toLst m a, σ, h => (ev a σ h).bind fun x h => match seqOf h x with
    | some xs => newL m xs h
    | none => .fail
  | .call f es, σ, h => (evs es σ h).bind fun xs h => C f xs h
  | .make c es, σ, h => (evs es σ h).bind fun xs h => (C (ini c) (.ref h.length :: xs) (h ++ [.ins c []])).bind fun v h' => match v with
    | .non => .ok (.ref h.length) h'
    | _ => .fail
  | .meth a m es, σ, h => (ev a σ h).bind fun x h => match insOf h x with
    | some (c, _) => (match M c m with
      | some f => (evs es σ h).bind fun xs h => C f (x :: xs) h
      | none => .fail)
    | none => .fail
  | .comp e g it c own, σ, h => (evI it σ h).bind fun p h => (forL (fun x h => match store g x (wipeE σ own) with
      | none => .fail
      | some σ' => (evc c σ' h).bind fun k h => if k then (ev e σ' h).bind fun y h => .ok (some y) h else .ok none h) [] p.1 h).nox.bind fun ys h => .ok (.lst ys) (unlock p.2 h)
  | .compM e g it c own, σ, h => (evI it σ h).bind fun p h => (forM h.length (fun x h => match store g x (wipeE σ own) with
      | none => .fail
      | some σ' => (evc c σ' h).bind fun k h => if k then (ev e σ' h).bind fun y h => .ok (some y) h else .ok none h) p.1 (h ++ [.lst []])).nox.bind fun _ h' => .ok (.ref h.length) (unlock p.2 h')
def evAnd : Es → Env → EH → T W
  | .nil, _, _ => .fail
  | .cons e r, σ, h => match r with
    | .nil => ev e σ h
    | r => (ev e σ h).bind fun x h => boolK x fun k => if k then evAnd r σ h else .ok (.bl false) h
def evOr : Es → Env → EH → T W
  | .nil, _, _ => .fail
  | .cons e r, σ, h => match r with
    | .nil => ev e σ h
    | r => (ev e σ h).bind fun x h => boolK x fun k => if k then .ok (.bl true) h else evOr r σ h
def evs : Es → Env → EH → T (List W)
  | .nil, _, h => .ok [] h
  | .cons e r, σ, h => (ev e σ h).bind fun x h => (evs r σ h).bind fun xs h => .ok (x :: xs) h
/-- an int that may be left out -/
def evo : Eo → Env → EH → T (Option Int)
  | .none, _, h => .ok none h
  | .some e, σ, h => (ev e σ h).bind fun x h => match x with
    | .int i => .ok (some i) h
    | _ => .fail
/-- a test that may be left out -/
def evc : Eo → Env → EH → T Bool
  | .none, _, h => .ok true h
  | .some e, σ, h => (ev e σ h).bind fun x h => boolK x fun k => .ok k h
/-- what is walked: the items, and what is to be unlocked behind the walk -/
def evI : I → Env → EH → T (List W × Lk)
  | .seq e, σ, h => (ev e σ h).bind fun x h => match x with
    | .tup xs => .ok (xs, .no) h
    | .lst xs => .ok (xs, .no) h
    | _ => .fail
  | .seqR e, σ, h => (ev e σ h).bind fun x h => match x with
    | .ref n => (match h[n]? with
      | some (.lst xs) => .ok (xs, .l n xs) (h.set n (.lstL xs))
      | some (.lstL xs) => .ok (xs, .no) h
      | _ => .fail)
    | _ => .fail
  | .rng a, σ, h => (ev a σ h).bind fun x h => match x with
    | .int n => if n ≤ LIM ∧ -1000000 < n then .ok (rngW 0 n.toNat, .no) h else .fail
    | _ => .fail
  | .rng2 a b, σ, h => (ev a σ h).bind fun x h => (ev b σ h).bind fun y h => match x, y with
    | .int i, .int n => if n - i ≤ LIM ∧ -1000000 < n ∧ -1000000 < i ∧ i < 1000000 ∧ n < 1000000 then .ok (rngW i (n - i).toNat, .no) h else .fail
    | _, _ => .fail
  | .keys e, σ, h => (ev e σ h).bind fun x h => match x with
    | .ref n => (match h[n]? with
      | some (.dic kvs) => .ok (kvs.map (·.1), .d n kvs) (h.set n (.dicL kvs))
      | some (.dicL kvs) => .ok (kvs.map (·.1), .no) h
      | _ => .fail)
    | _ => .fail
end

/-! ### what it does: statements -/
inductive Fl where | nx | rt (w : W) | bk | ct
abbrev R := T (Fl × Env)
def setIx (x y w : W) (h : EH) : Option EH := match x, y with
  | .ref n, .int k => match h[n]? with
    | some (.lst xs) => match ixN xs.length k with
      | some j => some (h.set n (.lst (xs.set j w)))
      | none => none
    | _ => none
  | _, _ => none
def setDx (x y w : W) (h : EH) : Option EH := match x with
  | .ref n => match h[n]? with
    | some (.dic kvs) => if isKey y ∧ kvs.length < LIM then some (h.set n (.dic (dput kvs y w))) else none
    | _ => none
  | _ => none
def setFld (x : W) (f : Nat) (w : W) (h : EH) : Option EH := match x with
  | .ref n => match h[n]? with
    | some (.ins c fs) => if fs.length < 900 then some (h.set n (.ins c (putf fs f w))) else none
    | _ => none
  | _ => none
def isLW (h : EH) (x : W) : Bool := match x with
  | .ref n => match h[n]? with
    | some (.lst _) => true
    | _ => false
  | _ => false
def appW (x w : W) (σ : Env) (h : EH) : R := match x with
  | .ref n => match h[n]? with
    | some (.lst xs) => if xs.length < LIM then .ok (.nx, σ) (h.set n (.lst (xs ++ [w]))) else .fail
    | _ => .fail
  | _ => .fail
/-- the instance's class is still c -/
def sameC (h : EH) (x : W) (c : Nat) (o : Option EH) : Option EH := match insOf h x with
  | some (d, _) => if d = c then o else none
  | none => none
def forS (f : W → Env → EH → R) : List W → Env → EH → R
  | [], σ, h => .ok (.nx, σ) h
  | x :: xs, σ, h => (f x σ h).bind fun p h => match p.1 with
    | .nx => forS f xs p.2 h
    | .ct => forS f xs p.2 h
    | .bk => .ok (.nx, p.2) h
    | .rt w => .ok (.rt w, p.2) h
def whlN (c : Env → EH → T W) (f : Env → EH → R) : Nat → Env → EH → R
  | 0, _, _ => .fail
  | n + 1, σ, h => (c σ h).bind fun x h => boolK x fun k => if k then (f σ h).bind fun p h => match p.1 with
    | .nx => whlN c f n p.2 h
    | .ct => whlN c f n p.2 h
    | .bk => .ok (.nx, p.2) h
    | .rt w => .ok (.rt w, p.2) h
    else .ok (.nx, σ) h
def nxH (σ : Env) (o : Option EH) : R := match o with
  | some h => .ok (.nx, σ) h
  | none => .fail
mutual
def ex : S → Env → EH → R
  | .set g e, σ, h => (ev C M ini e σ h).bind fun w h => match g with
    | .name i => .ok (.nx, σ.set i (some w)) h
    | .tup is => (match w with
      | .tup ws => ofO ((setAll σ is ws).map fun σ => (Fl.nx, σ)) h
      | _ => .fail)
    | .fld a f => (ev C M ini a σ h).bind fun x h => nxH σ (setFld x f w h)
    | .sub a i => (ev C M ini a σ h).bind fun x h => (ev C M ini i σ h).bind fun y h => nxH σ (setIx x y w h)
    | .dsub a i => (ev C M ini a σ h).bind fun x h => (ev C M ini i σ h).bind fun y h => nxH σ (setDx x y w h)
  | .par i j a b, σ, h => (ev C M ini a σ h).bind fun x h => (ev C M ini b σ h).bind fun y h => .ok (.nx, (σ.set i (some x)).set j (some y)) h
  | .par3 i j k a b c, σ, h => (ev C M ini a σ h).bind fun x h => (ev C M ini b σ h).bind fun y h => (ev C M ini c σ h).bind fun z h => .ok (.nx, ((σ.set i (some x)).set j (some y)).set k (some z)) h
  | .augN i o e, σ, h => match σ[i]? with
    | some (some x) => (ev C M ini e σ h).bind fun y h => (ofO (opW o x y) h).bind fun w h => .ok (.nx, σ.set i (some w)) h
    | _ => .fail
  | .augF a f o e, σ, h => (ev C M ini a σ h).bind fun x h => match insOf h x with
    | some (c, fs) => (ofO (look fs f) h).bind fun y h => (ev C M ini e σ h).bind fun z h => (ofO (opW o y z) h).bind fun w h => nxH σ (sameC h x c (setFld x f w h))
    | none => .fail
  | .extF a f e, σ, h => (ev C M ini a σ h).bind fun x h => match insOf h x with
    | some (c, fs) => (ofO (look fs f) h).bind fun y h => (ev C M ini e σ h).bind fun z h => match y, z with
      | .ref n, .lst zs => (match h[n]? with
        | some (.lst ys) => if ys.length + zs.length ≤ LIM then nxH σ (sameC h x c (setFld x f y (h.set n (.lst (ys ++ zs))))) else .fail
        | _ => .fail)
      | _, _ => .fail
    | none => .fail
  | .ret e, σ, h => (ev C M ini e σ h).bind fun w h => .ok (.rt w, σ) h
  | .retN, σ, h => .ok (.rt .non, σ) h
  | .expr e, σ, h => (ev C M ini e σ h).bind fun _ h => .ok (.nx, σ) h
  | .pass, σ, h => .ok (.nx, σ) h
  | .ite c t e, σ, h => (ev C M ini c σ h).bind fun x h => boolK x fun k => if k then exs t σ h else exs e σ h
  | .loop g it b, σ, h => (evI C M ini it σ h).bind fun p h => (forS (fun x σ h => match store g x σ with
      | some σ' => exs b σ' h
      | none => .fail) p.1 σ h).bind fun q h => .ok q (unlock p.2 h)
  | .whl c b, σ, h => whlN (fun σ h => ev C M ini c σ h) (fun σ h => exs b σ h) LIM σ h
  | .brk, σ, h => .ok (.bk, σ) h
  | .cont, σ, h => .ok (.ct, σ) h
  | .append a e, σ, h => (ev C M ini a σ h).bind fun x h => if isLW h x then (ev C M ini e σ h).bind fun w h => appW x w σ h else .fail
  | .raise c, _, h => .exc c h
  | .nev, _, _ => .fail
def exs : Ss → Env → EH → R
  | .nil, σ, h => .ok (.nx, σ) h
  | .cons s r, σ, h => (ex s σ h).bind fun p h => match p.1 with
    | .nx => exs r p.2 h
    | _ => .ok p h
end
end
/-! ### what it does: defs -/
structure Pg where
  /-- how many parameters, how many slots, the text -/
  body : Nat → Option (Nat × Nat × Ss)
  M : MTab
  ini : Nat → Nat
  roll : Nat
  rnds : Nat
def entry (n : Nat) (ws : List W) : Env := ws.map some ++ List.replicate (n - ws.length) none
def rollT (ws : List W) (h : EH) : T W := match ws with
  | [.ref a, .int n] => match h[a]? with
    | some .dice => if 0 < n ∧ n < 1073741824 then .draw n.toNat fun i => .ok (.int (i : Int)) h else .fail
    | _ => .fail
  | _ => .fail
def rndsT (ws : List W) (h : EH) : T W := match ws with
  | [.scr _, .int 1] => .ok (.lst [.ref h.length]) (h ++ [.dice])
  | _ => .fail
def out (p : Fl × Env) (h : EH) : T W := match p.1 with
  | .rt w => .ok w h
  | .nx => .ok .non h
  | _ => .fail
def callN (P : Pg) : Nat → CallH
  | 0, _, _, _ => .fail
  | n + 1, f, ws, h => if f = P.roll then rollT ws h else if f = P.rnds then (if n = 0 then .fail else rndsT ws h) else match P.body f with
    | some (m, k, b) => if ws.length = m then (exs (callN P n) P.M P.ini b (entry k ws) h).bind out else .fail
    | none => .fail
end Z
namespace Z
open PySem PySem.Spec PyProof.Rows L2

/-- what is fixed through a whole law: the written part, the fields' names, where the classes stand -/
structure Inf where
  K : PySem.W.Frag
  fl : List Str
  ca : Nat → Addr
  isC : Nat → Bool

/-- places: ours, in the order of the small heap; and such as are kept apart -/
structure Pl where
  own : List Addr
  res : List Addr
instance : Membership Addr Pl := ⟨fun ι a => a ∈ ι.own ∨ a ∈ ι.res⟩
def Pl.push (ι : Pl) (p : Addr) : Pl := ⟨ι.own ++ [p], ι.res⟩
/-- an object of the written part -/
def KL (K : PySem.W.Frag) (a : Addr) (xs : List V) : Prop :=
  ∃ (o : Obj) (its : Array Value) (n : Nat), K.lookup a = some o ∧ o.cls = .type "list" ∧ o.dict = none ∧ o.data = .seq its n ∧ its.size ≤ sizeLine ∧ Vals xs its.toList
section
variable (I : Inf)
mutual
inductive RW (ι : Pl) (H : Hp) : W → V → Prop
  | non : RW ι H .non .non
  | bl (b : Bool) : RW ι H (.bl b) (.bl b)
  | int (i : Int) : RW ι H (.int i) (.int i)
  | str (x : Str) : RW ι H (.str x) (.str x)
  | tup {p : Addr} {ws : List W} {vs : List V} : H p = some (.tup vs) → p ∉ ι → RWs ι H ws vs → ws.length ≤ LIM → RW ι H (.tup ws) (.ref p)
  | lst {p : Addr} {ws : List W} {vs : List V} : H p = some (.lst vs) → p ∉ ι → RWs ι H ws vs → ws.length ≤ LIM → RW ι H (.lst ws) (.ref p)
  | ref {n : Nat} {a : Addr} : ι.own[n]? = some a → RW ι H (.ref n) (.ref a)
  | scr {a : Addr} {ns : List Int} : (Rd H a (.lst (ns.map V.int)) ∧ a ∉ ι) ∨ KL I.K a (ns.map V.int) → ns.length ≤ 63 → RW ι H (.scr ns) (.ref a)
inductive RWs (ι : Pl) (H : Hp) : List W → List V → Prop
  | nil : RWs ι H [] []
  | cons {w : W} {v : V} {ws : List W} {vs : List V} : RW ι H w v → RWs ι H ws vs → RWs ι H (w :: ws) (v :: vs)
end
def RK : W → Key → Prop
  | .int i, .inl j => i = j
  | .str x, .inr y => x = y
  | _, _ => False
def RKV (ι : Pl) (H : Hp) : List (W × W) → List (Key × V) → Prop := Paired fun p q => RK p.1 q.1 ∧ RW I ι H p.2 q.2
def RF (ι : Pl) (H : Hp) : List (Nat × W) → List (Str × V) → Prop := Paired fun p q => I.fl[p.1]? = some q.1 ∧ RW I ι H p.2 q.2
def RO (ι : Pl) (H : Hp) : EO → Addr → Prop
  | .lst ws, a => ∃ vs, H a = some (.lst vs) ∧ RWs I ι H ws vs ∧ ws.length ≤ LIM
  | .lstL ws, a => ∃ o vs, H a = some (.frz o (.lst vs)) ∧ RWs I ι H ws vs ∧ ws.length ≤ LIM
  | .dic kvs, a => ∃ ls, H a = some (.dK ls) ∧ RKV I ι H kvs ls ∧ kvs.length ≤ LIM ∧ (ls.map (·.1)).Nodup
  | .dicL kvs, a => ∃ o ls, H a = some (.frz o (.dK ls)) ∧ RKV I ι H kvs ls ∧ kvs.length ≤ LIM ∧ (ls.map (·.1)).Nodup
  | .ins c fs, a => ∃ dx ls, H a = some (.ins (I.ca c) dx ls) ∧ RF I ι H fs ls ∧ fs.length ≤ 900 ∧ I.isC c = true
  | .dice, a => ∃ x y z : Int, H a = some (.lst [.int x, .int y, .int z])
structure Rep (ι : Pl) (h : EH) (H : Hp) : Prop where
  len : ι.own.length = h.length
  nd : ι.own.Nodup
  res : ∀ a ∈ ι.res, H a ≠ none
  ob : ∀ (i : Nat) (o : EO), h[i]? = some o → ∃ a, ι.own[i]? = some a ∧ RO I ι H o a
/-- from one state to a later one: new places, what is not ours is kept -/
structure Ext (ι : Pl) (H : Hp) (ι' : Pl) (H' : Hp) : Prop where
  pre : ∃ new, ι'.own = ι.own ++ new ∧ ∀ a ∈ new, H a = none
  rs : ι'.res = ι.res
  keep : ∀ a o, H a = some o → a ∉ ι.own → H' a = some o
  there : ∀ a, H a ≠ none → H' a ≠ none
  frz : ∀ a o u, H a = some (.frz o u) → H' a = some (.frz o u)
end
section
variable {I : Inf} {ι ι' ι'' : Pl} {H H' H'' : Hp} {h h' : EH} {w : W} {v : V} {ws : List W} {vs : List V}
theorem RO.some {o : EO} {a : Addr} (r : RO I ι H o a) : H a ≠ none := by
  cases o <;> first
    | (obtain ⟨_, e, _⟩ := r; rw [e]; exact fun z => nomatch z)
    | (obtain ⟨_, _, e, _⟩ := r; rw [e]; exact fun z => nomatch z)
    | (obtain ⟨_, _, _, e⟩ := r; rw [e]; exact fun z => nomatch z)
theorem Rep.mem (r : Rep I ι h H) {a : Addr} (m : a ∈ ι) : H a ≠ none := by
  rcases m with m | m
  · obtain ⟨i, hi, rfl⟩ := List.getElem_of_mem m
    have hl : i < h.length := by rw [← r.len]; exact hi
    obtain ⟨b, eb, ro⟩ := r.ob i h[i] (List.getElem?_eq_getElem hl)
    rw [List.getElem?_eq_getElem hi] at eb
    cases eb
    exact ro.some
  · exact r.res a m
theorem Rep.new (r : Rep I ι h H) {p : Addr} (e : H p = none) : p ∉ ι := fun m => r.mem m e
theorem Ext.refl : Ext ι H ι H := ⟨⟨[], by simp, by simp⟩, rfl, fun _ _ e _ => e, fun _ e => e, fun _ _ _ e => e⟩
theorem Ext.own_not (a : Ext ι H ι' H') {p : Addr} {o : HO} (e : H p = some o) (hn : p ∉ ι.own) : p ∉ ι'.own := fun m => by
  obtain ⟨n1, e1, q1⟩ := a.pre
  rw [e1] at m
  rcases List.mem_append.mp m with m | m
  · exact hn m
  · rw [q1 p m] at e; cases e
theorem Ext.trans (a : Ext ι H ι' H') (b : Ext ι' H' ι'' H'') : Ext ι H ι'' H'' := by
  obtain ⟨n1, e1, q1⟩ := a.pre
  obtain ⟨n2, e2, q2⟩ := b.pre
  refine ⟨⟨n1 ++ n2, by rw [e2, e1, List.append_assoc], fun c hc => ?_⟩, b.rs.trans a.rs, fun c o e hn => b.keep c o (a.keep c o e hn) (a.own_not e hn), fun c e => b.there c (a.there c e), fun c o u e => b.frz c o u (a.frz c o u e)⟩
  rcases List.mem_append.mp hc with m | m
  · exact q1 c m
  · have z := q2 c m
    exact Classical.byContradiction fun e => a.there c e z
theorem Ext.kp (a : Ext ι H ι' H') {p : Addr} {o : HO} (e : H p = some o) (hn : p ∉ ι) : H' p = some o := a.keep p o e fun z => hn (.inl z)
theorem Ext.not_mem (a : Ext ι H ι' H') {p : Addr} {o : HO} (e : H p = some o) (hn : p ∉ ι) : p ∉ ι' := fun m => by
  rcases m with m | m
  · exact a.own_not e (fun z => hn (.inl z)) m
  · exact hn (.inr (by rw [← a.rs]; exact m))
theorem Ext.ix (a : Ext ι H ι' H') {n : Nat} {p : Addr} (e : ι.own[n]? = some p) : ι'.own[n]? = some p := by
  obtain ⟨n1, e1, _⟩ := a.pre
  rw [e1, List.getElem?_append_left (List.getElem?_eq_some_iff.mp e).1]
  exact e
theorem Ext.sq (a : Ext ι H ι' H') {K : PySem.W.Frag} {p : Addr} {xs : List V} (e : (Rd H p (.lst xs) ∧ p ∉ ι) ∨ KL K p xs) : (Rd H' p (.lst xs) ∧ p ∉ ι') ∨ KL K p xs := by
  rcases e with ⟨e | ⟨o, e⟩, hn⟩ | e
  · exact .inl ⟨.inl (a.kp e hn), a.not_mem e hn⟩
  · exact .inl ⟨.inr ⟨o, a.kp e hn⟩, a.not_mem e hn⟩
  · exact .inr e
mutual
theorem RW.ext (a : Ext ι H ι' H') : ∀ {w : W} {v : V}, RW I ι H w v → RW I ι' H' w v
  | _, _, .non => .non
  | _, _, .bl b => .bl b
  | _, _, .int i => .int i
  | _, _, .str x => .str x
  | _, _, .tup e n r l => .tup (a.kp e n) (a.not_mem e n) (RWs.ext a r) l
  | _, _, .lst e n r l => .lst (a.kp e n) (a.not_mem e n) (RWs.ext a r) l
  | _, _, .ref e => .ref (a.ix e)
  | _, _, .scr e l => .scr (a.sq e) l
theorem RWs.ext (a : Ext ι H ι' H') : ∀ {w : List W} {v : List V}, RWs I ι H w v → RWs I ι' H' w v
  | _, _, .nil => .nil
  | _, _, .cons e r => .cons (RW.ext a e) (RWs.ext a r)
end
theorem RKV.ext (a : Ext ι H ι' H') {ks : List (W × W)} {ls : List (Key × V)} (r : RKV I ι H ks ls) : RKV I ι' H' ks ls := Paired.mapP r fun _ _ q => ⟨q.1, q.2.ext a⟩
theorem RF.ext (a : Ext ι H ι' H') {ks : List (Nat × W)} {ls : List (Str × V)} (r : RF I ι H ks ls) : RF I ι' H' ks ls := Paired.mapP r fun _ _ q => ⟨q.1, q.2.ext a⟩
/-- an object whose own place stays -/
theorem RO.ext (a : Ext ι H ι' H') {o : EO} {p : Addr} (r : RO I ι H o p) (e : H' p = H p) : RO I ι' H' o p := by
  cases o with
  | lst ws => obtain ⟨vs, h1, h2, h3⟩ := r; exact ⟨vs, e.trans h1, h2.ext a, h3⟩
  | lstL ws => obtain ⟨o, vs, h1, h2, h3⟩ := r; exact ⟨o, vs, e.trans h1, h2.ext a, h3⟩
  | dic ws => obtain ⟨vs, h1, h2, h3⟩ := r; exact ⟨vs, e.trans h1, h2.ext a, h3⟩
  | dicL ws => obtain ⟨o, vs, h1, h2, h3⟩ := r; exact ⟨o, vs, e.trans h1, h2.ext a, h3⟩
  | ins c ws => obtain ⟨o, vs, h1, h2, h3⟩ := r; exact ⟨o, vs, e.trans h1, h2.ext a, h3⟩
  | dice => obtain ⟨x, y, z, h1⟩ := r; exact ⟨x, y, z, e.trans h1⟩
/-- one new object that is not ours -/
theorem Ext.side {p : Addr} {o : HO} (e : H p = none) : Ext ι H ι (upd H p o) :=
  ⟨⟨[], by simp, by simp⟩, rfl, fun a u q _ => by rw [upd_ne (ne_of_none q e)]; exact q, fun a q => by
    by_cases z : a = p
    · rw [z, upd_same]; exact fun z => nomatch z
    · rw [upd_ne z]; exact q, fun a o u q => by rw [upd_ne (ne_of_none q e)]; exact q⟩
theorem Rep.side (r : Rep I ι h H) {p : Addr} {o : HO} (e : H p = none) : Rep I ι h (upd H p o) :=
  ⟨r.len, r.nd, fun a m => (Ext.side (ι := ι) e).there a (r.res a m), fun i ob q => by
    obtain ⟨a, ea, ro⟩ := r.ob i ob q
    exact ⟨a, ea, ro.ext (Ext.side e) (upd_ne fun z => ro.some (by rw [z]; exact e))⟩⟩
/-- a new object of ours -/
theorem Ext.mine {p : Addr} {o : HO} (e : H p = none) : Ext ι H (ι.push p) (upd H p o) :=
  ⟨⟨[p], rfl, by simp [e]⟩, rfl, fun a u q _ => by rw [upd_ne (ne_of_none q e)]; exact q, fun a q => by
    by_cases z : a = p
    · rw [z, upd_same]; exact fun z => nomatch z
    · rw [upd_ne z]; exact q, fun a o u q => by rw [upd_ne (ne_of_none q e)]; exact q⟩
theorem Pl.push_at (ι : Pl) (p : Addr) {n : Nat} (e : n = ι.own.length) : (ι.push p).own[n]? = some p := by
  show (ι.own ++ [p])[n]? = some p
  rw [e, List.getElem?_append_right (Nat.le_refl _), Nat.sub_self]
  rfl
theorem Rep.mine (r : Rep I ι h H) {p : Addr} {o : HO} {eo : EO} (e : H p = none) (ro : RO I (ι.push p) (upd H p o) eo p) : Rep I (ι.push p) (h ++ [eo]) (upd H p o) := by
  refine ⟨by simp [Pl.push, r.len], List.nodup_append.mpr ⟨r.nd, by simp, fun a ha b hb z => ?_⟩, fun a m => (Ext.mine (ι := ι) (o := o) e).there a (r.res a m), fun i ob q => ?_⟩
  · have := List.mem_singleton.mp hb
    subst this
    subst z
    exact r.new e (.inl ha)
  · by_cases hi : i < h.length
    · rw [List.getElem?_append_left hi] at q
      obtain ⟨a, ea, rb⟩ := r.ob i ob q
      exact ⟨a, (Ext.mine (o := o) e).ix ea, rb.ext (Ext.mine e) (upd_ne fun z => rb.some (by rw [z]; exact e))⟩
    · have hi2 : i = h.length := by
        have := (List.getElem?_eq_some_iff.mp q).1
        simp at this
        omega
      subst hi2
      rw [List.getElem?_append_right (Nat.le_refl _), Nat.sub_self] at q
      cases q
      exact ⟨p, ι.push_at p r.len.symm, ro⟩
/-- an object of ours is changed -/
theorem Ext.chg {n : Nat} {a : Addr} {o : HO} (e : ι.own[n]? = some a) (nf : ∀ o u, H a ≠ some (.frz o u)) : Ext ι H ι (upd H a o) :=
  ⟨⟨[], by simp, by simp⟩, rfl, fun b u q hn => by
    have nb : b ≠ a := fun z => hn (by rw [z]; exact List.mem_of_getElem? e)
    rw [upd_ne nb]; exact q, fun b q => by
    by_cases z : b = a
    · rw [z, upd_same]; exact fun z => nomatch z
    · rw [upd_ne z]; exact q, fun b o' u q => by rw [upd_ne fun z => nf o' u (by rw [← z]; exact q)]; exact q⟩
theorem Rep.chg (r : Rep I ι h H) {n : Nat} {a : Addr} {o : HO} {eo : EO} (e : ι.own[n]? = some a) (nf : ∀ o u, H a ≠ some (.frz o u)) (ro : RO I ι (upd H a o) eo a) : Rep I ι (h.set n eo) (upd H a o) := by
  refine ⟨by rw [List.length_set]; exact r.len, r.nd, fun b m => (Ext.chg (ι := ι) e nf).there b (r.res b m), fun i ob q => ?_⟩
  by_cases hi : n = i
  · subst hi
    have hl : n < h.length := by
      have := (List.getElem?_eq_some_iff.mp q).1
      simpa using this
    rw [List.getElem?_set_self hl] at q
    cases q
    exact ⟨a, e, ro⟩
  · rw [List.getElem?_set_ne hi] at q
    obtain ⟨b, eb, rb⟩ := r.ob i ob q
    refine ⟨b, eb, rb.ext (Ext.chg e nf) (upd_ne fun z => hi ?_)⟩
    subst z
    exact nd_ix r.nd e eb
/-- the heap's mark alone is changed -/
theorem Rep.mark (r : Rep I ι h H) {n : Nat} {a : Addr} {eo : EO} (e : ι.own[n]? = some a) (ro : RO I ι H eo a) : Rep I ι (h.set n eo) H := by
  refine ⟨by rw [List.length_set]; exact r.len, r.nd, r.res, fun i ob q => ?_⟩
  by_cases hi : n = i
  · subst hi
    have hl : n < h.length := by
      have := (List.getElem?_eq_some_iff.mp q).1
      simpa using this
    rw [List.getElem?_set_self hl] at q
    cases q
    exact ⟨a, e, ro⟩
  · rw [List.getElem?_set_ne hi] at q
    exact r.ob i ob q
theorem Rep.at (r : Rep I ι h H) {n : Nat} {a : Addr} {o : EO} (e : ι.own[n]? = some a) (q : h[n]? = some o) : RO I ι H o a := by
  obtain ⟨b, eb, ro⟩ := r.ob n o q
  rw [e] at eb
  cases eb
  exact ro
theorem RWs.length : ∀ {ws : List W} {vs : List V}, RWs I ι H ws vs → ws.length = vs.length
  | _, _, .nil => rfl
  | _, _, .cons _ r => by simp [RWs.length r]
theorem RWs.get : ∀ {ws : List W} {vs : List V} {i : Nat} {w : W}, RWs I ι H ws vs → ws[i]? = some w → ∃ v, vs[i]? = some v ∧ RW I ι H w v
  | _, _, _, _, .nil, e => by simp at e
  | _, _, 0, _, .cons r _, e => by simp at e; subst e; exact ⟨_, rfl, r⟩
  | _, _, i + 1, _, .cons _ t, e => by
    obtain ⟨v, h1, h2⟩ := RWs.get (i := i) t (by simpa using e)
    exact ⟨v, by simpa using h1, h2⟩
theorem RWs.append : ∀ {ws ws' : List W} {vs vs' : List V}, RWs I ι H ws vs → RWs I ι H ws' vs' → RWs I ι H (ws ++ ws') (vs ++ vs')
  | _, _, _, _, .nil, s => s
  | _, _, _, _, .cons r t, s => .cons r (RWs.append t s)
theorem RWs.take : ∀ {ws : List W} {vs : List V} (n : Nat), RWs I ι H ws vs → RWs I ι H (ws.take n) (vs.take n)
  | _, _, 0, _ => by simp; exact .nil
  | _, _, _ + 1, .nil => .nil
  | _, _, n + 1, .cons r t => .cons r (RWs.take n t)
theorem RWs.drop : ∀ {ws : List W} {vs : List V} (n : Nat), RWs I ι H ws vs → RWs I ι H (ws.drop n) (vs.drop n)
  | _, _, 0, r => r
  | _, _, _ + 1, .nil => .nil
  | _, _, n + 1, .cons _ t => RWs.drop n t
theorem RWs.set {w : W} {v : V} (r : RW I ι H w v) : ∀ {ws : List W} {vs : List V} (i : Nat), RWs I ι H ws vs → RWs I ι H (ws.set i w) (vs.set i v)
  | _, _, _, .nil => .nil
  | _, _, 0, .cons _ t => .cons r t
  | _, _, i + 1, .cons q t => .cons q (RWs.set r i t)
theorem RWs.rep : ∀ (k : Nat) {ws : List W} {vs : List V}, RWs I ι H ws vs → RWs I ι H (List.replicate k ws).flatten (List.replicate k vs).flatten
  | 0, _, _, _ => .nil
  | k + 1, _, _, r => by
    rw [List.replicate_succ, List.replicate_succ, List.flatten_cons, List.flatten_cons]
    exact r.append (RWs.rep k r)
/-- a place is kept apart -/
def Pl.apart (ι : Pl) (D : Addr) : Pl := ⟨ι.own, D :: ι.res⟩
/-- what holds of values stays true -/
structure Mw (ι : Pl) (H : Hp) (ι' : Pl) (H' : Hp) : Prop where
  ix : ∀ (n : Nat) (a : Addr), ι.own[n]? = some a → ι'.own[n]? = some a
  kp : ∀ a o, H a = some o → a ∉ ι → H' a = some o ∧ a ∉ ι'
structure Mo (ι : Pl) (H : Hp) (ι' : Pl) (H' : Hp) : Prop extends Mw ι H ι' H' where
  frz : ∀ a o u, H a = some (.frz o u) → H' a = some (.frz o u)
theorem Ext.mo (a : Ext ι H ι' H') : Mo ι H ι' H' := ⟨⟨fun _ _ e => a.ix e, fun _ _ e n => ⟨a.kp e n, a.not_mem e n⟩⟩, a.frz⟩
theorem Mo.refl : Mo ι H ι H := ⟨⟨fun _ _ e => e, fun _ _ e n => ⟨e, n⟩⟩, fun _ _ _ e => e⟩
theorem Mo.trans (a : Mo ι H ι' H') (b : Mo ι' H' ι'' H'') : Mo ι H ι'' H'' := ⟨⟨fun n c e => b.ix n c (a.ix n c e), fun c o e n => b.kp c o (a.kp c o e n).1 (a.kp c o e n).2⟩, fun c o u e => b.frz c o u (a.frz c o u e)⟩
mutual
theorem RW.mo (m : Mw ι H ι' H') : ∀ {w : W} {v : V}, RW I ι H w v → RW I ι' H' w v
  | _, _, .non => .non
  | _, _, .bl b => .bl b
  | _, _, .int i => .int i
  | _, _, .str x => .str x
  | _, _, .tup e n r l => .tup (m.kp _ _ e n).1 (m.kp _ _ e n).2 (RWs.mo m r) l
  | _, _, .lst e n r l => .lst (m.kp _ _ e n).1 (m.kp _ _ e n).2 (RWs.mo m r) l
  | _, _, .ref e => .ref (m.ix _ _ e)
  | _, _, .scr e l => .scr (by
      rcases e with ⟨e | ⟨o, e⟩, hn⟩ | e
      · exact .inl ⟨.inl (m.kp _ _ e hn).1, (m.kp _ _ e hn).2⟩
      · exact .inl ⟨.inr ⟨o, (m.kp _ _ e hn).1⟩, (m.kp _ _ e hn).2⟩
      · exact .inr e) l
theorem RWs.mo (m : Mw ι H ι' H') : ∀ {w : List W} {v : List V}, RWs I ι H w v → RWs I ι' H' w v
  | _, _, .nil => .nil
  | _, _, .cons e r => .cons (RW.mo m e) (RWs.mo m r)
end
theorem RO.mo (m : Mw ι H ι' H') {o : EO} {p : Addr} (r : RO I ι H o p) (e : H' p = H p) : RO I ι' H' o p := by
  cases o with
  | lst ws => obtain ⟨vs, h1, h2, h3⟩ := r; exact ⟨vs, e.trans h1, h2.mo m, h3⟩
  | lstL ws => obtain ⟨o, vs, h1, h2, h3⟩ := r; exact ⟨o, vs, e.trans h1, h2.mo m, h3⟩
  | dic ws => obtain ⟨vs, h1, h2, h3⟩ := r; exact ⟨vs, e.trans h1, Paired.mapP h2 fun _ _ q => ⟨q.1, q.2.mo m⟩, h3⟩
  | dicL ws => obtain ⟨o, vs, h1, h2, h3⟩ := r; exact ⟨o, vs, e.trans h1, Paired.mapP h2 fun _ _ q => ⟨q.1, q.2.mo m⟩, h3⟩
  | ins c ws => obtain ⟨o, vs, h1, h2, h3⟩ := r; exact ⟨o, vs, e.trans h1, Paired.mapP h2 fun _ _ q => ⟨q.1, q.2.mo m⟩, h3⟩
  | dice => obtain ⟨x, y, z, h1⟩ := r; exact ⟨x, y, z, e.trans h1⟩
/-- from now on D is kept apart: a list just made -/
theorem Mo.apart {D : Addr} {o : HO} (hD : H D = none) : Mo ι H (ι.apart D) (upd H D o) := ⟨⟨fun _ _ e => e, fun a u e n => by
  have nd : a ≠ D := ne_of_none e hD
  refine ⟨by rw [upd_ne nd]; exact e, fun m => ?_⟩
  rcases m with m | m
  · exact n (.inl m)
  · rcases List.mem_cons.mp m with m | m
    · exact nd m
    · exact n (.inr m)⟩, fun a o u e => by rw [upd_ne (ne_of_none e hD)]; exact e⟩
theorem Rep.apart (r : Rep I ι h H) {D : Addr} {o : HO} (hD : H D = none) : Rep I (ι.apart D) h (upd H D o) :=
  ⟨r.len, r.nd, fun a m => by
    rcases List.mem_cons.mp m with m | m
    · rw [m, upd_same]; exact fun z => nomatch z
    · exact (Ext.side (ι := ι) hD).there a (r.res a m), fun i ob q => by
    obtain ⟨a, ea, ro⟩ := r.ob i ob q
    exact ⟨a, ea, RO.mo (Mo.apart hD).toMw ro (upd_ne fun z => RO.some ro (by rw [z]; exact hD))⟩⟩
/-- what is kept apart is changed -/
theorem Mo.res {D : Addr} {o : HO} (m : D ∈ ι.res) (nf : ∀ o u, H D ≠ some (.frz o u)) : Mo ι H ι (upd H D o) := ⟨⟨fun _ _ e => e, fun a u e n => by
  have nd : a ≠ D := fun z => n (.inr (by rw [z]; exact m))
  exact ⟨by rw [upd_ne nd]; exact e, n⟩⟩, fun a o' u e => by rw [upd_ne fun z => nf o' u (by rw [← z]; exact e)]; exact e⟩
theorem Rep.resUpd (r : Rep I ι h H) {D : Addr} {o : HO} (m : D ∈ ι.res) (hn : D ∉ ι.own) (nf : ∀ o u, H D ≠ some (.frz o u)) : Rep I ι h (upd H D o) :=
  ⟨r.len, r.nd, fun a ma => by
    by_cases z : a = D
    · rw [z, upd_same]; exact fun z => nomatch z
    · rw [upd_ne z]; exact r.res a ma, fun i ob q => by
    obtain ⟨a, ea, ro⟩ := r.ob i ob q
    exact ⟨a, ea, RO.mo (Mo.res m nf).toMw ro (upd_ne fun z => hn (by rw [← z]; exact List.mem_of_getElem? ea))⟩⟩
/-- what was kept apart is let go -/
theorem Mo.back {D : Addr} {rs : List Addr} (e1 : ι.res = D :: rs) : Mo ι H ⟨ι.own, rs⟩ H := ⟨⟨fun _ _ e => e, fun a u e n => ⟨e, fun m => by
  rcases m with m | m
  · exact n (.inl m)
  · exact n (.inr (by rw [e1]; exact List.mem_cons_of_mem _ m))⟩⟩, fun _ _ _ e => e⟩
theorem Rep.back (r : Rep I ι h H) {D : Addr} {rs : List Addr} (e1 : ι.res = D :: rs) : Rep I ⟨ι.own, rs⟩ h H :=
  ⟨r.len, r.nd, fun a m => r.res a (by rw [e1]; exact List.mem_cons_of_mem _ m), fun i ob q => by
    obtain ⟨a, ea, ro⟩ := r.ob i ob q
    exact ⟨a, ea, RO.mo (Mo.back e1).toMw ro rfl⟩⟩
theorem Ext.swap (a : Ext ι H ι' H') (rs : List Addr) : Ext ⟨ι.own, rs⟩ H ⟨ι'.own, rs⟩ H' := ⟨a.pre, rfl, a.keep, a.there, a.frz⟩
/-- a thing of ours is locked, and let go again -/
theorem Ext.unl {d : Addr} {o u : HO} (a : Ext ι (upd H d o) ι' H') (hd : d ∈ ι.own) (hf : H d = some u) (nf : ∀ o u, H d ≠ some (.frz o u)) : Ext ι H ι' (upd H' d u) := by
  obtain ⟨n1, e1, q1⟩ := a.pre
  refine ⟨⟨n1, e1, fun b hb => ?_⟩, a.rs, fun b w e n => ?_, fun b e => ?_, fun b o' w e => ?_⟩
  · have z := q1 b hb
    by_cases hb : b = d
    · rw [hb, upd_same] at z; cases z
    · rw [upd_ne hb] at z; exact z
  · have hb : b ≠ d := fun z => n (by rw [z]; exact hd)
    rw [upd_ne hb]
    exact a.keep b w (by rw [upd_ne hb]; exact e) n
  · by_cases hb : b = d
    · rw [hb, upd_same]; exact fun z => nomatch z
    · rw [upd_ne hb]; exact a.there b (by rw [upd_ne hb]; exact e)
  · have hb : b ≠ d := fun z => nf o' w (by rw [← z]; exact e)
    rw [upd_ne hb]
    exact a.frz b o' w (by rw [upd_ne hb]; exact e)
theorem Mw.own {d : Addr} {o : HO} (hd : d ∈ ι.own) : Mw ι H ι (upd H d o) := ⟨fun _ _ e => e, fun a u e n => by
  have nd : a ≠ d := fun z => n (.inl (by rw [z]; exact hd))
  exact ⟨by rw [upd_ne nd]; exact e, n⟩⟩
theorem Rep.chgW (r : Rep I ι h H) {n : Nat} {a : Addr} {o : HO} {eo : EO} (e : ι.own[n]? = some a) (ro : RO I ι (upd H a o) eo a) : Rep I ι (h.set n eo) (upd H a o) := by
  refine ⟨by rw [List.length_set]; exact r.len, r.nd, fun b m => ?_, fun i ob q => ?_⟩
  · by_cases z : b = a
    · rw [z, upd_same]; exact fun z => nomatch z
    · rw [upd_ne z]; exact r.res b m
  · by_cases hi : n = i
    · subst hi
      have hl : n < h.length := by
        have := (List.getElem?_eq_some_iff.mp q).1
        simpa using this
      rw [List.getElem?_set_self hl] at q
      cases q
      exact ⟨a, e, ro⟩
    · rw [List.getElem?_set_ne hi] at q
      obtain ⟨b, eb, rb⟩ := r.ob i ob q
      refine ⟨b, eb, RO.mo (Mw.own (List.mem_of_getElem? e)) rb (upd_ne fun z => hi ?_)⟩
      subst z
      exact nd_ix r.nd e eb
/-- a thing that was not there may change -/
theorem Ext.chgNew (a : Ext ι H ι' H') {D : Addr} {o : HO} (hD : H D = none) : Ext ι H ι' (upd H' D o) := ⟨a.pre, a.rs, fun b u e n => by rw [upd_ne (ne_of_none e hD)]; exact a.keep b u e n, fun b e => by
  by_cases z : b = D
  · exact absurd (by rw [z]; exact hD) e
  · rw [upd_ne z]; exact a.there b e, fun b o u e => by rw [upd_ne (ne_of_none e hD)]; exact a.frz b o u e⟩
/-- the items of what is a list or a tuple -/
theorem Rep.seq (r : Rep I ι h H) {w : W} {v : V} {ws : List W} (q : RW I ι H w v) (e : seqOf h w = some ws) : ∃ p vs, v = .ref p ∧ (SqL I.K H p vs ∨ SqT I.K H p vs) ∧ RWs I ι H ws vs ∧ ws.length ≤ LIM := by
  cases q with
  | tup e1 n r l => simp only [seqOf, Option.some.injEq] at e; subst e; exact ⟨_, _, rfl, .inr (.inl (.inl e1)), r, l⟩
  | lst e1 n r l => simp only [seqOf, Option.some.injEq] at e; subst e; exact ⟨_, _, rfl, .inl (.inl (.inl e1)), r, l⟩
  | @ref n a e1 =>
    simp only [seqOf] at e
    split at e
    · rename_i xs hx
      cases e
      obtain ⟨vs, h1, h2, h3⟩ := r.at e1 hx
      exact ⟨_, vs, rfl, .inl (.inl (.inl h1)), h2, h3⟩
    · rename_i xs hx
      cases e
      obtain ⟨o, vs, h1, h2, h3⟩ := r.at e1 hx
      exact ⟨_, vs, rfl, .inl (.inl (.inr ⟨o, h1⟩)), h2, h3⟩
    · cases e
  | _ => cases e
theorem RWs.ints {ι : Pl} {H : Hp} : ∀ ns : List Int, RWs I ι H (ns.map W.int) (ns.map V.int)
  | [] => .nil
  | n :: ns => .cons (.int n) (RWs.ints ns)
theorem Rep.lsq (r : Rep I ι h H) {w : W} {v : V} {ws : List W} (q : RW I ι H w v) (e : lsqOf h w = some ws) : ∃ p vs, v = .ref p ∧ SqL I.K H p vs ∧ RWs I ι H ws vs ∧ ws.length ≤ LIM := by
  cases q with
  | lst e1 n r l => simp only [lsqOf, Option.some.injEq] at e; subst e; exact ⟨_, _, rfl, .inl (.inl e1), r, l⟩
  | @ref n a e1 =>
    simp only [lsqOf] at e
    split at e
    · rename_i xs hx
      cases e
      obtain ⟨vs, h1, h2, h3⟩ := r.at e1 hx
      exact ⟨_, vs, rfl, .inl (.inl h1), h2, h3⟩
    · rename_i xs hx
      cases e
      obtain ⟨o, vs, h1, h2, h3⟩ := r.at e1 hx
      exact ⟨_, vs, rfl, .inl (.inr ⟨o, h1⟩), h2, h3⟩
    · cases e
  | @scr a ns e1 l =>
    simp only [lsqOf, Option.some.injEq] at e
    subst e
    refine ⟨a, _, rfl, ?_, RWs.ints ns, by rw [List.length_map]; exact Nat.le_trans l (by decide)⟩
    rcases e1 with ⟨e1, _⟩ | e1
    · exact .inl e1
    · exact .inr e1
  | _ => cases e
theorem Rep.lst (r : Rep I ι h H) {w : W} {v : V} {ws : List W} (q : RW I ι H w v) (e : lstOf h w = some ws) : ∃ p vs, v = .ref p ∧ H p = some (.lst vs) ∧ RWs I ι H ws vs ∧ ws.length ≤ LIM := by
  cases q with
  | lst e1 n r l => simp only [lstOf, Option.some.injEq] at e; subst e; exact ⟨_, _, rfl, e1, r, l⟩
  | @ref n a e1 =>
    simp only [lstOf] at e
    split at e
    · rename_i xs hx
      cases e
      obtain ⟨vs, h1, h2, h3⟩ := r.at e1 hx
      exact ⟨_, vs, rfl, h1, h2, h3⟩
    · cases e
  | _ => cases e
theorem Rep.dic (r : Rep I ι h H) {w : W} {v : V} {ks : List (W × W)} (q : RW I ι H w v) (e : dicOf h w = some ks) : ∃ p ls, v = .ref p ∧ Rd H p (.dK ls) ∧ RKV I ι H ks ls ∧ ks.length ≤ LIM := by
  cases q with
  | @ref n a e1 =>
    simp only [dicOf] at e
    split at e
    · rename_i xs hx
      cases e
      obtain ⟨vs, h1, h2, h3, _⟩ := r.at e1 hx
      exact ⟨_, vs, rfl, .inl h1, h2, h3⟩
    · rename_i xs hx
      cases e
      obtain ⟨o, vs, h1, h2, h3, _⟩ := r.at e1 hx
      exact ⟨_, vs, rfl, .inr ⟨o, h1⟩, h2, h3⟩
    · cases e
  | _ => cases e
theorem Rep.ins (r : Rep I ι h H) {w : W} {v : V} {c : Nat} {fs : List (Nat × W)} (q : RW I ι H w v) (e : insOf h w = some (c, fs)) : ∃ n p dx ls, w = .ref n ∧ ι.own[n]? = some p ∧ v = .ref p ∧ H p = some (.ins (I.ca c) dx ls) ∧ RF I ι H fs ls ∧ fs.length ≤ 900 ∧ I.isC c = true ∧ h[n]? = some (.ins c fs) := by
  cases q with
  | @ref n a e1 =>
    simp only [insOf] at e
    split at e
    · rename_i c' xs hx
      cases e
      obtain ⟨dx, vs, h1, h2, h3, h4⟩ := r.at e1 hx
      exact ⟨n, _, dx, vs, rfl, e1, rfl, h1, h2, h3, h4, hx⟩
    · cases e
  | _ => cases e

/-! ### fields -/
theorem RF.look (nd : I.fl.Nodup) {f : Nat} {n : Str} (hn : I.fl[f]? = some n) : ∀ {fs : List (Nat × W)} {ls : List (Str × V)} {w : W}, RF I ι H fs ls → look fs f = some w → ∃ v, ls.lookup n = some v ∧ RW I ι H w v
  | [], _, _, .nil, e => by simp [Z.look] at e
  | (g, u) :: fs, (m, v) :: ls, w, .cons ⟨q1, q2⟩ r, e => by
    simp only [Z.look] at e
    simp only at q1 q2
    by_cases hg : g = f
    · rw [if_pos hg] at e
      cases e
      rw [hg, hn] at q1
      cases q1
      exact ⟨v, by simp, q2⟩
    · rw [if_neg hg] at e
      obtain ⟨v', h1, h2⟩ := RF.look nd hn r e
      have hm : (n == m) = false := by
        apply beq_eq_false_iff_ne.mpr
        intro z
        exact hg (nd_ix nd (z ▸ q1) hn)
      exact ⟨v', by rw [List.lookup_cons, hm]; exact h1, h2⟩
theorem RF.no {m : Str} (hm : m ∉ I.fl) : ∀ {fs : List (Nat × W)} {ls : List (Str × V)}, RF I ι H fs ls → ls.lookup m = none
  | [], _, .nil => rfl
  | (g, u) :: fs, (k, v) :: ls, .cons ⟨q1, q2⟩ r => by
    have hk : (m == k) = false := by
      apply beq_eq_false_iff_ne.mpr
      intro z
      exact hm (by rw [z]; exact List.mem_of_getElem? q1)
    rw [List.lookup_cons, hk]
    exact RF.no hm r
theorem RF.put (nd : I.fl.Nodup) {f : Nat} {n : Str} (hn : I.fl[f]? = some n) {w : W} {v : V} (rw' : RW I ι H w v) : ∀ {fs : List (Nat × W)} {ls : List (Str × V)}, RF I ι H fs ls → RF I ι H (putf fs f w) (putF n v ls)
  | [], _, .nil => .cons ⟨hn, rw'⟩ .nil
  | (g, u) :: fs, (k, x) :: ls, .cons ⟨q1, q2⟩ r => by
    simp only at q1 q2
    unfold putf putF
    by_cases hg : g = f
    · have hk : k = n := by
        rw [hg, hn] at q1
        exact (Option.some.inj q1).symm
      rw [if_pos hg, if_pos hk]
      exact .cons ⟨by show I.fl[f]? = some k; rw [hk]; exact hn, rw'⟩ r
    · have hk : ¬ k = n := fun z => hg (nd_ix nd (z ▸ q1) hn)
      rw [if_neg hg, if_neg hk]
      exact .cons ⟨q1, q2⟩ (RF.put nd hn rw' r)
theorem RF.len {fs : List (Nat × W)} {ls : List (Str × V)} (r : RF I ι H fs ls) : fs.length = ls.length := Paired.length r
/-! ### keys -/
theorem isKey_kV {ι : Pl} {w : W} {v : V} (r : RW I ι H w v) (k : isKey w = true) : ∃ y : Key, v = kV y ∧ RK w y := by
  cases r <;> simp [isKey] at k
  · exact ⟨.inl _, rfl, rfl⟩
  · exact ⟨.inr _, rfl, rfl⟩
theorem keyE_iff {a b : W} {x y : Key} (ra : RK a x) (rb : RK b y) : keyE a b = decide (x = y) := by
  cases a <;> cases x <;> simp [RK] at ra <;> cases b <;> cases y <;> simp [RK] at rb <;> subst ra <;> subst rb <;> simp [keyE]
theorem RKV.get {k : W} {y : Key} (rk : RK k y) : ∀ {ks : List (W × W)} {ls : List (Key × V)}, RKV I ι H ks ls → (dget ks k = none ∧ valV ls y = none) ∨ ∃ w v, dget ks k = some w ∧ valV ls y = some v ∧ RW I ι H w v
  | [], _, .nil => .inl ⟨rfl, rfl⟩
  | (j, w) :: ks, (z, v) :: ls, .cons ⟨q1, q2⟩ r => by
    simp only at q1 q2
    have e := keyE_iff q1 rk
    unfold dget
    by_cases hz : z = y
    · rw [e, decide_eq_true hz, if_pos rfl]
      refine .inr ⟨w, v, rfl, ?_, q2⟩
      unfold valV
      rw [List.find?_cons, decide_eq_true hz]
      rfl
    · rw [e, decide_eq_false hz, if_neg Bool.false_ne_true]
      have ev : valV ((z, v) :: ls) y = valV ls y := by
        unfold valV
        rw [List.find?_cons, decide_eq_false hz]
      rw [ev]
      exact RKV.get rk r
theorem putK_cons {z y : Key} {v u : V} {ls : List (Key × V)} (hnd : z ∉ ls.map (·.1)) : putK ((z, v) :: ls) y u = if z = y then (z, u) :: ls else (z, v) :: putK ls y u := by
  unfold putK
  by_cases hz : z = y
  · subst hz
    rw [if_pos rfl, List.any_cons, decide_eq_true rfl, Bool.true_or, if_pos rfl, List.map_cons, if_pos rfl]
    congr 1
    rw [List.map_congr_left (g := id), List.map_id]
    intro p hp
    rw [if_neg fun e => hnd (List.mem_map.mpr ⟨p, hp, e⟩)]
    rfl
  · rw [if_neg hz, List.any_cons, decide_eq_false hz, Bool.false_or]
    split
    · rw [List.map_cons, if_neg hz]
    · rfl
theorem RKV.put {k : W} {y : Key} (rk : RK k y) {w : W} {v : V} (rw' : RW I ι H w v) : ∀ {ks : List (W × W)} {ls : List (Key × V)}, (ls.map (·.1)).Nodup → RKV I ι H ks ls → RKV I ι H (dput ks k w) (putK ls y v)
  | [], _, _, .nil => .cons ⟨rk, rw'⟩ .nil
  | (j, u) :: ks, (z, x) :: ls, nd, .cons ⟨q1, q2⟩ r => by
    simp only at q1 q2
    have nd' : (z :: ls.map (·.1)).Nodup := nd
    obtain ⟨n1, n2⟩ := List.nodup_cons.mp nd'
    rw [putK_cons n1]
    unfold dput
    rw [keyE_iff q1 rk]
    by_cases hz : z = y
    · rw [decide_eq_true hz, if_pos rfl, if_pos hz]
      exact .cons ⟨q1, rw'⟩ r
    · rw [decide_eq_false hz, if_neg Bool.false_ne_true, if_neg hz]
      exact .cons ⟨q1, q2⟩ (RKV.put rk rw' n2 r)
end
end Z
namespace Z
open PySem
/-- that is read without a change -/
def simp : E → Bool
  | .var _ => true
  | .fld a _ => simp a
  | _ => false
structure FnI where
  x : Str
  glob : Bool
  ps : List Str
structure Tb where
  fn : Nat → Option FnI
  cls : Nat → Option Str
  fl : List Str
  mth : Nat → Str
  blt : List Str
def plain : Expr → Bool
  | .Name .. | .Constant .. | .BinOp .. | .Compare .. | .BoolOp .. | .UnaryOp .. | .IfExp .. | .Tuple .. | .List .. | .Dict .. | .Subscript .. | .Attribute .. | .Call .. | .ListComp .. => true
  | _ => false
def plainB : Expr → Bool
  | .Name .. | .Subscript .. | .Attribute .. => true
  | .Call (.Attribute ..) _ _ _ => true
  | .Call (.Name ..) (_ :: _) _ _ => true
  | _ => false
def vis (sc : Scope) (x : Str) : Bool := match sc.names.lookup x with
  | some .local => true
  | some .cell => true
  | some .free => true
  | _ => false
def glb (sc : Scope) (x : Str) : Bool := match sc.names.lookup x with
  | some .globalImplicit => true
  | _ => false
def okN (x : Str) : Bool := !(x == ("__debug__" : Str)) && !(x == ("__classdict__" : Str))
def opR : Op → Operator
  | .add => .Add | .sub => .Sub | .mul => .Mult | .fdiv => .FloorDiv | .mod => .Mod | .pow => .Pow
def cmR : Cm → CmpOp
  | .lt => .Lt | .le => .LtE | .gt => .Gt | .ge => .GtE
section
variable (T : Tb) (N : List Str)
def isB (sc : Scope) (n x : Str) : Bool := decide (x = n) && glb sc n && T.blt.contains n
def chkN (sc : Scope) (i : Nat) (x : Str) : Bool := decide (N[i]? = some x) && vis sc x && okN x
/-- a target's name: the def's own, or the block's -/
def locK (fn : Str → Bool) (sc : Scope) (x : Str) : Bool := match sc.names.lookup x with
  | some .local => true
  | some .cell => fn x
  | _ => false
def chkL (fn : Str → Bool) (sc : Scope) (i : Nat) (x : Str) : Bool := decide (N[i]? = some x) && locK fn sc x
def chkNs (fn : Str → Bool) (sc : Scope) : List Nat → List Expr → Bool
  | [], es => match es with | [] => true | _ => false
  | i :: is, es => match es with
    | .Name x _ :: es => chkL N fn sc i x && chkNs fn sc is es
    | _ => false
def chkG (fn : Str → Bool) (sc : Scope) : G → Expr → Bool
  | .name i, e => match e with | .Name x _ => chkL N fn sc i x | _ => false
  | .tup is, e => match e with | .Tuple es _ _ => chkNs N fn sc is es | _ => false
/-- the target's names are the block's own -/
def gIn (g : G) (own : List Nat) : Bool := match g with | .name i => own.contains i | .tup is => is.all own.contains
mutual
def chk : E → Scope → Expr → Bool
  | .nev, _, _ => true
  | .var i, sc, e => match e with | .Name x _ => chkN N sc i x | _ => false
  | .int i, _, e => match e with | .Constant (.int j) _ _ => decide (i = j) | _ => false
  | .bl i, _, e => match e with | .Constant (.bool j) _ _ => decide (i = j) | _ => false
  | .non, _, e => match e with | .Constant .none _ _ => true | _ => false
  | .str i, _, e => match e with | .Constant (.str j) _ _ => decide (i = j) | _ => false
  | .bin o a b, sc, e => match e with | .BinOp x p y _ => decide (p = opR o) && chk a sc x && chk b sc y | _ => false
  | .cmp c a b, sc, e => match e with | .Compare x [p] [y] _ => decide (p = cmR c) && chk a sc x && chk b sc y | _ => false
  | .chain c d a b f, sc, e => match e with | .Compare x [p, q] [y, z] _ => decide (p = cmR c) && decide (q = cmR d) && chk a sc x && chk b sc y && chk f sc z | _ => false
  | .eqI n a b, sc, e => match e with | .Compare x [p] [y] _ => decide (p = if n then .NotEq else .Eq) && chk a sc x && chk b sc y | _ => false
  | .eqD n a b, sc, e => match e with | .Compare x [p] [y] _ => decide (p = if n then .NotEq else .Eq) && chk a sc x && chk b sc y | _ => false
  | .isN n a, sc, e => match e with | .Compare x [p] [.Constant .none _ _] _ => decide (p = if n then .IsNot else .Is) && chk a sc x | _ => false
  | .not a, sc, e => match e with | .UnaryOp .Not x _ => chk a sc x | _ => false
  | .and es, sc, e => match e with | .BoolOp .And xs _ => chks es sc xs | _ => false
  | .or es, sc, e => match e with | .BoolOp .Or xs _ => chks es sc xs | _ => false
  | .ite c a b, sc, e => match e with | .IfExp x y z _ => chk c sc x && chk a sc y && chk b sc z | _ => false
  | .tup es, sc, e => match e with | .Tuple xs _ _ => chks es sc xs && decide (xs.length ≤ 1000) | _ => false
  | .lst _ es, sc, e => match e with | .List xs _ => chks es sc xs && decide (xs.length ≤ 1000) | _ => false
  | .dic, _, e => match e with | .Dict [] [] _ => true | _ => false
  | .ix a i, sc, e => match e with | .Subscript x y _ => plain y && chk a sc x && chk i sc y | _ => false
  | .dix a i, sc, e => match e with | .Subscript x y _ => plain y && chk a sc x && chk i sc y | _ => false
  | .slL _ a lo hi, sc, e => match e with | .Subscript x (.Slice l u none _) _ => chk a sc x && chko lo sc l && chko hi sc u | _ => false
  | .slT a lo hi, sc, e => match e with | .Subscript x (.Slice l u none _) _ => chk a sc x && chko lo sc l && chko hi sc u | _ => false
  | .fld a f, sc, e => match e with | .Attribute x n _ => decide (T.fl[f]? = some n) && plainB x && chk a sc x | _ => false
  | .inS n a b, sc, e => match e with | .Compare x [p] [y] _ => decide (p = if n then .NotIn else .In) && plain y && chk a sc x && chk b sc y | _ => false
  | .inD n a b, sc, e => match e with | .Compare x [p] [y] _ => decide (p = if n then .NotIn else .In) && plain y && chk a sc x && chk b sc y | _ => false
  | .catL _ a b, sc, e => match e with | .BinOp x p y _ => decide (p = .Add) && chk a sc x && chk b sc y | _ => false
  | .catT a b, sc, e => match e with | .BinOp x p y _ => decide (p = .Add) && chk a sc x && chk b sc y | _ => false
  | .rep _ a b, sc, e => match e with | .BinOp x p y _ => decide (p = .Mult) && chk a sc x && chk b sc y | _ => false
  | .len a, sc, e => match e with | .Call (.Name n _) [x] [] _ => isB T sc "len" n && plain x && chk a sc x | _ => false
  | .lenD a, sc, e => match e with | .Call (.Name n _) [x] [] _ => isB T sc "len" n && plain x && chk a sc x | _ => false
  | .max2 a b, sc, e => match e with | .Call (.Name n _) [x, y] [] _ => isB T sc "max" n && plain x && plain y && chk a sc x && chk b sc y | _ => false
  | .min2 a b, sc, e => match e with | .Call (.Name n _) [x, y] [] _ => isB T sc "min" n && plain x && plain y && chk a sc x && chk b sc y | _ => false
  | .abs a, sc, e => match e with | .Call (.Name n _) [x] [] _ => isB T sc "abs" n && plain x && chk a sc x | _ => false
  | .toInt a, sc, e => match e with | .Call (.Name n _) [x] [] _ => isB T sc "int" n && plain x && chk a sc x | _ => false
  | .toTup a, sc, e => match e with | .Call (.Name n _) [x] [] _ => isB T sc "tuple" n && plain x && chk a sc x | _ => false
  | .toLst _ a, sc, e => match e with | .Call (.Name n _) [x] [] _ => isB T sc "list" n && plain x && chk a sc x | _ => false
  | .call f es, sc, e => match e, T.fn f with | .Call (.Name n _) xs [] _, some i => i.glob && decide (n = i.x) && glb sc n && okN n && decide (xs.length = i.ps.length) && chks es sc xs | _, _ => false
  | .make c es, sc, e => match e, T.cls c with | .Call (.Name n _) xs [] _, some x => decide (n = x) && glb sc n && okN n && chks es sc xs | _, _ => false
  | .meth a m es, sc, e => match e with | .Call (.Attribute o n ap) xs [] ps => (ap.endLine == ps.line) && decide (xs.length < 30) && decide (n = T.mth m) && !T.fl.contains n && plainB o && chk a sc o && chks es sc xs | _ => false
  | .comp a g it c own, sc, e => match e with
    | .ListComp x [⟨tg, iter, ifs, 0⟩] scope _ =>
      L2.blkC N sc scope (own.map fun i => (N.getD i Str.empty, i)) && chkI it sc iter tg && chkG N (fun x => scope.names.lookup x == some .cell) (L2.relS scope sc) g tg && chkc c (L2.relS scope sc) ifs && chk a (L2.relS scope sc) x
        && gIn g own
    | _ => false
  | .compM a g it c own, sc, e => match e with
    | .ListComp x [⟨tg, iter, ifs, 0⟩] scope _ =>
      L2.blkC N sc scope (own.map fun i => (N.getD i Str.empty, i)) && chkI it sc iter tg && chkG N (fun x => scope.names.lookup x == some .cell) (L2.relS scope sc) g tg && chkc c (L2.relS scope sc) ifs && chk a (L2.relS scope sc) x
        && gIn g own
    | _ => false
def chks : Es → Scope → List Expr → Bool
  | .nil, _, es => match es with | [] => true | _ => false
  | .cons a r, sc, es => match es with | x :: xs => plain x && chk a sc x && chks r sc xs | _ => false
def chko : Eo → Scope → Option Expr → Bool
  | .none, _, e => match e with | none => true | _ => false
  | .some a, sc, e => match e with | some x => plain x && chk a sc x | _ => false
def chkc : Eo → Scope → List Expr → Bool
  | .none, _, e => match e with | [] => true | _ => false
  | .some a, sc, e => match e with | [x] => plain x && chk a sc x | _ => false
def chkI : I → Scope → Expr → Expr → Bool
  | .seq a, sc, e, _ => plain e && chk a sc e
  | .seqR a, sc, e, _ => simp a && plain e && chk a sc e
  | .rng a, sc, e, _ => match e with | .Call (.Name n _) [x] [] _ => isB T sc "range" n && plain x && chk a sc x | _ => false
  | .rng2 a b, sc, e, _ => match e with | .Call (.Name n _) [x, y] [] _ => isB T sc "range" n && plain x && plain y && chk a sc x && chk b sc y | _ => false
  | .keys a, sc, e, _ => simp a && plain e && chk a sc e
end
/-! ### statements -/
def isLc : Expr → Bool
  | .ListComp .. => true
  | _ => false
def isTp (sc : Scope) (es : List Expr) : Expr → Bool
  | .Tuple vs _ _ => (es.length == 2 || es.length == 3) && !(es.any fun | .Name x _ => !(sc.names.lookup x == some .local) | _ => true) && !(vs.all (foldedForSure 8))
  | _ => false
/-- the comprehension's own names are not the target -/
def lcSet (sc : Scope) (y : Str) (l : Nat) (v : Expr) : Bool := match v with
  | .ListComp _ _ scope p => (l == p.line) && decide (sc.names.lookup y = some .local) && !(scope.names.any fun (n, k) => n == y && (k == .local || k == .cell))
  | _ => true
def locL (sc : Scope) (i : Nat) (x : Str) : Bool := decide (N[i]? = some x) && decide (sc.names.lookup x = some .local)
mutual
def chkS (fn : Str → Bool) (sc : Scope) : S → Stmt → Bool
  | .set (.name i) e, st => match st with | .Assign [.Name y py] v _ => plain v && chk T N e sc v && chkL N fn sc i y && lcSet sc y py.line v | _ => false
  | .set (.tup is) e, st => match st with | .Assign [.Tuple es _ _] v _ => plain v && !isLc v && !isTp sc es v && chk T N e sc v && chkNs N fn sc is es | _ => false
  | .set (.fld a f) e, st => match st with | .Assign [.Attribute o n _] v _ => plain v && chk T N e sc v && decide (T.fl[f]? = some n) && chk T N a sc o | _ => false
  | .set (.sub a i) e, st => match st with | .Assign [.Subscript o x _] v _ => plain v && chk T N e sc v && plain x && chk T N a sc o && chk T N i sc x | _ => false
  | .set (.dsub a i) e, st => match st with | .Assign [.Subscript o x _] v _ => plain v && chk T N e sc v && plain x && chk T N a sc o && chk T N i sc x | _ => false
  | .par i j a b, st => match st with | .Assign [.Tuple [.Name x px, .Name y py] _ _] (.Tuple [u, w] _ _) _ => decide (i ≠ j) && locL N sc i x && locL N sc j y && decide (x ≠ y) && (py.line == px.line) && plain u && plain w && !([u, w].all (foldedForSure 8)) && !([u, w].all (constantsAlone 8)) && chk T N a sc u && chk T N b sc w | _ => false
  | .par3 i j l a b c, st => match st with | .Assign [.Tuple [.Name x px, .Name y py, .Name z pz] _ _] (.Tuple [u, v, w] _ _) _ => decide (i ≠ j) && decide (i ≠ l) && decide (j ≠ l) && locL N sc i x && locL N sc j y && locL N sc l z && decide (x ≠ y) && decide (x ≠ z) && decide (y ≠ z) && (py.line == px.line) && (pz.line == px.line) && plain u && plain v && plain w && !([u, v, w].all (foldedForSure 8)) && !([u, v, w].all (constantsAlone 8)) && chk T N a sc u && chk T N b sc v && chk T N c sc w | _ => false
  | .augN i o e, st => match st with | .AugAssign (.Name x _) p v _ => decide (o ≠ .pow) && decide (p = opR o) && chkL N fn sc i x && chk T N e sc v | _ => false
  | .augF a f o e, st => match st with | .AugAssign (.Attribute ob n _) p v _ => decide (o ≠ .pow) && decide (p = opR o) && decide (T.fl[f]? = some n) && chk T N a sc ob && chk T N e sc v | _ => false
  | .extF a f e, st => match st with | .AugAssign (.Attribute ob n _) p v _ => decide (p = .Add) && decide (T.fl[f]? = some n) && chk T N a sc ob && chk T N e sc v | _ => false
  | .ret e, st => match st with | .Return (some v) _ => chk T N e sc v | _ => false
  | .retN, st => match st with | .Return none _ => true | _ => false
  | .expr e, st => match st with | .Expr v _ => plain v && !isLc v && chk T N e sc v | _ => false
  | .pass, st => match st with | .Pass _ => true | _ => false
  | .ite c t e, st => match st with | .If x p q _ => chk T N c sc x && chkSs fn sc t p && chkSs fn sc e q | _ => false
  | .loop g it b, st => match st with | .For tg iter body [] _ => chkI T N it sc iter tg && chkG N fn sc g tg && chkSs fn sc b body | _ => false
  | .whl c b, st => match st with | .While x body [] _ => chk T N c sc x && chkSs fn sc b body | _ => false
  | .brk, st => match st with | .Break _ => true | _ => false
  | .cont, st => match st with | .Continue _ => true | _ => false
  | .append a e, st => match st with | .Expr (.Call (.Attribute o n ap) [x] [] cp) _ => decide (n = "append") && (ap.endLine == cp.line) && plainB o && plain x && chk T N a sc o && chk T N e sc x | _ => false
  | .raise _, _ => false
  | .nev, _ => true
def chkSs (fn : Str → Bool) (sc : Scope) : Ss → List Stmt → Bool
  | .nil, st => match st with | [] => true | _ => false
  | .cons a r, st => match st with | x :: xs => chkS fn sc a x && chkSs fn sc r xs | _ => false
end
end
end Z
namespace Z
open PySem PySem.Spec L2

section
variable (I : Inf)
def RS (ι : Pl) (H : Hp) (σc : Env) (σ : St) : Prop := σc.length = σ.length ∧ ∀ (i : Nat) (w : W), σc[i]? = some (some w) → ∃ v, σ[i]? = some (some v) ∧ RW I ι H w v
/-- what is wanted of a value's end, of an exception -/
def Pv (ι : Pl) (H : Hp) (Q : VK) (w : W) (h' : EH) : Prop := ∀ ι' H' v, Ext ι H ι' H' → Rep I ι' h' H' → RW I ι' H' w v → Q v H'
def Px (ι : Pl) (H : Hp) (Wx : XK) (c : Nat) (h' : EH) : Prop := ∀ ι' H', Ext ι H ι' H' → Rep I ι' h' H' → Wx (.ref (I.ca c)) none H'
def Pvs (ι : Pl) (H : Hp) (Q : List V → Hp → Prop) (ws : List W) (h' : EH) : Prop := ∀ ι' H' vs, Ext ι H ι' H' → Rep I ι' h' H' → RWs I ι' H' ws vs → Q vs H'
def Pb (ι : Pl) (H : Hp) (Q : Bool → Hp → Prop) (b : Bool) (h' : EH) : Prop := ∀ ι' H', Ext ι H ι' H' → Rep I ι' h' H' → Q b H'
def Po (ι : Pl) (H : Hp) (Q : Option Int → Hp → Prop) (b : Option Int) (h' : EH) : Prop := ∀ ι' H', Ext ι H ι' H' → Rep I ι' h' H' → Q b H'
/-- the readings -/
def tE (f : Env → EH → T W) (Wx : XK) : TE := fun σ H Q => ∃ ι h σc, RS I ι H σc σ ∧ Rep I ι h H ∧ (f σc h).All (Pv I ι H Q) (Px I ι H Wx)
def tA (f : Env → EH → T (List W)) (Wx : XK) : TA := fun σ H Q => ∃ ι h σc, RS I ι H σc σ ∧ Rep I ι h H ∧ (f σc h).All (Pvs I ι H Q) (Px I ι H Wx)
def tB (f : Env → EH → T Bool) (Wx : XK) : TT := fun σ H Q => ∃ ι h σc, RS I ι H σc σ ∧ Rep I ι h H ∧ (f σc h).All (Pb I ι H Q) (Px I ι H Wx)
def tOo (f : Env → EH → T (Option Int)) (Wx : XK) : TO := fun σ H Q => ∃ ι h σc, RS I ι H σc σ ∧ Rep I ι h H ∧ (f σc h).All (Po I ι H Q) (Px I ι H Wx)
end
section
variable {I : Inf} {ι ι' : Pl} {H H' : Hp} {h h' : EH} {σc : Env} {σ : St} {Wx : XK} {Q : VK}
theorem RS.ext (r : RS I ι H σc σ) (a : Ext ι H ι' H') : RS I ι' H' σc σ := ⟨r.1, fun i w e => by
  obtain ⟨v, h1, h2⟩ := r.2 i w e
  exact ⟨v, h1, h2.ext a⟩⟩
theorem RS.mo (r : RS I ι H σc σ) (a : Mo ι H ι' H') : RS I ι' H' σc σ := ⟨r.1, fun i w e => by
  obtain ⟨v, h1, h2⟩ := r.2 i w e
  exact ⟨v, h1, h2.mo a.toMw⟩⟩
theorem RS.set (r : RS I ι H σc σ) {i : Nat} {w : W} {v : V} (rw' : RW I ι H w v) : RS I ι H (σc.set i (some w)) (σ.set i (some v)) := by
  refine ⟨by simp [r.1], fun j u e => ?_⟩
  by_cases hj : i = j
  · subst hj
    have hl : i < σc.length := by
      have := (List.getElem?_eq_some_iff.mp e).1
      simpa using this
    rw [List.getElem?_set_self hl] at e
    cases e
    exact ⟨v, by rw [List.getElem?_set_self (by rw [← r.1]; exact hl)], rw'⟩
  · rw [List.getElem?_set_ne hj] at e
    obtain ⟨v', h1, h2⟩ := r.2 j u e
    exact ⟨v', by rw [List.getElem?_set_ne hj]; exact h1, h2⟩
theorem RS.wipe (r : RS I ι H σc σ) : ∀ own : List Nat, RS I ι H (wipeE σc own) (wipe σ own)
  | [] => r
  | i :: own => by
    have q := RS.wipe r own
    unfold wipeE L2.wipe
    refine ⟨by simp [q.1], fun j u e => ?_⟩
    by_cases hj : i = j
    · subst hj
      by_cases hl : i < (wipeE σc own).length
      · rw [List.getElem?_set_self hl] at e; cases e
      · rw [List.getElem?_eq_none (by simpa using hl)] at e; cases e
    · rw [List.getElem?_set_ne hj] at e
      obtain ⟨v', h1, h2⟩ := q.2 j u e
      exact ⟨v', by rw [List.getElem?_set_ne hj]; exact h1, h2⟩
theorem later {t : T W} (q : t.All (Pv I ι H Q) (Px I ι H Wx)) (a : Ext ι H ι' H') : t.All (Pv I ι' H' Q) (Px I ι' H' Wx) :=
  q.mono (fun _ _ k ι'' H'' v e => k ι'' H'' v (a.trans e)) fun _ _ k ι'' H'' e => k ι'' H'' (a.trans e)
theorem lates {Q : List V → Hp → Prop} {t : T (List W)} (q : t.All (Pvs I ι H Q) (Px I ι H Wx)) (a : Ext ι H ι' H') : t.All (Pvs I ι' H' Q) (Px I ι' H' Wx) :=
  q.mono (fun _ _ k ι'' H'' v e => k ι'' H'' v (a.trans e)) fun _ _ k ι'' H'' e => k ι'' H'' (a.trans e)
theorem laterB {Q : Bool → Hp → Prop} {t : T Bool} (q : t.All (Pb I ι H Q) (Px I ι H Wx)) (a : Ext ι H ι' H') : t.All (Pb I ι' H' Q) (Px I ι' H' Wx) :=
  q.mono (fun _ _ k ι'' H'' e => k ι'' H'' (a.trans e)) fun _ _ k ι'' H'' e => k ι'' H'' (a.trans e)
theorem laterO {Q : Option Int → Hp → Prop} {t : T (Option Int)} (q : t.All (Po I ι H Q) (Px I ι H Wx)) (a : Ext ι H ι' H') : t.All (Po I ι' H' Q) (Px I ι' H' Wx) :=
  q.mono (fun _ _ k ι'' H'' e => k ι'' H'' (a.trans e)) fun _ _ k ι'' H'' e => k ι'' H'' (a.trans e)
/-- a part is evaluated, then the rest; the rest's wish is any that stays true later -/
theorem goE {α : Type} {f : Env → EH → T W} {k : W → EH → T α} {P : Pl → Hp → α → EH → Prop} (hP : ∀ {ι1 H1 a h}, Ext ι H ι1 H1 → P ι H a h → P ι1 H1 a h) (rs : RS I ι H σc σ) (rp : Rep I ι h H)
    (q : ((f σc h).bind k).All (P ι H) (Px I ι H Wx)) {R : VK}
    (c : ∀ ι1 H1 h1 w v, Ext ι H ι1 H1 → RS I ι1 H1 σc σ → Rep I ι1 h1 H1 → RW I ι1 H1 w v → (k w h1).All (P ι1 H1) (Px I ι1 H1 Wx) → R v H1) : tE I f Wx σ H R := by
  refine ⟨ι, h, σc, rs, rp, (T.All.bind q).mono (fun w h1 q1 ι1 H1 v e rp1 rw1 => c ι1 H1 h1 w v e (rs.ext e) rp1 rw1 ?_) fun _ _ z => z⟩
  exact q1.mono (fun _ _ z => hP e z) fun _ _ z ι2 H2 e2 => z ι2 H2 (e.trans e2)
theorem goV {f : Env → EH → T W} {k : W → EH → T W} (rs : RS I ι H σc σ) (rp : Rep I ι h H) (q : ((f σc h).bind k).All (Pv I ι H Q) (Px I ι H Wx)) {R : VK}
    (c : ∀ ι1 H1 h1 w v, Ext ι H ι1 H1 → RS I ι1 H1 σc σ → Rep I ι1 h1 H1 → RW I ι1 H1 w v → (k w h1).All (Pv I ι1 H1 Q) (Px I ι1 H1 Wx) → R v H1) : tE I f Wx σ H R :=
  goE (P := fun ι H => Pv I ι H Q) (fun e z ι2 H2 v e2 => z ι2 H2 v (e.trans e2)) rs rp q c
/-- the end: a value -/
theorem fin {w : W} {v : V} (q : (T.ok w h).All (Pv I ι H Q) (Px I ι H Wx)) (rp : Rep I ι h H) (r : RW I ι H w v) : Q v H := q ι H v Ext.refl rp r
theorem finO {o : Option W} (q : (ofO o h).All (Pv I ι H Q) (Px I ι H Wx)) (rp : Rep I ι h H) : ∃ w, o = some w ∧ ∀ v, RW I ι H w v → Q v H := by
  cases o with
  | none => exact q.elim
  | some w => exact ⟨w, rfl, fun v r => fin q rp r⟩
end

section
variable {X : Cx} {I : Inf} {Wx : XK} {a b c e : Expr} {fa fb fc : Env → EH → T W} {pos : Pos}
theorem s_op {op : Operator} {g : W → W → EH → T W} {r : R2} (ho : OpR X (binaryOp op) r) (ha : PE X a (tE I fa Wx)) (hb : PE X b (tE I fb Wx))
    (hk : ∀ ι h H Q w1 w2 v1 v2, Rep I ι h H → RW I ι H w1 v1 → RW I ι H w2 v2 → (g w1 w2 h).All (Pv I ι H Q) (Px I ι H Wx) → r v1 v2 H Q) :
    PE X (.BinOp a op b pos) (tE I (fun σ h => (fa σ h).bind fun x h => (fb σ h).bind fun y h => g x y h) Wx) := by
  refine ⟨fun pins s σ H Q J ⟨ι, h, σc, rs, rp, q⟩ => (pe_op ho ha hb).run pins s σ H Q J ?_⟩
  refine goV rs rp q fun ι1 H1 h1 w1 v1 e1 rs1 rp1 r1 q1 => ?_
  refine goV rs1 rp1 q1 fun ι2 H2 h2 w2 v2 e2 rs2 rp2 r2 q2 => ?_
  exact hk ι2 h2 H2 Q w1 w2 v1 v2 rp2 (r1.ext e2) r2 q2
theorem s_cm {op : CmpOp} {g : W → W → EH → T W} {r : R2} (ho : OpR X (compareOp op) r) (ha : PE X a (tE I fa Wx)) (hb : PE X b (tE I fb Wx)) (hm : behindInMarks op b = false)
    (hk : ∀ ι h H Q w1 w2 v1 v2, Rep I ι h H → RW I ι H w1 v1 → RW I ι H w2 v2 → (g w1 w2 h).All (Pv I ι H Q) (Px I ι H Wx) → r v1 v2 H Q) :
    PE X (.Compare a [op] [b] pos) (tE I (fun σ h => (fa σ h).bind fun x h => (fb σ h).bind fun y h => g x y h) Wx) ∧
    PT X (.Compare a [op] [b] pos) (tTest (tE I (fun σ h => (fa σ h).bind fun x h => (fb σ h).bind fun y h => g x y h) Wx)) := by
  have step : ∀ {σ H Q}, tE I (fun σ h => (fa σ h).bind fun x h => (fb σ h).bind fun y h => g x y h) Wx σ H Q → tOp r (tE I fa Wx) (tE I fb Wx) σ H Q := by
    intro σ H Q ⟨ι, h, σc, rs, rp, q⟩
    refine goV rs rp q fun ι1 H1 h1 w1 v1 e1 rs1 rp1 r1 q1 => ?_
    refine goV rs1 rp1 q1 fun ι2 H2 h2 w2 v2 e2 rs2 rp2 r2 q2 => ?_
    exact hk ι2 h2 H2 Q w1 w2 v1 v2 rp2 (r1.ext e2) r2 q2
  exact ⟨⟨fun pins s σ H Q J q => (pe_cmpR ho ha hb hm).run pins s σ H Q J (step q)⟩, ⟨fun pins s σ H Q J q => (pt_cmpR ho ha hb hm).run pins s σ H Q J (step q)⟩⟩
theorem s_bin {o : Op} (ha : PE X a (tE I fa Wx)) (hb : PE X b (tE I fb Wx)) : PE X (.BinOp a (opR o) b pos) (tE I (fun σ h => (fa σ h).bind fun x h => (fb σ h).bind fun y h => ofO (opW o x y) h) Wx) := by
  cases o with
  | add =>
    exact s_op op_add ha hb fun ι h H Q w1 w2 v1 v2 rp r1 r2 q => by
      obtain ⟨w, ew, k⟩ := finO q rp
      cases r1 <;> cases r2 <;> simp [opW] at ew
      subst ew; exact ⟨_, _, rfl, rfl, k _ (.int _)⟩
  | sub =>
    exact s_op op_sub ha hb fun ι h H Q w1 w2 v1 v2 rp r1 r2 q => by
      obtain ⟨w, ew, k⟩ := finO q rp
      cases r1 <;> cases r2 <;> simp [opW] at ew
      subst ew; exact ⟨_, _, rfl, rfl, k _ (.int _)⟩
  | mul =>
    exact s_op op_mul ha hb fun ι h H Q w1 w2 v1 v2 rp r1 r2 q => by
      obtain ⟨w, ew, k⟩ := finO q rp
      cases r1 <;> cases r2 <;> simp only [opW, reduceCtorEq] at ew
      split at ew
      · rename_i hc; cases ew; exact ⟨_, _, rfl, rfl, hc, k _ (.int _)⟩
      · cases ew
  | fdiv =>
    exact s_op op_fdiv ha hb fun ι h H Q w1 w2 v1 v2 rp r1 r2 q => by
      obtain ⟨w, ew, k⟩ := finO q rp
      cases r1 <;> cases r2 <;> simp only [opW, reduceCtorEq] at ew
      split at ew
      · rename_i hc; cases ew; exact ⟨_, _, rfl, rfl, hc, k _ (.int _)⟩
      · cases ew
  | mod =>
    exact s_op op_mod ha hb fun ι h H Q w1 w2 v1 v2 rp r1 r2 q => by
      obtain ⟨w, ew, k⟩ := finO q rp
      cases r1 <;> cases r2 <;> simp only [opW, reduceCtorEq] at ew
      split at ew
      · rename_i hc; cases ew; exact ⟨_, _, rfl, rfl, hc, k _ (.int _)⟩
      · cases ew
  | pow =>
    exact s_op op_pow ha hb fun ι h H Q w1 w2 v1 v2 rp r1 r2 q => by
      obtain ⟨w, ew, k⟩ := finO q rp
      cases r1 <;> cases r2 <;> simp only [opW, reduceCtorEq] at ew
      split at ew
      · rename_i hc; cases ew; exact ⟨_, _, rfl, rfl, ⟨hc.1, by have := hc.2.1; omega, hc.2.2⟩, k _ (.int _)⟩
      · cases ew
theorem cm_int {c : Cm} {ι : Pl} {h : EH} {H : Hp} {Q : VK} {w1 w2 : W} {v1 v2 : V} (rp : Rep I ι h H) (r1 : RW I ι H w1 v1) (r2 : RW I ι H w2 v2) (q : (ofO (cmW c w1 w2) h).All (Pv I ι H Q) (Px I ι H Wx)) :
    rI0 (fun i j => .bl (cmI c i j)) v1 v2 H Q := by
  obtain ⟨w, ew, k⟩ := finO q rp
  cases r1 <;> cases r2 <;> simp [cmW] at ew
  subst ew; exact ⟨_, _, rfl, rfl, k _ (.bl _)⟩
theorem ocm {c : Cm} : OpR X (compareOp (cmR c)) (rI0 fun i j => .bl (cmI c i j)) := by
  cases c with
  | lt => exact op_lt
  | le => exact op_le
  | gt => exact op_gt
  | ge => exact op_ge
theorem nb {c : Cm} (b : Expr) : behindInMarks (cmR c) b = false := nobehind b (by cases c <;> decide) (by cases c <;> decide)
theorem s_cmp {c : Cm} (ha : PE X a (tE I fa Wx)) (hb : PE X b (tE I fb Wx)) :
    PE X (.Compare a [cmR c] [b] pos) (tE I (fun σ h => (fa σ h).bind fun x h => (fb σ h).bind fun y h => ofO (cmW c x y) h) Wx) ∧
    PT X (.Compare a [cmR c] [b] pos) (tTest (tE I (fun σ h => (fa σ h).bind fun x h => (fb σ h).bind fun y h => ofO (cmW c x y) h) Wx)) :=
  s_cm ocm ha hb (nb b) fun ι h H Q w1 w2 v1 v2 rp r1 r2 q => cm_int rp r1 r2 q
theorem finK {α : Type} {w : W} {ι : Pl} {H : Hp} {f : Bool → T α} {P : α → EH → Prop} {E : Nat → EH → Prop} {v : V} (r : RW I ι H w v) (q : (boolK w f).All P E) : ∃ k, w = .bl k ∧ v = .bl k ∧ (f k).All P E := by
  cases r with
  | bl b => exact ⟨b, rfl, rfl, q⟩
  | _ => exact q.elim
theorem s_chain {c d : Cm} {e : Expr} (ha : PE X a (tE I fa Wx)) (hb : PE X b (tE I fb Wx)) (hc : PE X e (tE I fc Wx)) :
    PE X (.Compare a [cmR c, cmR d] [b, e] pos) (tE I (fun σ h => (fa σ h).bind fun x h => (fb σ h).bind fun y h => (ofO (cmW c x y) h).bind fun k h => boolK k fun k => if k then (fc σ h).bind fun z h => ofO (cmW d y z) h else .ok (.bl false) h) Wx) ∧
    PT X (.Compare a [cmR c, cmR d] [b, e] pos) (tTest (tE I (fun σ h => (fa σ h).bind fun x h => (fb σ h).bind fun y h => (ofO (cmW c x y) h).bind fun k h => boolK k fun k => if k then (fc σ h).bind fun z h => ofO (cmW d y z) h else .ok (.bl false) h) Wx)) := by
  have hm : lastMarks [cmR c, cmR d] [b, e] = false := by
    show behindInMarks (cmR d) e = false
    exact nb e
  have step : ∀ {σ H Q}, tE I (fun σ h => (fa σ h).bind fun x h => (fb σ h).bind fun y h => (ofO (cmW c x y) h).bind fun k h => boolK k fun k => if k then (fc σ h).bind fun z h => ofO (cmW d y z) h else .ok (.bl false) h) Wx σ H Q →
      tChain (rI0 fun i j => .bl (cmI c i j)) (rI0 fun i j => .bl (cmI d i j)) (tE I fa Wx) (tE I fb Wx) (tE I fc Wx) σ H Q := by
    intro σ H Q ⟨ι, h, σc, rs, rp, q⟩
    refine goV rs rp q fun ι1 H1 h1 w1 v1 e1 rs1 rp1 r1 q1 => ?_
    refine goV rs1 rp1 q1 fun ι2 H2 h2 w2 v2 e2 rs2 rp2 r2 q2 => ?_
    have r1 := r1.ext e2
    cases r1 <;> cases r2 <;> simp only [cmW, ofO] at q2 <;> first | exact q2.elim | skip
    rename_i i j
    refine ⟨i, j, rfl, rfl, cmI c i j, rfl, ?_⟩
    have q3 := T.All.bind q2
    simp only [T.All, boolK] at q3
    cases hk : cmI c i j with
    | false =>
      rw [hk] at q3
      exact fin q3 rp2 (.bl false)
    | true =>
      rw [hk] at q3
      refine goV rs2 rp2 q3 fun ι3 H3 h3 w3 v3 e3 rs3 rp3 r3 q4 => ?_
      exact cm_int rp3 (.int j) r3 q4
  exact ⟨⟨fun pins s σ H Q J q => (pe_chain ocm ocm ha hb hc hm).run pins s σ H Q J (step q)⟩, ⟨fun pins s σ H Q J q => (pt_chain ocm ocm ha hb hc hm).run pins s σ H Q J (step q)⟩⟩
theorem s_eqI {n : Bool} (ha : PE X a (tE I fa Wx)) (hb : PE X b (tE I fb Wx)) :
    PE X (.Compare a [if n then .NotEq else .Eq] [b] pos) (tE I (fun σ h => (fa σ h).bind fun x h => (fb σ h).bind fun y h => ofO ((eqS x y).map fun k => W.bl (if n then !k else k)) h) Wx) ∧
    PT X (.Compare a [if n then .NotEq else .Eq] [b] pos) (tTest (tE I (fun σ h => (fa σ h).bind fun x h => (fb σ h).bind fun y h => ofO ((eqS x y).map fun k => W.bl (if n then !k else k)) h) Wx)) := by
  have key : ∀ {ι h H w1 w2 v1 v2} {k : Bool}, Rep I ι h H → RW I ι H w1 v1 → RW I ι H w2 v2 → eqS w1 w2 = some k → scal v1 v2 = true ∧ decide (v1 = v2) = k := by
    intro ι h H w1 w2 v1 v2 k rp r1 r2 ek
    cases r1 <;> cases r2 <;> simp [eqS] at ek <;> subst ek <;> simp [scal]
  cases n with
  | false =>
    exact s_cm op_eq ha hb (nobehind b (by decide) (by decide)) fun ι h H Q w1 w2 v1 v2 rp r1 r2 q => by
      obtain ⟨w, ew, k⟩ := finO q rp
      cases hq : eqS w1 w2 with
      | none => rw [hq] at ew; cases ew
      | some kk =>
        rw [hq] at ew; cases ew
        obtain ⟨z1, z2⟩ := key rp r1 r2 hq
        exact ⟨z1, k _ (by rw [z2]; exact .bl _)⟩
  | true =>
    exact s_cm op_ne ha hb (nobehind b (by decide) (by decide)) fun ι h H Q w1 w2 v1 v2 rp r1 r2 q => by
      obtain ⟨w, ew, k⟩ := finO q rp
      cases hq : eqS w1 w2 with
      | none => rw [hq] at ew; cases ew
      | some kk =>
        rw [hq] at ew; cases ew
        obtain ⟨z1, z2⟩ := key rp r1 r2 hq
        exact ⟨z1, k _ (by rw [z2]; exact .bl _)⟩

/-! ### == of data -/
theorem mapO_dp {ι : Pl} {h : EH} {H : Hp} {n : Nat} (ih : ∀ w v d, RW I ι H w v → froz h n w = some d → Dp I.K H v d ∧ d.canLay0 = true ∧ d.depth ≤ n) :
    ∀ {ws vs ds}, RWs I ι H ws vs → mapO (froz h n) ws = some ds → DpAll I.K H vs ds ∧ PyData.canLayAll0 ds = true ∧ PyData.depthAll ds ≤ n
  | [], _, _, .nil, e => by
    simp only [mapO, Option.some.injEq] at e
    subst e
    exact ⟨.nil, by simp [PyData.canLayAll0], by simp [PyData.depthAll]⟩
  | w :: ws, _, _, .cons r rr, e => by
    simp only [mapO] at e
    split at e
    · cases e
    · rename_i d hd
      split at e
      · cases e
      · rename_i ds hds
        cases e
        obtain ⟨a1, a2, a3⟩ := ih _ _ _ r hd
        obtain ⟨b1, b2, b3⟩ := mapO_dp ih rr hds
        exact ⟨.cons a1 b1, by simp [PyData.canLayAll0, a2, b2], by simp only [PyData.depthAll]; omega⟩
theorem dp_of {ι : Pl} {h : EH} {H : Hp} (rp : Rep I ι h H) : ∀ n w v d, RW I ι H w v → froz h n w = some d → Dp I.K H v d ∧ d.canLay0 = true ∧ d.depth ≤ n := by
  intro n
  induction n with
  | zero =>
    intro w v d r e
    cases r <;> simp only [froz] at e <;> (try cases e)
    · exact ⟨.non, by simp [PyData.canLay0], by simp [PyData.depth]⟩
    · exact ⟨.bl _, by simp [PyData.canLay0], by simp [PyData.depth]⟩
    · exact ⟨.int _, by simp [PyData.canLay0], by simp [PyData.depth]⟩
    · split at e
      · rename_i hc; cases e; exact ⟨.str _, hc, by simp [PyData.depth]⟩
      · cases e
  | succ n ih =>
    have hl : ∀ {p vs ws d}, Rd H p (.lst vs) → RWs I ι H ws vs → (mapO (froz h n) ws).map PyData.list = some d → Dp I.K H (.ref p) d ∧ d.canLay0 = true ∧ d.depth ≤ n + 1 := by
      intro p vs ws d hp rr e
      cases hm : mapO (froz h n) ws with
      | none => rw [hm] at e; cases e
      | some ds =>
        rw [hm] at e; cases e
        obtain ⟨b1, b2, b3⟩ := mapO_dp ih rr hm
        exact ⟨.lst (.inl hp) b1, by simpa [PyData.canLay0] using b2, by simp only [PyData.depth]; omega⟩
    intro w v d r e
    cases r with
    | non => simp only [froz] at e; cases e; exact ⟨.non, by simp [PyData.canLay0], by simp [PyData.depth]⟩
    | bl b => simp only [froz] at e; cases e; exact ⟨.bl _, by simp [PyData.canLay0], by simp [PyData.depth]⟩
    | int i => simp only [froz] at e; cases e; exact ⟨.int _, by simp [PyData.canLay0], by simp [PyData.depth]⟩
    | str x =>
      simp only [froz] at e
      split at e
      · rename_i hc; cases e; exact ⟨.str _, hc, by simp [PyData.depth]⟩
      · cases e
    | tup hp np rr l =>
      simp only [froz] at e
      rename_i ws vs
      cases hm : mapO (froz h n) ws with
      | none => rw [hm] at e; cases e
      | some ds =>
        rw [hm] at e; cases e
        obtain ⟨b1, b2, b3⟩ := mapO_dp ih rr hm
        exact ⟨.tup (.inl (.inl hp)) b1, by simpa [PyData.canLay0] using b2, by simp only [PyData.depth]; omega⟩
    | lst hp np rr l =>
      simp only [froz] at e
      exact hl (.inl hp) rr e
    | @ref m a ea =>
      simp only [froz] at e
      split at e
      · rename_i xs hx
        obtain ⟨vs, h1, h2, h3⟩ := rp.at ea hx
        exact hl (.inl h1) h2 e
      · rename_i xs hx
        obtain ⟨o, vs, h1, h2, h3⟩ := rp.at ea hx
        exact hl (.inr ⟨o, h1⟩) h2 e
      · cases e
    | scr _ _ => simp only [froz] at e; cases e
theorem shaped_of {n : Nat} {d : PyData} (hn : n ≤ 64) (h1 : d.canLay0 = true) (h2 : d.depth ≤ n) : SeqAt.shaped d = true := by
  show (d.canLay0 && decide (d.depth ≤ 64)) = true
  rw [h1, Bool.true_and]
  exact decide_eq_true (by omega)
theorem s_eqD {n : Bool} (hK : X.K = I.K) (hu : X.A.units + 64 < cLine) (ha : PE X a (tE I fa Wx)) (hb : PE X b (tE I fb Wx)) :
    PE X (.Compare a [if n then .NotEq else .Eq] [b] pos) (tE I (fun σ h => (fa σ h).bind fun x h => (fb σ h).bind fun y h => ofO ((eqDW h x y).map fun k => W.bl (if n then !k else k)) h) Wx) ∧
    PT X (.Compare a [if n then .NotEq else .Eq] [b] pos) (tTest (tE I (fun σ h => (fa σ h).bind fun x h => (fb σ h).bind fun y h => ofO ((eqDW h x y).map fun k => W.bl (if n then !k else k)) h) Wx)) := by
  have key : ∀ {ι h H w1 w2 v1 v2 w}, Rep I ι h H → RW I ι H w1 v1 → RW I ι H w2 v2 → (eqDW h w1 w2).map (fun k => W.bl (if n then !k else k)) = some w →
      ∃ d e, Dp X.K H v1 d ∧ Dp X.K H v2 e ∧ SeqAt.shaped d = true ∧ SeqAt.shaped e = true ∧ w = .bl (if n then !(PyData.eqv d e) else PyData.eqv d e) := by
    intro ι h H w1 w2 v1 v2 w rp r1 r2 e
    cases hd : froz h 8 w1 with
    | none => simp [eqDW, hd] at e
    | some d =>
      cases he : froz h 8 w2 with
      | none => simp [eqDW, hd, he] at e
      | some d2 =>
        obtain ⟨a1, a2, a3⟩ := dp_of rp _ _ _ _ r1 hd
        obtain ⟨b1, b2, b3⟩ := dp_of rp _ _ _ _ r2 he
        simp only [eqDW, hd, he, Option.map_some, Option.some.injEq] at e
        exact ⟨d, d2, by rw [hK]; exact a1, by rw [hK]; exact b1, shaped_of (by decide) a2 a3, shaped_of (by decide) b2 b3, e.symm⟩
  cases n with
  | false =>
    exact s_cm (op_eqD hu) ha hb (nobehind b (by decide) (by decide)) fun ι h H Q w1 w2 v1 v2 rp r1 r2 q => by
      obtain ⟨w, ew, k⟩ := finO q rp
      obtain ⟨d, e, h1, h2, h3, h4, h5⟩ := key rp r1 r2 ew
      exact ⟨d, e, h1, h2, h3, h4, k _ (by rw [h5]; exact .bl _)⟩
  | true =>
    exact s_cm (op_neD hu) ha hb (nobehind b (by decide) (by decide)) fun ι h H Q w1 w2 v1 v2 rp r1 r2 q => by
      obtain ⟨w, ew, k⟩ := finO q rp
      obtain ⟨d, e, h1, h2, h3, h4, h5⟩ := key rp r1 r2 ew
      exact ⟨d, e, h1, h2, h3, h4, k _ (by rw [h5]; exact .bl _)⟩
theorem s_isN {n : Bool} {j : Nat} {p2 : Pos} (ha : PE X a (tE I fa Wx)) :
    PE X (.Compare a [if n then .IsNot else .Is] [.Constant .none j p2] pos) (tE I (fun σ h => (fa σ h).bind fun x h => .ok (.bl (match x with | .non => !n | _ => n)) h) Wx) ∧
    PT X (.Compare a [if n then .IsNot else .Is] [.Constant .none j p2] pos) (tTest (tE I (fun σ h => (fa σ h).bind fun x h => .ok (.bl (match x with | .non => !n | _ => n)) h) Wx)) := by
  have key : ∀ {ι H w v}, RW I ι H w v → (match w with | .non => !n | _ => n) = (if n then !decide (v = .non) else decide (v = .non)) := by
    intro ι H w v r
    cases r <;> cases n <;> simp
  have st : ∀ {σ H Q}, tE I (fun σ h => (fa σ h).bind fun x h => .ok (.bl (match x with | .non => !n | _ => n)) h) Wx σ H Q → tE I fa Wx σ H (fun x H1 => Q (.bl (if n then !decide (x = .non) else decide (x = .non))) H1) := by
    intro σ H Q ⟨ι, h, σc, rs, rp, q⟩
    refine goV rs rp q fun ι1 H1 h1 w1 v1 e1 rs1 rp1 r1 q1 => ?_
    refine fin q1 rp1 ?_
    rw [key r1]
    exact .bl _
  cases n with
  | false => exact ⟨⟨fun pins s σ H Q J q => (pe_cmp (pc_isN ha)).run pins s σ H Q J (st q)⟩, ⟨fun pins s σ H Q J q => (pt_cmp (pc_isN ha)).run pins s σ H Q J (st q)⟩⟩
  | true => exact ⟨⟨fun pins s σ H Q J q => (pe_cmp (pc_notN ha)).run pins s σ H Q J (st q)⟩, ⟨fun pins s σ H Q J q => (pt_cmp (pc_notN ha)).run pins s σ H Q J (st q)⟩⟩
theorem s_not (ha : PE X a (tE I fa Wx)) (ht : PT X a (tTest (tE I fa Wx))) :
    PE X (.UnaryOp .Not a pos) (tE I (fun σ h => (fa σ h).bind fun x h => boolK x fun k => .ok (.bl (!k)) h) Wx) ∧
    PT X (.UnaryOp .Not a pos) (tTest (tE I (fun σ h => (fa σ h).bind fun x h => boolK x fun k => .ok (.bl (!k)) h) Wx)) := by
  have st : ∀ {σ H Q}, tE I (fun σ h => (fa σ h).bind fun x h => boolK x fun k => .ok (.bl (!k)) h) Wx σ H Q → tE I fa Wx σ H (fun x H1 => ∃ c, x = .bl c ∧ Q (.bl (!c)) H1) := by
    intro σ H Q ⟨ι, h, σc, rs, rp, q⟩
    refine goV rs rp q fun ι1 H1 h1 w1 v1 e1 rs1 rp1 r1 q1 => ?_
    obtain ⟨k, rfl, rfl, q2⟩ := finK r1 q1
    exact ⟨k, rfl, fin q2 rp1 (.bl _)⟩
  refine ⟨⟨fun pins s σ H Q J q => (pe_not ha).run pins s σ H Q J (st q)⟩, ⟨fun pins s σ H Q J q => (pt_not ht).run pins s σ H Q J ?_⟩⟩
  obtain ⟨ι, h, σc, rs, rp, q⟩ := q
  show tE I fa Wx σ H (fun x H' => ∃ k, x = .bl k ∧ Q (!k) H')
  refine goV rs rp q fun ι1 H1 h1 w1 v1 e1 rs1 rp1 r1 q1 => ?_
  obtain ⟨k, rfl, rfl, q2⟩ := finK r1 q1
  obtain ⟨c, e, z⟩ := fin q2 rp1 (.bl _)
  cases e
  exact ⟨k, rfl, z⟩
theorem s_ite (hc : PT X c (tTest (tE I fc Wx))) (ha : PE X a (tE I fa Wx)) (hb : PE X b (tE I fb Wx)) :
    PE X (.IfExp c a b pos) (tE I (fun σ h => (fc σ h).bind fun x h => boolK x fun k => if k then fa σ h else fb σ h) Wx) := by
  refine ⟨fun pins s σ H Q J ⟨ι, h, σc, rs, rp, q⟩ => (pe_ifExp hc ha hb).run pins s σ H Q J ?_⟩
  show tE I fc Wx σ H (fun x H' => ∃ k, x = .bl k ∧ (if k = true then tE I fa Wx σ H' Q else tE I fb Wx σ H' Q))
  refine goV rs rp q fun ι1 H1 h1 w1 v1 e1 rs1 rp1 r1 q1 => ?_
  obtain ⟨k, rfl, rfl, q2⟩ := finK r1 q1
  refine ⟨k, rfl, ?_⟩
  cases k with
  | true => rw [if_pos rfl] at q2 ⊢; exact ⟨ι1, h1, σc, rs1, rp1, q2⟩
  | false => rw [if_neg Bool.false_ne_true] at q2 ⊢; exact ⟨ι1, h1, σc, rs1, rp1, q2⟩
theorem pt_ifExp {tc ta tb : TT} (hc : PT X c tc) (ha : PT X a ta) (hb : PT X b tb) : PT X (.IfExp c a b pos) (fun σ H Q => tc σ H fun k H1 => if k = true then ta σ H1 Q else tb σ H1 Q) := by
  refine ⟨fun pins s σ H Q J h => ?_⟩
  show wpAny _ _ (do if ← isTrue c X.env (eval c X.env) then isTrue a X.env (eval a X.env) else isTrue b X.env (eval b X.env)) _ _ _
  refine wpAny_bind (thn (hc.run pins s σ H _ J h) fun d s1 ⟨H1, J1, q1⟩ => ?_)
  cases d with
  | true => exact ha.run pins s1 σ H1 Q J1 q1
  | false => exact hb.run pins s1 σ H1 Q J1 q1
theorem s_iteT (hc : PT X c (tTest (tE I fc Wx))) (ha : PT X a (tTest (tE I fa Wx))) (hb : PT X b (tTest (tE I fb Wx))) :
    PT X (.IfExp c a b pos) (tTest (tE I (fun σ h => (fc σ h).bind fun x h => boolK x fun k => if k then fa σ h else fb σ h) Wx)) := by
  refine ⟨fun pins s σ H Q J ⟨ι, h, σc, rs, rp, q⟩ => (pt_ifExp hc ha hb).run pins s σ H Q J ?_⟩
  show tE I fc Wx σ H (fun x H' => ∃ k, x = .bl k ∧ (if k = true then tTest (tE I fa Wx) σ H' Q else tTest (tE I fb Wx) σ H' Q))
  refine goV rs rp q fun ι1 H1 h1 w1 v1 e1 rs1 rp1 r1 q1 => ?_
  obtain ⟨k, rfl, rfl, q2⟩ := finK r1 q1
  refine ⟨k, rfl, ?_⟩
  cases k with
  | true => rw [if_pos rfl] at q2 ⊢; exact ⟨ι1, h1, σc, rs1, rp1, q2⟩
  | false => rw [if_neg Bool.false_ne_true] at q2 ⊢; exact ⟨ι1, h1, σc, rs1, rp1, q2⟩
end
end Z
namespace Z
open PySem PySem.Spec L2
theorem lim_sz {n : Nat} (h : n ≤ LIM) : n ≤ sizeLine := Nat.le_trans h (by decide)
theorem lim_lt {n : Nat} (h : n ≤ LIM) : n < sizeLine := Nat.lt_of_le_of_lt h (by decide)
/-- what the rules lean on at a place -/
structure Cs (B : Tb) (I : Inf) (X : Cx) : Prop where
  K : X.K = I.K
  calm : X.calm = true
  nd : X.N.Nodup
  hu : X.A.units + 65 < cLine
  fl : B.fl = I.fl
  fnd : I.fl.Nodup
  cls : ∀ c, I.isC c = true → Cls I.K (I.ca c) ∧ ∀ n ∈ I.fl, NoAttr I.K (I.ca c) n
  blt : ∀ n ∈ B.blt, X.mg n = none
section
variable {I : Inf} {ι : Pl} {H : Hp} {h : EH} {Wx : XK} {Q : VK}
theorem new_lst {m : Bool} {ws : List W} {vs : List V} (q : (newL m ws h).All (Pv I ι H Q) (Px I ι H Wx)) (rp : Rep I ι h H) (r : RWs I ι H ws vs) (l : ws.length ≤ LIM) : ∀ p, H p = none → Q (.ref p) (upd H p (.lst vs)) := by
  intro p hp
  cases m with
  | false =>
    have q : Pv I ι H Q (.lst ws) h := q
    exact q ι _ _ (Ext.side hp) (rp.side hp) (.lst upd_same (rp.new hp) (r.ext (Ext.side hp)) l)
  | true =>
    have q : Pv I ι H Q (.ref h.length) (h ++ [.lst ws]) := q
    refine q (ι.push p) _ _ (Ext.mine hp) (rp.mine hp ⟨vs, upd_same, r.ext (Ext.mine hp), l⟩) (.ref ?_)
    exact ι.push_at p rp.len.symm
theorem new_tup {ws : List W} {vs : List V} (q : (T.ok (W.tup ws) h).All (Pv I ι H Q) (Px I ι H Wx)) (rp : Rep I ι h H) (r : RWs I ι H ws vs) (l : ws.length ≤ LIM) : ∀ p, H p = none → Q (.ref p) (upd H p (.tup vs)) := by
  intro p hp
  have q : Pv I ι H Q (.tup ws) h := q
  exact q ι _ _ (Ext.side hp) (rp.side hp) (.tup upd_same (rp.new hp) (r.ext (Ext.side hp)) l)
end
section
variable {X : Cx} {I : Inf} {B : Tb} {Wx : XK} {a b c e o : Expr} {es : List Expr} {fa fb fc : Env → EH → T W} {fs gs : Env → EH → T (List W)} {pos p p2 : Pos} {σc : Env}
theorem goA {α : Type} {ι : Pl} {H : Hp} {h : EH} {σ : St} {f : Env → EH → T (List W)} {k : List W → EH → T α} {P : Pl → Hp → α → EH → Prop} (hP : ∀ {ι1 H1 a h}, Ext ι H ι1 H1 → P ι H a h → P ι1 H1 a h) (rs : RS I ι H σc σ) (rp : Rep I ι h H)
    (q : ((f σc h).bind k).All (P ι H) (Px I ι H Wx)) {R : List V → Hp → Prop}
    (c : ∀ ι1 H1 h1 ws vs, Ext ι H ι1 H1 → RS I ι1 H1 σc σ → Rep I ι1 h1 H1 → RWs I ι1 H1 ws vs → (k ws h1).All (P ι1 H1) (Px I ι1 H1 Wx) → R vs H1) : tA I f Wx σ H R := by
  refine ⟨ι, h, σc, rs, rp, (T.All.bind q).mono (fun w h1 q1 ι1 H1 v e rp1 rw1 => c ι1 H1 h1 w v e (rs.ext e) rp1 rw1 ?_) fun _ _ z => z⟩
  exact q1.mono (fun _ _ z => hP e z) fun _ _ z ι2 H2 e2 => z ι2 H2 (e.trans e2)
theorem goAv {ι : Pl} {H : Hp} {h : EH} {σ : St} {f : Env → EH → T (List W)} {k : List W → EH → T W} {Q : VK} (rs : RS I ι H σc σ) (rp : Rep I ι h H) (q : ((f σc h).bind k).All (Pv I ι H Q) (Px I ι H Wx)) {R : List V → Hp → Prop}
    (c : ∀ ι1 H1 h1 ws vs, Ext ι H ι1 H1 → RS I ι1 H1 σc σ → Rep I ι1 h1 H1 → RWs I ι1 H1 ws vs → (k ws h1).All (Pv I ι1 H1 Q) (Px I ι1 H1 Wx) → R vs H1) : tA I f Wx σ H R :=
  goA (P := fun ι H => Pv I ι H Q) (fun e z ι2 H2 v e2 => z ι2 H2 v (e.trans e2)) rs rp q c
theorem goAs {ι : Pl} {H : Hp} {h : EH} {σ : St} {f : Env → EH → T (List W)} {k : List W → EH → T (List W)} {Q : List V → Hp → Prop} (rs : RS I ι H σc σ) (rp : Rep I ι h H) (q : ((f σc h).bind k).All (Pvs I ι H Q) (Px I ι H Wx)) {R : List V → Hp → Prop}
    (c : ∀ ι1 H1 h1 ws vs, Ext ι H ι1 H1 → RS I ι1 H1 σc σ → Rep I ι1 h1 H1 → RWs I ι1 H1 ws vs → (k ws h1).All (Pvs I ι1 H1 Q) (Px I ι1 H1 Wx) → R vs H1) : tA I f Wx σ H R :=
  goA (P := fun ι H => Pvs I ι H Q) (fun e z ι2 H2 v e2 => z ι2 H2 v (e.trans e2)) rs rp q c
theorem starE (hp : plain e = true) : starEach (e :: es) X.env = (false, eval e X.env) :: starEach es X.env := by
  cases e <;> first | rfl | cases hp
theorem a_nil : PA X [] (tA I (fun _ h => .ok [] h) Wx) := ⟨fun pos pins s σ H Q J ⟨ι, h, σc, rs, rp, q⟩ => pa_nil.run pos pins s σ H Q J (q ι H [] Ext.refl rp .nil)⟩
theorem a_cons (hp : plain e = true) (ha : PE X e (tE I fa Wx)) (hr : PA X es (tA I fs Wx)) : PA X (e :: es) (tA I (fun σ h => (fa σ h).bind fun x h => (fs σ h).bind fun xs h => .ok (x :: xs) h) Wx) := by
  refine ⟨fun pos pins s σ H Q J ⟨ι, h, σc, rs, rp, q⟩ => (pa_cons ha hr (starE hp)).run pos pins s σ H Q J ?_⟩
  refine goE (P := fun ι H => Pvs I ι H Q) (fun e z ι2 H2 v e2 => z ι2 H2 v (e.trans e2)) rs rp q fun ι1 H1 h1 w1 v1 e1 rs1 rp1 r1 q1 => ?_
  refine goAs rs1 rp1 q1 fun ι2 H2 h2 ws vs e2 rs2 rp2 r2 q2 => ?_
  exact q2 ι2 H2 _ Ext.refl rp2 (.cons (r1.ext e2) r2)
theorem s_tup {x1 : Nat} (ha : PA X es (tA I fs Wx)) (hlen : ∀ σ h (P : List W → EH → Prop) E, (fs σ h).All P E → (fs σ h).All (fun ws h => P ws h ∧ ws.length ≤ LIM) E) :
    PE X (.Tuple es x1 pos) (tE I (fun σ h => (fs σ h).bind fun xs h => .ok (.tup xs) h) Wx) := by
  refine ⟨fun pins s σ H Q J ⟨ι, h, σc, rs, rp, q⟩ => (pe_tup ha).run pins s σ H Q J ?_⟩
  refine ⟨ι, h, σc, rs, rp, (hlen _ _ _ _ (T.All.bind q)).mono (fun ws h1 ⟨q1, l⟩ ι1 H1 vs e1 rp1 r1 => ?_) fun _ _ z => z⟩
  have q2 := later q1 e1
  exact ⟨by rw [← r1.length]; exact lim_sz l, new_tup q2 rp1 r1 l⟩
theorem s_lst {m : Bool} (ha : PA X es (tA I fs Wx)) (hlen : ∀ σ h (P : List W → EH → Prop) E, (fs σ h).All P E → (fs σ h).All (fun ws h => P ws h ∧ ws.length ≤ LIM) E) :
    PE X (.List es pos) (tE I (fun σ h => (fs σ h).bind fun xs h => newL m xs h) Wx) := by
  refine ⟨fun pins s σ H Q J ⟨ι, h, σc, rs, rp, q⟩ => (pe_lst ha).run pins s σ H Q J ?_⟩
  refine ⟨ι, h, σc, rs, rp, (hlen _ _ _ _ (T.All.bind q)).mono (fun ws h1 ⟨q1, l⟩ ι1 H1 vs e1 rp1 r1 => ?_) fun _ _ z => z⟩
  have q2 := later q1 e1
  exact ⟨by rw [← r1.length]; exact lim_sz l, new_lst q2 rp1 r1 l⟩
theorem s_dic : PE X (.Dict [] [] pos) (tE I (fun _ h => .ok (.ref h.length) (h ++ [.dic []])) Wx) := by
  refine ⟨fun pins s σ H Q J ⟨ι, h, σc, rs, rp, q⟩ => pe_dnewK.run pins s σ H Q J fun p hp => ?_⟩
  refine q (ι.push p) _ _ (Ext.mine hp) (rp.mine hp ⟨[], upd_same, .nil, Nat.zero_le _, List.nodup_nil⟩) (.ref ?_)
  exact ι.push_at p rp.len.symm
theorem ixW_at {ι : Pl} {H : Hp} {ws : List W} {vs : List V} (r : RWs I ι H ws vs) {i : Int} {w : W} (e : ixW ws i = some w) : ∃ v, atI vs i = some v ∧ RW I ι H w v := by
  unfold ixW at e
  split at e
  · rename_i j hj
    obtain ⟨v, h1, h2⟩ := r.get e
    refine ⟨v, ?_, h2⟩
    unfold atI
    have : L2.ixN vs.length i = some j := by rw [← r.length]; exact hj
    rw [this]
    exact h1
  · cases e
theorem s_ix (C : Cs B I X) (hp : plain b = true) (ha : PE X a (tE I fa Wx)) (hb : PE X b (tE I fb Wx)) :
    PE X (.Subscript a b pos) (tE I (fun σ h => (fa σ h).bind fun x h => (fb σ h).bind fun y h => match seqOf h x, y with | some xs, .int k => ofO (ixW xs k) h | _, _ => .fail) Wx) := by
  have hs : PlainIx b := fun o i => by cases b <;> first | rfl | cases hp
  refine ⟨fun pins s σ H Q J ⟨ι, h, σc, rs, rp, q⟩ => (pe_ix ix_seq ha hb hs).run pins s σ H Q J ?_⟩
  refine goV rs rp q fun ι1 H1 h1 w1 v1 e1 rs1 rp1 r1 q1 => ?_
  refine goV rs1 rp1 q1 fun ι2 H2 h2 w2 v2 e2 rs2 rp2 r2 q2 => ?_
  split at q2
  · rename_i xs k hx
    cases r2
    obtain ⟨p, vs, rfl, hq, rr, l⟩ := rp2.seq (r1.ext e2) hx
    obtain ⟨w, ew, kq⟩ := finO q2 rp2
    obtain ⟨v, hv, rv⟩ := ixW_at rr ew
    rcases hq with hq | hq
    · exact .inl ⟨p, vs, k, v, rfl, rfl, by rw [C.K]; exact hq, hv, kq v rv⟩
    · exact .inr (.inl ⟨p, vs, k, v, rfl, rfl, by rw [C.K]; exact hq, hv, kq v rv⟩)
  · exact q2.elim
theorem s_dix (C : Cs B I X) (hp : plain b = true) (ha : PE X a (tE I fa Wx)) (hb : PE X b (tE I fb Wx)) :
    PE X (.Subscript a b pos) (tE I (fun σ h => (fa σ h).bind fun x h => (fb σ h).bind fun y h => match dicOf h x with | some kvs => if isKey y then ofO (dget kvs y) h else .fail | none => .fail) Wx) := by
  have hs : NoSl b := fun o i => by cases b <;> first | rfl | cases hp
  have hu : X.A.units + 1 < cLine := by have := C.hu; omega
  refine ⟨fun pins s σ H Q J ⟨ι, h, σc, rs, rp, q⟩ => (pe_dget hu ha hb hs).run pins s σ H Q J ?_⟩
  refine goV rs rp q fun ι1 H1 h1 w1 v1 e1 rs1 rp1 r1 q1 => ?_
  refine goV rs1 rp1 q1 fun ι2 H2 h2 w2 v2 e2 rs2 rp2 r2 q2 => ?_
  split at q2
  · rename_i kvs hx
    obtain ⟨p, ls, rfl, hq, rr, l⟩ := rp2.dic (r1.ext e2) hx
    split at q2
    · rename_i hk
      obtain ⟨y, rfl, rk⟩ := isKey_kV r2 hk
      obtain ⟨w, ew, kq⟩ := finO q2 rp2
      rcases RKV.get rk rr with ⟨z, _⟩ | ⟨w', v, z1, z2, z3⟩
      · rw [z] at ew; cases ew
      · rw [z1] at ew; cases ew
        exact ⟨p, v, rfl, .inl ⟨ls, y, hq, rfl, z2.symm⟩, kq v z3⟩
    · exact q2.elim
  · exact q2.elim
theorem o_none : PO X none (tOo I (fun _ h => .ok none h) Wx) := ⟨fun pins s σ H Q J ⟨ι, h, σc, rs, rp, q⟩ => po_none.run pins s σ H Q J (q ι H Ext.refl rp)⟩
theorem o_some (ha : PE X a (tE I fa Wx)) : PO X (some a) (tOo I (fun σ h => (fa σ h).bind fun x h => match x with | .int i => .ok (some i) h | _ => .fail) Wx) := by
  refine ⟨fun pins s σ H Q J ⟨ι, h, σc, rs, rp, q⟩ => (po_some ha).run pins s σ H Q J ?_⟩
  refine goE (P := fun ι H => Po I ι H Q) (fun e z ι2 H2 e2 => z ι2 H2 (e.trans e2)) rs rp q fun ι1 H1 h1 w1 v1 e1 rs1 rp1 r1 q1 => ?_
  cases r1 <;> first | exact q1.elim | skip
  exact ⟨_, rfl, q1 ι1 H1 Ext.refl rp1⟩
theorem cut_eq {ι : Pl} {H : Hp} {ws : List W} {vs : List V} (r : RWs I ι H ws vs) (lo hi : Option Int) : RWs I ι H (cutW ws lo hi) (cutV vs lo hi) := by
  have e : ∀ d o, sIx ws.length d o = HT.sIx vs.length d o := fun d o => by
    rw [r.length]
    cases o <;> rfl
  unfold cutW cutV
  rw [e 0 lo, e ws.length hi, r.length]
  exact (r.drop _).take _
theorem cutW_len (ws : List W) (lo hi : Option Int) : (cutW ws lo hi).length ≤ ws.length := by
  unfold cutW
  rw [List.length_take, List.length_drop]
  omega
theorem goO {ι : Pl} {H : Hp} {h : EH} {σ : St} {f : Env → EH → T (Option Int)} {k : Option Int → EH → T W} {Q : VK} (rs : RS I ι H σc σ) (rp : Rep I ι h H) (q : ((f σc h).bind k).All (Pv I ι H Q) (Px I ι H Wx)) {R : Option Int → Hp → Prop}
    (c : ∀ ι1 H1 h1 o, Ext ι H ι1 H1 → RS I ι1 H1 σc σ → Rep I ι1 h1 H1 → (k o h1).All (Pv I ι1 H1 Q) (Px I ι1 H1 Wx) → R o H1) : tOo I f Wx σ H R := by
  refine ⟨ι, h, σc, rs, rp, (T.All.bind q).mono (fun w h1 q1 ι1 H1 e rp1 => c ι1 H1 h1 w e (rs.ext e) rp1 (later q1 e)) fun _ _ z => z⟩
theorem s_slL (C : Cs B I X) {m : Bool} {lo hi : Option Expr} {fl fu : Env → EH → T (Option Int)} (ha : PE X a (tE I fa Wx)) (hl : PO X lo (tOo I fl Wx)) (hh : PO X hi (tOo I fu Wx)) :
    PE X (.Subscript a (.Slice lo hi none p2) pos) (tE I (fun σ h => (fa σ h).bind fun x h => (fl σ h).bind fun l h => (fu σ h).bind fun u h => match lsqOf h x with
      | some xs => newL m (cutW xs l u) h
      | none => .fail) Wx) := by
  refine ⟨fun pins s σ H Q J ⟨ι, h, σc, rs, rp, q⟩ => (pe_slice sl_list ha hl hh).run pins s σ H Q J ?_⟩
  refine goV rs rp q fun ι1 H1 h1 w1 v1 e1 rs1 rp1 r1 q1 => ?_
  refine goO rs1 rp1 q1 fun ι2 H2 h2 l e2 rs2 rp2 q2 => ?_
  refine goO rs2 rp2 q2 fun ι3 H3 h3 u e3 rs3 rp3 q3 => ?_
  split at q3
  · rename_i xs hx
    obtain ⟨p, vs, rfl, hq, rr, ll⟩ := rp3.lsq ((r1.ext e2).ext e3) hx
    exact ⟨p, vs, rfl, by rw [C.K]; exact hq, new_lst q3 rp3 (cut_eq rr l u) (Nat.le_trans (cutW_len ..) ll)⟩
  · exact q3.elim
theorem s_slT (C : Cs B I X) {lo hi : Option Expr} {fl fu : Env → EH → T (Option Int)} (ha : PE X a (tE I fa Wx)) (hl : PO X lo (tOo I fl Wx)) (hh : PO X hi (tOo I fu Wx)) :
    PE X (.Subscript a (.Slice lo hi none p2) pos) (tE I (fun σ h => (fa σ h).bind fun x h => (fl σ h).bind fun l h => (fu σ h).bind fun u h => match x with
      | .tup xs => .ok (.tup (cutW xs l u)) h
      | _ => .fail) Wx) := by
  refine ⟨fun pins s σ H Q J ⟨ι, h, σc, rs, rp, q⟩ => (pe_slice sl_tupA ha hl hh).run pins s σ H Q J ?_⟩
  refine goV rs rp q fun ι1 H1 h1 w1 v1 e1 rs1 rp1 r1 q1 => ?_
  refine goO rs1 rp1 q1 fun ι2 H2 h2 l e2 rs2 rp2 q2 => ?_
  refine goO rs2 rp2 q2 fun ι3 H3 h3 u e3 rs3 rp3 q3 => ?_
  have r3 := (r1.ext e2).ext e3
  cases r3 <;> first | exact q3.elim | skip
  rename_i pp ws vs hp hn rr ll
  refine ⟨pp, vs, rfl, .inl (.inl hp), fun ⟨z1, z2⟩ => ?_, fun _ => new_tup q3 rp3 (cut_eq rr l u) (Nat.le_trans (cutW_len ..) ll)⟩
  refine fin q3 rp3 ?_
  have e0 : cutW ws l u = ws := by
    unfold cutW
    have e : ∀ d o, sIx ws.length d o = HT.sIx vs.length d o := fun d o => by
      rw [rr.length]
      cases o <;> rfl
    rw [e 0 l, e ws.length u, rr.length, z1, z2, Nat.sub_zero, List.drop_zero, ← rr.length, List.take_length]
  rw [e0]
  exact .tup hp hn rr ll
theorem baseE (hp : plainB a = true) (n : Str) : attributeBase a n X.env (eval a X.env) = eval a X.env := by
  cases a with
  | Name _ _ => rfl
  | Subscript _ _ _ => rfl
  | Attribute _ _ _ => rfl
  | Call f as ks ps =>
    cases f with
    | Attribute _ _ _ => rfl
    | Name _ _ => cases as with
      | nil => cases hp
      | cons _ _ => rfl
    | _ => cases hp
  | _ => cases hp
theorem s_fld (C : Cs B I X) {f : Nat} {n : Str} (hn : I.fl[f]? = some n) (hp : plainB a = true) (ha : PE X a (tE I fa Wx)) :
    PE X (.Attribute a n pos) (tE I (fun σ h => (fa σ h).bind fun x h => match insOf h x with | some (_, fs) => ofO (look fs f) h | none => .fail) Wx) := by
  refine ⟨fun pins s σ H Q J ⟨ι, h, σc, rs, rp, q⟩ => (pe_fld ha (baseE hp n)).run pins s σ H Q J ?_⟩
  refine goV rs rp q fun ι1 H1 h1 w1 v1 e1 rs1 rp1 r1 q1 => ?_
  split at q1
  · rename_i c fs hx
    obtain ⟨m, p, dx, ls, rfl, hm, rfl, hH, rf, hl, hc, hh⟩ := rp1.ins r1 hx
    obtain ⟨w, ew, kq⟩ := finO q1 rp1
    obtain ⟨v, hv, rv⟩ := RF.look C.fnd hn rf ew
    obtain ⟨k1, k2⟩ := C.cls c hc
    exact ⟨p, _, dx, ls, v, rfl, hH, by rw [C.K]; exact k1, by rw [C.K]; exact k2 n (List.mem_of_getElem? hn), hv, kq v rv⟩
  · exact q1.elim

theorem beq_dec {α : Type} [DecidableEq α] [BEq α] [LawfulBEq α] (i j : α) : (j == i) = decide (i = j) := by
  by_cases h : i = j
  · subst h; simp
  · rw [decide_eq_false h]; exact beq_eq_false_iff_ne.mpr fun z => h z.symm
theorem eqS_flat {ι : Pl} {H : Hp} {w x : W} {v u : V} {k : Bool} (hs : isSc w = true) (r : RW I ι H w v) (q : RW I ι H x u) (hk : eqS w x = some k) : flatV u = true ∧ eqV u v = k := by
  cases r <;> first | (cases hs; done) | skip
  all_goals cases q
  all_goals simp only [eqS, Option.some.injEq, reduceCtorEq] at hk
  all_goals subst hk
  all_goals first | exact ⟨rfl, rfl⟩ | exact ⟨rfl, beq_dec _ _⟩
theorem mapO_in {ι : Pl} {H : Hp} {w : W} {v : V} (hs : isSc w = true) (r : RW I ι H w v) : ∀ {ws : List W} {vs : List V} {ks : List Bool}, RWs I ι H ws vs → mapO (eqS w) ws = some ks → vs.all flatV = true ∧ inV v vs = ks.any id
  | [], _, _, .nil, e => by
    simp only [mapO, Option.some.injEq] at e
    subst e
    exact ⟨rfl, rfl⟩
  | x :: ws, _, _, .cons (v := u) (vs := us) q qs, e => by
    simp only [mapO] at e
    split at e
    · cases e
    · rename_i k hk
      split at e
      · cases e
      · rename_i ks hks
        cases e
        obtain ⟨h1, h2⟩ := mapO_in hs r qs hks
        have h3 : flatV u = true ∧ eqV u v = k := eqS_flat hs r q hk
        refine ⟨by rw [List.all_cons, h3.1, h1]; rfl, ?_⟩
        show (eqV u v || inV v us) = (k || ks.any id)
        rw [h3.2, h2]
theorem sc_flat {ι : Pl} {H : Hp} {w : W} {v : V} (hs : isSc w = true) (r : RW I ι H w v) : flatV v = true := by
  cases r <;> simp [isSc] at hs <;> rfl
theorem noB {op : CmpOp} (hp : plain b = true) : behindInMarks op b = false := by
  cases b <;> first | rfl | cases hp
theorem s_inS (C : Cs B I X) {n : Bool} (hp : plain b = true) (ha : PE X a (tE I fa Wx)) (hb : PE X b (tE I fb Wx)) :
    PE X (.Compare a [if n then .NotIn else .In] [b] pos) (tE I (fun σ h => (fa σ h).bind fun x h => (fb σ h).bind fun y h => match seqOf h y with
      | some xs => if isSc x then ofO ((mapO (eqS x) xs).map fun ks => W.bl (if n then !ks.any id else ks.any id)) h else .fail
      | none => .fail) Wx) ∧
    PT X (.Compare a [if n then .NotIn else .In] [b] pos) (tTest (tE I (fun σ h => (fa σ h).bind fun x h => (fb σ h).bind fun y h => match seqOf h y with
      | some xs => if isSc x then ofO ((mapO (eqS x) xs).map fun ks => W.bl (if n then !ks.any id else ks.any id)) h else .fail
      | none => .fail) Wx)) := by
  have ho : OpR X (compareOp (if n then .NotIn else .In)) (rIn X.K n) := by
    cases n with
    | false => exact op_in_seq
    | true => exact op_notIn_seq
  refine s_cm ho ha hb (noB hp) fun ι h H Q w1 w2 v1 v2 rp r1 r2 q => ?_
  split at q
  · rename_i xs hx
    split at q
    · rename_i hs
      obtain ⟨p, vs, rfl, hq, rr, l⟩ := rp.seq r2 hx
      obtain ⟨w, ew, kq⟩ := finO q rp
      cases hm : mapO (eqS w1) xs with
      | none => rw [hm] at ew; cases ew
      | some ks =>
        rw [hm] at ew
        cases ew
        obtain ⟨h1, h2⟩ := mapO_in hs r1 rr hm
        refine ⟨p, vs, rfl, by rw [C.K]; exact hq, sc_flat hs r1, h1, kq _ ?_⟩
        rw [h2]
        exact .bl _
    · exact q.elim
  · exact q.elim
theorem s_inD (C : Cs B I X) {n : Bool} (hp : plain b = true) (ha : PE X a (tE I fa Wx)) (hb : PE X b (tE I fb Wx)) :
    PE X (.Compare a [if n then .NotIn else .In] [b] pos) (tE I (fun σ h => (fa σ h).bind fun x h => (fb σ h).bind fun y h => match dicOf h y with
      | some kvs => if isKey x then .ok (.bl (if n then (dget kvs x).isNone else (dget kvs x).isSome)) h else .fail
      | none => .fail) Wx) ∧
    PT X (.Compare a [if n then .NotIn else .In] [b] pos) (tTest (tE I (fun σ h => (fa σ h).bind fun x h => (fb σ h).bind fun y h => match dicOf h y with
      | some kvs => if isKey x then .ok (.bl (if n then (dget kvs x).isNone else (dget kvs x).isSome)) h else .fail
      | none => .fail) Wx)) := by
  have hu : X.A.units + 1 < cLine := by have := C.hu; omega
  have st : ∀ {σ H Q}, tE I (fun σ h => (fa σ h).bind fun x h => (fb σ h).bind fun y h => match dicOf h y with
      | some kvs => if isKey x then .ok (.bl (if n then (dget kvs x).isNone else (dget kvs x).isSome)) h else .fail
      | none => .fail) Wx σ H Q → tE I fa Wx σ H fun y H1 => tE I fb Wx σ H1 fun x H2 => ∃ a o, x = .ref a ∧ DGet H2 a y o ∧ Q (.bl (if n then !o.isSome else o.isSome)) H2 := by
    intro σ H Q ⟨ι, h, σc, rs, rp, q⟩
    refine goV rs rp q fun ι1 H1 h1 w1 v1 e1 rs1 rp1 r1 q1 => ?_
    refine goV rs1 rp1 q1 fun ι2 H2 h2 w2 v2 e2 rs2 rp2 r2 q2 => ?_
    split at q2
    · rename_i kvs hx
      obtain ⟨p, ls, rfl, hq, rr, l⟩ := rp2.dic r2 hx
      split at q2
      · rename_i hk
        obtain ⟨y, rfl, rk⟩ := isKey_kV (r1.ext e2) hk
        refine ⟨p, valV ls y, rfl, .inl ⟨ls, y, hq, rfl, rfl⟩, ?_⟩
        rcases RKV.get rk rr with ⟨z1, z2⟩ | ⟨w', v, z1, z2, z3⟩
        · rw [z1] at q2
          rw [z2]
          have q3 := fin q2 rp2 (.bl _)
          cases n <;> exact q3
        · rw [z1] at q2
          rw [z2]
          have q3 := fin q2 rp2 (.bl _)
          cases n <;> exact q3
      · exact q2.elim
    · exact q2.elim
  cases n with
  | false => exact ⟨⟨fun pins s σ H Q J q => (pe_cmp (pc_din hu ha hb) (noB hp)).run pins s σ H Q J (st q)⟩, ⟨fun pins s σ H Q J q => (pt_cmp (pc_din hu ha hb) (noB hp)).run pins s σ H Q J (st q)⟩⟩
  | true => exact ⟨⟨fun pins s σ H Q J q => (pe_cmp (pc_dnotin hu ha hb) (noB hp)).run pins s σ H Q J (st q)⟩, ⟨fun pins s σ H Q J q => (pt_cmp (pc_dnotin hu ha hb) (noB hp)).run pins s σ H Q J (st q)⟩⟩
theorem s_catL {m : Bool} (ha : PE X a (tE I fa Wx)) (hb : PE X b (tE I fb Wx)) :
    PE X (.BinOp a .Add b pos) (tE I (fun σ h => (fa σ h).bind fun x h => (fb σ h).bind fun y h => match lstOf h x, lstOf h y with
      | some xs, some ys => if xs.length + ys.length ≤ LIM then newL m (xs ++ ys) h else .fail
      | _, _ => .fail) Wx) :=
  s_op op_cat ha hb fun ι h H Q w1 w2 v1 v2 rp r1 r2 q => by
    split at q
    · rename_i xs ys hx hy
      obtain ⟨p1, vs1, rfl, g1, rr1, l1⟩ := rp.lst r1 hx
      obtain ⟨p2, vs2, rfl, g2, rr2, l2⟩ := rp.lst r2 hy
      split at q
      · rename_i hl
        exact ⟨p1, p2, vs1, vs2, rfl, rfl, g1, g2, by rw [← rr1.length, ← rr2.length]; exact lim_sz hl, new_lst q rp (rr1.append rr2) (by rw [List.length_append]; exact hl)⟩
      · exact q.elim
    · exact q.elim
theorem s_catT (C : Cs B I X) (ha : PE X a (tE I fa Wx)) (hb : PE X b (tE I fb Wx)) :
    PE X (.BinOp a .Add b pos) (tE I (fun σ h => (fa σ h).bind fun x h => (fb σ h).bind fun y h => match x, y with
      | .tup xs, .tup ys => if xs.length + ys.length ≤ LIM then .ok (.tup (xs ++ ys)) h else .fail
      | _, _ => .fail) Wx) :=
  s_op op_catA ha hb fun ι h H Q w1 w2 v1 v2 rp r1 r2 q => by
    cases r1 <;> first | exact q.elim | skip
    cases r2 <;> first | exact q.elim | skip
    rename_i p1 ws1 vs1 g1 n1 rr1 l1 p2 ws2 vs2 g2 n2 rr2 l2
    simp only at q
    split at q
    · rename_i hl
      refine ⟨p1, p2, vs1, vs2, rfl, rfl, .inl (.inl g1), .inl (.inl g2), by rw [← rr1.length, ← rr2.length]; exact lim_sz hl, fun z => ?_, fun _ z => ?_, fun _ _ => new_tup q rp (rr1.append rr2) (by rw [List.length_append]; exact hl)⟩
      · subst z
        cases rr1
        exact fin q rp (.tup g2 n2 rr2 l2)
      · subst z
        cases rr2
        refine fin q rp ?_
        rw [List.append_nil]
        exact .tup g1 n1 rr1 l1
    · exact q.elim
theorem s_rep {m : Bool} (ha : PE X a (tE I fa Wx)) (hb : PE X b (tE I fb Wx)) :
    PE X (.BinOp a .Mult b pos) (tE I (fun σ h => (fa σ h).bind fun x h => (fb σ h).bind fun y h => match lstOf h x, y with
      | some xs, .int k => if xs.length * k.toNat ≤ LIM ∧ k < 1000000 ∧ -1000000 < k then newL m (List.replicate k.toNat xs).flatten h else .fail
      | _, _ => .fail) Wx) :=
  s_op op_rep ha hb fun ι h H Q w1 w2 v1 v2 rp r1 r2 q => by
    split at q
    · rename_i xs k hx
      cases r2
      obtain ⟨p1, vs1, rfl, g1, rr1, l1⟩ := rp.lst r1 hx
      split at q
      · rename_i hl
        refine ⟨p1, k, vs1, rfl, rfl, g1, by omega, by omega, by rw [← rr1.length]; exact lim_sz hl.1, new_lst q rp (rr1.rep _) ?_⟩
        rw [List.length_flatten, List.map_replicate, List.sum_replicate_nat, Nat.mul_comm]
        exact hl.1
      · exact q.elim
    · exact q.elim
/-! ### built-ins -/
theorem gl_of {n : Str} (h : glb X.env.scope n = true) : Gl X n := by
  unfold glb at h
  show X.env.scope.names.lookup n = some .globalImplicit
  split at h
  · assumption
  · cases h
theorem s_b1 {x : Str} {r : List V → Hp → VK → Prop} {g : W → EH → T W} (hp : plain a = true) (ha : PE X a (tE I fa Wx)) (hcall : ∀ {t}, PA X [a] t → PE X (.Call (.Name x p) [a] [] pos) (tCB r t))
    (hk : ∀ ι h H Q w v, Rep I ι h H → RW I ι H w v → (g w h).All (Pv I ι H Q) (Px I ι H Wx) → r [v] H Q) : PE X (.Call (.Name x p) [a] [] pos) (tE I (fun σ h => (fa σ h).bind fun x h => g x h) Wx) := by
  refine ⟨fun pins s σ H Q J ⟨ι, h, σc, rs, rp, q⟩ => (hcall (a_cons hp ha a_nil)).run pins s σ H Q J ?_⟩
  refine ⟨ι, h, σc, rs, rp, T.All.of_bind ((T.All.bind q).mono (fun w h1 q1 => ?_) fun _ _ z => z)⟩
  intro ι1 H1 vs e1 rp1 r1
  cases r1 with
  | cons r2 rr =>
    cases rr
    exact hk ι1 h1 H1 Q w _ rp1 r2 (later q1 e1)
theorem s_b2 {x : Str} {r : List V → Hp → VK → Prop} {g : W → W → EH → T W} (hp : plain a = true) (hp2 : plain b = true) (ha : PE X a (tE I fa Wx)) (hb : PE X b (tE I fb Wx)) (hcall : ∀ {t}, PA X [a, b] t → PE X (.Call (.Name x p) [a, b] [] pos) (tCB r t))
    (hk : ∀ ι h H Q w v w2 v2, Rep I ι h H → RW I ι H w v → RW I ι H w2 v2 → (g w w2 h).All (Pv I ι H Q) (Px I ι H Wx) → r [v, v2] H Q) : PE X (.Call (.Name x p) [a, b] [] pos) (tE I (fun σ h => (fa σ h).bind fun x h => (fb σ h).bind fun y h => g x y h) Wx) := by
  refine ⟨fun pins s σ H Q J ⟨ι, h, σc, rs, rp, q⟩ => (hcall (a_cons hp ha (a_cons hp2 hb a_nil))).run pins s σ H Q J ?_⟩
  refine ⟨ι, h, σc, rs, rp, T.All.of_bind ((T.All.bind q).mono (fun w h1 q1 => T.All.of_bind (T.All.of_bind ((T.All.bind q1).mono (fun w2 h2 q2 => ?_) fun _ _ z => z))) fun _ _ z => z)⟩
  intro ι1 H1 vs e1 rp1 r1
  cases r1 with
  | cons r2 rr =>
    cases rr with
    | cons r3 rr =>
      cases rr
      exact hk ι1 h2 H1 Q w _ w2 _ rp1 r2 r3 (later q2 e1)
theorem plE (hp : plain b = true) : (backTo pos (starEach [b] X.env)).any (·.1) = false := by
  rw [starE hp]
  rfl
structure Bn (B : Tb) (X : Cx) (n x : Str) : Prop where
  eq : x = n
  gl : Gl X n
  no : X.mg n = none
theorem bn_of (C : Cs B I X) {n x : Str} (h : isB B X.env.scope n x = true) : Bn B X n x := by
  simp only [isB, Bool.and_eq_true, decide_eq_true_eq] at h
  exact ⟨h.1.1, gl_of h.1.2, C.blt n (by simpa using h.2)⟩
theorem boot_max' : bootBuiltins "max" = some (.builtin "max") := by decide +kernel
theorem boot_min' : bootBuiltins "min" = some (.builtin "min") := by decide +kernel
theorem boot_abs' : bootBuiltins "abs" = some (.builtin "abs") := by decide +kernel
theorem boot_int' : bootBuiltins "int" = some (.type "int") := by decide +kernel
theorem boot_list' : bootBuiltins "list" = some (.type "list") := by decide +kernel
theorem boot_tuple' : bootBuiltins "tuple" = some (.type "tuple") := by decide +kernel
theorem boot_len' : bootBuiltins "len" = some (.builtin "len") := by decide +kernel
theorem s_len (C : Cs B I X) {x : Str} (hn : isB B X.env.scope "len" x = true) (hp : plain a = true) (ha : PE X a (tE I fa Wx)) : PE X (.Call (.Name x p) [a] [] pos) (tE I (fun σ h => (fa σ h).bind fun x h => match seqOf h x with
    | some xs => .ok (.int (xs.length : Int)) h
    | none => .fail) Wx) := by
  obtain ⟨rfl, g, n⟩ := bn_of C hn
  refine s_b1 hp ha (fun t => pe_callB call_len_seq g n boot_len' t (he := starE hp) (hpl := rfl)) fun ι h H Q w v rp r q => ?_
  split at q
  · rename_i xs hx
    obtain ⟨p, vs, rfl, hq, rr, l⟩ := rp.seq r hx
    refine ⟨p, vs, rfl, by rw [C.K]; exact hq, ?_⟩
    rw [← rr.length]
    exact fin q rp (.int _)
  · exact q.elim
theorem RKV.len {ι : Pl} {H : Hp} {ks : List (W × W)} {ls : List (Key × V)} (r : RKV I ι H ks ls) : ks.length = ls.length := Paired.length r
theorem call_lenR : CallR X (.builtin "len") (fun xs H Q => ∃ a kvs, xs = [V.ref a] ∧ Rd H a (.dK kvs) ∧ Q (.int kvs.length) H) := by
  intro pins s σ H xs us Q I r h
  obtain ⟨a, kvs, rfl, ha, q⟩ := h
  cases r with
  | cons ru rr =>
    cases rr
    cases ru
    exact d_len I (ha.imp id id) fun t s' I' => ⟨.int kvs.length, H, I', ⟨t, rfl⟩, q⟩
end
end Z
namespace Z
open PySem PySem.Spec L2
section
variable {X : Cx} {I : Inf} {B : Tb} {Wx : XK} {a b c e o : Expr} {es : List Expr} {fa fb fc : Env → EH → T W} {fs gs : Env → EH → T (List W)} {pos p p2 : Pos} {σc : Env}
theorem s_lenD (C : Cs B I X) {x : Str} (hn : isB B X.env.scope "len" x = true) (hp : plain a = true) (ha : PE X a (tE I fa Wx)) : PE X (.Call (.Name x p) [a] [] pos) (tE I (fun σ h => (fa σ h).bind fun x h => match dicOf h x with
    | some kvs => .ok (.int (kvs.length : Int)) h
    | none => .fail) Wx) := by
  obtain ⟨rfl, g, n⟩ := bn_of C hn
  refine s_b1 hp ha (fun t => pe_callB call_lenR g n boot_len' t (he := starE hp) (hpl := rfl)) fun ι h H Q w v rp r q => ?_
  split at q
  · rename_i xs hx
    obtain ⟨p, vs, rfl, hq, rr, l⟩ := rp.dic r hx
    refine ⟨p, vs, rfl, hq, ?_⟩
    rw [← RKV.len rr]
    exact fin q rp (.int _)
  · exact q.elim
theorem s_max2 (C : Cs B I X) {x : Str} (hn : isB B X.env.scope "max" x = true) (hp : plain a = true) (hp2 : plain b = true) (ha : PE X a (tE I fa Wx)) (hb : PE X b (tE I fb Wx)) : PE X (.Call (.Name x p) [a, b] [] pos) (tE I (fun σ h => (fa σ h).bind fun x h => (fb σ h).bind fun y h => match x, y with
    | .int i, .int j => .ok (.int (if j > i then j else i)) h
    | _, _ => .fail) Wx) := by
  obtain ⟨rfl, g, n⟩ := bn_of C hn
  refine s_b2 hp hp2 ha hb (fun t => pe_callB (call_max2 C.calm) g n boot_max' t (he := starE hp) (hpl := plE hp2)) fun ι h H Q w v w2 v2 rp r r2 q => ?_
  cases r <;> cases r2 <;> first | exact q.elim | skip
  exact ⟨_, _, rfl, fin q rp (.int _)⟩
theorem s_min2 (C : Cs B I X) {x : Str} (hn : isB B X.env.scope "min" x = true) (hp : plain a = true) (hp2 : plain b = true) (ha : PE X a (tE I fa Wx)) (hb : PE X b (tE I fb Wx)) : PE X (.Call (.Name x p) [a, b] [] pos) (tE I (fun σ h => (fa σ h).bind fun x h => (fb σ h).bind fun y h => match x, y with
    | .int i, .int j => .ok (.int (if j < i then j else i)) h
    | _, _ => .fail) Wx) := by
  obtain ⟨rfl, g, n⟩ := bn_of C hn
  refine s_b2 hp hp2 ha hb (fun t => pe_callB (call_min2 C.calm) g n boot_min' t (he := starE hp) (hpl := plE hp2)) fun ι h H Q w v w2 v2 rp r r2 q => ?_
  cases r <;> cases r2 <;> first | exact q.elim | skip
  exact ⟨_, _, rfl, fin q rp (.int _)⟩
theorem s_abs (C : Cs B I X) {x : Str} (hn : isB B X.env.scope "abs" x = true) (hp : plain a = true) (ha : PE X a (tE I fa Wx)) : PE X (.Call (.Name x p) [a] [] pos) (tE I (fun σ h => (fa σ h).bind fun x h => match x with
    | .int i => .ok (.int (if i < 0 then -i else i)) h
    | _ => .fail) Wx) := by
  obtain ⟨rfl, g, n⟩ := bn_of C hn
  refine s_b1 hp ha (fun t => pe_callB call_abs g n boot_abs' t (he := starE hp) (hpl := rfl)) fun ι h H Q w v rp r q => ?_
  cases r <;> first | exact q.elim | skip
  exact ⟨_, rfl, fin q rp (.int _)⟩
theorem s_toInt (C : Cs B I X) {x : Str} (hn : isB B X.env.scope "int" x = true) (hp : plain a = true) (ha : PE X a (tE I fa Wx)) : PE X (.Call (.Name x p) [a] [] pos) (tE I (fun σ h => (fa σ h).bind fun x h => match x with
    | .int i => .ok (.int i) h
    | .bl b => .ok (.int (if b then 1 else 0)) h
    | _ => .fail) Wx) := by
  obtain ⟨rfl, g, n⟩ := bn_of C hn
  refine s_b1 hp ha (fun t => pe_callTy call_int1 g n boot_int' t (he := starE hp) (hpl := rfl)) fun ι h H Q w v rp r q => ?_
  cases r <;> first | exact q.elim | skip
  · exact .inr ⟨_, rfl, fin q rp (.int _)⟩
  · exact .inl ⟨_, rfl, fin q rp (.int _)⟩
theorem s_toTup (C : Cs B I X) {x : Str} (hn : isB B X.env.scope "tuple" x = true) (hp : plain a = true) (ha : PE X a (tE I fa Wx)) : PE X (.Call (.Name x p) [a] [] pos) (tE I (fun σ h => (fa σ h).bind fun x h => match seqOf h x with
    | some xs => .ok (.tup xs) h
    | none => .fail) Wx) := by
  obtain ⟨rfl, g, n⟩ := bn_of C hn
  refine s_b1 hp ha (fun t => pe_callTy call_tuple_of g n boot_tuple' t (he := starE hp) (hpl := rfl)) fun ι h H Q w v rp r q => ?_
  split at q
  · rename_i xs hx
    cases r with
    | tup hp hn rr ll =>
      simp only [seqOf, Option.some.injEq] at hx
      subst hx
      exact ⟨_, _, rfl, .inr ⟨.inl (.inl hp), fin q rp (.tup hp hn rr ll)⟩⟩
    | lst hp hn rr ll =>
      simp only [seqOf, Option.some.injEq] at hx
      subst hx
      exact ⟨_, _, rfl, .inl ⟨.inl (.inl hp), new_tup q rp rr ll⟩⟩
    | @ref m a em =>
      obtain ⟨p, vs, e, hq, rr, l⟩ := rp.lsq (.ref em) (show lsqOf h (.ref m) = some xs from hx)
      cases e
      exact ⟨_, vs, rfl, .inl ⟨by rw [C.K]; exact hq, new_tup q rp rr l⟩⟩
    | _ => cases hx
  · exact q.elim
theorem s_toLst (C : Cs B I X) {m : Bool} {x : Str} (hn : isB B X.env.scope "list" x = true) (hp : plain a = true) (ha : PE X a (tE I fa Wx)) : PE X (.Call (.Name x p) [a] [] pos) (tE I (fun σ h => (fa σ h).bind fun x h => match seqOf h x with
    | some xs => newL m xs h
    | none => .fail) Wx) := by
  obtain ⟨rfl, g, n⟩ := bn_of C hn
  refine s_b1 hp ha (fun t => pe_callTy call_list_of g n boot_list' t (he := starE hp) (hpl := rfl)) fun ι h H Q w v rp r q => ?_
  split at q
  · rename_i xs hx
    obtain ⟨p, vs, rfl, hq, rr, l⟩ := rp.seq r hx
    exact ⟨p, vs, rfl, by rw [C.K]; exact hq, new_lst q rp rr l⟩
  · exact q.elim

/-! ### calls -/
/-- what a def promises: what its evaluation tells -/
def spC (I : Inf) (C : CallH) (f n : Nat) : Sp := fun vs H Q E => ∃ ι h ws, Rep I ι h H ∧ RWs I ι H ws vs ∧ vs.length = n ∧ (C f ws h).All (Pv I ι H Q) (Px I ι H E)
/-- the defs at hand -/
structure Fs (B : Tb) (I : Inf) (C : CallH) (M : MTab) (ini : Nat → Nat) (lv : Nat) (fa : Nat → Addr) (fd : Nat → FuncData) (X : Cx) : Prop where
  room : Room (lv + 1) X.A
  no : ∀ f ws h, B.fn f = none → C f ws h = .fail
  ar : ∀ f i ws h P E, B.fn f = some i → (C f ws h).All P E → ws.length = i.ps.length
  ok : ∀ f i, B.fn f = some i → FnOk X.prog X.w X.K X.mg X.base (L2.CX X.prog X.w) lv (fa f) (fd f) i.ps (spC I C f i.ps.length)
  kp : ∀ f i, B.fn f = some i → PySem.W.keepIn X.K (.ref (fa f)) = true
  bd : ∀ f i, B.fn f = some i → Binds X.K (fd f) i.ps []
  gl : ∀ f i, B.fn f = some i → i.glob = true → X.mg i.x = some (.ref (fa f))
  cl : ∀ c x, B.cls c = some x → X.mg x = some (.ref (I.ca c)) ∧ I.isC c = true ∧ Mk X.K (I.ca c) (fa (ini c)) ∧ ∃ i, B.fn (ini c) = some i
  mt : ∀ c m f, I.isC c = true → M c m = some f → Meth X.K (I.ca c) (B.mth m) (fa f) ∧ ∃ i, B.fn f = some i
variable {C : CallH} {M : MTab} {ini : Nat → Nat} {lv : Nat} {fn : Nat → Addr} {fd : Nat → FuncData}
theorem okN_1 {x : Str} (h : okN x = true) : (x == ("__debug__" : Str)) = false := by
  unfold okN at h
  rw [Bool.and_eq_true] at h
  simpa using h.1
theorem okN_2 {x : Str} (h : okN x = true) : (x == ("__classdict__" : Str)) = false := by
  unfold okN at h
  rw [Bool.and_eq_true] at h
  simpa using h.2
theorem plEs {xs : List Expr} (hp : ∀ x ∈ xs, plain x = true) : (backTo pos (starEach xs X.env)).any (·.1) = false := by
  induction xs with
  | nil => rfl
  | cons y ys ih =>
    rw [starE (hp y (by simp))]
    show (false || (backTo pos (starEach ys X.env)).any (·.1)) = false
    rw [ih fun x hx => hp x (by simp [hx])]
    rfl
theorem some_of (F : Fs B I C M ini lv fn fd X) {f : Nat} {ws : List W} {h : EH} {P : W → EH → Prop} {E : Nat → EH → Prop} (q : (C f ws h).All P E) : ∃ i, B.fn f = some i := by
  cases hf : B.fn f with
  | none =>
    rw [F.no f ws h hf] at q
    exact q.elim
  | some i => exact ⟨i, rfl⟩
theorem s_call (F : Fs B I C M ini lv fn fd X) (tk : Takes X (fun c d _ H => Wx c d H)) {f : Nat} {i : FnI} (hf : B.fn f = some i) (hg : i.glob = true) (gx : glb X.env.scope i.x = true) (ox : okN i.x = true) {xs : List Expr} (hp : ∀ x ∈ xs, plain x = true) (ha : PA X xs (tA I fs Wx)) (hz : xs = [] → fs = fun _ h => .ok [] h) :
    PE X (.Call (.Name i.x p) xs [] pos) (tE I (fun σ h => (fs σ h).bind fun xs h => C f xs h) Wx) := by
  have hx : Passes (L2.CX X.prog X.w) X Wx := passes_call tk fun _ _ _ _ z => z
  have st : ∀ {σ H Q}, tE I (fun σ h => (fs σ h).bind fun xs h => C f xs h) Wx σ H Q → tCall (spC I C f i.ps.length) [] Wx (tA I fs Wx) σ H Q := by
    intro σ H Q ⟨ι, h, σc, rs, rp, q⟩
    refine goAv rs rp q fun ι1 H1 h1 ws vs e1 rs1 rp1 r1 q1 => ?_
    rw [List.append_nil]
    exact ⟨ι1, h1, ws, rp1, r1, by rw [← r1.length]; exact F.ar f i ws h1 _ _ hf q1, q1⟩
  cases xs with
  | nil =>
    refine ⟨fun pins s σ H Q J q => (pe_call0 (F.ok f i hf) (F.room.mono (Nat.le_succ _)) (gl_of gx) (F.gl f i hf hg) (F.kp f i hf) (F.bd f i hf) .nil hx (okN_1 ox)).run pins s σ H Q J ?_⟩
    obtain ⟨ι, h, σc, rs, rp, q⟩ := q
    rw [hz rfl] at q
    exact ⟨ι, h, [], rp, .nil, F.ar f i [] h _ _ hf q, q⟩
  | cons y ys =>
    exact ⟨fun pins s σ H Q J q => (pe_call (F.ok f i hf) (F.room.mono (Nat.le_succ _)) (gl_of gx) (F.gl f i hf hg) (F.kp f i hf) (F.bd f i hf) .nil hx ha (okN_1 ox) (starE (hp y (by simp))) (plEs fun x hx => hp x (by simp [hx]))).run pins s σ H Q J (st q)⟩

theorem s_make (F : Fs B I C M ini lv fn fd X) (tk : Takes X (fun c d _ H => Wx c d H)) {c : Nat} {x : Str} (hc : B.cls c = some x) (gx : glb X.env.scope x = true) (ox : okN x = true) {xs : List Expr} (hp : ∀ x ∈ xs, plain x = true) (ha : PA X xs (tA I fs Wx)) (hz : xs = [] → fs = fun _ h => .ok [] h) :
    PE X (.Call (.Name x p) xs [] pos) (tE I (fun σ h => (fs σ h).bind fun xs h => (C (ini c) (.ref h.length :: xs) (h ++ [.ins c []])).bind fun v h' => match v with
      | .non => .ok (.ref h.length) h'
      | _ => .fail) Wx) := by
  have hx : Passes (L2.CX X.prog X.w) X Wx := passes_call tk fun _ _ _ _ z => z
  obtain ⟨g1, g2, g3, i, hi⟩ := F.cl c x hc
  have key : ∀ {ι h H ws vs Q}, Rep I ι h H → RWs I ι H ws vs → ((C (ini c) (.ref h.length :: ws) (h ++ [.ins c []])).bind fun v h' => match v with | .non => (T.ok (W.ref h.length) h' : T W) | _ => .fail).All (Pv I ι H Q) (Px I ι H Wx) →
      ∀ x dx, H x = none → H dx = none → dx ≠ x → spC I C (ini c) i.ps.length (.ref x :: (vs ++ [])) (upd (upd H dx (.own x)) x (.ins (I.ca c) dx [])) (fun v H2 => v = .non ∧ Q (.ref x) H2) Wx := by
    intro ι h H ws vs Q rp r q x dx hx hdx hne
    have e1 : Ext ι H ι (upd H dx (.own x)) := Ext.side hdx
    have hx1 : upd H dx (.own x) x = none := by rw [upd_ne (Ne.symm hne)]; exact hx
    have e2 : Ext ι (upd H dx (.own x)) (ι.push x) (upd (upd H dx (.own x)) x (.ins (I.ca c) dx [])) := Ext.mine hx1
    have rp2 : Rep I (ι.push x) (h ++ [.ins c []]) (upd (upd H dx (.own x)) x (.ins (I.ca c) dx [])) := (rp.side hdx).mine hx1 ⟨dx, [], upd_same, .nil, Nat.zero_le _, g2⟩
    have hn : (ι.push x).own[h.length]? = some x := ι.push_at x rp.len.symm
    have q1 := T.All.bind q
    have rws : RWs I (ι.push x) (upd (upd H dx (.own x)) x (.ins (I.ca c) dx [])) (.ref h.length :: ws) (.ref x :: (vs ++ [])) := by
      rw [List.append_nil]
      exact .cons (.ref hn) ((r.ext e1).ext e2)
    refine ⟨ι.push x, _, _, rp2, rws, by rw [← rws.length]; exact F.ar _ i _ _ _ _ hi q1, q1.mono (fun w h' k => ?_) fun cc h' k ι' H' e => k ι' H' ((e1.trans e2).trans e)⟩
    intro ι3 H3 v e3 rp3 r3
    cases r3 <;> first | exact k.elim | skip
    exact ⟨rfl, k ι3 H3 _ ((e1.trans e2).trans e3) rp3 (.ref (e3.ix hn))⟩
  cases xs with
  | nil =>
    refine ⟨fun pins s σ H Q J q => (pe_make0 g3 (F.ok _ i hi) F.room (gl_of gx) g1 (F.bd _ i hi) .nil hx (okN_1 ox)).run pins s σ H Q J ?_⟩
    obtain ⟨ι, h, σc, rs, rp, q⟩ := q
    rw [hz rfl] at q
    exact key rp .nil q
  | cons y ys =>
    refine ⟨fun pins s σ H Q J ⟨ι, h, σc, rs, rp, q⟩ => (pe_make g3 (F.ok _ i hi) F.room (gl_of gx) g1 (F.bd _ i hi) .nil hx ha (okN_1 ox) (starE (hp y (by simp))) (plEs fun x hx => hp x (by simp [hx]))).run pins s σ H Q J ?_⟩
    exact goAv rs rp q fun ι1 H1 h1 ws vs e1 rs1 rp1 r1 q1 => key rp1 r1 q1
/-- o.m(e, ..): the class told behind the receiver's evaluation -/
structure MethOk (X : Cx) (E : XK) (m : Str) (Cl f : Addr) (k : Nat) (fd : FuncData) (ps : List Str) (sp : Sp) : Prop where
  c : Cls X.K Cl
  hm : Meth X.K Cl m f
  F : FnOk X.prog X.w X.K X.mg X.base (L2.CX X.prog X.w) k f fd ps sp
  hr : Room k X.A
  hb : Binds X.K fd ps []
def tMethD (X : Cx) (m : Str) (E : XK) (ta : TE) (t : TA) : TE := fun σ H Q => ta σ H fun x H1 => ∃ a Cl dx fs f k fd ps sp, MethOk X E m Cl f k fd ps sp ∧ x = .ref a ∧ H1 a = some (.ins Cl dx fs) ∧ fs.lookup m = none ∧
  t σ H1 fun vs H2 => sp (x :: vs) H2 Q E
theorem pe_methD {m : Str} {E : XK} {ta : TE} {t : TA} {apos : Pos} {pl : Sem Bool} (he : PE X o ta) (hx : Passes (L2.CX X.prog X.w) X E) (ha : PA X (e :: es) t)
    (hst : starEach (e :: es) X.env = (false, eval e X.env) :: starEach es X.env) (hpl : (backTo pos (starEach es X.env)).any (·.1) = false)
    (ht : eval (.Call (.Attribute o m apos) (e :: es) [] pos) X.env = (do
      let ov ← eval o X.env
      standAt apos.atName
      let (f, first) ← holding [ov] (getMethod ov m pl)
      callWith pos f first (backTo pos (starEach (e :: es) X.env)) (backToKw pos (keywordEach [] X.env)))) :
    PE X (.Call (.Attribute o m apos) (e :: es) [] pos) (tMethD X m E ta t) := by
  refine ⟨fun pins s σ H Q I h => ?_⟩
  refine PySem.W.methodCall_KW (pl := pl) (thn (he.run pins s σ H _ I h) fun u s1 ⟨x, H1, I1, rx, a, Cl, dx, fs, f, k, fd, ps, sp, ⟨c, hm, F, hr, hb⟩, ex, ea, l, q⟩ => ?_) ht
  subst ex
  obtain rfl : u = Value.ref a := rx
  refine getmeth_ok I1 ea c hm l ?_
  refine PySem.W.callWith_K (first := [.ref a]) (h₀ := X.base) I.ok.mod.kin hm.kp (thn (ha.run pos pins s1 σ H1 _ I1 q) fun us s2 ⟨vs, H2, I2, r, q2⟩ => ⟨I2.kIn, ?_⟩) hst hpl
  exact run_fn (us := .ref a :: us) (vs := .ref a :: vs) F hr hb .nil hx I2 (.cons rfl r) (by rw [List.append_nil]; exact q2)
theorem pe_methD0 {m : Str} {E : XK} {ta : TE} {apos : Pos} {pl : Sem Bool} (he : PE X o ta) (hx : Passes (L2.CX X.prog X.w) X E)
    (ht : eval (.Call (.Attribute o m apos) [] [] pos) X.env = (do
      let ov ← eval o X.env
      standAt apos.atName
      let (f, first) ← holding [ov] (getMethod ov m pl)
      callWith pos f first (backTo pos (starEach [] X.env)) (backToKw pos (keywordEach [] X.env)))) :
    PE X (.Call (.Attribute o m apos) [] [] pos) (tMethD X m E ta tNil) := by
  refine ⟨fun pins s σ H Q I h => ?_⟩
  refine PySem.W.methodCall_KW (pl := pl) (thn (he.run pins s σ H _ I h) fun u s1 ⟨x, H1, I1, rx, a, Cl, dx, fs, f, k, fd, ps, sp, ⟨c, hm, F, hr, hb⟩, ex, ea, l, q⟩ => ?_) ht
  subst ex
  obtain rfl : u = Value.ref a := rx
  refine getmeth_ok I1 ea c hm l ?_
  exact PySem.W.callWith_K0 (first := [.ref a]) I1.kIn hm.kp (run_fn (us := [.ref a]) (vs := [.ref a]) F hr hb .nil hx I1 (.cons rfl .nil) q)
theorem plAll {xs : List Expr} (hp : ∀ x ∈ xs, plain x = true) : (backTo pos (starEach xs X.env)).all (!·.1) = true := by
  induction xs with
  | nil => rfl
  | cons y ys ih =>
    rw [starE (hp y (by simp))]
    show (true && (backTo pos (starEach ys X.env)).all (!·.1)) = true
    rw [ih fun x hx => hp x (by simp [hx])]
    rfl
theorem methE (hpo : plainB o = true) (m : Str) {apos : Pos} (hl : (apos.endLine == pos.line) = true) {xs : List Expr} (hn : xs.length < 30) (hp : ∀ x ∈ xs, plain x = true) :
    eval (.Call (.Attribute o m apos) xs [] pos) X.env = (do
      let ov ← eval o X.env
      standAt apos.atName
      let (f, first) ← holding [ov] (getMethod ov m (do return (← importBound o X.env).getD true))
      callWith pos f first (backTo pos (starEach xs X.env)) (backToKw pos (keywordEach [] X.env))) := by
  have hf : methodCallForm (xs.length + ([] : List Keyword).length) (backTo pos (starEach xs X.env)) (backToKw pos (keywordEach [] X.env)) = true := by
    unfold methodCallForm
    rw [plAll hp]
    show (true && true && decide (xs.length + 0 + 0 < 30)) = true
    simpa using hn
  have e1 : eval (.Call (.Attribute o m apos) xs [] pos) X.env = (do
      let ov ← attributeBase o m X.env (eval o X.env)
      standAt apos.atName
      methodCall o m apos pos X.env ov (xs.length + ([] : List Keyword).length) (backTo pos (starEach xs X.env)) (backToKw pos (keywordEach [] X.env))) := rfl
  rw [e1, baseE hpo]
  unfold methodCall
  rw [hf]
  unfold methodCallPos
  rw [hl]
  rfl
theorem s_meth (C' : Cs B I X) (F : Fs B I C M ini lv fn fd X) (tk : Takes X (fun c d _ H => Wx c d H)) {m : Nat} {apos : Pos} (hl : (apos.endLine == pos.line) = true) (hm : B.mth m ∉ I.fl) (hpo : plainB o = true) (ho : PE X o (tE I fa Wx)) {xs : List Expr} (h30 : xs.length < 30) (hp : ∀ x ∈ xs, plain x = true) (ha : PA X xs (tA I fs Wx)) (hz : xs = [] → fs = fun _ h => .ok [] h) :
    PE X (.Call (.Attribute o (B.mth m) apos) xs [] pos) (tE I (fun σ h => (fa σ h).bind fun x h => match insOf h x with
      | some (c, _) => (match M c m with
        | some f => (fs σ h).bind fun xs h => C f (x :: xs) h
        | none => .fail)
      | none => .fail) Wx) := by
  have hx : Passes (L2.CX X.prog X.w) X Wx := passes_call tk fun _ _ _ _ z => z
  have ht := methE (X := X) hpo (B.mth m) hl h30 hp
  have some_meth : ∀ c f, I.isC c = true → M c m = some f → ∃ i, B.fn f = some i ∧ MethOk X Wx (B.mth m) (I.ca c) (fn f) lv (fd f) i.ps (spC I C f i.ps.length) := fun c f hc hf => by
    obtain ⟨h1, i, hi⟩ := F.mt c m f hc hf
    exact ⟨i, hi, by rw [C'.K]; exact (C'.cls c hc).1, h1, F.ok _ i hi, F.room.mono (Nat.le_succ _), F.bd _ i hi⟩
  cases xs with
  | nil =>
    refine ⟨fun pins s σ H Q J ⟨ι, h, σc, rs, rp, q⟩ => (pe_methD0 ho hx ht).run pins s σ H Q J ?_⟩
    refine goV rs rp q fun ι1 H1 h1 w1 v1 e1 rs1 rp1 r1 q1 => ?_
    split at q1
    · rename_i c flds hx'
      split at q1
      · rename_i f hf
        obtain ⟨n, a, dx, ls, rfl, hm', rfl, hH, rf, hl, hc, hh⟩ := rp1.ins r1 hx'
        obtain ⟨i, hi, mo⟩ := some_meth c f hc hf
        rw [hz rfl] at q1
        have q2 : (C f [.ref n] h1).All _ _ := q1
        exact ⟨a, _, dx, ls, _, _, _, _, _, mo, rfl, hH, RF.no hm rf, ι1, h1, [.ref n], rp1, .cons r1 .nil, F.ar _ i _ _ _ _ hi q2, q2⟩
      · exact q1.elim
    · exact q1.elim
  | cons y ys =>
    refine ⟨fun pins s σ H Q J ⟨ι, h, σc, rs, rp, q⟩ => (pe_methD ho hx ha (starE (hp y (by simp))) (plEs fun x hx => hp x (by simp [hx])) ht).run pins s σ H Q J ?_⟩
    refine goV rs rp q fun ι1 H1 h1 w1 v1 e1 rs1 rp1 r1 q1 => ?_
    split at q1
    · rename_i c flds hx'
      split at q1
      · rename_i f hf
        obtain ⟨n, a, dx, ls, rfl, hm', rfl, hH, rf, hl, hc, hh⟩ := rp1.ins r1 hx'
        obtain ⟨i, hi, mo⟩ := some_meth c f hc hf
        refine ⟨a, _, dx, ls, _, _, _, _, _, mo, rfl, hH, RF.no hm rf, ?_⟩
        refine goAv rs1 rp1 q1 fun ι2 H2 h2 ws vs e2 rs2 rp2 r2 q2 => ?_
        exact ⟨ι2, h2, .ref n :: ws, rp2, .cons (r1.ext e2) r2, by rw [← (RWs.cons (r1.ext e2) r2).length]; exact F.ar _ i _ _ _ _ hi q2, q2⟩
      · exact q1.elim
    · exact q1.elim
end
end Z
namespace Z
open PySem PySem.Spec L2
abbrev noX : XK := fun _ _ _ => False
section
variable {X : Cx} {I : Inf} {B : Tb} {Wx : XK} {a b c e o : Expr} {es : List Expr} {fa fb fc : Env → EH → T W} {fs gs : Env → EH → T (List W)} {pos p p2 : Pos} {σc : Env}
/-! ### targets -/
/-- what a target's reading tells -/
def GOk (I : Inf) (g : G) (gt : TG) : Prop := ∀ ι H w v σc σ σ', RS I ι H σc σ → RW I ι H w v → store g w σc = some σ' → ∃ τ, RS I ι H σ' τ ∧ (∀ own : List Nat, gIn g own = true → wipe τ own = wipe σ own) ∧ ∀ Q : St → Hp → Prop, Q τ H → gt v σ H Q
theorem loc_of {fn : Str → Bool} {sc : Scope} {x : Str} (h : locK fn sc x = true) : Loc sc x ∧ (fn x = true ∨ sc.names.lookup x = some .local) := by
  unfold locK at h
  split at h
  · rename_i e; exact ⟨.inl e, .inr e⟩
  · rename_i e; exact ⟨.inr e, .inl h⟩
  · cases h
theorem wipe_set {σ : St} {i : Nat} {v : Option V} : ∀ {own : List Nat}, i ∈ own → wipe (σ.set i v) own = wipe σ own
  | j :: own, h => by
    unfold wipe
    by_cases e : j = i
    · subst e
      have : ∀ own : List Nat, (wipe (σ.set j v) own).set j none = (wipe σ own).set j none := by
        intro own
        induction own with
        | nil => unfold wipe; simp
        | cons k own ih =>
          unfold wipe
          by_cases hk : k = j
          · subst hk; simp [ih]
          · rw [List.set_comm _ _ hk, List.set_comm _ _ hk, ih]
      exact this own
    · rw [wipe_set ((List.mem_cons.mp h).resolve_left fun z => e z.symm)]
theorem wipe_wipe {σ : St} {own : List Nat} : ∀ vs : List Nat, (∀ i ∈ vs, i ∈ own) → wipe (wipe σ vs) own = wipe σ own
  | [], _ => rfl
  | v :: vs, h => by
    show wipe ((wipe σ vs).set v none) own = _
    rw [wipe_set (h v (by simp)), wipe_wipe vs fun i hi => h i (by simp [hi])]
def gNs : List Nat → TGs
  | [] => gNil
  | i :: is => gCons (gName i) (gNs is)
theorem ns_ok {ι : Pl} {H : Hp} : ∀ {is : List Nat} {ws : List W} {vs : List V} {σc σ' : Env} {σ : St}, RS I ι H σc σ → RWs I ι H ws vs → setAll σc is ws = some σ' → is.length = vs.length ∧ ∃ τ, RS I ι H σ' τ ∧ (∀ own : List Nat, is.all own.contains = true → wipe τ own = wipe σ own) ∧ ∀ Q : St → Hp → Prop, Q τ H → gNs is vs σ H Q
  | [], [], _, σc, σ', σ, rs, .nil, e => by
    simp only [setAll, Option.some.injEq] at e
    subst e
    exact ⟨rfl, σ, rs, fun _ _ => rfl, fun Q q => ⟨rfl, q⟩⟩
  | [], _ :: _, _, _, _, _, _, _, e => by simp [setAll] at e
  | _ :: _, [], _, _, _, _, _, _, e => by simp [setAll] at e
  | i :: is, w :: ws, v :: vs, σc, σ', σ, rs, .cons r rr, e => by
    simp only [setAll] at e
    obtain ⟨h1, τ, h2, h3, h4⟩ := ns_ok (rs.set (i := i) r) rr e
    refine ⟨by simp [h1], τ, h2, fun own ho => ?_, fun Q q => ⟨v, vs, rfl, h4 Q q⟩⟩
    simp only [List.all_cons, Bool.and_eq_true] at ho
    rw [h3 own ho.2]
    exact wipe_set (by simpa using ho.1)
theorem pgs_ns (hN : X.N.Nodup) : ∀ {is : List Nat} {es : List Expr}, chkNs X.N X.fn X.env.scope is es = true → PGs X es (gNs is) ∧ (assignEach es X.env).length = is.length ∧ (assignEach es X.env).findIdx? (·.1) = none
  | [], es, h => by
    unfold chkNs at h
    split at h
    · exact ⟨pgs_nil, rfl, rfl⟩
    · cases h
  | i :: is, es, h => by
    unfold chkNs at h
    split at h
    · rename_i x q es
      simp only [Bool.and_eq_true, chkL, decide_eq_true_eq] at h
      obtain ⟨⟨h1, h2⟩, h3⟩ := h
      obtain ⟨l1, l2⟩ := loc_of h2
      obtain ⟨p1, p2, p3⟩ := pgs_ns hN h3
      refine ⟨pgs_cons (pg_name hN h1 l1 l2) p1, ?_, ?_⟩
      · show (assignEach es X.env).length + 1 = _
        rw [p2]
        rfl
      · show List.findIdx? _ ((false, assign (.Name x q) X.env) :: assignEach es X.env) = none
        rw [List.findIdx?_cons]
        simp [p3]
    · cases h
def gtOf (K : PySem.W.Frag) : G → TG
  | .name i => gName i
  | .tup is => gTup K is.length (gNs is)
theorem g_ok (C : Cs B I X) {g : G} {e : Expr} (h : chkG X.N X.fn X.env.scope g e = true) : PG X e (gtOf X.K g) := by
  cases g with
  | name i =>
    simp only [chkG] at h
    split at h
    · rename_i x q
      simp only [Bool.and_eq_true, chkL, decide_eq_true_eq] at h
      obtain ⟨l1, l2⟩ := loc_of h.2
      exact pg_name C.nd h.1 l1 l2
    · cases h
  | tup is =>
    simp only [chkG] at h
    split at h
    · rename_i es k q
      obtain ⟨p1, p2, p3⟩ := pgs_ns C.nd h
      exact pg_tup C.calm p1 p2 p3
    · cases h
theorem gok (K : PySem.W.Frag) (g : G) : GOk I g (gtOf K g) := by
  cases g with
  | name i =>
    intro ι H w v σc σ σ' rs r e
    simp only [store, Option.some.injEq] at e
    subst e
    exact ⟨σ.set i (some v), rs.set r, fun own ho => wipe_set (by simpa [gIn] using ho), fun Q q => q⟩
  | tup is =>
    intro ι H w v σc σ σ' rs r e
    simp only [store] at e
    split at e
    · rename_i ws
      cases r with
      | tup hp hn rr l =>
        obtain ⟨q1, τ, q2, q3, q4⟩ := ns_ok rs rr e
        exact ⟨τ, q2, q3, fun Q q => ⟨_, _, rfl, .inl (.inl hp), q1.symm, q4 Q q⟩⟩
    · cases e

/-! ### what is walked -/
/-- the walker yields the items, whatever happens to what is ours -/
def JOk (I : Inf) (ι : Pl) (H : Hp) (xs : List W) (J : It) : Prop := xs.length ≤ LIM ∧ ∀ ι2 H2 h2, Mo ι H ι2 H2 → Rep I ι2 h2 H2 → ∀ i, (∀ w, xs[i]? = some w → J.go i H2 ∧ ∀ x H3, J.yld i H2 x H3 → Ext ι2 H2 ι2 H3 ∧ Rep I ι2 h2 H3 ∧ RW I ι2 H3 w x) ∧ (xs.length ≤ i → J.stop i H2)
def tI (I : Inf) (f : Env → EH → T (List W × Lk)) (Wx : XK) : TI := fun σ H R => ∃ ι h σc, RS I ι H σc σ ∧ Rep I ι h H ∧ (f σc h).All (fun p h' => ∀ ι' H' J, Ext ι H ι' H' → Rep I ι' h' H' → JOk I ι' H' p.1 J → R J H') (Px I ι H Wx)
theorem j_list {ι : Pl} {H : Hp} {p : Addr} {ws : List W} {vs : List V} (K : PySem.W.Frag) (h : H p = some (.lst vs) ∧ p ∉ ι ∨ ∃ o, H p = some (.frz o (.lst vs))) (r : RWs I ι H ws vs) (l : ws.length ≤ LIM) : JOk I ι H ws (Itl K p) := by
  refine ⟨l, fun ι2 H2 h2 e2 rp2 i => ?_⟩
  have hs : SqL K H2 p vs := by
    rcases h with ⟨h, hn⟩ | ⟨o, h⟩
    · exact .inl (.inl (e2.kp _ _ h hn).1)
    · exact .inl (.inr ⟨o, e2.frz _ _ _ h⟩)
  refine ⟨fun w hw => ?_, fun hi => ⟨vs, hs, by rw [← r.length]; exact hi⟩⟩
  obtain ⟨v, hv, rv⟩ := r.get hw
  refine ⟨⟨vs, v, hs, hv⟩, fun x H3 y => ?_⟩
  obtain ⟨e, y⟩ := y
  subst e
  have := y vs hs
  rw [hv] at this
  cases this
  exact ⟨Ext.refl, rp2, rv.mo e2.toMw⟩
theorem j_tup {ι : Pl} {H : Hp} {p : Addr} {ws : List W} {vs : List V} (K : PySem.W.Frag) (h : H p = some (.tup vs)) (hn : p ∉ ι) (r : RWs I ι H ws vs) (l : ws.length ≤ LIM) : JOk I ι H ws (Itt K p) := by
  refine ⟨l, fun ι2 H2 h2 e2 rp2 i => ?_⟩
  have hs : SqT K H2 p vs := .inl (.inl (e2.kp _ _ h hn).1)
  refine ⟨fun w hw => ?_, fun hi => ⟨vs, hs, by rw [← r.length]; exact hi⟩⟩
  obtain ⟨v, hv, rv⟩ := r.get hw
  refine ⟨⟨vs, v, hs, hv⟩, fun x H3 y => ?_⟩
  obtain ⟨e, y⟩ := y
  subst e
  have := y vs hs
  rw [hv] at this
  cases this
  exact ⟨Ext.refl, rp2, rv.mo e2.toMw⟩
theorem rngW_get : ∀ {n : Nat} {lo : Int} {i : Nat}, (rngW lo n)[i]? = if i < n then some (.int (lo + i)) else none
  | 0, lo, i => by simp [rngW]
  | n + 1, lo, 0 => by simp [rngW]
  | n + 1, lo, i + 1 => by
    have h := rngW_get (n := n) (lo := lo + 1) (i := i)
    simp only [rngW, List.getElem?_cons_succ, h]
    by_cases hi : i < n
    · rw [if_pos hi, if_pos (by omega)]
      congr 2
      push_cast
      omega
    · rw [if_neg hi, if_neg (by omega)]
theorem rngW_len : ∀ {n : Nat} {lo : Int}, (rngW lo n).length = n
  | 0, _ => rfl
  | n + 1, lo => by simp [rngW, rngW_len]
theorem j_rng {ι : Pl} {H : Hp} {lo : Int} {n : Nat} (l : n ≤ LIM) : JOk I ι H (rngW lo n) (Itr lo n) := by
  refine ⟨by rw [rngW_len]; exact l, fun ι2 H2 h2 e2 rp2 i => ⟨fun w hw => ?_, fun hi => by rw [rngW_len] at hi; exact hi⟩⟩
  rw [rngW_get] at hw
  split at hw
  · rename_i hi
    cases hw
    refine ⟨hi, fun x H3 y => ?_⟩
    obtain ⟨e, y⟩ := y
    subst e y
    exact ⟨Ext.refl, rp2, .int _⟩
  · cases hw
/-- a list or a tuple is walked -/
def iSeq (K : PySem.W.Frag) (tl : TE) : TI := fun σ H R => tl σ H fun x H1 => ∃ a, x = .ref a ∧ (((∃ xs, SqL K H1 a xs) ∧ R (Itl K a) H1) ∨ ((∃ xs, SqT K H1 a xs) ∧ R (Itt K a) H1))
theorem pi_seq {tg l : Expr} {tl : TE} (hl : PE X l tl) : PI X tg l (iSeq X.K tl) := by
  refine ⟨fun pins s σ H R I h => ?_⟩
  refine thn (hl.run pins s σ H _ I h) fun v s1 ⟨x, H1, I1, r1, q1⟩ => ?_
  obtain ⟨a, e, q1⟩ := q1
  subst e
  cases r1
  rcases q1 with ⟨⟨xs, hq⟩, q⟩ | ⟨⟨xs, hq⟩, q⟩
  · obtain ⟨its, rv, p, hz⟩ := I1.list hq
    refine wpAny_pyIter_list p.isList ?_
    refine ⟨s1.heap.objs.size, [s1.heap.objs.size], _, _, H1, rfl, I1.kept (t' := s1.toks) fun b o e => Heap.get?_push_of_some _ e, turn_list a _, ⟨_, Heap.get?_push_size _ rfl, rfl, rfl⟩, fun b hb => ?_, q⟩
    have e : b = s1.heap.objs.size := by simpa using hb
    subst e
    exact I1.fpOk (Nat.le_refl _) (I1.hok.fresh (Nat.le_refl _))
  · obtain ⟨its, rv, p, hz⟩ := I1.tuple hq
    refine wpAny_pyIter_tuple (show s1.heap.IsTuple a its.toArray from p) ?_
    refine ⟨s1.heap.objs.size, [s1.heap.objs.size], _, _, H1, rfl, I1.kept (t' := s1.toks) fun b o e => Heap.get?_push_of_some _ e, turn_tuple a _, ⟨_, Heap.get?_push_size _ rfl, rfl, rfl⟩, fun b hb => ?_, q⟩
    have e : b = s1.heap.objs.size := by simpa using hb
    subst e
    exact I1.fpOk (Nat.le_refl _) (I1.hok.fresh (Nat.le_refl _))
theorem goI {ι : Pl} {H : Hp} {h : EH} {σ : St} {f : Env → EH → T W} {k : W → EH → T (List W × Lk)} {R : It → Hp → Prop} (rs : RS I ι H σc σ) (rp : Rep I ι h H)
    (q : ((f σc h).bind k).All (fun p h' => ∀ ι' H' J, Ext ι H ι' H' → Rep I ι' h' H' → JOk I ι' H' p.1 J → R J H') (Px I ι H Wx)) {Q : VK}
    (c : ∀ ι1 H1 h1 w v, Ext ι H ι1 H1 → RS I ι1 H1 σc σ → Rep I ι1 h1 H1 → RW I ι1 H1 w v → (k w h1).All (fun p h' => ∀ ι' H' J, Ext ι1 H1 ι' H' → Rep I ι' h' H' → JOk I ι' H' p.1 J → R J H') (Px I ι1 H1 Wx) → Q v H1) : tE I f Wx σ H Q :=
  goE (P := fun ι H (p : List W × Lk) h' => ∀ ι' H' J, Ext ι H ι' H' → Rep I ι' h' H' → JOk I ι' H' p.1 J → R J H') (fun e z ι2 H2 J e2 => z ι2 H2 J (e.trans e2)) rs rp q c
theorem i_seq {tg : Expr} (ha : PE X a (tE I fa Wx)) : PI X tg a (tI I (fun σ h => (fa σ h).bind fun x h => match x with
    | .tup xs => .ok (xs, .no) h
    | .lst xs => .ok (xs, .no) h
    | _ => .fail) Wx) := by
  refine ⟨fun pins s σ H R J ⟨ι, h, σc, rs, rp, q⟩ => (pi_seq ha).run pins s σ H R J ?_⟩
  refine goI rs rp q fun ι1 H1 h1 w1 v1 e1 rs1 rp1 r1 q1 => ?_
  cases r1 <;> first | exact q1.elim | skip
  · rename_i p ws vs hp hn rr l
    exact ⟨p, rfl, .inr ⟨⟨vs, .inl (.inl hp)⟩, q1 ι1 H1 _ Ext.refl rp1 (j_tup _ hp hn rr l)⟩⟩
  · rename_i p ws vs hp hn rr l
    exact ⟨p, rfl, .inl ⟨⟨vs, .inl (.inl hp)⟩, q1 ι1 H1 _ Ext.refl rp1 (j_list _ (.inl ⟨hp, hn⟩) rr l)⟩⟩
/-- a list at a place, locked -/
theorem i_seqL {tg : Expr} (ha : PE X a (tE I fa Wx)) : PI X tg a (tI I (fun σ h => (fa σ h).bind fun x h => match x with
    | .ref n => (match h[n]? with
      | some (.lstL xs) => .ok (xs, .no) h
      | _ => .fail)
    | _ => .fail) Wx) := by
  refine ⟨fun pins s σ H R J ⟨ι, h, σc, rs, rp, q⟩ => (pi_seq ha).run pins s σ H R J ?_⟩
  refine goI rs rp q fun ι1 H1 h1 w1 v1 e1 rs1 rp1 r1 q1 => ?_
  cases r1 <;> first | exact q1.elim | skip
  rename_i n p hp
  simp only at q1
  split at q1
  · rename_i xs hx
    obtain ⟨o, vs, g1, g2, g3⟩ := rp1.at hp hx
    exact ⟨p, rfl, .inl ⟨⟨vs, .inl (.inr ⟨o, g1⟩)⟩, q1 ι1 H1 _ Ext.refl rp1 (j_list _ (.inr ⟨o, g1⟩) g2 g3)⟩⟩
  · exact q1.elim
theorem rk_kV {ι : Pl} {H : Hp} {w : W} {k : Key} (r : RK w k) : RW I ι H w (kV k) := by
  cases w <;> cases k <;> simp [RK] at r <;> subst r
  · exact .int _
  · exact .str _
theorem RKV.at {ι : Pl} {H : Hp} : ∀ {ks : List (W × W)} {ls : List (Key × V)} {i : Nat}, RKV I ι H ks ls → (∀ w, (ks.map (·.1))[i]? = some w → ∃ k v, ls[i]? = some (k, v) ∧ RK w k)
  | [], [], i, .nil => fun w h => by simp at h
  | (a, b) :: ks, (k, v) :: ls, 0, .cons ⟨q1, q2⟩ r => fun w h => by
    simp at h
    subst h
    exact ⟨k, v, rfl, q1⟩
  | (a, b) :: ks, (k, v) :: ls, i + 1, .cons ⟨q1, q2⟩ r => fun w h => by
    obtain ⟨k', v', h1, h2⟩ := RKV.at r w (by simpa using h)
    exact ⟨k', v', by simpa using h1, h2⟩
theorem j_keys {ι : Pl} {H : Hp} {d : Addr} {o : Obj} {ks : List (W × W)} {ls : List (Key × V)} (h : H d = some (.frz o (.dK ls))) (r : RKV I ι H ks ls) (l : ks.length ≤ LIM) : JOk I ι H (ks.map (·.1)) (Itk d o ls) := by
  refine ⟨by simpa using l, fun ι2 H2 h2 e2 rp2 i => ⟨fun w hw => ?_, fun hi => ?_⟩⟩
  · obtain ⟨k, v, h1, h3⟩ := RKV.at r w hw
    refine ⟨⟨e2.frz _ _ _ h, (List.getElem?_eq_some_iff.mp h1).1⟩, fun x H3 y => ?_⟩
    obtain ⟨e, k', v', h4, h5⟩ := y
    subst e
    rw [h1] at h4
    cases h4
    subst h5
    exact ⟨Ext.refl, rp2, rk_kV h3⟩
  · refine ⟨e2.frz _ _ _ h, ?_⟩
    rw [← RKV.len r]
    simpa using hi
theorem i_keysL {tg : Expr} (ha : PE X a (tE I fa Wx)) : PI X tg a (tI I (fun σ h => (fa σ h).bind fun x h => match x with
    | .ref n => (match h[n]? with
      | some (.dicL kvs) => .ok (kvs.map (·.1), .no) h
      | _ => .fail)
    | _ => .fail) Wx) := by
  refine ⟨fun pins s σ H R J ⟨ι, h, σc, rs, rp, q⟩ => (pi_keys ha).run pins s σ H R J ?_⟩
  refine goI rs rp q fun ι1 H1 h1 w1 v1 e1 rs1 rp1 r1 q1 => ?_
  cases r1 <;> first | exact q1.elim | skip
  rename_i n p hp
  simp only at q1
  split at q1
  · rename_i xs hx
    obtain ⟨o, ls, g1, g2, g3, _⟩ := rp1.at hp hx
    exact ⟨p, o, rfl, .inl ⟨ls, g1, q1 ι1 H1 _ Ext.refl rp1 (j_keys g1 g2 g3)⟩⟩
  · exact q1.elim
theorem i_rng (C : Cs B I X) {tg : Expr} {x : Str} (hn : isB B X.env.scope "range" x = true) (hp : plain a = true) (ha : PE X a (tE I fa Wx)) : PI X tg (.Call (.Name x p) [a] [] pos) (tI I (fun σ h => (fa σ h).bind fun x h => match x with
    | .int n => if n ≤ LIM ∧ -1000000 < n then .ok (rngW 0 n.toNat, .no) h else .fail
    | _ => .fail) Wx) := by
  obtain ⟨rfl, g, n⟩ := bn_of C hn
  refine ⟨fun pins s σ H R J ⟨ι, h, σc, rs, rp, q⟩ => (pi_range1 g n (a_cons (Wx := Wx) hp ha a_nil) (by rw [starE hp]; rfl)).run pins s σ H R J ?_⟩
  refine ⟨ι, h, σc, rs, rp, T.All.of_bind ((T.All.bind q).mono (fun w h1 q1 => ?_) fun _ _ z => z)⟩
  intro ι1 H1 vs e1 rp1 r1
  cases r1 with
  | cons r2 rr =>
    cases rr
    cases r2 <;> first | exact q1.elim | skip
    rename_i k
    simp only at q1
    split at q1
    · rename_i hk
      refine ⟨k, rfl, by omega, ?_, q1 ι1 H1 _ e1 rp1 (j_rng ?_)⟩
      · have : (LIM : Int) = 100000 := rfl
        omega
      · have : (LIM : Int) = 100000 := rfl
        omega
    · exact q1.elim
theorem i_rng2 (C : Cs B I X) {tg : Expr} {x : Str} (hn : isB B X.env.scope "range" x = true) (hp : plain a = true) (hp2 : plain b = true) (ha : PE X a (tE I fa Wx)) (hb : PE X b (tE I fb Wx)) : PI X tg (.Call (.Name x p) [a, b] [] pos) (tI I (fun σ h => (fa σ h).bind fun x h => (fb σ h).bind fun y h => match x, y with
    | .int i, .int n => if n - i ≤ LIM ∧ -1000000 < n ∧ -1000000 < i ∧ i < 1000000 ∧ n < 1000000 then .ok (rngW i (n - i).toNat, .no) h else .fail
    | _, _ => .fail) Wx) := by
  obtain ⟨rfl, g, n⟩ := bn_of C hn
  refine ⟨fun pins s σ H R J ⟨ι, h, σc, rs, rp, q⟩ => (pi_range2 g n (a_cons (Wx := Wx) hp ha (a_cons hp2 hb a_nil)) (by rw [starE hp, starE hp2]; rfl) (by rw [starE hp2]; rfl)).run pins s σ H R J ?_⟩
  refine ⟨ι, h, σc, rs, rp, T.All.of_bind ((T.All.bind q).mono (fun w h1 q1 => T.All.of_bind (T.All.of_bind ((T.All.bind q1).mono (fun w2 h2 q2 => ?_) fun _ _ z => z))) fun _ _ z => z)⟩
  intro ι1 H1 vs e1 rp1 r1
  cases r1 with
  | cons r2 rr =>
    cases rr with
    | cons r3 rr =>
      cases rr
      cases r2 <;> cases r3 <;> first | exact q2.elim | skip
      rename_i i k
      simp only at q2
      split at q2
      · rename_i hk
        have hL : (LIM : Int) = 100000 := rfl
        refine ⟨i, k, rfl, by omega, q2 ι1 H1 _ e1 rp1 (j_rng ?_)⟩
        omega
      · exact q2.elim
/-! ### comprehensions -/
theorem c_none : PTs X [] (tB I (fun _ h => .ok true h) Wx) := ⟨fun pins s σ H Q J ⟨ι, h, σc, rs, rp, q⟩ => pts_nil.run pins s σ H Q J (q ι H Ext.refl rp)⟩
theorem c_some (hc : PT X c (tTest (tE I fc Wx))) : PTs X [c] (tB I (fun σ h => (fc σ h).bind fun x h => boolK x fun k => .ok k h) Wx) := by
  refine ⟨fun pins s σ H Q J ⟨ι, h, σc, rs, rp, q⟩ => (pts_one hc).run pins s σ H Q J ?_⟩
  show tE I fc Wx σ H (fun x H' => ∃ k, x = .bl k ∧ Q k H')
  refine goE (P := fun ι H => Pb I ι H Q) (fun e z ι2 H2 e2 => z ι2 H2 (e.trans e2)) rs rp q fun ι1 H1 h1 w1 v1 e1 rs1 rp1 r1 q1 => ?_
  obtain ⟨k, rfl, rfl, q2⟩ := finK r1 q1
  exact ⟨k, rfl, q2 ι1 H1 Ext.refl rp1⟩
/-- one turn's body -/
def bodyC (g : G) (own : List Nat) (fc : Env → EH → T Bool) (fe : Env → EH → T W) (σc : Env) (x : W) (h : EH) : T (Option W) := match store g x (wipeE σc own) with
  | none => .fail
  | some σ' => (fc σ' h).bind fun k h => if k then (fe σ' h).bind fun y h => .ok (some y) h else .ok none h
theorem comp_read {g : G} {gt : TG} {own : List Nat} {fi : Env → EH → T (List W × Lk)} {fc : Env → EH → T Bool} {fe : Env → EH → T W} (hg : GOk I g gt) (ho : gIn g own = true) {σ : St} {H : Hp} {Q : VK}
    (hw : tE I (fun σ h => (fi σ h).bind fun p h => (forL (bodyC g own fc fe σ) [] p.1 h).nox.bind fun ys h => .ok (.lst ys) h) Wx σ H Q) : tLc (tI I fi Wx) gt (tB I fc noX) (tE I fe noX) own σ H Q := by
  obtain ⟨ι, h, σc, rs, rp, q⟩ := hw
  refine ⟨ι, h, σc, rs, rp, (T.All.bind q).mono (fun pp h1 q1 ι1 H1 J e1 rp1 hJ => ?_) fun _ _ z => z⟩
  intro D hD
  have q2 := T.All.of_nox ((T.All.bind q1).mono (X' := fun _ _ => True) (fun _ _ z => z) fun _ _ _ => trivial)
  obtain ⟨xs, lk⟩ := pp
  obtain ⟨hlen, hJ⟩ := hJ
  simp only at q2 hlen hJ
  -- the state at a turn
  let St (i : Nat) (H2 : Hp) : Prop := ∃ ι2 h2 acc vacc, i ≤ xs.length ∧ Ext ι1 H1 ⟨ι2.own, ι1.res⟩ H2 ∧ ι2.res = D :: ι1.res ∧ D ∉ ι2.own ∧ Mo ι1 H1 ι2 H2 ∧ Rep I ι2 h2 H2 ∧ H2 D = some (.lst vacc) ∧ RWs I ι2 H2 acc vacc ∧ acc.length ≤ i ∧
    (forL (bodyC g own fc fe σc) acc (xs.drop i) h2).All (fun ys h' => Pv I ι H Q (.lst ys) h') (fun _ _ => False)
  have hDn1 : D ∉ ι1 := rp1.new hD
  refine ⟨fun i m H2 => m = xs.length - i ∧ St i H2, ⟨xs.length, by simp, ι1.apart D, h1, [], [], Nat.zero_le _, (Ext.refl (ι := ι1)).chgNew hD, rfl, fun z => hDn1 (.inl z), Mo.apart hD, rp1.apart hD, upd_same, .nil, Nat.le_refl _, q2⟩, ?_⟩
  rintro i m H2 ⟨rfl, ι2, h2, acc, vacc, hi, e2, hr2, hn2, m2, rp2, hD2, racc, hacc, q3⟩
  obtain ⟨hj1, hj2⟩ := hJ ι2 H2 h2 m2 rp2 i
  have hDm : D ∈ ι2.res := by rw [hr2]; exact List.mem_cons_self
  by_cases hlt : i < xs.length
  · have hx : xs[i]? = some xs[i] := List.getElem?_eq_getElem hlt
    obtain ⟨hgo, hy⟩ := hj1 _ hx
    rw [List.drop_eq_getElem_cons hlt] at q3
    refine .inr ⟨hgo, St (i + 1), fun H' st => ⟨xs.length - (i + 1), by omega, rfl, st⟩, fun x H3 y => ?_⟩
    obtain ⟨e3, rp3, rx⟩ := hy x H3 y
    have m3 := m2.trans e3.mo
    have rs3 : RS I ι2 H3 (wipeE σc own) (wipe σ own) := ((rs.ext e1).mo m3).wipe own
    simp only [forL] at q3
    have q4 := T.All.bind q3
    unfold bodyC at q4
    cases hst : store g xs[i] (wipeE σc own) with
    | none => rw [hst] at q4; exact q4.elim
    | some σ' =>
      rw [hst] at q4
      obtain ⟨τ, rs4, hwp, hq⟩ := hg ι2 H3 _ _ _ _ _ rs3 rx hst
      have hD3 : H3 D = some (.lst vacc) := e3.keep _ _ hD2 hn2
      refine hq _ ⟨(hwp own ho).trans (wipe_wipe own fun _ z => z), ?_⟩
      refine ⟨ι2, h2, σ', rs4, rp3, ((T.All.bind q4).mono (X' := Px I ι2 H3 noX) (fun k h4 q5 => ?_) fun _ _ z => z.elim)⟩
      intro ι4 H4 e4 rp4
      have hD4 : H4 D = some (.lst vacc) := e4.keep _ _ hD3 hn2
      have hn4 : D ∉ ι4.own := e4.own_not hD3 hn2
      have m4 := m3.trans e4.mo
      have e14 : Ext ι1 H1 ⟨ι4.own, ι1.res⟩ H4 := e2.trans ((e3.trans e4).swap ι1.res)
      have racc4 : RWs I ι4 H4 acc vacc := (racc.ext e3).ext e4
      have hr4 : ι4.res = D :: ι1.res := e4.rs.trans hr2
      cases k with
      | false =>
        rw [if_neg Bool.false_ne_true] at q5 ⊢
        have q6 : (forL _ acc (xs.drop (i + 1)) h4).All _ _ := q5
        exact ⟨ι4, h4, acc, vacc, hlt, e14, hr4, hn4, m4, rp4, hD4, racc4, by omega, q6⟩
      | true =>
        rw [if_pos rfl] at q5 ⊢
        refine ⟨ι4, h4, σ', rs4.ext e4, rp4, ((T.All.bind q5).mono (X' := Px I ι4 H4 noX) (fun w h5 q6 => ?_) fun _ _ z => z.elim)⟩
        intro ι5 H5 v e5 rp5 r5
        have hD5 : H5 D = some (.lst vacc) := e5.keep _ _ hD4 hn4
        have hn5 : D ∉ ι5.own := e5.own_not hD4 hn4
        have hr5 : ι5.res = D :: ι1.res := e5.rs.trans hr4
        have hm5 : D ∈ ι5.res := by rw [hr5]; exact List.mem_cons_self
        have racc5 : RWs I ι5 H5 acc vacc := racc4.ext e5
        have hll : vacc.length ≤ i := by rw [← racc.length]; exact hacc
        have nf : ∀ o u, H5 D ≠ some (.frz o u) := fun o u z => by rw [hD5] at z; cases z
        refine ⟨vacc, hD5, lim_lt (by omega), ι5, h5, acc ++ [w], vacc ++ [v], hlt, (e14.trans (e5.swap ι1.res)).chgNew hD, hr5, hn5, (m4.trans e5.mo).trans (Mo.res hm5 nf), rp5.resUpd hm5 hn5 nf, upd_same, ?_, by simp; omega, q6⟩
        exact (racc5.append (.cons r5 .nil)).mo (Mo.res hm5 nf).toMw
  · have hi2 : i = xs.length := by omega
    refine .inl ⟨hj2 (by omega), ?_⟩
    rw [hi2, List.drop_length] at q3
    have q4 : Pv I ι H Q (.lst acc) h2 := q3
    refine q4 ⟨ι2.own, ι1.res⟩ H2 _ (e1.trans e2) (rp2.back hr2) (.lst hD2 (fun z => ?_) (racc.mo (Mo.back hr2).toMw) (by omega))
    rcases z with z | z
    · exact hn2 z
    · exact hDn1 (.inr z)

theorem compM_read {g : G} {gt : TG} {own : List Nat} {fi : Env → EH → T (List W × Lk)} {fc : Env → EH → T Bool} {fe : Env → EH → T W} (hg : GOk I g gt) (ho : gIn g own = true) {σ : St} {H : Hp} {Q : VK}
    (hw : tE I (fun σ h => (fi σ h).bind fun p h => (forM h.length (bodyC g own fc fe σ) p.1 (h ++ [.lst []])).nox.bind fun _ h' => .ok (.ref h.length) h') Wx σ H Q) : tLc (tI I fi Wx) gt (tB I fc noX) (tE I fe noX) own σ H Q := by
  obtain ⟨ι, h, σc, rs, rp, q⟩ := hw
  refine ⟨ι, h, σc, rs, rp, (T.All.bind q).mono (fun pp h1 q1 ι1 H1 J e1 rp1 hJ => ?_) fun _ _ z => z⟩
  intro D hD
  have q2 := T.All.of_nox ((T.All.bind q1).mono (X' := fun _ _ => True) (fun _ _ z => z) fun _ _ _ => trivial)
  obtain ⟨xs, lk⟩ := pp
  obtain ⟨hlen, hJ⟩ := hJ
  simp only at q2 hlen hJ
  have hDn : (ι1.push D).own[h1.length]? = some D := ι1.push_at D rp1.len.symm
  have eD : Ext ι1 H1 (ι1.push D) (upd H1 D (.lst [])) := Ext.mine hD
  let St (i : Nat) (H2 : Hp) : Prop := ∃ ι2 h2, i ≤ xs.length ∧ Ext (ι1.push D) (upd H1 D (.lst [])) ι2 H2 ∧ Rep I ι2 h2 H2 ∧
    (forM h1.length (bodyC g own fc fe σc) (xs.drop i) h2).All (fun _ h' => Pv I ι H Q (.ref h1.length) h') (fun _ _ => False)
  have roD : RO I (ι1.push D) (upd H1 D (.lst [])) (.lst []) D := ⟨[], upd_same, .nil, Nat.zero_le _⟩
  have rpD : Rep I (ι1.push D) (h1 ++ [.lst []]) (upd H1 D (.lst [])) := rp1.mine hD roD
  have st0 : St 0 (upd H1 D (.lst [])) := by
    refine ⟨ι1.push D, h1 ++ [.lst []], Nat.zero_le _, Ext.refl, rpD, ?_⟩
    rw [List.drop_zero]
    exact q2
  refine ⟨fun i m H2 => m = xs.length - i ∧ St i H2, ⟨xs.length, by simp, st0⟩, ?_⟩
  rintro i m H2 ⟨rfl, ι2, h2, hi, e2, rp2, q3⟩
  obtain ⟨hj1, hj2⟩ := hJ ι2 H2 h2 (eD.trans e2).mo rp2 i
  by_cases hlt : i < xs.length
  · have hx : xs[i]? = some xs[i] := List.getElem?_eq_getElem hlt
    obtain ⟨hgo, hy⟩ := hj1 _ hx
    rw [List.drop_eq_getElem_cons hlt] at q3
    refine .inr ⟨hgo, St (i + 1), fun H' st => ⟨xs.length - (i + 1), by omega, rfl, st⟩, fun x H3 y => ?_⟩
    obtain ⟨e3, rp3, rx⟩ := hy x H3 y
    have rs3 : RS I ι2 H3 (wipeE σc own) (wipe σ own) := ((rs.ext e1).ext ((eD.trans e2).trans e3)).wipe own
    simp only [forM] at q3
    have q4 := T.All.bind q3
    unfold bodyC at q4
    cases hst : store g xs[i] (wipeE σc own) with
    | none => rw [hst] at q4; exact q4.elim
    | some σ' =>
      rw [hst] at q4
      obtain ⟨τ, rs4, hwp, hq⟩ := hg ι2 H3 _ _ _ _ _ rs3 rx hst
      refine hq _ ⟨(hwp own ho).trans (wipe_wipe own fun _ z => z), ?_⟩
      refine ⟨ι2, h2, σ', rs4, rp3, ((T.All.bind q4).mono (X' := Px I ι2 H3 noX) (fun k h4 q5 => ?_) fun _ _ z => z.elim)⟩
      intro ι4 H4 e4 rp4
      have e24 : Ext (ι1.push D) (upd H1 D (.lst [])) ι4 H4 := (e2.trans e3).trans e4
      cases k with
      | false =>
        rw [if_neg Bool.false_ne_true] at q5 ⊢
        have q6 : (forM h1.length _ (xs.drop (i + 1)) h4).All _ _ := q5
        exact ⟨ι4, h4, hlt, e24, rp4, q6⟩
      | true =>
        rw [if_pos rfl] at q5 ⊢
        refine ⟨ι4, h4, σ', rs4.ext e4, rp4, ((T.All.bind q5).mono (X' := Px I ι4 H4 noX) (fun w h5 q6 => ?_) fun _ _ z => z.elim)⟩
        intro ι5 H5 v e5 rp5 r5
        have hD5 := (e24.trans e5).ix hDn
        have q7 : (match h5[h1.length]? with | some (.lst ys) => if ys.length < LIM then forM h1.length (bodyC g own fc fe σc) (xs.drop (i + 1)) (h5.set h1.length (.lst (ys ++ [w]))) else .fail | _ => .fail).All _ _ := q6
        split at q7
        · rename_i ys hys
          split at q7
          · rename_i hl
            obtain ⟨vs, g1, g2, g3⟩ := rp5.at hD5 hys
            have nf : ∀ o u, H5 D ≠ some (.frz o u) := fun o u z => by rw [g1] at z; cases z
            refine ⟨vs, g1, lim_lt (by rw [← g2.length]; omega), ι5, h5.set h1.length (.lst (ys ++ [w])), hlt, (e24.trans e5).trans (Ext.chg hD5 nf), rp5.chg hD5 nf ?_, q7⟩
            exact ⟨vs ++ [v], upd_same, (g2.append (.cons r5 .nil)).ext (Ext.chg hD5 nf), by rw [List.length_append]; exact hl⟩
          · exact q7.elim
        · exact q7.elim
  · have hi2 : i = xs.length := by omega
    refine .inl ⟨hj2 (by omega), ?_⟩
    rw [hi2, List.drop_length] at q3
    have q4 : Pv I ι H Q (.ref h1.length) h2 := q3
    exact q4 ι2 H2 _ ((e1.trans eD).trans e2) rp2 (.ref (e2.ix hDn))
end
end Z
namespace Z
open PySem PySem.Spec L2
section
variable {X : Cx} {I : Inf} {B : Tb} {Wx : XK} {pos p p2 : Pos} {σc : Env} {C : CallH} {M : MTab} {ini : Nat → Nat}
theorem PE_or {e : Expr} {t u : TE} (h1 : PE X e t) (h2 : PE X e u) : PE X e (fun σ H Q => t σ H Q ∨ u σ H Q) :=
  ⟨fun pins s σ H Q J q => q.elim (h1.run pins s σ H Q J) (h2.run pins s σ H Q J)⟩
theorem PE_imp {e : Expr} {t u : TE} (h1 : PE X e t) (h : ∀ σ H Q, u σ H Q → t σ H Q) : PE X e u := ⟨fun pins s σ H Q J q => h1.run pins s σ H Q J (h _ _ _ q)⟩
theorem simp_ev {σ : Env} {h : EH} : ∀ a : E, simp a = true → ev C M ini a σ h = .fail ∨ ∃ w, ev C M ini a σ h = .ok w h
  | .var i, _ => by
    simp only [ev]
    split
    · exact .inr ⟨_, rfl⟩
    · exact .inl rfl
  | .fld a f, hs => by
    rcases simp_ev (σ := σ) (h := h) a hs with e | ⟨w, e⟩
    · simp only [ev, e, T.bind]; exact .inl trivial
    · simp only [ev, e, T.bind]
      split
      · unfold ofO
        split
        · exact .inr ⟨_, rfl⟩
        · exact .inl rfl
      · exact .inl rfl
theorem insOf_set {h : EH} {n : Nat} {o o' : EO} (hn : h[n]? = some o) (ho : ∀ c fs, o ≠ .ins c fs) (ho' : ∀ c fs, o' ≠ .ins c fs) (w : W) : insOf (h.set n o') w = insOf h w := by
  cases w <;> try rfl
  rename_i m
  unfold insOf
  simp only
  by_cases e : n = m
  · subst e
    have hl : n < h.length := (List.getElem?_eq_some_iff.mp hn).1
    rw [List.getElem?_set_self hl, hn]
    cases o <;> cases o' <;> first | rfl | exact absurd rfl (ho _ _) | exact absurd rfl (ho' _ _)
  · rw [List.getElem?_set_ne e]
theorem simp_set {σ : Env} {h : EH} {n : Nat} {o o' : EO} (hn : h[n]? = some o) (ho : ∀ c fs, o ≠ .ins c fs) (ho' : ∀ c fs, o' ≠ .ins c fs) : ∀ (a : E) (w : W), simp a = true → ev C M ini a σ h = .ok w h → ev C M ini a σ (h.set n o') = .ok w (h.set n o')
  | .var i, w, _, e => by
    simp only [ev] at e ⊢
    split at e
    · rename_i w' hw
      cases e
      simp only [hw]
    · cases e
  | .fld a f, w, hs, e => by
    rcases simp_ev (C := C) (M := M) (ini := ini) (σ := σ) (h := h) a hs with e1 | ⟨w1, e1⟩
    · simp only [ev, e1, T.bind] at e; cases e
    · have e2 := simp_set hn ho ho' a w1 hs e1
      simp only [ev, e1, e2, T.bind] at e ⊢
      rw [insOf_set hn ho ho']
      split at e
      · rename_i c fs hc
        cases hl : look fs f with
        | none => rw [hl] at e; cases e
        | some w2 => rw [hl] at e; cases e; rfl
      · cases e
/-- the walker of what is locked already -/
def evIl (C : CallH) (M : MTab) (ini : Nat → Nat) : Z.I → Env → EH → T (List W × Lk)
  | .seqR a, σ, h => (ev C M ini a σ h).bind fun x h => match x with
    | .ref n => (match h[n]? with
      | some (.lstL xs) => .ok (xs, .no) h
      | _ => .fail)
    | _ => .fail
  | .keys a, σ, h => (ev C M ini a σ h).bind fun x h => match x with
    | .ref n => (match h[n]? with
      | some (.dicL kvs) => .ok (kvs.map (·.1), .no) h
      | _ => .fail)
    | _ => .fail
  | it, σ, h => evI C M ini it σ h
theorem lock_go {t : TE} {fi : Env → EH → T W} (ht : ∀ σ H Q, tE I fi Wx σ H Q → t σ H Q) {ι : Pl} {h : EH} {H : Hp} {σ : St} {Q : VK} {n : Nat} {d : Addr} {u : HO} {eoL eoU : EO} (rs : RS I ι H σc σ) (rp : Rep I ι h H) (hd : ι.own[n]? = some d) (hu : H d = some u) (mu : Mut (some u))
    (hL : ∀ od, RO I ι (upd H d (.frz od u)) eoL d) (hU : ∀ od ι' H', Ext ι (upd H d (.frz od u)) ι' H' → RO I ι' (upd H' d u) eoU d)
    (q : ((fi σc (h.set n eoL)).bind fun w h => T.ok w (h.set n eoU)).All (Pv I ι H Q) (Px I ι H Wx)) : tLockE t σ H Q := by
  have nf : ∀ o u, H d ≠ some (.frz o u) := fun o u' z => by
    rw [hu] at z
    cases z
    exact mu
  refine ⟨d, u, hu, mu, fun od => ht _ _ _ ⟨ι, h.set n eoL, σc, rs.ext (Ext.chg hd nf), rp.chg hd nf (hL od), (T.All.bind q).mono (fun w h' k => ?_) fun c h' k ι' H' e => k ι' H' ((Ext.chg hd nf).trans e)⟩⟩
  intro ι' H' v e rp' r
  have k : Pv I ι H Q w (h'.set n eoU) := k
  exact ⟨e.frz _ _ _ upd_same, k ι' (upd H' d u) v (e.unl (List.mem_of_getElem? hd) hu nf) (rp'.chgW (e.ix hd) (hU od ι' H' e)) (r.mo (Mw.own (List.mem_of_getElem? (e.ix hd))))⟩
theorem ro_lst {ι : Pl} {H : Hp} {d : Addr} {n : Nat} {xs : List W} {vs : List V} (hd : ι.own[n]? = some d) (hu : H d = some (.lst vs)) (r : RWs I ι H xs vs) (l : xs.length ≤ LIM) :
    (∀ od, RO I ι (upd H d (.frz od (.lst vs))) (.lstL xs) d) ∧ ∀ od ι' H', Ext ι (upd H d (.frz od (.lst vs))) ι' H' → RO I ι' (upd H' d (.lst vs)) (.lst xs) d :=
  ⟨fun od => ⟨od, vs, upd_same, r.mo (Mw.own (List.mem_of_getElem? hd)), l⟩, fun od ι' H' e => ⟨vs, upd_same, ((r.mo (Mw.own (List.mem_of_getElem? hd))).ext e).mo (Mw.own (List.mem_of_getElem? (e.ix hd))), l⟩⟩
theorem RKV.mo {ι ι' : Pl} {H H' : Hp} (m : Mw ι H ι' H') {ks : List (W × W)} {ls : List (Key × V)} (r : RKV I ι H ks ls) : RKV I ι' H' ks ls := Paired.mapP r fun _ _ q => ⟨q.1, q.2.mo m⟩
theorem ro_dic {ι : Pl} {H : Hp} {d : Addr} {n : Nat} {ks : List (W × W)} {ls : List (Key × V)} (hd : ι.own[n]? = some d) (hu : H d = some (.dK ls)) (r : RKV I ι H ks ls) (l : ks.length ≤ LIM) (nd : (ls.map (·.1)).Nodup) :
    (∀ od, RO I ι (upd H d (.frz od (.dK ls))) (.dicL ks) d) ∧ ∀ od ι' H', Ext ι (upd H d (.frz od (.dK ls))) ι' H' → RO I ι' (upd H' d (.dK ls)) (.dic ks) d :=
  ⟨fun od => ⟨od, ls, upd_same, RKV.mo (Mw.own (List.mem_of_getElem? hd)) r, l, nd⟩, fun od ι' H' e => ⟨ls, upd_same, RKV.mo (Mw.own (List.mem_of_getElem? (e.ix hd))) ((RKV.mo (Mw.own (List.mem_of_getElem? hd)) r).ext e), l, nd⟩⟩
def isLk : Z.I → Bool
  | .seqR a => simp a
  | .keys a => simp a
  | _ => false
theorem bind_assoc {α β γ : Type} {f : α → EH → T β} {g : β → EH → T γ} : ∀ {t : T α}, (t.bind f).bind g = t.bind fun a h => (f a h).bind g
  | .fail => rfl
  | .ok _ _ => rfl
  | .exc _ _ => rfl
  | .draw n k => by
    show T.draw n _ = T.draw n _
    congr 1
    funext i
    exact bind_assoc (t := k i)
theorem bind_ok {α : Type} : ∀ {t : T α}, (t.bind fun a h => .ok a h) = t
  | .fail => rfl
  | .ok _ _ => rfl
  | .exc _ _ => rfl
  | .draw n k => by
    show T.draw n _ = T.draw n _
    congr 1
    funext i
    exact bind_ok (t := k i)
/-- a walk with a lock: the inner reading is asked of what is locked -/
theorem walk_lock {it : Z.I} {t : TE} {k : Z.Env → List W → EH → T W} (hr : ∀ σ H Q, tE I (fun σ h => (evIl C M ini it σ h).bind fun p h => k σ p.1 h) Wx σ H Q → t σ H Q) (hs : isLk it = true) {σ : St} {H : Hp} {Q : VK}
    (hw : tE I (fun σ h => (evI C M ini it σ h).bind fun p h => (k σ p.1 h).bind fun w h => .ok w (unlock p.2 h)) Wx σ H Q) : t σ H Q ∨ tLockE t σ H Q := by
  obtain ⟨ι, h, σc, rs, rp, q⟩ := hw
  cases it with
  | seqR a =>
    have hs' : simp a = true := hs
    simp only [evI] at q
    rcases simp_ev (C := C) (M := M) (ini := ini) (σ := σc) (h := h) a hs' with e1 | ⟨w1, e1⟩
    · rw [e1] at q; exact q.elim
    · rw [e1] at q
      cases w1 <;> first | exact q.elim | skip
      rename_i n
      simp only [T.bind] at q
      cases hx : h[n]? with
      | none => rw [hx] at q; exact q.elim
      | some o =>
        rw [hx] at q
        cases o <;> first | exact q.elim | skip
        · rename_i xs
          obtain ⟨d, hd, vs, g1, g2, g3⟩ := rp.ob n _ hx
          obtain ⟨hL, hU⟩ := ro_lst hd g1 g2 g3
          have e2 := simp_set (o' := .lstL xs) hx (by intro _ _ z; cases z) (by intro _ _ z; cases z) a _ hs' e1
          refine .inr (lock_go hr rs rp hd g1 trivial hL hU ?_)
          have hl : n < h.length := (List.getElem?_eq_some_iff.mp hx).1
          simp only [evIl, e2, T.bind, List.getElem?_set_self hl]
          exact q
        · rename_i xs
          refine .inl (hr _ _ _ ⟨ι, h, σc, rs, rp, ?_⟩)
          simp only [evIl, e1, T.bind, hx]
          have q2 : ((k σc xs h).bind fun w h => T.ok w h).All (Pv I ι H Q) (Px I ι H Wx) := q
          rw [bind_ok] at q2
          exact q2
  | keys a =>
    have hs' : simp a = true := hs
    simp only [evI] at q
    rcases simp_ev (C := C) (M := M) (ini := ini) (σ := σc) (h := h) a hs' with e1 | ⟨w1, e1⟩
    · rw [e1] at q; exact q.elim
    · rw [e1] at q
      cases w1 <;> first | exact q.elim | skip
      rename_i n
      simp only [T.bind] at q
      cases hx : h[n]? with
      | none => rw [hx] at q; exact q.elim
      | some o =>
        rw [hx] at q
        cases o <;> first | exact q.elim | skip
        · rename_i xs
          obtain ⟨d, hd, vs, g1, g2, g3, g4⟩ := rp.ob n _ hx
          obtain ⟨hL, hU⟩ := ro_dic hd g1 g2 g3 g4
          have e2 := simp_set (o' := .dicL xs) hx (by intro _ _ z; cases z) (by intro _ _ z; cases z) a _ hs' e1
          refine .inr (lock_go hr rs rp hd g1 trivial hL hU ?_)
          have hl : n < h.length := (List.getElem?_eq_some_iff.mp hx).1
          simp only [evIl, e2, T.bind, List.getElem?_set_self hl]
          exact q
        · rename_i xs
          refine .inl (hr _ _ _ ⟨ι, h, σc, rs, rp, ?_⟩)
          simp only [evIl, e1, T.bind, hx]
          have q2 : ((k σc (xs.map (·.1)) h).bind fun w h => T.ok w h).All (Pv I ι H Q) (Px I ι H Wx) := q
          rw [bind_ok] at q2
          exact q2
  | _ => cases hs
/-- what is walked without a lock -/
theorem walk_free {it : Z.I} {t : TE} {k : Z.Env → List W → EH → T W} (hr : ∀ σ H Q, tE I (fun σ h => (evIl C M ini it σ h).bind fun p h => k σ p.1 h) Wx σ H Q → t σ H Q) (hs : match it with | .seqR _ => False | .keys _ => False | _ => True) {σ : St} {H : Hp} {Q : VK}
    (hw : tE I (fun σ h => (evI C M ini it σ h).bind fun p h => (k σ p.1 h).bind fun w h => .ok w (unlock p.2 h)) Wx σ H Q) : t σ H Q := by
  refine hr _ _ _ ?_
  have e : (fun σ h => (evI C M ini it σ h).bind fun p h => (k σ p.1 h).bind fun w h => T.ok w (unlock p.2 h)) = fun σ h => (evIl C M ini it σ h).bind fun p h => k σ p.1 h := by
    funext σ h
    cases it with
    | seq a =>
      simp only [evIl, evI, bind_assoc]
      congr 1
      funext x h
      cases x <;> simp only [T.bind] <;> exact bind_ok
    | rng a =>
      simp only [evIl, evI, bind_assoc]
      congr 1
      funext x h
      cases x <;> simp only [T.bind]
      split
      · exact bind_ok
      · rfl
    | rng2 a b =>
      simp only [evIl, evI, bind_assoc]
      congr 1
      funext x h
      congr 1
      funext y h
      cases x <;> cases y <;> simp only [T.bind]
      split
      · exact bind_ok
      · rfl
    | seqR _ => exact hs.elim
    | keys _ => exact hs.elim
  rw [e] at hw
  exact hw
end
end Z
namespace Z
open PySem PySem.Spec L2
section
variable {X : Cx} {I : Inf} {B : Tb} {Wx : XK} {pos p p2 : Pos} {σc : Env} {C : CallH} {M : MTab} {ini : Nat → Nat} {lv : Nat} {fn : Nat → Addr} {fd : Nat → FuncData}
theorem PT_imp {e : Expr} {t u : TT} (h1 : PT X e t) (h : ∀ σ H Q, u σ H Q → t σ H Q) : PT X e u := ⟨fun pins s σ H Q J q => h1.run pins s σ H Q J (h _ _ _ q)⟩
theorem PW_imp {e : Expr} {t u : TT} (h1 : PW X e t) (h : ∀ σ H Q, u σ H Q → t σ H Q) : PW X e u := ⟨fun w pins s σ H Q J q => h1.run w pins s σ H Q J (h _ _ _ q)⟩
/-- both readings of an expression -/
def Both (X : Cx) (e : Expr) (t : TE) : Prop := PE X e t ∧ PT X e (tTest t)
theorem both_v {e : Expr} {t : TE} (h : PE X e t) (he : ∀ whole, isTrue e X.env whole = (do let v ← whole; standAt e.pos; holding [v] (truthy v))) : Both X e t := ⟨h, pt_val h he⟩
def plainL : List Expr → Bool
  | [] => true
  | x :: xs => plain x && plainL xs
theorem vis_of {sc : Scope} {x : Str} (h : vis sc x = true) : Vis sc x := by
  unfold vis at h
  split at h
  · rename_i e; exact .inl e
  · rename_i e; exact .inr (.inl e)
  · rename_i e; exact .inr (.inr e)
  · cases h
def lenEs : Es → Nat
  | .nil => 0
  | .cons _ r => lenEs r + 1
theorem evs_len {σ : Env} : ∀ {es : Es} {h : EH} {P : List W → EH → Prop} {E : Nat → EH → Prop}, (evs C M ini es σ h).All P E → (evs C M ini es σ h).All (fun ws h => P ws h ∧ ws.length = lenEs es) E
  | .nil, h, P, E, q => ⟨q, rfl⟩
  | .cons e r, h, P, E, q => by
    have q1 := T.All.bind (show ((ev C M ini e σ h).bind fun x h => (evs C M ini r σ h).bind fun xs h => T.ok (x :: xs) h).All P E from q)
    show ((ev C M ini e σ h).bind fun x h => (evs C M ini r σ h).bind fun xs h => T.ok (x :: xs) h).All _ E
    refine T.All.of_bind (q1.mono (fun x h1 q2 => T.All.of_bind ((evs_len (T.All.bind q2)).mono (fun xs h2 ⟨q3, l⟩ => ?_) fun _ _ z => z)) fun _ _ z => z)
    exact ⟨q3, by simp [lenEs, l]⟩
theorem chks_len {B : Tb} {N : List Str} {sc : Scope} : ∀ {es : Es} {xs : List Expr}, chks B N es sc xs = true → lenEs es = xs.length ∧ ∀ x ∈ xs, plain x = true
  | .nil, xs, h => by
    simp only [chks] at h
    split at h
    · exact ⟨rfl, by simp⟩
    · cases h
  | .cons e r, xs, h => by
    simp only [chks] at h
    split at h
    · rename_i x xs
      simp only [Bool.and_eq_true] at h
      obtain ⟨l, k⟩ := chks_len h.2
      exact ⟨by simp [lenEs, l], fun y hy => by
        rcases List.mem_cons.mp hy with rfl | hy
        · exact h.1.1
        · exact k y hy⟩
    · cases h
theorem Cs.blk (S : Cs B I X) (s : Shared) (H : Hp) (scope : Scope) (ce : PySem.Env) (fp : List Addr) : Cs B I (X.blk s H scope ce fp) := ⟨S.K, S.calm, S.nd, S.hu, S.fl, S.fnd, S.cls, S.blt⟩
theorem Fs.blk (F : Fs B I C M ini lv fn fd X) (s : Shared) (H : Hp) (scope : Scope) (ce : PySem.Env) (fp : List Addr) : Fs B I C M ini lv fn fd (X.blk s H scope ce fp) := ⟨F.room, F.no, F.ar, F.ok, F.kp, F.bd, F.gl, F.cl, F.mt⟩
theorem noFold {e : Expr} (hp : plain e = true) : ∀ x, foldedSetIterable e X.env x = pure x := by
  intro x
  cases e <;> first | rfl | cases hp
theorem own_snd {N : List Str} (own : List Nat) : (own.map fun i => ((N.getD i Str.empty : Str), i)).map (·.2) = own := by
  rw [List.map_map]
  exact List.map_id' own

theorem s_var {i : Nat} {x : Str} (hN : X.N[i]? = some x) (hv : Vis X.env.scope x) (hd : (x == ("__debug__" : Str)) = false) (hcd : (x == ("__classdict__" : Str)) = false) : PE X (.Name x pos) (tE I (ev C M ini (.var i)) Wx) := by
  refine ⟨fun pins s σ H Q J ⟨ι, h, σc, rs, rp, q⟩ => (pe_var hN hv hd hcd).run pins s σ H Q J ?_⟩
  simp only [ev] at q
  split at q
  · rename_i w hw
    obtain ⟨v, h1, h2⟩ := rs.2 i w hw
    exact ⟨v, h1, fin q rp h2⟩
  · exact q.elim
def simpI : Z.I → Prop
  | .seqR a => simp a = true
  | .keys a => simp a = true
  | _ => True
theorem walk_any {it : Z.I} {t : TE} {e : Expr} {k : Z.Env → List W → EH → T W} (ht : PE X e t) (hr : ∀ σ H Q, tE I (fun σ h => (evIl C M ini it σ h).bind fun p h => k σ p.1 h) Wx σ H Q → t σ H Q) (hs : simpI it) :
    PE X e (tE I (fun σ h => (evI C M ini it σ h).bind fun p h => (k σ p.1 h).bind fun w h => .ok w (unlock p.2 h)) Wx) := by
  cases it with
  | seqR a => exact PE_imp (PE_or ht (pe_lock ht)) fun σ H Q q => walk_lock hr hs q
  | keys a => exact PE_imp (PE_or ht (pe_lock ht)) fun σ H Q q => walk_lock hr hs q
  | seq a => exact PE_imp ht fun σ H Q q => walk_free hr trivial q
  | rng a => exact PE_imp ht fun σ H Q q => walk_free hr trivial q
  | rng2 a b => exact PE_imp ht fun σ H Q q => walk_free hr trivial q
theorem chkI_simp {N : List Str} {sc : Scope} {it : Z.I} {x tg : Expr} (h : chkI B N it sc x tg = true) : simpI it := by
  cases it with
  | seqR a => simp only [chkI, Bool.and_eq_true] at h; exact h.1.1
  | keys a => simp only [chkI, Bool.and_eq_true] at h; exact h.1.1
  | _ => trivial
mutual
theorem snd : ∀ (e : E) {X : Cx} {Wx : XK} (S : Cs B I X) (F : Fs B I C M ini lv fn fd X) (tk : Takes X (fun c d _ H => Wx c d H)) {x : Expr}, chk B X.N e X.env.scope x = true → Both X x (tE I (ev C M ini e) Wx)
  | .nev, X, Wx, S, F, tk, x, h => ⟨⟨fun pins s σ H Q J ⟨ι, h, σc, rs, rp, q⟩ => q.elim⟩, ⟨fun pins s σ H Q J ⟨ι, h, σc, rs, rp, q⟩ => q.elim⟩⟩
  | .var i, X, Wx, S, F, tk, x, h => by
    simp only [chk] at h
    split at h
    · simp only [chkN, Bool.and_eq_true, decide_eq_true_eq] at h
      exact both_v (s_var h.1.1 (vis_of h.1.2) (okN_1 h.2) (okN_2 h.2)) fun _ => rfl
    · cases h
  | .int i, X, Wx, S, F, tk, x, h => by
    simp only [chk] at h
    split at h
    · simp only [decide_eq_true_eq] at h
      subst h
      exact both_v ⟨fun pins s σ H Q J ⟨ι, h, σc, rs, rp, q⟩ => pe_int.run pins s σ H Q J (fin q rp (.int _))⟩ fun _ => rfl
    · cases h
  | .bl i, X, Wx, S, F, tk, x, h => by
    simp only [chk] at h
    split at h
    · simp only [decide_eq_true_eq] at h
      subst h
      exact both_v ⟨fun pins s σ H Q J ⟨ι, h, σc, rs, rp, q⟩ => pe_bl.run pins s σ H Q J (fin q rp (.bl _))⟩ fun _ => rfl
    · cases h
  | .non, X, Wx, S, F, tk, x, h => by
    simp only [chk] at h
    split at h
    · exact both_v ⟨fun pins s σ H Q J ⟨ι, h, σc, rs, rp, q⟩ => pe_non.run pins s σ H Q J (fin q rp .non)⟩ fun _ => rfl
    · cases h
  | .str i, X, Wx, S, F, tk, x, h => by
    simp only [chk] at h
    split at h
    · simp only [decide_eq_true_eq] at h
      subst h
      exact both_v ⟨fun pins s σ H Q J ⟨ι, h, σc, rs, rp, q⟩ => pe_str.run pins s σ H Q J (fin q rp (.str _))⟩ fun _ => rfl
    · cases h
  | .bin o a b, X, Wx, S, F, tk, x, h => by
    simp only [chk] at h
    split at h
    · simp only [Bool.and_eq_true, decide_eq_true_eq] at h
      obtain ⟨⟨rfl, h1⟩, h2⟩ := h
      exact both_v (s_bin (snd a S F tk h1).1 (snd b S F tk h2).1) fun _ => rfl
    · cases h
  | .cmp c a b, X, Wx, S, F, tk, x, h => by
    simp only [chk] at h
    split at h
    · simp only [Bool.and_eq_true, decide_eq_true_eq] at h
      obtain ⟨⟨rfl, h1⟩, h2⟩ := h
      exact s_cmp (snd a S F tk h1).1 (snd b S F tk h2).1
    · cases h
  | .chain c d a b f, X, Wx, S, F, tk, x, h => by
    simp only [chk] at h
    split at h
    · simp only [Bool.and_eq_true, decide_eq_true_eq] at h
      obtain ⟨⟨⟨⟨rfl, rfl⟩, h1⟩, h2⟩, h3⟩ := h
      exact s_chain (snd a S F tk h1).1 (snd b S F tk h2).1 (snd f S F tk h3).1
    · cases h
  | .eqI n a b, X, Wx, S, F, tk, x, h => by
    simp only [chk] at h
    split at h
    · simp only [Bool.and_eq_true, decide_eq_true_eq] at h
      obtain ⟨⟨rfl, h1⟩, h2⟩ := h
      exact s_eqI (snd a S F tk h1).1 (snd b S F tk h2).1
    · cases h
  | .eqD n a b, X, Wx, S, F, tk, x, h => by
    simp only [chk] at h
    split at h
    · simp only [Bool.and_eq_true, decide_eq_true_eq] at h
      obtain ⟨⟨rfl, h1⟩, h2⟩ := h
      exact s_eqD S.K (by have := S.hu; omega) (snd a S F tk h1).1 (snd b S F tk h2).1
    · cases h
  | .isN n a, X, Wx, S, F, tk, x, h => by
    simp only [chk] at h
    split at h
    · simp only [Bool.and_eq_true, decide_eq_true_eq] at h
      obtain ⟨rfl, h1⟩ := h
      exact s_isN (snd a S F tk h1).1
    · cases h
  | .not a, X, Wx, S, F, tk, x, h => by
    simp only [chk] at h
    split at h
    · exact s_not (snd a S F tk h).1 (snd a S F tk h).2
    · cases h
  | .and es, X, Wx, S, F, tk, x, h => by
    simp only [chk] at h
    split at h
    · obtain ⟨h1, h2⟩ := sndA es S F tk h
      exact ⟨h1, h2.pt⟩
    · cases h
  | .or es, X, Wx, S, F, tk, x, h => by
    simp only [chk] at h
    split at h
    · obtain ⟨h1, h2⟩ := sndO es S F tk h
      exact ⟨h1, h2.pt⟩
    · cases h
  | .ite c a b, X, Wx, S, F, tk, x, h => by
    simp only [chk] at h
    split at h
    · simp only [Bool.and_eq_true] at h
      obtain ⟨⟨h0, h1⟩, h2⟩ := h
      exact ⟨s_ite (snd c S F tk h0).2 (snd a S F tk h1).1 (snd b S F tk h2).1, s_iteT (snd c S F tk h0).2 (snd a S F tk h1).2 (snd b S F tk h2).2⟩
    · cases h
  | .tup es, X, Wx, S, F, tk, x, h => by
    simp only [chk] at h
    split at h
    · simp only [Bool.and_eq_true, decide_eq_true_eq] at h
      refine both_v (s_tup (snds es S F tk h.1) fun σ h' P E q => (evs_len q).mono (fun ws h2 ⟨q1, l⟩ => ⟨q1, ?_⟩) fun _ _ z => z) fun _ => rfl
      rw [l, (chks_len h.1).1]
      exact Nat.le_trans h.2 (by decide)
    · cases h
  | .lst m es, X, Wx, S, F, tk, x, h => by
    simp only [chk] at h
    split at h
    · simp only [Bool.and_eq_true, decide_eq_true_eq] at h
      refine both_v (s_lst (snds es S F tk h.1) fun σ h' P E q => (evs_len q).mono (fun ws h2 ⟨q1, l⟩ => ⟨q1, ?_⟩) fun _ _ z => z) fun _ => rfl
      rw [l, (chks_len h.1).1]
      exact Nat.le_trans h.2 (by decide)
    · cases h
  | .dic, X, Wx, S, F, tk, x, h => by
    simp only [chk] at h
    split at h
    · exact both_v s_dic fun _ => rfl
    · cases h
  | .ix a i, X, Wx, S, F, tk, x, h => by
    simp only [chk] at h
    split at h
    · simp only [Bool.and_eq_true] at h
      exact both_v (s_ix S h.1.1 (snd a S F tk h.1.2).1 (snd i S F tk h.2).1) fun _ => rfl
    · cases h
  | .dix a i, X, Wx, S, F, tk, x, h => by
    simp only [chk] at h
    split at h
    · simp only [Bool.and_eq_true] at h
      exact both_v (s_dix S h.1.1 (snd a S F tk h.1.2).1 (snd i S F tk h.2).1) fun _ => rfl
    · cases h
  | .slL m a lo hi, X, Wx, S, F, tk, x, h => by
    simp only [chk] at h
    split at h
    · simp only [Bool.and_eq_true] at h
      exact both_v (s_slL S (snd a S F tk h.1.1).1 (sndo lo S F tk h.1.2) (sndo hi S F tk h.2)) fun _ => rfl
    · cases h
  | .slT a lo hi, X, Wx, S, F, tk, x, h => by
    simp only [chk] at h
    split at h
    · simp only [Bool.and_eq_true] at h
      exact both_v (s_slT S (snd a S F tk h.1.1).1 (sndo lo S F tk h.1.2) (sndo hi S F tk h.2)) fun _ => rfl
    · cases h
  | .fld a f, X, Wx, S, F, tk, x, h => by
    simp only [chk] at h
    split at h
    · simp only [Bool.and_eq_true, decide_eq_true_eq] at h
      exact both_v (s_fld S (by rw [← S.fl]; exact h.1.1) h.1.2 (snd a S F tk h.2).1) fun _ => rfl
    · cases h
  | .inS n a b, X, Wx, S, F, tk, x, h => by
    simp only [chk] at h
    split at h
    · simp only [Bool.and_eq_true, decide_eq_true_eq] at h
      obtain ⟨⟨⟨rfl, h0⟩, h1⟩, h2⟩ := h
      exact s_inS S h0 (snd a S F tk h1).1 (snd b S F tk h2).1
    · cases h
  | .inD n a b, X, Wx, S, F, tk, x, h => by
    simp only [chk] at h
    split at h
    · simp only [Bool.and_eq_true, decide_eq_true_eq] at h
      obtain ⟨⟨⟨rfl, h0⟩, h1⟩, h2⟩ := h
      exact s_inD S h0 (snd a S F tk h1).1 (snd b S F tk h2).1
    · cases h
  | .catL m a b, X, Wx, S, F, tk, x, h => by
    simp only [chk] at h
    split at h
    · simp only [Bool.and_eq_true, decide_eq_true_eq] at h
      obtain ⟨⟨rfl, h1⟩, h2⟩ := h
      exact both_v (s_catL (snd a S F tk h1).1 (snd b S F tk h2).1) fun _ => rfl
    · cases h
  | .catT a b, X, Wx, S, F, tk, x, h => by
    simp only [chk] at h
    split at h
    · simp only [Bool.and_eq_true, decide_eq_true_eq] at h
      obtain ⟨⟨rfl, h1⟩, h2⟩ := h
      exact both_v (s_catT S (snd a S F tk h1).1 (snd b S F tk h2).1) fun _ => rfl
    · cases h
  | .rep m a b, X, Wx, S, F, tk, x, h => by
    simp only [chk] at h
    split at h
    · simp only [Bool.and_eq_true, decide_eq_true_eq] at h
      obtain ⟨⟨rfl, h1⟩, h2⟩ := h
      exact both_v (s_rep (snd a S F tk h1).1 (snd b S F tk h2).1) fun _ => rfl
    · cases h
  | .len a, X, Wx, S, F, tk, x, h => by
    simp only [chk] at h
    split at h
    · simp only [Bool.and_eq_true] at h
      exact both_v (s_len S h.1.1 h.1.2 (snd a S F tk h.2).1) fun _ => rfl
    · cases h
  | .lenD a, X, Wx, S, F, tk, x, h => by
    simp only [chk] at h
    split at h
    · simp only [Bool.and_eq_true] at h
      exact both_v (s_lenD S h.1.1 h.1.2 (snd a S F tk h.2).1) fun _ => rfl
    · cases h
  | .max2 a b, X, Wx, S, F, tk, x, h => by
    simp only [chk] at h
    split at h
    · simp only [Bool.and_eq_true] at h
      exact both_v (s_max2 S h.1.1.1.1 h.1.1.1.2 h.1.1.2 (snd a S F tk h.1.2).1 (snd b S F tk h.2).1) fun _ => rfl
    · cases h
  | .min2 a b, X, Wx, S, F, tk, x, h => by
    simp only [chk] at h
    split at h
    · simp only [Bool.and_eq_true] at h
      exact both_v (s_min2 S h.1.1.1.1 h.1.1.1.2 h.1.1.2 (snd a S F tk h.1.2).1 (snd b S F tk h.2).1) fun _ => rfl
    · cases h
  | .abs a, X, Wx, S, F, tk, x, h => by
    simp only [chk] at h
    split at h
    · simp only [Bool.and_eq_true] at h
      exact both_v (s_abs S h.1.1 h.1.2 (snd a S F tk h.2).1) fun _ => rfl
    · cases h
  | .toInt a, X, Wx, S, F, tk, x, h => by
    simp only [chk] at h
    split at h
    · simp only [Bool.and_eq_true] at h
      exact both_v (s_toInt S h.1.1 h.1.2 (snd a S F tk h.2).1) fun _ => rfl
    · cases h
  | .toTup a, X, Wx, S, F, tk, x, h => by
    simp only [chk] at h
    split at h
    · simp only [Bool.and_eq_true] at h
      exact both_v (s_toTup S h.1.1 h.1.2 (snd a S F tk h.2).1) fun _ => rfl
    · cases h
  | .toLst m a, X, Wx, S, F, tk, x, h => by
    simp only [chk] at h
    split at h
    · simp only [Bool.and_eq_true] at h
      exact both_v (s_toLst S h.1.1 h.1.2 (snd a S F tk h.2).1) fun _ => rfl
    · cases h
  | .call f es, X, Wx, S, F, tk, x, h => by
    simp only [chk] at h
    split at h
    · rename_i n _ xs _ i hi
      simp only [Bool.and_eq_true, decide_eq_true_eq] at h
      obtain ⟨⟨⟨⟨⟨hg, rfl⟩, hgl⟩, hok⟩, hl⟩, hc⟩ := h
      refine both_v (s_call F tk hi hg hgl hok (chks_len hc).2 (snds es S F tk hc) fun z => ?_) fun _ => rfl
      subst z
      cases es with
      | nil => rfl
      | cons _ _ => simp [chks] at hc
    · cases h
  | .make c es, X, Wx, S, F, tk, x, h => by
    simp only [chk] at h
    split at h
    · rename_i n _ xs _ y hy
      simp only [Bool.and_eq_true, decide_eq_true_eq] at h
      obtain ⟨⟨⟨rfl, hgl⟩, hok⟩, hc⟩ := h
      refine both_v (s_make F tk hy hgl hok (chks_len hc).2 (snds es S F tk hc) fun z => ?_) fun _ => rfl
      subst z
      cases es with
      | nil => rfl
      | cons _ _ => simp [chks] at hc
    · cases h
  | .meth a m es, X, Wx, S, F, tk, x, h => by
    simp only [chk] at h
    split at h
    · rename_i o n ap xs ps
      simp only [Bool.and_eq_true, decide_eq_true_eq, Bool.not_eq_true'] at h
      obtain ⟨⟨⟨⟨⟨⟨hl, h30⟩, hnm⟩, hno⟩, hpo⟩, ha⟩, hc⟩ := h
      subst hnm
      refine both_v (s_meth S F tk hl (fun z => ?_) hpo (snd a S F tk ha).1 h30 (chks_len hc).2 (snds es S F tk hc) fun z => ?_) fun _ => rfl
      · rw [← S.fl] at z
        rw [List.contains_eq_mem, decide_eq_false_iff_not] at hno
        exact hno z
      · subst z
        cases es with
        | nil => rfl
        | cons _ _ => simp [chks] at hc
    · cases h
  | .comp a g it c own, X, Wx, S, F, tk, x, h => by
    simp only [chk] at h
    split at h
    · rename_i el tg iter ifs scope ps
      simp only [Bool.and_eq_true] at h
      obtain ⟨⟨⟨⟨⟨hb, hI⟩, hG⟩, hc⟩, ha⟩, ho⟩ := h
      obtain ⟨pI, hF⟩ := sndI it S F tk hI
      have body := pe_lc (g := gtOf X.K g) (tt := tB I (evc C M ini c) noX) (te := tE I (ev C M ini a) noX) S.calm S.nd pI (blkOk_by hb) (fun s H Cc cl fp => g_ok (S.blk s H scope (compEnvC scope cl Cc X.env) fp) hG)
        (fun s H Cc cl fp => sndc c (S.blk s H scope (compEnvC scope cl Cc X.env) fp) (F.blk s H scope (compEnvC scope cl Cc X.env) fp) takes0 hc) (fun s H Cc cl fp => (snd a (S.blk s H scope (compEnvC scope cl Cc X.env) fp) (F.blk s H scope (compEnvC scope cl Cc X.env) fp) takes0 ha).1) hF (pos := ps)
      rw [own_snd] at body
      have w := walk_any (C := C) (M := M) (ini := ini) (I := I) (Wx := Wx) body (k := fun σ xs h => (forL (bodyC g own (evc C M ini c) (ev C M ini a) σ) [] xs h).nox.bind fun ys h => .ok (.lst ys) h) (fun σ H Q q => comp_read (gok X.K g) ho q) (chkI_simp hI)
      refine both_v (PE_imp w fun σ H Q q => ?_) fun _ => rfl
      obtain ⟨ι, h, σc, rs, rp, q⟩ := q
      refine ⟨ι, h, σc, rs, rp, ?_⟩
      simp only [bind_assoc]
      exact q
    · cases h
  | .compM a g it c own, X, Wx, S, F, tk, x, h => by
    simp only [chk] at h
    split at h
    · rename_i el tg iter ifs scope ps
      simp only [Bool.and_eq_true] at h
      obtain ⟨⟨⟨⟨⟨hb, hI⟩, hG⟩, hc⟩, ha⟩, ho⟩ := h
      obtain ⟨pI, hF⟩ := sndI it S F tk hI
      have body := pe_lc (g := gtOf X.K g) (tt := tB I (evc C M ini c) noX) (te := tE I (ev C M ini a) noX) S.calm S.nd pI (blkOk_by hb) (fun s H Cc cl fp => g_ok (S.blk s H scope (compEnvC scope cl Cc X.env) fp) hG)
        (fun s H Cc cl fp => sndc c (S.blk s H scope (compEnvC scope cl Cc X.env) fp) (F.blk s H scope (compEnvC scope cl Cc X.env) fp) takes0 hc) (fun s H Cc cl fp => (snd a (S.blk s H scope (compEnvC scope cl Cc X.env) fp) (F.blk s H scope (compEnvC scope cl Cc X.env) fp) takes0 ha).1) hF (pos := ps)
      rw [own_snd] at body
      have w := walk_any (C := C) (M := M) (ini := ini) (I := I) (Wx := Wx) body (k := fun σ xs h => (forM h.length (bodyC g own (evc C M ini c) (ev C M ini a) σ) xs (h ++ [.lst []])).nox.bind fun _ h' => .ok (.ref h.length) h') (fun σ H Q q => compM_read (gok X.K g) ho q) (chkI_simp hI)
      refine both_v (PE_imp w fun σ H Q q => ?_) fun _ => rfl
      obtain ⟨ι, h, σc, rs, rp, q⟩ := q
      refine ⟨ι, h, σc, rs, rp, ?_⟩
      simp only [bind_assoc]
      exact q
    · cases h
theorem snds : ∀ (es : Es) {X : Cx} {Wx : XK} (S : Cs B I X) (F : Fs B I C M ini lv fn fd X) (tk : Takes X (fun c d _ H => Wx c d H)) {xs : List Expr}, chks B X.N es X.env.scope xs = true → PA X xs (tA I (evs C M ini es) Wx)
  | .nil, X, Wx, S, F, tk, x, h => by
    simp only [chks] at h
    split at h
    · exact a_nil
    · cases h
  | .cons e r, X, Wx, S, F, tk, x, h => by
    simp only [chks] at h
    split at h
    · simp only [Bool.and_eq_true] at h
      exact a_cons h.1.1 (snd e S F tk h.1.2).1 (snds r S F tk h.2)
    · cases h
theorem sndA : ∀ (es : Es) {X : Cx} {Wx : XK} (S : Cs B I X) (F : Fs B I C M ini lv fn fd X) (tk : Takes X (fun c d _ H => Wx c d H)) {xs : List Expr} {pos : Pos}, chks B X.N es X.env.scope xs = true → PE X (.BoolOp .And xs pos) (tE I (evAnd C M ini es) Wx) ∧ PW X (.BoolOp .And xs pos) (tTest (tE I (evAnd C M ini es) Wx))
  | .nil, X, Wx, S, F, tk, x, pos, h => ⟨⟨fun pins s σ H Q J ⟨ι, h, σc, rs, rp, q⟩ => q.elim⟩, ⟨fun w pins s σ H Q J ⟨ι, h, σc, rs, rp, q⟩ => q.elim⟩⟩
  | .cons e .nil, X, Wx, S, F, tk, x, pos, h => by
    simp only [chks] at h
    split at h
    · rename_i y ys
      simp only [Bool.and_eq_true] at h
      have : ys = [] := by
        have := h.2
        split at this
        · rfl
        · cases this
      subst this
      obtain ⟨h1, h2⟩ := snd e S F tk h.1.2
      exact ⟨pe_one h1, pw_and1 h2⟩
    · cases h
  | .cons e (.cons e2 r), X, Wx, S, F, tk, x, pos, h => by
    simp only [chks] at h
    split at h
    · rename_i y ys
      simp only [Bool.and_eq_true] at h
      obtain ⟨h1, h2⟩ := snd e S F tk h.1.2
      have h' : chks B X.N (.cons e2 r) X.env.scope ys = true := by
        simp only [chks]
        exact h.2
      cases ys with
      | nil => simp [chks] at h'
      | cons z zs =>
        obtain ⟨k1, k2⟩ := sndA (.cons e2 r) S F tk (pos := pos) h'
        refine ⟨PE_imp (pe_and h1 k1) fun σ H Q ⟨ι, h, σc, rs, rp, q⟩ => ?_, PW_imp (pw_and h2 k2) fun σ H Q ⟨ι, h, σc, rs, rp, q⟩ => ?_⟩
        · have q' : ((ev C M ini e σc h).bind fun x h => boolK x fun k => if k then evAnd C M ini (.cons e2 r) σc h else .ok (.bl false) h).All (Pv I ι H Q) (Px I ι H Wx) := q
          refine goV rs rp q' fun ι1 H1 h1 w1 v1 e1 rs1 rp1 r1 q1 => ?_
          obtain ⟨k, rfl, rfl, q2⟩ := finK r1 q1
          refine ⟨k, rfl, ?_⟩
          cases k with
          | true => rw [if_pos rfl] at q2 ⊢; exact ⟨ι1, h1, σc, rs1, rp1, q2⟩
          | false => rw [if_neg Bool.false_ne_true] at q2 ⊢; exact fin q2 rp1 (.bl _)
        · have q' : ((ev C M ini e σc h).bind fun x h => boolK x fun k => if k then evAnd C M ini (.cons e2 r) σc h else .ok (.bl false) h).All (Pv I ι H (fun x H' => ∃ k, x = .bl k ∧ Q k H')) (Px I ι H Wx) := q
          show tE I (ev C M ini e) Wx σ H (fun x H' => ∃ k, x = .bl k ∧ (if k = true then tTest (tE I (evAnd C M ini (.cons e2 r)) Wx) σ H' Q else Q false H'))
          refine goV rs rp q' fun ι1 H1 h1 w1 v1 e1 rs1 rp1 r1 q1 => ?_
          obtain ⟨k, rfl, rfl, q2⟩ := finK r1 q1
          refine ⟨k, rfl, ?_⟩
          cases k with
          | true => rw [if_pos rfl] at q2 ⊢; exact ⟨ι1, h1, σc, rs1, rp1, q2⟩
          | false =>
            rw [if_neg Bool.false_ne_true] at q2 ⊢
            obtain ⟨c, e, z⟩ := fin q2 rp1 (.bl _)
            cases e
            exact z
    · cases h
theorem sndO : ∀ (es : Es) {X : Cx} {Wx : XK} (S : Cs B I X) (F : Fs B I C M ini lv fn fd X) (tk : Takes X (fun c d _ H => Wx c d H)) {xs : List Expr} {pos : Pos}, chks B X.N es X.env.scope xs = true → PE X (.BoolOp .Or xs pos) (tE I (evOr C M ini es) Wx) ∧ PW X (.BoolOp .Or xs pos) (tTest (tE I (evOr C M ini es) Wx))
  | .nil, X, Wx, S, F, tk, x, pos, h => ⟨⟨fun pins s σ H Q J ⟨ι, h, σc, rs, rp, q⟩ => q.elim⟩, ⟨fun w pins s σ H Q J ⟨ι, h, σc, rs, rp, q⟩ => q.elim⟩⟩
  | .cons e .nil, X, Wx, S, F, tk, x, pos, h => by
    simp only [chks] at h
    split at h
    · rename_i y ys
      simp only [Bool.and_eq_true] at h
      have : ys = [] := by
        have := h.2
        split at this
        · rfl
        · cases this
      subst this
      obtain ⟨h1, h2⟩ := snd e S F tk h.1.2
      exact ⟨pe_one h1, pw_or1 h2⟩
    · cases h
  | .cons e (.cons e2 r), X, Wx, S, F, tk, x, pos, h => by
    simp only [chks] at h
    split at h
    · rename_i y ys
      simp only [Bool.and_eq_true] at h
      obtain ⟨h1, h2⟩ := snd e S F tk h.1.2
      have h' : chks B X.N (.cons e2 r) X.env.scope ys = true := by
        simp only [chks]
        exact h.2
      cases ys with
      | nil => simp [chks] at h'
      | cons z zs =>
        obtain ⟨k1, k2⟩ := sndO (.cons e2 r) S F tk (pos := pos) h'
        refine ⟨PE_imp (pe_or h1 k1) fun σ H Q ⟨ι, h, σc, rs, rp, q⟩ => ?_, PW_imp (pw_or h2 k2) fun σ H Q ⟨ι, h, σc, rs, rp, q⟩ => ?_⟩
        · have q' : ((ev C M ini e σc h).bind fun x h => boolK x fun k => if k then .ok (.bl true) h else evOr C M ini (.cons e2 r) σc h).All (Pv I ι H Q) (Px I ι H Wx) := q
          refine goV rs rp q' fun ι1 H1 h1 w1 v1 e1 rs1 rp1 r1 q1 => ?_
          obtain ⟨k, rfl, rfl, q2⟩ := finK r1 q1
          refine ⟨k, rfl, ?_⟩
          cases k with
          | true => rw [if_pos rfl] at q2 ⊢; exact fin q2 rp1 (.bl _)
          | false => rw [if_neg Bool.false_ne_true] at q2 ⊢; exact ⟨ι1, h1, σc, rs1, rp1, q2⟩
        · have q' : ((ev C M ini e σc h).bind fun x h => boolK x fun k => if k then .ok (.bl true) h else evOr C M ini (.cons e2 r) σc h).All (Pv I ι H (fun x H' => ∃ k, x = .bl k ∧ Q k H')) (Px I ι H Wx) := q
          show tE I (ev C M ini e) Wx σ H (fun x H' => ∃ k, x = .bl k ∧ (if k = true then Q true H' else tTest (tE I (evOr C M ini (.cons e2 r)) Wx) σ H' Q))
          refine goV rs rp q' fun ι1 H1 h1 w1 v1 e1 rs1 rp1 r1 q1 => ?_
          obtain ⟨k, rfl, rfl, q2⟩ := finK r1 q1
          refine ⟨k, rfl, ?_⟩
          cases k with
          | false => rw [if_neg Bool.false_ne_true] at q2 ⊢; exact ⟨ι1, h1, σc, rs1, rp1, q2⟩
          | true =>
            rw [if_pos rfl] at q2 ⊢
            obtain ⟨c, e, z⟩ := fin q2 rp1 (.bl _)
            cases e
            exact z
    · cases h
theorem sndo : ∀ (o : Eo) {X : Cx} {Wx : XK} (S : Cs B I X) (F : Fs B I C M ini lv fn fd X) (tk : Takes X (fun c d _ H => Wx c d H)) {x : Option Expr}, chko B X.N o X.env.scope x = true → PO X x (tOo I (evo C M ini o) Wx)
  | .none, X, Wx, S, F, tk, x, h => by
    simp only [chko] at h
    split at h
    · exact o_none
    · cases h
  | .some e, X, Wx, S, F, tk, x, h => by
    simp only [chko] at h
    split at h
    · simp only [Bool.and_eq_true] at h
      exact o_some (snd e S F tk h.2).1
    · cases h
theorem sndc : ∀ (o : Eo) {X : Cx} {Wx : XK} (S : Cs B I X) (F : Fs B I C M ini lv fn fd X) (tk : Takes X (fun c d _ H => Wx c d H)) {x : List Expr}, chkc B X.N o X.env.scope x = true → PTs X x (tB I (evc C M ini o) Wx)
  | .none, X, Wx, S, F, tk, x, h => by
    simp only [chkc] at h
    split at h
    · exact c_none
    · cases h
  | .some e, X, Wx, S, F, tk, x, h => by
    simp only [chkc] at h
    split at h
    · simp only [Bool.and_eq_true] at h
      exact c_some (snd e S F tk h.2).2
    · cases h
theorem sndI : ∀ (it : Z.I) {X : Cx} {Wx : XK} (S : Cs B I X) (F : Fs B I C M ini lv fn fd X) (tk : Takes X (fun c d _ H => Wx c d H)) {x tg : Expr}, chkI B X.N it X.env.scope x tg = true → PI X tg x (tI I (evIl C M ini it) Wx) ∧ (∀ y, foldedSetIterable x X.env y = pure y)
  | .seq e, X, Wx, S, F, tk, x, tg, h => by
    simp only [chkI, Bool.and_eq_true] at h
    exact ⟨i_seq (snd e S F tk h.2).1, noFold h.1⟩
  | .seqR e, X, Wx, S, F, tk, x, tg, h => by
    simp only [chkI, Bool.and_eq_true] at h
    exact ⟨i_seqL (snd e S F tk h.2).1, noFold h.1.2⟩
  | .keys e, X, Wx, S, F, tk, x, tg, h => by
    simp only [chkI, Bool.and_eq_true] at h
    exact ⟨i_keysL (snd e S F tk h.2).1, noFold h.1.2⟩
  | .rng a, X, Wx, S, F, tk, x, tg, h => by
    simp only [chkI] at h
    split at h
    · simp only [Bool.and_eq_true] at h
      exact ⟨i_rng S h.1.1 h.1.2 (snd a S F tk h.2).1, fun _ => rfl⟩
    · cases h
  | .rng2 a b, X, Wx, S, F, tk, x, tg, h => by
    simp only [chkI] at h
    split at h
    · simp only [Bool.and_eq_true] at h
      exact ⟨i_rng2 S h.1.1.1.1 h.1.1.1.2 h.1.1.2 (snd a S F tk h.1.2).1 (snd b S F tk h.2).1, fun _ => rfl⟩
    · cases h
end
end
end Z
namespace Z
open PySem PySem.Spec L2
section
variable (I : Inf)
def endOf (D : Ends) (ι : Pl) (H : Hp) (σ : St) : Fl → Prop
  | .nx => D.nx σ H
  | .rt w => ∀ v, RW I ι H w v → D.rt v H
  | .bk => D.bk σ H
  | .ct => D.ct σ H
def Ps (ι : Pl) (H : Hp) (D : Ends) (p : Fl × Env) (h' : EH) : Prop := ∀ ι' H' σ', Ext ι H ι' H' → Rep I ι' h' H' → RS I ι' H' p.2 σ' → endOf I D ι' H' σ' p.1
def tS (f : Env → EH → R) (Wx : XK) : TS := fun D σ H => ∃ ι h σc, RS I ι H σc σ ∧ Rep I ι h H ∧ (f σc h).All (Ps I ι H D) (Px I ι H Wx)
end
section
variable {I : Inf} {ι ι' : Pl} {H H' : Hp} {h h' : EH} {σc : Env} {σ : St} {Wx : XK} {D : Ends}
theorem Ps.ext {p : Fl × Env} (q : Ps I ι H D p h') (a : Ext ι H ι' H') : Ps I ι' H' D p h' := fun ι2 H2 σ2 e => q ι2 H2 σ2 (a.trans e)
theorem laterS {t : R} (q : t.All (Ps I ι H D) (Px I ι H Wx)) (a : Ext ι H ι' H') : t.All (Ps I ι' H' D) (Px I ι' H' Wx) :=
  q.mono (fun _ _ k => k.ext a) fun _ _ k ι'' H'' e => k ι'' H'' (a.trans e)
theorem goS {f : Env → EH → T W} {k : W → EH → R} (rs : RS I ι H σc σ) (rp : Rep I ι h H) (q : ((f σc h).bind k).All (Ps I ι H D) (Px I ι H Wx)) {R : VK}
    (c : ∀ ι1 H1 h1 w v, Ext ι H ι1 H1 → RS I ι1 H1 σc σ → Rep I ι1 h1 H1 → RW I ι1 H1 w v → (k w h1).All (Ps I ι1 H1 D) (Px I ι1 H1 Wx) → R v H1) : tE I f Wx σ H R :=
  goE (P := fun ι H => Ps I ι H D) (fun e z => z.ext e) rs rp q c
theorem nxt {σ' : Env} {τ : St} (q : (T.ok (Fl.nx, σ') h).All (Ps I ι H D) (Px I ι H Wx)) (rp : Rep I ι h H) (rs : RS I ι H σ' τ) : D.nx τ H := q ι H τ Ext.refl rp rs
theorem nxO {o : Option EH} {σ' : Env} (q : (nxH σ' o).All (Ps I ι H D) (Px I ι H Wx)) : ∃ h', o = some h' ∧ (T.ok (Fl.nx, σ') h').All (Ps I ι H D) (Px I ι H Wx) := by
  cases o with
  | none => exact q.elim
  | some w => exact ⟨w, rfl, q⟩
theorem finOS {α : Type} {o : Option α} {k : α → EH → R} (q : ((ofO o h).bind k).All (Ps I ι H D) (Px I ι H Wx)) : ∃ w, o = some w ∧ (k w h).All (Ps I ι H D) (Px I ι H Wx) := by
  cases o with
  | none => exact q.elim
  | some w => exact ⟨w, rfl, q⟩
theorem finKS {k : Bool → R} {w : W} {v : V} (r : RW I ι H w v) (q : (boolK w k).All (Ps I ι H D) (Px I ι H Wx)) : ∃ b, w = .bl b ∧ v = .bl b ∧ (k b).All (Ps I ι H D) (Px I ι H Wx) := by
  cases r <;> first | exact q.elim | exact ⟨_, rfl, rfl, q⟩
theorem finKS' {k : Bool → R} {w : W} {v : V} (r : RW I ι' H' w v) (q : (boolK w k).All (Ps I ι H D) (Px I ι H Wx)) : ∃ b, w = .bl b ∧ v = .bl b ∧ (k b).All (Ps I ι H D) (Px I ι H Wx) := by
  cases r <;> first | exact q.elim | exact ⟨_, rfl, rfl, q⟩
theorem RS.mw (r : RS I ι H σc σ) (a : Mw ι H ι' H') : RS I ι' H' σc σ := ⟨r.1, fun i w e => by
  obtain ⟨v, h1, h2⟩ := r.2 i w e
  exact ⟨v, h1, h2.mo a⟩⟩
end
section
variable {X : Cx} {I : Inf} {B : Tb} {Wx : XK} {a b c e o value : Expr} {fa fb fc : Env → EH → T W} {pos p p2 pos' : Pos} {σc : Env} {C : CallH} {M : MTab} {ini : Nat → Nat} {lv : Nat} {fn : Nat → Addr} {fd : Nat → FuncData} {st : Stmt}
theorem PS_imp {t u : TS} (h1 : PS X st t) (h : ∀ D σ H, u D σ H → t D σ H) : PS X st u := ⟨fun pins s σ H D J q => h1.run pins s σ H D J (h _ _ _ q)⟩
theorem PS_or {t u : TS} (h1 : PS X st t) (h2 : PS X st u) : PS X st (fun D σ H => t D σ H ∨ u D σ H) := ⟨fun pins s σ H D J q => q.elim (h1.run pins s σ H D J) (h2.run pins s σ H D J)⟩
theorem swF {t : Expr} {l : Nat} (hp : plain e = true) (ht : ∀ x q, t ≠ .Name x q) : swapsWith e (some t) l X.env = pure false := by
  cases e <;> first | rfl | (cases hp; done) | skip
  cases t <;> first | rfl | exact absurd rfl (ht _ _)
theorem swL {t : Option Expr} {l : Nat} (hp : plain e = true) (hl : isLc e = false) : swapsWith e t l X.env = pure false := by
  cases e <;> first | rfl | (cases hp; done) | (cases hl; done)
/-! ### locks -/
theorem lockS_go {t : TS} {fi : Env → EH → R} (ht : ∀ D σ H, tS I fi Wx D σ H → t D σ H) {ι : Pl} {h : EH} {H : Hp} {σ : St} {D : Ends} {n : Nat} {d : Addr} {u : HO} {eoL eoU : EO} (rs : RS I ι H σc σ) (rp : Rep I ι h H) (hd : ι.own[n]? = some d) (hu : H d = some u) (mu : Mut (some u))
    (hL : ∀ od, RO I ι (upd H d (.frz od u)) eoL d) (hU : ∀ od ι' H', Ext ι (upd H d (.frz od u)) ι' H' → RO I ι' (upd H' d u) eoU d)
    (q : ((fi σc (h.set n eoL)).bind fun w h => T.ok w (h.set n eoU)).All (Ps I ι H D) (Px I ι H Wx)) : tLock t D σ H := by
  have nf : ∀ o u, H d ≠ some (.frz o u) := fun o u' z => by
    rw [hu] at z
    cases z
    exact mu
  refine ⟨d, u, hu, mu, fun od => ht _ _ _ ⟨ι, h.set n eoL, σc, rs.ext (Ext.chg hd nf), rp.chg hd nf (hL od), (T.All.bind q).mono (fun w h' k => ?_) fun c h' k ι' H' e => k ι' H' ((Ext.chg hd nf).trans e)⟩⟩
  intro ι' H' σ' e rp' rs'
  have k : Ps I ι H D w (h'.set n eoU) := k
  have hm : Mw ι' H' ι' (upd H' d u) := Mw.own (List.mem_of_getElem? (e.ix hd))
  have k2 := k ι' (upd H' d u) σ' (e.unl (List.mem_of_getElem? hd) hu nf) (rp'.chgW (e.ix hd) (hU od ι' H' e)) (rs'.mw hm)
  have fz := e.frz _ _ _ (upd_same (H := H) (a := d) (o := .frz od u))
  obtain ⟨fl, σ2⟩ := w
  cases fl with
  | nx => exact ⟨fz, k2⟩
  | rt w => exact fun v r => ⟨fz, k2 v (r.mo hm)⟩
  | bk => exact ⟨fz, k2⟩
  | ct => exact ⟨fz, k2⟩
theorem walkS_lock {it : Z.I} {t : TS} {k : Z.Env → List W → EH → R} (hr : ∀ D σ H, tS I (fun σ h => (evIl C M ini it σ h).bind fun p h => k σ p.1 h) Wx D σ H → t D σ H) (hs : isLk it = true) {σ : St} {H : Hp} {D : Ends}
    (hw : tS I (fun σ h => (evI C M ini it σ h).bind fun p h => (k σ p.1 h).bind fun w h => .ok w (unlock p.2 h)) Wx D σ H) : t D σ H ∨ tLock t D σ H := by
  obtain ⟨ι, h, σc, rs, rp, q⟩ := hw
  cases it with
  | seqR a =>
    have hs' : simp a = true := hs
    simp only [evI] at q
    rcases simp_ev (C := C) (M := M) (ini := ini) (σ := σc) (h := h) a hs' with e1 | ⟨w1, e1⟩
    · rw [e1] at q; exact q.elim
    · rw [e1] at q
      cases w1 <;> first | exact q.elim | skip
      rename_i n
      simp only [T.bind] at q
      cases hx : h[n]? with
      | none => rw [hx] at q; exact q.elim
      | some o =>
        rw [hx] at q
        cases o <;> first | exact q.elim | skip
        · rename_i xs
          obtain ⟨d, hd, vs, g1, g2, g3⟩ := rp.ob n _ hx
          obtain ⟨hL, hU⟩ := ro_lst hd g1 g2 g3
          have e2 := simp_set (o' := .lstL xs) hx (by intro _ _ z; cases z) (by intro _ _ z; cases z) a _ hs' e1
          refine .inr (lockS_go hr rs rp hd g1 trivial hL hU ?_)
          have hl : n < h.length := (List.getElem?_eq_some_iff.mp hx).1
          simp only [evIl, e2, T.bind, List.getElem?_set_self hl]
          exact q
        · rename_i xs
          refine .inl (hr _ _ _ ⟨ι, h, σc, rs, rp, ?_⟩)
          simp only [evIl, e1, T.bind, hx]
          have q2 : ((k σc xs h).bind fun w h => T.ok w h).All (Ps I ι H D) (Px I ι H Wx) := q
          rw [bind_ok] at q2
          exact q2
  | keys a =>
    have hs' : simp a = true := hs
    simp only [evI] at q
    rcases simp_ev (C := C) (M := M) (ini := ini) (σ := σc) (h := h) a hs' with e1 | ⟨w1, e1⟩
    · rw [e1] at q; exact q.elim
    · rw [e1] at q
      cases w1 <;> first | exact q.elim | skip
      rename_i n
      simp only [T.bind] at q
      cases hx : h[n]? with
      | none => rw [hx] at q; exact q.elim
      | some o =>
        rw [hx] at q
        cases o <;> first | exact q.elim | skip
        · rename_i xs
          obtain ⟨d, hd, vs, g1, g2, g3, g4⟩ := rp.ob n _ hx
          obtain ⟨hL, hU⟩ := ro_dic hd g1 g2 g3 g4
          have e2 := simp_set (o' := .dicL xs) hx (by intro _ _ z; cases z) (by intro _ _ z; cases z) a _ hs' e1
          refine .inr (lockS_go hr rs rp hd g1 trivial hL hU ?_)
          have hl : n < h.length := (List.getElem?_eq_some_iff.mp hx).1
          simp only [evIl, e2, T.bind, List.getElem?_set_self hl]
          exact q
        · rename_i xs
          refine .inl (hr _ _ _ ⟨ι, h, σc, rs, rp, ?_⟩)
          simp only [evIl, e1, T.bind, hx]
          have q2 : ((k σc (xs.map (·.1)) h).bind fun w h => T.ok w h).All (Ps I ι H D) (Px I ι H Wx) := q
          rw [bind_ok] at q2
          exact q2
  | _ => cases hs
theorem walkS_free {it : Z.I} {t : TS} {k : Z.Env → List W → EH → R} (hr : ∀ D σ H, tS I (fun σ h => (evIl C M ini it σ h).bind fun p h => k σ p.1 h) Wx D σ H → t D σ H) (hs : match it with | .seqR _ => False | .keys _ => False | _ => True) {σ : St} {H : Hp} {D : Ends}
    (hw : tS I (fun σ h => (evI C M ini it σ h).bind fun p h => (k σ p.1 h).bind fun w h => .ok w (unlock p.2 h)) Wx D σ H) : t D σ H := by
  refine hr _ _ _ ?_
  have e : (fun σ h => (evI C M ini it σ h).bind fun p h => (k σ p.1 h).bind fun w h => T.ok w (unlock p.2 h)) = fun σ h => (evIl C M ini it σ h).bind fun p h => k σ p.1 h := by
    funext σ h
    cases it with
    | seq a =>
      simp only [evIl, evI, bind_assoc]
      congr 1
      funext x h
      cases x <;> simp only [T.bind] <;> exact bind_ok
    | rng a =>
      simp only [evIl, evI, bind_assoc]
      congr 1
      funext x h
      cases x <;> simp only [T.bind]
      split
      · exact bind_ok
      · rfl
    | rng2 a b =>
      simp only [evIl, evI, bind_assoc]
      congr 1
      funext x h
      congr 1
      funext y h
      cases x <;> cases y <;> simp only [T.bind]
      split
      · exact bind_ok
      · rfl
    | seqR _ => exact hs.elim
    | keys _ => exact hs.elim
  rw [e] at hw
  exact hw
theorem walkS_any {it : Z.I} {t : TS} {k : Z.Env → List W → EH → R} (ht : PS X st t) (hr : ∀ D σ H, tS I (fun σ h => (evIl C M ini it σ h).bind fun p h => k σ p.1 h) Wx D σ H → t D σ H) (hs : simpI it) :
    PS X st (tS I (fun σ h => (evI C M ini it σ h).bind fun p h => (k σ p.1 h).bind fun w h => .ok w (unlock p.2 h)) Wx) := by
  cases it with
  | seqR a => exact PS_imp (PS_or ht (ps_lock ht)) fun D σ H q => walkS_lock hr hs q
  | keys a => exact PS_imp (PS_or ht (ps_lock ht)) fun D σ H q => walkS_lock hr hs q
  | seq a => exact PS_imp ht fun D σ H q => walkS_free hr trivial q
  | rng a => exact PS_imp ht fun D σ H q => walkS_free hr trivial q
  | rng2 a b => exact PS_imp ht fun D σ H q => walkS_free hr trivial q

/-! ### readings -/
theorem r_seq {f g : Env → EH → R} {D : Ends} {σ : St} {H : Hp} (hw : tS I (fun σ h => (f σ h).bind fun p h => match p.1 with | .nx => g p.2 h | _ => .ok p h) Wx D σ H) : tSeq (tS I f Wx) (tS I g Wx) D σ H := by
  obtain ⟨ι, h, σc, rs, rp, q⟩ := hw
  refine ⟨ι, h, σc, rs, rp, (T.All.bind q).mono (fun p h1 q1 ι1 H1 σ1 e1 rp1 rs1 => ?_) fun _ _ z => z⟩
  obtain ⟨fl, σ2⟩ := p
  cases fl with
  | nx => exact ⟨ι1, h1, σ2, rs1, rp1, laterS q1 e1⟩
  | rt w => exact q1 ι1 H1 σ1 e1 rp1 rs1
  | bk => exact q1 ι1 H1 σ1 e1 rp1 rs1
  | ct => exact q1 ι1 H1 σ1 e1 rp1 rs1
theorem r_set {f : Env → EH → T W} {i : Nat} {D : Ends} {σ : St} {H : Hp} (hw : tS I (fun σ h => (f σ h).bind fun w h => .ok (.nx, σ.set i (some w)) h) Wx D σ H) : tE I f Wx σ H fun x H1 => D.nx (σ.set i (some x)) H1 := by
  obtain ⟨ι, h, σc, rs, rp, q⟩ := hw
  exact goS rs rp q fun ι1 H1 h1 w1 v1 e1 rs1 rp1 r1 q1 => nxt q1 rp1 (rs1.set r1)
theorem r_loop {g : G} {gt : TG} {fi : Env → EH → T (List W × Lk)} {fb : Env → EH → R} (hg : GOk I g gt) {σ : St} {H : Hp} {D : Ends}
    (hw : tS I (fun σ h => (fi σ h).bind fun p h => forS (fun x σ h => match store g x σ with | some σ' => fb σ' h | none => .fail) p.1 σ h) Wx D σ H) : tFor (tI I fi Wx) gt (tS I fb Wx) D σ H := by
  obtain ⟨ι, h, σc, rs, rp, q⟩ := hw
  refine ⟨ι, h, σc, rs, rp, (T.All.bind q).mono (fun pp h1 q1 ι1 H1 J e1 rp1 hJ => ?_) fun _ _ z => z⟩
  obtain ⟨xs, lk⟩ := pp
  obtain ⟨hlen, hJ⟩ := hJ
  simp only at q1 hlen hJ
  let Sx (i : Nat) (σ2 : St) (H2 : Hp) : Prop := ∃ ι2 h2 σc2, i ≤ xs.length ∧ Ext ι1 H1 ι2 H2 ∧ Rep I ι2 h2 H2 ∧ RS I ι2 H2 σc2 σ2 ∧
    (forS (fun x σ h => match store g x σ with | some σ' => fb σ' h | none => .fail) (xs.drop i) σc2 h2).All (Ps I ι H D) (Px I ι H Wx)
  refine ⟨fun i m σ2 H2 => m = xs.length - i ∧ Sx i σ2 H2, ⟨xs.length, by simp, ι1, h1, σc, Nat.zero_le _, Ext.refl, rp1, rs.ext e1, by rw [List.drop_zero]; exact q1⟩, ?_⟩
  rintro i m σ2 H2 ⟨rfl, ι2, h2, σc2, hi, e2, rp2, rs2, q3⟩
  obtain ⟨hj1, hj2⟩ := hJ ι2 H2 h2 e2.mo rp2 i
  by_cases hlt : i < xs.length
  · have hx : xs[i]? = some xs[i] := List.getElem?_eq_getElem hlt
    obtain ⟨hgo, hy⟩ := hj1 _ hx
    rw [List.drop_eq_getElem_cons hlt] at q3
    refine .inr ⟨hgo, Sx (i + 1), fun σ' H' st => ⟨xs.length - (i + 1), by omega, rfl, st⟩, fun x H3 y => ?_⟩
    obtain ⟨e3, rp3, rx⟩ := hy x H3 y
    have rs3 := rs2.ext e3
    simp only [forS] at q3
    have q4 := T.All.bind q3
    cases hst : store g xs[i] σc2 with
    | none => rw [hst] at q4; exact q4.elim
    | some σ' =>
      rw [hst] at q4
      obtain ⟨τ, rs4, hwp, hq⟩ := hg ι2 H3 _ _ _ _ _ rs3 rx hst
      have e13 := (e1.trans e2).trans e3
      refine hq _ ⟨ι2, h2, σ', rs4, rp3, T.All.mono (fun p h4 q5 ι4 H4 σ4 e4 rp4 rs5 => ?_) (fun c h4 z ι4 H4 e4 => z ι4 H4 (e13.trans e4)) q4⟩
      have e14 := (e2.trans e3).trans e4
      obtain ⟨fl, σ5⟩ := p
      cases fl with
      | nx => exact ⟨ι4, h4, σ5, hlt, e14, rp4, rs5, q5⟩
      | ct => exact ⟨ι4, h4, σ5, hlt, e14, rp4, rs5, q5⟩
      | bk => exact q5 ι4 H4 σ4 (e13.trans e4) rp4 rs5
      | rt w => exact q5 ι4 H4 σ4 (e13.trans e4) rp4 rs5
  · have hi2 : i = xs.length := by omega
    refine .inl ⟨hj2 (by omega), ?_⟩
    rw [hi2, List.drop_length] at q3
    exact q3 ι2 H2 σ2 (e1.trans e2) rp2 rs2
theorem r_whl {fc : Env → EH → T W} {fb : Env → EH → R} {n : Nat} {D : Ends} {σ : St} {H : Hp} (hw : tS I (fun σ h => whlN fc fb n σ h) Wx D σ H) : tWhile (tTest (tE I fc Wx)) (tS I fb Wx) D σ H := by
  obtain ⟨ι, h, σc, rs, rp, q⟩ := hw
  let Sx (m : Nat) (σ2 : St) (H2 : Hp) : Prop := ∃ ι2 h2 σc2, Ext ι H ι2 H2 ∧ Rep I ι2 h2 H2 ∧ RS I ι2 H2 σc2 σ2 ∧ (whlN fc fb m σc2 h2).All (Ps I ι H D) (Px I ι H Wx)
  refine ⟨Sx, ⟨n, ι, h, σc, Ext.refl, rp, rs, q⟩, ?_⟩
  rintro m σ2 H2 ⟨ι2, h2, σc2, e2, rp2, rs2, q2⟩
  cases m with
  | zero => exact q2.elim
  | succ m =>
    simp only [whlN] at q2
    refine ⟨ι2, h2, σc2, rs2, rp2, (T.All.bind q2).mono (fun w3 h3 q4 ι3 H3 v3 e3 rp3 r3 => ?_) fun c h3 z ι3 H3 e3 => z ι3 H3 (e2.trans e3)⟩
    obtain ⟨k, rfl, rfl, q5⟩ := finKS' r3 q4
    refine ⟨k, rfl, ?_⟩
    have e23 := e2.trans e3
    cases k with
    | false =>
      rw [if_neg Bool.false_ne_true] at q5
      exact q5 ι3 H3 σ2 e23 rp3 (rs2.ext e3)
    | true =>
      rw [if_pos rfl] at q5
      refine ⟨fun σ' H' => Sx m σ' H', fun σ' H' z => ⟨m, Nat.lt_succ_self _, z⟩, ι3, h3, σc2, rs2.ext e3, rp3, ?_⟩
      refine (T.All.bind q5).mono (fun p h4 q7 ι4 H4 σ4 e4 rp4 rs5 => ?_) fun c h4 z ι4 H4 e4 => z ι4 H4 (e23.trans e4)
      obtain ⟨fl, σ5⟩ := p
      cases fl with
      | nx => exact ⟨ι4, h4, σ5, e23.trans e4, rp4, rs5, q7⟩
      | ct => exact ⟨ι4, h4, σ5, e23.trans e4, rp4, rs5, q7⟩
      | bk => exact q7 ι4 H4 σ4 (e23.trans e4) rp4 rs5
      | rt w => exact q7 ι4 H4 σ4 (e23.trans e4) rp4 rs5
end
end Z
namespace Z
open PySem PySem.Spec L2
/-- what is asked of a def's body -/
structure Bs (X : Cx) : Prop where
  kind : X.env.scope.kind = .function
  pass : PassesOwn (model X.prog X.w) X.A X.env X.xe
section
variable {X : Cx} {I : Inf} {B : Tb} {Wx : XK} {a b c e o value : Expr} {fa fb fc fe : Env → EH → T W} {pos p p2 pos' : Pos} {σc : Env} {C : CallH} {M : MTab} {ini : Nat → Nat} {lv : Nat} {fn : Nat → Addr} {fd : Nat → FuncData} {st : Stmt}
theorem augO {op : Op} (hop : op ≠ .pow) : OpR X (inplaceOp (opR op)) (fun x y H Q => ∃ i j w, x = .int i ∧ y = .int j ∧ opW op (.int i) (.int j) = some w ∧ ∀ v, (∃ k, w = .int k ∧ v = .int k) → Q v H) := by
  intro pins s σ H x y v u Q J rx ry h
  obtain ⟨i, j, w, rfl, rfl, ew, k⟩ := h
  cases op with
  | add =>
    simp only [opW, Option.some.injEq] at ew
    subst ew
    exact iop_add pins s σ H _ _ v u Q J rx ry ⟨i, j, rfl, rfl, k _ ⟨_, rfl, rfl⟩⟩
  | sub =>
    simp only [opW, Option.some.injEq] at ew
    subst ew
    exact iop_sub pins s σ H _ _ v u Q J rx ry ⟨i, j, rfl, rfl, k _ ⟨_, rfl, rfl⟩⟩
  | mul =>
    simp only [opW] at ew
    split at ew
    · rename_i hc
      cases ew
      exact iop_mul pins s σ H _ _ v u Q J rx ry ⟨i, j, rfl, rfl, hc, k _ ⟨_, rfl, rfl⟩⟩
    · cases ew
  | fdiv =>
    simp only [opW] at ew
    split at ew
    · rename_i hc
      cases ew
      exact iop_fdiv pins s σ H _ _ v u Q J rx ry ⟨i, j, rfl, rfl, hc, k _ ⟨_, rfl, rfl⟩⟩
    · cases ew
  | mod =>
    simp only [opW] at ew
    split at ew
    · rename_i hc
      cases ew
      exact iop_mod pins s σ H _ _ v u Q J rx ry ⟨i, j, rfl, rfl, hc, k _ ⟨_, rfl, rfl⟩⟩
    · cases ew
  | pow => exact absurd rfl hop
theorem aug_in {op : Op} {ι : Pl} {H : Hp} {w1 w2 w : W} {v1 v2 : V} {Q : VK} (r1 : RW I ι H w1 v1) (r2 : RW I ι H w2 v2) (ew : opW op w1 w2 = some w) (q : ∀ v, RW I ι H w v → Q v H) :
    ∃ i j w, v1 = .int i ∧ v2 = .int j ∧ opW op (.int i) (.int j) = some w ∧ ∀ v, (∃ k, w = .int k ∧ v = .int k) → Q v H := by
  cases r1 <;> cases r2 <;> first | (simp [opW] at ew; done) | skip
  all_goals first | (cases op <;> simp [opW] at ew; done) | skip
  exact ⟨_, _, w, rfl, rfl, ew, fun v ⟨k, e1, e2⟩ => by subst e1; subst e2; exact q _ (.int _)⟩
theorem z_ret (he : PE X e (tE I fe Wx)) : PS X (.Return (some e) pos) (tS I (fun σ h => (fe σ h).bind fun w h => .ok (.rt w, σ) h) Wx) :=
  PS_imp (ps_ret he) fun D σ H ⟨ι, h, σc, rs, rp, q⟩ => goS rs rp q fun ι1 H1 h1 w1 v1 e1 rs1 rp1 r1 q1 => q1 ι1 H1 σ Ext.refl rp1 rs1 v1 r1
theorem z_retN : PS X (.Return none pos) (tS I (fun σ h => .ok (.rt .non, σ) h) Wx) := PS_imp ps_retN fun D σ H ⟨ι, h, σc, rs, rp, q⟩ => q ι H σ Ext.refl rp rs .non .non
theorem z_pass : PS X (.Pass pos) (tS I (fun σ h => .ok (.nx, σ) h) Wx) := PS_imp ps_pass fun D σ H ⟨ι, h, σc, rs, rp, q⟩ => nxt q rp rs
theorem z_brk : PS X (.Break pos) (tS I (fun σ h => .ok (.bk, σ) h) Wx) := PS_imp ps_break fun D σ H ⟨ι, h, σc, rs, rp, q⟩ => q ι H σ Ext.refl rp rs
theorem z_cont : PS X (.Continue pos) (tS I (fun σ h => .ok (.ct, σ) h) Wx) := PS_imp ps_continue fun D σ H ⟨ι, h, σc, rs, rp, q⟩ => q ι H σ Ext.refl rp rs
theorem z_expr (hp : plain e = true) (hl : isLc e = false) (he : PE X e (tE I fe Wx)) : PS X (.Expr e pos) (tS I (fun σ h => (fe σ h).bind fun _ h => .ok (.nx, σ) h) Wx) :=
  PS_imp (ps_expr he (swL hp hl)) fun D σ H ⟨ι, h, σc, rs, rp, q⟩ => goS rs rp q fun ι1 H1 h1 w1 v1 e1 rs1 rp1 r1 q1 => nxt q1 rp1 rs1
theorem z_ite {t u : List Stmt} {ft fu : Env → EH → R} (hc : PT X c (tTest (tE I fc Wx))) (h1 : PSs X t (tS I ft Wx)) (h2 : PSs X u (tS I fu Wx)) : PS X (.If c t u pos) (tS I (fun σ h => (fc σ h).bind fun x h => boolK x fun k => if k then ft σ h else fu σ h) Wx) := by
  refine PS_imp (ps_if hc h1 h2) fun D σ H ⟨ι, h, σc, rs, rp, q⟩ => ?_
  refine goS rs rp q fun ι1 H1 h1 w1 v1 e1 rs1 rp1 r1 q1 => ?_
  obtain ⟨k, rfl, rfl, q2⟩ := finKS r1 q1
  refine ⟨k, rfl, ?_⟩
  cases k with
  | true => rw [if_pos rfl] at q2 ⊢; exact ⟨ι1, h1, σc, rs1, rp1, q2⟩
  | false => rw [if_neg Bool.false_ne_true] at q2 ⊢; exact ⟨ι1, h1, σc, rs1, rp1, q2⟩
theorem z_set (S : Cs B I X) {i : Nat} {y : Str} {py : Pos} (hp : plain e = true) (hl : isLc e = false) (hL : chkL X.N X.fn X.env.scope i y = true) (he : PE X e (tE I fe Wx)) :
    PS X (.Assign [.Name y py] e pos) (tS I (fun σ h => (fe σ h).bind fun w h => .ok (.nx, σ.set i (some w)) h) Wx) := by
  simp only [chkL, Bool.and_eq_true, decide_eq_true_eq] at hL
  obtain ⟨l1, l2⟩ := loc_of hL.2
  exact PS_imp (ps_set S.nd hL.1 l1 he (swL hp hl) l2) fun D σ H q => r_set q
theorem swS {t e : Expr} {l : Nat} {env : PySem.Env} : swapsWithSole [t] e l env = swapsWith e (some t) l env := rfl
theorem mem_putK : ∀ {ls : List (Key × V)} {y z : Key} {v : V}, z ∈ (putK ls y v).map (·.1) → z = y ∨ z ∈ ls.map (·.1) := by
  intro ls y z v h
  unfold putK at h
  split at h
  · rw [List.map_map] at h
    obtain ⟨q, hq, e⟩ := List.mem_map.mp h
    refine .inr (List.mem_map.mpr ⟨q, hq, ?_⟩)
    rw [← e]
    simp only [Function.comp]
    split <;> rfl
  · rw [List.map_append] at h
    rcases List.mem_append.mp h with h | h
    · exact .inr h
    · exact .inl (by simpa using h)
theorem putK_nd {ls : List (Key × V)} {y : Key} {v : V} (hn : (ls.map (·.1)).Nodup) : ((putK ls y v).map (·.1)).Nodup := by
  induction ls with
  | nil => simp [putK]
  | cons a ls ih =>
    obtain ⟨z, u⟩ := a
    simp only [List.map_cons, List.nodup_cons] at hn
    rw [putK_cons hn.1]
    split
    · simp only [List.map_cons, List.nodup_cons]
      exact hn
    · rename_i ne
      simp only [List.map_cons, List.nodup_cons]
      refine ⟨fun h => ?_, ih hn.2⟩
      rcases mem_putK h with h | h
      · exact ne h
      · exact hn.1 h
theorem sw_none {ts vs : List Expr} {k k2 : Nat} {q q2 : Pos} (ht : isTp X.env.scope ts (.Tuple vs k q) = false) : swappedStores [.Tuple ts k2 q2] (.Tuple vs k q) X.env = pure none := by
  unfold swappedStores
  simp only []
  split
  · rfl
  · rename_i h1
    split
    · rfl
    · split
      · rfl
      · rename_i h3
        split
        · rfl
        · rename_i h4
          exfalso
          simp only [isTp, Bool.and_eq_false_iff, Bool.not_eq_false', List.any_eq_true] at ht
          rcases ht with (ht | ⟨x, hx, hb⟩) | ht
          · simp [ht] at h1
          · refine h3 ?_
            simp only [Bool.or_eq_true]
            refine .inl (bne_iff_ne.mpr fun z => ?_)
            have := (List.filterMap_length_eq_length.mp z) x hx
            cases x <;> first | (simp at this; done) | skip
            simp only [Bool.not_eq_true'] at hb
            have hk : (X.env.kindOf _ == some NameKind.local) = false := hb
            simp [hk] at this
          · exact h4 ht
theorem z_tup (S : Cs B I X) {is : List Nat} {es : List Expr} {k : Nat} (hp : plain e = true) (hl : isLc e = false) (ht : isTp X.env.scope es e = false) (hL : chkNs X.N X.fn X.env.scope is es = true) (he : PE X e (tE I fe Wx)) :
    PS X (.Assign [.Tuple es k p] e pos) (tS I (fun σ h => (fe σ h).bind fun w h => match w with
      | .tup ws => ofO ((setAll σ is ws).map fun σ => (Fl.nx, σ)) h
      | _ => .fail) Wx) := by
  have hg := g_ok (g := .tup is) (e := .Tuple es k p) S (by simp only [chkG]; exact hL)
  have hw : swappedStores [.Tuple es k p] e X.env = pure none := by
    cases e <;> first | rfl | (cases hp; done) | skip
    exact sw_none ht
  refine PS_imp (ps_asg he hg (swS.trans (swL hp hl)) hw) fun D σ H ⟨ι, h, σc, rs, rp, q⟩ => ?_
  refine goS rs rp q fun ι1 H1 h1 w1 v1 e1 rs1 rp1 r1 q1 => ?_
  split at q1
  · rename_i ws
    cases hs : setAll σc is ws with
    | none => rw [hs] at q1; exact q1.elim
    | some σ' =>
      rw [hs] at q1
      obtain ⟨τ, t1, t2, t3⟩ := gok (I := I) X.K (.tup is) ι1 H1 _ _ _ _ _ rs1 r1 (by simp only [store]; exact hs)
      exact t3 _ (nxt q1 rp1 t1)
  · exact q1.elim
theorem set_fld (S : Cs B I X) {ι : Pl} {H : Hp} {h h' : EH} {w y : W} {v z : V} {f : Nat} {n : Str} (hn : I.fl[f]? = some n) (rp : Rep I ι h H) (rw' : RW I ι H w v) (ry : RW I ι H y z) (e : setFld w f y h = some h') :
    ∃ a C dx fs, v = .ref a ∧ H a = some (.ins C dx fs) ∧ Cls X.K C ∧ NoAttr X.K C n ∧ fs.length < 1000 ∧ Ext ι H ι (upd H a (.ins C dx (putF n z fs))) ∧ Rep I ι h' (upd H a (.ins C dx (putF n z fs))) := by
  unfold setFld at e
  split at e
  · rename_i m
    split at e
    · rename_i c fs hx
      split at e
      · rename_i hl
        cases e
        obtain ⟨m', p, dx, ls, e0, hm, rfl, hH, rf, hl2, hc, hh⟩ := rp.ins rw' (show insOf h (.ref m) = some (c, fs) by simp only [insOf, hx])
        cases e0
        obtain ⟨k1, k2⟩ := S.cls c hc
        have nf : ∀ o u, H p ≠ some (.frz o u) := fun o u z => by rw [hH] at z; cases z
        refine ⟨p, _, dx, ls, rfl, hH, by rw [S.K]; exact k1, by rw [S.K]; exact k2 n (List.mem_of_getElem? hn), by rw [← rf.len]; omega, Ext.chg hm nf, rp.chg hm nf ?_⟩
        refine ⟨dx, _, upd_same, (RF.put S.fnd hn ry rf).ext (Ext.chg hm nf), ?_, hc⟩
        have : ∀ {fs : List (Nat × W)}, (putf fs f y).length ≤ fs.length + 1 := by
          intro fs
          induction fs with
          | nil => simp [putf]
          | cons x r ih =>
            simp only [putf]
            split <;> simp <;> omega
        have := this (fs := fs)
        omega
      · cases e
    · cases e
  · cases e
theorem same_c {h h' : EH} {x : W} {c : Nat} {o : Option EH} (e : sameC h x c o = some h') : ∃ d fs, insOf h x = some (d, fs) ∧ d = c ∧ o = some h' := by
  unfold sameC at e
  split at e
  · rename_i d fs hx
    split at e
    · exact ⟨d, fs, hx, by assumption, e⟩
    · cases e
  · cases e
theorem z_fld (S : Cs B I X) {f : Nat} {n : Str} (hn : I.fl[f]? = some n) (hp : plain e = true) (he : PE X e (tE I fe Wx)) (ha : PE X a (tE I fa Wx)) :
    PS X (.Assign [.Attribute a n p] e pos) (tS I (fun σ h => (fe σ h).bind fun w h => (fa σ h).bind fun x h => nxH σ (setFld x f w h)) Wx) := by
  refine PS_imp (ps_fld ha he (swF hp (by intro _ _ z; cases z))) fun D σ H ⟨ι, h, σc, rs, rp, q⟩ => ?_
  refine goS rs rp q fun ι1 H1 h1 w1 v1 e1 rs1 rp1 r1 q1 => ?_
  refine goS rs1 rp1 q1 fun ι2 H2 h2 w2 v2 e2 rs2 rp2 r2 q2 => ?_
  obtain ⟨h3, eh, q3⟩ := nxO q2
  obtain ⟨ad, Cc, dx, fs, k1, k2, k3, k4, k5, k6, k7⟩ := set_fld S hn rp2 r2 (r1.ext e2) eh
  exact ⟨ad, Cc, dx, fs, k1, k2, k3, k4, k5, nxt (laterS q3 k6) k7 (rs2.ext k6)⟩
theorem z_sub (S : Cs B I X) (hp : plain e = true) (hpi : plain b = true) (he : PE X e (tE I fe Wx)) (ha : PE X a (tE I fa Wx)) (hb : PE X b (tE I fb Wx)) :
    PS X (.Assign [.Subscript a b p] e pos) (tS I (fun σ h => (fe σ h).bind fun w h => (fa σ h).bind fun x h => (fb σ h).bind fun y h => nxH σ (setIx x y w h)) Wx) := by
  refine PS_imp (ps_asg he (pg_sub ha hb set_list (by intro v; cases b <;> first | rfl | (cases hpi; done))) (swS.trans (swF hp (by intro _ _ z; cases z))) ?_ ?_) fun D σ H ⟨ι, h, σc, rs, rp, q⟩ => ?_
  · cases e <;> first | rfl | (cases hp; done)
  · rfl
  refine goS rs rp q fun ι1 H1 h1 w1 v1 e1 rs1 rp1 r1 q1 => ?_
  refine goS rs1 rp1 q1 fun ι2 H2 h2 w2 v2 e2 rs2 rp2 r2 q2 => ?_
  refine goS rs2 rp2 q2 fun ι3 H3 h3 w3 v3 e3 rs3 rp3 r3 q3 => ?_
  obtain ⟨h4, eh, q4⟩ := nxO q3
  have ra := r2.ext e3
  have ry := (r1.ext e2).ext e3
  unfold setIx at eh
  split at eh
  · rename_i m k
    cases ra with
    | ref hm =>
      cases r3
      split at eh
      · rename_i xs hx
        split at eh
        · rename_i j hj
          cases eh
          obtain ⟨vs, g1, g2, g3⟩ := rp3.at hm hx
          have nf : ∀ o u, H3 _ ≠ some (.frz o u) := fun o u z => by rw [g1] at z; cases z
          refine ⟨_, vs, k, j, rfl, rfl, g1, ?_, nxt (laterS q4 (Ext.chg hm nf)) (rp3.chg hm nf ⟨_, upd_same, (RWs.set ry j g2).ext (Ext.chg hm nf), by simpa using g3⟩) (rs3.ext (Ext.chg hm nf))⟩
          rw [← g2.length]
          exact hj
        · cases eh
      · cases eh
  · cases eh
theorem dput_len : ∀ {kvs : List (W × W)} {y w : W}, (dput kvs y w).length ≤ kvs.length + 1
  | [], y, w => by simp [dput]
  | (j, u) :: r, y, w => by
    have := dput_len (kvs := r) (y := y) (w := w)
    simp only [dput]
    split <;> simp <;> omega
theorem z_dsub (S : Cs B I X) (hp : plain e = true) (hpi : plain b = true) (he : PE X e (tE I fe Wx)) (ha : PE X a (tE I fa Wx)) (hb : PE X b (tE I fb Wx)) :
    PS X (.Assign [.Subscript a b p] e pos) (tS I (fun σ h => (fe σ h).bind fun w h => (fa σ h).bind fun x h => (fb σ h).bind fun y h => nxH σ (setDx x y w h)) Wx) := by
  refine PS_imp (ps_dput (by have := S.hu; omega) ha hb he (swF hp (by intro _ _ z; cases z))) fun D σ H ⟨ι, h, σc, rs, rp, q⟩ => ?_
  refine goS rs rp q fun ι1 H1 h1 w1 v1 e1 rs1 rp1 r1 q1 => ?_
  refine goS rs1 rp1 q1 fun ι2 H2 h2 w2 v2 e2 rs2 rp2 r2 q2 => ?_
  refine goS rs2 rp2 q2 fun ι3 H3 h3 w3 v3 e3 rs3 rp3 r3 q3 => ?_
  obtain ⟨h4, eh, q4⟩ := nxO q3
  have ra := r2.ext e3
  have ry := (r1.ext e2).ext e3
  unfold setDx at eh
  split at eh
  · rename_i m
    cases ra with
    | ref hm =>
      split at eh
      · rename_i xs hx
        split at eh
        · rename_i hk
          cases eh
          obtain ⟨ls, g1, g2, g3, g4⟩ := rp3.at hm hx
          obtain ⟨y, rfl, rk⟩ := isKey_kV r3 hk.1
          have nf : ∀ o u, H3 _ ≠ some (.frz o u) := fun o u z => by rw [g1] at z; cases z
          refine ⟨_, _, rfl, .inl ⟨ls, y, g1, rfl, ?_, rfl⟩, nxt (laterS q4 (Ext.chg hm nf)) (rp3.chg hm nf ⟨_, upd_same, (RKV.put rk ry g4 g2).ext (Ext.chg hm nf), ?_, ?_⟩) (rs3.ext (Ext.chg hm nf))⟩
          · rw [← RKV.len g2]; exact Nat.lt_of_lt_of_le hk.2 (by decide)
          · exact Nat.le_trans (dput_len (kvs := xs) (y := w3) (w := w1)) hk.2
          · exact putK_nd g4
        · cases eh
      · cases eh
  · cases eh
theorem z_augN (S : Cs B I X) {i : Nat} {y : Str} {py : Pos} {op : Op} (hop : op ≠ .pow) (hL : chkL X.N X.fn X.env.scope i y = true) (he : PE X e (tE I fe Wx)) :
    PS X (.AugAssign (.Name y py) (opR op) e pos) (tS I (fun σ h => match σ[i]? with
      | some (some x) => (fe σ h).bind fun y h => (ofO (opW op x y) h).bind fun w h => .ok (.nx, σ.set i (some w)) h
      | _ => .fail) Wx) := by
  simp only [chkL, Bool.and_eq_true, decide_eq_true_eq] at hL
  obtain ⟨l1, l2⟩ := loc_of hL.2
  refine PS_imp (ps_aug S.nd hL.1 l1 he (ti := _) (augO hop) l2) fun D σ H ⟨ι, h, σc, rs, rp, q⟩ => ?_
  have q : (match σc[i]? with
      | some (some x) => (fe σc h).bind fun y h => (ofO (opW op x y) h).bind fun w h => T.ok (Fl.nx, σc.set i (some w)) h
      | _ => .fail).All (Ps I ι H D) (Px I ι H Wx) := q
  split at q
  · rename_i x hx
    obtain ⟨v, h1, h2⟩ := rs.2 i x hx
    refine ⟨v, h1, goS rs rp q fun ι1 H1 h1 w1 v1 e1 rs1 rp1 r1 q1 => ?_⟩
    obtain ⟨w, ew, q2⟩ := finOS q1
    exact aug_in (h2.ext e1) r1 ew fun v rv => nxt q2 rp1 (rs1.set rv)
  · exact q.elim
theorem z_augF (S : Cs B I X) {f : Nat} {n : Str} {op : Op} (hop : op ≠ .pow) (hn : I.fl[f]? = some n) (he : PE X e (tE I fe Wx)) (ha : PE X a (tE I fa Wx)) :
    PS X (.AugAssign (.Attribute a n p) (opR op) e pos) (tS I (fun σ h => (fa σ h).bind fun x h => match insOf h x with
    | some (c, fs) => (ofO (look fs f) h).bind fun y h => (fe σ h).bind fun z h => (ofO (opW op y z) h).bind fun w h => nxH σ (sameC h x c (setFld x f w h))
    | none => .fail) Wx) := by
  refine PS_imp (ps_fldaug ha he (augO hop)) fun D σ H ⟨ι, h, σc, rs, rp, q⟩ => ?_
  refine goS rs rp q fun ι1 H1 h1 w1 v1 e1 rs1 rp1 r1 q1 => ?_
  split at q1
  · rename_i c fs hx
    obtain ⟨m, p, dx, ls, rfl, hm, rfl, hH, rf, hl, hc, hh⟩ := rp1.ins r1 hx
    obtain ⟨w, ew, q2⟩ := finOS q1
    obtain ⟨v, hv, rv⟩ := RF.look S.fnd hn rf ew
    obtain ⟨k1, k2⟩ := S.cls c hc
    refine ⟨p, _, dx, ls, v, rfl, hH, by rw [S.K]; exact k1, by rw [S.K]; exact k2 n (List.mem_of_getElem? hn), hv, ?_⟩
    refine goS rs1 rp1 q2 fun ι2 H2 h2 w2 v2 e2 rs2 rp2 r2 q3 => ?_
    obtain ⟨w3, ew3, q4⟩ := finOS q3
    refine aug_in (Q := fun z H3 => ∃ dx' fs', H3 p = some (.ins (I.ca c) dx' fs') ∧ fs'.length < 1000 ∧ D.nx σ (upd H3 p (.ins (I.ca c) dx' (putF n z fs')))) (rv.ext e2) r2 ew3 fun v3 rv3 => ?_
    obtain ⟨h4, eh, q5⟩ := nxO q4
    obtain ⟨c2, fs2, eh2, e0c, eh3⟩ := same_c eh
    subst e0c
    obtain ⟨ad, Cc, dx', fs', g1, g2, g3, g4, g5, g6, g7⟩ := set_fld S hn rp2 (r1.ext e2) rv3 eh3
    cases g1
    obtain ⟨m', p', dx2, ls2, e0, hm', e0', hH2, rf2, hl2, hc2, hh2⟩ := rp2.ins (r1.ext e2) eh2
    cases e0'
    rw [g2] at hH2
    cases hH2
    exact ⟨_, _, g2, g5, nxt (laterS q5 g6) g7 (rs2.ext g6)⟩
  · exact q1.elim
end
end Z
namespace Z
open PySem PySem.Spec L2
section
variable {X : Cx} {I : Inf} {B : Tb} {Wx : XK} {a b c e o value : Expr} {fa fb fc fe : Env → EH → T W} {pos p p2 pos' : Pos} {σc : Env} {C : CallH} {M : MTab} {ini : Nat → Nat} {lv : Nat} {fn : Nat → Addr} {fd : Nat → FuncData} {st : Stmt}
theorem RW.own {ι : Pl} {H : Hp} {m : Nat} {v : V} (r : RW I ι H (.ref m) v) : ∃ a, v = .ref a ∧ ι.own[m]? = some a := by
  cases r with
  | ref h => exact ⟨_, rfl, h⟩
theorem z_extF (S : Cs B I X) {f : Nat} {n : Str} (hn : I.fl[f]? = some n) (he : PE X e (tE I fe Wx)) (ha : PE X a (tE I fa Wx)) :
    PS X (.AugAssign (.Attribute a n p) .Add e pos) (tS I (fun σ h => (fa σ h).bind fun x h => match insOf h x with
    | some (c, fs) => (ofO (look fs f) h).bind fun y h => (fe σ h).bind fun z h => match y, z with
      | .ref n, .lst zs => (match h[n]? with
        | some (.lst ys) => if ys.length + zs.length ≤ LIM then nxH σ (sameC h x c (setFld x f y (h.set n (.lst (ys ++ zs))))) else .fail
        | _ => .fail)
      | _, _ => .fail
    | none => .fail) Wx) := by
  refine PS_imp (ps_fldaug ha he iop_ext) fun D σ H ⟨ι, h, σc, rs, rp, q⟩ => ?_
  refine goS rs rp q fun ι1 H1 h1 w1 v1 e1 rs1 rp1 r1 q1 => ?_
  split at q1
  · rename_i c fs hx
    obtain ⟨m, p, dx, ls, rfl, hm, rfl, hH, rf, hl, hc, hh⟩ := rp1.ins r1 hx
    obtain ⟨w, ew, q2⟩ := finOS q1
    obtain ⟨v, hv, rv⟩ := RF.look S.fnd hn rf ew
    obtain ⟨k1, k2⟩ := S.cls c hc
    refine ⟨p, _, dx, ls, v, rfl, hH, by rw [S.K]; exact k1, by rw [S.K]; exact k2 n (List.mem_of_getElem? hn), hv, ?_⟩
    refine goS rs1 rp1 q2 fun ι2 H2 h2 w2 v2 e2 rs2 rp2 r2 q3 => ?_
    have rv2 := rv.ext e2
    split at q3
    · rename_i j zs
      obtain ⟨aj, rfl, hj⟩ := RW.own rv2
      split at q3
      · rename_i ys hys
        split at q3
        · rename_i hlen
          obtain ⟨h4, eh, q5⟩ := nxO q3
          obtain ⟨c2, fs2, eh2, e0c, eh3⟩ := same_c eh
          subst e0c
          obtain ⟨vs, g1, g2, g3⟩ := rp2.at hj hys
          cases r2 with
          | lst hb hbn rr hbl =>
            rename_i pb us
            have nf : ∀ o u, H2 aj ≠ some (.frz o u) := fun o u z => by rw [g1] at z; cases z
            have ex := Ext.chg (o := .lst (vs ++ us)) hj nf
            have rp3 : Rep I ι2 (h2.set j (.lst (ys ++ zs))) (upd H2 aj (.lst (vs ++ us))) := rp2.chg hj nf ⟨_, upd_same, (g2.append rr).ext ex, by rw [List.length_append]; exact hlen⟩
            refine ⟨aj, pb, vs, us, rfl, rfl, g1, hb, ?_, ?_⟩
            · rw [← g2.length, ← rr.length]
              exact Nat.le_of_lt (lim_lt hlen)
            · obtain ⟨ad, Cc, dx', fs', k1', k2', k3, k4, k5, k6, k7⟩ := set_fld S hn rp3 ((r1.ext e2).ext ex) (.ref hj) eh3
              cases k1'
              obtain ⟨m', p', dx2, ls2, e0, hm', e0', hH2, rf2, hl2, hc2, hh2⟩ := rp2.ins (r1.ext e2) eh2
              cases e0'
              by_cases hpj : p = aj
              · subst hpj
                rw [g1] at hH2
                cases hH2
              · have k22 := k2'
                rw [upd_ne hpj, hH2] at k22
                cases k22
                exact ⟨_, _, k2', k5, nxt (laterS (laterS q5 ex) k6) k7 ((rs2.ext ex).ext k6)⟩
        · exact q3.elim
      · exact q3.elim
    · exact q3.elim
  · exact q1.elim
theorem z_append (S : Cs B I X) {ap cp : Pos} (hl : (ap.endLine == cp.line) = true) (hpb : plainB a = true) (hp : plain e = true) (ha : PE X a (tE I fa Wx)) (he : PE X e (tE I fe Wx)) :
    PS X (.Expr (.Call (.Attribute a "append" ap) [e] [] cp) pos) (tS I (fun σ h => (fa σ h).bind fun x h => if isLW h x then (fe σ h).bind fun w h => appW x w σ h else .fail) Wx) := by
  have hs : starEach [e] X.env = (false, eval e X.env) :: starEach [] X.env := by rw [starE hp]
  refine PS_imp (ps_expr (pe_bm PySem.F.plainAttrs_list PySem.F.slot_list_append PySem.F.type_list_append mt_append ha (a_cons (Wx := Wx) hp he a_nil) (baseE hpb "append") ?_ hl hs rfl)) fun D σ H ⟨ι, h, σc, rs, rp, q⟩ => ?_
  · rw [hs]; rfl
  refine goS rs rp q fun ι1 H1 h1 w1 v1 e1 rs1 rp1 r1 q1 => ?_
  split at q1
  · rename_i hw
    unfold isLW at hw
    split at hw
    · rename_i m
      obtain ⟨am, rfl, hm⟩ := RW.own r1
      split at hw
      · rename_i xs hx
        obtain ⟨vs, g1, g2, g3⟩ := rp1.at hm hx
        refine ⟨.inl ⟨rfl, _, .inl (.inl g1)⟩, ?_⟩
        refine ⟨ι1, h1, σc, rs1, rp1, T.All.of_bind ((T.All.bind q1).mono (fun w2 h2 q2 ι2 H2 vs2 e2 rp2 r2 => ?_) fun _ _ z => z)⟩
        cases r2 with
        | cons r3 rr =>
          cases rr
          have q3 := laterS q2 e2
          simp only [appW] at q3
          split at q3
          · rename_i ys hy
            split at q3
            · rename_i hlen
              obtain ⟨us, k1, k2, k3⟩ := rp2.at (e2.ix hm) hy
              have nf : ∀ o u, H2 am ≠ some (.frz o u) := fun o u z => by rw [k1] at z; cases z
              have hd := e2.ix hm
              refine ⟨am, us, _, rfl, rfl, k1, by rw [← k2.length]; exact lim_lt (Nat.le_of_lt hlen), ?_⟩
              exact nxt (laterS q3 (Ext.chg hd nf)) (rp2.chg hd nf ⟨_, upd_same, (k2.append (.cons r3 .nil)).ext (Ext.chg hd nf), by rw [List.length_append]; exact hlen⟩) (((rs1.ext e2)).ext (Ext.chg hd nf))
            · exact q3.elim
          · exact q3.elim
      · cases hw
    · cases hw
  · exact q1.elim
theorem noStar {e : Expr} (h : plain e = true) : (match e with | .Starred .. => true | _ => false) = false := by
  cases e <;> first | rfl | (cases h; done)
theorem sw2 {env : PySem.Env} {x y : Str} {px py pt : Pos} {kt k2 pt2} (hb : env.blockKind = .function) (kx : env.kindOf x = some .local) (ky : env.kindOf y = some .local) (hl : (py.line == px.line) = true) (hxy : x ≠ y) (hp : plain a = true) (hp2 : plain b = true)
    (hf : ([a, b].all (foldedForSure 8)) = false) (hc : ([a, b].all (constantsAlone 8)) = false) : swappedStores [.Tuple [.Name x px, .Name y py] kt pt] (.Tuple [a, b] k2 pt2) env = pure (some [x, y]) := by
  have s1 := noStar hp
  have s2 := noStar hp2
  have hyx : (y == x) = false := by simp; exact fun z => hxy z.symm
  have hl' : py.line = px.line := by simpa using hl
  unfold swappedStores
  simp only [List.length_cons, List.length_nil, List.head?_cons, Option.map_some, Option.getD_some, Expr.pos, hb, List.any_cons, List.any_nil, s1, s2, List.filterMap_cons, List.filterMap_nil, kx, ky, hf, hc, hl', BEq.rfl, Bool.and_self, Bool.or_false, Bool.false_eq_true, if_false, if_true, bne_self_eq_false, Nat.reduceAdd]
  rw [if_neg (by decide), if_neg ?h1, if_neg ?h2]
  case h1 =>
    intro h
    rw [Bool.or_eq_true] at h
    rcases h with h | h
    · split at h
      · cases hp
      · cases h
    · split at h
      · cases hp2
      · cases h
  case h2 =>
    have e : [x, y].eraseDups = [x, y] := by simp [List.eraseDups_cons, hyx]
    rw [e]
    exact fun z => nomatch z
theorem sw3 {env : PySem.Env} {x y z : Str} {px py pz pt : Pos} {kt k2 pt2} (hb : env.blockKind = .function) (kx : env.kindOf x = some .local) (ky : env.kindOf y = some .local) (kz : env.kindOf z = some .local) (hl : (py.line == px.line) = true) (hl2 : (pz.line == px.line) = true) (hxy : x ≠ y) (hxz : x ≠ z) (hyz : y ≠ z) (hp : plain a = true) (hp2 : plain b = true) (hp3 : plain c = true)
    (hf : ([a, b, c].all (foldedForSure 8)) = false) (hc : ([a, b, c].all (constantsAlone 8)) = false) : swappedStores [.Tuple [.Name x px, .Name y py, .Name z pz] kt pt] (.Tuple [a, b, c] k2 pt2) env = pure (some [x, y, z]) := by
  have s1 := noStar hp
  have hyx : (y == x) = false := by simp; exact fun z => hxy z.symm
  have hzx : (z == x) = false := by simp; exact fun q => hxz q.symm
  have hzy : (z == y) = false := by simp; exact fun q => hyz q.symm
  have hl' : py.line = px.line := by simpa using hl
  have hl2' : pz.line = px.line := by simpa using hl2
  unfold swappedStores
  simp only [List.length_cons, List.length_nil, List.head?_cons, Option.map_some, Option.getD_some, Expr.pos, hb, List.any_cons, List.any_nil, List.filterMap_cons, List.filterMap_nil, kx, ky, kz, hf, hc, hl', hl2', BEq.rfl, Bool.and_self, Bool.or_false, Bool.false_eq_true, if_false, if_true, bne_self_eq_false, Nat.reduceAdd]
  rw [if_neg (by decide), if_neg ?h1, if_neg ?h2]
  case h1 =>
    intro h
    simp only [Bool.or_eq_true] at h
    rcases h with h | h | h
    · split at h
      · cases hp
      · cases h
    · split at h
      · cases hp2
      · cases h
    · split at h
      · cases hp3
      · cases h
  case h2 =>
    have e : [x, y, z].eraseDups = [x, y, z] := by simp [List.eraseDups_cons, hyx, hzx, hzy]
    rw [e]
    exact fun z => nomatch z
theorem z_par (S : Cs B I X) (bs : Bs X) {i j : Nat} {x y : Str} {px py pt : Pos} {kt k2 pt2} (hij : i ≠ j) (hi : locL X.N X.env.scope i x = true) (hj : locL X.N X.env.scope j y = true) (hxy : x ≠ y) (hln : (py.line == px.line) = true) (hp : plain a = true) (hp2 : plain b = true)
    (hf : ([a, b].all (foldedForSure 8)) = false) (hc : ([a, b].all (constantsAlone 8)) = false) (ha : PE X a (tE I fa Wx)) (hb : PE X b (tE I fb Wx)) :
    PS X (.Assign [.Tuple [.Name x px, .Name y py] kt pt] (.Tuple [a, b] k2 pt2) pos) (tS I (fun σ h => (fa σ h).bind fun x h => (fb σ h).bind fun y h => .ok (.nx, (σ.set i (some x)).set j (some y)) h) Wx) := by
  simp only [locL, Bool.and_eq_true, decide_eq_true_eq] at hi hj
  have hb' : X.env.blockKind = .function := by unfold PySem.Env.blockKind; rw [bs.kind]; rfl
  have kx : X.env.kindOf x = some .local := hi.2
  have ky : X.env.kindOf y = some .local := hj.2
  have hw : swappedStores [.Tuple [.Name x px, .Name y py] kt pt] (.Tuple [a, b] k2 pt2) X.env = pure (some [x, y]) := by
    exact sw2 hb' kx ky hln hxy hp hp2 hf hc
  refine PS_imp (ps_par S.calm S.nd hi.1 hj.1 hij hi.2 hj.2 (a_cons (Wx := Wx) hp ha (a_cons hp2 hb a_nil)) hw rfl) fun D σ H ⟨ι, h, σc, rs, rp, q⟩ => ?_
  refine ⟨ι, h, σc, rs, rp, T.All.of_bind ((T.All.bind q).mono (fun w1 h1 q1 => T.All.of_bind (T.All.of_bind ((T.All.bind q1).mono (fun w2 h2 q2 ι2 H2 vs e2 rp2 r2 => ?_) fun _ _ z => z))) fun _ _ z => z)⟩
  cases r2 with
  | cons r3 rr =>
    cases rr with
    | cons r4 rr =>
      cases rr
      exact ⟨_, _, rfl, nxt (laterS q2 e2) rp2 (((rs.ext e2).set r3).set r4)⟩
theorem z_par3 (S : Cs B I X) (bs : Bs X) {i j l : Nat} {x y z : Str} {px py pz pt : Pos} {kt k2 pt2} (hij : i ≠ j) (hil : i ≠ l) (hjl : j ≠ l) (hi : locL X.N X.env.scope i x = true) (hj : locL X.N X.env.scope j y = true) (hlz : locL X.N X.env.scope l z = true) (hxy : x ≠ y) (hxz : x ≠ z) (hyz : y ≠ z) (hln : (py.line == px.line) = true) (hln2 : (pz.line == px.line) = true) (hp : plain a = true) (hp2 : plain b = true) (hp3 : plain c = true)
    (hf : ([a, b, c].all (foldedForSure 8)) = false) (hc : ([a, b, c].all (constantsAlone 8)) = false) (ha : PE X a (tE I fa Wx)) (hb : PE X b (tE I fb Wx)) (hcc : PE X c (tE I fc Wx)) :
    PS X (.Assign [.Tuple [.Name x px, .Name y py, .Name z pz] kt pt] (.Tuple [a, b, c] k2 pt2) pos) (tS I (fun σ h => (fa σ h).bind fun x h => (fb σ h).bind fun y h => (fc σ h).bind fun z h => .ok (.nx, ((σ.set i (some x)).set j (some y)).set l (some z)) h) Wx) := by
  simp only [locL, Bool.and_eq_true, decide_eq_true_eq] at hi hj hlz
  have hb' : X.env.blockKind = .function := by unfold PySem.Env.blockKind; rw [bs.kind]; rfl
  have hw := sw3 (env := X.env) (px := px) (py := py) (pz := pz) (pt := pt) (kt := kt) (k2 := k2) (pt2 := pt2) hb' hi.2 hj.2 hlz.2 hln hln2 hxy hxz hyz hp hp2 hp3 hf hc
  refine PS_imp (ps_par3 S.calm S.nd hi.1 hj.1 hlz.1 hij hil hjl hi.2 hj.2 hlz.2 (a_cons (Wx := Wx) hp ha (a_cons hp2 hb (a_cons hp3 hcc a_nil))) hw rfl) fun D σ H ⟨ι, h, σc, rs, rp, q⟩ => ?_
  refine ⟨ι, h, σc, rs, rp, T.All.of_bind ((T.All.bind q).mono (fun w1 h1 q1 => T.All.of_bind (T.All.of_bind ((T.All.bind q1).mono (fun w2 h2 q2 => T.All.of_bind (T.All.of_bind ((T.All.bind q2).mono (fun w3 h3 q3 ι2 H2 vs e2 rp2 r2 => ?_) fun _ _ z => z))) fun _ _ z => z))) fun _ _ z => z)⟩
  cases r2 with
  | cons r3 rr =>
    cases rr with
    | cons r4 rr =>
      cases rr with
      | cons r5 rr =>
        cases rr
        exact ⟨_, _, _, rfl, nxt (laterS q3 e2) rp2 ((((rs.ext e2).set r3).set r4).set r5)⟩
theorem z_loop (S : Cs B I X) (bs : Bs X) {it : Z.I} {iter tg : Expr} {body : List Stmt} {g : G} {fb : Env → EH → R} (hs : simpI it) (hi : PI X tg iter (tI I (evIl C M ini it) Wx)) (hF : ∀ y, foldedSetIterable iter X.env y = pure y)
    (hg : chkG X.N X.fn X.env.scope g tg = true) (hb : PSs X body (tS I fb Wx)) :
    PS X (.For tg iter body [] pos) (tS I (fun σ h => (evI C M ini it σ h).bind fun p h => (forS (fun x σ h => match store g x σ with
      | some σ' => fb σ' h
      | none => .fail) p.1 σ h).bind fun q h => .ok q (unlock p.2 h)) Wx) :=
  walkS_any (C := C) (M := M) (ini := ini) (k := fun σ xs h => forS (fun x σ h => match store g x σ with
      | some σ' => fb σ' h
      | none => .fail) xs σ h) (ps_for bs.pass S.calm hi (g_ok S hg) hb hF) (fun D σ H q => r_loop (gok X.K g) q) hs
theorem z_whl (bs : Bs X) {body : List Stmt} {fb : Env → EH → R} (hc : PT X c (tTest (tE I fc Wx))) (hb : PSs X body (tS I fb Wx)) :
    PS X (.While c body [] pos) (tS I (fun σ h => whlN fc fb LIM σ h) Wx) := PS_imp (ps_while bs.pass hc hb) fun D σ H q => r_whl q
theorem tS_eq {f g : Env → EH → R} (e : ∀ σ h, f σ h = g σ h) (h : PS X st (tS I f Wx)) : PS X st (tS I g Wx) := by
  have : f = g := funext fun σ => funext fun h => e σ h
  rw [← this]; exact h
theorem lcSet_sw {y : Str} {py : Pos} {el : Expr} {gs : List Comprehension} {scope : Scope} {ps : Pos} {l : Nat} (hk : X.env.scope.kind = .function) (h : lcSet X.env.scope y py.line (.ListComp el gs scope ps) = true) :
    X.env.scope.names.lookup y = some .local ∧ swapsWith (.ListComp el gs scope ps) (some (.Name y py)) l X.env = pure true := by
  simp only [lcSet, Bool.and_eq_true, decide_eq_true_eq, Bool.not_eq_true'] at h
  exact ⟨h.1.2, sw_true hk h.1.2 h.1.1 h.2⟩
/-- name = [..] -/
theorem z_setLc (S : Cs B I X) (bs : Bs X) (F : Fs B I C M ini lv fn fd X) (tk : Takes X (fun c d _ H => Wx c d H)) {i : Nat} {y : Str} {py : Pos} {ex : E} {v : Expr} (hlc : isLc v = true) (h : chk B X.N ex X.env.scope v = true) (hL : chkL X.N X.fn X.env.scope i y = true) (hl : lcSet X.env.scope y py.line v = true) :
    PS X (.Assign [.Name y py] v pos) (tS I (fun σ h => (ev C M ini ex σ h).bind fun w h => .ok (.nx, σ.set i (some w)) h) Wx) := by
  simp only [chkL, Bool.and_eq_true, decide_eq_true_eq] at hL
  cases v <;> first | (cases hlc; done) | skip
  cases ex <;> first | (simp [chk] at h; done) | skip
  · exact PS_imp ps_never fun D σ H ⟨ι, h, σc, rs, rp, q⟩ => q.elim
  · rename_i a g it c own
    simp only [chk] at h
    split at h
    · rename_i e0
      cases e0
      simp only [Bool.and_eq_true] at h
      obtain ⟨⟨⟨⟨⟨hb, hI⟩, hG⟩, hc⟩, ha⟩, ho⟩ := h
      obtain ⟨pI, hF⟩ := sndI it S F tk hI
      obtain ⟨hyl, hsw⟩ := lcSet_sw (l := pos.line) bs.kind hl
      have body := ps_setLc (g := gtOf X.K g) (tt := tB I (evc C M ini c) noX) (te := tE I (ev C M ini a) noX) S.calm S.nd hL.1 hyl hsw pI (blkOk_by hb) (fun s H Cc cl fp => g_ok (S.blk s H _ (compEnvC _ cl Cc X.env) fp) hG)
        (fun s H Cc cl fp => sndc c (S.blk s H _ (compEnvC _ cl Cc X.env) fp) (F.blk s H _ (compEnvC _ cl Cc X.env) fp) takes0 hc) (fun s H Cc cl fp => (snd a (S.blk s H _ (compEnvC _ cl Cc X.env) fp) (F.blk s H _ (compEnvC _ cl Cc X.env) fp) takes0 ha).1) hF
      rw [own_snd] at body
      have w := walkS_any (C := C) (M := M) (ini := ini) (I := I) (Wx := Wx) body (k := fun σ xs h => ((forL (bodyC g own (evc C M ini c) (ev C M ini a) σ) [] xs h).nox.bind fun ys h => .ok (.lst ys) h).bind fun w h => .ok (.nx, σ.set i (some w)) h) (fun D σ H q => comp_read (gok X.K g) ho (r_set (f := fun σ h => (evIl C M ini it σ h).bind fun p h => (forL (bodyC g own (evc C M ini c) (ev C M ini a) σ) [] p.1 h).nox.bind fun ys h => .ok (.lst ys) h) (by simp only [bind_assoc] at q ⊢; exact q))) (chkI_simp hI)
      refine PS_imp w fun D σ H q => ?_
      obtain ⟨ι, h, σc, rs, rp, q⟩ := q
      refine ⟨ι, h, σc, rs, rp, ?_⟩
      simp only [ev, bind_assoc, T.bind] at q ⊢
      exact q
    · cases h
  · rename_i a g it c own
    simp only [chk] at h
    split at h
    · rename_i e0
      cases e0
      simp only [Bool.and_eq_true] at h
      obtain ⟨⟨⟨⟨⟨hb, hI⟩, hG⟩, hc⟩, ha⟩, ho⟩ := h
      obtain ⟨pI, hF⟩ := sndI it S F tk hI
      obtain ⟨hyl, hsw⟩ := lcSet_sw (l := pos.line) bs.kind hl
      have body := ps_setLc (g := gtOf X.K g) (tt := tB I (evc C M ini c) noX) (te := tE I (ev C M ini a) noX) S.calm S.nd hL.1 hyl hsw pI (blkOk_by hb) (fun s H Cc cl fp => g_ok (S.blk s H _ (compEnvC _ cl Cc X.env) fp) hG)
        (fun s H Cc cl fp => sndc c (S.blk s H _ (compEnvC _ cl Cc X.env) fp) (F.blk s H _ (compEnvC _ cl Cc X.env) fp) takes0 hc) (fun s H Cc cl fp => (snd a (S.blk s H _ (compEnvC _ cl Cc X.env) fp) (F.blk s H _ (compEnvC _ cl Cc X.env) fp) takes0 ha).1) hF
      rw [own_snd] at body
      have w := walkS_any (C := C) (M := M) (ini := ini) (I := I) (Wx := Wx) body (k := fun σ xs h => ((forM h.length (bodyC g own (evc C M ini c) (ev C M ini a) σ) xs (h ++ [.lst []])).nox.bind fun _ h' => .ok (.ref h.length) h').bind fun w h => .ok (.nx, σ.set i (some w)) h) (fun D σ H q => compM_read (gok X.K g) ho (r_set (f := fun σ h => (evIl C M ini it σ h).bind fun p h => (forM h.length (bodyC g own (evc C M ini c) (ev C M ini a) σ) p.1 (h ++ [.lst []])).nox.bind fun _ h' => .ok (.ref h.length) h') (by simp only [bind_assoc] at q ⊢; exact q))) (chkI_simp hI)
      refine PS_imp w fun D σ H q => ?_
      obtain ⟨ι, h, σc, rs, rp, q⟩ := q
      refine ⟨ι, h, σc, rs, rp, ?_⟩
      simp only [ev, bind_assoc, T.bind] at q ⊢
      exact q
    · cases h
mutual
theorem sndS : ∀ (s : S) {X : Cx} {Wx : XK} (S : Cs B I X) (bs : Bs X) (F : Fs B I C M ini lv fn fd X) (tk : Takes X (fun c d _ H => Wx c d H)) {st : Stmt}, chkS B X.N X.fn X.env.scope s st = true → PS X st (tS I (ex C M ini s) Wx)
  | .set (.name i) e, X, Wx, S, bs, F, tk, st, h => by
    simp only [chkS] at h
    split at h
    · rename_i y py v ps
      simp only [Bool.and_eq_true] at h
      obtain ⟨⟨⟨h1, h2⟩, h3⟩, h4⟩ := h
      cases hl : isLc v with
      | false => exact tS_eq (fun σ h => by simp only [ex] <;> rfl) (z_set S h1 hl h3 (snd e S F tk h2).1)
      | true => exact tS_eq (fun σ h => by simp only [ex] <;> rfl) (z_setLc S bs F tk hl h2 h3 h4)
    · cases h
  | .set (.tup is) e, X, Wx, S, bs, F, tk, st, h => by
    simp only [chkS] at h
    split at h
    · simp only [Bool.and_eq_true, Bool.not_eq_true'] at h
      obtain ⟨⟨⟨⟨h1, h2⟩, h3⟩, h4⟩, h5⟩ := h
      exact tS_eq (fun σ h => by simp only [ex] <;> rfl) (z_tup S h1 h2 h3 h5 (snd e S F tk h4).1)
    · cases h
  | .set (.fld a f) e, X, Wx, S, bs, F, tk, st, h => by
    simp only [chkS] at h
    split at h
    · simp only [Bool.and_eq_true, decide_eq_true_eq] at h
      obtain ⟨⟨⟨h1, h2⟩, h3⟩, h4⟩ := h
      exact tS_eq (fun σ h => by simp only [ex] <;> rfl) (z_fld (f := f) S (by rw [← S.fl]; exact h3) h1 (snd e S F tk h2).1 (snd a S F tk h4).1)
    · cases h
  | .set (.sub a i) e, X, Wx, S, bs, F, tk, st, h => by
    simp only [chkS] at h
    split at h
    · simp only [Bool.and_eq_true] at h
      obtain ⟨⟨⟨⟨h1, h2⟩, h3⟩, h4⟩, h5⟩ := h
      exact tS_eq (fun σ h => by simp only [ex] <;> rfl) (z_sub S h1 h3 (snd e S F tk h2).1 (snd a S F tk h4).1 (snd i S F tk h5).1)
    · cases h
  | .set (.dsub a i) e, X, Wx, S, bs, F, tk, st, h => by
    simp only [chkS] at h
    split at h
    · simp only [Bool.and_eq_true] at h
      obtain ⟨⟨⟨⟨h1, h2⟩, h3⟩, h4⟩, h5⟩ := h
      exact tS_eq (fun σ h => by simp only [ex] <;> rfl) (z_dsub S h1 h3 (snd e S F tk h2).1 (snd a S F tk h4).1 (snd i S F tk h5).1)
    · cases h
  | .par i j a b, X, Wx, S, bs, F, tk, st, h => by
    simp only [chkS] at h
    split at h
    · simp only [Bool.and_eq_true, decide_eq_true_eq, Bool.not_eq_true'] at h
      obtain ⟨⟨⟨⟨⟨⟨⟨⟨⟨⟨h1, h2⟩, h3⟩, h4⟩, h5⟩, h6⟩, h7⟩, h8⟩, h9⟩, h10⟩, h11⟩ := h
      exact tS_eq (fun σ h => by simp only [ex] <;> rfl) (z_par S bs h1 h2 h3 h4 h5 h6 h7 h8 h9 (snd a S F tk h10).1 (snd b S F tk h11).1)
    · cases h
  | .par3 i j l a b c, X, Wx, S, bs, F, tk, st, h => by
    simp only [chkS] at h
    split at h
    · simp only [Bool.and_eq_true, decide_eq_true_eq, Bool.not_eq_true'] at h
      obtain ⟨⟨⟨⟨⟨⟨⟨⟨⟨⟨⟨⟨⟨⟨⟨⟨⟨⟨h1, h2⟩, h3⟩, h4⟩, h5⟩, h6⟩, h7⟩, h8⟩, h9⟩, h10⟩, h11⟩, h12⟩, h13⟩, h14⟩, h15⟩, h16⟩, h17⟩, h18⟩, h19⟩ := h
      exact tS_eq (fun σ h => by simp only [ex] <;> rfl) (z_par3 S bs h1 h2 h3 h4 h5 h6 h7 h8 h9 h10 h11 h12 h13 h14 h15 h16 (snd a S F tk h17).1 (snd b S F tk h18).1 (snd c S F tk h19).1)
    · cases h
  | .augN i o e, X, Wx, S, bs, F, tk, st, h => by
    simp only [chkS] at h
    split at h
    · simp only [Bool.and_eq_true, decide_eq_true_eq] at h
      obtain ⟨⟨⟨h0, rfl⟩, h2⟩, h3⟩ := h
      exact tS_eq (fun σ h => by simp only [ex] <;> rfl) (z_augN S h0 h2 (snd e S F tk h3).1)
    · cases h
  | .augF a f o e, X, Wx, S, bs, F, tk, st, h => by
    simp only [chkS] at h
    split at h
    · simp only [Bool.and_eq_true, decide_eq_true_eq] at h
      obtain ⟨⟨⟨⟨h0, rfl⟩, h2⟩, h3⟩, h4⟩ := h
      exact tS_eq (fun σ h => by simp only [ex] <;> rfl) (z_augF (f := f) S h0 (by rw [← S.fl]; exact h2) (snd e S F tk h4).1 (snd a S F tk h3).1)
    · cases h
  | .extF a f e, X, Wx, S, bs, F, tk, st, h => by
    simp only [chkS] at h
    split at h
    · simp only [Bool.and_eq_true, decide_eq_true_eq] at h
      obtain ⟨⟨⟨rfl, h2⟩, h3⟩, h4⟩ := h
      exact tS_eq (fun σ h => by simp only [ex] <;> rfl) (z_extF (f := f) S (by rw [← S.fl]; exact h2) (snd e S F tk h4).1 (snd a S F tk h3).1)
    · cases h
  | .ret e, X, Wx, S, bs, F, tk, st, h => by
    simp only [chkS] at h
    split at h
    · exact tS_eq (fun σ h => by simp only [ex] <;> rfl) (z_ret (snd e S F tk h).1)
    · cases h
  | .retN, X, Wx, S, bs, F, tk, st, h => by
    simp only [chkS] at h
    split at h
    · exact tS_eq (fun σ h => by simp only [ex] <;> rfl) z_retN
    · cases h
  | .expr e, X, Wx, S, bs, F, tk, st, h => by
    simp only [chkS] at h
    split at h
    · simp only [Bool.and_eq_true, Bool.not_eq_true'] at h
      obtain ⟨⟨h1, h2⟩, h3⟩ := h
      exact tS_eq (fun σ h => by simp only [ex] <;> rfl) (z_expr h1 h2 (snd e S F tk h3).1)
    · cases h
  | .pass, X, Wx, S, bs, F, tk, st, h => by
    simp only [chkS] at h
    split at h
    · exact tS_eq (fun σ h => by simp only [ex] <;> rfl) z_pass
    · cases h
  | .ite c t e, X, Wx, S, bs, F, tk, st, h => by
    simp only [chkS] at h
    split at h
    · simp only [Bool.and_eq_true] at h
      obtain ⟨⟨h1, h2⟩, h3⟩ := h
      exact tS_eq (fun σ h => by simp only [ex] <;> rfl) (z_ite (snd c S F tk h1).2 (sndSs t S bs F tk h2) (sndSs e S bs F tk h3))
    · cases h
  | .loop g it b, X, Wx, S, bs, F, tk, st, h => by
    simp only [chkS] at h
    split at h
    · simp only [Bool.and_eq_true] at h
      obtain ⟨⟨h1, h2⟩, h3⟩ := h
      obtain ⟨pI, hF⟩ := sndI it S F tk h1
      exact tS_eq (fun σ h => by simp only [ex] <;> rfl) (z_loop S bs (chkI_simp h1) pI hF h2 (sndSs b S bs F tk h3))
    · cases h
  | .whl c b, X, Wx, S, bs, F, tk, st, h => by
    simp only [chkS] at h
    split at h
    · simp only [Bool.and_eq_true] at h
      exact tS_eq (fun σ h => by simp only [ex] <;> rfl) (z_whl bs (snd c S F tk h.1).2 (sndSs b S bs F tk h.2))
    · cases h
  | .brk, X, Wx, S, bs, F, tk, st, h => by
    simp only [chkS] at h
    split at h
    · exact tS_eq (fun σ h => by simp only [ex] <;> rfl) z_brk
    · cases h
  | .cont, X, Wx, S, bs, F, tk, st, h => by
    simp only [chkS] at h
    split at h
    · exact tS_eq (fun σ h => by simp only [ex] <;> rfl) z_cont
    · cases h
  | .append a e, X, Wx, S, bs, F, tk, st, h => by
    simp only [chkS] at h
    split at h
    · simp only [Bool.and_eq_true, decide_eq_true_eq] at h
      obtain ⟨⟨⟨⟨⟨rfl, h1⟩, h2⟩, h3⟩, h4⟩, h5⟩ := h
      exact tS_eq (fun σ h => by simp only [ex] <;> rfl) (z_append S h1 h2 h3 (snd a S F tk h4).1 (snd e S F tk h5).1)
    · cases h
  | .raise c, X, Wx, S, bs, F, tk, st, h => by
    simp only [chkS] at h
    cases h
  | .nev, X, Wx, S, bs, F, tk, st, h => PS_imp ps_never fun D σ H ⟨ι, h, σc, rs, rp, q⟩ => q.elim
theorem sndSs : ∀ (s : Ss) {X : Cx} {Wx : XK} (S : Cs B I X) (bs : Bs X) (F : Fs B I C M ini lv fn fd X) (tk : Takes X (fun c d _ H => Wx c d H)) {st : List Stmt}, chkSs B X.N X.fn X.env.scope s st = true → PSs X st (tS I (exs C M ini s) Wx)
  | .nil, X, Wx, S, bs, F, tk, st, h => by
    simp only [chkSs] at h
    split at h
    · exact ⟨fun pins s σ H D J ⟨ι, h, σc, rs, rp, q⟩ => pss_nil.run pins s σ H D J (nxt (show (T.ok (Fl.nx, σc) h).All _ _ from by simpa only [exs] using q) rp rs)⟩
    · cases h
  | .cons a r, X, Wx, S, bs, F, tk, st, h => by
    simp only [chkSs] at h
    split at h
    · simp only [Bool.and_eq_true] at h
      have p1 := sndS a S bs F tk h.1
      have p2 := sndSs r S bs F tk h.2
      refine ⟨fun pins s σ H D J q => (pss_cons p1 p2).run pins s σ H D J (r_seq ?_)⟩
      obtain ⟨ι, h, σc, rs, rp, q⟩ := q
      refine ⟨ι, h, σc, rs, rp, ?_⟩
      simp only [exs] at q
      exact q
    · cases h
end
end
end Z
namespace Z
open PySem PySem.Spec L2
/-! ### the law's dice: their texts in the small language -/
def es1 (a : E) : Es := .cons a .nil
def es2 (a b : E) : Es := .cons a (.cons b .nil)
def es3 (a b c : E) : Es := .cons a (.cons b (.cons c .nil))
def diceB : Ss :=
  .cons (.ite (.chain .lt .lt (.bin .sub (.int 0) (.int 10)) (.var 0) (.int 10)) (.cons (.ret (.lst true (es3 (.abs (.var 0)) (.int 0) (.int 2)))) .nil) .nil)
  (.cons (.ret (.lst true (es3 (.var 0) (.bin .add (.int 1) (.bin .mod (.toInt (.var 0)) (.int 1009))) (.toInt (.cmp .ge (.var 0) (.bin .pow (.int 10) (.int 18))))))) .nil)
def dAt (i : Int) : E := .ix (.var 0) (.int i)
def rollB : Ss :=
  .cons (.ite (.or (es2 (.eqI false (dAt 2) (.int 2)) (.and (es2 (.eqI false (dAt 2) (.int 1)) (.cmp .gt (dAt 0) (.int 0))))))
    (.cons (.set (.name 2) (.bin .mod (.toInt (dAt 0)) (.var 1)))
    (.cons (.set (.sub (.var 0) (.int 0)) (.bin .fdiv (dAt 0) (.var 1)))
    (.cons (.ret (.var 2)) .nil))) .nil)
  (.cons (.set (.sub (.var 0) (.int 2)) (.int 0))
  (.cons (.set (.sub (.var 0) (.int 0)) (.bin .mod (.toInt (.bin .add (.bin .add (.bin .mul (dAt 0) (.int 48271)) (.bin .mul (dAt 1) (.int 69621))) (.int 11))) (.int 2147483647)))
  (.cons (.set (.sub (.var 0) (.int 1)) (.bin .add (dAt 1) (.int 1)))
  (.cons (.ret (.bin .mod (.toInt (.bin .add (.bin .fdiv (dAt 0) (.int 7)) (dAt 0))) (.var 1))) .nil))))
/-- d: the number of the dice's def -/
def rndsB (d : Nat) : Ss :=
  .cons (.set (.name 2) (.slL false (.var 0) .none (.some (.var 1))))
  (.cons (.ite (.eqD false (.var 2) (.lst false .nil)) (.cons (.set (.name 2) (.lst false (es1 (.int 0)))) .nil) .nil)
  (.cons (.ret (.comp (.call d (es1 (.var 3))) (.name 3) (.seq (.var 2)) .none [3])) .nil))
section
variable {C : CallH} {M : MTab} {ini : Nat → Nat}
theorem dice_does (c : Int) (h : EH) : ∃ x y z, exs C M ini diceB [some (.int c)] h = .ok (.rt (.ref h.length), [some (.int c)]) (h ++ [.lst [.int x, .int y, .int z]]) := by
  by_cases h1 : -10 < c
  · by_cases h2 : c < 10
    · refine ⟨if c < 0 then -c else c, 0, 2, ?_⟩
      simp [diceB, es3, exs, ex, ev, evs, T.bind, ofO, opW, cmW, cmI, boolK, newL, h1, h2]
    · refine ⟨c, 1 + c % 1009, if decide ((10 : Int) ^ 18 ≤ c) = true then 1 else 0, ?_⟩
      simp [diceB, es3, exs, ex, ev, evs, T.bind, ofO, opW, cmW, cmI, boolK, newL, h1, h2]
  · refine ⟨c, 1 + c % 1009, if decide ((10 : Int) ^ 18 ≤ c) = true then 1 else 0, ?_⟩
    simp [diceB, es3, exs, ex, ev, evs, T.bind, ofO, opW, cmW, cmI, boolK, newL, h1]
theorem ix3 {x y z : W} {h : EH} {a : Nat} (hl : a < h.length) (w : W) :
    setIx (.ref a) (.int 0) w (h.set a (.lst [x, y, z])) = some (h.set a (.lst [w, y, z])) ∧ setIx (.ref a) (.int 1) w (h.set a (.lst [x, y, z])) = some (h.set a (.lst [x, w, z])) ∧ setIx (.ref a) (.int 2) w (h.set a (.lst [x, y, z])) = some (h.set a (.lst [x, y, w])) := by
  refine ⟨?_, ?_, ?_⟩ <;> simp [setIx, hl, ixN]
theorem at3 {x y z : W} {h : EH} {a : Nat} {σ : Env} (hl : a < h.length) : ev C M ini (dAt 0) (some (.ref a) :: σ) (h.set a (.lst [x, y, z])) = .ok x (h.set a (.lst [x, y, z])) ∧ ev C M ini (dAt 1) (some (.ref a) :: σ) (h.set a (.lst [x, y, z])) = .ok y (h.set a (.lst [x, y, z])) ∧
    ev C M ini (dAt 2) (some (.ref a) :: σ) (h.set a (.lst [x, y, z])) = .ok z (h.set a (.lst [x, y, z])) := by
  refine ⟨?_, ?_, ?_⟩ <;> simp [dAt, ev, T.bind, seqOf, hl, ixW, ixN, ofO]
theorem roll_does {h : EH} {a : Nat} {x y z k : Int} (hk : 0 < k) (hk2 : k < 1073741824) (hl : a < h.length) :
    ∃ v x' y' z' σ, exs C M ini rollB [some (.ref a), some (.int k), none] (h.set a (.lst [.int x, .int y, .int z])) = .ok (.rt (.int v), σ) (h.set a (.lst [.int x', .int y', .int z'])) ∧ 0 ≤ v ∧ v < k := by
  have i0 := fun {x y z : W} (w : W) => (ix3 (x := x) (y := y) (z := z) hl w).1
  have i1 := fun {x y z : W} (w : W) => (ix3 (x := x) (y := y) (z := z) hl w).2.1
  have i2 := fun {x y z : W} (w : W) => (ix3 (x := x) (y := y) (z := z) hl w).2.2
  have a0 := fun {x y z : W} {σ : Env} => (at3 (C := C) (M := M) (ini := ini) (x := x) (y := y) (z := z) (σ := σ) hl).1
  have a1 := fun {x y z : W} {σ : Env} => (at3 (C := C) (M := M) (ini := ini) (x := x) (y := y) (z := z) (σ := σ) hl).2.1
  have a2 := fun {x y z : W} {σ : Env} => (at3 (C := C) (M := M) (ini := ini) (x := x) (y := y) (z := z) (σ := σ) hl).2.2
  have hkk : ∀ m : Int, 0 ≤ m % k ∧ m % k < k := fun m => ⟨Int.emod_nonneg _ (by omega), Int.emod_lt_of_pos _ hk⟩
  by_cases c : z = 2 ∨ (z = 1 ∧ 0 < x)
  · refine ⟨x % k, x / k, y, z, [some (.ref a), some (.int k), some (.int (x % k))], ?_, hkk _⟩
    rcases c with c | ⟨c, c2⟩
    · simp [rollB, es2, exs, ex, ev, evOr, evAnd, T.bind, ofO, opW, eqS, cmW, cmI, boolK, nxH, i0, a0, a2, c, hk, hk2]
    · simp [rollB, es2, exs, ex, ev, evOr, evAnd, T.bind, ofO, opW, eqS, cmW, cmI, boolK, nxH, i0, a0, a2, c, c2, hk, hk2]
  · have c1 : ¬ z = 2 := fun e => c (.inl e)
    refine ⟨((x * 48271 + y * 69621 + 11) % 2147483647 / 7 + (x * 48271 + y * 69621 + 11) % 2147483647) % k, (x * 48271 + y * 69621 + 11) % 2147483647, y + 1, 0, [some (.ref a), some (.int k), none], ?_, hkk _⟩
    by_cases c2 : z = 1
    · have c3 : ¬ 0 < x := fun e => c (.inr ⟨c2, e⟩)
      simp [rollB, es2, exs, ex, ev, evOr, evAnd, T.bind, ofO, opW, eqS, cmW, cmI, boolK, nxH, i0, i1, i2, a0, a1, a2, c1, c2, c3, hk, hk2]
    · simp [rollB, es2, exs, ex, ev, evOr, evAnd, T.bind, ofO, opW, eqS, cmW, cmI, boolK, nxH, i0, i1, i2, a0, a1, a2, c1, c2, hk, hk2]
end
end Z
namespace Z
open PySem PySem.Spec L2
theorem rnds_does {C : CallH} {M : MTab} {ini : Nat → Nat} {d : Nat} (hC : ∀ c h, ∃ x y z, C d [.int c] h = .ok (.ref h.length) (h ++ [.lst [.int x, .int y, .int z]])) (ns : List Int) (h : EH) :
    ∃ x y z σ, exs C M ini (rndsB d) [some (.scr ns), some (.int 1), none, none] h = .ok (.rt (.lst [.ref h.length]), σ) (h ++ [.lst [.int x, .int y, .int z]]) := by
  have e0 : eqDW h (.lst []) (.lst []) = some true := by simp [eqDW, froz, mapO]; rfl
  have e1 : ∀ c : Int, eqDW h (.lst [.int c]) (.lst []) = some false := fun c => by simp [eqDW, froz, mapO]; rfl
  cases ns with
  | nil =>
    obtain ⟨x, y, z, e⟩ := hC 0 h
    refine ⟨x, y, z, [some (.scr []), some (.int 1), some (.lst [.int 0]), none], ?_⟩
    simp [rndsB, es1, exs, ex, ev, evs, evo, evI, evc, T.bind, ofO, boolK, newL, lsqOf, cutW, sIx, e0, forL, store, wipeE, e, T.nox, unlock]
  | cons c ns =>
    obtain ⟨x, y, z, e⟩ := hC c h
    refine ⟨x, y, z, [some (.scr (c :: ns)), some (.int 1), some (.lst [.int c]), none], ?_⟩
    simp [rndsB, es1, exs, ex, ev, evs, evo, evI, evc, T.bind, ofO, boolK, newL, lsqOf, cutW, sIx, e1, forL, store, wipeE, e, T.nox, unlock]
/-- the facts of the whole text -/
structure Gf (mg : Str → Option Value) (B : Tb) (I : Inf) (G : Pg) (d : Nat) (fa : Nat → Addr) (fd : Nat → FuncData) : Prop where
  fl : B.fl = I.fl
  fnd : I.fl.Nodup
  cls : ∀ c, I.isC c = true → Cls I.K (I.ca c) ∧ ∀ n ∈ I.fl, NoAttr I.K (I.ca c) n
  blt : ∀ n ∈ B.blt, mg n = none
  no : ∀ f, B.fn f = none → f ≠ G.roll ∧ f ≠ G.rnds ∧ G.body f = none
  tx : ∀ f i, B.fn f = some i → ∃ x qual st N b, Fun I.K x qual st (fa f) (fd f) ∧ FnScope N i.ps (defScope st) ∧ chkSs B N (fun _ => true) (defScope st) b (defBody st) = true ∧
    (if f = G.roll then b = rollB ∧ i.ps.length = 2 ∧ N.length = 3 else if f = G.rnds then b = rndsB d ∧ i.ps.length = 2 ∧ N.length = 4 else G.body f = some (i.ps.length, N.length, b))
  dc : d ≠ G.roll ∧ d ≠ G.rnds ∧ G.body d = some (1, 1, diceB)
  rr : G.rnds ≠ G.roll
  bd : ∀ f i, B.fn f = some i → Binds I.K (fd f) i.ps []
  gl : ∀ f i, B.fn f = some i → i.glob = true → mg i.x = some (.ref (fa f))
  cl : ∀ c x, B.cls c = some x → mg x = some (.ref (I.ca c)) ∧ I.isC c = true ∧ Mk I.K (I.ca c) (fa (G.ini c)) ∧ ∃ i, B.fn (G.ini c) = some i
  mt : ∀ c m f, I.isC c = true → G.M c m = some f → Meth I.K (I.ca c) (B.mth m) (fa f) ∧ ∃ i, B.fn f = some i
section
variable {mg : Str → Option Value} {B : Tb} {I : Inf} {G : Pg} {d : Nat} {fa : Nat → Addr} {fd : Nat → FuncData}
theorem roll_len {ws : List W} {h : EH} {P : W → EH → Prop} {E : Nat → EH → Prop} (q : (rollT ws h).All P E) : ∃ a k, ws = [.ref a, .int k] ∧ h[a]? = some .dice ∧ 0 < k ∧ k < 1073741824 ∧ ∀ i, i < k.toNat → P (.int (i : Int)) h := by
  unfold rollT at q
  split at q
  · rename_i a n
    split at q
    · rename_i hx
      split at q
      · rename_i hn
        exact ⟨a, n, rfl, hx, hn.1, hn.2, fun i hi => q.2.2 i hi⟩
      · exact q.elim
    · exact q.elim
  · exact q.elim
theorem rnds_len {ws : List W} {h : EH} {P : W → EH → Prop} {E : Nat → EH → Prop} (q : (rndsT ws h).All P E) : ∃ ns, ws = [.scr ns, .int 1] ∧ P (.lst [.ref h.length]) (h ++ [.dice]) := by
  unfold rndsT at q
  split at q
  · exact ⟨_, rfl, q⟩
  · exact q.elim
theorem fs_of (g : Gf mg B I G d fa fd) {n : Nat} {X : Cx} (hK : X.K = I.K) (hm : X.mg = mg) (hr : Room (2 * n + 1) X.A)
    (ok : ∀ f i, B.fn f = some i → FnOk X.prog X.w X.K X.mg X.base (L2.CX X.prog X.w) (2 * n) (fa f) (fd f) i.ps (spC I (callN G n) f i.ps.length)) : Fs B I (callN G n) G.M G.ini (2 * n) fa fd X := by
  subst hm
  refine ⟨hr, fun f ws h hf => ?_, fun f i ws h P E hf q => ?_, ok, fun f i hf => ?_, fun f i hf => ?_, g.gl, fun c x hc => ?_, fun c m f hc hm => ?_⟩
  · obtain ⟨h1, h2, h3⟩ := g.no f hf
    cases n with
    | zero => rfl
    | succ n => simp only [callN, if_neg h1, if_neg h2, h3]
  · cases n with
    | zero => exact q.elim
    | succ n =>
      obtain ⟨x, qual, st, N, b, _, _, _, hb⟩ := g.tx f i hf
      simp only [callN] at q
      split at q
      · rename_i e
        rw [if_pos e] at hb
        obtain ⟨a, k, rfl, _⟩ := roll_len q
        exact hb.2.1.symm
      · rename_i e
        rw [if_neg e] at hb
        split at q
        · rename_i e2
          rw [if_pos e2] at hb
          split at q
          · exact q.elim
          · obtain ⟨_, rfl, _⟩ := rnds_len q
            exact hb.2.1.symm
        · rename_i e2
          rw [if_neg e2] at hb
          rw [hb] at q
          simp only at q
          split at q
          · assumption
          · exact q.elim
  · obtain ⟨x, qual, st, N, b, hF, _⟩ := g.tx f i hf
    rw [hK]
    exact hF.kp
  · rw [hK]; exact g.bd f i hf
  · rw [hK]; exact g.cl c x hc
  · rw [hK]; exact g.mt c m f hc hm
theorem rs_entry {ι : Pl} {H : Hp} {ws : List W} {vs : List V} {N : List Str} (r : RWs I ι H ws vs) : RS I ι H (entry N.length ws) (L2.start N vs) := by
  have hl := r.length
  refine ⟨by simp [entry, L2.start, hl], fun i w e => ?_⟩
  unfold entry at e
  unfold L2.start
  by_cases hi : i < ws.length
  · rw [List.getElem?_append_left (by simpa using hi), List.getElem?_map] at e
    cases hw : ws[i]? with
    | none => rw [hw] at e; cases e
    | some w' =>
      rw [hw] at e
      cases e
      obtain ⟨v, hv, rv⟩ := r.get hw
      exact ⟨v, by rw [List.getElem?_append_left (by rw [List.length_map, ← hl]; exact hi), List.getElem?_map, hv]; rfl, rv⟩
  · rw [List.getElem?_append_right (by simpa using hi), List.getElem?_replicate] at e
    split at e <;> cases e
theorem set_same {α : Type} : ∀ {h : List α} {a : Nat} {x : α}, h[a]? = some x → h.set a x = h
  | [], _, _, e => by simp at e
  | y :: h, 0, x, e => by simp at e; simp [e]
  | y :: h, a + 1, x, e => by
    simp only [List.set_cons_succ]
    rw [set_same (by simpa using e)]
theorem fn_all (g : Gf mg B I G d fa fd) {P : Program} {w : World} {base : Heap} : ∀ n f i, B.fn f = some i → FnOk P w I.K mg base (L2.CX P w) (2 * n) (fa f) (fd f) i.ps (spC I (callN G n) f i.ps.length)
  | 0, f, i, hf => ⟨fun vs H Q E ⟨ι, h, ws, rp, r, l, q⟩ => l, fun A outer s H args us vs Q E _ _ _ _ ⟨ι, h, ws, rp, r, l, q⟩ => q.elim⟩
  | n + 1, f, i, hf => by
    obtain ⟨x, qual, st, N, b, hF, hS, hch, hb⟩ := g.tx f i hf
    refine Fun.okX (k := 2 * n + 1) hF hS (fun vs H Q E ⟨ι, h, ws, rp, r, l, q⟩ => l) fun cdv A outer s H vs Q E hr hsp => ?_
    obtain ⟨ι, h, ws, rp, r, l, q⟩ := hsp
    have F : Fs B I (callN G n) G.M G.ini (2 * n) fa fd (cxOf (L2.CX P w) P w I.K mg base N qual (defScope st) (fa f) cdv A outer s H E) := fs_of g rfl rfl hr (fn_all g n)
    have S : Cs B I (cxOf (L2.CX P w) P w I.K mg base N qual (defScope st) (fa f) cdv A outer s H E) := ⟨rfl, rfl, hS.nd, (Nat.lt_of_le_of_lt (Nat.add_le_add_left (by omega : 65 ≤ 16 * (2 * n + 1) + 200) _) (by have h := hr.un; rw [Nat.add_assoc] at h; exact h)), g.fl, g.fnd, g.cls, g.blt⟩
    have bs : Bs (cxOf (L2.CX P w) P w I.K mg base N qual (defScope st) (fa f) cdv A outer s H E) := ⟨hS.kind, passes_of rfl⟩
    refine ⟨_, sndSs (Wx := E) b S bs F (takes_of rfl rfl rfl rfl) hch, ?_⟩
    simp only [callN] at q
    split at q
    · rename_i e
      rw [if_pos e] at hb
      obtain ⟨rfl, h2, h3⟩ := hb
      obtain ⟨a, k, rfl, ha, hk, hk2, hq⟩ := roll_len q
      have hl : a < h.length := (List.getElem?_eq_some_iff.mp ha).1
      obtain ⟨p, hp, x, y, z, hH⟩ := rp.ob a _ ha
      obtain ⟨v, x', y', z', σ', ee, v0, v1⟩ := roll_does (C := callN G n) (M := G.M) (ini := G.ini) (h := h) (x := x) (y := y) (z := z) hk hk2 hl
      have rp2 : Rep I ι (h.set a (.lst [.int x, .int y, .int z])) H := rp.mark hp ⟨_, hH, .cons (.int _) (.cons (.int _) (.cons (.int _) .nil)), Nat.le_of_ble_eq_true rfl⟩
      refine ⟨ι, h.set a (.lst [.int x, .int y, .int z]), entry N.length [.ref a, .int k], rs_entry r, rp2, ?_⟩
      rw [h3]
      show T.All _ _ (exs (callN G n) G.M G.ini rollB [some (.ref a), some (.int k), none] _)
      rw [ee]
      intro ι' H' σ'' e' rp' rs' u ru
      cases ru
      have q2 := hq v.toNat (by omega)
      rw [Int.toNat_of_nonneg v0] at q2
      have hp' := e'.ix hp
      obtain ⟨us, g1, g2, g3⟩ := rp'.at (o := .lst [.int x', .int y', .int z']) hp' (by simp [hl])
      have rp3 := rp'.mark (eo := .dice) hp' (by
        cases g2 with
        | cons r1 g2 =>
          cases g2 with
          | cons r2 g2 =>
            cases g2 with
            | cons r3 g2 =>
              cases g2
              cases r1; cases r2; cases r3
              exact ⟨_, _, _, g1⟩)
      have eh : (h.set a (.lst [.int x', .int y', .int z'])).set a .dice = h := by
        rw [List.set_set]
        exact set_same ha
      rw [eh] at rp3
      exact q2 ι' H' _ e' rp3 (.int _)
    · rename_i e
      rw [if_neg e] at hb
      split at q
      · rename_i e2
        rw [if_pos e2] at hb
        obtain ⟨rfl, h2, h3⟩ := hb
        split at q
        · exact q.elim
        · rename_i hn
          obtain ⟨ns, rfl, hq⟩ := rnds_len q
          obtain ⟨d1, d2, d3⟩ := g.dc
          obtain ⟨x, y, z, σ', ee⟩ := rnds_does (C := callN G n) (M := G.M) (ini := G.ini) (d := d) (fun c h => by
            obtain ⟨m, rfl⟩ := Nat.exists_eq_succ_of_ne_zero hn
            obtain ⟨x, y, z, e⟩ := dice_does (C := callN G m) (M := G.M) (ini := G.ini) c h
            refine ⟨x, y, z, ?_⟩
            have e' : exs (callN G m) G.M G.ini diceB (entry 1 [.int c]) h = _ := e
            simp only [callN, if_neg d1, if_neg d2, d3, List.length_singleton, if_true, e']
            rfl) ns h
          refine ⟨ι, h, entry N.length [.scr ns, .int 1], rs_entry r, rp, ?_⟩
          rw [h3]
          show T.All _ _ (exs (callN G n) G.M G.ini (rndsB d) [some (.scr ns), some (.int 1), none, none] _)
          rw [ee]
          intro ι' H' σ'' e' rp' rs' u ru
          have hx : (h ++ [EO.lst [.int x, .int y, .int z]])[h.length]? = some (.lst [.int x, .int y, .int z]) := by simp
          obtain ⟨p, hp, us, g1, g2, g3⟩ := rp'.ob h.length _ hx
          have rp3 := rp'.mark (eo := .dice) hp (by
            cases g2 with
            | cons r1 g2 =>
              cases g2 with
              | cons r2 g2 =>
                cases g2 with
                | cons r3 g2 =>
                  cases g2
                  cases r1; cases r2; cases r3
                  exact ⟨_, _, _, g1⟩)
          have eh : (h ++ [EO.lst [.int x, .int y, .int z]]).set h.length .dice = h ++ [.dice] := by simp
          rw [eh] at rp3
          exact hq ι' H' u e' rp3 ru
      · rename_i e2
        rw [if_neg e2] at hb
        rw [hb] at q
        simp only at q
        split at q
        · refine ⟨ι, h, entry N.length ws, rs_entry r, rp, (T.All.bind q).mono (fun p h' k => ?_) fun _ _ z => z⟩
          intro ι' H' σ' e' rp' rs'
          obtain ⟨fl, σ2⟩ := p
          cases fl with
          | nx => exact k ι' H' _ e' rp' .non
          | rt w => exact fun v rv => k ι' H' v e' rp' rv
          | bk => exact k.elim
          | ct => exact k.elim
        · exact q.elim
end
end Z
namespace Z
open PySem PySem.Spec L2
def spLaw (K : PySem.W.Frag) : Sp := fun vs H Q _ => ∃ (a : Addr) (ns : List Int), vs = [.ref a] ∧ SqL K H a (ns.map V.int) ∧ ns.length ≤ 63 ∧ ∀ H', Q (.bl true) H'
theorem rep0 {I : Inf} {H : Hp} : Rep I ⟨[], []⟩ [] H := ⟨rfl, .nil, fun a h => (by cases h), fun i o h => by simp at h⟩
theorem law_end {mg : Str → Option Value} {B : Tb} {I : Inf} {G : Pg} {d : Nat} {fa : Nat → Addr} {fd : Nat → FuncData} (g : Gf mg B I G d fa fd) {P : Program} {w : World} {base : Heap} {n fL : Nat} {x : Str} {i : FnI} (hf : B.fn fL = some i) (hx : i.ps = [x])
    (plain : ∀ ns : List Int, (callN G n fL [.scr ns] []).All (fun w _ => w = .bl true) (fun _ _ => False)) : FnOk P w I.K mg base (L2.CX P w) (2 * n) (fa fL) (fd fL) [x] (spLaw I.K) := by
  have h := fn_all g (P := P) (w := w) (base := base) n fL i hf
  rw [hx] at h
  refine h.imp fun vs H Q E ⟨a, ns, e, hS, hl, hQ⟩ => ?_
  subst e
  refine ⟨⟨[], []⟩, [], [.scr ns], rep0, .cons (.scr ?_ hl) .nil, rfl, (plain ns).mono (fun w h' e => ?_) fun _ _ z => z.elim⟩
  · rcases hS with hS | hS
    · exact .inl ⟨hS, fun z => by rcases z with z | z <;> cases z⟩
    · exact .inr hS
  · subst e
    intro ι' H' v _ _ r
    cases r
    exact hQ H'
theorem walk {l : PySem.W.OpenLaw} {q : Program} {loose : List Str} {XP : (Str → Option Value) → Heap → Prop} {YP : World → Heap → Prop} {d : DefRec} {K : Params → PySem.W.Frag} {k : Nat} {x : Str} (hr : Room k callerA) (hn : l.most = some 63) (hdf : d.params.defaults = [])
    (hY : ∀ (w : World) (h : Heap), YP w h → (K w.params).In h)
    (F : ∀ (w : World) (mg : Str → Option Value) (fa : Addr) (h : Heap), (K w.params).In h → h.Ns mainGlobals mg → mg d.name = some (.ref fa) →
      ∃ fd : FuncData, (∀ (s : Shared) (u : Value), BindsTo s fd ⟨[u], []⟩ [(x, u)]) ∧ ∀ base : Heap, (K w.params).In base → base.Ns mainGlobals mg → FnOk l.prog w (K w.params) mg base (L2.CX l.prog w) k fa fd [x] (spLaw (K w.params))) :
    PySem.W.WalkO q loose XP YP l.row.toRowW d [] (fun f vs => PySem.call f vs) :=
  L2.walk_of (n := 63) (k := k) (x := x) (CX := fun w => L2.CX l.prog w) (sp := fun w => spLaw (K w.params)) hn (by decide) hdf hr hY F (fun _ _ a ns hl _ hS => ⟨a, ns, rfl, hS, hl, fun _ => rfl⟩) fun _ _ _ _ _ h => by
    obtain ⟨_, _, _, _, _, _, _, _, _, _, _, _, z⟩ := h
    exact z.elim
/-- what the kernel can see: every end is True -/
def T.chk : T W → Bool
  | .fail => false
  | .ok w _ => match w with | .bl true => true | _ => false
  | .exc _ _ => false
  | .draw n k => decide (0 < n) && decide (n < 1073741824) && (List.range n).all fun i => (k i).chk
theorem T.chk_all : ∀ {t : T W}, t.chk = true → t.All (fun w _ => w = .bl true) fun _ _ => False
  | .fail, h => by simp [T.chk] at h
  | .ok w _, h => by
    simp only [T.chk] at h
    split at h
    · rfl
    · cases h
  | .exc _ _, h => by simp [T.chk] at h
  | .draw n k, h => by
    simp only [T.chk, Bool.and_eq_true, decide_eq_true_eq, List.all_eq_true, List.mem_range] at h
    exact ⟨h.1.1, h.1.2, fun i hi => T.chk_all (h.2 i hi)⟩
end Z
namespace Z
open PySem
/-- at the places of L stand just these things; the places are apart -/
def Sep (h : EH) (L : List (Nat × EO)) : Prop := (∀ x ∈ L, h[x.1]? = some x.2) ∧ (L.map (·.1)).Nodup
theorem Sep.at {h : EH} {L : List (Nat × EO)} (s : Sep h L) {i : Nat} {a : Nat} {o : EO} (e : L[i]? = some (a, o)) : h[a]? = some o := s.1 (a, o) (List.mem_of_getElem? e)
theorem Sep.lt {h : EH} {L : List (Nat × EO)} (s : Sep h L) {x : Nat × EO} (m : x ∈ L) : x.1 < h.length := (List.getElem?_eq_some_iff.mp (s.1 x m)).1
theorem Sep.new {h : EH} {L : List (Nat × EO)} (s : Sep h L) (o : EO) : Sep (h ++ [o]) ((h.length, o) :: L) := by
  refine ⟨fun x m => ?_, ?_⟩
  · rcases List.mem_cons.mp m with rfl | m
    · simp
    · rw [List.getElem?_append_left (s.lt m)]
      exact s.1 x m
  · simp only [List.map_cons, List.nodup_cons]
    refine ⟨fun m => ?_, s.2⟩
    obtain ⟨x, hx, e⟩ := List.mem_map.mp m
    have := s.lt hx
    omega
theorem Sep.perm {h : EH} {L L' : List (Nat × EO)} (s : Sep h L) (p : L.Perm L') : Sep h L' := ⟨fun x m => s.1 x (p.mem_iff.mpr m), (p.map _).nodup_iff.mp s.2⟩
theorem Sep.sub {h : EH} {L L' : List (Nat × EO)} (s : Sep h L) (p : L'.Sublist L) : Sep h L' := ⟨fun x m => s.1 x (p.subset m), (p.map _).nodup s.2⟩
theorem Sep.tail {h : EH} {L : List (Nat × EO)} {x : Nat × EO} (s : Sep h (x :: L)) : Sep h L := s.sub (List.sublist_cons_self _ _)
theorem Sep.ne {h : EH} {L : List (Nat × EO)} (s : Sep h L) {i j : Nat} {x y : Nat × EO} (ei : L[i]? = some x) (ej : L[j]? = some y) (hij : i ≠ j) : x.1 ≠ y.1 := fun e => by
  have h1 : (L.map (·.1))[i]? = some x.1 := by simp [ei]
  have h2 : (L.map (·.1))[j]? = some x.1 := by simp [ej, e]
  have hi : i < (L.map (·.1)).length := (List.getElem?_eq_some_iff.mp h1).1
  exact hij ((List.getElem?_inj hi s.2).mp (h1.trans h2.symm))
theorem Sep.set {h : EH} {L : List (Nat × EO)} (s : Sep h L) {i : Nat} {a : Nat} {o o' : EO} (e : L[i]? = some (a, o)) : Sep (h.set a o') (L.set i (a, o')) := by
  have hi : i < L.length := (List.getElem?_eq_some_iff.mp e).1
  refine ⟨fun x m => ?_, ?_⟩
  · obtain ⟨j, hj⟩ := List.getElem?_of_mem m
    by_cases hij : i = j
    · subst hij
      rw [List.getElem?_set_self hi] at hj
      cases hj
      have : a < h.length := s.lt (List.mem_of_getElem? e)
      simp [this]
    · rw [List.getElem?_set_ne hij] at hj
      have ne : a ≠ x.1 := s.ne e hj hij
      rw [List.getElem?_set_ne ne]
      exact s.1 x (List.mem_of_getElem? hj)
  · have : (L.set i (a, o')).map (·.1) = L.map (·.1) := by
      rw [List.map_set]
      exact set_same (by simp [e])
    rw [this]
    exact s.2
/-- a new thing stands in place of the k-th -/
theorem Sep.swapNew {h : EH} {L : List (Nat × EO)} (s : Sep h L) (k : Nat) (o : EO) : Sep (h ++ [o]) (L.set k (h.length, o)) := by
  have n := s.new o
  refine ⟨fun x m => ?_, ?_⟩
  · rcases List.mem_or_eq_of_mem_set m with m | rfl
    · exact n.1 x (List.mem_cons_of_mem _ m)
    · exact n.1 _ List.mem_cons_self
  · rw [List.map_set]
    have h1 := n.2
    simp only [List.map_cons, List.nodup_cons] at h1
    rw [List.Nodup, List.pairwise_iff_getElem]
    intro i j hi hj hij
    have h2 := List.pairwise_iff_getElem.mp s.2
    simp only [List.length_set] at hi hj
    rw [List.getElem_set, List.getElem_set]
    split
    · split
      · omega
      · exact fun e => h1.1 (by have e : h.length = _ := e; rw [e]; exact List.getElem_mem _)
    · split
      · exact fun e => h1.1 (by have e : _ = h.length := e; rw [← e]; exact List.getElem_mem _)
      · exact h2 i j hi hj hij
theorem Sep.off {h : EH} {L : List (Nat × EO)} (s : Sep h L) {i j : Nat} {x y : Nat × EO} {o : EO} (ei : L[i]? = some x) (ej : L[j]? = some y) (hij : i ≠ j) : (h.set x.1 o)[y.1]? = some y.2 := by
  rw [List.getElem?_set_ne (s.ne ei ej hij)]
  exact s.at (i := j) ej
theorem cut_hi {xs : List W} {m : Int} (h : 0 ≤ m) : cutW xs none (some m) = xs.take m.toNat := by
  have h' : ¬ m < 0 := by omega
  simp only [cutW, sIx, h', if_false, List.drop_zero, Nat.sub_zero]
  rcases Nat.le_total m.toNat xs.length with l | l
  · rw [Nat.min_eq_left l]
  · rw [Nat.min_eq_right l, List.take_length, List.take_of_length_le l]
theorem cut_lo {xs : List W} {m : Int} (h : 0 ≤ m) : cutW xs (some m) none = xs.drop m.toNat := by
  have h' : ¬ m < 0 := by omega
  simp only [cutW, sIx, h', if_false]
  rcases Nat.le_total m.toNat xs.length with l | l
  · rw [Nat.min_eq_left l]
    exact List.take_of_length_le (by simp)
  · rw [Nat.min_eq_right l]
    simp [List.drop_eq_nil_of_le l]
/-- a walk without a change -/
theorem forL_ok {f : W → EH → T (Option W)} {g : W → Option W} {h : EH} : ∀ {xs acc : List W}, (∀ x ∈ xs, f x h = .ok (g x) h) → forL f acc xs h = .ok (acc ++ xs.filterMap g) h
  | [], acc, _ => by simp [forL]
  | x :: xs, acc, hf => by
    have h1 := hf x (by simp)
    have h2 := fun acc => forL_ok (f := f) (g := g) (h := h) (xs := xs) (acc := acc) fun y m => hf y (by simp [m])
    simp only [forL, h1, T.bind]
    cases hg : g x with
    | none => simp [h2, hg]
    | some y => simp [h2, hg]
/-- .. into a list at n -/
theorem forM_ok {f : W → EH → T (Option W)} {g : W → Option W} {h : EH} {n : Nat} (hn : n < h.length) : ∀ {xs ys : List W}, (∀ x ∈ xs, ∀ ys, f x (h.set n (.lst ys)) = .ok (g x) (h.set n (.lst ys))) → ys.length + xs.length ≤ LIM →
    forM n f xs (h.set n (.lst ys)) = .ok () (h.set n (.lst (ys ++ xs.filterMap g)))
  | [], ys, _, _ => by simp [forM]
  | x :: xs, ys, hf, hl => by
    have h1 := hf x (by simp) ys
    have h2 := fun ys hl => forM_ok (f := f) (g := g) (h := h) hn (xs := xs) (ys := ys) (fun y m => hf y (by simp [m])) hl
    simp only [List.length_cons] at hl
    simp only [forM, h1, T.bind]
    cases hg : g x with
    | none => simp [h2 ys (by omega), hg]
    | some y =>
      have : ys.length < LIM := by omega
      simp [hn, this, h2 (ys ++ [y]) (by simp; omega), hg]
end Z
namespace Z
open PySem
section
variable {C : CallH} {M : MTab} {ini : Nat → Nat} {σ : Env} {h h1 : EH}
theorem comp_ok {a : E} {g : G} {it : Z.I} {c : Eo} {own : List Nat} {xs : List W} {k : Lk} (gq : W → Option W) (hI : evI C M ini it σ h = .ok (xs, k) h1) (hb : ∀ x ∈ xs, bodyC g own (evc C M ini c) (ev C M ini a) σ x h1 = .ok (gq x) h1) :
    ev C M ini (.comp a g it c own) σ h = .ok (.lst (xs.filterMap gq)) (unlock k h1) := by
  have e := forL_ok (f := bodyC g own (evc C M ini c) (ev C M ini a) σ) (acc := []) hb
  simp only [ev, hI, T.bind]
  show ((forL (bodyC g own (evc C M ini c) (ev C M ini a) σ) [] xs h1).nox.bind _) = _
  rw [e]
  simp [T.nox, T.bind]
theorem compM_ok {a : E} {g : G} {it : Z.I} {c : Eo} {own : List Nat} {xs : List W} {k : Lk} (gq : W → Option W) (hI : evI C M ini it σ h = .ok (xs, k) h1) (hl : xs.length ≤ LIM) (hb : ∀ x ∈ xs, ∀ ys, bodyC g own (evc C M ini c) (ev C M ini a) σ x (h1 ++ [.lst ys]) = .ok (gq x) (h1 ++ [.lst ys])) :
    ev C M ini (.compM a g it c own) σ h = .ok (.ref h1.length) (unlock k (h1 ++ [.lst (xs.filterMap gq)])) := by
  have st : ∀ ys, (h1 ++ [EO.lst []]).set h1.length (.lst ys) = h1 ++ [.lst ys] := fun ys => by simp
  have e := forM_ok (f := bodyC g own (evc C M ini c) (ev C M ini a) σ) (g := gq) (h := h1 ++ [.lst []]) (n := h1.length) (by simp) (xs := xs) (ys := []) (fun x hx ys => by rw [st]; exact hb x hx ys) (by simpa using hl)
  rw [st, st] at e
  simp only [ev, hI, T.bind]
  show ((forM h1.length (bodyC g own (evc C M ini c) (ev C M ini a) σ) xs (h1 ++ [.lst []])).nox.bind _) = _
  rw [e]
  simp [T.nox, T.bind]
theorem fm_map {α : Type} (enc : α → W) (pr : α → Bool) (f : α → W) (gq : W → Option W) : ∀ xs : List α, (∀ x ∈ xs, gq (enc x) = if pr x then some (f x) else none) → (xs.map enc).filterMap gq = (xs.filter pr).map f
  | [], _ => rfl
  | x :: xs, h => by
    have ih := fm_map enc pr f gq xs fun y m => h y (by simp [m])
    have hx := h x (by simp)
    rw [List.map_cons, List.filterMap_cons, hx, List.filter_cons]
    by_cases c : pr x = true
    · simp [c, ih]
    · simp [c, ih]
theorem comp_f {α : Type} (enc : α → W) (pr : α → Bool) (f : α → W) {xs : List α} {a : E} {g : G} {it : Z.I} {c : Eo} {own : List Nat} {k : Lk} (hI : evI C M ini it σ h = .ok (xs.map enc, k) h1) (hb : ∀ x ∈ xs, bodyC g own (evc C M ini c) (ev C M ini a) σ (enc x) h1 = .ok (if pr x then some (f x) else none) h1) :
    ev C M ini (.comp a g it c own) σ h = .ok (.lst ((xs.filter pr).map f)) (unlock k h1) := by
  have e := comp_ok (C := C) (M := M) (ini := ini) (a := a) (g := g) (c := c) (own := own) (fun y => match bodyC g own (evc C M ini c) (ev C M ini a) σ y h1 with | .ok o _ => o | _ => none) hI (fun y hy => by
    obtain ⟨x, m, rfl⟩ := List.mem_map.mp hy
    simp only [hb x m])
  rw [fm_map enc pr f _ xs fun x m => by simp only [hb x m]] at e
  exact e
theorem compM_f {α : Type} (enc : α → W) (pr : α → Bool) (f : α → W) {xs : List α} {a : E} {g : G} {it : Z.I} {c : Eo} {own : List Nat} {k : Lk} (hI : evI C M ini it σ h = .ok (xs.map enc, k) h1) (hl : xs.length ≤ LIM) (hb : ∀ x ∈ xs, ∀ ys, bodyC g own (evc C M ini c) (ev C M ini a) σ (enc x) (h1 ++ [.lst ys]) = .ok (if pr x then some (f x) else none) (h1 ++ [.lst ys])) :
    ev C M ini (.compM a g it c own) σ h = .ok (.ref h1.length) (unlock k (h1 ++ [.lst ((xs.filter pr).map f)])) := by
  have e := compM_ok (C := C) (M := M) (ini := ini) (a := a) (g := g) (c := c) (own := own) (fun y => match bodyC g own (evc C M ini c) (ev C M ini a) σ y (h1 ++ [.lst []]) with | .ok o _ => o | _ => none) hI (by simpa using hl) (fun y hy ys => by
    obtain ⟨x, m, rfl⟩ := List.mem_map.mp hy
    simp only [hb x m])
  rw [fm_map enc pr f _ xs fun x m => by simp only [hb x m]] at e
  exact e
theorem evI_fld {p n f : Nat} {c : Nat} {fs : List (Nat × W)} {xs : List W} (h0 : σ[0]? = some (some (.ref p))) (hp : h[p]? = some (.ins c fs)) (hl : look fs f = some (.ref n)) (hn : h[n]? = some (.lst xs)) :
    evI C M ini (.seqR (.fld (.var 0) f)) σ h = .ok (xs, .l n xs) (h.set n (.lstL xs)) := by
  simp [evI, ev, h0, T.bind, insOf, hp, hl, ofO, hn]
theorem unl_id {n : Nat} {xs : List W} (hn : h[n]? = some (.lst xs)) : unlock (.l n xs) (h.set n (.lstL xs)) = h := by
  simp only [unlock, List.set_set]
  exact set_same hn
theorem unl_app {n : Nat} {xs ys : List W} (hn : h[n]? = some (.lst xs)) : unlock (.l n xs) (h.set n (.lstL xs) ++ [.lst ys]) = h ++ [.lst ys] := by
  have hl : n < h.length := (List.getElem?_eq_some_iff.mp hn).1
  simp only [unlock]
  rw [List.set_append_left _ _ (by simpa using hl), List.set_set, set_same hn]
theorem exs_cons {s : S} {r : Ss} {σ' : Env} (e : ex C M ini s σ h = .ok (.nx, σ') h1) : exs C M ini (.cons s r) σ h = exs C M ini r σ' h1 := by
  simp only [exs, e, T.bind]
/-- a walk that changes the state by steps -/
theorem forS_ok {f : W → Env → EH → R} (Inv : Nat → Env → EH → Prop) {xs : List W} {σ : Env} {h : EH} (h0 : Inv 0 σ h) (hs : ∀ i x σ h, xs[i]? = some x → Inv i σ h → ∃ σ' h', f x σ h = .ok (.nx, σ') h' ∧ Inv (i + 1) σ' h') :
    ∃ σ' h', forS f xs σ h = .ok (.nx, σ') h' ∧ Inv xs.length σ' h' := by
  induction xs generalizing σ h Inv with
  | nil => exact ⟨σ, h, rfl, h0⟩
  | cons x xs ih =>
    obtain ⟨σ1, h1, e1, i1⟩ := hs 0 x σ h rfl h0
    obtain ⟨σ2, h2, e2, i2⟩ := ih (fun i => Inv (i + 1)) i1 fun i y σ h hy hi => hs (i + 1) y σ h (by simpa using hy) hi
    exact ⟨σ2, h2, by simp only [forS, e1, T.bind]; exact e2, i2⟩
theorem loop_ok {g : G} {it : Z.I} {b : Ss} {xs : List W} (Inv : Nat → Env → EH → Prop) (hI : evI C M ini it σ h = .ok (xs, .no) h) (h0 : Inv 0 σ h)
    (hs : ∀ k x σ h, xs[k]? = some x → Inv k σ h → ∃ σ1 σ' h', store g x σ = some σ1 ∧ exs C M ini b σ1 h = .ok (.nx, σ') h' ∧ Inv (k + 1) σ' h') :
    ∃ σ' h', ex C M ini (.loop g it b) σ h = .ok (.nx, σ') h' ∧ Inv xs.length σ' h' := by
  obtain ⟨σ', h', e, q⟩ := forS_ok (f := fun x σ h => match store g x σ with
      | some σ' => exs C M ini b σ' h
      | none => .fail) Inv h0 fun k x σ h hx hi => by
    obtain ⟨σ1, σ', h', e1, e2, q⟩ := hs k x σ h hx hi
    exact ⟨σ', h', by simp only [e1]; exact e2, q⟩
  refine ⟨σ', h', ?_, q⟩
  have e2 : ex C M ini (.loop g it b) σ h = ((evI C M ini it σ h).bind fun p h => (forS (fun x σ h => match store g x σ with
      | some σ' => exs C M ini b σ' h
      | none => .fail) p.1 σ h).bind fun q h => .ok q (unlock p.2 h)) := by
    simp only [ex] <;> rfl
  rw [e2, hI]
  show ((forS (fun x σ h => match store g x σ with
      | some σ' => exs C M ini b σ' h
      | none => .fail) xs σ h).bind fun q h => .ok q (unlock .no h)) = _
  rw [e]
  rfl
end
end Z
namespace K40
open PySem L2 Z
def top (i : Nat) : Stmt := PySem.Challenge.pw_crossloom_k40_links_told_by_their_room.main.body.getD i (.Pass ⟨0, 0, 0, 0⟩)
abbrev s0 : Stmt := top 8
def N0 : List Str := ["_law_cell"]
def b0 : Ss := diceB
abbrev s1 : Stmt := top 9
def N1 : List Str := ["_law_dice_here", "_law_many", "_law_found"]
def b1 : Ss := rollB
abbrev s2 : Stmt := top 10
def N2 : List Str := ["_law_script", "_law_most", "_law_cells", "_law_cell"]
def b2 : Ss := (rndsB 0)
abbrev s3 : Stmt := top 11
def N3 : List Str := ["_law_script", "_law_dice_here", "_law_there", "_law_back", "_law_room", "_law_slots", "_law_need", "_law_round_of", "_law_due", "_law_link", "_law_inside", "_law_slot", "_law_sent", "_law_gone", "_law_cell", "_law_each", "_law_when"]
def b3 : Ss := (.cons (.loop (.name 1) (.seq (.call 2 (.cons (.var 0) (.cons (.int 1) .nil)))) (.cons (.set (.tup [2, 3, 4, 5]) (.tup (.cons (.call 1 (.cons (.var 1) (.cons (.int 4) .nil))) (.cons (.call 1 (.cons (.var 1) (.cons (.int 4) .nil))) (.cons (.call 1 (.cons (.var 1) (.cons (.int 10) .nil))) (.cons (.call 1 (.cons (.var 1) (.cons (.int 25) .nil))) .nil)))))) (.cons (.set (.name 6) (.call 8 (.cons (.var 2) (.cons (.var 3) .nil)))) (.cons (.set (.name 7) (.bin .add (.var 2) (.max2 (.var 3) (.int 1)))) (.cons (.set (.name 8) (.ite (.cmp .ge (.var 4) (.var 6)) (.var 5) (.bin .add (.bin .mul (.bin .fdiv (.var 5) (.var 7)) (.var 4)) (.min2 (.bin .mod (.var 5) (.var 7)) (.var 4))))) (.cons (.ite (.or (.cons (.eqI true (.var 6) (.var 7)) (.cons (.eqI true (.call 7 (.cons (.var 4) (.cons (.var 2) (.cons (.var 3) (.cons (.var 5) .nil))))) (.var 8)) (.cons (.cmp .lt (.call 7 (.cons (.bin .add (.var 4) (.int 1)) (.cons (.var 2) (.cons (.var 3) (.cons (.var 5) .nil))))) (.var 8)) .nil)))) (.cons (.ret (.bl false)) .nil) .nil) (.cons (.set (.tup [9, 10]) (.tup (.cons (.make 0 (.cons (.var 4) (.cons (.var 2) (.cons (.var 3) .nil)))) (.cons .dic .nil)))) (.cons (.loop (.name 11) (.rng (.var 5)) (.cons (.set (.tup [12, 13]) (.meth (.var 9) 1 (.cons (.tup (.cons (.var 11) .nil)) (.cons (.int 9) .nil)))) (.cons (.loop (.name 14) (.seq (.var 12)) (.cons (.set (.dsub (.var 10) (.var 14)) (.bin .add (.var 11) (.var 2))) .nil)) (.cons (.ite (.or (.cons (.eqD true (.comp (.var 14) (.name 14) (.seq (.var 13)) (.some (.eqI true (.dix (.var 10) (.var 14)) (.var 11))) [14]) (.lst false .nil)) (.cons (.eqI true (.meth (.var 9) 0 .nil) (.var 4)) .nil))) (.cons (.ret (.bl false)) .nil) .nil) .nil)))) (.cons (.ite (.and (.cons (.cmp .gt (.var 4) (.int 0)) (.cons (.cmp .gt (.var 5) (.var 2)) (.cons (.eqD true (.comp (.var 14) (.name 14) (.keys (.var 10)) (.some (.and (.cons (.cmp .lt (.dix (.var 10) (.var 14)) (.var 5)) (.cons (.inS false (.var 14) (.comp (.var 15) (.tup [15, 16]) (.seqR (.fld (.var 9) 0)) .none [15, 16])) .nil)))) [14]) (.lst false .nil)) .nil)))) (.cons (.ret (.bl false)) .nil) .nil) .nil))))))))) (.cons (.ret (.bl true)) .nil))
abbrev s4 : Stmt := inClass (top 4) 2
def N4 : List Str := ["self"]
def b4 : Ss := (.cons (.ret (.bin .add (.bin .add (.bin .add (.fld (.var 0) 1) (.len (.fld (.var 0) 0))) (.len (.fld (.var 0) 2))) (.len (.fld (.var 0) 3)))) .nil)
abbrev s5 : Stmt := inClass (top 4) 1
def N5 : List Str := ["self", "cells", "drains", "when", "cell", "pair", "sent", "gone"]
def b5 : Ss := (.cons (.augF (.var 0) 1 .add (.len (.comp (.int 1) (.name 3) (.seqR (.fld (.var 0) 3)) (.some (.eqI false (.var 3) (.fld (.var 0) 4))) [3]))) (.cons (.set (.fld (.var 0) 3) (.compM (.var 3) (.name 3) (.seqR (.fld (.var 0) 3)) (.some (.eqI true (.var 3) (.fld (.var 0) 4))) [3])) (.cons (.extF (.var 0) 2 (.comp (.var 4) (.tup [4, 3]) (.seqR (.fld (.var 0) 0)) (.some (.eqI false (.var 3) (.fld (.var 0) 4))) [4, 3])) (.cons (.set (.fld (.var 0) 0) (.compM (.var 5) (.name 5) (.seqR (.fld (.var 0) 0)) (.some (.eqI true (.ix (.var 5) (.int 1)) (.fld (.var 0) 4))) [5])) (.cons (.set (.name 6) (.toLst false (.slT (.var 1) .none (.some (.fld (.var 0) 1))))) (.cons (.augF (.var 0) 1 .sub (.len (.var 6))) (.cons (.loop (.name 4) (.seq (.var 6)) (.cons (.ite (.eqI false (.fld (.var 0) 7) (.int 0)) (.cons (.append (.fld (.var 0) 2) (.var 4)) .nil) (.cons (.append (.fld (.var 0) 0) (.tup (.cons (.var 4) (.cons (.bin .add (.fld (.var 0) 4) (.fld (.var 0) 7)) .nil)))) .nil)) .nil)) (.cons (.set (.fld (.var 0) 6) (.max2 (.fld (.var 0) 6) (.len (.fld (.var 0) 2)))) (.cons (.set (.name 7) (.slL false (.fld (.var 0) 2) .none (.some (.var 2)))) (.cons (.set (.fld (.var 0) 2) (.slL true (.fld (.var 0) 2) (.some (.len (.var 7))) .none)) (.cons (.loop (.name 4) (.seq (.var 7)) (.cons (.ite (.eqI false (.fld (.var 0) 5) (.int 0)) (.cons (.augF (.var 0) 1 .add (.int 1)) .nil) (.cons (.append (.fld (.var 0) 3) (.bin .add (.fld (.var 0) 4) (.fld (.var 0) 5))) .nil)) .nil)) (.cons (.augF (.var 0) 4 .add (.int 1)) (.cons (.ret (.tup (.cons (.toTup (.var 6)) (.cons (.toTup (.var 7)) .nil)))) .nil)))))))))))))
abbrev s6 : Stmt := inClass (top 4) 0
def N6 : List Str := ["self", "room", "there", "back"]
def b6 : Ss := (.cons (.ite (.or (.cons (.cmp .lt (.var 1) (.int 0)) (.cons (.cmp .lt (.var 2) (.int 0)) (.cons (.cmp .lt (.var 3) (.int 0)) .nil)))) (.cons .nev .nil) .nil) (.cons (.set (.fld (.var 0) 8) (.var 1)) (.cons (.set (.fld (.var 0) 7) (.var 2)) (.cons (.set (.fld (.var 0) 5) (.var 3)) (.cons (.set (.fld (.var 0) 1) (.var 1)) (.cons (.set (.fld (.var 0) 0) (.lst true .nil)) (.cons (.set (.fld (.var 0) 3) (.lst true .nil)) (.cons (.set (.fld (.var 0) 2) (.lst true .nil)) (.cons (.set (.fld (.var 0) 4) (.int 0)) (.cons (.set (.fld (.var 0) 6) (.int 0)) .nil))))))))))
abbrev s7 : Stmt := top 5
def N7 : List Str := ["room", "there", "back", "slots", "link", "whole", "slot"]
def b7 : Ss := (.cons (.par 4 5 (.make 0 (.cons (.var 0) (.cons (.var 1) (.cons (.var 2) .nil)))) (.int 0)) (.cons (.loop (.name 6) (.rng (.var 3)) (.cons (.augN 5 .add (.len (.ix (.meth (.var 4) 1 (.cons (.tup (.cons (.var 6) .nil)) (.cons (.var 0) .nil))) (.int 0)))) .nil)) (.cons (.ret (.var 5)) .nil)))
abbrev s8 : Stmt := top 6
def N8 : List Str := ["there", "back"]
def b8 : Ss := (.cons (.ret (.bin .add (.var 0) (.max2 (.var 1) (.int 1)))) .nil)
def tb : Tb where
  fn f := match f with
    | 0 => some ⟨"_law_dice", true, ["_law_cell"]⟩
    | 1 => some ⟨"_law_roll", true, ["_law_dice_here", "_law_many"]⟩
    | 2 => some ⟨"_law_rounds", true, ["_law_script", "_law_most"]⟩
    | 3 => some ⟨"law", true, ["_law_script"]⟩
    | 4 => some ⟨"counted", false, ["self"]⟩
    | 5 => some ⟨"turn", false, ["self", "cells", "drains"]⟩
    | 6 => some ⟨"__init__", false, ["self", "room", "there", "back"]⟩
    | 7 => some ⟨"sent_in", true, ["room", "there", "back", "slots"]⟩
    | 8 => some ⟨"room_for_all", true, ["there", "back"]⟩
    | _ => none
  cls c := match c with
    | 0 => some "Link"
    | _ => none
  fl := ["cells", "marks", "inside", "notes", "slot", "back", "most", "there", "room"]
  mth m := match m with
    | 0 => "counted"
    | 1 => "turn"
    | _ => ""
  blt := ["abs", "int", "len", "list", "max", "min", "range", "tuple"]
def pg : Pg where
  body f := match f with
    | 0 => some (1, 1, b0)
    | 3 => some (1, 17, b3)
    | 4 => some (1, 1, b4)
    | 5 => some (3, 8, b5)
    | 6 => some (4, 4, b6)
    | 7 => some (4, 7, b7)
    | 8 => some (2, 2, b8)
    | _ => none
  M c m := match c with
    | 0 => (match m with
      | 0 => some 4
      | 1 => some 5
      | _ => none)
    | _ => none
  ini c := match c with
    | 0 => 6
    | _ => 0
  roll := 1
  rnds := 2
theorem sc0 : FnScope N0 ["_law_cell"] (defScope s0) := ⟨rfl, rfl, rfl, by decide +kernel, rfl, by decide +kernel, by decide +kernel⟩
theorem ck0 : chkSs tb N0 (fun _ => true) (defScope s0) b0 (defBody s0) = true := by decide +kernel
theorem sc1 : FnScope N1 ["_law_dice_here", "_law_many"] (defScope s1) := ⟨rfl, rfl, rfl, by decide +kernel, rfl, by decide +kernel, by decide +kernel⟩
theorem ck1 : chkSs tb N1 (fun _ => true) (defScope s1) b1 (defBody s1) = true := by decide +kernel
theorem sc2 : FnScope N2 ["_law_script", "_law_most"] (defScope s2) := ⟨rfl, rfl, rfl, by decide +kernel, rfl, by decide +kernel, by decide +kernel⟩
theorem ck2 : chkSs tb N2 (fun _ => true) (defScope s2) b2 (defBody s2) = true := by decide +kernel
theorem sc3 : FnScope N3 ["_law_script"] (defScope s3) := ⟨rfl, rfl, rfl, by decide +kernel, rfl, by decide +kernel, by decide +kernel⟩
theorem ck3 : chkSs tb N3 (fun _ => true) (defScope s3) b3 (defBody s3) = true := by decide +kernel
theorem sc4 : FnScope N4 ["self"] (defScope s4) := ⟨rfl, rfl, rfl, by decide +kernel, rfl, by decide +kernel, by decide +kernel⟩
theorem ck4 : chkSs tb N4 (fun _ => true) (defScope s4) b4 (defBody s4) = true := by decide +kernel
theorem sc5 : FnScope N5 ["self", "cells", "drains"] (defScope s5) := ⟨rfl, rfl, rfl, by decide +kernel, rfl, by decide +kernel, by decide +kernel⟩
theorem ck5 : chkSs tb N5 (fun _ => true) (defScope s5) b5 (defBody s5) = true := by decide +kernel
theorem sc6 : FnScope N6 ["self", "room", "there", "back"] (defScope s6) := ⟨rfl, rfl, rfl, by decide +kernel, rfl, by decide +kernel, by decide +kernel⟩
theorem ck6 : chkSs tb N6 (fun _ => true) (defScope s6) b6 (defBody s6) = true := by decide +kernel
theorem sc7 : FnScope N7 ["room", "there", "back", "slots"] (defScope s7) := ⟨rfl, rfl, rfl, by decide +kernel, rfl, by decide +kernel, by decide +kernel⟩
theorem ck7 : chkSs tb N7 (fun _ => true) (defScope s7) b7 (defBody s7) = true := by decide +kernel
theorem sc8 : FnScope N8 ["there", "back"] (defScope s8) := ⟨rfl, rfl, rfl, by decide +kernel, rfl, by decide +kernel, by decide +kernel⟩
theorem ck8 : chkSs tb N8 (fun _ => true) (defScope s8) b8 (defBody s8) = true := by decide +kernel
def inf (K : PySem.W.Frag) (ca : Nat → Addr) : Inf := ⟨K, tb.fl, ca, fun c => decide (c < 1)⟩
theorem all_mk {l : PySem.W.OpenLaw} {w : World} {K : PySem.W.Frag} {h : Heap} {mg : Str → Option Value} {fa f0 f1 f2 f3 f4 f5 f6 f7 f8 C0 : Addr} (X : K.In h) (G : h.Ns mainGlobals mg) (hfa : mg "law" = some (.ref fa))
    {od0 an0 od1 an1 od2 an2 od3 an3 od4 an4 od5 an5 od6 an6 od7 an7 od8 an8 : Option Addr} {sl0 sl1 sl2 sl3 sl4 sl5 sl6 sl7 sl8 : Array (Option Value)} {oc0 kV0 dc0 pm0 cd0 ct0 oc1 kV1 dc1 pm1 cd1 ct1 oc2 kV2 dc2 pm2 cd2 ct2 oc3 kV3 dc3 pm3 cd3 ct3 oc4 kV4 dc4 pm4 cd4 ct4 oc5 kV5 dc5 pm5 cd5 ct5 oc6 kV6 dc6 pm6 cd6 ct6 oc7 kV7 dc7 pm7 cd7 ct7 oc8 kV8 dc8 pm8 cd8 ct8 : Value}
    (a0 : PySem.W.nsIn K mainGlobals "_law_dice" = some (some (.ref f0)))
    (a1 : PySem.W.nsIn K mainGlobals "_law_roll" = some (some (.ref f1)))
    (a2 : PySem.W.nsIn K mainGlobals "_law_rounds" = some (some (.ref f2)))
    (a3 : PySem.W.nsIn K mainGlobals "law" = some (some (.ref f3)))
    (a7 : PySem.W.nsIn K mainGlobals "sent_in" = some (some (.ref f7)))
    (a8 : PySem.W.nsIn K mainGlobals "room_for_all" = some (some (.ref f8)))
    (aC0 : PySem.W.nsIn K mainGlobals "Link" = some (some (.ref C0)))
    (a4 : PySem.W.findIn K (.ref C0) "counted" = some (some (.ref f4)))
    (i4 : PySem.W.isFn K (.ref f4) = true)
    (a5 : PySem.W.findIn K (.ref C0) "turn" = some (some (.ref f5)))
    (i5 : PySem.W.isFn K (.ref f5) = true)
    (a6 : PySem.W.findIn K (.ref C0) "__init__" = some (some (.ref f6)))
    (i6 : PySem.W.isFn K (.ref f6) = true)
    (l0 : K.lookup f0 = some ⟨oc0, od0, .func (PySem.W.fnOf "_law_dice" "_law_dice" (defArgs s0) (defBody s0) (defScope s0) .none kV0 dc0 pm0 an0 cd0 ct0), sl0⟩)
    (c0 : PySem.W.codeIn K cd0 "_law_dice" = true)
    (k0 : PySem.W.keepIn K (.ref f0) = true)
    (l1 : K.lookup f1 = some ⟨oc1, od1, .func (PySem.W.fnOf "_law_roll" "_law_roll" (defArgs s1) (defBody s1) (defScope s1) .none kV1 dc1 pm1 an1 cd1 ct1), sl1⟩)
    (c1 : PySem.W.codeIn K cd1 "_law_roll" = true)
    (k1 : PySem.W.keepIn K (.ref f1) = true)
    (l2 : K.lookup f2 = some ⟨oc2, od2, .func (PySem.W.fnOf "_law_rounds" "_law_rounds" (defArgs s2) (defBody s2) (defScope s2) .none kV2 dc2 pm2 an2 cd2 ct2), sl2⟩)
    (c2 : PySem.W.codeIn K cd2 "_law_rounds" = true)
    (k2 : PySem.W.keepIn K (.ref f2) = true)
    (l3 : K.lookup f3 = some ⟨oc3, od3, .func (PySem.W.fnOf "law" "law" (defArgs s3) (defBody s3) (defScope s3) .none kV3 dc3 pm3 an3 cd3 ct3), sl3⟩)
    (c3 : PySem.W.codeIn K cd3 "law" = true)
    (k3 : PySem.W.keepIn K (.ref f3) = true)
    (l4 : K.lookup f4 = some ⟨oc4, od4, .func (PySem.W.fnOf "counted" "Link.counted" (defArgs s4) (defBody s4) (defScope s4) .none kV4 dc4 pm4 an4 cd4 ct4), sl4⟩)
    (c4 : PySem.W.codeIn K cd4 "Link.counted" = true)
    (k4 : PySem.W.keepIn K (.ref f4) = true)
    (l5 : K.lookup f5 = some ⟨oc5, od5, .func (PySem.W.fnOf "turn" "Link.turn" (defArgs s5) (defBody s5) (defScope s5) .none kV5 dc5 pm5 an5 cd5 ct5), sl5⟩)
    (c5 : PySem.W.codeIn K cd5 "Link.turn" = true)
    (k5 : PySem.W.keepIn K (.ref f5) = true)
    (l6 : K.lookup f6 = some ⟨oc6, od6, .func (PySem.W.fnOf "__init__" "Link.__init__" (defArgs s6) (defBody s6) (defScope s6) .none kV6 dc6 pm6 an6 cd6 ct6), sl6⟩)
    (c6 : PySem.W.codeIn K cd6 "Link.__init__" = true)
    (k6 : PySem.W.keepIn K (.ref f6) = true)
    (l7 : K.lookup f7 = some ⟨oc7, od7, .func (PySem.W.fnOf "sent_in" "sent_in" (defArgs s7) (defBody s7) (defScope s7) .none kV7 dc7 pm7 an7 cd7 ct7), sl7⟩)
    (c7 : PySem.W.codeIn K cd7 "sent_in" = true)
    (k7 : PySem.W.keepIn K (.ref f7) = true)
    (l8 : K.lookup f8 = some ⟨oc8, od8, .func (PySem.W.fnOf "room_for_all" "room_for_all" (defArgs s8) (defBody s8) (defScope s8) .none kV8 dc8 pm8 an8 cd8 ct8), sl8⟩)
    (c8 : PySem.W.codeIn K cd8 "room_for_all" = true)
    (k8 : PySem.W.keepIn K (.ref f8) = true)
    (pg0 : PySem.W.plainGet K C0 Str.empty = true)
    (hd0 : PySem.W.hasDictIn K C0 = true)
    (po0 : PySem.W.plainOver K C0 = true)
    (sa0 : PySem.W.findIn K (.ref C0) "__setattr__" = some (some (.builtin "object.__setattr__")))
    (mk0 : PySem.W.makesIn K C0 = true)
    (kc0 : PySem.W.keepIn K (.ref C0) = true)
    (n0_0 : PySem.W.findIn K (.ref C0) "cells" = some none)
    (n0_1 : PySem.W.findIn K (.ref C0) "marks" = some none)
    (n0_2 : PySem.W.findIn K (.ref C0) "inside" = some none)
    (n0_3 : PySem.W.findIn K (.ref C0) "notes" = some none)
    (n0_4 : PySem.W.findIn K (.ref C0) "slot" = some none)
    (n0_5 : PySem.W.findIn K (.ref C0) "back" = some none)
    (n0_6 : PySem.W.findIn K (.ref C0) "most" = some none)
    (n0_7 : PySem.W.findIn K (.ref C0) "there" = some none)
    (n0_8 : PySem.W.findIn K (.ref C0) "room" = some none)
    (z_abs : PySem.W.nsIn K mainGlobals "abs" = some none)
    (z_int : PySem.W.nsIn K mainGlobals "int" = some none)
    (z_len : PySem.W.nsIn K mainGlobals "len" = some none)
    (z_list : PySem.W.nsIn K mainGlobals "list" = some none)
    (z_max : PySem.W.nsIn K mainGlobals "max" = some none)
    (z_min : PySem.W.nsIn K mainGlobals "min" = some none)
    (z_range : PySem.W.nsIn K mainGlobals "range" = some none)
    (z_tuple : PySem.W.nsIn K mainGlobals "tuple" = some none)
    {n : Nat} (plain : ∀ ns : List Int, (callN pg n 3 [.scr ns] []).All (fun w _ => w = .bl true) (fun _ _ => False)) :
    ∃ fd : FuncData, (∀ (s : Shared) (v : Value), BindsTo s fd ⟨[v], []⟩ [("_law_script", v)]) ∧ ∀ base : Heap, K.In base → base.Ns mainGlobals mg → FnOk l.prog w K mg base (L2.CX l.prog w) (2 * n) fa fd ["_law_script"] (spLaw K) := by
  have e := hfa.symm.trans (PySem.W.mg_of X G a3)
  cases e
  have F0 := fun_mk (st := s0) l0 c0 k0
  have B0 := F0.binds (ps := ["_law_cell"]) fun _ _ _ _ _ _ us hl => match us, hl with | [_], _ => rfl
  have F1 := fun_mk (st := s1) l1 c1 k1
  have B1 := F1.binds (ps := ["_law_dice_here", "_law_many"]) fun _ _ _ _ _ _ us hl => match us, hl with | [_, _], _ => rfl
  have F2 := fun_mk (st := s2) l2 c2 k2
  have B2 := F2.binds (ps := ["_law_script", "_law_most"]) fun _ _ _ _ _ _ us hl => match us, hl with | [_, _], _ => rfl
  have F3 := fun_mk (st := s3) l3 c3 k3
  have B3 := F3.binds (ps := ["_law_script"]) fun _ _ _ _ _ _ us hl => match us, hl with | [_], _ => rfl
  have F4 := fun_mk (st := s4) l4 c4 k4
  have B4 := F4.binds (ps := ["self"]) fun _ _ _ _ _ _ us hl => match us, hl with | [_], _ => rfl
  have F5 := fun_mk (st := s5) l5 c5 k5
  have B5 := F5.binds (ps := ["self", "cells", "drains"]) fun _ _ _ _ _ _ us hl => match us, hl with | [_, _, _], _ => rfl
  have F6 := fun_mk (st := s6) l6 c6 k6
  have B6 := F6.binds (ps := ["self", "room", "there", "back"]) fun _ _ _ _ _ _ us hl => match us, hl with | [_, _, _, _], _ => rfl
  have F7 := fun_mk (st := s7) l7 c7 k7
  have B7 := F7.binds (ps := ["room", "there", "back", "slots"]) fun _ _ _ _ _ _ us hl => match us, hl with | [_, _, _, _], _ => rfl
  have F8 := fun_mk (st := s8) l8 c8 k8
  have B8 := F8.binds (ps := ["there", "back"]) fun _ _ _ _ _ _ us hl => match us, hl with | [_, _], _ => rfl
  let fA : Nat → Addr := fun n => match n with | 0 => f0 | 1 => f1 | 2 => f2 | 3 => fa | 4 => f4 | 5 => f5 | 6 => f6 | 7 => f7 | 8 => f8 | _ => f0
  let cA : Nat → Addr := fun n => match n with | 0 => C0 | _ => f0
  let fD : Nat → FuncData := fun n => match n with
    | 0 => PySem.W.fnOf "_law_dice" "_law_dice" (defArgs s0) (defBody s0) (defScope s0) .none kV0 dc0 pm0 an0 cd0 ct0
    | 1 => PySem.W.fnOf "_law_roll" "_law_roll" (defArgs s1) (defBody s1) (defScope s1) .none kV1 dc1 pm1 an1 cd1 ct1
    | 2 => PySem.W.fnOf "_law_rounds" "_law_rounds" (defArgs s2) (defBody s2) (defScope s2) .none kV2 dc2 pm2 an2 cd2 ct2
    | 3 => PySem.W.fnOf "law" "law" (defArgs s3) (defBody s3) (defScope s3) .none kV3 dc3 pm3 an3 cd3 ct3
    | 4 => PySem.W.fnOf "counted" "Link.counted" (defArgs s4) (defBody s4) (defScope s4) .none kV4 dc4 pm4 an4 cd4 ct4
    | 5 => PySem.W.fnOf "turn" "Link.turn" (defArgs s5) (defBody s5) (defScope s5) .none kV5 dc5 pm5 an5 cd5 ct5
    | 6 => PySem.W.fnOf "__init__" "Link.__init__" (defArgs s6) (defBody s6) (defScope s6) .none kV6 dc6 pm6 an6 cd6 ct6
    | 7 => PySem.W.fnOf "sent_in" "sent_in" (defArgs s7) (defBody s7) (defScope s7) .none kV7 dc7 pm7 an7 cd7 ct7
    | 8 => PySem.W.fnOf "room_for_all" "room_for_all" (defArgs s8) (defBody s8) (defScope s8) .none kV8 dc8 pm8 an8 cd8 ct8
    | _ => PySem.W.fnOf "_law_dice" "_law_dice" (defArgs s0) (defBody s0) (defScope s0) .none kV0 dc0 pm0 an0 cd0 ct0
  have gf : Gf mg tb (inf K cA) pg 0 fA fD := by
    refine ⟨rfl, (by decide +kernel : tb.fl.Nodup), fun c hc => ?cls, fun n hn => ?blt, fun f hf => ?no, fun f i hf => ?tx, ⟨by decide, by decide, rfl⟩, by decide, fun f i hf => ?bd, fun f i hf hg => ?gl, fun c x hc => ?cl, fun c m f hc hm => ?mt⟩
    case cls =>
      match c, hc with
      | 0, _ => exact ⟨⟨pg0, hd0, po0, sa0⟩, fun n hn => by
          simp only [inf, tb, List.mem_cons, List.not_mem_nil, or_false] at hn
          rcases hn with rfl | rfl | rfl | rfl | rfl | rfl | rfl | rfl | rfl
          · exact n0_0
          · exact n0_1
          · exact n0_2
          · exact n0_3
          · exact n0_4
          · exact n0_5
          · exact n0_6
          · exact n0_7
          · exact n0_8
          ⟩
      | n + 1, hc => exact absurd hc (by simp [inf])
    case blt =>
      simp only [tb, List.mem_cons, List.not_mem_nil, or_false] at hn
      rcases hn with rfl | rfl | rfl | rfl | rfl | rfl | rfl | rfl
      · exact PySem.W.mg_none_of X G z_abs
      · exact PySem.W.mg_none_of X G z_int
      · exact PySem.W.mg_none_of X G z_len
      · exact PySem.W.mg_none_of X G z_list
      · exact PySem.W.mg_none_of X G z_max
      · exact PySem.W.mg_none_of X G z_min
      · exact PySem.W.mg_none_of X G z_range
      · exact PySem.W.mg_none_of X G z_tuple
    case no =>
      match f, hf with
      | 0, hf => cases hf
      | 1, hf => cases hf
      | 2, hf => cases hf
      | 3, hf => cases hf
      | 4, hf => cases hf
      | 5, hf => cases hf
      | 6, hf => cases hf
      | 7, hf => cases hf
      | 8, hf => cases hf
      | n + 9, _ => exact ⟨by show ¬ n + 9 = 1; omega, by show ¬ n + 9 = 2; omega, rfl⟩
    case tx =>
      match f, hf with
      | 0, hf => cases hf; exact ⟨"_law_dice", "_law_dice", s0, N0, b0, F0, sc0, ck0, by rw [if_neg (by decide), if_neg (by decide)]; rfl⟩
      | 1, hf => cases hf; exact ⟨"_law_roll", "_law_roll", s1, N1, b1, F1, sc1, ck1, by rw [if_pos (show (1 : Nat) = pg.roll from rfl)]; exact ⟨rfl, rfl, rfl⟩⟩
      | 2, hf => cases hf; exact ⟨"_law_rounds", "_law_rounds", s2, N2, b2, F2, sc2, ck2, by rw [if_neg (by decide), if_pos (show (2 : Nat) = pg.rnds from rfl)]; exact ⟨rfl, rfl, rfl⟩⟩
      | 3, hf => cases hf; exact ⟨"law", "law", s3, N3, b3, F3, sc3, ck3, by rw [if_neg (by decide), if_neg (by decide)]; rfl⟩
      | 4, hf => cases hf; exact ⟨"counted", "Link.counted", s4, N4, b4, F4, sc4, ck4, by rw [if_neg (by decide), if_neg (by decide)]; rfl⟩
      | 5, hf => cases hf; exact ⟨"turn", "Link.turn", s5, N5, b5, F5, sc5, ck5, by rw [if_neg (by decide), if_neg (by decide)]; rfl⟩
      | 6, hf => cases hf; exact ⟨"__init__", "Link.__init__", s6, N6, b6, F6, sc6, ck6, by rw [if_neg (by decide), if_neg (by decide)]; rfl⟩
      | 7, hf => cases hf; exact ⟨"sent_in", "sent_in", s7, N7, b7, F7, sc7, ck7, by rw [if_neg (by decide), if_neg (by decide)]; rfl⟩
      | 8, hf => cases hf; exact ⟨"room_for_all", "room_for_all", s8, N8, b8, F8, sc8, ck8, by rw [if_neg (by decide), if_neg (by decide)]; rfl⟩
      | n + 9, hf => cases hf
    case bd =>
      match f, hf with
      | 0, hf => cases hf; exact B0
      | 1, hf => cases hf; exact B1
      | 2, hf => cases hf; exact B2
      | 3, hf => cases hf; exact B3
      | 4, hf => cases hf; exact B4
      | 5, hf => cases hf; exact B5
      | 6, hf => cases hf; exact B6
      | 7, hf => cases hf; exact B7
      | 8, hf => cases hf; exact B8
      | n + 9, hf => cases hf
    case gl =>
      match f, hf with
      | 0, hf => cases hf; exact PySem.W.mg_of X G a0
      | 1, hf => cases hf; exact PySem.W.mg_of X G a1
      | 2, hf => cases hf; exact PySem.W.mg_of X G a2
      | 3, hf => cases hf; exact PySem.W.mg_of X G a3
      | 4, hf => cases hf; cases hg
      | 5, hf => cases hf; cases hg
      | 6, hf => cases hf; cases hg
      | 7, hf => cases hf; exact PySem.W.mg_of X G a7
      | 8, hf => cases hf; exact PySem.W.mg_of X G a8
      | n + 9, hf => cases hf
    case cl =>
      match c, hc with
      | 0, hc => cases hc; exact ⟨PySem.W.mg_of X G aC0, rfl, ⟨mk0, a6, i6, kc0⟩, _, rfl⟩
      | n + 1, hc => cases hc
    case mt =>
      match c, m, hm with
      | 0, 0, hm => cases hm; exact ⟨⟨a4, i4, k4⟩, _, rfl⟩
      | 0, 1, hm => cases hm; exact ⟨⟨a5, i5, k5⟩, _, rfl⟩
      | 0, m + 2, hm => cases hm
      | c + 1, m, hm => cases hm
  exact ⟨_, fun s v => .of_eq rfl, fun base _ _ => law_end (w := w) gf (n := n) (fL := 3) rfl rfl plain⟩
end K40

namespace K40
open PySem Z
structure LS where
  room : Int
  there : Int
  back : Int
  marks : Int
  cells : List (Int × Int)
  notes : List Int
  inside : List Int
  slot : Int
  most : Int
def encP (x : Int × Int) : W := .tup [.int x.1, .int x.2]
def fs (s : LS) (c n i : Nat) : List (Nat × W) := [(8, .int s.room), (7, .int s.there), (5, .int s.back), (1, .int s.marks), (0, .ref c), (3, .ref n), (2, .ref i), (4, .int s.slot), (6, .int s.most)]
def lk (s : LS) (p c n i : Nat) : List (Nat × EO) := [(p, .ins 0 (fs s c n i)), (c, .lst (s.cells.map encP)), (n, .lst (s.notes.map .int)), (i, .lst (s.inside.map .int))]
section
variable {C : CallH} {M : MTab} {ini : Nat → Nat} {h : EH} {s : LS} {p c n i : Nat} {R : List (Nat × EO)} {cs : W} {d : Int} {a3 a4 a5 a6 a7 : Option W}
abbrev en (p : Nat) (cs : W) (d : Int) (a3 a4 a5 a6 a7 : Option W) : Z.Env := [some (.ref p), some cs, some (.int d), a3, a4, a5, a6, a7]
abbrev st1 : S := .augF (.var 0) 1 .add (.len (.comp (.int 1) (.name 3) (.seqR (.fld (.var 0) 3)) (.some (.eqI false (.var 3) (.fld (.var 0) 4))) [3]))
theorem t1 (q : Sep h (lk s p c n i ++ R)) : ∃ h', ex C M ini st1 (en p cs d a3 a4 a5 a6 a7) h = .ok (.nx, en p cs d a3 a4 a5 a6 a7) h' ∧
    Sep h' (lk { s with marks := s.marks + ((s.notes.filter fun k => k = s.slot).length : Nat) } p c n i ++ R) := by
  have hp := q.at (i := 0) rfl
  have hn := q.at (i := 2) rfl
  have q1 := q.set (i := 2) (o' := .lstL (s.notes.map .int)) rfl
  have hp1 := q1.at (i := 0) rfl
  have e := comp_f (C := C) (M := M) (ini := ini) (σ := en p cs d a3 a4 a5 a6 a7) (a := .int 1) (g := .name 3) (c := .some (.eqI false (.var 3) (.fld (.var 0) 4))) (own := [3]) W.int (fun k => decide (k = s.slot)) (fun _ => .int 1) (evI_fld (p := p) (f := 3) rfl hp rfl hn) (fun k _ => by
    by_cases hk : k = s.slot <;> simp [bodyC, store, wipeE, ex, ev.eq_1, ev.eq_2, ev.eq_3, ev.eq_4, ev.eq_5, ev.eq_6, ev.eq_7, ev.eq_8, ev.eq_9, ev.eq_10, ev.eq_11, ev.eq_12, ev.eq_13, ev.eq_14, ev.eq_15, ev.eq_16, ev.eq_17, ev.eq_18, ev.eq_19, ev.eq_20, ev.eq_21, ev.eq_22, ev.eq_23, ev.eq_24, ev.eq_25, ev.eq_26, ev.eq_27, ev.eq_28, ev.eq_29, ev.eq_30, ev.eq_31, ev.eq_32, ev.eq_33, ev.eq_34, ev.eq_35, ev.eq_36, ev.eq_37, ev.eq_38, ev.eq_39, ev.eq_40, T.bind, insOf, look, ofO, seqOf, lsqOf, opW, cmW, cmI, eqS, boolK, sameC, setFld, putf, nxH, evs, evo, evc, evOr, evAnd, hp1, fs, hk])
  rw [unl_id hn] at e
  refine ⟨_, ?_, q.set (i := 0) (o' := .ins 0 (fs { s with marks := s.marks + ((s.notes.filter fun k => k = s.slot).length : Nat) } c n i)) rfl⟩
  simp [ex, ev.eq_1, ev.eq_2, ev.eq_3, ev.eq_4, ev.eq_5, ev.eq_6, ev.eq_7, ev.eq_8, ev.eq_9, ev.eq_10, ev.eq_11, ev.eq_12, ev.eq_13, ev.eq_14, ev.eq_15, ev.eq_16, ev.eq_17, ev.eq_18, ev.eq_19, ev.eq_20, ev.eq_21, ev.eq_22, ev.eq_23, ev.eq_24, ev.eq_25, ev.eq_26, ev.eq_27, ev.eq_28, ev.eq_29, ev.eq_30, ev.eq_31, ev.eq_32, ev.eq_33, ev.eq_34, ev.eq_35, ev.eq_36, ev.eq_37, ev.eq_38, ev.eq_39, ev.eq_40, T.bind, insOf, look, ofO, seqOf, lsqOf, opW, cmW, cmI, eqS, boolK, sameC, setFld, putf, nxH, evs, evo, evc, evOr, evAnd, e, hp, fs]
abbrev st2 : S := .set (.fld (.var 0) 3) (.compM (.var 3) (.name 3) (.seqR (.fld (.var 0) 3)) (.some (.eqI true (.var 3) (.fld (.var 0) 4))) [3])
theorem t2 (q : Sep h (lk s p c n i ++ R)) (hl : s.notes.length ≤ LIM) : ∃ h' n', ex C M ini st2 (en p cs d a3 a4 a5 a6 a7) h = .ok (.nx, en p cs d a3 a4 a5 a6 a7) h' ∧
    Sep h' (lk { s with notes := s.notes.filter fun k => !decide (k = s.slot) } p c n' i ++ R) := by
  have hp := q.at (i := 0) rfl
  have hn := q.at (i := 2) rfl
  have q1 := q.set (i := 2) (o' := .lstL (s.notes.map .int)) rfl
  have e := compM_f (C := C) (M := M) (ini := ini) (σ := en p cs d a3 a4 a5 a6 a7) (a := .var 3) (g := .name 3) (c := .some (.eqI true (.var 3) (.fld (.var 0) 4))) (own := [3]) W.int (fun k => !decide (k = s.slot)) W.int (evI_fld (p := p) (f := 3) rfl hp rfl hn) hl (fun k _ ys => by
    have hp1 := (q1.new (.lst ys)).at (i := 1) rfl
    by_cases hk : k = s.slot <;> simp [bodyC, store, wipeE, ex, ev.eq_1, ev.eq_2, ev.eq_3, ev.eq_4, ev.eq_5, ev.eq_6, ev.eq_7, ev.eq_8, ev.eq_9, ev.eq_10, ev.eq_11, ev.eq_12, ev.eq_13, ev.eq_14, ev.eq_15, ev.eq_16, ev.eq_17, ev.eq_18, ev.eq_19, ev.eq_20, ev.eq_21, ev.eq_22, ev.eq_23, ev.eq_24, ev.eq_25, ev.eq_26, ev.eq_27, ev.eq_28, ev.eq_29, ev.eq_30, ev.eq_31, ev.eq_32, ev.eq_33, ev.eq_34, ev.eq_35, ev.eq_36, ev.eq_37, ev.eq_38, ev.eq_39, ev.eq_40, T.bind, insOf, look, ofO, seqOf, lsqOf, opW, cmW, cmI, eqS, boolK, sameC, setFld, putf, nxH, evs, evo, evc, evOr, evAnd, hp1, fs, hk])
  rw [unl_app hn] at e
  have q2 := q.swapNew 2 (.lst ((s.notes.filter fun k => !decide (k = s.slot)).map .int))
  have hp2 := q2.at (i := 0) rfl
  refine ⟨_, h.length, ?_, q2.set (i := 0) (o' := .ins 0 (fs { s with notes := s.notes.filter fun k => !decide (k = s.slot) } c h.length i)) rfl⟩
  simp [ex, ev.eq_1, ev.eq_2, ev.eq_3, ev.eq_4, ev.eq_5, ev.eq_6, ev.eq_7, ev.eq_8, ev.eq_9, ev.eq_10, ev.eq_11, ev.eq_12, ev.eq_13, ev.eq_14, ev.eq_15, ev.eq_16, ev.eq_17, ev.eq_18, ev.eq_19, ev.eq_20, ev.eq_21, ev.eq_22, ev.eq_23, ev.eq_24, ev.eq_25, ev.eq_26, ev.eq_27, ev.eq_28, ev.eq_29, ev.eq_30, ev.eq_31, ev.eq_32, ev.eq_33, ev.eq_34, ev.eq_35, ev.eq_36, ev.eq_37, ev.eq_38, ev.eq_39, ev.eq_40, T.bind, insOf, look, ofO, seqOf, lsqOf, opW, cmW, cmI, eqS, boolK, sameC, setFld, putf, nxH, evs, evo, evc, evOr, evAnd, e, hp2, fs, List.length_set]
abbrev st3 : S := .extF (.var 0) 2 (.comp (.var 4) (.tup [4, 3]) (.seqR (.fld (.var 0) 0)) (.some (.eqI false (.var 3) (.fld (.var 0) 4))) [4, 3])
theorem t3 (q : Sep h (lk s p c n i ++ R)) (hl : s.inside.length + s.cells.length ≤ LIM) : ∃ h', ex C M ini st3 (en p cs d a3 a4 a5 a6 a7) h = .ok (.nx, en p cs d a3 a4 a5 a6 a7) h' ∧
    Sep h' (lk { s with inside := s.inside ++ (s.cells.filter fun x => x.2 = s.slot).map (·.1) } p c n i ++ R) := by
  have hp := q.at (i := 0) rfl
  have hc := q.at (i := 1) rfl
  have hi := q.at (i := 3) rfl
  have q1 := q.set (i := 1) (o' := .lstL (s.cells.map encP)) rfl
  have hp1 := q1.at (i := 0) rfl
  have e := comp_f (C := C) (M := M) (ini := ini) (σ := en p cs d a3 a4 a5 a6 a7) (a := .var 4) (g := .tup [4, 3]) (c := .some (.eqI false (.var 3) (.fld (.var 0) 4))) (own := [4, 3]) encP (fun x => decide (x.2 = s.slot)) (fun x => .int x.1) (evI_fld (p := p) (f := 0) rfl hp rfl hc) (fun x _ => by
    obtain ⟨x, k⟩ := x
    by_cases hk : k = s.slot <;> simp [bodyC, store, setAll, encP, wipeE, ex, ev.eq_1, ev.eq_2, ev.eq_3, ev.eq_4, ev.eq_5, ev.eq_6, ev.eq_7, ev.eq_8, ev.eq_9, ev.eq_10, ev.eq_11, ev.eq_12, ev.eq_13, ev.eq_14, ev.eq_15, ev.eq_16, ev.eq_17, ev.eq_18, ev.eq_19, ev.eq_20, ev.eq_21, ev.eq_22, ev.eq_23, ev.eq_24, ev.eq_25, ev.eq_26, ev.eq_27, ev.eq_28, ev.eq_29, ev.eq_30, ev.eq_31, ev.eq_32, ev.eq_33, ev.eq_34, ev.eq_35, ev.eq_36, ev.eq_37, ev.eq_38, ev.eq_39, ev.eq_40, T.bind, insOf, look, ofO, seqOf, lsqOf, opW, cmW, cmI, eqS, boolK, sameC, setFld, putf, nxH, evs, evo, evc, evOr, evAnd, hp1, fs, hk])
  rw [unl_id hc] at e
  have hlen : s.inside.length + (s.cells.filter fun x => decide (x.2 = s.slot)).length ≤ LIM := by
    have := List.length_filter_le (fun x : Int × Int => decide (x.2 = s.slot)) s.cells
    omega
  have q2 := q.set (i := 3) (o' := .lst ((s.inside ++ (s.cells.filter fun x => decide (x.2 = s.slot)).map (·.1)).map .int)) rfl
  have hp2 := q2.at (i := 0) rfl
  refine ⟨_, ?_, q2.set (i := 0) (o' := .ins 0 (fs { s with inside := s.inside ++ (s.cells.filter fun x => x.2 = s.slot).map (·.1) } c n i)) rfl⟩
  simp only [List.map_append, List.map_map] at hp2
  have hoff := fun o => q.off (i := 3) (j := 0) (o := o) rfl rfl (by decide)
  simp only at hoff
  simp [ex, ev.eq_1, ev.eq_2, ev.eq_3, ev.eq_4, ev.eq_5, ev.eq_6, ev.eq_7, ev.eq_8, ev.eq_9, ev.eq_10, ev.eq_11, ev.eq_12, ev.eq_13, ev.eq_14, ev.eq_15, ev.eq_16, ev.eq_17, ev.eq_18, ev.eq_19, ev.eq_20, ev.eq_21, ev.eq_22, ev.eq_23, ev.eq_24, ev.eq_25, ev.eq_26, ev.eq_27, ev.eq_28, ev.eq_29, ev.eq_30, ev.eq_31, ev.eq_32, ev.eq_33, ev.eq_34, ev.eq_35, ev.eq_36, ev.eq_37, ev.eq_38, ev.eq_39, ev.eq_40, T.bind, insOf, look, ofO, seqOf, lsqOf, opW, cmW, cmI, eqS, boolK, sameC, setFld, putf, nxH, evs, evo, evc, evOr, evAnd, e, hp, hi, fs, hlen, hoff]
  rfl
abbrev st4 : S := .set (.fld (.var 0) 0) (.compM (.var 5) (.name 5) (.seqR (.fld (.var 0) 0)) (.some (.eqI true (.ix (.var 5) (.int 1)) (.fld (.var 0) 4))) [5])
theorem t4 (q : Sep h (lk s p c n i ++ R)) (hl : s.cells.length ≤ LIM) : ∃ h' c', ex C M ini st4 (en p cs d a3 a4 a5 a6 a7) h = .ok (.nx, en p cs d a3 a4 a5 a6 a7) h' ∧
    Sep h' (lk { s with cells := s.cells.filter fun x => !decide (x.2 = s.slot) } p c' n i ++ R) := by
  have hp := q.at (i := 0) rfl
  have hc := q.at (i := 1) rfl
  have q1 := q.set (i := 1) (o' := .lstL (s.cells.map encP)) rfl
  have e := compM_f (C := C) (M := M) (ini := ini) (σ := en p cs d a3 a4 a5 a6 a7) (a := .var 5) (g := .name 5) (c := .some (.eqI true (.ix (.var 5) (.int 1)) (.fld (.var 0) 4))) (own := [5]) encP (fun x => !decide (x.2 = s.slot)) encP (evI_fld (p := p) (f := 0) rfl hp rfl hc) hl (fun x _ ys => by
    have hp1 := (q1.new (.lst ys)).at (i := 1) rfl
    obtain ⟨x, k⟩ := x
    by_cases hk : k = s.slot <;> simp [bodyC, store, encP, ixW, ixN, wipeE, ex, ev.eq_1, ev.eq_2, ev.eq_3, ev.eq_4, ev.eq_5, ev.eq_6, ev.eq_7, ev.eq_8, ev.eq_9, ev.eq_10, ev.eq_11, ev.eq_12, ev.eq_13, ev.eq_14, ev.eq_15, ev.eq_16, ev.eq_17, ev.eq_18, ev.eq_19, ev.eq_20, ev.eq_21, ev.eq_22, ev.eq_23, ev.eq_24, ev.eq_25, ev.eq_26, ev.eq_27, ev.eq_28, ev.eq_29, ev.eq_30, ev.eq_31, ev.eq_32, ev.eq_33, ev.eq_34, ev.eq_35, ev.eq_36, ev.eq_37, ev.eq_38, ev.eq_39, ev.eq_40, T.bind, insOf, look, ofO, seqOf, lsqOf, opW, cmW, cmI, eqS, boolK, sameC, setFld, putf, nxH, evs, evo, evc, evOr, evAnd, hp1, fs, hk])
  rw [unl_app hc] at e
  have q2 := q.swapNew 1 (.lst ((s.cells.filter fun x => !decide (x.2 = s.slot)).map encP))
  have hp2 := q2.at (i := 0) rfl
  refine ⟨_, h.length, ?_, q2.set (i := 0) (o' := .ins 0 (fs { s with cells := s.cells.filter fun x => !decide (x.2 = s.slot) } h.length n i)) rfl⟩
  simp [ex, ev.eq_1, ev.eq_2, ev.eq_3, ev.eq_4, ev.eq_5, ev.eq_6, ev.eq_7, ev.eq_8, ev.eq_9, ev.eq_10, ev.eq_11, ev.eq_12, ev.eq_13, ev.eq_14, ev.eq_15, ev.eq_16, ev.eq_17, ev.eq_18, ev.eq_19, ev.eq_20, ev.eq_21, ev.eq_22, ev.eq_23, ev.eq_24, ev.eq_25, ev.eq_26, ev.eq_27, ev.eq_28, ev.eq_29, ev.eq_30, ev.eq_31, ev.eq_32, ev.eq_33, ev.eq_34, ev.eq_35, ev.eq_36, ev.eq_37, ev.eq_38, ev.eq_39, ev.eq_40, T.bind, insOf, look, ofO, seqOf, lsqOf, opW, cmW, cmI, eqS, boolK, sameC, setFld, putf, nxH, evs, evo, evc, evOr, evAnd, e, hp2, fs, List.length_set]
variable {cl : List Int}
abbrev st5 : S := .set (.name 6) (.toLst false (.slT (.var 1) .none (.some (.fld (.var 0) 1))))
theorem t5 (q : Sep h (lk s p c n i ++ R)) (hm : 0 ≤ s.marks) : ex C M ini st5 (en p (.tup (cl.map .int)) d a3 a4 a5 a6 a7) h = .ok (.nx, en p (.tup (cl.map .int)) d a3 a4 a5 (some (.lst ((cl.take s.marks.toNat).map .int))) a7) h := by
  have hp := q.at (i := 0) rfl
  simp [ex, ev.eq_1, ev.eq_2, ev.eq_3, ev.eq_4, ev.eq_5, ev.eq_6, ev.eq_7, ev.eq_8, ev.eq_9, ev.eq_10, ev.eq_11, ev.eq_12, ev.eq_13, ev.eq_14, ev.eq_15, ev.eq_16, ev.eq_17, ev.eq_18, ev.eq_19, ev.eq_20, ev.eq_21, ev.eq_22, ev.eq_23, ev.eq_24, ev.eq_25, ev.eq_26, ev.eq_27, ev.eq_28, ev.eq_29, ev.eq_30, ev.eq_31, ev.eq_32, ev.eq_33, ev.eq_34, ev.eq_35, ev.eq_36, ev.eq_37, ev.eq_38, ev.eq_39, ev.eq_40, T.bind, insOf, look, ofO, seqOf, lsqOf, opW, cmW, cmI, eqS, boolK, sameC, setFld, putf, nxH, evs, evo, evc, evOr, evAnd, hp, fs, cut_hi hm, newL]
abbrev st6 : S := .augF (.var 0) 1 .sub (.len (.var 6))
theorem t6 {sl : List Int} (q : Sep h (lk s p c n i ++ R)) : ∃ h', ex C M ini st6 (en p cs d a3 a4 a5 (some (.lst (sl.map .int))) a7) h = .ok (.nx, en p cs d a3 a4 a5 (some (.lst (sl.map .int))) a7) h' ∧
    Sep h' (lk { s with marks := s.marks - sl.length } p c n i ++ R) := by
  have hp := q.at (i := 0) rfl
  refine ⟨_, ?_, q.set (i := 0) (o' := .ins 0 (fs { s with marks := s.marks - sl.length } c n i)) rfl⟩
  simp [ex, ev.eq_1, ev.eq_2, ev.eq_3, ev.eq_4, ev.eq_5, ev.eq_6, ev.eq_7, ev.eq_8, ev.eq_9, ev.eq_10, ev.eq_11, ev.eq_12, ev.eq_13, ev.eq_14, ev.eq_15, ev.eq_16, ev.eq_17, ev.eq_18, ev.eq_19, ev.eq_20, ev.eq_21, ev.eq_22, ev.eq_23, ev.eq_24, ev.eq_25, ev.eq_26, ev.eq_27, ev.eq_28, ev.eq_29, ev.eq_30, ev.eq_31, ev.eq_32, ev.eq_33, ev.eq_34, ev.eq_35, ev.eq_36, ev.eq_37, ev.eq_38, ev.eq_39, ev.eq_40, T.bind, insOf, look, ofO, seqOf, lsqOf, opW, cmW, cmI, eqS, boolK, sameC, setFld, putf, nxH, evs, evo, evc, evOr, evAnd, hp, fs]
abbrev st7 : S := .loop (.name 4) (.seq (.var 6)) (.cons (.ite (.eqI false (.fld (.var 0) 7) (.int 0)) (.cons (.append (.fld (.var 0) 2) (.var 4)) .nil) (.cons (.append (.fld (.var 0) 0) (.tup (.cons (.var 4) (.cons (.bin .add (.fld (.var 0) 4) (.fld (.var 0) 7)) .nil)))) .nil)) .nil)
def sentM (s : LS) (l : List Int) : LS := if s.there = 0 then { s with inside := s.inside ++ l } else { s with cells := s.cells ++ l.map fun x => (x, s.slot + s.there) }
theorem t7 {sl : List Int} (q : Sep h (lk s p c n i ++ R)) (hl : s.inside.length + sl.length ≤ LIM ∧ s.cells.length + sl.length ≤ LIM) : ∃ h' a4', ex C M ini st7 (en p cs d a3 a4 a5 (some (.lst (sl.map .int))) a7) h = .ok (.nx, en p cs d a3 a4' a5 (some (.lst (sl.map .int))) a7) h' ∧
    Sep h' (lk (sentM s sl) p c n i ++ R) := by
  obtain ⟨σ', h', e, b4, rfl, q'⟩ := loop_ok (C := C) (M := M) (ini := ini) (g := .name 4) (it := .seq (.var 6)) (b := .cons (.ite (.eqI false (.fld (.var 0) 7) (.int 0)) (.cons (.append (.fld (.var 0) 2) (.var 4)) .nil) (.cons (.append (.fld (.var 0) 0) (.tup (.cons (.var 4) (.cons (.bin .add (.fld (.var 0) 4) (.fld (.var 0) 7)) .nil)))) .nil)) .nil)
    (xs := sl.map W.int) (σ := en p cs d a3 a4 a5 (some (.lst (sl.map .int))) a7) (h := h)
    (fun k σ h => ∃ b4, σ = en p cs d a3 b4 a5 (some (.lst (sl.map .int))) a7 ∧ Sep h (lk (sentM s (sl.take k)) p c n i ++ R)) (by simp [evI, ev.eq_1, ev.eq_2, ev.eq_3, ev.eq_4, ev.eq_5, ev.eq_6, ev.eq_7, ev.eq_8, ev.eq_9, ev.eq_10, ev.eq_11, ev.eq_12, ev.eq_13, ev.eq_14, ev.eq_15, ev.eq_16, ev.eq_17, ev.eq_18, ev.eq_19, ev.eq_20, ev.eq_21, ev.eq_22, ev.eq_23, ev.eq_24, ev.eq_25, ev.eq_26, ev.eq_27, ev.eq_28, ev.eq_29, ev.eq_30, ev.eq_31, ev.eq_32, ev.eq_33, ev.eq_34, ev.eq_35, ev.eq_36, ev.eq_37, ev.eq_38, ev.eq_39, ev.eq_40, T.bind])
    ⟨a4, rfl, by unfold sentM; split <;> simpa using q⟩ (by
      rintro k x σ h hx ⟨b4, rfl, q⟩
      rw [List.getElem?_map] at hx
      cases hk : sl[k]? with
      | none => rw [hk] at hx; cases hx
      | some v =>
        rw [hk] at hx
        cases hx
        have hkl : k < sl.length := (List.getElem?_eq_some_iff.mp hk).1
        have ht : sl.take (k + 1) = sl.take k ++ [v] := by rw [List.take_add_one, hk]; rfl
        unfold sentM at q ⊢
        by_cases h0 : s.there = 0
        · rw [if_pos h0] at q ⊢
          have hp := q.at (i := 0) rfl
          have hi := q.at (i := 3) rfl
          have hlen : (s.inside ++ sl.take k).length < LIM := by simp; omega
          refine ⟨_, _, _, rfl, ?_, some (.int v), rfl, q.set (i := 3) (o' := .lst ((s.inside ++ sl.take (k + 1)).map .int)) rfl⟩
          simp at hlen
          simp [exs, isLW, appW, ex, ev.eq_1, ev.eq_2, ev.eq_3, ev.eq_4, ev.eq_5, ev.eq_6, ev.eq_7, ev.eq_8, ev.eq_9, ev.eq_10, ev.eq_11, ev.eq_12, ev.eq_13, ev.eq_14, ev.eq_15, ev.eq_16, ev.eq_17, ev.eq_18, ev.eq_19, ev.eq_20, ev.eq_21, ev.eq_22, ev.eq_23, ev.eq_24, ev.eq_25, ev.eq_26, ev.eq_27, ev.eq_28, ev.eq_29, ev.eq_30, ev.eq_31, ev.eq_32, ev.eq_33, ev.eq_34, ev.eq_35, ev.eq_36, ev.eq_37, ev.eq_38, ev.eq_39, ev.eq_40, T.bind, insOf, look, ofO, seqOf, lsqOf, opW, cmW, cmI, eqS, boolK, sameC, setFld, putf, nxH, evs, evo, evc, evOr, evAnd, hp, hi, fs, h0, hlen, ht]
        · rw [if_neg h0] at q ⊢
          have hp := q.at (i := 0) rfl
          have hc := q.at (i := 1) rfl
          have hlen : (s.cells ++ (sl.take k).map fun x => (x, s.slot + s.there)).length < LIM := by simp; omega
          refine ⟨_, _, _, rfl, ?_, some (.int v), rfl, q.set (i := 1) (o' := .lst ((s.cells ++ (sl.take (k + 1)).map fun x => (x, s.slot + s.there)).map encP)) rfl⟩
          simp at hlen
          simp [exs, isLW, appW, ex, ev.eq_1, ev.eq_2, ev.eq_3, ev.eq_4, ev.eq_5, ev.eq_6, ev.eq_7, ev.eq_8, ev.eq_9, ev.eq_10, ev.eq_11, ev.eq_12, ev.eq_13, ev.eq_14, ev.eq_15, ev.eq_16, ev.eq_17, ev.eq_18, ev.eq_19, ev.eq_20, ev.eq_21, ev.eq_22, ev.eq_23, ev.eq_24, ev.eq_25, ev.eq_26, ev.eq_27, ev.eq_28, ev.eq_29, ev.eq_30, ev.eq_31, ev.eq_32, ev.eq_33, ev.eq_34, ev.eq_35, ev.eq_36, ev.eq_37, ev.eq_38, ev.eq_39, ev.eq_40, T.bind, insOf, look, ofO, seqOf, lsqOf, opW, cmW, cmI, eqS, boolK, sameC, setFld, putf, nxH, evs, evo, evc, evOr, evAnd, hp, hc, fs, h0, hlen, ht, encP])
  rw [List.length_map, List.take_length] at q'
  exact ⟨h', b4, e, q'⟩
abbrev st8 : S := .set (.fld (.var 0) 6) (.max2 (.fld (.var 0) 6) (.len (.fld (.var 0) 2)))
theorem t8 (q : Sep h (lk s p c n i ++ R)) : ∃ h', ex C M ini st8 (en p cs d a3 a4 a5 a6 a7) h = .ok (.nx, en p cs d a3 a4 a5 a6 a7) h' ∧
    Sep h' (lk { s with most := if (s.inside.length : Int) > s.most then s.inside.length else s.most } p c n i ++ R) := by
  have hp := q.at (i := 0) rfl
  have hi := q.at (i := 3) rfl
  refine ⟨_, ?_, q.set (i := 0) (o' := .ins 0 (fs { s with most := if (s.inside.length : Int) > s.most then s.inside.length else s.most } c n i)) rfl⟩
  simp [ex, ev.eq_1, ev.eq_2, ev.eq_3, ev.eq_4, ev.eq_5, ev.eq_6, ev.eq_7, ev.eq_8, ev.eq_9, ev.eq_10, ev.eq_11, ev.eq_12, ev.eq_13, ev.eq_14, ev.eq_15, ev.eq_16, ev.eq_17, ev.eq_18, ev.eq_19, ev.eq_20, ev.eq_21, ev.eq_22, ev.eq_23, ev.eq_24, ev.eq_25, ev.eq_26, ev.eq_27, ev.eq_28, ev.eq_29, ev.eq_30, ev.eq_31, ev.eq_32, ev.eq_33, ev.eq_34, ev.eq_35, ev.eq_36, ev.eq_37, ev.eq_38, ev.eq_39, ev.eq_40, T.bind, insOf, look, ofO, seqOf, lsqOf, opW, cmW, cmI, eqS, boolK, sameC, setFld, putf, nxH, evs, evo, evc, evOr, evAnd, hp, hi, fs]
abbrev st9 : S := .set (.name 7) (.slL false (.fld (.var 0) 2) .none (.some (.var 2)))
theorem t9 (q : Sep h (lk s p c n i ++ R)) (hd : 0 ≤ d) : ex C M ini st9 (en p cs d a3 a4 a5 a6 a7) h = .ok (.nx, en p cs d a3 a4 a5 a6 (some (.lst ((s.inside.take d.toNat).map .int)))) h := by
  have hp := q.at (i := 0) rfl
  have hi := q.at (i := 3) rfl
  simp [ex, ev.eq_1, ev.eq_2, ev.eq_3, ev.eq_4, ev.eq_5, ev.eq_6, ev.eq_7, ev.eq_8, ev.eq_9, ev.eq_10, ev.eq_11, ev.eq_12, ev.eq_13, ev.eq_14, ev.eq_15, ev.eq_16, ev.eq_17, ev.eq_18, ev.eq_19, ev.eq_20, ev.eq_21, ev.eq_22, ev.eq_23, ev.eq_24, ev.eq_25, ev.eq_26, ev.eq_27, ev.eq_28, ev.eq_29, ev.eq_30, ev.eq_31, ev.eq_32, ev.eq_33, ev.eq_34, ev.eq_35, ev.eq_36, ev.eq_37, ev.eq_38, ev.eq_39, ev.eq_40, T.bind, insOf, look, ofO, seqOf, lsqOf, opW, cmW, cmI, eqS, boolK, sameC, setFld, putf, nxH, evs, evo, evc, evOr, evAnd, hp, hi, fs, cut_hi hd, newL]
abbrev st10 : S := .set (.fld (.var 0) 2) (.slL true (.fld (.var 0) 2) (.some (.len (.var 7))) .none)
theorem t10 {gl : List Int} (q : Sep h (lk s p c n i ++ R)) : ∃ h' i', ex C M ini st10 (en p cs d a3 a4 a5 a6 (some (.lst (gl.map .int)))) h = .ok (.nx, en p cs d a3 a4 a5 a6 (some (.lst (gl.map .int)))) h' ∧
    Sep h' (lk { s with inside := s.inside.drop gl.length } p c n i' ++ R) := by
  have hp := q.at (i := 0) rfl
  have hi := q.at (i := 3) rfl
  have q2 := q.swapNew 3 (.lst ((s.inside.drop gl.length).map .int))
  have hp2 := q2.at (i := 0) rfl
  simp only [List.map_drop] at hp2
  refine ⟨_, h.length, ?_, q2.set (i := 0) (o' := .ins 0 (fs { s with inside := s.inside.drop gl.length } c n h.length)) rfl⟩
  simp [ex, ev.eq_1, ev.eq_2, ev.eq_3, ev.eq_4, ev.eq_5, ev.eq_6, ev.eq_7, ev.eq_8, ev.eq_9, ev.eq_10, ev.eq_11, ev.eq_12, ev.eq_13, ev.eq_14, ev.eq_15, ev.eq_16, ev.eq_17, ev.eq_18, ev.eq_19, ev.eq_20, ev.eq_21, ev.eq_22, ev.eq_23, ev.eq_24, ev.eq_25, ev.eq_26, ev.eq_27, ev.eq_28, ev.eq_29, ev.eq_30, ev.eq_31, ev.eq_32, ev.eq_33, ev.eq_34, ev.eq_35, ev.eq_36, ev.eq_37, ev.eq_38, ev.eq_39, ev.eq_40, T.bind, insOf, look, ofO, seqOf, lsqOf, opW, cmW, cmI, eqS, boolK, sameC, setFld, putf, nxH, evs, evo, evc, evOr, evAnd, hp, hi, hp2, fs, cut_lo (Int.natCast_nonneg _), newL]
abbrev st11 : S := .loop (.name 4) (.seq (.var 7)) (.cons (.ite (.eqI false (.fld (.var 0) 5) (.int 0)) (.cons (.augF (.var 0) 1 .add (.int 1)) .nil) (.cons (.append (.fld (.var 0) 3) (.bin .add (.fld (.var 0) 4) (.fld (.var 0) 5))) .nil)) .nil)
def goneM (s : LS) (l : Nat) : LS := if s.back = 0 then { s with marks := s.marks + l } else { s with notes := s.notes ++ List.replicate l (s.slot + s.back) }
theorem t11 {gl : List Int} (q : Sep h (lk s p c n i ++ R)) (hl : s.notes.length + gl.length ≤ LIM) : ∃ h' a4', ex C M ini st11 (en p cs d a3 a4 a5 a6 (some (.lst (gl.map .int)))) h = .ok (.nx, en p cs d a3 a4' a5 a6 (some (.lst (gl.map .int)))) h' ∧
    Sep h' (lk (goneM s gl.length) p c n i ++ R) := by
  obtain ⟨σ', h', e, b4, rfl, q'⟩ := loop_ok (C := C) (M := M) (ini := ini) (g := .name 4) (it := .seq (.var 7)) (b := .cons (.ite (.eqI false (.fld (.var 0) 5) (.int 0)) (.cons (.augF (.var 0) 1 .add (.int 1)) .nil) (.cons (.append (.fld (.var 0) 3) (.bin .add (.fld (.var 0) 4) (.fld (.var 0) 5))) .nil)) .nil)
    (xs := gl.map W.int) (σ := en p cs d a3 a4 a5 a6 (some (.lst (gl.map .int)))) (h := h)
    (fun k σ h => ∃ b4, σ = en p cs d a3 b4 a5 a6 (some (.lst (gl.map .int))) ∧ Sep h (lk (goneM s k) p c n i ++ R)) (by simp [evI, ev.eq_1, ev.eq_2, ev.eq_3, ev.eq_4, ev.eq_5, ev.eq_6, ev.eq_7, ev.eq_8, ev.eq_9, ev.eq_10, ev.eq_11, ev.eq_12, ev.eq_13, ev.eq_14, ev.eq_15, ev.eq_16, ev.eq_17, ev.eq_18, ev.eq_19, ev.eq_20, ev.eq_21, ev.eq_22, ev.eq_23, ev.eq_24, ev.eq_25, ev.eq_26, ev.eq_27, ev.eq_28, ev.eq_29, ev.eq_30, ev.eq_31, ev.eq_32, ev.eq_33, ev.eq_34, ev.eq_35, ev.eq_36, ev.eq_37, ev.eq_38, ev.eq_39, ev.eq_40, T.bind])
    ⟨a4, rfl, by unfold goneM; split <;> simpa using q⟩ (by
      rintro k x σ h hx ⟨b4, rfl, q⟩
      rw [List.getElem?_map] at hx
      cases hk : gl[k]? with
      | none => rw [hk] at hx; cases hx
      | some v =>
        rw [hk] at hx
        cases hx
        have hkl : k < gl.length := (List.getElem?_eq_some_iff.mp hk).1
        unfold goneM at q ⊢
        by_cases h0 : s.back = 0
        · rw [if_pos h0] at q ⊢
          have hp := q.at (i := 0) rfl
          refine ⟨_, _, _, rfl, ?_, some (.int v), rfl, q.set (i := 0) (o' := .ins 0 (fs { s with marks := s.marks + ((k + 1 : Nat) : Int) } c n i)) rfl⟩
          simp [exs, ex, ev.eq_1, ev.eq_2, ev.eq_3, ev.eq_4, ev.eq_5, ev.eq_6, ev.eq_7, ev.eq_8, ev.eq_9, ev.eq_10, ev.eq_11, ev.eq_12, ev.eq_13, ev.eq_14, ev.eq_15, ev.eq_16, ev.eq_17, ev.eq_18, ev.eq_19, ev.eq_20, ev.eq_21, ev.eq_22, ev.eq_23, ev.eq_24, ev.eq_25, ev.eq_26, ev.eq_27, ev.eq_28, ev.eq_29, ev.eq_30, ev.eq_31, ev.eq_32, ev.eq_33, ev.eq_34, ev.eq_35, ev.eq_36, ev.eq_37, ev.eq_38, ev.eq_39, ev.eq_40, T.bind, insOf, look, ofO, seqOf, lsqOf, opW, cmW, cmI, eqS, boolK, sameC, setFld, putf, nxH, evs, evo, evc, evOr, evAnd, hp, fs, h0, Int.add_assoc]
        · rw [if_neg h0] at q ⊢
          have hp := q.at (i := 0) rfl
          have hn := q.at (i := 2) rfl
          have hlen : s.notes.length + k < LIM := by omega
          refine ⟨_, _, _, rfl, ?_, some (.int v), rfl, q.set (i := 2) (o' := .lst ((s.notes ++ List.replicate (k + 1) (s.slot + s.back)).map .int)) rfl⟩
          simp [exs, isLW, appW, ex, ev.eq_1, ev.eq_2, ev.eq_3, ev.eq_4, ev.eq_5, ev.eq_6, ev.eq_7, ev.eq_8, ev.eq_9, ev.eq_10, ev.eq_11, ev.eq_12, ev.eq_13, ev.eq_14, ev.eq_15, ev.eq_16, ev.eq_17, ev.eq_18, ev.eq_19, ev.eq_20, ev.eq_21, ev.eq_22, ev.eq_23, ev.eq_24, ev.eq_25, ev.eq_26, ev.eq_27, ev.eq_28, ev.eq_29, ev.eq_30, ev.eq_31, ev.eq_32, ev.eq_33, ev.eq_34, ev.eq_35, ev.eq_36, ev.eq_37, ev.eq_38, ev.eq_39, ev.eq_40, T.bind, insOf, look, ofO, seqOf, lsqOf, opW, cmW, cmI, eqS, boolK, sameC, setFld, putf, nxH, evs, evo, evc, evOr, evAnd, hp, hn, fs, h0, hlen, List.replicate_succ'])
  rw [List.length_map] at q'
  exact ⟨h', b4, e, q'⟩
abbrev st12 : S := .augF (.var 0) 4 .add (.int 1)
theorem t12 (q : Sep h (lk s p c n i ++ R)) : ∃ h', ex C M ini st12 (en p cs d a3 a4 a5 a6 a7) h = .ok (.nx, en p cs d a3 a4 a5 a6 a7) h' ∧ Sep h' (lk { s with slot := s.slot + 1 } p c n i ++ R) := by
  have hp := q.at (i := 0) rfl
  refine ⟨_, ?_, q.set (i := 0) (o' := .ins 0 (fs { s with slot := s.slot + 1 } c n i)) rfl⟩
  simp [ex, ev.eq_1, ev.eq_2, ev.eq_3, ev.eq_4, ev.eq_5, ev.eq_6, ev.eq_7, ev.eq_8, ev.eq_9, ev.eq_10, ev.eq_11, ev.eq_12, ev.eq_13, ev.eq_14, ev.eq_15, ev.eq_16, ev.eq_17, ev.eq_18, ev.eq_19, ev.eq_20, ev.eq_21, ev.eq_22, ev.eq_23, ev.eq_24, ev.eq_25, ev.eq_26, ev.eq_27, ev.eq_28, ev.eq_29, ev.eq_30, ev.eq_31, ev.eq_32, ev.eq_33, ev.eq_34, ev.eq_35, ev.eq_36, ev.eq_37, ev.eq_38, ev.eq_39, ev.eq_40, T.bind, insOf, look, ofO, seqOf, lsqOf, opW, cmW, cmI, eqS, boolK, sameC, setFld, putf, nxH, evs, evo, evc, evOr, evAnd, hp, fs]
theorem t912 {r : Ss} (q : Sep h (lk s p c n i ++ R)) (hd : 0 ≤ d) (hl : s.notes.length + s.inside.length ≤ LIM) : ∃ h' i' a4', exs C M ini (.cons st9 (.cons st10 (.cons st11 (.cons st12 r)))) (en p cs d a3 a4 a5 a6 a7) h = exs C M ini r (en p cs d a3 a4' a5 a6 (some (.lst ((s.inside.take d.toNat).map .int)))) h' ∧
    Sep h' (lk { goneM { s with inside := s.inside.drop (s.inside.take d.toNat).length } (s.inside.take d.toNat).length with slot := (goneM { s with inside := s.inside.drop (s.inside.take d.toNat).length } (s.inside.take d.toNat).length).slot + 1 } p c n i' ++ R) := by
  have e9 := t9 (C := C) (M := M) (ini := ini) (cs := cs) (a3 := a3) (a4 := a4) (a5 := a5) (a6 := a6) (a7 := a7) q hd
  obtain ⟨h10, i10, e10, q⟩ := t10 (C := C) (M := M) (ini := ini) (cs := cs) (d := d) (a3 := a3) (a4 := a4) (a5 := a5) (a6 := a6) (gl := s.inside.take d.toNat) q
  obtain ⟨h11, b5, e11, q⟩ := t11 (C := C) (M := M) (ini := ini) (cs := cs) (d := d) (a3 := a3) (a4 := a4) (a5 := a5) (a6 := a6) (gl := s.inside.take d.toNat) q (by
    simp only [List.length_take]
    omega)
  obtain ⟨h12, e12, q⟩ := t12 (C := C) (M := M) (ini := ini) (cs := cs) (d := d) (a3 := a3) (a4 := b5) (a5 := a5) (a6 := a6) (a7 := some (.lst ((s.inside.take d.toNat).map .int))) q
  exact ⟨h12, i10, b5, by rw [exs_cons e9, exs_cons e10, exs_cons e11, exs_cons e12], q⟩
/-- one slot: what a link does, the new state, what is sent, what goes out; nothing where the small language's bounds may not hold -/
def turnM (s : LS) (cl : List Int) (d : Int) : Option (LS × List Int × List Int) :=
  let m1 : Int := s.marks + ((s.notes.filter fun k => k = s.slot).length : Nat)
  let s1 : LS := { s with marks := m1, notes := s.notes.filter fun k => !decide (k = s.slot), inside := s.inside ++ (s.cells.filter fun x => x.2 = s.slot).map (·.1), cells := s.cells.filter fun x => !decide (x.2 = s.slot) }
  if 0 ≤ m1 ∧ 0 ≤ d ∧ s.notes.length + s.inside.length + s.cells.length + cl.length ≤ 1000 then
    let sent := cl.take m1.toNat
    let s2 := sentM { s1 with marks := m1 - sent.length } sent
    let gone := s2.inside.take d.toNat
    let s3 := goneM { s2 with most := if (s2.inside.length : Int) > s2.most then s2.inside.length else s2.most, inside := s2.inside.drop gone.length } gone.length
    some ({ s3 with slot := s3.slot + 1 }, sent, gone)
  else none
theorem turn_ok {cl : List Int} {s' : LS} {sent gone : List Int} {k : Nat} (q : Sep h (lk s p c n i ++ R)) (e : turnM s cl d = some (s', sent, gone)) :
    ∃ h' c' n' i', callN pg (k + 1) 5 [.ref p, .tup (cl.map .int), .int d] h = .ok (.tup [.tup (sent.map .int), .tup (gone.map .int)]) h' ∧ Sep h' (lk s' p c' n' i' ++ R) := by
  unfold turnM at e
  simp only at e
  split at e
  · rename_i hg
    obtain ⟨hm, hd, hl⟩ := hg
    simp only [Option.some.injEq, Prod.mk.injEq] at e
    obtain ⟨rfl, rfl, rfl⟩ := e
    have hL : LIM = 100000 := rfl
    have f1 := List.length_filter_le (fun k => !decide (k = s.slot)) s.notes
    have f2 := List.length_filter_le (fun x : Int × Int => decide (x.2 = s.slot)) s.cells
    have f3 := List.length_filter_le (fun x : Int × Int => !decide (x.2 = s.slot)) s.cells
    have f4 := List.length_take_le (s.marks + ((s.notes.filter fun k => k = s.slot).length : Nat) : Int).toNat cl
    have e0 : (callN pg (k + 1) 5 [.ref p, .tup (cl.map .int), .int d] h) = ((exs (callN pg k) pg.M pg.ini b5 (en p (.tup (cl.map .int)) d none none none none none) h).bind out) := rfl
    obtain ⟨h1, e1, q⟩ := t1 (C := callN pg k) (M := pg.M) (ini := pg.ini) (cs := .tup (cl.map .int)) (d := d) (a3 := none) (a4 := none) (a5 := none) (a6 := none) (a7 := none) q
    obtain ⟨h2, n2, e2, q⟩ := t2 (C := callN pg k) (M := pg.M) (ini := pg.ini) (cs := .tup (cl.map .int)) (d := d) (a3 := none) (a4 := none) (a5 := none) (a6 := none) (a7 := none) q (by simp only; omega)
    obtain ⟨h3, e3, q⟩ := t3 (C := callN pg k) (M := pg.M) (ini := pg.ini) (cs := .tup (cl.map .int)) (d := d) (a3 := none) (a4 := none) (a5 := none) (a6 := none) (a7 := none) q (by simp only; omega)
    obtain ⟨h4, c4, e4, q⟩ := t4 (C := callN pg k) (M := pg.M) (ini := pg.ini) (cs := .tup (cl.map .int)) (d := d) (a3 := none) (a4 := none) (a5 := none) (a6 := none) (a7 := none) q (by simp only; omega)
    have e5 := t5 (C := callN pg k) (M := pg.M) (ini := pg.ini) (cl := cl) (d := d) (a3 := none) (a4 := none) (a5 := none) (a6 := none) (a7 := none) q hm
    have f5 : (cl.take (s.marks + ((s.notes.filter fun k => k = s.slot).length : Nat) : Int).toNat).length ≤ cl.length := by rw [List.length_take]; omega
    obtain ⟨h6, e6, q⟩ := t6 (C := callN pg k) (M := pg.M) (ini := pg.ini) (cs := .tup (cl.map .int)) (d := d) (a3 := none) (a4 := none) (a5 := none) (sl := cl.take (s.marks + ((s.notes.filter fun k => k = s.slot).length : Nat) : Int).toNat) (a7 := none) q
    obtain ⟨h7, b4, e7, q⟩ := t7 (C := callN pg k) (M := pg.M) (ini := pg.ini) (cs := .tup (cl.map .int)) (d := d) (a3 := none) (a4 := none) (a5 := none) (sl := cl.take (s.marks + ((s.notes.filter fun k => k = s.slot).length : Nat) : Int).toNat) (a7 := none) q (by simp only [List.length_append, List.length_map]; omega)
    obtain ⟨h8, e8, q⟩ := t8 (C := callN pg k) (M := pg.M) (ini := pg.ini) (cs := .tup (cl.map .int)) (d := d) (a3 := none) (a4 := b4) (a5 := none) (a6 := some (.lst ((cl.take (s.marks + ((s.notes.filter fun k => k = s.slot).length : Nat) : Int).toNat).map .int))) (a7 := none) q
    obtain ⟨h12, i12, b5, e12, q⟩ := t912 (C := callN pg k) (M := pg.M) (ini := pg.ini) (cs := .tup (cl.map .int)) (d := d) (a3 := none) (a4 := b4) (a5 := none) (a6 := some (.lst ((cl.take (s.marks + ((s.notes.filter fun k => k = s.slot).length : Nat) : Int).toNat).map .int))) (a7 := none) q hd (by
      unfold sentM
      split <;> (simp only [List.length_append, List.length_map]; omega))
    refine ⟨h12, _, _, _, ?_, q⟩
    rw [e0]
    show ((exs _ _ _ (.cons st1 (.cons st2 (.cons st3 (.cons st4 (.cons st5 (.cons st6 (.cons st7 (.cons st8 (.cons st9 (.cons st10 (.cons st11 (.cons st12 (.cons (.ret (.tup (.cons (.toTup (.var 6)) (.cons (.toTup (.var 7)) .nil)))) .nil))))))))))))) _ _).bind out) = _
    rw [exs_cons e1, exs_cons e2, exs_cons e3, exs_cons e4, exs_cons e5, exs_cons e6, exs_cons e7, exs_cons e8, e12]
    simp [exs, ex, ev.eq_1, ev.eq_2, ev.eq_3, ev.eq_4, ev.eq_5, ev.eq_6, ev.eq_7, ev.eq_8, ev.eq_9, ev.eq_10, ev.eq_11, ev.eq_12, ev.eq_13, ev.eq_14, ev.eq_15, ev.eq_16, ev.eq_17, ev.eq_18, ev.eq_19, ev.eq_20, ev.eq_21, ev.eq_22, ev.eq_23, ev.eq_24, ev.eq_25, ev.eq_26, ev.eq_27, ev.eq_28, ev.eq_29, ev.eq_30, ev.eq_31, ev.eq_32, ev.eq_33, ev.eq_34, ev.eq_35, ev.eq_36, ev.eq_37, ev.eq_38, ev.eq_39, ev.eq_40, T.bind, insOf, look, ofO, seqOf, lsqOf, opW, cmW, cmI, eqS, boolK, sameC, setFld, putf, nxH, evs, evo, evc, evOr, evAnd, out]
  · cases e
end
end K40
namespace K40
open PySem Z
def ini0 (room there back : Int) : LS := ⟨room, there, back, room, [], [], [], 0, 0⟩
section
variable {h : EH} {R : List (Nat × EO)} {room there back : Int} {k : Nat} {s : LS} {p c n i : Nat}
theorem init_ok (q : Sep h R) (h1 : 0 ≤ room) (h2 : 0 ≤ there) (h3 : 0 ≤ back) : ∃ h' c n i, callN pg (k + 1) 6 [.ref h.length, .int room, .int there, .int back] (h ++ [.ins 0 []]) = .ok .non h' ∧ Sep h' (lk (ini0 room there back) h.length c n i ++ R) := by
  have q4 := (((q.new (.ins 0 (fs (ini0 room there back) (h.length + 1) (h.length + 2) (h.length + 3)))).new (.lst [])).new (.lst [])).new (.lst [])
  simp only [List.length_append, List.length_singleton, List.append_assoc] at q4
  refine ⟨_, h.length + 1, h.length + 2, h.length + 3, ?_, q4.perm ((List.reverse_perm (lk (ini0 room there back) h.length (h.length + 1) (h.length + 2) (h.length + 3))).append_right R)⟩
  have e0 : callN pg (k + 1) 6 [.ref h.length, .int room, .int there, .int back] (h ++ [.ins 0 []]) = ((exs (callN pg k) pg.M pg.ini b6 [some (.ref h.length), some (.int room), some (.int there), some (.int back)] (h ++ [.ins 0 []])).bind out) := rfl
  have n1 : ¬ room < 0 := by omega
  have n2 : ¬ there < 0 := by omega
  have n3 : ¬ back < 0 := by omega
  rw [e0]
  simp [b6, exs, ex, ev.eq_1, ev.eq_2, ev.eq_3, ev.eq_4, ev.eq_5, ev.eq_6, ev.eq_7, ev.eq_8, ev.eq_9, ev.eq_10, ev.eq_11, ev.eq_12, ev.eq_13, ev.eq_14, ev.eq_15, ev.eq_16, ev.eq_17, ev.eq_18, ev.eq_19, ev.eq_20, ev.eq_21, ev.eq_22, ev.eq_23, ev.eq_24, ev.eq_25, ev.eq_26, ev.eq_27, ev.eq_28, ev.eq_29, ev.eq_30, ev.eq_31, ev.eq_32, ev.eq_33, ev.eq_34, ev.eq_35, ev.eq_36, ev.eq_37, ev.eq_38, ev.eq_39, ev.eq_40, T.bind, insOf, look, ofO, seqOf, lsqOf, opW, cmW, cmI, eqS, boolK, sameC, setFld, putf, nxH, evs, evo, evc, evOr, evAnd, n1, n2, n3, newL, out, fs, ini0]
theorem counted_ok (q : Sep h (lk s p c n i ++ R)) : callN pg (k + 1) 4 [.ref p] h = .ok (.int (s.marks + s.cells.length + s.inside.length + s.notes.length)) h := by
  have hp := q.at (i := 0) rfl
  have hc := q.at (i := 1) rfl
  have hn := q.at (i := 2) rfl
  have hi := q.at (i := 3) rfl
  have e0 : callN pg (k + 1) 4 [.ref p] h = ((exs (callN pg k) pg.M pg.ini b4 [some (.ref p)] h).bind out) := rfl
  rw [e0]
  simp [b4, exs, ex, ev.eq_1, ev.eq_2, ev.eq_3, ev.eq_4, ev.eq_5, ev.eq_6, ev.eq_7, ev.eq_8, ev.eq_9, ev.eq_10, ev.eq_11, ev.eq_12, ev.eq_13, ev.eq_14, ev.eq_15, ev.eq_16, ev.eq_17, ev.eq_18, ev.eq_19, ev.eq_20, ev.eq_21, ev.eq_22, ev.eq_23, ev.eq_24, ev.eq_25, ev.eq_26, ev.eq_27, ev.eq_28, ev.eq_29, ev.eq_30, ev.eq_31, ev.eq_32, ev.eq_33, ev.eq_34, ev.eq_35, ev.eq_36, ev.eq_37, ev.eq_38, ev.eq_39, ev.eq_40, T.bind, insOf, look, ofO, seqOf, lsqOf, opW, cmW, cmI, eqS, boolK, sameC, setFld, putf, nxH, evs, evo, evc, evOr, evAnd, hp, hc, hn, hi, fs, out]
theorem rfa_ok : callN pg (k + 1) 8 [.int there, .int back] h = .ok (.int (there + if 1 > back then 1 else back)) h := by
  have e0 : callN pg (k + 1) 8 [.int there, .int back] h = ((exs (callN pg k) pg.M pg.ini b8 [some (.int there), some (.int back)] h).bind out) := rfl
  rw [e0]
  simp [b8, exs, ex, ev.eq_1, ev.eq_2, ev.eq_3, ev.eq_4, ev.eq_5, ev.eq_6, ev.eq_7, ev.eq_8, ev.eq_9, ev.eq_10, ev.eq_11, ev.eq_12, ev.eq_13, ev.eq_14, ev.eq_15, ev.eq_16, ev.eq_17, ev.eq_18, ev.eq_19, ev.eq_20, ev.eq_21, ev.eq_22, ev.eq_23, ev.eq_24, ev.eq_25, ev.eq_26, ev.eq_27, ev.eq_28, ev.eq_29, ev.eq_30, ev.eq_31, ev.eq_32, ev.eq_33, ev.eq_34, ev.eq_35, ev.eq_36, ev.eq_37, ev.eq_38, ev.eq_39, ev.eq_40, T.bind, insOf, look, ofO, seqOf, lsqOf, opW, cmW, cmI, eqS, boolK, sameC, setFld, putf, nxH, evs, evo, evc, evOr, evAnd, out]
/-- sent_in: the state and the count behind k slots -/
def runM (room there back : Int) : Nat → Option (LS × Int)
  | 0 => some (ini0 room there back, 0)
  | k + 1 => match runM room there back k with
    | none => none
    | some (s, w) => match turnM s [(k : Int)] room with
      | none => none
      | some (s', sent, _) => some (s', w + sent.length)
theorem runM_le {m j : Nat} (hj : j ≤ m) {x : LS × Int} (e : runM room there back m = some x) : ∃ y, runM room there back j = some y := by
  induction m generalizing x with
  | zero =>
    have : j = 0 := by omega
    subst this
    exact ⟨_, e⟩
  | succ m ih =>
    by_cases hjm : j = m + 1
    · subst hjm; exact ⟨_, e⟩
    · simp only [runM] at e
      split at e
      · cases e
      · rename_i s w es
        exact ih (by omega) es
theorem make_ok {σ : Z.Env} {es : Es} (q : Sep h R) (h1 : 0 ≤ room) (h2 : 0 ≤ there) (h3 : 0 ≤ back) (he : evs (callN pg (k + 1)) pg.M pg.ini es σ h = .ok [.int room, .int there, .int back] h) :
    ∃ h' c n i, ev (callN pg (k + 1)) pg.M pg.ini (.make 0 es) σ h = .ok (.ref h.length) h' ∧ Sep h' (lk (ini0 room there back) h.length c n i ++ R) := by
  obtain ⟨h', c, n, i, e, q'⟩ := init_ok (k := k) q h1 h2 h3
  refine ⟨h', c, n, i, ?_, q'⟩
  have e' : callN pg (k + 1) (pg.ini 0) (.ref h.length :: [.int room, .int there, .int back]) (h ++ [.ins 0 []]) = .ok .non h' := e
  simp only [ev.eq_39, he, T.bind, e']
theorem sent_ok {slots : Nat} {x : LS × Int} (hs : slots ≤ 1000) (q : Sep h R) (h1 : 0 ≤ room) (h2 : 0 ≤ there) (h3 : 0 ≤ back) (hr : runM room there back slots = some x) :
    ∃ h', callN pg (k + 2) 7 [.int room, .int there, .int back, .int slots] h = .ok (.int x.2) h' ∧ Sep h' R := by
  have e0 : callN pg (k + 2) 7 [.int room, .int there, .int back, .int slots] h = ((exs (callN pg (k + 1)) pg.M pg.ini b7 [some (.int room), some (.int there), some (.int back), some (.int slots), none, none, none] h).bind out) := rfl
  obtain ⟨h1', c, n, i, e1, q1⟩ := make_ok (k := k) (σ := [some (.int room), some (.int there), some (.int back), some (.int slots), none, none, none]) (es := .cons (.var 0) (.cons (.var 1) (.cons (.var 2) .nil))) q h1 h2 h3 (by simp [ex, ev.eq_1, ev.eq_2, ev.eq_3, ev.eq_4, ev.eq_5, ev.eq_6, ev.eq_7, ev.eq_8, ev.eq_9, ev.eq_10, ev.eq_11, ev.eq_12, ev.eq_13, ev.eq_14, ev.eq_15, ev.eq_16, ev.eq_17, ev.eq_18, ev.eq_19, ev.eq_20, ev.eq_21, ev.eq_22, ev.eq_23, ev.eq_24, ev.eq_25, ev.eq_26, ev.eq_27, ev.eq_28, ev.eq_29, ev.eq_30, ev.eq_31, ev.eq_32, ev.eq_33, ev.eq_34, ev.eq_35, ev.eq_36, ev.eq_37, ev.eq_38, ev.eq_39, ev.eq_40, T.bind, insOf, look, ofO, seqOf, lsqOf, opW, cmW, cmI, eqS, boolK, sameC, setFld, putf, nxH, evs, evo, evc, evOr, evAnd])
  obtain ⟨σ', h', e2, v6, s', w', rfl, hr', c', n', i', q2⟩ := loop_ok (C := callN pg (k + 1)) (M := pg.M) (ini := pg.ini) (g := .name 6) (it := .rng (.var 3)) (b := .cons (.augN 5 .add (.len (.ix (.meth (.var 4) 1 (.cons (.tup (.cons (.var 6) .nil)) (.cons (.var 0) .nil))) (.int 0)))) .nil)
    (xs := rngW 0 slots) (σ := [some (.int room), some (.int there), some (.int back), some (.int slots), some (.ref h.length), some (.int 0), none]) (h := h1')
    (fun j σ h2 => ∃ v6 s w, σ = [some (.int room), some (.int there), some (.int back), some (.int slots), some (.ref h.length), some (.int w), v6] ∧ runM room there back j = some (s, w) ∧ ∃ c n i, Sep h2 (lk s h.length c n i ++ R))
    (by
      have : (slots : Int) ≤ 100000 ∧ (-1000000 : Int) < slots := by omega
      simp [evI, ev.eq_1, ev.eq_2, ev.eq_3, ev.eq_4, ev.eq_5, ev.eq_6, ev.eq_7, ev.eq_8, ev.eq_9, ev.eq_10, ev.eq_11, ev.eq_12, ev.eq_13, ev.eq_14, ev.eq_15, ev.eq_16, ev.eq_17, ev.eq_18, ev.eq_19, ev.eq_20, ev.eq_21, ev.eq_22, ev.eq_23, ev.eq_24, ev.eq_25, ev.eq_26, ev.eq_27, ev.eq_28, ev.eq_29, ev.eq_30, ev.eq_31, ev.eq_32, ev.eq_33, ev.eq_34, ev.eq_35, ev.eq_36, ev.eq_37, ev.eq_38, ev.eq_39, ev.eq_40, T.bind, LIM, this])
    ⟨none, _, 0, rfl, rfl, c, n, i, q1⟩ (by
      rintro j x σ h2 hx ⟨v6, s, w, rfl, hj, c, n, i, q⟩
      rw [rngW_get] at hx
      split at hx
      · rename_i hjs
        cases hx
        obtain ⟨y, hy⟩ := runM_le (j := j + 1) (by omega) hr
        have hy0 := hy
        simp only [runM, hj] at hy
        split at hy
        · cases hy
        · rename_i s' sent gone et
          cases hy
          obtain ⟨h3, c3, n3, i3, e3, q3⟩ := turn_ok (k := k) q et
          refine ⟨_, [some (.int room), some (.int there), some (.int back), some (.int slots), some (.ref h.length), some (.int (w + sent.length)), some (.int (j : Int))], h3, rfl, ?_, some (.int (j : Int)), s', w + sent.length, rfl, hy0, c3, n3, i3, q3⟩
          have hp := q.at (i := 0) rfl
          have e3' : callN pg (k + 1) 5 [.ref h.length, .tup [.int (j : Int)], .int room] h2 = _ := e3
          have hM : pg.M 0 1 = some 5 := rfl
          simp [exs, ex, ev.eq_1, ev.eq_2, ev.eq_3, ev.eq_4, ev.eq_5, ev.eq_6, ev.eq_7, ev.eq_8, ev.eq_9, ev.eq_10, ev.eq_11, ev.eq_12, ev.eq_13, ev.eq_14, ev.eq_15, ev.eq_16, ev.eq_17, ev.eq_18, ev.eq_19, ev.eq_20, ev.eq_21, ev.eq_22, ev.eq_23, ev.eq_24, ev.eq_25, ev.eq_26, ev.eq_27, ev.eq_28, ev.eq_29, ev.eq_30, ev.eq_31, ev.eq_32, ev.eq_33, ev.eq_34, ev.eq_35, ev.eq_36, ev.eq_37, ev.eq_38, ev.eq_39, ev.eq_40, T.bind, insOf, look, ofO, seqOf, lsqOf, opW, cmW, cmI, eqS, boolK, sameC, setFld, putf, nxH, evs, evo, evc, evOr, evAnd, hp, hM, e3', ixW, ixN]
      · cases hx)
  rw [rngW_len] at hr'
  rw [hr] at hr'
  cases hr'
  refine ⟨h', ?_, q2.sub (by simp)⟩
  rw [e0]
  show ((exs _ _ _ (.cons (.par 4 5 (.make 0 (.cons (.var 0) (.cons (.var 1) (.cons (.var 2) .nil)))) (.int 0)) (.cons (.loop (.name 6) (.rng (.var 3)) (.cons (.augN 5 .add (.len (.ix (.meth (.var 4) 1 (.cons (.tup (.cons (.var 6) .nil)) (.cons (.var 0) .nil))) (.int 0)))) .nil)) (.cons (.ret (.var 5)) .nil))) _ _).bind out) = _
  rw [exs_cons (h1 := h1') (σ' := [some (.int room), some (.int there), some (.int back), some (.int slots), some (.ref h.length), some (.int 0), none]) (by simp only [ex, e1, T.bind]; rfl), exs_cons e2]
  simp [exs, ex, ev.eq_1, ev.eq_2, ev.eq_3, ev.eq_4, ev.eq_5, ev.eq_6, ev.eq_7, ev.eq_8, ev.eq_9, ev.eq_10, ev.eq_11, ev.eq_12, ev.eq_13, ev.eq_14, ev.eq_15, ev.eq_16, ev.eq_17, ev.eq_18, ev.eq_19, ev.eq_20, ev.eq_21, ev.eq_22, ev.eq_23, ev.eq_24, ev.eq_25, ev.eq_26, ev.eq_27, ev.eq_28, ev.eq_29, ev.eq_30, ev.eq_31, ev.eq_32, ev.eq_33, ev.eq_34, ev.eq_35, ev.eq_36, ev.eq_37, ev.eq_38, ev.eq_39, ev.eq_40, T.bind, insOf, look, ofO, seqOf, lsqOf, opW, cmW, cmI, eqS, boolK, sameC, setFld, putf, nxH, evs, evo, evc, evOr, evAnd, out]
end
end K40
namespace K40
open PySem Z
def encD (D : List (Int × Int)) : List (W × W) := D.map fun x => (.int x.1, .int x.2)
def dgetI (D : List (Int × Int)) (k : Int) : Option Int := match D with
  | [] => none
  | (j, v) :: r => if j = k then some v else dgetI r k
def dputI (D : List (Int × Int)) (k v : Int) : List (Int × Int) := match D with
  | [] => [(k, v)]
  | (j, u) :: r => if j = k then (j, v) :: r else (j, u) :: dputI r k v
theorem dget_enc {k : Int} : ∀ {D : List (Int × Int)}, dget (encD D) (.int k) = (dgetI D k).map W.int
  | [] => rfl
  | (j, v) :: r => by
    have ih := dget_enc (k := k) (D := r)
    simp only [encD, List.map_cons, dget, keyE, dgetI] at ih ⊢
    by_cases c : j = k <;> simp [c, ih]
theorem dput_enc {k v : Int} : ∀ {D : List (Int × Int)}, dput (encD D) (.int k) (.int v) = encD (dputI D k v)
  | [] => rfl
  | (j, u) :: r => by
    have ih := dput_enc (k := k) (v := v) (D := r)
    simp only [encD, List.map_cons, dput, keyE, dputI] at ih ⊢
    by_cases c : j = k <;> simp [c, ih]
section
variable {h : EH} {R : List (Nat × EO)} {room there back : Int} {k : Nat} {s : LS} {p c n i x : Nat}
/-- the law's own slots -/
def stepM (there room : Int) (k : Nat) (s : LS) (D : List (Int × Int)) : Option (LS × List (Int × Int)) := match turnM s [(k : Int)] 9 with
  | none => none
  | some (s', sent, gone) =>
    let D' := sent.foldl (fun D c => dputI D c (k + there)) D
    if (gone.all fun c => decide (dgetI D' c = some (k : Int))) ∧ s'.marks + s'.cells.length + s'.inside.length + s'.notes.length = room ∧ D.length + 1 ≤ 1000 then some (s', D') else none
def lawM (there back room : Int) : Nat → Option (LS × List (Int × Int))
  | 0 => some (ini0 room there back, [])
  | k + 1 => match lawM there back room k with
    | none => none
    | some (s, D) => stepM there room k s D
def okQ (slots : Int) (cells : List (Int × Int)) (D : List (Int × Int)) (q : Int × Int) : Bool := match dgetI D q.1 with
  | some v => !(decide (v < slots) && (cells.any fun y => decide (q.1 = y.1)))
  | none => false
def endM (there room : Int) (slots : Nat) (s : LS) (D : List (Int × Int)) : Bool := !(decide (0 < room) && decide (there < slots)) || D.all (okQ slots s.cells D)
abbrev ev17 (ns : List Int) (th ba ro sl : Int) (a6 a7 a8 a9 a10 a11 a12 a13 a14 : Option W) : Z.Env := [some (.scr ns), some (.ref 0), some (.int th), some (.int ba), some (.int ro), some (.int sl), a6, a7, a8, a9, a10, a11, a12, a13, a14, none, none]
variable {ns : List Int} {sl : Int} {a6 a7 a8 a9 a10 a11 a12 a13 a14 : Option W}
theorem dlen {k v : Int} : ∀ {D : List (Int × Int)}, (dputI D k v).length ≤ D.length + 1
  | [] => by simp [dputI]
  | (j, u) :: r => by
    have := dlen (k := k) (v := v) (D := r)
    simp only [dputI]
    split <;> simp <;> omega
theorem sent_le {s s' : LS} {cl : List Int} {d : Int} {sent gone : List Int} (e : turnM s cl d = some (s', sent, gone)) : sent.length ≤ cl.length := by
  unfold turnM at e
  simp only at e
  split at e
  · simp only [Option.some.injEq, Prod.mk.injEq] at e
    rw [← e.2.1, List.length_take]
    omega
  · cases e
abbrev sA : S := .set (.tup [12, 13]) (.meth (.var 9) 1 (.cons (.tup (.cons (.var 11) .nil)) (.cons (.int 9) .nil)))
abbrev sB : S := .loop (.name 14) (.seq (.var 12)) (.cons (.set (.dsub (.var 10) (.var 14)) (.bin .add (.var 11) (.var 2))) .nil)
abbrev cG : E := .comp (.var 14) (.name 14) (.seq (.var 13)) (.some (.eqI true (.dix (.var 10) (.var 14)) (.var 11))) [14]
abbrev sC : S := .ite (.or (.cons (.eqD true cG (.lst false .nil)) (.cons (.eqI true (.meth (.var 9) 0 .nil) (.var 4)) .nil))) (.cons (.ret (.bl false)) .nil) .nil
theorem tA {s' : LS} {sent gone : List Int} {m : Nat} (q : Sep h (lk s p c n i ++ R)) (e : turnM s [(m : Int)] 9 = some (s', sent, gone)) :
    ∃ h' c' n' i', ex (callN pg (k + 1)) pg.M pg.ini sA (ev17 ns there back room sl a6 a7 a8 (some (.ref p)) a10 (some (.int (m : Int))) a12 a13 a14) h = .ok (.nx, ev17 ns there back room sl a6 a7 a8 (some (.ref p)) a10 (some (.int (m : Int))) (some (.tup (sent.map .int))) (some (.tup (gone.map .int))) a14) h' ∧ Sep h' (lk s' p c' n' i' ++ R) := by
  obtain ⟨h', c', n', i', e3, q3⟩ := turn_ok (k := k) q e
  have hp := q.at (i := 0) rfl
  have e3' : callN pg (k + 1) 5 [.ref p, .tup [.int (m : Int)], .int 9] h = _ := e3
  have hM : pg.M 0 1 = some 5 := rfl
  refine ⟨h', c', n', i', ?_, q3⟩
  simp [ex, ev.eq_1, ev.eq_2, ev.eq_3, ev.eq_4, ev.eq_5, ev.eq_6, ev.eq_7, ev.eq_8, ev.eq_9, ev.eq_10, ev.eq_11, ev.eq_12, ev.eq_13, ev.eq_14, ev.eq_15, ev.eq_16, ev.eq_17, ev.eq_18, ev.eq_19, ev.eq_20, ev.eq_21, ev.eq_22, ev.eq_23, ev.eq_24, ev.eq_25, ev.eq_26, ev.eq_27, ev.eq_28, ev.eq_29, ev.eq_30, ev.eq_31, ev.eq_32, ev.eq_33, ev.eq_34, ev.eq_35, ev.eq_36, ev.eq_37, ev.eq_38, ev.eq_39, ev.eq_40, T.bind, insOf, look, ofO, seqOf, lsqOf, opW, cmW, cmI, eqS, boolK, sameC, setFld, putf, nxH, evs, evo, evc, evOr, evAnd, hp, hM, e3', setAll]
theorem tB {C : CallH} {D : List (Int × Int)} {sent : List Int} {m : Nat} (q : Sep h ((x, .dic (encD D)) :: R)) (hl : D.length + sent.length ≤ 1001) :
    ∃ h' a14', ex C pg.M pg.ini sB (ev17 ns there back room sl a6 a7 a8 a9 (some (.ref x)) (some (.int (m : Int))) (some (.tup (sent.map .int))) a13 a14) h = .ok (.nx, ev17 ns there back room sl a6 a7 a8 a9 (some (.ref x)) (some (.int (m : Int))) (some (.tup (sent.map .int))) a13 a14') h' ∧
      Sep h' ((x, .dic (encD (sent.foldl (fun D c => dputI D c (m + there)) D))) :: R) := by
  obtain ⟨σ', h', e, b14, rfl, q', _⟩ := loop_ok (C := C) (M := pg.M) (ini := pg.ini) (g := .name 14) (it := .seq (.var 12)) (b := .cons (.set (.dsub (.var 10) (.var 14)) (.bin .add (.var 11) (.var 2))) .nil)
    (xs := sent.map W.int) (σ := ev17 ns there back room sl a6 a7 a8 a9 (some (.ref x)) (some (.int (m : Int))) (some (.tup (sent.map .int))) a13 a14) (h := h)
    (fun j σ h => ∃ b14, σ = ev17 ns there back room sl a6 a7 a8 a9 (some (.ref x)) (some (.int (m : Int))) (some (.tup (sent.map .int))) a13 b14 ∧ Sep h ((x, .dic (encD ((sent.take j).foldl (fun D c => dputI D c (m + there)) D))) :: R) ∧ ((sent.take j).foldl (fun D c => dputI D c (m + there)) D).length ≤ D.length + j)
    (by simp [evI, ev.eq_1, ev.eq_2, ev.eq_3, ev.eq_4, ev.eq_5, ev.eq_6, ev.eq_7, ev.eq_8, ev.eq_9, ev.eq_10, ev.eq_11, ev.eq_12, ev.eq_13, ev.eq_14, ev.eq_15, ev.eq_16, ev.eq_17, ev.eq_18, ev.eq_19, ev.eq_20, ev.eq_21, ev.eq_22, ev.eq_23, ev.eq_24, ev.eq_25, ev.eq_26, ev.eq_27, ev.eq_28, ev.eq_29, ev.eq_30, ev.eq_31, ev.eq_32, ev.eq_33, ev.eq_34, ev.eq_35, ev.eq_36, ev.eq_37, ev.eq_38, ev.eq_39, ev.eq_40, T.bind]) ⟨a14, rfl, by simpa using q, by simp⟩ (by
      rintro j y σ h hx ⟨b14, rfl, q, hle⟩
      rw [List.getElem?_map] at hx
      cases hk : sent[j]? with
      | none => rw [hk] at hx; cases hx
      | some v =>
        rw [hk] at hx
        cases hx
        have hkl : j < sent.length := (List.getElem?_eq_some_iff.mp hk).1
        have ht : sent.take (j + 1) = sent.take j ++ [v] := by rw [List.take_add_one, hk]; rfl
        have hd := q.at (i := 0) rfl
        have hlen : (encD ((sent.take j).foldl (fun D c => dputI D c (m + there)) D)).length < LIM := by
          have : LIM = 100000 := rfl
          simp only [encD, List.length_map]
          omega
        refine ⟨_, _, _, rfl, ?_, some (.int v), rfl, q.set (i := 0) (o' := .dic (encD ((sent.take (j + 1)).foldl (fun D c => dputI D c (m + there)) D))) rfl, ?_⟩
        · simp [exs, setDx, isKey, ex, ev.eq_1, ev.eq_2, ev.eq_3, ev.eq_4, ev.eq_5, ev.eq_6, ev.eq_7, ev.eq_8, ev.eq_9, ev.eq_10, ev.eq_11, ev.eq_12, ev.eq_13, ev.eq_14, ev.eq_15, ev.eq_16, ev.eq_17, ev.eq_18, ev.eq_19, ev.eq_20, ev.eq_21, ev.eq_22, ev.eq_23, ev.eq_24, ev.eq_25, ev.eq_26, ev.eq_27, ev.eq_28, ev.eq_29, ev.eq_30, ev.eq_31, ev.eq_32, ev.eq_33, ev.eq_34, ev.eq_35, ev.eq_36, ev.eq_37, ev.eq_38, ev.eq_39, ev.eq_40, T.bind, insOf, look, ofO, seqOf, lsqOf, opW, cmW, cmI, eqS, boolK, sameC, setFld, putf, nxH, evs, evo, evc, evOr, evAnd, hd, hlen, dput_enc, ht]
        · rw [ht, List.foldl_append]
          have := dlen (k := v) (v := m + there) (D := (sent.take j).foldl (fun D c => dputI D c (m + there)) D)
          simp only [List.foldl_cons, List.foldl_nil]
          omega)
  rw [List.length_map, List.take_length] at q'
  exact ⟨h', b14, e, q'⟩
theorem tC {D : List (Int × Int)} {gone : List Int} {m : Nat} (q : Sep h ((x, .dic (encD D)) :: (lk s p c n i ++ R))) (hg : (gone.all fun c => decide (dgetI D c = some (m : Int))) = true) (hc : s.marks + s.cells.length + s.inside.length + s.notes.length = room) :
    ex (callN pg (k + 1)) pg.M pg.ini sC (ev17 ns there back room sl a6 a7 a8 (some (.ref p)) (some (.ref x)) (some (.int (m : Int))) a12 (some (.tup (gone.map .int))) a14) h = .ok (.nx, ev17 ns there back room sl a6 a7 a8 (some (.ref p)) (some (.ref x)) (some (.int (m : Int))) a12 (some (.tup (gone.map .int))) a14) h := by
  have hd := q.at (i := 0) rfl
  have hp := q.at (i := 1) rfl
  have e := comp_f (C := callN pg (k + 1)) (M := pg.M) (ini := pg.ini) (σ := ev17 ns there back room sl a6 a7 a8 (some (.ref p)) (some (.ref x)) (some (.int (m : Int))) a12 (some (.tup (gone.map .int))) a14) (h := h) (a := .var 14) (g := .name 14) (it := .seq (.var 13)) (c := .some (.eqI true (.dix (.var 10) (.var 14)) (.var 11))) (own := [14]) (k := .no) (h1 := h) W.int (fun _ => false) W.int (xs := gone) (by simp [evI, ev.eq_1, ev.eq_2, ev.eq_3, ev.eq_4, ev.eq_5, ev.eq_6, ev.eq_7, ev.eq_8, ev.eq_9, ev.eq_10, ev.eq_11, ev.eq_12, ev.eq_13, ev.eq_14, ev.eq_15, ev.eq_16, ev.eq_17, ev.eq_18, ev.eq_19, ev.eq_20, ev.eq_21, ev.eq_22, ev.eq_23, ev.eq_24, ev.eq_25, ev.eq_26, ev.eq_27, ev.eq_28, ev.eq_29, ev.eq_30, ev.eq_31, ev.eq_32, ev.eq_33, ev.eq_34, ev.eq_35, ev.eq_36, ev.eq_37, ev.eq_38, ev.eq_39, ev.eq_40, T.bind]) (fun v hv => by
    have h1 : dgetI D v = some (m : Int) := by simpa using List.all_eq_true.mp hg v hv
    simp [bodyC, store, wipeE, dicOf, isKey, ex, ev.eq_1, ev.eq_2, ev.eq_3, ev.eq_4, ev.eq_5, ev.eq_6, ev.eq_7, ev.eq_8, ev.eq_9, ev.eq_10, ev.eq_11, ev.eq_12, ev.eq_13, ev.eq_14, ev.eq_15, ev.eq_16, ev.eq_17, ev.eq_18, ev.eq_19, ev.eq_20, ev.eq_21, ev.eq_22, ev.eq_23, ev.eq_24, ev.eq_25, ev.eq_26, ev.eq_27, ev.eq_28, ev.eq_29, ev.eq_30, ev.eq_31, ev.eq_32, ev.eq_33, ev.eq_34, ev.eq_35, ev.eq_36, ev.eq_37, ev.eq_38, ev.eq_39, ev.eq_40, T.bind, insOf, look, ofO, seqOf, lsqOf, opW, cmW, cmI, eqS, boolK, sameC, setFld, putf, nxH, evs, evo, evc, evOr, evAnd, hd, dget_enc, h1])
  have e2 := counted_ok (k := k) q.tail
  have hM : pg.M 0 0 = some 4 := rfl
  have e0 : eqDW h (.lst []) (.lst []) = some true := by simp [eqDW, froz, mapO]; rfl
  have hf : gone.filter (fun _ => false) = [] := List.filter_eq_nil_iff.mpr (by simp)
  rw [hf] at e
  simp only [List.map_nil, unlock] at e
  simp [exs, newL, ex, ev.eq_1, ev.eq_2, ev.eq_3, ev.eq_4, ev.eq_5, ev.eq_6, ev.eq_7, ev.eq_8, ev.eq_9, ev.eq_10, ev.eq_11, ev.eq_12, ev.eq_13, ev.eq_14, ev.eq_15, ev.eq_16, ev.eq_17, ev.eq_18, ev.eq_19, ev.eq_20, ev.eq_21, ev.eq_22, ev.eq_23, ev.eq_24, ev.eq_25, ev.eq_26, ev.eq_27, ev.eq_28, ev.eq_29, ev.eq_30, ev.eq_31, ev.eq_32, ev.eq_33, ev.eq_34, ev.eq_35, ev.eq_36, ev.eq_37, ev.eq_38, ev.eq_39, ev.eq_40, T.bind, insOf, look, ofO, seqOf, lsqOf, opW, cmW, cmI, eqS, boolK, sameC, setFld, putf, nxH, evs, evo, evc, evOr, evAnd, e, e0, hp, hM, e2, hc]
theorem lawM_le {m j : Nat} (hj : j ≤ m) {x : LS × List (Int × Int)} (e : lawM there back room m = some x) : ∃ y, lawM there back room j = some y := by
  induction m generalizing x with
  | zero =>
    have : j = 0 := by omega
    subst this
    exact ⟨_, e⟩
  | succ m ih =>
    by_cases hjm : j = m + 1
    · subst hjm; exact ⟨_, e⟩
    · simp only [lawM] at e
      split at e
      · cases e
      · rename_i s w es
        exact ih (by omega) es
theorem perm5 {α : Type} {a b c d e : α} {l : List α} : (a :: b :: c :: d :: e :: l).Perm (e :: a :: b :: c :: d :: l) := by
  have := (List.perm_append_comm (l₁ := [a, b, c, d]) (l₂ := [e])).append_right l
  simpa using this
abbrev sLp : S := .loop (.name 11) (.rng (.var 5)) (.cons sA (.cons sB (.cons sC .nil)))
theorem tL {slots : Nat} {y : LS × List (Int × Int)} (hs : slots ≤ 500) (q : Sep h ((x, .dic []) :: (lk (ini0 room there back) p c n i ++ R))) (hr : lawM there back room slots = some y) :
    ∃ h' c' n' i' b11 b12 b13 b14, ex (callN pg (k + 1)) pg.M pg.ini sLp (ev17 ns there back room slots a6 a7 a8 (some (.ref p)) (some (.ref x)) a11 a12 a13 a14) h = .ok (.nx, ev17 ns there back room slots a6 a7 a8 (some (.ref p)) (some (.ref x)) b11 b12 b13 b14) h' ∧
      Sep h' ((x, .dic (encD y.2)) :: (lk y.1 p c' n' i' ++ R)) := by
  obtain ⟨σ', h', e, b11, b12, b13, b14, s', D', rfl, hr', c', n', i', q2⟩ := loop_ok (C := callN pg (k + 1)) (M := pg.M) (ini := pg.ini) (g := .name 11) (it := .rng (.var 5)) (b := .cons sA (.cons sB (.cons sC .nil)))
    (xs := rngW 0 slots) (σ := ev17 ns there back room slots a6 a7 a8 (some (.ref p)) (some (.ref x)) a11 a12 a13 a14) (h := h)
    (fun j σ h2 => ∃ b11 b12 b13 b14 s D, σ = ev17 ns there back room slots a6 a7 a8 (some (.ref p)) (some (.ref x)) b11 b12 b13 b14 ∧ lawM there back room j = some (s, D) ∧ ∃ c n i, Sep h2 ((x, .dic (encD D)) :: (lk s p c n i ++ R)))
    (by
      have : (slots : Int) ≤ 100000 ∧ (-1000000 : Int) < slots := by omega
      simp [evI, ev.eq_1, ev.eq_2, ev.eq_3, ev.eq_4, ev.eq_5, ev.eq_6, ev.eq_7, ev.eq_8, ev.eq_9, ev.eq_10, ev.eq_11, ev.eq_12, ev.eq_13, ev.eq_14, ev.eq_15, ev.eq_16, ev.eq_17, ev.eq_18, ev.eq_19, ev.eq_20, ev.eq_21, ev.eq_22, ev.eq_23, ev.eq_24, ev.eq_25, ev.eq_26, ev.eq_27, ev.eq_28, ev.eq_29, ev.eq_30, ev.eq_31, ev.eq_32, ev.eq_33, ev.eq_34, ev.eq_35, ev.eq_36, ev.eq_37, ev.eq_38, ev.eq_39, ev.eq_40, T.bind, LIM, this])
    ⟨a11, a12, a13, a14, _, _, rfl, rfl, c, n, i, q⟩ (by
      rintro j v σ h2 hx ⟨b11, b12, b13, b14, s, D, rfl, hj, c, n, i, q⟩
      rw [rngW_get] at hx
      split at hx
      · rename_i hjs
        cases hx
        obtain ⟨y, hy⟩ := lawM_le (j := j + 1) (by omega) hr
        have hy0 := hy
        simp only [lawM, hj, stepM] at hy
        split at hy
        · cases hy
        · rename_i s' sent gone et
          split at hy
          · rename_i hc
            obtain ⟨hg, hcnt, hDl⟩ := hc
            cases hy
            obtain ⟨h3, c3, n3, i3, e3, q3⟩ := tA (k := k) (ns := ns) (there := there) (back := back) (room := room) (sl := slots) (a6 := a6) (a7 := a7) (a8 := a8) (a10 := some (.ref x)) (a12 := b12) (a13 := b13) (a14 := b14) (m := j) (q.perm (List.perm_middle (l₁ := lk s p c n i) (l₂ := R)).symm) et
            have hsl : sent.length ≤ 1 := by
              have := sent_le et
              simpa using this
            obtain ⟨h4, b, e4, q4⟩ := tB (C := callN pg (k + 1)) (ns := ns) (there := there) (back := back) (room := room) (sl := slots) (a6 := a6) (a7 := a7) (a8 := a8) (a9 := some (.ref p)) (a13 := some (.tup (gone.map .int))) (a14 := b14) (m := j) (D := D) (sent := sent) (q3.perm List.perm_middle) (by omega)
            have e5 := tC (k := k) (ns := ns) (there := there) (back := back) (room := room) (sl := slots) (a6 := a6) (a7 := a7) (a8 := a8) (a12 := some (.tup (sent.map .int))) (a14 := b) (m := j) q4 hg hcnt
            refine ⟨_, _, h4, rfl, ?_, some (.int (j : Int)), some (.tup (sent.map .int)), some (.tup (gone.map .int)), b, s', _, rfl, hy0, c3, n3, i3, q4⟩
            show exs _ _ _ _ (ev17 ns there back room slots a6 a7 a8 (some (.ref p)) (some (.ref x)) (some (.int (0 + (j : Int)))) b12 b13 b14) h2 = _
            rw [Int.zero_add, exs_cons e3, exs_cons e4, exs_cons e5]
            simp [exs]
          · cases hy
      · cases hx)
  rw [rngW_len] at hr'
  rw [hr] at hr'
  cases hr'
  exact ⟨h', c', n', i', b11, b12, b13, b14, e, q2⟩
end
end K40
namespace K40
open PySem Z
section
variable {h : EH} {R : List (Nat × EO)} {room there back : Int} {k : Nat} {s : LS} {p c n i x : Nat} {ns : List Int} {a6 a7 a8 a9 a10 a11 a12 a13 a14 : Option W}
abbrev cIn : E := .comp (.var 15) (.tup [15, 16]) (.seqR (.fld (.var 9) 0)) .none [15, 16]
abbrev cEnd : E := .comp (.var 14) (.name 14) (.keys (.var 10)) (.some (.and (.cons (.cmp .lt (.dix (.var 10) (.var 14)) (.var 5)) (.cons (.inS false (.var 14) cIn) .nil)))) [14]
abbrev sEnd : S := .ite (.and (.cons (.cmp .gt (.var 4) (.int 0)) (.cons (.cmp .gt (.var 5) (.var 2)) (.cons (.eqD true cEnd (.lst false .nil)) .nil)))) (.cons (.ret (.bl false)) .nil) .nil
theorem mapO_int {v : Int} : ∀ xs : List Int, mapO (eqS (.int v)) (xs.map .int) = some (xs.map fun y => decide (v = y))
  | [] => rfl
  | y :: ys => by simp [mapO, eqS, mapO_int ys]
theorem tE {C : CallH} {slots : Nat} {D : List (Int × Int)} (q : Sep h ((x, .dic (encD D)) :: (lk s p c n i ++ R))) (he : endM there room slots s D = true) :
    ex C pg.M pg.ini sEnd (ev17 ns there back room slots a6 a7 a8 (some (.ref p)) (some (.ref x)) a11 a12 a13 a14) h = .ok (.nx, ev17 ns there back room slots a6 a7 a8 (some (.ref p)) (some (.ref x)) a11 a12 a13 a14) h := by
  by_cases h1 : 0 < room
  · by_cases h2 : there < slots
    · have hall : D.all (okQ slots s.cells D) = true := by simpa [endM, h1, h2] using he
      have hd := q.at (i := 0) rfl
      have q1 := q.set (i := 0) (o' := .dicL (encD D)) rfl
      have hd1 := q1.at (i := 0) rfl
      have hp1 := q1.at (i := 1) rfl
      have hc1 := q1.at (i := 2) rfl
      have q2 := q1.set (i := 2) (o' := .lstL (s.cells.map encP)) rfl
      have ek : (encD D).map (·.1) = D.map fun q => W.int q.1 := by simp [encD]
      have hI : evI C pg.M pg.ini (.keys (.var 10)) (ev17 ns there back room slots a6 a7 a8 (some (.ref p)) (some (.ref x)) a11 a12 a13 a14) h = .ok (D.map fun q => W.int q.1, .d x (encD D)) (h.set x (.dicL (encD D))) := by
        simp [evI, ev.eq_1, ev.eq_2, ev.eq_3, ev.eq_4, ev.eq_5, ev.eq_6, ev.eq_7, ev.eq_8, ev.eq_9, ev.eq_10, ev.eq_11, ev.eq_12, ev.eq_13, ev.eq_14, ev.eq_15, ev.eq_16, ev.eq_17, ev.eq_18, ev.eq_19, ev.eq_20, ev.eq_21, ev.eq_22, ev.eq_23, ev.eq_24, ev.eq_25, ev.eq_26, ev.eq_27, ev.eq_28, ev.eq_29, ev.eq_30, ev.eq_31, ev.eq_32, ev.eq_33, ev.eq_34, ev.eq_35, ev.eq_36, ev.eq_37, ev.eq_38, ev.eq_39, ev.eq_40, T.bind, hd, ← ek]
      have e := comp_f (C := C) (M := pg.M) (ini := pg.ini) (a := .var 14) (g := .name 14) (c := .some (.and (.cons (.cmp .lt (.dix (.var 10) (.var 14)) (.var 5)) (.cons (.inS false (.var 14) cIn) .nil)))) (own := [14]) (fun q : Int × Int => W.int q.1) (fun _ => false) (fun q => W.int q.1) hI (fun y hy => by
        have hy1 := List.all_eq_true.mp hall y hy
        unfold okQ at hy1
        cases hv : dgetI D y.1 with
        | none => simp [hv] at hy1
        | some v =>
          have hin := comp_f (C := C) (M := pg.M) (ini := pg.ini) (σ := [some (.scr ns), some (.ref 0), some (.int there), some (.int back), some (.int room), some (.int slots), a6, a7, a8, some (.ref p), some (.ref x), a11, a12, a13, some (.int y.1), none, none]) (a := .var 15) (g := .tup [15, 16]) (c := .none) (own := [15, 16]) encP (fun _ => true) (fun y => W.int y.1) (it := .seqR (.fld (.var 9) 0)) (h := h.set x (.dicL (encD D))) (xs := s.cells) (by
            simp [evI, ex, ev.eq_1, ev.eq_2, ev.eq_3, ev.eq_4, ev.eq_5, ev.eq_6, ev.eq_7, ev.eq_8, ev.eq_9, ev.eq_10, ev.eq_11, ev.eq_12, ev.eq_13, ev.eq_14, ev.eq_15, ev.eq_16, ev.eq_17, ev.eq_18, ev.eq_19, ev.eq_20, ev.eq_21, ev.eq_22, ev.eq_23, ev.eq_24, ev.eq_25, ev.eq_26, ev.eq_27, ev.eq_28, ev.eq_29, ev.eq_30, ev.eq_31, ev.eq_32, ev.eq_33, ev.eq_34, ev.eq_35, ev.eq_36, ev.eq_37, ev.eq_38, ev.eq_39, ev.eq_40, T.bind, insOf, look, ofO, seqOf, lsqOf, opW, cmW, cmI, eqS, boolK, sameC, setFld, putf, nxH, evs, evo, evc, evOr, evAnd, hp1, hc1, fs]
            exact ⟨rfl, rfl⟩) (fun z _ => by
            obtain ⟨z1, z2⟩ := z
            simp [bodyC, store, setAll, encP, wipeE, ex, ev.eq_1, ev.eq_2, ev.eq_3, ev.eq_4, ev.eq_5, ev.eq_6, ev.eq_7, ev.eq_8, ev.eq_9, ev.eq_10, ev.eq_11, ev.eq_12, ev.eq_13, ev.eq_14, ev.eq_15, ev.eq_16, ev.eq_17, ev.eq_18, ev.eq_19, ev.eq_20, ev.eq_21, ev.eq_22, ev.eq_23, ev.eq_24, ev.eq_25, ev.eq_26, ev.eq_27, ev.eq_28, ev.eq_29, ev.eq_30, ev.eq_31, ev.eq_32, ev.eq_33, ev.eq_34, ev.eq_35, ev.eq_36, ev.eq_37, ev.eq_38, ev.eq_39, ev.eq_40, T.bind, insOf, look, ofO, seqOf, lsqOf, opW, cmW, cmI, eqS, boolK, sameC, setFld, putf, nxH, evs, evo, evc, evOr, evAnd])
          rw [unl_id hc1] at hin
          by_cases hvs : v < slots
          · have hno : (s.cells.any fun z => decide (y.1 = z.1)) = false := by simpa [hv, hvs] using hy1
            have hno' : ∀ z ∈ s.cells, ¬ y.1 = z.1 := by simpa using hno
            have hany : ((s.cells.map fun z => z.1).map fun z => decide (y.1 = z)).any id = false := by simpa using hno
            have hm := mapO_int (v := y.1) (s.cells.map fun z => z.1)
            have ef : (s.cells.filter fun _ => true).map (fun y => W.int y.1) = (s.cells.map fun z => z.1).map W.int := by
              rw [List.filter_eq_self.mpr (by simp), List.map_map]
              rfl
            rw [ef] at hin
            generalize hks : ((s.cells.map fun z => z.1).map fun z => decide (y.1 = z)) = ks at hm hany
            rw [List.map_map] at hm
            simp [bodyC, store, wipeE, dicOf, isKey, isSc, ex, ev.eq_1, ev.eq_2, ev.eq_3, ev.eq_4, ev.eq_5, ev.eq_6, ev.eq_7, ev.eq_8, ev.eq_9, ev.eq_10, ev.eq_11, ev.eq_12, ev.eq_13, ev.eq_14, ev.eq_15, ev.eq_16, ev.eq_17, ev.eq_18, ev.eq_19, ev.eq_20, ev.eq_21, ev.eq_22, ev.eq_23, ev.eq_24, ev.eq_25, ev.eq_26, ev.eq_27, ev.eq_28, ev.eq_29, ev.eq_30, ev.eq_31, ev.eq_32, ev.eq_33, ev.eq_34, ev.eq_35, ev.eq_36, ev.eq_37, ev.eq_38, ev.eq_39, ev.eq_40, T.bind, insOf, look, ofO, seqOf, lsqOf, opW, cmW, cmI, eqS, boolK, sameC, setFld, putf, nxH, evs, evo, evc, evOr, evAnd, hd1, dget_enc, hv, hvs, hin]
            rw [hm]
            simp only [Option.map_some, hany]
            rfl
          · simp [bodyC, store, wipeE, dicOf, isKey, ex, ev.eq_1, ev.eq_2, ev.eq_3, ev.eq_4, ev.eq_5, ev.eq_6, ev.eq_7, ev.eq_8, ev.eq_9, ev.eq_10, ev.eq_11, ev.eq_12, ev.eq_13, ev.eq_14, ev.eq_15, ev.eq_16, ev.eq_17, ev.eq_18, ev.eq_19, ev.eq_20, ev.eq_21, ev.eq_22, ev.eq_23, ev.eq_24, ev.eq_25, ev.eq_26, ev.eq_27, ev.eq_28, ev.eq_29, ev.eq_30, ev.eq_31, ev.eq_32, ev.eq_33, ev.eq_34, ev.eq_35, ev.eq_36, ev.eq_37, ev.eq_38, ev.eq_39, ev.eq_40, T.bind, insOf, look, ofO, seqOf, lsqOf, opW, cmW, cmI, eqS, boolK, sameC, setFld, putf, nxH, evs, evo, evc, evOr, evAnd, hd1, dget_enc, hv, hvs])
      have hf : D.filter (fun _ => false) = [] := List.filter_eq_nil_iff.mpr (by simp)
      have hu : unlock (.d x (encD D)) (h.set x (.dicL (encD D))) = h := by
        simp only [unlock, List.set_set]
        exact set_same hd
      rw [hf, hu] at e
      simp only [List.map_nil] at e
      have e0 : eqDW h (.lst []) (.lst []) = some true := by simp [eqDW, froz, mapO]; rfl
      simp [exs, newL, ex, ev.eq_1, ev.eq_2, ev.eq_3, ev.eq_4, ev.eq_5, ev.eq_6, ev.eq_7, ev.eq_8, ev.eq_9, ev.eq_10, ev.eq_11, ev.eq_12, ev.eq_13, ev.eq_14, ev.eq_15, ev.eq_16, ev.eq_17, ev.eq_18, ev.eq_19, ev.eq_20, ev.eq_21, ev.eq_22, ev.eq_23, ev.eq_24, ev.eq_25, ev.eq_26, ev.eq_27, ev.eq_28, ev.eq_29, ev.eq_30, ev.eq_31, ev.eq_32, ev.eq_33, ev.eq_34, ev.eq_35, ev.eq_36, ev.eq_37, ev.eq_38, ev.eq_39, ev.eq_40, T.bind, insOf, look, ofO, seqOf, lsqOf, opW, cmW, cmI, eqS, boolK, sameC, setFld, putf, nxH, evs, evo, evc, evOr, evAnd, e, e0, h1, h2]
    · simp [exs, ex, ev.eq_1, ev.eq_2, ev.eq_3, ev.eq_4, ev.eq_5, ev.eq_6, ev.eq_7, ev.eq_8, ev.eq_9, ev.eq_10, ev.eq_11, ev.eq_12, ev.eq_13, ev.eq_14, ev.eq_15, ev.eq_16, ev.eq_17, ev.eq_18, ev.eq_19, ev.eq_20, ev.eq_21, ev.eq_22, ev.eq_23, ev.eq_24, ev.eq_25, ev.eq_26, ev.eq_27, ev.eq_28, ev.eq_29, ev.eq_30, ev.eq_31, ev.eq_32, ev.eq_33, ev.eq_34, ev.eq_35, ev.eq_36, ev.eq_37, ev.eq_38, ev.eq_39, ev.eq_40, T.bind, insOf, look, ofO, seqOf, lsqOf, opW, cmW, cmI, eqS, boolK, sameC, setFld, putf, nxH, evs, evo, evc, evOr, evAnd, h1, h2]
  · simp [exs, ex, ev.eq_1, ev.eq_2, ev.eq_3, ev.eq_4, ev.eq_5, ev.eq_6, ev.eq_7, ev.eq_8, ev.eq_9, ev.eq_10, ev.eq_11, ev.eq_12, ev.eq_13, ev.eq_14, ev.eq_15, ev.eq_16, ev.eq_17, ev.eq_18, ev.eq_19, ev.eq_20, ev.eq_21, ev.eq_22, ev.eq_23, ev.eq_24, ev.eq_25, ev.eq_26, ev.eq_27, ev.eq_28, ev.eq_29, ev.eq_30, ev.eq_31, ev.eq_32, ev.eq_33, ev.eq_34, ev.eq_35, ev.eq_36, ev.eq_37, ev.eq_38, ev.eq_39, ev.eq_40, T.bind, insOf, look, ofO, seqOf, lsqOf, opW, cmW, cmI, eqS, boolK, sameC, setFld, putf, nxH, evs, evo, evc, evOr, evAnd, h1]
end
end K40
namespace K40
open PySem Z
def rndM (there back : Int) : Int := there + if 1 > back then 1 else back
def dueM (there back room slots : Int) : Int := if room ≥ rndM there back then slots else slots / rndM there back * room + (if room < slots % rndM there back then room else slots % rndM there back)
def chkM (there back room : Int) (k : Nat) (a b : LS × Int) (c : LS × List (Int × Int)) : Bool := decide (a.2 = dueM there back room k) && decide (¬ b.2 < dueM there back room k) && endM there room k c.1 c.2
def stepR (room : Int) (k : Nat) (a : LS × Int) : Option (LS × Int) := match turnM a.1 [(k : Int)] room with
  | none => none
  | some (s', sent, _) => some (s', a.2 + sent.length)
def goM (there back room : Int) : Nat → Nat → LS × Int → LS × Int → LS × List (Int × Int) → Bool
  | 0, k, a, b, c => chkM there back room k a b c
  | n + 1, k, a, b, c => chkM there back room k a b c && match stepR room k a, stepR (room + 1) k b, stepM there room k c.1 c.2 with
    | some a', some b', some c' => goM there back room n (k + 1) a' b' c'
    | _, _, _ => false
theorem goM_at {there back room : Int} : ∀ {n k : Nat} {a b : LS × Int} {c : LS × List (Int × Int)}, goM there back room n k a b c = true → runM room there back k = some a → runM (room + 1) there back k = some b → lawM there back room k = some c → ∀ m, k ≤ m → m ≤ k + n →
    ∃ a b c, runM room there back m = some a ∧ runM (room + 1) there back m = some b ∧ lawM there back room m = some c ∧ chkM there back room m a b c = true
  | 0, k, a, b, c, h, ha, hb, hc, m, h1, h2 => by
    have : m = k := by omega
    subst this
    exact ⟨a, b, c, ha, hb, hc, h⟩
  | n + 1, k, a, b, c, h, ha, hb, hc, m, h1, h2 => by
    simp only [goM, Bool.and_eq_true] at h
    by_cases hm : m = k
    · subst hm
      exact ⟨a, b, c, ha, hb, hc, h.1⟩
    · have h3 := h.2
      split at h3
      · rename_i a' b' c' ea eb ec
        refine goM_at h3 ?_ ?_ ?_ m (by omega) (by omega)
        · obtain ⟨s, w⟩ := a
          simp only [runM, ha]
          exact ea
        · obtain ⟨s, w⟩ := b
          simp only [runM, hb]
          exact eb
        · obtain ⟨s, w⟩ := c
          simp only [lawM, hc]
          exact ec
      · cases h3
theorem all_go : ((List.range 4).all fun i => (List.range 4).all fun j => (List.range 10).all fun r => goM (i : Int) (j : Int) (r : Int) 24 0 (ini0 r i j, 0) (ini0 (r + 1) i j, 0) (ini0 r i j, [])) = true := by decide +kernel
theorem all_ok {i j r m : Nat} (hi : i < 4) (hj : j < 4) (hr : r < 10) (hm : m < 25) : ∃ a b c, runM r i j m = some a ∧ runM (r + 1) i j m = some b ∧ lawM i j r m = some c ∧ chkM i j r m a b c = true := by
  have h := all_go
  simp only [List.all_eq_true, List.mem_range] at h
  exact goM_at (h i hi j hj r hr) rfl rfl rfl m (Nat.zero_le _) (by omega)
end K40
namespace K40
open PySem Z
def fuel : Nat := 4
abbrev r2 : S := .set (.name 6) (.call 8 (.cons (.var 2) (.cons (.var 3) .nil)))
abbrev r3 : S := .set (.name 7) (.bin .add (.var 2) (.max2 (.var 3) (.int 1)))
abbrev r4 : S := .set (.name 8) (.ite (.cmp .ge (.var 4) (.var 6)) (.var 5) (.bin .add (.bin .mul (.bin .fdiv (.var 5) (.var 7)) (.var 4)) (.min2 (.bin .mod (.var 5) (.var 7)) (.var 4))))
abbrev r5 : S := .ite (.or (.cons (.eqI true (.var 6) (.var 7)) (.cons (.eqI true (.call 7 (.cons (.var 4) (.cons (.var 2) (.cons (.var 3) (.cons (.var 5) .nil))))) (.var 8)) (.cons (.cmp .lt (.call 7 (.cons (.bin .add (.var 4) (.int 1)) (.cons (.var 2) (.cons (.var 3) (.cons (.var 5) .nil))))) (.var 8)) .nil)))) (.cons (.ret (.bl false)) .nil) .nil
abbrev r6 : S := .set (.tup [9, 10]) (.tup (.cons (.make 0 (.cons (.var 4) (.cons (.var 2) (.cons (.var 3) .nil)))) (.cons .dic .nil)))
abbrev restB : Ss := .cons r2 (.cons r3 (.cons r4 (.cons r5 (.cons r6 (.cons sLp (.cons sEnd .nil))))))
variable {ns : List Int} {i j r m : Nat}
theorem rest_ok (hi : i < 4) (hj : j < 4) (hr : r < 10) (hm : m < 25) : ∃ σ' h', exs (callN pg 3) pg.M pg.ini restB (ev17 ns i j r m none none none none none none none none none) [.dice] = .ok (.nx, σ') h' := by
  obtain ⟨⟨sa, wa⟩, ⟨sb, wb⟩, ⟨sc, D⟩, ea, eb, ec, hc⟩ := all_ok hi hj hr hm
  simp only [chkM, Bool.and_eq_true, decide_eq_true_eq] at hc
  obtain ⟨⟨hc1, hc2⟩, hc3⟩ := hc
  have q0 : Sep [.dice] [(0, .dice)] := ⟨by simp, by simp⟩
  have e2 : ex (callN pg 3) pg.M pg.ini r2 (ev17 ns i j r m none none none none none none none none none) [.dice] = .ok (.nx, ev17 ns i j r m (some (.int (rndM i j))) none none none none none none none none) [.dice] := by
    have h := rfa_ok (k := 2) (there := (i : Int)) (back := (j : Int)) (h := [.dice])
    have h' : callN pg 3 8 [.int (i : Int), .int (j : Int)] [.dice] = _ := h
    simp [ex, ev.eq_1, ev.eq_2, ev.eq_3, ev.eq_4, ev.eq_5, ev.eq_6, ev.eq_7, ev.eq_8, ev.eq_9, ev.eq_10, ev.eq_11, ev.eq_12, ev.eq_13, ev.eq_14, ev.eq_15, ev.eq_16, ev.eq_17, ev.eq_18, ev.eq_19, ev.eq_20, ev.eq_21, ev.eq_22, ev.eq_23, ev.eq_24, ev.eq_25, ev.eq_26, ev.eq_27, ev.eq_28, ev.eq_29, ev.eq_30, ev.eq_31, ev.eq_32, ev.eq_33, ev.eq_34, ev.eq_35, ev.eq_36, ev.eq_37, ev.eq_38, ev.eq_39, ev.eq_40, T.bind, insOf, look, ofO, seqOf, lsqOf, opW, cmW, cmI, eqS, boolK, sameC, setFld, putf, nxH, evs, evo, evc, evOr, evAnd, h', rndM]
  have e3 : ex (callN pg 3) pg.M pg.ini r3 (ev17 ns i j r m (some (.int (rndM i j))) none none none none none none none none) [.dice] = .ok (.nx, ev17 ns i j r m (some (.int (rndM i j))) (some (.int (rndM i j))) none none none none none none none) [.dice] := by
    simp [ex, ev.eq_1, ev.eq_2, ev.eq_3, ev.eq_4, ev.eq_5, ev.eq_6, ev.eq_7, ev.eq_8, ev.eq_9, ev.eq_10, ev.eq_11, ev.eq_12, ev.eq_13, ev.eq_14, ev.eq_15, ev.eq_16, ev.eq_17, ev.eq_18, ev.eq_19, ev.eq_20, ev.eq_21, ev.eq_22, ev.eq_23, ev.eq_24, ev.eq_25, ev.eq_26, ev.eq_27, ev.eq_28, ev.eq_29, ev.eq_30, ev.eq_31, ev.eq_32, ev.eq_33, ev.eq_34, ev.eq_35, ev.eq_36, ev.eq_37, ev.eq_38, ev.eq_39, ev.eq_40, T.bind, insOf, look, ofO, seqOf, lsqOf, opW, cmW, cmI, eqS, boolK, sameC, setFld, putf, nxH, evs, evo, evc, evOr, evAnd, rndM]
  have hrn : 0 < rndM i j ∧ rndM i j < 1073741824 := by
    unfold rndM
    split <;> omega
  have e4 : ex (callN pg 3) pg.M pg.ini r4 (ev17 ns i j r m (some (.int (rndM i j))) (some (.int (rndM i j))) none none none none none none none) [.dice] = .ok (.nx, ev17 ns i j r m (some (.int (rndM i j))) (some (.int (rndM i j))) (some (.int (dueM i j r m))) none none none none none none) [.dice] := by
    have hr2 : (-18446744073709551616 : Int) < r ∧ (r : Int) < 18446744073709551616 := by omega
    by_cases c : (rndM i j) ≤ r
    · simp [ex, ev.eq_1, ev.eq_2, ev.eq_3, ev.eq_4, ev.eq_5, ev.eq_6, ev.eq_7, ev.eq_8, ev.eq_9, ev.eq_10, ev.eq_11, ev.eq_12, ev.eq_13, ev.eq_14, ev.eq_15, ev.eq_16, ev.eq_17, ev.eq_18, ev.eq_19, ev.eq_20, ev.eq_21, ev.eq_22, ev.eq_23, ev.eq_24, ev.eq_25, ev.eq_26, ev.eq_27, ev.eq_28, ev.eq_29, ev.eq_30, ev.eq_31, ev.eq_32, ev.eq_33, ev.eq_34, ev.eq_35, ev.eq_36, ev.eq_37, ev.eq_38, ev.eq_39, ev.eq_40, T.bind, insOf, look, ofO, seqOf, lsqOf, opW, cmW, cmI, eqS, boolK, sameC, setFld, putf, nxH, evs, evo, evc, evOr, evAnd, dueM, c]
    · simp [ex, ev.eq_1, ev.eq_2, ev.eq_3, ev.eq_4, ev.eq_5, ev.eq_6, ev.eq_7, ev.eq_8, ev.eq_9, ev.eq_10, ev.eq_11, ev.eq_12, ev.eq_13, ev.eq_14, ev.eq_15, ev.eq_16, ev.eq_17, ev.eq_18, ev.eq_19, ev.eq_20, ev.eq_21, ev.eq_22, ev.eq_23, ev.eq_24, ev.eq_25, ev.eq_26, ev.eq_27, ev.eq_28, ev.eq_29, ev.eq_30, ev.eq_31, ev.eq_32, ev.eq_33, ev.eq_34, ev.eq_35, ev.eq_36, ev.eq_37, ev.eq_38, ev.eq_39, ev.eq_40, T.bind, insOf, look, ofO, seqOf, lsqOf, opW, cmW, cmI, eqS, boolK, sameC, setFld, putf, nxH, evs, evo, evc, evOr, evAnd, dueM, c, hrn, hr2]
  obtain ⟨h5, e5a, q5⟩ := sent_ok (k := 1) (slots := m) (by omega) q0 (by omega) (by omega) (by omega) ea
  obtain ⟨h6, e5b, q6⟩ := sent_ok (k := 1) (slots := m) (by omega) q5 (by omega) (by omega) (by omega) eb
  have e5 : ex (callN pg 3) pg.M pg.ini r5 (ev17 ns i j r m (some (.int (rndM i j))) (some (.int (rndM i j))) (some (.int (dueM i j r m))) none none none none none none) [.dice] = .ok (.nx, ev17 ns i j r m (some (.int (rndM i j))) (some (.int (rndM i j))) (some (.int (dueM i j r m))) none none none none none none) h6 := by
    have ha : callN pg 3 7 [.int (r : Int), .int (i : Int), .int (j : Int), .int (m : Int)] [.dice] = _ := e5a
    have hb : callN pg 3 7 [.int ((r : Int) + 1), .int (i : Int), .int (j : Int), .int (m : Int)] h5 = _ := e5b
    subst hc1
    simp [exs, ex, ev.eq_1, ev.eq_2, ev.eq_3, ev.eq_4, ev.eq_5, ev.eq_6, ev.eq_7, ev.eq_8, ev.eq_9, ev.eq_10, ev.eq_11, ev.eq_12, ev.eq_13, ev.eq_14, ev.eq_15, ev.eq_16, ev.eq_17, ev.eq_18, ev.eq_19, ev.eq_20, ev.eq_21, ev.eq_22, ev.eq_23, ev.eq_24, ev.eq_25, ev.eq_26, ev.eq_27, ev.eq_28, ev.eq_29, ev.eq_30, ev.eq_31, ev.eq_32, ev.eq_33, ev.eq_34, ev.eq_35, ev.eq_36, ev.eq_37, ev.eq_38, ev.eq_39, ev.eq_40, T.bind, insOf, look, ofO, seqOf, lsqOf, opW, cmW, cmI, eqS, boolK, sameC, setFld, putf, nxH, evs, evo, evc, evOr, evAnd, ha, hb, hc2]
  obtain ⟨h7, c, n, l, e6, q7⟩ := make_ok (k := 2) (σ := ev17 ns i j r m (some (.int (rndM i j))) (some (.int (rndM i j))) (some (.int (dueM i j r m))) none none none none none none) (room := r) (there := i) (back := j) (es := .cons (.var 4) (.cons (.var 2) (.cons (.var 3) .nil))) q6 (by omega) (by omega) (by omega) (by simp [ex, ev.eq_1, ev.eq_2, ev.eq_3, ev.eq_4, ev.eq_5, ev.eq_6, ev.eq_7, ev.eq_8, ev.eq_9, ev.eq_10, ev.eq_11, ev.eq_12, ev.eq_13, ev.eq_14, ev.eq_15, ev.eq_16, ev.eq_17, ev.eq_18, ev.eq_19, ev.eq_20, ev.eq_21, ev.eq_22, ev.eq_23, ev.eq_24, ev.eq_25, ev.eq_26, ev.eq_27, ev.eq_28, ev.eq_29, ev.eq_30, ev.eq_31, ev.eq_32, ev.eq_33, ev.eq_34, ev.eq_35, ev.eq_36, ev.eq_37, ev.eq_38, ev.eq_39, ev.eq_40, T.bind, insOf, look, ofO, seqOf, lsqOf, opW, cmW, cmI, eqS, boolK, sameC, setFld, putf, nxH, evs, evo, evc, evOr, evAnd])
  have q8 := q7.new (.dic [])
  have e6' : ex (callN pg 3) pg.M pg.ini r6 (ev17 ns i j r m (some (.int (rndM i j))) (some (.int (rndM i j))) (some (.int (dueM i j r m))) none none none none none none) h6 = .ok (.nx, ev17 ns i j r m (some (.int (rndM i j))) (some (.int (rndM i j))) (some (.int (dueM i j r m))) (some (.ref h6.length)) (some (.ref h7.length)) none none none none) (h7 ++ [.dic []]) := by
    have e6'' : ev (callN pg 3) pg.M pg.ini (.make 0 (.cons (.var 4) (.cons (.var 2) (.cons (.var 3) .nil)))) (ev17 ns i j r m (some (.int (rndM i j))) (some (.int (rndM i j))) (some (.int (dueM i j r m))) none none none none none none) h6 = _ := e6
    simp only [ex, ev.eq_17, evs, e6'', T.bind, ev.eq_19]
    rfl
  obtain ⟨h9, c9, n9, i9, b11, b12, b13, b14, e7, q9⟩ := tL (k := 2) (ns := ns) (a6 := some (.int (rndM i j))) (a7 := some (.int (rndM i j))) (a8 := some (.int (dueM i j r m))) (a11 := none) (a12 := none) (a13 := none) (a14 := none) (slots := m) (by omega) q8 ec
  have e8 := tE (C := callN pg 3) (ns := ns) (back := j) (a6 := some (.int (rndM i j))) (a7 := some (.int (rndM i j))) (a8 := some (.int (dueM i j r m))) (a11 := b11) (a12 := b12) (a13 := b13) (a14 := b14) (slots := m) q9 hc3
  exact ⟨_, h9, (exs_cons e2).trans ((exs_cons e3).trans ((exs_cons e4).trans ((exs_cons e5).trans ((exs_cons e6').trans ((exs_cons e7).trans ((exs_cons e8).trans (by simp only [exs]; rfl)))))))⟩
abbrev r1 : S := .set (.tup [2, 3, 4, 5]) (.tup (.cons (.call 1 (.cons (.var 1) (.cons (.int 4) .nil))) (.cons (.call 1 (.cons (.var 1) (.cons (.int 4) .nil))) (.cons (.call 1 (.cons (.var 1) (.cons (.int 10) .nil))) (.cons (.call 1 (.cons (.var 1) (.cons (.int 25) .nil))) .nil)))))
theorem draw_ok : ex (callN pg 3) pg.M pg.ini r1 [some (.scr ns), some (.ref 0), none, none, none, none, none, none, none, none, none, none, none, none, none, none, none] [.dice] =
    .draw 4 fun i => .draw 4 fun j => .draw 10 fun r => .draw 25 fun m => .ok (.nx, ev17 ns i j r m none none none none none none none none none) [.dice] := by
  have hc : ∀ k : Nat, 0 < k → k < 1073741824 → callN pg 3 1 [.ref 0, .int (k : Int)] [.dice] = .draw k fun i => .ok (.int (i : Int)) [.dice] := fun k h1 h2 => by
    have e0 : callN pg 3 1 [.ref 0, .int (k : Int)] [.dice] = rollT [.ref 0, .int (k : Int)] [.dice] := rfl
    rw [e0]
    have h3 : (0 : Int) < k ∧ (k : Int) < 1073741824 := by omega
    simp only [rollT, List.getElem?_cons_zero, if_pos h3, Int.toNat_natCast]
  have h4 := hc 4 (by decide) (by decide)
  have h10 := hc 10 (by decide) (by decide)
  have h25 := hc 25 (by decide) (by decide)
  simp only [Int.cast_ofNat_Int] at h4 h10 h25
  simp [ex, ev.eq_1, ev.eq_2, ev.eq_3, ev.eq_4, ev.eq_5, ev.eq_6, ev.eq_7, ev.eq_8, ev.eq_9, ev.eq_10, ev.eq_11, ev.eq_12, ev.eq_13, ev.eq_14, ev.eq_15, ev.eq_16, ev.eq_17, ev.eq_18, ev.eq_19, ev.eq_20, ev.eq_21, ev.eq_22, ev.eq_23, ev.eq_24, ev.eq_25, ev.eq_26, ev.eq_27, ev.eq_28, ev.eq_29, ev.eq_30, ev.eq_31, ev.eq_32, ev.eq_33, ev.eq_34, ev.eq_35, ev.eq_36, ev.eq_37, ev.eq_38, ev.eq_39, ev.eq_40, T.bind, insOf, look, ofO, seqOf, lsqOf, opW, cmW, cmI, eqS, boolK, sameC, setFld, putf, nxH, evs, evo, evc, evOr, evAnd, h4, h10, h25, setAll]
theorem plain (ns : List Int) : (callN pg fuel 3 [.scr ns] []).All (fun w _ => w = .bl true) (fun _ _ => False) := by
  have e0 : callN pg fuel 3 [.scr ns] [] = ((exs (callN pg 3) pg.M pg.ini b3 [some (.scr ns), none, none, none, none, none, none, none, none, none, none, none, none, none, none, none, none] []).bind out) := rfl
  rw [e0]
  refine T.All.of_bind ?_
  show T.All _ _ (exs _ _ _ (.cons (.loop (.name 1) (.seq (.call 2 (.cons (.var 0) (.cons (.int 1) .nil)))) (.cons r1 restB)) (.cons (.ret (.bl true)) .nil)) _ _)
  have hI : evI (callN pg 3) pg.M pg.ini (.seq (.call 2 (.cons (.var 0) (.cons (.int 1) .nil)))) [some (.scr ns), none, none, none, none, none, none, none, none, none, none, none, none, none, none, none, none] [] = .ok ([.ref 0], .no) [.dice] := by
    have e1 : callN pg 3 2 [.scr ns, .int 1] [] = .ok (.lst [.ref 0]) [.dice] := rfl
    simp [evI, ex, ev.eq_1, ev.eq_2, ev.eq_3, ev.eq_4, ev.eq_5, ev.eq_6, ev.eq_7, ev.eq_8, ev.eq_9, ev.eq_10, ev.eq_11, ev.eq_12, ev.eq_13, ev.eq_14, ev.eq_15, ev.eq_16, ev.eq_17, ev.eq_18, ev.eq_19, ev.eq_20, ev.eq_21, ev.eq_22, ev.eq_23, ev.eq_24, ev.eq_25, ev.eq_26, ev.eq_27, ev.eq_28, ev.eq_29, ev.eq_30, ev.eq_31, ev.eq_32, ev.eq_33, ev.eq_34, ev.eq_35, ev.eq_36, ev.eq_37, ev.eq_38, ev.eq_39, ev.eq_40, T.bind, insOf, look, ofO, seqOf, lsqOf, opW, cmW, cmI, eqS, boolK, sameC, setFld, putf, nxH, evs, evo, evc, evOr, evAnd, e1]
  have e2 : ∀ σ h, ex (callN pg 3) pg.M pg.ini (.loop (.name 1) (.seq (.call 2 (.cons (.var 0) (.cons (.int 1) .nil)))) (.cons r1 restB)) σ h = ((evI (callN pg 3) pg.M pg.ini (.seq (.call 2 (.cons (.var 0) (.cons (.int 1) .nil)))) σ h).bind fun p h => (forS (fun x σ h => match store (.name 1) x σ with
      | some σ' => exs (callN pg 3) pg.M pg.ini (.cons r1 restB) σ' h
      | none => .fail) p.1 σ h).bind fun q h => .ok q (unlock p.2 h)) := fun σ h => by
    simp only [ex] <;> rfl
  have key : (ex (callN pg 3) pg.M pg.ini (.loop (.name 1) (.seq (.call 2 (.cons (.var 0) (.cons (.int 1) .nil)))) (.cons r1 restB)) [some (.scr ns), none, none, none, none, none, none, none, none, none, none, none, none, none, none, none, none] []).All (fun p _ => p.1 = .nx) (fun _ _ => False) := by
    rw [e2, hI]
    show T.All _ _ (T.bind (T.bind (exs (callN pg 3) pg.M pg.ini (.cons r1 restB) [some (.scr ns), some (.ref 0), none, none, none, none, none, none, none, none, none, none, none, none, none, none, none] [.dice]) _) _)
    have e3 : ∀ σ h, exs (callN pg 3) pg.M pg.ini (.cons r1 restB) σ h = (ex (callN pg 3) pg.M pg.ini r1 σ h).bind fun p h => match p.1 with
      | .nx => exs (callN pg 3) pg.M pg.ini restB p.2 h
      | _ => .ok p h := fun σ h => by
      simp only [exs] <;> rfl
    rw [e3, draw_ok]
    refine ⟨by decide, by decide, fun i hi => ⟨by decide, by decide, fun j hj => ⟨by decide, by decide, fun r hr => ⟨by decide, by decide, fun m hm => ?_⟩⟩⟩⟩
    obtain ⟨σ', h', e⟩ := rest_ok (ns := ns) hi hj hr hm
    show T.All _ _ (T.bind (T.bind (exs (callN pg 3) pg.M pg.ini restB (ev17 ns i j r m none none none none none none none none none) [.dice]) _) _)
    rw [e]
    exact rfl
  have e4 : ∀ σ h, exs (callN pg 3) pg.M pg.ini (.cons (.loop (.name 1) (.seq (.call 2 (.cons (.var 0) (.cons (.int 1) .nil)))) (.cons r1 restB)) (.cons (.ret (.bl true)) .nil)) σ h = (ex (callN pg 3) pg.M pg.ini (.loop (.name 1) (.seq (.call 2 (.cons (.var 0) (.cons (.int 1) .nil)))) (.cons r1 restB)) σ h).bind fun p h => match p.1 with
      | .nx => exs (callN pg 3) pg.M pg.ini (.cons (.ret (.bl true)) .nil) p.2 h
      | _ => .ok p h := fun σ h => by
    rw [exs] <;> rfl
  rw [e4]
  refine T.All.of_bind (key.mono (fun p h hp => ?_) fun _ _ z => z)
  obtain ⟨fl, σ'⟩ := p
  cases hp
  exact rfl
end K40
open PySem PySem.W PyProof.Rows in
set_option maxRecDepth 100000 in
set_option maxHeartbeats 0 in
theorem PySem.Challenge.cw_crossloom_k40_links_told_by_their_room_holds : PySem.Challenge.rw_crossloom_k40_links_told_by_their_room.Holds := by
  w_on; o_law; k_head; (case hw => w_witness2)
  k_fill
  refine Z.walk (l := PySem.Challenge.rw_crossloom_k40_links_told_by_their_room) (k := 2 * K40.fuel) (x := "_law_script") ⟨rfl, by decide, by decide⟩ rfl rfl (fun w h Y => PySem.W.kIn_of Y) ?F
  case F =>
    intro w mg fa h KX G hmg
    refine' K40.all_mk KX G hmg ?a0 ?a1 ?a2 ?a3 ?a7 ?a8 ?aC0 ?a4 ?i4 ?a5 ?i5 ?a6 ?i6 ?l0 ?c0 ?k0 ?l1 ?c1 ?k1 ?l2 ?c2 ?k2 ?l3 ?c3 ?k3 ?l4 ?c4 ?k4 ?l5 ?c5 ?k5 ?l6 ?c6 ?k6 ?l7 ?c7 ?k7 ?l8 ?c8 ?k8 ?pg0 ?hd0 ?po0 ?sa0 ?mk0 ?kc0 ?n0_0 ?n0_1 ?n0_2 ?n0_3 ?n0_4 ?n0_5 ?n0_6 ?n0_7 ?n0_8 ?z_abs ?z_int ?z_len ?z_list ?z_max ?z_min ?z_range ?z_tuple K40.plain
    (case a0 => k_is)
    (case a1 => k_is)
    (case a2 => k_is)
    (case a3 => k_is)
    (case a7 => k_is)
    (case a8 => k_is)
    (case aC0 => k_is)
    (case a4 => k_is)
    (case i4 => k_is)
    (case a5 => k_is)
    (case i5 => k_is)
    (case a6 => k_is)
    (case i6 => k_is)
    (case l0 => k_is)
    (case c0 => k_is)
    (case k0 => k_is)
    (case l1 => k_is)
    (case c1 => k_is)
    (case k1 => k_is)
    (case l2 => k_is)
    (case c2 => k_is)
    (case k2 => k_is)
    (case l3 => k_is)
    (case c3 => k_is)
    (case k3 => k_is)
    (case l4 => k_is)
    (case c4 => k_is)
    (case k4 => k_is)
    (case l5 => k_is)
    (case c5 => k_is)
    (case k5 => k_is)
    (case l6 => k_is)
    (case c6 => k_is)
    (case k6 => k_is)
    (case l7 => k_is)
    (case c7 => k_is)
    (case k7 => k_is)
    (case l8 => k_is)
    (case c8 => k_is)
    (case k8 => k_is)
    (case pg0 => k_is)
    (case hd0 => k_is)
    (case po0 => k_is)
    (case sa0 => k_is)
    (case mk0 => k_is)
    (case kc0 => k_is)
    (case n0_0 => k_is)
    (case n0_1 => k_is)
    (case n0_2 => k_is)
    (case n0_3 => k_is)
    (case n0_4 => k_is)
    (case n0_5 => k_is)
    (case n0_6 => k_is)
    (case n0_7 => k_is)
    (case n0_8 => k_is)
    (case z_abs => k_is)
    (case z_int => k_is)
    (case z_len => k_is)
    (case z_list => k_is)
    (case z_max => k_is)
    (case z_min => k_is)
    (case z_range => k_is)
    (case z_tuple => k_is)
