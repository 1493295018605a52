import PyProof.Rows.All
import Wide.All
import OpenK.AllK
import Wide.FinOn
import HandS.ForMost
import HandS.TupAny
import HandS.TupMul
import HandS.Replace
import HandS.IsInst
import HandS.Deep
import HandS.Conv
import HandS.NoneIn
import HandS.More
import PyProof.ListStr
import KE.KeyNested
import KE.KDictKeyed
import PySem.Challenge.RW_rulewright_k01_grammars_looked_at
set_option Elab.async false
set_option linter.all false
set_option maxRecDepth 100000
set_option maxHeartbeats 4000000
/-! Values by content (D), what an expression and a block give (ev, exec), and how such a value lies in the heap (Rep). -/
namespace RW
open PySem L2

/-! ## 1. values by content -/
inductive D where
  | non | bl (b : Bool) | int (i : Int) | str (s : List Nat) | tup (xs : List D) | lst (o : Bool) (xs : List D) | dct (o : Bool) (ks vs : List D) | scr (xs : List Int)

inductive Rs (α : Type) where
  | ok (a : α) | exc (c : Str) | bad
namespace Rs
def bind {α β : Type} : Rs α → (α → Rs β) → Rs β
  | .ok a, f => f a
  | .exc c, _ => .exc c
  | .bad, _ => .bad
def of {α : Type} : Option α → Rs α
  | some a => .ok a
  | none => .bad
def wp {α : Type} : Rs α → (α → Prop) → (Str → Prop) → Prop
  | .ok a, P, _ => P a
  | .exc c, _, E => E c
  | .bad, _, _ => False
theorem wp_bind {α β : Type} {r : Rs α} {f : α → Rs β} {P : β → Prop} {E : Str → Prop} : (r.bind f).wp P E → r.wp (fun a => (f a).wp P E) E := by
  cases r <;> exact id
theorem wp_of {α : Type} {r : Option α} {P : α → Prop} {E : Str → Prop} (h : (Rs.of r).wp P E) : ∃ a, r = some a ∧ P a := by
  cases r with
  | none => exact h.elim
  | some a => exact ⟨a, rfl, h⟩
theorem wp_mono {α : Type} {r : Rs α} {P P' : α → Prop} {E E' : Str → Prop} (h : r.wp P E) (hp : ∀ a, P a → P' a) (he : ∀ c, E c → E' c) : r.wp P' E' := by
  cases r with
  | ok a => exact hp a h
  | exc c => exact he c h
  | bad => exact h
end Rs

mutual
def fz : D → D
  | .tup xs => .tup (fzs xs)
  | .lst _ xs => .lst false (fzs xs)
  | .dct _ ks vs => .dct false ks (fzs vs)
  | .non => .non | .bl b => .bl b | .int i => .int i | .str s => .str s | .scr xs => .scr xs
def fzs : List D → List D
  | [] => []
  | x :: xs => fz x :: fzs xs
end
mutual
/-- a list or dict that is shared is in it -/
def hasF : D → Bool
  | .tup xs => hasFs xs
  | .lst o xs => !o || hasFs xs
  | .dct o ks vs => !o || (hasFs ks || hasFs vs)
  | .scr _ => true
  | .non => false | .bl _ => false | .int _ => false | .str _ => false
def hasFs : List D → Bool
  | [] => false
  | x :: xs => hasF x || hasFs xs
end
mutual
/-- no list, no dict is in it -/
def flat : D → Bool
  | .tup xs => flats xs
  | .lst _ _ => false
  | .dct _ _ _ => false
  | .scr _ => false
  | .non => true | .bl _ => true | .int _ => true | .str _ => true
def flats : List D → Bool
  | [] => true
  | x :: xs => flat x && flats xs
end
mutual
/-- equal by content -/
def deq : D → D → Bool
  | .non, .non => true
  | .bl a, .bl b => a == b
  | .bl a, .int j => (if a then 1 else 0) == j
  | .int i, .bl b => i == (if b then 1 else 0)
  | .int i, .int j => i == j
  | .str x, .str y => x == y
  | .lst _ xs, .lst _ ys => deqs xs ys
  | .tup xs, .tup ys => deqs xs ys
  | _, _ => false
def deqs : List D → List D → Bool
  | [], [] => true
  | x :: xs, y :: ys => deq x y && deqs xs ys
  | _, _ => false
end
mutual
/-- how deep; no dict, no script in it -/
def dep : D → Option Nat
  | .tup xs => (deps xs).map (· + 1)
  | .lst _ xs => (deps xs).map (· + 1)
  | .dct _ _ _ => none
  | .scr _ => none
  | .non => some 0 | .bl _ => some 0 | .int _ => some 0 | .str _ => some 0
def deps : List D → Option Nat
  | [] => some 0
  | x :: xs => match dep x, deps xs with
    | some a, some b => some (max a b)
    | _, _ => none
end
/-- == may be asked -/
def eqOk (k : Nat) (d : D) : Bool := match dep d with
  | some n => decide (n ≤ k)
  | none => false
/-- no object -/
def scal : D → Bool
  | .non => true | .bl _ => true | .int _ => true | .str _ => true
  | _ => false

/-! ## 2. the language -/
/-- what is done with values alone -/
inductive Pr where
  | tup | lst | add | sub | mul | fdiv | mod | pow | neg | eq | ne | lt | le | gt | ge | isIn | notIn | isNone | notNone | ix | cut (lo hi : Bool)
  | asInt | asStr | asLst | len | list | tuple | isBool | all | split | index | range | enum
  deriving DecidableEq

inductive E where
  | c (d : D) | v (i : Nat) | p (o : Pr) (es : List E) | call (f : Nat) (es : List E) | and (a b : E) | or (a b : E) | not (a : E) | ite (c a b : E) | chain (o1 o2 : Pr) (a b c : E)
  /-- elt, the target's slots (one name, or several by unpacking), what is walked, the test -/
  | lc (elt : E) (one : Bool) (tg : List Nat) (own : List Nat) (it : E) (cond : E)

mutual
/-- the slots that are read -/
def vars : E → List Nat
  | .c _ => []
  | .v i => [i]
  | .p _ es => varsL es
  | .call _ es => varsL es
  | .and a b => vars a ++ vars b
  | .or a b => vars a ++ vars b
  | .not a => vars a
  | .ite c a b => vars c ++ (vars a ++ vars b)
  | .chain _ _ a b c => vars a ++ (vars b ++ vars c)
  | .lc elt _ _ _ it cond => vars it ++ (vars elt ++ vars cond)
def varsL : List E → List Nat
  | [] => []
  | e :: es => vars e ++ varsL es
end

/-- the slots by what stands in them -/
abbrev En := List (Option D)

def items : D → Option (List D)
  | .tup xs => some xs
  | .lst _ xs => some xs
  | .str s => some (s.map fun c => .str [c])
  | _ => none

/-- the place of an index -/
def ixAt {α : Type} (xs : List α) (i : Int) : Option α := if 0 ≤ i then xs[i.toNat]? else if -(xs.length : Int) ≤ i then xs[(i + xs.length).toNat]? else none
def lim : Nat := 16777216
def cutAt (n d : Nat) : Option Int → Nat
  | none => d
  | some i => if i < 0 then (i + n).toNat else min i.toNat n
def cutL {α : Type} (xs : List α) (lo hi : Option Int) : List α := (xs.drop (cutAt xs.length 0 lo)).take (cutAt xs.length xs.length hi - cutAt xs.length 0 lo)
def bools : List D → Option (List Bool)
  | [] => some []
  | .bl b :: r => (bools r).map (b :: ·)
  | _ => none
def lookB {α : Type} : List Bool → List α → Option α
  | true :: _, v :: _ => some v
  | false :: bs, _ :: vs => lookB bs vs
  | _, _ => none
def putB {α : Type} (v : α) : List Bool → List α → List α
  | true :: _, _ :: us => v :: us
  | false :: bs, u :: us => u :: putB v bs us
  | _, us => us
/-- which keys are k -/
def atB (k : D) (ks : List D) : List Bool := ks.map fun x => deq x k
def atKeyD (k : D) (ks vs : List D) : Option D := lookB (atB k ks) vs
def hasKey (k : D) (ks : List D) : Bool := ks.any fun x => deq x k
/-- d[k] = v -/
def putD (k v : D) (ks vs : List D) : List D × List D := if hasKey k ks then (ks, putB v (atB k ks) vs) else (ks ++ [k], vs ++ [v])
mutual
/-- a key: numbers, texts, None, tuples of such to depth 8 -/
def keyD : Nat → D → Bool
  | _, .non => true
  | _, .int _ => true
  | _, .str _ => true
  | n + 1, .tup xs => keyDs n xs
  | _, _ => false
def keyDs : Nat → List D → Bool
  | _, [] => true
  | n, x :: xs => keyD n x && keyDs n xs
end
/-- a number or a text -/
def isKk : D → Bool
  | .int _ => true
  | .str _ => true
  | _ => false
def isKt : D → Bool
  | .tup xs => keyDs 7 xs
  | _ => false
/-- k may be looked for in a dict of the keys ks: all numbers and texts, or all tuples -/
def keyOk (k : D) (ks : List D) : Bool := (isKk k && ks.all isKk) || (isKt k && ks.all isKt)
def rangeL (lo : Int) (n : Nat) : List D := (List.range n).map fun i => D.int (lo + (i : Nat))
def enumL (k : Nat) : List D → List D
  | [] => []
  | x :: xs => .tup [.int (k : Nat), x] :: enumL (k + 1) xs
def great : Int := 4611686018427387904
def mulOk (i j : Int) : Bool := decide ((-(2 ^ 64) < i ∧ i < 2 ^ 64) ∨ (-(2 ^ 64) < j ∧ j < 2 ^ 64))

def pTup (ds : List D) : Option D := if ds.length ≤ lim then some (.tup ds) else none
def pLst (ds : List D) : Option D := if ds.length ≤ lim then some (.lst true ds) else none
def pAdd : List D → Option D
  | [.int a, .int b] => some (.int (a + b))
  | [.str a, .str b] => if a.length + b.length ≤ lim then some (.str (a ++ b)) else none
  | [.lst _ a, .lst _ b] => if a.length + b.length ≤ lim then some (.lst true (a ++ b)) else none
  | [.tup a, .tup b] => if a.length + b.length ≤ lim then some (.tup (a ++ b)) else none
  | _ => none
def pSub : List D → Option D
  | [.int a, .int b] => some (.int (a - b))
  | _ => none
def pMul : List D → Option D
  | [.int a, .int b] => if mulOk a b then some (.int (a * b)) else none
  | [.tup xs, .int k] => if 2 ≤ k ∧ k ≤ 1000 ∧ xs.length ≤ 1000 ∧ xs.isEmpty = false ∧ flats xs = true then some (.tup (List.replicate k.toNat xs).flatten) else none
  | _ => none
def pFdiv : List D → Option D
  | [.int a, .int b] => if 0 < b ∧ b < 1073741824 then some (.int (a / b)) else none
  | _ => none
def pMod : List D → Option D
  | [.int a, .int b] => if 0 < b then some (.int (a % b)) else none
  | _ => none
def pPow : List D → Option D
  | [.int a, .int b] => if 0 ≤ b ∧ b ≤ 1000000 ∧ a.natAbs < 2 ^ 64 then some (.int (a ^ b.toNat)) else none
  | _ => none
def pNeg : List D → Option D
  | [.int a] => some (.int (-a))
  | _ => none
def pEq (neg : Bool) : List D → Option D
  | [a, b] => if eqOk 190 a = true ∧ eqOk 190 b = true then some (.bl (deq a b != neg)) else none
  | _ => none
def pCmp (f : Int → Int → Bool) : List D → Option D
  | [.int a, .int b] => some (.bl (f a b))
  | _ => none
/-- a text in a text -/
def inText : List Nat → List Nat → Bool
  | [c], b => decide (c ∈ b)
  | a, b => !(Builtin.Str.occurrences ⟨b.toArray⟩ ⟨a.toArray⟩ 0 b.length 1).isEmpty
def pIn (neg : Bool) : List D → Option D
  | [.str a, .str b] => some (.bl (inText a b != neg))
  | [a, .lst _ b] => if eqOk 64 a = true ∧ eqOk 64 (.lst true b) = true then some (.bl ((b.any fun z => deq z a) != neg)) else none
  | [a, .tup b] => if scal a = true ∧ b.all scal = true then some (.bl ((b.any fun z => deq z a) != neg)) else none
  | [a, .dct _ ks _] => if keyOk a ks = true then some (.bl (hasKey a ks != neg)) else none
  | _ => none
def isNon : D → Bool
  | .non => true
  | _ => false
def pNone (neg : Bool) : List D → Option D
  | [a] => some (.bl (isNon a != neg))
  | _ => none
def pIx : List D → Option D
  | [.lst _ xs, .int i] => ixAt xs i
  | [.tup xs, .int i] => ixAt xs i
  | [.scr xs, .int i] => (ixAt xs i).map .int
  | [.str s, .int i] => if s.length ≤ lim then (ixAt s i).map fun c => .str [c] else none
  | [.dct _ ks vs, k] => if keyOk k ks = true then atKeyD k ks vs else none
  | _ => none
def pCut (lo hi : Option Int) : D → Option D
  | .lst _ xs => some (.lst true (cutL xs lo hi))
  | .tup xs => some (.tup (cutL xs lo hi))
  | .str xs => if xs.length ≤ lim then some (.str (cutL xs lo hi)) else none
  | _ => none
def pInt : List D → Option D
  | [.int a] => some (.int a)
  | _ => none
def pStr : List D → Option D
  | [.str a] => some (.str a)
  | _ => none
def pIsLst : List D → Option D
  | [.lst o a] => some (.lst o a)
  | _ => none
def pLen : List D → Option D
  | [.lst _ xs] => some (.int xs.length)
  | [.tup xs] => some (.int xs.length)
  | [.scr xs] => some (.int xs.length)
  | [.str s] => if s.length ≤ lim then some (.int s.length) else none
  | _ => none
def pList : List D → Option D
  | [.lst _ xs] => some (.lst true xs)
  | [.tup xs] => some (.lst true xs)
  | [.scr xs] => some (.lst true (xs.map .int))
  | [.str s] => if s.length ≤ lim then some (.lst true (s.map fun c => .str [c])) else none
  | _ => none
def pTuple : List D → Option D
  | [.lst _ xs] => some (.tup xs)
  | [.tup xs] => some (.tup xs)
  | _ => none
def isBl : D → Bool
  | .bl _ => true
  | _ => false
def pIsBool : List D → Option D
  | [.dct _ _ _] => none
  | [.scr _] => none
  | [a] => some (.bl (isBl a))
  | _ => none
def pAll : List D → Option D
  | [.lst _ xs] => (bools xs).map fun bs => .bl (bs.all id)
  | _ => none
/-- signs of Unicode -/
def okS (s : List Nat) : Bool := s.all fun c => decide (c < 0x110000)
def pSplit : List D → Option D
  | [.str s, .str t] => if s.length + 2 ≤ lim ∧ t.length ≠ 0 ∧ (Txt.split ⟨s.toArray⟩ ⟨t.toArray⟩).all (fun x => okS x.cps.toList) = true then some (.lst true (((Txt.split ⟨s.toArray⟩ ⟨t.toArray⟩).map fun x => x.cps.toList).map .str)) else none
  | _ => none
def pIndex : List D → Option D
  | [.str s, .str t] => match Builtin.Str.occurrences ⟨s.toArray⟩ ⟨t.toArray⟩ 0 s.length 1 with
    | i :: _ => some (.int (i : Nat))
    | [] => none
  | _ => none
def pRange : List D → Option D
  | [.int j] => if -great ≤ j ∧ j < great then some (.tup (rangeL 0 j.toNat)) else none
  | [.int i, .int j] => if -great ≤ i ∧ i < great ∧ -great ≤ j ∧ j < great then some (.tup (rangeL i (j - i).toNat)) else none
  | _ => none
def pEnum : List D → Option D
  | [.lst o xs] => some (.lst o (enumL 0 xs))
  | _ => none
def prim : Pr → List D → Option D
  | .tup => pTup | .lst => pLst | .add => pAdd | .sub => pSub | .mul => pMul | .fdiv => pFdiv | .mod => pMod | .pow => pPow | .neg => pNeg
  | .eq => pEq false | .ne => pEq true | .lt => pCmp fun a b => decide (a < b) | .le => pCmp fun a b => decide (a ≤ b) | .gt => pCmp fun a b => decide (b < a) | .ge => pCmp fun a b => decide (b ≤ a)
  | .isIn => pIn false | .notIn => pIn true | .isNone => pNone false | .notNone => pNone true | .ix => pIx
  | .cut true true => fun | [x, .int i, .int j] => pCut (some i) (some j) x | _ => none
  | .cut true false => fun | [x, .int i] => pCut (some i) none x | _ => none
  | .cut false true => fun | [x, .int j] => pCut none (some j) x | _ => none
  | .cut false false => fun | [x] => pCut none none x | _ => none
  | .asInt => pInt | .asStr => pStr | .asLst => pIsLst | .len => pLen | .list => pList | .tuple => pTuple | .isBool => pIsBool | .all => pAll | .split => pSplit | .index => pIndex | .range => pRange | .enum => pEnum

def truth : D → Option Bool
  | .bl b => some b
  | _ => none

/-- the calls: what a def of the program gives, and what it leaves of the argument that it may change -/
structure Cl where
  run : Nat → List D → Rs (D × Option D)
  /-- the place of the argument that it may change -/
  io : Nat → Option Nat
  /-- whether it may raise -/
  ex : Nat → Bool
def noX {α : Type} : Rs α → Rs α
  | .ok a => .ok a
  | _ => .bad

def get1 (Γ : En) (i : Nat) : Rs D := match Γ[i]? with
  | some (some d) => .ok d
  | _ => .bad
def setE : En → List Nat → List D → En
  | Γ, i :: is, x :: xs => setE (Γ.set i (some x)) is xs
  | Γ, _, _ => Γ
/-- a = v, or a, b, .. = v -/
def bindT (one : Bool) (tg : List Nat) (d : D) (Γ : En) : Rs En :=
  if one then match tg with
    | [i] => .ok (Γ.set i (some d))
    | _ => .bad
  else match d with
    | .tup xs => if xs.length = tg.length then .ok (setE Γ tg xs) else .bad
    | .lst false xs => if xs.length = tg.length then .ok (setE Γ tg xs) else .bad
    | _ => .bad
def wipeE (Γ : En) : List Nat → En
  | [] => Γ
  | i :: r => (wipeE Γ r).set i none
def lcGo (f : D → Rs (Option D)) : List D → Rs (List D)
  | [] => .ok []
  | x :: xs => (f x).bind fun o => (lcGo f xs).bind fun r => .ok (match o with | some d => d :: r | none => r)
def asB (d : D) : Rs Bool := Rs.of (truth d)

mutual
def ev (C : Cl) : En → E → Rs D
  | _, .c d => .ok d
  | Γ, .v i => (get1 Γ i).bind fun d => .ok (fz d)
  | Γ, .p o es => (evL C Γ es).bind fun ds => Rs.of (prim o ds)
  | Γ, .call f es => match C.io f with
    | some _ => .bad
    | none => (evL C Γ es).bind fun ds => (if C.ex f then C.run f (fzs ds) else noX (C.run f (fzs ds))).bind fun r => .ok r.1
  | Γ, .and a b => (ev C Γ a).bind fun x => (asB x).bind fun k => if k then ev C Γ b else .ok (.bl false)
  | Γ, .or a b => (ev C Γ a).bind fun x => (asB x).bind fun k => if k then .ok (.bl true) else ev C Γ b
  | Γ, .not a => (ev C Γ a).bind fun x => (asB x).bind fun k => .ok (.bl (!k))
  | Γ, .ite c a b => (ev C Γ c).bind fun x => (asB x).bind fun k => if k then ev C Γ a else ev C Γ b
  | Γ, .chain o1 o2 a b c => (ev C Γ a).bind fun x => (ev C Γ b).bind fun y => (Rs.of (if scal y then prim o1 [x, y] else none)).bind fun z => (asB z).bind fun k => if k then (ev C Γ c).bind fun u => Rs.of (prim o2 [y, u]) else .ok (.bl false)
  | Γ, .lc elt one tg own it cond => (ev C Γ it).bind fun d => (Rs.of (items d)).bind fun xs =>
      (noX (lcGo (fun x => (bindT one tg (fz x) (wipeE Γ own)).bind fun Γ' => (ev C Γ' cond).bind fun z => (asB z).bind fun k => if k then (ev C Γ' elt).bind fun y => .ok (some y) else .ok none) xs)).bind fun ys =>
        if ys.length ≤ lim then .ok (.lst true ys) else .bad
def evL (C : Cl) : En → List E → Rs (List D)
  | _, [] => .ok []
  | Γ, e :: es => (ev C Γ e).bind fun d => (evL C Γ es).bind fun ds => .ok (d :: ds)
end

/-! ### expressions that may change slots -/
inductive XE where
  | pure (e : E) | op (o : Pr) (xs : List XE) | call (f : Nat) (xs : List XE)
  /-- a slot whose list or dict is handed over to be changed -/
  | io (i : Nat)
def frzGo (vs : List Nat) : Nat → En → En
  | _, [] => []
  | k, o :: r => (if vs.contains k then o.map fz else o) :: frzGo vs (k + 1) r
/-- what stands in the slots vs is shared from now on -/
def frzE (vs : List Nat) (Γ : En) : En := frzGo vs 0 Γ
/-- the values of an argument list in which no slot is handed over -/
def plain : List (Nat ⊕ D) → Option (List D)
  | [] => some []
  | .inr d :: r => (plain r).map (d :: ·)
  | .inl _ :: _ => none
/-- .. in which the p-th is the slot i (and no other is) -/
def ioArgs : Nat → List (Nat ⊕ D) → Option (List D × Nat × List D)
  | 0, .inl i :: r => (plain r).map fun ds => ([], i, ds)
  | p + 1, .inr d :: r => (ioArgs p r).map fun t => (d :: t.1, t.2.1, t.2.2)
  | _, _ => none
def runF (C : Cl) (f : Nat) (ds : List D) : Rs (D × Option D) := if C.ex f then C.run f ds else noX (C.run f ds)
mutual
def evX (C : Cl) : En → XE → Rs (D × En)
  | Γ, .pure e => (ev C Γ e).bind fun d => .ok (d, if hasF d then frzE (vars e) Γ else Γ)
  | Γ, .op o xs => (evXs C Γ xs).bind fun p => (Rs.of (plain p.1)).bind fun ds => (Rs.of (prim o ds)).bind fun d => .ok (d, p.2)
  | Γ, .call f xs => (evXs C Γ xs).bind fun p => match C.io f with
    | none => (Rs.of (plain p.1)).bind fun ds => (runF C f (fzs ds)).bind fun r => .ok (r.1, p.2)
    | some k => (Rs.of (ioArgs k p.1)).bind fun t => (get1 p.2 t.2.1).bind fun d => (runF C f (fzs t.1 ++ d :: fzs t.2.2)).bind fun r => (Rs.of r.2).bind fun o => .ok (r.1, p.2.set t.2.1 (some o))
  | _, .io _ => .bad
def evXs (C : Cl) : En → List XE → Rs (List (Nat ⊕ D) × En)
  | Γ, [] => .ok ([], Γ)
  | Γ, .io i :: r => (get1 Γ i).bind fun _ => (evXs C Γ r).bind fun p => .ok (.inl i :: p.1, p.2)
  | Γ, .pure e :: r => (evX C Γ (.pure e)).bind fun q => (evXs C q.2 r).bind fun p => .ok (.inr q.1 :: p.1, p.2)
  | Γ, .op o xs :: r => (evX C Γ (.op o xs)).bind fun q => (evXs C q.2 r).bind fun p => .ok (.inr q.1 :: p.1, p.2)
  | Γ, .call f xs :: r => (evX C Γ (.call f xs)).bind fun q => (evXs C q.2 r).bind fun p => .ok (.inr q.1 :: p.1, p.2)
end

/-! ### statements -/
/-- methods that change a list or a dict -/
inductive Me where
  | append | insert | pop | popAt
inductive S where
  | asg (i : Nat) (x : XE)
  | unp (is : List Nat) (x : XE)
  /-- slot[key] = val -/
  | put (i : Nat) (key : E) (val : XE)
  | mut (i : Nat) (me : Me) (xs : List XE)
  | ex (x : XE)
  | ite (c : E) (a b : List S)
  | fr (hide : Option Nat) (one : Bool) (tg : List Nat) (it : E) (body : List S)
  | whl (c : E) (body : List S)
  | ret (x : XE)
  /-- return of a slot's own value -/
  | retv (i : Nat)
  | retN | brk | cont
inductive Out1 where
  | nx (Γ : En) | rt (d : D) (Γ : En) | bk (Γ : En) | ct (Γ : En) | exc (c : Str) (Γ : En) | bad
def Rs.out {α : Type} (Γ : En) (r : Rs α) (f : α → Out1) : Out1 := match r with
  | .ok a => f a
  | .exc c => .exc c Γ
  | .bad => .bad
/-- a list's or a dict's new content behind d[k] = v -/
def putV : D → D → D → Option D
  | .lst true xs, .int k, v => if 0 ≤ k then (if k < xs.length then some (.lst true (xs.set k.toNat v)) else none) else (if -(xs.length : Int) ≤ k then some (.lst true (xs.set (k + xs.length).toNat v)) else none)
  | .dct true ks vs, k, v => if keyOk k ks = true ∧ flat k = true ∧ ks.length < lim ∧ vs.length = ks.length then some (.dct true (putD k v ks vs).1 (putD k v ks vs).2) else none
  | _, _, _ => none
/-- .. behind a method -/
def mAppend : D → List D → Option D
  | .lst true xs, [v] => if xs.length < lim then some (.lst true (xs ++ [v])) else none
  | _, _ => none
def mInsert : D → List D → Option D
  | .lst true xs, [.int i, v] => if xs.length < lim ∧ 0 ≤ i ∧ i < 9223372036854775808 then some (.lst true (xs.take i.toNat ++ v :: xs.drop i.toNat)) else none
  | _, _ => none
def mPop : D → List D → Option D
  | .lst true xs, [] => if xs.length = 0 then none else some (.lst true xs.dropLast)
  | _, _ => none
def mPopAt : D → List D → Option D
  | .lst true xs, [.int i] => if 0 ≤ i ∧ i < xs.length ∧ i < 9223372036854775808 then some (.lst true (xs.eraseIdx i.toNat)) else none
  | _, _ => none
def mutV : Me → D → List D → Option D
  | .append => mAppend | .insert => mInsert | .pop => mPop | .popAt => mPopAt
def isLst : D → Bool
  | .lst _ _ => true
  | _ => false
/-- the turns of a for -/
def forGo (f : D → En → Out1) : List D → En → Out1
  | [], Γ => .nx Γ
  | d :: ds, Γ => match f d Γ with
    | .nx Γ' => forGo f ds Γ'
    | .ct Γ' => forGo f ds Γ'
    | .bk Γ' => .nx Γ'
    | o => o
/-- the turns of a while, n at most -/
def whlGo (c : En → Rs Bool) (f : En → Out1) : Nat → En → Out1
  | 0, _ => .bad
  | n + 1, Γ => (c Γ).out Γ fun k => if k then match f Γ with
      | .nx Γ' => whlGo c f n Γ'
      | .ct Γ' => whlGo c f n Γ'
      | .bk Γ' => .nx Γ'
      | o => o
    else .nx Γ
def unhide (i : Nat) (d : D) : Out1 → Out1
  | .nx Γ => .nx (Γ.set i (some d))
  | o => o
/-- a for over the items xs of d; rd: the slots that were read -/
def frRun (hide : Option Nat) (ro tg rd : List Nat) (d : D) (xs : List D) (f : List Nat → D → En → Out1) (Γ : En) : Out1 :=
  if tg.any ro.contains then .bad else
  if hasF d then (match hide with
    | some i => if flats xs = false then forGo (f ro) xs (frzE rd Γ) else if tg.contains i then .bad else (get1 Γ i).out Γ fun dv => unhide i dv (forGo (f (i :: ro)) xs (Γ.set i none))
    | none => forGo (f ro) xs (frzE rd Γ))
  else forGo (f ro) xs Γ
mutual
def exec (C : Cl) (N : Nat) : List Nat → En → S → Out1
  | ro, Γ, .asg i x => (evX C Γ x).out Γ fun q => if ro.contains i then .bad else .nx (q.2.set i (some q.1))
  | ro, Γ, .unp is x => (evX C Γ x).out Γ fun q => if is.any ro.contains then .bad else (bindT false is (fz q.1) q.2).out Γ fun Γ' => .nx Γ'
  | _, Γ, .put i key val => (evX C Γ val).out Γ fun q => (get1 q.2 i).out Γ fun d => (ev C q.2 key).out Γ fun k => if flat k then (Rs.of (putV d k q.1)).out Γ fun d' => .nx (q.2.set i (some d')) else .bad
  | _, Γ, .mut i me xs => (get1 Γ i).out Γ fun d0 => if isLst d0 = false then .bad else (evXs C Γ xs).out Γ fun p => (Rs.of (plain p.1)).out Γ fun ds => (get1 p.2 i).out Γ fun d => (Rs.of (mutV me d ds)).out Γ fun d' => .nx (p.2.set i (some d'))
  | _, Γ, .ex x => (evX C Γ x).out Γ fun q => .nx q.2
  | ro, Γ, .ite c a b => ((ev C Γ c).bind asB).out Γ fun k => if k then execs C N ro Γ a else execs C N ro Γ b
  | ro, Γ, .fr hide one tg it body => (ev C Γ it).out Γ fun d => (Rs.of (items d)).out Γ fun xs => frRun hide ro tg (vars it) d xs (fun ro x Γ => (bindT one tg (fz x) Γ).out Γ fun Γ' => execs C N ro Γ' body) Γ
  | ro, Γ, .whl c body => whlGo (fun Γ => (ev C Γ c).bind asB) (fun Γ => execs C N ro Γ body) N Γ
  | _, Γ, .ret x => (evX C Γ x).out Γ fun q => .rt q.1 q.2
  | ro, Γ, .retv i => if ro.contains i then .bad else (get1 Γ i).out Γ fun d => .rt d (Γ.set i none)
  | _, Γ, .retN => .rt .non Γ
  | _, Γ, .brk => .bk Γ
  | _, Γ, .cont => .ct Γ
def execs (C : Cl) (N : Nat) : List Nat → En → List S → Out1
  | _, Γ, [] => .nx Γ
  | ro, Γ, s :: ss => match exec C N ro Γ s with
    | .nx Γ' => execs C N ro Γ' ss
    | o => o
end

/-! ### defs and programs -/
structure FD where
  /-- how many parameters, how many slots -/
  np : Nat
  ns : Nat
  io : Option Nat
  ex : Bool
  body : List S
/-- a def's end: what it gives, and what it leaves in the slot that it may change -/
def outR (io : Option Nat) : Out1 → Rs (D × Option D)
  | .nx Γ => match io with
    | none => .ok (.non, none)
    | some p => (get1 Γ p).bind fun d => .ok (.non, some d)
  | .rt v Γ => match io with
    | none => .ok (v, none)
    | some p => (get1 Γ p).bind fun d => .ok (v, some d)
  | .exc c _ => .exc c
  | _ => .bad
def ioL : Option Nat → List Nat
  | none => []
  | some p => [p]
def runD (C : Cl) (N : Nat) (F : FD) (ds : List D) : Rs (D × Option D) :=
  if ds.length = F.np then outR F.io (execs C N (ioL F.io) (ds.map some ++ List.replicate (F.ns - F.np) none) F.body) else .bad
/-- the calls, n deep; N turns of a while at most -/
def cl (T : Nat → Option FD) (N : Nat) : Nat → Cl
  | 0 => ⟨fun _ _ => .bad, fun f => (T f).bind (·.io), fun f => match T f with | some F => F.ex | none => false⟩
  | n + 1 => ⟨fun f ds => match T f with | some F => if F.ex then runD (cl T N n) N F ds else noX (runD (cl T N n) N F ds) | none => .bad, fun f => (T f).bind (·.io), fun f => match T f with | some F => F.ex | none => false⟩
end RW

namespace RW
open PySem L2

/-! ## 3. how a value lies in the heap -/
def mkS (s : List Nat) : Str := ⟨s.toArray⟩
theorem mkS_length (s : List Nat) : (mkS s).length = s.length := by simp [mkS, Str.length]
theorem mkS_cps (s : List Nat) : (mkS s).cps.toList = s := by simp [mkS]
theorem mkS_inj {s t : List Nat} (h : mkS s = mkS t) : s = t := by
  have := congrArg (fun x : Str => x.cps.toList) h
  simpa [mkS] using this

/-- what does not change: the program, the world, the written part -/
structure Gb where
  P : Program
  w : World
  K : PySem.W.Frag
abbrev gx (X : Cx) : Gb := ⟨X.prog, X.w, X.K⟩

abbrev none0 : Addr → Prop := fun _ => False
def isTup (o : HO) : Prop := ∃ xs, o = .tup xs

mutual
/-- as a key of a dict -/
def toN : D → Option NestedKey
  | .non => some .none
  | .int i => some (.num i)
  | .str s => some (.text (mkS s))
  | .tup xs => (toNs xs).map .tup
  | _ => none
def toNs : List D → Option (List NestedKey)
  | [] => some []
  | x :: xs => match toN x, toNs xs with
    | some a, some b => some (a :: b)
    | _, _ => none
end

/-- a dict at a whose keys are tuples (kvs, told by ns), its values vvs -/
def NDict (P : Program) (w : World) (a : Addr) (ns : List NestedKey) (kvs vvs : List V) : Heap → Prop := fun h =>
  (a == sysModules) = false ∧ ∃ xs : List (NestedKey × Addr × Value), xs.map (·.1) = ns ∧ xs.map (fun x => V.ref x.2.1) = kvs ∧ Vals vvs (xs.map (·.2.2)) ∧ ns.Nodup ∧
    ∃ o es ep, h.get? a = some o ∧ o.ExactDict ∧ o.data = .dict es ep ∧ es.toList = xs.map (entryOfKey (nestedKind P w))
/-- a dict at a, its keys kvs (by content ks), its values vvs -/
def DAt (g : Gb) (H : Hp) (a : Addr) (ks : List D) (kvs vvs : List V) : Prop :=
  (∃ kk : List (Key × V), H a = some (.dK kk) ∧ kvs = kk.map (fun p => kV p.1) ∧ vvs = kk.map (·.2)) ∨
    ∃ ns, toNs ks = some ns ∧ ns ≠ [] ∧ (∀ n ∈ ns, n.depth ≤ 8) ∧ H a = some (.ext (NDict g.P g.w a ns kvs vvs))

mutual
/-- the value v in the heap is d. NF: what is owned by somebody; F: what is owned here (own lists and dicts lie in F; shared ones lie outside NF) -/
def Rep (g : Gb) (H : Hp) (NF : Addr → Prop) : D → V → (Addr → Prop) → Prop
  | .non, v, _ => v = .non
  | .bl b, v, _ => v = .bl b
  | .int i, v, _ => v = .int i
  | .str s, v, _ => v = .str (mkS s) ∧ okS s = true
  | .tup ds, v, F => ∃ a vs, v = .ref a ∧ H a = some (.tup vs) ∧ Reps g H NF ds vs F
  | .lst true ds, v, F => ∃ a vs G, v = .ref a ∧ H a = some (.lst vs) ∧ F a ∧ ¬ G a ∧ (∀ b, G b → F b) ∧ Reps g H NF ds vs G
  | .lst false ds, v, F => ∃ a vs, v = .ref a ∧ H a = some (.lst vs) ∧ ¬ NF a ∧ Reps g H NF ds vs none0
  | .dct true ks ds, v, F => ∃ a kvs vs G, v = .ref a ∧ DAt g H a ks kvs vs ∧ Reps g H NF ks kvs none0 ∧ F a ∧ ¬ G a ∧ (∀ b, G b → F b) ∧ Reps g H NF ds vs G
  | .dct false ks ds, v, F => ∃ a kvs vs, v = .ref a ∧ DAt g H a ks kvs vs ∧ Reps g H NF ks kvs none0 ∧ ¬ NF a ∧ Reps g H NF ds vs none0
  | .scr xs, v, F => ∃ a, v = .ref a ∧ ((Rd H a (.lst (xs.map V.int)) ∧ ¬ NF a) ∨ SqL g.K (fun _ => none) a (xs.map V.int))
def Reps (g : Gb) (H : Hp) (NF : Addr → Prop) : List D → List V → (Addr → Prop) → Prop
  | [], vs, _ => vs = []
  | d :: ds, vs, F => ∃ v r F1 F2, vs = v :: r ∧ Rep g H NF d v F1 ∧ Reps g H NF ds r F2 ∧ (∀ b, F1 b → F b) ∧ (∀ b, F2 b → F b) ∧ (∀ b, F1 b → ¬ F2 b)
end

section
variable {g : Gb} {H H' : Hp} {NF NF' : Addr → Prop}

theorem DAt.mono {a : Addr} {ks kvs vvs} (h : ∀ o, H a = some o → H' a = some o) (x : DAt g H a ks kvs vvs) : DAt g H' a ks kvs vvs := by
  rcases x with ⟨kk, e, r⟩ | ⟨ns, e1, e2, e2', e3⟩
  · exact .inl ⟨kk, h _ e, r⟩
  · exact .inr ⟨ns, e1, e2, e2', h _ e3⟩
theorem DAt.some {a : Addr} {ks kvs vvs} (x : DAt g H a ks kvs vvs) : ∃ o, H a = some o ∧ ¬ isTup o := by
  rcases x with ⟨kk, e, r⟩ | ⟨ns, e1, e2, e2', e3⟩
  · exact ⟨_, e, fun ⟨_, z⟩ => nomatch z⟩
  · exact ⟨_, e3, fun ⟨_, z⟩ => nomatch z⟩

mutual
theorem Rep.mono (n : ∀ a, H a ≠ none → ¬ NF a → ¬ NF' a) : ∀ (d : D) (v : V) (F F' : Addr → Prop), (∀ a o, H a = some o → (¬ NF a ∨ F a ∨ isTup o) → H' a = some o) → (∀ a, F a → F' a) → Rep g H NF d v F → Rep g H' NF' d v F'
  | .non, _, _, _, _, _, x => x
  | .bl _, _, _, _, _, _, x => x
  | .int _, _, _, _, _, _, x => x
  | .str _, _, _, _, _, _, x => x
  | .tup ds, v, F, F', h, f, ⟨a, vs, e, ha, x⟩ => ⟨a, vs, e, h _ _ ha (.inr (.inr ⟨_, rfl⟩)), Reps.mono n ds vs F F' h f x⟩
  | .lst true ds, v, F, F', h, f, ⟨a, vs, G, e, ha, fa, ga, gs, x⟩ => ⟨a, vs, G, e, h _ _ ha (.inr (.inl fa)), f _ fa, ga, fun b q => f _ (gs b q), Reps.mono n ds vs G G (fun b o q z => h b o q (z.imp id (.imp (gs b) id))) (fun _ q => q) x⟩
  | .lst false ds, v, F, F', h, f, ⟨a, vs, e, ha, na, x⟩ => ⟨a, vs, e, h _ _ ha (.inl na), n a (by rw [ha]; simp) na, Reps.mono n ds vs none0 none0 (fun b o q z => h b o q (z.imp id (.imp False.elim id))) (fun _ q => q) x⟩
  | .dct true ks ds, v, F, F', h, f, ⟨a, kvs, vs, G, e, da, kx, fa, ga, gs, x⟩ => ⟨a, kvs, vs, G, e, da.mono (fun o q => h a o q (.inr (.inl fa))), Reps.mono n ks kvs none0 none0 (fun b o q z => h b o q (z.imp id (.imp False.elim id))) (fun _ q => q) kx, f _ fa, ga, fun b q => f _ (gs b q),
      Reps.mono n ds vs G G (fun b o q z => h b o q (z.imp id (.imp (gs b) id))) (fun _ q => q) x⟩
  | .dct false ks ds, v, F, F', h, f, ⟨a, kvs, vs, e, da, kx, na, x⟩ => ⟨a, kvs, vs, e, da.mono (fun o q => h a o q (.inl na)), Reps.mono n ks kvs none0 none0 (fun b o q z => h b o q (z.imp id (.imp False.elim id))) (fun _ q => q) kx,
      n a (by obtain ⟨o, q, _⟩ := da.some; rw [q]; simp) na, Reps.mono n ds vs none0 none0 (fun b o q z => h b o q (z.imp id (.imp False.elim id))) (fun _ q => q) x⟩
  | .scr xs, v, F, F', h, f, ⟨a, e, x⟩ => ⟨a, e, x.imp (fun ⟨r, na⟩ => by
      rcases r with r | ⟨o, r⟩
      · exact ⟨.inl (h _ _ r (.inl na)), n a (by rw [r]; simp) na⟩
      · exact ⟨.inr ⟨o, h _ _ r (.inl na)⟩, n a (by rw [r]; simp) na⟩) id⟩
theorem Reps.mono (n : ∀ a, H a ≠ none → ¬ NF a → ¬ NF' a) : ∀ (ds : List D) (vs : List V) (F F' : Addr → Prop), (∀ a o, H a = some o → (¬ NF a ∨ F a ∨ isTup o) → H' a = some o) → (∀ a, F a → F' a) → Reps g H NF ds vs F → Reps g H' NF' ds vs F'
  | [], _, _, _, _, _, x => x
  | d :: ds, vs, F, F', h, f, ⟨v, r, F1, F2, e, x1, x2, s1, s2, dj⟩ => ⟨v, r, F1, F2, e, Rep.mono n d v F1 F1 (fun b o q z => h b o q (z.imp id (.imp (s1 b) id))) (fun _ q => q) x1,
      Reps.mono n ds r F2 F2 (fun b o q z => h b o q (z.imp id (.imp (s2 b) id))) (fun _ q => q) x2, fun b q => f b (s1 b q), fun b q => f b (s2 b q), dj⟩
end

mutual
/-- shared from now on -/
theorem Rep.fz (n : ∀ a, H a ≠ none → ¬ NF a → ¬ NF' a) : ∀ (d : D) (v : V) (F : Addr → Prop), (∀ a, F a → ¬ NF' a) → Rep g H NF d v F → Rep g H NF' (RW.fz d) v none0
  | .non, _, _, _, x => x
  | .bl _, _, _, _, x => x
  | .int _, _, _, _, x => x
  | .str _, _, _, _, x => x
  | .tup ds, v, F, f, ⟨a, vs, e, ha, x⟩ => ⟨a, vs, e, ha, Reps.fz n ds vs F f x⟩
  | .lst true ds, v, F, f, ⟨a, vs, G, e, ha, fa, ga, gs, x⟩ => ⟨a, vs, e, ha, f a fa, Reps.fz n ds vs G (fun b q => f b (gs b q)) x⟩
  | .lst false ds, v, F, f, ⟨a, vs, e, ha, na, x⟩ => ⟨a, vs, e, ha, n a (by rw [ha]; simp) na, Reps.fz n ds vs none0 (fun b q => q.elim) x⟩
  | .dct true ks ds, v, F, f, ⟨a, kvs, vs, G, e, da, kx, fa, ga, gs, x⟩ => ⟨a, kvs, vs, e, da, Reps.mono n ks kvs none0 none0 (fun _ _ q _ => q) (fun _ q => q) kx, f a fa, Reps.fz n ds vs G (fun b q => f b (gs b q)) x⟩
  | .dct false ks ds, v, F, f, ⟨a, kvs, vs, e, da, kx, na, x⟩ => ⟨a, kvs, vs, e, da, Reps.mono n ks kvs none0 none0 (fun _ _ q _ => q) (fun _ q => q) kx, n a (by obtain ⟨o, q, _⟩ := da.some; rw [q]; simp) na, Reps.fz n ds vs none0 (fun b q => q.elim) x⟩
  | .scr xs, v, F, f, ⟨a, e, x⟩ => ⟨a, e, x.imp (fun ⟨r, na⟩ => ⟨r, n a (by rcases r with r | ⟨o, r⟩ <;> rw [r] <;> simp) na⟩) id⟩
theorem Reps.fz (n : ∀ a, H a ≠ none → ¬ NF a → ¬ NF' a) : ∀ (ds : List D) (vs : List V) (F : Addr → Prop), (∀ a, F a → ¬ NF' a) → Reps g H NF ds vs F → Reps g H NF' (fzs ds) vs none0
  | [], _, _, _, x => x
  | d :: ds, vs, F, f, ⟨v, r, F1, F2, e, x1, x2, s1, s2, dj⟩ => ⟨v, r, none0, none0, e, Rep.fz n d v F1 (fun b q => f b (s1 b q)) x1, Reps.fz n ds r F2 (fun b q => f b (s2 b q)) x2, fun _ q => q, fun _ q => q, fun _ q => q.elim⟩
end

mutual
/-- nothing shared in it: what is owned elsewhere does not matter (the keys of a dict are no lists) -/
theorem Rep.noF : ∀ (d : D) (v : V) (F : Addr → Prop), flat d = true → Rep g H NF d v F → Rep g H NF' d v none0
  | .non, _, _, _, x => x
  | .bl _, _, _, _, x => x
  | .int _, _, _, _, x => x
  | .str _, _, _, _, x => x
  | .tup ds, v, F, f, ⟨a, vs, e, ha, x⟩ => ⟨a, vs, e, ha, Reps.noF ds vs F f x⟩
  | .lst _ _, _, _, f, _ => nomatch f
  | .dct _ _ _, _, _, f, _ => nomatch f
  | .scr _, _, _, f, _ => nomatch f
theorem Reps.noF : ∀ (ds : List D) (vs : List V) (F : Addr → Prop), flats ds = true → Reps g H NF ds vs F → Reps g H NF' ds vs none0
  | [], _, _, _, x => x
  | d :: ds, vs, F, f, ⟨v, r, F1, F2, e, x1, x2, s1, s2, dj⟩ => by
    have f' : (flat d && flats ds) = true := f
    rw [Bool.and_eq_true] at f'
    exact ⟨v, r, none0, none0, e, Rep.noF d v F1 f'.1 x1, Reps.noF ds r F2 f'.2 x2, fun _ q => q, fun _ q => q, fun _ q => q.elim⟩
end

/-! ### rows of values -/
theorem Reps.length : ∀ {ds : List D} {vs : List V} {F : Addr → Prop}, Reps g H NF ds vs F → vs.length = ds.length
  | [], _, _, x => by have x : _ = [] := x; subst x; rfl
  | d :: ds, vs, F, ⟨v, r, F1, F2, e, x1, x2, _⟩ => by subst e; simp [Reps.length x2]
theorem Reps.get : ∀ {ds : List D} {vs : List V} {F : Addr → Prop} {i : Nat} {d : D}, Reps g H NF ds vs F → ds[i]? = some d → ∃ v, vs[i]? = some v ∧ Rep g H NF d v F
  | [], _, _, _, _, _, e => by simp at e
  | d :: ds, vs, F, 0, d', ⟨v, r, F1, F2, e, x1, x2, s1, s2, dj⟩, q => by
    subst e
    have q : d = d' := by simpa using q
    subst q
    exact ⟨v, rfl, Rep.mono (fun _ _ z => z) d v F1 F (fun _ _ z _ => z) s1 x1⟩
  | d :: ds, vs, F, i + 1, d', ⟨v, r, F1, F2, e, x1, x2, s1, s2, dj⟩, q => by
    subst e
    obtain ⟨u, h1, h2⟩ := Reps.get (i := i) x2 (by simpa using q)
    exact ⟨u, by simpa using h1, Rep.mono (fun _ _ z => z) d' u F2 F (fun _ _ z _ => z) s2 h2⟩
theorem Reps.sub {ds : List D} {vs : List V} {F F' : Addr → Prop} (x : Reps g H NF ds vs F) (f : ∀ a, F a → F' a) : Reps g H NF ds vs F' := Reps.mono (fun _ _ z => z) ds vs F F' (fun _ _ z _ => z) f x
theorem Rep.sub {d : D} {v : V} {F F' : Addr → Prop} (x : Rep g H NF d v F) (f : ∀ a, F a → F' a) : Rep g H NF d v F' := Rep.mono (fun _ _ z => z) d v F F' (fun _ _ z _ => z) f x
theorem Reps.drop : ∀ {ds : List D} {vs : List V} {F : Addr → Prop} (n : Nat), Reps g H NF ds vs F → Reps g H NF (ds.drop n) (vs.drop n) F
  | _, _, _, 0, x => x
  | [], _, _, n + 1, x => by have x : _ = [] := x; subst x; exact rfl
  | d :: ds, vs, F, n + 1, ⟨v, r, F1, F2, e, x1, x2, s1, s2, dj⟩ => by
    subst e
    exact (Reps.drop n x2).sub s2
theorem Reps.take : ∀ {ds : List D} {vs : List V} {F : Addr → Prop} (n : Nat), Reps g H NF ds vs F → Reps g H NF (ds.take n) (vs.take n) F
  | ds, vs, _, 0, x => by rw [List.take_zero, List.take_zero]; exact rfl
  | [], _, _, n + 1, x => by have x : _ = [] := x; subst x; exact rfl
  | d :: ds, vs, F, n + 1, ⟨v, r, F1, F2, e, x1, x2, s1, s2, dj⟩ => by
    subst e
    exact ⟨v, r.take n, F1, F2, rfl, x1, Reps.take n x2, s1, s2, dj⟩
theorem Reps.append : ∀ {ds es : List D} {vs us : List V} {F1 F2 F : Addr → Prop}, Reps g H NF ds vs F1 → Reps g H NF es us F2 → (∀ b, F1 b → F b) → (∀ b, F2 b → F b) → (∀ b, F1 b → ¬ F2 b) → Reps g H NF (ds ++ es) (vs ++ us) F
  | [], _, _, _, _, _, _, x, y, _, s2, _ => by have x : _ = [] := x; subst x; exact y.sub s2
  | d :: ds, es, vs, us, F1, F2, F, ⟨v, r, G1, G2, e, x1, x2, t1, t2, dj⟩, y, s1, s2, k => by
    subst e
    refine ⟨v, r ++ us, G1, fun b => G2 b ∨ F2 b, rfl, x1, Reps.append x2 y (fun b => .inl) (fun b => .inr) (fun b q => k b (t2 b q)), fun b q => s1 b (t1 b q), fun b q => q.elim (fun q => s1 b (t2 b q)) (s2 b), fun b q z => ?_⟩
    rcases z with z | z
    · exact dj b q z
    · exact k b (t1 b q) z
theorem Reps.one {d : D} {v : V} {F : Addr → Prop} (x : Rep g H NF d v F) : Reps g H NF [d] [v] F := ⟨v, [], F, none0, rfl, x, rfl, fun _ q => q, fun _ q => q.elim, fun _ _ q => q⟩
theorem Reps.two {d e : D} {v u : V} {F1 F2 F : Addr → Prop} (x : Rep g H NF d v F1) (y : Rep g H NF e u F2) (s1 : ∀ b, F1 b → F b) (s2 : ∀ b, F2 b → F b) (dj : ∀ b, F1 b → ¬ F2 b) : Reps g H NF [d, e] [v, u] F := ⟨v, [u], F1, F2, rfl, x, Reps.one y, s1, s2, dj⟩
theorem Reps.un1 {d : D} {vs : List V} {F : Addr → Prop} (x : Reps g H NF [d] vs F) : ∃ v, vs = [v] ∧ Rep g H NF d v F := by
  obtain ⟨v, r, F1, F2, e, x1, x2, s1, s2, dj⟩ := x
  have x2 : r = [] := x2
  subst x2
  exact ⟨v, e, x1.sub s1⟩
theorem Reps.un2 {d e : D} {vs : List V} {F : Addr → Prop} (x : Reps g H NF [d, e] vs F) : ∃ v u F1 F2, vs = [v, u] ∧ Rep g H NF d v F1 ∧ Rep g H NF e u F2 ∧ (∀ b, F1 b → F b) ∧ (∀ b, F2 b → F b) ∧ (∀ b, F1 b → ¬ F2 b) := by
  obtain ⟨v, r, F1, F2, e, x1, x2, s1, s2, dj⟩ := x
  obtain ⟨u, e2, x3⟩ := Reps.un1 x2
  subst e2
  exact ⟨v, u, F1, F2, e, x1, x3, s1, s2, dj⟩
theorem Reps.ints : ∀ {xs : List Int}, Reps g H NF (xs.map D.int) (xs.map V.int) none0
  | [] => rfl
  | x :: xs => ⟨.int x, xs.map V.int, none0, none0, rfl, rfl, Reps.ints, fun _ q => q, fun _ q => q, fun _ q => q.elim⟩
theorem Reps.ofInts : ∀ {xs : List Int} {vs : List V} {F : Addr → Prop}, Reps g H NF (xs.map D.int) vs F → vs = xs.map V.int
  | [], _, _, x => x
  | x :: xs, vs, F, ⟨v, r, F1, F2, e, x1, x2, _⟩ => by
    have x1 : v = .int x := x1
    rw [e, x1, Reps.ofInts x2]; rfl
theorem Reps.strs : ∀ {xs : List (List Nat)}, xs.all okS = true → Reps g H NF (xs.map D.str) (xs.map fun s => V.str (mkS s)) none0
  | [], _ => rfl
  | x :: xs, h => by
    rw [List.all_cons, Bool.and_eq_true] at h
    exact ⟨.str (mkS x), xs.map _, none0, none0, rfl, ⟨rfl, h.1⟩, Reps.strs h.2, fun _ q => q, fun _ q => q, fun _ q => q.elim⟩
end
mutual
theorem Rep.noF' {g : Gb} {H : Hp} {NF NF' : Addr → Prop} : ∀ (d : D) (v : V) (F : Addr → Prop), hasF d = false → Rep g H NF d v F → Rep g H NF' d v F
  | .non, _, _, _, x => x
  | .bl _, _, _, _, x => x
  | .int _, _, _, _, x => x
  | .str _, _, _, _, x => x
  | .tup ds, v, F, f, ⟨a, vs, e, ha, x⟩ => ⟨a, vs, e, ha, Reps.noF' ds vs F f x⟩
  | .lst true ds, v, F, f, ⟨a, vs, G, e, ha, fa, ga, gs, x⟩ => ⟨a, vs, G, e, ha, fa, ga, gs, Reps.noF' ds vs G (by simpa [hasF] using f) x⟩
  | .lst false ds, v, F, f, _ => by simp [hasF] at f
  | .dct true ks ds, v, F, f, ⟨a, kvs, vs, G, e, da, kx, fa, ga, gs, x⟩ => by
    have f' : hasFs ks = false ∧ hasFs ds = false := by simpa [hasF] using f
    exact ⟨a, kvs, vs, G, e, da, Reps.noF' ks kvs none0 f'.1 kx, fa, ga, gs, Reps.noF' ds vs G f'.2 x⟩
  | .dct false ks ds, v, F, f, _ => by simp [hasF] at f
  | .scr _, _, _, f, _ => by simp [hasF] at f
theorem Reps.noF' {g : Gb} {H : Hp} {NF NF' : Addr → Prop} : ∀ (ds : List D) (vs : List V) (F : Addr → Prop), hasFs ds = false → Reps g H NF ds vs F → Reps g H NF' ds vs F
  | [], _, _, _, x => x
  | d :: ds, vs, F, f, ⟨v, r, F1, F2, e, x1, x2, s1, s2, dj⟩ => by
    have f' : (hasF d || hasFs ds) = false := f
    rw [Bool.or_eq_false_iff] at f'
    exact ⟨v, r, F1, F2, e, Rep.noF' d v F1 f'.1 x1, Reps.noF' ds r F2 f'.2 x2, s1, s2, dj⟩
end
end RW

namespace RW
open PySem L2 PySem.Spec PyProof.Rows

/-! ## 4. expressions -/
theorem PE.imp {X : Cx} {e : Expr} {t t' : TE} (h : PE X e t) (i : ∀ σ H Q, t' σ H Q → t σ H Q) : PE X e t' := ⟨fun pins s σ H Q I hw => h.run pins s σ H Q I (i σ H Q hw)⟩
theorem PT.imp {X : Cx} {e : Expr} {t t' : TT} (h : PT X e t) (i : ∀ σ H Q, t' σ H Q → t σ H Q) : PT X e t' := ⟨fun pins s σ H Q I hw => h.run pins s σ H Q I (i σ H Q hw)⟩
theorem PA.imp {X : Cx} {e : List Expr} {t t' : TA} (h : PA X e t) (i : ∀ σ H Q, t' σ H Q → t σ H Q) : PA X e t' := ⟨fun pos pins s σ H Q I hw => h.run pos pins s σ H Q I (i σ H Q hw)⟩
theorem PE.or {X : Cx} {e : Expr} {t t' : TE} (h : PE X e t) (h' : PE X e t') : PE X e (fun σ H Q => t σ H Q ∨ t' σ H Q) := ⟨fun pins s σ H Q I hw => hw.elim (h.run pins s σ H Q I) (h'.run pins s σ H Q I)⟩
theorem same_refl {H : Hp} : Same H H := fun _ _ q => q
theorem same_up {H : Hp} {p : Addr} (h : H p = none) (o : HO) : Same H (upd H p o) := fun b u q => by rw [upd_ne (ne_of_none q h)]; exact q

def See (g : Gb) (H : Hp) (NF : Addr → Prop) (σ : L2.St) (Γ : En) (is : List Nat) : Prop := Γ.length ≤ σ.length ∧ ∀ i ∈ is, ∀ d, Γ[i]? = some (some d) → ∃ v, σ[i]? = some (some v) ∧ Rep g H NF (fz d) v none0
theorem See.mono {g : Gb} {H H' : Hp} {NF NF' : Addr → Prop} {σ : L2.St} {Γ : En} {is js : List Nat} (x : See g H NF σ Γ is) (sm : Same H H') (n : ∀ a, H a ≠ none → ¬ NF a → ¬ NF' a) (s : ∀ i ∈ js, i ∈ is) : See g H' NF' σ Γ js := ⟨x.1, fun i hi d e => by
  obtain ⟨v, h1, h2⟩ := x.2 i (s i hi) d e
  exact ⟨v, h1, Rep.mono n _ _ _ _ (fun b o q _ => sm b o q) (fun _ q => q) h2⟩⟩
abbrev or2 (A B : Addr → Prop) : Addr → Prop := fun a => A a ∨ B a
def Fresh (H H' : Hp) (F : Addr → Prop) : Prop := ∀ a, F a → H a = none ∧ H' a ≠ none

/-- what is wanted behind an expression that gives d -/
def After (g : Gb) (H : Hp) (NF : Addr → Prop) (Q : VK) (d : D) : Prop := ∀ v H' F, Same H H' → Fresh H H' F → Rep g H' (or2 NF F) d v F → Q v H'
def AfterL (g : Gb) (H : Hp) (NF : Addr → Prop) (Q : List V → Hp → Prop) (ds : List D) : Prop := ∀ vs H' F, Same H H' → Fresh H H' F → Reps g H' (or2 NF F) ds vs F → Q vs H'
def Out (H : Hp) (W : Str → Hp → Prop) (c : Str) : Prop := ∀ H', Same H H' → W c H'
def tE (g : Gb) (C : Cl) (W : Str → Hp → Prop) (m : E) : TE := fun σ H Q => ∃ NF Γ, (∀ a, NF a → H a ≠ none) ∧ See g H NF σ Γ (vars m) ∧ (ev C Γ m).wp (After g H NF Q) (Out H W)
def tEs (g : Gb) (C : Cl) (W : Str → Hp → Prop) (ms : List E) : TA := fun σ H Q => ∃ NF Γ, (∀ a, NF a → H a ≠ none) ∧ See g H NF σ Γ (varsL ms) ∧ (evL C Γ ms).wp (AfterL g H NF Q) (Out H W)
def tT (g : Gb) (C : Cl) (W : Str → Hp → Prop) (m : E) : TT := fun σ H Q => ∃ NF Γ, (∀ a, NF a → H a ≠ none) ∧ See g H NF σ Γ (vars m) ∧ ((ev C Γ m).bind asB).wp (fun k => ∀ H', Same H H' → Q k H') (Out H W)
structure SE (X : Cx) (C : Cl) (W : Str → Hp → Prop) (e : Expr) (m : E) : Prop where
  pe : PE X e (tE (gx X) C W m)
structure SEs (X : Cx) (C : Cl) (W : Str → Hp → Prop) (es : List Expr) (ms : List E) : Prop where
  pa : PA X es (tEs (gx X) C W ms)
structure ST (X : Cx) (C : Cl) (W : Str → Hp → Prop) (e : Expr) (m : E) : Prop where
  pt : PT X e (tT (gx X) C W m)

section
variable {g : Gb} {C : Cl} {W : Str → Hp → Prop} {H H' : Hp} {NF : Addr → Prop} {σ : L2.St}
theorem Out.same {c : Str} (s : Same H H') (o : Out H W c) : Out H' W c := fun _ s' => o _ (s.trans s')
theorem tE_mono {m : E} {Q Q' : VK} (h : tE g C W m σ H Q) (q : ∀ v H', Q v H' → Q' v H') : tE g C W m σ H Q' := by
  obtain ⟨NF, Γ, tr, se, w⟩ := h
  exact ⟨NF, Γ, tr, se, Rs.wp_mono w (fun d a v H' F s f r => q _ _ (a v H' F s f r)) fun _ z => z⟩
theorem tEs_mono {m : List E} {Q Q' : List V → Hp → Prop} (h : tEs g C W m σ H Q) (q : ∀ v H', Q v H' → Q' v H') : tEs g C W m σ H Q' := by
  obtain ⟨NF, Γ, tr, se, w⟩ := h
  exact ⟨NF, Γ, tr, se, Rs.wp_mono w (fun d a v H' F s f r => q _ _ (a v H' F s f r)) fun _ z => z⟩
theorem tr_same (s : Same H H') (tr : ∀ a, NF a → H a ≠ none) : ∀ a, NF a → H' a ≠ none := fun a q => by
  cases e : H a with
  | none => exact absurd e (tr a q)
  | some o => rw [s a o e]; simp
theorem tr_or {F : Addr → Prop} (s : Same H H') (tr : ∀ a, NF a → H a ≠ none) (f : Fresh H H' F) : ∀ a, or2 NF F a → H' a ≠ none := fun a q => q.elim (tr_same s tr a) fun q => (f a q).2
theorem nf_fresh {F : Addr → Prop} (f : Fresh H H' F) : ∀ a, H a ≠ none → ¬ NF a → ¬ or2 NF F a := fun a h n z => z.elim n fun q => h (f a q).1
theorem Fresh.trans {H'' : Hp} {F F' : Addr → Prop} (f : Fresh H H' F) (s : Same H H') (s' : Same H' H'') (f' : Fresh H' H'' F') : Fresh H H'' (or2 F F') := fun a q => by
  rcases q with q | q
  · obtain ⟨h1, h2⟩ := f a q
    exact ⟨h1, tr_same s' (NF := fun a => H' a ≠ none) (fun _ z => z) a h2⟩
  · obtain ⟨h1, h2⟩ := f' a q
    refine ⟨?_, h2⟩
    cases e : H a with
    | none => rfl
    | some o => rw [s a o e] at h1; cases h1

/-- the first one, then the others -/
theorem tEs_cons {m : E} {ms : List E} {Q : List V → Hp → Prop} (h : tEs g C W (m :: ms) σ H Q) : tCons (tE g C W m) (tEs g C W ms) σ H Q := by
  obtain ⟨NF, Γ, tr, se, w⟩ := h
  refine ⟨NF, Γ, tr, se.mono same_refl (fun _ _ z => z) (fun i hi => List.mem_append_left _ hi), ?_⟩
  refine Rs.wp_mono (Rs.wp_bind w) (fun d w v H1 F s f r => ?_) fun _ z => z
  refine ⟨or2 NF F, Γ, tr_or s tr f, se.mono s (nf_fresh f) (fun i hi => List.mem_append_right _ hi), ?_⟩
  refine Rs.wp_mono (Rs.wp_bind w) (fun ds w vs H2 F2 s2 f2 r2 => ?_) fun _ z => z.same s
  refine w (v :: vs) H2 (or2 F F2) (s.trans s2) (f.trans s s2 f2) ⟨v, vs, F, F2, rfl, ?_, ?_, fun _ => .inl, fun _ => .inr, fun a q1 q2 => (f a q1).2 (f2 a q2).1⟩
  · exact Rep.mono (fun a h n z => (by rcases z with z | z | z; exact n (.inl z); exact n (.inr z); exact h (f2 a z).1)) d v F F (fun a o q _ => s2 a o q) (fun _ q => q) r
  · exact Reps.mono (fun a h n z => (by rcases z with z | z | z; exact n (.inl (.inl z)); exact n (.inl (.inr z)); exact n (.inr z))) ds vs F2 F2 (fun a o q _ => q) (fun _ q => q) r2
theorem tEs_nil {Q : List V → Hp → Prop} (h : tEs g C W [] σ H Q) : tNil σ H Q := by
  obtain ⟨NF, Γ, tr, se, w⟩ := h
  exact w [] H none0 same_refl (fun _ q => q.elim) rfl

/-- values handed to something that works on values alone, and what is wanted behind -/
def PrimQ (g : Gb) (o : Pr) (vs : List V) (H : Hp) (Q : VK) : Prop := ∃ NF ds F d, (∀ a, or2 NF F a → H a ≠ none) ∧ (∀ a, F a → ¬ NF a) ∧ Reps g H (or2 NF F) ds vs F ∧ prim o ds = some d ∧
  ∀ v H' F', Same H H' → (∀ a, F' a → F a ∨ (H a = none ∧ H' a ≠ none)) → Rep g H' (or2 NF F') d v F' → Q v H'
theorem tE_p {o : Pr} {ms : List E} {Q : VK} (h : tE g C W (.p o ms) σ H Q) : tEs g C W ms σ H fun vs H1 => PrimQ g o vs H1 Q := by
  obtain ⟨NF, Γ, tr, se, w⟩ := h
  refine ⟨NF, Γ, tr, se, ?_⟩
  refine Rs.wp_mono (Rs.wp_bind w) (fun ds w vs H1 F s f r => ?_) fun _ z => z
  obtain ⟨d, e, a⟩ := Rs.wp_of w
  refine ⟨NF, ds, F, d, tr_or s tr f, fun a q z => tr a z (f a q).1, r, e, fun v H' F' s' f' r' => a v H' F' (s.trans s') (fun b q => ?_) r'⟩
  rcases f' b q with q | ⟨q1, q2⟩
  · exact ⟨(f b q).1, tr_same s' (NF := fun a => H1 a ≠ none) (fun _ z => z) b (f b q).2⟩
  · refine ⟨?_, q2⟩
    cases e : H b with
    | none => rfl
    | some o => rw [s b o e] at q1; cases q1
theorem tEs_1 {m : E} {Q : List V → Hp → Prop} (h : tEs g C W [m] σ H Q) : tE g C W m σ H fun v H1 => Q [v] H1 :=
  tE_mono (tEs_cons h) fun v H1 z => tEs_nil z
theorem tEs_2 {m m' : E} {Q : List V → Hp → Prop} (h : tEs g C W [m, m'] σ H Q) : tE g C W m σ H fun v H1 => tE g C W m' σ H1 fun u H2 => Q [v, u] H2 :=
  tE_mono (tEs_cons h) fun v H1 z => tEs_1 z
theorem tEs_3 {m m' m'' : E} {Q : List V → Hp → Prop} (h : tEs g C W [m, m', m''] σ H Q) : tE g C W m σ H fun v H1 => tE g C W m' σ H1 fun u H2 => tE g C W m'' σ H2 fun y H3 => Q [v, u, y] H3 :=
  tE_mono (tEs_cons h) fun v H1 z => tEs_2 z
end

section
variable {X : Cx} {C : Cl} {W : Str → Hp → Prop}
theorem ses_nil : SEs X C W [] [] := ⟨PA.imp pa_nil fun σ H Q h => tEs_nil h⟩
theorem ses_cons {e : Expr} {es : List Expr} {m : E} {ms : List E} (h : SE X C W e m) (hs : SEs X C W es ms) (ht : starEach (e :: es) X.env = (false, eval e X.env) :: starEach es X.env := by rfl) : SEs X C W (e :: es) (m :: ms) := ⟨PA.imp (pa_cons h.pe hs.pa ht) fun σ H Q h => tEs_cons h⟩

/-! ### names and constants -/
theorem se_v (i : Nat) {x : Str} {pos : Pos} (hN : X.N[i]? = some x := by rfl) (hv : Vis X.env.scope x := by first | exact Or.inl rfl | exact Or.inr (Or.inl rfl) | exact Or.inr (Or.inr rfl)) (hd : (x == ("__debug__" : Str)) = false := by decide)
    (hcd : (x == ("__classdict__" : Str)) = false := by decide) : SE X C W (.Name x pos) (.v i) := ⟨PE.imp (pe_var hN hv hd hcd) fun σ H Q h => by
  obtain ⟨NF, Γ, tr, se, w⟩ := h
  have w : ((get1 Γ i).bind fun d => Rs.ok (fz d)).wp (After (gx X) H NF Q) (Out H W) := w
  unfold get1 at w
  split at w
  · rename_i d e
    obtain ⟨v, h1, h2⟩ := se.2 i (List.mem_singleton.mpr rfl) d e
    exact ⟨v, h1, w v H none0 same_refl (fun _ q => q.elim) (Rep.mono (fun a _ n z => z.elim n id) _ _ _ _ (fun _ _ q _ => q) (fun _ q => q) h2)⟩
  · exact w.elim⟩
theorem se_c {e : Expr} {v : V} {d : D} (h : PE X e (tC v)) (r : ∀ H NF, Rep (gx X) H NF d v none0) : SE X C W e (.c d) := ⟨PE.imp h fun σ H Q h => by
  obtain ⟨NF, Γ, tr, se, w⟩ := h
  exact w v H none0 same_refl (fun _ q => q.elim) (r _ _)⟩
theorem se_int {i j pos} : SE X C W (.Constant (.int i) j pos) (.c (.int i)) := se_c pe_int fun _ _ => rfl
theorem se_bl {i j pos} : SE X C W (.Constant (.bool i) j pos) (.c (.bl i)) := se_c pe_bl fun _ _ => rfl
theorem se_non {j pos} : SE X C W (.Constant .none j pos) (.c .non) := se_c pe_non fun _ _ => rfl
theorem se_str {x : Str} {j pos} (s : List Nat) (h : x = mkS s := by rfl) (h2 : okS s = true := by decide) : SE X C W (.Constant (.str x) j pos) (.c (.str s)) := by
  subst h
  exact se_c pe_str fun _ _ => ⟨rfl, h2⟩
/-- a constant of the module -/
theorem se_gl {x : Str} {pos : Pos} {v : V} {d : D} (h : PE X (.Name x pos) (tC v)) (r : ∀ H NF, Rep (gx X) H NF d v none0) : SE X C W (.Name x pos) (.c d) := se_c h r

/-! ### operators by values -/
def Prim2 (X : Cx) (o : Pr) (r : R2) : Prop := ∀ x y H Q, PrimQ (gx X) o [x, y] H Q → r x y H Q
def Prim1 (X : Cx) (o : Pr) (r : V → Hp → VK → Prop) : Prop := ∀ x H Q, PrimQ (gx X) o [x] H Q → r x H Q
theorem tE_p2 {g : Gb} {σ : L2.St} {H : Hp} {o : Pr} {ma mb : E} {Q : VK} (h : tE g C W (.p o [ma, mb]) σ H Q) : tE g C W ma σ H fun v H1 => tE g C W mb σ H1 fun u H2 => PrimQ g o [v, u] H2 Q := tEs_2 (tE_p h)
theorem tE_p1 {g : Gb} {σ : L2.St} {H : Hp} {o : Pr} {ma : E} {Q : VK} (h : tE g C W (.p o [ma]) σ H Q) : tE g C W ma σ H fun v H1 => PrimQ g o [v] H1 Q := tEs_1 (tE_p h)
theorem se_op {a b : Expr} {ma mb : E} {op : Operator} {pos : Pos} {r : R2} {o : Pr} (ho : OpR X (binaryOp op) r) (p : Prim2 X o r) (ha : SE X C W a ma) (hb : SE X C W b mb) : SE X C W (.BinOp a op b pos) (.p o [ma, mb]) :=
  ⟨PE.imp (pe_op ho ha.pe hb.pe) fun σ H Q h => tE_mono (tE_p2 h) fun v H1 h => tE_mono h fun u H2 h => p _ _ _ _ h⟩
theorem se_un {a : Expr} {ma : E} {op : UnaryOp} {pos : Pos} {r : V → Hp → VK → Prop} {o : Pr} (ho : UnR X (unaryOp op) r) (p : Prim1 X o r) (ha : SE X C W a ma) : SE X C W (.UnaryOp op a pos) (.p o [ma]) :=
  ⟨PE.imp (pe_un ho ha.pe) fun σ H Q h => tE_mono (tE_p1 h) fun v H1 h => p _ _ _ h⟩
theorem se_cmp {a b : Expr} {ma mb : E} {op : CmpOp} {pos : Pos} {r : R2} {o : Pr} (ho : OpR X (compareOp op) r) (p : Prim2 X o r) (ha : SE X C W a ma) (hb : SE X C W b mb) (hm : behindInMarks op b = false := by first | exact nomark _ | rfl) : SE X C W (.Compare a [op] [b] pos) (.p o [ma, mb]) :=
  ⟨PE.imp (pe_cmpR ho ha.pe hb.pe hm) fun σ H Q h => tE_mono (tE_p2 h) fun v H1 h => tE_mono h fun u H2 h => p _ _ _ _ h⟩
theorem tT_tE {g : Gb} {σ : L2.St} {H : Hp} {m : E} {Q : Bool → Hp → Prop} (h : tT g C W m σ H Q) : tE g C W m σ H fun x H' => ∃ k, x = .bl k ∧ Q k H' := by
  obtain ⟨NF, Γ, tr, se, w⟩ := h
  refine ⟨NF, Γ, tr, se, Rs.wp_mono (Rs.wp_bind w) (fun d w v H' F s f r => ?_) fun _ z => z⟩
  unfold asB truth at w
  cases d with
  | bl b => exact ⟨b, r, w H' s⟩
  | non => exact w.elim
  | int _ => exact w.elim
  | str _ => exact w.elim
  | tup _ => exact w.elim
  | lst _ _ => exact w.elim
  | dct _ _ _ => exact w.elim
  | scr _ => exact w.elim
theorem st_cmp {a b : Expr} {ma mb : E} {op : CmpOp} {pos : Pos} {r : R2} {o : Pr} (ho : OpR X (compareOp op) r) (p : Prim2 X o r) (ha : SE X C W a ma) (hb : SE X C W b mb) (hm : behindInMarks op b = false := by first | exact nomark _ | rfl) : ST X C W (.Compare a [op] [b] pos) (.p o [ma, mb]) :=
  ⟨PT.imp (pt_cmpR ho ha.pe hb.pe hm) fun σ H Q h => tE_mono (tE_p2 (tT_tE h)) fun v H1 h => tE_mono h fun u H2 h => p _ _ _ _ h⟩
theorem st_val {e : Expr} {m : E} (h : SE X C W e m) (he : ∀ whole, isTrue e X.env whole = (do let v ← whole; standAt e.pos; holding [v] (truthy v)) := by intro _; rfl) : ST X C W e m :=
  ⟨PT.imp (pt_val h.pe he) fun σ H Q h => tT_tE h⟩
theorem se_ix {a b : Expr} {ma mb : E} {pos : Pos} {r : R2} {o : Pr} (ho : IxR X r) (p : Prim2 X o r) (ha : SE X C W a ma) (hb : SE X C W b mb) (hs : PlainIx b := by exact fun _ _ => rfl) : SE X C W (.Subscript a b pos) (.p o [ma, mb]) :=
  ⟨PE.imp (pe_ix ho ha.pe hb.pe hs) fun σ H Q h => tE_mono (tE_p2 h) fun v H1 h => tE_mono h fun u H2 h => p _ _ _ _ h⟩
theorem se_tup {es : List Expr} {ms : List E} {k : Nat} {pos : Pos} (h : SEs X C W es ms) : SE X C W (.Tuple es k pos) (.p .tup ms) := ⟨PE.imp (pe_tup h.pa) fun σ H Q h => tEs_mono (tE_p h) fun vs H1 h => by
  obtain ⟨NF, ds, F, d, tr, dj, r, e, q⟩ := h
  have e : (if ds.length ≤ lim then some (D.tup ds) else none) = some d := e
  split at e
  · cases e
    rename_i hl
    refine ⟨by rw [r.length]; exact hl, fun p hp => q _ _ F (same_up hp _) (fun a z => .inl z) ⟨p, vs, rfl, upd_same, Reps.mono (fun _ _ z => z) ds vs F F (fun a o z _ => same_up hp _ a o z) (fun _ z => z) r⟩⟩
  · cases e⟩
theorem se_lst {es : List Expr} {ms : List E} {pos : Pos} (h : SEs X C W es ms) : SE X C W (.List es pos) (.p .lst ms) := ⟨PE.imp (pe_lst h.pa) fun σ H Q h => tEs_mono (tE_p h) fun vs H1 h => by
  obtain ⟨NF, ds, F, d, tr, dj, r, e, q⟩ := h
  have e : (if ds.length ≤ lim then some (D.lst true ds) else none) = some d := e
  split at e
  · cases e
    rename_i hl
    refine ⟨by rw [r.length]; exact hl, fun p hp => q _ _ (fun a => a = p ∨ F a) (same_up hp _) (fun a z => z.elim (fun z => .inr (by subst z; exact ⟨hp, by rw [upd_same]; simp⟩)) .inl) ⟨p, vs, F, rfl, upd_same, .inl rfl, fun z => tr p (.inr z) hp, fun _ => .inr, ?_⟩⟩
    refine Reps.mono (fun a h n z => ?_) ds vs F F (fun a o z _ => same_up hp _ a o z) (fun _ z => z) r
    rcases z with z | z | z
    · exact n (.inl z)
    · exact h (z ▸ hp)
    · exact n (.inr z)
  · cases e⟩
end
end RW

namespace RW
open PySem L2 PySem.Spec PyProof.Rows

/-! ## 5. what is done with values alone -/
section
variable {g : Gb} {H : Hp} {NF F : Addr → Prop} {Q : VK} {o : Pr}
theorem Reps.of1 {ds : List D} {x : V} (r : Reps g H NF ds [x] F) : ∃ a, ds = [a] ∧ Rep g H NF a x F := by
  have l := r.length
  match ds, l, r with
  | [a], _, r =>
    obtain ⟨v, e, h⟩ := r.un1
    cases e
    exact ⟨a, rfl, h⟩
theorem Reps.of2 {ds : List D} {x y : V} (r : Reps g H NF ds [x, y] F) : ∃ a b F1 F2, ds = [a, b] ∧ Rep g H NF a x F1 ∧ Rep g H NF b y F2 ∧ (∀ b, F1 b → F b) ∧ (∀ b, F2 b → F b) ∧ (∀ b, F1 b → ¬ F2 b) := by
  have l := r.length
  match ds, l, r with
  | [a, b], _, r =>
    obtain ⟨v, u, F1, F2, e, h⟩ := r.un2
    cases e
    exact ⟨a, b, F1, F2, rfl, h⟩
theorem Reps.of3 {ds : List D} {x y z : V} (r : Reps g H NF ds [x, y, z] F) : ∃ a b c F1 F2 F3, ds = [a, b, c] ∧ Rep g H NF a x F1 ∧ Rep g H NF b y F2 ∧ Rep g H NF c z F3 ∧ (∀ b, F1 b → F b) ∧ (∀ b, F2 b → F b) ∧ (∀ b, F3 b → F b) := by
  have l := r.length
  match ds, l, r with
  | [a, b, c], _, r =>
    obtain ⟨v, vs, F1, F2, e, h1, h2, s1, s2, dj⟩ := r
    cases e
    obtain ⟨v, u, F3, F4, e, h3, h4, s3, s4, _⟩ := Reps.un2 h2
    cases e
    exact ⟨a, b, c, F1, F3, F4, rfl, h1, h3, h4, s1, fun b q => s2 b (s3 b q), fun b q => s2 b (s4 b q)⟩
/-- what PrimQ asks behind -/
def QN (g : Gb) (H : Hp) (NF F : Addr → Prop) (Q : VK) (d : D) : Prop := ∀ v H' F', Same H H' → (∀ a, F' a → F a ∨ (H a = none ∧ H' a ≠ none)) → Rep g H' (or2 NF F') d v F' → Q v H'
theorem PrimQ.o1 {x : V} (h : PrimQ g o [x] H Q) : ∃ NF F a d, (∀ z, or2 NF F z → H z ≠ none) ∧ Rep g H (or2 NF F) a x F ∧ prim o [a] = some d ∧ QN g H NF F Q d := by
  obtain ⟨NF, ds, F, d, tr, dj, r, e, q⟩ := h
  obtain ⟨a, rfl, r2⟩ := r.of1
  exact ⟨NF, F, a, d, tr, r2, e, q⟩
theorem PrimQ.o2 {x y : V} (h : PrimQ g o [x, y] H Q) : ∃ NF F F1 F2 a b d, (∀ z, or2 NF F z → H z ≠ none) ∧ Rep g H (or2 NF F) a x F1 ∧ Rep g H (or2 NF F) b y F2 ∧ (∀ z, F1 z → F z) ∧ (∀ z, F2 z → F z) ∧ (∀ z, F1 z → ¬ F2 z) ∧ prim o [a, b] = some d ∧ QN g H NF F Q d := by
  obtain ⟨NF, ds, F, d, tr, dj, r, e, q⟩ := h
  obtain ⟨a, b, F1, F2, rfl, h1, h2, h3, h4, h5⟩ := r.of2
  exact ⟨NF, F, F1, F2, a, b, d, tr, h1, h2, h3, h4, h5, e, q⟩
/-- the answer holds no object -/
theorem QN.scal {d : D} {v : V} (q : QN g H NF F Q d) (r : ∀ NF, Rep g H NF d v none0) : Q v H := q v H none0 same_refl (fun _ z => z.elim) (r _)
theorem QN.int {i : Int} (q : QN g H NF F Q (.int i)) : Q (.int i) H := q.scal fun _ => rfl
theorem QN.bl {i : Bool} (q : QN g H NF F Q (.bl i)) : Q (.bl i) H := q.scal fun _ => rfl
theorem QN.str {s : List Nat} (q : QN g H NF F Q (.str s)) (h : okS s = true) : Q (.str (mkS s)) H := q.scal fun _ => ⟨rfl, h⟩
/-- the answer was there -/
theorem QN.old {d : D} {v : V} {G : Addr → Prop} (q : QN g H NF F Q d) (r : Rep g H (or2 NF F) d v G) (s : ∀ a, G a → F a) : Q v H :=
  q v H G same_refl (fun a z => .inl (s a z)) (Rep.mono (fun a _ n z => n (z.imp id (s a))) d v G G (fun _ _ z _ => z) (fun _ z => z) r)
/-- a new list -/
theorem QN.lst {ds : List D} {vs : List V} {G : Addr → Prop} {p : Addr} (q : QN g H NF F Q (.lst true ds)) (tr : ∀ z, or2 NF F z → H z ≠ none) (r : Reps g H (or2 NF F) ds vs G) (s : ∀ a, G a → F a) (hp : H p = none) : Q (.ref p) (upd H p (.lst vs)) := by
  refine q _ _ (fun a => a = p ∨ G a) (same_up hp _) (fun a z => z.elim (fun z => .inr (by subst z; exact ⟨hp, by rw [upd_same]; simp⟩)) (fun z => .inl (s a z))) ⟨p, vs, G, rfl, upd_same, .inl rfl, fun z => tr p (.inr (s p z)) hp, fun _ => .inr, ?_⟩
  refine Reps.mono (fun a h n z => ?_) ds vs G G (fun a o z _ => same_up hp _ a o z) (fun _ z => z) r
  rcases z with z | z | z
  · exact n (.inl z)
  · exact h (z ▸ hp)
  · exact n (.inr (s a z))
theorem QN.tup {ds : List D} {vs : List V} {G : Addr → Prop} {p : Addr} (q : QN g H NF F Q (.tup ds)) (tr : ∀ z, or2 NF F z → H z ≠ none) (r : Reps g H (or2 NF F) ds vs G) (s : ∀ a, G a → F a) (hp : H p = none) : Q (.ref p) (upd H p (.tup vs)) := by
  refine q _ _ G (same_up hp _) (fun a z => .inl (s a z)) ⟨p, vs, rfl, upd_same, ?_⟩
  exact Reps.mono (fun a h n z => n (z.imp id (s a))) ds vs G G (fun a o z _ => same_up hp _ a o z) (fun _ z => z) r
theorem Rep.lstInv {ob : Bool} {ds : List D} {v : V} (r : Rep g H NF (.lst ob ds) v F) : ∃ a vs G, v = .ref a ∧ H a = some (.lst vs) ∧ Reps g H NF ds vs G ∧ (∀ b, G b → F b) := by
  cases ob with
  | true => obtain ⟨a, vs, G, e, ha, fa, ga, gs, x⟩ := r; exact ⟨a, vs, G, e, ha, x, gs⟩
  | false => obtain ⟨a, vs, e, ha, na, x⟩ := r; exact ⟨a, vs, none0, e, ha, x, fun _ z => z.elim⟩
theorem Rep.scrInv {xs : List Int} {v : V} (r : Rep g H NF (.scr xs) v F) : ∃ a, v = .ref a ∧ SqL g.K H a (xs.map V.int) := by
  obtain ⟨a, e, h⟩ := r
  rcases h with ⟨h, _⟩ | h
  · exact ⟨a, e, .inl h⟩
  · rcases h with h | h
    · rcases h with h | ⟨_, h⟩ <;> cases h
    · exact ⟨a, e, .inr h⟩
end
theorem lim_eq : lim = sizeLine := by unfold lim; rw [sizeLine_eq]

section
variable {X : Cx}
/-! ### numbers -/
theorem p2_int {o : Pr} {C : Int → Int → Prop} {f : Int → Int → Int} (hp : ∀ a b d, prim o [a, b] = some d → ∃ i j, a = .int i ∧ b = .int j ∧ C i j ∧ d = .int (f i j)) : Prim2 X o (rI C fun i j => .int (f i j)) := fun x y H Q h => by
  obtain ⟨NF, F, F1, F2, a, b, d, tr, ra, rb, s1, s2, dj, e, q⟩ := h.o2
  obtain ⟨i, j, rfl, rfl, c, rfl⟩ := hp a b d e
  exact ⟨i, j, ra, rb, c, q.int⟩
theorem p2_sub : Prim2 X .sub (rI0 fun i j => .int (i - j)) := fun x y H Q h => by
  obtain ⟨NF, F, F1, F2, a, b, d, tr, ra, rb, s1, s2, dj, e, q⟩ := h.o2
  replace e : pSub [a, b] = some d := e
  unfold pSub at e
  split at e
  · rename_i i j he
    cases he; cases e
    exact ⟨i, j, ra, rb, q.int⟩
  · cases e
theorem p2_cmp {o : Pr} {f : Int → Int → Bool} (ho : prim o = pCmp f) : Prim2 X o (rI0 fun i j => .bl (f i j)) := fun x y H Q h => by
  obtain ⟨NF, F, F1, F2, a, b, d, tr, ra, rb, s1, s2, dj, e, q⟩ := h.o2
  rw [ho] at e
  unfold pCmp at e
  split at e
  · rename_i i j he
    cases he; cases e
    exact ⟨i, j, ra, rb, q.bl⟩
  · cases e
theorem p2_fdiv : Prim2 X .fdiv (rI CDiv fun i j => .int (i / j)) := p2_int fun a b d e => by
  replace e : pFdiv [a, b] = some d := e
  unfold pFdiv at e
  split at e
  · rename_i i j he
    cases he
    split at e
    · cases e; rename_i c; exact ⟨i, j, rfl, rfl, c, rfl⟩
    · cases e
  · cases e
theorem p2_mod : Prim2 X .mod (rI (fun _ j => 0 < j) fun i j => .int (i % j)) := p2_int fun a b d e => by
  replace e : pMod [a, b] = some d := e
  unfold pMod at e
  split at e
  · rename_i i j he
    cases he
    split at e
    · cases e; rename_i c; exact ⟨i, j, rfl, rfl, c, rfl⟩
    · cases e
  · cases e
theorem p2_pow : Prim2 X .pow (rI CPow fun i j => .int (i ^ j.toNat)) := p2_int fun a b d e => by
  replace e : pPow [a, b] = some d := e
  unfold pPow at e
  split at e
  · rename_i i j he
    cases he
    split at e
    · cases e; rename_i c; exact ⟨i, j, rfl, rfl, c, rfl⟩
    · cases e
  · cases e
theorem p1_neg : Prim1 X .neg (rU fun i => .int (-i)) := fun x H Q h => by
  obtain ⟨NF, F, a, d, tr, ra, e, q⟩ := h.o1
  replace e : pNeg [a] = some d := e
  unfold pNeg at e
  split at e
  · rename_i i he
    cases he; cases e
    exact ⟨i, ra, q.int⟩
  · cases e

/-! ### + and * -/
def rAddS : R2 := fun x y H Q => ∃ i j, x = .str i ∧ y = .str j ∧ i.length + j.length ≤ sizeLine ∧ Q (.str (i ++ j)) H
def rAdd4 (K : PySem.W.Frag) : R2 := fun x y H Q => rI0 (fun i j => .int (i + j)) x y H Q ∨ rAddS x y H Q ∨ rCat x y H Q ∨ rCatA K x y H Q
theorem o_add : OpR X (binaryOp .Add) (rAdd4 X.K) := OpR.or op_add (OpR.or op_add_str (OpR.or op_cat op_catA))
theorem p2_add : Prim2 X .add (rAdd4 X.K) := fun x y H Q h => by
  obtain ⟨NF, F, F1, F2, a, b, d, tr, ra, rb, s1, s2, dj, e, q⟩ := h.o2
  replace e : pAdd [a, b] = some d := e
  unfold pAdd at e
  split at e
  · rename_i i j he
    cases he; cases e
    exact .inl ⟨i, j, ra, rb, q.int⟩
  · rename_i i j he
    cases he
    split at e
    · cases e
      rename_i hl
      obtain ⟨ra, oa⟩ := ra
      obtain ⟨rb, ob⟩ := rb
      refine .inr (.inl ⟨mkS i, mkS j, ra, rb, by rw [mkS_length, mkS_length, ← lim_eq]; exact hl, ?_⟩)
      have z : mkS i ++ mkS j = mkS (i ++ j) := by show (⟨i.toArray ++ j.toArray⟩ : Str) = ⟨(i ++ j).toArray⟩; simp
      rw [z]
      exact q.str (by unfold okS at oa ob ⊢; rw [List.all_append, oa, ob]; rfl)
    · cases e
  · rename_i o1 i o2 j he
    cases he
    split at e
    · cases e
      rename_i hl
      obtain ⟨l1, v1, G1, rfl, h1, r1, t1⟩ := ra.lstInv
      obtain ⟨l2, v2, G2, rfl, h2, r2, t2⟩ := rb.lstInv
      refine .inr (.inr (.inl ⟨l1, l2, v1, v2, rfl, rfl, h1, h2, by rw [r1.length, r2.length, ← lim_eq]; exact hl, fun p hp => ?_⟩))
      exact q.lst tr (Reps.append (F := F) r1 r2 (fun b z => s1 b (t1 b z)) (fun b z => s2 b (t2 b z)) (fun b z z' => dj b (t1 b z) (t2 b z'))) (fun _ z => z) hp
    · cases e
  · rename_i i j he
    cases he
    split at e
    · cases e
      rename_i hl
      obtain ⟨l1, v1, rfl, h1, r1⟩ := ra
      obtain ⟨l2, v2, rfl, h2, r2⟩ := rb
      have app := Reps.append (F := F) r1 r2 s1 s2 dj
      refine .inr (.inr (.inr ⟨l1, l2, v1, v2, rfl, rfl, SqT.of h1, SqT.of h2, by rw [r1.length, r2.length, ← lim_eq]; exact hl, fun z => ?_, fun z z' => ?_, fun z z' p hp => ?_⟩))
      · subst z
        exact q.old (v := .ref l2) ⟨l2, v2, rfl, h2, by simpa using app⟩ (fun _ z => z)
      · subst z'
        exact q.old (v := .ref l1) ⟨l1, v1, rfl, h1, by simpa using app⟩ (fun _ z => z)
      · exact q.tup tr app (fun _ z => z) hp
    · cases e
  · cases e
end
end RW

namespace RW
open PySem L2 PySem.Spec PyProof.Rows

/-! ### == and in -/
mutual
def toP : D → PyData
  | .non => .none
  | .bl b => .bool b
  | .int i => .int i
  | .str s => .str (mkS s)
  | .tup xs => .tuple (toPs xs)
  | .lst _ xs => .list (toPs xs)
  | .dct _ _ _ => .none
  | .scr _ => .none
def toPs : List D → List PyData
  | [] => []
  | x :: xs => toP x :: toPs xs
end
mutual
theorem rep_dp {g : Gb} {H : Hp} {NF : Addr → Prop} : ∀ (d : D) (v : V) (F : Addr → Prop), (dep d).isSome = true → Rep g H NF d v F → Dp g.K H v (toP d) ∧ (toP d).canLay0 = true
  | .non, _, _, _, x => by have x : _ = V.non := x; subst x; exact ⟨.non, by simp [toP, PyData.canLay0]⟩
  | .bl _, _, _, _, x => by have x : _ = V.bl _ := x; subst x; exact ⟨.bl _, by simp [toP, PyData.canLay0]⟩
  | .int _, _, _, _, x => by have x : _ = V.int _ := x; subst x; exact ⟨.int _, by simp [toP, PyData.canLay0]⟩
  | .str s, _, _, _, ⟨x, h⟩ => by
    subst x
    refine ⟨.str _, ?_⟩
    unfold okS at h
    simp only [toP, PyData.canLay0, PyData.strOk, mkS]
    simpa using h
  | .tup ds, v, F, e, ⟨a, vs, h1, ha, x⟩ => by
    subst h1
    obtain ⟨i, j⟩ := reps_dp ds vs F (by simpa [dep] using e) x
    exact ⟨.tup (SqT.of ha) i, by simp [toP, PyData.canLay0, j]⟩
  | .lst true ds, v, F, e, ⟨a, vs, G, h1, ha, _, _, _, x⟩ => by
    subst h1
    obtain ⟨i, j⟩ := reps_dp ds vs G (by simpa [dep] using e) x
    exact ⟨.lst (SqL.of ha) i, by simp [toP, PyData.canLay0, j]⟩
  | .lst false ds, v, F, e, ⟨a, vs, h1, ha, _, x⟩ => by
    subst h1
    obtain ⟨i, j⟩ := reps_dp ds vs none0 (by simpa [dep] using e) x
    exact ⟨.lst (SqL.of ha) i, by simp [toP, PyData.canLay0, j]⟩
  | .dct _ _ _, _, _, e, _ => by simp [dep] at e
  | .scr _, _, _, e, _ => by simp [dep] at e
theorem reps_dp {g : Gb} {H : Hp} {NF : Addr → Prop} : ∀ (ds : List D) (vs : List V) (F : Addr → Prop), (deps ds).isSome = true → Reps g H NF ds vs F → DpAll g.K H vs (toPs ds) ∧ PyData.canLayAll0 (toPs ds) = true
  | [], _, _, _, x => by have x : _ = [] := x; subst x; exact ⟨.nil, by simp [toPs, PyData.canLayAll0]⟩
  | d :: ds, vs, F, e, ⟨v, r, F1, F2, h1, x1, x2, _⟩ => by
    subst h1
    have e' : (dep d).isSome = true ∧ (deps ds).isSome = true := by
      unfold deps at e
      split at e
      · rename_i a b h1 h2; rw [h1, h2]; exact ⟨rfl, rfl⟩
      · cases e
    obtain ⟨i1, j1⟩ := rep_dp d v F1 e'.1 x1
    obtain ⟨i2, j2⟩ := reps_dp ds r F2 e'.2 x2
    exact ⟨.cons i1 i2, by simp [toPs, PyData.canLayAll0, j1, j2]⟩
end
mutual
theorem lay_toP : ∀ (d : D) (n : Nat), dep d = some n → (toP d).depth = n
  | .non, n, e => by cases e; simp [toP, PyData.depth]
  | .bl _, n, e => by cases e; simp [toP, PyData.depth]
  | .int _, n, e => by cases e; simp [toP, PyData.depth]
  | .str _, n, e => by cases e; simp [toP, PyData.depth]
  | .tup ds, n, e => by
    have e : (deps ds).map (· + 1) = some n := e
    obtain ⟨m, h1, rfl⟩ := Option.map_eq_some_iff.mp e
    simp [toP, PyData.depth, lay_toPs ds m h1]
  | .lst _ ds, n, e => by
    have e : (deps ds).map (· + 1) = some n := e
    obtain ⟨m, h1, rfl⟩ := Option.map_eq_some_iff.mp e
    simp [toP, PyData.depth, lay_toPs ds m h1]
  | .dct _ _ _, _, e => by cases e
  | .scr _, _, e => by cases e
theorem lay_toPs : ∀ (ds : List D) (n : Nat), deps ds = some n → PyData.depthAll (toPs ds) = n
  | [], n, e => by cases e; simp [toPs, PyData.depthAll]
  | d :: ds, n, e => by
    unfold deps at e
    split at e
    · rename_i a b h1 h2
      cases e
      simp [toPs, PyData.depthAll, lay_toP d a h1, lay_toPs ds b h2]
    · cases e
end
theorem mkS_beq (x y : List Nat) : (mkS x == mkS y) = (x == y) := by
  by_cases h : x = y
  · subst h; simp
  · have h2 : mkS x ≠ mkS y := fun z => h (mkS_inj z)
    rw [beq_eq_false_iff_ne.mpr h, beq_eq_false_iff_ne.mpr h2]
mutual
theorem eqv_toP : ∀ (a b : D), (dep a).isSome = true → (dep b).isSome = true → PyData.eqv (toP a) (toP b) = deq a b
  | .non, b, _, h => by cases b <;> simp [toP, PyData.eqv, deq] <;> simp [dep] at h
  | .bl _, b, _, h => by cases b <;> simp [toP, PyData.eqv, deq] <;> simp [dep] at h
  | .int _, b, _, h => by cases b <;> simp [toP, PyData.eqv, deq] <;> simp [dep] at h
  | .str _, b, _, h => by cases b <;> simp [toP, PyData.eqv, deq, mkS_beq] <;> simp [dep] at h
  | .tup xs, b, h', h => by
    cases b with
    | tup ys => simp only [toP, PyData.eqv, deq]; exact eqvs_toP xs ys (by simpa [dep] using h') (by simpa [dep] using h)
    | _ => simp [toP, PyData.eqv, deq] <;> simp [dep] at h
  | .lst _ xs, b, h', h => by
    cases b with
    | lst _ ys => simp only [toP, PyData.eqv, deq]; exact eqvs_toP xs ys (by simpa [dep] using h') (by simpa [dep] using h)
    | _ => simp [toP, PyData.eqv, deq] <;> simp [dep] at h
  | .dct _ _ _, _, h, _ => by simp [dep] at h
  | .scr _, _, h, _ => by simp [dep] at h
theorem eqvs_toP : ∀ (a b : List D), (deps a).isSome = true → (deps b).isSome = true → PyData.eqvAll (toPs a) (toPs b) = deqs a b
  | [], b, _, _ => by cases b <;> simp [toPs, PyData.eqvAll, deqs]
  | x :: xs, [], _, _ => by simp [toPs, PyData.eqvAll, deqs]
  | x :: xs, y :: ys, h, h' => by
    have e' : (dep x).isSome = true ∧ (deps xs).isSome = true := by
      unfold deps at h
      split at h
      · rename_i a b h1 h2; rw [h1, h2]; exact ⟨rfl, rfl⟩
      · cases h
    have e2 : (dep y).isSome = true ∧ (deps ys).isSome = true := by
      unfold deps at h'
      split at h'
      · rename_i a b h1 h2; rw [h1, h2]; exact ⟨rfl, rfl⟩
      · cases h'
    simp only [toPs, PyData.eqvAll, deqs]
    rw [eqv_toP x y e'.1 e2.1, eqvs_toP xs ys e'.2 e2.2]
end
theorem eqOk_some {k : Nat} {d : D} (h : eqOk k d = true) : (dep d).isSome = true ∧ (toP d).depth ≤ k := by
  unfold eqOk at h
  split at h
  · rename_i n e
    exact ⟨by rw [e]; rfl, by rw [lay_toP d n e]; exact of_decide_eq_true h⟩
  · cases h
theorem eqOk_shaped {g : Gb} {H : Hp} {NF : Addr → Prop} {d : D} {v : V} {F : Addr → Prop} (h : eqOk 64 d = true) (r : Rep g H NF d v F) : SeqAt.shaped (toP d) = true := by
  obtain ⟨h1, h2⟩ := eqOk_some h
  unfold SeqAt.shaped
  rw [(rep_dp d v F h1 r).2, decide_eq_true h2]
  rfl
theorem any_eqv (a : D) (ha : (dep a).isSome = true) : ∀ (b : List D), (deps b).isSome = true → ((toPs b).any fun z => PyData.eqv z (toP a)) = b.any fun z => deq z a
  | [], _ => rfl
  | y :: ys, h' => by
    have e2 : (dep y).isSome = true ∧ (deps ys).isSome = true := by
      unfold deps at h'
      split at h'
      · rename_i a b h1 h2; rw [h1, h2]; exact ⟨rfl, rfl⟩
      · cases h'
    simp only [toPs, List.any_cons]
    rw [eqv_toP y a e2.1 ha, any_eqv a ha ys e2.2]

section
variable {X : Cx}
def rEqE (K : PySem.W.Frag) (neg : Bool) : R2 := fun x y H Q => ∃ d e, Dp K H x d ∧ Dp K H y e ∧ d.canLay0 = true ∧ e.canLay0 = true ∧ d.depth ≤ 190 ∧ Q (.bl (PyData.eqv d e != neg)) H
theorem bne_f (b : Bool) : (b != false) = b := by cases b <;> rfl
theorem bne_t (b : Bool) : (b != true) = !b := by cases b <;> rfl
theorem o_eq (hu : X.A.units + 200 < cLine) : OpR X (compareOp .Eq) (rEqE X.K false) := by
  intro pins s σ H x y v u Q I rx ry h
  obtain ⟨d, e, hd, he, sd, se, dd, q⟩ := h
  obtain ⟨as, r1⟩ := Dp.reads I d x v hd rx
  obtain ⟨bs, r2⟩ := Dp.reads I e y u he ry
  have hm := Nat.min_le_left d.depth e.depth
  rw [bne_f] at q
  exact SeqAt.compareEq_reads r1 r2 sd se (by omega) ⟨.bl _, H, I, rfl, q⟩
theorem o_ne (hu : X.A.units + 200 < cLine) : OpR X (compareOp .NotEq) (rEqE X.K true) := by
  intro pins s σ H x y v u Q I rx ry h
  obtain ⟨d, e, hd, he, sd, se, dd, q⟩ := h
  obtain ⟨as, r1⟩ := Dp.reads I d x v hd rx
  obtain ⟨bs, r2⟩ := Dp.reads I e y u he ry
  have hm := Nat.min_le_left d.depth e.depth
  rw [bne_t] at q
  exact SeqAt.compareNe_reads r1 r2 sd se (by omega) ⟨.bl _, H, I, rfl, q⟩
theorem p2_eq' {o : Pr} {neg : Bool} (ho : prim o = pEq neg) : Prim2 X o (rEqE X.K neg) := fun x y H Q h => by
  obtain ⟨NF, F, F1, F2, a, b, d, tr, ra, rb, s1, s2, dj, e, q⟩ := h.o2
  rw [ho] at e
  unfold pEq at e
  split at e
  · rename_i i j he
    injection he with he1 he2
    injection he2 with he2 _
    subst he1 he2
    by_cases hl : eqOk 190 a = true ∧ eqOk 190 b = true
    · have e2 := (if_pos hl).symm.trans e
      obtain rfl := Option.some.inj e2
      obtain ⟨i1, i3⟩ := eqOk_some hl.1
      obtain ⟨j1, j3⟩ := eqOk_some hl.2
      obtain ⟨k1, k2⟩ := rep_dp _ _ _ i1 ra
      obtain ⟨l1, l2⟩ := rep_dp _ _ _ j1 rb
      refine ⟨toP a, toP b, k1, l1, k2, l2, i3, ?_⟩
      rw [eqv_toP a b i1 j1]
      exact q.bl
    · have e2 := (if_neg hl).symm.trans e
      cases e2
  · rename_i hx
    exact (hx _ _ rfl).elim
theorem p2_eq : Prim2 X .eq (rEqE X.K false) := p2_eq' rfl
theorem p2_ne : Prim2 X .ne (rEqE X.K true) := p2_eq' rfl
/-- x in a text, a list, a tuple -/
def rInT (neg : Bool) : R2 := fun x y H Q => ∃ i j, x = .str i ∧ y = .str j ∧ Q (.bl ((!(Builtin.Str.occurrences j i 0 j.length 1).isEmpty) != neg)) H
def rInL (K : PySem.W.Frag) (neg : Bool) : R2 := fun x y H Q => ∃ d ds, Dp K H x d ∧ Dp K H y (.list ds) ∧ SeqAt.shaped d = true ∧ SeqAt.shaped (.list ds) = true ∧ Q (.bl ((ds.any fun z => PyData.eqv z d) != neg)) H
theorem o_in3 (hu : X.A.units + 65 < cLine) : OpR X (compareOp .In) (fun x y H Q => rInT false x y H Q ∨ rInL X.K false x y H Q ∨ rIn X.K false x y H Q) := by
  refine OpR.or (fun pins s σ H x y v u Q I rx ry h => ?_) (OpR.or (fun pins s σ H x y v u Q I rx ry h => ?_) op_in_seq)
  · obtain ⟨i, j, h1, h2, q⟩ := h
    rw [bne_f] at q
    exact op_in_str pins s σ H x y v u Q I rx ry ⟨i, j, h1, h2, q⟩
  · obtain ⟨i, j, h1, h2, h3, h4, q⟩ := h
    rw [bne_f] at q
    exact op_inD hu pins s σ H x y v u Q I rx ry ⟨i, j, h1, h2, h3, h4, q⟩
theorem o_notIn3 (hu : X.A.units + 65 < cLine) : OpR X (compareOp .NotIn) (fun x y H Q => rInT true x y H Q ∨ rInL X.K true x y H Q ∨ rIn X.K true x y H Q) := by
  refine OpR.or (fun pins s σ H x y v u Q I rx ry h => ?_) (OpR.or (fun pins s σ H x y v u Q I rx ry h => ?_) op_notIn_seq)
  · obtain ⟨i, j, h1, h2, q⟩ := h
    rw [bne_t] at q
    exact op_notIn_str pins s σ H x y v u Q I rx ry ⟨i, j, h1, h2, q⟩
  · obtain ⟨i, j, h1, h2, h3, h4, q⟩ := h
    rw [bne_t] at q
    exact op_notInD hu pins s σ H x y v u Q I rx ry ⟨i, j, h1, h2, h3, h4, q⟩
end
theorem inText_eq : ∀ (a b : List Nat), (!(Builtin.Str.occurrences (mkS b) (mkS a) 0 (mkS b).length 1).isEmpty) = inText a b
  | [c], b => by
    have := PySem.StrLaws.found_one (mkS b) c
    rw [mkS_cps] at this
    exact this
  | [], b => by rw [mkS_length]; rfl
  | _ :: _ :: _, b => by rw [mkS_length]; rfl
theorem scal_eq {g : Gb} {H : Hp} {NF : Addr → Prop} {a b : D} {x y : V} {F G : Addr → Prop} (ha : scal a = true) (hb : scal b = true) (ra : Rep g H NF a x F) (rb : Rep g H NF b y G) : eqV y x = deq b a := by
  have hx : x = (match a with | .non => .non | .bl b => .bl b | .int i => .int i | .str s => .str (mkS s) | _ => x) := by
    cases a <;> first | rfl | exact ra | exact ra.1
  have hy : y = (match b with | .non => .non | .bl b => .bl b | .int i => .int i | .str s => .str (mkS s) | _ => y) := by
    cases b <;> first | rfl | exact rb | exact rb.1
  rw [hx, hy]
  cases a <;> (try cases ha) <;> cases b <;> (try cases hb) <;> simp [eqV, deq, mkS_beq]
theorem scal_flat {g : Gb} {H : Hp} {NF : Addr → Prop} {a : D} {x : V} {F : Addr → Prop} (ha : scal a = true) (ra : Rep g H NF a x F) : flatV x = true := by
  cases a <;> (try cases ha) <;> first | (cases (show x = _ from ra); rfl) | (cases (show x = _ from ra.1); rfl)
theorem scals_flat {g : Gb} {H : Hp} {NF : Addr → Prop} : ∀ {ds : List D} {vs : List V} {F : Addr → Prop}, ds.all scal = true → Reps g H NF ds vs F → vs.all flatV = true
  | [], _, _, _, x => by have x : _ = [] := x; subst x; rfl
  | d :: ds, vs, F, h, ⟨v, r, F1, F2, e, x1, x2, _⟩ => by
    rw [List.all_cons, Bool.and_eq_true] at h
    subst e
    rw [List.all_cons, scal_flat h.1 x1, scals_flat h.2 x2]; rfl
theorem scals_in {g : Gb} {H : Hp} {NF : Addr → Prop} {a : D} {x : V} {G : Addr → Prop} (ha : scal a = true) (ra : Rep g H NF a x G) : ∀ {ds : List D} {vs : List V} {F : Addr → Prop}, ds.all scal = true → Reps g H NF ds vs F → (vs.any fun y => eqV y x) = ds.any fun z => deq z a
  | [], _, _, _, x => by have x : _ = [] := x; subst x; rfl
  | d :: ds, vs, F, h, ⟨v, r, F1, F2, e, x1, x2, _⟩ => by
    rw [List.all_cons, Bool.and_eq_true] at h
    subst e
    rw [List.any_cons, List.any_cons, scal_eq ha h.1 ra x1, scals_in ha ra h.2 x2]
end RW

namespace RW
open PySem L2 PySem.Spec PyProof.Rows

/-! ### in: texts, lists, tuples -/
section
variable {X : Cx}
theorem Rep.tupInv {g : Gb} {H : Hp} {NF : Addr → Prop} {ds : List D} {v : V} {F : Addr → Prop} (r : Rep g H NF (.tup ds) v F) : ∃ a vs, v = .ref a ∧ H a = some (.tup vs) ∧ Reps g H NF ds vs F := r
def rIn3 (K : PySem.W.Frag) (neg : Bool) : R2 := fun x y H Q => rInT neg x y H Q ∨ rInL K neg x y H Q ∨ rIn K neg x y H Q
theorem p2_in3 {neg : Bool} {a b : D} {NF F F1 F2 : Addr → Prop} {x y : V} {H : Hp} {Q : VK} {d : D} (hb : ∀ o ks vs, b ≠ .dct o ks vs) (ra : Rep (gx X) H (or2 NF F) a x F1) (rb : Rep (gx X) H (or2 NF F) b y F2) (e : pIn neg [a, b] = some d) (q : QN (gx X) H NF F Q d) : rIn3 X.K neg x y H Q := by
  unfold pIn at e
  split at e
  · rename_i i j he
    injection he with he1 he2
    injection he2 with he2 _
    subst he1 he2
    cases e
    obtain ⟨ra, _⟩ := ra
    obtain ⟨rb, _⟩ := rb
    refine .inl ⟨mkS i, mkS j, ra, rb, ?_⟩
    rw [inText_eq]
    exact q.bl
  · rename_i a' o b' he
    injection he with he1 he2
    injection he2 with he2 _
    subst he1 he2
    by_cases hl : eqOk 64 a = true ∧ eqOk 64 (.lst true b') = true
    · have e2 := (if_pos hl).symm.trans e
      obtain rfl := Option.some.inj e2
      have hb' : eqOk 64 (.lst o b') = true := hl.2
      obtain ⟨i1, i2⟩ := eqOk_some hl.1
      obtain ⟨j1, j2⟩ := eqOk_some hb'
      refine .inr (.inl ⟨toP a, toPs b', (rep_dp _ _ _ i1 ra).1, (rep_dp _ _ _ j1 rb).1, eqOk_shaped hl.1 ra, eqOk_shaped hb' rb, ?_⟩)
      rw [any_eqv a i1 b' (by simpa [dep] using j1)]
      exact q.bl
    · have e2 := (if_neg hl).symm.trans e
      cases e2
  · rename_i a' b' he
    injection he with he1 he2
    injection he2 with he2 _
    subst he1 he2
    by_cases hl : scal a = true ∧ b'.all scal = true
    · have e2 := (if_pos hl).symm.trans e
      obtain rfl := Option.some.inj e2
      obtain ⟨p, vs, rfl, hp, rv⟩ := rb.tupInv
      refine .inr (.inr ⟨p, vs, rfl, .inr (SqT.of hp), scal_flat hl.1 ra, scals_flat hl.2 rv, ?_⟩)
      have z : (if neg = true then !inV x vs else inV x vs) = ((b'.any fun z => deq z a) != neg) := by
        unfold inV
        rw [scals_in hl.1 ra hl.2 rv]
        cases neg <;> simp
      rw [z]
      exact q.bl
    · have e2 := (if_neg hl).symm.trans e
      cases e2
  · rename_i he
    injection he with he1 he2
    injection he2 with he2 _
    exact absurd he2 (hb _ _ _)
  · cases e

/-! ### is None, isinstance(x, bool) -/
theorem isNon_eq {g : Gb} {H : Hp} {NF : Addr → Prop} {a : D} {x : V} {F : Addr → Prop} (r : Rep g H NF a x F) : decide (x = .non) = isNon a := by
  cases a with
  | non => cases (show x = V.non from r); rfl
  | bl _ => cases (show x = V.bl _ from r); rfl
  | int _ => cases (show x = V.int _ from r); rfl
  | str _ => cases (show x = V.str _ from r.1); rfl
  | tup _ => obtain ⟨p, _, rfl, _⟩ := r; rfl
  | lst o _ => obtain ⟨p, _, _, rfl, _⟩ := r.lstInv; rfl
  | dct o _ _ => cases o <;> (obtain ⟨p, _, _, h⟩ := r) <;> first | (obtain ⟨_, rfl, _⟩ := h; rfl) | (obtain ⟨rfl, _⟩ := h; rfl)
  | scr _ => obtain ⟨p, rfl, _⟩ := r; rfl
def rNoneB (neg : Bool) : R2 := fun x y H Q => y = .non ∧ Q (.bl (decide (x = .non) != neg)) H
theorem o_isN : OpR X (compareOp .Is) (rNoneB false) := fun pins s σ H x y v u Q I rx ry h => op_isN pins s σ H x y v u Q I rx ry ⟨h.1, by have := h.2; rw [bne_f] at this; exact this⟩
theorem o_notN : OpR X (compareOp .IsNot) (rNoneB true) := fun pins s σ H x y v u Q I rx ry h => op_notN pins s σ H x y v u Q I rx ry ⟨h.1, by have := h.2; rw [bne_t] at this; exact this⟩

/-! ### subscripts -/
theorem ixAt_atI {α : Type} (xs : List α) (i : Int) : ixAt xs i = atI xs i := by
  unfold ixAt atI ixN
  by_cases h0 : 0 ≤ i
  · rw [if_pos h0, if_pos h0]
    by_cases h1 : i < (xs.length : Int)
    · rw [if_pos h1]; rfl
    · rw [if_neg h1]
      exact List.getElem?_eq_none (by omega)
  · rw [if_neg h0, if_neg h0]
    by_cases h1 : -(xs.length : Int) ≤ i
    · rw [if_pos h1, if_pos h1]; rfl
    · rw [if_neg h1, if_neg h1]; rfl
theorem ixAt_some {α : Type} {xs : List α} {i : Int} {a : α} (h : ixAt xs i = some a) : ∃ n : Nat, xs[n]? = some a ∧ ∀ {β : Type} (ys : List β), ys.length = xs.length → atI ys i = ys[n]? := by
  unfold ixAt at h
  by_cases h0 : 0 ≤ i
  · rw [if_pos h0] at h
    refine ⟨_, h, fun ys hl => ?_⟩
    rw [← ixAt_atI]; unfold ixAt; rw [if_pos h0]
  · rw [if_neg h0] at h
    by_cases h1 : -(xs.length : Int) ≤ i
    · rw [if_pos h1] at h
      refine ⟨_, h, fun ys hl => ?_⟩
      rw [← ixAt_atI]; unfold ixAt; rw [if_neg h0, hl, if_pos h1]
    · rw [if_neg h1] at h; cases h
theorem Reps.at {g : Gb} {H : Hp} {NF : Addr → Prop} {ds : List D} {vs : List V} {F : Addr → Prop} {i : Int} {d : D} (r : Reps g H NF ds vs F) (h : ixAt ds i = some d) : ∃ v, atI vs i = some v ∧ Rep g H NF d v F := by
  obtain ⟨n, h1, h2⟩ := ixAt_some h
  obtain ⟨v, h3, h4⟩ := r.get h1
  exact ⟨v, by rw [h2 vs r.length, h3], h4⟩
theorem p2_ix3 {a b : D} {NF F F1 F2 : Addr → Prop} {x y : V} {H : Hp} {Q : VK} {d : D} (ha : ∀ o ks vs, a ≠ .dct o ks vs) (s1 : ∀ z, F1 z → F z) (ra : Rep (gx X) H (or2 NF F) a x F1) (rb : Rep (gx X) H (or2 NF F) b y F2) (e : pIx [a, b] = some d) (q : QN (gx X) H NF F Q d) : rIx X.K x y H Q := by
  unfold pIx at e
  split at e
  · rename_i o xs i he
    injection he with he1 he2
    injection he2 with he2 _
    subst he1 he2
    obtain ⟨p, vs, G, rfl, hp, rv, gs⟩ := ra.lstInv
    obtain ⟨v, h1, h2⟩ := rv.at e
    exact .inl ⟨p, vs, i, v, rfl, rb, SqL.of hp, h1, q.old h2 fun z hz => s1 z (gs z hz)⟩
  · rename_i xs i he
    injection he with he1 he2
    injection he2 with he2 _
    subst he1 he2
    obtain ⟨p, vs, rfl, hp, rv⟩ := ra.tupInv
    obtain ⟨v, h1, h2⟩ := rv.at e
    exact .inr (.inl ⟨p, vs, i, v, rfl, rb, SqT.of hp, h1, q.old h2 s1⟩)
  · rename_i xs i he
    injection he with he1 he2
    injection he2 with he2 _
    subst he1 he2
    obtain ⟨p, rfl, hs⟩ := ra.scrInv
    obtain ⟨n, h1, rfl⟩ := Option.map_eq_some_iff.mp e
    obtain ⟨m, h2, h3⟩ := ixAt_some h1
    refine .inl ⟨p, xs.map V.int, i, .int n, rfl, rb, hs, ?_, q.int⟩
    rw [h3 (xs.map V.int) (List.length_map _), List.getElem?_map, h2]; rfl
  · rename_i xs i he
    injection he with he1 he2
    injection he2 with he2 _
    subst he1 he2
    by_cases hl : xs.length ≤ lim
    · have e2 := (if_pos hl).symm.trans e
      obtain ⟨n, h1, rfl⟩ := Option.map_eq_some_iff.mp e2
      obtain ⟨ra, oa⟩ := ra
      refine .inr (.inr ⟨mkS xs, i, n, ra, rb, by rw [mkS_length, ← lim_eq]; exact hl, by rw [mkS_cps, ← ixAt_atI]; exact h1, ?_⟩)
      obtain ⟨m, h2, _⟩ := ixAt_some h1
      refine q.str (s := [n]) ?_
      unfold okS at oa ⊢
      rw [List.all_eq_true] at oa
      simpa using oa n (List.mem_of_getElem? h2)
    · have e2 := (if_neg hl).symm.trans e
      cases e2
  · rename_i he
    injection he with he1 he2
    exact absurd he1 (ha _ _ _)
  · cases e
end
end RW

namespace RW
open PySem L2 PySem.Spec PyProof.Rows

/-! ### slices -/
theorem cutAt_eq (n d : Nat) (o : Option Int) : cutAt n d o = HT.sIx n d o := by cases o <;> rfl
theorem cutL_V (xs : List V) (lo hi : Option Int) : cutL xs lo hi = cutV xs lo hi := by unfold cutL cutV; rw [cutAt_eq, cutAt_eq]
theorem Reps.cut {g : Gb} {H : Hp} {NF : Addr → Prop} {ds : List D} {vs : List V} {F : Addr → Prop} (r : Reps g H NF ds vs F) (lo hi : Option Int) : Reps g H NF (cutL ds lo hi) (cutV vs lo hi) F := by
  rw [← cutL_V]
  unfold cutL
  rw [r.length]
  exact (r.drop _).take _
def rCut3 (K : PySem.W.Frag) : V → Option Int → Option Int → Hp → VK → Prop := fun x lo hi H Q => rSlL K x lo hi H Q ∨ rSlA K x lo hi H Q ∨ rSlS x lo hi H Q
section
variable {X : Cx}
theorem o_cut : SlR X (rCut3 X.K) := SlR.or sl_list (SlR.or sl_tupA sl_str)
theorem okS_mem {s t : List Nat} (h : okS s = true) (m : ∀ c ∈ t, c ∈ s) : okS t = true := by
  unfold okS at h ⊢
  rw [List.all_eq_true] at h ⊢
  exact fun c hc => h c (m c hc)
theorem cutL_mem {α : Type} {xs : List α} {lo hi : Option Int} : ∀ c ∈ cutL xs lo hi, c ∈ xs := fun c hc => by
  unfold cutL at hc
  exact List.mem_of_mem_drop (List.mem_of_mem_take hc)
theorem p_cut {a : D} {NF F F1 : Addr → Prop} {x : V} {H : Hp} {Q : VK} {d : D} {lo hi : Option Int} (tr : ∀ z, or2 NF F z → H z ≠ none) (s1 : ∀ z, F1 z → F z) (ra : Rep (gx X) H (or2 NF F) a x F1) (e : pCut lo hi a = some d) (q : QN (gx X) H NF F Q d) : rCut3 X.K x lo hi H Q := by
  unfold pCut at e
  split at e
  · rename_i o xs
    cases e
    obtain ⟨p, vs, G, rfl, hp, rv, gs⟩ := ra.lstInv
    exact .inl ⟨p, vs, rfl, SqL.of hp, fun l hl => q.lst tr (rv.cut lo hi) (fun z hz => s1 z (gs z hz)) hl⟩
  · rename_i xs
    cases e
    obtain ⟨p, vs, rfl, hp, rv⟩ := ra.tupInv
    refine .inr (.inl ⟨p, vs, rfl, SqT.of hp, fun ⟨h1, h2⟩ => ?_, fun _ l hl => q.tup tr (rv.cut lo hi) s1 hl⟩)
    have e : cutL xs lo hi = xs := by
      unfold cutL
      rw [cutAt_eq, cutAt_eq, ← rv.length, h1, h2, List.drop_zero, rv.length]
      simp
    rw [e] at q
    exact q.old ra s1
  · rename_i xs
    by_cases hl : xs.length ≤ lim
    · have e2 := (if_pos hl).symm.trans e
      obtain rfl := Option.some.inj e2
      obtain ⟨ra, oa⟩ := ra
      refine .inr (.inr ⟨mkS xs, ra, by rw [mkS_length, ← lim_eq]; exact hl, ?_⟩)
      have z : cutS (mkS xs) lo hi = mkS (cutL xs lo hi) := by
        unfold cutS cutL mkS
        rw [cutAt_eq, cutAt_eq]
        simp [Str.length]
      rw [z]
      exact q.str (okS_mem oa cutL_mem)
    · have e2 := (if_neg hl).symm.trans e
      cases e2
  · cases e
variable {C : Cl} {W : Str → Hp → Prop} {e lo hi : Expr} {m ml mh : E} {pos p2 : Pos}
theorem tE_asInt {g : Gb} {σ : L2.St} {H : Hp} {m : E} {Q : VK} (h : tE g C W (.p .asInt [m]) σ H Q) : tE g C W m σ H fun y H1 => ∃ i, y = .int i ∧ Q (.int i) H1 := tE_mono (tE_p1 h) fun v H1 h => by
  obtain ⟨NF, F, a, d, tr, ra, e, q⟩ := h.o1
  replace e : pInt [a] = some d := e
  unfold pInt at e
  split at e
  · rename_i i he
    cases he; cases e
    exact ⟨i, ra, q.int⟩
  · cases e
theorem se_cut11 (he : SE X C W e m) (hl : SE X C W lo ml) (hh : SE X C W hi mh) : SE X C W (.Subscript e (.Slice (some lo) (some hi) none p2) pos) (.p (.cut true true) [m, .p .asInt [ml], .p .asInt [mh]]) :=
  ⟨PE.imp (pe_slice o_cut he.pe (po_some hl.pe) (po_some hh.pe)) fun σ H Q h => tE_mono (tEs_3 (tE_p h)) fun v H1 h => tE_mono (tE_asInt h) fun u H2 ⟨i, hi, h⟩ => ⟨i, hi, tE_mono (tE_asInt h) fun y H3 ⟨j, hj, h⟩ => ⟨j, hj, by
    obtain ⟨NF, ds, F, d, tr, dj, r, e, q⟩ := h
    obtain ⟨a, b, c, F1, F2, F3, rfl, ra, rb, rc, s1, s2, s3⟩ := r.of3
    replace e : (match [a, b, c] with | [x, .int i, .int j] => pCut (some i) (some j) x | _ => none) = some d := e
    split at e
    · rename_i x i' j' hz
      injection hz with h1 h2
      injection h2 with h2 h3
      injection h3 with h3 _
      subst h1 h2 h3
      obtain rfl : i = i' := V.int.inj rb
      obtain rfl : j = j' := V.int.inj rc
      exact p_cut tr s1 ra e q
    · cases e⟩⟩⟩
theorem se_cut10 (he : SE X C W e m) (hl : SE X C W lo ml) : SE X C W (.Subscript e (.Slice (some lo) none none p2) pos) (.p (.cut true false) [m, .p .asInt [ml]]) :=
  ⟨PE.imp (pe_slice o_cut he.pe (po_some hl.pe) po_none) fun σ H Q h => tE_mono (tEs_2 (tE_p h)) fun v H1 h => tE_mono (tE_asInt h) fun u H2 ⟨i, hi, h⟩ => ⟨i, hi, by
    obtain ⟨NF, F, F1, F2, a, b, d, tr, ra, rb, s1, s2, dj, e, q⟩ := h.o2
    replace e : (match [a, b] with | [x, .int i] => pCut (some i) none x | _ => none) = some d := e
    split at e
    · rename_i x i' hz
      injection hz with h1 h2
      injection h2 with h2 _
      subst h1 h2
      obtain rfl : i = i' := V.int.inj rb
      exact p_cut tr s1 ra e q
    · cases e⟩⟩
theorem se_cut01 (he : SE X C W e m) (hl : SE X C W hi ml) : SE X C W (.Subscript e (.Slice none (some hi) none p2) pos) (.p (.cut false true) [m, .p .asInt [ml]]) :=
  ⟨PE.imp (pe_slice o_cut he.pe po_none (po_some hl.pe)) fun σ H Q h => tE_mono (tEs_2 (tE_p h)) fun v H1 h => tE_mono (tE_asInt h) fun u H2 ⟨i, hi, h⟩ => ⟨i, hi, by
    obtain ⟨NF, F, F1, F2, a, b, d, tr, ra, rb, s1, s2, dj, e, q⟩ := h.o2
    replace e : (match [a, b] with | [x, .int i] => pCut none (some i) x | _ => none) = some d := e
    split at e
    · rename_i x i' hz
      injection hz with h1 h2
      injection h2 with h2 _
      subst h1 h2
      obtain rfl : i = i' := V.int.inj rb
      exact p_cut tr s1 ra e q
    · cases e⟩⟩

/-! ### calls of built-in functions, by values -/
def PrimC (X : Cx) (o : Pr) (r : List V → Hp → VK → Prop) : Prop := ∀ vs H Q, PrimQ (gx X) o vs H Q → r vs H Q
theorem se_callB {x : Str} {p pos : Pos} {e : Expr} {es : List Expr} {ms : List E} {id : String} {r : List V → Hp → VK → Prop} {o : Pr} (hc : CallR X (.builtin id) r) (pr : PrimC X o r) (hm : X.mg x = none) (hv : bootBuiltins x = some (.builtin id)) (ha : SEs X C W (e :: es) ms)
    (hg : Gl X x := by rfl) (hn : x ≠ "__name__" := by decide) (hdb : (x == ("__debug__" : Str)) = false := by decide)
    (he : starEach (e :: es) X.env = (false, eval e X.env) :: starEach es X.env := by rfl) (hpl : (backTo pos (starEach es X.env)).any (·.1) = false := by rfl) : SE X C W (.Call (.Name x p) (e :: es) [] pos) (.p o ms) :=
  ⟨PE.imp (pe_callB hc hg hm hv ha.pa hn hdb he hpl) fun σ H Q h => tEs_mono (tE_p h) fun vs H1 h => pr vs H1 Q h⟩
theorem se_callTy {x : Str} {p pos : Pos} {e : Expr} {es : List Expr} {ms : List E} {T : String} {r : List V → Hp → VK → Prop} {o : Pr} (hc : CallR X (.type T) r) (pr : PrimC X o r) (hm : X.mg x = none) (hv : bootBuiltins x = some (.type T)) (ha : SEs X C W (e :: es) ms)
    (hg : Gl X x := by rfl) (hn : x ≠ "__name__" := by decide) (hdb : (x == ("__debug__" : Str)) = false := by decide)
    (he : starEach (e :: es) X.env = (false, eval e X.env) :: starEach es X.env := by rfl) (hpl : (backTo pos (starEach es X.env)).any (·.1) = false := by rfl) : SE X C W (.Call (.Name x p) (e :: es) [] pos) (.p o ms) :=
  ⟨PE.imp (pe_callTy hc hg hm hv ha.pa hn hdb he hpl) fun σ H Q h => tEs_mono (tE_p h) fun vs H1 h => pr vs H1 Q h⟩
theorem Reps.all1 {g : Gb} {H : Hp} {NF : Addr → Prop} {F : Addr → Prop} {a : D} {vs : List V} (r : Reps g H NF [a] vs F) : ∃ v, vs = [v] ∧ Rep g H NF a v F := r.un1
/-- one argument: what is left is what the value is -/
theorem primC_1 {o : Pr} {r : List V → Hp → VK → Prop} (hp : ∀ ds d, prim o ds = some d → ∃ a, ds = [a]) (h : ∀ (NF F : Addr → Prop) (a : D) (v : V) (d : D) (H : Hp) (Q : VK), (∀ z, or2 NF F z → H z ≠ none) → Rep (gx X) H (or2 NF F) a v F → prim o [a] = some d → QN (gx X) H NF F Q d → r [v] H Q) : PrimC X o r := fun vs H Q k => by
  obtain ⟨NF, ds, F, d, tr, dj, rr, e, q⟩ := k
  obtain ⟨a, rfl⟩ := hp ds d e
  obtain ⟨v, rfl, rv⟩ := rr.un1
  exact h NF F a v d H Q tr rv e q
/-! len -/
def rLen2 (K : PySem.W.Frag) : List V → Hp → VK → Prop := fun xs H Q => (∃ p ys, xs = [.ref p] ∧ (SqL K H p ys ∨ SqT K H p ys) ∧ Q (.int ys.length) H) ∨ (∃ z, xs = [.str z] ∧ z.length ≤ sizeLine ∧ Q (.int z.length) H) ∨ (∃ a kvs, xs = [V.ref a] ∧ H a = some (.dK kvs) ∧ Q (.int kvs.length) H)
theorem o_len : CallR X (.builtin "len") (rLen2 X.K) := CallR.or call_len_seq (CallR.or call_len_str call_lenD)
theorem primC_len' {a : D} {NF F : Addr → Prop} {v : V} {H : Hp} {Q : VK} {d : D} (ra : Rep (gx X) H (or2 NF F) a v F) (e : pLen [a] = some d) (q : QN (gx X) H NF F Q d) : rLen2 X.K [v] H Q := by
  unfold pLen at e
  split at e
  · rename_i o xs he
    injection he with he1 _
    subst he1
    cases e
    obtain ⟨p, vs, G, rfl, hp, rv, gs⟩ := ra.lstInv
    refine .inl ⟨p, vs, rfl, .inl (SqL.of hp), ?_⟩
    rw [rv.length]; exact q.int
  · rename_i xs he
    injection he with he1 _
    subst he1
    cases e
    obtain ⟨p, vs, rfl, hp, rv⟩ := ra.tupInv
    refine .inl ⟨p, vs, rfl, .inr (SqT.of hp), ?_⟩
    rw [rv.length]; exact q.int
  · rename_i xs he
    injection he with he1 _
    subst he1
    cases e
    obtain ⟨p, rfl, hs⟩ := ra.scrInv
    refine .inl ⟨p, _, rfl, .inl hs, ?_⟩
    rw [List.length_map]; exact q.int
  · rename_i xs he
    injection he with he1 _
    subst he1
    by_cases hl : xs.length ≤ lim
    · have e2 := (if_pos hl).symm.trans e
      obtain rfl := Option.some.inj e2
      obtain ⟨ra, oa⟩ := ra
      subst ra
      refine .inr (.inl ⟨mkS xs, rfl, by rw [mkS_length, ← lim_eq]; exact hl, ?_⟩)
      rw [mkS_length]; exact q.int
    · have e2 := (if_neg hl).symm.trans e
      cases e2
  · cases e
theorem pLen_1 : ∀ ds d, pLen ds = some d → ∃ a, ds = [a] := fun ds d e => by
  unfold pLen at e
  split at e <;> first | exact ⟨_, rfl⟩ | cases e
/-! list(x) -/
def rListS : List V → Hp → VK → Prop := fun xs H Q => ∃ x, xs = [.str x] ∧ x.cps.size ≤ sizeLine ∧ ∀ p, H p = none → Q (.ref p) (upd H p (.lst (x.cps.toList.map fun c => V.str ⟨#[c]⟩)))
theorem vals_chars {x : Str} {acc : Array Value} (h : ItemsOf (SignAt x) acc x.cps.size) : Vals (x.cps.toList.map fun c => V.str ⟨#[c]⟩) acc.toList := by
  refine vals_of_at ?_ fun j v u h1 h2 => ?_
  · rw [List.length_map, Array.length_toList, Array.length_toList]; exact h.1.symm
  · obtain ⟨c, t, h3, rfl⟩ := h.2 j u (by rw [← h2, Array.getElem?_toList])
    rw [List.getElem?_map, Array.getElem?_toList, h3] at h1
    cases h1
    exact ⟨t, rfl⟩
theorem o_listS (hcalm : X.calm = true) : CallR X (.type "list") rListS := by
  intro pins s σ H xs us Q I r h
  obtain ⟨x, rfl, hz, q⟩ := h
  obtain ⟨u, rfl, rx⟩ := vals1 r
  obtain ⟨t, rfl⟩ := rx
  refine PySem.call_list_str (I.ok.hd hcalm) x t (fun h' tk acc' c' kp e hi => ?_) hz
  have hl : acc'.size = x.cps.size := hi.1
  refine ⟨.ref s.heap.objs.size, _, I.laid (t' := tk) kp (Nat.le_refl _) (show ObjOk X.prog X.w _ h' _ (.lst (x.cps.toList.map fun c => V.str ⟨#[c]⟩)) from ⟨?_, acc'.toList, c', vals_chars hi, ?_⟩), rfl, q _ (I.hok.fresh (Nat.le_refl _))⟩
  · rw [List.length_map, Array.length_toList]; exact hz
  · rw [e]
def rList2 (K : PySem.W.Frag) : List V → Hp → VK → Prop := fun xs H Q => (∃ p ys, xs = [.ref p] ∧ (SqL K H p ys ∨ SqT K H p ys) ∧ ∀ l, H l = none → Q (.ref l) (upd H l (.lst ys))) ∨ rListS xs H Q
theorem o_list2 (hcalm : X.calm = true) : CallR X (.type "list") (rList2 X.K) := CallR.or call_list_of (o_listS hcalm)
theorem Reps.chars {g : Gb} {H : Hp} {NF : Addr → Prop} : ∀ {s : List Nat}, okS s = true → Reps g H NF (s.map fun c => D.str [c]) (s.map fun c => V.str ⟨#[c]⟩) none0
  | [], _ => rfl
  | c :: s, h => by
    have h' : (decide (c < 0x110000) && okS s) = true := h
    rw [Bool.and_eq_true] at h'
    exact ⟨_, _, none0, none0, rfl, ⟨rfl, by unfold okS; rw [List.all_cons, h'.1]; rfl⟩, Reps.chars h'.2, fun _ q => q, fun _ q => q, fun _ q => q.elim⟩
theorem primC_list' {a : D} {NF F : Addr → Prop} {v : V} {H : Hp} {Q : VK} {d : D} (tr : ∀ z, or2 NF F z → H z ≠ none) (ra : Rep (gx X) H (or2 NF F) a v F) (e : pList [a] = some d) (q : QN (gx X) H NF F Q d) : rList2 X.K [v] H Q := by
  unfold pList at e
  split at e
  · rename_i o xs he
    injection he with he1 _
    subst he1
    cases e
    obtain ⟨p, vs, G, rfl, hp, rv, gs⟩ := ra.lstInv
    exact .inl ⟨p, vs, rfl, .inl (SqL.of hp), fun l hl => q.lst tr rv gs hl⟩
  · rename_i xs he
    injection he with he1 _
    subst he1
    cases e
    obtain ⟨p, vs, rfl, hp, rv⟩ := ra.tupInv
    exact .inl ⟨p, vs, rfl, .inr (SqT.of hp), fun l hl => q.lst tr rv (fun _ z => z) hl⟩
  · rename_i xs he
    injection he with he1 _
    subst he1
    cases e
    obtain ⟨p, rfl, hs⟩ := ra.scrInv
    exact .inl ⟨p, _, rfl, .inl hs, fun l hl => q.lst tr Reps.ints (fun _ z => z.elim) hl⟩
  · rename_i xs he
    injection he with he1 _
    subst he1
    by_cases hl : xs.length ≤ lim
    · have e2 := (if_pos hl).symm.trans e
      obtain rfl := Option.some.inj e2
      obtain ⟨ra, oa⟩ := ra
      subst ra
      refine .inr ⟨mkS xs, rfl, by rw [← lim_eq]; simpa [mkS] using hl, fun p hp => ?_⟩
      rw [mkS_cps]
      exact q.lst tr (Reps.chars oa) (fun _ z => z.elim) hp
    · have e2 := (if_neg hl).symm.trans e
      cases e2
  · cases e
theorem pList_1 : ∀ ds d, pList ds = some d → ∃ a, ds = [a] := fun ds d e => by
  unfold pList at e
  split at e <;> first | exact ⟨_, rfl⟩ | cases e
/-! tuple(x) -/
theorem pTuple_1 : ∀ ds d, pTuple ds = some d → ∃ a, ds = [a] := fun ds d e => by
  unfold pTuple at e
  split at e <;> first | exact ⟨_, rfl⟩ | cases e
theorem primC_tuple : PrimC X .tuple (fun xs H Q => ∃ p ys, xs = [.ref p] ∧ ((SqL X.K H p ys ∧ ∀ l, H l = none → Q (.ref l) (upd H l (.tup ys))) ∨ (SqT X.K H p ys ∧ Q (.ref p) H))) := primC_1 pTuple_1 fun NF F a v d H Q tr ra e q => by
  replace e : pTuple [a] = some d := e
  unfold pTuple at e
  split at e
  · rename_i o xs he
    injection he with he1 _
    subst he1
    cases e
    obtain ⟨p, vs, G, rfl, hp, rv, gs⟩ := ra.lstInv
    exact ⟨p, vs, rfl, .inl ⟨SqL.of hp, fun l hl => q.tup tr rv gs hl⟩⟩
  · rename_i xs he
    injection he with he1 _
    subst he1
    cases e
    obtain ⟨p, vs, rfl, hp, rv⟩ := id ra
    exact ⟨p, vs, rfl, .inr ⟨SqT.of hp, q.old ra (fun _ z => z)⟩⟩
  · cases e
/-! all(xs) -/
theorem Reps.bools {g : Gb} {H : Hp} {NF : Addr → Prop} : ∀ {ds : List D} {bs : List Bool} {vs : List V} {F : Addr → Prop}, bools ds = some bs → Reps g H NF ds vs F → vs = bs.map V.bl
  | [], _, _, _, e, x => by cases e; exact x
  | .bl b :: ds, bs, vs, F, e, ⟨v, r, F1, F2, h1, x1, x2, _⟩ => by
    have e : (RW.bools ds).map (b :: ·) = some bs := e
    obtain ⟨cs, h2, rfl⟩ := Option.map_eq_some_iff.mp e
    have x1 : v = .bl b := x1
    rw [h1, x1, Reps.bools h2 x2]; rfl
  | .non :: _, _, _, _, e, _ => by cases e
  | .int _ :: _, _, _, _, e, _ => by cases e
  | .str _ :: _, _, _, _, e, _ => by cases e
  | .tup _ :: _, _, _, _, e, _ => by cases e
  | .lst _ _ :: _, _, _, _, e, _ => by cases e
  | .dct _ _ _ :: _, _, _, _, e, _ => by cases e
  | .scr _ :: _, _, _, _, e, _ => by cases e
theorem pAll_1 : ∀ ds d, pAll ds = some d → ∃ a, ds = [a] := fun ds d e => by
  unfold pAll at e
  split at e <;> first | exact ⟨_, rfl⟩ | cases e
theorem primC_all : PrimC X .all (rAll X.K) := primC_1 pAll_1 fun NF F a v d H Q tr ra e q => by
  replace e : pAll [a] = some d := e
  unfold pAll at e
  split at e
  · rename_i o xs he
    injection he with he1 _
    subst he1
    obtain ⟨bs, h1, rfl⟩ := Option.map_eq_some_iff.mp e
    obtain ⟨p, vs, G, rfl, hp, rv, gs⟩ := ra.lstInv
    obtain rfl := rv.bools h1
    exact ⟨p, bs, rfl, SqL.of hp, q.bl⟩
  · cases e
/-! * -/
def rMul2 (K : PySem.W.Frag) : R2 := fun x y H Q => rI CMul (fun i j => .int (i * j)) x y H Q ∨ rRepT K x y H Q
theorem o_mul : OpR X (binaryOp .Mult) (rMul2 X.K) := OpR.or op_mul op_repT
theorem Reps.rep {g : Gb} {H : Hp} {NF : Addr → Prop} {ds : List D} {vs : List V} (r : Reps g H NF ds vs none0) : ∀ n : Nat, Reps g H NF (List.replicate n ds).flatten (List.replicate n vs).flatten none0
  | 0 => rfl
  | n + 1 => by
    rw [List.replicate_succ, List.flatten_cons, List.replicate_succ, List.flatten_cons]
    exact Reps.append r (Reps.rep r n) (fun _ z => z) (fun _ z => z) (fun _ z => z.elim)
theorem p2_mul : Prim2 X .mul (rMul2 X.K) := fun x y H Q h => by
  obtain ⟨NF, F, F1, F2, a, b, d, tr, ra, rb, s1, s2, dj, e, q⟩ := h.o2
  replace e : pMul [a, b] = some d := e
  unfold pMul at e
  split at e
  · rename_i i j he
    injection he with he1 he2
    injection he2 with he2 _
    subst he1 he2
    by_cases hl : mulOk i j = true
    · have e2 := (if_pos hl).symm.trans e
      obtain rfl := Option.some.inj e2
      have hm : (-(2 ^ 64) < i ∧ i < 2 ^ 64) ∨ (-(2 ^ 64) < j ∧ j < 2 ^ 64) := of_decide_eq_true hl
      exact .inl ⟨i, j, ra, rb, hm, q.int⟩
    · have e2 := (if_neg hl).symm.trans e
      cases e2
  · rename_i xs k he
    injection he with he1 he2
    injection he2 with he2 _
    subst he1 he2
    by_cases hl : 2 ≤ k ∧ k ≤ 1000 ∧ xs.length ≤ 1000 ∧ xs.isEmpty = false ∧ flats xs = true
    · have e2 := (if_pos hl).symm.trans e
      obtain rfl := Option.some.inj e2
      obtain ⟨p, vs, rfl, hp, rv⟩ := ra.tupInv
      have rv' := Reps.noF (NF' := or2 NF F) xs vs F1 hl.2.2.2.2 rv
      refine .inr ⟨p, k, vs, rfl, rb, SqT.of hp, fun z => ?_, hl.1, hl.2.1, by rw [rv.length]; exact hl.2.2.1, fun l hl' => q.tup tr (Reps.rep rv' _) (fun _ z => z.elim) hl'⟩
      have h1 := rv.length
      rw [z] at h1
      have h2 := hl.2.2.2.1
      cases xs with
      | nil => cases h2
      | cons _ _ => cases h1
    · have e2 := (if_neg hl).symm.trans e
      cases e2
  · cases e
end
end RW

namespace RW
open PySem L2 PySem.Spec PyProof.Rows

/-! ## 6. and, or, not, if, chains -/
section
variable {g : Gb} {X : Cx} {C : Cl} {W : Str → Hp → Prop} {a b c : Expr} {ma mb mc : E} {pos : Pos} {rest : List Expr} {σ : L2.St} {H : Hp}
theorem asB_wp {d : D} {P : Bool → Prop} {Ex : Str → Prop} (h : (asB d).wp P Ex) : ∃ k, d = .bl k ∧ P k := by
  unfold asB truth at h
  cases d <;> first | exact ⟨_, rfl, h⟩ | exact h.elim
theorem fresh_of {H H1 H' : Hp} {F : Addr → Prop} (s : Same H H1) (f : Fresh H1 H' F) : Fresh H H' F := fun a z => by
  refine ⟨?_, (f a z).2⟩
  cases e : H a with
  | none => rfl
  | some o =>
    have h1 := (f a z).1
    rw [s a o e] at h1
    cases h1
/-- the first part, then the second one in what is left -/
theorem tE_and {Q : VK} (h : tE g C W (.and ma mb) σ H Q) : tE g C W ma σ H fun x H1 => ∃ k, x = .bl k ∧ if k = true then tE g C W mb σ H1 Q else Q (.bl false) H1 := by
  obtain ⟨NF, Γ, tr, se, w⟩ := h
  refine ⟨NF, Γ, tr, se.mono same_refl (fun _ _ z => z) (fun i hi => List.mem_append_left _ hi), Rs.wp_mono (Rs.wp_bind w) (fun d w v H1 F s f r => ?_) fun _ z => z⟩
  obtain ⟨k, rfl, w⟩ := asB_wp (Rs.wp_bind w)
  refine ⟨k, r, ?_⟩
  cases k with
  | true =>
    have w : (ev C Γ mb).wp (After g H NF Q) (Out H W) := w
    rw [if_pos rfl]
    exact ⟨NF, Γ, tr_same s tr, se.mono s (fun _ _ z => z) (fun i hi => List.mem_append_right _ hi), Rs.wp_mono w (fun d q v H' F' s' f' r' => q v H' F' (s.trans s') (fresh_of s f') r') fun _ z => z.same s⟩
  | false =>
    rw [if_neg Bool.false_ne_true]
    have w : After g H NF Q (.bl false) := w
    exact w _ H1 none0 s (fun _ z => z.elim) rfl
theorem tE_or {Q : VK} (h : tE g C W (.or ma mb) σ H Q) : tE g C W ma σ H fun x H1 => ∃ k, x = .bl k ∧ if k = true then Q (.bl true) H1 else tE g C W mb σ H1 Q := by
  obtain ⟨NF, Γ, tr, se, w⟩ := h
  refine ⟨NF, Γ, tr, se.mono same_refl (fun _ _ z => z) (fun i hi => List.mem_append_left _ hi), Rs.wp_mono (Rs.wp_bind w) (fun d w v H1 F s f r => ?_) fun _ z => z⟩
  obtain ⟨k, rfl, w⟩ := asB_wp (Rs.wp_bind w)
  refine ⟨k, r, ?_⟩
  cases k with
  | false =>
    have w : (ev C Γ mb).wp (After g H NF Q) (Out H W) := w
    rw [if_neg Bool.false_ne_true]
    exact ⟨NF, Γ, tr_same s tr, se.mono s (fun _ _ z => z) (fun i hi => List.mem_append_right _ hi), Rs.wp_mono w (fun d q v H' F' s' f' r' => q v H' F' (s.trans s') (fresh_of s f') r') fun _ z => z.same s⟩
  | true =>
    rw [if_pos rfl]
    have w : After g H NF Q (.bl true) := w
    exact w _ H1 none0 s (fun _ z => z.elim) rfl
theorem tE_not {Q : VK} (h : tE g C W (.not ma) σ H Q) : tE g C W ma σ H fun x H1 => ∃ k, x = .bl k ∧ Q (.bl (!k)) H1 := by
  obtain ⟨NF, Γ, tr, se, w⟩ := h
  refine ⟨NF, Γ, tr, se, Rs.wp_mono (Rs.wp_bind w) (fun d w v H1 F s f r => ?_) fun _ z => z⟩
  obtain ⟨k, rfl, w⟩ := asB_wp (Rs.wp_bind w)
  have w : After g H NF Q (.bl (!k)) := w
  exact ⟨k, r, w _ H1 none0 s (fun _ z => z.elim) rfl⟩
theorem tE_ite {Q : VK} (h : tE g C W (.ite mc ma mb) σ H Q) : tE g C W mc σ H fun x H1 => ∃ k, x = .bl k ∧ if k = true then tE g C W ma σ H1 Q else tE g C W mb σ H1 Q := by
  obtain ⟨NF, Γ, tr, se, w⟩ := h
  refine ⟨NF, Γ, tr, se.mono same_refl (fun _ _ z => z) (fun i hi => List.mem_append_left _ hi), Rs.wp_mono (Rs.wp_bind w) (fun d w v H1 F s f r => ?_) fun _ z => z⟩
  obtain ⟨k, rfl, w⟩ := asB_wp (Rs.wp_bind w)
  refine ⟨k, r, ?_⟩
  cases k with
  | true =>
    have w : (ev C Γ ma).wp (After g H NF Q) (Out H W) := w
    rw [if_pos rfl]
    exact ⟨NF, Γ, tr_same s tr, se.mono s (fun _ _ z => z) (fun i hi => List.mem_append_right _ (List.mem_append_left _ hi)), Rs.wp_mono w (fun d q v H' F' s' f' r' => q v H' F' (s.trans s') (fresh_of s f') r') fun _ z => z.same s⟩
  | false =>
    have w : (ev C Γ mb).wp (After g H NF Q) (Out H W) := w
    rw [if_neg Bool.false_ne_true]
    exact ⟨NF, Γ, tr_same s tr, se.mono s (fun _ _ z => z) (fun i hi => List.mem_append_right _ (List.mem_append_right _ hi)), Rs.wp_mono w (fun d q v H' F' s' f' r' => q v H' F' (s.trans s') (fresh_of s f') r') fun _ z => z.same s⟩
theorem se_and (ha : SE X C W a ma) (hb : SE X C W (.BoolOp .And (b :: rest) pos) mb) : SE X C W (.BoolOp .And (a :: b :: rest) pos) (.and ma mb) := ⟨PE.imp (pe_and ha.pe hb.pe) fun σ H Q h => tE_and h⟩
theorem se_or (ha : SE X C W a ma) (hb : SE X C W (.BoolOp .Or (b :: rest) pos) mb) : SE X C W (.BoolOp .Or (a :: b :: rest) pos) (.or ma mb) := ⟨PE.imp (pe_or ha.pe hb.pe) fun σ H Q h => tE_or h⟩
theorem se_one {op : BoolOp} (ha : SE X C W a ma) : SE X C W (.BoolOp op [a] pos) ma := ⟨pe_one ha.pe⟩
theorem se_not (ha : SE X C W a ma) : SE X C W (.UnaryOp .Not a pos) (.not ma) := ⟨PE.imp (pe_not ha.pe) fun σ H Q h => tE_not h⟩
theorem tT_and {Q : Bool → Hp → Prop} (h : tT g C W (.and ma mb) σ H Q) : tAnd (tT g C W ma) (tT g C W mb) σ H Q := by
  obtain ⟨NF, Γ, tr, se, w⟩ := h
  refine ⟨NF, Γ, tr, se.mono same_refl (fun _ _ z => z) (fun i hi => List.mem_append_left _ hi), ?_⟩
  have w := Rs.wp_bind w
  have w : ((ev C Γ ma).bind fun x => (asB x).bind fun k => if k then ev C Γ mb else .ok (.bl false)).wp (fun d => (asB d).wp (fun k => ∀ H', Same H H' → Q k H') (Out H W)) (Out H W) := w
  cases e : ev C Γ ma with
  | bad => rw [e] at w; exact w.elim
  | exc c => rw [e] at w; exact w
  | ok d =>
    rw [e] at w
    have w : ((asB d).bind fun k => if k then ev C Γ mb else .ok (.bl false)).wp (fun d => (asB d).wp (fun k => ∀ H', Same H H' → Q k H') (Out H W)) (Out H W) := w
    obtain ⟨k, rfl, w⟩ := asB_wp (Rs.wp_bind w)
    show ∀ H', Same H H' → _
    intro H' s
    cases k with
    | true =>
      rw [if_pos rfl]
      refine ⟨NF, Γ, tr_same s tr, se.mono s (fun _ _ z => z) (fun i hi => List.mem_append_right _ hi), ?_⟩
      have w : (ev C Γ mb).wp (fun d => (asB d).wp (fun k => ∀ H', Same H H' → Q k H') (Out H W)) (Out H W) := w
      cases e2 : ev C Γ mb with
      | bad => rw [e2] at w; exact w.elim
      | exc c => rw [e2] at w; exact Out.same s w
      | ok d2 =>
        rw [e2] at w
        obtain ⟨k, rfl, w⟩ := asB_wp w
        exact fun H2 s2 => w H2 (s.trans s2)
    | false =>
      rw [if_neg Bool.false_ne_true]
      exact w H' s
theorem tT_or {Q : Bool → Hp → Prop} (h : tT g C W (.or ma mb) σ H Q) : tOr (tT g C W ma) (tT g C W mb) σ H Q := by
  obtain ⟨NF, Γ, tr, se, w⟩ := h
  refine ⟨NF, Γ, tr, se.mono same_refl (fun _ _ z => z) (fun i hi => List.mem_append_left _ hi), ?_⟩
  have w := Rs.wp_bind w
  have w : ((ev C Γ ma).bind fun x => (asB x).bind fun k => if k then .ok (.bl true) else ev C Γ mb).wp (fun d => (asB d).wp (fun k => ∀ H', Same H H' → Q k H') (Out H W)) (Out H W) := w
  cases e : ev C Γ ma with
  | bad => rw [e] at w; exact w.elim
  | exc c => rw [e] at w; exact w
  | ok d =>
    rw [e] at w
    have w : ((asB d).bind fun k => if k then .ok (.bl true) else ev C Γ mb).wp (fun d => (asB d).wp (fun k => ∀ H', Same H H' → Q k H') (Out H W)) (Out H W) := w
    obtain ⟨k, rfl, w⟩ := asB_wp (Rs.wp_bind w)
    show ∀ H', Same H H' → _
    intro H' s
    cases k with
    | false =>
      rw [if_neg Bool.false_ne_true]
      refine ⟨NF, Γ, tr_same s tr, se.mono s (fun _ _ z => z) (fun i hi => List.mem_append_right _ hi), ?_⟩
      have w : (ev C Γ mb).wp (fun d => (asB d).wp (fun k => ∀ H', Same H H' → Q k H') (Out H W)) (Out H W) := w
      cases e2 : ev C Γ mb with
      | bad => rw [e2] at w; exact w.elim
      | exc c => rw [e2] at w; exact Out.same s w
      | ok d2 =>
        rw [e2] at w
        obtain ⟨k, rfl, w⟩ := asB_wp w
        exact fun H2 s2 => w H2 (s.trans s2)
    | true =>
      rw [if_pos rfl]
      exact w H' s
theorem tT_not {Q : Bool → Hp → Prop} (h : tT g C W (.not ma) σ H Q) : tNot (tT g C W ma) σ H Q := by
  obtain ⟨NF, Γ, tr, se, w⟩ := h
  refine ⟨NF, Γ, tr, se, ?_⟩
  have w := Rs.wp_bind w
  have w : ((ev C Γ ma).bind fun x => (asB x).bind fun k => .ok (.bl (!k))).wp (fun d => (asB d).wp (fun k => ∀ H', Same H H' → Q k H') (Out H W)) (Out H W) := w
  cases e : ev C Γ ma with
  | bad => rw [e] at w; exact w.elim
  | exc c => rw [e] at w; exact w
  | ok d =>
    rw [e] at w
    have w : ((asB d).bind fun k => Rs.ok (D.bl (!k))).wp (fun d => (asB d).wp (fun k => ∀ H', Same H H' → Q k H') (Out H W)) (Out H W) := w
    obtain ⟨k, rfl, w⟩ := asB_wp (Rs.wp_bind w)
    exact w
structure SW (X : Cx) (C : Cl) (W : Str → Hp → Prop) (e : Expr) (m : E) : Prop where
  pw : PW X e (tT (gx X) C W m)
theorem PW.imp {e : Expr} {t t' : TT} (h : PW X e t) (i : ∀ σ H Q, t' σ H Q → t σ H Q) : PW X e t' := ⟨fun wh pins s σ H Q I hw => h.run wh pins s σ H Q I (i σ H Q hw)⟩
theorem sw_and1 (ha : ST X C W a ma) : SW X C W (.BoolOp .And [a] pos) ma := ⟨pw_and1 ha.pt⟩
theorem sw_or1 (ha : ST X C W a ma) : SW X C W (.BoolOp .Or [a] pos) ma := ⟨pw_or1 ha.pt⟩
theorem sw_and (ha : ST X C W a ma) (hb : SW X C W (.BoolOp .And (b :: rest) pos) mb) : SW X C W (.BoolOp .And (a :: b :: rest) pos) (.and ma mb) := ⟨PW.imp (pw_and ha.pt hb.pw) fun σ H Q h => tT_and h⟩
theorem sw_or (ha : ST X C W a ma) (hb : SW X C W (.BoolOp .Or (b :: rest) pos) mb) : SW X C W (.BoolOp .Or (a :: b :: rest) pos) (.or ma mb) := ⟨PW.imp (pw_or ha.pt hb.pw) fun σ H Q h => tT_or h⟩
theorem st_w (h : SW X C W a ma) : ST X C W a ma := ⟨h.pw.pt⟩
theorem st_not (ha : ST X C W a ma) : ST X C W (.UnaryOp .Not a pos) (.not ma) := ⟨PT.imp (pt_not ha.pt) fun σ H Q h => tT_not h⟩
theorem tT_ite {Q : VK} (h : tE g C W (.ite mc ma mb) σ H Q) : tIf (tT g C W mc) (tE g C W ma) (tE g C W mb) σ H Q := by
  obtain ⟨NF, Γ, tr, se, w⟩ := h
  refine ⟨NF, Γ, tr, se.mono same_refl (fun _ _ z => z) (fun i hi => List.mem_append_left _ hi), ?_⟩
  have w : ((ev C Γ mc).bind fun x => (asB x).bind fun k => if k then ev C Γ ma else ev C Γ mb).wp (After g H NF Q) (Out H W) := w
  cases e : ev C Γ mc with
  | bad => rw [e] at w; exact w.elim
  | exc c => rw [e] at w; exact w
  | ok d =>
    rw [e] at w
    have w : ((asB d).bind fun k => if k then ev C Γ ma else ev C Γ mb).wp (After g H NF Q) (Out H W) := w
    obtain ⟨k, rfl, w⟩ := asB_wp (Rs.wp_bind w)
    show ∀ H', Same H H' → _
    intro H1 s
    cases k with
    | true =>
      have w : (ev C Γ ma).wp (After g H NF Q) (Out H W) := w
      rw [if_pos rfl]
      exact ⟨NF, Γ, tr_same s tr, se.mono s (fun _ _ z => z) (fun i hi => List.mem_append_right _ (List.mem_append_left _ hi)), Rs.wp_mono w (fun d q v H' F' s' f' r' => q v H' F' (s.trans s') (fresh_of s f') r') fun _ z => z.same s⟩
    | false =>
      have w : (ev C Γ mb).wp (After g H NF Q) (Out H W) := w
      rw [if_neg Bool.false_ne_true]
      exact ⟨NF, Γ, tr_same s tr, se.mono s (fun _ _ z => z) (fun i hi => List.mem_append_right _ (List.mem_append_right _ hi)), Rs.wp_mono w (fun d q v H' F' s' f' r' => q v H' F' (s.trans s') (fresh_of s f') r') fun _ z => z.same s⟩
theorem se_ite (hc : ST X C W c mc) (ha : SE X C W a ma) (hb : SE X C W b mb) : SE X C W (.IfExp c a b pos) (.ite mc ma mb) := ⟨PE.imp (pe_ifExp hc.pt ha.pe hb.pe) fun σ H Q h => tT_ite h⟩

theorem scal_rep {H' : Hp} {NF NF' : Addr → Prop} {d : D} {v : V} {F : Addr → Prop} (h : scal d = true) (r : Rep g H NF d v F) : Rep g H' NF' d v none0 := by
  cases d <;> first | exact r | cases h
theorem tE_chain {o1 o2 : Pr} {r r' : R2} (p1 : Prim2 X o1 r) (p2 : Prim2 X o2 r') {Q : VK} (h : tE (gx X) C W (.chain o1 o2 ma mb mc) σ H Q) : tChain r r' (tE (gx X) C W ma) (tE (gx X) C W mb) (tE (gx X) C W mc) σ H Q := by
  obtain ⟨NF, Γ, tr, se, w⟩ := h
  refine ⟨NF, Γ, tr, se.mono same_refl (fun _ _ z => z) (fun i hi => List.mem_append_left _ hi), Rs.wp_mono (Rs.wp_bind w) (fun x w v H1 F s f r => ?_) fun _ z => z⟩
  refine ⟨or2 NF F, Γ, tr_or s tr f, se.mono s (nf_fresh f) (fun i hi => List.mem_append_right _ (List.mem_append_left _ hi)), Rs.wp_mono (Rs.wp_bind w) (fun y w u H2 F2 s2 f2 r2 => ?_) fun _ z => z.same s⟩
  obtain ⟨z, e, w⟩ := Rs.wp_of (Rs.wp_bind w)
  by_cases hs : scal y = true
  · have e2 := (if_pos hs).symm.trans e
    refine p1 _ _ _ _ ⟨NF, [x, y], or2 F F2, z, ?_, ?_, ⟨v, [u], F, F2, rfl, ?_, Reps.one ?_, fun _ => .inl, fun _ => .inr, fun a q1 q2 => (f a q1).2 (f2 a q2).1⟩, e2, fun zv H3 F3 s3 f3 r3 => ?_⟩
    · exact tr_or (s.trans s2) tr (f.trans s s2 f2)
    · exact fun a q z => tr a z ((f.trans s s2 f2) a q).1
    · exact Rep.mono (fun a h n z => (by rcases z with z | z | z; exact n (.inl z); exact n (.inr z); exact h (f2 a z).1)) x v F F (fun a o q _ => s2 a o q) (fun _ q => q) r
    · exact Rep.mono (fun a h n z => (by rcases z with z | z | z; exact n (.inl (.inl z)); exact n (.inl (.inr z)); exact n (.inr z))) y u F2 F2 (fun a o q _ => q) (fun _ q => q) r2
    · obtain ⟨k, rfl, w⟩ := asB_wp (Rs.wp_bind w)
      refine ⟨k, r3, ?_⟩
      have s03 : Same H H3 := (s.trans s2).trans s3
      cases k with
      | false =>
        rw [if_neg Bool.false_ne_true]
        have w : After (gx X) H NF Q (.bl false) := w
        exact w _ H3 none0 s03 (fun _ z => z.elim) rfl
      | true =>
        rw [if_pos rfl]
        have w : ((ev C Γ mc).bind fun u => Rs.of (prim o2 [y, u])).wp (After (gx X) H NF Q) (Out H W) := w
        refine ⟨NF, Γ, tr_same s03 tr, se.mono s03 (fun _ _ z => z) (fun i hi => List.mem_append_right _ (List.mem_append_right _ hi)), Rs.wp_mono (Rs.wp_bind w) (fun c' w u' H4 F4 s4 f4 r4 => ?_) fun _ z => z.same s03⟩
        obtain ⟨d, e3, a⟩ := Rs.wp_of w
        refine p2 _ _ _ _ ⟨NF, [y, c'], F4, d, tr_or s4 (tr_same s03 tr) f4, fun a q z => tr_same s03 tr a z (f4 a q).1, ⟨u, [u'], none0, F4, rfl, scal_rep hs r2, Reps.one r4, fun _ z => z.elim, fun _ z => z, fun _ z => z.elim⟩, e3, fun v' H' F' s' f' r' => a v' H' F' (s03.trans (s4.trans s')) (fun b q => ?_) r'⟩
        rcases f' b q with q | ⟨q1, q2⟩
        · obtain ⟨i1, i2⟩ := fresh_of s03 f4 b q
          exact ⟨i1, tr_same s' (NF := fun a => H4 a ≠ none) (fun _ z => z) b i2⟩
        · refine ⟨?_, q2⟩
          cases e : H b with
          | none => rfl
          | some o => rw [s4 b o (s03 b o e)] at q1; cases q1
  · have e2 := (if_neg hs).symm.trans e
    cases e2
theorem se_chain {op op' : CmpOp} {r r' : R2} {o1 o2 : Pr} (ho : OpR X (compareOp op) r) (ho' : OpR X (compareOp op') r') (p1 : Prim2 X o1 r) (p2 : Prim2 X o2 r') (ha : SE X C W a ma) (hb : SE X C W b mb) (hc : SE X C W c mc)
    (hm : lastMarks [op, op'] [b, c] = false := by with_unfolding_all rfl) : SE X C W (.Compare a [op, op'] [b, c] pos) (.chain o1 o2 ma mb mc) := ⟨PE.imp (pe_chain ho ho' ha.pe hb.pe hc.pe hm) fun σ H Q h => tE_chain p1 p2 h⟩
theorem st_chain {op op' : CmpOp} {r r' : R2} {o1 o2 : Pr} (ho : OpR X (compareOp op) r) (ho' : OpR X (compareOp op') r') (p1 : Prim2 X o1 r) (p2 : Prim2 X o2 r') (ha : SE X C W a ma) (hb : SE X C W b mb) (hc : SE X C W c mc)
    (hm : lastMarks [op, op'] [b, c] = false := by with_unfolding_all rfl) : ST X C W (.Compare a [op, op'] [b, c] pos) (.chain o1 o2 ma mb mc) := ⟨PT.imp (pt_chain ho ho' ha.pe hb.pe hc.pe hm) fun σ H Q h => tE_chain p1 p2 (tT_tE h)⟩
end
end RW

namespace RW
open PySem L2 PySem.Spec PyProof.Rows

/-! ## 7. methods of built-in values that change nothing -/
section
variable {X : Cx} {C : Cl} {W : Str → Hp → Prop}
/-- the check of a receiver's kind -/
def Chk (X : Cx) (C : Cl) (W : Str → Hp → Prop) (T : String) (k : Pr) : Prop := ∀ (m : E) (σ : L2.St) (H : Hp) (Q : VK), tE (gx X) C W (.p k [m]) σ H Q → tE (gx X) C W m σ H fun y H1 => tyV X.K T y H1 ∧ Q y H1
theorem chk_str : Chk X C W "str" .asStr := fun m σ H Q h => tE_mono (tE_p1 h) fun v H1 h => by
  obtain ⟨NF, F, a, d, tr, ra, e, q⟩ := h.o1
  replace e : pStr [a] = some d := e
  unfold pStr at e
  split at e
  · rename_i s he
    cases he; cases e
    have q2 := q.old ra (fun _ z => z)
    obtain ⟨rfl, oa⟩ := ra
    exact ⟨rfl, q2⟩
  · cases e
theorem chk_lst : Chk X C W "list" .asLst := fun m σ H Q h => tE_mono (tE_p1 h) fun v H1 h => by
  obtain ⟨NF, F, a, d, tr, ra, e, q⟩ := h.o1
  replace e : pIsLst [a] = some d := e
  unfold pIsLst at e
  split at e
  · rename_i o xs he
    cases he; cases e
    have q2 := q.old ra (fun _ z => z)
    obtain ⟨p, vs, G, rfl, hp, rv, gs⟩ := ra.lstInv
    exact ⟨.inl ⟨rfl, vs, SqL.of hp⟩, q2⟩
  · cases e
def PrimM (X : Cx) (o : Pr) (r : V → List V → Hp → VK → Prop) : Prop := ∀ x xs H Q, PrimQ (gx X) o (x :: xs) H Q → r x xs H Q
theorem se_mth {T id : String} {name : Str} {o e : Expr} {es : List Expr} {mo : E} {ms : List E} {k op : Pr} {apos cpos : Pos} {r : V → List V → Hp → VK → Prop} (pa : PlainAttrs T) (slot : Slot T name id) (hty : typeOf (.builtin id) = pure (.type "method_descriptor")) (hm : MtR X id r)
    (ck : Chk X C W T k) (pr : PrimM X op r) (ho : SE X C W o mo) (ha : SEs X C W (e :: es) ms)
    (hbase : attributeBase o name X.env (eval o X.env) = eval o X.env := by rfl)
    (hfew : ((backTo cpos (starEach (e :: es) X.env)).all (fun x => !x.1) && (backToKw cpos (keywordEach [] X.env)).all (fun x => x.1.isSome)
      && decide ((e :: es).length + ([] : List Keyword).length + (if ([] : List Keyword).isEmpty then 0 else 1) < 30)) = true := by rfl)
    (hline : (apos.endLine == cpos.line) = true := by rfl) (hs : starEach (e :: es) X.env = (false, eval e X.env) :: starEach es X.env := by rfl) (hplain : (backTo cpos (starEach es X.env)).any (·.1) = false := by rfl) :
    SE X C W (.Call (.Attribute o name apos) (e :: es) [] cpos) (.p op (.p k [mo] :: ms)) :=
  ⟨PE.imp (pe_bm pa slot hty hm ho.pe ha.pa hbase hfew hline hs hplain) fun σ H Q h => tE_mono (ck mo σ H _ (tEs_cons (tE_p h))) fun v H1 h => ⟨h.1, tEs_mono h.2 fun vs H2 h => pr _ _ _ _ h⟩⟩
theorem primM_split : PrimM X .split (fun x xs H Q => ∃ a b, x = .str a ∧ xs = [.str b] ∧ (b.length == 0) = false ∧ a.length + 2 ≤ sizeLine ∧ rNewStrs (Txt.split a b) H Q) := fun x xs H Q h => by
  obtain ⟨NF, ds, F, d, tr, dj, r, e, q⟩ := h
  replace e : pSplit ds = some d := e
  unfold pSplit at e
  split at e
  · rename_i s t
    by_cases hl : s.length + 2 ≤ lim ∧ t.length ≠ 0 ∧ (Txt.split ⟨s.toArray⟩ ⟨t.toArray⟩).all (fun x => okS x.cps.toList) = true
    · have e2 := (if_pos hl).symm.trans e
      obtain rfl := Option.some.inj e2
      obtain ⟨v, u, F1, F2, h1, ra, rb, _⟩ := r.un2
      cases h1
      obtain ⟨rfl, oa⟩ := ra
      obtain ⟨rfl, ob⟩ := rb
      refine ⟨mkS s, mkS t, rfl, rfl, ?_, by rw [mkS_length, ← lim_eq]; exact hl.1, fun p hp => ?_⟩
      · rw [mkS_length]; simpa using hl.2.1
      · have h2 : (Txt.split (mkS s) (mkS t)).map V.str = ((Txt.split (mkS s) (mkS t)).map fun x => x.cps.toList).map fun s => V.str (mkS s) := by
          rw [List.map_map]
          refine List.map_congr_left fun x _ => ?_
          show V.str x = V.str ⟨x.cps.toList.toArray⟩
          simp
        rw [h2]
        refine QN.lst q tr (Reps.strs (xs := (Txt.split (mkS s) (mkS t)).map fun x => x.cps.toList) ?_) (fun _ z => z.elim) hp
        rw [List.all_map]
        exact hl.2.2
    · have e2 := (if_neg hl).symm.trans e
      cases e2
  · cases e
theorem primM_index : PrimM X .index (fun x xs H Q => ∃ a b i rest, x = .str a ∧ xs = [.str b] ∧ Builtin.Str.occurrences a b 0 a.length 1 = i :: rest ∧ Q (.int (i : Nat)) H) := fun x xs H Q h => by
  obtain ⟨NF, ds, F, d, tr, dj, r, e, q⟩ := h
  replace e : pIndex ds = some d := e
  unfold pIndex at e
  split at e
  · rename_i s t
    split at e
    · rename_i i rest ho
      cases e
      obtain ⟨v, u, F1, F2, h1, ra, rb, _⟩ := r.un2
      cases h1
      obtain ⟨rfl, oa⟩ := ra
      obtain ⟨rfl, ob⟩ := rb
      refine ⟨mkS s, mkS t, i, rest, rfl, rfl, ?_, QN.int q⟩
      rw [mkS_length]
      exact ho
    · cases e
  · cases e

/-! ## 8. calls of the program's own defs -/
/-- what stays behind a call: all but what was handed over to be changed -/
def Kept (H H' : Hp) (F : Addr → Prop) : Prop := ∀ a o, H a = some o → (¬ F a ∨ isTup o) → H' a = some o
/-- an exception of a class of the module, as it leaves a def -/
def XW (mg : Str → Option Value) (W : Str → Hp → Prop) : XK := fun c d H' => ∃ nm A, mg nm = some (.ref A) ∧ c = .ref A ∧ d = none ∧ W nm H'
/-- what a def gives, and what it leaves of the argument it may change -/
def Gives (g : Gb) (C : Cl) (id : Nat) (NF : Addr → Prop) (H : Hp) (vs : List V) (F : Addr → Prop) (Q : VK) (r : D × Option D) : Prop :=
  ∀ v H' F' Fo, Kept H H' F → (∀ a, or2 F' Fo a → F a ∨ (H a = none ∧ H' a ≠ none)) → (∀ a, or2 F' Fo a → H' a ≠ none) → (∀ a, F' a → ¬ Fo a) → Rep g H' (or2 NF (or2 F' Fo)) r.1 v F' →
    (∀ p, C.io id = some p → ∃ d u, r.2 = some d ∧ vs[p]? = some u ∧ Rep g H' (or2 NF (or2 F' Fo)) d u Fo) → Q v H'
/-- the promise of the def with the number id, of n parameters -/
def spC (g : Gb) (mg : Str → Option Value) (C : Cl) (id n : Nat) : Sp := fun vs H Q EX => vs.length = n ∧ ∃ NF ds F, (∀ a, or2 NF F a → H a ≠ none) ∧ (∀ a, F a → ¬ NF a) ∧ Reps g H (or2 NF F) ds vs F ∧
  (C.run id ds).wp (Gives g C id NF H vs F Q) (fun c => ∀ H', Kept H H' F → ∃ A, mg c = some (.ref A) ∧ EX (.ref A) none H')
theorem noX_wp {α : Type} {r : Rs α} {P : α → Prop} {E : Str → Prop} (h : (noX r).wp P E) : r.wp P (fun _ => False) := by
  cases r <;> exact h
theorem kept_same {H H' : Hp} (k : Kept H H' none0) : Same H H' := fun a o e => k a o e (.inl id)
/-- f(..) of a def that raises nothing and changes nothing that it is handed -/
theorem se_call {id k : Nat} {f : Addr} {fd : FuncData} {ps : List Str} {x : Str} {p pos : Pos} {e : Expr} {es : List Expr} {ms : List E} (F : FnOk X.prog X.w X.K X.mg X.base CX0 k f fd ps (spC (gx X) X.mg C id ps.length)) (hr : Room k X.A) (hm : X.mg x = some (.ref f)) (hk : PySem.W.keepIn X.K (.ref f) = true) (hb : Binds X.K fd ps [])
    (hio : C.io id = none) (hex : C.ex id = false) (hl : ms.length = ps.length) (ha : SEs X C W (e :: es) ms) (hg : Gl X x := by rfl) (hdb : (x == ("__debug__" : Str)) = false := by decide) (he : starEach (e :: es) X.env = (false, eval e X.env) :: starEach es X.env := by rfl) (hpl : (backTo pos (starEach es X.env)).any (·.1) = false := by rfl) :
    SE X C W (.Call (.Name x p) (e :: es) [] pos) (.call id ms) := ⟨PE.imp (pe_call F hr hg hm hk hb .nil pass0 ha.pa hdb he hpl) fun σ H Q h => by
  obtain ⟨NF, Γ, tr, se, w⟩ := h
  refine ⟨NF, Γ, tr, se, ?_⟩
  have w : (match C.io id with | some _ => Rs.bad | none => (evL C Γ ms).bind fun ds => (if C.ex id then C.run id (fzs ds) else noX (C.run id (fzs ds))).bind fun r => .ok r.1).wp (After (gx X) H NF Q) (Out H W) := w
  rw [hio, hex] at w
  have len : ∀ (ms : List E) (ds : List D), evL C Γ ms = .ok ds → ds.length = ms.length := by
    intro ms
    induction ms with
    | nil => intro ds z; cases z; rfl
    | cons m ms ih =>
      intro ds z
      have z : ((ev C Γ m).bind fun d => (evL C Γ ms).bind fun ds => .ok (d :: ds)) = .ok ds := z
      cases e1 : ev C Γ m with
      | ok d =>
        cases e2 : evL C Γ ms with
        | ok ds' =>
          rw [e1, e2] at z
          cases z
          rw [List.length_cons, List.length_cons, ih ds' e2]
        | exc c => rw [e1, e2] at z; cases z
        | bad => rw [e1, e2] at z; cases z
      | exc c => rw [e1] at z; cases z
      | bad => rw [e1] at z; cases z
  cases e0 : evL C Γ ms with
  | bad => rw [e0] at w; exact w.elim
  | exc c => rw [e0] at w; exact w
  | ok ds =>
    rw [e0] at w
    have w : ((noX (C.run id (fzs ds))).bind fun r => Rs.ok r.1).wp (After (gx X) H NF Q) (Out H W) := w
    show AfterL _ _ _ _ _
    intro vs H1 F1 s f r
    have w := noX_wp (Rs.wp_bind w)
    have r' : Reps (gx X) H1 (or2 NF none0) (fzs ds) vs none0 := Reps.fz (fun a h n z => z.elim (fun z => n (.inl z)) (fun z => z)) ds vs F1 (fun a z z' => z'.elim (fun z' => tr a z' (f a z).1) (fun z => z)) r
    refine ⟨by rw [List.append_nil, r.length, len ms ds e0, hl], NF, fzs ds, none0, fun a z => z.elim (tr_same s tr a) (fun z => z.elim), fun a z => z.elim, by rw [List.append_nil]; exact r', ?_⟩
    refine Rs.wp_mono w (fun rr a v H' F' Fo kp f1 f2 f3 r1 _ => ?_) fun c z => z.elim
    refine a v H' F' (s.trans (kept_same kp)) (fun b z => ?_) (Rep.mono (fun a h n z => n (z.imp (fun z => z) .inl)) _ _ _ _ (fun _ _ q _ => q) (fun _ q => q) r1)
    rcases f1 b (.inl z) with z' | ⟨i1, i2⟩
    · exact z'.elim
    · refine ⟨?_, i2⟩
      cases e : H b with
      | none => rfl
      | some o => rw [s b o e] at i1; cases i1⟩
end
end RW

namespace RW
open PySem L2 PySem.Spec PyProof.Rows

/-! ## 9. dicts -/
theorem lookB_map {α β : Type} (f : α → β) : ∀ (bs : List Bool) (xs : List α), lookB bs (xs.map f) = (lookB bs xs).map f
  | [], xs => by cases xs <;> rfl
  | true :: bs, [] => rfl
  | false :: bs, [] => rfl
  | true :: bs, x :: xs => rfl
  | false :: bs, x :: xs => lookB_map f bs xs
theorem lookB_some {α : Type} : ∀ (bs : List Bool) (xs : List α), xs.length = bs.length → (lookB bs xs).isSome = bs.any id
  | [], [], _ => rfl
  | true :: bs, x :: xs, _ => rfl
  | false :: bs, x :: xs, h => by
    show (lookB bs xs).isSome = (false || bs.any id)
    rw [Bool.false_or]
    exact lookB_some bs xs (by simpa using h)
  | _ :: _, [], h => by cases h
  | [], _ :: _, h => by cases h
theorem putB_length {α : Type} (v : α) : ∀ (bs : List Bool) (xs : List α), (putB v bs xs).length = xs.length
  | [], xs => by cases xs <;> rfl
  | true :: bs, [] => rfl
  | false :: bs, [] => rfl
  | true :: bs, x :: xs => rfl
  | false :: bs, x :: xs => by simp [putB, putB_length v bs xs]
theorem putB_map {α β : Type} (f : α → β) (v : α) : ∀ (bs : List Bool) (xs : List α), putB (f v) bs (xs.map f) = (putB v bs xs).map f
  | [], xs => by cases xs <;> rfl
  | true :: bs, [] => rfl
  | false :: bs, [] => rfl
  | true :: bs, x :: xs => rfl
  | false :: bs, x :: xs => by simp [putB, putB_map f v bs xs]
/-- the first one that fits, where only one does -/
theorem putB_once {α : Type} (v : α → α) (p : α → Bool) : ∀ (xs : List α), (∀ (i j : Nat) (a b : α), xs[i]? = some a → xs[j]? = some b → p a = true → p b = true → i = j) → ∀ w, (∀ a ∈ xs, p a = true → v a = w) → putB w (xs.map p) xs = xs.map fun x => if p x = true then v x else x
  | [], _, _, _ => rfl
  | x :: xs, u, w, hw => by
    cases e : p x with
    | true =>
      have rest : xs.map (fun y => if p y = true then v y else y) = xs := by
        refine (List.map_congr_left fun y hy => ?_).trans (List.map_id _)
        cases e2 : p y with
        | false => rfl
        | true =>
          obtain ⟨j, hj⟩ := List.mem_iff_getElem?.mp hy
          have := u 0 (j + 1) x y rfl (by simpa using hj) e e2
          cases this
      simp only [List.map_cons, e, putB, if_true]
      rw [rest, hw x List.mem_cons_self e]
    | false =>
      have ih := putB_once v p xs (fun i j a b h1 h2 h3 h4 => by have := u (i + 1) (j + 1) a b (by simpa using h1) (by simpa using h2) h3 h4; omega) w (fun a ha => hw a (List.mem_cons_of_mem _ ha))
      simp only [List.map_cons, e, putB, Bool.false_eq_true, if_false]
      rw [ih]
section
variable {g : Gb} {H : Hp} {NF : Addr → Prop}
theorem Reps.look : ∀ {bs : List Bool} {ds : List D} {vs : List V} {F : Addr → Prop} {d : D}, Reps g H NF ds vs F → lookB bs ds = some d → ∃ v, lookB bs vs = some v ∧ Rep g H NF d v F
  | true :: bs, d :: ds, vs, F, d', ⟨v, r, F1, F2, e, x1, x2, s1, s2, dj⟩, h => by
    subst e
    have h : some d = some d' := h
    cases h
    exact ⟨v, rfl, x1.sub s1⟩
  | false :: bs, d :: ds, vs, F, d', ⟨v, r, F1, F2, e, x1, x2, s1, s2, dj⟩, h => by
    subst e
    obtain ⟨u, h1, h2⟩ := Reps.look (bs := bs) x2 h
    exact ⟨u, h1, h2.sub s2⟩
  | [], d :: ds, _, _, _, _, h => by cases h
  | [], [], _, _, _, _, h => by cases h
  | true :: _, [], _, _, _, _, h => by cases h
  | false :: _, [], _, _, _, _, h => by cases h
theorem Reps.put {d : D} {v : V} {Fd : Addr → Prop} (rd : Rep g H NF d v Fd) : ∀ {bs : List Bool} {ds : List D} {vs : List V} {F G : Addr → Prop}, Reps g H NF ds vs F → (∀ a, F a → G a) → (∀ a, Fd a → G a) → (∀ a, Fd a → ¬ F a) → Reps g H NF (putB d bs ds) (putB v bs vs) G
  | true :: bs, x :: ds, vs, F, G, ⟨u, r, F1, F2, e, x1, x2, s1, s2, dj⟩, f1, f2, k => by
    subst e
    exact ⟨v, r, Fd, F2, rfl, rd, x2, f2, fun a z => f1 a (s2 a z), fun a z z' => k a z (s2 a z')⟩
  | false :: bs, x :: ds, vs, F, G, ⟨u, r, F1, F2, e, x1, x2, s1, s2, dj⟩, f1, f2, k => by
    subst e
    refine ⟨u, putB v bs r, F1, fun a => F2 a ∨ Fd a, rfl, x1, Reps.put rd x2 (fun a => .inl) (fun a => .inr) (fun a z z' => k a z (s2 a z')), fun a z => f1 a (s1 a z), fun a z => z.elim (fun z => f1 a (s2 a z)) (f2 a), fun a z z' => ?_⟩
    rcases z' with z' | z'
    · exact dj a z z'
    · exact k a z' (s1 a z)
  | [], ds, vs, F, G, x, f1, _, _ => by
    have h1 : putB d [] ds = ds := by cases ds <;> rfl
    have h2 : putB v [] vs = vs := by cases vs <;> rfl
    rw [h1, h2]
    exact x.sub f1
  | true :: bs, [], vs, F, G, x, f1, _, _ => by have x : vs = [] := x; subst x; exact rfl
  | false :: bs, [], vs, F, G, x, f1, _, _ => by have x : vs = [] := x; subst x; exact rfl
end

/-! ### keys that are tuples -/
mutual
theorem toN_key : ∀ (n : Nat) (d : D), keyD n d = true → ∃ k, toN d = some k ∧ k.depth ≤ n
  | n, .non, _ => ⟨_, rfl, Nat.zero_le _⟩
  | n, .int _, _ => ⟨_, rfl, Nat.zero_le _⟩
  | n, .str _, _ => ⟨_, rfl, Nat.zero_le _⟩
  | n + 1, .tup xs, h => by
    obtain ⟨ks, h1, h2⟩ := toNs_key n xs h
    refine ⟨.tup ks, by unfold toN; rw [h1]; rfl, Nat.succ_le_succ h2⟩
  | 0, .tup _, h => by simp [keyD] at h
  | n, .bl _, h => by cases n <;> simp [keyD] at h
  | n, .lst _ _, h => by cases n <;> simp [keyD] at h
  | n, .dct _ _ _, h => by cases n <;> simp [keyD] at h
  | n, .scr _, h => by cases n <;> simp [keyD] at h
theorem toNs_key : ∀ (n : Nat) (ds : List D), keyDs n ds = true → ∃ ks, toNs ds = some ks ∧ NestedKey.depthAll ks ≤ n
  | n, [], _ => ⟨[], rfl, Nat.zero_le _⟩
  | n, d :: ds, h => by
    have h : (keyD n d && keyDs n ds) = true := h
    rw [Bool.and_eq_true] at h
    obtain ⟨k, h1, h2⟩ := toN_key n d h.1
    obtain ⟨ks, h3, h4⟩ := toNs_key n ds h.2
    refine ⟨k :: ks, by unfold toNs; rw [h1, h3], Nat.max_le.mpr ⟨h2, h4⟩⟩
end
mutual
theorem deq_toN : ∀ (a b : D) (n m : NestedKey), toN a = some n → toN b = some m → deq a b = NestedKey.beq n m
  | .non, b, n, m, h1, h2 => by
    cases h1
    cases b <;> simp [toN] at h2 <;> first | (subst h2; simp [deq, NestedKey.beq]) | (obtain ⟨_, _, rfl⟩ := h2; simp [deq, NestedKey.beq])
  | .int _, b, n, m, h1, h2 => by
    cases h1
    cases b <;> simp [toN] at h2 <;> first | (subst h2; simp [deq, NestedKey.beq, Bool.beq_eq_decide_eq]) | (obtain ⟨_, _, rfl⟩ := h2; simp [deq, NestedKey.beq])
  | .str x, b, n, m, h1, h2 => by
    cases h1
    cases b with
    | str y =>
      cases h2
      show (x == y) = decide (mkS x = mkS y)
      rw [← mkS_beq, Bool.beq_eq_decide_eq]
    | _ => simp [toN] at h2 <;> first | (subst h2; simp [deq, NestedKey.beq]) | (obtain ⟨_, _, rfl⟩ := h2; simp [deq, NestedKey.beq])
  | .tup xs, b, n, m, h1, h2 => by
    have h1 : (toNs xs).map NestedKey.tup = some n := h1
    obtain ⟨ks, h3, rfl⟩ := Option.map_eq_some_iff.mp h1
    cases b with
    | tup ys =>
      have h2 : (toNs ys).map NestedKey.tup = some m := h2
      obtain ⟨ls, h4, rfl⟩ := Option.map_eq_some_iff.mp h2
      show deqs xs ys = NestedKey.beqAll ks ls
      exact deqs_toN xs ys ks ls h3 h4
    | _ => simp [toN] at h2 <;> (subst h2; simp [deq, NestedKey.beq])
  | .bl _, _, _, _, h, _ => by cases h
  | .lst _ _, _, _, _, h, _ => by cases h
  | .dct _ _ _, _, _, _, h, _ => by cases h
  | .scr _, _, _, _, h, _ => by cases h
theorem deqs_toN : ∀ (a b : List D) (n m : List NestedKey), toNs a = some n → toNs b = some m → deqs a b = NestedKey.beqAll n m
  | [], [], n, m, h1, h2 => by cases h1; cases h2; simp [deqs, NestedKey.beqAll]
  | [], y :: ys, n, m, h1, h2 => by
    cases h1
    unfold toNs at h2
    split at h2
    · cases h2; simp [deqs, NestedKey.beqAll]
    · cases h2
  | x :: xs, [], n, m, h1, h2 => by
    cases h2
    unfold toNs at h1
    split at h1
    · cases h1; simp [deqs, NestedKey.beqAll]
    · cases h1
  | x :: xs, y :: ys, n, m, h1, h2 => by
    unfold toNs at h1 h2
    split at h1
    · rename_i a as e1 e2
      cases h1
      split at h2
      · rename_i b bs e3 e4
        cases h2
        simp only [deqs, NestedKey.beqAll]
        rw [deq_toN x y a b e1 e3, deqs_toN xs ys as bs e2 e4]
      · cases h2
    · cases h1
end
section
variable {X : Cx} {pins : List (Addr × Obj)} {σ : L2.St} {H : Hp} {s : Shared} {NF : Addr → Prop}
mutual
theorem rep_nest (I : Inv X pins σ H s) : ∀ (d : D) (n : NestedKey) (v : V) (F : Addr → Prop) (u : Value), toN d = some n → Rep (gx X) H NF d v F → RelV v u → NestedIs s.heap n u
  | .non, n, v, F, u, h, r, q => by cases h; cases (show v = V.non from r); cases q; exact .none
  | .int i, n, v, F, u, h, r, q => by cases h; cases (show v = V.int _ from r); obtain ⟨t, rfl⟩ := q; exact .int i t
  | .str x, n, v, F, u, h, r, q => by cases h; cases (show v = V.str _ from r.1); obtain ⟨t, rfl⟩ := q; exact .text _ t
  | .tup xs, n, v, F, u, h, ⟨a, vs, e, ha, x⟩, q => by
    have h : (toNs xs).map NestedKey.tup = some n := h
    obtain ⟨ks, h3, rfl⟩ := Option.map_eq_some_iff.mp h
    subst e
    cases (show u = Value.ref a from q)
    obtain ⟨its, rv, ⟨o, ho, hc, k, hd⟩, _⟩ := I.tuple (SqT.of ha)
    exact .tup ho hc hd (reps_nest I xs ks vs F its h3 x rv)
  | .bl _, _, _, _, _, h, _, _ => by cases h
  | .lst _ _, _, _, _, _, h, _, _ => by cases h
  | .dct _ _ _, _, _, _, _, h, _, _ => by cases h
  | .scr _, _, _, _, _, h, _, _ => by cases h
theorem reps_nest (I : Inv X pins σ H s) : ∀ (ds : List D) (ns : List NestedKey) (vs : List V) (F : Addr → Prop) (us : List Value), toNs ds = some ns → Reps (gx X) H NF ds vs F → Vals vs us → NestedAll s.heap ns us
  | [], ns, vs, F, us, h, r, q => by cases h; cases (show vs = [] from r); cases q; exact .nil
  | d :: ds, ns, vs, F, us, h, ⟨v, r, F1, F2, e, x1, x2, _⟩, q => by
    unfold toNs at h
    split at h
    · rename_i a as e1 e2
      cases h
      subst e
      cases q with
      | cons q1 q2 => exact .cons (rep_nest I d a v F1 _ e1 x1 q1) (reps_nest I ds as r F2 _ e2 x2 q2)
    · cases h
end
end

section
variable {X : Cx} {pins : List (Addr × Obj)} {σ : L2.St} {H : Hp} {s : Shared} {NF : Addr → Prop}
theorem toNs_all : ∀ {ds : List D} {ns : List NestedKey}, toNs ds = some ns → ns.length = ds.length
  | [], _, h => by cases h; rfl
  | d :: ds, ns, h => by
    unfold toNs at h
    split at h
    · rename_i a as e1 e2
      cases h
      rw [List.length_cons, List.length_cons, toNs_all e2]
    · cases h
theorem atB_toN {k : D} {nk : NestedKey} (hk : toN k = some nk) : ∀ {ds : List D} {ns : List NestedKey}, toNs ds = some ns → atB k ds = ns.map fun n => decide (n = nk)
  | [], _, h => by cases h; rfl
  | d :: ds, ns, h => by
    unfold toNs at h
    split at h
    · rename_i a as e1 e2
      cases h
      show deq d k :: atB k ds = decide (a = nk) :: _
      rw [atB_toN hk e2, deq_toN d k a nk e1 hk, NestedKey.decide_eq]
    · cases h
/-- the entries of a dict with tuples as keys -/
theorem dict_raw (I : Inv X pins σ H s) {a : Addr} {ks : List D} {kvs vvs : List V} {F : Addr → Prop} (d : DAt (gx X) H a ks kvs vvs) (r : Reps (gx X) H NF ks kvs F) (hk : ks.all isKt = true) :
    ∃ xs, s.heap.DictOfH (nestedKind X.prog X.w) a xs ∧ toNs ks = some (xs.map (·.1)) ∧ kvs = xs.map (fun x => V.ref x.2.1) ∧ Vals vvs (xs.map (·.2.2)) ∧ (a == sysModules) = false ∧ Mut (H a) := by
  rcases d with ⟨kk, e, e1, e2⟩ | ⟨ns, e1, e2, e2', e3⟩
  · have z : kk = [] := by
      cases kk with
      | nil => rfl
      | cons p kk =>
        subst e1
        cases ks with
        | nil => cases (show _ :: _ = [] from r)
        | cons d ds =>
          obtain ⟨v, rr, F1, F2, h1, h2, h3, _⟩ := r
          rw [List.all_cons, Bool.and_eq_true] at hk
          cases d <;> (try cases hk.1)
          obtain ⟨b, _, h4, _⟩ := h2
          rw [h4] at h1
          obtain ⟨key, _⟩ := p
          cases key <;> cases h1
    subst z
    subst e1 e2
    have hks : ks = [] := by
      have := r.length
      cases ks with
      | nil => rfl
      | cons _ _ => cases this
    subst hks
    obtain ⟨z, hd, vs, rel, o, es, ep, ho, hx, hdat, _, hp, _⟩ := dk_of I.hok e
    cases rel
    have hes : es.toList = [] := by
      have hp' := hp
      cases h : es.toList with
      | nil => rfl
      | cons x y => rw [h] at hp'; cases hp'
    exact ⟨[], ⟨o, es, ep, ho, hx, hdat, hes, (fun x hx => nomatch hx), List.nodup_nil⟩, rfl, rfl, .nil, hd, by rw [e]; exact True.intro⟩
  · obtain ⟨⟨hd, xs, h1, h2, h3, h4, o, es, ep, ho, hx, hdat, hes⟩, _⟩ := (show ObjOk X.prog X.w H s.heap a (.ext _) from I.hok a _ e3)
    refine ⟨xs, ⟨o, es, ep, ho, hx, hdat, hes, fun x hx => ?_, by rw [h1]; exact h4⟩, by rw [h1]; exact e1, h2.symm, h3, hd, by rw [e3]; exact True.intro⟩
    obtain ⟨i, hi⟩ := List.mem_iff_getElem?.mp hx
    have hn : ns[i]? = some x.1 := by rw [← h1, List.getElem?_map, hi]; rfl
    have hv : kvs[i]? = some (V.ref x.2.1) := by rw [← h2, List.getElem?_map, hi]; rfl
    refine ⟨?_, e2' _ (List.mem_of_getElem? hn)⟩
    have all : ∀ (ds : List D) (ns : List NestedKey) (vs : List V) (F : Addr → Prop), toNs ds = some ns → Reps (gx X) H NF ds vs F → ∀ (i : Nat) n v, ns[i]? = some n → vs[i]? = some v → ∃ d G, toN d = some n ∧ Rep (gx X) H NF d v G := by
      intro ds
      induction ds with
      | nil => intro ns vs F h r i n v q _; cases h; cases q
      | cons d ds ih =>
        intro ns vs F h r i n v q1 q2
        unfold toNs at h
        split at h
        · rename_i a as e1 e2
          cases h
          obtain ⟨v', rr, F1, F2, e, x1, x2, _⟩ := r
          subst e
          cases i with
          | zero => cases q1; cases q2; exact ⟨d, F1, e1, x1⟩
          | succ i => exact ih as rr F2 e2 x2 i n v q1 q2
        · cases h
    obtain ⟨d, G, h5, h6⟩ := all ks ns kvs F e1 r i x.1 (V.ref x.2.1) hn hv
    exact rep_nest I d x.1 _ G _ h5 h6 rfl
theorem isKt_toN {k : D} (h : isKt k = true) : ∃ nk, toN k = some nk ∧ nk.depth ≤ 8 := by
  cases k <;> (try cases h)
  rename_i xs
  exact toN_key 8 (.tup xs) h
theorem atKey_look {xs : List (NestedKey × Addr × Value)} {k : NestedKey} : atKey xs k = lookB (xs.map fun x => decide (x.1 = k)) (xs.map (·.2)) := by
  unfold atKey
  induction xs with
  | nil => rfl
  | cons x xs ih =>
    by_cases h : x.1 = k
    · simp [List.find?_cons, lookB, h]
    · simpa [List.find?_cons, lookB, h] using ih
/-- the key of a dict of numbers and texts -/
theorem isKk_key {k : D} {v : V} {F : Addr → Prop} (h : isKk k = true) (r : Rep (gx X) H NF k v F) : ∃ key : Key, v = kV key ∧ ∀ d, isKk d = true → ∀ u G, Rep (gx X) H NF d u G → ∀ key', u = kV key' → deq d k = decide (key' = key) := by
  cases k <;> (try cases h)
  · rename_i i
    refine ⟨.inl i, r, fun d hd u G ru key' e => ?_⟩
    cases d <;> (try cases hd)
    · rename_i j
      cases (show u = V.int j from ru)
      cases key' with
      | inl m =>
        cases e
        show (j == i) = _
        rw [Bool.beq_eq_decide_eq]; simp
      | inr m => cases e
    · rename_i x
      cases (show u = V.str _ from ru.1)
      cases key' with
      | inl m => cases e
      | inr m => simp [deq]
  · rename_i x
    refine ⟨.inr (mkS x), r.1, fun d hd u G ru key' e => ?_⟩
    cases d <;> (try cases hd)
    · rename_i j
      cases (show u = V.int j from ru)
      cases key' with
      | inl m => simp [deq]
      | inr m => cases e
    · rename_i y
      cases (show u = V.str _ from ru.1)
      cases key' with
      | inl m => cases e
      | inr m =>
        cases e
        show (y == x) = _
        rw [← mkS_beq, Bool.beq_eq_decide_eq]; simp
theorem atB_keys {k : D} {key : Key} (h : ∀ d, isKk d = true → ∀ u G, Rep (gx X) H NF d u G → ∀ key', u = kV key' → deq d k = decide (key' = key)) : ∀ {ks : List D} {kk : List (Key × V)} {F : Addr → Prop}, ks.all isKk = true → Reps (gx X) H NF ks (kk.map fun p => kV p.1) F → atB k ks = kk.map fun p => decide (p.1 = key)
  | [], kk, _, _, r => by
    have r : kk.map (fun p => kV p.1) = [] := r
    rw [List.map_eq_nil_iff] at r
    subst r; rfl
  | d :: ds, [], _, _, ⟨_, _, _, _, e, _⟩ => by cases e
  | d :: ds, p :: kk, F, hk, ⟨v, r, F1, F2, e, x1, x2, _⟩ => by
    rw [List.all_cons, Bool.and_eq_true] at hk
    injection e with e1 e2
    subst e1 e2
    show deq d k :: atB k ds = _
    rw [h d hk.1 _ _ x1 p.1 rfl, atB_keys h hk.2 x2]; rfl
theorem valV_look {kk : List (Key × V)} {key : Key} : valV kk key = lookB (kk.map fun p => decide (p.1 = key)) (kk.map (·.2)) := by
  unfold valV
  induction kk with
  | nil => rfl
  | cons x xs ih =>
    by_cases h : x.1 = key
    · simp [List.find?_cons, lookB, h]
    · simpa [List.find?_cons, lookB, h] using ih
/-- a dict of numbers and texts -/
theorem dict_k (I : Inv X pins σ H s) {a : Addr} {ks : List D} {kvs vvs : List V} {F : Addr → Prop} (d : DAt (gx X) H a ks kvs vvs) (r : Reps (gx X) H NF ks kvs F) (hk : ks.all isKk = true) : ∃ kk : List (Key × V), H a = some (.dK kk) ∧ kvs = kk.map (fun p => kV p.1) ∧ vvs = kk.map (·.2) := by
  rcases d with d | ⟨ns, e1, e2, e2', e3⟩
  · exact d
  · exfalso
    obtain ⟨⟨hd, xs, h1, h2, h3, h4, _⟩, _⟩ := (show ObjOk X.prog X.w H s.heap a (.ext _) from I.hok a _ e3)
    cases xs with
    | nil => exact e2 h1.symm
    | cons x xs =>
      cases ks with
      | nil =>
        have z := toNs_all e1
        rw [← h1] at z
        cases z
      | cons d ds =>
        obtain ⟨v, rr, F1, F2, e, x1, x2, _⟩ := r
        rw [← h2] at e
        injection e with e _
        subst e
        rw [List.all_cons, Bool.and_eq_true] at hk
        cases d <;> (try cases hk.1)
        · cases (show V.ref _ = V.int _ from x1)
        · cases (show V.ref _ = V.str _ from x1.1)
theorem hasKey_any (k : D) (ks : List D) : hasKey k ks = (atB k ks).any id := by
  unfold hasKey atB
  rw [List.any_map]; rfl
/-- x in a dict -/
def rDIn (g : Gb) (neg : Bool) : R2 := fun x y H Q => ∃ a ks kvs vvs k NF F G, y = .ref a ∧ DAt g H a ks kvs vvs ∧ Reps g H NF ks kvs F ∧ Rep g H NF k x G ∧ keyOk k ks = true ∧ Q (.bl (hasKey k ks != neg)) H
theorem d_in' (hu : X.A.units + 20 < cLine) {neg : Bool} {x y : V} {v u : Value} {Q : VK} (I : Inv X pins σ H s) (rx : RelV x v) (ry : RelV y u) (h : rDIn (gx X) neg x y H Q) :
    wpAny (model X.prog X.w) X.A (compareOp (if neg = true then .NotIn else .In) v u) (EP X pins σ Q) X.xe s := by
  obtain ⟨a, ks, kvs, vvs, k, NF, F, G, rfl, d, r, rk, ok, q⟩ := h
  cases ry
  unfold keyOk at ok
  rw [Bool.or_eq_true, Bool.and_eq_true, Bool.and_eq_true] at ok
  rcases ok with ⟨k1, k2⟩ | ⟨k1, k2⟩
  · obtain ⟨key, rfl, hkey⟩ := isKk_key k1 rk
    obtain ⟨kk, hk, e1, e2⟩ := dict_k I d r k2
    subst e1 e2
    have hb := atB_keys hkey k2 r
    have hv : (valV kk key).isSome = hasKey k ks := by
      rw [valV_look, hasKey_any, hb, lookB_some _ _ (by simp)]
    cases neg with
    | false => exact d_in (by omega) I (DGet.k hk) rx fun s' I' => ⟨.bl _, H, I', by rw [hv]; rfl, by rw [bne_f] at q; exact q⟩
    | true => exact d_notIn (by omega) I (DGet.k hk) rx fun s' I' => ⟨.bl _, H, I', by rw [hv]; rfl, by rw [bne_t] at q; exact q⟩
  · obtain ⟨nk, hn, hd8⟩ := isKt_toN k1
    obtain ⟨xs, dd, h1, h2, h3, h4, h5⟩ := dict_raw I d r k2
    have hb := atB_toN hn h1
    have hv : (atKey xs nk).isSome = hasKey k ks := by
      rw [atKey_look, hasKey_any, hb, lookB_some _ _ (by simp), List.map_map]; rfl
    cases k <;> (try cases k1)
    obtain ⟨b, ws, rfl, hb2, _⟩ := id rk
    cases (show v = Value.ref b from rx)
    have hkey : (nestedKind X.prog X.w).is s.heap nk b := ⟨rep_nest I _ nk _ _ _ hn rk rfl, hd8⟩
    have hroom : (nestedKind X.prog X.w).room X.A.in1 := by show X.A.units + 1 + 8 < cLine; omega
    cases neg with
    | false => exact wpAny_in_heap hroom hkey h4 dd ⟨.bl _, H, I.tok _, by rw [hv]; rfl, by rw [bne_f] at q; exact q⟩
    | true => exact notIn_keyed hroom hkey h4 ⟨xs, dd, rfl⟩ ⟨.bl _, H, I.tok _, by rw [valueAt_pairsH, Option.isSome_map, hv]; rfl, by rw [bne_t] at q; exact q⟩
/-- d[x] -/
def rDGet (g : Gb) : R2 := fun y x H Q => ∃ a ks kvs vvs k NF F G v, y = .ref a ∧ DAt g H a ks kvs vvs ∧ Reps g H NF ks kvs F ∧ Rep g H NF k x G ∧ keyOk k ks = true ∧ lookB (atB k ks) vvs = some v ∧ Q v H
theorem d_get' (hu : X.A.units + 20 < cLine) {x y : V} {v u : Value} {Q : VK} (I : Inv X pins σ H s) (ry : RelV y u) (rx : RelV x v) (h : rDGet (gx X) y x H Q) :
    s.TypeIs u "dict" ∧ wpAny (model X.prog X.w) X.A (getItem u v) (EP X pins σ Q) X.xe s := by
  obtain ⟨a, ks, kvs, vvs, k, NF, F, G, z, rfl, d, r, rk, ok, hl, q⟩ := h
  cases ry
  unfold keyOk at ok
  rw [Bool.or_eq_true, Bool.and_eq_true, Bool.and_eq_true] at ok
  rcases ok with ⟨k1, k2⟩ | ⟨k1, k2⟩
  · obtain ⟨key, rfl, hkey⟩ := isKk_key k1 rk
    obtain ⟨kk, hk, e1, e2⟩ := dict_k I d r k2
    subst e1 e2
    rw [atB_keys hkey k2 r, ← valV_look] at hl
    obtain ⟨_, _, vs, rel, dd⟩ := dk_of I.hok hk
    exact ⟨dd.typeIs, d_getItem (by omega) I (by rw [← hl]; exact DGet.k hk) rx fun w' s' I' rw' => ⟨z, H, I', rw', q⟩⟩
  · obtain ⟨nk, hn, hd8⟩ := isKt_toN k1
    obtain ⟨xs, dd, h1, h2, h3, h4, h5⟩ := dict_raw I d r k2
    rw [atB_toN hn h1] at hl
    cases k <;> (try cases k1)
    obtain ⟨b, ws, rfl, hb2, _⟩ := id rk
    cases (show v = Value.ref b from rx)
    have hkey : (nestedKind X.prog X.w).is s.heap nk b := ⟨rep_nest I _ nk _ _ _ hn rk rfl, hd8⟩
    have hroom : (nestedKind X.prog X.w).room X.A.in1 := by show X.A.units + 1 + 8 < cLine; omega
    refine ⟨dd.typeIs, ?_⟩
    have look : ∀ (bs : List Bool) (vs : List V) (us : List Value), Vals vs us → lookB bs vs = some z → ∃ w, lookB bs us = some w ∧ RelV z w := by
      intro bs
      induction bs with
      | nil => intro vs us r q; cases vs <;> cases q
      | cons b bs ih =>
        intro vs us r q
        cases r with
        | nil => cases b <;> cases q
        | cons r1 r2 =>
          cases b with
          | true => cases q; exact ⟨_, rfl, r1⟩
          | false => exact ih _ _ r2 q
    obtain ⟨w', hw, rw'⟩ := look _ _ _ h3 hl
    have hp : ∃ p, atKey xs nk = some p ∧ p.2 = w' := by
      rw [atKey_look]
      have e : xs.map (·.2.2) = (xs.map (·.2)).map (·.2) := by rw [List.map_map]; rfl
      rw [e, lookB_map] at hw
      have e2 : (List.map (fun n => decide (n = nk)) (List.map (fun x => x.fst) xs)) = xs.map fun x => decide (x.1 = nk) := by rw [List.map_map]; rfl
      rw [e2] at hw
      exact Option.map_eq_some_iff.mp hw
    obtain ⟨p, hp1, hp2⟩ := hp
    refine wpAny_getItem_heap hroom hkey dd hp1 ?_
    rw [hp2]
    exact ⟨z, H, I.tok _, rw', q⟩
/-- d[x] = v -/
def rDSet (g : Gb) : TSet := fun y x v H Q => ∃ a ks kvs vvs k NF F G, y = .ref a ∧ DAt g H a ks kvs vvs ∧ Reps g H NF ks kvs F ∧ Rep g H NF k x G ∧ keyOk k ks = true ∧ vvs.length = ks.length ∧ ks.length < lim ∧
  ∀ ob, ¬ isTup ob → DAt g (upd H a ob) a (if hasKey k ks = true then ks else ks ++ [k]) (if hasKey k ks = true then kvs else kvs ++ [x]) (if hasKey k ks = true then putB v (atB k ks) vvs else vvs ++ [v]) → Q (upd H a ob)
theorem kv_keys : ∀ {kk : List (Key × V)} {vs : List (Key × Value)}, KV kk vs → kk.map (·.1) = vs.map (·.1)
  | _, _, .nil => rfl
  | _, _, .cons h t => by rw [List.map_cons, List.map_cons, h.1, kv_keys t]
theorem putK_look {kk : List (Key × V)} {key : Key} {v : V} (nd : (kk.map (·.1)).Nodup) : (putK kk key v).map (fun p => kV p.1) = (if (kk.any fun p => decide (p.1 = key)) = true then kk.map (fun p => kV p.1) else kk.map (fun p => kV p.1) ++ [kV key]) ∧
    (putK kk key v).map (·.2) = (if (kk.any fun p => decide (p.1 = key)) = true then putB v (kk.map fun p => decide (p.1 = key)) (kk.map (·.2)) else kk.map (·.2) ++ [v]) := by
  unfold putK
  by_cases h : (kk.any fun p => decide (p.1 = key)) = true
  · rw [if_pos h, if_pos h, if_pos h]
    refine ⟨?_, ?_⟩
    · rw [List.map_map]
      refine List.map_congr_left fun p _ => ?_
      show kV (if p.1 = key then (p.1, v) else p).1 = kV p.1
      split <;> rfl
    · have u : ∀ (i j : Nat) (a b : Key × V), kk[i]? = some a → kk[j]? = some b → decide (a.1 = key) = true → decide (b.1 = key) = true → i = j := fun i j a b h1 h2 h3 h4 => by
        have e1 : (kk.map (·.1))[i]? = some key := by rw [List.getElem?_map, h1]; simpa using h3
        have e2 : (kk.map (·.1))[j]? = some key := by rw [List.getElem?_map, h2]; simpa using h4
        have hi : i < (kk.map (·.1)).length := (List.getElem?_eq_some_iff.mp e1).1
        exact (List.getElem?_inj hi nd).mp (e1.trans e2.symm)
      have z := putB_once (fun p : Key × V => (key, v)) (fun p => decide (p.1 = key)) kk u (key, v) (fun _ _ _ => rfl)
      have z2 := congrArg (List.map (·.2)) z
      rw [← putB_map (fun p : Key × V => p.2)] at z2
      rw [z2, List.map_map, List.map_map]
      refine List.map_congr_left fun p _ => ?_
      show (if p.1 = key then (p.1, v) else p).2 = (if decide (p.1 = key) = true then (key, v) else p).2
      by_cases hp : p.1 = key <;> simp [hp]
  · rw [if_neg h, if_neg h, if_neg h]
    exact ⟨by rw [List.map_append]; rfl, by rw [List.map_append]; rfl⟩
theorem d_set' (hu : X.A.units + 20 < cLine) {x y z : V} {v u r0 : Value} {Q : Hp → Prop} (I : Inv X pins σ H s) (ry : RelV y u) (rx : RelV x v) (rz : RelV z r0) (h : rDSet (gx X) y x z H Q) :
    wpAny (model X.prog X.w) X.A (setItem u v r0) (fun _ s' => ∃ H', Inv X pins σ H' s' ∧ Q H') X.xe s := by
  obtain ⟨a, ks, kvs, vvs, k, NF, F, G, rfl, d, r, rk, ok, hlen, hlim, q⟩ := h
  cases ry
  unfold keyOk at ok
  rw [Bool.or_eq_true, Bool.and_eq_true, Bool.and_eq_true] at ok
  rcases ok with ⟨k1, k2⟩ | ⟨k1, k2⟩
  · obtain ⟨key, rfl, hkey⟩ := isKk_key k1 rk
    obtain ⟨kk, hk, e1, e2⟩ := dict_k I d r k2
    have hb := atB_keys hkey k2 (by rw [← e1]; exact r)
    have hh : hasKey k ks = kk.any fun p => decide (p.1 = key) := by rw [hasKey_any, hb, List.any_map]; rfl
    obtain ⟨_, _, vs, rel, dd⟩ := dk_of I.hok hk
    have nd : (kk.map (·.1)).Nodup := by
      obtain ⟨_, _, _, _, _, _, _, _, nd⟩ := dd
      rw [kv_keys rel]; exact nd
    obtain ⟨p1, p2⟩ := putK_look (v := z) nd (key := key)
    have hl : kk.length < sizeLine := by
      have := r.length
      rw [e1, List.length_map] at this
      rw [this, ← lim_eq]; exact hlim
    refine d_setItem (by omega) I (DPut.k hk hl) rx rz fun s' I' => ⟨_, I', q _ (fun ⟨_, z⟩ => nomatch z) (.inl ⟨putK kk key z, upd_same, ?_, ?_⟩)⟩
    · rw [p1, hh, e1]
    · rw [p2, hh, hb, e2]
  · obtain ⟨nk, hn, hd8⟩ := isKt_toN k1
    obtain ⟨xs, dd, h1, h2, h3, h4, h5⟩ := dict_raw I d r k2
    cases k <;> (try cases k1)
    rename_i kxs
    obtain ⟨b, ws, rfl, hb2, _⟩ := id rk
    cases (show v = Value.ref b from rx)
    have hkey : (nestedKind X.prog X.w).is s.heap nk b := ⟨rep_nest I _ nk _ _ _ hn rk rfl, hd8⟩
    have hroom : (nestedKind X.prog X.w).room X.A.in1 := by show X.A.units + 1 + 8 < cLine; omega
    have hz : xs.length ≤ sizeLine := by
      have := toNs_all h1
      rw [List.length_map] at this
      rw [this, ← lim_eq]; exact Nat.le_of_lt hlim
    have hb := atB_toN hn h1
    have hb' : atB (.tup kxs) ks = xs.map fun x => decide (x.1 = nk) := by rw [hb, List.map_map]; rfl
    have hh : hasKey (.tup kxs) ks = (atKey xs nk).isSome := by
      rw [atKey_look, hasKey_any, hb', lookB_some _ _ (by simp)]
    have nd : (xs.map (·.1)).Nodup := by obtain ⟨_, _, _, _, _, _, _, _, nd⟩ := dd; exact nd
    refine wpAny_setItem_heap (hsz := hz) hroom hkey dd fun h' dd' hs => ?_
    obtain ⟨o, es, ep, ho, hx, hdat, hes, hall, hnd⟩ := dd'
    have hkeys : (storedH xs nk b r0).map (·.1) = if (atKey xs nk).isSome = true then xs.map (·.1) else xs.map (·.1) ++ [nk] := by
      unfold storedH
      split
      · rw [List.map_map]
        refine List.map_congr_left fun p _ => ?_
        show (putAt nk r0 p).1 = p.1
        unfold putAt; split <;> rfl
      · rw [List.map_append]; rfl
    have hadr : (storedH xs nk b r0).map (fun x => V.ref x.2.1) = if (atKey xs nk).isSome = true then xs.map (fun x => V.ref x.2.1) else xs.map (fun x => V.ref x.2.1) ++ [.ref b] := by
      unfold storedH
      split
      · rw [List.map_map]
        refine List.map_congr_left fun p _ => ?_
        show V.ref (putAt nk r0 p).2.1 = V.ref p.2.1
        unfold putAt; split <;> rfl
      · rw [List.map_append]; rfl
    have hvals : (storedH xs nk b r0).map (·.2.2) = if (atKey xs nk).isSome = true then putB r0 (xs.map fun x => decide (x.1 = nk)) (xs.map (·.2.2)) else xs.map (·.2.2) ++ [r0] := by
      unfold storedH
      split
      · have u : ∀ (i j : Nat) (a b : NestedKey × Addr × Value), xs[i]? = some a → xs[j]? = some b → decide (a.1 = nk) = true → decide (b.1 = nk) = true → i = j := fun i j a b h1 h2 h3 h4 => by
          have e1 : (xs.map (·.1))[i]? = some nk := by rw [List.getElem?_map, h1]; simpa using h3
          have e2 : (xs.map (·.1))[j]? = some nk := by rw [List.getElem?_map, h2]; simpa using h4
          have hi : i < (xs.map (·.1)).length := (List.getElem?_eq_some_iff.mp e1).1
          exact (List.getElem?_inj hi nd).mp (e1.trans e2.symm)
        have all : ∀ (ys : List (NestedKey × Addr × Value)), (∀ (i j : Nat) (a b : NestedKey × Addr × Value), ys[i]? = some a → ys[j]? = some b → decide (a.1 = nk) = true → decide (b.1 = nk) = true → i = j) →
            (ys.map (putAt nk r0)).map (·.2.2) = putB r0 (ys.map fun x => decide (x.1 = nk)) (ys.map (·.2.2)) := by
          intro ys
          induction ys with
          | nil => intro _; rfl
          | cons y ys ih =>
            intro u
            by_cases hy : y.1 = nk
            · have rest : ys.map (putAt nk r0) = ys := by
                refine (List.map_congr_left fun w hw => ?_).trans (List.map_id _)
                unfold putAt
                split
                · rename_i hw2
                  obtain ⟨j, hj⟩ := List.mem_iff_getElem?.mp hw
                  have := u 0 (j + 1) y w rfl (by simpa using hj) (by simpa using hy) (by simpa using hw2)
                  cases this
                · rfl
              simp only [List.map_cons, hy, decide_true, putB, rest]
              unfold putAt; rw [if_pos hy]
            · have := ih (fun i j a b h1 h2 h3 h4 => by have := u (i + 1) (j + 1) a b (by simpa using h1) (by simpa using h2) h3 h4; omega)
              simp only [List.map_cons, hy, decide_false, putB, this]
              unfold putAt; rw [if_neg hy]
        exact all xs u
      · rw [List.map_append]; rfl
    have relput : ∀ (bs : List Bool) (vs : List V) (us : List Value), Vals vs us → Vals (putB z bs vs) (putB r0 bs us) := by
      intro bs
      induction bs with
      | nil => intro vs us r; cases r <;> first | exact .nil | (rename_i a b; exact .cons a b)
      | cons b bs ih =>
        intro vs us r
        cases r with
        | nil => cases b <;> exact .nil
        | cons r1 r2 =>
          cases b with
          | true => exact .cons rz r2
          | false => exact .cons r1 (ih _ _ r2)
    have new : NDict X.prog X.w a ((storedH xs nk b r0).map (·.1)) ((storedH xs nk b r0).map fun x => V.ref x.2.1) (if (atKey xs nk).isSome = true then putB z (xs.map fun x => decide (x.1 = nk)) vvs else vvs ++ [z]) h' := by
      refine ⟨h4, storedH xs nk b r0, rfl, rfl, ?_, hnd, o, es, ep, ho, hx, hdat, hes⟩
      rw [hvals]
      split
      · exact relput _ _ _ h3
      · exact h3.append (.cons rz .nil)
    refine ⟨_, d_write (ob := .ext (NDict X.prog X.w a ((storedH xs nk b r0).map (·.1)) ((storedH xs nk b r0).map fun x => V.ref x.2.1) (if (atKey xs nk).isSome = true then putB z (xs.map fun x => decide (x.1 = nk)) vvs else vvs ++ [z]))) (t' := s.toks + (nestedKind X.prog X.w).draws nk) I h5 hs ⟨o, ho⟩ ?_, q _ (fun ⟨_, z⟩ => nomatch z) (.inr ⟨(storedH xs nk b r0).map (·.1), ?_, ?_, ?_, ?_⟩)⟩
    · refine ⟨new, ⟨o, ho⟩, fun g1 g2 ⟨i1, xs', i2, i3, i4, i5, o', es', ep', i6, i7⟩ keep => ⟨i1, xs', i2, i3, i4, i5, o', es', ep', keep _ i6, i7⟩⟩
    · rw [hkeys, hh]
      split
      · exact h1
      · have app : ∀ (ds : List D) (ns : List NestedKey), toNs ds = some ns → toNs (ds ++ [.tup kxs]) = some (ns ++ [nk]) := by
          intro ds
          induction ds with
          | nil => intro ns h; cases h; show (match toN (.tup kxs), toNs [] with | some a, some b => some (a :: b) | _, _ => none) = _; rw [hn]; rfl
          | cons d ds ih =>
            intro ns h
            unfold toNs at h
            split at h
            · rename_i a as e1 e2
              cases h
              show (match toN d, toNs (ds ++ [.tup kxs]) with | some a, some b => some (a :: b) | _, _ => none) = _
              rw [e1, ih _ e2]; rfl
            · cases h
        exact app ks _ h1
    · rw [hkeys]
      split
      · rename_i hsome
        intro e
        rw [List.map_eq_nil_iff] at e
        rw [e] at hsome
        cases hsome
      · intro e
        exact absurd (congrArg List.length e) (by simp)
    · intro n hn'
      obtain ⟨x, hx1, rfl⟩ := List.mem_map.mp hn'
      exact (hall x hx1).2
    · rw [upd_same, hadr, hh, hb', h2]
end
end RW

namespace RW
open PySem L2 PySem.Spec PyProof.Rows

/-! ### subscripts, in, len, list: dicts too -/
section
variable {X : Cx}
theorem ix_dict (hu : X.A.units + 20 < cLine) : IxR X (rDGet (gx X)) := by
  intro value slice pins s σ H x y v u Q I rx ry h hs
  obtain ⟨hT, h2⟩ := d_get' hu I rx ry h
  unfold subscriptTail
  refine wpAny_bind ?_
  rw [getitemInPython_of_ne hT.not_modules]
  refine wpAny_bind (wpAny_specialOf hT PySem.F.slot_dict_getitem.lookup ?_)
  have fin : wpAny (model X.prog X.w) X.A (subscripted slice false v u) (fun r s₃ => wpAny (model X.prog X.w) X.A (letTemporaryGo value v r >>= fun _ => pure r) (EP X pins σ Q) X.xe s₃) X.xe s := by
    rw [hs]
    exact wpAny_operating (wpAny_mono h2 (fun r s₃ h₃ => wpAny_bind (wpAny_letTemporaryGo (wpAny_pure h₃))) fun _ _ x => x)
  first
    | exact wpAny_pure (wpAny_bind fin)
    | exact wpAny_bind (wpAny_pure (wpAny_bind fin))
    | exact wpAny_bind fin
def rIx4 (X : Cx) : R2 := fun x y H Q => rIx X.K x y H Q ∨ rDGet (gx X) x y H Q
theorem o_ix (hu : X.A.units + 20 < cLine) : IxR X (rIx4 X) := IxR.or ix_seq (ix_dict hu)
theorem Rep.dctInv {g : Gb} {H : Hp} {NF F : Addr → Prop} {ob : Bool} {ks ds : List D} {v : V} (r : Rep g H NF (.dct ob ks ds) v F) : ∃ a kvs vs G, v = .ref a ∧ DAt g H a ks kvs vs ∧ Reps g H NF ks kvs none0 ∧ Reps g H NF ds vs G ∧ (∀ b, G b → F b) := by
  cases ob with
  | true => obtain ⟨a, kvs, vs, G, e, da, kx, fa, ga, gs, x⟩ := r; exact ⟨a, kvs, vs, G, e, da, kx, x, gs⟩
  | false => obtain ⟨a, kvs, vs, e, da, kx, na, x⟩ := r; exact ⟨a, kvs, vs, none0, e, da, kx, x, fun _ z => z.elim⟩
theorem p2_ix : Prim2 X .ix (rIx4 X) := fun x y H Q h => by
  obtain ⟨NF, F, F1, F2, a, b, d, tr, ra, rb, s1, s2, dj, e, q⟩ := h.o2
  replace e : pIx [a, b] = some d := e
  by_cases hd : ∃ o ks vs, a = .dct o ks vs
  · obtain ⟨o, ks, vs, rfl⟩ := hd
    have e : (if keyOk b ks = true then atKeyD b ks vs else none) = some d := by
      unfold pIx at e
      cases b <;> exact e
    by_cases hk : keyOk b ks = true
    · rw [if_pos hk] at e
      obtain ⟨p, kvs, us, G, rfl, da, rk, rv, gs⟩ := ra.dctInv
      obtain ⟨v, h1, h2⟩ := rv.look e
      exact .inr ⟨p, ks, kvs, us, b, _, _, _, v, rfl, da, rk, rb, hk, h1, q.old h2 fun z hz => s1 z (gs z hz)⟩
    · rw [if_neg hk] at e; cases e
  · exact .inl (p2_ix3 (fun o ks vs z => hd ⟨o, ks, vs, z⟩) s1 ra rb e q)
def rIn4 (X : Cx) (neg : Bool) : R2 := fun x y H Q => rIn3 X.K neg x y H Q ∨ rDIn (gx X) neg x y H Q
theorem o_in (hu : X.A.units + 200 < cLine) : OpR X (compareOp .In) (rIn4 X false) := OpR.or (o_in3 (by omega)) fun pins s σ H x y v u Q I rx ry h => d_in' (neg := false) (by omega) I rx ry h
theorem o_notIn (hu : X.A.units + 200 < cLine) : OpR X (compareOp .NotIn) (rIn4 X true) := OpR.or (o_notIn3 (by omega)) fun pins s σ H x y v u Q I rx ry h => d_in' (neg := true) (by omega) I rx ry h
theorem p2_in' {o : Pr} {neg : Bool} (ho : prim o = pIn neg) : Prim2 X o (rIn4 X neg) := fun x y H Q h => by
  obtain ⟨NF, F, F1, F2, a, b, d, tr, ra, rb, s1, s2, dj, e, q⟩ := h.o2
  rw [ho] at e
  by_cases hd : ∃ o ks vs, b = .dct o ks vs
  · obtain ⟨ob, ks, vs, rfl⟩ := hd
    have e : (if keyOk a ks = true then some (D.bl (hasKey a ks != neg)) else none) = some d := by
      unfold pIn at e
      cases a <;> exact e
    by_cases hk : keyOk a ks = true
    · rw [if_pos hk] at e
      cases e
      obtain ⟨p, kvs, us, G, rfl, da, rk, rv, gs⟩ := rb.dctInv
      exact .inr ⟨p, ks, kvs, us, a, _, _, _, rfl, da, rk, ra, hk, q.bl⟩
    · rw [if_neg hk] at e; cases e
  · exact .inl (p2_in3 (fun o ks vs z => hd ⟨o, ks, vs, z⟩) ra rb e q)
theorem p2_in : Prim2 X .isIn (rIn4 X false) := p2_in' rfl
theorem p2_notIn : Prim2 X .notIn (rIn4 X true) := p2_in' rfl
theorem p2_isN : Prim2 X .eq (fun _ _ _ _ => True) := fun _ _ _ _ _ => trivial
/-- len: a dict's length -/
def rLenD (g : Gb) : List V → Hp → VK → Prop := fun xs H Q => ∃ a ks kvs vvs NF F, xs = [V.ref a] ∧ DAt g H a ks kvs vvs ∧ Reps g H NF ks kvs F ∧ (ks.all isKk = true ∨ ks.all isKt = true) ∧ Q (.int ks.length) H
end

/-! ## 10. what a for or a comprehension walks -/
/-- the iterator J gives the items ds, whatever is done to what N owns at the start; M: what may be owned afterwards -/
def ItOk (g : Gb) (N M : Addr → Prop) (J : It) (H1 : Hp) (ds : List D) : Prop :=
  ∀ i H2 N2, (∀ a o, H1 a = some o → (¬ N a ∨ isTup o) → H2 a = some o) → (∀ a, H1 a ≠ none → ¬ M a → ¬ N2 a) → (∀ a, N2 a → H2 a ≠ none) →
    (∀ d, ds[i]? = some d → J.go i H2 ∧ ∀ x H', J.yld i H2 x H' → Same H2 H' ∧ Rep g H' N2 (fz d) x none0) ∧ (ds.length ≤ i → J.stop i H2)
/-- J serves, once d with the items ds was evaluated where NF is owned -/
def Serves (g : Gb) (H : Hp) (NF : Addr → Prop) (d : D) (ds : List D) (J : It) (H1 : Hp) : Prop :=
  ∀ NF' M, (∀ a, NF' a → H a ≠ none) → (hasF d = true → ∀ a, NF' a → NF a) → (flats ds = true ∨ ∀ a, M a → NF' a) → ItOk g NF' M J H1 ds
def tI (g : Gb) (C : Cl) (W : Str → Hp → Prop) (m : E) : TI := fun σ H R => ∃ NF Γ, (∀ a, NF a → H a ≠ none) ∧ See g H NF σ Γ (vars m) ∧
  (ev C Γ m).wp (fun d => ∃ ds, items d = some ds ∧ ∀ J H1, Same H H1 → Serves g H NF d ds J H1 → R J H1) (Out H W)
structure SI (X : Cx) (C : Cl) (W : Str → Hp → Prop) (tg it : Expr) (m : E) : Prop where
  pi : PI X tg it (tI (gx X) C W m)
theorem PI.imp {X : Cx} {tg e : Expr} {t t' : TI} (h : PI X tg e t) (i : ∀ σ H Q, t' σ H Q → t σ H Q) : PI X tg e t' := ⟨fun pins s σ H Q I hw => h.run pins s σ H Q I (i σ H Q hw)⟩
theorem PI.or {X : Cx} {tg e : Expr} {t t' : TI} (h : PI X tg e t) (h' : PI X tg e t') : PI X tg e (fun σ H Q => t σ H Q ∨ t' σ H Q) := ⟨fun pins s σ H Q I hw => hw.elim (h.run pins s σ H Q I) (h'.run pins s σ H Q I)⟩
section
variable {g : Gb} {X : Cx} {C : Cl} {W : Str → Hp → Prop} {H1 : Hp} {N : Addr → Prop}
mutual
theorem flat_fz : ∀ d : D, flat d = true → fz d = d
  | .tup xs, h => by simp only [fz]; rw [flats_fz xs h]
  | .lst _ _, h => nomatch h
  | .dct _ _ _, h => nomatch h
  | .scr _, h => nomatch h
  | .non, _ => rfl | .bl _, _ => rfl | .int _, _ => rfl | .str _, _ => rfl
theorem flats_fz : ∀ ds : List D, flats ds = true → fzs ds = ds
  | [], _ => rfl
  | d :: ds, h => by
    have h' : (flat d && flats ds) = true := h
    rw [Bool.and_eq_true] at h'
    simp only [fzs]; rw [flat_fz d h'.1, flats_fz ds h'.2]
end
theorem flats_get : ∀ {ds : List D} {i : Nat} {d : D}, flats ds = true → ds[i]? = some d → flat d = true
  | [], _, _, _, h => by simp at h
  | d :: ds, 0, d', h, e => by
    have h' : (flat d && flats ds) = true := h
    rw [Bool.and_eq_true] at h'
    have e : some d = some d' := e
    cases e; exact h'.1
  | d :: ds, i + 1, d', h, e => by
    have h' : (flat d && flats ds) = true := h
    rw [Bool.and_eq_true] at h'
    exact flats_get h'.2 (by simpa using e)
/-- an item, as it is seen later -/
theorem item_later {N M N2 : Addr → Prop} {H1 H2 : Hp} {d : D} {v : V} {F : Addr → Prop} (rv : Rep g H1 (or2 N F) d v F) (hf : ∀ b, F b → ¬ N b) (k : ∀ a o, H1 a = some o → (¬ N a ∨ isTup o) → H2 a = some o) (n : ∀ a, H1 a ≠ none → ¬ M a → ¬ N2 a)
    (hm : flat d = true ∨ ∀ a, M a → N a) : Rep g H2 N2 (fz d) v none0 := by
  rcases hm with hm | hm
  · rw [flat_fz d hm]
    have r := Rep.noF (NF' := N2) d v F hm rv
    exact Rep.noF d v none0 hm (Rep.mono (NF := N) (fun _ _ z => z) d v none0 none0 (fun a o e z => k a o e (by rcases z with z | z | z; exact .inl z; exact z.elim; exact .inr z)) (fun _ z => z) (Rep.noF (NF' := N) d v F hm rv))
  · have rf : Rep g H1 N (fz d) v none0 := Rep.fz (fun a h n z => n (.inl z)) d v F hf rv
    exact Rep.mono (fun a h nz => n a h fun z => nz (hm a z)) _ _ _ _ (fun b o q z => k b o q (by rcases z with z | z | z; exact .inl z; exact z.elim; exact .inr z)) (fun _ z => z) rf
variable {M : Addr → Prop}
theorem itOk_list {a : Addr} {vs : List V} {ds : List D} {F : Addr → Prop} (ha : H1 a = some (.lst vs)) (na : ¬ N a) (r : Reps g H1 (or2 N F) ds vs F) (hf : ∀ b, F b → ¬ N b) (hm : flats ds = true ∨ ∀ a, M a → N a) : ItOk g N M (Itl g.K a) H1 ds := fun i H2 N2 k n t => by
  have h2 : SqL g.K H2 a vs := SqL.of (k a _ ha (.inl na))
  refine ⟨fun d hd => ?_, fun hl => ⟨vs, h2, by rw [r.length]; exact hl⟩⟩
  obtain ⟨v, hv, rv⟩ := r.get hd
  refine ⟨⟨vs, v, h2, hv⟩, fun x H' ⟨e, y⟩ => ?_⟩
  subst e
  have e := y vs h2
  rw [hv] at e
  cases e
  exact ⟨same_refl, item_later rv hf k n (hm.imp (fun h => flats_get h hd) (fun z => z))⟩
theorem itOk_tup {a : Addr} {vs : List V} {ds : List D} {F : Addr → Prop} (ha : H1 a = some (.tup vs)) (r : Reps g H1 (or2 N F) ds vs F) (hf : ∀ b, F b → ¬ N b) (hm : flats ds = true ∨ ∀ a, M a → N a) : ItOk g N M (Itt g.K a) H1 ds := fun i H2 N2 k n t => by
  have h2 : SqT g.K H2 a vs := SqT.of (k a _ ha (.inr ⟨_, rfl⟩))
  refine ⟨fun d hd => ?_, fun hl => ⟨vs, h2, by rw [r.length]; exact hl⟩⟩
  obtain ⟨v, hv, rv⟩ := r.get hd
  refine ⟨⟨vs, v, h2, hv⟩, fun x H' ⟨e, y⟩ => ?_⟩
  subst e
  have e := y vs h2
  rw [hv] at e
  cases e
  exact ⟨same_refl, item_later rv hf k n (hm.imp (fun h => flats_get h hd) (fun z => z))⟩
theorem itOk_str {s : List Nat} (h : okS s = true) : ItOk g N M (Its (mkS s)) H1 (s.map fun c => .str [c]) := fun i H2 N2 k n t => by
  have sz : (mkS s).cps.size = s.length := by simp [mkS]
  refine ⟨fun d hd => ?_, fun hl => ?_⟩
  · rw [List.getElem?_map] at hd
    obtain ⟨c, hc, rfl⟩ := Option.map_eq_some_iff.mp hd
    have hlt : i < s.length := (List.getElem?_eq_some_iff.mp hc).1
    refine ⟨by show i < (mkS s).cps.size; rw [sz]; exact hlt, fun x H' y => ?_⟩
    obtain ⟨e, c', hc', e2⟩ := y
    subst e e2
    have : (mkS s).cps[i]? = some c := by simp [mkS, hc]
    rw [this] at hc'
    cases hc'
    refine ⟨same_refl, rfl, ?_⟩
    unfold okS at h ⊢
    rw [List.all_eq_true] at h
    simpa using h c (List.mem_of_getElem? hc)
  · show (mkS s).cps.size ≤ i
    rw [sz]; simpa using hl
theorem itOk_range {lo : Int} {n : Nat} : ItOk g N M (Itr lo n) H1 (rangeL lo n) := fun i H2 N2 k _ t => by
  refine ⟨fun d hd => ?_, fun hl => by show n ≤ i; simpa [rangeL] using hl⟩
  unfold rangeL at hd
  rw [List.getElem?_map] at hd
  obtain ⟨j, hj, rfl⟩ := Option.map_eq_some_iff.mp hd
  obtain ⟨hlt, e⟩ := List.getElem?_eq_some_iff.mp hj
  rw [List.length_range] at hlt
  rw [List.getElem_range] at e
  subst e
  exact ⟨hlt, fun x H' ⟨e, y⟩ => by subst e y; exact ⟨same_refl, rfl⟩⟩
theorem enumL_get : ∀ (ds : List D) (k i : Nat) (d : D), (enumL k ds)[i]? = some d → ∃ x, ds[i]? = some x ∧ d = .tup [.int ((k + i : Nat) : Int), x]
  | [], k, i, d, h => by simp [enumL] at h
  | x :: ds, k, 0, d, h => by
    have h : some (D.tup [.int (k : Nat), x]) = some d := h
    cases h
    exact ⟨x, rfl, rfl⟩
  | x :: ds, k, i + 1, d, h => by
    obtain ⟨y, h1, h2⟩ := enumL_get ds (k + 1) i d h
    refine ⟨y, h1, ?_⟩
    rw [h2]
    have e : k + 1 + i = k + (i + 1) := by omega
    rw [e]
theorem enumL_length : ∀ (ds : List D) (k : Nat), (enumL k ds).length = ds.length
  | [], _ => rfl
  | x :: ds, k => by show (enumL (k + 1) ds).length + 1 = ds.length + 1; rw [enumL_length ds (k + 1)]
theorem enumL_flats : ∀ (ds : List D) (k : Nat), flats (enumL k ds) = flats ds
  | [], _ => rfl
  | x :: ds, k => by
    show ((true && (flat x && true)) && flats (enumL (k + 1) ds)) = (flat x && flats ds)
    rw [enumL_flats ds (k + 1), Bool.true_and, Bool.and_true]
theorem itOk_enum {a : Addr} {vs : List V} {ds : List D} {F : Addr → Prop} (ha : H1 a = some (.lst vs)) (na : ¬ N a) (r : Reps g H1 (or2 N F) ds vs F) (hf : ∀ b, F b → ¬ N b) (hm : flats ds = true ∨ ∀ a, M a → N a) : ItOk g N M (Ite g.K a) H1 (enumL 0 ds) := fun i H2 N2 k n t => by
  have h2 : SqL g.K H2 a vs := SqL.of (k a _ ha (.inl na))
  refine ⟨fun d hd => ?_, fun hl => ⟨vs, h2, by rw [r.length]; rw [enumL_length] at hl; exact hl⟩⟩
  obtain ⟨x, hx, rfl⟩ := enumL_get ds 0 i d hd
  obtain ⟨v, hv, rv⟩ := r.get hx
  refine ⟨⟨vs, v, h2, hv⟩, fun z H' ⟨T, w, e1, hT, e2, y⟩ => ?_⟩
  subst e1 e2
  have e := y vs h2
  rw [hv] at e
  cases e
  have rf := item_later rv hf k n (hm.imp (fun h => flats_get h hx) (fun z => z))
  refine ⟨same_up hT _, T, _, rfl, upd_same, .int (i : Nat), [v], none0, none0, rfl, ?_, Reps.one ?_, fun _ z => z, fun _ z => z, fun _ z => z.elim⟩
  · show V.int (i : Nat) = V.int ((0 + i : Nat) : Int)
    rw [Nat.zero_add]
  · exact Rep.mono (fun _ _ z => z) _ _ _ _ (fun b o q _ => same_up hT _ b o q) (fun _ z => z) rf
end
end RW

namespace RW
open PySem L2 PySem.Spec PyProof.Rows
section
variable {X : Cx} {C : Cl} {W : Str → Hp → Prop}
theorem si_seq {tg e : Expr} {m : E} (h : SE X C W e m) : SI X C W tg e m := ⟨PI.imp (PI.or (pi_list h.pe) (PI.or (pi_tup h.pe) (pi_str h.pe))) fun σ H R h => by
  obtain ⟨NF, Γ, tr, se, w⟩ := h
  cases ed : ev C Γ m with
  | bad => rw [ed] at w; exact w.elim
  | exc c =>
    rw [ed] at w
    exact .inl ⟨NF, Γ, tr, se, by rw [ed]; exact w⟩
  | ok d =>
    rw [ed] at w
    have w : ∃ ds, items d = some ds ∧ ∀ J H1, Same H H1 → Serves (gx X) H NF d ds J H1 → R J H1 := w
    obtain ⟨ds, hi, w⟩ := w
    cases d with
    | lst o xs =>
      have hi' : xs = ds := Option.some.inj hi
      subst hi'
      refine .inl ⟨NF, Γ, tr, se, ?_⟩
      rw [ed]
      show After _ _ _ _ _
      intro v H1 F s f r
      cases o with
      | true =>
        obtain ⟨a, vs, G, rfl, ha, fa, ga, gs, rv⟩ := r
        refine ⟨a, rfl, ⟨vs, SqL.of ha⟩, w _ H1 s fun NF' M t1 t2 t3 => itOk_list (F := F) ha (fun z => t1 a z (f a fa).1) ?_ (fun b z z' => t1 b z' (f b z).1) t3⟩
        cases hx : hasFs xs with
        | false => exact (Reps.noF' xs vs G hx rv).sub gs
        | true =>
          have hd : hasF (.lst true xs) = true := by simp [hasF, hx]
          exact Reps.mono (fun a _ nz z => nz (z.imp (t2 hd a) (fun z => z))) xs vs G F (fun _ _ q _ => q) gs rv
      | false =>
        obtain ⟨a, vs, rfl, ha, na, rv⟩ := r
        have hd : hasF (.lst false xs) = true := by simp [hasF]
        refine ⟨a, rfl, ⟨vs, SqL.of ha⟩, w _ H1 s fun NF' M t1 t2 t3 => itOk_list (F := F) ha (fun z => na (.inl (t2 hd a z))) (Reps.mono (fun a _ nz z => nz (z.imp (t2 hd a) (fun z => z))) xs vs none0 F (fun _ _ q _ => q) (fun _ z => z.elim) rv) (fun b z z' => t1 b z' (f b z).1) t3⟩
    | tup xs =>
      have hi' : xs = ds := Option.some.inj hi
      subst hi'
      refine .inr (.inl ⟨NF, Γ, tr, se, ?_⟩)
      rw [ed]
      show After _ _ _ _ _
      intro v H1 F s f r
      obtain ⟨a, vs, rfl, ha, rv⟩ := r.tupInv
      refine ⟨a, rfl, ⟨vs, SqT.of ha⟩, w _ H1 s fun NF' M t1 t2 t3 => itOk_tup (F := F) ha ?_ (fun b z z' => t1 b z' (f b z).1) t3⟩
      cases hx : hasFs xs with
      | false => exact Reps.noF' xs vs F hx rv
      | true =>
        have hd : hasF (.tup xs) = true := hx
        exact Reps.mono (fun a _ nz z => nz (z.imp (t2 hd a) (fun z => z))) xs vs F F (fun _ _ q _ => q) (fun _ z => z) rv
    | str x =>
      cases hi
      refine .inr (.inr ⟨NF, Γ, tr, se, ?_⟩)
      rw [ed]
      show After _ _ _ _ _
      intro v H1 F s f r
      obtain ⟨rfl, ok⟩ := r
      exact ⟨mkS x, rfl, w _ H1 s fun NF' M t1 t2 t3 => itOk_str ok⟩
    | non => cases hi
    | bl _ => cases hi
    | int _ => cases hi
    | dct _ _ _ => cases hi
    | scr _ => cases hi⟩
theorem si_range1 {tg a : Expr} {m : E} {p pos : Pos} (h : SE X C W a m) (hm : X.mg "range" = none) (hg : Gl X "range" := by rfl) (hs : starEach [a] X.env = [(false, eval a X.env)] := by rfl) (ht : starEach (a :: []) X.env = (false, eval a X.env) :: starEach [] X.env := by rfl) :
    SI X C W tg (.Call (.Name "range" p) [a] [] pos) (.p .range [m]) := ⟨PI.imp (pi_range1 hg hm (pa_cons h.pe pa_nil ht) hs) fun σ H R h => by
  obtain ⟨NF, Γ, tr, se, w⟩ := h
  refine ⟨NF, Γ, tr, se.mono same_refl (fun _ _ z => z) (fun i hi => List.mem_append_left _ hi), ?_⟩
  have w : (((ev C Γ m).bind fun d => (Rs.ok []).bind fun ds => .ok (d :: ds)).bind fun ds => Rs.of (pRange ds)).wp (fun d => ∃ ds, items d = some ds ∧ ∀ J H1, Same H H1 → Serves (gx X) H NF d ds J H1 → R J H1) (Out H W) := w
  cases ed : ev C Γ m with
  | bad => rw [ed] at w; exact w.elim
  | exc c => rw [ed] at w; exact w
  | ok d =>
    rw [ed] at w
    show After _ _ _ _ _
    intro v H1 F s f r
    have w : (Rs.of (pRange [d])).wp (fun d => ∃ ds, items d = some ds ∧ ∀ J H1, Same H H1 → Serves (gx X) H NF d ds J H1 → R J H1) (Out H W) := w
    obtain ⟨d2, e, w⟩ := Rs.wp_of w
    unfold pRange at e
    split at e
    · rename_i j he
      injection he with he1 _
      subst he1
      by_cases hl : -great ≤ j ∧ j < great
      · have e2 := (if_pos hl).symm.trans e
        obtain rfl := Option.some.inj e2
        have hgr : great = 2 ^ 62 := by decide
        rw [hgr] at hl
        obtain ⟨ds, hi, w⟩ := w
        cases hi
        exact ⟨j, by rw [show v = V.int j from r], hl.1, hl.2, w _ H1 s fun NF' M t1 t2 t3 => itOk_range⟩
      · have e2 := (if_neg hl).symm.trans e
        cases e2
    · rename_i he; cases he
    · cases e⟩
theorem evL_len (C : Cl) (Γ : En) : ∀ (ms : List E) (ds : List D), evL C Γ ms = .ok ds → ds.length = ms.length
  | [], ds, z => by cases z; rfl
  | m :: ms, ds, z => by
    have z : ((ev C Γ m).bind fun d => (evL C Γ ms).bind fun ds => .ok (d :: ds)) = .ok ds := z
    cases e1 : ev C Γ m with
    | ok d =>
      cases e2 : evL C Γ ms with
      | ok ds' =>
        rw [e1, e2] at z
        cases z
        rw [List.length_cons, List.length_cons, evL_len C Γ ms ds' e2]
      | exc c => rw [e1, e2] at z; cases z
      | bad => rw [e1, e2] at z; cases z
    | exc c => rw [e1] at z; cases z
    | bad => rw [e1] at z; cases z
theorem si_range2 {tg a b : Expr} {m n : E} {p pos : Pos} (h : SE X C W a m) (h2 : SE X C W b n) (hm : X.mg "range" = none) (hg : Gl X "range" := by rfl) (hs : starEach [a, b] X.env = [(false, eval a X.env), (false, eval b X.env)] := by rfl) (hs2 : starEach [b] X.env = [(false, eval b X.env)] := by rfl)
    (ht : starEach (a :: [b]) X.env = (false, eval a X.env) :: starEach [b] X.env := by rfl) (ht2 : starEach (b :: []) X.env = (false, eval b X.env) :: starEach [] X.env := by rfl) :
    SI X C W tg (.Call (.Name "range" p) [a, b] [] pos) (.p .range [m, n]) := ⟨PI.imp (pi_range2 hg hm (ses_cons h (ses_cons h2 ses_nil ht2) ht).pa hs hs2) fun σ H R h => by
  obtain ⟨NF, Γ, tr, se, w⟩ := h
  refine ⟨NF, Γ, tr, se, ?_⟩
  have w : ((evL C Γ [m, n]).bind fun ds => Rs.of (pRange ds)).wp (fun d => ∃ ds, items d = some ds ∧ ∀ J H1, Same H H1 → Serves (gx X) H NF d ds J H1 → R J H1) (Out H W) := w
  cases ed : evL C Γ [m, n] with
  | bad => rw [ed] at w; exact w.elim
  | exc c => rw [ed] at w; exact w
  | ok ds =>
    have hlen := evL_len C Γ _ _ ed
    rw [ed] at w
    show AfterL _ _ _ _ _
    intro vs H1 F s f r
    have w : (Rs.of (pRange ds)).wp (fun d => ∃ ds, items d = some ds ∧ ∀ J H1, Same H H1 → Serves (gx X) H NF d ds J H1 → R J H1) (Out H W) := w
    obtain ⟨d2, e, w⟩ := Rs.wp_of w
    match ds, hlen, e, r with
    | [x, y], _, e, r =>
      unfold pRange at e
      split at e
      · rename_i he; cases he
      · rename_i i j he
        injection he with he1 he2
        injection he2 with he2 _
        subst he1 he2
        by_cases hl : -great ≤ i ∧ i < great ∧ -great ≤ j ∧ j < great
        · have e2 := (if_pos hl).symm.trans e
          obtain rfl := Option.some.inj e2
          have hgr : great = 2 ^ 62 := by decide
          rw [hgr] at hl
          obtain ⟨ds, hi, w⟩ := w
          cases hi
          obtain ⟨v, u, F1, F2, e3, r1, r2, _⟩ := r.un2
          exact ⟨i, j, by rw [e3, show v = V.int i from r1, show u = V.int j from r2], hl, w _ H1 s fun NF' M t1 t2 t3 => itOk_range⟩
        · have e2 := (if_neg hl).symm.trans e
          cases e2
      · cases e⟩
theorem enumL_hasF : ∀ (ds : List D) (k : Nat), hasFs (enumL k ds) = hasFs ds
  | [], _ => rfl
  | x :: ds, k => by
    show ((false || (hasF x || false)) || hasFs (enumL (k + 1) ds)) = (hasF x || hasFs ds)
    rw [enumL_hasF ds (k + 1), Bool.false_or, Bool.or_false]
theorem si_enum {elts : List Expr} {kk : Nat} {tpos : Pos} {e : Expr} {m : E} {p pos : Pos} (h : SE X C W e m) (hm : X.mg "enumerate" = none) (hg : Gl X "enumerate" := by rfl) (hs : starEach [e] X.env = [(false, eval e X.env)] := by rfl) (ht : starEach (e :: []) X.env = (false, eval e X.env) :: starEach [] X.env := by rfl) :
    SI X C W (.Tuple elts kk tpos) (.Call (.Name "enumerate" p) [e] [] pos) (.p .enum [m]) := ⟨PI.imp (pi_enum hg hm (pa_cons h.pe pa_nil ht) hs) fun σ H R h => by
  obtain ⟨NF, Γ, tr, se, w⟩ := h
  refine ⟨NF, Γ, tr, se.mono same_refl (fun _ _ z => z) (fun i hi => List.mem_append_left _ hi), ?_⟩
  have w : (((ev C Γ m).bind fun d => (Rs.ok []).bind fun ds => .ok (d :: ds)).bind fun ds => Rs.of (pEnum ds)).wp (fun d => ∃ ds, items d = some ds ∧ ∀ J H1, Same H H1 → Serves (gx X) H NF d ds J H1 → R J H1) (Out H W) := w
  cases ed : ev C Γ m with
  | bad => rw [ed] at w; exact w.elim
  | exc c => rw [ed] at w; exact w
  | ok d =>
    rw [ed] at w
    show After _ _ _ _ _
    intro v H1 F s f r
    have w : (Rs.of (pEnum [d])).wp (fun d => ∃ ds, items d = some ds ∧ ∀ J H1, Same H H1 → Serves (gx X) H NF d ds J H1 → R J H1) (Out H W) := w
    obtain ⟨d2, e, w⟩ := Rs.wp_of w
    unfold pEnum at e
    split at e
    · rename_i o xs he
      injection he with he1 _
      subst he1
      cases e
      obtain ⟨ds, hi, w⟩ := w
      cases hi
      cases o with
      | true =>
        obtain ⟨a, vs, G, rfl, ha, fa, ga, gs, rv⟩ := r
        refine ⟨a, vs, rfl, SqL.of ha, w _ H1 s fun NF' M t1 t2 t3 => itOk_enum (F := F) ha (fun z => t1 a z (f a fa).1) ?_ (fun b z z' => t1 b z' (f b z).1) (by rw [enumL_flats] at t3; exact t3)⟩
        cases hx : hasFs xs with
        | false => exact (Reps.noF' xs vs G hx rv).sub gs
        | true =>
          have hd : hasF (.lst true (enumL 0 xs)) = true := by simp [hasF, enumL_hasF, hx]
          exact Reps.mono (fun a _ nz z => nz (z.imp (t2 hd a) (fun z => z))) xs vs G F (fun _ _ q _ => q) gs rv
      | false =>
        obtain ⟨a, vs, rfl, ha, na, rv⟩ := r
        have hd : hasF (.lst false (enumL 0 xs)) = true := by simp [hasF]
        exact ⟨a, vs, rfl, SqL.of ha, w _ H1 s fun NF' M t1 t2 t3 => itOk_enum (F := F) ha (fun z => na (.inl (t2 hd a z))) (Reps.mono (fun a _ nz z => nz (z.imp (t2 hd a) (fun z => z))) xs vs none0 F (fun _ _ q _ => q) (fun _ z => z.elim) rv) (fun b z z' => t1 b z' (f b z).1) (by rw [enumL_flats] at t3; exact t3)⟩
    · cases e⟩

/-! ### targets -/
def setS : L2.St → List Nat → List V → L2.St
  | σ, i :: is, x :: xs => setS (σ.set i (some x)) is xs
  | σ, _, _ => σ
def tG (one : Bool) (is : List Nat) : TG := fun v σ H Q => if one = true then ∃ i, is = [i] ∧ Q (σ.set i (some v)) H else ∃ a xs, v = .ref a ∧ (H a = some (.tup xs) ∨ H a = some (.lst xs)) ∧ xs.length = is.length ∧ Q (setS σ is xs) H
structure SG (X : Cx) (tg : Expr) (one : Bool) (is : List Nat) : Prop where
  pg : PG X tg (tG one is)
theorem PG.or {X : Cx} {tg : Expr} {t t' : TG} (h : PG X tg t) (h' : PG X tg t') : PG X tg (fun v σ H Q => t v σ H Q ∨ t' v σ H Q) := ⟨fun pins s σ H v u Q I r hw => hw.elim (h.run pins s σ H v u Q I r) (h'.run pins s σ H v u Q I r)⟩
theorem PG.imp {X : Cx} {tg : Expr} {t t' : TG} (h : PG X tg t) (i : ∀ v σ H Q, t' v σ H Q → t v σ H Q) : PG X tg t' := ⟨fun pins s σ H v u Q I r hw => h.run pins s σ H v u Q I r (i v σ H Q hw)⟩
theorem sg_name (hN : X.N.Nodup) {i : Nat} {x : Str} {pos : Pos} (hi : X.N[i]? = some x := by rfl) (hx : Loc X.env.scope x := by first | exact Or.inl rfl | exact Or.inr rfl) (hf : X.fn x = true ∨ X.env.scope.names.lookup x = some .local := by first | exact .inl rfl | exact .inr rfl) : SG X (.Name x pos) true [i] :=
  ⟨PG.imp (pg_name hN hi hx hf) fun v σ H Q h => by
    obtain ⟨j, e, q⟩ := h
    cases e
    exact q⟩
theorem sg_two (hc : X.calm = true) (hN : X.N.Nodup) {i j : Nat} {x y : Str} {px py pos : Pos} {k : Nat} (hi : X.N[i]? = some x := by rfl) (hj : X.N[j]? = some y := by rfl) (hx : Loc X.env.scope x := by first | exact Or.inl rfl | exact Or.inr rfl) (hy : Loc X.env.scope y := by first | exact Or.inl rfl | exact Or.inr rfl)
    (hf : X.fn x = true ∨ X.env.scope.names.lookup x = some .local := by first | exact .inl rfl | exact .inr rfl) (hf2 : X.fn y = true ∨ X.env.scope.names.lookup y = some .local := by first | exact .inl rfl | exact .inr rfl)
    (h1 : (assignEach [.Name x px, .Name y py] X.env).map (·.2) = assign (.Name x px) X.env :: (assignEach [.Name y py] X.env).map (·.2) := by rfl) (h2 : (assignEach [.Name y py] X.env).map (·.2) = assign (.Name y py) X.env :: (assignEach [] X.env).map (·.2) := by rfl)
    (hn : (assignEach [.Name x px, .Name y py] X.env).length = 2 := by rfl) (hst : (assignEach [.Name x px, .Name y py] X.env).findIdx? (·.1) = none := by rfl) : SG X (.Tuple [.Name x px, .Name y py] k pos) false [i, j] :=
  ⟨PG.imp (PG.or (pg_tup hc (pgs_cons (pg_name hN hi hx hf) (pgs_cons (pg_name hN hj hy hf2) pgs_nil h2) h1) hn hst) (pg_unl hc (pgs_cons (pg_name hN hi hx hf) (pgs_cons (pg_name hN hj hy hf2) pgs_nil h2) h1) hn hst)) fun v σ H Q h => by
    obtain ⟨a, xs, e, ha, hl, q⟩ := h
    match xs, hl, q, ha with
    | [x, y], _, q, .inl ha => exact .inl ⟨a, [x, y], e, SqT.of ha, rfl, x, [y], rfl, y, [], rfl, rfl, q⟩
    | [x, y], _, q, .inr ha => exact .inr ⟨a, [x, y], e, SqL.of ha, rfl, x, [y], rfl, y, [], rfl, rfl, q⟩⟩
end
end RW

namespace RW
open PySem L2 PySem.Spec PyProof.Rows

/-! ## 11. comprehensions -/
theorem wipeE_length (Γ : En) : ∀ vs : List Nat, (wipeE Γ vs).length = Γ.length
  | [] => rfl
  | v :: vs => by unfold wipeE; rw [List.length_set, wipeE_length Γ vs]
theorem wipeE_some {Γ : En} {i : Nat} {x : D} : ∀ {vs : List Nat}, (wipeE Γ vs)[i]? = some (some x) → Γ[i]? = some (some x) ∧ i ∉ vs
  | [], h => ⟨h, by simp⟩
  | v :: vs, h => by
    unfold wipeE at h
    by_cases hi : v = i
    · subst hi
      rw [List.getElem?_set] at h
      split at h
      · split at h <;> cases h
      · rename_i hne; exact absurd rfl hne
    · rw [List.getElem?_set_ne hi] at h
      obtain ⟨h1, h2⟩ := wipeE_some h
      exact ⟨h1, fun m => (List.mem_cons.mp m).elim (fun e => hi e.symm) h2⟩
theorem wipe_in {σ : L2.St} {i : Nat} : ∀ {vs : List Nat}, i ∈ vs → i < σ.length → (wipe σ vs)[i]? = some none
  | v :: vs, h, hl => by
    unfold wipe
    by_cases hv : v = i
    · subst hv
      rw [List.getElem?_set_self (by rw [wipe_length]; exact hl)]
    · rw [List.getElem?_set_ne hv]
      exact wipe_in ((List.mem_cons.mp h).resolve_left (fun e => hv e.symm)) hl
theorem wipe_set {σ : L2.St} {i : Nat} {x : Option V} {vs : List Nat} (h : i ∈ vs) : wipe (σ.set i x) vs = wipe σ vs := by
  refine List.ext_getElem? fun j => ?_
  by_cases hj : j ∈ vs
  · by_cases hl : j < σ.length
    · rw [wipe_in hj hl, wipe_in hj (by rw [List.length_set]; exact hl)]
    · rw [List.getElem?_eq_none (by rw [wipe_length, List.length_set]; omega), List.getElem?_eq_none (by rw [wipe_length]; omega)]
  · have hij : i ≠ j := fun e => hj (e ▸ h)
    rw [wipe_out hj, wipe_out hj, List.getElem?_set_ne hij]
theorem wipe_wipe {σ : L2.St} {vs : List Nat} : wipe (wipe σ vs) vs = wipe σ vs := by
  refine List.ext_getElem? fun j => ?_
  by_cases hj : j ∈ vs
  · by_cases hl : j < σ.length
    · rw [wipe_in hj hl, wipe_in hj (by rw [wipe_length]; exact hl)]
    · rw [List.getElem?_eq_none (by rw [wipe_length, wipe_length]; omega), List.getElem?_eq_none (by rw [wipe_length]; omega)]
  · rw [wipe_out hj, wipe_out hj]
theorem setS_wipe : ∀ (is : List Nat) (xs : List V) (σ : L2.St) (vs : List Nat), (∀ i ∈ is, i ∈ vs) → wipe (setS σ is xs) vs = wipe σ vs
  | [], xs, _, _, _ => by cases xs <;> rfl
  | i :: is, [], _, _, _ => rfl
  | i :: is, x :: xs, σ, vs, h => by
    show wipe (setS (σ.set i (some x)) is xs) vs = _
    rw [setS_wipe is xs _ vs (fun j hj => h j (List.mem_cons_of_mem _ hj)), wipe_set (h i List.mem_cons_self)]
/-- slots that are seen whatever their number -/
def SeeA (g : Gb) (H : Hp) (NF : Addr → Prop) (σ : L2.St) (Γ : En) (P : Nat → Prop) : Prop := Γ.length ≤ σ.length ∧ ∀ i, P i → ∀ d, Γ[i]? = some (some d) → ∃ v, σ[i]? = some (some v) ∧ Rep g H NF (fz d) v none0
section
variable {g : Gb} {H : Hp} {NF : Addr → Prop}
mutual
theorem fz_fz : ∀ d : D, fz (fz d) = fz d
  | .tup xs => by simp only [fz]; rw [fzs_fzs xs]
  | .lst _ xs => by simp only [fz]; rw [fzs_fzs xs]
  | .dct _ ks vs => by simp only [fz]; rw [fzs_fzs vs]
  | .non => rfl | .bl _ => rfl | .int _ => rfl | .str _ => rfl | .scr _ => rfl
theorem fzs_fzs : ∀ ds : List D, fzs (fzs ds) = fzs ds
  | [] => rfl
  | d :: ds => by simp only [fzs]; rw [fz_fz d, fzs_fzs ds]
end
theorem SeeA.set {σ : L2.St} {Γ : En} {P : Nat → Prop} (h : SeeA g H NF σ Γ P) (i : Nat) {d : D} {v : V} (r : Rep g H NF d v none0) (hf : fz d = d) : SeeA g H NF (σ.set i (some v)) (Γ.set i (some d)) P := by
  refine ⟨by rw [List.length_set, List.length_set]; exact h.1, fun j hj d' e => ?_⟩
  rw [List.getElem?_set] at e ⊢
  by_cases hij : i = j
  · subst hij
    simp only [if_true] at e ⊢
    split at e
    · cases e
      rename_i hl
      rw [if_pos (Nat.lt_of_lt_of_le hl h.1)]
      exact ⟨v, rfl, by rw [hf]; exact r⟩
    · cases e
  · rw [if_neg hij] at e ⊢
    exact h.2 j hj d' e
theorem SeeA.setAll : ∀ (is : List Nat) (ds : List D) (vs : List V) {σ : L2.St} {Γ : En} {P : Nat → Prop}, SeeA g H NF σ Γ P → Reps g H NF ds vs none0 → fzs ds = ds → SeeA g H NF (setS σ is vs) (setE Γ is ds) P
  | [], ds, vs, _, _, _, h, _, _ => by
    have e1 : ∀ σ : L2.St, setS σ [] vs = σ := fun σ => by cases vs <;> rfl
    have e2 : ∀ Γ : En, setE Γ [] ds = Γ := fun Γ => by cases ds <;> rfl
    rw [e1, e2]; exact h
  | i :: is, [], vs, _, _, _, h, r, _ => by have r : vs = [] := r; subst r; exact h
  | i :: is, d :: ds, vs, _, _, _, h, ⟨v, u, F1, F2, e, x1, x2, s1, s2, _⟩, hf => by
    subst e
    have hf' : fz d :: fzs ds = d :: ds := hf
    injection hf' with h1 h2
    exact SeeA.setAll is ds u (h.set i (x1.sub s1) h1) (x2.sub s2) h2
end
section
variable {X : Cx} {C : Cl} {W : Str → Hp → Prop}
def WF : Str → Hp → Prop := fun _ _ => False
structure STs (X : Cx) (C : Cl) (W : Str → Hp → Prop) (ifs : List Expr) (m : E) : Prop where
  pts : PTs X ifs (tT (gx X) C W m)
theorem sts_none : STs X C W [] (.c (.bl true)) := ⟨⟨fun pins s σ H Q I h => pts_nil.run pins s σ H Q I (by
  obtain ⟨NF, Γ, tr, se, w⟩ := h
  exact w H same_refl)⟩⟩
theorem sts_one {c : Expr} {m : E} (h : ST X C W c m) : STs X C W [c] m := ⟨pts_one h.pt⟩
theorem lc_ok {own : List (Str × Nat)} {me mi mc : E} {one : Bool} {is : List Nat} {σ : L2.St} {H : Hp} {Q : VK} (hown : ∀ i ∈ is, i ∈ own.map (·.2)) (h : tE (gx X) C W (.lc me one is (own.map (·.2)) mi mc) σ H Q) :
    tLc (tI (gx X) C W mi) (tG one is) (tT (gx X) C WF mc) (tE (gx X) C WF me) (own.map (·.2)) σ H Q := by
  obtain ⟨NF, Γ, tr, se, w⟩ := h
  refine ⟨NF, Γ, tr, se.mono same_refl (fun _ _ z => z) (fun i hi => List.mem_append_left _ hi), ?_⟩
  -- what one item gives
  obtain ⟨f, hf⟩ : ∃ f, f = fun x => (bindT one is (fz x) (wipeE Γ (own.map (·.2)))).bind fun Γ' => (ev C Γ' mc).bind fun z => (asB z).bind fun k => if k then (ev C Γ' me).bind fun y => Rs.ok (some y) else .ok none := ⟨_, rfl⟩
  have w : ((ev C Γ mi).bind fun d => (Rs.of (items d)).bind fun xs => (noX (lcGo f xs)).bind fun ys => if ys.length ≤ lim then Rs.ok (D.lst true ys) else .bad).wp (After (gx X) H NF Q) (Out H W) := by rw [hf]; exact w
  cases ed : ev C Γ mi with
  | bad => rw [ed] at w; exact w.elim
  | exc c => rw [ed] at w; exact w
  | ok d =>
  rw [ed] at w
  have w : ((Rs.of (items d)).bind fun xs => (noX (lcGo f xs)).bind fun ys => if ys.length ≤ lim then Rs.ok (D.lst true ys) else .bad).wp (After (gx X) H NF Q) (Out H W) := w
  cases eit : items d with
  | none => rw [eit] at w; exact w.elim
  | some xs =>
  rw [eit] at w
  have w := noX_wp (Rs.wp_bind (r := noX (lcGo f xs)) w)
  refine ⟨xs, eit, ?_⟩
  intro J H1 s io D hD
  have io := io NF NF tr (fun _ _ z => z) (.inr fun _ z => z)
  -- the invariant
  obtain ⟨Wv, hW⟩ : ∃ Wv : Nat → Hp → Prop, Wv = fun i H2 => ∃ ys vs F, H2 D = some (.lst vs) ∧ Reps (gx X) H2 (fun a => NF a ∨ a = D ∨ F a) ys vs F ∧ (∀ a, F a → a ≠ D ∧ H1 a = none ∧ H2 a ≠ none) ∧ (∀ a o, H1 a = some o → H2 a = some o) ∧
    (lcGo f (xs.drop i)).wp (fun rest => (ys ++ rest).length ≤ lim ∧ After (gx X) H NF Q (.lst true (ys ++ rest))) (fun _ => False) := ⟨_, rfl⟩
  refine ⟨fun i m H2 => m = xs.length - i ∧ i ≤ xs.length ∧ Wv i H2, ⟨xs.length, by simp, Nat.zero_le _, ?_⟩, ?_⟩
  · rw [hW]
    refine ⟨[], [], none0, upd_same, rfl, fun a z => z.elim, fun a o e => by rw [upd_ne (ne_of_none e hD)]; exact e, ?_⟩
    rw [List.drop_zero]
    refine Rs.wp_mono w (fun ys z => ?_) fun _ z => z
    rw [List.nil_append]
    split at z
    · rename_i hl; exact ⟨hl, z⟩
    · exact z.elim
  rintro i m H2 ⟨rfl, hle, wv⟩
  rw [hW] at wv
  obtain ⟨ys, vs, F, hD2, rys, fF, kp, wr⟩ := wv
  have trN : ∀ a, (fun a => NF a ∨ a = D ∨ F a) a → H2 a ≠ none := fun a z => by
    rcases z with z | z | z
    · have h1 := tr_same s tr a z
      cases e : H1 a with
      | none => exact absurd e h1
      | some o => rw [kp a o e]; simp
    · subst z; rw [hD2]; simp
    · exact (fF a z).2.2
  have io2 := io i H2 (fun a => NF a ∨ a = D ∨ F a) (fun a o e _ => kp a o e) (fun a h n z => by
    rcases z with z | z | z
    · exact n z
    · exact h (z ▸ hD)
    · exact h (fF a z).2.1) trN
  by_cases hlt : i < xs.length
  · have hx : xs[i]? = some xs[i] := by simp [hlt]
    obtain ⟨go, yl⟩ := io2.1 _ hx
    refine .inr ⟨go, Wv (i + 1), fun H' p' => ⟨xs.length - (i + 1), by omega, rfl, hlt, p'⟩, fun x H' y => ?_⟩
    obtain ⟨s2, rx⟩ := yl x H' y
    rw [List.drop_eq_getElem_cons hlt] at wr
    have wr : ((f xs[i]).bind fun o => (lcGo f (xs.drop (i + 1))).bind fun r => Rs.ok (match o with | some d => d :: r | none => r)).wp (fun rest => (ys ++ rest).length ≤ lim ∧ After (gx X) H NF Q (.lst true (ys ++ rest))) (fun _ => False) := wr
    have wr := Rs.wp_bind wr
    -- the block's slots
    have see0 : SeeA (gx X) H' (fun a => NF a ∨ a = D ∨ F a) (wipe σ (own.map (·.2))) (wipeE Γ (own.map (·.2))) (fun i => i ∈ vars me ∨ i ∈ vars mc) := by
      refine ⟨by rw [wipe_length, wipeE_length]; exact se.1, fun j hj d' e => ?_⟩
      obtain ⟨e1, e2⟩ := wipeE_some e
      obtain ⟨v, h1, h2⟩ := se.2 j (by
        show j ∈ vars mi ++ (vars me ++ vars mc)
        rcases hj with hj | hj
        · exact List.mem_append_right _ (List.mem_append_left _ hj)
        · exact List.mem_append_right _ (List.mem_append_right _ hj)) d' e1
      refine ⟨v, by rw [wipe_out e2]; exact h1, Rep.mono (fun a h n z => ?_) _ _ _ _ (fun b o q _ => s2 b o (kp b o (s b o q))) (fun _ q => q) h2⟩
      rcases z with z | z | z
      · exact n z
      · subst z
        cases e : H a with
        | none => exact h e
        | some o => rw [s a o e] at hD; cases hD
      · cases e : H a with
        | none => exact h e
        | some o => have := (fF a z).2.1; rw [s a o e] at this; cases this
    have trN' : ∀ a, (fun a => NF a ∨ a = D ∨ F a) a → H' a ≠ none := tr_same (NF := fun a => NF a ∨ a = D ∨ F a) s2 trN
    -- behind the target
    have body : ∀ (Γ' : En) (σ2 : L2.St), SeeA (gx X) H' (fun a => NF a ∨ a = D ∨ F a) σ2 Γ' (fun i => i ∈ vars me ∨ i ∈ vars mc) → wipe σ2 (own.map (·.2)) = wipe σ (own.map (·.2)) →
        ((ev C Γ' mc).bind fun z => (asB z).bind fun k => if k then (ev C Γ' me).bind fun y => Rs.ok (some y) else .ok none).wp (fun o => ((lcGo f (xs.drop (i + 1))).bind fun r => Rs.ok (match o with | some d => d :: r | none => r)).wp (fun rest => (ys ++ rest).length ≤ lim ∧ After (gx X) H NF Q (.lst true (ys ++ rest))) (fun _ => False)) (fun _ => False) →
        (wipe σ2 (own.map (·.2)) = wipe σ (own.map (·.2)) ∧ tT (gx X) C WF mc σ2 H' fun b H3 => if b = true then tE (gx X) C WF me σ2 H3 fun y H4 => ∃ acc, H4 D = some (.lst acc) ∧ acc.length < sizeLine ∧ Wv (i + 1) (upd H4 D (.lst (acc ++ [y]))) else Wv (i + 1) H3) := by
      intro Γ' σ2 sA hwp wb
      refine ⟨hwp, fun a => NF a ∨ a = D ∨ F a, Γ', trN', ⟨sA.1, fun j hj => sA.2 j (.inr hj)⟩, ?_⟩
      cases ec : ev C Γ' mc with
      | bad => rw [ec] at wb; exact wb.elim
      | exc c => rw [ec] at wb; exact wb.elim
      | ok z =>
      rw [ec] at wb
      have wb : ((asB z).bind fun k => if k then (ev C Γ' me).bind fun y => Rs.ok (some y) else .ok none).wp (fun o => ((lcGo f (xs.drop (i + 1))).bind fun r => Rs.ok (match o with | some d => d :: r | none => r)).wp (fun rest => (ys ++ rest).length ≤ lim ∧ After (gx X) H NF Q (.lst true (ys ++ rest))) (fun _ => False)) (fun _ => False) := wb
      obtain ⟨k, rfl, wb⟩ := asB_wp (Rs.wp_bind wb)
      show ∀ H3, Same H' H3 → _
      intro H3 s3
      have kp3 : ∀ a o, H1 a = some o → H3 a = some o := fun a o e => s3 a o (s2 a o (kp a o e))
      have hD3 : H3 D = some (.lst vs) := s3 _ _ (s2 _ _ hD2)
      have rys3 : Reps (gx X) H3 (fun a => NF a ∨ a = D ∨ F a) ys vs F := Reps.mono (fun _ _ z => z) ys vs F F (fun b o q _ => s3 b o (s2 b o q)) (fun _ z => z) rys
      have fF3 : ∀ a, F a → a ≠ D ∧ H1 a = none ∧ H3 a ≠ none := fun a z => ⟨(fF a z).1, (fF a z).2.1, tr_same (NF := fun a => H2 a ≠ none) (s2.trans s3) (fun _ z => z) a (fF a z).2.2⟩
      cases k with
      | false =>
        rw [if_neg Bool.false_ne_true]
        have wb : ((lcGo f (xs.drop (i + 1))).bind fun r => Rs.ok r).wp (fun rest => (ys ++ rest).length ≤ lim ∧ After (gx X) H NF Q (.lst true (ys ++ rest))) (fun _ => False) := wb
        rw [hW]
        exact ⟨ys, vs, F, hD3, rys3, fF3, kp3, Rs.wp_bind wb⟩
      | true =>
        rw [if_pos rfl]
        have wb : ((ev C Γ' me).bind fun y => Rs.ok (some y)).wp (fun o => ((lcGo f (xs.drop (i + 1))).bind fun r => Rs.ok (match o with | some d => d :: r | none => r)).wp (fun rest => (ys ++ rest).length ≤ lim ∧ After (gx X) H NF Q (.lst true (ys ++ rest))) (fun _ => False)) (fun _ => False) := wb
        have trN3 : ∀ a, (fun a => NF a ∨ a = D ∨ F a) a → H3 a ≠ none := tr_same (NF := fun a => NF a ∨ a = D ∨ F a) s3 trN'
        refine ⟨fun a => NF a ∨ a = D ∨ F a, Γ', trN3, ⟨sA.1, fun j hj d' e => ?_⟩, Rs.wp_mono (Rs.wp_bind wb) (fun y wy v H4 F4 s4 f4 r4 => ?_) fun _ z => z.elim⟩
        · obtain ⟨v, h1, h2⟩ := sA.2 j (.inl hj) d' e
          exact ⟨v, h1, Rep.mono (fun _ _ z => z) _ _ _ _ (fun b o q _ => s3 b o q) (fun _ z => z) h2⟩
        have wy : ((lcGo f (xs.drop (i + 1))).bind fun r => Rs.ok (y :: r)).wp (fun rest => (ys ++ rest).length ≤ lim ∧ After (gx X) H NF Q (.lst true (ys ++ rest))) (fun _ => False) := wy
        have wy := Rs.wp_bind wy
        have hlen : vs.length < sizeLine := by
          rw [rys.length, ← lim_eq]
          cases er : lcGo f (xs.drop (i + 1)) with
          | bad => rw [er] at wy; exact wy.elim
          | exc c => rw [er] at wy; exact wy.elim
          | ok r =>
            rw [er] at wy
            have := wy.1
            rw [List.length_append, List.length_cons] at this
            omega
        refine ⟨vs, s4 _ _ hD3, hlen, ?_⟩
        rw [hW]
        have hDne : ∀ a, F4 a → a ≠ D := fun a z e => by
          have := (f4 a z).1
          rw [e, hD3] at this; cases this
        refine ⟨ys ++ [y], vs ++ [v], fun a => F a ∨ F4 a, upd_same, ?_, fun a z => ?_, fun a o e => ?_, ?_⟩
        · refine Reps.append (F1 := F) (F2 := F4) ?_ (Reps.one ?_) (fun a => .inl) (fun a => .inr) (fun a z z' => trN3 a (.inr (.inr z)) (f4 a z').1)
          · refine Reps.mono (fun a h n z => ?_) ys vs F F (fun b o q z => ?_) (fun _ z => z) rys3
            · rcases z with z | z | z | z
              · exact n (.inl z)
              · exact n (.inr (.inl z))
              · exact n (.inr (.inr z))
              · exact h (f4 a z).1
            · have hb : b ≠ D := fun e => by
                subst e
                rcases z with z | z | z
                · exact z (.inr (.inl rfl))
                · exact (fF b z).1 rfl
                · obtain ⟨_, rfl⟩ := z; rw [hD3] at q; cases q
              rw [upd_ne hb]; exact s4 b o q
          · refine Rep.mono (fun a h n z => ?_) y v F4 F4 (fun b o q z => ?_) (fun _ z => z) r4
            · rcases z with z | z | z | z
              · exact n (.inl (.inl z))
              · exact n (.inl (.inr (.inl z)))
              · exact n (.inl (.inr (.inr z)))
              · exact n (.inr z)
            · have hb : b ≠ D := fun e => by
                subst e
                rcases z with z | z | z
                · exact z (.inl (.inr (.inl rfl)))
                · exact hDne b z rfl
                · obtain ⟨_, rfl⟩ := z; rw [s4 _ _ hD3] at q; cases q
              rw [upd_ne hb]; exact q
        · rcases z with z | z
          · refine ⟨(fF a z).1, (fF a z).2.1, ?_⟩
            rw [upd_ne (fF a z).1]
            exact tr_same (NF := fun a => H3 a ≠ none) s4 (fun _ z => z) a (fF3 a z).2.2
          · refine ⟨hDne a z, ?_, ?_⟩
            · cases e : H1 a with
              | none => rfl
              | some o => have := (f4 a z).1; rw [kp3 a o e] at this; cases this
            · rw [upd_ne (hDne a z)]; exact (f4 a z).2
        · rw [upd_ne (ne_of_none e hD)]
          exact s4 a o (kp3 a o e)
        · refine Rs.wp_mono wy (fun r z => ?_) fun _ z => z
          have z : (ys ++ y :: r).length ≤ lim ∧ After (gx X) H NF Q (.lst true (ys ++ y :: r)) := z
          rw [List.append_assoc]
          exact z
    rw [hf] at wr
    have wr := Rs.wp_bind wr
    cases eb : bindT one is (fz xs[i]) (wipeE Γ (own.map (·.2))) with
    | bad => rw [eb] at wr; exact wr.elim
    | exc c => rw [eb] at wr; exact wr.elim
    | ok Γ' =>
      rw [eb] at wr
      rw [← hf] at wr
      unfold bindT at eb
      cases one with
      | true =>
        rw [if_pos rfl] at eb
        split at eb
        · rename_i j
          cases eb
          show ∃ i', [j] = [i'] ∧ _
          exact ⟨j, rfl, body _ _ (see0.set j rx (fz_fz _)) (by rw [wipe_set (hown j (List.mem_singleton.mpr rfl)), wipe_wipe]) wr⟩
        · cases eb
      | false =>
        rw [if_neg Bool.false_ne_true] at eb
        split at eb
        · rename_i ds hz
          rw [hz] at rx
          by_cases hl : ds.length = is.length
          · rw [if_pos hl] at eb
            cases eb
            obtain ⟨a, us, rfl, ha, ru⟩ := rx.tupInv
            have hfs : fzs ds = ds := by
              have := fz_fz xs[i]
              rw [hz] at this
              simp only [fz] at this
              injection this
            show ∃ a xs, _
            exact ⟨a, us, rfl, .inl ha, by rw [ru.length, hl], body _ _ (SeeA.setAll is ds us see0 ru hfs) (by rw [setS_wipe is us _ _ hown, wipe_wipe]) wr⟩
          · rw [if_neg hl] at eb; cases eb
        · rename_i ds hz
          rw [hz] at rx
          by_cases hl : ds.length = is.length
          · rw [if_pos hl] at eb
            cases eb
            obtain ⟨a, us, rfl, ha, na, ru⟩ := rx
            have hfs : fzs ds = ds := by
              have := fz_fz xs[i]
              rw [hz] at this
              simp only [fz] at this
              injection this
            show ∃ a xs, _
            exact ⟨a, us, rfl, .inr ha, by rw [ru.length, hl], body _ _ (SeeA.setAll is ds us see0 ru hfs) (by rw [setS_wipe is us _ _ hown, wipe_wipe]) wr⟩
          · rw [if_neg hl] at eb; cases eb
        · cases eb
  · have e : i = xs.length := by omega
    subst e
    refine .inl ⟨io2.2 (Nat.le_refl _), ?_⟩
    rw [List.drop_length] at wr
    have wr : (ys ++ []).length ≤ lim ∧ After (gx X) H NF Q (.lst true (ys ++ [])) := wr
    rw [List.append_nil] at wr
    refine wr.2 (.ref D) H2 (fun a => a = D ∨ F a) (fun a o e => kp a o (s a o e)) (fun a z => ?_) ⟨D, vs, F, rfl, hD2, .inl rfl, fun z => (fF D z).1 rfl, fun _ => .inr, rys⟩
    rcases z with z | z
    · subst z
      refine ⟨?_, by rw [hD2]; simp⟩
      cases e : H a with
      | none => rfl
      | some o => rw [s a o e] at hD; cases hD
    · refine ⟨?_, (fF a z).2.2⟩
      cases e : H a with
      | none => rfl
      | some o => have := (fF a z).2.1; rw [s a o e] at this; cases this
theorem se_lc {elt tg iter : Expr} {ifs : List Expr} {scope : Scope} {own : List (Str × Nat)} {pos : Pos} {me mi mc : E} {one : Bool} {is : List Nat} (hc : X.calm = true) (hN : X.N.Nodup) (hi : SI X C W tg iter mi) (ok : BlkOk X.N X.env.scope scope own) (hown : ∀ i ∈ is, i ∈ own.map (·.2))
    (hg : ∀ (s : Shared) (H : Hp) (Cc : Addr) (cl : List (Str × Addr)) (fp : List Addr), SG (X.blk s H scope (compEnvC scope cl Cc X.env) fp) tg one is)
    (ht : ∀ (s : Shared) (H : Hp) (Cc : Addr) (cl : List (Str × Addr)) (fp : List Addr), STs (X.blk s H scope (compEnvC scope cl Cc X.env) fp) C WF ifs mc)
    (he : ∀ (s : Shared) (H : Hp) (Cc : Addr) (cl : List (Str × Addr)) (fp : List Addr), SE (X.blk s H scope (compEnvC scope cl Cc X.env) fp) C WF elt me) (hs : ∀ x, foldedSetIterable iter X.env x = pure x := by intro _; rfl) :
    SE X C W (.ListComp elt [⟨tg, iter, ifs, 0⟩] scope pos) (.lc me one is (own.map (·.2)) mi mc) := by
  refine ⟨PE.imp (pe_lc (own := own) (g := tG one is) (tt := tT (gx X) C WF mc) (te := tE (gx X) C WF me) hc hN hi.pi ok (fun s H Cc cl fp => (hg s H Cc cl fp).pg) (fun s H Cc cl fp => (ht s H Cc cl fp).pts) (fun s H Cc cl fp => (he s H Cc cl fp).pe) hs) fun σ H Q h => lc_ok hown h⟩
end
end RW

namespace RW
open PySem L2 PySem.Spec PyProof.Rows

/-! ## 12. slots that are owned -/
abbrev U (Fs : Nat → Addr → Prop) : Addr → Prop := fun a => ∃ i, Fs i a
/-- the slots σ hold Γ; slot i owns Fs i; N: what others own -/
structure EnvO (g : Gb) (H : Hp) (N : Addr → Prop) (σ : L2.St) (Γ : En) (Fs : Nat → Addr → Prop) : Prop where
  len : Γ.length ≤ σ.length
  rep : ∀ i d, Γ[i]? = some (some d) → ∃ v, σ[i]? = some (some v) ∧ Rep g H (or2 N (U Fs)) d v (Fs i)
  dj : ∀ i j a, Fs i a → Fs j a → i = j
  own : ∀ i a, Fs i a → ¬ N a ∧ H a ≠ none
  tr : ∀ a, N a → H a ≠ none
/-- a step: what A owns may change; B is what is owned afterwards -/
structure Stp (H H' : Hp) (A B : Addr → Prop) : Prop where
  kp : Kept H H' A
  fr : ∀ a, B a → A a ∨ H a = none
  tk : ∀ a, B a → H' a ≠ none
theorem Stp.refl {H : Hp} {A B : Addr → Prop} (h : ∀ a, B a → A a) (t : ∀ a, B a → H a ≠ none) : Stp H H A B := ⟨fun _ _ e _ => e, fun a z => .inl (h a z), t⟩
theorem Stp.trans {H H1 H2 : Hp} {A B B' C : Addr → Prop} (x : Stp H H1 A B) (y : Stp H1 H2 B' C) (h : ∀ a, B' a → B a) : Stp H H2 A C := by
  refine ⟨fun a o e z => ?_, fun a z => ?_, y.tk⟩
  · refine y.kp a o (x.kp a o e z) ?_
    rcases z with z | z
    · refine .inl fun b => ?_
      rcases x.fr a (h a b) with q | q
      · exact z q
      · rw [q] at e; cases e
    · exact .inr z
  · rcases y.fr a z with q | q
    · exact x.fr a (h a q)
    · cases e : H a with
      | none => exact .inr rfl
      | some o =>
        by_cases ha : A a
        · exact .inl ha
        · have := x.kp a o e (.inl ha)
          rw [this] at q; cases q
theorem Stp.sub {H H1 : Hp} {A B B' : Addr → Prop} (x : Stp H H1 A B) (h : ∀ a, B' a → B a) : Stp H H1 A B' := ⟨x.kp, fun a z => x.fr a (h a z), fun a z => x.tk a (h a z)⟩
section
variable {g : Gb} {H H' : Hp} {N N' : Addr → Prop} {σ : L2.St} {Γ : En} {Fs : Nat → Addr → Prop}
theorem Kept.tracked {A : Addr → Prop} (k : Kept H H' A) {a : Addr} (h : H a ≠ none) (n : ¬ A a) : H' a ≠ none := by
  cases e : H a with
  | none => exact absurd e h
  | some o => rw [k a o e (.inl n)]; simp
theorem EnvO.same (E : EnvO g H N σ Γ Fs) (s : Same H H') (n : ∀ a, N' a → H' a ≠ none) (h : ∀ a, N' a → N a ∨ H a = none) : EnvO g H' N' σ Γ Fs := by
  refine ⟨E.len, fun i d e => ?_, E.dj, fun i a z => ⟨fun q => ?_, tr_same s (NF := fun a => H a ≠ none) (fun _ z => z) a (E.own i a z).2⟩, n⟩
  · obtain ⟨v, h1, h2⟩ := E.rep i d e
    refine ⟨v, h1, Rep.mono (fun a q nz z => ?_) _ _ _ _ (fun b o q _ => s b o q) (fun _ z => z) h2⟩
    rcases z with z | z
    · rcases h a z with z | z
      · exact nz (.inl z)
      · exact q z
    · exact nz (.inr z)
  · rcases h a q with q | q
    · exact (E.own i a z).1 q
    · exact (E.own i a z).2 q
theorem EnvO.n (E : EnvO g H N σ Γ Fs) (h : ∀ a, N' a ↔ N a) : EnvO g H N' σ Γ Fs := E.same same_refl (fun a z => E.tr a ((h a).mp z)) fun a z => .inl ((h a).mp z)
/-- what is seen of owned slots while nothing of them is changed -/
theorem EnvO.see (E : EnvO g H N σ Γ Fs) (is : List Nat) : See g H N σ Γ is := ⟨E.len, fun i _ d e => by
  obtain ⟨v, h1, h2⟩ := E.rep i d e
  exact ⟨v, h1, Rep.fz (fun a q nz z => nz (.inl z)) _ _ _ (fun a z => (E.own i a z).1) h2⟩⟩
end
theorem frzGo_get (vs : List Nat) : ∀ (Γ : En) (k i : Nat), (frzGo vs k Γ)[i]? = (Γ[i]?).map fun o => if vs.contains (k + i) then o.map fz else o
  | [], _, _ => by simp [frzGo]
  | o :: r, k, 0 => by simp [frzGo]
  | o :: r, k, i + 1 => by
    show (frzGo vs (k + 1) r)[i]? = _
    rw [frzGo_get vs r (k + 1) i]
    have e : k + 1 + i = k + (i + 1) := by omega
    rw [e]; rfl
theorem frzGo_length (vs : List Nat) : ∀ (Γ : En) (k : Nat), (frzGo vs k Γ).length = Γ.length
  | [], _ => rfl
  | o :: r, k => by show (frzGo vs (k + 1) r).length + 1 = r.length + 1; rw [frzGo_length vs r (k + 1)]
/-- the slots vs are shared from now on -/
theorem EnvO.frz {g : Gb} {H : Hp} {N : Addr → Prop} {σ : L2.St} {Γ : En} {Fs : Nat → Addr → Prop} (E : EnvO g H N σ Γ Fs) (vs : List Nat) : EnvO g H N σ (frzE vs Γ) (fun i a => ¬ i ∈ vs ∧ Fs i a) := by
  have n : ∀ a, H a ≠ none → ¬ or2 N (U Fs) a → ¬ or2 N (U fun i a => ¬ i ∈ vs ∧ Fs i a) a := fun a _ nz z => nz (z.imp (fun z => z) fun ⟨i, z⟩ => ⟨i, z.2⟩)
  refine ⟨by unfold frzE; rw [frzGo_length]; exact E.len, fun i d e => ?_, fun i j a z z' => E.dj i j a z.2 z'.2, fun i a z => E.own i a z.2, E.tr⟩
  unfold frzE at e
  rw [frzGo_get, Nat.zero_add] at e
  obtain ⟨o, h1, h2⟩ := Option.map_eq_some_iff.mp e
  by_cases hi : vs.contains i = true
  · rw [if_pos hi] at h2
    obtain ⟨d', rfl, rfl⟩ := Option.map_eq_some_iff.mp h2
    obtain ⟨v, h3, h4⟩ := E.rep i d' h1
    have hm : i ∈ vs := by simpa using hi
    refine ⟨v, h3, (Rep.fz (NF' := or2 N (U fun i a => ¬ i ∈ vs ∧ Fs i a)) n d' v (Fs i) (fun a z z' => ?_) h4).sub fun _ z => z.elim⟩
    rcases z' with z' | ⟨j, hj, z'⟩
    · exact (E.own i a z).1 z'
    · exact hj (E.dj i j a z z' ▸ hm)
  · rw [if_neg hi] at h2
    subst h2
    obtain ⟨v, h3, h4⟩ := E.rep i d h1
    have hm : ¬ i ∈ vs := fun z => hi (by simpa using z)
    exact ⟨v, h3, Rep.mono n _ _ _ _ (fun _ _ q _ => q) (fun a z => ⟨hm, z⟩) h4⟩

/-! ## 13. expressions that may change slots -/
def AfterX (g : Gb) (N : Addr → Prop) (σ : L2.St) (H : Hp) (Fs : Nat → Addr → Prop) (Q : VK) (r : D × En) : Prop :=
  ∀ v H' Fs' Fd, Stp H H' (U Fs) (or2 (U Fs') Fd) → EnvO g H' (or2 N Fd) σ r.2 Fs' → Rep g H' (or2 N (or2 (U Fs') Fd)) r.1 v Fd → Q v H'
def OutX (H : Hp) (Fs : Nat → Addr → Prop) (W : Str → Hp → Prop) (c : Str) : Prop := ∀ H', Kept H H' (U Fs) → W c H'
def tX (g : Gb) (C : Cl) (W : Str → Hp → Prop) (x : XE) : TE := fun σ H Q => ∃ N Γ Fs, EnvO g H N σ Γ Fs ∧ (evX C Γ x).wp (AfterX g N σ H Fs Q) (OutX H Fs W)
/-- a row of arguments; those that are handed over are told by their slots -/
def Args (g : Gb) (H : Hp) (NF : Addr → Prop) (σ : L2.St) : List (Nat ⊕ D) → List V → (Addr → Prop) → Prop
  | [], vs, _ => vs = []
  | .inr d :: r, vs, F => ∃ v u F1 F2, vs = v :: u ∧ Rep g H NF d v F1 ∧ Args g H NF σ r u F2 ∧ (∀ a, F1 a → F a) ∧ (∀ a, F2 a → F a) ∧ (∀ a, F1 a → ¬ F2 a)
  | .inl i :: r, vs, F => ∃ v u, vs = v :: u ∧ σ[i]? = some (some v) ∧ Args g H NF σ r u F
def AfterXs (g : Gb) (N : Addr → Prop) (σ : L2.St) (H : Hp) (Fs : Nat → Addr → Prop) (Q : List V → Hp → Prop) (r : List (Nat ⊕ D) × En) : Prop :=
  ∀ vs H' Fs' Fd, Stp H H' (U Fs) (or2 (U Fs') Fd) → EnvO g H' (or2 N Fd) σ r.2 Fs' → Args g H' (or2 N (or2 (U Fs') Fd)) σ r.1 vs Fd → Q vs H'
def tXs (g : Gb) (C : Cl) (W : Str → Hp → Prop) (xs : List XE) : TA := fun σ H Q => ∃ N Γ Fs, EnvO g H N σ Γ Fs ∧ (evXs C Γ xs).wp (AfterXs g N σ H Fs Q) (OutX H Fs W)
structure SX (X : Cx) (C : Cl) (W : Str → Hp → Prop) (e : Expr) (x : XE) : Prop where
  pe : PE X e (tX (gx X) C W x)
structure SXs (X : Cx) (C : Cl) (W : Str → Hp → Prop) (es : List Expr) (xs : List XE) : Prop where
  pa : PA X es (tXs (gx X) C W xs)
section
variable {g : Gb} {X : Cx} {C : Cl} {W : Str → Hp → Prop} {σ : L2.St} {H : Hp}
theorem tX_mono {x : XE} {Q Q' : VK} (h : tX g C W x σ H Q) (q : ∀ v H', Q v H' → Q' v H') : tX g C W x σ H Q' := by
  obtain ⟨N, Γ, Fs, E, w⟩ := h
  exact ⟨N, Γ, Fs, E, Rs.wp_mono w (fun r a v H' Fs' Fd s e rr => q _ _ (a v H' Fs' Fd s e rr)) fun _ z => z⟩
theorem tXs_mono {x : List XE} {Q Q' : List V → Hp → Prop} (h : tXs g C W x σ H Q) (q : ∀ v H', Q v H' → Q' v H') : tXs g C W x σ H Q' := by
  obtain ⟨N, Γ, Fs, E, w⟩ := h
  exact ⟨N, Γ, Fs, E, Rs.wp_mono w (fun r a v H' Fs' Fd s e rr => q _ _ (a v H' Fs' Fd s e rr)) fun _ z => z⟩
theorem tX_pure {m : E} {Q : VK} (h : tX g C W (.pure m) σ H Q) : tE g C W m σ H Q := by
  obtain ⟨N, Γ, Fs, E, w⟩ := h
  have w : ((ev C Γ m).bind fun d => Rs.ok (d, if hasF d then frzE (vars m) Γ else Γ)).wp (AfterX g N σ H Fs Q) (OutX H Fs W) := w
  cases ed : ev C Γ m with
  | bad => rw [ed] at w; exact w.elim
  | exc c =>
    rw [ed] at w
    exact ⟨N, Γ, E.tr, E.see _, by rw [ed]; exact fun H' s => w H' fun a o e _ => s a o e⟩
  | ok d =>
    rw [ed] at w
    have w : AfterX g N σ H Fs Q (d, if hasF d then frzE (vars m) Γ else Γ) := w
    cases hf : hasF d with
    | false =>
      rw [hf] at w
      refine ⟨N, Γ, E.tr, E.see _, ?_⟩
      rw [ed]
      show After _ _ _ _ _
      intro v H1 F s f r
      refine w v H1 Fs F ⟨fun a o e _ => s a o e, fun a z => ?_, fun a z => ?_⟩ (E.same s (tr_or s E.tr f) fun a z => z.imp (fun z => z) fun z => (f a z).1) (Rep.noF' d v F hf r)
      · rcases z with z | z
        · exact .inl z
        · exact .inr (f a z).1
      · rcases z with ⟨i, z⟩ | z
        · exact tr_same s (NF := fun a => H a ≠ none) (fun _ z => z) a (E.own i a z).2
        · exact (f a z).2
    | true =>
      rw [hf] at w
      have E' := E.frz (vars m)
      refine ⟨or2 N (U fun i a => ¬ i ∈ vars m ∧ Fs i a), Γ, fun a z => ?_, ⟨E.len, fun i hi d' e => ?_⟩, ?_⟩
      · rcases z with z | ⟨i, _, z⟩
        · exact E.tr a z
        · exact (E.own i a z).2
      · obtain ⟨v, h3, h4⟩ := E.rep i d' e
        refine ⟨v, h3, Rep.fz (fun a _ nz z => nz (z.imp (fun z => z) fun ⟨j, z⟩ => ⟨j, z.2⟩)) d' v (Fs i) (fun a z z' => ?_) h4⟩
        rcases z' with z' | ⟨j, hj, z'⟩
        · exact (E.own i a z).1 z'
        · exact hj (E.dj i j a z z' ▸ hi)
      · rw [ed]
        show After _ _ _ _ _
        intro v H1 F s f r
        have f' : Fresh H H1 F := f
        refine w v H1 (fun i a => ¬ i ∈ vars m ∧ Fs i a) F ⟨fun a o e _ => s a o e, fun a z => ?_, fun a z => ?_⟩ (E'.same s (tr_or s E.tr f) fun a z => z.imp (fun z => z) fun z => (f a z).1) (Rep.mono (fun a _ nz z => nz ?_) d v F F (fun _ _ q _ => q) (fun _ z => z) r)
        · rcases z with ⟨i, _, z⟩ | z
          · exact .inl ⟨i, z⟩
          · exact .inr (f a z).1
        · rcases z with ⟨i, _, z⟩ | z
          · exact tr_same s (NF := fun a => H a ≠ none) (fun _ z => z) a (E.own i a z).2
          · exact (f a z).2
        · rcases z with z | z | z
          · exact .inl (.inl z)
          · exact .inl (.inr z)
          · exact .inr z
theorem sx_pure {e : Expr} {m : E} (h : SE X C W e m) : SX X C W e (.pure m) := ⟨PE.imp h.pe fun σ H Q h => tX_pure h⟩
theorem sxs_nil : SXs X C W [] [] := ⟨PA.imp pa_nil fun σ H Q h => by
  obtain ⟨N, Γ, Fs, E, w⟩ := h
  exact w [] H Fs none0 (Stp.refl (fun a z => z.elim (fun z => z) fun z => z.elim) (fun a z => z.elim (fun ⟨i, z⟩ => (E.own i a z).2) fun z => z.elim)) (E.n fun a => ⟨fun z => z.elim (fun z => z) fun z => z.elim, .inl⟩) rfl⟩
theorem Args.mono {NF NF' : Addr → Prop} {H' : Hp} (n : ∀ a, H a ≠ none → ¬ NF a → ¬ NF' a) : ∀ (rs : List (Nat ⊕ D)) (vs : List V) (F : Addr → Prop), (∀ a o, H a = some o → (¬ NF a ∨ F a ∨ isTup o) → H' a = some o) → Args g H NF σ rs vs F → Args g H' NF' σ rs vs F
  | [], _, _, _, x => x
  | .inr d :: r, vs, F, h, ⟨v, u, F1, F2, e, x1, x2, s1, s2, dj⟩ => ⟨v, u, F1, F2, e, Rep.mono n d v F1 F1 (fun b o q z => h b o q (z.imp (fun z => z) (.imp (s1 b) (fun z => z)))) (fun _ z => z) x1, Args.mono n r u F2 (fun b o q z => h b o q (z.imp (fun z => z) (.imp (s2 b) (fun z => z)))) x2, s1, s2, dj⟩
  | .inl i :: r, vs, F, h, ⟨v, u, e, hs, x⟩ => ⟨v, u, e, hs, Args.mono n r u F h x⟩
/-- one more argument ahead -/
theorem tXs_cons {x : XE} {xs : List XE} {Q : List V → Hp → Prop} (hx : ∀ Γ, evXs C Γ (x :: xs) = (evX C Γ x).bind fun q => (evXs C q.2 xs).bind fun p => .ok (.inr q.1 :: p.1, p.2)) (h : tXs g C W (x :: xs) σ H Q) : tCons (tX g C W x) (tXs g C W xs) σ H Q := by
  obtain ⟨N, Γ, Fs, E, w⟩ := h
  rw [hx] at w
  refine ⟨N, Γ, Fs, E, Rs.wp_mono (Rs.wp_bind w) (fun q w v H1 Fs1 Fd1 s1 E1 r1 => ?_) fun _ z => z⟩
  refine ⟨or2 N Fd1, q.2, Fs1, E1, Rs.wp_mono (Rs.wp_bind w) (fun p w vs H2 Fs2 Fd2 s2 E2 r2 => ?_) fun c z H' k => z H' fun a o e h => k a o (s1.kp a o e h) ?_⟩
  · have w : AfterXs g N σ H Fs Q (.inr q.1 :: p.1, p.2) := w
    have c1 : ∀ a, Fd1 a → ¬ U Fs1 a := fun a z ⟨i, z'⟩ => (E1.own i a z').1 (.inr z)
    have c2 : ∀ a, Fd1 a → ¬ Fd2 a := fun a z z' => by
      rcases s2.fr a (.inr z') with q | q
      · exact c1 a z q
      · exact E1.tr a (.inr z) q
    refine w (v :: vs) H2 Fs2 (or2 Fd1 Fd2) ?_ (E2.n fun a => ⟨fun z => z.elim (fun z => .inl (.inl z)) fun z => z.elim (fun z => .inl (.inr z)) .inr, fun z => z.elim (fun z => z.elim .inl fun z => .inr (.inl z)) fun z => .inr (.inr z)⟩) ⟨v, vs, Fd1, Fd2, rfl, ?_, ?_, fun _ => .inl, fun _ => .inr, c2⟩
    · have t := s1.trans s2 (fun a z => .inl z)
      refine ⟨t.kp, fun a z => ?_, fun a z => ?_⟩
      · rcases z with z | z | z
        · exact t.fr a (.inl z)
        · exact s1.fr a (.inr z)
        · exact t.fr a (.inr z)
      · rcases z with z | z | z
        · exact t.tk a (.inl z)
        · exact s2.kp.tracked (s1.tk a (.inr z)) (c1 a z)
        · exact t.tk a (.inr z)
    · refine Rep.mono (fun a hn nz z => ?_) q.1 v Fd1 Fd1 (fun a o e z => s2.kp a o e ?_) (fun _ z => z) r1
      · rcases z with z | z | z | z
        · exact nz (.inl z)
        · rcases s2.fr a (.inl z) with q | q
          · exact nz (.inr (.inl q))
          · exact hn q
        · exact nz (.inr (.inr z))
        · rcases s2.fr a (.inr z) with q | q
          · exact nz (.inr (.inl q))
          · exact hn q
      · rcases z with z | z | z
        · exact .inl fun q => z (.inr (.inl q))
        · exact .inl (c1 a z)
        · exact .inr z
    · refine Args.mono (fun a hn nz z => nz ?_) p.1 vs Fd2 (fun _ _ q _ => q) r2
      rcases z with z | z | z | z
      · exact .inl (.inl z)
      · exact .inr (.inl z)
      · exact .inl (.inr z)
      · exact .inr (.inr z)
  · rcases h with h | h
    · refine .inl fun q => ?_
      rcases s1.fr a (.inl q) with q | q
      · exact h q
      · rw [q] at e; cases e
    · exact .inr h
theorem sxs_cons {e : Expr} {es : List Expr} {x : XE} {xs : List XE} (hx : ∀ Γ, evXs C Γ (x :: xs) = (evX C Γ x).bind fun q => (evXs C q.2 xs).bind fun p => .ok (.inr q.1 :: p.1, p.2)) (h : SX X C W e x) (hs : SXs X C W es xs) (ht : starEach (e :: es) X.env = (false, eval e X.env) :: starEach es X.env := by rfl) : SXs X C W (e :: es) (x :: xs) :=
  ⟨PA.imp (pa_cons h.pe hs.pa ht) fun σ H Q h => tXs_cons hx h⟩
theorem sxs_io (i : Nat) {n : Str} {pos : Pos} {es : List Expr} {xs : List XE} (hs : SXs X C W es xs) (hN : X.N[i]? = some n := by rfl) (hv : Vis X.env.scope n := by first | exact Or.inl rfl | exact Or.inr (Or.inl rfl) | exact Or.inr (Or.inr rfl)) (hd : (n == ("__debug__" : Str)) = false := by decide)
    (hcd : (n == ("__classdict__" : Str)) = false := by decide) (ht : starEach (.Name n pos :: es) X.env = (false, eval (.Name n pos) X.env) :: starEach es X.env := by rfl) : SXs X C W (.Name n pos :: es) (.io i :: xs) :=
  ⟨PA.imp (pa_cons (pe_var hN hv hd hcd) hs.pa ht) fun σ H Q h => by
    obtain ⟨N, Γ, Fs, E, w⟩ := h
    have w : ((get1 Γ i).bind fun _ => (evXs C Γ xs).bind fun p => Rs.ok (.inl i :: p.1, p.2)).wp (AfterXs (gx X) N σ H Fs Q) (OutX H Fs W) := w
    unfold get1 at w
    split at w
    · rename_i d e
      obtain ⟨v, h1, _⟩ := E.rep i d e
      have w : ((evXs C Γ xs).bind fun p => Rs.ok (Sum.inl i :: p.1, p.2)).wp (AfterXs (gx X) N σ H Fs Q) (OutX H Fs W) := w
      exact ⟨v, h1, N, Γ, Fs, E, Rs.wp_mono (Rs.wp_bind w) (fun p w vs H2 Fs2 Fd2 s2 E2 r2 => w (v :: vs) H2 Fs2 Fd2 s2 E2 ⟨v, vs, rfl, h1, r2⟩) fun _ z => z⟩
    · exact w.elim⟩
theorem Args.plain {NF : Addr → Prop} : ∀ {rs : List (Nat ⊕ D)} {ds : List D} {vs : List V} {F : Addr → Prop}, RW.plain rs = some ds → Args g H NF σ rs vs F → Reps g H NF ds vs F
  | [], ds, vs, F, e, x => by cases e; exact x
  | .inr d :: r, ds, vs, F, e, ⟨v, u, F1, F2, h, x1, x2, s1, s2, dj⟩ => by
    have e : (RW.plain r).map (d :: ·) = some ds := e
    obtain ⟨ds', h1, rfl⟩ := Option.map_eq_some_iff.mp e
    exact ⟨v, u, F1, F2, h, x1, Args.plain h1 x2, s1, s2, dj⟩
  | .inl _ :: _, _, _, _, e, _ => by cases e
/-- what was handed over stands in one slot -/
theorem Args.io {NF NF' : Addr → Prop} {Fi : Addr → Prop} {i : Nat} {d : D} (n : ∀ a, H a ≠ none → ¬ NF a → ¬ NF' a) : ∀ (k : Nat) {rs : List (Nat ⊕ D)} {as bs : List D} {vs : List V} {F : Addr → Prop}, ioArgs k rs = some (as, i, bs) → Args g H NF σ rs vs F → (∀ a, F a → ¬ NF' a) → (∀ v, σ[i]? = some (some v) → Rep g H NF' d v Fi) →
    Reps g H NF' (fzs as ++ d :: fzs bs) vs Fi ∧ ∃ v, vs[k]? = some v ∧ σ[i]? = some (some v)
  | 0, .inl j :: r, as, bs, vs, F, e, ⟨v, u, h, hs, x⟩, hF, hd => by
    have e : (RW.plain r).map (fun ds => (([] : List D), j, ds)) = some (as, i, bs) := e
    obtain ⟨ds', h1, h2⟩ := Option.map_eq_some_iff.mp e
    cases h2
    subst h
    have r2 := Reps.fz n bs u F hF (Args.plain h1 x)
    exact ⟨⟨v, u, Fi, none0, rfl, hd v hs, r2, fun _ z => z, fun _ z => z.elim, fun _ _ z => z⟩, v, rfl, hs⟩
  | k + 1, .inr c :: r, as, bs, vs, F, e, ⟨v, u, F1, F2, h, x1, x2, s1, s2, dj⟩, hF, hd => by
    have e : (ioArgs k r).map (fun t => (c :: t.1, t.2.1, t.2.2)) = some (as, i, bs) := e
    obtain ⟨⟨as', i', bs'⟩, h1, h2⟩ := Option.map_eq_some_iff.mp e
    cases h2
    subst h
    obtain ⟨r2, w, h3, h4⟩ := Args.io n k h1 x2 (fun a z => hF a (s2 a z)) hd
    exact ⟨⟨v, u, none0, Fi, rfl, Rep.fz n c v F1 (fun a z => hF a (s1 a z)) x1, r2, fun _ z => z.elim, fun _ z => z, fun _ z => z.elim⟩, w, h3, h4⟩
  | 0, [], _, _, _, _, e, _, _, _ => by cases e
  | 0, .inr _ :: _, _, _, _, _, e, _, _, _ => by cases e
  | _ + 1, [], _, _, _, _, e, _, _, _ => by cases e
  | _ + 1, .inl _ :: _, _, _, _, _, e, _, _, _ => by cases e
theorem stp_dj {N : Addr → Prop} {Γ : En} {Fs : Nat → Addr → Prop} {H' : Hp} {B : Addr → Prop} (E : EnvO g H N σ Γ Fs) (s : Stp H H' (U Fs) B) : ∀ a, B a → ¬ N a := fun a z n => by
  rcases s.fr a z with ⟨i, q⟩ | q
  · exact (E.own i a q).1 n
  · exact E.tr a n q
theorem tX_op {o : Pr} {xs : List XE} {Q : VK} (h : tX g C W (.op o xs) σ H Q) : tXs g C W xs σ H fun vs H1 => PrimQ g o vs H1 Q := by
  obtain ⟨N, Γ, Fs, E, w⟩ := h
  have w : ((evXs C Γ xs).bind fun p => (Rs.of (plain p.1)).bind fun ds => (Rs.of (prim o ds)).bind fun d => Rs.ok (d, p.2)).wp (AfterX g N σ H Fs Q) (OutX H Fs W) := w
  refine ⟨N, Γ, Fs, E, Rs.wp_mono (Rs.wp_bind w) (fun p w vs H1 Fs1 Fd1 s1 E1 r1 => ?_) fun _ z => z⟩
  obtain ⟨ds, e1, w⟩ := Rs.wp_of (Rs.wp_bind w)
  obtain ⟨d, e2, w⟩ := Rs.wp_of (Rs.wp_bind w)
  have w : AfterX g N σ H Fs Q (d, p.2) := w
  have dN := stp_dj E s1
  have nN : ∀ a, N a → H1 a ≠ none := fun a z => E1.tr a (.inl z)
  refine ⟨or2 N (U Fs1), ds, Fd1, d, fun a z => ?_, fun a z z' => ?_, Reps.mono (fun a _ nz z => nz (z.elim (fun z => z.elim .inl fun z => .inr (.inl z)) fun z => .inr (.inr z))) ds vs Fd1 Fd1 (fun _ _ q _ => q) (fun _ z => z) (Args.plain e1 r1), e2, fun v H2 F2 s2 f2 r2 => ?_⟩
  · rcases z with (z | z) | z
    · exact nN a z
    · exact s1.tk a (.inl z)
    · exact s1.tk a (.inr z)
  · rcases z' with z' | ⟨i, z'⟩
    · exact dN a (.inr z) z'
    · exact (E1.own i a z').1 (.inr z)
  · have tk2 : ∀ a, H1 a ≠ none → H2 a ≠ none := tr_same s2 (NF := fun a => H1 a ≠ none) (fun _ z => z)
    refine w v H2 Fs1 F2 ⟨fun a o e z => s2 a o (s1.kp a o e z), fun a z => ?_, fun a z => ?_⟩ (E1.same s2 (fun a z => ?_) fun a z => ?_) (Rep.mono (fun a _ nz z => nz (z.elim (fun z => .inl (.inl z)) fun z => z.elim (fun z => .inl (.inr z)) .inr)) d v F2 F2 (fun _ _ q _ => q) (fun _ z => z) r2)
    · rcases z with z | z
      · exact s1.fr a (.inl z)
      · rcases f2 a z with q | ⟨q, _⟩
        · exact s1.fr a (.inr q)
        · cases e : H a with
          | none => exact .inr rfl
          | some o =>
            by_cases hu : U Fs a
            · exact .inl hu
            · rw [s1.kp a o e (.inl hu)] at q; cases q
    · rcases z with z | z
      · exact tk2 a (s1.tk a (.inl z))
      · rcases f2 a z with q | ⟨_, q⟩
        · exact tk2 a (s1.tk a (.inr q))
        · exact q
    · rcases z with z | z
      · exact tk2 a (nN a z)
      · rcases f2 a z with q | ⟨_, q⟩
        · exact tk2 a (s1.tk a (.inr q))
        · exact q
    · rcases z with z | z
      · exact .inl (.inl z)
      · rcases f2 a z with q | ⟨q, _⟩
        · exact .inl (.inr q)
        · exact .inr q
theorem tXs_1 {x : XE} {Q : List V → Hp → Prop} (hx : ∀ Γ, evXs C Γ [x] = (evX C Γ x).bind fun q => (evXs C q.2 []).bind fun p => .ok (.inr q.1 :: p.1, p.2)) (h : tXs g C W [x] σ H Q) : tX g C W x σ H fun v H1 => Q [v] H1 :=
  tX_mono (tXs_cons hx h) fun v H1 z => by
    obtain ⟨N, Γ, Fs, E, w⟩ := z
    exact w [] H1 Fs none0 (Stp.refl (fun a z => z.elim (fun z => z) fun z => z.elim) (fun a z => z.elim (fun ⟨i, z⟩ => (E.own i a z).2) fun z => z.elim)) (E.n fun a => ⟨fun z => z.elim (fun z => z) fun z => z.elim, .inl⟩) rfl
theorem tXs_2 {x y : XE} {Q : List V → Hp → Prop} (hx : ∀ Γ, evXs C Γ [x, y] = (evX C Γ x).bind fun q => (evXs C q.2 [y]).bind fun p => .ok (.inr q.1 :: p.1, p.2)) (hy : ∀ Γ, evXs C Γ [y] = (evX C Γ y).bind fun q => (evXs C q.2 []).bind fun p => .ok (.inr q.1 :: p.1, p.2)) (h : tXs g C W [x, y] σ H Q) : tX g C W x σ H fun v H1 => tX g C W y σ H1 fun u H2 => Q [v, u] H2 :=
  tX_mono (tXs_cons hx h) fun v H1 z => tXs_1 hy z
theorem sx_op {a b : Expr} {x y : XE} {op : Operator} {pos : Pos} {r : R2} {o : Pr} (ho : OpR X (binaryOp op) r) (p : Prim2 X o r) (ha : SX X C W a x) (hb : SX X C W b y)
    (hx : ∀ Γ, evXs C Γ [x, y] = (evX C Γ x).bind fun q => (evXs C q.2 [y]).bind fun p => .ok (.inr q.1 :: p.1, p.2) := by intro _; rfl) (hy : ∀ Γ, evXs C Γ [y] = (evX C Γ y).bind fun q => (evXs C q.2 []).bind fun p => .ok (.inr q.1 :: p.1, p.2) := by intro _; rfl) : SX X C W (.BinOp a op b pos) (.op o [x, y]) :=
  ⟨PE.imp (pe_op ho ha.pe hb.pe) fun σ H Q h => tX_mono (tXs_2 hx hy (tX_op h)) fun v H1 h => tX_mono h fun u H2 h => p _ _ _ _ h⟩

/-! ### calls with such arguments -/
theorem runF_wp {f : Nat} {ds : List D} {P : D × Option D → Prop} {Ex : Str → Prop} (hex : C.ex f = false) (h : (runF C f ds).wp P Ex) : (C.run f ds).wp P (fun _ => False) := by
  unfold runF at h
  rw [hex] at h
  exact noX_wp h
end
end RW

namespace RW
open PySem L2 PySem.Spec PyProof.Rows
section
variable {g : Gb} {X : Cx} {C : Cl} {W : Str → Hp → Prop} {σ : L2.St} {H : Hp}
/-- f(..), f no def that changes what it is handed -/
theorem tX_call {id n : Nat} {mg : Str → Option Value} {xs : List XE} {EX : XK} {Q : VK} (hio : C.io id = none) (hex : C.ex id = false) (hl : ∀ Γ p, evXs C Γ xs = .ok p → p.1.length = n) (h : tX g C W (.call id xs) σ H Q) : tXs g C W xs σ H fun vs H1 => spC g mg C id n vs H1 Q EX := by
  obtain ⟨N, Γ, Fs, E, w⟩ := h
  have w : ((evXs C Γ xs).bind fun p => match C.io id with
    | none => (Rs.of (plain p.1)).bind fun ds => (runF C id (fzs ds)).bind fun r => Rs.ok (r.1, p.2)
    | some k => (Rs.of (ioArgs k p.1)).bind fun t => (get1 p.2 t.2.1).bind fun d => (runF C id (fzs t.1 ++ d :: fzs t.2.2)).bind fun r => (Rs.of r.2).bind fun o => Rs.ok (r.1, p.2.set t.2.1 (some o))).wp (AfterX g N σ H Fs Q) (OutX H Fs W) := w
  rw [hio] at w
  refine ⟨N, Γ, Fs, E, ?_⟩
  cases ep : evXs C Γ xs with
  | bad => rw [ep] at w; exact w.elim
  | exc c => rw [ep] at w; exact w
  | ok p =>
  rw [ep] at w
  show AfterXs _ _ _ _ _ _ _
  intro vs H1 Fs1 Fd1 s1 E1 r1
  have w : ((Rs.of (plain p.1)).bind fun ds => (runF C id (fzs ds)).bind fun r => Rs.ok (r.1, p.2)).wp (AfterX g N σ H Fs Q) (OutX H Fs W) := w
  obtain ⟨ds, e1, w⟩ := Rs.wp_of (Rs.wp_bind w)
  have w := runF_wp hex (Rs.wp_bind w)
  have rr := Args.plain e1 r1
  have dN := stp_dj E s1
  have nN : ∀ a, N a → H1 a ≠ none := fun a z => E1.tr a (.inl z)
  have hlen : vs.length = n := by
    have : ds.length = p.1.length := by
      have pl : ∀ (rs : List (Nat ⊕ D)) (ds : List D), plain rs = some ds → ds.length = rs.length := by
        intro rs
        induction rs with
        | nil => intro ds e; cases e; rfl
        | cons r rs ih =>
          intro ds e
          cases r with
          | inl i => cases e
          | inr d =>
            have e : (plain rs).map (d :: ·) = some ds := e
            obtain ⟨ds', h1, rfl⟩ := Option.map_eq_some_iff.mp e
            rw [List.length_cons, List.length_cons, ih ds' h1]
      exact pl _ _ e1
    rw [rr.length, this, hl Γ p ep]
  refine ⟨hlen, or2 N (U Fs1), fzs ds, none0, fun a z => ?_, fun a z => z.elim, ?_, Rs.wp_mono w (fun r w v H2 F' Fo kp f1 f2 f3 r2 _ => ?_) fun c z => z.elim⟩
  · rcases z with (z | z) | z
    · exact nN a z
    · exact s1.tk a (.inl z)
    · exact z.elim
  · refine Reps.fz (fun a _ nz z => nz (z.elim (fun z => z.imp (fun z => z) .inl) fun z => z.elim)) ds vs Fd1 (fun a z z' => ?_) rr
    rcases z' with (z' | ⟨i, z'⟩) | z'
    · exact dN a (.inr z) z'
    · exact (E1.own i a z').1 (.inr z)
    · exact z'.elim
  · have s2 := kept_same kp
    have w : AfterX g N σ H Fs Q (r.1, p.2) := w
    have fr : ∀ a, F' a → H1 a = none := fun a z => (f1 a (.inl z)).elim (fun z => z.elim) fun z => z.1
    have tk2 : ∀ a, H1 a ≠ none → H2 a ≠ none := tr_same s2 (NF := fun a => H1 a ≠ none) (fun _ z => z)
    refine w v H2 Fs1 F' ⟨fun a o e z => s2 a o (s1.kp a o e z), fun a z => ?_, fun a z => ?_⟩ (E1.same s2 (fun a z => ?_) fun a z => ?_) (Rep.mono (fun a _ nz z => nz (z.elim (fun z => .inl (.inl z)) fun z => z.elim (fun z => .inl (.inr z)) fun z => .inr (.inl z))) r.1 v F' F' (fun _ _ q _ => q) (fun _ z => z) r2)
    · rcases z with z | z
      · exact s1.fr a (.inl z)
      · cases e : H a with
        | none => exact .inr rfl
        | some o =>
          by_cases hu : U Fs a
          · exact .inl hu
          · have q := fr a z
            rw [s1.kp a o e (.inl hu)] at q; cases q
    · rcases z with z | z
      · exact tk2 a (s1.tk a (.inl z))
      · exact f2 a (.inl z)
    · rcases z with z | z
      · exact tk2 a (nN a z)
      · exact f2 a (.inl z)
    · rcases z with z | z
      · exact .inl (.inl z)
      · exact .inr (fr a z)
/-- f(.., x, ..), x changed by f -/
theorem tX_callIo {id n k : Nat} {mg : Str → Option Value} {xs : List XE} {EX : XK} {Q : VK} (hio : C.io id = some k) (hex : C.ex id = false) (hl : ∀ Γ p, evXs C Γ xs = .ok p → p.1.length = n) (h : tX g C W (.call id xs) σ H Q) : tXs g C W xs σ H fun vs H1 => spC g mg C id n vs H1 Q EX := by
  obtain ⟨N, Γ, Fs, E, w⟩ := h
  have w : ((evXs C Γ xs).bind fun p => match C.io id with
    | none => (Rs.of (plain p.1)).bind fun ds => (runF C id (fzs ds)).bind fun r => Rs.ok (r.1, p.2)
    | some k => (Rs.of (ioArgs k p.1)).bind fun t => (get1 p.2 t.2.1).bind fun d => (runF C id (fzs t.1 ++ d :: fzs t.2.2)).bind fun r => (Rs.of r.2).bind fun o => Rs.ok (r.1, p.2.set t.2.1 (some o))).wp (AfterX g N σ H Fs Q) (OutX H Fs W) := w
  rw [hio] at w
  refine ⟨N, Γ, Fs, E, ?_⟩
  cases ep : evXs C Γ xs with
  | bad => rw [ep] at w; exact w.elim
  | exc c => rw [ep] at w; exact w
  | ok p =>
  rw [ep] at w
  show AfterXs _ _ _ _ _ _ _
  intro vs H1 Fs1 Fd1 s1 E1 r1
  have w : ((Rs.of (ioArgs k p.1)).bind fun t => (get1 p.2 t.2.1).bind fun d => (runF C id (fzs t.1 ++ d :: fzs t.2.2)).bind fun r => (Rs.of r.2).bind fun o => Rs.ok (r.1, p.2.set t.2.1 (some o))).wp (AfterX g N σ H Fs Q) (OutX H Fs W) := w
  obtain ⟨⟨as, i, bs⟩, e1, w⟩ := Rs.wp_of (Rs.wp_bind w)
  have w : ((get1 p.2 i).bind fun d => (runF C id (fzs as ++ d :: fzs bs)).bind fun r => (Rs.of r.2).bind fun o => Rs.ok (r.1, p.2.set i (some o))).wp (AfterX g N σ H Fs Q) (OutX H Fs W) := w
  unfold get1 at w
  split at w
  rotate_left
  · exact w.elim
  rename_i d ed
  have w : ((runF C id (fzs as ++ d :: fzs bs)).bind fun r => (Rs.of r.2).bind fun o => Rs.ok (r.1, p.2.set i (some o))).wp (AfterX g N σ H Fs Q) (OutX H Fs W) := w
  have w := runF_wp hex (Rs.wp_bind w)
  have dN := stp_dj E s1
  have nN : ∀ a, N a → H1 a ≠ none := fun a z => E1.tr a (.inl z)
  -- what is not handed over
  obtain ⟨NF, hNF⟩ : ∃ NF : Addr → Prop, NF = fun a => N a ∨ ∃ j, j ≠ i ∧ Fs1 j a := ⟨_, rfl⟩
  have sub : ∀ a, or2 NF (Fs1 i) a → or2 N (U Fs1) a := fun a z => by
    rcases z with z | z
    · rw [hNF] at z
      rcases z with z | ⟨j, _, z⟩
      · exact .inl z
      · exact .inr ⟨j, z⟩
    · exact .inr ⟨i, z⟩
  have sup : ∀ a, or2 N (U Fs1) a → or2 NF (Fs1 i) a := fun a z => by
    rcases z with z | ⟨j, z⟩
    · exact .inl (by rw [hNF]; exact .inl z)
    · by_cases hj : j = i
      · exact .inr (hj ▸ z)
      · exact .inl (by rw [hNF]; exact .inr ⟨j, hj, z⟩)
  have hlen : vs.length = n := by
    have al : ∀ (rs : List (Nat ⊕ D)) (vs : List V) (F : Addr → Prop) (NF : Addr → Prop), Args g H1 NF σ rs vs F → vs.length = rs.length := by
      intro rs
      induction rs with
      | nil => intro vs F NF x; have x : vs = [] := x; subst x; rfl
      | cons r rs ih =>
        intro vs F NF x
        cases r with
        | inl j => obtain ⟨v, u, rfl, _, x⟩ := x; rw [List.length_cons, List.length_cons, ih u F NF x]
        | inr d => obtain ⟨v, u, F1, F2, rfl, _, x, _⟩ := x; rw [List.length_cons, List.length_cons, ih u F2 NF x]
    rw [al _ _ _ _ r1, hl Γ p ep]
  obtain ⟨u0, hu0, rd0⟩ := E1.rep i d ed
  obtain ⟨rr, v0, hv0, hv1⟩ := Args.io (NF' := or2 NF (Fs1 i)) (Fi := Fs1 i) (d := d) (i := i) (fun a _ nz z => nz ((sub a z).imp (fun z => z) .inl)) k e1 r1
    (fun a z z' => by
      rcases sub a z' with z' | ⟨j, z'⟩
      · exact dN a (.inr z) z'
      · exact (E1.own j a z').1 (.inr z))
    (fun v hv => by
      rw [hu0] at hv
      cases hv
      exact Rep.mono (fun a _ nz z => nz ((sub a z).imp .inl (fun z => z))) d _ _ _ (fun _ _ q _ => q) (fun _ z => z) rd0)
  rw [hu0] at hv1
  cases hv1
  refine ⟨hlen, NF, fzs as ++ d :: fzs bs, Fs1 i, fun a z => ?_, fun a z z' => ?_, rr, Rs.wp_mono w (fun r w v H2 F' Fo kp f1 f2 f3 r2 r3 => ?_) fun c z => z.elim⟩
  · rcases sub a z with z | z
    · exact nN a z
    · exact s1.tk a (.inl z)
  · rw [hNF] at z'
    rcases z' with z' | ⟨j, hj, z'⟩
    · exact (E1.own i a z).1 (.inl z')
    · exact hj (E1.dj j i a z' z)
  · obtain ⟨o, u, ho, hu, ro⟩ := r3 k hio
    rw [hv0] at hu
    cases hu
    obtain ⟨o', ho', w⟩ := Rs.wp_of (Rs.wp_bind w)
    rw [ho] at ho'
    cases ho'
    have w : AfterX g N σ H Fs Q (r.1, p.2.set i (some o)) := w
    have kp' : Kept H1 H2 (U Fs1) := fun a o e z => kp a o e (z.imp (fun z q => z ⟨i, q⟩) (fun z => z))
    have fr1 : ∀ a, or2 F' Fo a → Fs1 i a ∨ H1 a = none := fun a z => (f1 a z).imp (fun z => z) (·.1)
    have s2 : Stp H1 H2 (U Fs1) (or2 (U fun j => if j = i then Fo else Fs1 j) F') := by
      refine ⟨kp', fun a z => ?_, fun a z => ?_⟩
      · rcases z with ⟨j, z⟩ | z
        · by_cases hj : j = i
          · simp only [hj, if_true] at z
            exact (fr1 a (.inr z)).imp (fun z => ⟨i, z⟩) (fun z => z)
          · simp only [hj, if_false] at z
            exact .inl ⟨j, z⟩
        · exact (fr1 a (.inl z)).imp (fun z => ⟨i, z⟩) (fun z => z)
      · rcases z with ⟨j, z⟩ | z
        · by_cases hj : j = i
          · simp only [hj, if_true] at z
            exact f2 a (.inr z)
          · simp only [hj, if_false] at z
            exact kp.tracked (s1.tk a (.inl ⟨j, z⟩)) fun q => hj (E1.dj j i a z q)
        · exact f2 a (.inl z)
    have subN : ∀ a, or2 (or2 N F') (U fun j => if j = i then Fo else Fs1 j) a → or2 NF (or2 F' Fo) a := fun a z => by
      rcases z with (z | z) | ⟨j, z⟩
      · exact .inl (by rw [hNF]; exact .inl z)
      · exact .inr (.inl z)
      · by_cases hj : j = i
        · simp only [hj, if_true] at z
          exact .inr (.inr z)
        · simp only [hj, if_false] at z
          exact .inl (by rw [hNF]; exact .inr ⟨j, hj, z⟩)
    refine w v H2 (fun j => if j = i then Fo else Fs1 j) F' (s1.trans s2 (fun a z => .inl z)) ⟨?_, fun j dj ej => ?_, fun j l a z z' => ?_, fun j a z => ?_, fun a z => ?_⟩ (Rep.mono (fun a _ nz z => nz (subN a (by
      rcases z with z | z | z
      · exact .inl (.inl z)
      · exact .inr z
      · exact .inl (.inr z)))) r.1 v F' F' (fun _ _ q _ => q) (fun _ z => z) r2)
    · rw [List.length_set]; exact E1.len
    · rw [List.getElem?_set] at ej
      by_cases hj : i = j
      · subst hj
        simp only [if_true] at ej ⊢
        split at ej
        · cases ej
          exact ⟨_, hu0, Rep.mono (fun a _ nz z => nz (subN a z)) o _ Fo Fo (fun _ _ q _ => q) (fun _ z => z) ro⟩
        · cases ej
      · rw [if_neg hj] at ej
        obtain ⟨w1, h1, h2⟩ := E1.rep j dj ej
        rw [if_neg (fun e => hj e.symm)]
        refine ⟨w1, h1, Rep.mono (fun a hn nz z => ?_) dj w1 _ _ (fun a o e z => kp a o e ?_) (fun _ z => z) h2⟩
        · have z := subN a z
          rcases z with z | z | z
          · rw [hNF] at z
            exact nz (z.elim (fun z => .inl (.inl z)) fun ⟨l, _, z⟩ => .inr ⟨l, z⟩)
          · exact (fr1 a (.inl z)).elim (fun z => nz (.inr ⟨i, z⟩)) hn
          · exact (fr1 a (.inr z)).elim (fun z => nz (.inr ⟨i, z⟩)) hn
        · rcases z with z | z | z
          · exact .inl fun q => z (.inr ⟨i, q⟩)
          · exact .inl fun q => hj (E1.dj i j a q z)
          · exact .inr z
    · by_cases hj : j = i
      · by_cases hl : l = i
        · rw [hj, hl]
        · exfalso
          simp only [hj, if_true] at z
          simp only [hl, if_false] at z'
          rcases fr1 a (.inr z) with q | q
          · exact hl (E1.dj l i a z' q)
          · exact (E1.own l a z').2 q
      · by_cases hl : l = i
        · exfalso
          simp only [hl, if_true] at z'
          simp only [hj, if_false] at z
          rcases fr1 a (.inr z') with q | q
          · exact hj (E1.dj j i a z q)
          · exact (E1.own j a z).2 q
        · simp only [hj, if_false] at z
          simp only [hl, if_false] at z'
          exact E1.dj j l a z z'
    · by_cases hj : j = i
      · simp only [hj, if_true] at z
        refine ⟨fun q => ?_, f2 a (.inr z)⟩
        rcases q with q | q
        · rcases fr1 a (.inr z) with q' | q'
          · exact (E1.own i a q').1 (.inl q)
          · exact nN a q q'
        · exact f3 a q z
      · simp only [hj, if_false] at z
        refine ⟨fun q => ?_, kp.tracked (s1.tk a (.inl ⟨j, z⟩)) fun q => hj (E1.dj j i a z q)⟩
        rcases q with q | q
        · exact (E1.own j a z).1 (.inl q)
        · rcases fr1 a (.inl q) with q' | q'
          · exact hj (E1.dj j i a z q')
          · exact (E1.own j a z).2 q'
    · rcases z with z | z
      · exact kp.tracked (nN a z) fun q => (E1.own i a q).1 (.inl z)
      · exact f2 a (.inl z)
end
section
variable {X : Cx} {C : Cl} {W : Str → Hp → Prop}
theorem sx_call {id k : Nat} {f : Addr} {fd : FuncData} {ps : List Str} {x : Str} {p pos : Pos} {e : Expr} {es : List Expr} {xs : List XE} (F : FnOk X.prog X.w X.K X.mg X.base CX0 k f fd ps (spC (gx X) X.mg C id ps.length)) (hr : Room k X.A) (hm : X.mg x = some (.ref f)) (hk : PySem.W.keepIn X.K (.ref f) = true) (hb : Binds X.K fd ps [])
    (hex : C.ex id = false) (hl : ∀ Γ p, evXs C Γ xs = .ok p → p.1.length = ps.length) (ha : SXs X C W (e :: es) xs) (hg : Gl X x := by rfl) (hdb : (x == ("__debug__" : Str)) = false := by decide) (he : starEach (e :: es) X.env = (false, eval e X.env) :: starEach es X.env := by rfl) (hpl : (backTo pos (starEach es X.env)).any (·.1) = false := by rfl) :
    SX X C W (.Call (.Name x p) (e :: es) [] pos) (.call id xs) := ⟨PE.imp (pe_call F hr hg hm hk hb .nil pass0 ha.pa hdb he hpl) fun σ H Q h => by
  refine tXs_mono (Q := fun vs H1 => spC (gx X) X.mg C id ps.length vs H1 Q E0) ?_ fun vs H1 z => by rw [List.append_nil]; exact z
  cases hio : C.io id with
  | none => exact tX_call hio hex hl h
  | some k => exact tX_callIo hio hex hl h⟩
end
end RW

namespace RW
open PySem L2 PySem.Spec PyProof.Rows

/-! ## 14. statements -/
def Post (g : Gb) (N : Addr → Prop) (σ : L2.St) (H : Hp) (Fs : Nat → Addr → Prop) (D : Ends) (ro : List Nat) (W : Str → Hp → Prop) : Out1 → Prop
  | .nx Γ => ∀ σ' H' Fs', Stp H H' (U Fs) (U Fs') → (∀ i ∈ ro, σ'[i]? = σ[i]?) → EnvO g H' N σ' Γ Fs' → D.nx σ' H'
  | .bk Γ => ∀ σ' H' Fs', Stp H H' (U Fs) (U Fs') → (∀ i ∈ ro, σ'[i]? = σ[i]?) → EnvO g H' N σ' Γ Fs' → D.bk σ' H'
  | .ct Γ => ∀ σ' H' Fs', Stp H H' (U Fs) (U Fs') → (∀ i ∈ ro, σ'[i]? = σ[i]?) → EnvO g H' N σ' Γ Fs' → D.ct σ' H'
  | .rt d Γ => ∀ v σ' H' Fs' Fd, Stp H H' (U Fs) (or2 (U Fs') Fd) → (∀ i ∈ ro, σ'[i]? = σ[i]?) → EnvO g H' (or2 N Fd) σ' Γ Fs' → Rep g H' (or2 N (or2 (U Fs') Fd)) d v Fd → D.rt v H'
  | .exc c _ => OutX H Fs W c
  | .bad => False
def tS (g : Gb) (C : Cl) (W : Str → Hp → Prop) (n : Nat) (ro : List Nat) (m : S) : TS := fun D σ H => ∃ N Γ Fs, EnvO g H N σ Γ Fs ∧ Post g N σ H Fs D ro W (exec C n ro Γ m)
def tSs (g : Gb) (C : Cl) (W : Str → Hp → Prop) (n : Nat) (ro : List Nat) (ms : List S) : TS := fun D σ H => ∃ N Γ Fs, EnvO g H N σ Γ Fs ∧ Post g N σ H Fs D ro W (execs C n ro Γ ms)
structure SS (X : Cx) (C : Cl) (W : Str → Hp → Prop) (n : Nat) (ro : List Nat) (st : Stmt) (m : S) : Prop where
  ps : PS X st (tS (gx X) C W n ro m)
structure SSs (X : Cx) (C : Cl) (W : Str → Hp → Prop) (n : Nat) (ro : List Nat) (sts : List Stmt) (ms : List S) : Prop where
  pss : PSs X sts (tSs (gx X) C W n ro ms)
theorem PS.imp {X : Cx} {st : Stmt} {t t' : TS} (h : PS X st t) (i : ∀ D σ H, t' D σ H → t D σ H) : PS X st t' := ⟨fun pins s σ H D I hw => h.run pins s σ H D I (i D σ H hw)⟩
theorem PSs.imp {X : Cx} {st : List Stmt} {t t' : TS} (h : PSs X st t) (i : ∀ D σ H, t' D σ H → t D σ H) : PSs X st t' := ⟨fun pins s σ H D I hw => h.run pins s σ H D I (i D σ H hw)⟩
section
variable {g : Gb} {X : Cx} {C : Cl} {W : Str → Hp → Prop} {σ σ1 : L2.St} {H H1 : Hp} {N : Addr → Prop} {Fs Fs1 : Nat → Addr → Prop} {D : Ends} {ro : List Nat} {n : Nat} {Γ : En}
theorem Kept.trans {A B : Addr → Prop} {H2 : Hp} (s : Stp H H1 A B) (k : Kept H1 H2 B) : Kept H H2 A := fun a o e z => k a o (s.kp a o e z) (by
  rcases z with z | z
  · refine .inl fun q => ?_
    rcases s.fr a q with q | q
    · exact z q
    · rw [q] at e; cases e
  · exact .inr z)
/-- what is wanted behind a step -/
theorem Post.step {o : Out1} (h : Post g N σ H Fs D ro W o) (s : Stp H H1 (U Fs) (U Fs1)) (r : ∀ i ∈ ro, σ1[i]? = σ[i]?) : Post g N σ1 H1 Fs1 D ro W o := by
  cases o with
  | nx Γ => exact fun σ' H' Fs' s' r' => h σ' H' Fs' (s.trans s' fun _ z => z) fun i hi => (r' i hi).trans (r i hi)
  | bk Γ => exact fun σ' H' Fs' s' r' => h σ' H' Fs' (s.trans s' fun _ z => z) fun i hi => (r' i hi).trans (r i hi)
  | ct Γ => exact fun σ' H' Fs' s' r' => h σ' H' Fs' (s.trans s' fun _ z => z) fun i hi => (r' i hi).trans (r i hi)
  | rt d Γ => exact fun v σ' H' Fs' Fd s' r' => h v σ' H' Fs' Fd (s.trans s' fun _ z => z) fun i hi => (r' i hi).trans (r i hi)
  | exc c Γ => exact fun H' k => h H' (Kept.trans s k)
  | bad => exact h
theorem Post.ends {o : Out1} {D' : Ends} (h : Post g N σ H Fs D ro W o) (hn : ∀ σ' H', D.nx σ' H' → D'.nx σ' H') (hb : ∀ σ' H', D.bk σ' H' → D'.bk σ' H') (hc : ∀ σ' H', D.ct σ' H' → D'.ct σ' H') (hr : ∀ v H', D.rt v H' → D'.rt v H') : Post g N σ H Fs D' ro W o := by
  cases o with
  | nx Γ => exact fun σ' H' Fs' s' r' e => hn _ _ (h σ' H' Fs' s' r' e)
  | bk Γ => exact fun σ' H' Fs' s' r' e => hb _ _ (h σ' H' Fs' s' r' e)
  | ct Γ => exact fun σ' H' Fs' s' r' e => hc _ _ (h σ' H' Fs' s' r' e)
  | rt d Γ => exact fun v σ' H' Fs' Fd s' r' e rr => hr _ _ (h v σ' H' Fs' Fd s' r' e rr)
  | exc c Γ => exact h
  | bad => exact h
theorem sss_nil : SSs X C W n ro [] [] := ⟨PSs.imp pss_nil fun D σ H h => by
  obtain ⟨N, Γ, Fs, E, p⟩ := h
  exact p σ H Fs (Stp.refl (fun _ z => z) fun a ⟨i, z⟩ => (E.own i a z).2) (fun _ _ => rfl) E⟩
theorem sss_cons {st : Stmt} {sts : List Stmt} {m : S} {ms : List S} (h : SS X C W n ro st m) (hs : SSs X C W n ro sts ms) : SSs X C W n ro (st :: sts) (m :: ms) := ⟨PSs.imp (pss_cons h.ps hs.pss) fun D σ H h => by
  obtain ⟨N, Γ, Fs, E, p⟩ := h
  refine ⟨N, Γ, Fs, E, ?_⟩
  have p : Post (gx X) N σ H Fs D ro W (match exec C n ro Γ m with | .nx Γ' => execs C n ro Γ' ms | o => o) := p
  cases eo : exec C n ro Γ m with
  | nx Γ' =>
    rw [eo] at p
    exact fun σ' H' Fs' s' r' E' => ⟨N, Γ', Fs', E', Post.step p s' r'⟩
  | bk Γ' => rw [eo] at p; exact p
  | ct Γ' => rw [eo] at p; exact p
  | rt d Γ' => rw [eo] at p; exact p
  | exc c Γ' => rw [eo] at p; exact p
  | bad => rw [eo] at p; exact p⟩
/-- a value is put into a slot -/
theorem EnvO.store {d : RW.D} {v : V} {Fd : Addr → Prop} (E : EnvO g H (or2 N Fd) σ Γ Fs) (hN : ∀ a, Fd a → ¬ N a) (r : Rep g H (or2 N (or2 (U Fs) Fd)) d v Fd) (i : Nat) : EnvO g H N (σ.set i (some v)) (Γ.set i (some d)) (fun j a => if j = i then Fd a else Fs j a) := by
  have sub : ∀ a, or2 N (U fun j a => if j = i then Fd a else Fs j a) a → or2 N (or2 (U Fs) Fd) a := fun a z => by
    rcases z with z | ⟨j, z⟩
    · exact .inl z
    · by_cases hj : j = i
      · simp only [hj, if_true] at z; exact .inr (.inr z)
      · simp only [hj, if_false] at z; exact .inr (.inl ⟨j, z⟩)
  refine ⟨by rw [List.length_set, List.length_set]; exact E.len, fun j dj ej => ?_, fun j l a z z' => ?_, fun j a z => ?_, fun a z => E.tr a (.inl z)⟩
  · rw [List.getElem?_set] at ej
    by_cases hj : i = j
    · subst hj
      simp only [if_true] at ej ⊢
      split at ej
      · rename_i hl
        cases ej
        exact ⟨v, List.getElem?_set_self (Nat.lt_of_lt_of_le hl E.len), Rep.mono (fun a _ nz z => nz (sub a z)) d v Fd Fd (fun _ _ q _ => q) (fun _ z => z) r⟩
      · cases ej
    · rw [if_neg hj] at ej
      obtain ⟨w1, h1, h2⟩ := E.rep j dj ej
      refine ⟨w1, by rw [List.getElem?_set_ne hj]; exact h1, ?_⟩
      refine Rep.mono (fun a _ nz z => nz ?_) dj w1 _ _ (fun _ _ q _ => q) (fun a z => by rw [if_neg (fun e : j = i => hj e.symm)]; exact z) h2
      rcases sub a z with z | z | z
      · exact .inl (.inl z)
      · exact .inr z
      · exact .inl (.inr z)
  · by_cases hj : j = i
    · by_cases hl : l = i
      · rw [hj, hl]
      · simp only [hj, if_true] at z
        simp only [hl, if_false] at z'
        exact absurd (.inr z) (E.own l a z').1
    · by_cases hl : l = i
      · simp only [hl, if_true] at z'
        simp only [hj, if_false] at z
        exact absurd (.inr z') (E.own j a z).1
      · simp only [hj, if_false] at z
        simp only [hl, if_false] at z'
        exact E.dj j l a z z'
  · by_cases hj : j = i
    · simp only [hj, if_true] at z
      exact ⟨hN a z, E.tr a (.inr z)⟩
    · simp only [hj, if_false] at z
      exact ⟨fun q => (E.own j a z).1 (.inl q), (E.own j a z).2⟩
theorem U_store {i : Nat} {Fd : Addr → Prop} {a : Addr} (z : U (fun j a => if j = i then Fd a else Fs j a) a) : or2 (U Fs) Fd a := by
  obtain ⟨j, z⟩ := z
  by_cases hj : j = i
  · simp only [hj, if_true] at z; exact .inr z
  · simp only [hj, if_false] at z; exact .inl ⟨j, z⟩
theorem out_wp {α : Type} {r : Rs α} {f : α → Out1} (h : Post g N σ H Fs D ro W (r.out Γ f)) : r.wp (fun a => Post g N σ H Fs D ro W (f a)) (OutX H Fs W) := by
  cases r <;> exact h
theorem set_ro {i : Nat} {x : Option V} (h : ro.contains i = false) : ∀ j ∈ ro, (σ.set i x)[j]? = σ[j]? := fun j hj => by
  have hne : i ≠ j := fun e => by
    subst e
    have : ro.contains i = true := by simpa using hj
    rw [this] at h; cases h
  exact List.getElem?_set_ne hne
theorem ss_asg (i : Nat) {x : Str} {e : Expr} {m : XE} {pos pos' : Pos} (hN : X.N.Nodup) (he : SX X C W e m) (hi : X.N[i]? = some x := by rfl) (hx : Loc X.env.scope x := by first | exact Or.inl rfl | exact Or.inr rfl) (hs : swapsWith e (some (.Name x pos')) pos.line X.env = pure false := by rfl)
    (hf : X.fn x = true ∨ X.env.scope.names.lookup x = some .local := by first | exact .inl rfl | exact .inr rfl) : SS X C W n ro (.Assign [.Name x pos'] e pos) (.asg i m) := ⟨PS.imp (ps_set hN hi hx he.pe hs hf) fun D σ H h => by
  obtain ⟨N, Γ, Fs, E, p⟩ := h
  have p : Post (gx X) N σ H Fs D ro W ((evX C Γ m).out Γ fun q => if ro.contains i then .bad else .nx (q.2.set i (some q.1))) := p
  refine ⟨N, Γ, Fs, E, Rs.wp_mono (out_wp p) (fun q p v H1 Fs1 Fd1 s1 E1 r1 => ?_) fun _ z => z⟩
  cases hro : ro.contains i with
  | true => rw [hro] at p; exact p.elim
  | false =>
    rw [hro] at p
    exact p _ H1 _ (s1.sub fun a z => U_store z) (set_ro hro) (E1.store (fun a z => stp_dj E s1 a (.inr z)) r1 i)⟩
/-- x = [.. for ..] on one row -/
theorem ss_ex {e : Expr} {m : XE} {pos : Pos} (he : SX X C W e m) (hs : swapsWith e none pos.line X.env = pure false := by rfl) : SS X C W n ro (.Expr e pos) (.ex m) := ⟨PS.imp (ps_expr he.pe hs) fun D σ H h => by
  obtain ⟨N, Γ, Fs, E, p⟩ := h
  have p : Post (gx X) N σ H Fs D ro W ((evX C Γ m).out Γ fun q => .nx q.2) := p
  refine ⟨N, Γ, Fs, E, Rs.wp_mono (out_wp p) (fun q p v H1 Fs1 Fd1 s1 E1 r1 => ?_) fun _ z => z⟩
  exact p _ H1 Fs1 (s1.sub fun a z => .inl z) (fun _ _ => rfl) (E1.same same_refl (fun a z => E1.tr a (.inl z)) fun a z => .inl (.inl z))⟩
theorem ss_ret {e : Expr} {m : XE} {pos : Pos} (he : SX X C W e m) : SS X C W n ro (.Return (some e) pos) (.ret m) := ⟨PS.imp (ps_ret he.pe) fun D σ H h => by
  obtain ⟨N, Γ, Fs, E, p⟩ := h
  have p : Post (gx X) N σ H Fs D ro W ((evX C Γ m).out Γ fun q => .rt q.1 q.2) := p
  exact ⟨N, Γ, Fs, E, Rs.wp_mono (out_wp p) (fun q p v H1 Fs1 Fd1 s1 E1 r1 => p v σ H1 Fs1 Fd1 s1 (fun _ _ => rfl) E1 r1) fun _ z => z⟩⟩
theorem ss_retN {pos : Pos} : SS X C W n ro (.Return none pos) .retN := ⟨PS.imp ps_retN fun D σ H h => by
  obtain ⟨N, Γ, Fs, E, p⟩ := h
  exact p .non σ H Fs none0 (Stp.refl (fun a z => z.elim (fun z => z) fun z => z.elim) (fun a z => z.elim (fun ⟨i, z⟩ => (E.own i a z).2) fun z => z.elim)) (fun _ _ => rfl) (E.n fun a => ⟨fun z => z.elim (fun z => z) fun z => z.elim, .inl⟩) rfl⟩
theorem ss_retv (i : Nat) {x : Str} {pos p : Pos} (hN : X.N[i]? = some x := by rfl) (hv : Vis X.env.scope x := by first | exact Or.inl rfl | exact Or.inr (Or.inl rfl) | exact Or.inr (Or.inr rfl)) (hd : (x == ("__debug__" : Str)) = false := by decide)
    (hcd : (x == ("__classdict__" : Str)) = false := by decide) : SS X C W n ro (.Return (some (.Name x p)) pos) (.retv i) := ⟨PS.imp (ps_ret (pe_var hN hv hd hcd)) fun D σ H h => by
  obtain ⟨N, Γ, Fs, E, p⟩ := h
  have p : Post (gx X) N σ H Fs D ro W (if ro.contains i then .bad else (get1 Γ i).out Γ fun d => .rt d (Γ.set i none)) := p
  cases hro : ro.contains i with
  | true => rw [hro] at p; exact p.elim
  | false =>
    rw [hro] at p
    have p : Post (gx X) N σ H Fs D ro W ((get1 Γ i).out Γ fun d => .rt d (Γ.set i none)) := p
    unfold get1 at p
    split at p
    · rename_i d ed
      obtain ⟨v, h1, h2⟩ := E.rep i d ed
      refine ⟨v, h1, p v σ H (fun j a => j ≠ i ∧ Fs j a) (Fs i) (Stp.refl (fun a z => z.elim (fun ⟨j, z⟩ => ⟨j, z.2⟩) fun z => ⟨i, z⟩) (fun a z => z.elim (fun ⟨j, z⟩ => (E.own j a z.2).2) fun z => (E.own i a z).2)) (fun _ _ => rfl)
        ⟨by rw [List.length_set]; exact E.len, fun j dj ej => ?_, fun j l a z z' => E.dj j l a z.2 z'.2, fun j a z => ⟨fun q => q.elim (E.own j a z.2).1 fun q => z.1 (E.dj j i a z.2 q), (E.own j a z.2).2⟩, fun a z => z.elim (E.tr a) fun z => (E.own i a z).2⟩ (Rep.mono (fun a _ nz z => nz ?_) d v _ _ (fun _ _ q _ => q) (fun _ z => z) h2)⟩
      · rw [List.getElem?_set] at ej
        by_cases hj : i = j
        · subst hj
          simp only [if_true] at ej
          split at ej <;> cases ej
        · rw [if_neg hj] at ej
          obtain ⟨w1, h3, h4⟩ := E.rep j dj ej
          refine ⟨w1, h3, Rep.mono (fun a _ nz z => nz ?_) dj w1 _ _ (fun _ _ q _ => q) (fun a z => ⟨fun e => hj e.symm, z⟩) h4⟩
          rcases z with (z | z) | ⟨l, z⟩
          · exact .inl z
          · exact .inr ⟨i, z⟩
          · exact .inr ⟨l, z.2⟩
      · rcases z with z | ⟨l, z⟩ | z
        · exact .inl z
        · exact .inr ⟨l, z.2⟩
        · exact .inr ⟨i, z⟩
    · exact p.elim⟩
theorem ss_brk {pos : Pos} : SS X C W n ro (.Break pos) .brk := ⟨PS.imp ps_break fun D σ H h => by
  obtain ⟨N, Γ, Fs, E, p⟩ := h
  exact p σ H Fs (Stp.refl (fun _ z => z) fun a ⟨i, z⟩ => (E.own i a z).2) (fun _ _ => rfl) E⟩
theorem ss_if {c : Expr} {a b : List Stmt} {mc : E} {ma mb : List S} {pos : Pos} (hc : ST X C W c mc) (ha : SSs X C W n ro a ma) (hb : SSs X C W n ro b mb) : SS X C W n ro (.If c a b pos) (.ite mc ma mb) := ⟨PS.imp (ps_if hc.pt ha.pss hb.pss) fun D σ H h => by
  obtain ⟨N, Γ, Fs, E, p⟩ := h
  have p : Post (gx X) N σ H Fs D ro W (((ev C Γ mc).bind asB).out Γ fun k => if k then execs C n ro Γ ma else execs C n ro Γ mb) := p
  refine ⟨N, Γ, E.tr, E.see _, Rs.wp_mono (out_wp p) (fun k p H1 s1 => ?_) fun c z H' s => z H' fun a o e _ => s a o e⟩
  have E1 := E.same s1 (tr_same s1 E.tr) fun a z => .inl z
  have st : Stp H H1 (U Fs) (U Fs) := ⟨fun a o e _ => s1 a o e, fun a z => .inl z, fun a ⟨i, z⟩ => (E1.own i a z).2⟩
  cases k with
  | true =>
    show tSs (gx X) C W n ro ma D σ H1
    exact ⟨N, Γ, Fs, E1, Post.step p st fun _ _ => rfl⟩
  | false =>
    show tSs (gx X) C W n ro mb D σ H1
    exact ⟨N, Γ, Fs, E1, Post.step p st fun _ _ => rfl⟩⟩
end
end RW

namespace RW
open PySem L2 PySem.Spec PyProof.Rows
section
variable {g : Gb} {X : Cx} {C : Cl} {W : Str → Hp → Prop} {σ σ1 : L2.St} {H H1 : Hp} {N : Addr → Prop} {Fs Fs1 : Nat → Addr → Prop} {De : Ends} {ro : List Nat} {n : Nat} {Γ : En}
/-! ### a slot's list or dict is changed in its place -/
theorem up_other {a b : Addr} {o ob : HO} (h : b ≠ a) (e : H b = some o) : upd H a ob b = some o := by rw [upd_ne h]; exact e
/-- the object at a, owned by slot i, is now ob, and tells d' -/
theorem EnvO.upd {i : Nat} {d' : D} {v : V} {a : Addr} {o0 ob : HO} {Fd : Addr → Prop} (E : EnvO g H (or2 N Fd) σ Γ Fs) (hN : ∀ b, Fd b → ¬ N b) (hv : σ[i]? = some (some v)) (ha : Fs i a) (h0 : H a = some o0) (nt : ¬ isTup o0)
    (r : Rep g (L2.upd H a ob) (or2 N (or2 (U Fs) Fd)) d' v (or2 (Fs i) Fd)) : EnvO g (L2.upd H a ob) N σ (Γ.set i (some d')) (fun j b => if j = i then or2 (Fs i) Fd b else Fs j b) := by
  have tk : ∀ b, H b ≠ none → L2.upd H a ob b ≠ none := fun b z => by
    by_cases hb : b = a
    · subst hb; rw [upd_same]; simp
    · rw [upd_ne hb]; exact z
  have sub : ∀ b, or2 N (U fun j b => if j = i then or2 (Fs i) Fd b else Fs j b) b → or2 N (or2 (U Fs) Fd) b := fun b z => by
    rcases z with z | ⟨j, z⟩
    · exact .inl z
    · by_cases hj : j = i
      · simp only [hj, if_true] at z
        exact z.elim (fun z => .inr (.inl ⟨i, z⟩)) fun z => .inr (.inr z)
      · simp only [hj, if_false] at z
        exact .inr (.inl ⟨j, z⟩)
  refine ⟨by rw [List.length_set]; exact E.len, fun j dj ej => ?_, fun j l b z z' => ?_, fun j b z => ?_, fun b z => tk b (E.tr b (.inl z))⟩
  · rw [List.getElem?_set] at ej
    by_cases hj : i = j
    · subst hj
      simp only [if_true] at ej
      split at ej
      · cases ej
        exact ⟨v, hv, Rep.mono (fun b _ nz z => nz (sub b z)) d' v _ _ (fun _ _ q _ => q) (fun b z => by rw [if_pos rfl]; exact z) r⟩
      · cases ej
    · rw [if_neg hj] at ej
      obtain ⟨w1, h1, h2⟩ := E.rep j dj ej
      refine ⟨w1, h1, Rep.mono (fun b _ nz z => nz ?_) dj w1 _ _ (fun b o q z => up_other (fun e => ?_) q) (fun b z => by rw [if_neg (fun e : j = i => hj e.symm)]; exact z) h2⟩
      · rcases sub b z with z | z | z
        · exact .inl (.inl z)
        · exact .inr z
        · exact .inl (.inr z)
      · subst e
        rcases z with z | z | z
        · exact z (.inr ⟨i, ha⟩)
        · exact hj (E.dj i j b ha z)
        · obtain ⟨xs, rfl⟩ := z
          rw [h0] at q
          cases q
          exact nt ⟨xs, rfl⟩
  · by_cases hj : j = i
    · by_cases hl : l = i
      · rw [hj, hl]
      · simp only [hj, if_true] at z
        simp only [hl, if_false] at z'
        rcases z with z | z
        · exact absurd (E.dj l i b z' z) hl
        · exact absurd (.inr z) (E.own l b z').1
    · by_cases hl : l = i
      · simp only [hl, if_true] at z'
        simp only [hj, if_false] at z
        rcases z' with z' | z'
        · exact absurd (E.dj j i b z z') hj
        · exact absurd (.inr z') (E.own j b z).1
      · simp only [hj, if_false] at z
        simp only [hl, if_false] at z'
        exact E.dj j l b z z'
  · by_cases hj : j = i
    · simp only [hj, if_true] at z
      rcases z with z | z
      · exact ⟨fun q => (E.own i b z).1 (.inl q), tk b (E.own i b z).2⟩
      · exact ⟨hN b z, tk b (E.tr b (.inr z))⟩
    · simp only [hj, if_false] at z
      exact ⟨fun q => (E.own j b z).1 (.inl q), tk b (E.own j b z).2⟩
/-- the step of it -/
theorem stp_upd {i : Nat} {a : Addr} {o0 ob : HO} {Fd : Addr → Prop} (E : EnvO g H (or2 N Fd) σ Γ Fs) (ha : Fs i a) (h0 : H a = some o0) (nt : ¬ isTup o0) : Stp H (L2.upd H a ob) (or2 (U Fs) Fd) (U fun j b => if j = i then or2 (Fs i) Fd b else Fs j b) := by
  have tk : ∀ b, H b ≠ none → L2.upd H a ob b ≠ none := fun b z => by
    by_cases hb : b = a
    · subst hb; rw [upd_same]; simp
    · rw [upd_ne hb]; exact z
  refine ⟨fun b o e z => up_other (fun q => ?_) e, fun b z => ?_, fun b z => ?_⟩
  · subst q
    rcases z with z | ⟨xs, rfl⟩
    · exact z (.inl ⟨i, ha⟩)
    · rw [h0] at e; cases e; exact nt ⟨xs, rfl⟩
  · obtain ⟨j, z⟩ := z
    by_cases hj : j = i
    · simp only [hj, if_true] at z
      exact .inl (z.imp (fun z => ⟨i, z⟩) (fun z => z))
    · simp only [hj, if_false] at z
      exact .inl (.inl ⟨j, z⟩)
  · obtain ⟨j, z⟩ := z
    by_cases hj : j = i
    · simp only [hj, if_true] at z
      exact z.elim (fun z => tk b (E.own i b z).2) fun z => tk b (E.tr b (.inr z))
    · simp only [hj, if_false] at z
      exact tk b (E.own j b z).2
/-- what a change by values asks: the receiver d at v owns Fi, the arguments own Fd; whatever object comes that tells d' serves -/
def ChgQ (g : Gb) (H : Hp) (NF Fi Fd : Addr → Prop) (v : V) (d' : D) (Q : Hp → Prop) : Prop :=
  ∀ a ob, v = .ref a → Fi a → (∃ o0, H a = some o0 ∧ ¬ isTup o0) → Rep g (L2.upd H a ob) NF d' v (or2 Fi Fd) → Q (L2.upd H a ob)
theorem lst_ref {NF Fi : Addr → Prop} {xs : List D} {v : V} (r : Rep g H NF (.lst true xs) v Fi) : ∃ a vs G, v = .ref a ∧ H a = some (.lst vs) ∧ Fi a ∧ ¬ G a ∧ (∀ b, G b → Fi b) ∧ Reps g H NF xs vs G := r
/-- the new list, where its items own part of what there was -/
theorem rep_new {NF Fi Fd : Addr → Prop} {ys : List D} {us : List V} {a : Addr} {K' : Addr → Prop} (hNF : NF a) (h0 : ∃ vs, H a = some (.lst vs)) (fa : Fi a) (ka : ¬ K' a) (ks : ∀ b, K' b → or2 Fi Fd b) (r : Reps g H NF ys us K') : Rep g (L2.upd H a (.lst us)) NF (.lst true ys) (.ref a) (or2 Fi Fd) := by
  refine ⟨a, us, K', rfl, upd_same, .inl fa, ka, ks, Reps.mono (fun _ _ z => z) ys us K' K' (fun b o q z => up_other (fun e => ?_) q) (fun _ z => z) r⟩
  subst e
  obtain ⟨vs, h0⟩ := h0
  rcases z with z | z | ⟨xs, rfl⟩
  · exact z hNF
  · exact ka z
  · rw [h0] at q; cases q
/-- how a method's call by values follows -/
def MtOk (X : Cx) (me : Me) (r : V → List V → Hp → VK → Prop) : Prop :=
  ∀ (H : Hp) (NF Fi Fd : Addr → Prop) (d d' : D) (ds : List D) (v : V) (vs : List V) (Q : Hp → Prop), (∀ b, Fi b → NF b) → (∀ b, Fd b → ¬ Fi b) → Rep (gx X) H NF d v Fi → Reps (gx X) H NF ds vs Fd → mutV me d ds = some d' → ChgQ (gx X) H NF Fi Fd v d' Q → r v vs H fun _ H' => Q H'
theorem mtOk_append : MtOk X .append rAppend := fun H NF Fi Fd d d' ds v vs Q hNF hd r rs e q => by
  replace e : mAppend d ds = some d' := e
  unfold mAppend at e
  split at e
  · rename_i xs y
    by_cases hl : xs.length < lim
    · have e2 := (if_pos hl).symm.trans e
      obtain rfl := Option.some.inj e2
      obtain ⟨a, ws, G, rfl, ha, fa, ga, gs, rx⟩ := lst_ref r
      obtain ⟨u, rfl, ru⟩ := rs.un1
      refine ⟨a, ws, u, rfl, rfl, ha, by rw [rx.length, ← lim_eq]; exact hl, q a _ rfl fa ⟨_, ha, fun ⟨_, z⟩ => nomatch z⟩ (rep_new (K' := or2 G Fd) (hNF a fa) ⟨_, ha⟩ fa (fun z => z.elim ga fun z => hd a z fa) (fun b z => z.imp (gs b) (fun z => z)) ?_)⟩
      exact Reps.append rx (Reps.one ru) (fun _ => .inl) (fun _ => .inr) (fun b z z' => hd b z' (gs b z))
    · have e2 := (if_neg hl).symm.trans e
      cases e2
  · cases e
theorem mtOk_insert : MtOk X .insert (fun x vs H Q => ∃ (l : Addr) (xs : List V) (i : Int) (y : V), x = .ref l ∧ vs = [.int i, y] ∧ H l = some (.lst xs) ∧ xs.length < sizeLine ∧ 0 ≤ i ∧ i < 2 ^ 63 ∧ Q .non (L2.upd H l (.lst (xs.take i.toNat ++ [y] ++ xs.drop i.toNat)))) := fun H NF Fi Fd d d' ds v vs Q hNF hd r rs e q => by
  replace e : mInsert d ds = some d' := e
  unfold mInsert at e
  split at e
  · rename_i xs i y
    by_cases hl : xs.length < lim ∧ 0 ≤ i ∧ i < 9223372036854775808
    · have e2 := (if_pos hl).symm.trans e
      obtain rfl := Option.some.inj e2
      obtain ⟨a, ws, G, rfl, ha, fa, ga, gs, rx⟩ := lst_ref r
      obtain ⟨u1, u, F1, F2, rfl, ri, ru, s1, s2, dj⟩ := rs.un2
      cases (show u1 = V.int i from ri)
      refine ⟨a, ws, i, u, rfl, rfl, ha, by rw [rx.length, ← lim_eq]; exact hl.1, hl.2.1, hl.2.2, q a _ rfl fa ⟨_, ha, fun ⟨_, z⟩ => nomatch z⟩ (rep_new (K' := or2 G Fd) (hNF a fa) ⟨_, ha⟩ fa (fun z => z.elim ga fun z => hd a z fa) (fun b z => z.imp (gs b) (fun z => z)) ?_)⟩
      have spl : ∀ (k : Nat) (xs : List D) (ws : List V) (G : Addr → Prop), Reps (gx X) H NF xs ws G → (∀ b, G b → ¬ F2 b) → Reps (gx X) H NF (xs.take k ++ y :: xs.drop k) (ws.take k ++ u :: ws.drop k) (or2 G F2) := by
        intro k
        induction k with
        | zero =>
          intro xs ws G rx hg
          exact ⟨u, ws, F2, G, rfl, ru, rx, fun _ => .inr, fun _ => .inl, fun b z z' => hg b z' z⟩
        | succ k ih =>
          intro xs ws G rx hg
          cases xs with
          | nil =>
            have rx : ws = [] := rx
            subst rx
            exact ⟨u, [], F2, none0, rfl, ru, rfl, fun _ => .inr, fun _ z => z.elim, fun _ _ z => z⟩
          | cons x xs =>
            obtain ⟨w, wr, G1, G2, rfl, x1, x2, t1, t2, tj⟩ := rx
            refine ⟨w, _, G1, or2 G2 F2, rfl, x1, ih xs wr G2 x2 (fun b z => hg b (t2 b z)), fun b z => .inl (t1 b z), fun b z => z.imp (t2 b) (fun z => z), fun b z z' => ?_⟩
            rcases z' with z' | z'
            · exact tj b z z'
            · exact hg b (t1 b z) z'
      have := spl i.toNat xs ws G rx (fun b z z' => hd b (s2 b z') (gs b z))
      rw [List.append_assoc]
      exact this.sub fun b z => z.imp (fun z => z) (s2 b)
    · have e2 := (if_neg hl).symm.trans e
      cases e2
  · cases e
theorem mtOk_popAt : MtOk X .popAt rPopAt := fun H NF Fi Fd d d' ds v vs Q hNF hd r rs e q => by
  replace e : mPopAt d ds = some d' := e
  unfold mPopAt at e
  split at e
  · rename_i xs i
    by_cases h0 : 0 ≤ i ∧ i < xs.length ∧ i < 9223372036854775808
    · obtain ⟨h0, hl⟩ := h0
      · have e2 := (if_pos (And.intro h0 hl)).symm.trans e
        obtain rfl := Option.some.inj e2
        obtain ⟨a, ws, G, rfl, ha, fa, ga, gs, rx⟩ := lst_ref r
        obtain ⟨u1, rfl, ri⟩ := rs.un1
        cases (show u1 = V.int i from ri)
        have hlen := rx.length
        have hlt : i.toNat < ws.length := by omega
        refine ⟨a, ws, i, i.toNat, ws[i.toNat], rfl, rfl, ha, by omega, hl.2, seqIndex_of h0 (by omega), List.getElem?_eq_getElem hlt, q a _ rfl fa ⟨_, ha, fun ⟨_, z⟩ => nomatch z⟩ (rep_new (K' := G) (hNF a fa) ⟨_, ha⟩ fa ga (fun b z => .inl (gs b z)) ?_)⟩
        have er : ∀ (k : Nat) (xs : List D) (ws : List V) (G : Addr → Prop), Reps (gx X) H NF xs ws G → Reps (gx X) H NF (xs.eraseIdx k) (ws.eraseIdx k) G := by
          intro k
          induction k with
          | zero =>
            intro xs ws G rx
            cases xs with
            | nil => have rx : ws = [] := rx; subst rx; exact rfl
            | cons x xs => obtain ⟨w, wr, G1, G2, rfl, x1, x2, t1, t2, tj⟩ := rx; exact x2.sub t2
          | succ k ih =>
            intro xs ws G rx
            cases xs with
            | nil => have rx : ws = [] := rx; subst rx; exact rfl
            | cons x xs => obtain ⟨w, wr, G1, G2, rfl, x1, x2, t1, t2, tj⟩ := rx; exact ⟨w, _, G1, G2, rfl, x1, ih xs wr G2 x2, t1, t2, tj⟩
        exact er _ _ _ _ rx
    · have e2 := (if_neg h0).symm.trans e
      cases e2
  · cases e
/-- x.m(..) as a statement -/
theorem ss_mut (i : Nat) {me : Me} {id : String} {name x : Str} {e : Expr} {es : List Expr} {xs : List XE} {np apos cpos pos : Pos} {r : V → List V → Hp → VK → Prop} (slot : Slot "list" name id) (hty : typeOf (.builtin id) = pure (.type "method_descriptor")) (hm : MtR X id r) (ok : MtOk X me r) (ha : SXs X C W (e :: es) xs)
    (hN : X.N[i]? = some x := by rfl) (hv : Vis X.env.scope x := by first | exact Or.inl rfl | exact Or.inr (Or.inl rfl) | exact Or.inr (Or.inr rfl)) (hdb : (x == ("__debug__" : Str)) = false := by decide) (hcd : (x == ("__classdict__" : Str)) = false := by decide)
    (hbase : attributeBase (.Name x np) name X.env (eval (.Name x np) X.env) = eval (.Name x np) X.env := by rfl)
    (hfew : ((backTo cpos (starEach (e :: es) X.env)).all (fun x => !x.1) && (backToKw cpos (keywordEach [] X.env)).all (fun x => x.1.isSome)
      && decide ((e :: es).length + ([] : List Keyword).length + (if ([] : List Keyword).isEmpty then 0 else 1) < 30)) = true := by rfl)
    (hline : (apos.endLine == cpos.line) = true := by rfl) (hs : starEach (e :: es) X.env = (false, eval e X.env) :: starEach es X.env := by rfl) (hplain : (backTo cpos (starEach es X.env)).any (·.1) = false := by rfl)
    (hsw : swapsWith (.Call (.Attribute (.Name x np) name apos) (e :: es) [] cpos) none pos.line X.env = pure false := by rfl) :
    SS X C W n ro (.Expr (.Call (.Attribute (.Name x np) name apos) (e :: es) [] cpos) pos) (.mut i me xs) := ⟨PS.imp (ps_expr (pe_bm PySem.F.plainAttrs_list slot hty hm (pe_var hN hv hdb hcd) ha.pa hbase hfew hline hs hplain) hsw) fun D σ H h => by
  obtain ⟨N, Γ, Fs, E, p⟩ := h
  have p : Post (gx X) N σ H Fs D ro W ((get1 Γ i).out Γ fun d0 => if isLst d0 = false then .bad else (evXs C Γ xs).out Γ fun p => (Rs.of (plain p.1)).out Γ fun ds => (get1 p.2 i).out Γ fun d => (Rs.of (mutV me d ds)).out Γ fun d' => .nx (p.2.set i (some d'))) := p
  unfold get1 at p
  split at p
  rotate_left
  · exact p.elim
  rename_i d0 ed0
  obtain ⟨v, hv0, rd0⟩ := E.rep i d0 ed0
  have p : Post (gx X) N σ H Fs D ro W (if isLst d0 = false then .bad else (evXs C Γ xs).out Γ fun p => (Rs.of (plain p.1)).out Γ fun ds => (match p.2[i]? with | some (some d) => Rs.ok d | _ => .bad).out Γ fun d => (Rs.of (mutV me d ds)).out Γ fun d' => .nx (p.2.set i (some d'))) := p
  cases d0 <;> (try exact p.elim)
  rename_i o0 xs0
  obtain ⟨a0, vs0, G0, rfl, ha0, _, _⟩ := rd0.lstInv
  have p : Post (gx X) N σ H Fs D ro W ((evXs C Γ xs).out Γ fun p => (Rs.of (plain p.1)).out Γ fun ds => (match p.2[i]? with | some (some d) => Rs.ok d | _ => .bad).out Γ fun d => (Rs.of (mutV me d ds)).out Γ fun d' => .nx (p.2.set i (some d'))) := p
  refine ⟨.ref a0, hv0, .inl ⟨rfl, vs0, SqL.of ha0⟩, N, Γ, Fs, E, Rs.wp_mono (out_wp p) (fun q p vs H1 Fs1 Fd1 s1 E1 r1 => ?_) fun _ z => z⟩
  obtain ⟨ds, e1, p⟩ := Rs.wp_of (out_wp p)
  have p := out_wp p
  split at p
  rotate_left
  · exact p.elim
  rename_i d ed
  obtain ⟨d', e2, p⟩ := Rs.wp_of (out_wp (show Post (gx X) N σ H Fs D ro W ((Rs.of (mutV me d ds)).out Γ fun d' => .nx (q.2.set i (some d'))) from p))
  obtain ⟨v1, h1, rd⟩ := E1.rep i d ed
  rw [hv0] at h1
  cases h1
  refine ok H1 (or2 N (or2 (U Fs1) Fd1)) (Fs1 i) Fd1 d d' ds (.ref a0) vs (fun H' => D.nx σ H') (fun b z => .inr (.inl ⟨i, z⟩)) (fun b z z' => (E1.own i b z').1 (.inr z)) (Rep.mono (fun b _ nz z => nz (z.elim (fun z => .inl (.inl z)) fun z => z.elim .inr fun z => .inl (.inr z))) d _ _ _ (fun _ _ q _ => q) (fun _ z => z) rd) (Args.plain e1 r1) e2 fun a ob ea fa ⟨o1, h0, nt⟩ r' => ?_
  exact p σ _ _ (s1.trans (stp_upd (ob := ob) E1 fa h0 nt) fun _ z => z) (fun _ _ => rfl) (E1.upd (fun b z => stp_dj E s1 b (.inr z)) hv0 fa h0 nt r')⟩
end
end RW

namespace RW
open PySem L2 PySem.Spec PyProof.Rows
section
variable {g : Gb} {X : Cx} {C : Cl} {W : Str → Hp → Prop} {σ σ1 : L2.St} {H H1 : Hp} {N : Addr → Prop} {Fs Fs1 : Nat → Addr → Prop} {De : Ends} {ro : List Nat} {n : Nat} {Γ : En}
/-! ### d[k] = v -/
def rSet2 (X : Cx) : TSet := fun o i v H Q => rSetL o i v H Q ∨ rDSet (gx X) o i v H Q
theorem pset2 (hu : X.A.units + 20 < cLine) : PSet X (rSet2 X) := fun pins s σ H o i v ov iv u Q I r1 r2 r3 h => h.elim (set_list pins s σ H o i v ov iv u Q I r1 r2 r3) (fun h => d_set' hu I r1 r2 r3 h)
theorem Reps.setN {NF : Addr → Prop} {d : D} {u : V} {Fd : Addr → Prop} (rd : Rep g H NF d u Fd) : ∀ (k : Nat) {ds : List D} {vs : List V} {G : Addr → Prop}, Reps g H NF ds vs G → (∀ b, G b → ¬ Fd b) → Reps g H NF (ds.set k d) (vs.set k u) (or2 G Fd)
  | k, [], vs, G, r, _ => by
    have r : vs = [] := r
    subst r
    exact rfl
  | 0, x :: ds, vs, G, ⟨v, w, G1, G2, e, x1, x2, s1, s2, dj⟩, hd => by
    subst e
    exact ⟨u, w, Fd, G2, rfl, rd, x2, fun _ => .inr, fun b z => .inl (s2 b z), fun b z z' => hd b (s2 b z') z⟩
  | k + 1, x :: ds, vs, G, ⟨v, w, G1, G2, e, x1, x2, s1, s2, dj⟩, hd => by
    subst e
    refine ⟨v, w.set k u, G1, or2 G2 Fd, rfl, x1, Reps.setN rd k x2 (fun b z => hd b (s2 b z)), fun b z => .inl (s1 b z), fun b z => z.imp (s2 b) (fun z => z), fun b z z' => ?_⟩
    rcases z' with z' | z'
    · exact dj b z z'
    · exact hd b (s1 b z) z'
theorem put_ok {NF Fi Fd Fk : Addr → Prop} {d k y d' : D} {v kv u : V} {Q : Hp → Prop} (hNF : ∀ b, Fi b → NF b) (hd : ∀ b, Fd b → ¬ Fi b) (r : Rep (gx X) H NF d v Fi) (rk : Rep (gx X) H NF k kv Fk) (fk : flat k = true) (ry : Rep (gx X) H NF y u Fd) (e : putV d k y = some d') (q : ChgQ (gx X) H NF Fi Fd v d' Q) : rSet2 X v kv u H Q := by
  unfold putV at e
  split at e
  · rename_i xs i
    have hix : ∃ j, (ixN xs.length i = some j) ∧ d' = .lst true (xs.set j y) := by
      unfold ixN
      by_cases h0 : 0 ≤ i
      · have e := (if_pos h0).symm.trans e
        by_cases h1 : i < (xs.length : Int)
        · have e := (if_pos h1).symm.trans e
          cases e
          exact ⟨i.toNat, by rw [if_pos h0, if_pos h1], rfl⟩
        · have e := (if_neg h1).symm.trans e
          cases e
      · have e := (if_neg h0).symm.trans e
        by_cases h1 : -(xs.length : Int) ≤ i
        · have e := (if_pos h1).symm.trans e
          cases e
          exact ⟨(i + xs.length).toNat, by rw [if_neg h0, if_pos h1], rfl⟩
        · have e := (if_neg h1).symm.trans e
          cases e
    obtain ⟨j, hj, rfl⟩ := hix
    obtain ⟨a, ws, G, rfl, ha, fa, ga, gs, rx⟩ := lst_ref r
    cases (show kv = V.int i from rk)
    refine .inl ⟨a, ws, i, j, rfl, rfl, ha, by rw [rx.length]; exact hj, q a _ rfl fa ⟨_, ha, fun ⟨_, z⟩ => nomatch z⟩ (rep_new (K' := or2 G Fd) (hNF a fa) ⟨_, ha⟩ fa (fun z => z.elim ga fun z => hd a z fa) (fun b z => z.imp (gs b) (fun z => z)) ?_)⟩
    exact Reps.setN ry j rx fun b z z' => hd b z' (gs b z)
  · rename_i ks vs
    by_cases hl : keyOk k ks = true ∧ flat k = true ∧ ks.length < lim ∧ vs.length = ks.length
    · have e2 := (if_pos hl).symm.trans e
      obtain rfl := Option.some.inj e2
      obtain ⟨a, kvs, us, G, rfl, da, rks, fa, ga, gs, rx⟩ := id r
      have rk0 : Rep (gx X) H NF k kv none0 := Rep.noF k kv _ fk rk
      refine .inr ⟨a, ks, kvs, us, k, NF, none0, none0, rfl, da, rks, rk0, hl.1, by rw [rx.length, hl.2.2.2], hl.2.2.1, fun ob nt da' => ?_⟩
      obtain ⟨o0, h0, nt0⟩ := da.some
      have up : ∀ {ds : List D} {ws : List V} {F : Addr → Prop}, ¬ F a → Reps (gx X) H NF ds ws F → Reps (gx X) (L2.upd H a ob) NF ds ws F := fun {ds ws F} nf r => Reps.mono (fun _ _ z => z) ds ws F F (fun b o q z => up_other (fun e => by
        subst e
        rcases z with z | z | ⟨xs, rfl⟩
        · exact z (hNF b fa)
        · exact nf z
        · rw [h0] at q; cases q; exact nt0 ⟨xs, rfl⟩) q) (fun _ z => z) r
      refine q a ob rfl fa ⟨o0, h0, nt0⟩ ?_
      unfold putD
      by_cases hk : hasKey k ks = true
      · rw [if_pos hk, if_pos hk, if_pos hk] at da'
        rw [if_pos hk]
        exact ⟨a, kvs, _, or2 G Fd, rfl, da', up (fun z => z) rks, .inl fa, fun z => z.elim ga fun z => hd a z fa, fun b z => z.imp (gs b) (fun z => z), up (fun z => z.elim ga fun z => hd a z fa) (Reps.put ry rx (fun _ => .inl) (fun _ => .inr) fun b z z' => hd b z (gs b z'))⟩
      · rw [if_neg hk, if_neg hk, if_neg hk] at da'
        rw [if_neg hk]
        exact ⟨a, _, _, or2 G Fd, rfl, da', up (fun z => z) (Reps.append rks (Reps.one rk0) (fun _ z => z) (fun _ z => z) (fun _ z => z.elim)), .inl fa, fun z => z.elim ga fun z => hd a z fa, fun b z => z.imp (gs b) (fun z => z),
          up (fun z => z.elim ga fun z => hd a z fa) (Reps.append rx (Reps.one ry) (fun _ => .inl) (fun _ => .inr) fun b z z' => hd b z' (gs b z))⟩
    · have e2 := (if_neg hl).symm.trans e
      cases e2
  · cases e
theorem ss_put (i : Nat) {x : Str} {e ke : Expr} {m : XE} {mk : E} {np p1 pos : Pos} (hu : X.A.units + 20 < cLine) (he : SX X C W e m) (hk : SE X C W ke mk) (hN : X.N[i]? = some x := by rfl) (hv : Vis X.env.scope x := by first | exact Or.inl rfl | exact Or.inr (Or.inl rfl) | exact Or.inr (Or.inr rfl)) (hdb : (x == ("__debug__" : Str)) = false := by decide) (hcd : (x == ("__classdict__" : Str)) = false := by decide)
    (ha : ∀ v, assign (.Subscript (.Name x np) ke p1) X.env v = (do
      let ov ← holding [v] (eval (.Name x np) X.env)
      let iv ← holding [v, ov] (eval ke X.env)
      standAt p1
      holding [v, ov, iv] (setItem ov iv v)
      release [v, ov, iv] []) := by intro _; rfl)
    (hs : swapsWithSole [.Subscript (.Name x np) ke p1] e pos.line X.env = pure false := by rfl) (hw : swappedStores [.Subscript (.Name x np) ke p1] e X.env = pure none := by rfl)
    (h1 : (assignEach [.Subscript (.Name x np) ke p1] X.env).map (·.2) = [assign (.Subscript (.Name x np) ke p1) X.env] := by rfl) : SS X C W n ro (.Assign [.Subscript (.Name x np) ke p1] e pos) (.put i mk m) :=
  ⟨PS.imp (ps_asg he.pe (pg_sub (pe_var hN hv hdb hcd) hk.pe (pset2 hu) ha) hs hw h1) fun D σ H h => by
    obtain ⟨N, Γ, Fs, E, p⟩ := h
    have p : Post (gx X) N σ H Fs D ro W ((evX C Γ m).out Γ fun q => (get1 q.2 i).out Γ fun d => (ev C q.2 mk).out Γ fun k => if flat k then (Rs.of (putV d k q.1)).out Γ fun d' => .nx (q.2.set i (some d')) else .bad) := p
    refine ⟨N, Γ, Fs, E, Rs.wp_mono (out_wp p) (fun q p v H1 Fs1 Fd1 s1 E1 r1 => ?_) fun _ z => z⟩
    unfold get1 at p
    split at p
    rotate_left
    · exact p.elim
    rename_i d ed
    obtain ⟨o, ho, rd⟩ := E1.rep i d ed
    have p : Post (gx X) N σ H Fs D ro W ((ev C q.2 mk).out Γ fun k => if flat k then (Rs.of (putV d k q.1)).out Γ fun d' => .nx (q.2.set i (some d')) else .bad) := p
    refine ⟨o, ho, or2 N Fd1, q.2, E1.tr, E1.see _, Rs.wp_mono (out_wp p) (fun k p kv H2 F2 s2 f2 r2 => ?_) fun c z H' s' => z H' (Kept.trans (s1.sub fun a z => .inl z) fun a o e _ => s' a o e)⟩
    by_cases hf : flat k = true
    · rw [if_pos hf] at p
      obtain ⟨d', e2, p⟩ := Rs.wp_of (out_wp p)
      have E2 := E1.same s2 (tr_same s2 E1.tr) fun a z => .inl z
      have s12 : Stp H H2 (U Fs) (or2 (U Fs1) Fd1) := ⟨fun a o e z => s2 a o (s1.kp a o e z), s1.fr, fun a z => tr_same s2 (NF := or2 (U Fs1) Fd1) s1.tk a z⟩
      refine put_ok (NF := or2 N (or2 (U Fs1) Fd1)) (Fi := Fs1 i) (Fd := Fd1) (fun b z => .inr (.inl ⟨i, z⟩)) (fun b z z' => (E1.own i b z').1 (.inr z)) ?_ (Rep.noF k kv _ hf r2) hf ?_ e2 fun a ob ea fa ⟨o1, h0, nt⟩ r' => ?_
      · exact Rep.mono (fun b _ nz z => nz (z.elim (fun z => .inl (.inl z)) fun z => z.elim .inr fun z => .inl (.inr z))) d o _ _ (fun b o q _ => s2 b o q) (fun _ z => z) rd
      · exact Rep.mono (fun _ _ z => z) q.1 v _ _ (fun b o q _ => s2 b o q) (fun _ z => z) r1
      · exact p σ _ _ (s12.trans (stp_upd (ob := ob) E2 fa h0 nt) fun _ z => z) (fun _ _ => rfl) (E2.upd (fun b z => stp_dj E s1 b (.inr z)) ho fa h0 nt r')
    · rw [if_neg hf] at p
      exact p.elim⟩
/-! ### targets -/
theorem EnvO.store0 {d : D} {v : V} (E : EnvO g H N σ Γ Fs) (r : Rep g H (or2 N (U Fs)) d v none0) (i : Nat) : EnvO g H N (σ.set i (some v)) (Γ.set i (some d)) (fun j a => if j = i then none0 a else Fs j a) :=
  EnvO.store (Fd := none0) (E.n fun a => ⟨fun z => z.elim (fun z => z) fun z => z.elim, .inl⟩) (fun _ z => z.elim) (Rep.mono (fun _ _ nz z => nz (z.imp (fun z => z) fun z => z.elim (fun z => z) fun z => z.elim)) d v none0 none0 (fun _ _ q _ => q) (fun _ z => z) r) i
theorem EnvO.storeAll : ∀ (is : List Nat) (ds : List D) (vs : List V) {σ : L2.St} {Γ : En} {Fs : Nat → Addr → Prop}, EnvO g H N σ Γ Fs → Reps g H (or2 N (U Fs)) ds vs none0 → ∃ Fs', EnvO g H N (setS σ is vs) (setE Γ is ds) Fs' ∧ ∀ a, U Fs' a → U Fs a
  | [], ds, vs, σ, Γ, Fs, E, _ => by
    have e1 : setS σ [] vs = σ := by cases vs <;> rfl
    have e2 : setE Γ [] ds = Γ := by cases ds <;> rfl
    rw [e1, e2]; exact ⟨Fs, E, fun _ z => z⟩
  | i :: is, [], vs, σ, Γ, Fs, E, r => by
    have r : vs = [] := r
    subst r
    exact ⟨Fs, E, fun _ z => z⟩
  | i :: is, d :: ds, vs, σ, Γ, Fs, E, ⟨v, u, F1, F2, e, x1, x2, s1, s2, dj⟩ => by
    subst e
    have E1 := E.store0 (x1.sub s1) i
    have sub : ∀ a, U (fun j a => if j = i then none0 a else Fs j a) a → U Fs a := fun a z => by
      rcases U_store z with z | z
      · exact z
      · exact z.elim
    obtain ⟨Fs', E2, h2⟩ := EnvO.storeAll is ds u E1 (Reps.mono (fun a _ nz z => nz (z.imp (fun z => z) (sub a))) ds u none0 none0 (fun _ _ q _ => q) (fun _ z => z) (x2.sub s2))
    exact ⟨Fs', E2, fun a z => sub a (h2 a z)⟩
theorem setS_ro : ∀ (is : List Nat) (vs : List V) (σ : L2.St), (∀ i ∈ is, ro.contains i = false) → ∀ j ∈ ro, (setS σ is vs)[j]? = σ[j]?
  | [], vs, σ, _, j, _ => by cases vs <;> rfl
  | i :: is, [], σ, _, j, _ => rfl
  | i :: is, v :: vs, σ, h, j, hj => by
    show (setS (σ.set i (some v)) is vs)[j]? = _
    rw [setS_ro is vs _ (fun k hk => h k (List.mem_cons_of_mem _ hk)) j hj]
    exact set_ro (h i List.mem_cons_self) j hj
/-- behind a target -/
theorem bind_ok {one : Bool} {is : List Nat} {d : D} {x : V} {Γ' : En} {R : L2.St → Hp → Prop} (E : EnvO g H N σ Γ Fs) (r : Rep g H (or2 N (U Fs)) d x none0) (hr : ∀ i ∈ is, ro.contains i = false) (e : bindT one is d Γ = .ok Γ')
    (h : ∀ σ' Fs', EnvO g H N σ' Γ' Fs' → (∀ a, U Fs' a → U Fs a) → (∀ j ∈ ro, σ'[j]? = σ[j]?) → R σ' H) : tG one is x σ H R := by
  unfold bindT at e
  cases one with
  | true =>
    rw [if_pos rfl] at e
    split at e
    · rename_i i
      cases e
      show ∃ i', [i] = [i'] ∧ _
      refine ⟨i, rfl, h _ _ (E.store0 r i) (fun a z => (U_store z).elim (fun z => z) fun z => z.elim) (set_ro (hr i (List.mem_singleton.mpr rfl)))⟩
    · cases e
  | false =>
    rw [if_neg Bool.false_ne_true] at e
    split at e
    · rename_i ds
      by_cases hl : ds.length = is.length
      · rw [if_pos hl] at e
        cases e
        obtain ⟨a, us, rfl, ha, ru⟩ := r.tupInv
        obtain ⟨Fs', E', h'⟩ := EnvO.storeAll is ds us E ru
        show ∃ a xs, _
        exact ⟨a, us, rfl, .inl ha, by rw [ru.length, hl], h _ Fs' E' h' (setS_ro is us σ hr)⟩
      · rw [if_neg hl] at e; cases e
    · rename_i ds
      by_cases hl : ds.length = is.length
      · rw [if_pos hl] at e
        cases e
        obtain ⟨a, us, rfl, ha, na, ru⟩ := r
        obtain ⟨Fs', E', h'⟩ := EnvO.storeAll is ds us E ru
        show ∃ a xs, _
        exact ⟨a, us, rfl, .inr ha, by rw [ru.length, hl], h _ Fs' E' h' (setS_ro is us σ hr)⟩
      · rw [if_neg hl] at e; cases e
    · cases e
theorem ss_unp {is : List Nat} {tg e : Expr} {m : XE} {pos : Pos} (he : SX X C W e m) (hg : SG X tg false is) (hs : swapsWithSole [tg] e pos.line X.env = pure false := by rfl) (hw : swappedStores [tg] e X.env = pure none := by rfl)
    (h1 : (assignEach [tg] X.env).map (·.2) = [assign tg X.env] := by rfl) : SS X C W n ro (.Assign [tg] e pos) (.unp is m) := ⟨PS.imp (ps_asg he.pe hg.pg hs hw h1) fun D σ H h => by
  obtain ⟨N, Γ, Fs, E, p⟩ := h
  have p : Post (gx X) N σ H Fs D ro W ((evX C Γ m).out Γ fun q => if is.any ro.contains then .bad else (bindT false is (fz q.1) q.2).out Γ fun Γ' => .nx Γ') := p
  refine ⟨N, Γ, Fs, E, Rs.wp_mono (out_wp p) (fun q p v H1 Fs1 Fd1 s1 E1 r1 => ?_) fun _ z => z⟩
  cases hro : is.any ro.contains with
  | true => rw [hro] at p; exact p.elim
  | false =>
    rw [hro] at p
    have p : Post (gx X) N σ H Fs D ro W ((bindT false is (fz q.1) q.2).out Γ fun Γ' => .nx Γ') := p
    cases eb : bindT false is (fz q.1) q.2 with
    | bad => rw [eb] at p; exact p.elim
    | exc c =>
      exfalso
      unfold bindT at eb
      rw [if_neg Bool.false_ne_true] at eb
      split at eb
      · split at eb <;> cases eb
      · split at eb <;> cases eb
      · cases eb
    | ok Γ' =>
      rw [eb] at p
      have E1' : EnvO (gx X) H1 N σ q.2 Fs1 := E1.same same_refl (fun a z => E1.tr a (.inl z)) fun a z => .inl (.inl z)
      refine bind_ok (ro := ro) E1' (Rep.fz (fun a _ nz z => nz (z.imp (fun z => z) .inl)) q.1 v Fd1 (fun a z z' => ?_) r1) (fun i hi => ?_) eb fun σ' Fs' E2 h2 hr => p σ' H1 Fs' (s1.sub fun a z => .inl (h2 a z)) hr E2
      · rcases z' with z' | ⟨i, z'⟩
        · exact stp_dj E s1 a (.inr z) z'
        · exact (E1.own i a z').1 (.inr z)
      · cases hc : ro.contains i with
        | false => rfl
        | true =>
          have : is.any ro.contains = true := List.any_eq_true.mpr ⟨i, hi, hc⟩
          rw [hro] at this; cases this⟩
end
end RW

namespace RW
open PySem L2 PySem.Spec PyProof.Rows
section
variable {g : Gb} {X : Cx} {C : Cl} {W : Str → Hp → Prop} {σ σ1 : L2.St} {H H1 : Hp} {N : Addr → Prop} {Fs Fs1 : Nat → Addr → Prop} {ro : List Nat} {n : Nat} {Γ : En}
/-! ### for -/
theorem get1_ok {Γ : En} {i : Nat} {d : D} (h : get1 Γ i = .ok d) : Γ[i]? = some (some d) := by
  unfold get1 at h
  split at h
  · rename_i d' e; cases h; exact e
  · cases h
theorem get1_exc {Γ : En} {i : Nat} {c : Str} (h : get1 Γ i = .exc c) : False := by
  unfold get1 at h
  split at h <;> cases h
def turnF (C : Cl) (n : Nat) (ro : List Nat) (one : Bool) (tg : List Nat) (ms : List S) : D → En → Out1 := fun x Γ => (bindT one tg (fz x) Γ).out Γ fun Γ' => execs C n ro Γ' ms
theorem bindT_exc {one : Bool} {is : List Nat} {d : D} {Γ : En} {c : Str} (h : bindT one is d Γ = .exc c) : False := by
  unfold bindT at h
  cases one with
  | true =>
    rw [if_pos rfl] at h
    split at h <;> cases h
  | false =>
    rw [if_neg Bool.false_ne_true] at h
    split at h
    · split at h <;> cases h
    · split at h <;> cases h
    · cases h
/-- the turns, from any state -/
theorem for_ok {N0 M : Addr → Prop} {J : It} {xs : List D} {one : Bool} {tg : List Nat} {ms : List S} {De : Ends} {σ0 : L2.St} (E : EnvO g H1 N σ0 Γ Fs1) (io : ItOk g N0 M J H1 xs) (p1 : ∀ a, U Fs1 a → N0 a) (p2 : ∀ a, or2 N (U Fs1) a → M a) (hr : ∀ i ∈ tg, ro.contains i = false)
    (p : Post g N σ0 H1 Fs1 De ro W (forGo (turnF C n ro one tg ms) xs Γ)) :
    ∃ Wt : Nat → Nat → L2.St → Hp → Prop, (∃ m, Wt 0 m σ0 H1) ∧ ∀ i m σ H, Wt i m σ H → (J.stop i H ∧ De.nx σ H) ∨ (J.go i H ∧ ∃ Nn : L2.St → Hp → Prop, (∀ σ' H', Nn σ' H' → ∃ m', m' < m ∧ Wt (i + 1) m' σ' H') ∧
      ∀ x H', J.yld i H x H' → tG one tg x σ H' fun σ2 H2 => (fun D σ H => ∃ ro, tSs g C W n ro ms D σ H) { De with nx := Nn, ct := Nn, bk := De.nx } σ2 H2) := by
  obtain ⟨Wv, hW⟩ : ∃ Wv : Nat → L2.St → Hp → Prop, Wv = fun i σ' H' => ∃ Γ' Fs', EnvO g H' N σ' Γ' Fs' ∧ Stp H1 H' (U Fs1) (U Fs') ∧ Post g N σ' H' Fs' De ro W (forGo (turnF C n ro one tg ms) (xs.drop i) Γ') := ⟨_, rfl⟩
  refine ⟨fun i m σ' H' => m = xs.length - i ∧ i ≤ xs.length ∧ Wv i σ' H', ⟨xs.length, by simp, Nat.zero_le _, ?_⟩, ?_⟩
  · rw [hW]
    exact ⟨Γ, Fs1, E, Stp.refl (fun _ z => z) (fun a ⟨i, z⟩ => (E.own i a z).2), by rw [List.drop_zero]; exact p⟩
  rintro i m σ' H' ⟨rfl, hle, wv⟩
  rw [hW] at wv
  obtain ⟨Γ', Fs', E', st, pp⟩ := wv
  have io2 := io i H' (or2 N (U Fs')) (fun a o e z => st.kp a o e (z.imp (fun z q => z (p1 a q)) (fun z => z))) (fun a hn nz z => nz (p2 a (by
    rcases z with z | z
    · exact .inl z
    · rcases st.fr a z with q | q
      · exact .inr q
      · exact absurd q hn))) (fun a z => z.elim (E'.tr a) fun ⟨i, z⟩ => (E'.own i a z).2)
  by_cases hlt : i < xs.length
  · have hx : xs[i]? = some xs[i] := by simp [hlt]
    obtain ⟨go, yl⟩ := io2.1 _ hx
    refine .inr ⟨go, Wv (i + 1), fun σ2 H2 p' => ⟨xs.length - (i + 1), by omega, rfl, hlt, p'⟩, fun x H2 y => ?_⟩
    obtain ⟨s2, rx⟩ := yl x H2 y
    rw [List.drop_eq_getElem_cons hlt] at pp
    have pp : Post g N σ' H' Fs' De ro W (match turnF C n ro one tg ms xs[i] Γ' with
      | .nx Γ' => forGo (turnF C n ro one tg ms) (xs.drop (i + 1)) Γ'
      | .ct Γ' => forGo (turnF C n ro one tg ms) (xs.drop (i + 1)) Γ'
      | .bk Γ' => .nx Γ'
      | o => o) := pp
    unfold turnF at pp
    cases eb : bindT one tg (fz xs[i]) Γ' with
    | bad => rw [eb] at pp; exact pp.elim
    | exc c => exact (bindT_exc eb).elim
    | ok Γ2 =>
    rw [eb] at pp
    have E2 := E'.same s2 (tr_same s2 E'.tr) fun a z => .inl z
    have st2 : Stp H' H2 (U Fs') (U Fs') := ⟨fun a o e _ => s2 a o e, fun a z => .inl z, fun a ⟨i, z⟩ => (E2.own i a z).2⟩
    refine bind_ok (ro := ro) E2 rx hr eb fun σ3 Fs3 E3 h3 hro => ⟨ro, N, Γ2, Fs3, E3, ?_⟩
    have st3 : Stp H' H2 (U Fs') (U Fs3) := st2.sub h3
    have st13 : Stp H1 H2 (U Fs1) (U Fs3) := st.trans st3 fun _ z => z
    have pp : Post g N σ' H' Fs' De ro W (match execs C n ro Γ2 ms with
      | .nx Γ' => forGo (turnF C n ro one tg ms) (xs.drop (i + 1)) Γ'
      | .ct Γ' => forGo (turnF C n ro one tg ms) (xs.drop (i + 1)) Γ'
      | .bk Γ' => .nx Γ'
      | o => o) := pp
    cases eo : execs C n ro Γ2 ms with
    | nx Γ4 =>
      rw [eo] at pp
      intro σ4 H4 Fs4 s4 r4 E4
      show Wv (i + 1) σ4 H4
      rw [hW]
      exact ⟨Γ4, Fs4, E4, st13.trans s4 fun _ z => z, Post.step pp (st3.trans s4 fun _ z => z) fun i hi => (r4 i hi).trans (hro i hi)⟩
    | ct Γ4 =>
      rw [eo] at pp
      intro σ4 H4 Fs4 s4 r4 E4
      show Wv (i + 1) σ4 H4
      rw [hW]
      exact ⟨Γ4, Fs4, E4, st13.trans s4 fun _ z => z, Post.step pp (st3.trans s4 fun _ z => z) fun i hi => (r4 i hi).trans (hro i hi)⟩
    | bk Γ4 =>
      rw [eo] at pp
      intro σ4 H4 Fs4 s4 r4 E4
      exact pp σ4 H4 Fs4 (st3.trans s4 fun _ z => z) (fun i hi => (r4 i hi).trans (hro i hi)) E4
    | rt d Γ4 =>
      rw [eo] at pp
      intro v σ4 H4 Fs4 Fd s4 r4 E4 rr
      exact pp v σ4 H4 Fs4 Fd (st3.trans s4 fun _ z => z) (fun i hi => (r4 i hi).trans (hro i hi)) E4 rr
    | exc c Γ4 =>
      rw [eo] at pp
      exact fun H4 k => pp H4 (Kept.trans st3 k)
    | bad => rw [eo] at pp; exact pp.elim
  · have e : i = xs.length := by omega
    subst e
    rw [List.drop_length] at pp
    have pp : Post g N σ' H' Fs' De ro W (.nx Γ') := pp
    exact .inl ⟨io2.2 (Nat.le_refl _), pp σ' H' Fs' (Stp.refl (fun _ z => z) fun a ⟨i, z⟩ => (E'.own i a z).2) (fun _ _ => rfl) E'⟩
theorem ss_for {hide : Option Nat} {tgE it : Expr} {body : List Stmt} {one : Bool} {tg : List Nat} {mi : E} {ms : List S} {pos : Pos} (hp : PassesOwn (model X.prog X.w) X.A X.env X.xe) (hc : X.calm = true) (hi : SI X C W tgE it mi) (hg : SG X tgE one tg) (hb : ∀ ro, SSs X C W n ro body ms)
    (hh : ∀ i, hide = some i → mi = .v i) (hs : ∀ x, foldedSetIterable it X.env x = pure x := by intro _; rfl) : SS X C W n ro (.For tgE it body [] pos) (.fr hide one tg mi ms) := by
  have hbb : PSs X body (fun D σ H => ∃ ro, tSs (gx X) C W n ro ms D σ H) := ⟨fun pins s σ H D I ⟨ro, h⟩ => (hb ro).pss.run pins s σ H D I h⟩
  refine ⟨PS.imp (ps_for hp hc hi.pi hg.pg hbb hs) fun De σ H h => ?_⟩
  obtain ⟨N, Γ, Fs, E, p⟩ := h
  have p : Post (gx X) N σ H Fs De ro W ((ev C Γ mi).out Γ fun d => (Rs.of (items d)).out Γ fun xs => frRun hide ro tg (vars mi) d xs (fun ro => turnF C n ro one tg ms) Γ) := p
  cases ed : ev C Γ mi with
  | bad => rw [ed] at p; exact p.elim
  | exc c =>
    rw [ed] at p
    exact ⟨N, Γ, E.tr, E.see _, by rw [ed]; exact fun H' s => p H' fun a o e _ => s a o e⟩
  | ok d =>
  rw [ed] at p
  obtain ⟨xs, exs, p⟩ := Rs.wp_of (out_wp (show Post (gx X) N σ H Fs De ro W ((Rs.of (items d)).out Γ fun xs => frRun hide ro tg (vars mi) d xs (fun ro => turnF C n ro one tg ms) Γ) from p))
  unfold frRun at p
  cases hro : tg.any ro.contains with
  | true => rw [hro] at p; exact p.elim
  | false =>
  rw [hro, if_neg Bool.false_ne_true] at p
  have hr : ∀ i ∈ tg, ro.contains i = false := fun i hi => by
    cases hc : ro.contains i with
    | false => rfl
    | true =>
      have : tg.any ro.contains = true := List.any_eq_true.mpr ⟨i, hi, hc⟩
      rw [hro] at this; cases this
  have sm : ∀ {H1 : Hp}, Same H H1 → EnvO (gx X) H1 N σ Γ Fs := fun s1 => E.same s1 (tr_same s1 E.tr) fun a z => .inl z
  -- the slots that are read are shared
  have freeze : Post (gx X) N σ H Fs De ro W (forGo (turnF C n ro one tg ms) xs (frzE (vars mi) Γ)) → tFor (tI (gx X) C W mi) (tG one tg) (fun D σ H => ∃ ro, tSs (gx X) C W n ro ms D σ H) De σ H := fun p => by
    have E' := E.frz (vars mi)
    refine ⟨or2 N (U fun i a => ¬ i ∈ vars mi ∧ Fs i a), Γ, fun a z => ?_, ⟨E.len, fun i hi d' e => ?_⟩, ?_⟩
    · rcases z with z | ⟨i, _, z⟩
      · exact E.tr a z
      · exact (E.own i a z).2
    · obtain ⟨v, h3, h4⟩ := E.rep i d' e
      refine ⟨v, h3, Rep.fz (fun a _ nz z => nz (z.imp (fun z => z) fun ⟨j, z⟩ => ⟨j, z.2⟩)) d' v (Fs i) (fun a z z' => ?_) h4⟩
      rcases z' with z' | ⟨j, hj, z'⟩
      · exact (E.own i a z).1 z'
      · exact hj (E.dj i j a z z' ▸ hi)
    · rw [ed]
      refine ⟨xs, exs, fun J H1 s1 sv => ?_⟩
      have tr0 : ∀ a, or2 N (U fun i a => ¬ i ∈ vars mi ∧ Fs i a) a → H a ≠ none := fun a z => z.elim (E.tr a) fun ⟨i, z⟩ => (E.own i a z.2).2
      have io := sv (or2 N (U fun i a => ¬ i ∈ vars mi ∧ Fs i a)) (or2 N (U fun i a => ¬ i ∈ vars mi ∧ Fs i a)) tr0 (fun _ _ z => z) (.inr fun _ z => z)
      have E1 := E'.same s1 (tr_same s1 E'.tr) fun a z => .inl z
      exact for_ok E1 io (fun a z => .inr z) (fun a z => z) hr (Post.step p ⟨fun a o e _ => s1 a o e, fun a ⟨i, z⟩ => .inl ⟨i, z.2⟩, fun a ⟨i, z⟩ => (E1.own i a z).2⟩ fun _ _ => rfl)
  cases hf : hasF d with
  | false =>
    rw [hf, if_neg Bool.false_ne_true] at p
    refine ⟨N, Γ, E.tr, E.see _, ?_⟩
    rw [ed]
    refine ⟨xs, exs, fun J H1 s1 sv => ?_⟩
    have io := sv (or2 N (U Fs)) (or2 N (U Fs)) (fun a z => z.elim (E.tr a) fun ⟨i, z⟩ => (E.own i a z).2) (fun h => by rw [hf] at h; cases h) (.inr fun _ z => z)
    have E1 := sm s1
    exact for_ok E1 io (fun a z => .inr z) (fun a z => z) hr (Post.step p ⟨fun a o e _ => s1 a o e, fun a z => .inl z, fun a ⟨i, z⟩ => (E1.own i a z).2⟩ fun _ _ => rfl)
  | true =>
    rw [hf, if_pos rfl] at p
    cases hide with
    | none => exact freeze p
    | some i =>
      have p : Post (gx X) N σ H Fs De ro W (if flats xs = false then forGo (turnF C n ro one tg ms) xs (frzE (vars mi) Γ) else if tg.contains i then .bad
          else (get1 Γ i).out Γ fun dv => unhide i dv (forGo (turnF C n (i :: ro) one tg ms) xs (Γ.set i none))) := p
      cases hfl : flats xs with
      | false => rw [hfl, if_pos rfl] at p; exact freeze p
      | true =>
      rw [hfl, if_neg (by decide)] at p
      cases hti : tg.contains i with
      | true => rw [hti] at p; exact p.elim
      | false =>
      rw [hti, if_neg Bool.false_ne_true] at p
      have hmi := hh i rfl
      have hvars : vars mi = [i] := by rw [hmi]; rfl
      cases eg : get1 Γ i with
      | bad => rw [eg] at p; exact p.elim
      | exc c => exact (get1_exc eg).elim
      | ok dv =>
      have edv := get1_ok eg
      rw [eg] at p
      have p : Post (gx X) N σ H Fs De ro W (unhide i dv (forGo (turnF C n (i :: ro) one tg ms) xs (Γ.set i none))) := p
      obtain ⟨v, hv, rv⟩ := E.rep i dv edv
      -- the list of the slot i stays as it is while the turns run
      have see : See (gx X) H (or2 N (U fun j a => j ≠ i ∧ Fs j a)) σ Γ (vars mi) := ⟨E.len, fun j hj d' e => by
        have hj : j = i := by rw [hvars] at hj; simpa using hj
        subst hj
        obtain ⟨w, h3, h4⟩ := E.rep j d' e
        refine ⟨w, h3, Rep.fz (fun a _ nz z => nz (z.imp (fun z => z) fun ⟨l, z⟩ => ⟨l, z.2⟩)) d' w (Fs j) (fun a z z' => ?_) h4⟩
        rcases z' with z' | ⟨l, hl, z'⟩
        · exact (E.own j a z).1 z'
        · exact hl (E.dj l j a z' z)⟩
      refine ⟨or2 N (U fun j a => j ≠ i ∧ Fs j a), Γ, fun a z => z.elim (E.tr a) fun ⟨l, z⟩ => (E.own l a z.2).2, see, ?_⟩
      rw [ed]
      refine ⟨xs, exs, fun J H1 s1 sv => ?_⟩
      have io := sv (or2 N (U fun j a => j ≠ i ∧ Fs j a)) (fun _ => True) (fun a z => z.elim (E.tr a) fun ⟨l, z⟩ => (E.own l a z.2).2) (fun _ _ z => z) (.inl hfl)
      have E1 := sm s1
      have E2 : EnvO (gx X) H1 (or2 N (Fs i)) σ (Γ.set i none) (fun j a => j ≠ i ∧ Fs j a) := by
        refine ⟨by rw [List.length_set]; exact E1.len, fun j dj ej => ?_, fun j l a z z' => E1.dj j l a z.2 z'.2, fun j a z => ⟨fun q => q.elim (E1.own j a z.2).1 fun q => z.1 (E1.dj j i a z.2 q), (E1.own j a z.2).2⟩, fun a z => z.elim (E1.tr a) fun z => (E1.own i a z).2⟩
        rw [List.getElem?_set] at ej
        by_cases hj : i = j
        · subst hj
          simp only [if_true] at ej
          split at ej <;> cases ej
        · rw [if_neg hj] at ej
          obtain ⟨w1, h3, h4⟩ := E1.rep j dj ej
          refine ⟨w1, h3, Rep.mono (fun a _ nz z => nz ?_) dj w1 _ _ (fun _ _ q _ => q) (fun a z => ⟨fun e => hj e.symm, z⟩) h4⟩
          rcases z with (z | z) | ⟨l, z⟩
          · exact .inl z
          · exact .inr ⟨i, z⟩
          · exact .inr ⟨l, z.2⟩
      have hr2 : ∀ j ∈ tg, (i :: ro).contains j = false := fun j hj => by
        have hne : j ≠ i := fun e => by
          subst e
          have : tg.contains j = true := by simpa using hj
          rw [hti] at this; cases this
        have := hr j hj
        simp only [List.contains_cons, this, Bool.or_false]
        exact beq_eq_false_iff_ne.mpr hne
      refine for_ok (De := De) E2 io (fun a z => .inr z) (fun a _ => trivial) hr2 ?_
      have st0 : ∀ {H' : Hp} {B : Addr → Prop}, Stp H1 H' (U fun j a => j ≠ i ∧ Fs j a) B → Stp H H' (U Fs) B := fun {H' B} s => by
        refine ⟨fun a o e z => s.kp a o (s1 a o e) (z.imp (fun z ⟨j, q⟩ => z ⟨j, q.2⟩) (fun z => z)), fun a z => ?_, s.tk⟩
        rcases s.fr a z with ⟨j, q⟩ | q
        · exact .inl ⟨j, q.2⟩
        · cases e : H a with
          | none => exact .inr rfl
          | some o => rw [s1 a o e] at q; cases q
      cases eo : forGo (turnF C n (i :: ro) one tg ms) xs (Γ.set i none) with
      | nx Γ' =>
        rw [eo] at p
        intro σ' H' Fs' s' r' E'
        have p : Post (gx X) N σ H Fs De ro W (.nx (Γ'.set i (some dv))) := p
        have hvi : σ'[i]? = some (some v) := (r' i List.mem_cons_self).trans hv
        have hset : σ'.set i (some v) = σ' := by
          refine List.ext_getElem? fun j => ?_
          by_cases hj : i = j
          · subst hj
            rw [hvi, List.getElem?_set_self (List.getElem?_eq_some_iff.mp hvi).1]
          · rw [List.getElem?_set_ne hj]
        have st := st0 s'
        have rv' : Rep (gx X) H' (or2 N (or2 (U Fs') (Fs i))) dv v (Fs i) := by
          refine Rep.mono (fun a hn nz z => ?_) dv v (Fs i) (Fs i) (fun a o e z => ?_) (fun _ z => z) rv
          · rcases z with z | z | z
            · exact nz (.inl z)
            · rcases st.fr a z with q | q
              · exact nz (.inr q)
              · exact hn q
            · exact nz (.inr ⟨i, z⟩)
          · refine s'.kp a o (s1 a o e) ?_
            rcases z with z | z | z
            · exact .inl fun ⟨j, q⟩ => z (.inr ⟨j, q.2⟩)
            · exact .inl fun ⟨j, q⟩ => q.1 (E.dj j i a q.2 z)
            · exact .inr z
        have E3 := EnvO.store E' (fun a z => (E.own i a z).1) rv' i
        rw [hset] at E3
        refine p σ' H' _ ⟨st.kp, fun a z => ?_, fun a z => ?_⟩ (fun j hj => r' j (List.mem_cons_of_mem _ hj)) E3
        · rcases U_store z with z | z
          · exact st.fr a z
          · exact .inl ⟨i, z⟩
        · rcases U_store z with z | z
          · exact st.tk a z
          · exact E'.tr a (.inr z)
      | rt d' Γ' =>
        rw [eo] at p
        intro v' σ' H' Fs' Fd s' r' E' rr
        have p : Post (gx X) N σ H Fs De ro W (.rt d' Γ') := p
        refine p v' σ' H' Fs' Fd (st0 s') (fun j hj => r' j (List.mem_cons_of_mem _ hj)) (E'.same same_refl (fun a z => E'.tr a (z.imp .inl (fun z => z))) fun a z => .inl (z.imp .inl (fun z => z))) (Rep.mono (fun a _ nz z => nz (z.imp .inl (fun z => z))) d' v' Fd Fd (fun _ _ q _ => q) (fun _ z => z) rr)
      | bk Γ' =>
        rw [eo] at p
        intro σ' H' Fs' s' r' E'
        have p : Post (gx X) N σ H Fs De ro W (.bk Γ') := p
        exact p σ' H' Fs' (st0 s') (fun j hj => r' j (List.mem_cons_of_mem _ hj)) (E'.same same_refl (fun a z => E'.tr a (.inl z)) fun a z => .inl (.inl z))
      | ct Γ' =>
        rw [eo] at p
        intro σ' H' Fs' s' r' E'
        have p : Post (gx X) N σ H Fs De ro W (.ct Γ') := p
        exact p σ' H' Fs' (st0 s') (fun j hj => r' j (List.mem_cons_of_mem _ hj)) (E'.same same_refl (fun a z => E'.tr a (.inl z)) fun a z => .inl (.inl z))
      | exc c Γ' =>
        rw [eo] at p
        have p : OutX H Fs W c := p
        exact fun H' k => p H' fun a o e z => k a o (s1 a o e) (z.imp (fun z ⟨j, q⟩ => z ⟨j, q.2⟩) (fun z => z))
      | bad => rw [eo] at p; exact p.elim
end
end RW

namespace RW
open PySem L2 PySem.Spec PyProof.Rows

/-! ## 15. defs -/
/-- a row of arguments by its places -/
theorem Reps.places {g : Gb} {H : Hp} {NF : Addr → Prop} : ∀ {ds : List D} {vs : List V} {F : Addr → Prop}, Reps g H NF ds vs F → ∃ Fs : Nat → Addr → Prop, (∀ i d, ds[i]? = some d → ∃ v, vs[i]? = some v ∧ Rep g H NF d v (Fs i)) ∧ (∀ i a, Fs i a → F a) ∧ ∀ i j a, Fs i a → Fs j a → i = j
  | [], vs, F, r => ⟨fun _ => none0, fun i d e => by simp at e, fun _ _ z => z.elim, fun _ _ _ z => z.elim⟩
  | d :: ds, vs, F, ⟨v, u, F1, F2, e, x1, x2, s1, s2, dj⟩ => by
    subst e
    obtain ⟨Fs, h1, h2, h3⟩ := Reps.places x2
    refine ⟨fun i => match i with | 0 => F1 | i + 1 => Fs i, fun i d' e => ?_, fun i a z => ?_, fun i j a z z' => ?_⟩
    · cases i with
      | zero => cases e; exact ⟨v, rfl, x1⟩
      | succ i => exact h1 i d' (by simpa using e)
    · cases i with
      | zero => exact s1 a z
      | succ i => exact s2 a (h2 i a z)
    · cases i with
      | zero =>
        cases j with
        | zero => rfl
        | succ j => exact absurd (h2 j a z') (dj a z)
      | succ i =>
        cases j with
        | zero => exact absurd (h2 i a z) (dj a z')
        | succ j => rw [h3 i j a z z']
theorem start_get {Ns : List Str} {vs : List V} {i : Nat} {v : V} (h : vs[i]? = some v) : (L2.start Ns vs)[i]? = some (some v) := by
  unfold L2.start
  have hl : i < vs.length := (List.getElem?_eq_some_iff.mp h).1
  rw [List.getElem?_append_left (by simpa using hl), List.getElem?_map, h]
  rfl
/-- the slots at a def's entry -/
theorem env_start {g : Gb} {H : Hp} {NF F : Addr → Prop} {ds : List D} {vs : List V} {Ns : List Str} {k : Nat} (tr : ∀ a, or2 NF F a → H a ≠ none) (dj : ∀ a, F a → ¬ NF a) (r : Reps g H (or2 NF F) ds vs F) (hk : ds.length + k ≤ Ns.length) :
    ∃ Fs, EnvO g H NF (L2.start Ns vs) (ds.map some ++ List.replicate k none) Fs ∧ (∀ a, U Fs a → F a) := by
  obtain ⟨Fs, h1, h2, h3⟩ := r.places
  refine ⟨Fs, ⟨?_, fun i d e => ?_, h3, fun i a z => ⟨dj a (h2 i a z), tr a (.inr (h2 i a z))⟩, fun a z => tr a (.inl z)⟩, fun a ⟨i, z⟩ => h2 i a z⟩
  · unfold L2.start
    rw [List.length_append, List.length_map, List.length_replicate, List.length_append, List.length_map, List.length_replicate]
    have := r.length
    omega
  · have hl : i < ds.length := by
      by_cases hl : i < ds.length
      · exact hl
      · rw [List.getElem?_append_right (by simpa using hl), List.getElem?_replicate] at e
        split at e <;> cases e
    rw [List.getElem?_append_left (by simpa using hl), List.getElem?_map] at e
    obtain ⟨d', e1, e2⟩ := Option.map_eq_some_iff.mp e
    cases e2
    obtain ⟨v, h4, h5⟩ := h1 i d e1
    exact ⟨v, start_get h4, Rep.mono (fun a _ nz z => nz (z.imp (fun z => z) fun ⟨j, z⟩ => h2 j a z)) d v _ _ (fun _ _ q _ => q) (fun _ z => z) h5⟩
/-- THE RULE of a def that raises nothing: its body by statements -/
theorem fn0 {P : Program} {w : World} {K : PySem.W.Frag} {mg : Str → Option Value} {base : Heap} {x qual : Str} {st : Stmt} {f : Addr} {fd : FuncData} {Ns ps : List Str} {k n id : Nat} {T : Nat → Option FD} {Fm : FD} (F : Fun K x qual st f fd) (Sc : FnScope Ns ps (defScope st)) (hT : T id = some Fm) (hex : Fm.ex = false) (hnp : Fm.np = ps.length) (hns : Fm.ns = Ns.length) (hio : ∀ p, Fm.io = some p → p < ps.length)
    (hb : ∀ (cdv : Value) (A : Around) (outer : List Env) (s : Shared) (H : Hp) (E : XK) (ro : List Nat), Room k (A.deeper (envOfC qual (defScope st) s.heap.objs.size f cdv)) → SSs (cxOf CX0 P w K mg base Ns qual (defScope st) f cdv A outer s H E).nox (cl T n k) WF n ro (defBody st) Fm.body) :
    FnOk P w K mg base CX0 (k + 1) f fd ps (spC ⟨P, w, K⟩ mg (cl T n (k + 1)) id ps.length) := by
  refine F.ok Sc (fun vs H Q E h => h.1) (fun cdv A outer s H vs Q E hr h => ⟨_, (hb cdv A outer s H E (ioL Fm.io) hr).pss, ?_⟩)
  obtain ⟨hl, NF, ds, Fo, tr, dj, r, wp⟩ := h
  have hrun : (cl T n (k + 1)).run id ds = noX (runD (cl T n k) n Fm ds) := by
    show (match T id with | some F => if F.ex then runD (cl T n k) n F ds else noX (runD (cl T n k) n F ds) | none => Rs.bad) = _
    rw [hT]
    show (if Fm.ex then runD (cl T n k) n Fm ds else noX (runD (cl T n k) n Fm ds)) = _
    rw [hex]; rfl
  have hcio : (cl T n (k + 1)).io id = Fm.io := by
    show (T id).bind (·.io) = Fm.io
    rw [hT]; rfl
  rw [hrun] at wp
  have wp := noX_wp wp
  have hdl : ds.length = Fm.np := by rw [hnp, ← hl, r.length]
  unfold runD at wp
  rw [if_pos hdl] at wp
  obtain ⟨Fs, E0, sub⟩ := env_start (Ns := Ns) (k := Fm.ns - Fm.np) tr dj r (by
    have : ps.length ≤ Ns.length := by have := congrArg List.length Sc.pre; rw [List.length_take] at this; omega
    omega)
  refine ⟨NF, ds.map some ++ List.replicate (Fm.ns - Fm.np) none, Fs, E0, ?_⟩
  have kept : ∀ {H' : Hp} {B : Addr → Prop}, Stp H H' (U Fs) B → Kept H H' Fo := fun {H' B} s a o e z => s.kp a o e (z.imp (fun z q => z (sub a q)) (fun z => z))
  -- what is left in the slot that may be changed
  have left : ∀ {Γ' : En} {σ' : L2.St} {H' : Hp} {Fs' : Nat → Addr → Prop} {Fd : Addr → Prop} {v : V} {d : D} {res : Rs (D × Option D)}, EnvO ⟨P, w, K⟩ H' (or2 NF Fd) σ' Γ' Fs' → (∀ i ∈ ioL Fm.io, σ'[i]? = (L2.start Ns vs)[i]?) → Stp H H' (U Fs) (or2 (U Fs') Fd) → Rep ⟨P, w, K⟩ H' (or2 NF (or2 (U Fs') Fd)) d v Fd →
      (match Fm.io with | none => Rs.ok (d, none) | some p => (get1 Γ' p).bind fun o => .ok (d, some o)).wp (Gives ⟨P, w, K⟩ (cl T n (k + 1)) id NF H vs Fo Q) (fun _ => False) → Q v H' := by
    intro Γ' σ' H' Fs' Fd v d res E' hro st rd wp
    cases hi : Fm.io with
    | none =>
      rw [hi] at wp
      have wp : Gives ⟨P, w, K⟩ (cl T n (k + 1)) id NF H vs Fo Q (d, none) := wp
      refine wp v H' Fd none0 (kept st) (fun a z => ?_) (fun a z => z.elim (fun z => st.tk a (.inr z)) fun z => z.elim) (fun _ _ z => z) (Rep.mono (fun a _ nz z => nz (z.imp (fun z => z) fun z => z.elim .inr fun z => z.elim)) d v _ _ (fun _ _ q _ => q) (fun _ z => z) rd) (fun p hp => by rw [hcio, hi] at hp; cases hp)
      rcases z with z | z
      · rcases st.fr a (.inr z) with q | q
        · exact .inl (sub a q)
        · exact .inr ⟨q, st.tk a (.inr z)⟩
      · exact z.elim
    | some p =>
      rw [hi] at wp hro
      have wp : ((get1 Γ' p).bind fun o => Rs.ok (d, some o)).wp (Gives ⟨P, w, K⟩ (cl T n (k + 1)) id NF H vs Fo Q) (fun _ => False) := wp
      cases eg : get1 Γ' p with
      | bad => rw [eg] at wp; exact wp.elim
      | exc c => exact (get1_exc eg).elim
      | ok o =>
      rw [eg] at wp
      have wp : Gives ⟨P, w, K⟩ (cl T n (k + 1)) id NF H vs Fo Q (d, some o) := wp
      obtain ⟨u, hu, ru⟩ := E'.rep p o (get1_ok eg)
      have hp : p < vs.length := by rw [hl]; exact hio p hi
      have hu2 : vs[p]? = some u := by
        have h1 : σ'[p]? = (L2.start Ns vs)[p]? := hro p (List.mem_singleton.mpr rfl)
        rw [hu, start_get (List.getElem?_eq_getElem hp)] at h1
        rw [List.getElem?_eq_getElem hp]
        exact (Option.some.inj h1).symm
      have fr : ∀ a, or2 Fd (Fs' p) a → Fo a ∨ (H a = none ∧ H' a ≠ none) := fun a z => by
        have z' : or2 (U Fs') Fd a := z.elim .inr fun z => .inl ⟨p, z⟩
        rcases st.fr a z' with q | q
        · exact .inl (sub a q)
        · exact .inr ⟨q, st.tk a z'⟩
      refine wp v H' Fd (Fs' p) (kept st) fr (fun a z => st.tk a (z.elim .inr fun z => .inl ⟨p, z⟩)) (fun a z z' => (E'.own p a z').1 (.inr z)) (Rep.mono (fun a _ nz z => nz (z.imp (fun z => z) fun z => z.elim .inr fun z => .inl ⟨p, z⟩)) d v _ _ (fun _ _ q _ => q) (fun _ z => z) rd) (fun p' hp' => ?_)
      rw [hcio, hi] at hp'
      cases hp'
      exact ⟨o, u, rfl, hu2, Rep.mono (fun a _ nz z => nz (z.elim (fun z => .inl (.inl z)) fun z => z.elim (fun z => .inl (.inr z)) fun z => .inr ⟨p, z⟩)) o u _ _ (fun _ _ q _ => q) (fun _ z => z) ru⟩
  cases eo : execs (cl T n k) n (ioL Fm.io) (ds.map some ++ List.replicate (Fm.ns - Fm.np) none) Fm.body with
  | nx Γ' =>
    rw [eo] at wp
    intro σ' H' Fs' st hro E'
    refine left (Fd := none0) (d := .non) (res := .bad) (E'.n fun a => ⟨fun z => z.elim (fun z => z) fun z => z.elim, .inl⟩) hro (st.sub fun a z => z.elim (fun z => z) fun z => z.elim) rfl ?_
    cases hi : Fm.io with
    | none => rw [hi] at wp; exact wp
    | some p => rw [hi] at wp; exact wp
  | rt d Γ' =>
    rw [eo] at wp
    intro v σ' H' Fs' Fd st hro E' rr
    refine left (res := .bad) E' hro st rr ?_
    cases hi : Fm.io with
    | none => rw [hi] at wp; exact wp
    | some p => rw [hi] at wp; exact wp
  | bk Γ' => rw [eo] at wp; exact wp.elim
  | ct Γ' => rw [eo] at wp; exact wp.elim
  | exc c Γ' => rw [eo] at wp; exact wp.elim
  | bad => rw [eo] at wp; exact wp.elim
/-- no call is left -/
theorem fn_none {P : Program} {w : World} {K : PySem.W.Frag} {mg : Str → Option Value} {base : Heap} {f : Addr} {fd : FuncData} {ps : List Str} {n id : Nat} {T : Nat → Option FD} : FnOk P w K mg base CX0 0 f fd ps (spC ⟨P, w, K⟩ mg (cl T n 0) id ps.length) := by
  have no : ∀ vs H Q E, ¬ spC ⟨P, w, K⟩ mg (cl T n 0) id ps.length vs H Q E := fun vs H Q E ⟨_, NF, ds, F, _, _, _, wp⟩ => wp
  exact ⟨fun vs H Q E h => absurd h (no vs H Q E), fun A outer s H args us vs Q E _ _ _ _ h => absurd h (no vs H Q E)⟩
end RW

namespace RW
open PySem L2 PySem.Spec PyProof.Rows

/-! ## 16. the rules as the texts use them -/
section
variable {X : Cx} {C : Cl} {W : Str → Hp → Prop}
theorem primC_len : PrimC X .len (rLen2 X.K) := primC_1 pLen_1 fun NF F a v d H Q tr ra e q => primC_len' ra e q
theorem primC_list : PrimC X .list (rList2 X.K) := primC_1 pList_1 fun NF F a v d H Q tr ra e q => primC_list' tr ra e q
theorem kit_bool : ∀ {K : PySem.W.Frag} {a : String}, (a = "NoneType" ∨ a = "int" ∨ a = "str" ∨ a = "tuple" ∨ a = "list") → PySem.W.kitOne K (.type a) (.type "bool") = some false := fun h => by
  rcases h with rfl | rfl | rfl | rfl | rfl <;> exact kit_ty (by decide +kernel)
theorem kit_bool1 {K : PySem.W.Frag} : PySem.W.kitOne K (.type "bool") (.type "bool") = some true := kit_ty (by decide +kernel)
theorem se_isBool {e : Expr} {m : E} {p p2 pos : Pos} (h : SE X C W e m) (hm : X.mg "isinstance" = none) (hm2 : X.mg "bool" = none) (hg : Gl X "isinstance" := by rfl) (hg2 : Gl X "bool" := by rfl)
    (t1 : starEach (e :: [.Name "bool" p2]) X.env = (false, eval e X.env) :: starEach [.Name "bool" p2] X.env := by rfl) (t2 : starEach (.Name "bool" p2 :: []) X.env = (false, eval (.Name "bool" p2) X.env) :: starEach [] X.env := by rfl) (hpl : (backTo pos (starEach [.Name "bool" p2] X.env)).any (·.1) = false := by rfl) :
    SE X C W (.Call (.Name "isinstance" p) [e, .Name "bool" p2] [] pos) (.p .isBool [m]) :=
  ⟨PE.imp (pe_callB call_isi hg hm PyProof.Rows.boot_isinstance (pa_cons h.pe (pa_cons (pe_bltn (v := .ty "bool") hg2 hm2 PyProof.Rows.boot_bool rfl) pa_nil t2) t1) (by decide) (by decide) t1 hpl) fun σ H Q h => tE_mono (tE_p1 h) fun v H1 h => by
    obtain ⟨NF, F, a, d, tr, ra, e, q⟩ := h.o1
    replace e : pIsBool [a] = some d := e
    show rIsi X.K [v, .ty "bool"] H1 Q
    cases a with
    | dct _ _ _ => cases e
    | scr _ => cases e
    | non => cases e; cases (show v = V.non from ra); exact ⟨_, _, _, _, _, rfl, .ty _, .base .non, kit_bool (.inl rfl), q.bl⟩
    | bl b => cases e; cases (show v = V.bl b from ra); exact ⟨_, _, _, _, _, rfl, .ty _, .base (.bl b), kit_bool1, q.bl⟩
    | int b => cases e; cases (show v = V.int b from ra); exact ⟨_, _, _, _, _, rfl, .ty _, .base (.int b), kit_bool (.inr (.inl rfl)), q.bl⟩
    | str b => cases e; cases (show v = V.str _ from ra.1); exact ⟨_, _, _, _, _, rfl, .ty _, .base (.str _), kit_bool (.inr (.inr (.inl rfl))), q.bl⟩
    | tup b => cases e; obtain ⟨p, vs, rfl, hp, _⟩ := ra.tupInv; exact ⟨_, _, _, _, _, rfl, .ty _, .base (.tup hp), kit_bool (.inr (.inr (.inr (.inl rfl)))), q.bl⟩
    | lst o b => cases e; obtain ⟨p, vs, G, rfl, hp, _⟩ := ra.lstInv; exact ⟨_, _, _, _, _, rfl, .ty _, .base (.lst hp), kit_bool (.inr (.inr (.inr (.inr rfl)))), q.bl⟩⟩
theorem se_dict0 {pos : Pos} : SE X C W (.Dict [] [] pos) (.c (.dct true [] [])) := ⟨PE.imp pe_dnewK fun σ H Q h => by
  obtain ⟨NF, Γ, tr, se, w⟩ := h
  have w : After (gx X) H NF Q (.dct true [] []) := w
  intro p hp
  refine w (.ref p) (L2.upd H p (.dK [])) (fun a => a = p) (same_up hp _) (fun a z => ⟨by subst z; exact hp, by subst z; rw [upd_same]; simp⟩) ⟨p, [], [], none0, rfl, .inl ⟨[], upd_same, rfl, rfl⟩, rfl, rfl, fun z => z, fun _ z => z.elim, rfl⟩⟩
/-- x = [.. for ..] in one row -/
theorem ss_asgLc (i : Nat) {ro : List Nat} {n : Nat} {y : Str} {py : Pos} {elt tg iter : Expr} {ifs : List Expr} {scope : Scope} {own : List (Str × Nat)} {pos spos : Pos} {me mi mc : E} {one : Bool} {is : List Nat} (hc : X.calm = true) (hN : X.N.Nodup) (hi : SI X C W tg iter mi) (ok : BlkOk X.N X.env.scope scope own) (hown : ∀ i ∈ is, i ∈ own.map (·.2))
    (hg : ∀ (s : Shared) (H : Hp) (Cc : Addr) (cl : List (Str × Addr)) (fp : List Addr), SG (X.blk s H scope (compEnvC scope cl Cc X.env) fp) tg one is)
    (ht : ∀ (s : Shared) (H : Hp) (Cc : Addr) (cl : List (Str × Addr)) (fp : List Addr), STs (X.blk s H scope (compEnvC scope cl Cc X.env) fp) C WF ifs mc)
    (he : ∀ (s : Shared) (H : Hp) (Cc : Addr) (cl : List (Str × Addr)) (fp : List Addr), SE (X.blk s H scope (compEnvC scope cl Cc X.env) fp) C WF elt me)
    (hsw : swapsWith (.ListComp elt [⟨tg, iter, ifs, 0⟩] scope pos) (some (.Name y py)) spos.line X.env = pure true) (hy : X.N[i]? = some y := by rfl) (hyl : X.env.scope.names.lookup y = some .local := by rfl) (hs : ∀ x, foldedSetIterable iter X.env x = pure x := by intro _; rfl) :
    SS X C W n ro (.Assign [.Name y py] (.ListComp elt [⟨tg, iter, ifs, 0⟩] scope pos) spos) (.asg i (.pure (.lc me one is (own.map (·.2)) mi mc))) :=
  ⟨PS.imp (ps_setLc (own := own) (g := tG one is) (tt := tT (gx X) C WF mc) (te := tE (gx X) C WF me) hc hN hy hyl hsw hi.pi ok (fun s H Cc cl fp => (hg s H Cc cl fp).pg) (fun s H Cc cl fp => (ht s H Cc cl fp).pts) (fun s H Cc cl fp => (he s H Cc cl fp).pe) hs) fun D σ H h => by
    obtain ⟨N, Γ, Fs, E, p⟩ := h
    have p : Post (gx X) N σ H Fs D ro W ((evX C Γ (.pure (.lc me one is (own.map (·.2)) mi mc))).out Γ fun q => if ro.contains i then .bad else .nx (q.2.set i (some q.1))) := p
    refine lc_ok hown (tX_pure ⟨N, Γ, Fs, E, Rs.wp_mono (out_wp p) (fun q p v H1 Fs1 Fd1 s1 E1 r1 => ?_) fun _ z => z⟩)
    cases hro : ro.contains i with
    | true => rw [hro] at p; exact p.elim
    | false =>
      rw [hro] at p
      exact p _ H1 _ (s1.sub fun a z => U_store z) (set_ro hro) (E1.store (fun a z => stp_dj E s1 a (.inr z)) r1 i)⟩
end
theorem hu200 {A : Around} {k : Nat} (hr : Room k A) : A.units + 200 < cLine := by have := hr.un; omega
theorem hu20 {A : Around} {k : Nat} (hr : Room k A) : A.units + 20 < cLine := by have := hr.un; omega
theorem se_glI {X : Cx} {C : Cl} {W : Str → Hp → Prop} {x : Str} {pos : Pos} {i : Int} (hm : ∃ t, X.mg x = some (.int i t)) (hg : Gl X x := by rfl) (hd : (x == ("__debug__" : Str)) = false := by decide) : SE X C W (.Name x pos) (.c (.int i)) :=
  let ⟨t, h⟩ := hm; se_c (pe_glob (v := .int i) hg h ⟨t, rfl⟩ hd) fun _ _ => rfl
theorem se_glS {X : Cx} {C : Cl} {W : Str → Hp → Prop} {x : Str} {pos : Pos} {s : List Nat} (hm : ∃ t, X.mg x = some (.str (mkS s) t)) (ok : okS s = true) (hg : Gl X x := by rfl) (hd : (x == ("__debug__" : Str)) = false := by decide) : SE X C W (.Name x pos) (.c (.str s)) :=
  let ⟨t, h⟩ := hm; se_c (pe_glob (v := .str (mkS s)) hg h ⟨t, rfl⟩ hd) fun _ _ => ⟨rfl, ok⟩
theorem cl_io {T : Nat → Option FD} {N n f : Nat} : (cl T N n).io f = (T f).bind (·.io) := by cases n <;> rfl
theorem cl_ex {T : Nat → Option FD} {N n f : Nat} : (cl T N n).ex f = (match T f with | some F => F.ex | none => false) := by cases n <;> rfl
section
variable {X : Cx} {W : Str → Hp → Prop} {T : Nat → Option FD} {N n : Nat}
/-- f(..) -/
theorem se_callT {id k : Nat} {f : Addr} {fd : FuncData} {ps : List Str} {x : Str} {p pos : Pos} {e : Expr} {es : List Expr} {ms : List E} {Fm : FD} (hT : T id = some Fm) (F : FnOk X.prog X.w X.K X.mg X.base CX0 k f fd ps (spC (gx X) X.mg (cl T N n) id ps.length)) (hr : Room k X.A) (hm : X.mg x = some (.ref f)) (hk : PySem.W.keepIn X.K (.ref f) = true) (hb : Binds X.K fd ps [])
    (ha : SEs X (cl T N n) W (e :: es) ms) (hio : Fm.io = none := by rfl) (hex : Fm.ex = false := by rfl) (hl : ms.length = ps.length := by rfl) (hg : Gl X x := by rfl) (hdb : (x == ("__debug__" : Str)) = false := by decide) (he : starEach (e :: es) X.env = (false, eval e X.env) :: starEach es X.env := by rfl) (hpl : (backTo pos (starEach es X.env)).any (·.1) = false := by rfl) :
    SE X (cl T N n) W (.Call (.Name x p) (e :: es) [] pos) (.call id ms) :=
  se_call F hr hm hk hb (by rw [cl_io, hT]; exact hio) (by rw [cl_ex, hT]; exact hex) hl ha hg hdb he hpl
theorem evXs_len (C : Cl) : ∀ (xs : List XE) (Γ : En) (p : List (Nat ⊕ D) × En), evXs C Γ xs = .ok p → p.1.length = xs.length
  | [], Γ, p, h => by cases h; rfl
  | x :: xs, Γ, p, h => by
    have key : ∀ {α : Type} (r : Rs α) (f : α → En) (g : α → Nat ⊕ D), (r.bind fun q => (evXs C (f q) xs).bind fun p => Rs.ok (g q :: p.1, p.2)) = .ok p → p.1.length = xs.length + 1 := by
      intro α r f g h
      cases r with
      | bad => cases h
      | exc c => cases h
      | ok q =>
        have h : ((evXs C (f q) xs).bind fun p => Rs.ok (g q :: p.1, p.2)) = .ok p := h
        cases e : evXs C (f q) xs with
        | bad => rw [e] at h; cases h
        | exc c => rw [e] at h; cases h
        | ok p' =>
          rw [e] at h
          cases h
          rw [List.length_cons, evXs_len C xs _ p' e]
    cases x with
    | io i => exact key (get1 Γ i) (fun _ => Γ) (fun _ => .inl i) h
    | pure e => exact key (evX C Γ (.pure e)) (fun q => q.2) (fun q => .inr q.1) h
    | op o ys => exact key (evX C Γ (.op o ys)) (fun q => q.2) (fun q => .inr q.1) h
    | call f ys => exact key (evX C Γ (.call f ys)) (fun q => q.2) (fun q => .inr q.1) h
theorem sx_callT {id k : Nat} {f : Addr} {fd : FuncData} {ps : List Str} {x : Str} {p pos : Pos} {e : Expr} {es : List Expr} {xs : List XE} {Fm : FD} (hT : T id = some Fm) (F : FnOk X.prog X.w X.K X.mg X.base CX0 k f fd ps (spC (gx X) X.mg (cl T N n) id ps.length)) (hr : Room k X.A) (hm : X.mg x = some (.ref f)) (hk : PySem.W.keepIn X.K (.ref f) = true) (hb : Binds X.K fd ps [])
    (ha : SXs X (cl T N n) W (e :: es) xs) (hex : Fm.ex = false := by rfl) (hl : xs.length = ps.length := by rfl) (hg : Gl X x := by rfl) (hdb : (x == ("__debug__" : Str)) = false := by decide) (he : starEach (e :: es) X.env = (false, eval e X.env) :: starEach es X.env := by rfl) (hpl : (backTo pos (starEach es X.env)).any (·.1) = false := by rfl) :
    SX X (cl T N n) W (.Call (.Name x p) (e :: es) [] pos) (.call id xs) :=
  sx_call F hr hm hk hb (by rw [cl_ex, hT]; exact hex) (fun Γ p h => by rw [evXs_len _ _ _ _ h, hl]) ha hg hdb he hpl
/-- what law promises -/
def spLaw (K : PySem.W.Frag) : Sp := fun vs H Q _ => ∃ (a : Addr) (ns : List Int), vs = [.ref a] ∧ SqL K H a (ns.map V.int) ∧ ns.length ≤ 63 ∧ ∀ H', Q (.bl true) H'
theorem law_of {P : Program} {w : World} {K : PySem.W.Frag} {mg : Str → Option Value} {base : Heap} {k id : Nat} {f : Addr} {fd : FuncData} (hio : (T id).bind (·.io) = none) (F : ∀ N, FnOk P w K mg base CX0 k f fd ["script"] (spC ⟨P, w, K⟩ mg (cl T N k) id 1)) (h : ∀ ns : List Int, ns.length ≤ 63 → ∃ N, (cl T N k).run id [.scr ns] = .ok (.bl true, none)) : FnOk P w K mg base CX0 k f fd ["script"] (spLaw K) := by
  have one : ∀ {vs H Q E}, spLaw K vs H Q E → ∃ N, spC ⟨P, w, K⟩ mg (cl T N k) id 1 vs H Q E := fun {vs H Q E} ⟨a, ns, e, hs, hl, q⟩ => by
    subst e
    obtain ⟨N, hN⟩ := h ns hl
    refine ⟨N, rfl, none0, [.scr ns], none0, fun a z => z.elim (fun z => z.elim) fun z => z.elim, fun a z => z.elim, Reps.one ⟨a, rfl, ?_⟩, ?_⟩
    · rcases hs with hs | hs
      · exact .inl ⟨hs, fun z => z.elim (fun z => z) fun z => z⟩
      · exact .inr (.inr hs)
    · rw [hN]
      intro v H' F' Fo _ _ _ _ r _
      cases (show v = V.bl true from r)
      exact q H'
  exact ⟨fun vs H Q E hh => let ⟨N, z⟩ := one hh; (F N).len vs H Q E z, fun A outer s H args us vs Q E hr he hb hv hh => let ⟨N, z⟩ := one hh; (F N).run A outer s H args us vs Q E hr he hb hv z⟩
end
end RW

namespace RW
open PySem L2
abbrev i_is_letter : Nat := 0
abbrev i_is_name : Nat := 1
abbrev i_is_rule : Nat := 2
abbrev i_is_grammar : Nat := 3
abbrev i__law_cell_at : Nat := 4
abbrev i__law_next : Nat := 5
abbrev i__law_rule_by : Nat := 6
abbrev i__law_known : Nat := 7
abbrev i__law_closed : Nat := 8
abbrev i__law_grammar : Nat := 9
abbrev i__law_is_name : Nat := 10
abbrev i__law_good : Nat := 11
abbrev i__law_odd : Nat := 12
abbrev i__law_spoilt : Nat := 13
abbrev i_law : Nat := 14
def m_is_letter : FD := ⟨1, 1, none, false, [(.ret (.pure (.and (.p .eq [(.p .len [(.v 0)]), (.c (.int 1))]) (.p .isIn [(.v 0), (.c (.str [97, 98, 99, 100, 101, 102, 103, 104, 105, 106, 107, 108, 109, 110, 111, 112, 113, 114, 115, 116, 117, 118, 119, 120, 121, 122]))]))))]⟩
def m_is_name : FD := ⟨1, 2, none, false, [(.ite (.or (.not (.chain .le .le (.c (.int 1)) (.p .len [(.v 0)]) (.c (.int 8)))) (.p .notIn [(.p .ix [(.v 0), (.c (.int 0))]), (.c (.str [65, 66, 67, 68, 69, 70, 71, 72, 73, 74, 75, 76, 77, 78, 79, 80, 81, 82, 83, 84, 85, 86, 87, 88, 89, 90]))])) [(.ret (.pure (.c (.bl false))))] []), (.ret (.pure (.p .all [(.lc (.or (.p .isIn [(.v 1), (.c (.str [65, 66, 67, 68, 69, 70, 71, 72, 73, 74, 75, 76, 77, 78, 79, 80, 81, 82, 83, 84, 85, 86, 87, 88, 89, 90]))]) (.p .isIn [(.v 1), (.c (.str [48, 49, 50, 51, 52, 53, 54, 55, 56, 57]))])) true [1] [1] (.v 0) (.c (.bl true)))])))]⟩
def m_is_rule : FD := ⟨1, 4, none, false, [(.unp [1, 2] (.pure (.v 0))), (.ite (.or (.not (.call i_is_name [(.v 1)])) (.p .gt [(.p .len [(.v 2)]), (.c (.int 6))])) [(.ret (.pure (.c (.bl false))))] []), (.ret (.pure (.p .all [(.lc (.or (.call i_is_letter [(.v 3)]) (.call i_is_name [(.v 3)])) true [3] [3] (.v 2) (.c (.bl true)))])))]⟩
def m_is_grammar : FD := ⟨1, 5, none, false, [(.ite (.not (.chain .le .le (.c (.int 1)) (.p .len [(.v 0)]) (.c (.int 40)))) [(.ret (.pure (.c (.bl false))))] []), (.asg 1 (.pure (.c (.dct true [] [])))), (.fr (some 0) true [2] (.v 0) [(.ite (.or (.not (.call i_is_rule [(.v 2)])) (.p .isIn [(.v 2), (.v 1)])) [(.ret (.pure (.c (.bl false))))] []), (.put 1 (.v 2) (.pure (.c (.bl true))))]), (.asg 3 (.pure (.lc (.p .ix [(.v 2), (.c (.int 0))]) true [2] [2] (.v 0) (.c (.bl true))))), (.fr (some 0) true [2] (.v 0) [(.ite (.not (.p .all [(.lc (.or (.call i_is_letter [(.v 4)]) (.p .isIn [(.v 4), (.v 3)])) true [4] [4] (.p .ix [(.v 2), (.c (.int 1))]) (.c (.bl true)))])) [(.ret (.pure (.c (.bl false))))] [])]), (.ret (.pure (.c (.bl true))))]⟩
def m__law_cell_at : FD := ⟨2, 2, none, false, [(.ite (.p .lt [(.v 1), (.p .len [(.v 0)])]) [(.ret (.pure (.p .ix [(.v 0), (.v 1)])))] []), (.ret (.pure (.c (.int 0))))]⟩
def m__law_next : FD := ⟨2, 2, (some 1), false, [(.put 1 (.c (.int 0)) (.pure (.p .add [(.p .ix [(.v 1), (.c (.int 0))]), (.c (.int 1))]))), (.ret (.pure (.call i__law_cell_at [(.v 0), (.p .sub [(.p .ix [(.v 1), (.c (.int 0))]), (.c (.int 1))])])))]⟩
def m__law_rule_by : FD := ⟨1, 4, none, false, [(.asg 1 (.pure (.p .lst []))), (.asg 2 (.pure (.p .fdiv [(.v 0), (.c (.int 12))]))), (.fr none true [3] (.p .range [(.p .mod [(.p .fdiv [(.v 0), (.c (.int 3))]), (.c (.int 4))])]) [(.mut 1 .append [(.pure (.p .ix [(.c (.str [97, 98, 99, 83, 65, 66])), (.p .mod [(.v 2), (.c (.int 6))])]))]), (.asg 2 (.pure (.p .fdiv [(.v 2), (.c (.int 6))])))]), (.ret (.pure (.p .tup [(.p .ix [(.c (.str [83, 65, 66])), (.p .mod [(.v 0), (.c (.int 3))])]), (.p .tuple [(.v 1)])])))]⟩
def m__law_known : FD := ⟨1, 6, none, false, [(.asg 1 (.pure (.p .lst [(.c (.str [83, 61, 97, 83, 98, 83, 32, 83, 61])), (.c (.str [83, 61, 83, 97, 65, 32, 83, 61, 65, 32, 65, 61, 98, 32, 65, 61, 99, 83, 99])), (.c (.str [83, 61, 97, 83, 97, 32, 83, 61, 98, 83, 98, 32, 83, 61, 97, 32, 83, 61, 98, 32, 83, 61])), (.c (.str [83, 61, 97, 83, 32, 83, 61, 97, 83, 98, 83, 32, 83, 61, 99]))]))), (.asg 1 (.pure (.p .add [(.v 1), (.p .lst [(.c (.str [83, 61, 65, 83, 32, 83, 61, 65, 32, 65, 61, 97, 32, 65, 61, 98])), (.c (.str [83, 61, 65, 66, 32, 65, 61, 32, 65, 61, 97, 32, 66, 61, 65, 32, 66, 61, 98])), (.c (.str [83, 61, 65, 32, 83, 61, 97, 32, 65, 61, 83, 32, 65, 61, 98])), (.c (.str [83, 61, 97, 83, 98, 32, 83, 61, 97, 98]))])]))), (.asg 1 (.pure (.p .add [(.v 1), (.p .lst [(.c (.str [83, 61, 83, 83, 32, 83, 61, 97])), (.c (.str [83, 61, 97, 65, 97, 32, 83, 61, 98, 65, 98, 32, 83, 61, 97, 66, 98, 32, 83, 61, 98, 66, 97, 32, 65, 61, 99, 32, 66, 61, 99])), (.c (.str [83, 61, 97, 32, 83, 61, 65, 32, 65, 61, 97, 65])), (.c (.str [83, 61, 97, 98, 32, 65, 61, 98, 83]))])]))), (.asg 1 (.pure (.p .add [(.v 1), (.p .lst [(.c (.str [83, 61, 65, 83, 98, 32, 83, 61, 97, 32, 65, 61, 32, 65, 61, 99])), (.c (.str [83, 61, 97, 83, 83, 32, 83, 61, 98])), (.c (.str [83, 61, 65, 32, 65, 61, 66, 32, 66, 61, 83, 32, 66, 61, 99])), (.c (.str [83, 61, 83, 65, 83, 32, 83, 61, 97, 32, 65, 61, 98, 32, 65, 61, 99]))])]))), (.asg 2 (.pure (.p .lst []))), (.fr none true [3] (.p .split [.p .asStr [(.p .ix [(.v 1), (.p .mod [(.v 0), (.c (.int 16))])])], (.c (.str [32]))]) [(.unp [4, 5] (.pure (.p .split [.p .asStr [(.v 3)], (.c (.str [61]))]))), (.mut 2 .append [(.pure (.p .tup [(.v 4), (.p .tuple [(.p .list [(.v 5)])])]))])]), (.retv 2)]⟩
def m__law_closed : FD := ⟨1, 6, none, false, [(.asg 1 (.pure (.p .lst []))), (.fr (some 0) true [2] (.v 0) [(.ite (.p .notIn [(.v 2), (.v 1)]) [(.mut 1 .append [(.pure (.v 2))])] [])]), (.fr none true [3] (.p .lst [(.c (.str [83])), (.c (.str [65])), (.c (.str [66]))]) [(.asg 4 (.pure (.lc (.v 2) true [2] [2] (.v 1) (.p .eq [(.p .ix [(.v 2), (.c (.int 0))]), (.v 3)])))), (.asg 5 (.pure (.lc (.v 2) true [2] [2] (.v 1) (.p .isIn [(.v 3), (.p .ix [(.v 2), (.c (.int 1))])])))), (.ite (.and (.p .gt [(.p .len [(.v 5)]), (.c (.int 0))]) (.p .eq [(.p .len [(.v 4)]), (.c (.int 0))])) [(.mut 1 .append [(.pure (.p .tup [(.v 3), (.p .tup [(.p .ix [(.p .lst [(.c (.str [99])), (.c (.str [97])), (.c (.str [98]))]), (.p .index [.p .asStr [(.c (.str [83, 65, 66]))], (.v 3)])])])]))])] [])]), (.retv 1)]⟩
def m__law_grammar : FD := ⟨2, 6, (some 1), false, [(.asg 2 (.call i__law_next [(.pure (.v 0)), (.io 1)])), (.ite (.p .eq [(.p .mod [(.v 2), (.c (.int 2))]), (.c (.int 0))]) [(.asg 4 (.pure (.p .add [(.c (.int 1)), (.p .mod [(.p .fdiv [(.v 2), (.c (.int 2))]), (.c (.int 6))])]))), (.asg 5 (.pure (.p .lst [])))] [(.asg 4 (.pure (.p .mod [(.p .fdiv [(.v 2), (.c (.int 32))]), (.c (.int 3))]))), (.asg 5 (.pure (.call i__law_known [(.p .fdiv [(.v 2), (.c (.int 2))])])))]), (.fr none true [3] (.p .range [(.v 4)]) [(.mut 5 .append [(.call i__law_rule_by [(.call i__law_next [(.pure (.v 0)), (.io 1)])])])]), (.ret (.pure (.call i__law_closed [(.v 5)])))]⟩
def m__law_is_name : FD := ⟨1, 2, none, false, [(.ite (.or (.not (.chain .le .le (.c (.int 1)) (.p .len [(.v 0)]) (.c (.int 8)))) (.p .notIn [(.p .ix [(.v 0), (.c (.int 0))]), (.c (.str [65, 66, 67, 68, 69, 70, 71, 72, 73, 74, 75, 76, 77, 78, 79, 80, 81, 82, 83, 84, 85, 86, 87, 88, 89, 90]))])) [(.ret (.pure (.c (.bl false))))] []), (.ret (.pure (.p .eq [(.p .len [(.lc (.v 1) true [1] [1] (.v 0) (.p .notIn [(.v 1), (.c (.str [65, 66, 67, 68, 69, 70, 71, 72, 73, 74, 75, 76, 77, 78, 79, 80, 81, 82, 83, 84, 85, 86, 87, 88, 89, 90, 48, 49, 50, 51, 52, 53, 54, 55, 56, 57]))]))]), (.c (.int 0))])))]⟩
def m__law_good : FD := ⟨1, 6, none, false, [(.asg 1 (.pure (.lc (.p .ix [(.v 3), (.c (.int 0))]) true [3] [3] (.v 0) (.c (.bl true))))), (.ite (.not (.chain .le .le (.c (.int 1)) (.p .len [(.v 0)]) (.c (.int 40)))) [(.ret (.pure (.c (.bl false))))] []), (.fr none false [2, 3] (.p .enum [(.v 0)]) [(.ite (.or (.p .isIn [(.v 3), (.p (.cut false true) [(.v 0), (.p .asInt [(.v 2)])])]) (.or (.not (.call i__law_is_name [(.p .ix [(.v 3), (.c (.int 0))])])) (.p .gt [(.p .len [(.p .ix [(.v 3), (.c (.int 1))])]), (.c (.int 6))]))) [(.ret (.pure (.c (.bl false))))] []), (.fr none true [4] (.p .ix [(.v 3), (.c (.int 1))]) [(.asg 5 (.pure (.and (.p .eq [(.p .len [(.v 4)]), (.c (.int 1))]) (.p .isIn [(.v 4), (.c (.str [97, 98, 99, 100, 101, 102, 103, 104, 105, 106, 107, 108, 109, 110, 111, 112, 113, 114, 115, 116, 117, 118, 119, 120, 121, 122]))])))), (.ite (.and (.not (.v 5)) (.p .notIn [(.v 4), (.v 1)])) [(.ret (.pure (.c (.bl false))))] [])])]), (.ret (.pure (.c (.bl true))))]⟩
def m__law_odd : FD := ⟨1, 2, none, false, [(.asg 1 (.pure (.p .lst [(.c (.str [])), (.c (.str [115])), (.c (.str [49])), (.c (.str [32])), (.c (.str [97, 98])), (.c (.str [83, 97])), (.c (.str [65, 49])), (.c (.str [65, 45])), (.c (.str [65, 66, 67, 68, 69, 70, 71, 72])), (.c (.str [65, 66, 67, 68, 69, 70, 71, 72, 73])), (.c (.str [49, 65])), (.c (.str [95])), (.c (.str [122]))]))), (.asg 1 (.pure (.p .add [(.v 1), (.p .lst [(.c (.str [90])), (.c (.str [65, 95])), (.c (.str [61])), (.c (.str [48]))])]))), (.ret (.pure (.p .ix [(.v 1), (.p .mod [(.v 0), (.c (.int 17))])])))]⟩
def m__law_spoilt : FD := ⟨3, 16, none, false, [(.asg 3 (.pure (.p .list [(.v 0)]))), (.asg 4 (.pure (.p .mod [(.v 2), (.p .len [(.v 3)])]))), (.unp [5, 6] (.pure (.p .ix [(.v 3), (.v 4)]))), (.asg 7 (.pure (.p .mod [(.p .fdiv [(.v 2), (.c (.int 64))]), (.p .add [(.p .len [(.v 6)]), (.c (.int 1))])]))), (.ite (.p .eq [(.v 1), (.c (.int 0))]) [(.mut 3 .insert [(.pure (.p .mod [(.p .fdiv [(.v 2), (.c (.int 64))]), (.p .add [(.p .len [(.v 3)]), (.c (.int 1))])])), (.pure (.p .ix [(.v 3), (.v 4)]))])] []), (.ite (.p .eq [(.v 1), (.c (.int 1))]) [(.put 3 (.v 4) (.pure (.p .tup [(.v 5), (.p .add [(.p .add [(.p (.cut false true) [(.v 6), (.p .asInt [(.v 7)])]), (.p .tup [(.call i__law_odd [(.p .fdiv [(.v 2), (.c (.int 512))])])])]), (.p (.cut true false) [(.v 6), (.p .asInt [(.v 7)])])])])))] []), (.ite (.p .eq [(.v 1), (.c (.int 2))]) [(.put 3 (.v 4) (.pure (.p .tup [(.call i__law_odd [(.p .fdiv [(.v 2), (.c (.int 512))])]), (.v 6)])))] []), (.ite (.p .eq [(.v 1), (.c (.int 3))]) [(.put 3 (.v 4) (.pure (.p .tup [(.v 5), (.p (.cut false true) [(.p .add [(.v 6), (.p .mul [(.p .tup [(.c (.str [97]))]), (.c (.int 8))])]), (.p .asInt [(.p .add [(.c (.int 6)), (.p .mod [(.p .fdiv [(.v 2), (.c (.int 64))]), (.c (.int 3))])])])])])))] []), (.ite (.p .eq [(.v 1), (.c (.int 4))]) [(.mut 3 .popAt [(.pure (.v 4))])] []), (.ite (.p .eq [(.v 1), (.c (.int 5))]) [(.asg 8 (.pure (.p .ix [(.p .lst [(.c (.str [65, 49])), (.c (.str [69, 88, 80, 82])), (.c (.str [90, 57, 90, 57, 90, 57, 90, 57])), (.c (.str [83, 48])), (.c (.str [65, 65]))]), (.p .mod [(.p .fdiv [(.v 2), (.c (.int 64))]), (.c (.int 5))])]))), (.asg 3 (.pure (.lc (.p .tup [(.ite (.p .eq [(.v 10), (.v 5)]) (.v 8) (.v 10)), (.v 11)]) false [10, 11] [10, 11] (.v 3) (.c (.bl true))))), (.asg 9 (.pure (.p .lst []))), (.fr (some 3) false [10, 11] (.v 3) [(.mut 9 .append [(.pure (.p .tup [(.v 10), (.p .tuple [(.lc (.ite (.p .eq [(.v 15), (.v 5)]) (.v 8) (.v 15)) true [15] [15] (.v 11) (.c (.bl true)))])]))])]), (.asg 3 (.pure (.v 9)))] []), (.ite (.p .eq [(.v 1), (.c (.int 6))]) [(.asg 12 (.pure (.p .ix [(.p .lst [(.c (.int 0)), (.c (.int 40)), (.c (.int 41)), (.c (.int 39))]), (.p .mod [(.p .fdiv [(.v 2), (.c (.int 64))]), (.c (.int 4))])]))), (.asg 3 (.pure (.lc (.p .tup [(.c (.str [83])), (.p .tuple [(.lc (.p .ix [(.c (.str [97, 98, 99, 100, 101, 102])), (.p .mod [(.p .fdiv [(.v 13), (.p .ix [(.p .lst [(.c (.int 1)), (.c (.int 6)), (.c (.int 36))]), (.v 14)])]), (.c (.int 6))])]) true [14] [14] (.p .range [(.c (.int 3))]) (.c (.bl true)))])]) true [13] [13] (.p .range [(.v 12)]) (.c (.bl true)))))] []), (.retv 3)]⟩
def m_law : FD := ⟨1, 6, none, false, [(.asg 1 (.pure (.p .lst [(.c (.int 2))]))), (.asg 2 (.call i__law_grammar [(.pure (.v 0)), (.io 1)])), (.asg 3 (.pure (.call i__law_cell_at [(.v 0), (.c (.int 0))]))), (.ite (.p .gt [(.p .mod [(.v 3), (.c (.int 4))]), (.c (.int 0))]) [(.asg 2 (.pure (.call i__law_spoilt [(.v 2), (.p .mod [(.p .fdiv [(.v 3), (.c (.int 4))]), (.c (.int 7))]), (.p .mod [(.call i__law_cell_at [(.v 0), (.c (.int 1))]), (.p .pow [(.c (.int 10)), (.c (.int 9))])])])))] []), (.asg 4 (.pure (.p .list [(.v 2)]))), (.asg 5 (.pure (.call i_is_grammar [(.v 4)]))), (.ret (.pure (.and (.p .isBool [(.v 5)]) (.and (.p .eq [(.v 5), (.call i__law_good [(.v 2)])]) (.p .eq [(.v 4), (.v 2)])))))]⟩
def T : Nat → Option FD
  | 0 => some m_is_letter
  | 1 => some m_is_name
  | 2 => some m_is_rule
  | 3 => some m_is_grammar
  | 4 => some m__law_cell_at
  | 5 => some m__law_next
  | 6 => some m__law_rule_by
  | 7 => some m__law_known
  | 8 => some m__law_closed
  | 9 => some m__law_grammar
  | 10 => some m__law_is_name
  | 11 => some m__law_good
  | 12 => some m__law_odd
  | 13 => some m__law_spoilt
  | 14 => some m_law
  | _ => none
end RW

namespace RW
open PySem L2
/-! ## plain Lean: what the defs give -/
theorem bok {α β : Type} (a : α) (f : α → Rs β) : (Rs.ok a).bind f = f a := rfl
theorem bex {α β : Type} (c : Str) (f : α → Rs β) : (Rs.exc c : Rs α).bind f = .exc c := rfl
theorem bbd {α β : Type} (f : α → Rs β) : (Rs.bad : Rs α).bind f = .bad := rfl
theorem ofs {α : Type} (a : α) : Rs.of (some a) = .ok a := rfl
theorem ofn {α : Type} : (Rs.of none : Rs α) = .bad := rfl
theorem ook {α : Type} (Γ : En) (a : α) (f : α → Out1) : (Rs.ok a).out Γ f = f a := rfl
theorem obd {α : Type} (Γ : En) (f : α → Out1) : (Rs.bad : Rs α).out Γ f = .bad := rfl
theorem nok {α : Type} (a : α) : noX (Rs.ok a) = .ok a := rfl
theorem nbd {α : Type} : noX (Rs.bad : Rs α) = .bad := rfl
theorem fzt (xs : List D) : fz (.tup xs) = .tup (fzs xs) := rfl
theorem fzl (o : Bool) (xs : List D) : fz (.lst o xs) = .lst false (fzs xs) := rfl
theorem run_go {T : Nat → Option FD} {N n id np ns : Nat} {io : Option Nat} {B : List S} {ds : List D} {Γ0 : En} (h : T id = some ⟨np, ns, io, false, B⟩) (hl : ds.length = np) (hΓ : ds.map some ++ List.replicate (ns - np) none = Γ0) : (cl T N (n + 1)).run id ds = noX (outR io (execs (cl T N n) N (ioL io) Γ0 B)) := by
  show (match T id with | some F => if F.ex then runD (cl T N n) N F ds else noX (runD (cl T N n) N F ds) | none => Rs.bad) = _
  rw [h]
  show noX (runD (cl T N n) N ⟨np, ns, io, false, B⟩ ds) = _
  unfold runD
  rw [if_pos hl]
  show noX (outR io (execs (cl T N n) N (ioL io) (ds.map some ++ List.replicate (ns - np) none) B)) = _
  rw [hΓ]
theorem eqOk_int (k : Nat) (i : Int) : eqOk k (.int i) = true := rfl
theorem eqOk_str (k : Nat) (i : List Nat) : eqOk k (.str i) = true := rfl
theorem eqOk_bl (k : Nat) (i : Bool) : eqOk k (.bl i) = true := rfl
theorem deq_int (i j : Int) : deq (.int i) (.int j) = (i == j) := rfl
theorem deq_str (i j : List Nat) : deq (.str i) (.str j) = (i == j) := rfl
theorem deq_bl (i j : Bool) : deq (.bl i) (.bl j) = (i == j) := rfl
theorem cio {T : Nat → Option FD} {N n f : Nat} : (cl T N n).io f = (T f).bind (·.io) := by cases n <;> rfl
theorem cex {T : Nat → Option FD} {N n f : Nat} : (cl T N n).ex f = (match T f with | some F => F.ex | none => false) := by cases n <;> rfl
section
variable (C : Cl) (Γ : En)
theorem ev_c (d : D) : ev C Γ (.c d) = .ok d := rfl
theorem ev_v (i : Nat) : ev C Γ (.v i) = (get1 Γ i).bind fun d => .ok (fz d) := rfl
theorem ev_p (o : Pr) (es : List E) : ev C Γ (.p o es) = (evL C Γ es).bind fun ds => Rs.of (prim o ds) := rfl
theorem ev_call (f : Nat) (es : List E) : ev C Γ (.call f es) = (match C.io f with
    | some _ => .bad
    | none => (evL C Γ es).bind fun ds => (if C.ex f then C.run f (fzs ds) else noX (C.run f (fzs ds))).bind fun r => .ok r.1) := rfl
theorem ev_and (a b : E) : ev C Γ (.and a b) = (ev C Γ a).bind fun x => (asB x).bind fun k => if k then ev C Γ b else .ok (.bl false) := rfl
theorem ev_or (a b : E) : ev C Γ (.or a b) = (ev C Γ a).bind fun x => (asB x).bind fun k => if k then .ok (.bl true) else ev C Γ b := rfl
theorem ev_not (a : E) : ev C Γ (.not a) = (ev C Γ a).bind fun x => (asB x).bind fun k => .ok (.bl (!k)) := rfl
theorem ev_ite (c a b : E) : ev C Γ (.ite c a b) = (ev C Γ c).bind fun x => (asB x).bind fun k => if k then ev C Γ a else ev C Γ b := rfl
theorem ev_chain (o1 o2 : Pr) (a b c : E) : ev C Γ (.chain o1 o2 a b c) = (ev C Γ a).bind fun x => (ev C Γ b).bind fun y => (Rs.of (if scal y then prim o1 [x, y] else none)).bind fun z => (asB z).bind fun k => if k then (ev C Γ c).bind fun u => Rs.of (prim o2 [y, u]) else .ok (.bl false) := rfl
theorem evX_op (o : Pr) (xs : List XE) : evX C Γ (.op o xs) = (evXs C Γ xs).bind fun p => (Rs.of (plain p.1)).bind fun ds => (Rs.of (prim o ds)).bind fun d => .ok (d, p.2) := rfl
theorem evX_call (f : Nat) (xs : List XE) : evX C Γ (.call f xs) = (evXs C Γ xs).bind fun p => match C.io f with
    | none => (Rs.of (plain p.1)).bind fun ds => (runF C f (fzs ds)).bind fun r => .ok (r.1, p.2)
    | some k => (Rs.of (ioArgs k p.1)).bind fun t => (get1 p.2 t.2.1).bind fun d => (runF C f (fzs t.1 ++ d :: fzs t.2.2)).bind fun r => (Rs.of r.2).bind fun o => .ok (r.1, p.2.set t.2.1 (some o)) := rfl
/-- one turn of a comprehension -/
def lcB (C : Cl) (Γ : En) (elt : E) (one : Bool) (tg own : List Nat) (cond : E) (x : D) : Rs (Option D) := (bindT one tg (fz x) (wipeE Γ own)).bind fun Γ' => (ev C Γ' cond).bind fun z => (asB z).bind fun k => if k then (ev C Γ' elt).bind fun y => .ok (some y) else .ok none
theorem lc_map {f : D → Rs (Option D)} {h : D → D} : ∀ {xs : List D}, (∀ x ∈ xs, f x = .ok (some (h x))) → lcGo f xs = .ok (xs.map h)
  | [], _ => rfl
  | x :: xs, H => by
    show ((f x).bind fun o => (lcGo f xs).bind fun r => .ok (match o with | some d => d :: r | none => r)) = _
    rw [H x List.mem_cons_self, lc_map fun y hy => H y (List.mem_cons_of_mem _ hy)]; rfl
theorem lc_filter {f : D → Rs (Option D)} {h : D → D} {p : D → Bool} : ∀ {xs : List D}, (∀ x ∈ xs, f x = .ok (if p x = true then some (h x) else none)) → lcGo f xs = .ok ((xs.filter p).map h)
  | [], _ => rfl
  | x :: xs, H => by
    show ((f x).bind fun o => (lcGo f xs).bind fun r => .ok (match o with | some d => d :: r | none => r)) = _
    rw [H x List.mem_cons_self, lc_filter fun y hy => H y (List.mem_cons_of_mem _ hy)]
    cases e : p x <;> simp [bok, List.filter_cons, e]
theorem ev_lcm {elt it cond : E} {one : Bool} {tg own : List Nat} {d : D} {xs : List D} (h : D → D) (h1 : ev C Γ it = .ok d) (h2 : items d = some xs) (hl : xs.length ≤ lim) (hb : ∀ x ∈ xs, lcB C Γ elt one tg own cond x = .ok (some (h x))) : ev C Γ (.lc elt one tg own it cond) = .ok (.lst true (xs.map h)) := by
  show ((ev C Γ it).bind fun d => (Rs.of (items d)).bind fun xs => (noX (lcGo (lcB C Γ elt one tg own cond) xs)).bind fun ys => if ys.length ≤ lim then Rs.ok (D.lst true ys) else .bad) = _
  rw [h1, bok, h2, ofs, bok, lc_map hb, nok, bok, if_pos (by rw [List.length_map]; exact hl)]
theorem ev_lcf {elt it cond : E} {one : Bool} {tg own : List Nat} {d : D} {xs : List D} (h : D → D) (p : D → Bool) (h1 : ev C Γ it = .ok d) (h2 : items d = some xs) (hl : xs.length ≤ lim) (hb : ∀ x ∈ xs, lcB C Γ elt one tg own cond x = .ok (if p x = true then some (h x) else none)) : ev C Γ (.lc elt one tg own it cond) = .ok (.lst true ((xs.filter p).map h)) := by
  show ((ev C Γ it).bind fun d => (Rs.of (items d)).bind fun xs => (noX (lcGo (lcB C Γ elt one tg own cond) xs)).bind fun ys => if ys.length ≤ lim then Rs.ok (D.lst true ys) else .bad) = _
  rw [h1, bok, h2, ofs, bok, lc_filter hb, nok, bok, if_pos (by rw [List.length_map]; exact Nat.le_trans (List.length_filter_le _ _) hl)]
end
theorem st_nx {C : Cl} {N : Nat} {ro : List Nat} {Γ Γ' : En} {s : S} {ss : List S} (h : exec C N ro Γ s = .nx Γ') : execs C N ro Γ (s :: ss) = execs C N ro Γ' ss := by
  show (match exec C N ro Γ s with | .nx Γ' => execs C N ro Γ' ss | o => o) = _
  rw [h]
theorem st_rt {C : Cl} {N : Nat} {ro : List Nat} {Γ Γ' : En} {d : D} {s : S} {ss : List S} (h : exec C N ro Γ s = .rt d Γ') : execs C N ro Γ (s :: ss) = .rt d Γ' := by
  show (match exec C N ro Γ s with | .nx Γ' => execs C N ro Γ' ss | o => o) = _
  rw [h]
theorem execs0 {C : Cl} {N : Nat} {ro : List Nat} {Γ : En} : execs C N ro Γ [] = .nx Γ := rfl
theorem bools_map {α : Type} (g : α → Bool) : ∀ xs : List α, bools (xs.map fun x => D.bl (g x)) = some (xs.map g)
  | [] => rfl
  | x :: xs => by
    show (bools (xs.map fun x => D.bl (g x))).map (g x :: ·) = _
    rw [bools_map g xs]; rfl
theorem hasFs_none {α : Type} (g : α → D) (h : ∀ x, hasF (g x) = false) : ∀ xs : List α, hasFs (xs.map g) = false
  | [] => rfl
  | x :: xs => by show (hasF (g x) || hasFs (xs.map g)) = false; rw [h x, hasFs_none g h xs]; rfl
theorem fzs_same {α : Type} (g : α → D) (h : ∀ x, fz (g x) = g x) : ∀ xs : List α, fzs (xs.map g) = xs.map g
  | [] => rfl
  | x :: xs => by show fz (g x) :: fzs (xs.map g) = _; rw [h x, fzs_same g h xs]; rfl
theorem flats_all {α : Type} (g : α → D) (h : ∀ x, flat (g x) = true) : ∀ xs : List α, flats (xs.map g) = true
  | [] => rfl
  | x :: xs => by show (flat (g x) && flats (xs.map g)) = true; rw [h x, flats_all g h xs]; rfl
theorem ev_all {α : Type} (C : Cl) (Γ : En) {e : E} {o : Bool} (xs : List α) (g : α → Bool) (h : ev C Γ e = .ok (.lst o (xs.map fun x => .bl (g x)))) : ev C Γ (.p .all [e]) = .ok (.bl (xs.all g)) := by
  have e1 : ev C Γ (.p .all [e]) = ((ev C Γ e).bind fun d => (Rs.ok []).bind fun ds => Rs.ok (d :: ds)).bind fun ds => Rs.of (pAll ds) := rfl
  rw [e1, h]
  simp only [bok]
  have e2 : pAll [D.lst o (xs.map fun x => D.bl (g x))] = (bools (xs.map fun x => D.bl (g x))).map fun bs => D.bl (bs.all id) := rfl
  rw [e2, bools_map g xs]
  simp [ofs, List.all_map]
theorem o_is_letter {N n : Nat} : (cl T N n).io i_is_letter = none := by rw [cio]; rfl
theorem x_is_letter {N n : Nat} : (cl T N n).ex i_is_letter = false := by rw [cex]; rfl
theorem o_is_name {N n : Nat} : (cl T N n).io i_is_name = none := by rw [cio]; rfl
theorem x_is_name {N n : Nat} : (cl T N n).ex i_is_name = false := by rw [cex]; rfl
theorem o_is_rule {N n : Nat} : (cl T N n).io i_is_rule = none := by rw [cio]; rfl
theorem x_is_rule {N n : Nat} : (cl T N n).ex i_is_rule = false := by rw [cex]; rfl
theorem o_is_grammar {N n : Nat} : (cl T N n).io i_is_grammar = none := by rw [cio]; rfl
theorem x_is_grammar {N n : Nat} : (cl T N n).ex i_is_grammar = false := by rw [cex]; rfl
theorem o__law_cell_at {N n : Nat} : (cl T N n).io i__law_cell_at = none := by rw [cio]; rfl
theorem x__law_cell_at {N n : Nat} : (cl T N n).ex i__law_cell_at = false := by rw [cex]; rfl
theorem o__law_next {N n : Nat} : (cl T N n).io i__law_next = (some 1) := by rw [cio]; rfl
theorem x__law_next {N n : Nat} : (cl T N n).ex i__law_next = false := by rw [cex]; rfl
theorem o__law_rule_by {N n : Nat} : (cl T N n).io i__law_rule_by = none := by rw [cio]; rfl
theorem x__law_rule_by {N n : Nat} : (cl T N n).ex i__law_rule_by = false := by rw [cex]; rfl
theorem o__law_known {N n : Nat} : (cl T N n).io i__law_known = none := by rw [cio]; rfl
theorem x__law_known {N n : Nat} : (cl T N n).ex i__law_known = false := by rw [cex]; rfl
theorem o__law_closed {N n : Nat} : (cl T N n).io i__law_closed = none := by rw [cio]; rfl
theorem x__law_closed {N n : Nat} : (cl T N n).ex i__law_closed = false := by rw [cex]; rfl
theorem o__law_grammar {N n : Nat} : (cl T N n).io i__law_grammar = (some 1) := by rw [cio]; rfl
theorem x__law_grammar {N n : Nat} : (cl T N n).ex i__law_grammar = false := by rw [cex]; rfl
theorem o__law_is_name {N n : Nat} : (cl T N n).io i__law_is_name = none := by rw [cio]; rfl
theorem x__law_is_name {N n : Nat} : (cl T N n).ex i__law_is_name = false := by rw [cex]; rfl
theorem o__law_good {N n : Nat} : (cl T N n).io i__law_good = none := by rw [cio]; rfl
theorem x__law_good {N n : Nat} : (cl T N n).ex i__law_good = false := by rw [cex]; rfl
theorem o__law_odd {N n : Nat} : (cl T N n).io i__law_odd = none := by rw [cio]; rfl
theorem x__law_odd {N n : Nat} : (cl T N n).ex i__law_odd = false := by rw [cex]; rfl
theorem o__law_spoilt {N n : Nat} : (cl T N n).io i__law_spoilt = none := by rw [cio]; rfl
theorem x__law_spoilt {N n : Nat} : (cl T N n).ex i__law_spoilt = false := by rw [cex]; rfl
theorem o_law {N n : Nat} : (cl T N n).io i_law = none := by rw [cio]; rfl
theorem x_law {N n : Nat} : (cl T N n).ex i_law = false := by rw [cex]; rfl

/-! ### letters and names -/
def letters : List Nat := [97, 98, 99, 100, 101, 102, 103, 104, 105, 106, 107, 108, 109, 110, 111, 112, 113, 114, 115, 116, 117, 118, 119, 120, 121, 122]
def capitals : List Nat := [65, 66, 67, 68, 69, 70, 71, 72, 73, 74, 75, 76, 77, 78, 79, 80, 81, 82, 83, 84, 85, 86, 87, 88, 89, 90]
def figures : List Nat := [48, 49, 50, 51, 52, 53, 54, 55, 56, 57]
def letM : List Nat → Bool
  | [c] => decide (c ∈ letters)
  | _ => false
def nameM : List Nat → Bool
  | [] => false
  | c :: r => decide ((c :: r).length ≤ 8) && decide (c ∈ capitals) && (c :: r).all fun d => decide (d ∈ capitals) || decide (d ∈ figures)
variable {N n : Nat}
theorem inText_one (c : Nat) (b : List Nat) : inText [c] b = decide (c ∈ b) := rfl
theorem r_is_letter (s : List Nat) (hs : s.length ≤ lim) : (cl T N (n + 1)).run i_is_letter [.str s] = .ok (.bl (letM s), none) := by
  rw [run_go (id := i_is_letter) (Γ0 := [some (.str s)]) rfl rfl rfl]
  match s, hs with
  | [], _ => rfl
  | [c], hs => simp [bok, bex, bbd, ofs, ofn, ook, obd, nok, nbd, fzt, fzl, exec, evX, evX_op, evX_call, evXs, ev_c, ev_v, ev_p, ev_call, ev_and, ev_or, ev_not, ev_ite, ev_chain, evL, get1, fz, fzs, prim, pLen, pEq, pCmp, pIn, pIx, pAdd, pSub, pMul, pFdiv, pMod, pPow, pTup, pLst, pTuple, pList, pAll, pInt, pStr, pIsBool, isBl, pCut, asB, truth, hasF, hasFs, plain, runF, eqOk_int, eqOk_str, eqOk_bl, deq_int, deq_str, deq_bl, List.getElem?_cons, List.length_cons, List.length_nil, List.map_cons, List.map_nil, List.cons_append, List.nil_append, List.set_cons_zero, List.set_cons_succ, scal, o_is_letter, x_is_letter, o_is_name, x_is_name, o_is_rule, x_is_rule, o_is_grammar, x_is_grammar, o__law_cell_at, x__law_cell_at, o__law_next, x__law_next, o__law_rule_by, x__law_rule_by, o__law_known, x__law_known, o__law_closed, x__law_closed, o__law_grammar, x__law_grammar, o__law_is_name, x__law_is_name, o__law_good, x__law_good, o__law_odd, x__law_odd, o__law_spoilt, x__law_spoilt, o_law, x_law, execs, outR, ioL, letM, letters, inText, lim]
  | c :: d :: r, hs =>
    have h2 : ¬ ((r.length : Int) + 1 + 1 = 1) := by omega
    simp only [List.length_cons] at hs
    simp [bok, bex, bbd, ofs, ofn, ook, obd, nok, nbd, fzt, fzl, exec, evX, evX_op, evX_call, evXs, ev_c, ev_v, ev_p, ev_call, ev_and, ev_or, ev_not, ev_ite, ev_chain, evL, get1, fz, fzs, prim, pLen, pEq, pCmp, pIn, pIx, pAdd, pSub, pMul, pFdiv, pMod, pPow, pTup, pLst, pTuple, pList, pAll, pInt, pStr, pIsBool, isBl, pCut, asB, truth, hasF, hasFs, plain, runF, eqOk_int, eqOk_str, eqOk_bl, deq_int, deq_str, deq_bl, List.getElem?_cons, List.length_cons, List.length_nil, List.map_cons, List.map_nil, List.cons_append, List.nil_append, List.set_cons_zero, List.set_cons_succ, scal, o_is_letter, x_is_letter, o_is_name, x_is_name, o_is_rule, x_is_rule, o_is_grammar, x_is_grammar, o__law_cell_at, x__law_cell_at, o__law_next, x__law_next, o__law_rule_by, x__law_rule_by, o__law_known, x__law_known, o__law_closed, x__law_closed, o__law_grammar, x__law_grammar, o__law_is_name, x__law_is_name, o__law_good, x__law_good, o__law_odd, x__law_odd, o__law_spoilt, x__law_spoilt, o_law, x_law, execs, outR, ioL, letM, hs, h2]
theorem ixAt0 {α : Type} (c : α) (r : List α) : ixAt (c :: r) 0 = some c := rfl
theorem r_is_name (s : List Nat) (hs : s.length ≤ lim) : (cl T N (n + 1)).run i_is_name [.str s] = .ok (.bl (nameM s), none) := by
  rw [run_go (id := i_is_name) (Γ0 := [some (.str s), none]) rfl rfl rfl]
  cases s with
  | nil => rfl
  | cons c r =>
    simp only [List.length_cons] at hs
    have h1 : (1 : Int) ≤ (r.length : Int) + 1 := by omega
    have lc := ev_lcm (cl T N n) [some (D.str (c :: r)), none] (elt := .or (.p .isIn [(.v 1), (.c (.str capitals))]) (.p .isIn [(.v 1), (.c (.str figures))])) (it := .v 0) (cond := .c (.bl true)) (one := true) (tg := [1]) (own := [1]) (d := .str (c :: r)) (xs := (c :: r).map fun c => D.str [c])
      (fun x => match x with | .str [d] => D.bl (decide (d ∈ capitals) || decide (d ∈ figures)) | _ => .non) rfl rfl (by rw [List.length_map]; exact hs) (fun x hx => by
        obtain ⟨d, _, rfl⟩ := List.mem_map.mp hx
        by_cases hd : d ∈ capitals <;> simp [bok, bex, bbd, ofs, ofn, ook, obd, nok, nbd, fzt, fzl, exec, evX, evX_op, evX_call, evXs, ev_c, ev_v, ev_p, ev_call, ev_and, ev_or, ev_not, ev_ite, ev_chain, evL, get1, fz, fzs, prim, pLen, pEq, pCmp, pIn, pIx, pAdd, pSub, pMul, pFdiv, pMod, pPow, pTup, pLst, pTuple, pList, pAll, pInt, pStr, pIsBool, isBl, pCut, asB, truth, hasF, hasFs, plain, runF, eqOk_int, eqOk_str, eqOk_bl, deq_int, deq_str, deq_bl, List.getElem?_cons, List.length_cons, List.length_nil, List.map_cons, List.map_nil, List.cons_append, List.nil_append, List.set_cons_zero, List.set_cons_succ, scal, o_is_letter, x_is_letter, o_is_name, x_is_name, o_is_rule, x_is_rule, o_is_grammar, x_is_grammar, o__law_cell_at, x__law_cell_at, o__law_next, x__law_next, o__law_rule_by, x__law_rule_by, o__law_known, x__law_known, o__law_closed, x__law_closed, o__law_grammar, x__law_grammar, o__law_is_name, x__law_is_name, o__law_good, x__law_good, o__law_odd, x__law_odd, o__law_spoilt, x__law_spoilt, o_law, x_law, lcB, wipeE, bindT, inText_one, hd])
    rw [List.map_map] at lc
    have lc' : ev (cl T N n) [some (D.str (c :: r)), none] _ = .ok (.lst true ((c :: r).map fun d => D.bl (decide (d ∈ capitals) || decide (d ∈ figures)))) := lc
    by_cases h8 : r.length + 1 ≤ 8
    · have h8' : (r.length : Int) + 1 ≤ 8 := by omega
      by_cases hc : c ∈ capitals
      · rw [st_nx (Γ' := [some (D.str (c :: r)), none]) (by
          have hc' := hc
          unfold capitals at hc'
          simp [bok, bex, bbd, ofs, ofn, ook, obd, nok, nbd, fzt, fzl, exec, evX, evX_op, evX_call, evXs, ev_c, ev_v, ev_p, ev_call, ev_and, ev_or, ev_not, ev_ite, ev_chain, evL, get1, fz, fzs, prim, pLen, pEq, pCmp, pIn, pIx, pAdd, pSub, pMul, pFdiv, pMod, pPow, pTup, pLst, pTuple, pList, pAll, pInt, pStr, pIsBool, isBl, pCut, asB, truth, hasF, hasFs, plain, runF, eqOk_int, eqOk_str, eqOk_bl, deq_int, deq_str, deq_bl, List.getElem?_cons, List.length_cons, List.length_nil, List.map_cons, List.map_nil, List.cons_append, List.nil_append, List.set_cons_zero, List.set_cons_succ, scal, o_is_letter, x_is_letter, o_is_name, x_is_name, o_is_rule, x_is_rule, o_is_grammar, x_is_grammar, o__law_cell_at, x__law_cell_at, o__law_next, x__law_next, o__law_rule_by, x__law_rule_by, o__law_known, x__law_known, o__law_closed, x__law_closed, o__law_grammar, x__law_grammar, o__law_is_name, x__law_is_name, o__law_good, x__law_good, o__law_odd, x__law_odd, o__law_spoilt, x__law_spoilt, o_law, x_law, execs, ioL, hs, h1, h8', inText_one, ixAt0, hc'])]
        rw [st_rt (Γ' := [some (D.str (c :: r)), none]) (d := .bl ((c :: r).all fun d => decide (d ∈ capitals) || decide (d ∈ figures))) (by
          show (evX (cl T N n) [some (D.str (c :: r)), none] (.pure (.p .all [.lc _ true [1] [1] (.v 0) (.c (.bl true))]))).out _ _ = _
          have e := ev_all (cl T N n) [some (D.str (c :: r)), none] (c :: r) (fun d => decide (d ∈ capitals) || decide (d ∈ figures)) lc'
          show ((ev (cl T N n) [some (D.str (c :: r)), none] (.p .all [.lc (.or (.p .isIn [(.v 1), (.c (.str capitals))]) (.p .isIn [(.v 1), (.c (.str figures))])) true [1] [1] (.v 0) (.c (.bl true))])).bind _).out _ _ = _
          rw [e]; rfl)]
        simp [outR, nameM, hc, h8, nok]
      · have hc' := hc
        unfold capitals at hc'
        simp [bok, bex, bbd, ofs, ofn, ook, obd, nok, nbd, fzt, fzl, exec, evX, evX_op, evX_call, evXs, ev_c, ev_v, ev_p, ev_call, ev_and, ev_or, ev_not, ev_ite, ev_chain, evL, get1, fz, fzs, prim, pLen, pEq, pCmp, pIn, pIx, pAdd, pSub, pMul, pFdiv, pMod, pPow, pTup, pLst, pTuple, pList, pAll, pInt, pStr, pIsBool, isBl, pCut, asB, truth, hasF, hasFs, plain, runF, eqOk_int, eqOk_str, eqOk_bl, deq_int, deq_str, deq_bl, List.getElem?_cons, List.length_cons, List.length_nil, List.map_cons, List.map_nil, List.cons_append, List.nil_append, List.set_cons_zero, List.set_cons_succ, scal, o_is_letter, x_is_letter, o_is_name, x_is_name, o_is_rule, x_is_rule, o_is_grammar, x_is_grammar, o__law_cell_at, x__law_cell_at, o__law_next, x__law_next, o__law_rule_by, x__law_rule_by, o__law_known, x__law_known, o__law_closed, x__law_closed, o__law_grammar, x__law_grammar, o__law_is_name, x__law_is_name, o__law_good, x__law_good, o__law_odd, x__law_odd, o__law_spoilt, x__law_spoilt, o_law, x_law, execs, outR, ioL, nameM, hs, h1, h8', inText_one, ixAt0, hc, hc']
    · have h8' : ¬ (r.length : Int) + 1 ≤ 8 := by omega
      simp [bok, bex, bbd, ofs, ofn, ook, obd, nok, nbd, fzt, fzl, exec, evX, evX_op, evX_call, evXs, ev_c, ev_v, ev_p, ev_call, ev_and, ev_or, ev_not, ev_ite, ev_chain, evL, get1, fz, fzs, prim, pLen, pEq, pCmp, pIn, pIx, pAdd, pSub, pMul, pFdiv, pMod, pPow, pTup, pLst, pTuple, pList, pAll, pInt, pStr, pIsBool, isBl, pCut, asB, truth, hasF, hasFs, plain, runF, eqOk_int, eqOk_str, eqOk_bl, deq_int, deq_str, deq_bl, List.getElem?_cons, List.length_cons, List.length_nil, List.map_cons, List.map_nil, List.cons_append, List.nil_append, List.set_cons_zero, List.set_cons_succ, scal, o_is_letter, x_is_letter, o_is_name, x_is_name, o_is_rule, x_is_rule, o_is_grammar, x_is_grammar, o__law_cell_at, x__law_cell_at, o__law_next, x__law_next, o__law_rule_by, x__law_rule_by, o__law_known, x__law_known, o__law_closed, x__law_closed, o__law_grammar, x__law_grammar, o__law_is_name, x__law_is_name, o__law_good, x__law_good, o__law_odd, x__law_odd, o__law_spoilt, x__law_spoilt, o_law, x_law, execs, outR, ioL, nameM, hs, h1, h8, h8']
/-! ### rules -/
abbrev R := List Nat × List (List Nat)
def encR (r : R) : D := .tup [.str r.1, .tup (r.2.map .str)]
theorem fz_encR (r : R) : fz (encR r) = encR r := by
  show D.tup [D.str r.1, D.tup (fzs (r.2.map .str))] = _
  rw [fzs_same _ (fun _ => rfl)]; rfl
theorem hasF_encR (r : R) : hasF (encR r) = false := by
  show (false || ((hasFs (r.2.map .str)) || false)) = false
  rw [hasFs_none _ (fun _ => rfl)]; rfl
theorem flat_encR (r : R) : flat (encR r) = true := by
  show (true && (flats (r.2.map .str) && true)) = true
  rw [flats_all _ (fun _ => rfl)]; rfl
def SzR (r : R) : Prop := r.1.length ≤ 1000 ∧ r.2.length ≤ 1000 ∧ ∀ p ∈ r.2, p.length ≤ 1000
def ruleM (r : R) : Bool := nameM r.1 && decide (r.2.length ≤ 6) && r.2.all fun p => letM p || nameM p
theorem le_lim {k : Nat} (h : k ≤ 1000) : k ≤ lim := Nat.le_trans h (by decide)
theorem fzs_str (xs : List (List Nat)) : fzs (xs.map D.str) = xs.map D.str := fzs_same _ (fun _ => rfl) xs
theorem hasFs_str (xs : List (List Nat)) : hasFs (xs.map D.str) = false := hasFs_none _ (fun _ => rfl) xs
theorem r_is_rule (r : R) (h : SzR r) : (cl T N (n + 2)).run i_is_rule [encR r] = .ok (.bl (ruleM r), none) := by
  obtain ⟨nm, ps⟩ := r
  obtain ⟨h1, h2, h3⟩ := h
  simp only at h1 h2 h3
  rw [run_go (id := i_is_rule) (Γ0 := [some (encR (nm, ps)), none, none, none]) rfl rfl rfl]
  have hn := r_is_name (N := N) (n := n) nm (le_lim h1)
  rw [st_nx (Γ' := [some (encR (nm, ps)), some (.str nm), some (.tup (ps.map .str)), none]) (by
    simp [bok, bex, bbd, ofs, ofn, ook, obd, nok, nbd, fzt, fzl, exec, evX, evX_op, evX_call, evXs, ev_c, ev_v, ev_p, ev_call, ev_and, ev_or, ev_not, ev_ite, ev_chain, evL, get1, fz, fzs, prim, pLen, pEq, pCmp, pIn, pIx, pAdd, pSub, pMul, pFdiv, pMod, pPow, pTup, pLst, pTuple, pList, pAll, pInt, pStr, pIsBool, isBl, pCut, asB, truth, hasF, hasFs, plain, runF, eqOk_int, eqOk_str, eqOk_bl, deq_int, deq_str, deq_bl, List.getElem?_cons, List.length_cons, List.length_nil, List.map_cons, List.map_nil, List.cons_append, List.nil_append, List.set_cons_zero, List.set_cons_succ, scal, o_is_letter, x_is_letter, o_is_name, x_is_name, o_is_rule, x_is_rule, o_is_grammar, x_is_grammar, o__law_cell_at, x__law_cell_at, o__law_next, x__law_next, o__law_rule_by, x__law_rule_by, o__law_known, x__law_known, o__law_closed, x__law_closed, o__law_grammar, x__law_grammar, o__law_is_name, x__law_is_name, o__law_good, x__law_good, o__law_odd, x__law_odd, o__law_spoilt, x__law_spoilt, o_law, x_law, execs, ioL, encR, fzs_str, hasFs_str, bindT, setE])]
  have lc := ev_lcm (cl T N (n + 1)) [some (encR (nm, ps)), some (.str nm), some (.tup (ps.map .str)), none] (elt := .or (.call i_is_letter [.v 3]) (.call i_is_name [.v 3])) (it := .v 2) (cond := .c (.bl true)) (one := true) (tg := [3]) (own := [3]) (d := .tup (ps.map .str)) (xs := ps.map .str)
      (fun x => match x with | .str p => D.bl (letM p || nameM p) | _ => .non) (by simp [bok, bex, bbd, ofs, ofn, ook, obd, nok, nbd, fzt, fzl, exec, evX, evX_op, evX_call, evXs, ev_c, ev_v, ev_p, ev_call, ev_and, ev_or, ev_not, ev_ite, ev_chain, evL, get1, fz, fzs, prim, pLen, pEq, pCmp, pIn, pIx, pAdd, pSub, pMul, pFdiv, pMod, pPow, pTup, pLst, pTuple, pList, pAll, pInt, pStr, pIsBool, isBl, pCut, asB, truth, hasF, hasFs, plain, runF, eqOk_int, eqOk_str, eqOk_bl, deq_int, deq_str, deq_bl, List.getElem?_cons, List.length_cons, List.length_nil, List.map_cons, List.map_nil, List.cons_append, List.nil_append, List.set_cons_zero, List.set_cons_succ, scal, o_is_letter, x_is_letter, o_is_name, x_is_name, o_is_rule, x_is_rule, o_is_grammar, x_is_grammar, o__law_cell_at, x__law_cell_at, o__law_next, x__law_next, o__law_rule_by, x__law_rule_by, o__law_known, x__law_known, o__law_closed, x__law_closed, o__law_grammar, x__law_grammar, o__law_is_name, x__law_is_name, o__law_good, x__law_good, o__law_odd, x__law_odd, o__law_spoilt, x__law_spoilt, o_law, x_law, fzs_str]) rfl (by rw [List.length_map]; exact le_lim h2) (fun x hx => by
        obtain ⟨p, hp, rfl⟩ := List.mem_map.mp hx
        have hl := r_is_letter (N := N) (n := n) p (le_lim (h3 p hp))
        have hm := r_is_name (N := N) (n := n) p (le_lim (h3 p hp))
        cases e : letM p <;> simp [bok, bex, bbd, ofs, ofn, ook, obd, nok, nbd, fzt, fzl, exec, evX, evX_op, evX_call, evXs, ev_c, ev_v, ev_p, ev_call, ev_and, ev_or, ev_not, ev_ite, ev_chain, evL, get1, fz, fzs, prim, pLen, pEq, pCmp, pIn, pIx, pAdd, pSub, pMul, pFdiv, pMod, pPow, pTup, pLst, pTuple, pList, pAll, pInt, pStr, pIsBool, isBl, pCut, asB, truth, hasF, hasFs, plain, runF, eqOk_int, eqOk_str, eqOk_bl, deq_int, deq_str, deq_bl, List.getElem?_cons, List.length_cons, List.length_nil, List.map_cons, List.map_nil, List.cons_append, List.nil_append, List.set_cons_zero, List.set_cons_succ, scal, o_is_letter, x_is_letter, o_is_name, x_is_name, o_is_rule, x_is_rule, o_is_grammar, x_is_grammar, o__law_cell_at, x__law_cell_at, o__law_next, x__law_next, o__law_rule_by, x__law_rule_by, o__law_known, x__law_known, o__law_closed, x__law_closed, o__law_grammar, x__law_grammar, o__law_is_name, x__law_is_name, o__law_good, x__law_good, o__law_odd, x__law_odd, o__law_spoilt, x__law_spoilt, o_law, x_law, lcB, wipeE, bindT, hl, hm, e])
  rw [List.map_map] at lc
  have lc' : ev (cl T N (n + 1)) [some (encR (nm, ps)), some (.str nm), some (.tup (ps.map .str)), none] _ = .ok (.lst true (ps.map fun p => D.bl (letM p || nameM p))) := lc
  have e := ev_all _ _ ps (fun p => letM p || nameM p) lc'
  cases hnm : nameM nm with
  | false =>
    rw [st_rt (Γ' := [some (encR (nm, ps)), some (.str nm), some (.tup (ps.map .str)), none]) (d := .bl false) (by
      simp [bok, bex, bbd, ofs, ofn, ook, obd, nok, nbd, fzt, fzl, exec, evX, evX_op, evX_call, evXs, ev_c, ev_v, ev_p, ev_call, ev_and, ev_or, ev_not, ev_ite, ev_chain, evL, get1, fz, fzs, prim, pLen, pEq, pCmp, pIn, pIx, pAdd, pSub, pMul, pFdiv, pMod, pPow, pTup, pLst, pTuple, pList, pAll, pInt, pStr, pIsBool, isBl, pCut, asB, truth, hasF, hasFs, plain, runF, eqOk_int, eqOk_str, eqOk_bl, deq_int, deq_str, deq_bl, List.getElem?_cons, List.length_cons, List.length_nil, List.map_cons, List.map_nil, List.cons_append, List.nil_append, List.set_cons_zero, List.set_cons_succ, scal, o_is_letter, x_is_letter, o_is_name, x_is_name, o_is_rule, x_is_rule, o_is_grammar, x_is_grammar, o__law_cell_at, x__law_cell_at, o__law_next, x__law_next, o__law_rule_by, x__law_rule_by, o__law_known, x__law_known, o__law_closed, x__law_closed, o__law_grammar, x__law_grammar, o__law_is_name, x__law_is_name, o__law_good, x__law_good, o__law_odd, x__law_odd, o__law_spoilt, x__law_spoilt, o_law, x_law, execs, ioL, hn, hnm])]
    simp [outR, nok, ruleM, hnm]
  | true =>
    by_cases h6 : ps.length ≤ 6
    · have h6' : ¬ (6 : Int) < (ps.length : Int) := by omega
      rw [st_nx (Γ' := [some (encR (nm, ps)), some (.str nm), some (.tup (ps.map .str)), none]) (by
        simp [bok, bex, bbd, ofs, ofn, ook, obd, nok, nbd, fzt, fzl, exec, evX, evX_op, evX_call, evXs, ev_c, ev_v, ev_p, ev_call, ev_and, ev_or, ev_not, ev_ite, ev_chain, evL, get1, fz, fzs, prim, pLen, pEq, pCmp, pIn, pIx, pAdd, pSub, pMul, pFdiv, pMod, pPow, pTup, pLst, pTuple, pList, pAll, pInt, pStr, pIsBool, isBl, pCut, asB, truth, hasF, hasFs, plain, runF, eqOk_int, eqOk_str, eqOk_bl, deq_int, deq_str, deq_bl, List.getElem?_cons, List.length_cons, List.length_nil, List.map_cons, List.map_nil, List.cons_append, List.nil_append, List.set_cons_zero, List.set_cons_succ, scal, o_is_letter, x_is_letter, o_is_name, x_is_name, o_is_rule, x_is_rule, o_is_grammar, x_is_grammar, o__law_cell_at, x__law_cell_at, o__law_next, x__law_next, o__law_rule_by, x__law_rule_by, o__law_known, x__law_known, o__law_closed, x__law_closed, o__law_grammar, x__law_grammar, o__law_is_name, x__law_is_name, o__law_good, x__law_good, o__law_odd, x__law_odd, o__law_spoilt, x__law_spoilt, o_law, x_law, execs, ioL, hn, hnm, fzs_str, h6'])]
      rw [st_rt (Γ' := [some (encR (nm, ps)), some (.str nm), some (.tup (ps.map .str)), none]) (d := .bl (ps.all fun p => letM p || nameM p)) (by
        show ((ev (cl T N (n + 1)) [some (encR (nm, ps)), some (.str nm), some (.tup (ps.map .str)), none] (.p .all [.lc (.or (.call i_is_letter [.v 3]) (.call i_is_name [.v 3])) true [3] [3] (.v 2) (.c (.bl true))])).bind _).out _ _ = _
        rw [e]; rfl)]
      simp [outR, nok, ruleM, hnm, h6]
    · have h6' : (6 : Int) < (ps.length : Int) := by omega
      rw [st_rt (Γ' := [some (encR (nm, ps)), some (.str nm), some (.tup (ps.map .str)), none]) (d := .bl false) (by
        simp [bok, bex, bbd, ofs, ofn, ook, obd, nok, nbd, fzt, fzl, exec, evX, evX_op, evX_call, evXs, ev_c, ev_v, ev_p, ev_call, ev_and, ev_or, ev_not, ev_ite, ev_chain, evL, get1, fz, fzs, prim, pLen, pEq, pCmp, pIn, pIx, pAdd, pSub, pMul, pFdiv, pMod, pPow, pTup, pLst, pTuple, pList, pAll, pInt, pStr, pIsBool, isBl, pCut, asB, truth, hasF, hasFs, plain, runF, eqOk_int, eqOk_str, eqOk_bl, deq_int, deq_str, deq_bl, List.getElem?_cons, List.length_cons, List.length_nil, List.map_cons, List.map_nil, List.cons_append, List.nil_append, List.set_cons_zero, List.set_cons_succ, scal, o_is_letter, x_is_letter, o_is_name, x_is_name, o_is_rule, x_is_rule, o_is_grammar, x_is_grammar, o__law_cell_at, x__law_cell_at, o__law_next, x__law_next, o__law_rule_by, x__law_rule_by, o__law_known, x__law_known, o__law_closed, x__law_closed, o__law_grammar, x__law_grammar, o__law_is_name, x__law_is_name, o__law_good, x__law_good, o__law_odd, x__law_odd, o__law_spoilt, x__law_spoilt, o_law, x_law, execs, ioL, hn, hnm, fzs_str, h6'])]
      simp [outR, nok, ruleM, hnm, h6]

/-! ### grammars -/
theorem deqs_str : ∀ xs ys : List (List Nat), deqs (xs.map D.str) (ys.map D.str) = (xs == ys)
  | [], [] => rfl
  | [], _ :: _ => rfl
  | _ :: _, [] => rfl
  | x :: xs, y :: ys => by
    show (x == y && deqs (xs.map D.str) (ys.map D.str)) = _
    rw [deqs_str xs ys]; rfl
theorem deq_encR (a b : R) : deq (encR a) (encR b) = (a == b) := by
  obtain ⟨a1, a2⟩ := a
  obtain ⟨b1, b2⟩ := b
  show (a1 == b1 && (deqs (a2.map D.str) (b2.map D.str) && true)) = _
  rw [deqs_str, Bool.and_true]; rfl
theorem any_encR (r : R) (g : List R) : ((g.map encR).any fun z => deq z (encR r)) = g.contains r := by
  induction g with
  | nil => rfl
  | cons x g ih =>
    rw [List.map_cons, List.any_cons, ih, deq_encR, List.contains_cons]
    congr 1
    exact Bool.beq_comm ..
theorem keyDs_str : ∀ (k : Nat) (xs : List (List Nat)), keyDs k (xs.map D.str) = true
  | _, [] => rfl
  | k, x :: xs => by
    show (keyD k (D.str x) && keyDs k (xs.map D.str)) = true
    rw [keyDs_str k xs]
    cases k <;> rfl
theorem isKt_encR (r : R) : isKt (encR r) = true := by
  show (true && (keyDs 6 (r.2.map D.str) && true)) = true
  rw [keyDs_str]; rfl
theorem keyOk_encR (r : R) (g : List R) : keyOk (encR r) (g.map encR) = true := by
  unfold keyOk
  have h : (g.map encR).all isKt = true := by rw [List.all_map]; exact List.all_eq_true.mpr fun x _ => isKt_encR x
  rw [isKt_encR, h]
  simp
def dk (done : List R) : D := .dct true (done.map encR) (done.map fun _ => .bl true)
def chk : List R → List R → Bool
  | _, [] => true
  | done, r :: g => ruleM r && !(done.contains r) && chk (done ++ [r]) g
theorem exec_fr {C : Cl} {N : Nat} {ro : List Nat} {Γ : En} {hide : Option Nat} {one : Bool} {tg : List Nat} {it : E} {body : List S} {d : D} {xs : List D} (h1 : ev C Γ it = .ok d) (h2 : items d = some xs) :
    exec C N ro Γ (.fr hide one tg it body) = frRun hide ro tg (vars it) d xs (fun ro x Γ => (bindT one tg (fz x) Γ).out Γ fun Γ' => execs C N ro Γ' body) Γ := by
  show ((ev C Γ it).out Γ fun d => (Rs.of (items d)).out Γ fun xs => frRun hide ro tg (vars it) d xs (fun ro x Γ => (bindT one tg (fz x) Γ).out Γ fun Γ' => execs C N ro Γ' body) Γ) = _
  rw [h1, ook, h2, ofs, ook]
theorem fr_hide {i : Nat} {ro tg rd : List Nat} {d dv : D} {xs : List D} {f : List Nat → D → En → Out1} {Γ : En} (h1 : tg.any ro.contains = false) (h2 : hasF d = true) (h3 : flats xs = true) (h4 : tg.contains i = false) (h5 : get1 Γ i = .ok dv) : frRun (some i) ro tg rd d xs f Γ = unhide i dv (forGo (f (i :: ro)) xs (Γ.set i none)) := by
  unfold frRun
  rw [h1, h2]
  simp [h3, h5, ook, h4] 
  intro h
  have : tg.contains i = true := by simpa using h
  rw [h4] at this; cases this
theorem fr_plain {hide : Option Nat} {ro tg rd : List Nat} {d : D} {xs : List D} {f : List Nat → D → En → Out1} {Γ : En} (h1 : tg.any ro.contains = false) (h2 : hasF d = false) : frRun hide ro tg rd d xs f Γ = forGo (f ro) xs Γ := by
  unfold frRun
  rw [h1, h2]; rfl
theorem for_nx {f : D → En → Out1} {d : D} {ds : List D} {Γ Γ' : En} (h : f d Γ = .nx Γ') : forGo f (d :: ds) Γ = forGo f ds Γ' := by
  show (match f d Γ with | .nx Γ' => forGo f ds Γ' | .ct Γ' => forGo f ds Γ' | .bk Γ' => .nx Γ' | o => o) = _
  rw [h]
theorem for_rt {f : D → En → Out1} {d v : D} {ds : List D} {Γ Γ' : En} (h : f d Γ = .rt v Γ') : forGo f (d :: ds) Γ = .rt v Γ' := by
  show (match f d Γ with | .nx Γ' => forGo f ds Γ' | .ct Γ' => forGo f ds Γ' | .bk Γ' => .nx Γ' | o => o) = _
  rw [h]
/-- the first loop's turn -/
def turn1 (C : Cl) (N : Nat) (ro : List Nat) : D → En → Out1 := fun x Γ => (bindT true [2] (fz x) Γ).out Γ fun Γ' => execs C N ro Γ' [(.ite (.or (.not (.call i_is_rule [(.v 2)])) (.p .isIn [(.v 2), (.v 1)])) [(.ret (.pure (.c (.bl false))))] []), (.put 1 (.v 2) (.pure (.c (.bl true))))]
theorem fzs_bl (g : List R) : fzs (g.map fun _ => D.bl true) = g.map fun _ => D.bl true := fzs_same _ (fun _ => rfl) g
theorem putV_dk (done : List R) (r : R) (h : done.contains r = false) (hl : done.length < lim) : putV (dk done) (encR r) (.bl true) = some (dk (done ++ [r])) := by
  have hk : hasKey (encR r) (done.map encR) = false := by unfold hasKey; rw [any_encR]; exact h
  have e : putV (dk done) (encR r) (.bl true) = if keyOk (encR r) (done.map encR) = true ∧ flat (encR r) = true ∧ (done.map encR).length < lim ∧ (done.map fun _ => D.bl true).length = (done.map encR).length then some (.dct true (putD (encR r) (.bl true) (done.map encR) (done.map fun _ => .bl true)).1 (putD (encR r) (.bl true) (done.map encR) (done.map fun _ => .bl true)).2) else none := rfl
  rw [e, if_pos ⟨keyOk_encR r done, flat_encR r, by rw [List.length_map]; exact hl, by rw [List.length_map, List.length_map]⟩]
  unfold putD
  rw [hk]
  show some (D.dct true (done.map encR ++ [encR r]) (done.map (fun _ => D.bl true) ++ [.bl true])) = some (D.dct true ((done ++ [r]).map encR) ((done ++ [r]).map fun _ => .bl true))
  rw [List.map_append, List.map_append]; rfl
theorem loop1 : ∀ (g done : List R) (x : Option D), (∀ r ∈ g, SzR r) → done.length + g.length ≤ 1000 →
    (chk done g = true → ∃ y, forGo (turn1 (cl T N (n + 2)) N [0]) (g.map encR) [none, some (dk done), x, none, none] = .nx [none, some (dk (done ++ g)), y, none, none]) ∧
    (chk done g = false → ∃ Γ', forGo (turn1 (cl T N (n + 2)) N [0]) (g.map encR) [none, some (dk done), x, none, none] = .rt (.bl false) Γ')
  | [], done, x, _, _ => ⟨fun _ => ⟨x, by rw [List.append_nil]; rfl⟩, fun h => by cases h⟩
  | r :: g, done, x, hs, hl => by
    simp only [List.length_cons] at hl
    have hr := r_is_rule (N := N) (n := n) r (hs r List.mem_cons_self)
    have hhk : hasKey (encR r) (done.map encR) = done.contains r := by unfold hasKey; rw [any_encR]
    have hdk : fz (dk done) = .dct false (done.map encR) (done.map fun _ => D.bl true) := by
      show D.dct false (done.map encR) (fzs (done.map fun _ => D.bl true)) = _
      rw [fzs_bl]
    by_cases hm : ruleM r = true
    · by_cases hc : done.contains r = true
      · refine ⟨fun h => ?_, fun _ => ⟨[none, some (dk done), some (encR r), none, none], ?_⟩⟩
        · unfold chk at h; rw [hm, hc] at h; simp at h
        · rw [List.map_cons]
          refine for_rt ?_
          unfold turn1
          simp only [fz_encR]
          show execs _ _ _ [none, some (dk done), some (encR r), none, none] _ = _
          refine st_rt ?_
          have hk1 : hasKey (encR r) (done.map encR) = true := by rw [hhk, hc]
          simp [bok, bex, bbd, ofs, ofn, ook, obd, nok, nbd, fzt, fzl, exec, evX, evX_op, evX_call, evXs, ev_c, ev_v, ev_p, ev_call, ev_and, ev_or, ev_not, ev_ite, ev_chain, evL, get1, fz, fzs, prim, pLen, pEq, pCmp, pIn, pIx, pAdd, pSub, pMul, pFdiv, pMod, pPow, pTup, pLst, pTuple, pList, pAll, pInt, pStr, pIsBool, isBl, pCut, asB, truth, hasF, hasFs, plain, runF, eqOk_int, eqOk_str, eqOk_bl, deq_int, deq_str, deq_bl, List.getElem?_cons, List.length_cons, List.length_nil, List.map_cons, List.map_nil, List.cons_append, List.nil_append, List.set_cons_zero, List.set_cons_succ, scal, o_is_letter, x_is_letter, o_is_name, x_is_name, o_is_rule, x_is_rule, o_is_grammar, x_is_grammar, o__law_cell_at, x__law_cell_at, o__law_next, x__law_next, o__law_rule_by, x__law_rule_by, o__law_known, x__law_known, o__law_closed, x__law_closed, o__law_grammar, x__law_grammar, o__law_is_name, x__law_is_name, o__law_good, x__law_good, o__law_odd, x__law_odd, o__law_spoilt, x__law_spoilt, o_law, x_law, execs, fz_encR, hr, hm, hdk, keyOk_encR, hk1]
      · have hc' : done.contains r = false := by simpa using hc
        have hstep : turn1 (cl T N (n + 2)) N [0] (encR r) [none, some (dk done), x, none, none] = .nx [none, some (dk (done ++ [r])), some (encR r), none, none] := by
          unfold turn1
          simp only [fz_encR]
          show execs _ _ _ [none, some (dk done), some (encR r), none, none] _ = _
          rw [st_nx (Γ' := [none, some (dk done), some (encR r), none, none]) (by
            have hk0 : hasKey (encR r) (done.map encR) = false := by rw [hhk, hc']
            simp [bok, bex, bbd, ofs, ofn, ook, obd, nok, nbd, fzt, fzl, exec, evX, evX_op, evX_call, evXs, ev_c, ev_v, ev_p, ev_call, ev_and, ev_or, ev_not, ev_ite, ev_chain, evL, get1, fz, fzs, prim, pLen, pEq, pCmp, pIn, pIx, pAdd, pSub, pMul, pFdiv, pMod, pPow, pTup, pLst, pTuple, pList, pAll, pInt, pStr, pIsBool, isBl, pCut, asB, truth, hasF, hasFs, plain, runF, eqOk_int, eqOk_str, eqOk_bl, deq_int, deq_str, deq_bl, List.getElem?_cons, List.length_cons, List.length_nil, List.map_cons, List.map_nil, List.cons_append, List.nil_append, List.set_cons_zero, List.set_cons_succ, scal, o_is_letter, x_is_letter, o_is_name, x_is_name, o_is_rule, x_is_rule, o_is_grammar, x_is_grammar, o__law_cell_at, x__law_cell_at, o__law_next, x__law_next, o__law_rule_by, x__law_rule_by, o__law_known, x__law_known, o__law_closed, x__law_closed, o__law_grammar, x__law_grammar, o__law_is_name, x__law_is_name, o__law_good, x__law_good, o__law_odd, x__law_odd, o__law_spoilt, x__law_spoilt, o_law, x_law, execs, fz_encR, hr, hm, hdk, keyOk_encR, hk0])]
          rw [st_nx (Γ' := [none, some (dk (done ++ [r])), some (encR r), none, none]) (by
            have hp := putV_dk done r hc' (Nat.lt_of_le_of_lt (show done.length ≤ 1000 by omega) (by decide))
            simp [bok, bex, bbd, ofs, ofn, ook, obd, nok, nbd, fzt, fzl, exec, evX, evX_op, evX_call, evXs, ev_c, ev_v, ev_p, ev_call, ev_and, ev_or, ev_not, ev_ite, ev_chain, evL, get1, fz, fzs, prim, pLen, pEq, pCmp, pIn, pIx, pAdd, pSub, pMul, pFdiv, pMod, pPow, pTup, pLst, pTuple, pList, pAll, pInt, pStr, pIsBool, isBl, pCut, asB, truth, hasF, hasFs, plain, runF, eqOk_int, eqOk_str, eqOk_bl, deq_int, deq_str, deq_bl, List.getElem?_cons, List.length_cons, List.length_nil, List.map_cons, List.map_nil, List.cons_append, List.nil_append, List.set_cons_zero, List.set_cons_succ, scal, o_is_letter, x_is_letter, o_is_name, x_is_name, o_is_rule, x_is_rule, o_is_grammar, x_is_grammar, o__law_cell_at, x__law_cell_at, o__law_next, x__law_next, o__law_rule_by, x__law_rule_by, o__law_known, x__law_known, o__law_closed, x__law_closed, o__law_grammar, x__law_grammar, o__law_is_name, x__law_is_name, o__law_good, x__law_good, o__law_odd, x__law_odd, o__law_spoilt, x__law_spoilt, o_law, x_law, fz_encR, flat_encR, hp])]
          rfl
        obtain ⟨i1, i2⟩ := loop1 g (done ++ [r]) (some (encR r)) (fun q hq => hs q (List.mem_cons_of_mem _ hq)) (by rw [List.length_append, List.length_singleton]; omega)
        have hchk : chk done (r :: g) = chk (done ++ [r]) g := by
          show (ruleM r && !(done.contains r) && chk (done ++ [r]) g) = _
          rw [hm, hc']; simp
        rw [List.map_cons, for_nx hstep, hchk]
        rw [List.append_assoc] at i1
        exact ⟨i1, i2⟩
    · have hm' : ruleM r = false := by simpa using hm
      refine ⟨fun h => ?_, fun _ => ⟨[none, some (dk done), some (encR r), none, none], ?_⟩⟩
      · unfold chk at h; rw [hm'] at h; simp at h
      · rw [List.map_cons]
        refine for_rt ?_
        unfold turn1
        simp only [fz_encR]
        show execs _ _ _ [none, some (dk done), some (encR r), none, none] _ = _
        refine st_rt ?_
        simp [bok, bex, bbd, ofs, ofn, ook, obd, nok, nbd, fzt, fzl, exec, evX, evX_op, evX_call, evXs, ev_c, ev_v, ev_p, ev_call, ev_and, ev_or, ev_not, ev_ite, ev_chain, evL, get1, fz, fzs, prim, pLen, pEq, pCmp, pIn, pIx, pAdd, pSub, pMul, pFdiv, pMod, pPow, pTup, pLst, pTuple, pList, pAll, pInt, pStr, pIsBool, isBl, pCut, asB, truth, hasF, hasFs, plain, runF, eqOk_int, eqOk_str, eqOk_bl, deq_int, deq_str, deq_bl, List.getElem?_cons, List.length_cons, List.length_nil, List.map_cons, List.map_nil, List.cons_append, List.nil_append, List.set_cons_zero, List.set_cons_succ, scal, o_is_letter, x_is_letter, o_is_name, x_is_name, o_is_rule, x_is_rule, o_is_grammar, x_is_grammar, o__law_cell_at, x__law_cell_at, o__law_next, x__law_next, o__law_rule_by, x__law_rule_by, o__law_known, x__law_known, o__law_closed, x__law_closed, o__law_grammar, x__law_grammar, o__law_is_name, x__law_is_name, o__law_good, x__law_good, o__law_odd, x__law_odd, o__law_spoilt, x__law_spoilt, o_law, x_law, execs, fz_encR, hr, hm']
end RW

namespace RW
open PySem L2
variable {N n : Nat}
theorem dep_strs : ∀ xs : List (List Nat), deps (xs.map D.str) = some 0
  | [] => rfl
  | x :: xs => by
    show (match dep (D.str x), deps (xs.map D.str) with | some a, some b => some (max a b) | _, _ => none) = _
    rw [dep_strs xs]; rfl
theorem eqOk_strs (o : Bool) (xs : List (List Nat)) : eqOk 64 (.lst o (xs.map D.str)) = true := by
  have e : dep (.lst o (xs.map D.str)) = some 1 := by
    show (deps (xs.map D.str)).map (· + 1) = _
    rw [dep_strs]; rfl
  unfold eqOk
  rw [e]; rfl
theorem any_str (p : List Nat) (xs : List (List Nat)) : ((xs.map D.str).any fun z => deq z (.str p)) = xs.contains p := by
  induction xs with
  | nil => rfl
  | cons x xs ih =>
    rw [List.map_cons, List.any_cons, ih, List.contains_cons]
    congr 1
    exact Bool.beq_comm ..
def okP (names : List (List Nat)) (r : R) : Bool := r.2.all fun p => letM p || names.contains p
def turn2 (C : Cl) (N : Nat) (ro : List Nat) : D → En → Out1 := fun x Γ => (bindT true [2] (fz x) Γ).out Γ fun Γ' => execs C N ro Γ' [(.ite (.not (.p .all [(.lc (.or (.call i_is_letter [(.v 4)]) (.p .isIn [(.v 4), (.v 3)])) true [4] [4] (.p .ix [(.v 2), (.c (.int 1))]) (.c (.bl true)))])) [(.ret (.pure (.c (.bl false))))] [])]
theorem ix_encR1 (r : R) : ixAt [D.str r.1, D.tup (r.2.map D.str)] 1 = some (.tup (r.2.map D.str)) := rfl
theorem ix_encR0 (r : R) : ixAt [D.str r.1, D.tup (r.2.map D.str)] 0 = some (.str r.1) := rfl
theorem loop2 (names : List (List Nat)) (K : Option D) : ∀ (g : List R) (x : Option D), (∀ r ∈ g, SzR r) →
    (g.all (okP names) = true → ∃ y, forGo (turn2 (cl T N (n + 1)) N [0]) (g.map encR) [none, K, x, some (.lst true (names.map .str)), none] = .nx [none, K, y, some (.lst true (names.map .str)), none]) ∧
    (g.all (okP names) = false → ∃ Γ', forGo (turn2 (cl T N (n + 1)) N [0]) (g.map encR) [none, K, x, some (.lst true (names.map .str)), none] = .rt (.bl false) Γ')
  | [], x, _ => ⟨fun _ => ⟨x, rfl⟩, fun h => by cases h⟩
  | r :: g, x, hs => by
    obtain ⟨h1, h2, h3⟩ := hs r List.mem_cons_self
    have lc := ev_lcm (cl T N (n + 1)) [none, K, some (encR r), some (.lst true (names.map .str)), none] (elt := .or (.call i_is_letter [(.v 4)]) (.p .isIn [(.v 4), (.v 3)])) (it := .p .ix [(.v 2), (.c (.int 1))]) (cond := .c (.bl true)) (one := true) (tg := [4]) (own := [4]) (d := .tup (r.2.map .str)) (xs := r.2.map .str)
      (fun x => match x with | .str p => D.bl (letM p || names.contains p) | _ => .non) (by
        have e : fz (encR r) = D.tup [D.str r.1, D.tup (r.2.map D.str)] := fz_encR r
        simp [bok, bex, bbd, ofs, ofn, ook, obd, nok, nbd, fzt, fzl, exec, evX, evX_op, evX_call, evXs, ev_c, ev_v, ev_p, ev_call, ev_and, ev_or, ev_not, ev_ite, ev_chain, evL, get1, fz, fzs, prim, pLen, pEq, pCmp, pIn, pIx, pAdd, pSub, pMul, pFdiv, pMod, pPow, pTup, pLst, pTuple, pList, pAll, pInt, pStr, pIsBool, isBl, pCut, asB, truth, hasF, hasFs, plain, runF, eqOk_int, eqOk_str, eqOk_bl, deq_int, deq_str, deq_bl, List.getElem?_cons, List.length_cons, List.length_nil, List.map_cons, List.map_nil, List.cons_append, List.nil_append, List.set_cons_zero, List.set_cons_succ, scal, o_is_letter, x_is_letter, o_is_name, x_is_name, o_is_rule, x_is_rule, o_is_grammar, x_is_grammar, o__law_cell_at, x__law_cell_at, o__law_next, x__law_next, o__law_rule_by, x__law_rule_by, o__law_known, x__law_known, o__law_closed, x__law_closed, o__law_grammar, x__law_grammar, o__law_is_name, x__law_is_name, o__law_good, x__law_good, o__law_odd, x__law_odd, o__law_spoilt, x__law_spoilt, o_law, x_law, e, ix_encR1]) rfl (by rw [List.length_map]; exact le_lim h2) (fun x hx => by
        obtain ⟨p, hp, rfl⟩ := List.mem_map.mp hx
        have hl := r_is_letter (N := N) (n := n) p (le_lim (h3 p hp))
        have ha := any_str p names
        have he := eqOk_strs true names
        cases e : letM p
        · have : ev (cl T N (n + 1)) [none, K, some (encR r), some (D.lst true (names.map D.str)), some (D.str p)] (.p .isIn [(.v 4), (.v 3)]) = .ok (.bl (names.contains p)) := by
            show Rs.of (pIn false [D.str p, D.lst false (fzs (names.map D.str))]) = _
            rw [fzs_str]
            show Rs.of (if eqOk 64 (.str p) = true ∧ eqOk 64 (.lst true (names.map D.str)) = true then some (D.bl (((names.map D.str).any fun z => deq z (.str p)) != false)) else none) = _
            rw [if_pos ⟨rfl, he⟩, ha]; simp [ofs]
          simp [lcB, wipeE, bindT, bok, bok, bex, bbd, ofs, ofn, ook, obd, nok, nbd, fzt, fzl, exec, evX, evX_op, evX_call, evXs, ev_c, ev_v, ev_p, ev_call, ev_and, ev_or, ev_not, ev_ite, ev_chain, evL, get1, fz, fzs, prim, pLen, pEq, pCmp, pIn, pIx, pAdd, pSub, pMul, pFdiv, pMod, pPow, pTup, pLst, pTuple, pList, pAll, pInt, pStr, pIsBool, isBl, pCut, asB, truth, hasF, hasFs, plain, runF, eqOk_int, eqOk_str, eqOk_bl, deq_int, deq_str, deq_bl, List.getElem?_cons, List.length_cons, List.length_nil, List.map_cons, List.map_nil, List.cons_append, List.nil_append, List.set_cons_zero, List.set_cons_succ, scal, o_is_letter, x_is_letter, o_is_name, x_is_name, o_is_rule, x_is_rule, o_is_grammar, x_is_grammar, o__law_cell_at, x__law_cell_at, o__law_next, x__law_next, o__law_rule_by, x__law_rule_by, o__law_known, x__law_known, o__law_closed, x__law_closed, o__law_grammar, x__law_grammar, o__law_is_name, x__law_is_name, o__law_good, x__law_good, o__law_odd, x__law_odd, o__law_spoilt, x__law_spoilt, o_law, x_law, hl, e]
          have t := this
          simp only [ev_p, evL, ev_v] at t
          simp [bok, bex, bbd, ofs, ofn, ook, obd, nok, nbd, fzt, fzl, exec, evX, evX_op, evX_call, evXs, ev_c, ev_v, ev_p, ev_call, ev_and, ev_or, ev_not, ev_ite, ev_chain, evL, get1, fz, fzs, prim, pLen, pEq, pCmp, pIn, pIx, pAdd, pSub, pMul, pFdiv, pMod, pPow, pTup, pLst, pTuple, pList, pAll, pInt, pStr, pIsBool, isBl, pCut, asB, truth, hasF, hasFs, plain, runF, eqOk_int, eqOk_str, eqOk_bl, deq_int, deq_str, deq_bl, List.getElem?_cons, List.length_cons, List.length_nil, List.map_cons, List.map_nil, List.cons_append, List.nil_append, List.set_cons_zero, List.set_cons_succ, scal, o_is_letter, x_is_letter, o_is_name, x_is_name, o_is_rule, x_is_rule, o_is_grammar, x_is_grammar, o__law_cell_at, x__law_cell_at, o__law_next, x__law_next, o__law_rule_by, x__law_rule_by, o__law_known, x__law_known, o__law_closed, x__law_closed, o__law_grammar, x__law_grammar, o__law_is_name, x__law_is_name, o__law_good, x__law_good, o__law_odd, x__law_odd, o__law_spoilt, x__law_spoilt, o_law, x_law] at t
          simp [bok, bex, bbd, ofs, ofn, ook, obd, nok, nbd, fzt, fzl, exec, evX, evX_op, evX_call, evXs, ev_c, ev_v, ev_p, ev_call, ev_and, ev_or, ev_not, ev_ite, ev_chain, evL, get1, fz, fzs, prim, pLen, pEq, pCmp, pIn, pIx, pAdd, pSub, pMul, pFdiv, pMod, pPow, pTup, pLst, pTuple, pList, pAll, pInt, pStr, pIsBool, isBl, pCut, asB, truth, hasF, hasFs, plain, runF, eqOk_int, eqOk_str, eqOk_bl, deq_int, deq_str, deq_bl, List.getElem?_cons, List.length_cons, List.length_nil, List.map_cons, List.map_nil, List.cons_append, List.nil_append, List.set_cons_zero, List.set_cons_succ, scal, o_is_letter, x_is_letter, o_is_name, x_is_name, o_is_rule, x_is_rule, o_is_grammar, x_is_grammar, o__law_cell_at, x__law_cell_at, o__law_next, x__law_next, o__law_rule_by, x__law_rule_by, o__law_known, x__law_known, o__law_closed, x__law_closed, o__law_grammar, x__law_grammar, o__law_is_name, x__law_is_name, o__law_good, x__law_good, o__law_odd, x__law_odd, o__law_spoilt, x__law_spoilt, o_law, x_law, t]
        · simp [bok, bex, bbd, ofs, ofn, ook, obd, nok, nbd, fzt, fzl, exec, evX, evX_op, evX_call, evXs, ev_c, ev_v, ev_p, ev_call, ev_and, ev_or, ev_not, ev_ite, ev_chain, evL, get1, fz, fzs, prim, pLen, pEq, pCmp, pIn, pIx, pAdd, pSub, pMul, pFdiv, pMod, pPow, pTup, pLst, pTuple, pList, pAll, pInt, pStr, pIsBool, isBl, pCut, asB, truth, hasF, hasFs, plain, runF, eqOk_int, eqOk_str, eqOk_bl, deq_int, deq_str, deq_bl, List.getElem?_cons, List.length_cons, List.length_nil, List.map_cons, List.map_nil, List.cons_append, List.nil_append, List.set_cons_zero, List.set_cons_succ, scal, o_is_letter, x_is_letter, o_is_name, x_is_name, o_is_rule, x_is_rule, o_is_grammar, x_is_grammar, o__law_cell_at, x__law_cell_at, o__law_next, x__law_next, o__law_rule_by, x__law_rule_by, o__law_known, x__law_known, o__law_closed, x__law_closed, o__law_grammar, x__law_grammar, o__law_is_name, x__law_is_name, o__law_good, x__law_good, o__law_odd, x__law_odd, o__law_spoilt, x__law_spoilt, o_law, x_law, lcB, wipeE, bindT, hl, e])
    rw [List.map_map] at lc
    have lc' : ev (cl T N (n + 1)) [none, K, some (encR r), some (.lst true (names.map .str)), none] _ = .ok (.lst true (r.2.map fun p => D.bl (letM p || names.contains p))) := lc
    have e := ev_all _ _ r.2 (fun p => letM p || names.contains p) lc'
    have e2 : ev (cl T N (n + 1)) [none, K, some (encR r), some (.lst true (names.map .str)), none] (.not (.p .all [(.lc (.or (.call i_is_letter [(.v 4)]) (.p .isIn [(.v 4), (.v 3)])) true [4] [4] (.p .ix [(.v 2), (.c (.int 1))]) (.c (.bl true)))])) = .ok (.bl (!(okP names r))) := by
      rw [ev_not, e]; rfl
    cases ho : okP names r with
    | true =>
      have hstep : turn2 (cl T N (n + 1)) N [0] (encR r) [none, K, x, some (.lst true (names.map .str)), none] = .nx [none, K, some (encR r), some (.lst true (names.map .str)), none] := by
        unfold turn2
        simp only [fz_encR]
        show execs _ _ _ [none, K, some (encR r), some (.lst true (names.map .str)), none] _ = _
        rw [st_nx (Γ' := [none, K, some (encR r), some (.lst true (names.map .str)), none]) (by
          show (((ev (cl T N (n + 1)) [none, K, some (encR r), some (.lst true (names.map .str)), none] (.not (.p .all [(.lc (.or (.call i_is_letter [(.v 4)]) (.p .isIn [(.v 4), (.v 3)])) true [4] [4] (.p .ix [(.v 2), (.c (.int 1))]) (.c (.bl true)))]))).bind asB).out _ _) = _
          rw [e2, ho]; rfl)]
        rfl
      obtain ⟨i1, i2⟩ := loop2 names K g (some (encR r)) (fun q hq => hs q (List.mem_cons_of_mem _ hq))
      rw [List.map_cons, for_nx hstep, List.all_cons, ho, Bool.true_and]
      exact ⟨i1, i2⟩
    | false =>
      rw [List.all_cons, ho, Bool.false_and]
      refine ⟨fun h => by (cases h), fun _ => ⟨[none, K, some (encR r), some (.lst true (names.map .str)), none], ?_⟩⟩
      rw [List.map_cons]
      refine for_rt ?_
      unfold turn2
      simp only [fz_encR]
      show execs _ _ _ [none, K, some (encR r), some (.lst true (names.map .str)), none] _ = _
      refine st_rt ?_
      show (((ev (cl T N (n + 1)) [none, K, some (encR r), some (.lst true (names.map .str)), none] (.not (.p .all [(.lc (.or (.call i_is_letter [(.v 4)]) (.p .isIn [(.v 4), (.v 3)])) true [4] [4] (.p .ix [(.v 2), (.c (.int 1))]) (.c (.bl true)))]))).bind asB).out _ _) = _
      rw [e2, ho]; rfl
def gramM (g : List R) : Bool := decide (1 ≤ g.length) && decide (g.length ≤ 40) && chk [] g && g.all (okP (g.map (·.1)))
theorem fzs_encR (g : List R) : fzs (g.map encR) = g.map encR := fzs_same _ fz_encR g
theorem flats_encR (g : List R) : flats (g.map encR) = true := flats_all _ flat_encR g
theorem hasFs_encR (g : List R) : hasFs (g.map encR) = false := hasFs_none _ hasF_encR g
/-- the names of the rules, as a comprehension gives them -/
theorem ruled_lc {C : Cl} {Γ : En} {g : List R} {tgt : Nat} {it : E} {o : Bool} (h1 : ev C Γ it = .ok (.lst o (g.map encR))) (hl : g.length ≤ lim) (hb : ∀ d, (wipeE Γ [tgt]).set tgt (some d) = Γ.set tgt (some d)) (hg : ∀ d, get1 (Γ.set tgt (some d)) tgt = .ok d) : ev C Γ (.lc (.p .ix [(.v tgt), (.c (.int 0))]) true [tgt] [tgt] it (.c (.bl true))) = .ok (.lst true ((g.map (·.1)).map .str)) := by
  have lc := ev_lcm C Γ (elt := .p .ix [(.v tgt), (.c (.int 0))]) (it := it) (cond := .c (.bl true)) (one := true) (tg := [tgt]) (own := [tgt]) (xs := g.map encR) (fun x => match x with | .tup (a :: _) => a | _ => .non) h1 rfl (by rw [List.length_map]; exact hl) (fun x hx => by
    obtain ⟨r, hr, rfl⟩ := List.mem_map.mp hx
    have e1 : bindT true [tgt] (fz (encR r)) (wipeE Γ [tgt]) = .ok (Γ.set tgt (some (encR r))) := by
      rw [fz_encR]
      show Rs.ok ((wipeE Γ [tgt]).set tgt (some (encR r))) = _
      rw [hb]
    have e2 : ev C (Γ.set tgt (some (encR r))) (.p .ix [(.v tgt), (.c (.int 0))]) = .ok (.str r.1) := by
      rw [ev_p]
      show (((get1 (Γ.set tgt (some (encR r))) tgt).bind fun d => Rs.ok (fz d)).bind fun d => ((Rs.ok (.int 0)).bind fun d => (Rs.ok []).bind fun ds => Rs.ok (d :: ds)).bind fun ds => Rs.ok (d :: ds)).bind _ = _
      rw [hg, bok, fz_encR]; rfl
    unfold lcB
    rw [e1, bok, ev_c, bok]
    show ((ev C (Γ.set tgt (some (encR r))) (.p .ix [(.v tgt), (.c (.int 0))])).bind fun y => Rs.ok (some y)) = _
    rw [e2]; rfl)
  rw [List.map_map] at lc
  rw [lc, List.map_map]
  rfl
theorem r_is_grammar (g : List R) (o : Bool) (hs : ∀ r ∈ g, SzR r) (hl : g.length ≤ 1000) : (cl T N (n + 3)).run i_is_grammar [.lst false (g.map encR)] = .ok (.bl (gramM g), none) := by
  rw [run_go (id := i_is_grammar) (Γ0 := [some (.lst false (g.map encR)), none, none, none, none]) rfl rfl rfl]
  have hlim : g.length ≤ lim := le_lim hl
  by_cases h1 : 1 ≤ g.length
  · by_cases h40 : g.length ≤ 40
    · have h1' : (1 : Int) ≤ (g.length : Int) := by omega
      have h40' : (g.length : Int) ≤ 40 := by omega
      rw [st_nx (Γ' := [some (.lst false (g.map encR)), none, none, none, none]) (by simp [bok, bex, bbd, ofs, ofn, ook, obd, nok, nbd, fzt, fzl, exec, evX, evX_op, evX_call, evXs, ev_c, ev_v, ev_p, ev_call, ev_and, ev_or, ev_not, ev_ite, ev_chain, evL, get1, fz, fzs, prim, pLen, pEq, pCmp, pIn, pIx, pAdd, pSub, pMul, pFdiv, pMod, pPow, pTup, pLst, pTuple, pList, pAll, pInt, pStr, pIsBool, isBl, pCut, asB, truth, hasF, hasFs, plain, runF, eqOk_int, eqOk_str, eqOk_bl, deq_int, deq_str, deq_bl, List.getElem?_cons, List.length_cons, List.length_nil, List.map_cons, List.map_nil, List.cons_append, List.nil_append, List.set_cons_zero, List.set_cons_succ, scal, o_is_letter, x_is_letter, o_is_name, x_is_name, o_is_rule, x_is_rule, o_is_grammar, x_is_grammar, o__law_cell_at, x__law_cell_at, o__law_next, x__law_next, o__law_rule_by, x__law_rule_by, o__law_known, x__law_known, o__law_closed, x__law_closed, o__law_grammar, x__law_grammar, o__law_is_name, x__law_is_name, o__law_good, x__law_good, o__law_odd, x__law_odd, o__law_spoilt, x__law_spoilt, o_law, x_law, execs, ioL, fzs_encR, h1', h40'])]
      rw [st_nx (Γ' := [some (.lst false (g.map encR)), some (dk []), none, none, none]) (by simp [bok, bex, bbd, ofs, ofn, ook, obd, nok, nbd, fzt, fzl, exec, evX, evX_op, evX_call, evXs, ev_c, ev_v, ev_p, ev_call, ev_and, ev_or, ev_not, ev_ite, ev_chain, evL, get1, fz, fzs, prim, pLen, pEq, pCmp, pIn, pIx, pAdd, pSub, pMul, pFdiv, pMod, pPow, pTup, pLst, pTuple, pList, pAll, pInt, pStr, pIsBool, isBl, pCut, asB, truth, hasF, hasFs, plain, runF, eqOk_int, eqOk_str, eqOk_bl, deq_int, deq_str, deq_bl, List.getElem?_cons, List.length_cons, List.length_nil, List.map_cons, List.map_nil, List.cons_append, List.nil_append, List.set_cons_zero, List.set_cons_succ, scal, o_is_letter, x_is_letter, o_is_name, x_is_name, o_is_rule, x_is_rule, o_is_grammar, x_is_grammar, o__law_cell_at, x__law_cell_at, o__law_next, x__law_next, o__law_rule_by, x__law_rule_by, o__law_known, x__law_known, o__law_closed, x__law_closed, o__law_grammar, x__law_grammar, o__law_is_name, x__law_is_name, o__law_good, x__law_good, o__law_odd, x__law_odd, o__law_spoilt, x__law_spoilt, o_law, x_law, dk, ioL])]
      have ev0 : ∀ k : Option D, ev (cl T N (n + 2)) [some (.lst false (g.map encR)), k, none, none, none] (.v 0) = .ok (.lst false (g.map encR)) := fun k => by simp [bok, bex, bbd, ofs, ofn, ook, obd, nok, nbd, fzt, fzl, exec, evX, evX_op, evX_call, evXs, ev_c, ev_v, ev_p, ev_call, ev_and, ev_or, ev_not, ev_ite, ev_chain, evL, get1, fz, fzs, prim, pLen, pEq, pCmp, pIn, pIx, pAdd, pSub, pMul, pFdiv, pMod, pPow, pTup, pLst, pTuple, pList, pAll, pInt, pStr, pIsBool, isBl, pCut, asB, truth, hasF, hasFs, plain, runF, eqOk_int, eqOk_str, eqOk_bl, deq_int, deq_str, deq_bl, List.getElem?_cons, List.length_cons, List.length_nil, List.map_cons, List.map_nil, List.cons_append, List.nil_append, List.set_cons_zero, List.set_cons_succ, scal, o_is_letter, x_is_letter, o_is_name, x_is_name, o_is_rule, x_is_rule, o_is_grammar, x_is_grammar, o__law_cell_at, x__law_cell_at, o__law_next, x__law_next, o__law_rule_by, x__law_rule_by, o__law_known, x__law_known, o__law_closed, x__law_closed, o__law_grammar, x__law_grammar, o__law_is_name, x__law_is_name, o__law_good, x__law_good, o__law_odd, x__law_odd, o__law_spoilt, x__law_spoilt, o_law, x_law, fzs_encR]
      obtain ⟨a1, a2⟩ := loop1 (N := N) (n := n) g [] none hs (by simpa using hl)
      cases hc : chk [] g with
      | true =>
        obtain ⟨y, hy⟩ := a1 hc
        rw [st_nx (Γ' := [some (.lst false (g.map encR)), some (dk g), y, none, none]) (by
          rw [exec_fr (ev0 _) rfl, fr_hide (dv := .lst false (g.map encR)) rfl rfl (flats_encR g) rfl rfl]
          show unhide 0 _ (forGo (turn1 (cl T N (n + 2)) N [0]) (g.map encR) [none, some (dk []), none, none, none]) = _
          rw [hy]; rfl)]
        have ev1 : ev (cl T N (n + 2)) [some (.lst false (g.map encR)), some (dk g), y, none, none] (.v 0) = .ok (.lst false (g.map encR)) := by simp [bok, bex, bbd, ofs, ofn, ook, obd, nok, nbd, fzt, fzl, exec, evX, evX_op, evX_call, evXs, ev_c, ev_v, ev_p, ev_call, ev_and, ev_or, ev_not, ev_ite, ev_chain, evL, get1, fz, fzs, prim, pLen, pEq, pCmp, pIn, pIx, pAdd, pSub, pMul, pFdiv, pMod, pPow, pTup, pLst, pTuple, pList, pAll, pInt, pStr, pIsBool, isBl, pCut, asB, truth, hasF, hasFs, plain, runF, eqOk_int, eqOk_str, eqOk_bl, deq_int, deq_str, deq_bl, List.getElem?_cons, List.length_cons, List.length_nil, List.map_cons, List.map_nil, List.cons_append, List.nil_append, List.set_cons_zero, List.set_cons_succ, scal, o_is_letter, x_is_letter, o_is_name, x_is_name, o_is_rule, x_is_rule, o_is_grammar, x_is_grammar, o__law_cell_at, x__law_cell_at, o__law_next, x__law_next, o__law_rule_by, x__law_rule_by, o__law_known, x__law_known, o__law_closed, x__law_closed, o__law_grammar, x__law_grammar, o__law_is_name, x__law_is_name, o__law_good, x__law_good, o__law_odd, x__law_odd, o__law_spoilt, x__law_spoilt, o_law, x_law, fzs_encR]
        have lc := ruled_lc (tgt := 2) ev1 hlim (fun d => rfl) (fun d => rfl)
        rw [st_nx (Γ' := [some (.lst false (g.map encR)), some (dk g), y, some (.lst true ((g.map (·.1)).map .str)), none]) (by
          show (((ev (cl T N (n + 2)) _ _).bind fun d => Rs.ok (d, if hasF d then frzE _ _ else _)).out _ fun q => _) = _
          rw [lc, bok]
          have hf : hasF (D.lst true ((g.map (·.1)).map D.str)) = false := by
            show (false || hasFs ((g.map (·.1)).map D.str)) = false
            rw [hasFs_str]; rfl
          rw [hf]; rfl)]
        obtain ⟨b1, b2⟩ := loop2 (N := N) (n := n + 1) (g.map (·.1)) (some (dk g)) g y hs
        have ev2 : ev (cl T N (n + 2)) [some (.lst false (g.map encR)), some (dk g), y, some (.lst true ((g.map (·.1)).map .str)), none] (.v 0) = .ok (.lst false (g.map encR)) := by simp [bok, bex, bbd, ofs, ofn, ook, obd, nok, nbd, fzt, fzl, exec, evX, evX_op, evX_call, evXs, ev_c, ev_v, ev_p, ev_call, ev_and, ev_or, ev_not, ev_ite, ev_chain, evL, get1, fz, fzs, prim, pLen, pEq, pCmp, pIn, pIx, pAdd, pSub, pMul, pFdiv, pMod, pPow, pTup, pLst, pTuple, pList, pAll, pInt, pStr, pIsBool, isBl, pCut, asB, truth, hasF, hasFs, plain, runF, eqOk_int, eqOk_str, eqOk_bl, deq_int, deq_str, deq_bl, List.getElem?_cons, List.length_cons, List.length_nil, List.map_cons, List.map_nil, List.cons_append, List.nil_append, List.set_cons_zero, List.set_cons_succ, scal, o_is_letter, x_is_letter, o_is_name, x_is_name, o_is_rule, x_is_rule, o_is_grammar, x_is_grammar, o__law_cell_at, x__law_cell_at, o__law_next, x__law_next, o__law_rule_by, x__law_rule_by, o__law_known, x__law_known, o__law_closed, x__law_closed, o__law_grammar, x__law_grammar, o__law_is_name, x__law_is_name, o__law_good, x__law_good, o__law_odd, x__law_odd, o__law_spoilt, x__law_spoilt, o_law, x_law, fzs_encR]
        cases ho : g.all (okP (g.map (·.1))) with
        | true =>
          obtain ⟨z, hz⟩ := b1 ho
          rw [st_nx (Γ' := [some (.lst false (g.map encR)), some (dk g), z, some (.lst true ((g.map (·.1)).map .str)), none]) (by
            rw [exec_fr ev2 rfl, fr_hide (dv := .lst false (g.map encR)) rfl rfl (flats_encR g) rfl rfl]
            show unhide 0 _ (forGo (turn2 (cl T N (n + 2)) N [0]) (g.map encR) [none, some (dk g), y, some (.lst true ((g.map (·.1)).map .str)), none]) = _
            rw [hz]; rfl)]
          rw [st_rt (Γ' := [some (.lst false (g.map encR)), some (dk g), z, some (.lst true ((g.map (·.1)).map .str)), none]) (d := .bl true) (by simp [bok, bex, bbd, ofs, ofn, ook, obd, nok, nbd, fzt, fzl, exec, evX, evX_op, evX_call, evXs, ev_c, ev_v, ev_p, ev_call, ev_and, ev_or, ev_not, ev_ite, ev_chain, evL, get1, fz, fzs, prim, pLen, pEq, pCmp, pIn, pIx, pAdd, pSub, pMul, pFdiv, pMod, pPow, pTup, pLst, pTuple, pList, pAll, pInt, pStr, pIsBool, isBl, pCut, asB, truth, hasF, hasFs, plain, runF, eqOk_int, eqOk_str, eqOk_bl, deq_int, deq_str, deq_bl, List.getElem?_cons, List.length_cons, List.length_nil, List.map_cons, List.map_nil, List.cons_append, List.nil_append, List.set_cons_zero, List.set_cons_succ, scal, o_is_letter, x_is_letter, o_is_name, x_is_name, o_is_rule, x_is_rule, o_is_grammar, x_is_grammar, o__law_cell_at, x__law_cell_at, o__law_next, x__law_next, o__law_rule_by, x__law_rule_by, o__law_known, x__law_known, o__law_closed, x__law_closed, o__law_grammar, x__law_grammar, o__law_is_name, x__law_is_name, o__law_good, x__law_good, o__law_odd, x__law_odd, o__law_spoilt, x__law_spoilt, o_law, x_law])]
          simp only [outR, nok, gramM, hc, ho, h1, h40]; rfl
        | false =>
          obtain ⟨Γ', hz⟩ := b2 ho
          rw [st_rt (Γ' := Γ') (d := .bl false) (by
            rw [exec_fr ev2 rfl, fr_hide (dv := .lst false (g.map encR)) rfl rfl (flats_encR g) rfl rfl]
            show unhide 0 _ (forGo (turn2 (cl T N (n + 2)) N [0]) (g.map encR) [none, some (dk g), y, some (.lst true ((g.map (·.1)).map .str)), none]) = _
            rw [hz]; rfl)]
          simp only [outR, nok, gramM, hc, ho, h1, h40]; rfl
      | false =>
        obtain ⟨Γ', hy⟩ := a2 hc
        rw [st_rt (Γ' := Γ') (d := .bl false) (by
          rw [exec_fr (ev0 _) rfl, fr_hide (dv := .lst false (g.map encR)) rfl rfl (flats_encR g) rfl rfl]
          show unhide 0 _ (forGo (turn1 (cl T N (n + 2)) N [0]) (g.map encR) [none, some (dk []), none, none, none]) = _
          rw [hy]; rfl)]
        simp only [outR, nok, gramM, hc, h1, h40]; rfl
    · have h1' : (1 : Int) ≤ (g.length : Int) := by omega
      have h40' : ¬ (g.length : Int) ≤ 40 := by omega
      rw [st_rt (Γ' := [some (.lst false (g.map encR)), none, none, none, none]) (d := .bl false) (by simp [bok, bex, bbd, ofs, ofn, ook, obd, nok, nbd, fzt, fzl, exec, evX, evX_op, evX_call, evXs, ev_c, ev_v, ev_p, ev_call, ev_and, ev_or, ev_not, ev_ite, ev_chain, evL, get1, fz, fzs, prim, pLen, pEq, pCmp, pIn, pIx, pAdd, pSub, pMul, pFdiv, pMod, pPow, pTup, pLst, pTuple, pList, pAll, pInt, pStr, pIsBool, isBl, pCut, asB, truth, hasF, hasFs, plain, runF, eqOk_int, eqOk_str, eqOk_bl, deq_int, deq_str, deq_bl, List.getElem?_cons, List.length_cons, List.length_nil, List.map_cons, List.map_nil, List.cons_append, List.nil_append, List.set_cons_zero, List.set_cons_succ, scal, o_is_letter, x_is_letter, o_is_name, x_is_name, o_is_rule, x_is_rule, o_is_grammar, x_is_grammar, o__law_cell_at, x__law_cell_at, o__law_next, x__law_next, o__law_rule_by, x__law_rule_by, o__law_known, x__law_known, o__law_closed, x__law_closed, o__law_grammar, x__law_grammar, o__law_is_name, x__law_is_name, o__law_good, x__law_good, o__law_odd, x__law_odd, o__law_spoilt, x__law_spoilt, o_law, x_law, execs, ioL, fzs_encR, h1', h40'])]
      simp [outR, nok, gramM, h40]
  · have h1' : ¬ (1 : Int) ≤ (g.length : Int) := by omega
    rw [st_rt (Γ' := [some (.lst false (g.map encR)), none, none, none, none]) (d := .bl false) (by simp [bok, bex, bbd, ofs, ofn, ook, obd, nok, nbd, fzt, fzl, exec, evX, evX_op, evX_call, evXs, ev_c, ev_v, ev_p, ev_call, ev_and, ev_or, ev_not, ev_ite, ev_chain, evL, get1, fz, fzs, prim, pLen, pEq, pCmp, pIn, pIx, pAdd, pSub, pMul, pFdiv, pMod, pPow, pTup, pLst, pTuple, pList, pAll, pInt, pStr, pIsBool, isBl, pCut, asB, truth, hasF, hasFs, plain, runF, eqOk_int, eqOk_str, eqOk_bl, deq_int, deq_str, deq_bl, List.getElem?_cons, List.length_cons, List.length_nil, List.map_cons, List.map_nil, List.cons_append, List.nil_append, List.set_cons_zero, List.set_cons_succ, scal, o_is_letter, x_is_letter, o_is_name, x_is_name, o_is_rule, x_is_rule, o_is_grammar, x_is_grammar, o__law_cell_at, x__law_cell_at, o__law_next, x__law_next, o__law_rule_by, x__law_rule_by, o__law_known, x__law_known, o__law_closed, x__law_closed, o__law_grammar, x__law_grammar, o__law_is_name, x__law_is_name, o__law_good, x__law_good, o__law_odd, x__law_odd, o__law_spoilt, x__law_spoilt, o_law, x_law, execs, ioL, fzs_encR, h1'])]
    simp [outR, nok, gramM, h1]
end RW

namespace RW
open PySem L2
variable {N n : Nat}
def capfig : List Nat := [65, 66, 67, 68, 69, 70, 71, 72, 73, 74, 75, 76, 77, 78, 79, 80, 81, 82, 83, 84, 85, 86, 87, 88, 89, 90, 48, 49, 50, 51, 52, 53, 54, 55, 56, 57]
theorem capfig_eq : capfig = capitals ++ figures := rfl
theorem r_law_is_name (s : List Nat) (hs : s.length ≤ lim) : (cl T N (n + 1)).run i__law_is_name [.str s] = .ok (.bl (nameM s), none) := by
  rw [run_go (id := i__law_is_name) (Γ0 := [some (.str s), none]) rfl rfl rfl]
  cases s with
  | nil => rfl
  | cons c r =>
    simp only [List.length_cons] at hs
    have h1 : (1 : Int) ≤ (r.length : Int) + 1 := by omega
    by_cases h8 : r.length + 1 ≤ 8
    · have h8' : (r.length : Int) + 1 ≤ 8 := by omega
      by_cases hc : c ∈ capitals
      · rw [st_nx (Γ' := [some (D.str (c :: r)), none]) (by
          have hc' := hc
          unfold capitals at hc'
          simp [bok, bex, bbd, ofs, ofn, ook, obd, nok, nbd, fzt, fzl, exec, evX, evX_op, evX_call, evXs, ev_c, ev_v, ev_p, ev_call, ev_and, ev_or, ev_not, ev_ite, ev_chain, evL, get1, fz, fzs, prim, pLen, pEq, pCmp, pIn, pIx, pAdd, pSub, pMul, pFdiv, pMod, pPow, pTup, pLst, pTuple, pList, pAll, pInt, pStr, pIsBool, isBl, pCut, asB, truth, hasF, hasFs, plain, runF, eqOk_int, eqOk_str, eqOk_bl, deq_int, deq_str, deq_bl, List.getElem?_cons, List.length_cons, List.length_nil, List.map_cons, List.map_nil, List.cons_append, List.nil_append, List.set_cons_zero, List.set_cons_succ, scal, o_is_letter, x_is_letter, o_is_name, x_is_name, o_is_rule, x_is_rule, o_is_grammar, x_is_grammar, o__law_cell_at, x__law_cell_at, o__law_next, x__law_next, o__law_rule_by, x__law_rule_by, o__law_known, x__law_known, o__law_closed, x__law_closed, o__law_grammar, x__law_grammar, o__law_is_name, x__law_is_name, o__law_good, x__law_good, o__law_odd, x__law_odd, o__law_spoilt, x__law_spoilt, o_law, x_law, execs, ioL, hs, h1, h8', inText_one, ixAt0, hc'])]
        have lc := ev_lcf (cl T N n) [some (D.str (c :: r)), none] (elt := .v 1) (it := .v 0) (cond := .p .notIn [(.v 1), (.c (.str capfig))]) (one := true) (tg := [1]) (own := [1]) (d := .str (c :: r)) (xs := (c :: r).map fun c => D.str [c])
          (fun x => x) (fun x => match x with | .str [d] => !decide (d ∈ capfig) | _ => false) rfl rfl (by rw [List.length_map]; exact hs) (fun x hx => by
            obtain ⟨d, _, rfl⟩ := List.mem_map.mp hx
            by_cases hd : d ∈ capfig <;> simp [bok, bex, bbd, ofs, ofn, ook, obd, nok, nbd, fzt, fzl, exec, evX, evX_op, evX_call, evXs, ev_c, ev_v, ev_p, ev_call, ev_and, ev_or, ev_not, ev_ite, ev_chain, evL, get1, fz, fzs, prim, pLen, pEq, pCmp, pIn, pIx, pAdd, pSub, pMul, pFdiv, pMod, pPow, pTup, pLst, pTuple, pList, pAll, pInt, pStr, pIsBool, isBl, pCut, asB, truth, hasF, hasFs, plain, runF, eqOk_int, eqOk_str, eqOk_bl, deq_int, deq_str, deq_bl, List.getElem?_cons, List.length_cons, List.length_nil, List.map_cons, List.map_nil, List.cons_append, List.nil_append, List.set_cons_zero, List.set_cons_succ, scal, o_is_letter, x_is_letter, o_is_name, x_is_name, o_is_rule, x_is_rule, o_is_grammar, x_is_grammar, o__law_cell_at, x__law_cell_at, o__law_next, x__law_next, o__law_rule_by, x__law_rule_by, o__law_known, x__law_known, o__law_closed, x__law_closed, o__law_grammar, x__law_grammar, o__law_is_name, x__law_is_name, o__law_good, x__law_good, o__law_odd, x__law_odd, o__law_spoilt, x__law_spoilt, o_law, x_law, lcB, wipeE, bindT, inText_one, hd])
        rw [List.map_id'] at lc
        have hlen : (((c :: r).map fun c => D.str [c]).filter fun x => match x with | .str [d] => !decide (d ∈ capfig) | _ => false).length = ((c :: r).filter fun d => !decide (d ∈ capfig)).length := by
          rw [List.filter_map, List.length_map]; rfl
        have hz : (decide (((((c :: r).map fun c => D.str [c]).filter fun x => match x with | .str [d] => !decide (d ∈ capfig) | _ => false).length : Nat) = 0)) = (c :: r).all fun d => decide (d ∈ capitals) || decide (d ∈ figures) := by
          rw [hlen]
          have : (((c :: r).filter fun d => !decide (d ∈ capfig)).length = 0) ↔ ((c :: r).all fun d => decide (d ∈ capitals) || decide (d ∈ figures)) = true := by
            rw [List.length_eq_zero_iff, List.filter_eq_nil_iff, List.all_eq_true]
            refine forall_congr' fun d => forall_congr' fun _ => ?_
            rw [capfig_eq]; by_cases hd : d ∈ capitals <;> simp [hd]
          cases e : (c :: r).all fun d => decide (d ∈ capitals) || decide (d ∈ figures) with
          | true => exact decide_eq_true (this.mpr e)
          | false => exact decide_eq_false fun z => by rw [this.mp z] at e; cases e
        rw [st_rt (Γ' := [some (D.str (c :: r)), none]) (d := .bl ((c :: r).all fun d => decide (d ∈ capitals) || decide (d ∈ figures))) (by
          have e : ev (cl T N n) [some (D.str (c :: r)), none] (.p .eq [(.p .len [(.lc (.v 1) true [1] [1] (.v 0) (.p .notIn [(.v 1), (.c (.str capfig))]))]), (.c (.int 0))]) = .ok (.bl ((c :: r).all fun d => decide (d ∈ capitals) || decide (d ∈ figures))) := by
            rw [ev_p]
            have e0 : evL (cl T N n) [some (D.str (c :: r)), none] [(.p .len [(.lc (.v 1) true [1] [1] (.v 0) (.p .notIn [(.v 1), (.c (.str capfig))]))]), (.c (.int 0))] = .ok [.int (((((c :: r).map fun c => D.str [c]).filter fun x => match x with | .str [d] => !decide (d ∈ capfig) | _ => false).length : Nat) : Int), .int 0] := by
              show ((((ev _ _ _).bind fun d => (Rs.ok []).bind fun ds => Rs.ok (d :: ds)).bind fun ds => Rs.of (pLen ds)).bind _) = _
              rw [lc]; rfl
            rw [e0, bok]
            show Rs.ok (D.bl (((((((c :: r).map fun c => D.str [c]).filter fun x => match x with | .str [d] => !decide (d ∈ capfig) | _ => false).length : Nat) : Int) == 0) != false)) = _
            rw [← hz]
            congr 2
            rw [Bool.beq_eq_decide_eq]
            simp
          show ((ev (cl T N n) [some (D.str (c :: r)), none] (.p .eq [(.p .len [(.lc (.v 1) true [1] [1] (.v 0) (.p .notIn [(.v 1), (.c (.str capfig))]))]), (.c (.int 0))])).bind _).out _ _ = _
          rw [e]; rfl)]
        simp [outR, nameM, hc, h8, nok]
      · have hc' := hc
        unfold capitals at hc'
        simp [bok, bex, bbd, ofs, ofn, ook, obd, nok, nbd, fzt, fzl, exec, evX, evX_op, evX_call, evXs, ev_c, ev_v, ev_p, ev_call, ev_and, ev_or, ev_not, ev_ite, ev_chain, evL, get1, fz, fzs, prim, pLen, pEq, pCmp, pIn, pIx, pAdd, pSub, pMul, pFdiv, pMod, pPow, pTup, pLst, pTuple, pList, pAll, pInt, pStr, pIsBool, isBl, pCut, asB, truth, hasF, hasFs, plain, runF, eqOk_int, eqOk_str, eqOk_bl, deq_int, deq_str, deq_bl, List.getElem?_cons, List.length_cons, List.length_nil, List.map_cons, List.map_nil, List.cons_append, List.nil_append, List.set_cons_zero, List.set_cons_succ, scal, o_is_letter, x_is_letter, o_is_name, x_is_name, o_is_rule, x_is_rule, o_is_grammar, x_is_grammar, o__law_cell_at, x__law_cell_at, o__law_next, x__law_next, o__law_rule_by, x__law_rule_by, o__law_known, x__law_known, o__law_closed, x__law_closed, o__law_grammar, x__law_grammar, o__law_is_name, x__law_is_name, o__law_good, x__law_good, o__law_odd, x__law_odd, o__law_spoilt, x__law_spoilt, o_law, x_law, execs, outR, ioL, nameM, hs, h1, h8', inText_one, ixAt0, hc, hc']
    · have h8' : ¬ (r.length : Int) + 1 ≤ 8 := by omega
      simp [bok, bex, bbd, ofs, ofn, ook, obd, nok, nbd, fzt, fzl, exec, evX, evX_op, evX_call, evXs, ev_c, ev_v, ev_p, ev_call, ev_and, ev_or, ev_not, ev_ite, ev_chain, evL, get1, fz, fzs, prim, pLen, pEq, pCmp, pIn, pIx, pAdd, pSub, pMul, pFdiv, pMod, pPow, pTup, pLst, pTuple, pList, pAll, pInt, pStr, pIsBool, isBl, pCut, asB, truth, hasF, hasFs, plain, runF, eqOk_int, eqOk_str, eqOk_bl, deq_int, deq_str, deq_bl, List.getElem?_cons, List.length_cons, List.length_nil, List.map_cons, List.map_nil, List.cons_append, List.nil_append, List.set_cons_zero, List.set_cons_succ, scal, o_is_letter, x_is_letter, o_is_name, x_is_name, o_is_rule, x_is_rule, o_is_grammar, x_is_grammar, o__law_cell_at, x__law_cell_at, o__law_next, x__law_next, o__law_rule_by, x__law_rule_by, o__law_known, x__law_known, o__law_closed, x__law_closed, o__law_grammar, x__law_grammar, o__law_is_name, x__law_is_name, o__law_good, x__law_good, o__law_odd, x__law_odd, o__law_spoilt, x__law_spoilt, o_law, x_law, execs, outR, ioL, nameM, hs, h1, h8, h8']
/-! ### the law's own look -/
theorem dep_encR (r : R) : dep (encR r) = some 2 := by
  show (match dep (D.str r.1), (match dep (D.tup (r.2.map D.str)), some 0 with | some a, some b => some (max a b) | _, _ => none) with | some a, some b => some (max a b) | _, _ => none).map (· + 1) = _
  have e : dep (D.tup (r.2.map D.str)) = some 1 := by
    show (deps (r.2.map D.str)).map (· + 1) = _
    rw [dep_strs]; rfl
  rw [e]; rfl
theorem eqOk_encR (k : Nat) (h : 2 ≤ k) (r : R) : eqOk k (encR r) = true := by
  unfold eqOk
  rw [dep_encR]
  exact decide_eq_true h
theorem deps_encR : ∀ g : List R, ∃ k, deps (g.map encR) = some k ∧ k ≤ 2
  | [] => ⟨0, rfl, by decide⟩
  | r :: g => by
    obtain ⟨k, h1, h2⟩ := deps_encR g
    refine ⟨max 2 k, ?_, Nat.max_le.mpr ⟨Nat.le_refl _, h2⟩⟩
    show (match dep (encR r), deps (g.map encR) with | some a, some b => some (max a b) | _, _ => none) = _
    rw [dep_encR, h1]
theorem eqOk_encRs (k : Nat) (hk : 3 ≤ k) (o : Bool) (g : List R) : eqOk k (.lst o (g.map encR)) = true := by
  obtain ⟨j, h1, h2⟩ := deps_encR g
  have e : dep (.lst o (g.map encR)) = some (j + 1) := by
    show (deps (g.map encR)).map (· + 1) = _
    rw [h1]; rfl
  unfold eqOk
  rw [e]
  exact decide_eq_true (by omega)
def turn4 (C : Cl) (N : Nat) (ro : List Nat) : D → En → Out1 := fun x Γ => (bindT true [4] (fz x) Γ).out Γ fun Γ' => execs C N ro Γ' [(.asg 5 (.pure (.and (.p .eq [(.p .len [(.v 4)]), (.c (.int 1))]) (.p .isIn [(.v 4), (.c (.str letters))])))), (.ite (.and (.not (.v 5)) (.p .notIn [(.v 4), (.v 1)])) [(.ret (.pure (.c (.bl false))))] [])]
theorem small_ev {C : Cl} {Γ : En} (p : List Nat) (hp : p.length ≤ lim) (h : get1 Γ 4 = .ok (.str p)) : ev C Γ (.and (.p .eq [(.p .len [(.v 4)]), (.c (.int 1))]) (.p .isIn [(.v 4), (.c (.str letters))])) = .ok (.bl (letM p)) := by
  have hv : ev C Γ (.v 4) = .ok (.str p) := by rw [ev_v, h]; rfl
  match p, hp with
  | [], _ => simp [ev_and, ev_p, evL, hv, bok, prim, pLen, pEq, ofs, eqOk_int, deq_int, asB, truth, ev_c, letM, lim]
  | [c], hp => simp [ev_and, ev_p, evL, hv, bok, prim, pLen, pEq, pIn, ofs, eqOk_int, deq_int, asB, truth, ev_c, letM, lim, inText_one]
  | c :: d :: r, hp =>
    have h2 : ¬ ((r.length : Int) + 1 + 1 = 1) := by omega
    simp only [List.length_cons] at hp
    simp [ev_and, ev_p, evL, hv, bok, prim, pLen, pEq, ofs, eqOk_int, deq_int, asB, truth, ev_c, letM, hp, h2]
theorem loop4 (g : List R) (names : List (List Nat)) (k rr : Option D) : ∀ (ps : List (List Nat)) (x y : Option D), (∀ p ∈ ps, p.length ≤ lim) →
    ((ps.all fun p => letM p || names.contains p) = true → ∃ x' y', forGo (turn4 (cl T N n) N []) (ps.map .str) [some (.lst false (g.map encR)), some (.lst true (names.map .str)), k, rr, x, y] = .nx [some (.lst false (g.map encR)), some (.lst true (names.map .str)), k, rr, x', y']) ∧
    ((ps.all fun p => letM p || names.contains p) = false → ∃ Γ', forGo (turn4 (cl T N n) N []) (ps.map .str) [some (.lst false (g.map encR)), some (.lst true (names.map .str)), k, rr, x, y] = .rt (.bl false) Γ')
  | [], x, y, _ => ⟨fun _ => ⟨x, y, rfl⟩, fun h => by cases h⟩
  | p :: ps, x, y, hs => by
    have hp := hs p List.mem_cons_self
    have e1 := small_ev (C := cl T N n) (Γ := [some (.lst false (g.map encR)), some (.lst true (names.map .str)), k, rr, some (.str p), y]) p hp rfl
    have first : ∀ ss, execs (cl T N n) N [] [some (.lst false (g.map encR)), some (.lst true (names.map .str)), k, rr, some (.str p), y] ((.asg 5 (.pure (.and (.p .eq [(.p .len [(.v 4)]), (.c (.int 1))]) (.p .isIn [(.v 4), (.c (.str letters))])))) :: ss) = execs (cl T N n) N [] [some (.lst false (g.map encR)), some (.lst true (names.map .str)), k, rr, some (.str p), some (.bl (letM p))] ss := fun ss => by
      refine st_nx ?_
      show (((ev _ _ _).bind fun d => Rs.ok (d, if hasF d then frzE _ _ else _)).out _ fun q => _) = _
      rw [e1]; rfl
    have hin : ∀ w : Option D, ev (cl T N n) [some (.lst false (g.map encR)), some (.lst true (names.map .str)), k, rr, some (.str p), w] (.p .notIn [(.v 4), (.v 1)]) = .ok (.bl (!names.contains p)) := fun w => by
      show Rs.of (pIn true [D.str p, D.lst false (fzs (names.map D.str))]) = _
      rw [fzs_str]
      show Rs.of (if eqOk 64 (.str p) = true ∧ eqOk 64 (.lst true (names.map D.str)) = true then some (D.bl (((names.map D.str).any fun z => deq z (.str p)) != true)) else none) = _
      rw [if_pos ⟨rfl, eqOk_strs _ _⟩, any_str]; simp [ofs]
    have hv5 : ev (cl T N n) [some (.lst false (g.map encR)), some (.lst true (names.map .str)), k, rr, some (.str p), some (.bl (letM p))] (.not (.v 5)) = .ok (.bl (!letM p)) := rfl
    have hc : ev (cl T N n) [some (.lst false (g.map encR)), some (.lst true (names.map .str)), k, rr, some (.str p), some (.bl (letM p))] (.and (.not (.v 5)) (.p .notIn [(.v 4), (.v 1)])) = .ok (.bl (!(letM p || names.contains p))) := by
      rw [ev_and, hv5, bok]
      cases letM p
      · show ev _ _ _ = _
        rw [hin]; simp
      · rfl
    cases ho : (letM p || names.contains p) with
    | true =>
      have hstep : turn4 (cl T N n) N [] (.str p) [some (.lst false (g.map encR)), some (.lst true (names.map .str)), k, rr, x, y] = .nx [some (.lst false (g.map encR)), some (.lst true (names.map .str)), k, rr, some (.str p), some (.bl (letM p))] := by
        unfold turn4
        show execs _ _ _ [some (.lst false (g.map encR)), some (.lst true (names.map .str)), k, rr, some (.str p), y] _ = _
        rw [first]
        rw [st_nx (Γ' := [some (.lst false (g.map encR)), some (.lst true (names.map .str)), k, rr, some (.str p), some (.bl (letM p))]) (by
          show (((ev _ _ _).bind asB).out _ _) = _
          rw [hc, ho]; rfl)]
        rfl
      obtain ⟨i1, i2⟩ := loop4 g names k rr ps (some (.str p)) (some (.bl (letM p))) (fun q hq => hs q (List.mem_cons_of_mem _ hq))
      rw [List.map_cons, for_nx hstep, List.all_cons, ho, Bool.true_and]
      exact ⟨i1, i2⟩
    | false =>
      rw [List.all_cons, ho, Bool.false_and]
      refine ⟨fun h => by (cases h), fun _ => ⟨[some (.lst false (g.map encR)), some (.lst true (names.map .str)), k, rr, some (.str p), some (.bl (letM p))], ?_⟩⟩
      rw [List.map_cons]
      refine for_rt ?_
      unfold turn4
      show execs _ _ _ [some (.lst false (g.map encR)), some (.lst true (names.map .str)), k, rr, some (.str p), y] _ = _
      rw [first]
      refine st_rt ?_
      show (((ev _ _ _).bind asB).out _ _) = _
      rw [hc, ho]; rfl
def turn3 (C : Cl) (N : Nat) (ro : List Nat) : D → En → Out1 := fun x Γ => (bindT false [2, 3] (fz x) Γ).out Γ fun Γ' => execs C N ro Γ' [(.ite (.or (.p .isIn [(.v 3), (.p (.cut false true) [(.v 0), (.p .asInt [(.v 2)])])]) (.or (.not (.call i__law_is_name [(.p .ix [(.v 3), (.c (.int 0))])])) (.p .gt [(.p .len [(.p .ix [(.v 3), (.c (.int 1))])]), (.c (.int 6))]))) [(.ret (.pure (.c (.bl false))))] []), (.fr none true [4] (.p .ix [(.v 3), (.c (.int 1))]) [(.asg 5 (.pure (.and (.p .eq [(.p .len [(.v 4)]), (.c (.int 1))]) (.p .isIn [(.v 4), (.c (.str letters))])))), (.ite (.and (.not (.v 5)) (.p .notIn [(.v 4), (.v 1)])) [(.ret (.pure (.c (.bl false))))] [])])]
def chk2 (names : List (List Nat)) : List R → List R → Bool
  | _, [] => true
  | done, r :: g => !(done.contains r) && (nameM r.1 && decide (r.2.length ≤ 6)) && okP names r && chk2 names (done ++ [r]) g
theorem cutL_take {α : Type} (xs ys : List α) : cutL (xs ++ ys) none (some (xs.length : Nat)) = xs := by
  unfold cutL
  have e1 : cutAt (xs ++ ys).length 0 none = 0 := rfl
  have e2 : cutAt (xs ++ ys).length (xs ++ ys).length (some ((xs.length : Nat) : Int)) = xs.length := by
    show (if ((xs.length : Nat) : Int) < 0 then (((xs.length : Nat) : Int) + ((xs ++ ys).length : Int)).toNat else min ((xs.length : Nat) : Int).toNat (xs ++ ys).length) = _
    rw [if_neg (by omega), Int.toNat_natCast, List.length_append]
    omega
  rw [e1, e2, List.drop_zero, Nat.sub_zero, List.take_left]
theorem loop3 (G : List R) (names : List (List Nat)) : ∀ (g done : List R) (a b x y : Option D), G = done ++ g → (∀ r ∈ g, SzR r) → G.length ≤ 1000 →
    (chk2 names done g = true → ∃ a' b' x' y', forGo (turn3 (cl T N (n + 1)) N []) (enumL done.length (g.map encR)) [some (.lst false (G.map encR)), some (.lst true (names.map .str)), a, b, x, y] = .nx [some (.lst false (G.map encR)), some (.lst true (names.map .str)), a', b', x', y']) ∧
    (chk2 names done g = false → ∃ Γ', forGo (turn3 (cl T N (n + 1)) N []) (enumL done.length (g.map encR)) [some (.lst false (G.map encR)), some (.lst true (names.map .str)), a, b, x, y] = .rt (.bl false) Γ')
  | [], done, a, b, x, y, _, _, _ => ⟨fun _ => ⟨a, b, x, y, rfl⟩, fun h => by cases h⟩
  | r :: g, done, a, b, x, y, hG, hs, hl => by
    obtain ⟨h1, h2, h3⟩ := hs r List.mem_cons_self
    have hG' : G.map encR = done.map encR ++ encR r :: g.map encR := by rw [hG, List.map_append]; rfl
    obtain ⟨Γ1, hΓ1⟩ : ∃ Γ1 : En, Γ1 = [some (.lst false (G.map encR)), some (.lst true (names.map .str)), some (.int (done.length : Nat)), some (encR r), x, y] := ⟨_, rfl⟩
    have hcut : ev (cl T N (n + 1)) Γ1 (.p (.cut false true) [(.v 0), (.p .asInt [(.v 2)])]) = .ok (.lst true (done.map encR)) := by
      rw [hΓ1]
      show Rs.of (some (D.lst true (cutL (fzs (G.map encR)) none (some ((done.length : Nat) : Int))))) = _
      rw [fzs_encR, hG']
      have := cutL_take (done.map encR) (encR r :: g.map encR)
      rw [List.length_map] at this
      rw [this]; rfl
    have hrr : ev (cl T N (n + 1)) Γ1 (.v 3) = .ok (encR r) := by rw [hΓ1]; show Rs.ok (fz (encR r)) = _; rw [fz_encR]
    have hin : ev (cl T N (n + 1)) Γ1 (.p .isIn [(.v 3), (.p (.cut false true) [(.v 0), (.p .asInt [(.v 2)])])]) = .ok (.bl (done.contains r)) := by
      rw [ev_p]
      show (((ev _ _ _).bind fun d => ((ev _ _ _).bind fun d => (Rs.ok []).bind fun ds => Rs.ok (d :: ds)).bind fun ds => Rs.ok (d :: ds)).bind _) = _
      rw [hrr, bok, hcut, bok]
      show Rs.of (if eqOk 64 (encR r) = true ∧ eqOk 64 (.lst true (done.map encR)) = true then some (D.bl (((done.map encR).any fun z => deq z (encR r)) != false)) else none) = _
      rw [if_pos ⟨eqOk_encR 64 (by decide) r, eqOk_encRs 64 (by decide) _ _⟩, any_encR]; simp [ofs]
    have hix0 : ev (cl T N (n + 1)) Γ1 (.p .ix [(.v 3), (.c (.int 0))]) = .ok (.str r.1) := by
      rw [ev_p]
      show (((ev _ _ _).bind fun d => _).bind _) = _
      rw [hrr]; rfl
    have hix1 : ev (cl T N (n + 1)) Γ1 (.p .ix [(.v 3), (.c (.int 1))]) = .ok (.tup (r.2.map .str)) := by
      rw [ev_p]
      show (((ev _ _ _).bind fun d => _).bind _) = _
      rw [hrr]; rfl
    have hnm : ev (cl T N (n + 1)) Γ1 (.not (.call i__law_is_name [(.p .ix [(.v 3), (.c (.int 0))])])) = .ok (.bl (!nameM r.1)) := by
      have hn := r_law_is_name (N := N) (n := n) r.1 (le_lim h1)
      rw [ev_not, ev_call, o__law_is_name, x__law_is_name]
      show (((((ev _ _ _).bind fun d => (Rs.ok []).bind fun ds => Rs.ok (d :: ds)).bind fun ds => (noX ((cl T N (n + 1)).run i__law_is_name (fzs ds))).bind fun r => Rs.ok r.1).bind _)) = _
      rw [hix0]
      show ((noX ((cl T N (n + 1)).run i__law_is_name [.str r.1])).bind fun r => Rs.ok r.1).bind _ = _
      rw [hn]; rfl
    have hgt : ev (cl T N (n + 1)) Γ1 (.p .gt [(.p .len [(.p .ix [(.v 3), (.c (.int 1))])]), (.c (.int 6))]) = .ok (.bl (!decide (r.2.length ≤ 6))) := by
      have e : ev (cl T N (n + 1)) Γ1 (.p .gt [(.p .len [(.p .ix [(.v 3), (.c (.int 1))])]), (.c (.int 6))]) = (((((ev (cl T N (n + 1)) Γ1 (.p .ix [(.v 3), (.c (.int 1))])).bind fun d => (Rs.ok []).bind fun ds => Rs.ok (d :: ds)).bind fun ds => Rs.of (pLen ds)).bind fun d => ((Rs.ok (.int 6)).bind fun d => (Rs.ok []).bind fun ds => Rs.ok (d :: ds)).bind fun ds => Rs.ok (d :: ds)).bind fun ds => Rs.of (pCmp (fun a b => decide (b < a)) ds)) := rfl
      rw [e, hix1]
      show Rs.ok (D.bl (decide ((6 : Int) < ((r.2.map D.str).length : Nat)))) = _
      rw [List.length_map]
      congr 2
      by_cases h6 : r.2.length ≤ 6
      · rw [decide_eq_true h6]; exact decide_eq_false (by omega)
      · rw [decide_eq_false h6]; exact decide_eq_true (by omega)
    have hcond : ev (cl T N (n + 1)) Γ1 (.or (.p .isIn [(.v 3), (.p (.cut false true) [(.v 0), (.p .asInt [(.v 2)])])]) (.or (.not (.call i__law_is_name [(.p .ix [(.v 3), (.c (.int 0))])])) (.p .gt [(.p .len [(.p .ix [(.v 3), (.c (.int 1))])]), (.c (.int 6))]))) = .ok (.bl (!(!(done.contains r) && (nameM r.1 && decide (r.2.length ≤ 6))))) := by
      rw [ev_or, hin, bok]
      cases done.contains r with
      | true => rfl
      | false =>
        show ev _ _ _ = _
        rw [ev_or, hnm, bok]
        cases nameM r.1 with
        | false => rfl
        | true =>
          show ev _ _ _ = _
          rw [hgt]; simp
    have hbind : ∀ (f : En → Out1), (bindT false [2, 3] (fz (.tup [.int (done.length : Nat), encR r])) [some (.lst false (G.map encR)), some (.lst true (names.map .str)), a, b, x, y]).out [some (.lst false (G.map encR)), some (.lst true (names.map .str)), a, b, x, y] f = f Γ1 := fun f => by
      have e : fz (.tup [.int (done.length : Nat), encR r]) = D.tup [.int (done.length : Nat), encR r] := by
        show D.tup [.int (done.length : Nat), fz (encR r)] = _
        rw [fz_encR]
      rw [e, hΓ1]; rfl
    have hen : enumL done.length ((r :: g).map encR) = .tup [.int (done.length : Nat), encR r] :: enumL (done ++ [r]).length (g.map encR) := by
      rw [List.length_append]; rfl
    cases hc : (!(done.contains r) && (nameM r.1 && decide (r.2.length ≤ 6))) with
    | false =>
      have hchk : chk2 names done (r :: g) = false := by
        show ((!(done.contains r) && (nameM r.1 && decide (r.2.length ≤ 6))) && okP names r && chk2 names (done ++ [r]) g) = false
        rw [hc]; rfl
      rw [hchk, hen]
      refine ⟨fun h => by (cases h), fun _ => ⟨Γ1, for_rt ?_⟩⟩
      unfold turn3
      rw [hbind]
      refine st_rt ?_
      show (((ev _ _ _).bind asB).out _ _) = _
      rw [hcond, hc]; rfl
    | true =>
      have first : ∀ ss, execs (cl T N (n + 1)) N [] Γ1 ((.ite (.or (.p .isIn [(.v 3), (.p (.cut false true) [(.v 0), (.p .asInt [(.v 2)])])]) (.or (.not (.call i__law_is_name [(.p .ix [(.v 3), (.c (.int 0))])])) (.p .gt [(.p .len [(.p .ix [(.v 3), (.c (.int 1))])]), (.c (.int 6))]))) [(.ret (.pure (.c (.bl false))))] []) :: ss) = execs (cl T N (n + 1)) N [] Γ1 ss := fun ss => by
        refine st_nx ?_
        show (((ev _ _ _).bind asB).out _ _) = _
        rw [hcond, hc]; rfl
      obtain ⟨b1, b2⟩ := loop4 (N := N) (n := n + 1) G names (some (.int (done.length : Nat))) (some (encR r)) r.2 x y (fun p hp => le_lim (h3 p hp))
      have hfr : exec (cl T N (n + 1)) N [] Γ1 (.fr none true [4] (.p .ix [(.v 3), (.c (.int 1))]) [(.asg 5 (.pure (.and (.p .eq [(.p .len [(.v 4)]), (.c (.int 1))]) (.p .isIn [(.v 4), (.c (.str letters))])))), (.ite (.and (.not (.v 5)) (.p .notIn [(.v 4), (.v 1)])) [(.ret (.pure (.c (.bl false))))] [])]) = forGo (turn4 (cl T N (n + 1)) N []) (r.2.map .str) Γ1 := by
        rw [exec_fr hix1 rfl, fr_plain rfl (by show hasFs (r.2.map D.str) = false; exact hasFs_str _)]
        rfl
      cases ho : okP names r with
      | false =>
        obtain ⟨Γ', hz⟩ := b2 ho
        have hchk : chk2 names done (r :: g) = false := by
          show ((!(done.contains r) && (nameM r.1 && decide (r.2.length ≤ 6))) && okP names r && chk2 names (done ++ [r]) g) = false
          rw [ho]; simp
        rw [hchk, hen]
        refine ⟨fun h => by (cases h), fun _ => ⟨Γ', for_rt ?_⟩⟩
        unfold turn3
        rw [hbind, first]
        refine st_rt ?_
        rw [hfr, hΓ1]; exact hz
      | true =>
        obtain ⟨x', y', hz⟩ := b1 ho
        have hstep : turn3 (cl T N (n + 1)) N [] (.tup [.int (done.length : Nat), encR r]) [some (.lst false (G.map encR)), some (.lst true (names.map .str)), a, b, x, y] = .nx [some (.lst false (G.map encR)), some (.lst true (names.map .str)), some (.int (done.length : Nat)), some (encR r), x', y'] := by
          unfold turn3
          rw [hbind, first]
          rw [st_nx (Γ' := [some (.lst false (G.map encR)), some (.lst true (names.map .str)), some (.int (done.length : Nat)), some (encR r), x', y']) (by rw [hfr, hΓ1]; exact hz)]
          rfl
        have hchk : chk2 names done (r :: g) = chk2 names (done ++ [r]) g := by
          show ((!(done.contains r) && (nameM r.1 && decide (r.2.length ≤ 6))) && okP names r && chk2 names (done ++ [r]) g) = _
          rw [hc, ho]; simp
        rw [hchk, hen, for_nx hstep]
        exact loop3 G names g (done ++ [r]) _ _ _ _ (by rw [hG, List.append_assoc]; rfl) (fun q hq => hs q (List.mem_cons_of_mem _ hq)) hl
def goodM (g : List R) : Bool := decide (1 ≤ g.length) && decide (g.length ≤ 40) && chk2 (g.map (·.1)) [] g
theorem r_law_good (g : List R) (hs : ∀ r ∈ g, SzR r) (hl : g.length ≤ 1000) : (cl T N (n + 2)).run i__law_good [.lst false (g.map encR)] = .ok (.bl (goodM g), none) := by
  rw [run_go (id := i__law_good) (Γ0 := [some (.lst false (g.map encR)), none, none, none, none, none]) rfl rfl rfl]
  have hlim : g.length ≤ lim := le_lim hl
  have ev0 : ev (cl T N (n + 1)) [some (.lst false (g.map encR)), none, none, none, none, none] (.v 0) = .ok (.lst false (g.map encR)) := by simp [bok, bex, bbd, ofs, ofn, ook, obd, nok, nbd, fzt, fzl, exec, evX, evX_op, evX_call, evXs, ev_c, ev_v, ev_p, ev_call, ev_and, ev_or, ev_not, ev_ite, ev_chain, evL, get1, fz, fzs, prim, pLen, pEq, pCmp, pIn, pIx, pAdd, pSub, pMul, pFdiv, pMod, pPow, pTup, pLst, pTuple, pList, pAll, pInt, pStr, pIsBool, isBl, pCut, asB, truth, hasF, hasFs, plain, runF, eqOk_int, eqOk_str, eqOk_bl, deq_int, deq_str, deq_bl, List.getElem?_cons, List.length_cons, List.length_nil, List.map_cons, List.map_nil, List.cons_append, List.nil_append, List.set_cons_zero, List.set_cons_succ, scal, o_is_letter, x_is_letter, o_is_name, x_is_name, o_is_rule, x_is_rule, o_is_grammar, x_is_grammar, o__law_cell_at, x__law_cell_at, o__law_next, x__law_next, o__law_rule_by, x__law_rule_by, o__law_known, x__law_known, o__law_closed, x__law_closed, o__law_grammar, x__law_grammar, o__law_is_name, x__law_is_name, o__law_good, x__law_good, o__law_odd, x__law_odd, o__law_spoilt, x__law_spoilt, o_law, x_law, fzs_encR]
  have lc := ruled_lc (tgt := 3) ev0 hlim (fun d => rfl) (fun d => rfl)
  rw [st_nx (Γ' := [some (.lst false (g.map encR)), some (.lst true ((g.map (·.1)).map .str)), none, none, none, none]) (by
    show (((ev (cl T N (n + 1)) _ _).bind fun d => Rs.ok (d, if hasF d then frzE _ _ else _)).out _ fun q => _) = _
    rw [lc, bok]
    have hf : hasF (D.lst true ((g.map (·.1)).map D.str)) = false := by
      show (false || hasFs ((g.map (·.1)).map D.str)) = false
      rw [hasFs_str]; rfl
    rw [hf]; rfl)]
  by_cases h1 : 1 ≤ g.length
  · by_cases h40 : g.length ≤ 40
    · have h1' : (1 : Int) ≤ (g.length : Int) := by omega
      have h40' : (g.length : Int) ≤ 40 := by omega
      rw [st_nx (Γ' := [some (.lst false (g.map encR)), some (.lst true ((g.map (·.1)).map .str)), none, none, none, none]) (by simp [bok, bex, bbd, ofs, ofn, ook, obd, nok, nbd, fzt, fzl, exec, evX, evX_op, evX_call, evXs, ev_c, ev_v, ev_p, ev_call, ev_and, ev_or, ev_not, ev_ite, ev_chain, evL, get1, fz, fzs, prim, pLen, pEq, pCmp, pIn, pIx, pAdd, pSub, pMul, pFdiv, pMod, pPow, pTup, pLst, pTuple, pList, pAll, pInt, pStr, pIsBool, isBl, pCut, asB, truth, hasF, hasFs, plain, runF, eqOk_int, eqOk_str, eqOk_bl, deq_int, deq_str, deq_bl, List.getElem?_cons, List.length_cons, List.length_nil, List.map_cons, List.map_nil, List.cons_append, List.nil_append, List.set_cons_zero, List.set_cons_succ, scal, o_is_letter, x_is_letter, o_is_name, x_is_name, o_is_rule, x_is_rule, o_is_grammar, x_is_grammar, o__law_cell_at, x__law_cell_at, o__law_next, x__law_next, o__law_rule_by, x__law_rule_by, o__law_known, x__law_known, o__law_closed, x__law_closed, o__law_grammar, x__law_grammar, o__law_is_name, x__law_is_name, o__law_good, x__law_good, o__law_odd, x__law_odd, o__law_spoilt, x__law_spoilt, o_law, x_law, execs, ioL, fzs_encR, h1', h40'])]
      obtain ⟨a1, a2⟩ := loop3 (N := N) (n := n) g (g.map (·.1)) g [] none none none none rfl hs hl
      have evE : ev (cl T N (n + 1)) [some (.lst false (g.map encR)), some (.lst true ((g.map (·.1)).map .str)), none, none, none, none] (.p .enum [(.v 0)]) = .ok (.lst false (enumL 0 (g.map encR))) := by
        show Rs.of (some (D.lst false (enumL 0 (fzs (g.map encR))))) = _
        rw [fzs_encR]; rfl
      have hfr : ∀ body, exec (cl T N (n + 1)) N [] [some (.lst false (g.map encR)), some (.lst true ((g.map (·.1)).map .str)), none, none, none, none] (.fr none false [2, 3] (.p .enum [(.v 0)]) body) = forGo (fun x Γ => (bindT false [2, 3] (fz x) Γ).out Γ fun Γ' => execs (cl T N (n + 1)) N [] Γ' body) (enumL 0 (g.map encR)) [some (.lst false (g.map encR)), some (.lst true ((g.map (·.1)).map .str)), none, none, none, none] := fun body => by
        rw [exec_fr evE rfl]
        show forGo _ _ [some (.lst false (fzs (g.map encR))), some (.lst true ((g.map (·.1)).map .str)), none, none, none, none] = _
        rw [fzs_encR]
      cases hc : chk2 (g.map (·.1)) [] g with
      | true =>
        obtain ⟨a', b', x', y', hz⟩ := a1 hc
        rw [st_nx (Γ' := [some (.lst false (g.map encR)), some (.lst true ((g.map (·.1)).map .str)), a', b', x', y']) (by exact (hfr _).trans hz)]
        rw [st_rt (Γ' := [some (.lst false (g.map encR)), some (.lst true ((g.map (·.1)).map .str)), a', b', x', y']) (d := .bl true) (by simp [bok, bex, bbd, ofs, ofn, ook, obd, nok, nbd, fzt, fzl, exec, evX, evX_op, evX_call, evXs, ev_c, ev_v, ev_p, ev_call, ev_and, ev_or, ev_not, ev_ite, ev_chain, evL, get1, fz, fzs, prim, pLen, pEq, pCmp, pIn, pIx, pAdd, pSub, pMul, pFdiv, pMod, pPow, pTup, pLst, pTuple, pList, pAll, pInt, pStr, pIsBool, isBl, pCut, asB, truth, hasF, hasFs, plain, runF, eqOk_int, eqOk_str, eqOk_bl, deq_int, deq_str, deq_bl, List.getElem?_cons, List.length_cons, List.length_nil, List.map_cons, List.map_nil, List.cons_append, List.nil_append, List.set_cons_zero, List.set_cons_succ, scal, o_is_letter, x_is_letter, o_is_name, x_is_name, o_is_rule, x_is_rule, o_is_grammar, x_is_grammar, o__law_cell_at, x__law_cell_at, o__law_next, x__law_next, o__law_rule_by, x__law_rule_by, o__law_known, x__law_known, o__law_closed, x__law_closed, o__law_grammar, x__law_grammar, o__law_is_name, x__law_is_name, o__law_good, x__law_good, o__law_odd, x__law_odd, o__law_spoilt, x__law_spoilt, o_law, x_law])]
        simp only [outR, nok, goodM, hc, h1, h40]; rfl
      | false =>
        obtain ⟨Γ', hz⟩ := a2 hc
        rw [st_rt (Γ' := Γ') (d := .bl false) (by exact (hfr _).trans hz)]
        simp only [outR, nok, goodM, hc, h1, h40]; rfl
    · have h1' : (1 : Int) ≤ (g.length : Int) := by omega
      have h40' : ¬ (g.length : Int) ≤ 40 := by omega
      rw [st_rt (Γ' := [some (.lst false (g.map encR)), some (.lst true ((g.map (·.1)).map .str)), none, none, none, none]) (d := .bl false) (by simp [bok, bex, bbd, ofs, ofn, ook, obd, nok, nbd, fzt, fzl, exec, evX, evX_op, evX_call, evXs, ev_c, ev_v, ev_p, ev_call, ev_and, ev_or, ev_not, ev_ite, ev_chain, evL, get1, fz, fzs, prim, pLen, pEq, pCmp, pIn, pIx, pAdd, pSub, pMul, pFdiv, pMod, pPow, pTup, pLst, pTuple, pList, pAll, pInt, pStr, pIsBool, isBl, pCut, asB, truth, hasF, hasFs, plain, runF, eqOk_int, eqOk_str, eqOk_bl, deq_int, deq_str, deq_bl, List.getElem?_cons, List.length_cons, List.length_nil, List.map_cons, List.map_nil, List.cons_append, List.nil_append, List.set_cons_zero, List.set_cons_succ, scal, o_is_letter, x_is_letter, o_is_name, x_is_name, o_is_rule, x_is_rule, o_is_grammar, x_is_grammar, o__law_cell_at, x__law_cell_at, o__law_next, x__law_next, o__law_rule_by, x__law_rule_by, o__law_known, x__law_known, o__law_closed, x__law_closed, o__law_grammar, x__law_grammar, o__law_is_name, x__law_is_name, o__law_good, x__law_good, o__law_odd, x__law_odd, o__law_spoilt, x__law_spoilt, o_law, x_law, execs, ioL, fzs_encR, h1', h40'])]
      simp [outR, nok, goodM, h40]
  · have h1' : ¬ (1 : Int) ≤ (g.length : Int) := by omega
    rw [st_rt (Γ' := [some (.lst false (g.map encR)), some (.lst true ((g.map (·.1)).map .str)), none, none, none, none]) (d := .bl false) (by simp [bok, bex, bbd, ofs, ofn, ook, obd, nok, nbd, fzt, fzl, exec, evX, evX_op, evX_call, evXs, ev_c, ev_v, ev_p, ev_call, ev_and, ev_or, ev_not, ev_ite, ev_chain, evL, get1, fz, fzs, prim, pLen, pEq, pCmp, pIn, pIx, pAdd, pSub, pMul, pFdiv, pMod, pPow, pTup, pLst, pTuple, pList, pAll, pInt, pStr, pIsBool, isBl, pCut, asB, truth, hasF, hasFs, plain, runF, eqOk_int, eqOk_str, eqOk_bl, deq_int, deq_str, deq_bl, List.getElem?_cons, List.length_cons, List.length_nil, List.map_cons, List.map_nil, List.cons_append, List.nil_append, List.set_cons_zero, List.set_cons_succ, scal, o_is_letter, x_is_letter, o_is_name, x_is_name, o_is_rule, x_is_rule, o_is_grammar, x_is_grammar, o__law_cell_at, x__law_cell_at, o__law_next, x__law_next, o__law_rule_by, x__law_rule_by, o__law_known, x__law_known, o__law_closed, x__law_closed, o__law_grammar, x__law_grammar, o__law_is_name, x__law_is_name, o__law_good, x__law_good, o__law_odd, x__law_odd, o__law_spoilt, x__law_spoilt, o_law, x_law, execs, ioL, fzs_encR, h1'])]
    simp [outR, nok, goodM, h1]
/-- both looks say the same -/
theorem gram_good (g : List R) : gramM g = goodM g := by
  have key : ∀ (g done : List R) (names : List (List Nat)), (∀ r ∈ g, r.1 ∈ names) → (chk done g = true ∧ g.all (okP names) = true → chk2 names done g = true) := by
    intro g
    induction g with
    | nil => intro _ _ _ _; rfl
    | cons r g ih =>
      intro done names hn ⟨h1, h2⟩
      have h1 : (ruleM r && !(done.contains r) && chk (done ++ [r]) g) = true := h1
      rw [List.all_cons, Bool.and_eq_true] at h2
      simp only [Bool.and_eq_true] at h1
      obtain ⟨⟨h3, h4⟩, h5⟩ := h1
      unfold ruleM at h3
      simp only [Bool.and_eq_true] at h3
      show (!(done.contains r) && (nameM r.1 && decide (r.2.length ≤ 6)) && okP names r && chk2 names (done ++ [r]) g) = true
      rw [h4, h3.1.1, h3.1.2, h2.1, ih (done ++ [r]) names (fun q hq => hn q (List.mem_cons_of_mem _ hq)) ⟨h5, h2.2⟩]; rfl
  have key2 : ∀ (g done : List R) (names : List (List Nat)), chk2 names done g = true → (∀ r ∈ g, nameM r.1 = true) ∧ g.all (okP names) = true := by
    intro g
    induction g with
    | nil => intro _ _ _; exact ⟨fun r hr => by (cases hr), rfl⟩
    | cons r g ih =>
      intro done names h
      have h : (!(done.contains r) && (nameM r.1 && decide (r.2.length ≤ 6)) && okP names r && chk2 names (done ++ [r]) g) = true := h
      simp only [Bool.and_eq_true] at h
      obtain ⟨⟨⟨h1, h2, h3⟩, h4⟩, h5⟩ := h
      obtain ⟨i1, i2⟩ := ih _ _ h5
      refine ⟨fun q hq => ?_, by rw [List.all_cons, h4, i2]; rfl⟩
      rcases List.mem_cons.mp hq with rfl | hq
      · exact h2
      · exact i1 q hq
  have key3 : ∀ (g done : List R) (names : List (List Nat)), (∀ x ∈ names, nameM x = true) → chk2 names done g = true → chk done g = true := by
    intro g
    induction g with
    | nil => intro _ _ _ _; rfl
    | cons r g ih =>
      intro done names hn h
      have h : (!(done.contains r) && (nameM r.1 && decide (r.2.length ≤ 6)) && okP names r && chk2 names (done ++ [r]) g) = true := h
      simp only [Bool.and_eq_true] at h
      obtain ⟨⟨⟨h1, h2, h3⟩, h4⟩, h5⟩ := h
      have hr : ruleM r = true := by
        unfold ruleM
        rw [h2, h3]
        simp only [Bool.true_and, List.all_eq_true]
        intro p hp
        unfold okP at h4
        rw [List.all_eq_true] at h4
        have := h4 p hp
        rw [Bool.or_eq_true] at this ⊢
        rcases this with z | z
        · exact .inl z
        · exact .inr (hn p (by simpa using z))
      show (ruleM r && !(done.contains r) && chk (done ++ [r]) g) = true
      rw [hr, h1, ih _ names hn h5]; rfl
  unfold gramM goodM
  rw [Bool.and_assoc]
  congr 1
  cases h2 : chk2 (g.map (·.1)) [] g with
  | true =>
    obtain ⟨i1, i2⟩ := key2 g [] _ h2
    rw [i2, key3 g [] _ (fun x hx => by obtain ⟨r, hr, rfl⟩ := List.mem_map.mp hx; exact i1 r hr) h2]; rfl
  | false =>
    cases h1 : chk [] g && g.all (okP (g.map (·.1))) with
    | false => rfl
    | true =>
      rw [Bool.and_eq_true] at h1
      rw [key g [] _ (fun r hr => List.mem_map.mpr ⟨r, hr, rfl⟩) h1] at h2
      cases h2
end RW

namespace RW
open PySem L2
variable {N n : Nat}
/-! ## loops and comprehensions over encoded items -/
def turn (C : Cl) (N : Nat) (one : Bool) (tg : List Nat) (body : List S) (ro : List Nat) : D → En → Out1 := fun x Γ => (bindT one tg (fz x) Γ).out Γ fun Γ' => execs C N ro Γ' body
theorem fr_go {C : Cl} {ro : List Nat} {Γ : En} {hide : Option Nat} {one : Bool} {tg : List Nat} {it : E} {body : List S} {d : D} {xs : List D} (h1 : ev C Γ it = .ok d) (h2 : items d = some xs) (h3 : tg.any ro.contains = false) (h4 : hasF d = false) : exec C N ro Γ (.fr hide one tg it body) = forGo (turn C N one tg body ro) xs Γ := by
  rw [exec_fr h1 h2, fr_plain h3 h4]; rfl
theorem fr_goH {C : Cl} {ro : List Nat} {Γ : En} {i : Nat} {one : Bool} {tg : List Nat} {it : E} {body : List S} {d dv : D} {xs : List D} (h1 : ev C Γ it = .ok d) (h2 : items d = some xs) (h3 : tg.any ro.contains = false) (h4 : hasF d = true) (h5 : flats xs = true) (h6 : tg.contains i = false) (h7 : get1 Γ i = .ok dv) : exec C N ro Γ (.fr (some i) one tg it body) = unhide i dv (forGo (turn C N one tg body (i :: ro)) xs (Γ.set i none)) := by
  rw [exec_fr h1 h2, fr_hide h3 h4 h5 h6 h7]; rfl
theorem asg_pure {C : Cl} {N : Nat} {ro : List Nat} {Γ : En} {i : Nat} {e : E} {d : D} (h : ev C Γ e = .ok d) (hf : hasF d = false) (hr : ro.contains i = false) : exec C N ro Γ (.asg i (.pure e)) = .nx (Γ.set i (some d)) := by
  show ((((ev C Γ e).bind fun d => Rs.ok (d, if hasF d then frzE (vars e) Γ else Γ)).out Γ fun q => if ro.contains i then .bad else .nx (q.2.set i (some q.1)))) = _
  rw [h, bok, hf, ook, hr]; rfl
theorem for_rel {σ α : Type} {f : D → En → Out1} {enc : α → D} {step : σ → α → σ} {Rel : Nat → σ → En → Prop} : ∀ {xs : List α} {s : σ} {Γ : En}, (∀ k s Γ x, x ∈ xs → Rel (k + 1) s Γ → ∃ Γ', f (enc x) Γ = .nx Γ' ∧ Rel k (step s x) Γ') → Rel xs.length s Γ → ∃ Γ', forGo f (xs.map enc) Γ = .nx Γ' ∧ Rel 0 (xs.foldl step s) Γ'
  | [], s, Γ, _, h => ⟨Γ, rfl, h⟩
  | x :: xs, s, Γ, H, h => by
    obtain ⟨Γ1, h1, h2⟩ := H xs.length s Γ x List.mem_cons_self h
    obtain ⟨Γ2, h3, h4⟩ := for_rel (fun k s Γ y hy => H k s Γ y (List.mem_cons_of_mem _ hy)) h2
    exact ⟨Γ2, by rw [List.map_cons, for_nx h1, h3], h4⟩
theorem lc_mapE {α : Type} {f : D → Rs (Option D)} {enc h : α → D} {p : α → Bool} : ∀ {xs : List α}, (∀ x ∈ xs, f (enc x) = .ok (if p x = true then some (h x) else none)) → lcGo f (xs.map enc) = .ok ((xs.filter p).map h)
  | [], _ => rfl
  | x :: xs, H => by
    show ((f (enc x)).bind fun o => (lcGo f (xs.map enc)).bind fun r => .ok (match o with | some d => d :: r | none => r)) = _
    rw [H x List.mem_cons_self, lc_mapE fun y hy => H y (List.mem_cons_of_mem _ hy)]
    cases e : p x <;> simp [bok, List.filter_cons, e]
/-- a comprehension over encoded items: map and filter -/
theorem ev_lce {α : Type} {C : Cl} {Γ : En} {elt it cond : E} {one : Bool} {tg own : List Nat} {d : D} {xs : List α} (enc : α → D) (h : α → D) (p : α → Bool) (h1 : ev C Γ it = .ok d) (h2 : items d = some (xs.map enc)) (hl : xs.length ≤ lim) (hb : ∀ x ∈ xs, lcB C Γ elt one tg own cond (enc x) = .ok (if p x = true then some (h x) else none)) : ev C Γ (.lc elt one tg own it cond) = .ok (.lst true ((xs.filter p).map h)) := by
  show ((ev C Γ it).bind fun d => (Rs.of (items d)).bind fun xs => (noX (lcGo (lcB C Γ elt one tg own cond) xs)).bind fun ys => if ys.length ≤ lim then Rs.ok (D.lst true ys) else .bad) = _
  rw [h1, bok, h2, ofs, bok, lc_mapE hb, nok, bok, if_pos (by rw [List.length_map]; exact Nat.le_trans (List.length_filter_le _ _) hl)]
/-- .. map alone -/
theorem ev_lcme {α : Type} {C : Cl} {Γ : En} {elt it : E} {one : Bool} {tg own : List Nat} {d : D} {xs : List α} (enc : α → D) (h : α → D) (h1 : ev C Γ it = .ok d) (h2 : items d = some (xs.map enc)) (hl : xs.length ≤ lim) (hb : ∀ x ∈ xs, lcB C Γ elt one tg own (.c (.bl true)) (enc x) = .ok (some (h x))) : ev C Γ (.lc elt one tg own it (.c (.bl true))) = .ok (.lst true (xs.map h)) := by
  have := ev_lce enc h (fun _ => true) h1 h2 hl (fun x hx => by rw [hb x hx]; rfl)
  rw [List.filter_eq_self.mpr (fun _ _ => rfl)] at this
  exact this
/-! ## the script's grammar -/
/-- the sign at a place -/
def pick {α : Type} (d : α) (xs : List α) (i : Int) : α := (ixAt xs i).getD d
theorem ixAt_pick {α : Type} (d : α) (xs : List α) (i : Int) (h0 : 0 ≤ i) (h1 : i < xs.length) : ixAt xs i = some (pick d xs i) := by
  unfold pick ixAt
  rw [if_pos h0]
  have : i.toNat < xs.length := by omega
  rw [List.getElem?_eq_getElem this]; rfl
theorem pick_mem {α : Type} (d : α) (xs : List α) (i : Int) (h0 : 0 ≤ i) (h1 : i < xs.length) : pick d xs i ∈ xs := by
  unfold pick ixAt
  rw [if_pos h0]
  have : i.toNat < xs.length := by omega
  rw [List.getElem?_eq_getElem this]
  exact List.getElem_mem _
def cellM (ns : List Int) (k : Nat) : Int := ns.getD k 0
theorem r_cell_at (ns : List Int) (k : Nat) : (cl T N (n + 1)).run i__law_cell_at [.scr ns, .int (k : Nat)] = .ok (.int (cellM ns k), none) := by
  rw [run_go (id := i__law_cell_at) (Γ0 := [some (.scr ns), some (.int (k : Nat))]) rfl rfl rfl]
  by_cases h : k < ns.length
  · have h' : (k : Int) < (ns.length : Int) := by omega
    have e : ixAt ns (k : Int) = some (cellM ns k) := by
      unfold ixAt cellM
      rw [if_pos (by omega), Int.toNat_natCast, List.getElem?_eq_getElem h, List.getD_eq_getElem?_getD, List.getElem?_eq_getElem h]; rfl
    simp [bok, bex, bbd, ofs, ofn, ook, obd, nok, nbd, fzt, fzl, exec, evX, evX_op, evX_call, evXs, ev_c, ev_v, ev_p, ev_call, ev_and, ev_or, ev_not, ev_ite, ev_chain, evL, get1, fz, fzs, prim, pLen, pEq, pCmp, pIn, pIx, pAdd, pSub, pMul, pFdiv, pMod, pPow, pTup, pLst, pTuple, pList, pAll, pInt, pStr, pIsBool, isBl, pCut, asB, truth, hasF, hasFs, plain, runF, eqOk_int, eqOk_str, eqOk_bl, deq_int, deq_str, deq_bl, List.getElem?_cons, List.length_cons, List.length_nil, List.map_cons, List.map_nil, List.cons_append, List.nil_append, List.set_cons_zero, List.set_cons_succ, scal, o_is_letter, x_is_letter, o_is_name, x_is_name, o_is_rule, x_is_rule, o_is_grammar, x_is_grammar, o__law_cell_at, x__law_cell_at, o__law_next, x__law_next, o__law_rule_by, x__law_rule_by, o__law_known, x__law_known, o__law_closed, x__law_closed, o__law_grammar, x__law_grammar, o__law_is_name, x__law_is_name, o__law_good, x__law_good, o__law_odd, x__law_odd, o__law_spoilt, x__law_spoilt, o_law, x_law, execs, outR, ioL, h', e]
  · have h' : ¬ (k : Int) < (ns.length : Int) := by omega
    have e : cellM ns k = 0 := by unfold cellM; rw [List.getD_eq_getElem?_getD, List.getElem?_eq_none (by omega)]; rfl
    simp [bok, bex, bbd, ofs, ofn, ook, obd, nok, nbd, fzt, fzl, exec, evX, evX_op, evX_call, evXs, ev_c, ev_v, ev_p, ev_call, ev_and, ev_or, ev_not, ev_ite, ev_chain, evL, get1, fz, fzs, prim, pLen, pEq, pCmp, pIn, pIx, pAdd, pSub, pMul, pFdiv, pMod, pPow, pTup, pLst, pTuple, pList, pAll, pInt, pStr, pIsBool, isBl, pCut, asB, truth, hasF, hasFs, plain, runF, eqOk_int, eqOk_str, eqOk_bl, deq_int, deq_str, deq_bl, List.getElem?_cons, List.length_cons, List.length_nil, List.map_cons, List.map_nil, List.cons_append, List.nil_append, List.set_cons_zero, List.set_cons_succ, scal, o_is_letter, x_is_letter, o_is_name, x_is_name, o_is_rule, x_is_rule, o_is_grammar, x_is_grammar, o__law_cell_at, x__law_cell_at, o__law_next, x__law_next, o__law_rule_by, x__law_rule_by, o__law_known, x__law_known, o__law_closed, x__law_closed, o__law_grammar, x__law_grammar, o__law_is_name, x__law_is_name, o__law_good, x__law_good, o__law_odd, x__law_odd, o__law_spoilt, x__law_spoilt, o_law, x_law, execs, outR, ioL, h', e]
theorem r_next (ns : List Int) (k : Nat) : (cl T N (n + 2)).run i__law_next [.scr ns, .lst true [.int (k : Nat)]] = .ok (.int (cellM ns k), some (.lst true [.int ((k + 1 : Nat))])) := by
  rw [run_go (id := i__law_next) (Γ0 := [some (.scr ns), some (.lst true [.int (k : Nat)])]) rfl rfl rfl]
  have hc := r_cell_at (N := N) (n := n) ns k
  have e : (k : Int) + 1 - 1 = k := by omega
  simp [bok, bex, bbd, ofs, ofn, ook, obd, nok, nbd, fzt, fzl, exec, evX, evX_op, evX_call, evXs, ev_c, ev_v, ev_p, ev_call, ev_and, ev_or, ev_not, ev_ite, ev_chain, evL, get1, fz, fzs, prim, pLen, pEq, pCmp, pIn, pIx, pAdd, pSub, pMul, pFdiv, pMod, pPow, pTup, pLst, pTuple, pList, pAll, pInt, pStr, pIsBool, isBl, pCut, asB, truth, hasF, hasFs, plain, runF, eqOk_int, eqOk_str, eqOk_bl, deq_int, deq_str, deq_bl, List.getElem?_cons, List.length_cons, List.length_nil, List.map_cons, List.map_nil, List.cons_append, List.nil_append, List.set_cons_zero, List.set_cons_succ, scal, o_is_letter, x_is_letter, o_is_name, x_is_name, o_is_rule, x_is_rule, o_is_grammar, x_is_grammar, o__law_cell_at, x__law_cell_at, o__law_next, x__law_next, o__law_rule_by, x__law_rule_by, o__law_known, x__law_known, o__law_closed, x__law_closed, o__law_grammar, x__law_grammar, o__law_is_name, x__law_is_name, o__law_good, x__law_good, o__law_odd, x__law_odd, o__law_spoilt, x__law_spoilt, o_law, x_law, execs, outR, ioL, ixAt0, putV, flat, e, hc]
def sgn6 (l : Int) : List Nat := [pick 0 [97, 98, 99, 83, 65, 66] (l % 6)]
def rbStep (s : List (List Nat) × Int) (_ : Nat) : List (List Nat) × Int := (s.1 ++ [sgn6 s.2], s.2 / 6)
def ruleBy (c : Int) : R := ([pick 0 [83, 65, 66] (c % 3)], ((List.range (c / 3 % 4).toNat).foldl rbStep ([], c / 12)).1)
theorem r_rule_by (c : Int) : (cl T N (n + 1)).run i__law_rule_by [.int c] = .ok (encR (ruleBy c), none) := by
  rw [run_go (id := i__law_rule_by) (Γ0 := [some (.int c), none, none, none]) rfl rfl rfl]
  have hm : (c / 3 % 4).toNat ≤ 3 := by omega
  rw [st_nx (Γ' := [some (.int c), some (.lst true []), none, none]) (by simp [bok, bex, bbd, ofs, ofn, ook, obd, nok, nbd, fzt, fzl, exec, evX, evX_op, evX_call, evXs, ev_c, ev_v, ev_p, ev_call, ev_and, ev_or, ev_not, ev_ite, ev_chain, evL, get1, fz, fzs, prim, pLen, pEq, pCmp, pIn, pIx, pAdd, pSub, pMul, pFdiv, pMod, pPow, pTup, pLst, pTuple, pList, pAll, pInt, pStr, pIsBool, isBl, pCut, asB, truth, hasF, hasFs, plain, runF, eqOk_int, eqOk_str, eqOk_bl, deq_int, deq_str, deq_bl, List.getElem?_cons, List.length_cons, List.length_nil, List.map_cons, List.map_nil, List.cons_append, List.nil_append, List.set_cons_zero, List.set_cons_succ, scal, o_is_letter, x_is_letter, o_is_name, x_is_name, o_is_rule, x_is_rule, o_is_grammar, x_is_grammar, o__law_cell_at, x__law_cell_at, o__law_next, x__law_next, o__law_rule_by, x__law_rule_by, o__law_known, x__law_known, o__law_closed, x__law_closed, o__law_grammar, x__law_grammar, o__law_is_name, x__law_is_name, o__law_good, x__law_good, o__law_odd, x__law_odd, o__law_spoilt, x__law_spoilt, o_law, x_law, ioL])]
  rw [st_nx (Γ' := [some (.int c), some (.lst true []), some (.int (c / 12)), none]) (by simp [bok, bex, bbd, ofs, ofn, ook, obd, nok, nbd, fzt, fzl, exec, evX, evX_op, evX_call, evXs, ev_c, ev_v, ev_p, ev_call, ev_and, ev_or, ev_not, ev_ite, ev_chain, evL, get1, fz, fzs, prim, pLen, pEq, pCmp, pIn, pIx, pAdd, pSub, pMul, pFdiv, pMod, pPow, pTup, pLst, pTuple, pList, pAll, pInt, pStr, pIsBool, isBl, pCut, asB, truth, hasF, hasFs, plain, runF, eqOk_int, eqOk_str, eqOk_bl, deq_int, deq_str, deq_bl, List.getElem?_cons, List.length_cons, List.length_nil, List.map_cons, List.map_nil, List.cons_append, List.nil_append, List.set_cons_zero, List.set_cons_succ, scal, o_is_letter, x_is_letter, o_is_name, x_is_name, o_is_rule, x_is_rule, o_is_grammar, x_is_grammar, o__law_cell_at, x__law_cell_at, o__law_next, x__law_next, o__law_rule_by, x__law_rule_by, o__law_known, x__law_known, o__law_closed, x__law_closed, o__law_grammar, x__law_grammar, o__law_is_name, x__law_is_name, o__law_good, x__law_good, o__law_odd, x__law_odd, o__law_spoilt, x__law_spoilt, o_law, x_law, ioL])]
  obtain ⟨Γ', h1, h2⟩ := for_rel (f := (turn (cl T N n) N true [3] [(.mut 1 .append [(.pure (.p .ix [(.c (.str [97, 98, 99, 83, 65, 66])), (.p .mod [(.v 2), (.c (.int 6))])]))]), (.asg 2 (.pure (.p .fdiv [(.v 2), (.c (.int 6))])))]) (ioL none)) (enc := fun i : Nat => D.int (0 + (i : Nat))) (step := rbStep)
    (Rel := fun k s Γ => s.1.length + k ≤ 3 ∧ ∃ x, Γ = [some (.int c), some (.lst true (s.1.map .str)), some (.int s.2), x]) (xs := List.range (c / 3 % 4).toNat) (s := ([], c / 12)) (Γ := [some (.int c), some (.lst true []), some (.int (c / 12)), none])
    (fun k s Γ i hi hR => by
      obtain ⟨hk, x, rfl⟩ := hR
      refine ⟨[some (.int c), some (.lst true ((rbStep s i).1.map .str)), some (.int (rbStep s i).2), some (.int (0 + (i : Nat)))], ?_, ?_, _, rfl⟩
      · have hp := ixAt_pick 0 [97, 98, 99, 83, 65, 66] (s.2 % 6) (by omega) (by simp only [List.length_cons, List.length_nil]; omega)
        have hl : s.1.length < 16777216 := by omega
        simp [turn, bok, bex, bbd, ofs, ofn, ook, obd, nok, nbd, fzt, fzl, exec, evX, evX_op, evX_call, evXs, ev_c, ev_v, ev_p, ev_call, ev_and, ev_or, ev_not, ev_ite, ev_chain, evL, get1, fz, fzs, prim, pLen, pEq, pCmp, pIn, pIx, pAdd, pSub, pMul, pFdiv, pMod, pPow, pTup, pLst, pTuple, pList, pAll, pInt, pStr, pIsBool, isBl, pCut, asB, truth, hasF, hasFs, plain, runF, eqOk_int, eqOk_str, eqOk_bl, deq_int, deq_str, deq_bl, List.getElem?_cons, List.length_cons, List.length_nil, List.map_cons, List.map_nil, List.cons_append, List.nil_append, List.set_cons_zero, List.set_cons_succ, scal, o_is_letter, x_is_letter, o_is_name, x_is_name, o_is_rule, x_is_rule, o_is_grammar, x_is_grammar, o__law_cell_at, x__law_cell_at, o__law_next, x__law_next, o__law_rule_by, x__law_rule_by, o__law_known, x__law_known, o__law_closed, x__law_closed, o__law_grammar, x__law_grammar, o__law_is_name, x__law_is_name, o__law_good, x__law_good, o__law_odd, x__law_odd, o__law_spoilt, x__law_spoilt, o_law, x_law, ioL, execs, bindT, mutV, mAppend, isLst, hp, lim, rbStep, sgn6, hl]
      · show (s.1 ++ [_]).length + k ≤ 3
        rw [List.length_append, List.length_singleton]; omega)
    ⟨by rw [List.length_range]; exact (by simpa using hm), none, rfl⟩
  obtain ⟨_, x, hx⟩ := h2
  have hr : ev (cl T N n) [some (.int c), some (.lst true []), some (.int (c / 12)), none] (.p .range [(.p .mod [(.p .fdiv [(.v 0), (.c (.int 3))]), (.c (.int 4))])]) = .ok (.tup (rangeL 0 (c / 3 % 4).toNat)) := by
    have : -great ≤ c / 3 % 4 ∧ c / 3 % 4 < great := by unfold great; omega
    simp [bok, bex, bbd, ofs, ofn, ook, obd, nok, nbd, fzt, fzl, exec, evX, evX_op, evX_call, evXs, ev_c, ev_v, ev_p, ev_call, ev_and, ev_or, ev_not, ev_ite, ev_chain, evL, get1, fz, fzs, prim, pLen, pEq, pCmp, pIn, pIx, pAdd, pSub, pMul, pFdiv, pMod, pPow, pTup, pLst, pTuple, pList, pAll, pInt, pStr, pIsBool, isBl, pCut, asB, truth, hasF, hasFs, plain, runF, eqOk_int, eqOk_str, eqOk_bl, deq_int, deq_str, deq_bl, List.getElem?_cons, List.length_cons, List.length_nil, List.map_cons, List.map_nil, List.cons_append, List.nil_append, List.set_cons_zero, List.set_cons_succ, scal, o_is_letter, x_is_letter, o_is_name, x_is_name, o_is_rule, x_is_rule, o_is_grammar, x_is_grammar, o__law_cell_at, x__law_cell_at, o__law_next, x__law_next, o__law_rule_by, x__law_rule_by, o__law_known, x__law_known, o__law_closed, x__law_closed, o__law_grammar, x__law_grammar, o__law_is_name, x__law_is_name, o__law_good, x__law_good, o__law_odd, x__law_odd, o__law_spoilt, x__law_spoilt, o_law, x_law, pRange, this]
  rw [st_nx (Γ' := Γ') (by
    rw [fr_go hr rfl rfl (by show hasFs (rangeL 0 _) = false; exact hasFs_none _ (fun _ => rfl) _)]
    exact h1)]
  rw [hx]
  have hp := ixAt_pick 0 [83, 65, 66] (c % 3) (by omega) (by simp only [List.length_cons, List.length_nil]; omega)
  simp [bok, bex, bbd, ofs, ofn, ook, obd, nok, nbd, fzt, fzl, exec, evX, evX_op, evX_call, evXs, ev_c, ev_v, ev_p, ev_call, ev_and, ev_or, ev_not, ev_ite, ev_chain, evL, get1, fz, fzs, prim, pLen, pEq, pCmp, pIn, pIx, pAdd, pSub, pMul, pFdiv, pMod, pPow, pTup, pLst, pTuple, pList, pAll, pInt, pStr, pIsBool, isBl, pCut, asB, truth, hasF, hasFs, plain, runF, eqOk_int, eqOk_str, eqOk_bl, deq_int, deq_str, deq_bl, List.getElem?_cons, List.length_cons, List.length_nil, List.map_cons, List.map_nil, List.cons_append, List.nil_append, List.set_cons_zero, List.set_cons_succ, scal, o_is_letter, x_is_letter, o_is_name, x_is_name, o_is_rule, x_is_rule, o_is_grammar, x_is_grammar, o__law_cell_at, x__law_cell_at, o__law_next, x__law_next, o__law_rule_by, x__law_rule_by, o__law_known, x__law_known, o__law_closed, x__law_closed, o__law_grammar, x__law_grammar, o__law_is_name, x__law_is_name, o__law_good, x__law_good, o__law_odd, x__law_odd, o__law_spoilt, x__law_spoilt, o_law, x_law, execs, ioL, outR, hp, lim, encR, ruleBy, fzs_str, hasFs_str]
def knownL : List (List R) := [[([83], [[97], [83], [98], [83]]), ([83], [])], [([83], [[83], [97], [65]]), ([83], [[65]]), ([65], [[98]]), ([65], [[99], [83], [99]])], [([83], [[97], [83], [97]]), ([83], [[98], [83], [98]]), ([83], [[97]]), ([83], [[98]]), ([83], [])], [([83], [[97], [83]]), ([83], [[97], [83], [98], [83]]), ([83], [[99]])], [([83], [[65], [83]]), ([83], [[65]]), ([65], [[97]]), ([65], [[98]])], [([83], [[65], [66]]), ([65], []), ([65], [[97]]), ([66], [[65]]), ([66], [[98]])], [([83], [[65]]), ([83], [[97]]), ([65], [[83]]), ([65], [[98]])], [([83], [[97], [83], [98]]), ([83], [[97], [98]])], [([83], [[83], [83]]), ([83], [[97]])], [([83], [[97], [65], [97]]), ([83], [[98], [65], [98]]), ([83], [[97], [66], [98]]), ([83], [[98], [66], [97]]), ([65], [[99]]), ([66], [[99]])], [([83], [[97]]), ([83], [[65]]), ([65], [[97], [65]])], [([83], [[97], [98]]), ([65], [[98], [83]])], [([83], [[65], [83], [98]]), ([83], [[97]]), ([65], []), ([65], [[99]])], [([83], [[97], [83], [83]]), ([83], [[98]])], [([83], [[65]]), ([65], [[66]]), ([66], [[83]]), ([66], [[99]])], [([83], [[83], [65], [83]]), ([83], [[97]]), ([65], [[98]]), ([65], [[99]])]]
def knownM (i : Int) : List R := pick [] knownL (i % 16)
end RW

namespace RW
open PySem L2
variable {N n : Nat}
/-! ### the well known ones -/
def knownT : List (List Nat) := [[83, 61, 97, 83, 98, 83, 32, 83, 61], [83, 61, 83, 97, 65, 32, 83, 61, 65, 32, 65, 61, 98, 32, 65, 61, 99, 83, 99], [83, 61, 97, 83, 97, 32, 83, 61, 98, 83, 98, 32, 83, 61, 97, 32, 83, 61, 98, 32, 83, 61], [83, 61, 97, 83, 32, 83, 61, 97, 83, 98, 83, 32, 83, 61, 99], [83, 61, 65, 83, 32, 83, 61, 65, 32, 65, 61, 97, 32, 65, 61, 98], [83, 61, 65, 66, 32, 65, 61, 32, 65, 61, 97, 32, 66, 61, 65, 32, 66, 61, 98], [83, 61, 65, 32, 83, 61, 97, 32, 65, 61, 83, 32, 65, 61, 98], [83, 61, 97, 83, 98, 32, 83, 61, 97, 98], [83, 61, 83, 83, 32, 83, 61, 97], [83, 61, 97, 65, 97, 32, 83, 61, 98, 65, 98, 32, 83, 61, 97, 66, 98, 32, 83, 61, 98, 66, 97, 32, 65, 61, 99, 32, 66, 61, 99], [83, 61, 97, 32, 83, 61, 65, 32, 65, 61, 97, 65], [83, 61, 97, 98, 32, 65, 61, 98, 83], [83, 61, 65, 83, 98, 32, 83, 61, 97, 32, 65, 61, 32, 65, 61, 99], [83, 61, 97, 83, 83, 32, 83, 61, 98], [83, 61, 65, 32, 65, 61, 66, 32, 66, 61, 83, 32, 66, 61, 99], [83, 61, 83, 65, 83, 32, 83, 61, 97, 32, 65, 61, 98, 32, 65, 61, 99]]
/-- each word: itself, the name, the parts -/
def knownP : List (List (List Nat × List Nat × List Nat)) := [[([83, 61, 97, 83, 98, 83], [83], [97, 83, 98, 83]), ([83, 61], [83], [])],
  [([83, 61, 83, 97, 65], [83], [83, 97, 65]), ([83, 61, 65], [83], [65]), ([65, 61, 98], [65], [98]), ([65, 61, 99, 83, 99], [65], [99, 83, 99])],
  [([83, 61, 97, 83, 97], [83], [97, 83, 97]), ([83, 61, 98, 83, 98], [83], [98, 83, 98]), ([83, 61, 97], [83], [97]), ([83, 61, 98], [83], [98]), ([83, 61], [83], [])],
  [([83, 61, 97, 83], [83], [97, 83]), ([83, 61, 97, 83, 98, 83], [83], [97, 83, 98, 83]), ([83, 61, 99], [83], [99])],
  [([83, 61, 65, 83], [83], [65, 83]), ([83, 61, 65], [83], [65]), ([65, 61, 97], [65], [97]), ([65, 61, 98], [65], [98])],
  [([83, 61, 65, 66], [83], [65, 66]), ([65, 61], [65], []), ([65, 61, 97], [65], [97]), ([66, 61, 65], [66], [65]), ([66, 61, 98], [66], [98])],
  [([83, 61, 65], [83], [65]), ([83, 61, 97], [83], [97]), ([65, 61, 83], [65], [83]), ([65, 61, 98], [65], [98])],
  [([83, 61, 97, 83, 98], [83], [97, 83, 98]), ([83, 61, 97, 98], [83], [97, 98])],
  [([83, 61, 83, 83], [83], [83, 83]), ([83, 61, 97], [83], [97])],
  [([83, 61, 97, 65, 97], [83], [97, 65, 97]), ([83, 61, 98, 65, 98], [83], [98, 65, 98]), ([83, 61, 97, 66, 98], [83], [97, 66, 98]), ([83, 61, 98, 66, 97], [83], [98, 66, 97]), ([65, 61, 99], [65], [99]), ([66, 61, 99], [66], [99])],
  [([83, 61, 97], [83], [97]), ([83, 61, 65], [83], [65]), ([65, 61, 97, 65], [65], [97, 65])],
  [([83, 61, 97, 98], [83], [97, 98]), ([65, 61, 98, 83], [65], [98, 83])],
  [([83, 61, 65, 83, 98], [83], [65, 83, 98]), ([83, 61, 97], [83], [97]), ([65, 61], [65], []), ([65, 61, 99], [65], [99])],
  [([83, 61, 97, 83, 83], [83], [97, 83, 83]), ([83, 61, 98], [83], [98])],
  [([83, 61, 65], [83], [65]), ([65, 61, 66], [65], [66]), ([66, 61, 83], [66], [83]), ([66, 61, 99], [66], [99])],
  [([83, 61, 83, 65, 83], [83], [83, 65, 83]), ([83, 61, 97], [83], [97]), ([65, 61, 98], [65], [98]), ([65, 61, 99], [65], [99])]]
def ruleW (t : List Nat × List Nat × List Nat) : R := (t.2.1, t.2.2.map fun c => [c])
def okSplit (s sep : List Nat) (xs : List (List Nat)) : Bool := decide (s.length + 2 ≤ lim) && decide (sep.length ≠ 0) && (Txt.split ⟨s.toArray⟩ ⟨sep.toArray⟩).all (fun x => okS x.cps.toList) && decide ((Txt.split ⟨s.toArray⟩ ⟨sep.toArray⟩).map (fun x => x.cps.toList) = xs)
theorem split_ok {s sep : List Nat} {xs : List (List Nat)} (h : okSplit s sep xs = true) : pSplit [.str s, .str sep] = some (.lst true (xs.map .str)) := by
  unfold okSplit at h
  simp only [Bool.and_eq_true, decide_eq_true_eq] at h
  obtain ⟨⟨⟨h1, h2⟩, h3⟩, h4⟩ := h
  show (if _ then _ else _) = _
  rw [if_pos ⟨h1, h2, h3⟩, h4]
theorem known_ix (i : Nat) (h : i < 16) : ixAt (knownT.map D.str) (i : Int) = some (.str (knownT.getD i [])) ∧ pSplit [.str (knownT.getD i []), .str [32]] = some (.lst true (((knownP.getD i []).map (·.1)).map .str)) := by
  have h2 : ∀ i < 16, okSplit (knownT.getD i []) [32] ((knownP.getD i []).map (·.1)) = true := by decide +kernel
  refine ⟨?_, split_ok (h2 i h)⟩
  match i, h with
  | 0, _ => exact rfl
  | 1, _ => exact rfl
  | 2, _ => exact rfl
  | 3, _ => exact rfl
  | 4, _ => exact rfl
  | 5, _ => exact rfl
  | 6, _ => exact rfl
  | 7, _ => exact rfl
  | 8, _ => exact rfl
  | 9, _ => exact rfl
  | 10, _ => exact rfl
  | 11, _ => exact rfl
  | 12, _ => exact rfl
  | 13, _ => exact rfl
  | 14, _ => exact rfl
  | 15, _ => exact rfl
  | i + 16, h => omega
theorem known_words (i : Nat) (h : i < 16) : (∀ t ∈ knownP.getD i [], okSplit t.1 [61] [t.2.1, t.2.2] = true) ∧ (knownP.getD i []).map ruleW = knownL.getD i [] ∧ (knownP.getD i []).length ≤ 6 ∧ ∀ t ∈ knownP.getD i [], t.2.2.length ≤ 100 := by
  revert i
  decide +kernel
theorem known_go (C : Cl) (z : Int) (i : Nat) (h : i < 16) : ∃ a b c, forGo ((turn (C) N true [3] [(.unp [4, 5] (.pure (.p .split [.p .asStr [(.v 3)], (.c (.str [61]))]))), (.mut 2 .append [(.pure (.p .tup [(.v 4), (.p .tuple [(.p .list [(.v 5)])])]))])]) (ioL none)) (((knownP.getD i []).map (·.1)).map .str) [some (.int z), some (.lst true (knownT.map .str)), some (.lst true []), none, none, none] = .nx [some (.int z), some (.lst true (knownT.map .str)), some (.lst true ((knownL.getD i []).map encR)), a, b, c] := by
  obtain ⟨w1, w2, w3, w4⟩ := known_words i h
  obtain ⟨Γ1, h1, h2⟩ := for_rel (f := (turn (C) N true [3] [(.unp [4, 5] (.pure (.p .split [.p .asStr [(.v 3)], (.c (.str [61]))]))), (.mut 2 .append [(.pure (.p .tup [(.v 4), (.p .tuple [(.p .list [(.v 5)])])]))])]) (ioL none)) (enc := fun t : List Nat × List Nat × List Nat => D.str t.1) (step := fun (s : List R) t => s ++ [ruleW t])
    (Rel := fun k s Γ => s.length + k ≤ 6 ∧ ∃ a b c, Γ = [some (.int z), some (.lst true (knownT.map .str)), some (.lst true (s.map encR)), a, b, c]) (xs := knownP.getD i []) (s := []) (Γ := [some (.int z), some (.lst true (knownT.map .str)), some (.lst true []), none, none, none])
    (fun k s Γ t ht hR => by
      obtain ⟨hk, a, b, c, rfl⟩ := hR
      have hs := split_ok (w1 t ht)
      have hl := w4 t ht
      have hl' : t.2.2.length ≤ 16777216 := by omega
      have hl2 : s.length < 16777216 := by omega
      have e : D.tup [D.str t.2.1, D.tup (t.2.2.map fun c => D.str [c])] = encR (ruleW t) := by
        simp [encR, ruleW]
      refine ⟨[some (.int z), some (.lst true (knownT.map .str)), some (.lst true ((s ++ [ruleW t]).map encR)), some (.str t.1), some (.str t.2.1), some (.str t.2.2)], ?_, ?_, _, _, _, rfl⟩
      · simp only [turn]
        have hp : hasFs (t.2.2.map fun c => D.str [c]) = false := hasFs_none _ (fun _ => rfl) _
        simp [bok, bex, bbd, ofs, ofn, ook, obd, nok, nbd, fzt, fzl, exec, evX, evX_op, evX_call, evXs, ev_c, ev_v, ev_p, ev_call, ev_and, ev_or, ev_not, ev_ite, ev_chain, evL, get1, fz, fzs, prim, pLen, pEq, pCmp, pIn, pIx, pAdd, pSub, pMul, pFdiv, pMod, pPow, pTup, pLst, pTuple, pList, pAll, pInt, pStr, pIsBool, isBl, pCut, asB, truth, hasF, hasFs, plain, runF, eqOk_int, eqOk_str, eqOk_bl, deq_int, deq_str, deq_bl, List.getElem?_cons, List.length_cons, List.length_nil, List.map_cons, List.map_nil, List.cons_append, List.nil_append, List.set_cons_zero, List.set_cons_succ, scal, o_is_letter, x_is_letter, o_is_name, x_is_name, o_is_rule, x_is_rule, o_is_grammar, x_is_grammar, o__law_cell_at, x__law_cell_at, o__law_next, x__law_next, o__law_rule_by, x__law_rule_by, o__law_known, x__law_known, o__law_closed, x__law_closed, o__law_grammar, x__law_grammar, o__law_is_name, x__law_is_name, o__law_good, x__law_good, o__law_odd, x__law_odd, o__law_spoilt, x__law_spoilt, o_law, x_law, execs, bindT, ioL, hs, setE, mutV, mAppend, isLst, lim, hl', hl2, e, hp, hasF_encR]
      · rw [List.length_append, List.length_singleton]; omega)
    ⟨by simpa using w3, none, none, none, rfl⟩
  obtain ⟨_, a, b, c, rfl⟩ := h2
  refine ⟨a, b, c, ?_⟩
  rw [List.map_map]
  refine h1.trans ?_
  have : ∀ (xs : List (List Nat × List Nat × List Nat)) (s : List R), xs.foldl (fun s t => s ++ [ruleW t]) s = s ++ xs.map ruleW := by
    intro xs
    induction xs with
    | nil => intro s; simp
    | cons x xs ih => intro s; rw [List.foldl_cons, ih]; simp
  rw [this, w2]; rfl
theorem r_known (z : Int) : (cl T N (n + 1)).run i__law_known [.int z] = .ok (.lst true ((knownM z).map encR), none) := by
  rw [run_go (id := i__law_known) (Γ0 := [some (.int z), none, none, none, none, none]) rfl rfl rfl]
  obtain ⟨i, hi, hz⟩ : ∃ i : Nat, i < 16 ∧ z % 16 = (i : Int) := ⟨(z % 16).toNat, by omega, by omega⟩
  rw [st_nx (Γ' := [some (.int z), some (.lst true ((knownT.take 4).map .str)), none, none, none, none]) (by simp [bok, bex, bbd, ofs, ofn, ook, obd, nok, nbd, fzt, fzl, exec, evX, evX_op, evX_call, evXs, ev_c, ev_v, ev_p, ev_call, ev_and, ev_or, ev_not, ev_ite, ev_chain, evL, get1, fz, fzs, prim, pLen, pEq, pCmp, pIn, pIx, pAdd, pSub, pMul, pFdiv, pMod, pPow, pTup, pLst, pTuple, pList, pAll, pInt, pStr, pIsBool, isBl, pCut, asB, truth, hasF, hasFs, plain, runF, eqOk_int, eqOk_str, eqOk_bl, deq_int, deq_str, deq_bl, List.getElem?_cons, List.length_cons, List.length_nil, List.map_cons, List.map_nil, List.cons_append, List.nil_append, List.set_cons_zero, List.set_cons_succ, scal, o_is_letter, x_is_letter, o_is_name, x_is_name, o_is_rule, x_is_rule, o_is_grammar, x_is_grammar, o__law_cell_at, x__law_cell_at, o__law_next, x__law_next, o__law_rule_by, x__law_rule_by, o__law_known, x__law_known, o__law_closed, x__law_closed, o__law_grammar, x__law_grammar, o__law_is_name, x__law_is_name, o__law_good, x__law_good, o__law_odd, x__law_odd, o__law_spoilt, x__law_spoilt, o_law, x_law, ioL, lim, knownT])]
  rw [st_nx (Γ' := [some (.int z), some (.lst true ((knownT.take 8).map .str)), none, none, none, none]) (by simp [bok, bex, bbd, ofs, ofn, ook, obd, nok, nbd, fzt, fzl, exec, evX, evX_op, evX_call, evXs, ev_c, ev_v, ev_p, ev_call, ev_and, ev_or, ev_not, ev_ite, ev_chain, evL, get1, fz, fzs, prim, pLen, pEq, pCmp, pIn, pIx, pAdd, pSub, pMul, pFdiv, pMod, pPow, pTup, pLst, pTuple, pList, pAll, pInt, pStr, pIsBool, isBl, pCut, asB, truth, hasF, hasFs, plain, runF, eqOk_int, eqOk_str, eqOk_bl, deq_int, deq_str, deq_bl, List.getElem?_cons, List.length_cons, List.length_nil, List.map_cons, List.map_nil, List.cons_append, List.nil_append, List.set_cons_zero, List.set_cons_succ, scal, o_is_letter, x_is_letter, o_is_name, x_is_name, o_is_rule, x_is_rule, o_is_grammar, x_is_grammar, o__law_cell_at, x__law_cell_at, o__law_next, x__law_next, o__law_rule_by, x__law_rule_by, o__law_known, x__law_known, o__law_closed, x__law_closed, o__law_grammar, x__law_grammar, o__law_is_name, x__law_is_name, o__law_good, x__law_good, o__law_odd, x__law_odd, o__law_spoilt, x__law_spoilt, o_law, x_law, ioL, lim, knownT])]
  rw [st_nx (Γ' := [some (.int z), some (.lst true ((knownT.take 12).map .str)), none, none, none, none]) (by simp [bok, bex, bbd, ofs, ofn, ook, obd, nok, nbd, fzt, fzl, exec, evX, evX_op, evX_call, evXs, ev_c, ev_v, ev_p, ev_call, ev_and, ev_or, ev_not, ev_ite, ev_chain, evL, get1, fz, fzs, prim, pLen, pEq, pCmp, pIn, pIx, pAdd, pSub, pMul, pFdiv, pMod, pPow, pTup, pLst, pTuple, pList, pAll, pInt, pStr, pIsBool, isBl, pCut, asB, truth, hasF, hasFs, plain, runF, eqOk_int, eqOk_str, eqOk_bl, deq_int, deq_str, deq_bl, List.getElem?_cons, List.length_cons, List.length_nil, List.map_cons, List.map_nil, List.cons_append, List.nil_append, List.set_cons_zero, List.set_cons_succ, scal, o_is_letter, x_is_letter, o_is_name, x_is_name, o_is_rule, x_is_rule, o_is_grammar, x_is_grammar, o__law_cell_at, x__law_cell_at, o__law_next, x__law_next, o__law_rule_by, x__law_rule_by, o__law_known, x__law_known, o__law_closed, x__law_closed, o__law_grammar, x__law_grammar, o__law_is_name, x__law_is_name, o__law_good, x__law_good, o__law_odd, x__law_odd, o__law_spoilt, x__law_spoilt, o_law, x_law, ioL, lim, knownT])]
  rw [st_nx (Γ' := [some (.int z), some (.lst true (knownT.map .str)), none, none, none, none]) (by simp [bok, bex, bbd, ofs, ofn, ook, obd, nok, nbd, fzt, fzl, exec, evX, evX_op, evX_call, evXs, ev_c, ev_v, ev_p, ev_call, ev_and, ev_or, ev_not, ev_ite, ev_chain, evL, get1, fz, fzs, prim, pLen, pEq, pCmp, pIn, pIx, pAdd, pSub, pMul, pFdiv, pMod, pPow, pTup, pLst, pTuple, pList, pAll, pInt, pStr, pIsBool, isBl, pCut, asB, truth, hasF, hasFs, plain, runF, eqOk_int, eqOk_str, eqOk_bl, deq_int, deq_str, deq_bl, List.getElem?_cons, List.length_cons, List.length_nil, List.map_cons, List.map_nil, List.cons_append, List.nil_append, List.set_cons_zero, List.set_cons_succ, scal, o_is_letter, x_is_letter, o_is_name, x_is_name, o_is_rule, x_is_rule, o_is_grammar, x_is_grammar, o__law_cell_at, x__law_cell_at, o__law_next, x__law_next, o__law_rule_by, x__law_rule_by, o__law_known, x__law_known, o__law_closed, x__law_closed, o__law_grammar, x__law_grammar, o__law_is_name, x__law_is_name, o__law_good, x__law_good, o__law_odd, x__law_odd, o__law_spoilt, x__law_spoilt, o_law, x_law, ioL, lim, knownT])]
  rw [st_nx (Γ' := [some (.int z), some (.lst true (knownT.map .str)), some (.lst true []), none, none, none]) (by simp [bok, bex, bbd, ofs, ofn, ook, obd, nok, nbd, fzt, fzl, exec, evX, evX_op, evX_call, evXs, ev_c, ev_v, ev_p, ev_call, ev_and, ev_or, ev_not, ev_ite, ev_chain, evL, get1, fz, fzs, prim, pLen, pEq, pCmp, pIn, pIx, pAdd, pSub, pMul, pFdiv, pMod, pPow, pTup, pLst, pTuple, pList, pAll, pInt, pStr, pIsBool, isBl, pCut, asB, truth, hasF, hasFs, plain, runF, eqOk_int, eqOk_str, eqOk_bl, deq_int, deq_str, deq_bl, List.getElem?_cons, List.length_cons, List.length_nil, List.map_cons, List.map_nil, List.cons_append, List.nil_append, List.set_cons_zero, List.set_cons_succ, scal, o_is_letter, x_is_letter, o_is_name, x_is_name, o_is_rule, x_is_rule, o_is_grammar, x_is_grammar, o__law_cell_at, x__law_cell_at, o__law_next, x__law_next, o__law_rule_by, x__law_rule_by, o__law_known, x__law_known, o__law_closed, x__law_closed, o__law_grammar, x__law_grammar, o__law_is_name, x__law_is_name, o__law_good, x__law_good, o__law_odd, x__law_odd, o__law_spoilt, x__law_spoilt, o_law, x_law, ioL, lim])]
  obtain ⟨k1, k2⟩ := known_ix i hi
  have hit : ev (cl T N n) [some (.int z), some (.lst true (knownT.map .str)), some (.lst true []), none, none, none] (.p .split [.p .asStr [(.p .ix [(.v 1), (.p .mod [(.v 0), (.c (.int 16))])])], (.c (.str [32]))]) = .ok (.lst true (((knownP.getD i []).map (·.1)).map .str)) := by
    have e1 : ev (cl T N n) [some (.int z), some (.lst true (knownT.map .str)), some (.lst true []), none, none, none] (.p .ix [(.v 1), (.p .mod [(.v 0), (.c (.int 16))])]) = .ok (.str (knownT.getD i [])) := by
      simp [bok, bex, bbd, ofs, ofn, ook, obd, nok, nbd, fzt, fzl, exec, evX, evX_op, evX_call, evXs, ev_c, ev_v, ev_p, ev_call, ev_and, ev_or, ev_not, ev_ite, ev_chain, evL, get1, fz, fzs, prim, pLen, pEq, pCmp, pIn, pIx, pAdd, pSub, pMul, pFdiv, pMod, pPow, pTup, pLst, pTuple, pList, pAll, pInt, pStr, pIsBool, isBl, pCut, asB, truth, hasF, hasFs, plain, runF, eqOk_int, eqOk_str, eqOk_bl, deq_int, deq_str, deq_bl, List.getElem?_cons, List.length_cons, List.length_nil, List.map_cons, List.map_nil, List.cons_append, List.nil_append, List.set_cons_zero, List.set_cons_succ, scal, o_is_letter, x_is_letter, o_is_name, x_is_name, o_is_rule, x_is_rule, o_is_grammar, x_is_grammar, o__law_cell_at, x__law_cell_at, o__law_next, x__law_next, o__law_rule_by, x__law_rule_by, o__law_known, x__law_known, o__law_closed, x__law_closed, o__law_grammar, x__law_grammar, o__law_is_name, x__law_is_name, o__law_good, x__law_good, o__law_odd, x__law_odd, o__law_spoilt, x__law_spoilt, o_law, x_law, fzs_str, hz, k1]
    show (((((ev _ _ _).bind fun d => (Rs.ok []).bind fun ds => Rs.ok (d :: ds)).bind fun ds => Rs.of (pStr ds)).bind fun d => (Rs.ok [.str [32]]).bind fun ds => Rs.ok (d :: ds)).bind fun ds => Rs.of (pSplit ds)) = _
    rw [e1]
    show Rs.of (pSplit [.str (knownT.getD i []), .str [32]]) = _
    rw [k2]; rfl
  obtain ⟨a, b, c, hg⟩ := known_go (cl T N n) z i hi
  rw [st_nx (Γ' := [some (.int z), some (.lst true (knownT.map .str)), some (.lst true ((knownL.getD i []).map encR)), a, b, c]) (by
    rw [fr_go hit rfl rfl (by show (false || hasFs _) = false; rw [hasFs_str]; rfl)]
    exact hg)]
  have hk : knownM z = knownL.getD i [] := by
    unfold knownM pick ixAt
    rw [hz, if_pos (by omega), Int.toNat_natCast, List.getD_eq_getElem?_getD]
  rw [hk]
  simp [bok, bex, bbd, ofs, ofn, ook, obd, nok, nbd, fzt, fzl, exec, evX, evX_op, evX_call, evXs, ev_c, ev_v, ev_p, ev_call, ev_and, ev_or, ev_not, ev_ite, ev_chain, evL, get1, fz, fzs, prim, pLen, pEq, pCmp, pIn, pIx, pAdd, pSub, pMul, pFdiv, pMod, pPow, pTup, pLst, pTuple, pList, pAll, pInt, pStr, pIsBool, isBl, pCut, asB, truth, hasF, hasFs, plain, runF, eqOk_int, eqOk_str, eqOk_bl, deq_int, deq_str, deq_bl, List.getElem?_cons, List.length_cons, List.length_nil, List.map_cons, List.map_nil, List.cons_append, List.nil_append, List.set_cons_zero, List.set_cons_succ, scal, o_is_letter, x_is_letter, o_is_name, x_is_name, o_is_rule, x_is_rule, o_is_grammar, x_is_grammar, o__law_cell_at, x__law_cell_at, o__law_next, x__law_next, o__law_rule_by, x__law_rule_by, o__law_known, x__law_known, o__law_closed, x__law_closed, o__law_grammar, x__law_grammar, o__law_is_name, x__law_is_name, o__law_good, x__law_good, o__law_odd, x__law_odd, o__law_spoilt, x__law_spoilt, o_law, x_law, ioL, outR, execs]
/-! ### closed -/
def dedup (f : List R) (r : R) : List R := if f.contains r then f else f ++ [r]
/-- a rule more for a name that is used and has none -/
def shutM (g : List R) (q : List Nat × List Nat) : List R := if (g.any fun r => r.2.contains q.1) && !(g.any fun r => r.1 == q.1) then g ++ [(q.1, [q.2])] else g
def closedM (g : List R) : List R := [([83], [99]), ([65], [97]), ([66], [98])].foldl shutM (g.foldl dedup [])
theorem dedup_len : ∀ (g f : List R), (g.foldl dedup f).length ≤ f.length + g.length
  | [], f => Nat.le_refl _
  | r :: g, f => by
    refine Nat.le_trans (dedup_len g (dedup f r)) ?_
    unfold dedup
    split
    · simp only [List.length_cons]; omega
    · rw [List.length_append, List.length_cons, List.length_cons, List.length_nil]; omega
def lastOf (q : List Nat × List Nat) : Prop := (q = ([83], [99]) ∨ q = ([65], [97]) ∨ q = ([66], [98]))
theorem r_closed (g : List R) (hs : ∀ r ∈ g, SzR r) (hl : g.length ≤ 900) : (cl T N (n + 1)).run i__law_closed [.lst false (g.map encR)] = .ok (.lst true ((closedM g).map encR), none) := by
  rw [run_go (id := i__law_closed) (Γ0 := [some (.lst false (g.map encR)), none, none, none, none, none]) rfl rfl rfl]
  rw [st_nx (Γ' := [some (.lst false (g.map encR)), some (.lst true []), none, none, none, none]) (by simp [bok, bex, bbd, ofs, ofn, ook, obd, nok, nbd, fzt, fzl, exec, evX, evX_op, evX_call, evXs, ev_c, ev_v, ev_p, ev_call, ev_and, ev_or, ev_not, ev_ite, ev_chain, evL, get1, fz, fzs, prim, pLen, pEq, pCmp, pIn, pIx, pAdd, pSub, pMul, pFdiv, pMod, pPow, pTup, pLst, pTuple, pList, pAll, pInt, pStr, pIsBool, isBl, pCut, asB, truth, hasF, hasFs, plain, runF, eqOk_int, eqOk_str, eqOk_bl, deq_int, deq_str, deq_bl, List.getElem?_cons, List.length_cons, List.length_nil, List.map_cons, List.map_nil, List.cons_append, List.nil_append, List.set_cons_zero, List.set_cons_succ, scal, o_is_letter, x_is_letter, o_is_name, x_is_name, o_is_rule, x_is_rule, o_is_grammar, x_is_grammar, o__law_cell_at, x__law_cell_at, o__law_next, x__law_next, o__law_rule_by, x__law_rule_by, o__law_known, x__law_known, o__law_closed, x__law_closed, o__law_grammar, x__law_grammar, o__law_is_name, x__law_is_name, o__law_good, x__law_good, o__law_odd, x__law_odd, o__law_spoilt, x__law_spoilt, o_law, x_law, ioL, lim])]
  -- the rules without those told again
  obtain ⟨Γ1, h1, h2⟩ := for_rel (f := (turn (cl T N n) N true [2] [(.ite (.p .notIn [(.v 2), (.v 1)]) [(.mut 1 .append [(.pure (.v 2))])] [])]) [0]) (enc := encR) (step := dedup)
    (Rel := fun k s Γ => s.length + k ≤ 900 ∧ ∃ x, Γ = [none, some (.lst true (s.map encR)), x, none, none, none]) (xs := g) (s := []) (Γ := [none, some (.lst true []), none, none, none, none])
    (fun k s Γ r hr hR => by
      obtain ⟨hk, x, rfl⟩ := hR
      refine ⟨[none, some (.lst true ((dedup s r).map encR)), some (encR r), none, none, none], ?_, ?_, _, rfl⟩
      · have he := eqOk_encR 64 (by decide) r
        have he2 := eqOk_encRs 64 (by decide) true s
        have ha := any_encR r s
        have hl' : s.length < 16777216 := by omega
        unfold dedup
        by_cases hc : s.contains r = true
        · rw [hc] at ha
          simp only [turn, bindT, fz_encR]
          simp [bok, bex, bbd, ofs, ofn, ook, obd, nok, nbd, fzt, fzl, exec, evX, evX_op, evX_call, evXs, ev_c, ev_v, ev_p, ev_call, ev_and, ev_or, ev_not, ev_ite, ev_chain, evL, get1, fz, fzs, prim, pLen, pEq, pCmp, pIn, pIx, pAdd, pSub, pMul, pFdiv, pMod, pPow, pTup, pLst, pTuple, pList, pAll, pInt, pStr, pIsBool, isBl, pCut, asB, truth, hasF, hasFs, plain, runF, eqOk_int, eqOk_str, eqOk_bl, deq_int, deq_str, deq_bl, List.getElem?_cons, List.length_cons, List.length_nil, List.map_cons, List.map_nil, List.cons_append, List.nil_append, List.set_cons_zero, List.set_cons_succ, scal, o_is_letter, x_is_letter, o_is_name, x_is_name, o_is_rule, x_is_rule, o_is_grammar, x_is_grammar, o__law_cell_at, x__law_cell_at, o__law_next, x__law_next, o__law_rule_by, x__law_rule_by, o__law_known, x__law_known, o__law_closed, x__law_closed, o__law_grammar, x__law_grammar, o__law_is_name, x__law_is_name, o__law_good, x__law_good, o__law_odd, x__law_odd, o__law_spoilt, x__law_spoilt, o_law, x_law, execs, fz_encR, fzs_encR, he, he2, ha, hc]
          simp at hc
          simp [hc]
        · have hc' : s.contains r = false := by simpa using hc
          rw [hc'] at ha
          simp only [turn, bindT, fz_encR]
          simp [bok, bex, bbd, ofs, ofn, ook, obd, nok, nbd, fzt, fzl, exec, evX, evX_op, evX_call, evXs, ev_c, ev_v, ev_p, ev_call, ev_and, ev_or, ev_not, ev_ite, ev_chain, evL, get1, fz, fzs, prim, pLen, pEq, pCmp, pIn, pIx, pAdd, pSub, pMul, pFdiv, pMod, pPow, pTup, pLst, pTuple, pList, pAll, pInt, pStr, pIsBool, isBl, pCut, asB, truth, hasF, hasFs, plain, runF, eqOk_int, eqOk_str, eqOk_bl, deq_int, deq_str, deq_bl, List.getElem?_cons, List.length_cons, List.length_nil, List.map_cons, List.map_nil, List.cons_append, List.nil_append, List.set_cons_zero, List.set_cons_succ, scal, o_is_letter, x_is_letter, o_is_name, x_is_name, o_is_rule, x_is_rule, o_is_grammar, x_is_grammar, o__law_cell_at, x__law_cell_at, o__law_next, x__law_next, o__law_rule_by, x__law_rule_by, o__law_known, x__law_known, o__law_closed, x__law_closed, o__law_grammar, x__law_grammar, o__law_is_name, x__law_is_name, o__law_good, x__law_good, o__law_odd, x__law_odd, o__law_spoilt, x__law_spoilt, o_law, x_law, execs, fz_encR, fzs_encR, he, he2, ha, hasF_encR, mutV, mAppend, isLst, lim, hl']
          simp at hc
          simp [hc]
      · unfold dedup
        split
        · omega
        · rw [List.length_append, List.length_singleton]; omega)
    ⟨by simpa using hl, none, rfl⟩
  obtain ⟨_, x, rfl⟩ := h2
  rw [st_nx (Γ' := [some (.lst false (g.map encR)), some (.lst true ((g.foldl dedup []).map encR)), x, none, none, none]) (by
    rw [fr_goH (ro := ioL none) (d := .lst false (g.map encR)) (xs := g.map encR) (dv := .lst false (g.map encR)) (by simp [bok, bex, bbd, ofs, ofn, ook, obd, nok, nbd, fzt, fzl, exec, evX, evX_op, evX_call, evXs, ev_c, ev_v, ev_p, ev_call, ev_and, ev_or, ev_not, ev_ite, ev_chain, evL, get1, fz, fzs, prim, pLen, pEq, pCmp, pIn, pIx, pAdd, pSub, pMul, pFdiv, pMod, pPow, pTup, pLst, pTuple, pList, pAll, pInt, pStr, pIsBool, isBl, pCut, asB, truth, hasF, hasFs, plain, runF, eqOk_int, eqOk_str, eqOk_bl, deq_int, deq_str, deq_bl, List.getElem?_cons, List.length_cons, List.length_nil, List.map_cons, List.map_nil, List.cons_append, List.nil_append, List.set_cons_zero, List.set_cons_succ, scal, o_is_letter, x_is_letter, o_is_name, x_is_name, o_is_rule, x_is_rule, o_is_grammar, x_is_grammar, o__law_cell_at, x__law_cell_at, o__law_next, x__law_next, o__law_rule_by, x__law_rule_by, o__law_known, x__law_known, o__law_closed, x__law_closed, o__law_grammar, x__law_grammar, o__law_is_name, x__law_is_name, o__law_good, x__law_good, o__law_odd, x__law_odd, o__law_spoilt, x__law_spoilt, o_law, x_law, fzs_encR]) rfl rfl rfl (flats_encR g) rfl rfl]
    show unhide _ _ (forGo ((turn (cl T N n) N true [2] [(.ite (.p .notIn [(.v 2), (.v 1)]) [(.mut 1 .append [(.pure (.v 2))])] [])]) [0]) (g.map encR) [none, some (.lst true []), none, none, none, none]) = _
    rw [h1]; rfl)]
  -- the names that lack one
  have hsz : ∀ r ∈ g.foldl dedup [], SzR r := by
    have : ∀ (g f : List R), (∀ r ∈ g, SzR r) → (∀ r ∈ f, SzR r) → ∀ r ∈ g.foldl dedup f, SzR r := by
      intro g
      induction g with
      | nil => intro f _ hf; exact hf
      | cons q g ih =>
        intro f hg hf
        refine ih (dedup f q) (fun r hr => hg r (List.mem_cons_of_mem _ hr)) fun r hr => ?_
        unfold dedup at hr
        split at hr
        · exact hf r hr
        · rcases List.mem_append.mp hr with z | z
          · exact hf r z
          · rw [List.mem_singleton] at z; rw [z]; exact hg q List.mem_cons_self
    exact this g [] hs (fun r hr => by cases hr)
  have hln : (g.foldl dedup []).length ≤ 900 := Nat.le_trans (dedup_len g []) (by simpa using hl)
  obtain ⟨Γ2, h3, h4⟩ := for_rel (f := (turn (cl T N n) N true [3] [(.asg 4 (.pure (.lc (.v 2) true [2] [2] (.v 1) (.p .eq [(.p .ix [(.v 2), (.c (.int 0))]), (.v 3)])))), (.asg 5 (.pure (.lc (.v 2) true [2] [2] (.v 1) (.p .isIn [(.v 3), (.p .ix [(.v 2), (.c (.int 1))])])))), (.ite (.and (.p .gt [(.p .len [(.v 5)]), (.c (.int 0))]) (.p .eq [(.p .len [(.v 4)]), (.c (.int 0))])) [(.mut 1 .append [(.pure (.p .tup [(.v 3), (.p .tup [(.p .ix [(.p .lst [(.c (.str [99])), (.c (.str [97])), (.c (.str [98]))]), (.p .index [.p .asStr [(.c (.str [83, 65, 66]))], (.v 3)])])])]))])] [])]) (ioL none)) (enc := fun q : List Nat × List Nat => D.str q.1) (step := shutM)
    (Rel := fun k s Γ => (s.length + k ≤ 903 ∧ ∀ r ∈ s, SzR r) ∧ ∃ x y u v, Γ = [some (.lst false (g.map encR)), some (.lst true (s.map encR)), x, y, u, v]) (xs := [([83], [99]), ([65], [97]), ([66], [98])]) (s := g.foldl dedup []) (Γ := [some (.lst false (g.map encR)), some (.lst true ((g.foldl dedup []).map encR)), x, none, none, none])
    (fun k s Γ q hq hR => by
      obtain ⟨⟨hk, hz⟩, x, y, u, v, rfl⟩ := hR
      have hlm : s.length ≤ lim := Nat.le_trans (show s.length ≤ 903 by omega) (by decide)
      have e1 : ∀ u v, ev (cl T N n) [some (.lst false (g.map encR)), some (.lst true (s.map encR)), x, some (.str q.1), u, v] (.lc (.v 2) true [2] [2] (.v 1) (.p .eq [(.p .ix [(.v 2), (.c (.int 0))]), (.v 3)])) = .ok (.lst true ((s.filter fun r => r.1 == q.1).map encR)) := fun u v => by
        refine ev_lce encR encR (fun r => r.1 == q.1) (d := .lst false (s.map encR)) (by simp [bok, bex, bbd, ofs, ofn, ook, obd, nok, nbd, fzt, fzl, exec, evX, evX_op, evX_call, evXs, ev_c, ev_v, ev_p, ev_call, ev_and, ev_or, ev_not, ev_ite, ev_chain, evL, get1, fz, fzs, prim, pLen, pEq, pCmp, pIn, pIx, pAdd, pSub, pMul, pFdiv, pMod, pPow, pTup, pLst, pTuple, pList, pAll, pInt, pStr, pIsBool, isBl, pCut, asB, truth, hasF, hasFs, plain, runF, eqOk_int, eqOk_str, eqOk_bl, deq_int, deq_str, deq_bl, List.getElem?_cons, List.length_cons, List.length_nil, List.map_cons, List.map_nil, List.cons_append, List.nil_append, List.set_cons_zero, List.set_cons_succ, scal, o_is_letter, x_is_letter, o_is_name, x_is_name, o_is_rule, x_is_rule, o_is_grammar, x_is_grammar, o__law_cell_at, x__law_cell_at, o__law_next, x__law_next, o__law_rule_by, x__law_rule_by, o__law_known, x__law_known, o__law_closed, x__law_closed, o__law_grammar, x__law_grammar, o__law_is_name, x__law_is_name, o__law_good, x__law_good, o__law_odd, x__law_odd, o__law_spoilt, x__law_spoilt, o_law, x_law, fzs_encR]) rfl hlm (fun r hr => ?_)
        simp only [lcB, bindT, wipeE, fz_encR]
        simp only [encR]
        cases e : (r.1 == q.1) <;> simp [bok, bex, bbd, ofs, ofn, ook, obd, nok, nbd, fzt, fzl, exec, evX, evX_op, evX_call, evXs, ev_c, ev_v, ev_p, ev_call, ev_and, ev_or, ev_not, ev_ite, ev_chain, evL, get1, fz, fzs, prim, pLen, pEq, pCmp, pIn, pIx, pAdd, pSub, pMul, pFdiv, pMod, pPow, pTup, pLst, pTuple, pList, pAll, pInt, pStr, pIsBool, isBl, pCut, asB, truth, hasF, hasFs, plain, runF, eqOk_int, eqOk_str, eqOk_bl, deq_int, deq_str, deq_bl, List.getElem?_cons, List.length_cons, List.length_nil, List.map_cons, List.map_nil, List.cons_append, List.nil_append, List.set_cons_zero, List.set_cons_succ, scal, o_is_letter, x_is_letter, o_is_name, x_is_name, o_is_rule, x_is_rule, o_is_grammar, x_is_grammar, o__law_cell_at, x__law_cell_at, o__law_next, x__law_next, o__law_rule_by, x__law_rule_by, o__law_known, x__law_known, o__law_closed, x__law_closed, o__law_grammar, x__law_grammar, o__law_is_name, x__law_is_name, o__law_good, x__law_good, o__law_odd, x__law_odd, o__law_spoilt, x__law_spoilt, o_law, x_law, ixAt0, fzs_str, e]
      have e2 : ∀ u v, ev (cl T N n) [some (.lst false (g.map encR)), some (.lst true (s.map encR)), x, some (.str q.1), u, v] (.lc (.v 2) true [2] [2] (.v 1) (.p .isIn [(.v 3), (.p .ix [(.v 2), (.c (.int 1))])])) = .ok (.lst true ((s.filter fun r => r.2.contains q.1).map encR)) := fun u v => by
        refine ev_lce encR encR (fun r => r.2.contains q.1) (d := .lst false (s.map encR)) (by simp [bok, bex, bbd, ofs, ofn, ook, obd, nok, nbd, fzt, fzl, exec, evX, evX_op, evX_call, evXs, ev_c, ev_v, ev_p, ev_call, ev_and, ev_or, ev_not, ev_ite, ev_chain, evL, get1, fz, fzs, prim, pLen, pEq, pCmp, pIn, pIx, pAdd, pSub, pMul, pFdiv, pMod, pPow, pTup, pLst, pTuple, pList, pAll, pInt, pStr, pIsBool, isBl, pCut, asB, truth, hasF, hasFs, plain, runF, eqOk_int, eqOk_str, eqOk_bl, deq_int, deq_str, deq_bl, List.getElem?_cons, List.length_cons, List.length_nil, List.map_cons, List.map_nil, List.cons_append, List.nil_append, List.set_cons_zero, List.set_cons_succ, scal, o_is_letter, x_is_letter, o_is_name, x_is_name, o_is_rule, x_is_rule, o_is_grammar, x_is_grammar, o__law_cell_at, x__law_cell_at, o__law_next, x__law_next, o__law_rule_by, x__law_rule_by, o__law_known, x__law_known, o__law_closed, x__law_closed, o__law_grammar, x__law_grammar, o__law_is_name, x__law_is_name, o__law_good, x__law_good, o__law_odd, x__law_odd, o__law_spoilt, x__law_spoilt, o_law, x_law, fzs_encR]) rfl hlm (fun r hr => ?_)
        have ha := any_str q.1 r.2
        have hsc : (r.2.map D.str).all scal = true := by rw [List.all_map]; exact List.all_eq_true.mpr fun _ _ => rfl
        have hx := ix_encR1 r
        simp only [lcB, bindT, wipeE, fz_encR]
        simp only [encR]
        cases e : (r.2.contains q.1) <;> (rw [e] at ha; simp [bok, bex, bbd, ofs, ofn, ook, obd, nok, nbd, fzt, fzl, exec, evX, evX_op, evX_call, evXs, ev_c, ev_v, ev_p, ev_call, ev_and, ev_or, ev_not, ev_ite, ev_chain, evL, get1, fz, fzs, prim, pLen, pEq, pCmp, pIn, pIx, pAdd, pSub, pMul, pFdiv, pMod, pPow, pTup, pLst, pTuple, pList, pAll, pInt, pStr, pIsBool, isBl, pCut, asB, truth, hasF, hasFs, plain, runF, eqOk_int, eqOk_str, eqOk_bl, deq_int, deq_str, deq_bl, List.getElem?_cons, List.length_cons, List.length_nil, List.map_cons, List.map_nil, List.cons_append, List.nil_append, List.set_cons_zero, List.set_cons_succ, scal, o_is_letter, x_is_letter, o_is_name, x_is_name, o_is_rule, x_is_rule, o_is_grammar, x_is_grammar, o__law_cell_at, x__law_cell_at, o__law_next, x__law_next, o__law_rule_by, x__law_rule_by, o__law_known, x__law_known, o__law_closed, x__law_closed, o__law_grammar, x__law_grammar, o__law_is_name, x__law_is_name, o__law_good, x__law_good, o__law_odd, x__law_odd, o__law_spoilt, x__law_spoilt, o_law, x_law, ixAt0, fzs_str, hx, hsc, ha])
      refine ⟨[some (.lst false (g.map encR)), some (.lst true ((shutM s q).map encR)), x, some (.str q.1), some (.lst true ((s.filter fun r => r.1 == q.1).map encR)), some (.lst true ((s.filter fun r => r.2.contains q.1).map encR))], ?_, ?_, _, _, _, _, rfl⟩
      · show execs _ _ _ [some (.lst false (g.map encR)), some (.lst true (s.map encR)), x, some (.str q.1), u, v] _ = _
        rw [st_nx (Γ' := [some (.lst false (g.map encR)), some (.lst true (s.map encR)), x, some (.str q.1), some (.lst true ((s.filter fun r => r.1 == q.1).map encR)), v]) (by
          simp only [exec, evX, e1, bok]
          simp [bok, bex, bbd, ofs, ofn, ook, obd, nok, nbd, fzt, fzl, exec, evX, evX_op, evX_call, evXs, ev_c, ev_v, ev_p, ev_call, ev_and, ev_or, ev_not, ev_ite, ev_chain, evL, get1, fz, fzs, prim, pLen, pEq, pCmp, pIn, pIx, pAdd, pSub, pMul, pFdiv, pMod, pPow, pTup, pLst, pTuple, pList, pAll, pInt, pStr, pIsBool, isBl, pCut, asB, truth, hasF, hasFs, plain, runF, eqOk_int, eqOk_str, eqOk_bl, deq_int, deq_str, deq_bl, List.getElem?_cons, List.length_cons, List.length_nil, List.map_cons, List.map_nil, List.cons_append, List.nil_append, List.set_cons_zero, List.set_cons_succ, scal, o_is_letter, x_is_letter, o_is_name, x_is_name, o_is_rule, x_is_rule, o_is_grammar, x_is_grammar, o__law_cell_at, x__law_cell_at, o__law_next, x__law_next, o__law_rule_by, x__law_rule_by, o__law_known, x__law_known, o__law_closed, x__law_closed, o__law_grammar, x__law_grammar, o__law_is_name, x__law_is_name, o__law_good, x__law_good, o__law_odd, x__law_odd, o__law_spoilt, x__law_spoilt, o_law, x_law, hasFs_encR, ioL])]
        rw [st_nx (Γ' := [some (.lst false (g.map encR)), some (.lst true (s.map encR)), x, some (.str q.1), some (.lst true ((s.filter fun r => r.1 == q.1).map encR)), some (.lst true ((s.filter fun r => r.2.contains q.1).map encR))]) (by
          simp only [exec, evX, e2, bok]
          simp [bok, bex, bbd, ofs, ofn, ook, obd, nok, nbd, fzt, fzl, exec, evX, evX_op, evX_call, evXs, ev_c, ev_v, ev_p, ev_call, ev_and, ev_or, ev_not, ev_ite, ev_chain, evL, get1, fz, fzs, prim, pLen, pEq, pCmp, pIn, pIx, pAdd, pSub, pMul, pFdiv, pMod, pPow, pTup, pLst, pTuple, pList, pAll, pInt, pStr, pIsBool, isBl, pCut, asB, truth, hasF, hasFs, plain, runF, eqOk_int, eqOk_str, eqOk_bl, deq_int, deq_str, deq_bl, List.getElem?_cons, List.length_cons, List.length_nil, List.map_cons, List.map_nil, List.cons_append, List.nil_append, List.set_cons_zero, List.set_cons_succ, scal, o_is_letter, x_is_letter, o_is_name, x_is_name, o_is_rule, x_is_rule, o_is_grammar, x_is_grammar, o__law_cell_at, x__law_cell_at, o__law_next, x__law_next, o__law_rule_by, x__law_rule_by, o__law_known, x__law_known, o__law_closed, x__law_closed, o__law_grammar, x__law_grammar, o__law_is_name, x__law_is_name, o__law_good, x__law_good, o__law_odd, x__law_odd, o__law_spoilt, x__law_spoilt, o_law, x_law, hasFs_encR, ioL])]
        have hl' : s.length < 16777216 := by omega
        have ex : ∀ p : R → Bool, (s.any p = true ↔ 0 < (s.filter p).length) := fun p => by
          rw [List.any_eq_true, List.length_filter_pos_iff]
        have a1 := ex fun r => r.2.contains q.1
        have a2 := ex fun r => r.1 == q.1
        unfold shutM
        have hq' : q = ([83], [99]) ∨ q = ([65], [97]) ∨ q = ([66], [98]) := by simpa using hq
        cases c1 : s.any fun r => r.2.contains q.1 with
        | false =>
          have z1 : (s.filter fun r => r.2.contains q.1).length = 0 := by
            rw [c1] at a1; have := mt a1.mpr (by decide); omega
          clear e1 e2 a1 a2 ex c1
          generalize (s.filter fun r => r.2.contains q.1) = A at *
          generalize (s.filter fun r => r.1 == q.1) = B at *
          simp [bok, bex, bbd, ofs, ofn, ook, obd, nok, nbd, fzt, fzl, exec, evX, evX_op, evX_call, evXs, ev_c, ev_v, ev_p, ev_call, ev_and, ev_or, ev_not, ev_ite, ev_chain, evL, get1, fz, fzs, prim, pLen, pEq, pCmp, pIn, pIx, pAdd, pSub, pMul, pFdiv, pMod, pPow, pTup, pLst, pTuple, pList, pAll, pInt, pStr, pIsBool, isBl, pCut, asB, truth, hasF, hasFs, plain, runF, eqOk_int, eqOk_str, eqOk_bl, deq_int, deq_str, deq_bl, List.getElem?_cons, List.length_cons, List.length_nil, List.map_cons, List.map_nil, List.cons_append, List.nil_append, List.set_cons_zero, List.set_cons_succ, scal, o_is_letter, x_is_letter, o_is_name, x_is_name, o_is_rule, x_is_rule, o_is_grammar, x_is_grammar, o__law_cell_at, x__law_cell_at, o__law_next, x__law_next, o__law_rule_by, x__law_rule_by, o__law_known, x__law_known, o__law_closed, x__law_closed, o__law_grammar, x__law_grammar, o__law_is_name, x__law_is_name, o__law_good, x__law_good, o__law_odd, x__law_odd, o__law_spoilt, x__law_spoilt, o_law, x_law, execs, fzs_encR, z1]
        | true =>
          have z1 : 0 < (s.filter fun r => r.2.contains q.1).length := a1.mp c1
          cases c2 : s.any fun r => r.1 == q.1 with
          | true =>
            have z2 : ¬ (s.filter fun r => r.1 == q.1).length = 0 := by have := a2.mp c2; omega
            clear e1 e2 a1 a2 ex c1 c2
            generalize (s.filter fun r => r.2.contains q.1) = A at *
            generalize (s.filter fun r => r.1 == q.1) = B at *
            simp [bok, bex, bbd, ofs, ofn, ook, obd, nok, nbd, fzt, fzl, exec, evX, evX_op, evX_call, evXs, ev_c, ev_v, ev_p, ev_call, ev_and, ev_or, ev_not, ev_ite, ev_chain, evL, get1, fz, fzs, prim, pLen, pEq, pCmp, pIn, pIx, pAdd, pSub, pMul, pFdiv, pMod, pPow, pTup, pLst, pTuple, pList, pAll, pInt, pStr, pIsBool, isBl, pCut, asB, truth, hasF, hasFs, plain, runF, eqOk_int, eqOk_str, eqOk_bl, deq_int, deq_str, deq_bl, List.getElem?_cons, List.length_cons, List.length_nil, List.map_cons, List.map_nil, List.cons_append, List.nil_append, List.set_cons_zero, List.set_cons_succ, scal, o_is_letter, x_is_letter, o_is_name, x_is_name, o_is_rule, x_is_rule, o_is_grammar, x_is_grammar, o__law_cell_at, x__law_cell_at, o__law_next, x__law_next, o__law_rule_by, x__law_rule_by, o__law_known, x__law_known, o__law_closed, x__law_closed, o__law_grammar, x__law_grammar, o__law_is_name, x__law_is_name, o__law_good, x__law_good, o__law_odd, x__law_odd, o__law_spoilt, x__law_spoilt, o_law, x_law, execs, fzs_encR, z1, z2]
          | false =>
            have z2 : (s.filter fun r => r.1 == q.1).length = 0 := by
              rw [c2] at a2; have := mt a2.mpr (by decide); omega
            clear e1 e2 a1 a2 ex c1 c2
            generalize (s.filter fun r => r.2.contains q.1) = A at *
            generalize (s.filter fun r => r.1 == q.1) = B at *
            have o1 : pIndex [.str [83, 65, 66], .str [83]] = some (.int 0) := by with_unfolding_all rfl
            have o2 : pIndex [.str [83, 65, 66], .str [65]] = some (.int 1) := by with_unfolding_all rfl
            have o3 : pIndex [.str [83, 65, 66], .str [66]] = some (.int 2) := by with_unfolding_all rfl
            rcases hq' with rfl | rfl | rfl <;> simp [bok, bex, bbd, ofs, ofn, ook, obd, nok, nbd, fzt, fzl, exec, evX, evX_op, evX_call, evXs, ev_c, ev_v, ev_p, ev_call, ev_and, ev_or, ev_not, ev_ite, ev_chain, evL, get1, fz, fzs, prim, pLen, pEq, pCmp, pIn, pIx, pAdd, pSub, pMul, pFdiv, pMod, pPow, pTup, pLst, pTuple, pList, pAll, pInt, pStr, pIsBool, isBl, pCut, asB, truth, hasF, hasFs, plain, runF, eqOk_int, eqOk_str, eqOk_bl, deq_int, deq_str, deq_bl, List.getElem?_cons, List.length_cons, List.length_nil, List.map_cons, List.map_nil, List.cons_append, List.nil_append, List.set_cons_zero, List.set_cons_succ, scal, o_is_letter, x_is_letter, o_is_name, x_is_name, o_is_rule, x_is_rule, o_is_grammar, x_is_grammar, o__law_cell_at, x__law_cell_at, o__law_next, x__law_next, o__law_rule_by, x__law_rule_by, o__law_known, x__law_known, o__law_closed, x__law_closed, o__law_grammar, x__law_grammar, o__law_is_name, x__law_is_name, o__law_good, x__law_good, o__law_odd, x__law_odd, o__law_spoilt, x__law_spoilt, o_law, x_law, execs, fzs_encR, z1, z2, mutV, mAppend, isLst, lim, hl', o1, o2, o3, ixAt, encR]
      · unfold shutM
        split
        · refine ⟨by rw [List.length_append, List.length_singleton]; omega, fun r hr => ?_⟩
          rcases List.mem_append.mp hr with z | z
          · exact hz r z
          · rw [List.mem_singleton] at z
            have hq' : q = ([83], [99]) ∨ q = ([65], [97]) ∨ q = ([66], [98]) := by simpa using hq
            rw [z]
            rcases hq' with rfl | rfl | rfl <;> exact ⟨by decide, by decide, fun p hp => by rw [List.mem_singleton] at hp; rw [hp]; decide⟩
        · exact ⟨by omega, hz⟩)
    ⟨⟨by show (g.foldl dedup []).length + 3 ≤ 903; omega, hsz⟩, x, none, none, none, rfl⟩
  obtain ⟨_, x2, y2, u2, v2, rfl⟩ := h4
  rw [st_nx (Γ' := [some (.lst false (g.map encR)), some (.lst true ((closedM g).map encR)), x2, y2, u2, v2]) (by
    rw [fr_go (d := .lst true [.str [83], .str [65], .str [66]]) (by simp [bok, bex, bbd, ofs, ofn, ook, obd, nok, nbd, fzt, fzl, exec, evX, evX_op, evX_call, evXs, ev_c, ev_v, ev_p, ev_call, ev_and, ev_or, ev_not, ev_ite, ev_chain, evL, get1, fz, fzs, prim, pLen, pEq, pCmp, pIn, pIx, pAdd, pSub, pMul, pFdiv, pMod, pPow, pTup, pLst, pTuple, pList, pAll, pInt, pStr, pIsBool, isBl, pCut, asB, truth, hasF, hasFs, plain, runF, eqOk_int, eqOk_str, eqOk_bl, deq_int, deq_str, deq_bl, List.getElem?_cons, List.length_cons, List.length_nil, List.map_cons, List.map_nil, List.cons_append, List.nil_append, List.set_cons_zero, List.set_cons_succ, scal, o_is_letter, x_is_letter, o_is_name, x_is_name, o_is_rule, x_is_rule, o_is_grammar, x_is_grammar, o__law_cell_at, x__law_cell_at, o__law_next, x__law_next, o__law_rule_by, x__law_rule_by, o__law_known, x__law_known, o__law_closed, x__law_closed, o__law_grammar, x__law_grammar, o__law_is_name, x__law_is_name, o__law_good, x__law_good, o__law_odd, x__law_odd, o__law_spoilt, x__law_spoilt, o_law, x_law, lim]) rfl rfl rfl]
    exact h3)]
  simp [bok, bex, bbd, ofs, ofn, ook, obd, nok, nbd, fzt, fzl, exec, evX, evX_op, evX_call, evXs, ev_c, ev_v, ev_p, ev_call, ev_and, ev_or, ev_not, ev_ite, ev_chain, evL, get1, fz, fzs, prim, pLen, pEq, pCmp, pIn, pIx, pAdd, pSub, pMul, pFdiv, pMod, pPow, pTup, pLst, pTuple, pList, pAll, pInt, pStr, pIsBool, isBl, pCut, asB, truth, hasF, hasFs, plain, runF, eqOk_int, eqOk_str, eqOk_bl, deq_int, deq_str, deq_bl, List.getElem?_cons, List.length_cons, List.length_nil, List.map_cons, List.map_nil, List.cons_append, List.nil_append, List.set_cons_zero, List.set_cons_succ, scal, o_is_letter, x_is_letter, o_is_name, x_is_name, o_is_rule, x_is_rule, o_is_grammar, x_is_grammar, o__law_cell_at, x__law_cell_at, o__law_next, x__law_next, o__law_rule_by, x__law_rule_by, o__law_known, x__law_known, o__law_closed, x__law_closed, o__law_grammar, x__law_grammar, o__law_is_name, x__law_is_name, o__law_good, x__law_good, o__law_odd, x__law_odd, o__law_spoilt, x__law_spoilt, o_law, x_law, ioL, outR, execs]
end RW

namespace RW
open PySem L2
variable {N n : Nat}
/-! ### the script's grammar -/
def gStep (ns : List Int) (s : List R × Nat) (_ : Nat) : List R × Nat := (s.1 ++ [ruleBy (cellM ns s.2)], s.2 + 1)
def gMany (c : Int) : Nat := if c % 2 = 0 then (1 + c / 2 % 6).toNat else (c / 32 % 3).toNat
def gRules (c : Int) : List R := if c % 2 = 0 then [] else knownM (c / 2)
def gAll (ns : List Int) (k : Nat) : List R × Nat := (List.range (gMany (cellM ns k))).foldl (gStep ns) (gRules (cellM ns k), k + 1)
def grammarM (ns : List Int) (k : Nat) : List R × Nat := (closedM (gAll ns k).1, (gAll ns k).2)
def sgns : List (List Nat) := [[97], [98], [99], [83], [65], [66]]
/-- a rule of names S, A, B and letters a, b, c -/
def SR (r : R) : Prop := r.1 ∈ [[83], [65], [66]] ∧ r.2.length ≤ 6 ∧ ∀ p ∈ r.2, p ∈ sgns
theorem SR.sz {r : R} (h : SR r) : SzR r := by
  obtain ⟨h1, h2, h3⟩ := h
  refine ⟨?_, by omega, fun p hp => ?_⟩
  · simp at h1
    rcases h1 with z | z | z <;> rw [z] <;> decide
  · have := h3 p hp
    simp [sgns] at this
    rcases this with z | z | z | z | z | z <;> rw [z] <;> decide
theorem sgn6_mem (l : Int) : sgn6 l ∈ sgns := by
  have := pick_mem 0 [97, 98, 99, 83, 65, 66] (l % 6) (by omega) (by simp only [List.length_cons, List.length_nil]; omega)
  unfold sgn6
  simp at this
  rcases this with z | z | z | z | z | z <;> rw [z] <;> decide
theorem ruleBy_sr (c : Int) : SR (ruleBy c) := by
  have key : ∀ (xs : List Nat) (s : List (List Nat) × Int), (∀ p ∈ s.1, p ∈ sgns) → (xs.foldl rbStep s).1.length = s.1.length + xs.length ∧ ∀ p ∈ (xs.foldl rbStep s).1, p ∈ sgns := by
    intro xs
    induction xs with
    | nil => intro s h; exact ⟨rfl, h⟩
    | cons x xs ih =>
      intro s h
      obtain ⟨a, b⟩ := ih (rbStep s x) (fun p hp => by
        unfold rbStep at hp
        rcases List.mem_append.mp hp with z | z
        · exact h p z
        · rw [List.mem_singleton] at z; rw [z]; exact sgn6_mem _)
      refine ⟨?_, b⟩
      rw [List.foldl_cons, a]
      show (s.1 ++ [_]).length + xs.length = _
      rw [List.length_append, List.length_singleton, List.length_cons]; omega
  obtain ⟨a, b⟩ := key (List.range (c / 3 % 4).toNat) ([], c / 12) (fun p hp => by cases hp)
  refine ⟨?_, ?_, b⟩
  · have := pick_mem 0 [83, 65, 66] (c % 3) (by omega) (by simp only [List.length_cons, List.length_nil]; omega)
    show [pick 0 [83, 65, 66] (c % 3)] ∈ _
    simp at this
    rcases this with z | z | z <;> rw [z] <;> decide
  · show ((List.range (c / 3 % 4).toNat).foldl rbStep ([], c / 12)).1.length ≤ 6
    rw [a, List.length_range]
    show 0 + _ ≤ 6
    omega
theorem knownM_mem (i : Int) : knownM i ∈ knownL := pick_mem [] knownL (i % 16) (by omega) (by show i % 16 < 16; omega)
instance (r : R) : Decidable (SR r) := by unfold SR; exact inferInstance
theorem knownM_sr (i : Int) : (∀ r ∈ knownM i, SR r) ∧ (knownM i).length ≤ 6 ∧ knownM i ≠ [] := by
  have : ∀ g ∈ knownL, (∀ r ∈ g, SR r) ∧ g.length ≤ 6 ∧ g ≠ [] := by decide +kernel
  exact this _ (knownM_mem i)
theorem gAll_fold (ns : List Int) : ∀ (xs : List Nat) (s : List R × Nat), (∀ r ∈ s.1, SR r) → (xs.foldl (gStep ns) s).1.length = s.1.length + xs.length ∧ (∀ r ∈ (xs.foldl (gStep ns) s).1, SR r)
  | [], s, h => ⟨rfl, h⟩
  | x :: xs, s, h => by
    obtain ⟨a, b⟩ := gAll_fold ns xs (gStep ns s x) (fun p hp => by
      unfold gStep at hp
      rcases List.mem_append.mp hp with z | z
      · exact h p z
      · rw [List.mem_singleton] at z; rw [z]; exact ruleBy_sr _)
    refine ⟨?_, b⟩
    rw [List.foldl_cons, a]
    show (s.1 ++ [_]).length + xs.length = _
    rw [List.length_append, List.length_singleton, List.length_cons]; omega
theorem gAll_sr (ns : List Int) (k : Nat) : (∀ r ∈ (gAll ns k).1, SR r) ∧ (gAll ns k).1.length ≤ 8 ∧ (gAll ns k).1 ≠ [] := by
  have h0 : (∀ r ∈ gRules (cellM ns k), SR r) := by
    unfold gRules; split
    · intro r hr; cases hr
    · exact (knownM_sr _).1
  obtain ⟨a, b⟩ := gAll_fold ns (List.range (gMany (cellM ns k))) (gRules (cellM ns k), k + 1) h0
  rw [List.length_range] at a
  refine ⟨b, ?_, fun z => ?_⟩
  · show ((List.range _).foldl (gStep ns) _).1.length ≤ 8
    rw [a]
    show (gRules _).length + _ ≤ 8
    unfold gMany gRules
    split
    · show 0 + _ ≤ 8; omega
    · have := (knownM_sr (cellM ns k / 2)).2.1; omega
  · have z2 : (gAll ns k).1.length = 0 := by rw [z]; rfl
    have z3 : (gAll ns k).1.length = _ := a
    rw [z2] at z3
    revert z3
    show ¬ (0 = (gRules _).length + _)
    unfold gMany gRules
    split
    · show ¬ (0 = 0 + _); omega
    · have := List.length_pos_iff.mpr (knownM_sr (cellM ns k / 2)).2.2; omega
theorem dedup_mem : ∀ (g f : List R) (r : R), r ∈ g.foldl dedup f ↔ (r ∈ f ∨ r ∈ g)
  | [], f, r => by simp
  | q :: g, f, r => by
    rw [List.foldl_cons, dedup_mem g]
    unfold dedup
    split
    · rename_i h
      have h : q ∈ f := by simpa using h
      rw [List.mem_cons]
      constructor
      · rintro (z | z)
        · exact .inl z
        · exact .inr (.inr z)
      · rintro (z | z | z)
        · exact .inl z
        · rw [z]; exact .inl h
        · exact .inr z
    · rw [List.mem_append, List.mem_singleton, List.mem_cons, or_assoc]
theorem closedM_sr (g : List R) (h : ∀ r ∈ g, SR r) (hl : g.length ≤ 900) (hn : g ≠ []) : (∀ r ∈ closedM g, SR r) ∧ (closedM g).length ≤ g.length + 3 ∧ closedM g ≠ [] := by
  have h0 : ∀ r ∈ g.foldl dedup [], SR r := fun r hr => by
    rcases (dedup_mem g [] r).mp hr with z | z
    · cases z
    · exact h r z
  have l0 := dedup_len g []
  have n0 : g.foldl dedup [] ≠ [] := fun z => by
    obtain ⟨r, hr⟩ := List.exists_mem_of_ne_nil g hn
    have := (dedup_mem g [] r).mpr (.inr hr)
    rw [z] at this; cases this
  have step : ∀ (s : List R) q, q ∈ [([83], [99]), ([65], [97]), ([66], [98])] → (∀ r ∈ s, SR r) → s ≠ [] → (∀ r ∈ shutM s q, SR r) ∧ (shutM s q).length ≤ s.length + 1 ∧ shutM s q ≠ [] := by
    intro s q hq hs hne
    unfold shutM
    split
    · refine ⟨fun r hr => ?_, by rw [List.length_append, List.length_singleton]; omega, by simp⟩
      rcases List.mem_append.mp hr with z | z
      · exact hs r z
      · rw [List.mem_singleton] at z
        rw [z]
        simp at hq
        rcases hq with rfl | rfl | rfl <;> decide
    · exact ⟨hs, by omega, hne⟩
  obtain ⟨a1, b1, c1⟩ := step _ ([83], [99]) (by simp) h0 n0
  obtain ⟨a2, b2, c2⟩ := step _ ([65], [97]) (by simp) a1 c1
  obtain ⟨a3, b3, c3⟩ := step _ ([66], [98]) (by simp) a2 c2
  refine ⟨a3, ?_, c3⟩
  show (shutM (shutM (shutM _ _) _) _).length ≤ _
  simp only [List.length_nil] at l0
  omega
theorem grammarM_sr (ns : List Int) (k : Nat) : (∀ r ∈ (grammarM ns k).1, SR r) ∧ (grammarM ns k).1.length ≤ 11 ∧ (grammarM ns k).1 ≠ [] := by
  obtain ⟨a, b, c⟩ := gAll_sr ns k
  obtain ⟨a', b', c'⟩ := closedM_sr _ a (by omega) c
  exact ⟨a', by show (closedM _).length ≤ 11; omega, c'⟩
end RW

namespace RW
open PySem L2
variable {N n : Nat}
theorem ev_range {C : Cl} {Γ : En} {e : E} {m : Nat} (h : ev C Γ e = .ok (.int (m : Nat))) (hm : m ≤ 1000000) : ev C Γ (.p .range [e]) = .ok (.tup (rangeL 0 m)) := by
  have e1 : ∀ j : Int, pRange [.int j] = if -great ≤ j ∧ j < great then some (.tup (rangeL 0 j.toNat)) else none := fun j => by simp only [pRange]
  have e2 : ev C Γ (.p .range [e]) = ((ev C Γ e).bind fun d => (Rs.ok []).bind fun ds => Rs.ok (d :: ds)).bind fun ds => Rs.of (pRange ds) := rfl
  rw [e2, h, bok, bok, bok, e1, if_pos (by unfold great; omega), Int.toNat_natCast, ofs]
theorem gr_1 (ns : List Int) (k : Nat) : exec (cl T N (n + 2)) N (ioL (some 1)) [some (.scr ns), some (.lst true [.int (k : Nat)]), none, none, none, none] (.asg 2 (.call i__law_next [(.pure (.v 0)), (.io 1)])) = .nx [some (.scr ns), some (.lst true [.int ((k + 1 : Nat))]), some (.int (cellM ns k)), none, none, none] := by
  have hn := r_next (N := N) (n := n) ns k
  simp [bok, bex, bbd, ofs, ofn, ook, obd, nok, nbd, fzt, fzl, exec, evX, evX_op, evX_call, evXs, ev_c, ev_v, ev_p, ev_call, ev_and, ev_or, ev_not, ev_ite, ev_chain, evL, get1, fz, fzs, prim, pLen, pEq, pCmp, pIn, pIx, pAdd, pSub, pMul, pFdiv, pMod, pPow, pTup, pLst, pTuple, pList, pAll, pInt, pStr, pIsBool, isBl, pCut, asB, truth, hasF, hasFs, plain, runF, eqOk_int, eqOk_str, eqOk_bl, deq_int, deq_str, deq_bl, List.getElem?_cons, List.length_cons, List.length_nil, List.map_cons, List.map_nil, List.cons_append, List.nil_append, List.set_cons_zero, List.set_cons_succ, scal, o_is_letter, x_is_letter, o_is_name, x_is_name, o_is_rule, x_is_rule, o_is_grammar, x_is_grammar, o__law_cell_at, x__law_cell_at, o__law_next, x__law_next, o__law_rule_by, x__law_rule_by, o__law_known, x__law_known, o__law_closed, x__law_closed, o__law_grammar, x__law_grammar, o__law_is_name, x__law_is_name, o__law_good, x__law_good, o__law_odd, x__law_odd, o__law_spoilt, x__law_spoilt, o_law, x_law, ioL, frzE, frzGo, vars, ioArgs, hn]
theorem gr_2 (ns : List Int) (k2 : Nat) (c : Int) : exec (cl T N (n + 2)) N (ioL (some 1)) [some (.scr ns), some (.lst true [.int (k2 : Nat)]), some (.int c), none, none, none] (.ite (.p .eq [(.p .mod [(.v 2), (.c (.int 2))]), (.c (.int 0))]) [(.asg 4 (.pure (.p .add [(.c (.int 1)), (.p .mod [(.p .fdiv [(.v 2), (.c (.int 2))]), (.c (.int 6))])]))), (.asg 5 (.pure (.p .lst [])))] [(.asg 4 (.pure (.p .mod [(.p .fdiv [(.v 2), (.c (.int 32))]), (.c (.int 3))]))), (.asg 5 (.pure (.call i__law_known [(.p .fdiv [(.v 2), (.c (.int 2))])])))]) = .nx [some (.scr ns), some (.lst true [.int (k2 : Nat)]), some (.int c), none, some (.int (gMany c : Nat)), some (.lst true ((gRules c).map encR))] := by
  have hk := r_known (N := N) (n := n + 1) (c / 2)
  unfold gMany gRules
  by_cases hc : c % 2 = 0
  · rw [if_pos hc, if_pos hc]
    have e : ((1 + c / 2 % 6).toNat : Int) = 1 + c / 2 % 6 := by omega
    rw [e]
    simp [bok, bex, bbd, ofs, ofn, ook, obd, nok, nbd, fzt, fzl, exec, evX, evX_op, evX_call, evXs, ev_c, ev_v, ev_p, ev_call, ev_and, ev_or, ev_not, ev_ite, ev_chain, evL, get1, fz, fzs, prim, pLen, pEq, pCmp, pIn, pIx, pAdd, pSub, pMul, pFdiv, pMod, pPow, pTup, pLst, pTuple, pList, pAll, pInt, pStr, pIsBool, isBl, pCut, asB, truth, hasF, hasFs, plain, runF, eqOk_int, eqOk_str, eqOk_bl, deq_int, deq_str, deq_bl, List.getElem?_cons, List.length_cons, List.length_nil, List.map_cons, List.map_nil, List.cons_append, List.nil_append, List.set_cons_zero, List.set_cons_succ, scal, o_is_letter, x_is_letter, o_is_name, x_is_name, o_is_rule, x_is_rule, o_is_grammar, x_is_grammar, o__law_cell_at, x__law_cell_at, o__law_next, x__law_next, o__law_rule_by, x__law_rule_by, o__law_known, x__law_known, o__law_closed, x__law_closed, o__law_grammar, x__law_grammar, o__law_is_name, x__law_is_name, o__law_good, x__law_good, o__law_odd, x__law_odd, o__law_spoilt, x__law_spoilt, o_law, x_law, execs, ioL, hc, lim]
  · rw [if_neg hc, if_neg hc]
    have e : ((c / 32 % 3).toNat : Int) = c / 32 % 3 := by omega
    rw [e]
    simp [bok, bex, bbd, ofs, ofn, ook, obd, nok, nbd, fzt, fzl, exec, evX, evX_op, evX_call, evXs, ev_c, ev_v, ev_p, ev_call, ev_and, ev_or, ev_not, ev_ite, ev_chain, evL, get1, fz, fzs, prim, pLen, pEq, pCmp, pIn, pIx, pAdd, pSub, pMul, pFdiv, pMod, pPow, pTup, pLst, pTuple, pList, pAll, pInt, pStr, pIsBool, isBl, pCut, asB, truth, hasF, hasFs, plain, runF, eqOk_int, eqOk_str, eqOk_bl, deq_int, deq_str, deq_bl, List.getElem?_cons, List.length_cons, List.length_nil, List.map_cons, List.map_nil, List.cons_append, List.nil_append, List.set_cons_zero, List.set_cons_succ, scal, o_is_letter, x_is_letter, o_is_name, x_is_name, o_is_rule, x_is_rule, o_is_grammar, x_is_grammar, o__law_cell_at, x__law_cell_at, o__law_next, x__law_next, o__law_rule_by, x__law_rule_by, o__law_known, x__law_known, o__law_closed, x__law_closed, o__law_grammar, x__law_grammar, o__law_is_name, x__law_is_name, o__law_good, x__law_good, o__law_odd, x__law_odd, o__law_spoilt, x__law_spoilt, o_law, x_law, execs, ioL, hc, lim, hk, hasFs_encR]
theorem gr_3 (ns : List Int) (c : Int) (m k : Nat) (w x : Option D) (g : List R) (hl : g.length < 16777216) (i : Nat) : ((turn (cl T N (n + 2)) N true [3] [(.mut 5 .append [(.call i__law_rule_by [(.call i__law_next [(.pure (.v 0)), (.io 1)])])])]) (ioL (some 1))) (.int (0 + (i : Nat))) [some (.scr ns), some (.lst true [.int (k : Nat)]), w, x, some (.int (m : Nat)), some (.lst true (g.map encR))] = .nx [some (.scr ns), some (.lst true [.int ((k + 1 : Nat))]), w, some (.int (0 + (i : Nat))), some (.int (m : Nat)), some (.lst true ((g ++ [ruleBy (cellM ns k)]).map encR))] := by
  have hrb := r_rule_by (N := N) (n := n + 1) (cellM ns k)
  have hn := r_next (N := N) (n := n) ns k
  simp only [turn]
  simp [bok, bex, bbd, ofs, ofn, ook, obd, nok, nbd, fzt, fzl, exec, evX, evX_op, evX_call, evXs, ev_c, ev_v, ev_p, ev_call, ev_and, ev_or, ev_not, ev_ite, ev_chain, evL, get1, fz, fzs, prim, pLen, pEq, pCmp, pIn, pIx, pAdd, pSub, pMul, pFdiv, pMod, pPow, pTup, pLst, pTuple, pList, pAll, pInt, pStr, pIsBool, isBl, pCut, asB, truth, hasF, hasFs, plain, runF, eqOk_int, eqOk_str, eqOk_bl, deq_int, deq_str, deq_bl, List.getElem?_cons, List.length_cons, List.length_nil, List.map_cons, List.map_nil, List.cons_append, List.nil_append, List.set_cons_zero, List.set_cons_succ, scal, o_is_letter, x_is_letter, o_is_name, x_is_name, o_is_rule, x_is_rule, o_is_grammar, x_is_grammar, o__law_cell_at, x__law_cell_at, o__law_next, x__law_next, o__law_rule_by, x__law_rule_by, o__law_known, x__law_known, o__law_closed, x__law_closed, o__law_grammar, x__law_grammar, o__law_is_name, x__law_is_name, o__law_good, x__law_good, o__law_odd, x__law_odd, o__law_spoilt, x__law_spoilt, o_law, x_law, execs, bindT, ioL, frzE, frzGo, vars, ioArgs, hn, hrb, mutV, mAppend, isLst, lim, hl]
theorem gr_4 (ns : List Int) (c : Int) (m k : Nat) (hm : m ≤ 100) (w x : Option D) (g : List R) (hl : g.length + m ≤ 200) : ∃ x', exec (cl T N (n + 2)) N (ioL (some 1)) [some (.scr ns), some (.lst true [.int (k : Nat)]), w, x, some (.int (m : Nat)), some (.lst true (g.map encR))] (.fr none true [3] (.p .range [(.v 4)]) [(.mut 5 .append [(.call i__law_rule_by [(.call i__law_next [(.pure (.v 0)), (.io 1)])])])]) = .nx [some (.scr ns), some (.lst true [.int (((List.range m).foldl (gStep ns) (g, k)).2 : Nat)]), w, x', some (.int (m : Nat)), some (.lst true (((List.range m).foldl (gStep ns) (g, k)).1.map encR))] := by
  obtain ⟨Γ1, h1, h2⟩ := for_rel (f := (turn (cl T N (n + 2)) N true [3] [(.mut 5 .append [(.call i__law_rule_by [(.call i__law_next [(.pure (.v 0)), (.io 1)])])])]) (ioL (some 1))) (enc := fun i : Nat => D.int (0 + (i : Nat))) (step := gStep ns)
    (Rel := fun k2 s Γ => s.1.length + k2 ≤ 200 ∧ ∃ x, Γ = [some (.scr ns), some (.lst true [.int (s.2 : Nat)]), w, x, some (.int (m : Nat)), some (.lst true (s.1.map encR))]) (xs := List.range m) (s := (g, k)) (Γ := [some (.scr ns), some (.lst true [.int (k : Nat)]), w, x, some (.int (m : Nat)), some (.lst true (g.map encR))])
    (fun k2 s Γ i hi hR => by
      obtain ⟨hk2, x, rfl⟩ := hR
      refine ⟨_, gr_3 ns c m s.2 w x s.1 (by omega) i, ?_, _, rfl⟩
      show (s.1 ++ [_]).length + k2 ≤ 200
      rw [List.length_append, List.length_singleton]; omega)
    ⟨by rw [List.length_range]; exact hl, x, rfl⟩
  obtain ⟨_, x', rfl⟩ := h2
  refine ⟨x', ?_⟩
  rw [fr_go (d := .tup (rangeL 0 m)) (ev_range rfl (by omega)) rfl rfl (by show hasFs (rangeL 0 _) = false; exact hasFs_none _ (fun _ => rfl) _)]
  exact h1
theorem gr_5 (a b c d e : Option D) (g : List R) (h1 : ∀ r ∈ g, SzR r) (h2 : g.length ≤ 900) : exec (cl T N (n + 2)) N (ioL (some 1)) [a, b, c, d, e, some (.lst true (g.map encR))] (.ret (.pure (.call i__law_closed [(.v 5)]))) = .rt (.lst true ((closedM g).map encR)) [a, b, c, d, e, some (.lst true (g.map encR))] := by
  have hcl := r_closed (N := N) (n := n + 1) g h1 h2
  simp [bok, bex, bbd, ofs, ofn, ook, obd, nok, nbd, fzt, fzl, exec, evX, evX_op, evX_call, evXs, ev_c, ev_v, ev_p, ev_call, ev_and, ev_or, ev_not, ev_ite, ev_chain, evL, get1, fz, fzs, prim, pLen, pEq, pCmp, pIn, pIx, pAdd, pSub, pMul, pFdiv, pMod, pPow, pTup, pLst, pTuple, pList, pAll, pInt, pStr, pIsBool, isBl, pCut, asB, truth, hasF, hasFs, plain, runF, eqOk_int, eqOk_str, eqOk_bl, deq_int, deq_str, deq_bl, List.getElem?_cons, List.length_cons, List.length_nil, List.map_cons, List.map_nil, List.cons_append, List.nil_append, List.set_cons_zero, List.set_cons_succ, scal, o_is_letter, x_is_letter, o_is_name, x_is_name, o_is_rule, x_is_rule, o_is_grammar, x_is_grammar, o__law_cell_at, x__law_cell_at, o__law_next, x__law_next, o__law_rule_by, x__law_rule_by, o__law_known, x__law_known, o__law_closed, x__law_closed, o__law_grammar, x__law_grammar, o__law_is_name, x__law_is_name, o__law_good, x__law_good, o__law_odd, x__law_odd, o__law_spoilt, x__law_spoilt, o_law, x_law, fzs_encR, hcl, hasFs_encR]
theorem r_grammar (ns : List Int) (k : Nat) : (cl T N (n + 3)).run i__law_grammar [.scr ns, .lst true [.int (k : Nat)]] = .ok (.lst true ((grammarM ns k).1.map encR), some (.lst true [.int ((grammarM ns k).2 : Nat)])) := by
  rw [run_go (id := i__law_grammar) (Γ0 := [some (.scr ns), some (.lst true [.int (k : Nat)]), none, none, none, none]) rfl rfl rfl]
  obtain ⟨g1, g2, g3⟩ := gAll_sr ns k
  have hm : gMany (cellM ns k) ≤ 6 := by unfold gMany; split <;> omega
  have hr0 : (gRules (cellM ns k)).length ≤ 6 := by
    unfold gRules; split
    · exact Nat.zero_le _
    · exact (knownM_sr _).2.1
  obtain ⟨x', h4⟩ := gr_4 (N := N) (n := n) ns (cellM ns k) (gMany (cellM ns k)) (k + 1) (by omega) (some (.int (cellM ns k))) none (gRules (cellM ns k)) (by omega)
  rw [st_nx (gr_1 ns k), st_nx (gr_2 ns (k + 1) (cellM ns k)), st_nx h4]
  rw [show ((List.range (gMany (cellM ns k))).foldl (gStep ns) (gRules (cellM ns k), k + 1)) = gAll ns k from rfl]
  rw [st_rt (gr_5 _ _ _ _ _ _ (fun r hr => (g1 r hr).sz) (by omega))]
  rfl
end RW

namespace RW
open PySem L2
variable {N n : Nat}
/-! ### odd parts, spoilt grammars -/
def oddL : List (List Nat) := [[], [115], [49], [32], [97, 98], [83, 97], [65, 49], [65, 45], [65, 66, 67, 68, 69, 70, 71, 72], [65, 66, 67, 68, 69, 70, 71, 72, 73], [49, 65], [95], [122], [90], [65, 95], [61], [48]]
def oddM (z : Int) : List Nat := pick [] oddL (z % 17)
theorem ixAt_map {α β : Type} (f : α → β) (xs : List α) (i : Int) : ixAt (xs.map f) i = (ixAt xs i).map f := by
  unfold ixAt
  rw [List.length_map]
  split
  · rw [List.getElem?_map]
  · split
    · rw [List.getElem?_map]
    · rfl
theorem oddM_len (z : Int) : (oddM z).length ≤ 1000 := by
  have h : oddM z ∈ oddL := pick_mem [] oddL (z % 17) (by omega) (by show z % 17 < 17; omega)
  have : ∀ s ∈ oddL, s.length ≤ 1000 := by decide
  exact this _ h
theorem r_odd (z : Int) : (cl T N (n + 1)).run i__law_odd [.int z] = .ok (.str (oddM z), none) := by
  rw [run_go (id := i__law_odd) (Γ0 := [some (.int z), none]) rfl rfl rfl]
  rw [st_nx (Γ' := [some (.int z), some (.lst true ((oddL.take 13).map .str))]) (by simp [bok, bex, bbd, ofs, ofn, ook, obd, nok, nbd, fzt, fzl, exec, evX, evX_op, evX_call, evXs, ev_c, ev_v, ev_p, ev_call, ev_and, ev_or, ev_not, ev_ite, ev_chain, evL, get1, fz, fzs, prim, pLen, pEq, pCmp, pIn, pIx, pAdd, pSub, pMul, pFdiv, pMod, pPow, pTup, pLst, pTuple, pList, pAll, pInt, pStr, pIsBool, isBl, pCut, asB, truth, hasF, hasFs, plain, runF, eqOk_int, eqOk_str, eqOk_bl, deq_int, deq_str, deq_bl, List.getElem?_cons, List.length_cons, List.length_nil, List.map_cons, List.map_nil, List.cons_append, List.nil_append, List.set_cons_zero, List.set_cons_succ, scal, o_is_letter, x_is_letter, o_is_name, x_is_name, o_is_rule, x_is_rule, o_is_grammar, x_is_grammar, o__law_cell_at, x__law_cell_at, o__law_next, x__law_next, o__law_rule_by, x__law_rule_by, o__law_known, x__law_known, o__law_closed, x__law_closed, o__law_grammar, x__law_grammar, o__law_is_name, x__law_is_name, o__law_good, x__law_good, o__law_odd, x__law_odd, o__law_spoilt, x__law_spoilt, o_law, x_law, ioL, lim, oddL])]
  rw [st_nx (Γ' := [some (.int z), some (.lst true (oddL.map .str))]) (by simp [bok, bex, bbd, ofs, ofn, ook, obd, nok, nbd, fzt, fzl, exec, evX, evX_op, evX_call, evXs, ev_c, ev_v, ev_p, ev_call, ev_and, ev_or, ev_not, ev_ite, ev_chain, evL, get1, fz, fzs, prim, pLen, pEq, pCmp, pIn, pIx, pAdd, pSub, pMul, pFdiv, pMod, pPow, pTup, pLst, pTuple, pList, pAll, pInt, pStr, pIsBool, isBl, pCut, asB, truth, hasF, hasFs, plain, runF, eqOk_int, eqOk_str, eqOk_bl, deq_int, deq_str, deq_bl, List.getElem?_cons, List.length_cons, List.length_nil, List.map_cons, List.map_nil, List.cons_append, List.nil_append, List.set_cons_zero, List.set_cons_succ, scal, o_is_letter, x_is_letter, o_is_name, x_is_name, o_is_rule, x_is_rule, o_is_grammar, x_is_grammar, o__law_cell_at, x__law_cell_at, o__law_next, x__law_next, o__law_rule_by, x__law_rule_by, o__law_known, x__law_known, o__law_closed, x__law_closed, o__law_grammar, x__law_grammar, o__law_is_name, x__law_is_name, o__law_good, x__law_good, o__law_odd, x__law_odd, o__law_spoilt, x__law_spoilt, o_law, x_law, ioL, lim, oddL])]
  have h : ixAt (oddL.map D.str) (z % 17) = some (.str (oddM z)) := by
    rw [ixAt_map, ixAt_pick [] oddL (z % 17) (by omega) (by show z % 17 < 17; omega)]; rfl
  simp [bok, bex, bbd, ofs, ofn, ook, obd, nok, nbd, fzt, fzl, exec, evX, evX_op, evX_call, evXs, ev_c, ev_v, ev_p, ev_call, ev_and, ev_or, ev_not, ev_ite, ev_chain, evL, get1, fz, fzs, prim, pLen, pEq, pCmp, pIn, pIx, pAdd, pSub, pMul, pFdiv, pMod, pPow, pTup, pLst, pTuple, pList, pAll, pInt, pStr, pIsBool, isBl, pCut, asB, truth, hasF, hasFs, plain, runF, eqOk_int, eqOk_str, eqOk_bl, deq_int, deq_str, deq_bl, List.getElem?_cons, List.length_cons, List.length_nil, List.map_cons, List.map_nil, List.cons_append, List.nil_append, List.set_cons_zero, List.set_cons_succ, scal, o_is_letter, x_is_letter, o_is_name, x_is_name, o_is_rule, x_is_rule, o_is_grammar, x_is_grammar, o__law_cell_at, x__law_cell_at, o__law_next, x__law_next, o__law_rule_by, x__law_rule_by, o__law_known, x__law_known, o__law_closed, x__law_closed, o__law_grammar, x__law_grammar, o__law_is_name, x__law_is_name, o__law_good, x__law_good, o__law_odd, x__law_odd, o__law_spoilt, x__law_spoilt, o_law, x_law, execs, ioL, outR, fzs_str, h]
theorem skip {C : Cl} {N : Nat} {ro : List Nat} {Γ : En} {w k : Int} {a : List S} {ss : List S} (h : get1 Γ 1 = .ok (.int w)) (hne : w ≠ k) : execs C N ro Γ (.ite (.p .eq [(.v 1), (.c (.int k))]) a [] :: ss) = execs C N ro Γ ss := by
  refine st_nx ?_
  have e : ev C Γ (.p .eq [(.v 1), (.c (.int k))]) = .ok (.bl false) := by
    show ((((get1 Γ 1).bind fun d => Rs.ok (fz d)).bind fun d => ((Rs.ok (.int k)).bind fun d => (Rs.ok []).bind fun ds => Rs.ok (d :: ds)).bind fun ds => Rs.ok (d :: ds)).bind fun ds => Rs.of (pEq false ds)) = _
    rw [h]
    show Rs.ok (D.bl ((w == k) != false)) = _
    have : (w == k) = false := by simpa using hne
    rw [this]; rfl
  show (((ev C Γ _).bind asB).out _ _) = _
  rw [e]; rfl
theorem take_nx {C : Cl} {N : Nat} {ro : List Nat} {Γ Γ' : En} {k : Int} {a : List S} {ss : List S} (h : get1 Γ 1 = .ok (.int k)) (ha : execs C N ro Γ a = .nx Γ') : execs C N ro Γ (.ite (.p .eq [(.v 1), (.c (.int k))]) a [] :: ss) = execs C N ro Γ' ss := by
  refine st_nx ?_
  have e : ev C Γ (.p .eq [(.v 1), (.c (.int k))]) = .ok (.bl true) := by
    show ((((get1 Γ 1).bind fun d => Rs.ok (fz d)).bind fun d => ((Rs.ok (.int k)).bind fun d => (Rs.ok []).bind fun ds => Rs.ok (d :: ds)).bind fun ds => Rs.ok (d :: ds)).bind fun ds => Rs.of (pEq false ds)) = _
    rw [h]
    show Rs.ok (D.bl ((k == k) != false)) = _
    simp
  show (((ev C Γ _).bind asB).out _ _) = _
  rw [e]; exact ha
theorem cutL_map {α β : Type} (f : α → β) (xs : List α) (a b : Option Int) : cutL (xs.map f) a b = (cutL xs a b).map f := by
  unfold cutL
  rw [List.length_map, List.map_take, List.map_drop]
theorem cutL_mem2 {α : Type} {xs : List α} {a b : Option Int} {x : α} (h : x ∈ cutL xs a b) : x ∈ xs := List.mem_of_mem_drop (List.mem_of_mem_take h)
theorem cutL_len {α : Type} (xs : List α) (a b : Option Int) : (cutL xs a b).length ≤ xs.length := by
  unfold cutL
  rw [List.length_take, List.length_drop]; omega
/-- the slots behind the first rows of _law_spoilt -/
def spE (d0 : D) (w c : Int) (x3 : D) (i : Int) (nm : List Nat) (ps : List (List Nat)) (j : Int) (x8 x9 x10 x11 x12 : Option D) : En := [some d0, some (.int w), some (.int c), some x3, some (.int i), some (.str nm), some (.tup (ps.map .str)), some (.int j), x8, x9, x10, x11, x12, none, none, none]
def Fine (g : List R) : Prop := (∀ r ∈ g, SzR r) ∧ g.length ≤ 1000
theorem sp_end {C : Cl} {N : Nat} {d0 d : D} {w c : Int} {i : Int} {nm : List Nat} {ps : List (List Nat)} {j : Int} {x8 x9 x10 x11 x12 : Option D} : outR none (execs C N (ioL none) (spE d0 w c d i nm ps j x8 x9 x10 x11 x12) [.retv 3]) = .ok (d, none) := rfl
theorem sp_0 (C : Cl) (d0 : D) (c : Int) (g : List R) (i : Int) (r : R) (nm : List Nat) (ps : List (List Nat)) (j : Int) (hg : ixAt g i = some r) (hl : g.length ≤ 100) :
    execs C N (ioL none) (spE d0 0 c (.lst true (g.map encR)) i nm ps j none none none none none) [(.mut 3 .insert [(.pure (.p .mod [(.p .fdiv [(.v 2), (.c (.int 64))]), (.p .add [(.p .len [(.v 3)]), (.c (.int 1))])])), (.pure (.p .ix [(.v 3), (.v 4)]))])] = .nx (spE d0 0 c (.lst true ((g.take (c / 64 % ((g.length : Int) + 1)).toNat ++ r :: g.drop (c / 64 % ((g.length : Int) + 1)).toNat).map encR)) i nm ps j none none none none none) := by
  have h1 : 0 < (g.length : Int) + 1 := by omega
  have h2 := Int.emod_nonneg (c / 64) (show (g.length : Int) + 1 ≠ 0 by omega)
  have h3 := Int.emod_lt_of_pos (c / 64) h1
  have h4 : c / 64 % ((g.length : Int) + 1) < 9223372036854775808 := by omega
  have h5 : g.length < 16777216 := by omega
  have hx : ixAt (g.map encR) i = some (encR r) := by rw [ixAt_map, hg]; rfl
  simp [spE, bok, bex, bbd, ofs, ofn, ook, obd, nok, nbd, fzt, fzl, exec, evX, evX_op, evX_call, evXs, ev_c, ev_v, ev_p, ev_call, ev_and, ev_or, ev_not, ev_ite, ev_chain, evL, get1, fz, fzs, prim, pLen, pEq, pCmp, pIn, pIx, pAdd, pSub, pMul, pFdiv, pMod, pPow, pTup, pLst, pTuple, pList, pAll, pInt, pStr, pIsBool, isBl, pCut, asB, truth, hasF, hasFs, plain, runF, eqOk_int, eqOk_str, eqOk_bl, deq_int, deq_str, deq_bl, List.getElem?_cons, List.length_cons, List.length_nil, List.map_cons, List.map_nil, List.cons_append, List.nil_append, List.set_cons_zero, List.set_cons_succ, scal, o_is_letter, x_is_letter, o_is_name, x_is_name, o_is_rule, x_is_rule, o_is_grammar, x_is_grammar, o__law_cell_at, x__law_cell_at, o__law_next, x__law_next, o__law_rule_by, x__law_rule_by, o__law_known, x__law_known, o__law_closed, x__law_closed, o__law_grammar, x__law_grammar, o__law_is_name, x__law_is_name, o__law_good, x__law_good, o__law_odd, x__law_odd, o__law_spoilt, x__law_spoilt, o_law, x_law, execs, ioL, fzs_encR, h1, hx, hasF_encR, mutV, mInsert, isLst, lim, h5, h2, h4]
theorem sp_put (C : Cl) (d0 : D) (w c : Int) (g : List R) (i : Int) (r : R) (nm : List Nat) (ps : List (List Nat)) (j : Int) (e : E) (h0 : 0 ≤ i) (h1 : i < g.length) (he : ev C (spE d0 w c (.lst true (g.map encR)) i nm ps j none none none none none) e = .ok (encR r)) :
    execs C N (ioL none) (spE d0 w c (.lst true (g.map encR)) i nm ps j none none none none none) [.put 3 (.v 4) (.pure e)] = .nx (spE d0 w c (.lst true ((g.set i.toNat r).map encR)) i nm ps j none none none none none) := by
  refine (st_nx (Γ' := spE d0 w c (.lst true ((g.set i.toNat r).map encR)) i nm ps j none none none none none) ?_).trans rfl
  show (((ev C _ e).bind fun d => Rs.ok (d, if hasF d then frzE _ _ else _)).out _ fun q => _) = _
  rw [he, bok, hasF_encR, ook]
  have hp : putV (.lst true (g.map encR)) (.int i) (encR r) = some (.lst true ((g.set i.toNat r).map encR)) := by
    show (if 0 ≤ i then (if i < ((g.map encR).length : Nat) then some (D.lst true ((g.map encR).set i.toNat (encR r))) else none) else _) = _
    rw [if_pos h0, List.length_map, if_pos h1, List.map_set]
  simp [spE, bok, bex, bbd, ofs, ofn, ook, obd, nok, nbd, fzt, fzl, exec, evX, evX_op, evX_call, evXs, ev_c, ev_v, ev_p, ev_call, ev_and, ev_or, ev_not, ev_ite, ev_chain, evL, get1, fz, fzs, prim, pLen, pEq, pCmp, pIn, pIx, pAdd, pSub, pMul, pFdiv, pMod, pPow, pTup, pLst, pTuple, pList, pAll, pInt, pStr, pIsBool, isBl, pCut, asB, truth, hasF, hasFs, plain, runF, eqOk_int, eqOk_str, eqOk_bl, deq_int, deq_str, deq_bl, List.getElem?_cons, List.length_cons, List.length_nil, List.map_cons, List.map_nil, List.cons_append, List.nil_append, List.set_cons_zero, List.set_cons_succ, scal, o_is_letter, x_is_letter, o_is_name, x_is_name, o_is_rule, x_is_rule, o_is_grammar, x_is_grammar, o__law_cell_at, x__law_cell_at, o__law_next, x__law_next, o__law_rule_by, x__law_rule_by, o__law_known, x__law_known, o__law_closed, x__law_closed, o__law_grammar, x__law_grammar, o__law_is_name, x__law_is_name, o__law_good, x__law_good, o__law_odd, x__law_odd, o__law_spoilt, x__law_spoilt, o_law, x_law, flat, hp]
theorem map_erase {α β : Type} (f : α → β) : ∀ (xs : List α) (k : Nat), (xs.map f).eraseIdx k = (xs.eraseIdx k).map f
  | [], _ => rfl
  | x :: xs, 0 => rfl
  | x :: xs, k + 1 => by
    show f x :: (xs.map f).eraseIdx k = f x :: (xs.eraseIdx k).map f
    rw [map_erase f xs k]
theorem sp_4 (C : Cl) (d0 : D) (c : Int) (g : List R) (i : Int) (nm : List Nat) (ps : List (List Nat)) (j : Int) (h0 : 0 ≤ i) (h1 : i < g.length) (hl : g.length ≤ 100) :
    execs C N (ioL none) (spE d0 4 c (.lst true (g.map encR)) i nm ps j none none none none none) [(.mut 3 .popAt [(.pure (.v 4))])] = .nx (spE d0 4 c (.lst true ((g.eraseIdx i.toNat).map encR)) i nm ps j none none none none none) := by
  have h2 : i < 9223372036854775808 := by omega
  simp [spE, bok, bex, bbd, ofs, ofn, ook, obd, nok, nbd, fzt, fzl, exec, evX, evX_op, evX_call, evXs, ev_c, ev_v, ev_p, ev_call, ev_and, ev_or, ev_not, ev_ite, ev_chain, evL, get1, fz, fzs, prim, pLen, pEq, pCmp, pIn, pIx, pAdd, pSub, pMul, pFdiv, pMod, pPow, pTup, pLst, pTuple, pList, pAll, pInt, pStr, pIsBool, isBl, pCut, asB, truth, hasF, hasFs, plain, runF, eqOk_int, eqOk_str, eqOk_bl, deq_int, deq_str, deq_bl, List.getElem?_cons, List.length_cons, List.length_nil, List.map_cons, List.map_nil, List.cons_append, List.nil_append, List.set_cons_zero, List.set_cons_succ, scal, o_is_letter, x_is_letter, o_is_name, x_is_name, o_is_rule, x_is_rule, o_is_grammar, x_is_grammar, o__law_cell_at, x__law_cell_at, o__law_next, x__law_next, o__law_rule_by, x__law_rule_by, o__law_known, x__law_known, o__law_closed, x__law_closed, o__law_grammar, x__law_grammar, o__law_is_name, x__law_is_name, o__law_good, x__law_good, o__law_odd, x__law_odd, o__law_spoilt, x__law_spoilt, o_law, x_law, execs, ioL, mutV, mPopAt, isLst, h0, h1, h2, map_erase]
end RW

namespace RW
open PySem L2
variable {N n : Nat}
theorem take_some {C : Cl} {N : Nat} {ro : List Nat} {Γ : En} {k : Int} {a : List S} {ss : List S} (h : get1 Γ 1 = .ok (.int k)) {P : En → Prop} (ha : ∃ Γ', execs C N ro Γ a = .nx Γ' ∧ P Γ') : ∃ Γ', execs C N ro Γ (.ite (.p .eq [(.v 1), (.c (.int k))]) a [] :: ss) = execs C N ro Γ' ss ∧ P Γ' := by
  obtain ⟨Γ', h1, h2⟩ := ha
  exact ⟨Γ', take_nx h h1, h2⟩
/-- the first way's rule -/
theorem sp_1 (d0 : D) (c : Int) (g : List R) (i : Int) (nm : List Nat) (ps : List (List Nat)) (j : Int) (hl : ps.length ≤ 100) :
    ev (cl T N (n + 1)) (spE d0 1 c (.lst true (g.map encR)) i nm ps j none none none none none) (.p .tup [(.v 5), (.p .add [(.p .add [(.p (.cut false true) [(.v 6), (.p .asInt [(.v 7)])]), (.p .tup [(.call i__law_odd [(.p .fdiv [(.v 2), (.c (.int 512))])])])]), (.p (.cut true false) [(.v 6), (.p .asInt [(.v 7)])])])]) = .ok (encR (nm, cutL ps none (some j) ++ [oddM (c / 512)] ++ cutL ps (some j) none)) := by
  have ho := r_odd (N := N) (n := n) (c / 512)
  have l1 := cutL_len ps none (some j)
  have l2 := cutL_len ps (some j) none
  have l3 : (cutL ps none (some j)).length + 1 ≤ 16777216 := by omega
  have l4 : (cutL ps none (some j)).length + 1 + (cutL ps (some j) none).length ≤ 16777216 := by omega
  simp [spE, bok, bex, bbd, ofs, ofn, ook, obd, nok, nbd, fzt, fzl, exec, evX, evX_op, evX_call, evXs, ev_c, ev_v, ev_p, ev_call, ev_and, ev_or, ev_not, ev_ite, ev_chain, evL, get1, fz, fzs, prim, pLen, pEq, pCmp, pIn, pIx, pAdd, pSub, pMul, pFdiv, pMod, pPow, pTup, pLst, pTuple, pList, pAll, pInt, pStr, pIsBool, isBl, pCut, asB, truth, hasF, hasFs, plain, runF, eqOk_int, eqOk_str, eqOk_bl, deq_int, deq_str, deq_bl, List.getElem?_cons, List.length_cons, List.length_nil, List.map_cons, List.map_nil, List.cons_append, List.nil_append, List.set_cons_zero, List.set_cons_succ, scal, o_is_letter, x_is_letter, o_is_name, x_is_name, o_is_rule, x_is_rule, o_is_grammar, x_is_grammar, o__law_cell_at, x__law_cell_at, o__law_next, x__law_next, o__law_rule_by, x__law_rule_by, o__law_known, x__law_known, o__law_closed, x__law_closed, o__law_grammar, x__law_grammar, o__law_is_name, x__law_is_name, o__law_good, x__law_good, o__law_odd, x__law_odd, o__law_spoilt, x__law_spoilt, o_law, x_law, fzs_str, cutL_map, ho, l3, l4, lim, encR]
theorem sp_2 (d0 : D) (c : Int) (g : List R) (i : Int) (nm : List Nat) (ps : List (List Nat)) (j : Int) :
    ev (cl T N (n + 1)) (spE d0 2 c (.lst true (g.map encR)) i nm ps j none none none none none) (.p .tup [(.call i__law_odd [(.p .fdiv [(.v 2), (.c (.int 512))])]), (.v 6)]) = .ok (encR (oddM (c / 512), ps)) := by
  have ho := r_odd (N := N) (n := n) (c / 512)
  simp [spE, bok, bex, bbd, ofs, ofn, ook, obd, nok, nbd, fzt, fzl, exec, evX, evX_op, evX_call, evXs, ev_c, ev_v, ev_p, ev_call, ev_and, ev_or, ev_not, ev_ite, ev_chain, evL, get1, fz, fzs, prim, pLen, pEq, pCmp, pIn, pIx, pAdd, pSub, pMul, pFdiv, pMod, pPow, pTup, pLst, pTuple, pList, pAll, pInt, pStr, pIsBool, isBl, pCut, asB, truth, hasF, hasFs, plain, runF, eqOk_int, eqOk_str, eqOk_bl, deq_int, deq_str, deq_bl, List.getElem?_cons, List.length_cons, List.length_nil, List.map_cons, List.map_nil, List.cons_append, List.nil_append, List.set_cons_zero, List.set_cons_succ, scal, o_is_letter, x_is_letter, o_is_name, x_is_name, o_is_rule, x_is_rule, o_is_grammar, x_is_grammar, o__law_cell_at, x__law_cell_at, o__law_next, x__law_next, o__law_rule_by, x__law_rule_by, o__law_known, x__law_known, o__law_closed, x__law_closed, o__law_grammar, x__law_grammar, o__law_is_name, x__law_is_name, o__law_good, x__law_good, o__law_odd, x__law_odd, o__law_spoilt, x__law_spoilt, o_law, x_law, fzs_str, ho, lim, encR]
theorem sp_3 (d0 : D) (c : Int) (g : List R) (i : Int) (nm : List Nat) (ps : List (List Nat)) (j : Int) (hl : ps.length ≤ 100) :
    ev (cl T N (n + 1)) (spE d0 3 c (.lst true (g.map encR)) i nm ps j none none none none none) (.p .tup [(.v 5), (.p (.cut false true) [(.p .add [(.v 6), (.p .mul [(.p .tup [(.c (.str [97]))]), (.c (.int 8))])]), (.p .asInt [(.p .add [(.c (.int 6)), (.p .mod [(.p .fdiv [(.v 2), (.c (.int 64))]), (.c (.int 3))])])])])]) = .ok (encR (nm, cutL (ps ++ List.replicate 8 [97]) none (some (6 + c / 64 % 3)))) := by
  have l3 : ps.length + 8 ≤ 16777216 := by omega
  have e : pMul [D.tup [D.str [97]], D.int 8] = some (.tup ((List.replicate 8 [97]).map .str)) := rfl
  have e1 : ev (cl T N (n + 1)) (spE d0 3 c (.lst true (g.map encR)) i nm ps j none none none none none) (.p .add [(.v 6), (.p .mul [(.p .tup [(.c (.str [97]))]), (.c (.int 8))])]) = .ok (.tup ((ps ++ List.replicate 8 [97]).map .str)) := by
    rw [List.map_append]
    have l5 : (ps.map D.str).length + ((List.replicate 8 [97]).map D.str).length ≤ lim := by
      rw [List.length_map, List.length_map, List.length_replicate]; exact Nat.le_trans (show ps.length + 8 ≤ 1000 by omega) (by decide)
    show Rs.of (pAdd [.tup (fzs (ps.map .str)), .tup ((List.replicate 8 [97]).map .str)]) = _
    rw [fzs_str]
    show Rs.of (if (ps.map D.str).length + ((List.replicate 8 [97]).map D.str).length ≤ lim then some (D.tup (ps.map D.str ++ (List.replicate 8 [97]).map D.str)) else none) = _
    rw [if_pos l5]; rfl
  have e2 : ev (cl T N (n + 1)) (spE d0 3 c (.lst true (g.map encR)) i nm ps j none none none none none) (.p .asInt [(.p .add [(.c (.int 6)), (.p .mod [(.p .fdiv [(.v 2), (.c (.int 64))]), (.c (.int 3))])])]) = .ok (.int (6 + c / 64 % 3)) := by
    simp [spE, bok, bex, bbd, ofs, ofn, ook, obd, nok, nbd, fzt, fzl, exec, evX, evX_op, evX_call, evXs, ev_c, ev_v, ev_p, ev_call, ev_and, ev_or, ev_not, ev_ite, ev_chain, evL, get1, fz, fzs, prim, pLen, pEq, pCmp, pIn, pIx, pAdd, pSub, pMul, pFdiv, pMod, pPow, pTup, pLst, pTuple, pList, pAll, pInt, pStr, pIsBool, isBl, pCut, asB, truth, hasF, hasFs, plain, runF, eqOk_int, eqOk_str, eqOk_bl, deq_int, deq_str, deq_bl, List.getElem?_cons, List.length_cons, List.length_nil, List.map_cons, List.map_nil, List.cons_append, List.nil_append, List.set_cons_zero, List.set_cons_succ, scal, o_is_letter, x_is_letter, o_is_name, x_is_name, o_is_rule, x_is_rule, o_is_grammar, x_is_grammar, o__law_cell_at, x__law_cell_at, o__law_next, x__law_next, o__law_rule_by, x__law_rule_by, o__law_known, x__law_known, o__law_closed, x__law_closed, o__law_grammar, x__law_grammar, o__law_is_name, x__law_is_name, o__law_good, x__law_good, o__law_odd, x__law_odd, o__law_spoilt, x__law_spoilt, o_law, x_law]
  rw [ev_p]
  simp only [evL, e1, e2, bok, ev_p]
  simp only [ev_p, evL, e1, e2, bok] at e1 e2 ⊢
  simp [spE, bok, bex, bbd, ofs, ofn, ook, obd, nok, nbd, fzt, fzl, exec, evX, evX_op, evX_call, evXs, ev_c, ev_v, ev_p, ev_call, ev_and, ev_or, ev_not, ev_ite, ev_chain, evL, get1, fz, fzs, prim, pLen, pEq, pCmp, pIn, pIx, pAdd, pSub, pMul, pFdiv, pMod, pPow, pTup, pLst, pTuple, pList, pAll, pInt, pStr, pIsBool, isBl, pCut, asB, truth, hasF, hasFs, plain, runF, eqOk_int, eqOk_str, eqOk_bl, deq_int, deq_str, deq_bl, List.getElem?_cons, List.length_cons, List.length_nil, List.map_cons, List.map_nil, List.cons_append, List.nil_append, List.set_cons_zero, List.set_cons_succ, scal, o_is_letter, x_is_letter, o_is_name, x_is_name, o_is_rule, x_is_rule, o_is_grammar, x_is_grammar, o__law_cell_at, x__law_cell_at, o__law_next, x__law_next, o__law_rule_by, x__law_rule_by, o__law_known, x__law_known, o__law_closed, x__law_closed, o__law_grammar, x__law_grammar, o__law_is_name, x__law_is_name, o__law_good, x__law_good, o__law_odd, x__law_odd, o__law_spoilt, x__law_spoilt, o_law, x_law, e1, e2, lim, encR]
  have z := cutL_map D.str (ps ++ List.replicate 8 [97]) none (some (6 + c / 64 % 3))
  rw [List.map_append] at z
  exact z
def newL : List (List Nat) := [[65, 49], [69, 88, 80, 82], [90, 57, 90, 57, 90, 57, 90, 57], [83, 48], [65, 65]]
def newM (c : Int) : List Nat := pick [] newL (c / 64 % 5)
def reN (nm nw x : List Nat) : List Nat := if x == nm then nw else x
def reR1 (nm nw : List Nat) (r : R) : R := (reN nm nw r.1, r.2)
def reR2 (nm nw : List Nat) (r : R) : R := (r.1, r.2.map (reN nm nw))
theorem sp_5 (C : Cl) (d0 : D) (c : Int) (g : List R) (i : Int) (nm : List Nat) (ps : List (List Nat)) (j : Int) (hs : ∀ r ∈ g, r.2.length ≤ 1000) (hl : g.length ≤ 100) :
    ∃ Γ', execs C N (ioL none) (spE d0 5 c (.lst true (g.map encR)) i nm ps j none none none none none) [(.asg 8 (.pure (.p .ix [(.p .lst [(.c (.str [65, 49])), (.c (.str [69, 88, 80, 82])), (.c (.str [90, 57, 90, 57, 90, 57, 90, 57])), (.c (.str [83, 48])), (.c (.str [65, 65]))]), (.p .mod [(.p .fdiv [(.v 2), (.c (.int 64))]), (.c (.int 5))])]))), (.asg 3 (.pure (.lc (.p .tup [(.ite (.p .eq [(.v 10), (.v 5)]) (.v 8) (.v 10)), (.v 11)]) false [10, 11] [10, 11] (.v 3) (.c (.bl true))))), (.asg 9 (.pure (.p .lst []))), (.fr (some 3) false [10, 11] (.v 3) [(.mut 9 .append [(.pure (.p .tup [(.v 10), (.p .tuple [(.lc (.ite (.p .eq [(.v 15), (.v 5)]) (.v 8) (.v 15)) true [15] [15] (.v 11) (.c (.bl true)))])]))])]), (.asg 3 (.pure (.v 9)))] = .nx Γ' ∧ ∃ x8 x9 x10 x11, Γ' = spE d0 5 c (.lst false ((g.map (fun r => reR2 nm (newM c) (reR1 nm (newM c) r))).map encR)) i nm ps j x8 x9 x10 x11 none := by
  have hx : ixAt (newL.map D.str) (c / 64 % 5) = some (.str (newM c)) := by
    rw [ixAt_map, ixAt_pick [] newL (c / 64 % 5) (by omega) (by show c / 64 % 5 < 5; omega)]; rfl
  have hx' : ixAt [D.str [65, 49], D.str [69, 88, 80, 82], D.str [90, 57, 90, 57, 90, 57, 90, 57], D.str [83, 48], D.str [65, 65]] (c / 64 % 5) = some (.str (newM c)) := hx
  have hlm : g.length ≤ lim := Nat.le_trans hl (by decide)
  obtain ⟨g1, hg1⟩ : ∃ g1, g1 = g.map (reR1 nm (newM c)) := ⟨_, rfl⟩
  rw [st_nx (Γ' := spE d0 5 c (.lst true (g.map encR)) i nm ps j (some (.str (newM c))) none none none none) (by simp [spE, bok, bex, bbd, ofs, ofn, ook, obd, nok, nbd, fzt, fzl, exec, evX, evX_op, evX_call, evXs, ev_c, ev_v, ev_p, ev_call, ev_and, ev_or, ev_not, ev_ite, ev_chain, evL, get1, fz, fzs, prim, pLen, pEq, pCmp, pIn, pIx, pAdd, pSub, pMul, pFdiv, pMod, pPow, pTup, pLst, pTuple, pList, pAll, pInt, pStr, pIsBool, isBl, pCut, asB, truth, hasF, hasFs, plain, runF, eqOk_int, eqOk_str, eqOk_bl, deq_int, deq_str, deq_bl, List.getElem?_cons, List.length_cons, List.length_nil, List.map_cons, List.map_nil, List.cons_append, List.nil_append, List.set_cons_zero, List.set_cons_succ, scal, o_is_letter, x_is_letter, o_is_name, x_is_name, o_is_rule, x_is_rule, o_is_grammar, x_is_grammar, o__law_cell_at, x__law_cell_at, o__law_next, x__law_next, o__law_rule_by, x__law_rule_by, o__law_known, x__law_known, o__law_closed, x__law_closed, o__law_grammar, x__law_grammar, o__law_is_name, x__law_is_name, o__law_good, x__law_good, o__law_odd, x__law_odd, o__law_spoilt, x__law_spoilt, o_law, x_law, lim, hx', ioL])]
  have e1 : ev C (spE d0 5 c (.lst true (g.map encR)) i nm ps j (some (.str (newM c))) none none none none) (.lc (.p .tup [(.ite (.p .eq [(.v 10), (.v 5)]) (.v 8) (.v 10)), (.v 11)]) false [10, 11] [10, 11] (.v 3) (.c (.bl true))) = .ok (.lst true (g.map fun r => encR (reR1 nm (newM c) r))) := by
    refine ev_lcme encR (fun r => encR (reR1 nm (newM c) r)) (d := .lst false (g.map encR)) (by simp [spE, bok, bex, bbd, ofs, ofn, ook, obd, nok, nbd, fzt, fzl, exec, evX, evX_op, evX_call, evXs, ev_c, ev_v, ev_p, ev_call, ev_and, ev_or, ev_not, ev_ite, ev_chain, evL, get1, fz, fzs, prim, pLen, pEq, pCmp, pIn, pIx, pAdd, pSub, pMul, pFdiv, pMod, pPow, pTup, pLst, pTuple, pList, pAll, pInt, pStr, pIsBool, isBl, pCut, asB, truth, hasF, hasFs, plain, runF, eqOk_int, eqOk_str, eqOk_bl, deq_int, deq_str, deq_bl, List.getElem?_cons, List.length_cons, List.length_nil, List.map_cons, List.map_nil, List.cons_append, List.nil_append, List.set_cons_zero, List.set_cons_succ, scal, o_is_letter, x_is_letter, o_is_name, x_is_name, o_is_rule, x_is_rule, o_is_grammar, x_is_grammar, o__law_cell_at, x__law_cell_at, o__law_next, x__law_next, o__law_rule_by, x__law_rule_by, o__law_known, x__law_known, o__law_closed, x__law_closed, o__law_grammar, x__law_grammar, o__law_is_name, x__law_is_name, o__law_good, x__law_good, o__law_odd, x__law_odd, o__law_spoilt, x__law_spoilt, o_law, x_law, fzs_encR]) rfl hlm (fun r hr => ?_)
    simp only [lcB, bindT, wipeE, fz_encR, spE]
    simp only [encR]
    unfold reR1 reN
    cases e : (r.1 == nm) <;> simp [bok, bex, bbd, ofs, ofn, ook, obd, nok, nbd, fzt, fzl, exec, evX, evX_op, evX_call, evXs, ev_c, ev_v, ev_p, ev_call, ev_and, ev_or, ev_not, ev_ite, ev_chain, evL, get1, fz, fzs, prim, pLen, pEq, pCmp, pIn, pIx, pAdd, pSub, pMul, pFdiv, pMod, pPow, pTup, pLst, pTuple, pList, pAll, pInt, pStr, pIsBool, isBl, pCut, asB, truth, hasF, hasFs, plain, runF, eqOk_int, eqOk_str, eqOk_bl, deq_int, deq_str, deq_bl, List.getElem?_cons, List.length_cons, List.length_nil, List.map_cons, List.map_nil, List.cons_append, List.nil_append, List.set_cons_zero, List.set_cons_succ, scal, o_is_letter, x_is_letter, o_is_name, x_is_name, o_is_rule, x_is_rule, o_is_grammar, x_is_grammar, o__law_cell_at, x__law_cell_at, o__law_next, x__law_next, o__law_rule_by, x__law_rule_by, o__law_known, x__law_known, o__law_closed, x__law_closed, o__law_grammar, x__law_grammar, o__law_is_name, x__law_is_name, o__law_good, x__law_good, o__law_odd, x__law_odd, o__law_spoilt, x__law_spoilt, o_law, x_law, fzs_str, setE, e, lim]
  rw [st_nx (Γ' := spE d0 5 c (.lst true (g1.map encR)) i nm ps j (some (.str (newM c))) none none none none) (by
    show (((ev C _ _).bind fun d => Rs.ok (d, if hasF d then frzE _ _ else _)).out _ fun q => _) = _
    rw [e1, bok, hg1, List.map_map]
    have hf : hasF (D.lst true (g.map fun r => encR (reR1 nm (newM c) r))) = false := by
      show (false || hasFs (g.map fun r => encR (reR1 nm (newM c) r))) = false
      rw [hasFs_none _ (fun r => hasF_encR _)]; rfl
    rw [hf]; rfl)]
  rw [st_nx (Γ' := spE d0 5 c (.lst true (g1.map encR)) i nm ps j (some (.str (newM c))) (some (.lst true [])) none none none) (by simp [spE, bok, bex, bbd, ofs, ofn, ook, obd, nok, nbd, fzt, fzl, exec, evX, evX_op, evX_call, evXs, ev_c, ev_v, ev_p, ev_call, ev_and, ev_or, ev_not, ev_ite, ev_chain, evL, get1, fz, fzs, prim, pLen, pEq, pCmp, pIn, pIx, pAdd, pSub, pMul, pFdiv, pMod, pPow, pTup, pLst, pTuple, pList, pAll, pInt, pStr, pIsBool, isBl, pCut, asB, truth, hasF, hasFs, plain, runF, eqOk_int, eqOk_str, eqOk_bl, deq_int, deq_str, deq_bl, List.getElem?_cons, List.length_cons, List.length_nil, List.map_cons, List.map_nil, List.cons_append, List.nil_append, List.set_cons_zero, List.set_cons_succ, scal, o_is_letter, x_is_letter, o_is_name, x_is_name, o_is_rule, x_is_rule, o_is_grammar, x_is_grammar, o__law_cell_at, x__law_cell_at, o__law_next, x__law_next, o__law_rule_by, x__law_rule_by, o__law_known, x__law_known, o__law_closed, x__law_closed, o__law_grammar, x__law_grammar, o__law_is_name, x__law_is_name, o__law_good, x__law_good, o__law_odd, x__law_odd, o__law_spoilt, x__law_spoilt, o_law, x_law, lim, ioL])]
  have hs1 : ∀ r ∈ g1, r.2.length ≤ 1000 := by
    intro r hr
    rw [hg1] at hr
    obtain ⟨q, hq, rfl⟩ := List.mem_map.mp hr
    exact hs q hq
  have hl1 : g1.length ≤ 100 := by rw [hg1, List.length_map]; exact hl
  obtain ⟨Γ1, h1, h2⟩ := for_rel (f := (turn (C) N false [10, 11] [(.mut 9 .append [(.pure (.p .tup [(.v 10), (.p .tuple [(.lc (.ite (.p .eq [(.v 15), (.v 5)]) (.v 8) (.v 15)) true [15] [15] (.v 11) (.c (.bl true)))])]))])]) [3]) (enc := encR) (step := fun s r => s ++ [reR2 nm (newM c) r])
    (Rel := fun k s Γ => s.length + k ≤ 100 ∧ ∃ x10 x11, Γ = [some d0, some (.int 5), some (.int c), none, some (.int i), some (.str nm), some (.tup (ps.map .str)), some (.int j), some (.str (newM c)), some (.lst true (s.map encR)), x10, x11, none, none, none, none]) (xs := g1) (s := []) (Γ := [some d0, some (.int 5), some (.int c), none, some (.int i), some (.str nm), some (.tup (ps.map .str)), some (.int j), some (.str (newM c)), some (.lst true []), none, none, none, none, none, none])
    (fun k s Γ r hr hR => by
      obtain ⟨hk, x10, x11, rfl⟩ := hR
      have e2 : ev C [some d0, some (.int 5), some (.int c), none, some (.int i), some (.str nm), some (.tup (ps.map .str)), some (.int j), some (.str (newM c)), some (.lst true (s.map encR)), some (.str r.1), some (.tup (r.2.map .str)), none, none, none, none] (.lc (.ite (.p .eq [(.v 15), (.v 5)]) (.v 8) (.v 15)) true [15] [15] (.v 11) (.c (.bl true))) = .ok (.lst true (r.2.map fun x => .str (reN nm (newM c) x))) := by
        refine ev_lcme D.str (fun x => .str (reN nm (newM c) x)) (d := .tup (r.2.map .str)) (by simp [bok, bex, bbd, ofs, ofn, ook, obd, nok, nbd, fzt, fzl, exec, evX, evX_op, evX_call, evXs, ev_c, ev_v, ev_p, ev_call, ev_and, ev_or, ev_not, ev_ite, ev_chain, evL, get1, fz, fzs, prim, pLen, pEq, pCmp, pIn, pIx, pAdd, pSub, pMul, pFdiv, pMod, pPow, pTup, pLst, pTuple, pList, pAll, pInt, pStr, pIsBool, isBl, pCut, asB, truth, hasF, hasFs, plain, runF, eqOk_int, eqOk_str, eqOk_bl, deq_int, deq_str, deq_bl, List.getElem?_cons, List.length_cons, List.length_nil, List.map_cons, List.map_nil, List.cons_append, List.nil_append, List.set_cons_zero, List.set_cons_succ, scal, o_is_letter, x_is_letter, o_is_name, x_is_name, o_is_rule, x_is_rule, o_is_grammar, x_is_grammar, o__law_cell_at, x__law_cell_at, o__law_next, x__law_next, o__law_rule_by, x__law_rule_by, o__law_known, x__law_known, o__law_closed, x__law_closed, o__law_grammar, x__law_grammar, o__law_is_name, x__law_is_name, o__law_good, x__law_good, o__law_odd, x__law_odd, o__law_spoilt, x__law_spoilt, o_law, x_law, fzs_str]) rfl (Nat.le_trans (hs1 r hr) (by decide)) (fun x hx => ?_)
        simp only [lcB, bindT, wipeE, fz]
        unfold reN
        cases e : (x == nm) <;> simp [bok, bex, bbd, ofs, ofn, ook, obd, nok, nbd, fzt, fzl, exec, evX, evX_op, evX_call, evXs, ev_c, ev_v, ev_p, ev_call, ev_and, ev_or, ev_not, ev_ite, ev_chain, evL, get1, fz, fzs, prim, pLen, pEq, pCmp, pIn, pIx, pAdd, pSub, pMul, pFdiv, pMod, pPow, pTup, pLst, pTuple, pList, pAll, pInt, pStr, pIsBool, isBl, pCut, asB, truth, hasF, hasFs, plain, runF, eqOk_int, eqOk_str, eqOk_bl, deq_int, deq_str, deq_bl, List.getElem?_cons, List.length_cons, List.length_nil, List.map_cons, List.map_nil, List.cons_append, List.nil_append, List.set_cons_zero, List.set_cons_succ, scal, o_is_letter, x_is_letter, o_is_name, x_is_name, o_is_rule, x_is_rule, o_is_grammar, x_is_grammar, o__law_cell_at, x__law_cell_at, o__law_next, x__law_next, o__law_rule_by, x__law_rule_by, o__law_known, x__law_known, o__law_closed, x__law_closed, o__law_grammar, x__law_grammar, o__law_is_name, x__law_is_name, o__law_good, x__law_good, o__law_odd, x__law_odd, o__law_spoilt, x__law_spoilt, o_law, x_law, e]
      have e3 : ev C [some d0, some (.int 5), some (.int c), none, some (.int i), some (.str nm), some (.tup (ps.map .str)), some (.int j), some (.str (newM c)), some (.lst true (s.map encR)), some (.str r.1), some (.tup (r.2.map .str)), none, none, none, none] (.p .tup [(.v 10), (.p .tuple [(.lc (.ite (.p .eq [(.v 15), (.v 5)]) (.v 8) (.v 15)) true [15] [15] (.v 11) (.c (.bl true)))])]) = .ok (encR (reR2 nm (newM c) r)) := by
        show ((Rs.ok (D.str r.1)).bind fun d => (((((ev C _ _).bind fun d => (Rs.ok []).bind fun ds => Rs.ok (d :: ds)).bind fun ds => Rs.of (pTuple ds)).bind fun d => (Rs.ok []).bind fun ds => Rs.ok (d :: ds))).bind fun ds => Rs.ok (d :: ds)).bind (fun ds => Rs.of (pTup ds)) = _
        rw [e2]
        simp [bok, bex, bbd, ofs, ofn, ook, obd, nok, nbd, fzt, fzl, exec, evX, evX_op, evX_call, evXs, ev_c, ev_v, ev_p, ev_call, ev_and, ev_or, ev_not, ev_ite, ev_chain, evL, get1, fz, fzs, prim, pLen, pEq, pCmp, pIn, pIx, pAdd, pSub, pMul, pFdiv, pMod, pPow, pTup, pLst, pTuple, pList, pAll, pInt, pStr, pIsBool, isBl, pCut, asB, truth, hasF, hasFs, plain, runF, eqOk_int, eqOk_str, eqOk_bl, deq_int, deq_str, deq_bl, List.getElem?_cons, List.length_cons, List.length_nil, List.map_cons, List.map_nil, List.cons_append, List.nil_append, List.set_cons_zero, List.set_cons_succ, scal, o_is_letter, x_is_letter, o_is_name, x_is_name, o_is_rule, x_is_rule, o_is_grammar, x_is_grammar, o__law_cell_at, x__law_cell_at, o__law_next, x__law_next, o__law_rule_by, x__law_rule_by, o__law_known, x__law_known, o__law_closed, x__law_closed, o__law_grammar, x__law_grammar, o__law_is_name, x__law_is_name, o__law_good, x__law_good, o__law_odd, x__law_odd, o__law_spoilt, x__law_spoilt, o_law, x_law, lim, encR, reR2]
      have hl2 : s.length < lim := Nat.lt_of_lt_of_le (show s.length < 1000 by omega) (by decide)
      refine ⟨[some d0, some (.int 5), some (.int c), none, some (.int i), some (.str nm), some (.tup (ps.map .str)), some (.int j), some (.str (newM c)), some (.lst true ((s ++ [reR2 nm (newM c) r]).map encR)), some (.str r.1), some (.tup (r.2.map .str)), none, none, none, none], ?_, ?_, _, _, rfl⟩
      · simp only [turn, fz_encR]
        simp only [bindT, encR, Bool.false_eq_true, if_false, List.length_cons, List.length_nil, if_true, setE, List.set_cons_succ, List.set_cons_zero, ook]
        refine (st_nx (Γ' := [some d0, some (.int 5), some (.int c), none, some (.int i), some (.str nm), some (.tup (ps.map .str)), some (.int j), some (.str (newM c)), some (.lst true ((s ++ [reR2 nm (newM c) r]).map encR)), some (.str r.1), some (.tup (r.2.map .str)), none, none, none, none]) ?_).trans rfl
        simp only [exec, evXs, evX, e3, get1, List.getElem?_cons_succ, List.getElem?_cons_zero, ook, bok, hasF_encR, isLst]
        simp [bok, bex, bbd, ofs, ofn, ook, obd, nok, nbd, fzt, fzl, exec, evX, evX_op, evX_call, evXs, ev_c, ev_v, ev_p, ev_call, ev_and, ev_or, ev_not, ev_ite, ev_chain, evL, get1, fz, fzs, prim, pLen, pEq, pCmp, pIn, pIx, pAdd, pSub, pMul, pFdiv, pMod, pPow, pTup, pLst, pTuple, pList, pAll, pInt, pStr, pIsBool, isBl, pCut, asB, truth, hasF, hasFs, plain, runF, eqOk_int, eqOk_str, eqOk_bl, deq_int, deq_str, deq_bl, List.getElem?_cons, List.length_cons, List.length_nil, List.map_cons, List.map_nil, List.cons_append, List.nil_append, List.set_cons_zero, List.set_cons_succ, scal, o_is_letter, x_is_letter, o_is_name, x_is_name, o_is_rule, x_is_rule, o_is_grammar, x_is_grammar, o__law_cell_at, x__law_cell_at, o__law_next, x__law_next, o__law_rule_by, x__law_rule_by, o__law_known, x__law_known, o__law_closed, x__law_closed, o__law_grammar, x__law_grammar, o__law_is_name, x__law_is_name, o__law_good, x__law_good, o__law_odd, x__law_odd, o__law_spoilt, x__law_spoilt, o_law, x_law, mutV, mAppend, hl2, hasF_encR]
      · rw [List.length_append, List.length_singleton]; omega)
    ⟨by simpa using hl1, none, none, rfl⟩
  obtain ⟨_, x10, x11, rfl⟩ := h2
  have hfold : ∀ (xs s : List R), xs.foldl (fun s r => s ++ [reR2 nm (newM c) r]) s = s ++ xs.map (reR2 nm (newM c)) := by
    intro xs
    induction xs with
    | nil => intro s; simp
    | cons x xs ih => intro s; rw [List.foldl_cons, ih]; simp
  rw [hfold, List.nil_append] at h1
  rw [st_nx (Γ' := spE d0 5 c (.lst true (g1.map encR)) i nm ps j (some (.str (newM c))) (some (.lst true ((g1.map (reR2 nm (newM c))).map encR))) x10 x11 none) (by
    rw [fr_goH (ro := ioL none) (d := .lst false (g1.map encR)) (xs := g1.map encR) (dv := .lst true (g1.map encR)) (by simp [spE, bok, bex, bbd, ofs, ofn, ook, obd, nok, nbd, fzt, fzl, exec, evX, evX_op, evX_call, evXs, ev_c, ev_v, ev_p, ev_call, ev_and, ev_or, ev_not, ev_ite, ev_chain, evL, get1, fz, fzs, prim, pLen, pEq, pCmp, pIn, pIx, pAdd, pSub, pMul, pFdiv, pMod, pPow, pTup, pLst, pTuple, pList, pAll, pInt, pStr, pIsBool, isBl, pCut, asB, truth, hasF, hasFs, plain, runF, eqOk_int, eqOk_str, eqOk_bl, deq_int, deq_str, deq_bl, List.getElem?_cons, List.length_cons, List.length_nil, List.map_cons, List.map_nil, List.cons_append, List.nil_append, List.set_cons_zero, List.set_cons_succ, scal, o_is_letter, x_is_letter, o_is_name, x_is_name, o_is_rule, x_is_rule, o_is_grammar, x_is_grammar, o__law_cell_at, x__law_cell_at, o__law_next, x__law_next, o__law_rule_by, x__law_rule_by, o__law_known, x__law_known, o__law_closed, x__law_closed, o__law_grammar, x__law_grammar, o__law_is_name, x__law_is_name, o__law_good, x__law_good, o__law_odd, x__law_odd, o__law_spoilt, x__law_spoilt, o_law, x_law, fzs_encR]) rfl rfl rfl (flats_encR g1) rfl rfl]
    show unhide _ _ (forGo ((turn (C) N false [10, 11] [(.mut 9 .append [(.pure (.p .tup [(.v 10), (.p .tuple [(.lc (.ite (.p .eq [(.v 15), (.v 5)]) (.v 8) (.v 15)) true [15] [15] (.v 11) (.c (.bl true)))])]))])]) [3]) (g1.map encR) [some d0, some (.int 5), some (.int c), none, some (.int i), some (.str nm), some (.tup (ps.map .str)), some (.int j), some (.str (newM c)), some (.lst true []), none, none, none, none, none, none]) = _
    rw [h1]; rfl)]
  refine ⟨_, ?_, some (.str (newM c)), some (.lst false ((g1.map (reR2 nm (newM c))).map encR)), x10, x11, rfl⟩
  rw [hg1, List.map_map]
  simp [spE, bok, bex, bbd, ofs, ofn, ook, obd, nok, nbd, fzt, fzl, exec, evX, evX_op, evX_call, evXs, ev_c, ev_v, ev_p, ev_call, ev_and, ev_or, ev_not, ev_ite, ev_chain, evL, get1, fz, fzs, prim, pLen, pEq, pCmp, pIn, pIx, pAdd, pSub, pMul, pFdiv, pMod, pPow, pTup, pLst, pTuple, pList, pAll, pInt, pStr, pIsBool, isBl, pCut, asB, truth, hasF, hasFs, plain, runF, eqOk_int, eqOk_str, eqOk_bl, deq_int, deq_str, deq_bl, List.getElem?_cons, List.length_cons, List.length_nil, List.map_cons, List.map_nil, List.cons_append, List.nil_append, List.set_cons_zero, List.set_cons_succ, scal, o_is_letter, x_is_letter, o_is_name, x_is_name, o_is_rule, x_is_rule, o_is_grammar, x_is_grammar, o__law_cell_at, x__law_cell_at, o__law_next, x__law_next, o__law_rule_by, x__law_rule_by, o__law_known, x__law_known, o__law_closed, x__law_closed, o__law_grammar, x__law_grammar, o__law_is_name, x__law_is_name, o__law_good, x__law_good, o__law_odd, x__law_odd, o__law_spoilt, x__law_spoilt, o_law, x_law, execs, fzs_encR, frzE, frzGo, vars, Function.comp_def, ioL]
  exact fzs_same _ (fun r => fz_encR _) g
def manyM (c : Int) : Int := pick 0 [0, 40, 41, 39] (c / 64 % 4)
def let6 (k j : Nat) : List Nat := [pick 0 [97, 98, 99, 100, 101, 102] (((0 : Int) + (k : Nat)) / pick 0 [1, 6, 36] (0 + (j : Nat)) % 6)]
def manyR (k : Nat) : R := ([83], (List.range 3).map (let6 k))
theorem manyM_le (c : Int) : 0 ≤ manyM c ∧ manyM c ≤ 41 := by
  have h : manyM c ∈ ([0, 40, 41, 39] : List Int) := pick_mem 0 [0, 40, 41, 39] (c / 64 % 4) (by omega) (by show c / 64 % 4 < 4; omega)
  simp at h
  omega
theorem sp_6 (C : Cl) (d0 : D) (c : Int) (g : List R) (i : Int) (nm : List Nat) (ps : List (List Nat)) (j : Int) :
    execs C N (ioL none) (spE d0 6 c (.lst true (g.map encR)) i nm ps j none none none none none) [(.asg 12 (.pure (.p .ix [(.p .lst [(.c (.int 0)), (.c (.int 40)), (.c (.int 41)), (.c (.int 39))]), (.p .mod [(.p .fdiv [(.v 2), (.c (.int 64))]), (.c (.int 4))])]))), (.asg 3 (.pure (.lc (.p .tup [(.c (.str [83])), (.p .tuple [(.lc (.p .ix [(.c (.str [97, 98, 99, 100, 101, 102])), (.p .mod [(.p .fdiv [(.v 13), (.p .ix [(.p .lst [(.c (.int 1)), (.c (.int 6)), (.c (.int 36))]), (.v 14)])]), (.c (.int 6))])]) true [14] [14] (.p .range [(.c (.int 3))]) (.c (.bl true)))])]) true [13] [13] (.p .range [(.v 12)]) (.c (.bl true)))))] = .nx (spE d0 6 c (.lst true (((List.range (manyM c).toNat).map manyR).map encR)) i nm ps j none none none none (some (.int (manyM c)))) := by
  have hx : ixAt [D.int 0, D.int 40, D.int 41, D.int 39] (c / 64 % 4) = some (.int (manyM c)) := by
    have : ixAt ([0, 40, 41, 39].map D.int) (c / 64 % 4) = some (.int (manyM c)) := by
      rw [ixAt_map, ixAt_pick 0 [0, 40, 41, 39] (c / 64 % 4) (by omega) (by show c / 64 % 4 < 4; omega)]; rfl
    exact this
  obtain ⟨m1, m2⟩ := manyM_le c
  rw [st_nx (Γ' := spE d0 6 c (.lst true (g.map encR)) i nm ps j none none none none (some (.int (manyM c)))) (by simp [spE, bok, bex, bbd, ofs, ofn, ook, obd, nok, nbd, fzt, fzl, exec, evX, evX_op, evX_call, evXs, ev_c, ev_v, ev_p, ev_call, ev_and, ev_or, ev_not, ev_ite, ev_chain, evL, get1, fz, fzs, prim, pLen, pEq, pCmp, pIn, pIx, pAdd, pSub, pMul, pFdiv, pMod, pPow, pTup, pLst, pTuple, pList, pAll, pInt, pStr, pIsBool, isBl, pCut, asB, truth, hasF, hasFs, plain, runF, eqOk_int, eqOk_str, eqOk_bl, deq_int, deq_str, deq_bl, List.getElem?_cons, List.length_cons, List.length_nil, List.map_cons, List.map_nil, List.cons_append, List.nil_append, List.set_cons_zero, List.set_cons_succ, scal, o_is_letter, x_is_letter, o_is_name, x_is_name, o_is_rule, x_is_rule, o_is_grammar, x_is_grammar, o__law_cell_at, x__law_cell_at, o__law_next, x__law_next, o__law_rule_by, x__law_rule_by, o__law_known, x__law_known, o__law_closed, x__law_closed, o__law_grammar, x__law_grammar, o__law_is_name, x__law_is_name, o__law_good, x__law_good, o__law_odd, x__law_odd, o__law_spoilt, x__law_spoilt, o_law, x_law, lim, hx, ioL])]
  obtain ⟨m, hm⟩ : ∃ m : Nat, manyM c = (m : Int) := ⟨(manyM c).toNat, by omega⟩
  rw [hm, Int.toNat_natCast]
  rw [hm] at m2
  have inner : ∀ k : Nat, ev C [some d0, some (.int 6), some (.int c), some (.lst true (g.map encR)), some (.int i), some (.str nm), some (.tup (ps.map .str)), some (.int j), none, none, none, none, some (.int (m : Nat)), some (.int (0 + (k : Nat))), none, none] (.lc (.p .ix [(.c (.str [97, 98, 99, 100, 101, 102])), (.p .mod [(.p .fdiv [(.v 13), (.p .ix [(.p .lst [(.c (.int 1)), (.c (.int 6)), (.c (.int 36))]), (.v 14)])]), (.c (.int 6))])]) true [14] [14] (.p .range [(.c (.int 3))]) (.c (.bl true))) = .ok (.lst true ((List.range 3).map fun q => .str (let6 k q))) := fun k => by
    refine ev_lcme (fun q : Nat => D.int (0 + (q : Nat))) (fun q => .str (let6 k q)) (d := .tup (rangeL 0 3)) (by exact ev_range (m := 3) rfl (by decide)) rfl (by decide) (fun q hq => ?_)
    have hq3 : q < 3 := List.mem_range.mp hq
    have hp : ixAt [D.int 1, D.int 6, D.int 36] ((0 : Int) + (q : Nat)) = some (.int (pick 0 [1, 6, 36] (0 + (q : Nat)))) := by
      have : ixAt ([1, 6, 36].map D.int) ((0 : Int) + (q : Nat)) = some (.int (pick 0 [1, 6, 36] (0 + (q : Nat)))) := by
        rw [ixAt_map, ixAt_pick 0 [1, 6, 36] _ (by omega) (by simp only [List.length_cons, List.length_nil]; omega)]; rfl
      exact this
    have hb : pick 0 [1, 6, 36] ((0 : Int) + (q : Nat)) ∈ ([1, 6, 36] : List Int) := pick_mem 0 _ _ (by omega) (by simp only [List.length_cons, List.length_nil]; omega)
    obtain ⟨b, hbe⟩ : ∃ b : Int, b = pick 0 [1, 6, 36] ((0 : Int) + (q : Nat)) := ⟨_, rfl⟩
    rw [← hbe] at hb
    have hb' : 0 < b ∧ b < 1073741824 := by simp at hb; omega
    have hl := ixAt_pick 0 [97, 98, 99, 100, 101, 102] (((0 : Int) + (k : Nat)) / b % 6) (by omega) (by simp only [List.length_cons, List.length_nil]; omega)
    simp only [lcB, bindT, wipeE, fz]
    unfold let6
    rw [← hbe]
    rw [← hbe] at hp
    simp only [Int.zero_add] at hp hl ⊢
    simp [bok, bex, bbd, ofs, ofn, ook, obd, nok, nbd, fzt, fzl, exec, evX, evX_op, evX_call, evXs, ev_c, ev_v, ev_p, ev_call, ev_and, ev_or, ev_not, ev_ite, ev_chain, evL, get1, fz, fzs, prim, pLen, pEq, pCmp, pIn, pIx, pAdd, pSub, pMul, pFdiv, pMod, pPow, pTup, pLst, pTuple, pList, pAll, pInt, pStr, pIsBool, isBl, pCut, asB, truth, hasF, hasFs, plain, runF, eqOk_int, eqOk_str, eqOk_bl, deq_int, deq_str, deq_bl, List.getElem?_cons, List.length_cons, List.length_nil, List.map_cons, List.map_nil, List.cons_append, List.nil_append, List.set_cons_zero, List.set_cons_succ, scal, o_is_letter, x_is_letter, o_is_name, x_is_name, o_is_rule, x_is_rule, o_is_grammar, x_is_grammar, o__law_cell_at, x__law_cell_at, o__law_next, x__law_next, o__law_rule_by, x__law_rule_by, o__law_known, x__law_known, o__law_closed, x__law_closed, o__law_grammar, x__law_grammar, o__law_is_name, x__law_is_name, o__law_good, x__law_good, o__law_odd, x__law_odd, o__law_spoilt, x__law_spoilt, o_law, x_law, hp, hl, hb', lim]
  have e1 : ev C (spE d0 6 c (.lst true (g.map encR)) i nm ps j none none none none (some (.int (m : Nat)))) (.lc (.p .tup [(.c (.str [83])), (.p .tuple [(.lc (.p .ix [(.c (.str [97, 98, 99, 100, 101, 102])), (.p .mod [(.p .fdiv [(.v 13), (.p .ix [(.p .lst [(.c (.int 1)), (.c (.int 6)), (.c (.int 36))]), (.v 14)])]), (.c (.int 6))])]) true [14] [14] (.p .range [(.c (.int 3))]) (.c (.bl true)))])]) true [13] [13] (.p .range [(.v 12)]) (.c (.bl true))) = .ok (.lst true ((List.range m).map fun k => encR (manyR k))) := by
    refine ev_lcme (fun k : Nat => D.int (0 + (k : Nat))) (fun k => encR (manyR k)) (d := .tup (rangeL 0 m)) (by exact ev_range rfl (by omega)) rfl (by rw [List.length_range]; exact Nat.le_trans (show m ≤ 41 by omega) (by decide)) (fun k hk => ?_)
    have i2 := inner k
    show ((ev C [some d0, some (.int 6), some (.int c), some (.lst true (g.map encR)), some (.int i), some (.str nm), some (.tup (ps.map .str)), some (.int j), none, none, none, none, some (.int (m : Nat)), some (.int (0 + (k : Nat))), none, none] (.p .tup [.c (.str [83]), .p .tuple [(.lc (.p .ix [(.c (.str [97, 98, 99, 100, 101, 102])), (.p .mod [(.p .fdiv [(.v 13), (.p .ix [(.p .lst [(.c (.int 1)), (.c (.int 6)), (.c (.int 36))]), (.v 14)])]), (.c (.int 6))])]) true [14] [14] (.p .range [(.c (.int 3))]) (.c (.bl true)))]])).bind fun y => Rs.ok (some y)) = _
    have e3 : ev C [some d0, some (.int 6), some (.int c), some (.lst true (g.map encR)), some (.int i), some (.str nm), some (.tup (ps.map .str)), some (.int j), none, none, none, none, some (.int (m : Nat)), some (.int (0 + (k : Nat))), none, none] (.p .tup [.c (.str [83]), .p .tuple [(.lc (.p .ix [(.c (.str [97, 98, 99, 100, 101, 102])), (.p .mod [(.p .fdiv [(.v 13), (.p .ix [(.p .lst [(.c (.int 1)), (.c (.int 6)), (.c (.int 36))]), (.v 14)])]), (.c (.int 6))])]) true [14] [14] (.p .range [(.c (.int 3))]) (.c (.bl true)))]]) = .ok (encR (manyR k)) := by
      show ((Rs.ok (D.str [83])).bind fun d => (((((ev C _ _).bind fun d => (Rs.ok []).bind fun ds => Rs.ok (d :: ds)).bind fun ds => Rs.of (pTuple ds)).bind fun d => (Rs.ok []).bind fun ds => Rs.ok (d :: ds))).bind fun ds => Rs.ok (d :: ds)).bind (fun ds => Rs.of (pTup ds)) = _
      rw [i2]; rfl
    rw [e3]; rfl
  have hf : hasF (D.lst true ((List.range m).map fun k => encR (manyR k))) = false := by
    show (false || hasFs ((List.range m).map fun k => encR (manyR k))) = false
    rw [hasFs_none _ (fun r => hasF_encR _)]; rfl
  rw [st_nx (asg_pure e1 hf rfl), execs0, List.map_map]
  rfl
end RW

namespace RW
open PySem L2
variable {N n : Nat}
/-! ### the spoilt grammar -/
def spoiltW (g : List R) (w c : Int) (i : Int) (r : R) (j : Int) : List R :=
  if w = 0 then g.take (c / 64 % ((g.length : Int) + 1)).toNat ++ r :: g.drop (c / 64 % ((g.length : Int) + 1)).toNat
  else if w = 1 then g.set i.toNat (r.1, cutL r.2 none (some j) ++ [oddM (c / 512)] ++ cutL r.2 (some j) none)
  else if w = 2 then g.set i.toNat (oddM (c / 512), r.2)
  else if w = 3 then g.set i.toNat (r.1, cutL (r.2 ++ List.replicate 8 [97]) none (some (6 + c / 64 % 3)))
  else if w = 4 then g.eraseIdx i.toNat
  else if w = 5 then g.map (fun q => reR2 r.1 (newM c) (reR1 r.1 (newM c) q))
  else (List.range (manyM c).toNat).map manyR
theorem newM_len (c : Int) : (newM c).length ≤ 1000 := by
  have h : newM c ∈ newL := pick_mem [] newL (c / 64 % 5) (by omega) (by show c / 64 % 5 < 5; omega)
  have : ∀ s ∈ newL, s.length ≤ 1000 := by decide
  exact this _ h
theorem reN_len {nm nw x : List Nat} (h1 : nw.length ≤ 1000) (h2 : x.length ≤ 1000) : (reN nm nw x).length ≤ 1000 := by
  unfold reN; split
  · exact h1
  · exact h2
/-- what is spoilt is no greater than the walk wants -/
theorem spoilt_fine (g : List R) (w c i : Int) (r : R) (j : Int) (hs : ∀ r ∈ g, SzR r) (h6 : ∀ r ∈ g, r.2.length ≤ 100) (hl : g.length ≤ 100) (hr : r ∈ g) : (∀ q ∈ spoiltW g w c i r j, SzR q) ∧ (spoiltW g w c i r j).length ≤ 1000 := by
  obtain ⟨r1, r2, r3⟩ := hs r hr
  have r6 := h6 r hr
  unfold spoiltW
  split
  · refine ⟨fun q hq => ?_, by simp only [List.length_append, List.length_take, List.length_cons, List.length_drop]; omega⟩
    rcases List.mem_append.mp hq with z | z
    · exact hs q (List.mem_of_mem_take z)
    · rcases List.mem_cons.mp z with z | z
      · rw [z]; exact hs r hr
      · exact hs q (List.mem_of_mem_drop z)
  · split
    · refine ⟨fun q hq => ?_, by rw [List.length_set]; omega⟩
      rcases List.mem_or_eq_of_mem_set hq with z | z
      · exact hs q z
      · rw [z]
        refine ⟨r1, ?_, fun p hp => ?_⟩
        · have l1 := cutL_len r.2 none (some j)
          have l2 := cutL_len r.2 (some j) none
          simp only [List.length_append, List.length_singleton]; omega
        · simp only [List.mem_append, List.mem_singleton] at hp
          rcases hp with (z | z) | z
          · exact r3 p (cutL_mem2 z)
          · rw [z]; exact oddM_len _
          · exact r3 p (cutL_mem2 z)
    · split
      · refine ⟨fun q hq => ?_, by rw [List.length_set]; omega⟩
        rcases List.mem_or_eq_of_mem_set hq with z | z
        · exact hs q z
        · rw [z]; exact ⟨oddM_len _, r2, r3⟩
      · split
        · refine ⟨fun q hq => ?_, by rw [List.length_set]; omega⟩
          rcases List.mem_or_eq_of_mem_set hq with z | z
          · exact hs q z
          · rw [z]
            refine ⟨r1, ?_, fun p hp => ?_⟩
            · refine Nat.le_trans (cutL_len _ _ _) ?_
              rw [List.length_append, List.length_replicate]; omega
            · rcases List.mem_append.mp (cutL_mem2 hp) with z | z
              · exact r3 p z
              · rw [List.eq_of_mem_replicate z]; decide
        · split
          · exact ⟨fun q hq => hs q (List.mem_of_mem_eraseIdx hq), Nat.le_trans (List.length_eraseIdx_le _ _) (by omega)⟩
          · split
            · refine ⟨fun q hq => ?_, by rw [List.length_map]; omega⟩
              obtain ⟨p, hp, rfl⟩ := List.mem_map.mp hq
              obtain ⟨p1, p2, p3⟩ := hs p hp
              refine ⟨reN_len (newM_len c) p1, by show (List.map _ _).length ≤ _; rw [List.length_map]; exact p2, fun x hx => ?_⟩
              obtain ⟨y, hy, rfl⟩ := List.mem_map.mp hx
              exact reN_len (newM_len c) (p3 y hy)
            · obtain ⟨m1, m2⟩ := manyM_le c
              refine ⟨fun q hq => ?_, by rw [List.length_map, List.length_range]; omega⟩
              obtain ⟨k, _, rfl⟩ := List.mem_map.mp hq
              refine ⟨by show 1 ≤ 1000; decide, by show (List.map _ _).length ≤ _; rw [List.length_map, List.length_range]; decide, fun x hx => ?_⟩
              obtain ⟨y, hy, rfl⟩ := List.mem_map.mp hx
              show (List.length [_]) ≤ 1000
              simp
def spoiltM (g : List R) (w c : Int) : List R :=
  spoiltW g w c (c % (g.length : Int)) (pick ([], []) g (c % (g.length : Int))) (c / 64 % (((pick ([], []) g (c % (g.length : Int))).2.length : Int) + 1))
theorem spoiltM_fine (g : List R) (w c : Int) (hs : ∀ r ∈ g, SzR r) (h6 : ∀ r ∈ g, r.2.length ≤ 100) (hl : g.length ≤ 100) (hn : g ≠ []) : (∀ q ∈ spoiltM g w c, SzR q) ∧ (spoiltM g w c).length ≤ 1000 := by
  have h0 : 0 < (g.length : Int) := by have := List.length_pos_iff.mpr hn; omega
  exact spoilt_fine g w c _ _ _ hs h6 hl (pick_mem _ g _ (Int.emod_nonneg _ (by omega)) (Int.emod_lt_of_pos _ h0))
theorem r_spoilt (g : List R) (h6 : ∀ r ∈ g, r.2.length ≤ 100) (hl : g.length ≤ 100) (hn : g ≠ []) (w c : Int) (hw : 0 ≤ w ∧ w < 7) :
    ∃ o, (cl T N (n + 2)).run i__law_spoilt [.lst false (g.map encR), .int w, .int c] = .ok (.lst o ((spoiltM g w c).map encR), none) := by
  rw [run_go (id := i__law_spoilt) (Γ0 := [some (.lst false (g.map encR)), some (.int w), some (.int c), none, none, none, none, none, none, none, none, none, none, none, none, none]) rfl rfl rfl]
  have h0 : 0 < (g.length : Int) := by have := List.length_pos_iff.mpr hn; omega
  unfold spoiltM
  obtain ⟨i, hi⟩ : ∃ i, i = c % (g.length : Int) := ⟨_, rfl⟩
  have hi0 : 0 ≤ i := by rw [hi]; exact Int.emod_nonneg _ (by omega)
  have hi1 : i < g.length := by rw [hi]; exact Int.emod_lt_of_pos _ h0
  rw [← hi]
  obtain ⟨r, hr⟩ : ∃ r, r = pick ([], []) g i := ⟨_, rfl⟩
  have hg : ixAt g i = some r := by rw [hr]; exact ixAt_pick _ g i hi0 hi1
  have hm : r ∈ g := by rw [hr]; exact pick_mem _ g i hi0 hi1
  rw [← hr]
  obtain ⟨nm, ps⟩ := r
  have hps := h6 _ hm
  simp only at hps ⊢
  obtain ⟨j, hj⟩ : ∃ j, j = c / 64 % ((ps.length : Int) + 1) := ⟨_, rfl⟩
  rw [← hj]
  have hx : ixAt (g.map encR) i = some (encR (nm, ps)) := by rw [ixAt_map, hg]; rfl
  have hps1 : 0 < (ps.length : Int) + 1 := by omega
  rw [st_nx (Γ' := [some (.lst false (g.map encR)), some (.int w), some (.int c), some (.lst true (g.map encR)), none, none, none, none, none, none, none, none, none, none, none, none]) (by
    simp [bok, bex, bbd, ofs, ofn, ook, obd, nok, nbd, fzt, fzl, exec, evX, evX_op, evX_call, evXs, ev_c, ev_v, ev_p, ev_call, ev_and, ev_or, ev_not, ev_ite, ev_chain, evL, get1, fz, fzs, prim, pLen, pEq, pCmp, pIn, pIx, pAdd, pSub, pMul, pFdiv, pMod, pPow, pTup, pLst, pTuple, pList, pAll, pInt, pStr, pIsBool, isBl, pCut, asB, truth, hasF, hasFs, plain, runF, eqOk_int, eqOk_str, eqOk_bl, deq_int, deq_str, deq_bl, List.getElem?_cons, List.length_cons, List.length_nil, List.map_cons, List.map_nil, List.cons_append, List.nil_append, List.set_cons_zero, List.set_cons_succ, scal, o_is_letter, x_is_letter, o_is_name, x_is_name, o_is_rule, x_is_rule, o_is_grammar, x_is_grammar, o__law_cell_at, x__law_cell_at, o__law_next, x__law_next, o__law_rule_by, x__law_rule_by, o__law_known, x__law_known, o__law_closed, x__law_closed, o__law_grammar, x__law_grammar, o__law_is_name, x__law_is_name, o__law_good, x__law_good, o__law_odd, x__law_odd, o__law_spoilt, x__law_spoilt, o_law, x_law, ioL, fzs_encR, hasFs_encR])]
  rw [st_nx (Γ' := [some (.lst false (g.map encR)), some (.int w), some (.int c), some (.lst true (g.map encR)), some (.int i), none, none, none, none, none, none, none, none, none, none, none]) (by
    simp [bok, bex, bbd, ofs, ofn, ook, obd, nok, nbd, fzt, fzl, exec, evX, evX_op, evX_call, evXs, ev_c, ev_v, ev_p, ev_call, ev_and, ev_or, ev_not, ev_ite, ev_chain, evL, get1, fz, fzs, prim, pLen, pEq, pCmp, pIn, pIx, pAdd, pSub, pMul, pFdiv, pMod, pPow, pTup, pLst, pTuple, pList, pAll, pInt, pStr, pIsBool, isBl, pCut, asB, truth, hasF, hasFs, plain, runF, eqOk_int, eqOk_str, eqOk_bl, deq_int, deq_str, deq_bl, List.getElem?_cons, List.length_cons, List.length_nil, List.map_cons, List.map_nil, List.cons_append, List.nil_append, List.set_cons_zero, List.set_cons_succ, scal, o_is_letter, x_is_letter, o_is_name, x_is_name, o_is_rule, x_is_rule, o_is_grammar, x_is_grammar, o__law_cell_at, x__law_cell_at, o__law_next, x__law_next, o__law_rule_by, x__law_rule_by, o__law_known, x__law_known, o__law_closed, x__law_closed, o__law_grammar, x__law_grammar, o__law_is_name, x__law_is_name, o__law_good, x__law_good, o__law_odd, x__law_odd, o__law_spoilt, x__law_spoilt, o_law, x_law, ioL, fzs_encR, List.length_pos_iff.mpr hn, hi])]
  rw [st_nx (Γ' := [some (.lst false (g.map encR)), some (.int w), some (.int c), some (.lst true (g.map encR)), some (.int i), some (.str nm), some (.tup (ps.map .str)), none, none, none, none, none, none, none, none, none]) (by
    have e : encR (nm, ps) = .tup [.str nm, .tup (ps.map .str)] := rfl
    simp [bok, bex, bbd, ofs, ofn, ook, obd, nok, nbd, fzt, fzl, exec, evX, evX_op, evX_call, evXs, ev_c, ev_v, ev_p, ev_call, ev_and, ev_or, ev_not, ev_ite, ev_chain, evL, get1, fz, fzs, prim, pLen, pEq, pCmp, pIn, pIx, pAdd, pSub, pMul, pFdiv, pMod, pPow, pTup, pLst, pTuple, pList, pAll, pInt, pStr, pIsBool, isBl, pCut, asB, truth, hasF, hasFs, plain, runF, eqOk_int, eqOk_str, eqOk_bl, deq_int, deq_str, deq_bl, List.getElem?_cons, List.length_cons, List.length_nil, List.map_cons, List.map_nil, List.cons_append, List.nil_append, List.set_cons_zero, List.set_cons_succ, scal, o_is_letter, x_is_letter, o_is_name, x_is_name, o_is_rule, x_is_rule, o_is_grammar, x_is_grammar, o__law_cell_at, x__law_cell_at, o__law_next, x__law_next, o__law_rule_by, x__law_rule_by, o__law_known, x__law_known, o__law_closed, x__law_closed, o__law_grammar, x__law_grammar, o__law_is_name, x__law_is_name, o__law_good, x__law_good, o__law_odd, x__law_odd, o__law_spoilt, x__law_spoilt, o_law, x_law, ioL, fzs_encR, hx, hasF_encR, e, fzs_str, hasFs_str, bindT, setE])]
  rw [st_nx (Γ' := spE (.lst false (g.map encR)) w c (.lst true (g.map encR)) i nm ps j none none none none none) (by
    simp [bok, bex, bbd, ofs, ofn, ook, obd, nok, nbd, fzt, fzl, exec, evX, evX_op, evX_call, evXs, ev_c, ev_v, ev_p, ev_call, ev_and, ev_or, ev_not, ev_ite, ev_chain, evL, get1, fz, fzs, prim, pLen, pEq, pCmp, pIn, pIx, pAdd, pSub, pMul, pFdiv, pMod, pPow, pTup, pLst, pTuple, pList, pAll, pInt, pStr, pIsBool, isBl, pCut, asB, truth, hasF, hasFs, plain, runF, eqOk_int, eqOk_str, eqOk_bl, deq_int, deq_str, deq_bl, List.getElem?_cons, List.length_cons, List.length_nil, List.map_cons, List.map_nil, List.cons_append, List.nil_append, List.set_cons_zero, List.set_cons_succ, scal, o_is_letter, x_is_letter, o_is_name, x_is_name, o_is_rule, x_is_rule, o_is_grammar, x_is_grammar, o__law_cell_at, x__law_cell_at, o__law_next, x__law_next, o__law_rule_by, x__law_rule_by, o__law_known, x__law_known, o__law_closed, x__law_closed, o__law_grammar, x__law_grammar, o__law_is_name, x__law_is_name, o__law_good, x__law_good, o__law_odd, x__law_odd, o__law_spoilt, x__law_spoilt, o_law, x_law, ioL, spE, fzs_str, hps1, hj])]
  have hw' : w = 0 ∨ w = 1 ∨ w = 2 ∨ w = 3 ∨ w = 4 ∨ w = 5 ∨ w = 6 := by omega
  rcases hw' with rfl | rfl | rfl | rfl | rfl | rfl | rfl
  · refine ⟨true, ?_⟩
    rw [take_nx rfl (sp_0 _ _ c g i (nm, ps) nm ps j hg hl)]
    iterate 6 rw [skip (w := 0) rfl (by decide)]
    rfl
  · refine ⟨true, ?_⟩
    rw [skip (w := 1) rfl (by decide)]
    rw [take_nx rfl (sp_put _ _ 1 c g i _ nm ps j _ hi0 hi1 (sp_1 _ c g i nm ps j hps))]
    iterate 5 rw [skip (w := 1) rfl (by decide)]
    rfl
  · refine ⟨true, ?_⟩
    iterate 2 rw [skip (w := 2) rfl (by decide)]
    rw [take_nx rfl (sp_put _ _ 2 c g i _ nm ps j _ hi0 hi1 (sp_2 _ c g i nm ps j))]
    iterate 4 rw [skip (w := 2) rfl (by decide)]
    rfl
  · refine ⟨true, ?_⟩
    iterate 3 rw [skip (w := 3) rfl (by decide)]
    rw [take_nx rfl (sp_put _ _ 3 c g i _ nm ps j _ hi0 hi1 (sp_3 _ c g i nm ps j hps))]
    iterate 3 rw [skip (w := 3) rfl (by decide)]
    rfl
  · refine ⟨true, ?_⟩
    iterate 4 rw [skip (w := 4) rfl (by decide)]
    rw [take_nx rfl (sp_4 _ _ c g i nm ps j hi0 hi1 hl)]
    iterate 2 rw [skip (w := 4) rfl (by decide)]
    rfl
  · refine ⟨false, ?_⟩
    iterate 5 rw [skip (w := 5) rfl (by decide)]
    obtain ⟨Γ', e1, x8, x9, x10, x11, e2⟩ := sp_5 (N := N) (cl T N (n + 1)) (.lst false (g.map encR)) c g i nm ps j (fun r hr => Nat.le_trans (h6 r hr) (by decide)) hl
    rw [take_nx rfl e1, e2]
    rw [skip (w := 5) rfl (by decide)]
    rfl
  · refine ⟨true, ?_⟩
    iterate 6 rw [skip (w := 6) rfl (by decide)]
    rw [take_nx rfl (sp_6 _ _ c g i nm ps j)]
    rfl
/-! ### the law -/
theorem ite_go {C : Cl} {N : Nat} {ro : List Nat} {Γ : En} {c : E} {a b : List S} {k : Bool} (h : ev C Γ c = .ok (.bl k)) : exec C N ro Γ (.ite c a b) = if k = true then execs C N ro Γ a else execs C N ro Γ b := by
  show ((ev C Γ c).bind asB).out Γ (fun k => if k then execs C N ro Γ a else execs C N ro Γ b) = _
  rw [h]; rfl
theorem deps_le : ∀ (xs : List D) (k : Nat), (∀ x ∈ xs, ∃ j, dep x = some j ∧ j ≤ k) → ∃ j, deps xs = some j ∧ j ≤ k
  | [], k, _ => ⟨0, rfl, Nat.zero_le _⟩
  | x :: xs, k, h => by
    obtain ⟨a, h1, h2⟩ := h x List.mem_cons_self
    obtain ⟨b, h3, h4⟩ := deps_le xs k (fun y hy => h y (List.mem_cons_of_mem _ hy))
    refine ⟨max a b, ?_, by omega⟩
    show (match dep x, deps xs with | some a, some b => some (max a b) | _, _ => none) = _
    rw [h1, h3]
theorem deq_gs (g : List R) : deqs (g.map encR) (g.map encR) = true := by
  induction g with
  | nil => rfl
  | cons r g ih => show (deq (encR r) (encR r) && deqs (g.map encR) (g.map encR)) = true; rw [ih, deq_encR]; simp
theorem law_end (g : List R) (x0 x1 x3 : D) (hs : ∀ r ∈ g, SzR r) (hl : g.length ≤ 1000) (o : Bool) : outR none (execs (cl T N (n + 3)) N (ioL none) [some x0, some x1, some (.lst o (g.map encR)), some x3, none, none] [.asg 4 (.pure (.p .list [(.v 2)])), .asg 5 (.pure (.call i_is_grammar [(.v 4)])), .ret (.pure (.and (.p .isBool [(.v 5)]) (.and (.p .eq [(.v 5), (.call i__law_good [(.v 2)])]) (.p .eq [(.v 4), (.v 2)]))))]) = .ok (.bl true, none) := by
  have hg := r_is_grammar (N := N) (n := n) g true hs hl
  have hq := r_law_good (N := N) (n := n + 1) g hs hl
  rw [st_nx (Γ' := [some x0, some x1, some (.lst o (g.map encR)), some x3, some (.lst true (g.map encR)), none]) (by simp [bok, bex, bbd, ofs, ofn, ook, obd, nok, nbd, fzt, fzl, exec, evX, evX_op, evX_call, evXs, ev_c, ev_v, ev_p, ev_call, ev_and, ev_or, ev_not, ev_ite, ev_chain, evL, get1, fz, fzs, prim, pLen, pEq, pCmp, pIn, pIx, pAdd, pSub, pMul, pFdiv, pMod, pPow, pTup, pLst, pTuple, pList, pAll, pInt, pStr, pIsBool, isBl, pCut, asB, truth, hasF, hasFs, plain, runF, eqOk_int, eqOk_str, eqOk_bl, deq_int, deq_str, deq_bl, List.getElem?_cons, List.length_cons, List.length_nil, List.map_cons, List.map_nil, List.cons_append, List.nil_append, List.set_cons_zero, List.set_cons_succ, scal, o_is_letter, x_is_letter, o_is_name, x_is_name, o_is_rule, x_is_rule, o_is_grammar, x_is_grammar, o__law_cell_at, x__law_cell_at, o__law_next, x__law_next, o__law_rule_by, x__law_rule_by, o__law_known, x__law_known, o__law_closed, x__law_closed, o__law_grammar, x__law_grammar, o__law_is_name, x__law_is_name, o__law_good, x__law_good, o__law_odd, x__law_odd, o__law_spoilt, x__law_spoilt, o_law, x_law, ioL, fzs_encR, hasFs_encR])]
  rw [st_nx (Γ' := [some x0, some x1, some (.lst o (g.map encR)), some x3, some (.lst true (g.map encR)), some (.bl (gramM g))]) (by simp [bok, bex, bbd, ofs, ofn, ook, obd, nok, nbd, fzt, fzl, exec, evX, evX_op, evX_call, evXs, ev_c, ev_v, ev_p, ev_call, ev_and, ev_or, ev_not, ev_ite, ev_chain, evL, get1, fz, fzs, prim, pLen, pEq, pCmp, pIn, pIx, pAdd, pSub, pMul, pFdiv, pMod, pPow, pTup, pLst, pTuple, pList, pAll, pInt, pStr, pIsBool, isBl, pCut, asB, truth, hasF, hasFs, plain, runF, eqOk_int, eqOk_str, eqOk_bl, deq_int, deq_str, deq_bl, List.getElem?_cons, List.length_cons, List.length_nil, List.map_cons, List.map_nil, List.cons_append, List.nil_append, List.set_cons_zero, List.set_cons_succ, scal, o_is_letter, x_is_letter, o_is_name, x_is_name, o_is_rule, x_is_rule, o_is_grammar, x_is_grammar, o__law_cell_at, x__law_cell_at, o__law_next, x__law_next, o__law_rule_by, x__law_rule_by, o__law_known, x__law_known, o__law_closed, x__law_closed, o__law_grammar, x__law_grammar, o__law_is_name, x__law_is_name, o__law_good, x__law_good, o__law_odd, x__law_odd, o__law_spoilt, x__law_spoilt, o_law, x_law, ioL, fzs_encR, hg])]
  have he : pEq false [.lst false (g.map encR), .lst false (g.map encR)] = some (.bl true) := by
    show (if eqOk 190 (.lst false (g.map encR)) = true ∧ eqOk 190 (.lst false (g.map encR)) = true then some (D.bl (deqs (g.map encR) (g.map encR) != false)) else none) = _
    rw [if_pos ⟨eqOk_encRs 190 (by decide) _ _, eqOk_encRs 190 (by decide) _ _⟩, deq_gs]; rfl
  have e3 : ev (cl T N (n + 3)) [some x0, some x1, some (.lst o (g.map encR)), some x3, some (.lst true (g.map encR)), some (.bl (gramM g))] (.p .eq [(.v 4), (.v 2)]) = .ok (.bl true) := by
    show ((Rs.ok (D.lst false (fzs (g.map encR)))).bind fun d => ((Rs.ok (D.lst false (fzs (g.map encR)))).bind fun d => (Rs.ok []).bind fun ds => Rs.ok (d :: ds)).bind fun ds => Rs.ok (d :: ds)).bind (fun ds => Rs.of (pEq false ds)) = _
    rw [fzs_encR]
    show Rs.of (pEq false [.lst false (g.map encR), .lst false (g.map encR)]) = _
    rw [he]; rfl
  have e2 : ev (cl T N (n + 3)) [some x0, some x1, some (.lst o (g.map encR)), some x3, some (.lst true (g.map encR)), some (.bl (gramM g))] (.p .eq [(.v 5), (.call i__law_good [(.v 2)])]) = .ok (.bl true) := by
    have e := gram_good g
    rw [e]
    simp [bok, bex, bbd, ofs, ofn, ook, obd, nok, nbd, fzt, fzl, exec, evX, evX_op, evX_call, evXs, ev_c, ev_v, ev_p, ev_call, ev_and, ev_or, ev_not, ev_ite, ev_chain, evL, get1, fz, fzs, prim, pLen, pEq, pCmp, pIn, pIx, pAdd, pSub, pMul, pFdiv, pMod, pPow, pTup, pLst, pTuple, pList, pAll, pInt, pStr, pIsBool, isBl, pCut, asB, truth, hasF, hasFs, plain, runF, eqOk_int, eqOk_str, eqOk_bl, deq_int, deq_str, deq_bl, List.getElem?_cons, List.length_cons, List.length_nil, List.map_cons, List.map_nil, List.cons_append, List.nil_append, List.set_cons_zero, List.set_cons_succ, scal, o_is_letter, x_is_letter, o_is_name, x_is_name, o_is_rule, x_is_rule, o_is_grammar, x_is_grammar, o__law_cell_at, x__law_cell_at, o__law_next, x__law_next, o__law_rule_by, x__law_rule_by, o__law_known, x__law_known, o__law_closed, x__law_closed, o__law_grammar, x__law_grammar, o__law_is_name, x__law_is_name, o__law_good, x__law_good, o__law_odd, x__law_odd, o__law_spoilt, x__law_spoilt, o_law, x_law, fzs_encR, hq]
  have e1 : ev (cl T N (n + 3)) [some x0, some x1, some (.lst o (g.map encR)), some x3, some (.lst true (g.map encR)), some (.bl (gramM g))] (.and (.p .isBool [(.v 5)]) (.and (.p .eq [(.v 5), (.call i__law_good [(.v 2)])]) (.p .eq [(.v 4), (.v 2)]))) = .ok (.bl true) := by
    rw [ev_and, ev_and, e2, e3]; rfl
  rw [st_rt (Γ' := [some x0, some x1, some (.lst o (g.map encR)), some x3, some (.lst true (g.map encR)), some (.bl (gramM g))]) (d := .bl true) (by
    show ((ev (cl T N (n + 3)) _ _).bind _).out _ _ = _
    rw [e1]; rfl)]
  rfl
theorem law_run (ns : List Int) : (cl T N (n + 4)).run i_law [.scr ns] = .ok (.bl true, none) := by
  rw [run_go (id := i_law) (Γ0 := [some (.scr ns), none, none, none, none, none]) rfl rfl rfl]
  have hgr := r_grammar (N := N) (n := n) ns 2
  have hc0 := r_cell_at (N := N) (n := n + 2) ns 0
  have hc1 := r_cell_at (N := N) (n := n + 2) ns 1
  obtain ⟨s1, s2, s3⟩ := grammarM_sr ns 2
  obtain ⟨⟨g, k⟩, hgk⟩ : ∃ p, p = grammarM ns 2 := ⟨_, rfl⟩
  rw [← hgk] at hgr s1 s2 s3
  simp only at hgr s1 s2 s3
  rw [st_nx (Γ' := [some (.scr ns), some (.lst true [.int 2]), none, none, none, none]) (by simp [bok, bex, bbd, ofs, ofn, ook, obd, nok, nbd, fzt, fzl, exec, evX, evX_op, evX_call, evXs, ev_c, ev_v, ev_p, ev_call, ev_and, ev_or, ev_not, ev_ite, ev_chain, evL, get1, fz, fzs, prim, pLen, pEq, pCmp, pIn, pIx, pAdd, pSub, pMul, pFdiv, pMod, pPow, pTup, pLst, pTuple, pList, pAll, pInt, pStr, pIsBool, isBl, pCut, asB, truth, hasF, hasFs, plain, runF, eqOk_int, eqOk_str, eqOk_bl, deq_int, deq_str, deq_bl, List.getElem?_cons, List.length_cons, List.length_nil, List.map_cons, List.map_nil, List.cons_append, List.nil_append, List.set_cons_zero, List.set_cons_succ, scal, o_is_letter, x_is_letter, o_is_name, x_is_name, o_is_rule, x_is_rule, o_is_grammar, x_is_grammar, o__law_cell_at, x__law_cell_at, o__law_next, x__law_next, o__law_rule_by, x__law_rule_by, o__law_known, x__law_known, o__law_closed, x__law_closed, o__law_grammar, x__law_grammar, o__law_is_name, x__law_is_name, o__law_good, x__law_good, o__law_odd, x__law_odd, o__law_spoilt, x__law_spoilt, o_law, x_law, ioL, lim])]
  rw [st_nx (Γ' := [some (.scr ns), some (.lst true [.int (k : Nat)]), some (.lst true (g.map encR)), none, none, none]) (by
    have hgr' : (cl T N (n + 3)).run 9 [.scr ns, .lst true [.int 2]] = _ := hgr
    simp [bok, bex, bbd, ofs, ofn, ook, obd, nok, nbd, fzt, fzl, exec, evX, evX_op, evX_call, evXs, ev_c, ev_v, ev_p, ev_call, ev_and, ev_or, ev_not, ev_ite, ev_chain, evL, get1, fz, fzs, prim, pLen, pEq, pCmp, pIn, pIx, pAdd, pSub, pMul, pFdiv, pMod, pPow, pTup, pLst, pTuple, pList, pAll, pInt, pStr, pIsBool, isBl, pCut, asB, truth, hasF, hasFs, plain, runF, eqOk_int, eqOk_str, eqOk_bl, deq_int, deq_str, deq_bl, List.getElem?_cons, List.length_cons, List.length_nil, List.map_cons, List.map_nil, List.cons_append, List.nil_append, List.set_cons_zero, List.set_cons_succ, scal, o_is_letter, x_is_letter, o_is_name, x_is_name, o_is_rule, x_is_rule, o_is_grammar, x_is_grammar, o__law_cell_at, x__law_cell_at, o__law_next, x__law_next, o__law_rule_by, x__law_rule_by, o__law_known, x__law_known, o__law_closed, x__law_closed, o__law_grammar, x__law_grammar, o__law_is_name, x__law_is_name, o__law_good, x__law_good, o__law_odd, x__law_odd, o__law_spoilt, x__law_spoilt, o_law, x_law, ioL, frzE, frzGo, vars, ioArgs, hgr'])]
  rw [st_nx (Γ' := [some (.scr ns), some (.lst true [.int (k : Nat)]), some (.lst true (g.map encR)), some (.int (cellM ns 0)), none, none]) (by
    have h : (cl T N (n + 3)).run 4 [.scr ns, .int 0] = _ := hc0
    simp [bok, bex, bbd, ofs, ofn, ook, obd, nok, nbd, fzt, fzl, exec, evX, evX_op, evX_call, evXs, ev_c, ev_v, ev_p, ev_call, ev_and, ev_or, ev_not, ev_ite, ev_chain, evL, get1, fz, fzs, prim, pLen, pEq, pCmp, pIn, pIx, pAdd, pSub, pMul, pFdiv, pMod, pPow, pTup, pLst, pTuple, pList, pAll, pInt, pStr, pIsBool, isBl, pCut, asB, truth, hasF, hasFs, plain, runF, eqOk_int, eqOk_str, eqOk_bl, deq_int, deq_str, deq_bl, List.getElem?_cons, List.length_cons, List.length_nil, List.map_cons, List.map_nil, List.cons_append, List.nil_append, List.set_cons_zero, List.set_cons_succ, scal, o_is_letter, x_is_letter, o_is_name, x_is_name, o_is_rule, x_is_rule, o_is_grammar, x_is_grammar, o__law_cell_at, x__law_cell_at, o__law_next, x__law_next, o__law_rule_by, x__law_rule_by, o__law_known, x__law_known, o__law_closed, x__law_closed, o__law_grammar, x__law_grammar, o__law_is_name, x__law_is_name, o__law_good, x__law_good, o__law_odd, x__law_odd, o__law_spoilt, x__law_spoilt, o_law, x_law, ioL, h])]
  have fine0 : (∀ r ∈ g, SzR r) ∧ g.length ≤ 1000 := ⟨fun r hr => (s1 r hr).sz, by omega⟩
  by_cases hc : cellM ns 0 % 4 > 0
  · obtain ⟨o, hsp⟩ := r_spoilt (N := N) (n := n + 1) g (fun r hr => Nat.le_trans (s1 r hr).2.1 (by decide)) (by omega) s3 (cellM ns 0 / 4 % 7) (cellM ns 1 % 1000000000) (by omega)
    have hf := spoiltM_fine g (cellM ns 0 / 4 % 7) (cellM ns 1 % 1000000000) (fun r hr => (s1 r hr).sz) (fun r hr => Nat.le_trans (s1 r hr).2.1 (by decide)) (by omega) s3
    have hst : ∃ x1', execs (cl T N (n + 3)) N (ioL none) [some (.scr ns), some (.lst true [.int (k : Nat)]), some (.lst true (g.map encR)), some (.int (cellM ns 0)), none, none] [(.asg 2 (.pure (.call i__law_spoilt [(.v 2), (.p .mod [(.p .fdiv [(.v 3), (.c (.int 4))]), (.c (.int 7))]), (.p .mod [(.call i__law_cell_at [(.v 0), (.c (.int 1))]), (.p .pow [(.c (.int 10)), (.c (.int 9))])])])))] = .nx [some (.scr ns), some x1', some (.lst o ((spoiltM g (cellM ns 0 / 4 % 7) (cellM ns 1 % 1000000000)).map encR)), some (.int (cellM ns 0)), none, none] := by
      have h : (cl T N (n + 3)).run 4 [.scr ns, .int 1] = _ := hc1
      cases o <;> exact ⟨.lst true [.int (k : Nat)], by simp [bok, bex, bbd, ofs, ofn, ook, obd, nok, nbd, fzt, fzl, exec, evX, evX_op, evX_call, evXs, ev_c, ev_v, ev_p, ev_call, ev_and, ev_or, ev_not, ev_ite, ev_chain, evL, get1, fz, fzs, prim, pLen, pEq, pCmp, pIn, pIx, pAdd, pSub, pMul, pFdiv, pMod, pPow, pTup, pLst, pTuple, pList, pAll, pInt, pStr, pIsBool, isBl, pCut, asB, truth, hasF, hasFs, plain, runF, eqOk_int, eqOk_str, eqOk_bl, deq_int, deq_str, deq_bl, List.getElem?_cons, List.length_cons, List.length_nil, List.map_cons, List.map_nil, List.cons_append, List.nil_append, List.set_cons_zero, List.set_cons_succ, scal, o_is_letter, x_is_letter, o_is_name, x_is_name, o_is_rule, x_is_rule, o_is_grammar, x_is_grammar, o__law_cell_at, x__law_cell_at, o__law_next, x__law_next, o__law_rule_by, x__law_rule_by, o__law_known, x__law_known, o__law_closed, x__law_closed, o__law_grammar, x__law_grammar, o__law_is_name, x__law_is_name, o__law_good, x__law_good, o__law_odd, x__law_odd, o__law_spoilt, x__law_spoilt, o_law, x_law, execs, ioL, frzE, frzGo, vars, varsL, h, hsp, fzs_encR, hasFs_encR]⟩
    obtain ⟨x1', hst⟩ := hst
    rw [st_nx (Γ' := [some (.scr ns), some x1', some (.lst o ((spoiltM g (cellM ns 0 / 4 % 7) (cellM ns 1 % 1000000000)).map encR)), some (.int (cellM ns 0)), none, none]) (by
      have e : ev (cl T N (n + 3)) [some (.scr ns), some (.lst true [.int (k : Nat)]), some (.lst true (g.map encR)), some (.int (cellM ns 0)), none, none] (.p .gt [(.p .mod [(.v 3), (.c (.int 4))]), (.c (.int 0))]) = .ok (.bl true) := by simp [bok, bex, bbd, ofs, ofn, ook, obd, nok, nbd, fzt, fzl, exec, evX, evX_op, evX_call, evXs, ev_c, ev_v, ev_p, ev_call, ev_and, ev_or, ev_not, ev_ite, ev_chain, evL, get1, fz, fzs, prim, pLen, pEq, pCmp, pIn, pIx, pAdd, pSub, pMul, pFdiv, pMod, pPow, pTup, pLst, pTuple, pList, pAll, pInt, pStr, pIsBool, isBl, pCut, asB, truth, hasF, hasFs, plain, runF, eqOk_int, eqOk_str, eqOk_bl, deq_int, deq_str, deq_bl, List.getElem?_cons, List.length_cons, List.length_nil, List.map_cons, List.map_nil, List.cons_append, List.nil_append, List.set_cons_zero, List.set_cons_succ, scal, o_is_letter, x_is_letter, o_is_name, x_is_name, o_is_rule, x_is_rule, o_is_grammar, x_is_grammar, o__law_cell_at, x__law_cell_at, o__law_next, x__law_next, o__law_rule_by, x__law_rule_by, o__law_known, x__law_known, o__law_closed, x__law_closed, o__law_grammar, x__law_grammar, o__law_is_name, x__law_is_name, o__law_good, x__law_good, o__law_odd, x__law_odd, o__law_spoilt, x__law_spoilt, o_law, x_law, hc]
      rw [ite_go e]; exact hst)]
    rw [law_end _ _ _ _ hf.1 hf.2]; rfl
  · rw [st_nx (Γ' := [some (.scr ns), some (.lst true [.int (k : Nat)]), some (.lst true (g.map encR)), some (.int (cellM ns 0)), none, none]) (by
      have e : ev (cl T N (n + 3)) [some (.scr ns), some (.lst true [.int (k : Nat)]), some (.lst true (g.map encR)), some (.int (cellM ns 0)), none, none] (.p .gt [(.p .mod [(.v 3), (.c (.int 4))]), (.c (.int 0))]) = .ok (.bl false) := by simp [bok, bex, bbd, ofs, ofn, ook, obd, nok, nbd, fzt, fzl, exec, evX, evX_op, evX_call, evXs, ev_c, ev_v, ev_p, ev_call, ev_and, ev_or, ev_not, ev_ite, ev_chain, evL, get1, fz, fzs, prim, pLen, pEq, pCmp, pIn, pIx, pAdd, pSub, pMul, pFdiv, pMod, pPow, pTup, pLst, pTuple, pList, pAll, pInt, pStr, pIsBool, isBl, pCut, asB, truth, hasF, hasFs, plain, runF, eqOk_int, eqOk_str, eqOk_bl, deq_int, deq_str, deq_bl, List.getElem?_cons, List.length_cons, List.length_nil, List.map_cons, List.map_nil, List.cons_append, List.nil_append, List.set_cons_zero, List.set_cons_succ, scal, o_is_letter, x_is_letter, o_is_name, x_is_name, o_is_rule, x_is_rule, o_is_grammar, x_is_grammar, o__law_cell_at, x__law_cell_at, o__law_next, x__law_next, o__law_rule_by, x__law_rule_by, o__law_known, x__law_known, o__law_closed, x__law_closed, o__law_grammar, x__law_grammar, o__law_is_name, x__law_is_name, o__law_good, x__law_good, o__law_odd, x__law_odd, o__law_spoilt, x__law_spoilt, o_law, x_law]; omega
      rw [ite_go e]; rfl)]
    rw [law_end _ _ _ _ fine0.1 fine0.2]; rfl
theorem law_holds : ∀ ns : List Int, ns.length ≤ 63 → ∃ N, (cl T N 30).run i_law [.scr ns] = .ok (.bl true, none) := fun ns _ => ⟨0, law_run (n := 26) ns⟩
end RW

namespace RW
open PySem L2 PySem.Spec PyProof.Rows
def top (i : Nat) : Stmt := PySem.Challenge.pw_rulewright_k01_grammars_looked_at.main.body.getD i (.Pass ⟨0, 0, 0, 0⟩)
abbrev s_is_letter : Stmt := top 7
abbrev s_is_name : Stmt := top 8
abbrev s_is_rule : Stmt := top 9
abbrev s_is_grammar : Stmt := top 10
abbrev s__law_cell_at : Stmt := top 12
abbrev s__law_next : Stmt := top 13
abbrev s__law_rule_by : Stmt := top 14
abbrev s__law_known : Stmt := top 15
abbrev s__law_closed : Stmt := top 16
abbrev s__law_grammar : Stmt := top 17
abbrev s__law_is_name : Stmt := top 18
abbrev s__law_good : Stmt := top 19
abbrev s__law_odd : Stmt := top 20
abbrev s__law_spoilt : Stmt := top 21
abbrev s_law : Stmt := top 22
/-- what stands behind the top -/
structure Txt (K : PySem.W.Frag) (mg : Str → Option Value) (a : Nat → Addr) (d : Nat → FuncData) : Prop where
  f0 : Fun K "is_letter" "is_letter" s_is_letter (a 0) (d 0)
  b0 : Binds K (d 0) ["part"] []
  m0 : mg "is_letter" = some (.ref (a 0))
  f1 : Fun K "is_name" "is_name" s_is_name (a 1) (d 1)
  b1 : Binds K (d 1) ["part"] []
  m1 : mg "is_name" = some (.ref (a 1))
  f2 : Fun K "is_rule" "is_rule" s_is_rule (a 2) (d 2)
  b2 : Binds K (d 2) ["rule"] []
  m2 : mg "is_rule" = some (.ref (a 2))
  f3 : Fun K "is_grammar" "is_grammar" s_is_grammar (a 3) (d 3)
  b3 : Binds K (d 3) ["grammar"] []
  m3 : mg "is_grammar" = some (.ref (a 3))
  f4 : Fun K "_law_cell_at" "_law_cell_at" s__law_cell_at (a 4) (d 4)
  b4 : Binds K (d 4) ["script", "k"] []
  m4 : mg "_law_cell_at" = some (.ref (a 4))
  f5 : Fun K "_law_next" "_law_next" s__law_next (a 5) (d 5)
  b5 : Binds K (d 5) ["script", "spot"] []
  m5 : mg "_law_next" = some (.ref (a 5))
  f6 : Fun K "_law_rule_by" "_law_rule_by" s__law_rule_by (a 6) (d 6)
  b6 : Binds K (d 6) ["cell"] []
  m6 : mg "_law_rule_by" = some (.ref (a 6))
  f7 : Fun K "_law_known" "_law_known" s__law_known (a 7) (d 7)
  b7 : Binds K (d 7) ["number"] []
  m7 : mg "_law_known" = some (.ref (a 7))
  f8 : Fun K "_law_closed" "_law_closed" s__law_closed (a 8) (d 8)
  b8 : Binds K (d 8) ["rules"] []
  m8 : mg "_law_closed" = some (.ref (a 8))
  f9 : Fun K "_law_grammar" "_law_grammar" s__law_grammar (a 9) (d 9)
  b9 : Binds K (d 9) ["script", "spot"] []
  m9 : mg "_law_grammar" = some (.ref (a 9))
  f10 : Fun K "_law_is_name" "_law_is_name" s__law_is_name (a 10) (d 10)
  b10 : Binds K (d 10) ["part"] []
  m10 : mg "_law_is_name" = some (.ref (a 10))
  f11 : Fun K "_law_good" "_law_good" s__law_good (a 11) (d 11)
  b11 : Binds K (d 11) ["grammar"] []
  m11 : mg "_law_good" = some (.ref (a 11))
  f12 : Fun K "_law_odd" "_law_odd" s__law_odd (a 12) (d 12)
  b12 : Binds K (d 12) ["cell"] []
  m12 : mg "_law_odd" = some (.ref (a 12))
  f13 : Fun K "_law_spoilt" "_law_spoilt" s__law_spoilt (a 13) (d 13)
  b13 : Binds K (d 13) ["grammar", "way", "cell"] []
  m13 : mg "_law_spoilt" = some (.ref (a 13))
  f14 : Fun K "law" "law" s_law (a 14) (d 14)
  b14 : Binds K (d 14) ["script"] []
  m14 : mg "law" = some (.ref (a 14))
  z_all : mg "all" = none
  z_bool : mg "bool" = none
  z_enumerate : mg "enumerate" = none
  z_isinstance : mg "isinstance" = none
  z_len : mg "len" = none
  z_list : mg "list" = none
  z_range : mg "range" = none
  z_tuple : mg "tuple" = none
  c_CAPITALS : ∃ t, mg "CAPITALS" = some (.str (mkS [65, 66, 67, 68, 69, 70, 71, 72, 73, 74, 75, 76, 77, 78, 79, 80, 81, 82, 83, 84, 85, 86, 87, 88, 89, 90]) t)
  c_FIGURES : ∃ t, mg "FIGURES" = some (.str (mkS [48, 49, 50, 51, 52, 53, 54, 55, 56, 57]) t)
  c_LETTERS : ∃ t, mg "LETTERS" = some (.str (mkS [97, 98, 99, 100, 101, 102, 103, 104, 105, 106, 107, 108, 109, 110, 111, 112, 113, 114, 115, 116, 117, 118, 119, 120, 121, 122]) t)
  c_MOST_NAME : ∃ t, mg "MOST_NAME" = some (.int 8 t)
  c_MOST_PARTS : ∃ t, mg "MOST_PARTS" = some (.int 6 t)
  c_MOST_RULES : ∃ t, mg "MOST_RULES" = some (.int 40 t)
/-- what the defs promise, k calls deep -/
structure All (P : Program) (w : World) (K : PySem.W.Frag) (mg : Str → Option Value) (base : Heap) (a : Nat → Addr) (d : Nat → FuncData) (n k : Nat) : Prop where
  f0 : FnOk P w K mg base CX0 k (a 0) (d 0) ["part"] (spC ⟨P, w, K⟩ mg (cl T n k) i_is_letter 1)
  f1 : FnOk P w K mg base CX0 k (a 1) (d 1) ["part"] (spC ⟨P, w, K⟩ mg (cl T n k) i_is_name 1)
  f2 : FnOk P w K mg base CX0 k (a 2) (d 2) ["rule"] (spC ⟨P, w, K⟩ mg (cl T n k) i_is_rule 1)
  f3 : FnOk P w K mg base CX0 k (a 3) (d 3) ["grammar"] (spC ⟨P, w, K⟩ mg (cl T n k) i_is_grammar 1)
  f4 : FnOk P w K mg base CX0 k (a 4) (d 4) ["script", "k"] (spC ⟨P, w, K⟩ mg (cl T n k) i__law_cell_at 2)
  f5 : FnOk P w K mg base CX0 k (a 5) (d 5) ["script", "spot"] (spC ⟨P, w, K⟩ mg (cl T n k) i__law_next 2)
  f6 : FnOk P w K mg base CX0 k (a 6) (d 6) ["cell"] (spC ⟨P, w, K⟩ mg (cl T n k) i__law_rule_by 1)
  f7 : FnOk P w K mg base CX0 k (a 7) (d 7) ["number"] (spC ⟨P, w, K⟩ mg (cl T n k) i__law_known 1)
  f8 : FnOk P w K mg base CX0 k (a 8) (d 8) ["rules"] (spC ⟨P, w, K⟩ mg (cl T n k) i__law_closed 1)
  f9 : FnOk P w K mg base CX0 k (a 9) (d 9) ["script", "spot"] (spC ⟨P, w, K⟩ mg (cl T n k) i__law_grammar 2)
  f10 : FnOk P w K mg base CX0 k (a 10) (d 10) ["part"] (spC ⟨P, w, K⟩ mg (cl T n k) i__law_is_name 1)
  f11 : FnOk P w K mg base CX0 k (a 11) (d 11) ["grammar"] (spC ⟨P, w, K⟩ mg (cl T n k) i__law_good 1)
  f12 : FnOk P w K mg base CX0 k (a 12) (d 12) ["cell"] (spC ⟨P, w, K⟩ mg (cl T n k) i__law_odd 1)
  f13 : FnOk P w K mg base CX0 k (a 13) (d 13) ["grammar", "way", "cell"] (spC ⟨P, w, K⟩ mg (cl T n k) i__law_spoilt 3)
  f14 : FnOk P w K mg base CX0 k (a 14) (d 14) ["script"] (spC ⟨P, w, K⟩ mg (cl T n k) i_law 1)
section
variable {P : Program} {w : World} {K : PySem.W.Frag} {mg : Str → Option Value} {base : Heap} {a : Nat → Addr} {d : Nat → FuncData} {n k : Nat}
theorem sc_is_letter : FnScope ["part"] ["part"] (defScope s_is_letter) := ⟨rfl, rfl, rfl, by decide +kernel, rfl, by decide +kernel, by decide +kernel⟩
theorem d_is_letter (t : Txt K mg a d) (ih : All P w K mg base a d n k) : FnOk P w K mg base CX0 (k + 1) (a 0) (d 0) ["part"] (spC ⟨P, w, K⟩ mg (cl T n (k + 1)) i_is_letter 1) := by
  have sc := sc_is_letter
  refine fn0 (Fm := m_is_letter) t.f0 sc rfl rfl rfl rfl (fun _ z => nomatch z) (fun cdv A outer s H E ro hr => ?_)
  exact (sss_cons (ss_ret (sx_pure (se_and (se_cmp (o_eq (hu200 hr)) p2_eq (se_callB o_len primC_len t.z_len PySem.boot_len (ses_cons (se_v 0) ses_nil)) se_int) (se_one (se_cmp (o_in (hu200 hr)) p2_in (se_v 0) (se_glS t.c_LETTERS (by decide)))))))
      sss_nil)
theorem sc_is_name : FnScope ["part", "sign"] ["part"] (defScope s_is_name) := ⟨rfl, rfl, rfl, by decide +kernel, rfl, by decide +kernel, by decide +kernel⟩
theorem d_is_name (t : Txt K mg a d) (ih : All P w K mg base a d n k) : FnOk P w K mg base CX0 (k + 1) (a 1) (d 1) ["part"] (spC ⟨P, w, K⟩ mg (cl T n (k + 1)) i_is_name 1) := by
  have sc := sc_is_name
  refine fn0 (Fm := m_is_name) t.f1 sc rfl rfl rfl rfl (fun _ z => nomatch z) (fun cdv A outer s H E ro hr => ?_)
  exact (sss_cons (ss_if (st_w (sw_or (st_not (st_chain op_le op_le (p2_cmp rfl) (p2_cmp rfl) se_int (se_callB o_len primC_len t.z_len PySem.boot_len (ses_cons (se_v 0) ses_nil)) (se_glI t.c_MOST_NAME))) (sw_or1 (st_cmp (o_notIn (hu200 hr)) p2_notIn (se_ix (o_ix (hu20 hr)) p2_ix (se_v 0) se_int) (se_glS t.c_CAPITALS (by decide)))))) (sss_cons (ss_ret (sx_pure se_bl))
      sss_nil) sss_nil)
      (sss_cons (ss_ret (sx_pure (se_callB (cr_all rfl) primC_all t.z_all PyProof.Rows.boot_all (ses_cons (se_lc (own := [("sign", 1)]) (is := [1]) rfl sc.nd (si_seq (se_v 0)) (blkOk_by (N := ["part", "sign"]) (sc := (defScope s_is_name)) (by decide +kernel)) (by decide) (fun _ _ _ _ _ => (sg_name sc.nd)) (fun _ _ _ _ _ => sts_none) (fun _ _ _ _ _ => (se_or (se_cmp (o_in (hu200 hr)) p2_in (se_v 1) (se_glS t.c_CAPITALS (by decide))) (se_one (se_cmp (o_in (hu200 hr)) p2_in (se_v 1) (se_glS t.c_FIGURES (by decide))))))) ses_nil))))
      sss_nil))
theorem sc_is_rule : FnScope ["rule", "name", "parts", "part"] ["rule"] (defScope s_is_rule) := ⟨rfl, rfl, rfl, by decide +kernel, rfl, by decide +kernel, by decide +kernel⟩
theorem d_is_rule (t : Txt K mg a d) (ih : All P w K mg base a d n k) : FnOk P w K mg base CX0 (k + 1) (a 2) (d 2) ["rule"] (spC ⟨P, w, K⟩ mg (cl T n (k + 1)) i_is_rule 1) := by
  have sc := sc_is_rule
  refine fn0 (Fm := m_is_rule) t.f2 sc rfl rfl rfl rfl (fun _ z => nomatch z) (fun cdv A outer s H E ro hr => ?_)
  exact (sss_cons (ss_unp (sx_pure (se_v 0)) (sg_two rfl sc.nd))
      (sss_cons (ss_if (st_w (sw_or (st_not (st_val (se_callT (Fm := m_is_name) rfl ih.f1 hr t.m1 t.f1.kp t.b1 (ses_cons (se_v 1) ses_nil)))) (sw_or1 (st_cmp op_gt (p2_cmp rfl) (se_callB o_len primC_len t.z_len PySem.boot_len (ses_cons (se_v 2) ses_nil)) (se_glI t.c_MOST_PARTS))))) (sss_cons (ss_ret (sx_pure se_bl))
      sss_nil) sss_nil)
      (sss_cons (ss_ret (sx_pure (se_callB (cr_all rfl) primC_all t.z_all PyProof.Rows.boot_all (ses_cons (se_lc (own := [("part", 3)]) (is := [3]) rfl sc.nd (si_seq (se_v 2)) (blkOk_by (N := ["rule", "name", "parts", "part"]) (sc := (defScope s_is_rule)) (by decide +kernel)) (by decide) (fun _ _ _ _ _ => (sg_name sc.nd)) (fun _ _ _ _ _ => sts_none) (fun _ _ _ _ _ => (se_or (se_callT (Fm := m_is_letter) rfl ih.f0 hr t.m0 t.f0.kp t.b0 (ses_cons (se_v 3) ses_nil)) (se_one (se_callT (Fm := m_is_name) rfl ih.f1 hr t.m1 t.f1.kp t.b1 (ses_cons (se_v 3) ses_nil)))))) ses_nil))))
      sss_nil)))
theorem sc_is_grammar : FnScope ["grammar", "known", "rule", "ruled", "part"] ["grammar"] (defScope s_is_grammar) := ⟨rfl, rfl, rfl, by decide +kernel, rfl, by decide +kernel, by decide +kernel⟩
theorem d_is_grammar (t : Txt K mg a d) (ih : All P w K mg base a d n k) : FnOk P w K mg base CX0 (k + 1) (a 3) (d 3) ["grammar"] (spC ⟨P, w, K⟩ mg (cl T n (k + 1)) i_is_grammar 1) := by
  have sc := sc_is_grammar
  refine fn0 (Fm := m_is_grammar) t.f3 sc rfl rfl rfl rfl (fun _ z => nomatch z) (fun cdv A outer s H E ro hr => ?_)
  exact (sss_cons (ss_if (st_not (st_chain op_le op_le (p2_cmp rfl) (p2_cmp rfl) se_int (se_callB o_len primC_len t.z_len PySem.boot_len (ses_cons (se_v 0) ses_nil)) (se_glI t.c_MOST_RULES))) (sss_cons (ss_ret (sx_pure se_bl))
      sss_nil) sss_nil)
      (sss_cons (ss_asg 1 sc.nd (sx_pure se_dict0))
      (sss_cons (ss_for (hide := (some 0)) PassesOwn.never rfl (si_seq (se_v 0)) (sg_name sc.nd) (fun ro => (sss_cons (ss_if (st_w (sw_or (st_not (st_val (se_callT (Fm := m_is_rule) rfl ih.f2 hr t.m2 t.f2.kp t.b2 (ses_cons (se_v 2) ses_nil)))) (sw_or1 (st_cmp (o_in (hu200 hr)) p2_in (se_v 2) (se_v 1))))) (sss_cons (ss_ret (sx_pure se_bl))
      sss_nil) sss_nil)
      (sss_cons (ss_put 1 (hu20 hr) (sx_pure se_bl) (se_v 2))
      sss_nil))) (fun _ z => by cases z; rfl))
      (sss_cons (ss_asg 3 sc.nd (sx_pure (se_lc (own := [("rule", 2)]) (is := [2]) rfl sc.nd (si_seq (se_v 0)) (blkOk_by (N := ["grammar", "known", "rule", "ruled", "part"]) (sc := (defScope s_is_grammar)) (by decide +kernel)) (by decide) (fun _ _ _ _ _ => (sg_name sc.nd)) (fun _ _ _ _ _ => sts_none) (fun _ _ _ _ _ => (se_ix (o_ix (hu20 hr)) p2_ix (se_v 2) se_int)))))
      (sss_cons (ss_for (hide := (some 0)) PassesOwn.never rfl (si_seq (se_v 0)) (sg_name sc.nd) (fun ro => (sss_cons (ss_if (st_not (st_val (se_callB (cr_all rfl) primC_all t.z_all PyProof.Rows.boot_all (ses_cons (se_lc (own := [("part", 4)]) (is := [4]) rfl sc.nd (si_seq (se_ix (o_ix (hu20 hr)) p2_ix (se_v 2) se_int)) (blkOk_by (N := ["grammar", "known", "rule", "ruled", "part"]) (sc := (defScope s_is_grammar)) (by decide +kernel)) (by decide) (fun _ _ _ _ _ => (sg_name sc.nd)) (fun _ _ _ _ _ => sts_none) (fun _ _ _ _ _ => (se_or (se_callT (Fm := m_is_letter) rfl ih.f0 hr t.m0 t.f0.kp t.b0 (ses_cons (se_v 4) ses_nil)) (se_one (se_cmp (o_in (hu200 hr)) p2_in (se_v 4) (se_v 3)))))) ses_nil)))) (sss_cons (ss_ret (sx_pure se_bl))
      sss_nil) sss_nil)
      sss_nil)) (fun _ z => by cases z; rfl))
      (sss_cons (ss_ret (sx_pure se_bl))
      sss_nil))))))
theorem sc__law_cell_at : FnScope ["script", "k"] ["script", "k"] (defScope s__law_cell_at) := ⟨rfl, rfl, rfl, by decide +kernel, rfl, by decide +kernel, by decide +kernel⟩
theorem d__law_cell_at (t : Txt K mg a d) (ih : All P w K mg base a d n k) : FnOk P w K mg base CX0 (k + 1) (a 4) (d 4) ["script", "k"] (spC ⟨P, w, K⟩ mg (cl T n (k + 1)) i__law_cell_at 2) := by
  have sc := sc__law_cell_at
  refine fn0 (Fm := m__law_cell_at) t.f4 sc rfl rfl rfl rfl (fun _ z => nomatch z) (fun cdv A outer s H E ro hr => ?_)
  exact (sss_cons (ss_if (st_cmp op_lt (p2_cmp rfl) (se_v 1) (se_callB o_len primC_len t.z_len PySem.boot_len (ses_cons (se_v 0) ses_nil))) (sss_cons (ss_ret (sx_pure (se_ix (o_ix (hu20 hr)) p2_ix (se_v 0) (se_v 1))))
      sss_nil) sss_nil)
      (sss_cons (ss_ret (sx_pure se_int))
      sss_nil))
theorem sc__law_next : FnScope ["script", "spot"] ["script", "spot"] (defScope s__law_next) := ⟨rfl, rfl, rfl, by decide +kernel, rfl, by decide +kernel, by decide +kernel⟩
theorem d__law_next (t : Txt K mg a d) (ih : All P w K mg base a d n k) : FnOk P w K mg base CX0 (k + 1) (a 5) (d 5) ["script", "spot"] (spC ⟨P, w, K⟩ mg (cl T n (k + 1)) i__law_next 2) := by
  have sc := sc__law_next
  refine fn0 (Fm := m__law_next) t.f5 sc rfl rfl rfl rfl (fun _ z => by cases z; decide) (fun cdv A outer s H E ro hr => ?_)
  exact (sss_cons (ss_put 1 (hu20 hr) (sx_pure (se_op o_add p2_add (se_ix (o_ix (hu20 hr)) p2_ix (se_v 1) se_int) se_int)) se_int)
      (sss_cons (ss_ret (sx_pure (se_callT (Fm := m__law_cell_at) rfl ih.f4 hr t.m4 t.f4.kp t.b4 (ses_cons (se_v 0) (ses_cons (se_op op_sub p2_sub (se_ix (o_ix (hu20 hr)) p2_ix (se_v 1) se_int) se_int) ses_nil)))))
      sss_nil))
theorem sc__law_rule_by : FnScope ["cell", "parts", "left", "k"] ["cell"] (defScope s__law_rule_by) := ⟨rfl, rfl, rfl, by decide +kernel, rfl, by decide +kernel, by decide +kernel⟩
theorem d__law_rule_by (t : Txt K mg a d) (ih : All P w K mg base a d n k) : FnOk P w K mg base CX0 (k + 1) (a 6) (d 6) ["cell"] (spC ⟨P, w, K⟩ mg (cl T n (k + 1)) i__law_rule_by 1) := by
  have sc := sc__law_rule_by
  refine fn0 (Fm := m__law_rule_by) t.f6 sc rfl rfl rfl rfl (fun _ z => nomatch z) (fun cdv A outer s H E ro hr => ?_)
  exact (sss_cons (ss_asg 1 sc.nd (sx_pure (se_lst ses_nil)))
      (sss_cons (ss_asg 2 sc.nd (sx_pure (se_op op_fdiv p2_fdiv (se_v 0) se_int)))
      (sss_cons (ss_for (hide := none) PassesOwn.never rfl (si_range1 (se_op op_mod p2_mod (se_op op_fdiv p2_fdiv (se_v 0) se_int) se_int) t.z_range) (sg_name sc.nd) (fun ro => (sss_cons (ss_mut 1 PySem.F.slot_list_append PySem.F.type_list_append mt_append mtOk_append (sxs_cons (fun _ => rfl) (sx_pure (se_ix (o_ix (hu20 hr)) p2_ix (se_str [97, 98, 99, 83, 65, 66]) (se_op op_mod p2_mod (se_v 2) se_int))) sxs_nil))
      (sss_cons (ss_asg 2 sc.nd (sx_pure (se_op op_fdiv p2_fdiv (se_v 2) se_int)))
      sss_nil))) (fun _ z => nomatch z))
      (sss_cons (ss_ret (sx_pure (se_tup (ses_cons (se_ix (o_ix (hu20 hr)) p2_ix (se_str [83, 65, 66]) (se_op op_mod p2_mod (se_v 0) se_int)) (ses_cons (se_callTy call_tuple_of primC_tuple t.z_tuple PyProof.Rows.boot_tuple (ses_cons (se_v 1) ses_nil)) ses_nil)))))
      sss_nil))))
theorem sc__law_known : FnScope ["number", "some", "rules", "word", "name", "parts"] ["number"] (defScope s__law_known) := ⟨rfl, rfl, rfl, by decide +kernel, rfl, by decide +kernel, by decide +kernel⟩
theorem d__law_known (t : Txt K mg a d) (ih : All P w K mg base a d n k) : FnOk P w K mg base CX0 (k + 1) (a 7) (d 7) ["number"] (spC ⟨P, w, K⟩ mg (cl T n (k + 1)) i__law_known 1) := by
  have sc := sc__law_known
  refine fn0 (Fm := m__law_known) t.f7 sc rfl rfl rfl rfl (fun _ z => nomatch z) (fun cdv A outer s H E ro hr => ?_)
  exact (sss_cons (ss_asg 1 sc.nd (sx_pure (se_lst (ses_cons (se_str [83, 61, 97, 83, 98, 83, 32, 83, 61]) (ses_cons (se_str [83, 61, 83, 97, 65, 32, 83, 61, 65, 32, 65, 61, 98, 32, 65, 61, 99, 83, 99]) (ses_cons (se_str [83, 61, 97, 83, 97, 32, 83, 61, 98, 83, 98, 32, 83, 61, 97, 32, 83, 61, 98, 32, 83, 61]) (ses_cons (se_str [83, 61, 97, 83, 32, 83, 61, 97, 83, 98, 83, 32, 83, 61, 99]) ses_nil)))))))
      (sss_cons (ss_asg 1 sc.nd (sx_pure (se_op o_add p2_add (se_v 1) (se_lst (ses_cons (se_str [83, 61, 65, 83, 32, 83, 61, 65, 32, 65, 61, 97, 32, 65, 61, 98]) (ses_cons (se_str [83, 61, 65, 66, 32, 65, 61, 32, 65, 61, 97, 32, 66, 61, 65, 32, 66, 61, 98]) (ses_cons (se_str [83, 61, 65, 32, 83, 61, 97, 32, 65, 61, 83, 32, 65, 61, 98]) (ses_cons (se_str [83, 61, 97, 83, 98, 32, 83, 61, 97, 98]) ses_nil))))))))
      (sss_cons (ss_asg 1 sc.nd (sx_pure (se_op o_add p2_add (se_v 1) (se_lst (ses_cons (se_str [83, 61, 83, 83, 32, 83, 61, 97]) (ses_cons (se_str [83, 61, 97, 65, 97, 32, 83, 61, 98, 65, 98, 32, 83, 61, 97, 66, 98, 32, 83, 61, 98, 66, 97, 32, 65, 61, 99, 32, 66, 61, 99]) (ses_cons (se_str [83, 61, 97, 32, 83, 61, 65, 32, 65, 61, 97, 65]) (ses_cons (se_str [83, 61, 97, 98, 32, 65, 61, 98, 83]) ses_nil))))))))
      (sss_cons (ss_asg 1 sc.nd (sx_pure (se_op o_add p2_add (se_v 1) (se_lst (ses_cons (se_str [83, 61, 65, 83, 98, 32, 83, 61, 97, 32, 65, 61, 32, 65, 61, 99]) (ses_cons (se_str [83, 61, 97, 83, 83, 32, 83, 61, 98]) (ses_cons (se_str [83, 61, 65, 32, 65, 61, 66, 32, 66, 61, 83, 32, 66, 61, 99]) (ses_cons (se_str [83, 61, 83, 65, 83, 32, 83, 61, 97, 32, 65, 61, 98, 32, 65, 61, 99]) ses_nil))))))))
      (sss_cons (ss_asg 2 sc.nd (sx_pure (se_lst ses_nil)))
      (sss_cons (ss_for (hide := none) PassesOwn.never rfl (si_seq (se_mth PySem.F.plainAttrs_str PySem.F.slot_str_split PySem.F.type_str_split mt_split chk_str primM_split (se_ix (o_ix (hu20 hr)) p2_ix (se_v 1) (se_op op_mod p2_mod (se_v 0) se_int)) (ses_cons (se_str [32]) ses_nil))) (sg_name sc.nd) (fun ro => (sss_cons (ss_unp (sx_pure (se_mth PySem.F.plainAttrs_str PySem.F.slot_str_split PySem.F.type_str_split mt_split chk_str primM_split (se_v 3) (ses_cons (se_str [61]) ses_nil))) (sg_two rfl sc.nd))
      (sss_cons (ss_mut 2 PySem.F.slot_list_append PySem.F.type_list_append mt_append mtOk_append (sxs_cons (fun _ => rfl) (sx_pure (se_tup (ses_cons (se_v 4) (ses_cons (se_callTy call_tuple_of primC_tuple t.z_tuple PyProof.Rows.boot_tuple (ses_cons (se_callTy (o_list2 rfl) primC_list t.z_list PyProof.Rows.boot_list (ses_cons (se_v 5) ses_nil)) ses_nil)) ses_nil)))) sxs_nil))
      sss_nil))) (fun _ z => nomatch z))
      (sss_cons (ss_retv 2)
      sss_nil)))))))
theorem sc__law_closed : FnScope ["rules", "found", "rule", "name", "has", "used"] ["rules"] (defScope s__law_closed) := ⟨rfl, rfl, rfl, by decide +kernel, rfl, by decide +kernel, by decide +kernel⟩
theorem d__law_closed (t : Txt K mg a d) (ih : All P w K mg base a d n k) : FnOk P w K mg base CX0 (k + 1) (a 8) (d 8) ["rules"] (spC ⟨P, w, K⟩ mg (cl T n (k + 1)) i__law_closed 1) := by
  have sc := sc__law_closed
  refine fn0 (Fm := m__law_closed) t.f8 sc rfl rfl rfl rfl (fun _ z => nomatch z) (fun cdv A outer s H E ro hr => ?_)
  exact (sss_cons (ss_asg 1 sc.nd (sx_pure (se_lst ses_nil)))
      (sss_cons (ss_for (hide := (some 0)) PassesOwn.never rfl (si_seq (se_v 0)) (sg_name sc.nd) (fun ro => (sss_cons (ss_if (st_cmp (o_notIn (hu200 hr)) p2_notIn (se_v 2) (se_v 1)) (sss_cons (ss_mut 1 PySem.F.slot_list_append PySem.F.type_list_append mt_append mtOk_append (sxs_cons (fun _ => rfl) (sx_pure (se_v 2)) sxs_nil))
      sss_nil) sss_nil)
      sss_nil)) (fun _ z => by cases z; rfl))
      (sss_cons (ss_for (hide := none) PassesOwn.never rfl (si_seq (se_lst (ses_cons (se_str [83]) (ses_cons (se_str [65]) (ses_cons (se_str [66]) ses_nil))))) (sg_name sc.nd) (fun ro => (sss_cons (ss_asgLc 4 (own := [("rule", 2)]) (is := [2]) rfl sc.nd (si_seq (se_v 1)) (blkOk_by (N := ["rules", "found", "rule", "name", "has", "used"]) (sc := (defScope s__law_closed)) (by decide +kernel)) (by decide) (fun _ _ _ _ _ => (sg_name sc.nd)) (fun _ _ _ _ _ => (sts_one (st_cmp (o_eq (hu200 hr)) p2_eq (se_ix (o_ix (hu20 hr)) p2_ix (se_v 2) se_int) (se_v 3)))) (fun _ _ _ _ _ => (se_v 2)) (sw_true rfl rfl rfl (by decide +kernel)))
      (sss_cons (ss_asgLc 5 (own := [("rule", 2)]) (is := [2]) rfl sc.nd (si_seq (se_v 1)) (blkOk_by (N := ["rules", "found", "rule", "name", "has", "used"]) (sc := (defScope s__law_closed)) (by decide +kernel)) (by decide) (fun _ _ _ _ _ => (sg_name sc.nd)) (fun _ _ _ _ _ => (sts_one (st_cmp (o_in (hu200 hr)) p2_in (se_v 3) (se_ix (o_ix (hu20 hr)) p2_ix (se_v 2) se_int)))) (fun _ _ _ _ _ => (se_v 2)) (sw_true rfl rfl rfl (by decide +kernel)))
      (sss_cons (ss_if (st_w (sw_and (st_cmp op_gt (p2_cmp rfl) (se_callB o_len primC_len t.z_len PySem.boot_len (ses_cons (se_v 5) ses_nil)) se_int) (sw_and1 (st_cmp (o_eq (hu200 hr)) p2_eq (se_callB o_len primC_len t.z_len PySem.boot_len (ses_cons (se_v 4) ses_nil)) se_int)))) (sss_cons (ss_mut 1 PySem.F.slot_list_append PySem.F.type_list_append mt_append mtOk_append (sxs_cons (fun _ => rfl) (sx_pure (se_tup (ses_cons (se_v 3) (ses_cons (se_tup (ses_cons (se_ix (o_ix (hu20 hr)) p2_ix (se_lst (ses_cons (se_str [99]) (ses_cons (se_str [97]) (ses_cons (se_str [98]) ses_nil)))) (se_mth PySem.F.plainAttrs_str PySem.F.slot_str_index PySem.F.type_str_index mt_sindex chk_str primM_index (se_str [83, 65, 66]) (ses_cons (se_v 3) ses_nil))) ses_nil)) ses_nil)))) sxs_nil))
      sss_nil) sss_nil)
      sss_nil)))) (fun _ z => nomatch z))
      (sss_cons (ss_retv 1)
      sss_nil))))
theorem sc__law_grammar : FnScope ["script", "spot", "cell", "k", "many", "rules"] ["script", "spot"] (defScope s__law_grammar) := ⟨rfl, rfl, rfl, by decide +kernel, rfl, by decide +kernel, by decide +kernel⟩
theorem d__law_grammar (t : Txt K mg a d) (ih : All P w K mg base a d n k) : FnOk P w K mg base CX0 (k + 1) (a 9) (d 9) ["script", "spot"] (spC ⟨P, w, K⟩ mg (cl T n (k + 1)) i__law_grammar 2) := by
  have sc := sc__law_grammar
  refine fn0 (Fm := m__law_grammar) t.f9 sc rfl rfl rfl rfl (fun _ z => by cases z; decide) (fun cdv A outer s H E ro hr => ?_)
  exact (sss_cons (ss_asg 2 sc.nd (sx_callT (Fm := m__law_next) rfl ih.f5 hr t.m5 t.f5.kp t.b5 (sxs_cons (fun _ => rfl) (sx_pure (se_v 0)) (sxs_io 1 sxs_nil))))
      (sss_cons (ss_if (st_cmp (o_eq (hu200 hr)) p2_eq (se_op op_mod p2_mod (se_v 2) se_int) se_int) (sss_cons (ss_asg 4 sc.nd (sx_pure (se_op o_add p2_add se_int (se_op op_mod p2_mod (se_op op_fdiv p2_fdiv (se_v 2) se_int) se_int))))
      (sss_cons (ss_asg 5 sc.nd (sx_pure (se_lst ses_nil)))
      sss_nil)) (sss_cons (ss_asg 4 sc.nd (sx_pure (se_op op_mod p2_mod (se_op op_fdiv p2_fdiv (se_v 2) se_int) se_int)))
      (sss_cons (ss_asg 5 sc.nd (sx_pure (se_callT (Fm := m__law_known) rfl ih.f7 hr t.m7 t.f7.kp t.b7 (ses_cons (se_op op_fdiv p2_fdiv (se_v 2) se_int) ses_nil))))
      sss_nil)))
      (sss_cons (ss_for (hide := none) PassesOwn.never rfl (si_range1 (se_v 4) t.z_range) (sg_name sc.nd) (fun ro => (sss_cons (ss_mut 5 PySem.F.slot_list_append PySem.F.type_list_append mt_append mtOk_append (sxs_cons (fun _ => rfl) (sx_callT (Fm := m__law_rule_by) rfl ih.f6 hr t.m6 t.f6.kp t.b6 (sxs_cons (fun _ => rfl) (sx_callT (Fm := m__law_next) rfl ih.f5 hr t.m5 t.f5.kp t.b5 (sxs_cons (fun _ => rfl) (sx_pure (se_v 0)) (sxs_io 1 sxs_nil))) sxs_nil)) sxs_nil))
      sss_nil)) (fun _ z => nomatch z))
      (sss_cons (ss_ret (sx_pure (se_callT (Fm := m__law_closed) rfl ih.f8 hr t.m8 t.f8.kp t.b8 (ses_cons (se_v 5) ses_nil))))
      sss_nil))))
theorem sc__law_is_name : FnScope ["part", "sign"] ["part"] (defScope s__law_is_name) := ⟨rfl, rfl, rfl, by decide +kernel, rfl, by decide +kernel, by decide +kernel⟩
theorem d__law_is_name (t : Txt K mg a d) (ih : All P w K mg base a d n k) : FnOk P w K mg base CX0 (k + 1) (a 10) (d 10) ["part"] (spC ⟨P, w, K⟩ mg (cl T n (k + 1)) i__law_is_name 1) := by
  have sc := sc__law_is_name
  refine fn0 (Fm := m__law_is_name) t.f10 sc rfl rfl rfl rfl (fun _ z => nomatch z) (fun cdv A outer s H E ro hr => ?_)
  exact (sss_cons (ss_if (st_w (sw_or (st_not (st_chain op_le op_le (p2_cmp rfl) (p2_cmp rfl) se_int (se_callB o_len primC_len t.z_len PySem.boot_len (ses_cons (se_v 0) ses_nil)) se_int)) (sw_or1 (st_cmp (o_notIn (hu200 hr)) p2_notIn (se_ix (o_ix (hu20 hr)) p2_ix (se_v 0) se_int) (se_str [65, 66, 67, 68, 69, 70, 71, 72, 73, 74, 75, 76, 77, 78, 79, 80, 81, 82, 83, 84, 85, 86, 87, 88, 89, 90]))))) (sss_cons (ss_ret (sx_pure se_bl))
      sss_nil) sss_nil)
      (sss_cons (ss_ret (sx_pure (se_cmp (o_eq (hu200 hr)) p2_eq (se_callB o_len primC_len t.z_len PySem.boot_len (ses_cons (se_lc (own := [("sign", 1)]) (is := [1]) rfl sc.nd (si_seq (se_v 0)) (blkOk_by (N := ["part", "sign"]) (sc := (defScope s__law_is_name)) (by decide +kernel)) (by decide) (fun _ _ _ _ _ => (sg_name sc.nd)) (fun _ _ _ _ _ => (sts_one (st_cmp (o_notIn (hu200 hr)) p2_notIn (se_v 1) (se_str [65, 66, 67, 68, 69, 70, 71, 72, 73, 74, 75, 76, 77, 78, 79, 80, 81, 82, 83, 84, 85, 86, 87, 88, 89, 90, 48, 49, 50, 51, 52, 53, 54, 55, 56, 57])))) (fun _ _ _ _ _ => (se_v 1))) ses_nil)) se_int)))
      sss_nil))
theorem sc__law_good : FnScope ["grammar", "ruled", "k", "rule", "part", "small"] ["grammar"] (defScope s__law_good) := ⟨rfl, rfl, rfl, by decide +kernel, rfl, by decide +kernel, by decide +kernel⟩
theorem d__law_good (t : Txt K mg a d) (ih : All P w K mg base a d n k) : FnOk P w K mg base CX0 (k + 1) (a 11) (d 11) ["grammar"] (spC ⟨P, w, K⟩ mg (cl T n (k + 1)) i__law_good 1) := by
  have sc := sc__law_good
  refine fn0 (Fm := m__law_good) t.f11 sc rfl rfl rfl rfl (fun _ z => nomatch z) (fun cdv A outer s H E ro hr => ?_)
  exact (sss_cons (ss_asgLc 1 (own := [("rule", 3)]) (is := [3]) rfl sc.nd (si_seq (se_v 0)) (blkOk_by (N := ["grammar", "ruled", "k", "rule", "part", "small"]) (sc := (defScope s__law_good)) (by decide +kernel)) (by decide) (fun _ _ _ _ _ => (sg_name sc.nd)) (fun _ _ _ _ _ => sts_none) (fun _ _ _ _ _ => (se_ix (o_ix (hu20 hr)) p2_ix (se_v 3) se_int)) (sw_true rfl rfl rfl (by decide +kernel)))
      (sss_cons (ss_if (st_not (st_chain op_le op_le (p2_cmp rfl) (p2_cmp rfl) se_int (se_callB o_len primC_len t.z_len PySem.boot_len (ses_cons (se_v 0) ses_nil)) se_int)) (sss_cons (ss_ret (sx_pure se_bl))
      sss_nil) sss_nil)
      (sss_cons (ss_for (hide := none) PassesOwn.never rfl (si_enum (se_v 0) t.z_enumerate) (sg_two rfl sc.nd) (fun ro => (sss_cons (ss_if (st_w (sw_or (st_cmp (o_in (hu200 hr)) p2_in (se_v 3) (se_cut01 (se_v 0) (se_v 2))) (sw_or (st_not (st_val (se_callT (Fm := m__law_is_name) rfl ih.f10 hr t.m10 t.f10.kp t.b10 (ses_cons (se_ix (o_ix (hu20 hr)) p2_ix (se_v 3) se_int) ses_nil)))) (sw_or1 (st_cmp op_gt (p2_cmp rfl) (se_callB o_len primC_len t.z_len PySem.boot_len (ses_cons (se_ix (o_ix (hu20 hr)) p2_ix (se_v 3) se_int) ses_nil)) se_int))))) (sss_cons (ss_ret (sx_pure se_bl))
      sss_nil) sss_nil)
      (sss_cons (ss_for (hide := none) PassesOwn.never rfl (si_seq (se_ix (o_ix (hu20 hr)) p2_ix (se_v 3) se_int)) (sg_name sc.nd) (fun ro => (sss_cons (ss_asg 5 sc.nd (sx_pure (se_and (se_cmp (o_eq (hu200 hr)) p2_eq (se_callB o_len primC_len t.z_len PySem.boot_len (ses_cons (se_v 4) ses_nil)) se_int) (se_one (se_cmp (o_in (hu200 hr)) p2_in (se_v 4) (se_str [97, 98, 99, 100, 101, 102, 103, 104, 105, 106, 107, 108, 109, 110, 111, 112, 113, 114, 115, 116, 117, 118, 119, 120, 121, 122]))))))
      (sss_cons (ss_if (st_w (sw_and (st_not (st_val (se_v 5))) (sw_and1 (st_cmp (o_notIn (hu200 hr)) p2_notIn (se_v 4) (se_v 1))))) (sss_cons (ss_ret (sx_pure se_bl))
      sss_nil) sss_nil)
      sss_nil))) (fun _ z => nomatch z))
      sss_nil))) (fun _ z => nomatch z))
      (sss_cons (ss_ret (sx_pure se_bl))
      sss_nil))))
theorem sc__law_odd : FnScope ["cell", "some"] ["cell"] (defScope s__law_odd) := ⟨rfl, rfl, rfl, by decide +kernel, rfl, by decide +kernel, by decide +kernel⟩
theorem d__law_odd (t : Txt K mg a d) (ih : All P w K mg base a d n k) : FnOk P w K mg base CX0 (k + 1) (a 12) (d 12) ["cell"] (spC ⟨P, w, K⟩ mg (cl T n (k + 1)) i__law_odd 1) := by
  have sc := sc__law_odd
  refine fn0 (Fm := m__law_odd) t.f12 sc rfl rfl rfl rfl (fun _ z => nomatch z) (fun cdv A outer s H E ro hr => ?_)
  exact (sss_cons (ss_asg 1 sc.nd (sx_pure (se_lst (ses_cons (se_str []) (ses_cons (se_str [115]) (ses_cons (se_str [49]) (ses_cons (se_str [32]) (ses_cons (se_str [97, 98]) (ses_cons (se_str [83, 97]) (ses_cons (se_str [65, 49]) (ses_cons (se_str [65, 45]) (ses_cons (se_str [65, 66, 67, 68, 69, 70, 71, 72]) (ses_cons (se_str [65, 66, 67, 68, 69, 70, 71, 72, 73]) (ses_cons (se_str [49, 65]) (ses_cons (se_str [95]) (ses_cons (se_str [122]) ses_nil))))))))))))))))
      (sss_cons (ss_asg 1 sc.nd (sx_pure (se_op o_add p2_add (se_v 1) (se_lst (ses_cons (se_str [90]) (ses_cons (se_str [65, 95]) (ses_cons (se_str [61]) (ses_cons (se_str [48]) ses_nil))))))))
      (sss_cons (ss_ret (sx_pure (se_ix (o_ix (hu20 hr)) p2_ix (se_v 1) (se_op op_mod p2_mod (se_v 0) se_int))))
      sss_nil)))
theorem sc__law_spoilt : FnScope ["grammar", "way", "cell", "found", "at", "name", "parts", "place", "other", "turned", "one", "row", "many", "k", "j", "part"] ["grammar", "way", "cell"] (defScope s__law_spoilt) := ⟨rfl, rfl, rfl, by decide +kernel, rfl, by decide +kernel, by decide +kernel⟩
theorem d__law_spoilt (t : Txt K mg a d) (ih : All P w K mg base a d n k) : FnOk P w K mg base CX0 (k + 1) (a 13) (d 13) ["grammar", "way", "cell"] (spC ⟨P, w, K⟩ mg (cl T n (k + 1)) i__law_spoilt 3) := by
  have sc := sc__law_spoilt
  refine fn0 (Fm := m__law_spoilt) t.f13 sc rfl rfl rfl rfl (fun _ z => nomatch z) (fun cdv A outer s H E ro hr => ?_)
  exact (sss_cons (ss_asg 3 sc.nd (sx_pure (se_callTy (o_list2 rfl) primC_list t.z_list PyProof.Rows.boot_list (ses_cons (se_v 0) ses_nil))))
      (sss_cons (ss_asg 4 sc.nd (sx_pure (se_op op_mod p2_mod (se_v 2) (se_callB o_len primC_len t.z_len PySem.boot_len (ses_cons (se_v 3) ses_nil)))))
      (sss_cons (ss_unp (sx_pure (se_ix (o_ix (hu20 hr)) p2_ix (se_v 3) (se_v 4))) (sg_two rfl sc.nd))
      (sss_cons (ss_asg 7 sc.nd (sx_pure (se_op op_mod p2_mod (se_op op_fdiv p2_fdiv (se_v 2) se_int) (se_op o_add p2_add (se_callB o_len primC_len t.z_len PySem.boot_len (ses_cons (se_v 6) ses_nil)) se_int))))
      (sss_cons (ss_if (st_cmp (o_eq (hu200 hr)) p2_eq (se_v 1) se_int) (sss_cons (ss_mut 3 PySem.F.slot_list_insert PySem.F.type_list_insert mt_insert mtOk_insert (sxs_cons (fun _ => rfl) (sx_pure (se_op op_mod p2_mod (se_op op_fdiv p2_fdiv (se_v 2) se_int) (se_op o_add p2_add (se_callB o_len primC_len t.z_len PySem.boot_len (ses_cons (se_v 3) ses_nil)) se_int))) (sxs_cons (fun _ => rfl) (sx_pure (se_ix (o_ix (hu20 hr)) p2_ix (se_v 3) (se_v 4))) sxs_nil)))
      sss_nil) sss_nil)
      (sss_cons (ss_if (st_cmp (o_eq (hu200 hr)) p2_eq (se_v 1) se_int) (sss_cons (ss_put 3 (hu20 hr) (sx_pure (se_tup (ses_cons (se_v 5) (ses_cons (se_op o_add p2_add (se_op o_add p2_add (se_cut01 (se_v 6) (se_v 7)) (se_tup (ses_cons (se_callT (Fm := m__law_odd) rfl ih.f12 hr t.m12 t.f12.kp t.b12 (ses_cons (se_op op_fdiv p2_fdiv (se_v 2) se_int) ses_nil)) ses_nil))) (se_cut10 (se_v 6) (se_v 7))) ses_nil)))) (se_v 4))
      sss_nil) sss_nil)
      (sss_cons (ss_if (st_cmp (o_eq (hu200 hr)) p2_eq (se_v 1) se_int) (sss_cons (ss_put 3 (hu20 hr) (sx_pure (se_tup (ses_cons (se_callT (Fm := m__law_odd) rfl ih.f12 hr t.m12 t.f12.kp t.b12 (ses_cons (se_op op_fdiv p2_fdiv (se_v 2) se_int) ses_nil)) (ses_cons (se_v 6) ses_nil)))) (se_v 4))
      sss_nil) sss_nil)
      (sss_cons (ss_if (st_cmp (o_eq (hu200 hr)) p2_eq (se_v 1) se_int) (sss_cons (ss_put 3 (hu20 hr) (sx_pure (se_tup (ses_cons (se_v 5) (ses_cons (se_cut01 (se_op o_add p2_add (se_v 6) (se_op o_mul p2_mul (se_tup (ses_cons (se_str [97]) ses_nil)) se_int)) (se_op o_add p2_add se_int (se_op op_mod p2_mod (se_op op_fdiv p2_fdiv (se_v 2) se_int) se_int))) ses_nil)))) (se_v 4))
      sss_nil) sss_nil)
      (sss_cons (ss_if (st_cmp (o_eq (hu200 hr)) p2_eq (se_v 1) se_int) (sss_cons (ss_mut 3 PySem.F.slot_list_pop PySem.F.type_list_pop mt_popAt mtOk_popAt (sxs_cons (fun _ => rfl) (sx_pure (se_v 4)) sxs_nil))
      sss_nil) sss_nil)
      (sss_cons (ss_if (st_cmp (o_eq (hu200 hr)) p2_eq (se_v 1) se_int) (sss_cons (ss_asg 8 sc.nd (sx_pure (se_ix (o_ix (hu20 hr)) p2_ix (se_lst (ses_cons (se_str [65, 49]) (ses_cons (se_str [69, 88, 80, 82]) (ses_cons (se_str [90, 57, 90, 57, 90, 57, 90, 57]) (ses_cons (se_str [83, 48]) (ses_cons (se_str [65, 65]) ses_nil)))))) (se_op op_mod p2_mod (se_op op_fdiv p2_fdiv (se_v 2) se_int) se_int))))
      (sss_cons (ss_asgLc 3 (own := [("one", 10), ("row", 11)]) (is := [10, 11]) rfl sc.nd (si_seq (se_v 3)) (blkOk_by (N := ["grammar", "way", "cell", "found", "at", "name", "parts", "place", "other", "turned", "one", "row", "many", "k", "j", "part"]) (sc := (defScope s__law_spoilt)) (by decide +kernel)) (by decide) (fun _ _ _ _ _ => (sg_two rfl sc.nd)) (fun _ _ _ _ _ => sts_none) (fun _ _ _ _ _ => (se_tup (ses_cons (se_ite (st_cmp (o_eq (hu200 hr)) p2_eq (se_v 10) (se_v 5)) (se_v 8) (se_v 10)) (ses_cons (se_v 11) ses_nil)))) (sw_true rfl rfl rfl (by decide +kernel)))
      (sss_cons (ss_asg 9 sc.nd (sx_pure (se_lst ses_nil)))
      (sss_cons (ss_for (hide := (some 3)) PassesOwn.never rfl (si_seq (se_v 3)) (sg_two rfl sc.nd) (fun ro => (sss_cons (ss_mut 9 PySem.F.slot_list_append PySem.F.type_list_append mt_append mtOk_append (sxs_cons (fun _ => rfl) (sx_pure (se_tup (ses_cons (se_v 10) (ses_cons (se_callTy call_tuple_of primC_tuple t.z_tuple PyProof.Rows.boot_tuple (ses_cons (se_lc (own := [("part", 15)]) (is := [15]) rfl sc.nd (si_seq (se_v 11)) (blkOk_by (N := ["grammar", "way", "cell", "found", "at", "name", "parts", "place", "other", "turned", "one", "row", "many", "k", "j", "part"]) (sc := (defScope s__law_spoilt)) (by decide +kernel)) (by decide) (fun _ _ _ _ _ => (sg_name sc.nd)) (fun _ _ _ _ _ => sts_none) (fun _ _ _ _ _ => (se_ite (st_cmp (o_eq (hu200 hr)) p2_eq (se_v 15) (se_v 5)) (se_v 8) (se_v 15)))) ses_nil)) ses_nil)))) sxs_nil))
      sss_nil)) (fun _ z => by cases z; rfl))
      (sss_cons (ss_asg 3 sc.nd (sx_pure (se_v 9)))
      sss_nil))))) sss_nil)
      (sss_cons (ss_if (st_cmp (o_eq (hu200 hr)) p2_eq (se_v 1) se_int) (sss_cons (ss_asg 12 sc.nd (sx_pure (se_ix (o_ix (hu20 hr)) p2_ix (se_lst (ses_cons se_int (ses_cons se_int (ses_cons se_int (ses_cons se_int ses_nil))))) (se_op op_mod p2_mod (se_op op_fdiv p2_fdiv (se_v 2) se_int) se_int))))
      (sss_cons (ss_asgLc 3 (own := [("k", 13)]) (is := [13]) rfl sc.nd (si_range1 (se_v 12) t.z_range) (blkOk_by (N := ["grammar", "way", "cell", "found", "at", "name", "parts", "place", "other", "turned", "one", "row", "many", "k", "j", "part"]) (sc := (defScope s__law_spoilt)) (by decide +kernel)) (by decide) (fun _ _ _ _ _ => (sg_name sc.nd)) (fun _ _ _ _ _ => sts_none) (fun _ _ _ _ _ => (se_tup (ses_cons (se_str [83]) (ses_cons (se_callTy call_tuple_of primC_tuple t.z_tuple PyProof.Rows.boot_tuple (ses_cons (se_lc (own := [("j", 14)]) (is := [14]) rfl sc.nd (si_range1 se_int t.z_range) (blkOk_by (N := ["grammar", "way", "cell", "found", "at", "name", "parts", "place", "other", "turned", "one", "row", "many", "k", "j", "part"]) (sc := (relS _ (defScope s__law_spoilt))) (by decide +kernel)) (by decide) (fun _ _ _ _ _ => (sg_name sc.nd)) (fun _ _ _ _ _ => sts_none) (fun _ _ _ _ _ => (se_ix (o_ix (hu20 hr)) p2_ix (se_str [97, 98, 99, 100, 101, 102]) (se_op op_mod p2_mod (se_op op_fdiv p2_fdiv (se_v 13) (se_ix (o_ix (hu20 hr)) p2_ix (se_lst (ses_cons se_int (ses_cons se_int (ses_cons se_int ses_nil)))) (se_v 14))) se_int)))) ses_nil)) ses_nil)))) (sw_true rfl rfl rfl (by decide +kernel)))
      sss_nil)) sss_nil)
      (sss_cons (ss_retv 3)
      sss_nil))))))))))))
theorem sc_law : FnScope ["script", "spot", "grammar", "cell", "handed", "found"] ["script"] (defScope s_law) := ⟨rfl, rfl, rfl, by decide +kernel, rfl, by decide +kernel, by decide +kernel⟩
theorem d_law (t : Txt K mg a d) (ih : All P w K mg base a d n k) : FnOk P w K mg base CX0 (k + 1) (a 14) (d 14) ["script"] (spC ⟨P, w, K⟩ mg (cl T n (k + 1)) i_law 1) := by
  have sc := sc_law
  refine fn0 (Fm := m_law) t.f14 sc rfl rfl rfl rfl (fun _ z => nomatch z) (fun cdv A outer s H E ro hr => ?_)
  exact (sss_cons (ss_asg 1 sc.nd (sx_pure (se_lst (ses_cons se_int ses_nil))))
      (sss_cons (ss_asg 2 sc.nd (sx_callT (Fm := m__law_grammar) rfl ih.f9 hr t.m9 t.f9.kp t.b9 (sxs_cons (fun _ => rfl) (sx_pure (se_v 0)) (sxs_io 1 sxs_nil))))
      (sss_cons (ss_asg 3 sc.nd (sx_pure (se_callT (Fm := m__law_cell_at) rfl ih.f4 hr t.m4 t.f4.kp t.b4 (ses_cons (se_v 0) (ses_cons se_int ses_nil)))))
      (sss_cons (ss_if (st_cmp op_gt (p2_cmp rfl) (se_op op_mod p2_mod (se_v 3) se_int) se_int) (sss_cons (ss_asg 2 sc.nd (sx_pure (se_callT (Fm := m__law_spoilt) rfl ih.f13 hr t.m13 t.f13.kp t.b13 (ses_cons (se_v 2) (ses_cons (se_op op_mod p2_mod (se_op op_fdiv p2_fdiv (se_v 3) se_int) se_int) (ses_cons (se_op op_mod p2_mod (se_callT (Fm := m__law_cell_at) rfl ih.f4 hr t.m4 t.f4.kp t.b4 (ses_cons (se_v 0) (ses_cons se_int ses_nil))) (se_op op_pow p2_pow se_int se_int)) ses_nil))))))
      sss_nil) sss_nil)
      (sss_cons (ss_asg 4 sc.nd (sx_pure (se_callTy (o_list2 rfl) primC_list t.z_list PyProof.Rows.boot_list (ses_cons (se_v 2) ses_nil))))
      (sss_cons (ss_asg 5 sc.nd (sx_pure (se_callT (Fm := m_is_grammar) rfl ih.f3 hr t.m3 t.f3.kp t.b3 (ses_cons (se_v 4) ses_nil))))
      (sss_cons (ss_ret (sx_pure (se_and (se_isBool (se_v 5) t.z_isinstance t.z_bool) (se_and (se_cmp (o_eq (hu200 hr)) p2_eq (se_v 5) (se_callT (Fm := m__law_good) rfl ih.f11 hr t.m11 t.f11.kp t.b11 (ses_cons (se_v 2) ses_nil))) (se_one (se_cmp (o_eq (hu200 hr)) p2_eq (se_v 4) (se_v 2)))))))
      sss_nil)))))))
theorem all (t : Txt K mg a d) : ∀ k, All P w K mg base a d n k
  | 0 => ⟨fn_none, fn_none, fn_none, fn_none, fn_none, fn_none, fn_none, fn_none, fn_none, fn_none, fn_none, fn_none, fn_none, fn_none, fn_none⟩
  | k + 1 => ⟨d_is_letter t (all t k), d_is_name t (all t k), d_is_rule t (all t k), d_is_grammar t (all t k), d__law_cell_at t (all t k), d__law_next t (all t k), d__law_rule_by t (all t k), d__law_known t (all t k), d__law_closed t (all t k), d__law_grammar t (all t k), d__law_is_name t (all t k), d__law_good t (all t k), d__law_odd t (all t k), d__law_spoilt t (all t k), d_law t (all t k)⟩
end
end RW

namespace RW
open PySem L2 PySem.Spec PyProof.Rows
theorem all_mk {l : PySem.W.OpenLaw} {w : World} {K : PySem.W.Frag} {h : Heap} {mg : Str → Option Value} {fa f0 f1 f2 f3 f4 f5 f6 f7 f8 f9 f10 f11 f12 f13 f14 : Addr} (X : K.In h) (G : h.Ns mainGlobals mg) (hfa : mg "law" = some (.ref fa))
    {od0 an0 od1 an1 od2 an2 od3 an3 od4 an4 od5 an5 od6 an6 od7 an7 od8 an8 od9 an9 od10 an10 od11 an11 od12 an12 od13 an13 od14 an14 : Option Addr} {sl0 sl1 sl2 sl3 sl4 sl5 sl6 sl7 sl8 sl9 sl10 sl11 sl12 sl13 sl14 : Array (Option Value)} {oc0 kV0 dc0 pm0 cd0 ct0 oc1 kV1 dc1 pm1 cd1 ct1 oc2 kV2 dc2 pm2 cd2 ct2 oc3 kV3 dc3 pm3 cd3 ct3 oc4 kV4 dc4 pm4 cd4 ct4 oc5 kV5 dc5 pm5 cd5 ct5 oc6 kV6 dc6 pm6 cd6 ct6 oc7 kV7 dc7 pm7 cd7 ct7 oc8 kV8 dc8 pm8 cd8 ct8 oc9 kV9 dc9 pm9 cd9 ct9 oc10 kV10 dc10 pm10 cd10 ct10 oc11 kV11 dc11 pm11 cd11 ct11 oc12 kV12 dc12 pm12 cd12 ct12 oc13 kV13 dc13 pm13 cd13 ct13 oc14 kV14 dc14 pm14 cd14 ct14 : Value} {t_CAPITALS t_FIGURES t_LETTERS t_MOST_NAME t_MOST_PARTS t_MOST_RULES : Tok}
    (a0 : PySem.W.nsIn K mainGlobals "is_letter" = some (some (.ref f0))) (l0 : K.lookup f0 = some ⟨oc0, od0, .func (PySem.W.fnOf "is_letter" "is_letter" (defArgs s_is_letter) (defBody s_is_letter) (defScope s_is_letter) .none kV0 dc0 pm0 an0 cd0 ct0), sl0⟩) (c0 : PySem.W.codeIn K cd0 "is_letter" = true) (k0 : PySem.W.keepIn K (.ref f0) = true)
    (a1 : PySem.W.nsIn K mainGlobals "is_name" = some (some (.ref f1))) (l1 : K.lookup f1 = some ⟨oc1, od1, .func (PySem.W.fnOf "is_name" "is_name" (defArgs s_is_name) (defBody s_is_name) (defScope s_is_name) .none kV1 dc1 pm1 an1 cd1 ct1), sl1⟩) (c1 : PySem.W.codeIn K cd1 "is_name" = true) (k1 : PySem.W.keepIn K (.ref f1) = true)
    (a2 : PySem.W.nsIn K mainGlobals "is_rule" = some (some (.ref f2))) (l2 : K.lookup f2 = some ⟨oc2, od2, .func (PySem.W.fnOf "is_rule" "is_rule" (defArgs s_is_rule) (defBody s_is_rule) (defScope s_is_rule) .none kV2 dc2 pm2 an2 cd2 ct2), sl2⟩) (c2 : PySem.W.codeIn K cd2 "is_rule" = true) (k2 : PySem.W.keepIn K (.ref f2) = true)
    (a3 : PySem.W.nsIn K mainGlobals "is_grammar" = some (some (.ref f3))) (l3 : K.lookup f3 = some ⟨oc3, od3, .func (PySem.W.fnOf "is_grammar" "is_grammar" (defArgs s_is_grammar) (defBody s_is_grammar) (defScope s_is_grammar) .none kV3 dc3 pm3 an3 cd3 ct3), sl3⟩) (c3 : PySem.W.codeIn K cd3 "is_grammar" = true) (k3 : PySem.W.keepIn K (.ref f3) = true)
    (a4 : PySem.W.nsIn K mainGlobals "_law_cell_at" = some (some (.ref f4))) (l4 : K.lookup f4 = some ⟨oc4, od4, .func (PySem.W.fnOf "_law_cell_at" "_law_cell_at" (defArgs s__law_cell_at) (defBody s__law_cell_at) (defScope s__law_cell_at) .none kV4 dc4 pm4 an4 cd4 ct4), sl4⟩) (c4 : PySem.W.codeIn K cd4 "_law_cell_at" = true) (k4 : PySem.W.keepIn K (.ref f4) = true)
    (a5 : PySem.W.nsIn K mainGlobals "_law_next" = some (some (.ref f5))) (l5 : K.lookup f5 = some ⟨oc5, od5, .func (PySem.W.fnOf "_law_next" "_law_next" (defArgs s__law_next) (defBody s__law_next) (defScope s__law_next) .none kV5 dc5 pm5 an5 cd5 ct5), sl5⟩) (c5 : PySem.W.codeIn K cd5 "_law_next" = true) (k5 : PySem.W.keepIn K (.ref f5) = true)
    (a6 : PySem.W.nsIn K mainGlobals "_law_rule_by" = some (some (.ref f6))) (l6 : K.lookup f6 = some ⟨oc6, od6, .func (PySem.W.fnOf "_law_rule_by" "_law_rule_by" (defArgs s__law_rule_by) (defBody s__law_rule_by) (defScope s__law_rule_by) .none kV6 dc6 pm6 an6 cd6 ct6), sl6⟩) (c6 : PySem.W.codeIn K cd6 "_law_rule_by" = true) (k6 : PySem.W.keepIn K (.ref f6) = true)
    (a7 : PySem.W.nsIn K mainGlobals "_law_known" = some (some (.ref f7))) (l7 : K.lookup f7 = some ⟨oc7, od7, .func (PySem.W.fnOf "_law_known" "_law_known" (defArgs s__law_known) (defBody s__law_known) (defScope s__law_known) .none kV7 dc7 pm7 an7 cd7 ct7), sl7⟩) (c7 : PySem.W.codeIn K cd7 "_law_known" = true) (k7 : PySem.W.keepIn K (.ref f7) = true)
    (a8 : PySem.W.nsIn K mainGlobals "_law_closed" = some (some (.ref f8))) (l8 : K.lookup f8 = some ⟨oc8, od8, .func (PySem.W.fnOf "_law_closed" "_law_closed" (defArgs s__law_closed) (defBody s__law_closed) (defScope s__law_closed) .none kV8 dc8 pm8 an8 cd8 ct8), sl8⟩) (c8 : PySem.W.codeIn K cd8 "_law_closed" = true) (k8 : PySem.W.keepIn K (.ref f8) = true)
    (a9 : PySem.W.nsIn K mainGlobals "_law_grammar" = some (some (.ref f9))) (l9 : K.lookup f9 = some ⟨oc9, od9, .func (PySem.W.fnOf "_law_grammar" "_law_grammar" (defArgs s__law_grammar) (defBody s__law_grammar) (defScope s__law_grammar) .none kV9 dc9 pm9 an9 cd9 ct9), sl9⟩) (c9 : PySem.W.codeIn K cd9 "_law_grammar" = true) (k9 : PySem.W.keepIn K (.ref f9) = true)
    (a10 : PySem.W.nsIn K mainGlobals "_law_is_name" = some (some (.ref f10))) (l10 : K.lookup f10 = some ⟨oc10, od10, .func (PySem.W.fnOf "_law_is_name" "_law_is_name" (defArgs s__law_is_name) (defBody s__law_is_name) (defScope s__law_is_name) .none kV10 dc10 pm10 an10 cd10 ct10), sl10⟩) (c10 : PySem.W.codeIn K cd10 "_law_is_name" = true) (k10 : PySem.W.keepIn K (.ref f10) = true)
    (a11 : PySem.W.nsIn K mainGlobals "_law_good" = some (some (.ref f11))) (l11 : K.lookup f11 = some ⟨oc11, od11, .func (PySem.W.fnOf "_law_good" "_law_good" (defArgs s__law_good) (defBody s__law_good) (defScope s__law_good) .none kV11 dc11 pm11 an11 cd11 ct11), sl11⟩) (c11 : PySem.W.codeIn K cd11 "_law_good" = true) (k11 : PySem.W.keepIn K (.ref f11) = true)
    (a12 : PySem.W.nsIn K mainGlobals "_law_odd" = some (some (.ref f12))) (l12 : K.lookup f12 = some ⟨oc12, od12, .func (PySem.W.fnOf "_law_odd" "_law_odd" (defArgs s__law_odd) (defBody s__law_odd) (defScope s__law_odd) .none kV12 dc12 pm12 an12 cd12 ct12), sl12⟩) (c12 : PySem.W.codeIn K cd12 "_law_odd" = true) (k12 : PySem.W.keepIn K (.ref f12) = true)
    (a13 : PySem.W.nsIn K mainGlobals "_law_spoilt" = some (some (.ref f13))) (l13 : K.lookup f13 = some ⟨oc13, od13, .func (PySem.W.fnOf "_law_spoilt" "_law_spoilt" (defArgs s__law_spoilt) (defBody s__law_spoilt) (defScope s__law_spoilt) .none kV13 dc13 pm13 an13 cd13 ct13), sl13⟩) (c13 : PySem.W.codeIn K cd13 "_law_spoilt" = true) (k13 : PySem.W.keepIn K (.ref f13) = true)
    (a14 : PySem.W.nsIn K mainGlobals "law" = some (some (.ref f14))) (l14 : K.lookup f14 = some ⟨oc14, od14, .func (PySem.W.fnOf "law" "law" (defArgs s_law) (defBody s_law) (defScope s_law) .none kV14 dc14 pm14 an14 cd14 ct14), sl14⟩) (c14 : PySem.W.codeIn K cd14 "law" = true) (k14 : PySem.W.keepIn K (.ref f14) = true)
    (z_all : PySem.W.nsIn K mainGlobals "all" = some none)
    (z_bool : PySem.W.nsIn K mainGlobals "bool" = some none)
    (z_enumerate : PySem.W.nsIn K mainGlobals "enumerate" = some none)
    (z_isinstance : PySem.W.nsIn K mainGlobals "isinstance" = some none)
    (z_len : PySem.W.nsIn K mainGlobals "len" = some none)
    (z_list : PySem.W.nsIn K mainGlobals "list" = some none)
    (z_range : PySem.W.nsIn K mainGlobals "range" = some none)
    (z_tuple : PySem.W.nsIn K mainGlobals "tuple" = some none)
    (c_CAPITALS : PySem.W.nsIn K mainGlobals "CAPITALS" = some (some (.str "ABCDEFGHIJKLMNOPQRSTUVWXYZ" t_CAPITALS)))
    (c_FIGURES : PySem.W.nsIn K mainGlobals "FIGURES" = some (some (.str "0123456789" t_FIGURES)))
    (c_LETTERS : PySem.W.nsIn K mainGlobals "LETTERS" = some (some (.str "abcdefghijklmnopqrstuvwxyz" t_LETTERS)))
    (c_MOST_NAME : PySem.W.nsIn K mainGlobals "MOST_NAME" = some (some (.int 8 t_MOST_NAME)))
    (c_MOST_PARTS : PySem.W.nsIn K mainGlobals "MOST_PARTS" = some (some (.int 6 t_MOST_PARTS)))
    (c_MOST_RULES : PySem.W.nsIn K mainGlobals "MOST_RULES" = some (some (.int 40 t_MOST_RULES))) :
    ∃ fd : FuncData, (∀ (s : Shared) (v : Value), BindsTo s fd ⟨[v], []⟩ [("script", v)]) ∧ ∀ base : Heap, K.In base → base.Ns mainGlobals mg → FnOk l.prog w K mg base CX0 30 fa fd ["script"] (RW.spLaw K) := by
  have e := hfa.symm.trans (PySem.W.mg_of X G a14)
  cases e
  have F0 := fun_mk (st := s_is_letter) l0 c0 k0
  have F1 := fun_mk (st := s_is_name) l1 c1 k1
  have F2 := fun_mk (st := s_is_rule) l2 c2 k2
  have F3 := fun_mk (st := s_is_grammar) l3 c3 k3
  have F4 := fun_mk (st := s__law_cell_at) l4 c4 k4
  have F5 := fun_mk (st := s__law_next) l5 c5 k5
  have F6 := fun_mk (st := s__law_rule_by) l6 c6 k6
  have F7 := fun_mk (st := s__law_known) l7 c7 k7
  have F8 := fun_mk (st := s__law_closed) l8 c8 k8
  have F9 := fun_mk (st := s__law_grammar) l9 c9 k9
  have F10 := fun_mk (st := s__law_is_name) l10 c10 k10
  have F11 := fun_mk (st := s__law_good) l11 c11 k11
  have F12 := fun_mk (st := s__law_odd) l12 c12 k12
  have F13 := fun_mk (st := s__law_spoilt) l13 c13 k13
  have F14 := fun_mk (st := s_law) l14 c14 k14
  have b0 := F0.binds (ps := ["part"]) fun _ _ _ _ _ _ us hl => match us, hl with | [_], _ => rfl
  have b1 := F1.binds (ps := ["part"]) fun _ _ _ _ _ _ us hl => match us, hl with | [_], _ => rfl
  have b2 := F2.binds (ps := ["rule"]) fun _ _ _ _ _ _ us hl => match us, hl with | [_], _ => rfl
  have b3 := F3.binds (ps := ["grammar"]) fun _ _ _ _ _ _ us hl => match us, hl with | [_], _ => rfl
  have b4 := F4.binds (ps := ["script", "k"]) fun _ _ _ _ _ _ us hl => match us, hl with | [_, _], _ => rfl
  have b5 := F5.binds (ps := ["script", "spot"]) fun _ _ _ _ _ _ us hl => match us, hl with | [_, _], _ => rfl
  have b6 := F6.binds (ps := ["cell"]) fun _ _ _ _ _ _ us hl => match us, hl with | [_], _ => rfl
  have b7 := F7.binds (ps := ["number"]) fun _ _ _ _ _ _ us hl => match us, hl with | [_], _ => rfl
  have b8 := F8.binds (ps := ["rules"]) fun _ _ _ _ _ _ us hl => match us, hl with | [_], _ => rfl
  have b9 := F9.binds (ps := ["script", "spot"]) fun _ _ _ _ _ _ us hl => match us, hl with | [_, _], _ => rfl
  have b10 := F10.binds (ps := ["part"]) fun _ _ _ _ _ _ us hl => match us, hl with | [_], _ => rfl
  have b11 := F11.binds (ps := ["grammar"]) fun _ _ _ _ _ _ us hl => match us, hl with | [_], _ => rfl
  have b12 := F12.binds (ps := ["cell"]) fun _ _ _ _ _ _ us hl => match us, hl with | [_], _ => rfl
  have b13 := F13.binds (ps := ["grammar", "way", "cell"]) fun _ _ _ _ _ _ us hl => match us, hl with | [_, _, _], _ => rfl
  have b14 := F14.binds (ps := ["script"]) fun _ _ _ _ _ _ us hl => match us, hl with | [_], _ => rfl
  have t : Txt K mg (fun i => ([f0, f1, f2, f3, f4, f5, f6, f7, f8, f9, f10, f11, f12, f13, fa] : List Addr).getD i 0) (fun i => ([PySem.W.fnOf "is_letter" "is_letter" (defArgs s_is_letter) (defBody s_is_letter) (defScope s_is_letter) .none kV0 dc0 pm0 an0 cd0 ct0, PySem.W.fnOf "is_name" "is_name" (defArgs s_is_name) (defBody s_is_name) (defScope s_is_name) .none kV1 dc1 pm1 an1 cd1 ct1, PySem.W.fnOf "is_rule" "is_rule" (defArgs s_is_rule) (defBody s_is_rule) (defScope s_is_rule) .none kV2 dc2 pm2 an2 cd2 ct2, PySem.W.fnOf "is_grammar" "is_grammar" (defArgs s_is_grammar) (defBody s_is_grammar) (defScope s_is_grammar) .none kV3 dc3 pm3 an3 cd3 ct3, PySem.W.fnOf "_law_cell_at" "_law_cell_at" (defArgs s__law_cell_at) (defBody s__law_cell_at) (defScope s__law_cell_at) .none kV4 dc4 pm4 an4 cd4 ct4, PySem.W.fnOf "_law_next" "_law_next" (defArgs s__law_next) (defBody s__law_next) (defScope s__law_next) .none kV5 dc5 pm5 an5 cd5 ct5, PySem.W.fnOf "_law_rule_by" "_law_rule_by" (defArgs s__law_rule_by) (defBody s__law_rule_by) (defScope s__law_rule_by) .none kV6 dc6 pm6 an6 cd6 ct6, PySem.W.fnOf "_law_known" "_law_known" (defArgs s__law_known) (defBody s__law_known) (defScope s__law_known) .none kV7 dc7 pm7 an7 cd7 ct7, PySem.W.fnOf "_law_closed" "_law_closed" (defArgs s__law_closed) (defBody s__law_closed) (defScope s__law_closed) .none kV8 dc8 pm8 an8 cd8 ct8, PySem.W.fnOf "_law_grammar" "_law_grammar" (defArgs s__law_grammar) (defBody s__law_grammar) (defScope s__law_grammar) .none kV9 dc9 pm9 an9 cd9 ct9, PySem.W.fnOf "_law_is_name" "_law_is_name" (defArgs s__law_is_name) (defBody s__law_is_name) (defScope s__law_is_name) .none kV10 dc10 pm10 an10 cd10 ct10, PySem.W.fnOf "_law_good" "_law_good" (defArgs s__law_good) (defBody s__law_good) (defScope s__law_good) .none kV11 dc11 pm11 an11 cd11 ct11, PySem.W.fnOf "_law_odd" "_law_odd" (defArgs s__law_odd) (defBody s__law_odd) (defScope s__law_odd) .none kV12 dc12 pm12 an12 cd12 ct12, PySem.W.fnOf "_law_spoilt" "_law_spoilt" (defArgs s__law_spoilt) (defBody s__law_spoilt) (defScope s__law_spoilt) .none kV13 dc13 pm13 an13 cd13 ct13, PySem.W.fnOf "law" "law" (defArgs s_law) (defBody s_law) (defScope s_law) .none kV14 dc14 pm14 an14 cd14 ct14] : List FuncData).getD i (PySem.W.fnOf "law" "law" (defArgs s_law) (defBody s_law) (defScope s_law) .none kV14 dc14 pm14 an14 cd14 ct14)) := ⟨F0, b0, PySem.W.mg_of X G a0, F1, b1, PySem.W.mg_of X G a1, F2, b2, PySem.W.mg_of X G a2, F3, b3, PySem.W.mg_of X G a3, F4, b4, PySem.W.mg_of X G a4, F5, b5, PySem.W.mg_of X G a5, F6, b6, PySem.W.mg_of X G a6, F7, b7, PySem.W.mg_of X G a7, F8, b8, PySem.W.mg_of X G a8, F9, b9, PySem.W.mg_of X G a9, F10, b10, PySem.W.mg_of X G a10, F11, b11, PySem.W.mg_of X G a11, F12, b12, PySem.W.mg_of X G a12, F13, b13, PySem.W.mg_of X G a13, F14, b14, PySem.W.mg_of X G a14, PySem.W.mg_none_of X G z_all, PySem.W.mg_none_of X G z_bool, PySem.W.mg_none_of X G z_enumerate, PySem.W.mg_none_of X G z_isinstance, PySem.W.mg_none_of X G z_len, PySem.W.mg_none_of X G z_list, PySem.W.mg_none_of X G z_range, PySem.W.mg_none_of X G z_tuple, ⟨_, PySem.W.mg_of X G c_CAPITALS⟩, ⟨_, PySem.W.mg_of X G c_FIGURES⟩, ⟨_, PySem.W.mg_of X G c_LETTERS⟩, ⟨_, PySem.W.mg_of X G c_MOST_NAME⟩, ⟨_, PySem.W.mg_of X G c_MOST_PARTS⟩, ⟨_, PySem.W.mg_of X G c_MOST_RULES⟩⟩
  refine ⟨PySem.W.fnOf "law" "law" (defArgs s_law) (defBody s_law) (defScope s_law) .none kV14 dc14 pm14 an14 cd14 ct14, fun s v => .of_eq rfl, fun base _ _ => ?_⟩
  exact law_of (T := T) (id := i_law) rfl (fun N => (all (P := l.prog) (w := w) (base := base) (n := N) t 30).f14) law_holds
theorem walk {l : PySem.W.OpenLaw} {q : Program} {loose : List Str} {XP : (Str → Option Value) → Heap → Prop} {YP : World → Heap → Prop} {d : DefRec} {K : Params → PySem.W.Frag} (hn : l.most = some 63) (hdf : d.params.defaults = [])
    (hY : ∀ (w : World) (h : Heap), YP w h → (K w.params).In h)
    (F : ∀ (w : World) (mg : Str → Option Value) (fa : Addr) (h : Heap), (K w.params).In h → h.Ns mainGlobals mg → mg d.name = some (.ref fa) →
      ∃ fd : FuncData, (∀ (s : Shared) (u : Value), BindsTo s fd ⟨[u], []⟩ [("script", u)]) ∧ ∀ base : Heap, (K w.params).In base → base.Ns mainGlobals mg → FnOk l.prog w (K w.params) mg base CX0 30 fa fd ["script"] (RW.spLaw (K w.params))) :
    PySem.W.WalkO q loose XP YP l.row.toRowW d [] (fun f vs => PySem.call f vs) :=
  L2.walk_of (n := 63) (k := 30) (x := "script") (CX := fun _ => CX0) (sp := fun w => RW.spLaw (K w.params)) hn (by decide) hdf ⟨rfl, by decide, by decide⟩ hY F (fun _ _ a ns hl _ hS => ⟨a, ns, rfl, hS, hl, fun _ => rfl⟩) fun _ _ _ _ _ z => z
end RW
open PySem PySem.W PyProof.Rows
set_option maxRecDepth 100000 in
set_option maxHeartbeats 0 in
theorem PySem.Challenge.cw_rulewright_k01_grammars_looked_at_holds : PySem.Challenge.rw_rulewright_k01_grammars_looked_at.Holds := by
  w_on; o_law; k_head; (case hw => w_witness2)
  k_fill
  refine RW.walk (l := PySem.Challenge.rw_rulewright_k01_grammars_looked_at) rfl rfl (fun w h Y => PySem.W.kIn_of Y) ?F
  case F =>
    intro w mg fa h KX G hmg
    refine' RW.all_mk KX G hmg ?a0 ?l0 ?c0 ?k0 ?a1 ?l1 ?c1 ?k1 ?a2 ?l2 ?c2 ?k2 ?a3 ?l3 ?c3 ?k3 ?a4 ?l4 ?c4 ?k4 ?a5 ?l5 ?c5 ?k5 ?a6 ?l6 ?c6 ?k6 ?a7 ?l7 ?c7 ?k7 ?a8 ?l8 ?c8 ?k8 ?a9 ?l9 ?c9 ?k9 ?a10 ?l10 ?c10 ?k10 ?a11 ?l11 ?c11 ?k11 ?a12 ?l12 ?c12 ?k12 ?a13 ?l13 ?c13 ?k13 ?a14 ?l14 ?c14 ?k14 ?z_all ?z_bool ?z_enumerate ?z_isinstance ?z_len ?z_list ?z_range ?z_tuple ?c_CAPITALS ?c_FIGURES ?c_LETTERS ?c_MOST_NAME ?c_MOST_PARTS ?c_MOST_RULES
    (case a0 => k_is)
    (case l0 => k_is)
    (case c0 => k_is)
    (case k0 => k_is)
    (case a1 => k_is)
    (case l1 => k_is)
    (case c1 => k_is)
    (case k1 => k_is)
    (case a2 => k_is)
    (case l2 => k_is)
    (case c2 => k_is)
    (case k2 => k_is)
    (case a3 => k_is)
    (case l3 => k_is)
    (case c3 => k_is)
    (case k3 => k_is)
    (case a4 => k_is)
    (case l4 => k_is)
    (case c4 => k_is)
    (case k4 => k_is)
    (case a5 => k_is)
    (case l5 => k_is)
    (case c5 => k_is)
    (case k5 => k_is)
    (case a6 => k_is)
    (case l6 => k_is)
    (case c6 => k_is)
    (case k6 => k_is)
    (case a7 => k_is)
    (case l7 => k_is)
    (case c7 => k_is)
    (case k7 => k_is)
    (case a8 => k_is)
    (case l8 => k_is)
    (case c8 => k_is)
    (case k8 => k_is)
    (case a9 => k_is)
    (case l9 => k_is)
    (case c9 => k_is)
    (case k9 => k_is)
    (case a10 => k_is)
    (case l10 => k_is)
    (case c10 => k_is)
    (case k10 => k_is)
    (case a11 => k_is)
    (case l11 => k_is)
    (case c11 => k_is)
    (case k11 => k_is)
    (case a12 => k_is)
    (case l12 => k_is)
    (case c12 => k_is)
    (case k12 => k_is)
    (case a13 => k_is)
    (case l13 => k_is)
    (case c13 => k_is)
    (case k13 => k_is)
    (case a14 => k_is)
    (case l14 => k_is)
    (case c14 => k_is)
    (case k14 => k_is)
    (case z_all => k_is)
    (case z_bool => k_is)
    (case z_enumerate => k_is)
    (case z_isinstance => k_is)
    (case z_len => k_is)
    (case z_list => k_is)
    (case z_range => k_is)
    (case z_tuple => k_is)
    (case c_CAPITALS => k_is)
    (case c_FIGURES => k_is)
    (case c_LETTERS => k_is)
    (case c_MOST_NAME => k_is)
    (case c_MOST_PARTS => k_is)
    (case c_MOST_RULES => k_is)

