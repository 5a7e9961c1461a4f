import PyProof.Rows.All
import PySem.Syntax
import PySem.Eval
import HandS.ForMost
import HandS.TupAny
import HandS.TupMul
import HandS.Conv
import HandS.DictTup
import HandS.DictComp
import HandS.SetKeys
import HandS.IsInst
import HandS.Style
import HandS.SortOrd
import HandS.SortInts
import HandS.SortRule
import HandS.TupSets
import HandS.Strs
import HandS.SetFor
import KE.DataEq
import KE.DataCmp
import KE.DataIsa
import KE.DataMinMax
import KE.DataFind
import KE.SortData
import KE.KDictPairs
import HandS.Flow
import HandS.Codes
import HandS.Small
import OpenK.AllK
import HandS.HeadEnd
import PySem.Challenge.RW_stampheld_k86_whole_inks_changed_seen
/-! PyI: a small functional language for the part of Python that the program uses, and what it computes. -/
namespace PyI
open PySem (Str)

abbrev Key := Sum Int Str

/-- data that never changes -/
inductive P where
  | non | bl (b : Bool) | int (i : Int) | str (s : Str) | tup (l : List P)
  deriving Inhabited

mutual
def P.beq : P → P → Bool
  | .non, .non => true
  | .bl a, .bl b => a == b
  | .int a, .int b => a == b
  | .str a, .str b => a == b
  | .tup a, .tup b => P.beqs a b
  | _, _ => false
def P.beqs : List P → List P → Bool
  | [], [] => true
  | x :: xs, y :: ys => P.beq x y && P.beqs xs ys
  | _, _ => false
end
mutual
theorem P.beq_self : ∀ a : P, P.beq a a = true
  | .non => rfl
  | .bl a => by simp [P.beq]
  | .int a => by simp [P.beq]
  | .str a => by simp [P.beq]
  | .tup a => by
    unfold P.beq
    exact P.beqs_self a
theorem P.beqs_self : ∀ a : List P, P.beqs a a = true
  | [] => rfl
  | x :: xs => by
    unfold P.beqs
    rw [P.beq_self x, P.beqs_self xs]
    rfl
end
mutual
theorem P.eq_of : ∀ a b : P, P.beq a b = true → a = b
  | .non, b, h => by
    cases b with
    | non => rfl
    | _ => exact nomatch (show False by simp [P.beq] at h)
  | .bl a, b, h => by
    cases b with
    | bl c => exact congrArg P.bl (by simpa [P.beq] using h)
    | _ => exact nomatch (show False by simp [P.beq] at h)
  | .int a, b, h => by
    cases b with
    | int c => exact congrArg P.int (by simpa [P.beq] using h)
    | _ => exact nomatch (show False by simp [P.beq] at h)
  | .str a, b, h => by
    cases b with
    | str c => exact congrArg P.str (by simpa [P.beq] using h)
    | _ => exact nomatch (show False by simp [P.beq] at h)
  | .tup a, b, h => by
    cases b with
    | tup c =>
      have e : P.beqs a c = true := by simpa [P.beq] using h
      rw [P.eq_ofs a c e]
    | _ => exact nomatch (show False by simp [P.beq] at h)
theorem P.eq_ofs : ∀ a b : List P, P.beqs a b = true → a = b
  | [], b, h => by cases b with
    | nil => rfl
    | cons => exact nomatch (show False by simp [P.beqs] at h)
  | x :: xs, b, h => by
    cases b with
    | nil => exact nomatch (show False by simp [P.beqs] at h)
    | cons y ys =>
      have e : P.beq x y = true ∧ P.beqs xs ys = true := by simpa [P.beqs] using h
      rw [P.eq_of x y e.1, P.eq_ofs xs ys e.2]
end
instance : DecidableEq P := fun a b => if h : P.beq a b = true then isTrue (P.eq_of a b h) else isFalse fun e => h (e ▸ P.beq_self a)

inductive D where
  | p (x : P) | ref (h : Nat)
  deriving Inhabited, DecidableEq

/-- an object: a list, a list that is only read, a dict by ints and texts, a dict by tuples of such -/
inductive O where
  | lst (l : List D) | rol (l : List D) | dK (kvs : List (Key × D)) | dT (kvs : List (List Key × D))
  deriving Inhabited, DecidableEq

abbrev Sto := List O
abbrev Env := List (Option D)

/-- what an expression gives: a value, or a new list that nothing else knows -/
inductive R where
  | val (d : D) | tl (l : List D)
  /-- a tuple that the module's top wrote -/
  | kc (x : P)
  deriving Inhabited

inductive Bop where
  | add | sub | mul | fdiv | mod | pow | xor
  deriving DecidableEq, Repr
inductive Cop where
  | eq | ne | lt | le | gt | ge | is | isn | inn | nin
  deriving DecidableEq, Repr
inductive Ty where
  | int | bool | tuple | str
  deriving DecidableEq, Repr
/-- built-ins of one argument -/
inductive Bi where
  | len | tuple | list | sorted | sset | all | any | sum | min | max | int | str | abs | dict | isa (t : Ty) | sitems
  deriving DecidableEq, Repr
inductive Bi2 where
  | min | max
  deriving DecidableEq, Repr
inductive M1 where
  | append | extend | get | count
  deriving DecidableEq, Repr
inductive M2 where
  | get | setdefault
  deriving DecidableEq, Repr

/-- targets -/
inductive TG where
  | nm (i : Nat) | tup (l : List TG)
  deriving Inhabited

mutual
inductive IE where
  | cst (x : P)
  | glb (x : P)
  | var (i : Nat)
  | bin (o : Bop) (a b : IE)
  | neg (a : IE)
  | bnot (a : IE)
  | band (a b : IE)
  | bor (a b : IE)
  | cmp (o : Cop) (a b : IE)
  | chain (o o' : Cop) (a b c : IE)
  | ife (c a b : IE)
  | tup (es : IEs)
  | lst (es : IEs)
  | dct
  | ix (a b : IE)
  | sl (a : IE) (lo hi : IEo)
  | call (f : Nat) (es : IEs)
  | bi (b : Bi) (a : IE)
  | bi2 (b : Bi2) (a c : IE)
  | m1 (m : M1) (o a : IE)
  | m2 (m : M2) (o a b : IE)
  | comp (elt : IE) (tg : TG) (it : IT) (cs : IEs) (own : List Nat)
  | comp2 (elt : IE) (tg : TG) (it : IT) (cs : IEs) (tg2 : TG) (it2 : IT) (cs2 : IEs) (own : List Nat)
  | dcomp (k v : IE) (tg : TG) (it : IT) (cs : IEs) (own : List Nat)
inductive IEs where
  | nil | cons (e : IE) (r : IEs)
inductive IEo where
  | none | some (e : IE)
/-- what a loop walks -/
inductive IT where
  | e (a : IE) | rng1 (a : IE) | rng2 (a b : IE) | rng3 (a b c : IE) | zip (a b : IE) | enum (a : IE)
end
instance : Inhabited IE := ⟨.cst .non⟩
instance : Inhabited IEs := ⟨.nil⟩

mutual
inductive IS where
  | asg (t : TG) (e : IE)
  | par (ts : List TG) (es : IEs)
  | aug (i : Nat) (o : Bop) (e : IE)
  | setix (o i v : IE)
  | delix (o i : IE)
  | expr (e : IE)
  | ret (e : IE)
  | retn
  | ife (c : IE) (a b : ISs)
  | loop (t : TG) (it : IT) (b : ISs)
  | while (c : IE) (b : ISs)
  | brk | cnt | pas | never
inductive ISs where
  | nil | cons (s : IS) (r : ISs)
end
instance : Inhabited IS := ⟨.pas⟩
instance : Inhabited ISs := ⟨.nil⟩

/-! ### values -/
mutual
/-- == -/
def pyEq : P → P → Bool
  | .non, .non => true
  | .bl a, .bl b => a == b
  | .bl a, .int j => (if a then 1 else 0) == j
  | .int i, .bl b => i == (if b then 1 else 0)
  | .int i, .int j => i == j
  | .str x, .str y => x == y
  | .tup xs, .tup ys => pyEqs xs ys
  | _, _ => false
def pyEqs : List P → List P → Bool
  | [], [] => true
  | x :: xs, y :: ys => pyEq x y && pyEqs xs ys
  | _, _ => false
end
mutual
def depth : P → Nat
  | .tup xs => depths xs + 1
  | _ => 0
def depths : List P → Nat
  | [] => 0
  | x :: xs => max (depth x) (depths xs)
end
def isScal : P → Bool
  | .tup _ => false
  | _ => true
mutual
/-- the two can be compared, place by place -/
def alikeP : P → P → Bool
  | .non, .non => true
  | .bl _, .bl _ => true
  | .int _, .int _ => true
  | .str _, .str _ => true
  | .tup xs, .tup ys => alikePs xs ys
  | _, _ => false
def alikePs : List P → List P → Bool
  | x :: xs, y :: ys => alikeP x y && alikePs xs ys
  | [], _ => true
  | _ :: _, [] => true
end
mutual
/-- data as a row of signs -/
def toks : P → List (Int ⊕ List Nat)
  | .non => []
  | .bl b => [.inl (if b = true then 1 else 0)]
  | .int i => [.inl i]
  | .str s => [.inr s.cps.toList]
  | .tup xs => tokss xs
def tokss : List P → List (Int ⊕ List Nat)
  | [] => [.inl 0]
  | x :: xs => .inl 1 :: (toks x ++ tokss xs)
end
def signLt : Int ⊕ List Nat → Int ⊕ List Nat → Bool
  | .inl a, .inl b => decide (a < b)
  | .inl _, .inr _ => true
  | .inr _, .inl _ => false
  | .inr a, .inr b => decide (a < b)
def rowLt : List (Int ⊕ List Nat) → List (Int ⊕ List Nat) → Bool
  | [], [] => false
  | [], _ :: _ => true
  | _ :: _, [] => false
  | x :: r, y :: t => signLt x y || (!signLt y x && rowLt r t)
/-- <, of data that are alike -/
def ltP (x y : P) : Bool := rowLt (toks x) (toks y)
def isNon : P → Bool
  | .non => true
  | _ => false
def canLt (x y : P) : Bool := alikeP x y && !isNon x && decide (min (depth x) (depth y) ≤ 60)

abbrev LINE : Nat := 16777216

def ofD : D → Option P
  | .p x => some x
  | .ref _ => none
def ofDs : List D → Option (List P)
  | [] => some []
  | d :: r => match ofD d, ofDs r with
    | some x, some xs => some (x :: xs)
    | _, _ => none
def toDs (l : List P) : List D := l.map D.p

def allAlike (l : List P) : Bool := l.all fun x => l.all fun y => alikeP x y
def fullTup : P → Bool
  | .tup (_ :: _) => true
  | _ => false
def canSort (l : List P) : Bool := allAlike l && l.all (fun x => decide (depth x ≤ 60)) && (l.all fullTup || l.all fun x => isScal x && !isNon x) && decide (l.length ≤ LINE)
/-- sorted, stable -/
def sortL (l : List P) : List P := l.mergeSort fun a b => !ltP b a
def sortP (l : List P) : Option (List P) := if canSort l then some (sortL l) else none
def dedup : List P → List P
  | [] => []
  | x :: r => x :: (dedup r).filter fun y => !pyEq x y
def isInts (l : List P) : Bool := l.all fun x => match x with
  | .int _ => true
  | _ => false
def isRows (l : List P) : Bool := l.all fun x => match x with
  | .tup ys => isInts ys
  | _ => false
/-- sorted(set(..)) of ints, or of tuples of ints -/
def ssetP (l : List P) : Option (List P) := if canSort l && (isInts l || isRows l) && decide (l.length < 64) then some (sortL (dedup l)) else none

def minL (x : P) (l : List P) : P := l.foldl (fun a y => if ltP y a then y else a) x
def maxL (x : P) (l : List P) : P := l.foldl (fun a y => if ltP a y then y else a) x
def canMin (l : List P) : Bool := allAlike l && l.all (fun x => !isNon x) && decide (depths l ≤ 60)

def sIx (n d : Nat) : Option Int → Nat
  | none => d
  | some v => if v < 0 then (v + n).toNat else min v.toNat n
def cutL {α : Type} (xs : List α) (lo hi : Option Int) : List α := (xs.drop (sIx xs.length 0 lo)).take (sIx xs.length xs.length hi - sIx xs.length 0 lo)
def ixN (n : Nat) (i : Int) : Option Nat := if 0 ≤ i then (if i < n then some i.toNat else none) else if -(n : Int) ≤ i then some (i + n).toNat else none
def atI {α : Type} (xs : List α) (i : Int) : Option α := (ixN xs.length i).bind fun j => xs[j]?

def toKey : P → Option Key
  | .int i => some (.inl i)
  | .str s => some (.inr s)
  | _ => none
def toKeys : List P → Option (List Key)
  | [] => some []
  | x :: r => match toKey x, toKeys r with
    | some k, some ks => some (k :: ks)
    | _, _ => none
def ofKey : Key → P
  | .inl i => .int i
  | .inr s => .str s
def isKeyP : P → Bool
  | .int _ => true
  | .str _ => true
  | _ => false
/-- a tuple that may be a key: some ints and texts -/
def keyish : List P → Bool
  | [] => false
  | x :: r => isKeyP x && r.all isKeyP
def toKeyT : P → Option (List Key)
  | .tup (x :: r) => toKeys (x :: r)
  | _ => none
def look {κ : Type} [DecidableEq κ] (kvs : List (κ × D)) (k : κ) : Option D := (kvs.find? fun kv => decide (kv.1 = k)).map (·.2)
def putK {κ : Type} [DecidableEq κ] (kvs : List (κ × D)) (k : κ) (v : D) : List (κ × D) :=
  if (kvs.any fun kv => decide (kv.1 = k)) = true then kvs.map (fun kv => if kv.1 = k then (kv.1, v) else kv) else kvs ++ [(k, v)]
def dropK {κ : Type} [DecidableEq κ] (kvs : List (κ × D)) (k : κ) : List (κ × D) := kvs.filter fun kv => decide (kv.1 ≠ k)

/-! ### results -/
def alloc (r : R) (S : Sto) : Option (D × Sto) := match r with
  | .val d => some (d, S)
  | .tl l => some (.ref S.length, S ++ [.lst l])
  | .kc _ => none
/-- the items of a list or a tuple -/
def seqR (r : R) (S : Sto) : Option (List D) := match r with
  | .tl l => some l
  | .val (.p (.tup l)) => some (toDs l)
  | .kc (.tup l) => if l.all isScal then some (toDs l) else none
  | .val (.ref h) => match S[h]? with
    | some (.lst l) => some l
    | some (.rol l) => some l
    | _ => none
  | _ => none
/-- the items of a list -/
def lstR (r : R) (S : Sto) : Option (List D) := match r with
  | .tl l => some l
  | .val (.ref h) => match S[h]? with
    | some (.lst l) => some l
    | some (.rol l) => some l
    | _ => none
  | _ => none
/-- data, the written one too -/
def pK : R → Option P
  | .val (.p x) => some x
  | .kc x => some x
  | _ => none
def objR (r : R) (S : Sto) : Option O := match r with
  | .val (.ref h) => S[h]?
  | _ => none
def pR : R → Option P
  | .val (.p x) => some x
  | _ => none
def intR (r : R) : Option Int := match r with
  | .val (.p (.int i)) => some i
  | _ => none
def tupD (l : List D) : Option R := match ofDs l with
  | some ps => if ps.length ≤ LINE then some (.val (.p (.tup ps))) else none
  | none => none
def rInt (i : Int) : R := .val (.p (.int i))
def rBool (b : Bool) : R := .val (.p (.bl b))
def truthy (r : R) (S : Sto) : Option Bool := match r with
  | .tl l => some (!l.isEmpty)
  | .kc _ => none
  | .val (.p .non) => some false
  | .val (.p (.bl b)) => some b
  | .val (.p (.int i)) => some (i != 0)
  | .val (.p (.str s)) => if s.length ≤ LINE then some (s.length != 0) else none
  | .val (.p (.tup l)) => some (!l.isEmpty)
  | .val (.ref h) => match S[h]? with
    | some (.lst l) => some (!l.isEmpty)
    | some (.rol l) => some (!l.isEmpty)
    | some (.dK kvs) => some (!kvs.isEmpty)
    | _ => none

/-- exclusive or of ints that are not below nought -/
def xorI (i j : Int) : Option Int := if 0 ≤ i ∧ 0 ≤ j then some ((i.toNat ^^^ j.toNat : Nat) : Int) else none

def binI (o : Bop) (i j : Int) : Option Int := match o with
  | .add => some (i + j)
  | .sub => some (i - j)
  | .mul => if (-(2 ^ 64) < i ∧ i < 2 ^ 64) ∨ (-(2 ^ 64) < j ∧ j < 2 ^ 64) then some (i * j) else none
  | .fdiv => if 0 < j ∧ j < 1073741824 then some (i / j) else none
  | .mod => if 0 < j then some (i % j) else none
  | .pow => if 0 ≤ j ∧ j ≤ 1000000 ∧ i.natAbs < 2 ^ 64 then some (i ^ j.toNat) else none
  | .xor => xorI i j
def isL (r : R) (S : Sto) : Option (List D) := match r with
  | .tl l => some l
  | .val (.ref h) => match S[h]? with
    | some (.lst l) => some l
    | _ => none
  | _ => none
def binR (o : Bop) (a b : R) (S : Sto) : Option R := match a, b with
  | .val (.p (.int i)), .val (.p (.int j)) => (binI o i j).map rInt
  | .val (.p (.str x)), .val (.p (.str y)) => match o with
    | .add => if x.length + y.length ≤ LINE then some (.val (.p (.str (x ++ y)))) else none
    | _ => none
  | .val (.p (.tup x)), .val (.p (.tup y)) => match o with
    | .add => if x.length + y.length ≤ LINE then some (.val (.p (.tup (x ++ y)))) else none
    | _ => none
  | .kc (.tup x), .val (.p (.tup y)) => match o with
    | .add => if x.length + y.length ≤ LINE ∧ x ≠ [] ∧ y ≠ [] ∧ x.all isScal then some (.val (.p (.tup (x ++ y)))) else none
    | _ => none
  | .val (.p (.tup x)), .val (.p (.int k)) => match o with
    | .mul => if x.length ≤ 1000 ∧ 0 ≤ k ∧ k ≤ 1000 ∧ keyish x = true ∧ 2 ≤ k then some (.val (.p (.tup (List.replicate k.toNat x).flatten))) else none
    | _ => none
  | a, b => match o with
    | .add => match isL a S, isL b S with
      | some x, some y => if x.length + y.length ≤ LINE then some (.tl (x ++ y)) else none
      | _, _ => none
    | .mul => match isL a S, intR b with
      | some x, some k => if x.length * k.toNat ≤ LINE ∧ -(2 ^ 63) ≤ k ∧ k < 2 ^ 63 then some (.tl (List.replicate k.toNat x).flatten) else none
      | _, _ => none
    | _ => none

/-- == of data, or of two lists of data -/
def eqR (a b : R) (S : Sto) : Option Bool := match pK a, pK b with
  | some x, some y => if min (depth x) (depth y) ≤ 60 then some (pyEq x y) else none
  | _, _ => match isL a S, isL b S with
    | some x, some y => match ofDs x, ofDs y with
      | some xs, some ys => if min (depths xs) (depths ys) ≤ 60 then some (pyEqs xs ys) else none
      | _, _ => none
    | _, _ => none
def ltR (f : P → P → Bool) (a b : R) : Option Bool := match pK a, pK b with
  | some x, some y => if canLt x y then some (f x y) else none
  | _, _ => none
def isR (a b : R) : Option Bool := match a, b with
  | .val (.p .non), .val (.p .non) => some true
  | .val _, .val (.p .non) => some false
  | .tl _, .val (.p .non) => some false
  | .val (.p (.bl x)), .val (.p (.bl y)) => some (x == y)
  | _, _ => none
def inR (a b : R) (S : Sto) : Option Bool := match objR b S with
  | some (.dK kvs) => match pR a with
    | some x => match toKey x with
      | some k => some (look kvs k).isSome
      | none => if kvs.isEmpty then match toKeyT x with
        | some _ => some false
        | none => none else none
    | none => none
  | some (.dT kvs) => match pR a with
    | some x => match toKeyT x with
      | some k => some (look kvs k).isSome
      | none => none
    | none => none
  | _ => match pK a, (seqR b S).bind ofDs with
    | some x, some xs => if depth x ≤ 60 then some (xs.any fun y => pyEq y x) else none
    | _, _ => none
def cmpR (o : Cop) (a b : R) (S : Sto) : Option Bool := match o with
  | .eq => eqR a b S
  | .ne => (eqR a b S).map (!·)
  | .lt => ltR (fun x y => ltP x y) a b
  | .gt => ltR (fun x y => ltP y x) a b
  | .le => ltR (fun x y => !ltP y x) a b
  | .ge => ltR (fun x y => !ltP x y) a b
  | .is => isR a b
  | .isn => (isR a b).map (!·)
  | .inn => inR a b S
  | .nin => (inR a b S).map (!·)

def ixR (a b : R) (S : Sto) : Option R := match a with
  | .tl l => match intR b with
    | some i => (atI l i).map R.val
    | none => none
  | .val (.p (.tup l)) => match intR b with
    | some i => (atI l i).map fun x => R.val (D.p x)
    | none => none
  | .kc (.tup l) => match intR b with
    | some i => (atI l i).map fun x => if isScal x then R.val (D.p x) else R.kc x
    | none => none
  | .val (.p (.str s)) => match intR b with
    | some i => if s.length ≤ LINE then (atI s.cps.toList i).map fun c => R.val (D.p (.str ⟨#[c]⟩)) else none
    | none => none
  | .val (.ref h) => match S[h]? with
    | some (.lst l) => match intR b with
      | some i => (atI l i).map R.val
      | none => none
    | some (.rol l) => match intR b with
      | some i => (atI l i).map R.val
      | none => none
    | some (.dK kvs) => match pR b with
      | some x => match toKey x with
        | some k => (look kvs k).map R.val
        | none => none
      | none => none
    | some (.dT kvs) => match pR b with
      | some x => match toKeyT x with
        | some k => (look kvs k).map R.val
        | none => none
      | none => none
    | none => none
  | _ => none
def slR (a : R) (lo hi : Option Int) (S : Sto) : Option R := match a with
  | .tl l => some (.tl (cutL l lo hi))
  | .val (.p (.tup l)) => some (.val (.p (.tup (cutL l lo hi))))
  | .val (.ref h) => match S[h]? with
    | some (.lst l) => some (.tl (cutL l lo hi))
    | some (.rol l) => some (.tl (cutL l lo hi))
    | _ => none
  | _ => none

def allB : List P → Option (List Bool)
  | [] => some []
  | .bl b :: r => (allB r).map (b :: ·)
  | _ => none
def allI : List P → Option (List Int)
  | [] => some []
  | .int b :: r => (allI r).map (b :: ·)
  | _ => none
/-- the pairs of a dict that is made -/
def putAllK : List P → List (Key × D) → Option (List (Key × D))
  | [], acc => some acc
  | .tup [k, v] :: r, acc => match toKey k with
    | some k => putAllK r (putK acc k (.p v))
    | none => none
  | _, _ => none
def putAllT : List P → List (List Key × D) → Option (List (List Key × D))
  | [], acc => some acc
  | .tup [k, v] :: r, acc => match toKeyT k with
    | some k => putAllT r (putK acc k (.p v))
    | none => none
  | _, _ => none
def dictOf (l : List P) : Option O := match l with
  | .tup [.tup _, _] :: _ => (putAllT l []).map O.dT
  | _ => (putAllK l []).map O.dK
def isaP : Ty → P → Bool
  | .int, .int _ => true
  | .int, .bl _ => true
  | .bool, .bl _ => true
  | .tuple, .tup _ => true
  | .str, .str _ => true
  | _, _ => false
def dItems (o : O) : Option (List P) := match o with
  | .dK kvs => match ofDs (kvs.map (·.2)) with
    | some vs => some ((kvs.zip vs).map fun p => P.tup [ofKey p.1.1, p.2])
    | none => none
  | .dT kvs => match ofDs (kvs.map (·.2)) with
    | some vs => if kvs.all (fun p => !p.1.isEmpty) then some ((kvs.zip vs).map fun p => P.tup [.tup (p.1.1.map ofKey), p.2]) else none
    | none => none
  | _ => none
def dKeys (o : O) : Option (List P) := match o with
  | .dK kvs => some (kvs.map fun p => ofKey p.1)
  | .dT kvs => if kvs.all (fun p => !p.1.isEmpty) then some (kvs.map fun p => P.tup (p.1.map ofKey)) else none
  | _ => none

/-- the items of a list, data all -/
def lstP (r : R) (S : Sto) : Option (List P) := (lstR r S).bind ofDs
/-- the items that dict(..) takes -/
def dSrc (a : R) (S : Sto) : Option (List P) := match a with
  | .val (.p (.tup l)) => if keyish l then none else some l
  | a => lstP a S
def biR (b : Bi) (a : R) (S : Sto) : Option (R × Sto) := match b with
  | .len => match a with
    | .val (.p (.str s)) => if s.length ≤ LINE then some (rInt s.length, S) else none
    | a => match seqR a S with
      | some l => some (rInt l.length, S)
      | none => none
  | .tuple => match a with
    | .val (.p (.tup l)) => some (.val (.p (.tup l)), S)
    | a => match lstP a S with
      | some l => some (.val (.p (.tup l)), S)
      | none => none
  | .list => match seqR a S with
    | some l => some (.tl l, S)
    | none => match objR a S with
      | some o => (dKeys o).map fun l => (.tl (toDs l), S)
      | none => none
  | .sorted => match lstP a S with
    | some l => (sortP l).map fun l => (.tl (toDs l), S)
    | none => match objR a S with
      | some o => match dKeys o with
        | some l => (sortP l).map fun l => (.tl (toDs l), S)
        | none => none
      | none => none
  | .sitems => match objR a S with
    | some o => match dItems o with
      | some l => (sortP l).map fun l => (.tl (toDs l), S)
      | none => none
    | none => none
  | .sset => match lstP a S with
    | some l => (ssetP l).map fun l => (.tl (toDs l), S)
    | none => none
  | .all => match (lstP a S).bind allB with
    | some bs => some (rBool (bs.all id), S)
    | none => none
  | .any => match (lstP a S).bind allB with
    | some bs => some (rBool (bs.any id), S)
    | none => none
  | .sum => match (lstP a S).bind allI with
    | some is => some (rInt is.sum, S)
    | none => none
  | .min => match lstP a S with
    | some (x :: r) => if canMin (x :: r) then some (.val (.p (minL x r)), S) else none
    | _ => none
  | .max => match lstP a S with
    | some (x :: r) => if canMin (x :: r) then some (.val (.p (maxL x r)), S) else none
    | _ => none
  | .int => match a with
    | .val (.p (.int i)) => some (rInt i, S)
    | .val (.p (.bl b)) => some (rInt (if b then 1 else 0), S)
    | _ => none
  | .str => none
  | .abs => match intR a with
    | some i => some (rInt (if i < 0 then -i else i), S)
    | none => none
  | .dict => match dSrc a S with
    | some l => (dictOf l).map fun o => (.val (.ref S.length), S ++ [o])
    | none => none
  | .isa t => match a with
    | .val (.p x) => some (rBool (isaP t x), S)
    | _ => none

def bi2R (b : Bi2) (a c : R) : Option R := match b with
  | .min => match intR a, intR c with
    | some i, some j => some (rInt (if j < i then j else i))
    | _, _ => none
  | .max => match intR a, intR c with
    | some i, some j => some (rInt (if j > i then j else i))
    | _, _ => none

def refR : R → Option Nat
  | .val (.ref h) => some h
  | _ => none

def m1R (m : M1) (o a : R) (S : Sto) : Option (R × Sto) := match m with
  | .append => match refR o with
    | some h => match S[h]? with
      | some (.lst l) => match alloc a S with
        | some (d, S) => if l.length < LINE then some (.val (.p .non), S.set h (.lst (l ++ [d]))) else none
        | none => none
      | _ => none
    | none => none
  | .extend => match refR o with
    | some h => match S[h]? with
      | some (.lst l) => match isL a S with
        | some x => if l.length + x.length ≤ LINE then some (.val (.p .non), S.set h (.lst (l ++ x))) else none
        | none => none
      | _ => none
    | none => none
  | .get => match refR o with
    | some h => match S[h]? with
      | some (.dK kvs) => match pR a with
        | some x => match toKey x with
          | some k => some (.val ((look kvs k).getD (.p .non)), S)
          | none => if kvs.isEmpty then match toKeyT x with
            | some _ => some (.val (.p .non), S)
            | none => none else none
        | none => none
      | some (.dT kvs) => match pR a with
        | some x => match toKeyT x with
          | some k => some (.val ((look kvs k).getD (.p .non)), S)
          | none => none
        | none => none
      | _ => none
    | none => none
  | .count => match (isL o S).bind ofDs, pK a with
    | some xs, some x => if depth x ≤ 60 then some (rInt (xs.countP fun y => pyEq y x), S) else none
    | _, _ => none

def isDct (r : R) (S : Sto) : Bool := match objR r S with
  | some (.dK _) => true
  | some (.dT _) => true
  | _ => false
/-- is it a thing that has the method? -/
def rcv1 (m : M1) (x : R) (S : Sto) : Bool := match m with
  | .get => isDct x S
  | _ => (isL x S).isSome
def m2R (m : M2) (o a b : R) (S : Sto) : Option (R × Sto) := match m with
  | .get => match refR o with
    | some h => match S[h]? with
      | some (.dK kvs) => match pR a, b with
        | some x, .val d => match toKey x with
          | some k => some (.val ((look kvs k).getD d), S)
          | none => if kvs.isEmpty then match toKeyT x with
            | some _ => some (.val d, S)
            | none => none else none
        | _, _ => none
      | some (.dT kvs) => match pR a, b with
        | some x, .val d => match toKeyT x with
          | some k => some (.val ((look kvs k).getD d), S)
          | none => none
        | _, _ => none
      | _ => none
    | none => none
  | .setdefault => match refR o with
    | some h => match S[h]? with
      | some (.dK kvs) => match pR a with
        | some x => match toKey x with
          | some k => match look kvs k with
            | some d => if kvs.length < LINE then some (.val d, S) else none
            | none => match alloc b S with
              | some (d, S) => if kvs.length < LINE then some (.val d, S.set h (.dK (kvs ++ [(k, d)]))) else none
              | none => none
          | none => none
        | none => none
      | _ => none
    | none => none

def setIx (o i : R) (d : D) (S : Sto) : Option Sto := match refR o with
  | some h => match S[h]? with
    | some (.lst l) => match intR i with
      | some k => (ixN l.length k).map fun j => S.set h (.lst (l.set j d))
      | none => none
    | some (.dK kvs) => match pR i with
      | some x => match toKey x with
        | some k => if kvs.length < LINE then some (S.set h (.dK (putK kvs k d))) else none
        | none => if kvs.isEmpty then match toKeyT x with
          | some k => some (S.set h (.dT [(k, d)]))
          | none => none else none
      | none => none
    | some (.dT kvs) => match pR i with
      | some x => match toKeyT x with
        | some k => if kvs.length < LINE then some (S.set h (.dT (putK kvs k d))) else none
        | none => none
      | none => none
    | _ => none
  | none => none
def delIx (o i : R) (S : Sto) : Option Sto := match refR o with
  | some h => match S[h]? with
    | some (.dK kvs) => match pR i with
      | some x => match toKey x with
        | some k => if (look kvs k).isSome then some (S.set h (.dK (dropK kvs k))) else none
        | none => none
      | none => none
    | some (.dT kvs) => match pR i with
      | some x => match toKeyT x with
        | some k => if (look kvs k).isSome then some (S.set h (.dT (dropK kvs k))) else none
        | none => none
      | none => none
    | _ => none
  | none => none

/-! ### names -/
def getV (env : Env) (i : Nat) : Option D := match env[i]? with
  | some (some d) => some d
  | _ => none
def setV (env : Env) (i : Nat) (d : D) : Env := env.set i (some d)
mutual
def asgD : TG → D → Env → Option Env
  | .nm i, d, env => some (setV env i d)
  | .tup ts, d, env => match d with
    | .p (.tup l) => asgDs ts (toDs l) env
    | _ => none
def asgDs : List TG → List D → Env → Option Env
  | [], [], env => some env
  | t :: ts, d :: ds, env => match asgD t d env with
    | some env => asgDs ts ds env
    | none => none
  | _, _, _ => none
end
/-- a target's value -/
def asgR (t : TG) (r : R) (env : Env) (S : Sto) : Option (Env × Sto) := match alloc r S with
  | some (d, S) => (asgD t d env).map fun e => (e, S)
  | none => none
mutual
def tgIdx : TG → List Nat
  | .nm i => [i]
  | .tup ts => tgsIdx ts
def tgsIdx : List TG → List Nat
  | [] => []
  | t :: ts => tgIdx t ++ tgsIdx ts
end
def wipe (env : Env) : List Nat → Env
  | [] => env
  | v :: vs => (wipe env vs).set v none

/-! ### loops -/
inductive Out where
  | nx | bk | ct | ret (d : D)

/-- does the list that is walked stand as it was? -/
def still : Option (Nat × List D) → Sto → Bool
  | none, _ => true
  | some (h, l), S => match S[h]? with
    | some (.lst l') => decide (l' = l)
    | _ => false
/-- a comprehension's turns -/
def compL (f : D → Sto → Option (Option D × Sto)) : List D → Option (Nat × List D) → Sto → Option (List D × Sto)
  | [], _, S => some ([], S)
  | d :: r, c, S => match f d S with
    | some (x, S1) => if still c S1 then match compL f r c S1 with
      | some (l, S2) => some ((match x with
        | some y => y :: l
        | none => l), S2)
      | none => none else none
    | none => none
/-- .. of two clauses: a turn of the outer one gives some items -/
def compL2 (f : D → Sto → Option (List D × Sto)) : List D → Option (Nat × List D) → Sto → Option (List D × Sto)
  | [], _, S => some ([], S)
  | d :: r, c, S => match f d S with
    | some (x, S1) => if still c S1 then match compL2 f r c S1 with
      | some (l, S2) => some (x ++ l, S2)
      | none => none else none
    | none => none
def loopL (f : D → Env → Sto → Option (Out × Env × Sto)) : List D → Option (Nat × List D) → Env → Sto → Option (Out × Env × Sto)
  | [], _, env, S => some (.nx, env, S)
  | d :: r, c, env, S => match f d env S with
    | some (.nx, env, S) => if still c S then loopL f r c env S else none
    | some (.ct, env, S) => if still c S then loopL f r c env S else none
    | some (.bk, env, S) => some (.nx, env, S)
    | some (.ret d, env, S) => some (.ret d, env, S)
    | none => none
def whileD (c : Env → Sto → Option (Bool × Sto)) (b : Env → Sto → Option (Out × Env × Sto)) (env : Env) (S : Sto) : Option (Out × Env × Sto) := do
  let (t, S1) ← c env S
  if t then
    let (o, env', S') ← b env S1
    match o with
    | .nx => whileD c b env' S'
    | .ct => whileD c b env' S'
    | .bk => some (.nx, env', S')
    | .ret d => some (.ret d, env', S')
  else some (.nx, env, S1)
partial_fixpoint

/-- lo, lo + c, .. (n of them) -/
def rngL (lo : Int) (n : Nat) (c : Int) : List D := (List.range n).map fun i => D.p (.int (lo + (i : Nat) * c))
def rngN (a b c : Int) : Nat := (if c > 0 then (if a < b then (b - a - 1) / c + 1 else 0) else (if a > b then (a - b - 1) / (-c) + 1 else 0) : Int).toNat
def small62 (i : Int) : Bool := decide (-(2 ^ 61) ≤ i) && decide (i < 2 ^ 61)
def zipD : List P → List P → List D
  | x :: xs, y :: ys => .p (.tup [x, y]) :: zipD xs ys
  | _, _ => []
def enumD (n : Nat) : List P → List D
  | x :: xs => .p (.tup [.int n, x]) :: enumD (n + 1) xs
  | [] => []
/-- what a value gives to a loop, and what must stand still -/
def walkR (r : R) (S : Sto) : Option (List D × Option (Nat × List D)) := match r with
  | .tl l => some (l, none)
  | .val (.p (.tup l)) => some (toDs l, none)
  | .kc (.tup l) => if l.all isScal then some (toDs l, none) else none
  | .val (.ref h) => match S[h]? with
    | some (.lst l) => some (l, some (h, l))
    | some (.rol l) => some (l, none)
    | _ => none
  | _ => none

/-! ### expressions -/
abbrev CF := Nat → List D → Sto → Option (D × Sto)
mutual
def ev (cf : CF) : IE → Env → Sto → Option (R × Sto)
  | .cst x, _, S => some (.val (.p x), S)
  | .glb x, _, S => some (.kc x, S)
  | .var i, env, S => match getV env i with
    | some d => some (.val d, S)
    | none => none
  | .bin o a b, env, S => match ev cf a env S with
    | some (x, S) => match ev cf b env S with
      | some (y, S) => match binR o x y S with
        | some r => some (r, S)
        | none => none
      | none => none
    | none => none
  | .neg a, env, S => match ev cf a env S with
    | some (x, S) => match intR x with
      | some i => some (rInt (-i), S)
      | none => none
    | none => none
  | .bnot a, env, S => match ev cf a env S with
    | some (x, S) => match truthy x S with
      | some b => some (rBool !b, S)
      | none => none
    | none => none
  | .band a b, env, S => match ev cf a env S with
    | some (x, S) => match truthy x S with
      | some true => ev cf b env S
      | some false => some (x, S)
      | none => none
    | none => none
  | .bor a b, env, S => match ev cf a env S with
    | some (x, S) => match truthy x S with
      | some true => some (x, S)
      | some false => ev cf b env S
      | none => none
    | none => none
  | .cmp o a b, env, S => match ev cf a env S with
    | some (x, S) => match ev cf b env S with
      | some (y, S) => match cmpR o x y S with
        | some r => some (rBool r, S)
        | none => none
      | none => none
    | none => none
  | .chain o o' a b c, env, S => match ev cf a env S with
    | some (x, S) => match ev cf b env S with
      | some (y, S) => match cmpR o x y S with
        | some true => match ev cf c env S with
          | some (z, S) => match cmpR o' y z S with
            | some r => some (rBool r, S)
            | none => none
          | none => none
        | some false => some (rBool false, S)
        | none => none
      | none => none
    | none => none
  | .ife c a b, env, S => match tst cf c env S with
    | some (true, S) => ev cf a env S
    | some (false, S) => ev cf b env S
    | none => none
  | .tup es, env, S => match evs cf es env S with
    | some (l, S) => match tupD l with
      | some r => some (r, S)
      | none => none
    | none => none
  | .lst es, env, S => match evs cf es env S with
    | some (l, S) => if l.length ≤ LINE then some (.tl l, S) else none
    | none => none
  | .dct, _, S => some (.val (.ref S.length), S ++ [.dK []])
  | .ix a b, env, S => match ev cf a env S with
    | some (x, S) => match ev cf b env S with
      | some (y, S) => match ixR x y S with
        | some r => some (r, S)
        | none => none
      | none => none
    | none => none
  | .sl a lo hi, env, S => match ev cf a env S with
    | some (x, S) => match evo cf lo env S with
      | some (l, S) => match evo cf hi env S with
        | some (h, S) => match slR x l h S with
          | some r => some (r, S)
          | none => none
        | none => none
      | none => none
    | none => none
  | .call f es, env, S => match evs cf es env S with
    | some (l, S) => match cf f l S with
      | some (d, S) => some (.val d, S)
      | none => none
    | none => none
  | .bi b a, env, S => match ev cf a env S with
    | some (x, S) => biR b x S
    | none => none
  | .bi2 b a c, env, S => match ev cf a env S with
    | some (x, S) => match ev cf c env S with
      | some (y, S) => match bi2R b x y with
        | some r => some (r, S)
        | none => none
      | none => none
    | none => none
  | .m1 m o a, env, S => match ev cf o env S with
    | some (x, S) => if rcv1 m x S then match ev cf a env S with
      | some (y, S) => m1R m x y S
      | none => none else none
    | none => none
  | .m2 m o a b, env, S => match ev cf o env S with
    | some (x, S) => if isDct x S then match ev cf a env S with
      | some (y, S) => match ev cf b env S with
        | some (z, S) => m2R m x y z S
        | none => none
      | none => none else none
    | none => none
  | .comp elt tg it cs own, env, S => match evi cf it env S with
    | some (l, c, S) => match compL (fun d S => match asgD tg d (wipe env own) with
        | some env' => match tsts cf cs env' S with
          | some (true, S) => match ev cf elt env' S with
            | some (r, S) => match alloc r S with
              | some (d, S) => some (some d, S)
              | none => none
            | none => none
          | some (false, S) => some (none, S)
          | none => none
        | none => none) l c S with
      | some (l, S) => if l.length ≤ LINE then some (.tl l, S) else none
      | none => none
    | none => none
  | .comp2 elt tg it cs tg2 it2 cs2 own, env, S => match evi cf it env S with
    | some (l, c, S) => match compL2 (fun d S => match asgD tg d (wipe env own) with
        | some env' => match tsts cf cs env' S with
          | some (true, S) => match evi cf it2 env' S with
            | some (l2, c2, S) => compL (fun d S => match asgD tg2 d (wipe env' (tgIdx tg2)) with
              | some env'' => match tsts cf cs2 env'' S with
                | some (true, S) => match ev cf elt env'' S with
                  | some (r, S) => match alloc r S with
                    | some (d, S) => some (some d, S)
                    | none => none
                  | none => none
                | some (false, S) => some (none, S)
                | none => none
              | none => none) l2 c2 S
            | none => none
          | some (false, S) => some ([], S)
          | none => none
        | none => none) l c S with
      | some (l, S) => if l.length ≤ LINE then some (.tl l, S) else none
      | none => none
    | none => none
  | .dcomp k v tg it cs own, env, S => match evi cf it env S with
    | some (l, c, S) => match compL (fun d S => match asgD tg d (wipe env own) with
        | some env' => match tsts cf cs env' S with
          | some (true, S) => match ev cf k env' S with
            | some (x, S) => match ev cf v env' S with
              | some (y, S) => match pR x, pR y with
                | some x, some y => some (some (.p (.tup [x, y])), S)
                | _, _ => none
              | none => none
            | none => none
          | some (false, S) => some (none, S)
          | none => none
        | none => none) l c S with
      | some (l, S) => if l.length ≤ LINE then match (ofDs l).bind dictOf with
        | some o => some (.val (.ref S.length), S ++ [o])
        | none => none else none
      | none => none
    | none => none
def tst (cf : CF) : IE → Env → Sto → Option (Bool × Sto)
  | .bnot a, env, S => match tst cf a env S with
    | some (b, S) => some (!b, S)
    | none => none
  | .band a b, env, S => match tst cf a env S with
    | some (true, S) => tst cf b env S
    | some (false, S) => some (false, S)
    | none => none
  | .bor a b, env, S => match tst cf a env S with
    | some (true, S) => some (true, S)
    | some (false, S) => tst cf b env S
    | none => none
  | .cmp o a b, env, S => match ev cf a env S with
    | some (x, S) => match ev cf b env S with
      | some (y, S) => match cmpR o x y S with
        | some r => some (r, S)
        | none => none
      | none => none
    | none => none
  | .chain o o' a b c, env, S => match ev cf a env S with
    | some (x, S) => match ev cf b env S with
      | some (y, S) => match cmpR o x y S with
        | some true => match ev cf c env S with
          | some (z, S) => match cmpR o' y z S with
            | some r => some (r, S)
            | none => none
          | none => none
        | some false => some (false, S)
        | none => none
      | none => none
    | none => none
  | .ife c a b, env, S => match tst cf c env S with
    | some (true, S) => tst cf a env S
    | some (false, S) => tst cf b env S
    | none => none
  | e, env, S => match ev cf e env S with
    | some (x, S) => match truthy x S with
      | some b => some (b, S)
      | none => none
    | none => none
def tsts (cf : CF) : IEs → Env → Sto → Option (Bool × Sto)
  | .nil, _, S => some (true, S)
  | .cons e r, env, S => match tst cf e env S with
    | some (true, S) => tsts cf r env S
    | some (false, S) => some (false, S)
    | none => none
def evs (cf : CF) : IEs → Env → Sto → Option (List D × Sto)
  | .nil, _, S => some ([], S)
  | .cons e r, env, S => match ev cf e env S with
    | some (x, S) => match alloc x S with
      | some (d, S) => match evs cf r env S with
        | some (l, S) => some (d :: l, S)
        | none => none
      | none => none
    | none => none
def evo (cf : CF) : IEo → Env → Sto → Option (Option Int × Sto)
  | .none, _, S => some (none, S)
  | .some e, env, S => match ev cf e env S with
    | some (x, S) => match intR x with
      | some i => some (some i, S)
      | none => none
    | none => none
def evi (cf : CF) : IT → Env → Sto → Option (List D × Option (Nat × List D) × Sto)
  | .e a, env, S => match ev cf a env S with
    | some (x, S) => match walkR x S with
      | some (l, c) => some (l, c, S)
      | none => none
    | none => none
  | .rng1 a, env, S => match ev cf a env S with
    | some (x, S) => match intR x with
      | some n => if small62 n then some (rngL 0 n.toNat 1, none, S) else none
      | none => none
    | none => none
  | .rng2 a b, env, S => match ev cf a env S with
    | some (x, S) => match ev cf b env S with
      | some (y, S) => match intR x, intR y with
        | some i, some j => if small62 i && small62 j then some (rngL i (j - i).toNat 1, none, S) else none
        | _, _ => none
      | none => none
    | none => none
  | .rng3 a b c, env, S => match ev cf a env S with
    | some (x, S) => match ev cf b env S with
      | some (y, S) => match ev cf c env S with
        | some (z, S) => match intR x, intR y, intR z with
          | some i, some j, some k => if small62 i && small62 j && decide (k ≠ 0) && decide (k.natAbs < 1073741824) then some (rngL i (rngN i j k) k, none, S) else none
          | _, _, _ => none
        | none => none
      | none => none
    | none => none
  | .zip a b, env, S => match ev cf a env S with
    | some (x, S) => match ev cf b env S with
      | some (y, S) => match (seqR x S).bind ofDs, (seqR y S).bind ofDs with
        | some l, some m => some (zipD l m, none, S)
        | _, _ => none
      | none => none
    | none => none
  | .enum a, env, S => match ev cf a env S with
    | some (x, S) => match (seqR x S).bind ofDs with
      | some l => some (enumD 0 l, none, S)
      | none => none
    | none => none
end

/-! ### statements -/
mutual
def ex (cf : CF) : IS → Env → Sto → Option (Out × Env × Sto)
  | .asg t e, env, S => match ev cf e env S with
    | some (x, S) => match asgR t x env S with
      | some (env, S) => some (.nx, env, S)
      | none => none
    | none => none
  | .par ts es, env, S => match evs cf es env S with
    | some (l, S) => match asgDs ts l env with
      | some env => some (.nx, env, S)
      | none => none
    | none => none
  | .aug i o e, env, S => match getV env i with
    | some (.p (.int d)) => match ev cf e env S with
      | some (x, S) => match intR x with
        | some j => match binI o d j with
          | some r => some (.nx, setV env i (.p (.int r)), S)
          | none => none
        | none => none
      | none => none
    | _ => none
  | .setix o i v, env, S => match ev cf v env S with
    | some (x, S) => match alloc x S with
      | some (d, S) => match ev cf o env S with
        | some (y, S) => match ev cf i env S with
          | some (z, S) => match setIx y z d S with
            | some S => some (.nx, env, S)
            | none => none
          | none => none
        | none => none
      | none => none
    | none => none
  | .delix o i, env, S => match ev cf o env S with
    | some (y, S) => match ev cf i env S with
      | some (z, S) => match delIx y z S with
        | some S => some (.nx, env, S)
        | none => none
      | none => none
    | none => none
  | .expr e, env, S => match ev cf e env S with
    | some (_, S) => some (.nx, env, S)
    | none => none
  | .ret e, env, S => match ev cf e env S with
    | some (x, S) => match alloc x S with
      | some (d, S) => some (.ret d, env, S)
      | none => none
    | none => none
  | .retn, env, S => some (.ret (.p .non), env, S)
  | .ife c a b, env, S => match tst cf c env S with
    | some (true, S) => exs cf a env S
    | some (false, S) => exs cf b env S
    | none => none
  | .loop t it b, env, S => match evi cf it env S with
    | some (l, c, S) => loopL (fun d env S => match asgD t d env with
      | some env => exs cf b env S
      | none => none) l c env S
    | none => none
  | .while c b, env, S => whileD (fun env S => tst cf c env S) (fun env S => exs cf b env S) env S
  | .brk, env, S => some (.bk, env, S)
  | .cnt, env, S => some (.ct, env, S)
  | .pas, env, S => some (.nx, env, S)
  | .never, _, _ => none
def exs (cf : CF) : ISs → Env → Sto → Option (Out × Env × Sto)
  | .nil, env, S => some (.nx, env, S)
  | .cons s r, env, S => match ex cf s env S with
    | some (.nx, env, S) => exs cf r env S
    | some (o, env, S) => some (o, env, S)
    | none => none
end

/-- a def: how many parameters, how many names, its body -/
structure Fn where
  np : Nat
  nn : Nat
  body : ISs
  deriving Inhabited
def start (n : Nat) (ds : List D) : Env := ds.map some ++ List.replicate (n - ds.length) none
/-- its handles lie below n -/
def belowD (n : Nat) : D → Bool
  | .p _ => true
  | .ref h => decide (h < n)
def belowO (n : Nat) : O → Bool
  | .lst l => l.all (belowD n)
  | .rol l => l.all (belowD n)
  | .dK kvs => kvs.all fun p => belowD n p.2
  | .dT kvs => kvs.all fun p => belowD n p.2
def okLeave (n : Nat) : Sto → Sto → Bool
  | [], _ => true
  | o :: S, o' :: S' => (decide (o' = o) || belowO n o') && okLeave n S S'
  | _ :: _, [] => false
/-- a call's end: what the call made is dropped where it hands back data -/
def leave (d : D) (S S' : Sto) : D × Sto := match d with
  | .p x => if okLeave S.length S S' then (.p x, S'.take S.length) else (.p x, S')
  | .ref h => (.ref h, S')
def run (T : List Fn) : Nat → CF
  | 0, _, _, _ => none
  | n + 1, f, ds, S => match T[f]? with
    | some fn => if ds.length = fn.np then match exs (run T n) fn.body (start fn.nn ds) S with
      | some (.ret d, _, S') => some (leave d S S')
      | some (.nx, _, S') => some (leave (.p .non) S S')
      | _ => none else none
    | none => none

end PyI
set_option Elab.async false
set_option linter.all false
/-! PyO: the order of data. -/
namespace PyI
open PySem (Str)

theorem signLt_irrefl : ∀ a, signLt a a = false
  | .inl a => by simp [signLt]
  | .inr a => by simp [signLt, List.lt_irrefl]
theorem signLt_trans : ∀ {a b c}, signLt a b = true → signLt b c = true → signLt a c = true
  | .inl a, .inl b, .inl c, h1, h2 => by simp [signLt] at *; omega
  | .inl a, .inl b, .inr c, h1, h2 => by simp [signLt]
  | .inl a, .inr b, .inl c, h1, h2 => by simp [signLt] at *
  | .inl a, .inr b, .inr c, h1, h2 => by simp [signLt]
  | .inr a, .inl b, _, h1, h2 => by simp [signLt] at *
  | .inr a, .inr b, .inl c, h1, h2 => by simp [signLt] at *
  | .inr a, .inr b, .inr c, h1, h2 => by
    simp only [signLt, decide_eq_true_eq] at *
    exact List.lt_trans h1 h2
theorem signLt_tri : ∀ {a b}, signLt a b = false → signLt b a = false → a = b
  | .inl a, .inl b, h1, h2 => by
    simp [signLt] at h1 h2
    rw [Int.le_antisymm h2 h1]
  | .inl a, .inr b, h1, h2 => by simp [signLt] at h1
  | .inr a, .inl b, h1, h2 => by simp [signLt] at h2
  | .inr a, .inr b, h1, h2 => by
    simp only [signLt, decide_eq_false_iff_not] at h1 h2
    rw [List.le_antisymm (List.not_lt.mp h2) (List.not_lt.mp h1)]
theorem rowLt_irrefl : ∀ a, rowLt a a = false
  | [] => rfl
  | x :: r => by simp [rowLt, signLt_irrefl, rowLt_irrefl r]
theorem rowLt_tri : ∀ {a b}, rowLt a b = false → rowLt b a = false → a = b
  | [], [], _, _ => rfl
  | [], _ :: _, h, _ => by simp [rowLt] at h
  | _ :: _, [], _, h => by simp [rowLt] at h
  | x :: r, y :: t, h1, h2 => by
    simp only [rowLt, Bool.or_eq_false_iff] at h1 h2
    have e := signLt_tri h1.1 h2.1
    subst e
    have h3 : rowLt r t = false := by simpa [signLt_irrefl] using h1.2
    have h4 : rowLt t r = false := by simpa [signLt_irrefl] using h2.2
    rw [rowLt_tri h3 h4]
theorem rowLt_trans : ∀ {a b c}, rowLt a b = true → rowLt b c = true → rowLt a c = true
  | [], [], _, h, _ => by simp [rowLt] at h
  | [], _ :: _, [], _, h => by simp [rowLt] at h
  | [], _ :: _, _ :: _, _, _ => by simp [rowLt]
  | _ :: _, [], _, h, _ => by simp [rowLt] at h
  | _ :: _, _ :: _, [], _, h => by simp [rowLt] at h
  | x :: r, y :: t, z :: u, h1, h2 => by
    simp only [rowLt, Bool.or_eq_true, Bool.and_eq_true, Bool.not_eq_true'] at h1 h2 ⊢
    rcases h1 with h1 | ⟨e1, h1⟩
    · rcases h2 with h2 | ⟨e2, h2⟩
      · exact .inl (signLt_trans h1 h2)
      · cases e : signLt y z with
        | true => exact .inl (signLt_trans h1 e)
        | false => rw [signLt_tri e e2] at h1; exact .inl h1
    · cases e : signLt x y with
      | true =>
        rcases h2 with h2 | ⟨e2, h2⟩
        · exact .inl (signLt_trans e h2)
        · cases e' : signLt y z with
          | true => exact .inl (signLt_trans e e')
          | false => rw [signLt_tri e' e2] at e; exact .inl e
      | false =>
        have := signLt_tri e e1
        subst this
        rcases h2 with h2 | ⟨e2, h2⟩
        · exact .inl h2
        · exact .inr ⟨e2, rowLt_trans h1 h2⟩
theorem rowLt_asymm {a b} (h : rowLt a b = true) : rowLt b a = false := by
  cases e : rowLt b a with
  | false => rfl
  | true =>
    have := rowLt_trans h e
    rw [rowLt_irrefl] at this
    cases this
theorem le_total (x y : P) : ((!ltP y x) || (!ltP x y)) = true := by
  unfold ltP
  cases e : rowLt (toks y) (toks x) with
  | false => rfl
  | true => rw [rowLt_asymm e]; rfl
theorem le_trans (x y z : P) (h1 : (!ltP y x) = true) (h2 : (!ltP z y) = true) : (!ltP z x) = true := by
  unfold ltP at *
  simp only [Bool.not_eq_true'] at *
  cases e : rowLt (toks z) (toks x) with
  | false => rfl
  | true =>
    cases e2 : rowLt (toks x) (toks y) with
    | true => rw [rowLt_trans e e2] at h2; cases h2
    | false =>
      have := rowLt_tri e2 h1
      rw [← this] at h2
      rw [h2] at e
      cases e
theorem ltP_trans {x y z : P} (h1 : ltP x y = true) (h2 : ltP y z = true) : ltP x z = true := rowLt_trans h1 h2
theorem ltP_irrefl (x : P) : ltP x x = false := rowLt_irrefl _
theorem ltP_asymm {x y : P} (h : ltP x y = true) : ltP y x = false := rowLt_asymm h
mutual
theorem toks_inj : ∀ (x y : P) (r r' : List (Int ⊕ List Nat)), alikeP x y = true → toks x ++ r = toks y ++ r' → x = y ∧ r = r'
  | .non, y, r, r', h, e => by cases y <;> simp [alikeP] at h; exact ⟨rfl, by simpa [toks] using e⟩
  | .bl a, y, r, r', h, e => by
    cases y <;> simp [alikeP] at h
    rename_i b
    simp [toks] at e
    refine ⟨?_, e.2⟩
    cases a <;> cases b <;> first | rfl | (exact absurd e.1 (by decide))
  | .int a, y, r, r', h, e => by
    cases y <;> simp [alikeP] at h
    simp [toks] at e
    rw [e.1]
    exact ⟨rfl, e.2⟩
  | .str a, y, r, r', h, e => by
    cases y <;> simp [alikeP] at h
    rename_i b
    simp [toks] at e
    obtain ⟨c⟩ := a
    obtain ⟨d⟩ := b
    have : c = d := by simpa using e.1
    rw [this]
    exact ⟨rfl, e.2⟩
  | .tup a, y, r, r', h, e => by
    cases y <;> simp [alikeP] at h
    simp only [toks] at e
    obtain ⟨e1, e2⟩ := tokss_inj a _ r r' h e
    rw [e1]
    exact ⟨rfl, e2⟩
theorem tokss_inj : ∀ (x y : List P) (r r' : List (Int ⊕ List Nat)), alikePs x y = true → tokss x ++ r = tokss y ++ r' → x = y ∧ r = r'
  | [], [], r, r', h, e => ⟨rfl, by simpa [tokss] using e⟩
  | [], _ :: _, r, r', h, e => by simp [tokss] at e
  | _ :: _, [], r, r', h, e => by simp [tokss] at e
  | x :: xs, y :: ys, r, r', h, e => by
    simp only [alikePs, Bool.and_eq_true] at h
    simp only [tokss, List.cons_append, List.cons.injEq, true_and, List.append_assoc] at e
    obtain ⟨e1, e2⟩ := toks_inj x y _ _ h.1 e
    obtain ⟨e3, e4⟩ := tokss_inj xs ys _ _ h.2 e2
    rw [e1, e3]
    exact ⟨rfl, e4⟩
end
theorem ltP_tri {x y : P} (h : alikeP x y = true) (h1 : ltP x y = false) (h2 : ltP y x = false) : x = y := by
  have e := rowLt_tri h1 h2
  exact (toks_inj x y [] [] h (by rw [e])).1
theorem sortL_perm (l : List P) : (sortL l).Perm l := List.mergeSort_perm l _
theorem sortL_sorted (l : List P) : (sortL l).Pairwise fun a b => (!ltP b a) = true := List.pairwise_mergeSort le_trans le_total l
theorem sortL_mem {l : List P} {x : P} : x ∈ sortL l ↔ x ∈ l := (sortL_perm l).mem_iff
theorem sortL_length (l : List P) : (sortL l).length = l.length := (sortL_perm l).length_eq
theorem allAlike_mem {l : List P} (h : allAlike l = true) {x y : P} (hx : x ∈ l) (hy : y ∈ l) : alikeP x y = true := by
  unfold allAlike at h
  simp only [List.all_eq_true] at h
  exact h x hx y hy
theorem sorted_unique {l m : List P} (h : allAlike l = true) (p : l.Perm m) (h1 : l.Pairwise fun a b => (!ltP b a) = true) (h2 : m.Pairwise fun a b => (!ltP b a) = true) : l = m := by
  refine List.Perm.eq_of_pairwise (fun a b ha hb h1 h2 => ?_) h1 h2 p
  exact ltP_tri (allAlike_mem h ha (p.mem_iff.mpr hb)) (by simpa using h2) (by simpa using h1)
theorem allAlike_perm {l m : List P} (p : l.Perm m) : allAlike l = allAlike m := by
  unfold allAlike
  rw [Bool.eq_iff_iff]
  simp only [List.all_eq_true]
  constructor
  · intro h x hx y hy
    exact h x (p.mem_iff.mpr hx) y (p.mem_iff.mpr hy)
  · intro h x hx y hy
    exact h x (p.mem_iff.mp hx) y (p.mem_iff.mp hy)
theorem sortL_eq_of_perm {l m : List P} (h : allAlike l = true) (p : l.Perm m) : sortL l = sortL m := by
  refine sorted_unique ?_ ((sortL_perm l).trans (p.trans (sortL_perm m).symm)) (sortL_sorted l) (sortL_sorted m)
  rw [allAlike_perm (sortL_perm l)]
  exact h
mutual
theorem pyEq_self : ∀ x : P, pyEq x x = true
  | .non => rfl
  | .bl a => by simp [pyEq]
  | .int a => by simp [pyEq]
  | .str a => by simp [pyEq]
  | .tup a => by
    unfold pyEq
    exact pyEqs_self a
theorem pyEqs_self : ∀ x : List P, pyEqs x x = true
  | [] => rfl
  | x :: r => by
    unfold pyEqs
    rw [pyEq_self x, pyEqs_self r]
    rfl
end
theorem isInts_mem {l : List P} (h : isInts l = true) {x : P} (hx : x ∈ l) : ∃ i, x = .int i := by
  unfold isInts at h
  rw [List.all_eq_true] at h
  have z := h x hx
  cases x <;> first | (simp at z; done) | exact ⟨_, rfl⟩
theorem isInts_map : ∀ {l : List P}, isInts l = true → ∃ ns : List Int, l = ns.map P.int
  | [], _ => ⟨[], rfl⟩
  | x :: r, h => by
    obtain ⟨i, e⟩ := isInts_mem h (List.mem_cons_self ..)
    obtain ⟨ns, e2⟩ := isInts_map (l := r) (by unfold isInts at h ⊢; rw [List.all_cons, Bool.and_eq_true] at h; exact h.2)
    exact ⟨i :: ns, by rw [e, e2]; rfl⟩
theorem isRows_mem {l : List P} (h : isRows l = true) {x : P} (hx : x ∈ l) : ∃ ns : List Int, x = .tup (ns.map P.int) := by
  unfold isRows at h
  rw [List.all_eq_true] at h
  have z := h x hx
  cases x with
  | tup ys =>
    obtain ⟨ns, e⟩ := isInts_map (l := ys) z
    exact ⟨ns, by rw [e]⟩
  | _ => simp at z
theorem pyEqs_ints : ∀ {a b : List Int}, pyEqs (a.map P.int) (b.map P.int) = true → a = b
  | [], [], _ => rfl
  | [], _ :: _, h => by simp [pyEqs] at h
  | _ :: _, [], h => by simp [pyEqs] at h
  | x :: a, y :: b, h => by
    simp only [List.map_cons, pyEqs, Bool.and_eq_true, pyEq, beq_iff_eq] at h
    rw [h.1, pyEqs_ints h.2]
theorem pyEq_ir {l : List P} (h : isInts l = true ∨ isRows l = true) {x y : P} (hx : x ∈ l) (hy : y ∈ l) : pyEq x y = decide (x = y) := by
  by_cases e : x = y
  · rw [e, pyEq_self]
    exact (decide_eq_true rfl).symm
  · rw [decide_eq_false e]
    cases q : pyEq x y with
    | false => rfl
    | true =>
      exfalso
      apply e
      rcases h with h | h
      · obtain ⟨i, rfl⟩ := isInts_mem h hx
        obtain ⟨j, rfl⟩ := isInts_mem h hy
        simp [pyEq] at q
        rw [q]
      · obtain ⟨i, rfl⟩ := isRows_mem h hx
        obtain ⟨j, rfl⟩ := isRows_mem h hy
        simp only [pyEq] at q
        rw [pyEqs_ints q]
theorem dedup_sub : ∀ {l : List P} {x : P}, x ∈ dedup l → x ∈ l
  | y :: r, x, h => by
    unfold dedup at h
    rcases List.mem_cons.mp h with h | h
    · rw [h]; exact List.mem_cons_self ..
    · exact List.mem_cons_of_mem _ (dedup_sub (List.mem_filter.mp h).1)
theorem tail_ir {x : P} {l : List P} (h : isInts (x :: l) = true ∨ isRows (x :: l) = true) : isInts l = true ∨ isRows l = true := by
  unfold isInts isRows at *
  rw [List.all_cons, List.all_cons, Bool.and_eq_true, Bool.and_eq_true] at h
  exact h.imp (·.2) (·.2)
theorem dedup_mem : ∀ {l : List P}, isInts l = true ∨ isRows l = true → ∀ {x : P}, x ∈ dedup l ↔ x ∈ l
  | [], _, x => by simp [dedup]
  | y :: r, h, x => by
    refine ⟨dedup_sub, fun hx => ?_⟩
    unfold dedup
    rcases List.mem_cons.mp hx with e | hx
    · rw [e]; exact List.mem_cons_self ..
    · by_cases e : x = y
      · rw [e]; exact List.mem_cons_self ..
      · refine List.mem_cons_of_mem _ (List.mem_filter.mpr ⟨(dedup_mem (tail_ir h)).mpr hx, ?_⟩)
        rw [pyEq_ir h (List.mem_cons_self ..) (List.mem_cons_of_mem _ hx), decide_eq_false fun z => e z.symm]
        rfl
theorem dedup_nodup : ∀ {l : List P}, (dedup l).Nodup
  | [] => List.nodup_nil
  | y :: r => by
    unfold dedup
    refine List.nodup_cons.mpr ⟨fun h => ?_, List.Nodup.sublist List.filter_sublist dedup_nodup⟩
    have z := (List.mem_filter.mp h).2
    rw [pyEq_self] at z
    cases z
/-- any row without doubles, of the same members, sorts the same -/
theorem sset_eq {l bs : List P} (hi : isInts l = true ∨ isRows l = true) (hc : canSort l = true) (nd : bs.Nodup) (hm : ∀ x, x ∈ bs ↔ x ∈ l) (hl : bs.length ≤ LINE) : canSort bs = true ∧ sortL bs = sortL (dedup l) := by
  unfold canSort at hc
  simp only [Bool.and_eq_true, List.all_eq_true, decide_eq_true_eq, Bool.or_eq_true] at hc
  obtain ⟨⟨⟨h1, h2⟩, h3⟩, h4⟩ := hc
  have hal : allAlike bs = true := by
    unfold allAlike
    simp only [List.all_eq_true]
    exact fun x hx y hy => allAlike_mem h1 ((hm x).mp hx) ((hm y).mp hy)
  refine ⟨?_, sortL_eq_of_perm hal ((List.perm_ext_iff_of_nodup nd dedup_nodup).mpr fun x => by rw [hm x, dedup_mem hi])⟩
  unfold canSort
  simp only [Bool.and_eq_true, List.all_eq_true, decide_eq_true_eq, Bool.or_eq_true]
  exact ⟨⟨⟨hal, fun x hx => h2 x ((hm x).mp hx)⟩, h3.imp (fun h x hx => h x ((hm x).mp hx)) fun h x hx => h x ((hm x).mp hx)⟩, hl⟩
/-- a row that stands in order is its own sort -/
theorem sortL_id {l : List P} (h : l.Pairwise fun a b => (!ltP b a) = true) : sortL l = l := List.mergeSort_of_pairwise h
end PyI
set_option Elab.async false
set_option linter.all false
/-! PyX: how a run is walked: equations, what holds at an end, loops. -/
namespace PyX
open PyI
open PySem (Str)

/-! ### small glue that is rewritten from the front alone -/
/-- a mark that keeps the rewriting out of what comes later -/
structure Tag {α : Sort u} (a : α) : Type where
def Bn {α β : Type} (r : Option (α × Sto)) (k : α → Sto → Option β) (_t : Tag k := ⟨⟩) : Option β := match r with
  | some (x, S) => k x S
  | none => none
def Mb {α β : Type} (r : Option α) (k : α → Option β) (_t : Tag k := ⟨⟩) : Option β := match r with
  | some x => k x
  | none => none
def Cnd {β : Type} (b : Bool) (x y : Option β) (_t : Tag x := ⟨⟩) (_u : Tag y := ⟨⟩) : Option β := match b with
  | true => x
  | false => y
def Bi3 {α γ β : Type} (r : Option (α × γ × Sto)) (k : α → γ → Sto → Option β) (_t : Tag k := ⟨⟩) : Option β := match r with
  | some (x, c, S) => k x c S
  | none => none
def Sq (r : Option (Out × Env × Sto)) (k : Env → Sto → Option (Out × Env × Sto)) (_t : Tag k := ⟨⟩) : Option (Out × Env × Sto) := match r with
  | some (.nx, e, S) => k e S
  | some (o, e, S) => some (o, e, S)
  | none => none
theorem Bn_some {α β : Type} {x : α} {S : Sto} {k : α → Sto → Option β} : Bn (some (x, S)) k = k x S := by unfold Bn; rfl
theorem Mb_some {α β : Type} {x : α} {k : α → Option β} : Mb (some x) k = k x := by unfold Mb; rfl
theorem Cnd_true {β : Type} {x y : Option β} : Cnd true x y = x := by unfold Cnd; rfl
theorem Cnd_false {β : Type} {x y : Option β} : Cnd false x y = y := by unfold Cnd; rfl
theorem Bi3_some {α γ β : Type} {x : α} {c : γ} {S : Sto} {k : α → γ → Sto → Option β} : Bi3 (some (x, c, S)) k = k x c S := by unfold Bi3; rfl
theorem Sq_nx {e : Env} {S : Sto} {k} : Sq (some (.nx, e, S)) k = k e S := by unfold Sq; rfl
theorem Sq_ret {d : D} {e : Env} {S : Sto} {k} : Sq (some (.ret d, e, S)) k = some (.ret d, e, S) := by unfold Sq; rfl
theorem Sq_bk {e : Env} {S : Sto} {k} : Sq (some (.bk, e, S)) k = some (.bk, e, S) := by unfold Sq; rfl
theorem Sq_ct {e : Env} {S : Sto} {k} : Sq (some (.ct, e, S)) k = some (.ct, e, S) := by unfold Sq; rfl


section
variable {cf : CF} {env : Env} {S : Sto}
theorem e_cst {x} : ev cf (.cst x) env S = some (.val (.p x), S) := by unfold ev; rfl
theorem e_glb {x} : ev cf (.glb x) env S = some (.kc x, S) := by unfold ev; rfl
theorem e_var {i} : ev cf (.var i) env S = Mb (getV env i) fun d => some (.val d, S) := by
  conv => lhs; unfold ev
  unfold Mb
  cases getV env i <;> rfl
theorem e_bin {o a b} : ev cf (.bin o a b) env S = Bn (ev cf a env S) fun x S => Bn (ev cf b env S) fun y S => Mb (binR o x y S) fun r => some (r, S) := by
  conv => lhs; unfold ev
  unfold Bn Mb
  rcases (ev cf a env S) with _ | ⟨x, S1⟩
  · rfl
  try dsimp only
  rcases (ev cf b env S1) with _ | ⟨y, S2⟩
  · rfl
  try dsimp only
  cases binR o x y S2 <;> rfl
theorem e_neg {a} : ev cf (.neg a) env S = Bn (ev cf a env S) fun x S => Mb (intR x) fun i => some (rInt (-i), S) := by
  conv => lhs; unfold ev
  unfold Bn Mb
  rcases (ev cf a env S) with _ | ⟨x, S1⟩
  · rfl
  try dsimp only
  cases intR x <;> rfl
theorem e_bnot {a} : ev cf (.bnot a) env S = Bn (ev cf a env S) fun x S => Mb (truthy x S) fun b => some (rBool !b, S) := by
  conv => lhs; unfold ev
  unfold Bn Mb
  rcases (ev cf a env S) with _ | ⟨x, S1⟩
  · rfl
  try dsimp only
  cases truthy x S1 <;> rfl
theorem e_band {a b} : ev cf (.band a b) env S = Bn (ev cf a env S) fun x S => Mb (truthy x S) fun t => Cnd t (ev cf b env S) (some (x, S)) := by
  conv => lhs; unfold ev
  unfold Bn Mb Cnd
  rcases ev cf a env S with _ | ⟨x, S1⟩
  · rfl
  · dsimp only
    rcases truthy x S1 with _ | _ | _ <;> rfl
theorem e_bor {a b} : ev cf (.bor a b) env S = Bn (ev cf a env S) fun x S => Mb (truthy x S) fun t => Cnd t (some (x, S)) (ev cf b env S) := by
  conv => lhs; unfold ev
  unfold Bn Mb Cnd
  rcases ev cf a env S with _ | ⟨x, S1⟩
  · rfl
  · dsimp only
    rcases truthy x S1 with _ | _ | _ <;> rfl
theorem e_cmp {o a b} : ev cf (.cmp o a b) env S = Bn (ev cf a env S) fun x S => Bn (ev cf b env S) fun y S => Mb (cmpR o x y S) fun r => some (rBool r, S) := by
  conv => lhs; unfold ev
  unfold Bn Mb
  rcases (ev cf a env S) with _ | ⟨x, S1⟩
  · rfl
  try dsimp only
  rcases (ev cf b env S1) with _ | ⟨y, S2⟩
  · rfl
  try dsimp only
  cases cmpR o x y S2 <;> rfl
theorem e_chain {o o' a b c} : ev cf (.chain o o' a b c) env S = Bn (ev cf a env S) fun x S => Bn (ev cf b env S) fun y S => Mb (cmpR o x y S) fun r => Cnd r (Bn (ev cf c env S) fun z S => Mb (cmpR o' y z S) fun r => some (rBool r, S)) (some (rBool false, S)) := by
  conv => lhs; unfold ev
  unfold Bn Mb Cnd
  rcases (ev cf a env S) with _ | ⟨x, S1⟩
  · rfl
  try dsimp only
  rcases (ev cf b env S1) with _ | ⟨y, S2⟩
  · rfl
  try dsimp only
  rcases cmpR o x y S2 with _ | _ | _
  · rfl
  · rfl
  dsimp only
  rcases (ev cf c env S2) with _ | ⟨z, S3⟩
  · rfl
  try dsimp only
  cases cmpR o' y z S3 <;> rfl
theorem e_ife {c a b} : ev cf (.ife c a b) env S = Bn (tst cf c env S) fun t S => Cnd t (ev cf a env S) (ev cf b env S) := by
  conv => lhs; unfold ev
  unfold Bn Cnd
  rcases tst cf c env S with _ | ⟨_ | _, S1⟩ <;> rfl
theorem e_tup {es} : ev cf (.tup es) env S = Bn (evs cf es env S) fun l S => Mb (tupD l) fun r => some (r, S) := by
  conv => lhs; unfold ev
  unfold Bn Mb
  rcases (evs cf es env S) with _ | ⟨x, S1⟩
  · rfl
  try dsimp only
  cases tupD x <;> rfl
theorem e_lst {es} : ev cf (.lst es) env S = Bn (evs cf es env S) fun l S => Cnd (decide (l.length ≤ LINE)) (some (.tl l, S)) none := by
  conv => lhs; unfold ev
  unfold Bn Cnd
  rcases evs cf es env S with _ | ⟨l, S1⟩
  · rfl
  · dsimp only
    by_cases h : l.length ≤ LINE <;> simp only [h, if_true, if_false, decide_true, decide_false]
theorem e_dct : ev cf .dct env S = some (.val (.ref S.length), S ++ [.dK []]) := by unfold ev; rfl
theorem e_ix {a b} : ev cf (.ix a b) env S = Bn (ev cf a env S) fun x S => Bn (ev cf b env S) fun y S => Mb (ixR x y S) fun r => some (r, S) := by
  conv => lhs; unfold ev
  unfold Bn Mb
  rcases (ev cf a env S) with _ | ⟨x, S1⟩
  · rfl
  try dsimp only
  rcases (ev cf b env S1) with _ | ⟨y, S2⟩
  · rfl
  try dsimp only
  cases ixR x y S2 <;> rfl
theorem e_sl {a lo hi} : ev cf (.sl a lo hi) env S = Bn (ev cf a env S) fun x S => Bn (evo cf lo env S) fun l S => Bn (evo cf hi env S) fun h S => Mb (slR x l h S) fun r => some (r, S) := by
  conv => lhs; unfold ev
  unfold Bn Mb
  rcases (ev cf a env S) with _ | ⟨x, S1⟩
  · rfl
  try dsimp only
  rcases (evo cf lo env S1) with _ | ⟨y, S2⟩
  · rfl
  try dsimp only
  rcases (evo cf hi env S2) with _ | ⟨z, S3⟩
  · rfl
  try dsimp only
  cases slR x y z S3 <;> rfl
theorem e_call {f es} : ev cf (.call f es) env S = Bn (evs cf es env S) fun l S => Bn (cf f l S) fun d S => some (.val d, S) := by
  conv => lhs; unfold ev
  unfold Bn
  rcases (evs cf es env S) with _ | ⟨x, S1⟩
  · rfl
  try dsimp only
  rcases (cf f x S1) with _ | ⟨y, S2⟩
  · rfl
  try dsimp only
theorem e_bi {b a} : ev cf (.bi b a) env S = Bn (ev cf a env S) fun x S => biR b x S := by
  conv => lhs; unfold ev
  unfold Bn
  rcases (ev cf a env S) with _ | ⟨x, S1⟩
  · rfl
  try dsimp only
theorem e_bi2 {b a c} : ev cf (.bi2 b a c) env S = Bn (ev cf a env S) fun x S => Bn (ev cf c env S) fun y S => Mb (bi2R b x y) fun r => some (r, S) := by
  conv => lhs; unfold ev
  unfold Bn Mb
  rcases (ev cf a env S) with _ | ⟨x, S1⟩
  · rfl
  try dsimp only
  rcases (ev cf c env S1) with _ | ⟨y, S2⟩
  · rfl
  try dsimp only
  cases bi2R b x y <;> rfl
theorem e_m1 {m o a} : ev cf (.m1 m o a) env S = Bn (ev cf o env S) fun x S => Cnd (rcv1 m x S) (Bn (ev cf a env S) fun y S => m1R m x y S) none := by
  conv => lhs; unfold ev
  unfold Bn Cnd
  rcases ev cf o env S with _ | ⟨x, S1⟩
  · rfl
  dsimp only
  rcases rcv1 m x S1 with _ | _
  · rfl
  simp only [if_true]
  rcases ev cf a env S1 with _ | ⟨y, S2⟩ <;> rfl
theorem e_m2 {m o a b} : ev cf (.m2 m o a b) env S = Bn (ev cf o env S) fun x S => Cnd (isDct x S) (Bn (ev cf a env S) fun y S => Bn (ev cf b env S) fun z S => m2R m x y z S) none := by
  conv => lhs; unfold ev
  unfold Bn Cnd
  rcases ev cf o env S with _ | ⟨x, S1⟩
  · rfl
  dsimp only
  rcases isDct x S1 with _ | _
  · rfl
  simp only [if_true]
  rcases ev cf a env S1 with _ | ⟨y, S2⟩
  · rfl
  dsimp only
  rcases ev cf b env S2 with _ | ⟨z, S3⟩ <;> rfl
/-- one turn of a comprehension -/
def compF (cf : CF) (elt : IE) (tg : TG) (cs : IEs) (own : List Nat) (env : Env) (d : D) (S : Sto) : Option (Option D × Sto) :=
  Mb (asgD tg d (wipe env own)) fun env' => Bn (tsts cf cs env' S) fun t S => Cnd t (Bn (ev cf elt env' S) fun r S => Bn (alloc r S) fun d S => some (some d, S)) (some (none, S))
def lineL (r : Option (List D × Sto)) : Option (R × Sto) := Bn r fun l S => Cnd (decide (l.length ≤ LINE)) (some (.tl l, S)) none
theorem compL_ext {f g : D → Sto → Option (Option D × Sto)} (h : ∀ d S, f d S = g d S) {l c S} : compL f l c S = compL g l c S := by
  rw [show f = g from funext fun d => funext fun S => h d S]
theorem compL2_ext {f g : D → Sto → Option (List D × Sto)} (h : ∀ d S, f d S = g d S) {l c S} : compL2 f l c S = compL2 g l c S := by
  rw [show f = g from funext fun d => funext fun S => h d S]
theorem loopL_ext {f g : D → Env → Sto → Option (Out × Env × Sto)} (h : ∀ d e S, f d e S = g d e S) {l c e S} : loopL f l c e S = loopL g l c e S := by
  rw [show f = g from funext fun d => funext fun e => funext fun S => h d e S]
theorem e_comp {elt tg it cs own} : ev cf (.comp elt tg it cs own) env S = Bi3 (evi cf it env S) fun l c S => lineL (compL (compF cf elt tg cs own env) l c S) := by
  conv => lhs; unfold ev
  unfold Bi3 lineL Bn
  rcases evi cf it env S with _ | ⟨l, c, S1⟩
  · rfl
  dsimp only
  rw [compL_ext (g := compF cf elt tg cs own env)]
  · rcases compL (compF cf elt tg cs own env) l c S1 with _ | ⟨l', S2⟩
    · rfl
    dsimp only
    by_cases h : l'.length ≤ LINE <;> simp only [h, if_true, if_false, decide_true, decide_false, Cnd]
  · intro d S
    unfold compF Mb
    rcases asgD tg d (wipe env own) with _ | env'
    · rfl
    dsimp only
    unfold Bn
    rcases tsts cf cs env' S with _ | ⟨_ | _, S1⟩
    · rfl
    · rfl
    dsimp only [Cnd]
    rcases ev cf elt env' S1 with _ | ⟨x, S2⟩
    · rfl
    dsimp only
    rcases alloc x S2 with _ | ⟨x, S2⟩ <;> rfl
def compF2 (cf : CF) (elt : IE) (tg : TG) (cs : IEs) (tg2 : TG) (it2 : IT) (cs2 : IEs) (own : List Nat) (env : Env) (d : D) (S : Sto) : Option (List D × Sto) :=
  Mb (asgD tg d (wipe env own)) fun env' => Bn (tsts cf cs env' S) fun t S => Cnd t (Bi3 (evi cf it2 env' S) fun l2 c2 S => compL (compF cf elt tg2 cs2 (tgIdx tg2) env') l2 c2 S) (some ([], S))
theorem e_comp2 {elt tg it cs tg2 it2 cs2 own} : ev cf (.comp2 elt tg it cs tg2 it2 cs2 own) env S = Bi3 (evi cf it env S) fun l c S => lineL (compL2 (compF2 cf elt tg cs tg2 it2 cs2 own env) l c S) := by
  conv => lhs; unfold ev
  unfold Bi3 lineL Bn
  rcases evi cf it env S with _ | ⟨l, c, S1⟩
  · rfl
  dsimp only
  rw [compL2_ext (g := compF2 cf elt tg cs tg2 it2 cs2 own env)]
  · rcases compL2 (compF2 cf elt tg cs tg2 it2 cs2 own env) l c S1 with _ | ⟨l', S2⟩
    · rfl
    dsimp only
    by_cases h : l'.length ≤ LINE <;> simp only [h, if_true, if_false, decide_true, decide_false, Cnd]
  · intro d S
    unfold compF2 Mb
    rcases asgD tg d (wipe env own) with _ | env'
    · rfl
    dsimp only
    unfold Bn
    rcases tsts cf cs env' S with _ | ⟨_ | _, S1⟩
    · rfl
    · rfl
    dsimp only [Cnd]
    unfold Bi3
    rcases evi cf it2 env' S1 with _ | ⟨l2, c2, S2⟩
    · rfl
    dsimp only
    rw [compL_ext (g := compF cf elt tg2 cs2 (tgIdx tg2) env')]
    intro d S
    unfold compF Mb
    rcases asgD tg2 d (wipe env' (tgIdx tg2)) with _ | env'
    · rfl
    dsimp only
    unfold Bn
    rcases tsts cf cs2 env' S with _ | ⟨_ | _, S1⟩
    · rfl
    · rfl
    dsimp only [Cnd]
    rcases ev cf elt env' S1 with _ | ⟨x, S2⟩
    · rfl
    dsimp only
    rcases alloc x S2 with _ | ⟨x, S2⟩ <;> rfl
def dcompF (cf : CF) (k v : IE) (tg : TG) (cs : IEs) (own : List Nat) (env : Env) (d : D) (S : Sto) : Option (Option D × Sto) :=
  Mb (asgD tg d (wipe env own)) fun env' => Bn (tsts cf cs env' S) fun t S => Cnd t (Bn (ev cf k env' S) fun x S => Bn (ev cf v env' S) fun y S => Mb (pR x) fun x => Mb (pR y) fun y => some (some (.p (.tup [x, y])), S)) (some (none, S))
theorem e_dcomp {k v tg it cs own} : ev cf (.dcomp k v tg it cs own) env S = Bi3 (evi cf it env S) fun l c S => Bn (compL (dcompF cf k v tg cs own env) l c S) fun l S => Cnd (decide (l.length ≤ LINE)) (Mb ((ofDs l).bind dictOf) fun o => some (.val (.ref S.length), S ++ [o])) none := by
  conv => lhs; unfold ev
  unfold Bi3
  rcases evi cf it env S with _ | ⟨l, c, S1⟩
  · rfl
  dsimp only
  rw [compL_ext (g := dcompF cf k v tg cs own env)]
  · unfold Bn
    rcases compL (dcompF cf k v tg cs own env) l c S1 with _ | ⟨l', S2⟩
    · rfl
    dsimp only
    by_cases h : l'.length ≤ LINE
    · simp only [h, if_true, decide_true, Cnd]
      rcases (ofDs l').bind dictOf with _ | o <;> rfl
    · simp only [h, if_false, decide_false, Cnd]
  · intro d S
    unfold dcompF Mb
    rcases asgD tg d (wipe env own) with _ | env'
    · rfl
    dsimp only
    unfold Bn
    rcases tsts cf cs env' S with _ | ⟨_ | _, S1⟩
    · rfl
    · rfl
    dsimp only [Cnd]
    rcases ev cf k env' S1 with _ | ⟨x, S2⟩
    · rfl
    dsimp only
    rcases ev cf v env' S2 with _ | ⟨y, S3⟩
    · rfl
    dsimp only
    rcases pR x with _ | x
    · rfl
    rcases pR y with _ | y <;> rfl
/-! tests -/
theorem t_bnot {a} : tst cf (.bnot a) env S = Bn (tst cf a env S) fun b S => some (!b, S) := by
  conv => lhs; unfold tst
  unfold Bn
  rcases (tst cf a env S) with _ | ⟨x, S1⟩
  · rfl
  try dsimp only
theorem t_band {a b} : tst cf (.band a b) env S = Bn (tst cf a env S) fun t S => Cnd t (tst cf b env S) (some (false, S)) := by
  conv => lhs; unfold tst
  unfold Bn Cnd
  rcases tst cf a env S with _ | ⟨_ | _, S1⟩ <;> rfl
theorem t_bor {a b} : tst cf (.bor a b) env S = Bn (tst cf a env S) fun t S => Cnd t (some (true, S)) (tst cf b env S) := by
  conv => lhs; unfold tst
  unfold Bn Cnd
  rcases tst cf a env S with _ | ⟨_ | _, S1⟩ <;> rfl
theorem t_cmp {o a b} : tst cf (.cmp o a b) env S = Bn (ev cf a env S) fun x S => Bn (ev cf b env S) fun y S => Mb (cmpR o x y S) fun r => some (r, S) := by
  conv => lhs; unfold tst
  unfold Bn Mb
  rcases (ev cf a env S) with _ | ⟨x, S1⟩
  · rfl
  try dsimp only
  rcases (ev cf b env S1) with _ | ⟨y, S2⟩
  · rfl
  try dsimp only
  cases cmpR o x y S2 <;> rfl
theorem t_chain {o o' a b c} : tst cf (.chain o o' a b c) env S = Bn (ev cf a env S) fun x S => Bn (ev cf b env S) fun y S => Mb (cmpR o x y S) fun r => Cnd r (Bn (ev cf c env S) fun z S => Mb (cmpR o' y z S) fun r => some (r, S)) (some (false, S)) := by
  conv => lhs; unfold tst
  unfold Bn Mb Cnd
  rcases (ev cf a env S) with _ | ⟨x, S1⟩
  · rfl
  try dsimp only
  rcases (ev cf b env S1) with _ | ⟨y, S2⟩
  · rfl
  try dsimp only
  rcases cmpR o x y S2 with _ | _ | _
  · rfl
  · rfl
  dsimp only
  rcases (ev cf c env S2) with _ | ⟨z, S3⟩
  · rfl
  try dsimp only
  cases cmpR o' y z S3 <;> rfl
theorem t_ife {c a b} : tst cf (.ife c a b) env S = Bn (tst cf c env S) fun t S => Cnd t (tst cf a env S) (tst cf b env S) := by
  conv => lhs; unfold tst
  unfold Bn Cnd
  rcases tst cf c env S with _ | ⟨_ | _, S1⟩ <;> rfl
/-- a test of a plain value -/
def Tv (r : Option (R × Sto)) : Option (Bool × Sto) := Bn r fun x S => Mb (truthy x S) fun b => some (b, S)
theorem t_cst {x} : tst cf (.cst x) env S = Tv (ev cf (.cst x) env S) := by
  conv => lhs; unfold tst
  unfold Tv Bn Mb
  rcases (ev cf (.cst x) env S) with _ | ⟨y, S1⟩
  · rfl
  try dsimp only
  cases truthy y S1 <;> rfl
theorem t_glb {x} : tst cf (.glb x) env S = Tv (ev cf (.glb x) env S) := by
  conv => lhs; unfold tst
  unfold Tv Bn Mb
  rcases (ev cf (.glb x) env S) with _ | ⟨y, S1⟩
  · rfl
  try dsimp only
  cases truthy y S1 <;> rfl
theorem t_var {i} : tst cf (.var i) env S = Tv (ev cf (.var i) env S) := by
  conv => lhs; unfold tst
  unfold Tv Bn Mb
  rcases (ev cf (.var i) env S) with _ | ⟨x, S1⟩
  · rfl
  try dsimp only
  cases truthy x S1 <;> rfl
theorem t_ix {a b} : tst cf (.ix a b) env S = Tv (ev cf (.ix a b) env S) := by
  conv => lhs; unfold tst
  unfold Tv Bn Mb
  rcases (ev cf (.ix a b) env S) with _ | ⟨x, S1⟩
  · rfl
  try dsimp only
  cases truthy x S1 <;> rfl
theorem t_sl {a b c} : tst cf (.sl a b c) env S = Tv (ev cf (.sl a b c) env S) := by
  conv => lhs; unfold tst
  unfold Tv Bn Mb
  rcases (ev cf (.sl a b c) env S) with _ | ⟨x, S1⟩
  · rfl
  try dsimp only
  cases truthy x S1 <;> rfl
theorem t_call {f es} : tst cf (.call f es) env S = Tv (ev cf (.call f es) env S) := by
  conv => lhs; unfold tst
  unfold Tv Bn Mb
  rcases (ev cf (.call f es) env S) with _ | ⟨x, S1⟩
  · rfl
  try dsimp only
  cases truthy x S1 <;> rfl
theorem t_bi {b a} : tst cf (.bi b a) env S = Tv (ev cf (.bi b a) env S) := by
  conv => lhs; unfold tst
  unfold Tv Bn Mb
  rcases (ev cf (.bi b a) env S) with _ | ⟨x, S1⟩
  · rfl
  try dsimp only
  cases truthy x S1 <;> rfl
theorem t_m1 {m o a} : tst cf (.m1 m o a) env S = Tv (ev cf (.m1 m o a) env S) := by
  conv => lhs; unfold tst
  unfold Tv Bn Mb
  rcases (ev cf (.m1 m o a) env S) with _ | ⟨x, S1⟩
  · rfl
  try dsimp only
  cases truthy x S1 <;> rfl
theorem t_bin {o a b} : tst cf (.bin o a b) env S = Tv (ev cf (.bin o a b) env S) := by
  conv => lhs; unfold tst
  unfold Tv Bn Mb
  rcases (ev cf (.bin o a b) env S) with _ | ⟨x, S1⟩
  · rfl
  try dsimp only
  cases truthy x S1 <;> rfl
theorem ts_nil : tsts cf .nil env S = some (true, S) := by conv => { lhs; unfold tsts }
theorem ts_cons {e r} : tsts cf (.cons e r) env S = Bn (tst cf e env S) fun t S => Cnd t (tsts cf r env S) (some (false, S)) := by
  conv => lhs; unfold tsts
  unfold Bn Cnd
  rcases tst cf e env S with _ | ⟨_ | _, S1⟩ <;> rfl
theorem es_nil : evs cf .nil env S = some ([], S) := by conv => { lhs; unfold evs }
theorem es_cons {e r} : evs cf (.cons e r) env S = Bn (ev cf e env S) fun x S => Bn (alloc x S) fun d S => Bn (evs cf r env S) fun l S => some (d :: l, S) := by
  conv => lhs; unfold evs
  unfold Bn
  rcases (ev cf e env S) with _ | ⟨x, S1⟩
  · rfl
  try dsimp only
  rcases (alloc x S1) with _ | ⟨d, S2⟩
  · rfl
  try dsimp only
  rcases (evs cf r env S2) with _ | ⟨l, S3⟩
  · rfl
  try dsimp only
theorem o_none : evo cf .none env S = some (none, S) := by conv => { lhs; unfold evo }
theorem o_some {e} : evo cf (.some e) env S = Bn (ev cf e env S) fun x S => Mb (intR x) fun i => some (some i, S) := by
  conv => lhs; unfold evo
  unfold Bn Mb
  rcases (ev cf e env S) with _ | ⟨x, S1⟩
  · rfl
  try dsimp only
  cases intR x <;> rfl
theorem i_e {a} : evi cf (.e a) env S = Bn (ev cf a env S) fun x S => Mb (walkR x S) fun p => some (p.1, p.2, S) := by
  conv => lhs; unfold evi
  unfold Bn Mb
  rcases (ev cf a env S) with _ | ⟨x, S1⟩
  · rfl
  try dsimp only
  cases walkR x S1 <;> rfl
theorem i_rng1 {a} : evi cf (.rng1 a) env S = Bn (ev cf a env S) fun x S => Mb (intR x) fun n => Cnd (small62 n) (some (rngL 0 n.toNat 1, none, S)) none := by
  conv => lhs; unfold evi
  unfold Bn Mb Cnd
  rcases ev cf a env S with _ | ⟨x, S1⟩
  · rfl
  dsimp only
  rcases intR x with _ | n
  · rfl
  dsimp only
  rcases small62 n with _ | _ <;> rfl
theorem i_rng2 {a b} : evi cf (.rng2 a b) env S = Bn (ev cf a env S) fun x S => Bn (ev cf b env S) fun y S => Mb (intR x) fun i => Mb (intR y) fun j => Cnd (small62 i && small62 j) (some (rngL i (j - i).toNat 1, none, S)) none := by
  conv => lhs; unfold evi
  unfold Bn Mb Cnd
  rcases ev cf a env S with _ | ⟨x, S1⟩
  · rfl
  dsimp only
  rcases ev cf b env S1 with _ | ⟨y, S2⟩
  · rfl
  dsimp only
  rcases intR x with _ | n
  · rfl
  rcases intR y with _ | m
  · rfl
  dsimp only
  rcases (small62 n && small62 m) with _ | _ <;> rfl
theorem i_rng3 {a b c} : evi cf (.rng3 a b c) env S = Bn (ev cf a env S) fun x S => Bn (ev cf b env S) fun y S => Bn (ev cf c env S) fun z S => Mb (intR x) fun i => Mb (intR y) fun j => Mb (intR z) fun k => Cnd (small62 i && small62 j && decide (k ≠ 0) && decide (k.natAbs < 1073741824)) (some (rngL i (rngN i j k) k, none, S)) none := by
  conv => lhs; unfold evi
  unfold Bn Mb Cnd
  rcases ev cf a env S with _ | ⟨x, S1⟩
  · rfl
  dsimp only
  rcases ev cf b env S1 with _ | ⟨y, S2⟩
  · rfl
  dsimp only
  rcases ev cf c env S2 with _ | ⟨z, S3⟩
  · rfl
  dsimp only
  rcases intR x with _ | i
  · rfl
  rcases intR y with _ | j
  · rfl
  rcases intR z with _ | k
  · rfl
  dsimp only
  rcases (small62 i && small62 j && decide (k ≠ 0) && decide (k.natAbs < 1073741824)) with _ | _ <;> rfl
theorem i_zip {a b} : evi cf (.zip a b) env S = Bn (ev cf a env S) fun x S => Bn (ev cf b env S) fun y S => Mb ((seqR x S).bind ofDs) fun l => Mb ((seqR y S).bind ofDs) fun m => some (zipD l m, none, S) := by
  conv => lhs; unfold evi
  unfold Bn Mb
  rcases ev cf a env S with _ | ⟨x, S1⟩
  · rfl
  dsimp only
  rcases ev cf b env S1 with _ | ⟨y, S2⟩
  · rfl
  dsimp only
  rcases (seqR x S2).bind ofDs with _ | i
  · rfl
  rcases (seqR y S2).bind ofDs with _ | j <;> rfl
theorem i_enum {a} : evi cf (.enum a) env S = Bn (ev cf a env S) fun x S => Mb ((seqR x S).bind ofDs) fun l => some (enumD 0 l, none, S) := by
  conv => lhs; unfold evi
  unfold Bn Mb
  rcases (ev cf a env S) with _ | ⟨x, S1⟩
  · rfl
  try dsimp only
  cases (seqR x S1).bind ofDs <;> rfl
/-! statements -/
theorem s_asg {t e} : ex cf (.asg t e) env S = Bn (ev cf e env S) fun x S => Bn (asgR t x env S) fun env S => some (.nx, env, S) := by
  conv => lhs; unfold ex
  unfold Bn
  rcases (ev cf e env S) with _ | ⟨x, S1⟩
  · rfl
  try dsimp only
  rcases (asgR t x env S1) with _ | ⟨y, S2⟩
  · rfl
  try dsimp only
theorem s_par {ts es} : ex cf (.par ts es) env S = Bn (evs cf es env S) fun l S => Mb (asgDs ts l env) fun env => some (.nx, env, S) := by
  conv => lhs; unfold ex
  unfold Bn Mb
  rcases (evs cf es env S) with _ | ⟨x, S1⟩
  · rfl
  try dsimp only
  cases asgDs ts x env <;> rfl
theorem s_aug {i o e} : ex cf (.aug i o e) env S = Mb (getV env i) fun d => Mb (intR (.val d)) fun d => Bn (ev cf e env S) fun x S => Mb (intR x) fun j => Mb (binI o d j) fun r => some (.nx, setV env i (.p (.int r)), S) := by
  conv => lhs; unfold ex
  cases getV env i with
  | none => rfl
  | some d =>
    rcases d with (_ | _ | v | _ | _) | h <;> try rfl
    rw [Mb_some, show intR (R.val (D.p (P.int v))) = some v from rfl, Mb_some]
    unfold Mb Bn
    dsimp only
    rcases ev cf e env S with _ | ⟨x, S1⟩
    · rfl
    dsimp only
    rcases intR x with _ | j
    · rfl
    dsimp only
    cases binI o v j <;> rfl
theorem s_setix {o i v} : ex cf (.setix o i v) env S = Bn (ev cf v env S) fun x S => Bn (alloc x S) fun d S => Bn (ev cf o env S) fun y S => Bn (ev cf i env S) fun z S => Mb (setIx y z d S) fun S => some (.nx, env, S) := by
  conv => lhs; unfold ex
  unfold Bn Mb
  rcases (ev cf v env S) with _ | ⟨x, S1⟩
  · rfl
  try dsimp only
  rcases (alloc x S1) with _ | ⟨d, S2⟩
  · rfl
  try dsimp only
  rcases (ev cf o env S2) with _ | ⟨y, S3⟩
  · rfl
  try dsimp only
  rcases (ev cf i env S3) with _ | ⟨z, S4⟩
  · rfl
  try dsimp only
  cases setIx y z d S4 <;> rfl
theorem s_delix {o i} : ex cf (.delix o i) env S = Bn (ev cf o env S) fun y S => Bn (ev cf i env S) fun z S => Mb (delIx y z S) fun S => some (.nx, env, S) := by
  conv => lhs; unfold ex
  unfold Bn Mb
  rcases (ev cf o env S) with _ | ⟨y, S3⟩
  · rfl
  try dsimp only
  rcases (ev cf i env S3) with _ | ⟨z, S4⟩
  · rfl
  try dsimp only
  cases delIx y z S4 <;> rfl
theorem s_expr {e} : ex cf (.expr e) env S = Bn (ev cf e env S) fun _ S => some (.nx, env, S) := by
  conv => lhs; unfold ex
  unfold Bn
  rcases (ev cf e env S) with _ | ⟨x, S1⟩
  · rfl
  try dsimp only
theorem s_ret {e} : ex cf (.ret e) env S = Bn (ev cf e env S) fun x S => Bn (alloc x S) fun d S => some (.ret d, env, S) := by
  conv => lhs; unfold ex
  unfold Bn
  rcases (ev cf e env S) with _ | ⟨x, S1⟩
  · rfl
  try dsimp only
  rcases (alloc x S1) with _ | ⟨d, S2⟩
  · rfl
  try dsimp only
theorem s_retn : ex cf .retn env S = some (.ret (.p .non), env, S) := by conv => { lhs; unfold ex }
theorem s_ife {c a b} : ex cf (.ife c a b) env S = Bn (tst cf c env S) fun t S => Cnd t (exs cf a env S) (exs cf b env S) := by
  conv => lhs; unfold ex
  unfold Bn Cnd
  rcases tst cf c env S with _ | ⟨_ | _, S1⟩ <;> rfl
def turnF (cf : CF) (t : TG) (b : ISs) (d : D) (env : Env) (S : Sto) : Option (Out × Env × Sto) := Mb (asgD t d env) fun env => exs cf b env S
theorem s_loop {t it b} : ex cf (.loop t it b) env S = Bi3 (evi cf it env S) fun l c S => loopL (turnF cf t b) l c env S := by
  conv => lhs; unfold ex
  unfold Bi3
  rcases evi cf it env S with _ | ⟨l, c, S1⟩
  · rfl
  dsimp only
  refine loopL_ext fun d env S => ?_
  unfold turnF Mb
  cases asgD t d env <;> rfl
theorem s_while {c b} : ex cf (.while c b) env S = whileD (tst cf c) (exs cf b) env S := by conv => { lhs; unfold ex }
theorem s_brk : ex cf .brk env S = some (.bk, env, S) := by conv => { lhs; unfold ex }
theorem s_cnt : ex cf .cnt env S = some (.ct, env, S) := by conv => { lhs; unfold ex }
theorem s_pas : ex cf .pas env S = some (.nx, env, S) := by conv => { lhs; unfold ex }
theorem x_nil : exs cf .nil env S = some (.nx, env, S) := by conv => { lhs; unfold exs }
theorem x_cons {s r} : exs cf (.cons s r) env S = Sq (ex cf s env S) fun env S => exs cf r env S := by
  conv => lhs; unfold exs
  unfold Sq
  rcases ex cf s env S with _ | ⟨o, e, S1⟩
  · rfl
  · cases o <;> rfl
end
end PyX
set_option Elab.async false
set_option linter.all false
/-! PyW: what holds at the end of a run; loops; calls. -/
namespace PyX
open PyI
open PySem (Str)

def W (r : Option (Out × Env × Sto)) (Q : Out → Env → Sto → Prop) (_t : Tag Q := ⟨⟩) : Prop := ∃ o e S, r = some (o, e, S) ∧ Q o e S
theorem W_some {o e S Q} : W (some (o, e, S)) Q ↔ Q o e S := ⟨fun ⟨_, _, _, h, q⟩ => by cases h; exact q, fun q => ⟨_, _, _, rfl, q⟩⟩
theorem W.mono {r} {Q Q' : Out → Env → Sto → Prop} (h : W r Q) (i : ∀ o e S, Q o e S → Q' o e S) : W r Q' := by
  obtain ⟨o, e, S, h1, h2⟩ := h
  exact ⟨o, e, S, h1, i _ _ _ h2⟩
theorem W_sq {r k} {Q : Out → Env → Sto → Prop} (h : W r fun o e S => match o with
    | .nx => W (k e S) Q
    | o => Q o e S) : W (Sq r k) Q := by
  obtain ⟨o, e, S, h1, h2⟩ := h
  subst h1
  cases o
  · exact h2
  all_goals exact W_some.mpr h2
theorem W_cnd {b : Bool} {x y} {Q : Out → Env → Sto → Prop} (h1 : b = true → W x Q) (h2 : b = false → W y Q) : W (Cnd b x y) Q := by
  cases b
  · exact h2 rfl
  · exact h1 rfl
/-- a loop over data: what holds behind each part of the row -/
theorem W_loop {α : Type} {f : D → Env → Sto → Option (Out × Env × Sto)} {c : Option (Nat × List D)} {Q : Out → Env → Sto → Prop} (L : List α) (en : α → D) (I : List α → Env → Sto → Prop) {l : List D} (hl : l = L.map en)
    (step : ∀ done a rest e S, L = done ++ a :: rest → I done e S → W (f (en a) e S) fun o e S => match o with
      | .nx => still c S = true ∧ I (done ++ [a]) e S
      | .ct => still c S = true ∧ I (done ++ [a]) e S
      | .bk => Q .nx e S
      | .ret d => Q (.ret d) e S)
    (hend : ∀ e S, I L e S → Q .nx e S) {env : Env} {S : Sto} (h0 : I [] env S) : W (loopL f l c env S) Q := by
  subst hl
  have key : ∀ (rest done : List α) (e : Env) (S : Sto), L = done ++ rest → I done e S → W (loopL f (rest.map en) c e S) Q := by
    intro rest
    induction rest with
    | nil =>
      intro done e S h1 h2
      rw [List.append_nil] at h1
      exact ⟨_, _, _, rfl, hend _ _ (h1 ▸ h2)⟩
    | cons a rest ih =>
      intro done e S h1 h2
      obtain ⟨o, e', S', q1, q2⟩ := step done a rest e S h1 h2
      rw [List.map_cons]
      unfold loopL
      rw [q1]
      cases o with
      | nx =>
        dsimp only at q2 ⊢
        rw [if_pos q2.1]
        exact ih (done ++ [a]) e' S' (by rw [h1, List.append_assoc]; rfl) q2.2
      | ct =>
        dsimp only at q2 ⊢
        rw [if_pos q2.1]
        exact ih (done ++ [a]) e' S' (by rw [h1, List.append_assoc]; rfl) q2.2
      | bk => exact ⟨_, _, _, rfl, q2⟩
      | ret d => exact ⟨_, _, _, rfl, q2⟩
  exact key L [] env S rfl h0
theorem whileD_eq (c : Env → Sto → Option (Bool × Sto)) (b : Env → Sto → Option (Out × Env × Sto)) (env : Env) (S : Sto) : whileD c b env S = (match c env S with
    | some (true, S1) => (match b env S1 with
      | some (.nx, e, S) => whileD c b e S
      | some (.ct, e, S) => whileD c b e S
      | some (.bk, e, S) => some (.nx, e, S)
      | some (.ret d, e, S) => some (.ret d, e, S)
      | none => none)
    | some (false, S1) => some (.nx, env, S1)
    | none => none) := by
  rw [whileD]
  rcases c env S with _ | ⟨_ | _, S1⟩
  · rfl
  · rfl
  · simp only [Option.bind_eq_bind, Option.bind_some, if_true]
    rcases b env S1 with _ | ⟨o, e, S2⟩
    · rfl
    · cases o <;> rfl
/-- a while: I n holds ahead of each test, n going down -/
theorem W_while {c : Env → Sto → Option (Bool × Sto)} {b : Env → Sto → Option (Out × Env × Sto)} {Q : Out → Env → Sto → Prop} (I : Nat → Env → Sto → Prop)
    (step : ∀ n e S, I n e S → ∃ t S1, c e S = some (t, S1) ∧ (t = false → Q .nx e S1) ∧ (t = true → W (b e S1) fun o e S => match o with
      | .nx => ∃ m, m < n ∧ I m e S
      | .ct => ∃ m, m < n ∧ I m e S
      | .bk => Q .nx e S
      | .ret d => Q (.ret d) e S)) : ∀ (n : Nat) {env : Env} {S : Sto}, I n env S → W (whileD c b env S) Q := by
  intro n
  induction n using Nat.strongRecOn with
  | _ n ih =>
    intro env S h
    obtain ⟨t, S1, h1, h2, h3⟩ := step n env S h
    rw [whileD_eq, h1]
    cases t with
    | false => exact ⟨_, _, _, rfl, h2 rfl⟩
    | true =>
      obtain ⟨o, e, S2, q1, q2⟩ := h3 rfl
      dsimp only
      rw [q1]
      cases o with
      | nx =>
        obtain ⟨m, hm, hi⟩ := q2
        exact ih m hm hi
      | ct =>
        obtain ⟨m, hm, hi⟩ := q2
        exact ih m hm hi
      | bk => exact ⟨_, _, _, rfl, q2⟩
      | ret d => exact ⟨_, _, _, rfl, q2⟩
/-- a comprehension whose turns leave all as it is -/
theorem compL_eq {α : Type} {f : D → Sto → Option (Option D × Sto)} {c : Option (Nat × List D)} {S : Sto} {l : List D} (L : List α) (en : α → D) (F : α → Option D) (hl : l = L.map en) (hc : still c S = true)
    (hf : ∀ a, a ∈ L → f (en a) S = some (F a, S)) : compL f l c S = some (L.filterMap F, S) := by
  subst hl
  induction L with
  | nil => rfl
  | cons a r ih =>
    rw [List.map_cons]
    unfold compL
    rw [hf a (List.mem_cons_self ..)]
    dsimp only
    rw [if_pos hc, ih fun b hb => hf b (List.mem_cons_of_mem _ hb)]
    dsimp only
    cases h : F a with
    | none => rw [List.filterMap_cons_none h]
    | some x => rw [List.filterMap_cons_some h]
theorem compL_map {α : Type} {f : D → Sto → Option (Option D × Sto)} {c : Option (Nat × List D)} {S : Sto} {l : List D} (L : List α) (en : α → D) (F : α → D) (hl : l = L.map en) (hc : still c S = true)
    (hf : ∀ a, a ∈ L → f (en a) S = some (some (F a), S)) : compL f l c S = some (L.map F, S) := by
  rw [compL_eq L en (fun a => some (F a)) hl hc hf]
  congr 2
  exact congrFun (List.filterMap_eq_map (f := F)) L
theorem compL_fil {α : Type} {f : D → Sto → Option (Option D × Sto)} {c : Option (Nat × List D)} {S : Sto} {l : List D} (L : List α) (en : α → D) (F : α → D) (p : α → Bool) (hl : l = L.map en) (hc : still c S = true)
    (hf : ∀ a, a ∈ L → f (en a) S = some (if p a = true then some (F a) else none, S)) : compL f l c S = some ((L.filter p).map F, S) := by
  rw [compL_eq L en (fun a => if p a = true then some (F a) else none) hl hc hf]
  congr 2
  clear hf hl
  induction L with
  | nil => rfl
  | cons a r ih =>
    by_cases h : p a = true
    · rw [List.filterMap_cons_some (b := F a) (by simp only [h, if_true]), List.filter_cons_of_pos h, ih, List.map_cons]
    · rw [List.filterMap_cons_none (by simp only [h]; rfl), List.filter_cons_of_neg h, ih]
theorem compL2_eq {α : Type} {f : D → Sto → Option (List D × Sto)} {c : Option (Nat × List D)} {S : Sto} {l : List D} (L : List α) (en : α → D) (F : α → List D) (hl : l = L.map en) (hc : still c S = true)
    (hf : ∀ a, a ∈ L → f (en a) S = some (F a, S)) : compL2 f l c S = some (L.flatMap F, S) := by
  subst hl
  induction L with
  | nil => rfl
  | cons a r ih =>
    rw [List.map_cons]
    unfold compL2
    rw [hf a (List.mem_cons_self ..)]
    dsimp only
    rw [if_pos hc, ih fun b hb => hf b (List.mem_cons_of_mem _ hb)]
    rw [List.flatMap_cons]
/-- any comprehension -/
theorem compL_any {α : Type} {f : D → Sto → Option (Option D × Sto)} {c : Option (Nat × List D)} (L : List α) (en : α → D) (I : List α → List D → Sto → Prop) {l : List D} (hl : l = L.map en)
    (step : ∀ done a rest out S, L = done ++ a :: rest → I done out S → ∃ x S', f (en a) S = some (x, S') ∧ still c S' = true ∧ I (done ++ [a]) (out ++ x.toList) S') {S : Sto} (h0 : I [] [] S) : ∃ out S', compL f l c S = some (out, S') ∧ I L out S' := by
  subst hl
  have key : ∀ (rest done : List α) (out : List D) (S : Sto), L = done ++ rest → I done out S → ∃ o2 S', compL f (rest.map en) c S = some (o2, S') ∧ I L (out ++ o2) S' := by
    intro rest
    induction rest with
    | nil =>
      intro done out S h1 h2
      rw [List.append_nil] at h1
      exact ⟨[], S, rfl, by rw [List.append_nil, h1]; exact h2⟩
    | cons a rest ih =>
      intro done out S h1 h2
      obtain ⟨x, S', q1, q2, q3⟩ := step done a rest out S h1 h2
      obtain ⟨o2, S2, q4, q5⟩ := ih (done ++ [a]) _ S' (by rw [h1, List.append_assoc]; rfl) q3
      rw [List.map_cons]
      unfold compL
      rw [q1]
      dsimp only
      rw [if_pos q2, q4]
      refine ⟨x.toList ++ o2, S2, ?_, by rw [← List.append_assoc]; exact q5⟩
      cases x <;> rfl
  obtain ⟨o, S', h1, h2⟩ := key L [] [] S rfl h0
  exact ⟨o, S', h1, by simpa using h2⟩

/-! calls -/
theorem okLeave_self : ∀ (n : Nat) (S S' : Sto), okLeave n S (S ++ S') = true
  | _, [], _ => by simp [okLeave]
  | n, o :: S, S' => by
    simp only [List.cons_append, okLeave, decide_true, Bool.true_or, Bool.true_and]
    exact okLeave_self n S S'
theorem leave_pre {x : P} {S S' : Sto} (h : S <+: S') : leave (.p x) S S' = (.p x, S) := by
  obtain ⟨t, rfl⟩ := h
  unfold leave
  dsimp only
  rw [okLeave_self]
  simp only [if_true, List.take_left]
section
variable {T : List Fn} {n f : Nat} {fn : Fn} {ds : List D} {S : Sto}
theorem run_W {x : P} (h : T[f]? = some fn) (hl : ds.length = fn.np) (hw : W (exs (run T n) fn.body (start fn.nn ds) S) fun o _ S' => o = .ret (.p x) ∧ S <+: S') : run T (n + 1) f ds S = some (.p x, S) := by
  obtain ⟨o, e, S', h1, h2, h3⟩ := hw
  subst h2
  simp only [run, h, hl, if_true, h1]
  rw [leave_pre h3]
/-- .. that comes to its end without a return -/
theorem run_Wn (h : T[f]? = some fn) (hl : ds.length = fn.np) (hw : W (exs (run T n) fn.body (start fn.nn ds) S) fun o _ S' => o = .nx ∧ S <+: S') : run T (n + 1) f ds S = some (.p .non, S) := by
  obtain ⟨o, e, S', h1, h2, h3⟩ := hw
  subst h2
  simp only [run, h, hl, if_true, h1]
  rw [leave_pre h3]
/-- .. that hands back data, and has changed what lay there -/
theorem run_Wm {x : P} {S2 : Sto} (h : T[f]? = some fn) (hl : ds.length = fn.np) (hw : W (exs (run T n) fn.body (start fn.nn ds) S) fun o _ S' => o = .ret (.p x) ∧ ∃ ext, S' = S2 ++ ext ∧ okLeave S.length S (S2 ++ ext) = true ∧ S2.length = S.length) : run T (n + 1) f ds S = some (.p x, S2) := by
  obtain ⟨o, e, S', h1, h2, ext, h3, h4, h5⟩ := hw
  subst h2 h3
  simp only [run, h, hl, if_true, h1]
  unfold leave
  dsimp only
  rw [h4]
  simp only [if_true]
  rw [← h5, List.take_left]
/-- .. that hands back a handle -/
theorem run_Wr {r : Nat} {S2 : Sto} (h : T[f]? = some fn) (hl : ds.length = fn.np) (hw : W (exs (run T n) fn.body (start fn.nn ds) S) fun o _ S' => o = .ret (.ref r) ∧ S' = S2) : run T (n + 1) f ds S = some (.ref r, S2) := by
  obtain ⟨o, e, S', h1, h2, h3⟩ := hw
  subst h2 h3
  simp only [run, h, hl, if_true, h1]
  rfl
end
theorem start_eq (n : Nat) (ds : List D) : start n ds = ds.map some ++ List.replicate (n - ds.length) none := rfl
/-! the store's end -/
theorem get_at {S : Sto} {a : O} {r : Sto} : (S ++ a :: r)[S.length]? = some a := by
  rw [List.getElem?_append_right (Nat.le_refl _), Nat.sub_self]; rfl
theorem get_at1 {S : Sto} {r : Sto} {k : Nat} : (S ++ r)[S.length + k]? = r[k]? := by
  rw [List.getElem?_append_right (Nat.le_add_right _ _), Nat.add_sub_cancel_left]
theorem set_at {S : Sto} {a x : O} {r : Sto} : (S ++ a :: r).set S.length x = S ++ x :: r := by
  rw [List.set_append_right _ _ (Nat.le_refl _), Nat.sub_self]; rfl
theorem set_at1 {S : Sto} {x : O} {r : Sto} {k : Nat} : (S ++ r).set (S.length + k) x = S ++ r.set k x := by
  rw [List.set_append_right _ _ (Nat.le_add_right _ _), Nat.add_sub_cancel_left]
theorem get_lt {S r : Sto} {h : Nat} (hh : h < S.length) : (S ++ r)[h]? = S[h]? := List.getElem?_append_left hh

/-! data -/
theorem ofDs_toDs (l : List P) : ofDs (toDs l) = some l := by
  induction l with
  | nil => rfl
  | cons a r ih =>
    unfold toDs at ih ⊢
    rw [List.map_cons]
    unfold ofDs
    rw [ih]
    rfl
theorem ofDs_map {α : Type} (L : List α) (g : α → P) : ofDs (L.map fun a => D.p (g a)) = some (L.map g) := by
  have h := ofDs_toDs (L.map g)
  unfold toDs at h
  rw [List.map_map] at h
  exact h
theorem ofDs_nil : ofDs [] = some [] := rfl
theorem ofDs_cons {x : P} {r : List D} : ofDs (.p x :: r) = (ofDs r).map (x :: ·) := by
  simp only [ofDs, ofD]
  cases ofDs r <;> rfl
theorem ofDs_append : ∀ {a b : List D}, ofDs (a ++ b) = (ofDs a).bind fun x => (ofDs b).map (x ++ ·)
  | [], b => by
    simp only [List.nil_append, ofDs_nil, Option.bind_some]
    cases ofDs b <;> rfl
  | .p x :: r, b => by
    rw [List.cons_append, ofDs_cons, ofDs_cons, ofDs_append]
    cases ofDs r with
    | none => rfl
    | some xs => cases ofDs b <;> rfl
  | .ref h :: r, b => by
    rw [List.cons_append]
    simp only [ofDs, ofD, Option.bind_none]
theorem ltP_int {i j : Int} : ltP (.int i) (.int j) = decide (i < j) := by
  simp only [ltP, toks, rowLt, signLt, Bool.and_false, Bool.or_false]
theorem canLt_int {i j : Int} : canLt (.int i) (.int j) = true := by
  simp [canLt, alikeP, isNon, depth]
theorem alike_int {i j : Int} : alikeP (.int i) (.int j) = true := by simp [alikeP]

theorem allB_map {α : Type} (l : List α) (f : α → Bool) : allB (l.map fun a => P.bl (f a)) = some (l.map f) := by
  induction l with
  | nil => rfl
  | cons a r ih =>
    rw [List.map_cons]
    unfold allB
    rw [ih]
    rfl
theorem allI_map {α : Type} (l : List α) (f : α → Int) : allI (l.map fun a => P.int (f a)) = some (l.map f) := by
  induction l with
  | nil => rfl
  | cons a r ih =>
    rw [List.map_cons]
    unfold allI
    rw [ih]
    rfl
theorem all_true {α : Type} {l : List α} {f : α → Bool} (h : ∀ a ∈ l, f a = true) : (l.map f).all id = true := by
  simp only [List.all_map, List.all_eq_true]
  exact h
theorem atI_nat {α : Type} {xs : List α} {n : Nat} : atI xs (n : Int) = xs[n]? := by
  unfold atI ixN
  by_cases h : n < xs.length
  · rw [if_pos (by omega), if_pos (by omega)]
    simp
  · rw [if_pos (by omega), if_neg (by omega)]
    simp
    omega
theorem rngL0 {n : Nat} : rngL 0 n 1 = (List.range n).map fun i => D.p (.int (i : Nat)) := by
  unfold rngL
  congr 1
  funext i
  rw [Int.mul_one, Int.zero_add]
theorem small62_nat {n : Nat} (h : n ≤ 16777216) : small62 (n : Int) = true := by
  unfold small62
  rw [decide_eq_true (by omega), decide_eq_true (by omega)]
  rfl
theorem toDs_nil : toDs [] = [] := rfl
theorem toDs_cons {x : P} {l : List P} : toDs (x :: l) = .p x :: toDs l := rfl
theorem toDs_map {α : Type} {l : List α} {g : α → P} : toDs (l.map g) = l.map fun a => D.p (g a) := by
  unfold toDs
  rw [List.map_map]
  rfl
theorem toDs_len {l : List P} : (toDs l).length = l.length := by
  unfold toDs
  rw [List.length_map]
theorem toDs_append {l m : List P} : toDs (l ++ m) = toDs l ++ toDs m := by
  unfold toDs
  rw [List.map_append]
def mulOk (i j : Int) : Bool := decide ((-(2 ^ 64) < i ∧ i < 2 ^ 64) ∨ (-(2 ^ 64) < j ∧ j < 2 ^ 64))
def powOk (i j : Int) : Bool := decide (0 ≤ j ∧ j ≤ 1000000 ∧ i.natAbs < 2 ^ 64)
theorem mulOk_l {i j : Int} (h1 : -1000000000000000000 < i) (h2 : i < 1000000000000000000) : mulOk i j = true := decide_eq_true (.inl ⟨by omega, by omega⟩)
theorem mulOk_r {i j : Int} (h1 : -1000000000000000000 < j) (h2 : j < 1000000000000000000) : mulOk i j = true := decide_eq_true (.inr ⟨by omega, by omega⟩)
theorem bI_add {i j : Int} : binI .add i j = some (i + j) := by unfold binI; rfl
theorem bI_sub {i j : Int} : binI .sub i j = some (i - j) := by unfold binI; rfl
theorem bI_mul {i j : Int} : binI .mul i j = Cnd (mulOk i j) (some (i * j)) none := by
  unfold binI mulOk
  by_cases h : (-(2 ^ 64) < i ∧ i < 2 ^ 64) ∨ (-(2 ^ 64) < j ∧ j < 2 ^ 64)
  · rw [if_pos h, decide_eq_true h, Cnd_true]
  · rw [if_neg h, decide_eq_false h, Cnd_false]
theorem bI_fdiv {i j : Int} : binI .fdiv i j = if 0 < j ∧ j < 1073741824 then some (i / j) else none := by unfold binI; rfl
theorem bI_mod {i j : Int} : binI .mod i j = if 0 < j then some (i % j) else none := by unfold binI; rfl
theorem bI_pow {i j : Int} : binI .pow i j = Cnd (powOk i j) (some (i ^ j.toNat)) none := by
  unfold binI powOk
  by_cases h : 0 ≤ j ∧ j ≤ 1000000 ∧ i.natAbs < 2 ^ 64
  · rw [if_pos h, decide_eq_true h, Cnd_true]
  · rw [if_neg h, decide_eq_false h, Cnd_false]
theorem bI_xor {i j : Int} : binI .xor i j = xorI i j := by unfold binI; rfl
end PyX
section
open PyI PyX
local macro_rules | `(tactic| simp! only [$ls,*]) => `(tactic| simp only [↓Bn_some, ↓Mb_some, ↓Cnd_true, ↓Cnd_false, ↓Bi3_some, ↓Sq_nx, ↓Sq_ret, ↓Sq_bk, ↓Sq_ct, Bn_some, Mb_some, Cnd_true, Cnd_false, Bi3_some, Sq_nx, Sq_ret, Sq_bk, Sq_ct, ↓e_cst, ↓e_glb, ↓e_var, ↓e_bin, ↓e_neg, ↓e_bnot, ↓e_band, ↓e_bor, ↓e_cmp, ↓e_chain, ↓e_ife, ↓e_tup, ↓e_lst, ↓e_dct, ↓e_ix, ↓e_sl, ↓e_call, ↓e_bi, ↓e_bi2, ↓e_m1, ↓e_m2, ↓e_comp, ↓e_comp2, ↓e_dcomp, ↓t_bnot, ↓t_band, ↓t_bor, ↓t_cmp, ↓t_chain, ↓t_ife, ↓t_cst, ↓t_glb, ↓t_var, ↓t_ix, ↓t_sl, ↓t_call, ↓t_bi, ↓t_m1, ↓t_bin, ↓Tv, ↓ts_nil, ↓ts_cons, ↓es_nil, ↓es_cons, ↓o_none, ↓o_some, ↓i_e, ↓i_rng1, ↓i_rng2, ↓i_rng3, ↓i_zip, ↓i_enum, ↓s_asg, ↓s_par, ↓s_aug, ↓s_setix, ↓s_delix, ↓s_expr, ↓s_ret, ↓s_retn, ↓s_ife, ↓s_loop, ↓s_while, ↓s_brk, ↓s_cnt, ↓s_pas, ↓x_nil, ↓x_cons,
  asgR, asgD, asgDs, alloc, getV, setV, wipe, tgIdx, tgsIdx, pR, pK, intR, refR, rInt, rBool, truthy, binR, bI_add, bI_sub, bI_mul, bI_fdiv, bI_mod, bI_pow, bI_xor, cmpR, eqR, ltR, isR, ixR, slR, biR, bi2R, m1R, m2R, setIx, rcv1, isDct, objR, seqR, lstR, isL, lstP, walkR, isaP, tupD, ofDs_nil, ofDs_cons, ofDs_map, ofDs_toDs, ofDs_append, pyEq, pyEqs, depth, depths, ltP_int, canLt_int, isScal, toDs_len, toDs_nil, toDs_cons, toDs_map, toDs_append,
  rngL0, Int.toNat_natCast, get_at, get_at1, set_at, set_at1,
  List.getElem?_cons_zero, List.getElem?_cons_succ, List.set_cons_zero, List.set_cons_succ, List.map_cons, List.map_nil, List.length_cons, List.length_nil, List.replicate_succ, List.replicate_zero, List.cons_append, List.nil_append, List.append_assoc, List.length_append, List.length_map,
  Option.map_some, Option.map_none, Option.bind_some, Option.bind_none, Nat.reduceAdd, Nat.reduceSub, Nat.reduceLeDiff, Nat.reduceLT, Nat.zero_add, Nat.add_zero, Nat.zero_le, decide_true, decide_false, Bool.not_true, Bool.not_false, Bool.true_and, Bool.and_true, Bool.false_and, Bool.and_false, if_true, if_false, ite_true, ite_false, reduceIte, LINE, reduceCtorEq, Option.isSome_some, Option.isSome_none, Int.reduceLT, Int.reduceLE, Int.reduceNeg, Int.reduceSub, Int.reduceAdd, Int.reducePow, Int.reduceToNat, and_self, true_and, and_true, true_or, or_true, or_false, false_or, Bool.or_true, Bool.true_or, Bool.or_false, Bool.false_or, Nat.min_self, Nat.zero_min, Nat.min_zero, Nat.max_self, Nat.zero_max, Nat.max_zero, Bool.false_eq_true, not_true, not_false_iff, $ls,*])
local macro_rules | `(tactic| simp?! only [$ls,*]) => `(tactic| simp only [↓Bn_some, ↓Mb_some, ↓Cnd_true, ↓Cnd_false, ↓Bi3_some, ↓Sq_nx, ↓Sq_ret, ↓Sq_bk, ↓Sq_ct, Bn_some, Mb_some, Cnd_true, Cnd_false, Bi3_some, Sq_nx, Sq_ret, Sq_bk, Sq_ct, ↓e_cst, ↓e_glb, ↓e_var, ↓e_bin, ↓e_neg, ↓e_bnot, ↓e_band, ↓e_bor, ↓e_cmp, ↓e_chain, ↓e_ife, ↓e_tup, ↓e_lst, ↓e_dct, ↓e_ix, ↓e_sl, ↓e_call, ↓e_bi, ↓e_bi2, ↓e_m1, ↓e_m2, ↓e_comp, ↓e_comp2, ↓e_dcomp, ↓t_bnot, ↓t_band, ↓t_bor, ↓t_cmp, ↓t_chain, ↓t_ife, ↓t_cst, ↓t_glb, ↓t_var, ↓t_ix, ↓t_sl, ↓t_call, ↓t_bi, ↓t_m1, ↓t_bin, ↓Tv, ↓ts_nil, ↓ts_cons, ↓es_nil, ↓es_cons, ↓o_none, ↓o_some, ↓i_e, ↓i_rng1, ↓i_rng2, ↓i_rng3, ↓i_zip, ↓i_enum, ↓s_asg, ↓s_par, ↓s_aug, ↓s_setix, ↓s_delix, ↓s_expr, ↓s_ret, ↓s_retn, ↓s_ife, ↓s_loop, ↓s_while, ↓s_brk, ↓s_cnt, ↓s_pas, ↓x_nil, ↓x_cons,
  asgR, asgD, asgDs, alloc, getV, setV, wipe, tgIdx, tgsIdx, pR, pK, intR, refR, rInt, rBool, truthy, binR, bI_add, bI_sub, bI_mul, bI_fdiv, bI_mod, bI_pow, bI_xor, cmpR, eqR, ltR, isR, slR, bi2R, rcv1, seqR, lstR, isL, lstP, walkR, isaP, tupD, ofDs_nil, ofDs_cons, ofDs_map, ofDs_toDs, ofDs_append, pyEq, pyEqs, depth, depths, ltP_int, canLt_int, isScal, toDs_len, toDs_nil, toDs_cons, toDs_map, toDs_append,
  rngL0, Int.toNat_natCast, get_at, get_at1, set_at, set_at1,
  List.getElem?_cons_zero, List.getElem?_cons_succ, List.set_cons_zero, List.set_cons_succ, List.map_cons, List.map_nil, List.length_cons, List.length_nil, List.replicate_succ, List.replicate_zero, List.cons_append, List.nil_append, List.append_assoc, List.length_append, List.length_map,
  Option.map_some, Option.map_none, Option.bind_some, Option.bind_none, Nat.reduceAdd, Nat.reduceSub, Nat.reduceLeDiff, Nat.reduceLT, Nat.zero_add, Nat.add_zero, Nat.zero_le, decide_true, decide_false, Bool.not_true, Bool.not_false, Bool.true_and, Bool.and_true, Bool.false_and, Bool.and_false, if_true, if_false, ite_true, ite_false, reduceIte, LINE, reduceCtorEq, Option.isSome_some, Option.isSome_none, Int.reduceLT, Int.reduceLE, Int.reduceNeg, Int.reduceSub, Int.reduceAdd, Int.reducePow, Int.reduceToNat, and_self, true_and, and_true, true_or, or_true, or_false, false_or, Bool.or_true, Bool.true_or, Bool.or_false, Bool.false_or, Nat.min_self, Nat.zero_min, Nat.min_zero, Nat.max_self, Nat.zero_max, Nat.max_zero, Bool.false_eq_true, not_true, not_false_iff, $ls,*])
set_option Elab.async false
set_option linter.all false
/-! PyD: sorted rows, tables by keys. -/
namespace PyX
open PyI
open PySem (Str)

/-! ### sorting -/
theorem sortL_to {l m : List P} (ha : allAlike l = true) (p : l.Perm m) (hs : m.Pairwise fun a b => ltP a b = true) : sortL l = m := by
  refine sorted_unique ?_ ((sortL_perm l).trans p) (sortL_sorted l) (hs.imp fun {a b} h => ?_)
  · rw [allAlike_perm (sortL_perm l)]
    exact ha
  · rw [ltP_asymm h]; rfl
theorem dedup_len : ∀ l : List P, (dedup l).length ≤ l.length
  | [] => Nat.le_refl _
  | x :: r => by
    unfold dedup
    have := List.length_filter_le (fun y => !pyEq x y) (dedup r)
    have := dedup_len r
    simp only [List.length_cons]
    omega
/-- a way to write things as data of one shape -/
structure Shape {α : Type} (en : α → P) : Prop where
  alike : ∀ a b, alikeP (en a) (en b) = true
  dep : ∀ a, depth (en a) ≤ 60
  full : (∀ a, fullTup (en a) = true) ∨ ∀ a, isScal (en a) = true ∧ isNon (en a) = false
theorem Shape.can {α : Type} {en : α → P} (s : Shape en) {L : List α} (h : L.length ≤ LINE) : canSort (L.map en) = true := by
  unfold canSort allAlike
  simp only [Bool.and_eq_true, List.all_eq_true, List.mem_map, decide_eq_true_eq, Bool.or_eq_true, List.length_map]
  refine ⟨⟨⟨?_, ?_⟩, ?_⟩, h⟩
  · rintro _ ⟨a, _, rfl⟩ _ ⟨b, _, rfl⟩
    exact s.alike a b
  · rintro _ ⟨a, _, rfl⟩
    exact s.dep a
  · rcases s.full with f | f
    · left
      rintro _ ⟨a, _, rfl⟩
      exact f a
    · right
      rintro _ ⟨a, _, rfl⟩
      rw [(f a).1, (f a).2]
      exact ⟨rfl, rfl⟩
theorem Shape.all {α : Type} {en : α → P} (s : Shape en) (L : List α) : allAlike (L.map en) = true := by
  unfold allAlike
  simp only [List.all_eq_true, List.mem_map]
  rintro _ ⟨a, _, rfl⟩ _ ⟨b, _, rfl⟩
  exact s.alike a b
theorem Shape.sortP {α : Type} {en : α → P} (s : Shape en) {L M : List α} (h : L.length ≤ LINE) (p : L.Perm M) (hs : M.Pairwise fun a b => ltP (en a) (en b) = true) : PyI.sortP (L.map en) = some (M.map en) := by
  unfold PyI.sortP
  rw [if_pos (s.can h), sortL_to (s.all L) (p.map en) (List.pairwise_map.mpr hs)]
theorem ltP_irr {x : P} : ltP x x = false := ltP_irrefl x
theorem nodup_of_lt {α : Type} {en : α → P} {M : List α} (hs : M.Pairwise fun a b => ltP (en a) (en b) = true) : M.Nodup := hs.imp fun {a b} h e => by
  subst e
  rw [ltP_irrefl] at h
  cases h
theorem Shape.sset {α : Type} {en : α → P} (s : Shape en) (hi : ∀ L : List α, isInts (L.map en) = true ∨ isRows (L.map en) = true) (inj : ∀ a b, en a = en b → a = b) {L M : List α} (h : L.length < 64) (hm : ∀ x, x ∈ M ↔ x ∈ L) (hs : M.Pairwise fun a b => ltP (en a) (en b) = true) :
    ssetP (L.map en) = some (M.map en) := by
  have hc := s.can (L := L) (Nat.le_trans (Nat.le_of_lt h) (by decide))
  unfold ssetP
  have hi2 := hi L
  have e : (canSort (L.map en) && (isInts (L.map en) || isRows (L.map en)) && decide ((L.map en).length < 64)) = true := by
    rw [hc, List.length_map, decide_eq_true h]
    rcases hi2 with q | q <;> rw [q] <;> simp
  rw [if_pos e]
  congr 1
  have nd : (M.map en).Nodup := by
    refine List.pairwise_map.mpr ((nodup_of_lt hs).imp fun {a b} h e => h (inj a b e))
  have z := (sset_eq hi2 hc nd (by
    intro x
    simp only [List.mem_map, hm]) ?_).2
  · rw [← z]
    exact sortL_to (s.all M) (List.Perm.refl _) (List.pairwise_map.mpr hs)
  · rw [List.length_map]
    have : M.length ≤ L.length := by
      have q : (M.map en).Perm (dedup (L.map en)) := (List.perm_ext_iff_of_nodup nd dedup_nodup).mpr fun x => by
        rw [dedup_mem hi2]
        simp only [List.mem_map, hm]
      have z2 := q.length_eq
      have z3 := dedup_len (L.map en)
      rw [List.length_map] at z2 z3
      omega
    exact Nat.le_trans this (Nat.le_trans (Nat.le_of_lt h) (by decide))
theorem sh_int : Shape P.int := ⟨fun _ _ => by simp [alikeP], fun _ => by simp [depth], .inr fun _ => ⟨rfl, rfl⟩⟩
/-- a pair of ints -/
abbrev e2 (c : Int × Int) : P := .tup [.int c.1, .int c.2]
theorem sh_e2 : Shape e2 := ⟨fun _ _ => by simp [alikeP, alikePs], fun _ => by simp [depth, depths], .inl fun _ => rfl⟩
/-- a cell: its place, its ink -/
abbrev eP (c : (Int × Int) × Int) : P := .tup [e2 c.1, .int c.2]
theorem sh_eP : Shape eP := ⟨fun _ _ => by simp [alikeP, alikePs], fun _ => by simp [depth, depths], .inl fun _ => rfl⟩
def lt2 (a b : Int × Int) : Prop := a.1 < b.1 ∨ (a.1 = b.1 ∧ a.2 < b.2)
instance (a b : Int × Int) : Decidable (lt2 a b) := inferInstanceAs (Decidable (_ ∨ _))
theorem ltP_e2 (a b : Int × Int) : ltP (e2 a) (e2 b) = decide (lt2 a b) := by
  rw [Bool.eq_iff_iff, decide_eq_true_iff]
  unfold lt2
  simp only [ltP, toks, tokss, List.append_nil, List.cons_append, List.nil_append, rowLt, signLt, Int.lt_irrefl, decide_false, Bool.not_false, Bool.true_and, Bool.false_or, Bool.and_false, Bool.or_false]
  simp only [Bool.or_eq_true, Bool.and_eq_true, Bool.not_eq_true', decide_eq_true_eq, decide_eq_false_iff_not]
  omega
theorem ltP_eP (a b : (Int × Int) × Int) : ltP (eP a) (eP b) = decide (lt2 a.1 b.1 ∨ (a.1 = b.1 ∧ a.2 < b.2)) := by
  rw [Bool.eq_iff_iff, decide_eq_true_iff]
  unfold lt2
  simp only [ltP, toks, tokss, List.append_nil, List.cons_append, List.nil_append, rowLt, signLt, Int.lt_irrefl, decide_false, Bool.not_false, Bool.true_and, Bool.false_or, Bool.and_false, Bool.or_false, List.append_assoc]
  simp only [Bool.or_eq_true, Bool.and_eq_true, Bool.not_eq_true', decide_eq_true_eq, decide_eq_false_iff_not, Prod.ext_iff]
  omega
theorem lt_int_pw {L : List Int} (h : L.Pairwise (· < ·)) : L.Pairwise fun a b => ltP (P.int a) (P.int b) = true := h.imp fun {a b} q => by rw [ltP_int]; exact decide_eq_true q
theorem lt2_pw {L : List (Int × Int)} (h : L.Pairwise lt2) : L.Pairwise fun a b => ltP (e2 a) (e2 b) = true := h.imp fun {a b} q => by rw [ltP_e2]; exact decide_eq_true q
theorem ltP_pw {L : List ((Int × Int) × Int)} (h : (L.map (·.1)).Pairwise lt2) : L.Pairwise fun a b => ltP (eP a) (eP b) = true := (List.pairwise_map.mp h).imp fun {a b} q => by rw [ltP_eP]; exact decide_eq_true (.inl q)
theorem ints_int (L : List Int) : isInts (L.map P.int) = true := by simp [isInts]
theorem rows_e2 (L : List (Int × Int)) : isRows (L.map e2) = true := by simp [isRows, isInts]
theorem sset_int {L M : List Int} (h : L.length < 64) (hm : ∀ x, x ∈ M ↔ x ∈ L) (hs : M.Pairwise (· < ·)) : ssetP (L.map P.int) = some (M.map P.int) :=
  sh_int.sset (fun L => .inl (ints_int L)) (fun a b e => by cases e; rfl) h hm (lt_int_pw hs)
theorem sset_e2 {L M : List (Int × Int)} (h : L.length < 64) (hm : ∀ x, x ∈ M ↔ x ∈ L) (hs : M.Pairwise lt2) : ssetP (L.map e2) = some (M.map e2) :=
  sh_e2.sset (fun L => .inr (rows_e2 L)) (fun a b e => by cases a; cases b; cases e; rfl) h hm (lt2_pw hs)
theorem sort_int {L M : List Int} (h : L.length ≤ LINE) (p : L.Perm M) (hs : M.Pairwise (· < ·)) : PyI.sortP (L.map P.int) = some (M.map P.int) := sh_int.sortP h p (lt_int_pw hs)
theorem sort_e2 {L M : List (Int × Int)} (h : L.length ≤ LINE) (p : L.Perm M) (hs : M.Pairwise lt2) : PyI.sortP (L.map e2) = some (M.map e2) := sh_e2.sortP h p (lt2_pw hs)
theorem sort_eP {L M : List ((Int × Int) × Int)} (h : L.length ≤ LINE) (p : L.Perm M) (hs : (M.map (·.1)).Pairwise lt2) : PyI.sortP (L.map eP) = some (M.map eP) := sh_eP.sortP h p (ltP_pw hs)
/-- pairs by their first -/
theorem lt1_pw {L : List (Int × Int)} (h : (L.map (·.1)).Pairwise (· < ·)) : L.Pairwise lt2 := (List.pairwise_map.mp h).imp fun {a b} q => .inl q

/-! ### tables -/
section
variable {κ β : Type} [DecidableEq κ]
def asc (A : List (κ × β)) (k : κ) : Option β := (A.find? fun p => decide (p.1 = k)).map (·.2)
def upd (A : List (κ × β)) (k : κ) (v : β) : List (κ × β) := if (A.any fun p => decide (p.1 = k)) = true then A.map (fun p => if p.1 = k then (p.1, v) else p) else A ++ [(k, v)]
def del (A : List (κ × β)) (k : κ) : List (κ × β) := A.filter fun p => decide (p.1 ≠ k)
abbrev Keys (A : List (κ × β)) : Prop := (A.map (·.1)).Nodup
theorem asc_nil {k : κ} : asc ([] : List (κ × β)) k = none := rfl
theorem asc_cons {p : κ × β} {A : List (κ × β)} {k : κ} : asc (p :: A) k = if p.1 = k then some p.2 else asc A k := by
  unfold asc
  rw [List.find?_cons]
  by_cases h : p.1 = k
  · simp [h]
  · simp [h]
theorem asc_mem {A : List (κ × β)} (h : Keys A) {k : κ} {v : β} : asc A k = some v ↔ (k, v) ∈ A := by
  induction A with
  | nil => simp [asc_nil]
  | cons p A ih =>
    obtain ⟨k', v'⟩ := p
    simp only [Keys, List.map_cons, List.nodup_cons] at h
    rw [asc_cons, List.mem_cons]
    by_cases e : k' = k
    · subst e
      simp only [if_true, Option.some.injEq, Prod.mk.injEq, true_and]
      constructor
      · intro q; exact .inl q.symm
      · rintro (q | q)
        · exact q.symm
        · exact absurd (List.mem_map.mpr ⟨_, q, rfl⟩) h.1
    · simp only [e, if_false, Prod.mk.injEq]
      rw [ih h.2]
      constructor
      · exact .inr
      · rintro (q | q)
        · exact absurd q.1.symm e
        · exact q
theorem asc_none {A : List (κ × β)} {k : κ} : asc A k = none ↔ k ∉ A.map (·.1) := by
  induction A with
  | nil => simp [asc_nil]
  | cons p A ih =>
    rw [asc_cons, List.map_cons, List.mem_cons]
    by_cases e : p.1 = k
    · simp [e]
    · simp only [e, if_false, ih]
      constructor
      · rintro q (z | z)
        · exact e z.symm
        · exact q z
      · intro q z
        exact q (.inr z)
theorem asc_isSome {A : List (κ × β)} {k : κ} : (asc A k).isSome = true ↔ k ∈ A.map (·.1) := by
  cases h : asc A k with
  | none => simp [asc_none.mp h]
  | some v =>
    have : ¬ (k ∉ A.map (·.1)) := fun q => by rw [asc_none.mpr q] at h; cases h
    simpa using this
theorem asc_append {A B : List (κ × β)} {k : κ} : asc (A ++ B) k = (asc A k).or (asc B k) := by
  induction A with
  | nil => rfl
  | cons p A ih =>
    rw [List.cons_append, asc_cons, asc_cons, ih]
    split <;> simp
theorem any_key {A : List (κ × β)} {k : κ} : (A.any fun p => decide (p.1 = k)) = true ↔ k ∈ A.map (·.1) := by
  simp
theorem asc_upd {A : List (κ × β)} {k j : κ} {v : β} : asc (upd A k v) j = if j = k then some v else asc A j := by
  unfold upd
  split
  · rename_i h
    have hm := any_key.mp h
    clear h
    induction A with
    | nil => simp at hm
    | cons p A ih =>
      rw [List.map_cons, asc_cons]
      by_cases e : p.1 = k
      · simp only [e, if_true]
        by_cases e2 : k = j
        · subst e2; simp
        · simp only [e2, if_false]
          rw [if_neg (fun z => e2 z.symm)]
          rw [asc_cons, if_neg (by rw [e]; exact e2)]
          clear ih hm
          induction A with
          | nil => rfl
          | cons q A ih =>
            rw [List.map_cons, asc_cons, asc_cons, ih]
            by_cases e3 : q.1 = k
            · simp [e3, e2]
            · simp [e3]
      · have hm2 : k ∈ A.map (·.1) := by
          rcases List.mem_cons.mp hm with z | z
          · exact absurd z.symm e
          · exact z
        simp only [e, if_false]
        rw [ih hm2, asc_cons]
        by_cases e2 : p.1 = j
        · rw [if_pos e2, if_pos e2, if_neg (fun z => e (e2.trans z))]
        · rw [if_neg e2, if_neg e2]
  · rename_i h
    rw [asc_append, asc_cons, asc_nil]
    have hn : k ∉ A.map (·.1) := fun z => h (any_key.mpr z)
    by_cases e : j = k
    · subst e
      rw [asc_none.mpr hn]; simp
    · rw [if_neg e, if_neg (fun z => e z.symm)]
      simp
theorem keys_upd {A : List (κ × β)} (h : Keys A) {k : κ} {v : β} : Keys (upd A k v) := by
  unfold upd
  split
  · unfold Keys
    rw [List.map_map]
    have : ((fun p : κ × β => p.1) ∘ fun p => if p.1 = k then (p.1, v) else p) = (·.1) := by
      funext p
      simp only [Function.comp]
      split <;> rfl
    rw [this]
    exact h
  · rename_i hn
    unfold Keys
    rw [List.map_append]
    refine List.nodup_append.mpr ⟨h, by simp, fun a ha b hb => ?_⟩
    simp only [List.map_cons, List.map_nil, List.mem_singleton] at hb
    subst hb
    rintro rfl
    exact hn (any_key.mpr ha)
theorem len_upd {A : List (κ × β)} {k : κ} {v : β} : (upd A k v).length ≤ A.length + 1 := by
  unfold upd
  split
  · simp
  · simp
theorem asc_del {A : List (κ × β)} {k j : κ} : asc (del A k) j = if j = k then none else asc A j := by
  unfold del
  induction A with
  | nil => simp [asc_nil]
  | cons p A ih =>
    rw [List.filter_cons]
    by_cases e : p.1 = k
    · simp only [e, ne_eq, not_true, decide_false, Bool.false_eq_true, if_false]
      rw [ih, asc_cons, e]
      by_cases e2 : j = k
      · rw [if_pos e2, if_pos e2]
      · rw [if_neg e2, if_neg e2, if_neg (fun z => e2 z.symm)]
    · simp only [ne_eq, e, not_false_eq_true, decide_true, if_true]
      rw [asc_cons, ih, asc_cons]
      by_cases e2 : p.1 = j
      · rw [if_pos e2, if_pos e2, if_neg (fun z => e (e2.trans z))]
      · rw [if_neg e2, if_neg e2]
theorem keys_del {A : List (κ × β)} (h : Keys A) {k : κ} : Keys (del A k) := List.Nodup.sublist (List.Sublist.map _ List.filter_sublist) h
theorem len_del {A : List (κ × β)} {k : κ} : (del A k).length ≤ A.length := List.length_filter_le _ _
/-- the same answers: the same rows -/
theorem perm_of_asc [DecidableEq β] {A B : List (κ × β)} (ha : Keys A) (hb : Keys B) (h : ∀ k, asc A k = asc B k) : A.Perm B := by
  refine (List.perm_ext_iff_of_nodup (List.Pairwise.of_map _ (fun _ _ h e => h (congrArg _ e)) ha) (List.Pairwise.of_map _ (fun _ _ h e => h (congrArg _ e)) hb)).mpr fun p => ?_
  rw [← asc_mem ha, ← asc_mem hb, h]
end
/-! ### tables as the run has them -/
section
variable {κ κ' β : Type} [DecidableEq κ] [DecidableEq κ']
theorem look_map {A : List (κ × β)} {kf : κ → κ'} {vf : β → D} (inj : ∀ a b, kf a = kf b → a = b) {k : κ} : look (A.map fun p => (kf p.1, vf p.2)) (kf k) = (asc A k).map vf := by
  induction A with
  | nil => rfl
  | cons p A ih =>
    unfold look asc at *
    rw [List.map_cons, List.find?_cons, List.find?_cons]
    by_cases e : p.1 = k
    · simp [e]
    · have e2 : ¬ kf p.1 = kf k := fun z => e (inj _ _ z)
      simp only [e, e2, decide_false]
      exact ih
theorem putK_map {A : List (κ × β)} {kf : κ → κ'} {vf : β → D} (inj : ∀ a b, kf a = kf b → a = b) {k : κ} {v : β} : putK (A.map fun p => (kf p.1, vf p.2)) (kf k) (vf v) = (upd A k v).map fun p => (kf p.1, vf p.2) := by
  unfold putK upd
  have e : ((A.map fun p => (kf p.1, vf p.2)).any fun kv => decide (kv.1 = kf k)) = A.any fun p => decide (p.1 = k) := by
    rw [List.any_map]
    congr 1
    funext p
    simp only [Function.comp]
    by_cases h : p.1 = k
    · simp [h]
    · have h2 : ¬ kf p.1 = kf k := fun z => h (inj _ _ z)
      simp [h, h2]
  rw [e]
  split
  · rw [List.map_map, List.map_map]
    congr 1
    funext p
    simp only [Function.comp]
    by_cases h : p.1 = k
    · simp [h]
    · have h2 : ¬ kf p.1 = kf k := fun z => h (inj _ _ z)
      simp [h, h2]
  · simp
theorem dropK_map {A : List (κ × β)} {kf : κ → κ'} {vf : β → D} (inj : ∀ a b, kf a = kf b → a = b) {k : κ} : dropK (A.map fun p => (kf p.1, vf p.2)) (kf k) = (del A k).map fun p => (kf p.1, vf p.2) := by
  unfold dropK del
  rw [List.filter_map]
  congr 2
  funext p
  simp only [Function.comp]
  by_cases h : p.1 = k
  · simp [h]
  · have h2 : ¬ kf p.1 = kf k := fun z => h (inj _ _ z)
    simp [h, h2]
end
/-- keys of ints, of pairs of ints -/
abbrev kI (i : Int) : Key := .inl i
abbrev k2 (c : Int × Int) : List Key := [.inl c.1, .inl c.2]
theorem kI_inj (a b : Int) (h : kI a = kI b) : a = b := by cases h; rfl
theorem k2_inj (a b : Int × Int) (h : k2 a = k2 b) : a = b := by
  cases a; cases b; cases h; rfl
theorem toKey_int {i : Int} : toKey (.int i) = some (kI i) := rfl
theorem toKey_tup {l : List P} : toKey (.tup l) = none := rfl
theorem toKeyT_e2 {c : Int × Int} : toKeyT (e2 c) = some (k2 c) := rfl
/-- a table of data by ints, by pairs -/
abbrev dI {β : Type} (vf : β → D) (A : List (Int × β)) : O := .dK (A.map fun p => (kI p.1, vf p.2))
abbrev d2 {β : Type} (vf : β → D) (A : List ((Int × Int) × β)) : O := .dT (A.map fun p => (k2 p.1, vf p.2))
abbrev vI (i : Int) : D := .p (.int i)
theorem putAllK_map (L : List (Int × Int)) : ∀ (A : List (Int × Int)), Keys (A ++ L) → putAllK (L.map e2) (A.map fun p => (kI p.1, vI p.2)) = some ((A ++ L).map fun p => (kI p.1, vI p.2)) := by
  induction L with
  | nil => intro A _; rw [List.append_nil]; rfl
  | cons c L ih =>
    intro A h
    rw [List.map_cons]
    unfold putAllK
    rw [toKey_int]
    dsimp only
    have e : upd A c.1 c.2 = A ++ [c] := by
      unfold upd
      rw [if_neg]
      intro z
      have := any_key.mp z
      unfold Keys at h
      rw [List.map_append, List.nodup_append] at h
      exact h.2.2 c.1 this c.1 (by simp) rfl
    have z := ih (A ++ [c]) (by rw [List.append_assoc]; exact h)
    rw [List.append_assoc] at z
    rw [← show (A ++ [c] ++ L).map (fun p => (kI p.1, vI p.2)) = (A ++ c :: L).map fun p => (kI p.1, vI p.2) by simp]
    rw [show putK (A.map fun p => (kI p.1, vI p.2)) (kI c.1) (vI c.2) = (upd A c.1 c.2).map fun p => (kI p.1, vI p.2) from putK_map kI_inj, e]
    rw [List.append_assoc]
    exact z
theorem putAllT_map (L : List ((Int × Int) × Int)) : ∀ (A : List ((Int × Int) × Int)), Keys (A ++ L) → putAllT (L.map eP) (A.map fun p => (k2 p.1, vI p.2)) = some ((A ++ L).map fun p => (k2 p.1, vI p.2)) := by
  induction L with
  | nil => intro A _; rw [List.append_nil]; rfl
  | cons c L ih =>
    intro A h
    rw [List.map_cons]
    unfold putAllT
    rw [toKeyT_e2]
    dsimp only
    have e : upd A c.1 c.2 = A ++ [c] := by
      unfold upd
      rw [if_neg]
      intro z
      have := any_key.mp z
      unfold Keys at h
      rw [List.map_append, List.nodup_append] at h
      exact h.2.2 c.1 this c.1 (by simp) rfl
    have z := ih (A ++ [c]) (by rw [List.append_assoc]; exact h)
    rw [List.append_assoc] at z
    rw [show putK (A.map fun p => (k2 p.1, vI p.2)) (k2 c.1) (vI c.2) = (upd A c.1 c.2).map fun p => (k2 p.1, vI p.2) from putK_map k2_inj, e]
    exact z
theorem dictOf_e2 {L : List (Int × Int)} (h : Keys L) : dictOf (L.map e2) = some (dI vI L) := by
  have z := putAllK_map L [] h
  cases L with
  | nil => rfl
  | cons c L =>
    simp only [List.nil_append, List.map_nil] at z
    unfold dictOf
    simp only [List.map_cons] at z ⊢
    rw [z]
    rfl
theorem dictOf_eP {c : (Int × Int) × Int} {L : List ((Int × Int) × Int)} (h : Keys (c :: L)) : dictOf ((c :: L).map eP) = some (d2 vI (c :: L)) := by
  have z := putAllT_map (c :: L) [] h
  simp only [List.nil_append, List.map_nil] at z
  unfold dictOf
  simp only [List.map_cons] at z ⊢
  rw [z]
  rfl
theorem dItems_dI {A : List (Int × Int)} : dItems (dI vI A) = some (A.map e2) := by
  unfold dItems
  dsimp only
  rw [List.map_map, show (((fun x : Key × D => x.2) ∘ fun p : Int × Int => (kI p.1, vI p.2))) = fun p => D.p (.int p.2) from rfl, ofDs_map]
  dsimp only
  congr 1
  induction A with
  | nil => rfl
  | cons p A ih =>
    simp only [List.map_cons, List.zip_cons_cons]
    rw [ih]
    rfl
theorem dItems_d2 {A : List ((Int × Int) × Int)} : dItems (d2 vI A) = some (A.map eP) := by
  unfold dItems
  dsimp only
  rw [List.map_map, show (((fun x : List Key × D => x.2) ∘ fun p : (Int × Int) × Int => (k2 p.1, vI p.2))) = fun p => D.p (.int p.2) from rfl, ofDs_map]
  dsimp only
  rw [if_pos (by simp)]
  congr 1
  induction A with
  | nil => rfl
  | cons p A ih =>
    simp only [List.map_cons, List.zip_cons_cons]
    rw [ih]
    rfl
theorem dKeys_dI {β : Type} {vf : β → D} {A : List (Int × β)} : dKeys (dI vf A) = some ((A.map (·.1)).map P.int) := by
  unfold dKeys
  simp only [List.map_map]
  rfl
theorem dKeys_d2 {β : Type} {vf : β → D} {A : List ((Int × Int) × β)} : dKeys (d2 vf A) = some ((A.map (·.1)).map e2) := by
  unfold dKeys
  dsimp only
  rw [if_pos (by simp)]
  simp only [List.map_map]
  rfl

/-! ### sorted rows without doubles -/
structure Ord {α : Type} (lt : α → α → Bool) : Prop where
  tr : ∀ a b c, lt a b = true → lt b c = true → lt a c = true
  tri : ∀ a b, lt a b = false → lt b a = false → a = b
def insS {α : Type} (lt : α → α → Bool) (a : α) : List α → List α
  | [] => [a]
  | b :: r => if lt a b then a :: b :: r else if lt b a then b :: insS lt a r else b :: r
def sortU {α : Type} (lt : α → α → Bool) (L : List α) : List α := L.foldr (insS lt) []
theorem insS_mem {α : Type} {lt : α → α → Bool} (o : Ord lt) {a x : α} : ∀ {M : List α}, x ∈ insS lt a M ↔ x = a ∨ x ∈ M
  | [] => by simp [insS]
  | b :: r => by
    unfold insS
    split
    · simp
    · split
      · rw [List.mem_cons, insS_mem o, List.mem_cons]
        constructor
        · rintro (h | h | h)
          · exact .inr (.inl h)
          · exact .inl h
          · exact .inr (.inr h)
        · rintro (h | h | h)
          · exact .inr (.inl h)
          · exact .inl h
          · exact .inr (.inr h)
      · rename_i h1 h2
        have := o.tri a b (by simpa using h1) (by simpa using h2)
        subst this
        simp
theorem insS_sorted {α : Type} {lt : α → α → Bool} (o : Ord lt) {a : α} : ∀ {M : List α}, M.Pairwise (fun x y => lt x y = true) → (insS lt a M).Pairwise (fun x y => lt x y = true)
  | [], _ => by simp [insS]
  | b :: r, h => by
    rw [List.pairwise_cons] at h
    unfold insS
    split
    · rename_i h1
      refine List.pairwise_cons.mpr ⟨fun x hx => ?_, List.pairwise_cons.mpr h⟩
      rcases List.mem_cons.mp hx with e | e
      · rw [e]; exact h1
      · exact o.tr _ _ _ h1 (h.1 x e)
    · split
      · rename_i h2
        refine List.pairwise_cons.mpr ⟨fun x hx => ?_, insS_sorted o h.2⟩
        rcases (insS_mem o).mp hx with e | e
        · rw [e]; exact h2
        · exact h.1 x e
      · exact List.pairwise_cons.mpr h
theorem sortU_mem {α : Type} {lt : α → α → Bool} (o : Ord lt) {x : α} {L : List α} : x ∈ sortU lt L ↔ x ∈ L := by
  unfold sortU
  induction L with
  | nil => simp
  | cons a r ih => rw [List.foldr_cons, insS_mem o, ih, List.mem_cons]
theorem sortU_sorted {α : Type} {lt : α → α → Bool} (o : Ord lt) {L : List α} : (sortU lt L).Pairwise (fun x y => lt x y = true) := by
  unfold sortU
  induction L with
  | nil => exact .nil
  | cons a r ih => exact insS_sorted o ih
theorem ordI : Ord (fun a b : Int => decide (a < b)) := ⟨fun a b c h1 h2 => by simp at *; omega, fun a b h1 h2 => by simp at *; omega⟩
theorem ord2 : Ord (fun a b : Int × Int => decide (lt2 a b)) := ⟨fun a b c h1 h2 => by
  have h1 := of_decide_eq_true h1
  have h2 := of_decide_eq_true h2
  refine decide_eq_true ?_
  unfold lt2 at *
  omega, fun a b h1 h2 => by
  have h1 := of_decide_eq_false h1
  have h2 := of_decide_eq_false h2
  unfold lt2 at *
  exact Prod.ext (by omega) (by omega)⟩
def sortI (L : List Int) : List Int := sortU (fun a b => decide (a < b)) L
def sort2 (L : List (Int × Int)) : List (Int × Int) := sortU (fun a b => decide (lt2 a b)) L
theorem sortI_mem {x : Int} {L : List Int} : x ∈ sortI L ↔ x ∈ L := sortU_mem ordI
theorem sort2_mem {x : Int × Int} {L : List (Int × Int)} : x ∈ sort2 L ↔ x ∈ L := sortU_mem ord2
theorem sortI_lt {L : List Int} : (sortI L).Pairwise (· < ·) := (sortU_sorted ordI).imp fun h => of_decide_eq_true h
theorem sort2_lt {L : List (Int × Int)} : (sort2 L).Pairwise lt2 := (sortU_sorted ord2).imp fun h => of_decide_eq_true h
/-- two sorted rows of the same members -/
theorem sorted_ext {α : Type} {lt : α → α → Prop} (irr : ∀ a, ¬ lt a a) (as : ∀ a b, lt a b → lt b a → False) {L M : List α} (h1 : L.Pairwise lt) (h2 : M.Pairwise lt) (h : ∀ x, x ∈ L ↔ x ∈ M) : L = M := by
  have nd : ∀ L : List α, L.Pairwise lt → L.Nodup := fun L h => List.Pairwise.imp (S := fun a b => a ≠ b) (fun {a b} q e => by subst e; exact irr _ q) h
  exact List.Perm.eq_of_pairwise (fun a b _ _ q1 q2 => (as a b q1 q2).elim) h1 h2 ((List.perm_ext_iff_of_nodup (nd L h1) (nd M h2)).mpr h)
theorem lt2_irr (a : Int × Int) : ¬ lt2 a a := by unfold lt2; omega
theorem lt2_as (a b : Int × Int) (h1 : lt2 a b) (h2 : lt2 b a) : False := by unfold lt2 at *; omega
theorem nodup_lt {L : List Int} (h : L.Pairwise (· < ·)) : L.Nodup := h.imp fun h => Int.ne_of_lt h
theorem nodup_lt2 {L : List (Int × Int)} (h : L.Pairwise lt2) : L.Nodup := List.Pairwise.imp (S := fun a b => a ≠ b) (fun {a b} q e => by subst e; exact lt2_irr _ q) h
/-! what a table gives -/
def optP : Option Int → P
  | none => .non
  | some i => .int i
theorem optP_eq {a b : Option Int} : pyEq (optP a) (optP b) = decide (a = b) := by
  cases a <;> cases b <;> simp [optP, pyEq]
  rw [Bool.eq_iff_iff]
  simp
theorem optP_dep {a : Option Int} : depth (optP a) = 0 := by cases a <;> simp [optP, depth]
theorem look_dI {A : List (Int × Int)} {x : Int} : look (A.map fun p => (kI p.1, vI p.2)) (kI x) = (asc A x).map vI := look_map kI_inj
theorem look_d2 {β : Type} {vf : β → D} {A : List ((Int × Int) × β)} {x : Int × Int} : look (A.map fun p => (k2 p.1, vf p.2)) (k2 x) = (asc A x).map vf := look_map k2_inj
theorem getD_non {a : Option Int} : (a.map vI).getD (.p .non) = .p (optP a) := by cases a <;> rfl
theorem getD_int {a : Option Int} {i : Int} : (a.map vI).getD (.p (.int i)) = .p (.int (a.getD i)) := by cases a <;> rfl
theorem putK_dI {A : List (Int × Int)} {x i : Int} : putK (A.map fun p => (kI p.1, vI p.2)) (kI x) (.p (.int i)) = (upd A x i).map fun p => (kI p.1, vI p.2) := putK_map kI_inj
theorem putK_d2 {A : List ((Int × Int) × Int)} {x : Int × Int} {i : Int} : putK (A.map fun p => (k2 p.1, vI p.2)) (k2 x) (.p (.int i)) = (upd A x i).map fun p => (k2 p.1, vI p.2) := putK_map k2_inj
theorem dropK_dI {A : List (Int × Int)} {x : Int} : dropK (A.map fun p => (kI p.1, vI p.2)) (kI x) = (del A x).map fun p => (kI p.1, vI p.2) := dropK_map kI_inj
theorem dropK_d2 {A : List ((Int × Int) × Int)} {x : Int × Int} : dropK (A.map fun p => (k2 p.1, vI p.2)) (k2 x) = (del A x).map fun p => (k2 p.1, vI p.2) := dropK_map k2_inj
theorem dict_e2 {L : List (Int × Int)} {S : Sto} (h : Keys L) : biR .dict (.val (.p (.tup (L.map e2)))) S = some (.val (.ref S.length), S ++ [dI vI L]) := by
  have e : keyish (L.map e2) = false := by cases L <;> rfl
  simp only [biR, dSrc, e]
  rw [if_neg (by simp)]
  dsimp only
  rw [dictOf_e2 h]
  rfl
theorem dict_eP {L : List ((Int × Int) × Int)} {S : Sto} (h : Keys L) (hn : L ≠ []) : biR .dict (.val (.p (.tup (L.map eP)))) S = some (.val (.ref S.length), S ++ [d2 vI L]) := by
  have e : keyish (L.map eP) = false := by cases L <;> rfl
  simp only [biR, dSrc, e]
  rw [if_neg (by simp)]
  cases L with
  | nil => exact absurd rfl hn
  | cons c L =>
    dsimp only
    rw [dictOf_eP h]
    rfl
theorem dSrc_e2 {L : List (Int × Int)} {S : Sto} : dSrc (.val (.p (.tup (L.map e2)))) S = some (L.map e2) := by
  have e : keyish (L.map e2) = false := by cases L <;> rfl
  simp only [dSrc, e]
  rfl
theorem dSrc_eP {L : List ((Int × Int) × Int)} {S : Sto} : dSrc (.val (.p (.tup (L.map eP)))) S = some (L.map eP) := by
  have e : keyish (L.map eP) = false := by cases L <;> rfl
  simp only [dSrc, e]
  rfl
theorem dictOf_eP' {L : List ((Int × Int) × Int)} (h : Keys L) (hn : L ≠ []) : dictOf (L.map eP) = some (d2 vI L) := by
  cases L with
  | nil => exact absurd rfl hn
  | cons c L => exact dictOf_eP h
end PyX
set_option linter.all false
set_option maxRecDepth 100000
namespace PyI
open PySem (Str)
def f_picture : Fn := ⟨1, 1, (.cons (.ret (.bi .tuple (.bi .sitems (.var 0))))
  .nil)⟩
def f_number_bytes : Fn := ⟨1, 2, (.cons (.asg (.nm 1) (.lst .nil))
  (.cons (.while (.cmp .ge (.var 0) (.cst (P.int (128))))
    (.cons (.expr (.m1 .append (.var 1) (.bin .add (.bin .mod (.var 0) (.cst (P.int (128)))) (.cst (P.int (128))))))
  (.cons (.aug 0 .fdiv (.cst (P.int (128))))
  .nil)))
  (.cons (.expr (.m1 .append (.var 1) (.var 0)))
  (.cons (.ret (.bi .tuple (.var 1)))
  .nil))))⟩
def f_read_number : Fn := ⟨2, 5, (.cons (.par [(.nm 2), (.nm 3), (.nm 4)] (.cons (.cst (P.int (0))) (.cons (.cst (P.int (1))) (.cons (.var 1) .nil))))
  (.cons (.while (.cst (P.bl true))
    (.cons (.ife (.cmp .ge (.var 1) (.bi .len (.var 0)))
    (.cons .never
  .nil)
    .nil)
  (.cons (.aug 2 .add (.bin .mul (.bin .mod (.ix (.var 0) (.var 1)) (.cst (P.int (128)))) (.var 3)))
  (.cons (.aug 3 .mul (.cst (P.int (128))))
  (.cons (.aug 1 .add (.cst (P.int (1))))
  (.cons (.ife (.cmp .lt (.ix (.var 0) (.bin .sub (.var 1) (.cst (P.int (1))))) (.cst (P.int (128))))
    (.cons (.ife (.band (.cmp .eq (.ix (.var 0) (.bin .sub (.var 1) (.cst (P.int (1))))) (.cst (P.int (0)))) (.cmp .gt (.bin .sub (.var 1) (.var 4)) (.cst (P.int (1)))))
    (.cons .never
  .nil)
    .nil)
  (.cons (.ret (.tup (.cons (.var 2) (.cons (.var 1) .nil))))
  .nil))
    .nil)
  .nil))))))
  .nil))⟩
def f_signed_bytes : Fn := ⟨1, 1, (.cons (.ret (.call 1 (.cons (.ife (.cmp .ge (.var 0) (.cst (P.int (0)))) (.bin .mul (.cst (P.int (2))) (.var 0)) (.bin .sub (.bin .mul (.neg (.cst (P.int (2)))) (.var 0)) (.cst (P.int (1))))) .nil)))
  .nil)⟩
def f_read_signed : Fn := ⟨2, 3, (.cons (.asg (.tup [(.nm 2), (.nm 1)]) (.call 2 (.cons (.var 0) (.cons (.var 1) .nil))))
  (.cons (.ret (.tup (.cons (.ife (.cmp .eq (.bin .mod (.var 2) (.cst (P.int (2)))) (.cst (P.int (0)))) (.bin .fdiv (.var 2) (.cst (P.int (2)))) (.bin .fdiv (.neg (.bin .add (.var 2) (.cst (P.int (1))))) (.cst (P.int (2))))) (.cons (.var 1) .nil))))
  .nil))⟩
def f_sum_after : Fn := ⟨2, 3, (.cons (.asg (.nm 0) (.bin .xor (.var 0) (.var 1)))
  (.cons (.loop (.nm 2) (.rng1 (.cst (P.int (8))))
    (.cons (.asg (.nm 0) (.ife (.cmp .eq (.bin .mod (.var 0) (.cst (P.int (2)))) (.cst (P.int (1)))) (.bin .xor (.bin .fdiv (.var 0) (.cst (P.int (2)))) (.cst (P.int (40961)))) (.bin .fdiv (.var 0) (.cst (P.int (2))))))
  .nil))
  (.cons (.ret (.var 0))
  .nil)))⟩
def f_sum_of : Fn := ⟨1, 3, (.cons (.asg (.nm 1) (.cst (P.int (65535))))
  (.cons (.loop (.nm 2) (.e (.var 0))
    (.cons (.asg (.nm 1) (.call 5 (.cons (.var 1) (.cons (.var 2) .nil))))
  .nil))
  (.cons (.ret (.var 1))
  .nil)))⟩
def f_sum_bytes : Fn := ⟨1, 2, (.cons (.asg (.nm 1) (.call 6 (.cons (.var 0) .nil)))
  (.cons (.ret (.tup (.cons (.bin .mod (.var 1) (.cst (P.int (256)))) (.cons (.bin .fdiv (.var 1) (.cst (P.int (256)))) .nil))))
  .nil))⟩
def f_is_bytes : Fn := ⟨1, 2, (.cons (.ife (.bnot (.bi (.isa .tuple) (.var 0)))
    (.cons (.ret (.cst (P.bl false)))
  .nil)
    .nil)
  (.cons (.ret (.bi .all (.comp (.band (.bi (.isa .int) (.var 1)) (.band (.bnot (.bi (.isa .bool) (.var 1))) (.chain .le .lt (.cst (P.int (0))) (.var 1) (.cst (P.int (256)))))) (.nm 1) (.e (.var 0)) .nil [1])))
  .nil))⟩
def f_rows_of : Fn := ⟨1, 5, (.cons (.asg (.nm 1) .dct)
  (.cons (.loop (.tup [(.tup [(.nm 3), (.nm 4)]), (.nm 2)]) (.e (.var 0))
    (.cons (.expr (.m1 .append (.m2 .setdefault (.var 1) (.var 4) (.lst .nil)) (.tup (.cons (.var 3) (.cons (.var 2) .nil)))))
  .nil))
  (.cons (.ret (.bi .tuple (.comp (.tup (.cons (.var 4) (.cons (.bi .tuple (.bi .sorted (.ix (.var 1) (.var 4)))) .nil))) (.nm 4) (.e (.bi .sorted (.var 1))) .nil [4])))
  .nil)))⟩
def f_rows_print : Fn := ⟨1, 5, (.cons (.ret (.bi .tuple (.bi .sorted (.comp2 (.tup (.cons (.tup (.cons (.var 3) (.cons (.var 1) .nil))) (.cons (.var 4) .nil))) (.tup [(.nm 1), (.nm 2)]) (.e (.var 0)) .nil (.tup [(.nm 3), (.nm 4)]) (.e (.var 2)) .nil [1, 2, 3, 4]))))
  .nil)⟩
def f_row_diff : Fn := ⟨2, 5, (.cons (.par [(.nm 2), (.nm 3)] (.cons (.bi .dict (.var 0)) (.cons (.bi .dict (.var 1)) .nil)))
  (.cons (.ret (.bi .tuple (.comp (.tup (.cons (.var 4) (.cons (.m2 .get (.var 3) (.var 4) (.cst (P.int (0)))) .nil))) (.nm 4) (.e (.bi .sset (.bin .add (.bi .list (.var 2)) (.bi .list (.var 3))))) (.cons (.cmp .ne (.m1 .get (.var 2) (.var 4)) (.m1 .get (.var 3) (.var 4))) .nil) [4])))
  .nil))⟩
def f_row_after : Fn := ⟨2, 5, (.cons (.asg (.nm 2) (.bi .dict (.var 0)))
  (.cons (.loop (.tup [(.nm 3), (.nm 4)]) (.e (.var 1))
    (.cons (.ife (.cmp .eq (.m2 .get (.var 2) (.var 3) (.cst (P.int (0)))) (.var 4))
    (.cons .never
  .nil)
    .nil)
  (.cons (.ife (.cmp .eq (.var 4) (.cst (P.int (0))))
    (.cons (.delix (.var 2) (.var 3))
  .nil)
    (.cons (.setix (.var 2) (.var 3) (.var 4))
  .nil))
  .nil)))
  (.cons (.ret (.bi .tuple (.bi .sitems (.var 2))))
  .nil)))⟩
def f_cells_bytes : Fn := ⟨1, 5, (.cons (.par [(.nm 1), (.nm 2)] (.cons (.call 1 (.cons (.bi .len (.var 0)) .nil)) (.cons (.cst (P.int (0))) .nil)))
  (.cons (.loop (.tup [(.nm 3), (.nm 4)]) (.e (.var 0))
    (.cons (.asg (.nm 1) (.bin .add (.bin .add (.var 1) (.call 3 (.cons (.bin .sub (.var 3) (.var 2)) .nil))) (.tup (.cons (.var 4) .nil))))
  (.cons (.asg (.nm 2) (.var 3))
  .nil)))
  (.cons (.ret (.var 1))
  .nil)))⟩
def f_read_cells : Fn := ⟨3, 8, (.cons (.asg (.tup [(.nm 3), (.nm 1)]) (.call 2 (.cons (.var 0) (.cons (.var 1) .nil))))
  (.cons (.par [(.nm 4), (.nm 5)] (.cons (.lst .nil) (.cons (.cst (P.int (0))) .nil)))
  (.cons (.loop (.nm 6) (.rng1 (.bi2 .min (.var 3) (.bi .len (.var 0))))
    (.cons (.asg (.tup [(.nm 7), (.nm 1)]) (.call 4 (.cons (.var 0) (.cons (.var 1) .nil))))
  (.cons (.ife (.bor (.cmp .ge (.var 1) (.bi .len (.var 0))) (.bor (.bnot (.chain .le .le (.var 2) (.ix (.var 0) (.var 1)) (.cst (P.int (4))))) (.band (.var 4) (.cmp .lt (.var 7) (.cst (P.int (1)))))))
    (.cons .never
  .nil)
    .nil)
  (.cons (.aug 5 .add (.var 7))
  (.cons (.expr (.m1 .append (.var 4) (.tup (.cons (.var 5) (.cons (.ix (.var 0) (.var 1)) .nil)))))
  (.cons (.aug 1 .add (.cst (P.int (1))))
  .nil))))))
  (.cons (.ife (.cmp .ne (.bi .len (.var 4)) (.var 3))
    (.cons .never
  .nil)
    .nil)
  (.cons (.ret (.tup (.cons (.bi .tuple (.var 4)) (.cons (.var 1) .nil))))
  .nil)))))⟩
def f_row_bytes : Fn := ⟨2, 4, (.cons (.asg (.nm 2) (.bin .add (.tup (.cons (.cst (P.int (0))) .nil)) (.call 13 (.cons (.var 1) .nil))))
  (.cons (.asg (.nm 3) (.bin .add (.tup (.cons (.cst (P.int (1))) .nil)) (.call 13 (.cons (.call 11 (.cons (.var 0) (.cons (.var 1) .nil))) .nil))))
  (.cons (.ret (.ife (.cmp .lt (.bi .len (.var 3)) (.bi .len (.var 2))) (.var 3) (.var 2)))
  .nil)))⟩
def f_packed_page : Fn := ⟨1, 7, (.cons (.asg (.nm 1) (.call 9 (.cons (.var 0) .nil)))
  (.cons (.par [(.nm 2), (.nm 3), (.nm 4)] (.cons (.bin .add (.glb (P.tup [(P.int (80)), (P.int (75))])) (.call 1 (.cons (.bi .len (.var 1)) .nil))) (.cons (.cst (P.int (0))) (.cons (.tup .nil) .nil))))
  (.cons (.loop (.tup [(.nm 5), (.nm 6)]) (.e (.var 1))
    (.cons (.asg (.nm 2) (.bin .add (.bin .add (.var 2) (.call 3 (.cons (.bin .sub (.var 5) (.var 3)) .nil))) (.call 15 (.cons (.var 4) (.cons (.var 6) .nil)))))
  (.cons (.par [(.nm 3), (.nm 4)] (.cons (.var 5) (.cons (.var 6) .nil)))
  .nil)))
  (.cons (.ret (.bin .add (.var 2) (.call 7 (.cons (.var 2) .nil))))
  .nil))))⟩
def f_read_packed : Fn := ⟨1, 11, (.cons (.ife (.bor (.bnot (.call 8 (.cons (.var 0) .nil))) (.cmp .ne (.sl (.var 0) .none (.some (.cst (P.int (2))))) (.glb (P.tup [(P.int (80)), (P.int (75))]))))
    (.cons .never
  .nil)
    .nil)
  (.cons (.asg (.tup [(.nm 1), (.nm 2)]) (.call 2 (.cons (.var 0) (.cons (.cst (P.int (2))) .nil))))
  (.cons (.ife (.cmp .gt (.var 1) (.cst (P.int (4096))))
    (.cons .never
  .nil)
    .nil)
  (.cons (.par [(.nm 3), (.nm 4), (.nm 5)] (.cons (.lst .nil) (.cons (.cst (P.int (0))) (.cons (.tup .nil) .nil))))
  (.cons (.loop (.nm 6) (.rng1 (.var 1))
    (.cons (.asg (.tup [(.nm 7), (.nm 2)]) (.call 4 (.cons (.var 0) (.cons (.var 2) .nil))))
  (.cons (.ife (.bor (.cmp .ge (.var 2) (.bi .len (.var 0))) (.cmp .gt (.ix (.var 0) (.var 2)) (.cst (P.int (1)))))
    (.cons .never
  .nil)
    .nil)
  (.cons (.asg (.nm 8) (.ix (.var 0) (.var 2)))
  (.cons (.asg (.tup [(.nm 9), (.nm 2)]) (.call 14 (.cons (.var 0) (.cons (.bin .add (.var 2) (.cst (P.int (1)))) (.cons (.bin .sub (.cst (P.int (1))) (.var 8)) .nil)))))
  (.cons (.asg (.nm 5) (.ife (.cmp .eq (.var 8) (.cst (P.int (1)))) (.call 12 (.cons (.var 5) (.cons (.var 9) .nil))) (.var 9)))
  (.cons (.aug 4 .add (.var 7))
  (.cons (.expr (.m1 .append (.var 3) (.tup (.cons (.var 4) (.cons (.var 5) .nil)))))
  .nil))))))))
  (.cons (.asg (.nm 10) (.call 10 (.cons (.var 3) .nil)))
  (.cons (.ife (.cmp .ne (.call 16 (.cons (.var 10) .nil)) (.var 0))
    (.cons .never
  .nil)
    .nil)
  (.cons (.ret (.var 10))
  .nil))))))))⟩
def f_row_sums : Fn := ⟨1, 3, (.cons (.ret (.bi .tuple (.comp (.tup (.cons (.var 1) (.cons (.call 6 (.cons (.bin .add (.call 3 (.cons (.var 1) .nil)) (.call 13 (.cons (.var 2) .nil))) .nil)) .nil))) (.tup [(.nm 1), (.nm 2)]) (.e (.call 9 (.cons (.var 0) .nil))) .nil [1, 2])))
  .nil)⟩
def f_pair_sum : Fn := ⟨2, 2, (.cons (.ret (.call 6 (.cons (.tup (.cons (.bin .mod (.var 0) (.cst (P.int (256)))) (.cons (.bin .fdiv (.var 0) (.cst (P.int (256)))) (.cons (.bin .mod (.var 1) (.cst (P.int (256)))) (.cons (.bin .fdiv (.var 1) (.cst (P.int (256)))) .nil))))) .nil)))
  .nil)⟩
def f_levels_of : Fn := ⟨1, 4, (.cons (.asg (.nm 1) (.lst (.cons (.bi .tuple (.var 0)) .nil)))
  (.cons (.while (.cmp .gt (.bi .len (.ix (.var 1) (.neg (.cst (P.int (1)))))) (.cst (P.int (1))))
    (.cons (.asg (.nm 2) (.ix (.var 1) (.neg (.cst (P.int (1))))))
  (.cons (.expr (.m1 .append (.var 1) (.bi .tuple (.comp (.ife (.cmp .lt (.bin .add (.var 3) (.cst (P.int (1)))) (.bi .len (.var 2))) (.call 19 (.cons (.ix (.var 2) (.var 3)) (.cons (.ix (.var 2) (.bin .add (.var 3) (.cst (P.int (1))))) .nil))) (.ix (.var 2) (.var 3))) (.nm 3) (.rng3 (.cst (P.int (0))) (.bi .len (.var 2)) (.cst (P.int (2)))) .nil [3]))))
  .nil)))
  (.cons (.ret (.bi .tuple (.var 1)))
  .nil)))⟩
def f_page_check : Fn := ⟨1, 4, (.cons (.asg (.nm 1) (.comp (.var 3) (.tup [(.nm 2), (.nm 3)]) (.e (.call 18 (.cons (.var 0) .nil))) .nil [2, 3]))
  (.cons (.ret (.ife (.var 1) (.ix (.ix (.call 20 (.cons (.var 1) .nil)) (.neg (.cst (P.int (1))))) (.cst (P.int (0)))) (.cst (P.int (0)))))
  .nil))⟩
def f_row_proof : Fn := ⟨2, 8, (.cons (.par [(.nm 2), (.nm 3)] (.cons (.call 20 (.cons (.comp (.var 7) (.tup [(.nm 6), (.nm 7)]) (.e (.call 18 (.cons (.var 0) .nil))) .nil [6, 7]) .nil)) (.cons (.lst .nil) .nil)))
  (.cons (.loop (.nm 4) (.e (.sl (.var 2) .none (.some (.neg (.cst (P.int (1)))))))
    (.cons (.asg (.nm 5) (.ife (.cmp .eq (.bin .mod (.var 1) (.cst (P.int (2)))) (.cst (P.int (1)))) (.bin .sub (.var 1) (.cst (P.int (1)))) (.bin .add (.var 1) (.cst (P.int (1))))))
  (.cons (.ife (.cmp .lt (.var 5) (.bi .len (.var 4)))
    (.cons (.expr (.m1 .append (.var 3) (.tup (.cons (.ife (.cmp .lt (.var 5) (.var 1)) (.cst (P.int (0))) (.cst (P.int (1)))) (.cons (.ix (.var 4) (.var 5)) .nil)))))
  .nil)
    .nil)
  (.cons (.aug 1 .fdiv (.cst (P.int (2))))
  .nil))))
  (.cons (.ret (.bi .tuple (.var 3)))
  .nil)))⟩
def f_row_ok : Fn := ⟨4, 7, (.cons (.asg (.nm 4) (.call 6 (.cons (.bin .add (.call 3 (.cons (.var 1) .nil)) (.call 13 (.cons (.var 2) .nil))) .nil)))
  (.cons (.loop (.tup [(.nm 5), (.nm 6)]) (.e (.var 3))
    (.cons (.asg (.nm 4) (.ife (.cmp .eq (.var 5) (.cst (P.int (0)))) (.call 19 (.cons (.var 6) (.cons (.var 4) .nil))) (.call 19 (.cons (.var 4) (.cons (.var 6) .nil)))))
  .nil))
  (.cons (.ret (.cmp .eq (.var 4) (.var 0)))
  .nil)))⟩
def f_ink_counts : Fn := ⟨1, 5, (.cons (.asg (.nm 1) (.bi .sset (.comp (.var 3) (.tup [(.nm 2), (.nm 3)]) (.e (.var 0)) .nil [2, 3])))
  (.cons (.ret (.bi .tuple (.comp (.tup (.cons (.var 3) (.cons (.bi .len (.comp (.var 2) (.tup [(.nm 2), (.nm 4)]) (.e (.var 0)) (.cons (.cmp .eq (.var 4) (.var 3)) .nil) [2, 4])) .nil))) (.nm 3) (.e (.var 1)) .nil [3])))
  .nil))⟩
def f_patch_of : Fn := ⟨2, 6, (.cons (.par [(.nm 2), (.nm 3)] (.cons (.bi .dict (.var 0)) (.cons (.bi .dict (.var 1)) .nil)))
  (.cons (.asg (.nm 4) (.bi .sset (.bin .add (.bi .list (.var 2)) (.bi .list (.var 3)))))
  (.cons (.ret (.bi .tuple (.comp (.tup (.cons (.var 5) (.cons (.m2 .get (.var 2) (.var 5) (.cst (P.int (0)))) (.cons (.m2 .get (.var 3) (.var 5) (.cst (P.int (0)))) .nil)))) (.nm 5) (.e (.var 4)) (.cons (.cmp .ne (.m1 .get (.var 2) (.var 5)) (.m1 .get (.var 3) (.var 5))) .nil) [5])))
  .nil)))⟩
def f_patched : Fn := ⟨2, 6, (.cons (.asg (.nm 2) (.bi .dict (.var 0)))
  (.cons (.loop (.tup [(.nm 3), (.nm 4), (.nm 5)]) (.e (.var 1))
    (.cons (.ife (.cmp .ne (.m2 .get (.var 2) (.var 3) (.cst (P.int (0)))) (.var 4))
    (.cons (.ret (.cst P.non))
  .nil)
    .nil)
  (.cons (.ife (.cmp .eq (.var 5) (.cst (P.int (0))))
    (.cons (.delix (.var 2) (.var 3))
  .nil)
    (.cons (.setix (.var 2) (.var 3) (.var 5))
  .nil))
  .nil)))
  (.cons (.ret (.call 0 (.cons (.var 2) .nil)))
  .nil)))⟩
def f_patch_back : Fn := ⟨1, 4, (.cons (.ret (.bi .tuple (.comp (.tup (.cons (.var 1) (.cons (.var 3) (.cons (.var 2) .nil)))) (.tup [(.nm 1), (.nm 2), (.nm 3)]) (.e (.var 0)) .nil [1, 2, 3])))
  .nil)⟩
def f_patch_both : Fn := ⟨2, 7, (.cons (.par [(.nm 2), (.nm 3)] (.cons (.dcomp (.ix (.var 6) (.cst (P.int (0)))) (.var 6) (.nm 6) (.e (.var 0)) .nil [6]) (.cons (.dcomp (.ix (.var 6) (.cst (P.int (0)))) (.var 6) (.nm 6) (.e (.var 1)) .nil [6]) .nil)))
  (.cons (.asg (.nm 4) (.lst .nil))
  (.cons (.loop (.nm 5) (.e (.bi .sset (.bin .add (.bi .list (.var 2)) (.bi .list (.var 3)))))
    (.cons (.ife (.band (.cmp .inn (.var 5) (.var 2)) (.cmp .inn (.var 5) (.var 3)))
    (.cons (.ife (.cmp .ne (.ix (.ix (.var 2) (.var 5)) (.cst (P.int (2)))) (.ix (.ix (.var 3) (.var 5)) (.cst (P.int (1)))))
    (.cons (.ret (.cst P.non))
  .nil)
    .nil)
  (.cons (.ife (.cmp .ne (.ix (.ix (.var 2) (.var 5)) (.cst (P.int (1)))) (.ix (.ix (.var 3) (.var 5)) (.cst (P.int (2)))))
    (.cons (.expr (.m1 .append (.var 4) (.tup (.cons (.var 5) (.cons (.ix (.ix (.var 2) (.var 5)) (.cst (P.int (1)))) (.cons (.ix (.ix (.var 3) (.var 5)) (.cst (P.int (2)))) .nil))))))
  .nil)
    .nil)
  .nil))
    (.cons (.expr (.m1 .append (.var 4) (.m2 .get (.var 2) (.var 5) (.m1 .get (.var 3) (.var 5)))))
  .nil))
  .nil))
  (.cons (.ret (.bi .tuple (.var 4)))
  .nil))))⟩
def f_patch_bytes : Fn := ⟨1, 6, (.cons (.asg (.nm 1) (.call 1 (.cons (.bi .len (.var 0)) .nil)))
  (.cons (.loop (.tup [(.tup [(.nm 4), (.nm 5)]), (.nm 2), (.nm 3)]) (.e (.var 0))
    (.cons (.asg (.nm 1) (.bin .add (.bin .add (.bin .add (.var 1) (.call 3 (.cons (.var 4) .nil))) (.call 3 (.cons (.var 5) .nil))) (.tup (.cons (.bin .add (.bin .mul (.var 2) (.bin .add (.cst (P.int (4))) (.cst (P.int (1))))) (.var 3)) .nil))))
  .nil))
  (.cons (.ret (.bin .add (.var 1) (.call 7 (.cons (.var 1) .nil))))
  .nil)))⟩
def f_read_patch : Fn := ⟨1, 12, (.cons (.asg (.tup [(.nm 1), (.nm 2)]) (.call 2 (.cons (.var 0) (.cons (.cst (P.int (0))) .nil))))
  (.cons (.asg (.nm 3) (.lst .nil))
  (.cons (.loop (.nm 4) (.rng1 (.bi2 .min (.var 1) (.bi .len (.var 0))))
    (.cons (.asg (.tup [(.nm 5), (.nm 2)]) (.call 4 (.cons (.var 0) (.cons (.var 2) .nil))))
  (.cons (.asg (.tup [(.nm 6), (.nm 2)]) (.call 4 (.cons (.var 0) (.cons (.var 2) .nil))))
  (.cons (.ife (.cmp .ge (.var 2) (.bi .len (.var 0)))
    (.cons .never
  .nil)
    .nil)
  (.cons (.expr (.m1 .append (.var 3) (.tup (.cons (.tup (.cons (.var 5) (.cons (.var 6) .nil))) (.cons (.bin .fdiv (.ix (.var 0) (.var 2)) (.bin .add (.cst (P.int (4))) (.cst (P.int (1))))) (.cons (.bin .mod (.ix (.var 0) (.var 2)) (.bin .add (.cst (P.int (4))) (.cst (P.int (1))))) .nil))))))
  (.cons (.aug 2 .add (.cst (P.int (1))))
  .nil))))))
  (.cons (.asg (.nm 7) (.bi .tuple (.var 3)))
  (.cons (.asg (.nm 8) (.bi .all (.comp (.cmp .lt (.ix (.ix (.var 7) (.var 10)) (.cst (P.int (0)))) (.ix (.ix (.var 7) (.bin .add (.var 10) (.cst (P.int (1))))) (.cst (P.int (0))))) (.nm 10) (.rng1 (.bin .sub (.bi .len (.var 7)) (.cst (P.int (1))))) .nil [10])))
  (.cons (.asg (.nm 9) (.bi .all (.comp (.band (.cmp .ne (.ix (.var 11) (.cst (P.int (1)))) (.ix (.var 11) (.cst (P.int (2))))) (.cmp .le (.ix (.var 11) (.cst (P.int (1)))) (.cst (P.int (4))))) (.nm 11) (.e (.var 7)) .nil [11])))
  (.cons (.ife (.bor (.bnot (.var 8)) (.bor (.bnot (.var 9)) (.bor (.cmp .ne (.bi .len (.var 7)) (.var 1)) (.cmp .ne (.call 29 (.cons (.var 7) .nil)) (.var 0)))))
    (.cons .never
  .nil)
    .nil)
  (.cons (.ret (.var 7))
  .nil))))))))⟩
def f_law_mixed : Fn := ⟨2, 6, (.cons (.asg (.nm 2) (.cst (P.int (0))))
  (.cons (.ife (.cmp .gt (.bi .len (.var 0)) (.cst (P.int (0))))
    (.cons (.asg (.nm 2) (.ix (.var 0) (.bin .mod (.var 1) (.bi .len (.var 0)))))
  .nil)
    .nil)
  (.cons (.asg (.nm 3) (.bin .mod (.bi .int (.bin .add (.bin .add (.bin .mul (.var 2) (.cst (P.int (48271)))) (.bin .mul (.var 1) (.cst (P.int (69621))))) (.cst (P.int (8191))))) (.cst (P.int (2147483647)))))
  (.cons (.asg (.nm 4) (.bin .mod (.bi .int (.bin .add (.bin .add (.bin .mul (.var 3) (.var 3)) (.bin .fdiv (.var 3) (.cst (P.int (7))))) (.bin .mul (.var 1) (.cst (P.int (16807)))))) (.cst (P.int (2147483629)))))
  (.cons (.asg (.nm 5) (.bin .mod (.bi .int (.bin .add (.bin .add (.bin .mul (.var 4) (.var 4)) (.bin .fdiv (.var 4) (.cst (P.int (11))))) (.cst (P.int (40692))))) (.cst (P.int (2147483563)))))
  (.cons (.ret (.bin .mod (.bin .fdiv (.var 5) (.cst (P.int (5)))) (.cst (P.int (1000003)))))
  .nil))))))⟩
def f_law_row : Fn := ⟨2, 5, (.cons (.asg (.nm 2) (.cst (P.int (0))))
  (.cons (.ife (.band (.cmp .gt (.bi .len (.var 0)) (.cst (P.int (0)))) (.cmp .ge (.ix (.var 0) (.cst (P.int (0)))) (.bin .pow (.cst (P.int (10))) (.cst (P.int (18))))))
    (.cons (.asg (.nm 2) (.ix (.var 0) (.cst (P.int (0)))))
  .nil)
    .nil)
  (.cons (.asg (.nm 3) (.lst .nil))
  (.cons (.loop (.nm 4) (.rng1 (.var 1))
    (.cons (.ife (.cmp .gt (.var 2) (.cst (P.int (0))))
    (.cons (.expr (.m1 .append (.var 3) (.bin .mod (.bi .int (.var 2)) (.cst (P.int (1000))))))
  (.cons (.asg (.nm 2) (.bin .fdiv (.var 2) (.cst (P.int (1000)))))
  .nil))
    (.cons (.expr (.m1 .append (.var 3) (.call 31 (.cons (.var 0) (.cons (.var 4) .nil)))))
  .nil))
  .nil))
  (.cons (.ret (.var 3))
  .nil)))))⟩
def f_law_is_int : Fn := ⟨1, 1, (.cons (.ret (.band (.bi (.isa .int) (.var 0)) (.bnot (.bi (.isa .bool) (.var 0)))))
  .nil)⟩
def f_law_like : Fn := ⟨2, 3, (.cons (.ife (.cmp .is (.var 1) (.cst P.non))
    (.cons (.ret (.cmp .is (.var 0) (.cst P.non)))
  .nil)
    .nil)
  (.cons (.ife (.bi (.isa .bool) (.var 1))
    (.cons (.ret (.band (.bi (.isa .bool) (.var 0)) (.cmp .eq (.var 0) (.var 1))))
  .nil)
    .nil)
  (.cons (.ife (.bi (.isa .tuple) (.var 1))
    (.cons (.ife (.bor (.bnot (.bi (.isa .tuple) (.var 0))) (.cmp .ne (.bi .len (.var 0)) (.bi .len (.var 1))))
    (.cons (.ret (.cst (P.bl false)))
  .nil)
    .nil)
  (.cons (.ret (.bi .all (.comp (.call 34 (.cons (.ix (.var 0) (.var 2)) (.cons (.ix (.var 1) (.var 2)) .nil))) (.nm 2) (.rng1 (.bi .len (.var 1))) .nil [2])))
  .nil))
    .nil)
  (.cons (.ife (.bi (.isa .str) (.var 1))
    (.cons (.ret (.band (.bi (.isa .str) (.var 0)) (.cmp .eq (.var 0) (.var 1))))
  .nil)
    .nil)
  (.cons (.ret (.band (.call 33 (.cons (.var 0) .nil)) (.cmp .eq (.var 0) (.var 1))))
  .nil)))))⟩
def f_law_pick : Fn := ⟨2, 4, (.cons (.par [(.nm 2), (.nm 3)] (.cons (.ix (.var 0) (.cst (P.int (0)))) (.cons (.ix (.var 0) (.cst (P.int (1)))) .nil)))
  (.cons (.setix (.var 0) (.cst (P.int (1))) (.bin .add (.var 3) (.cst (P.int (1)))))
  (.cons (.ret (.bin .mod (.bin .fdiv (.bi .int (.ix (.var 2) (.bin .mod (.bi .int (.var 3)) (.bi .len (.var 2))))) (.bin .add (.cst (P.int (1))) (.bin .fdiv (.var 3) (.bi .len (.var 2))))) (.var 1)))
  .nil)))⟩
def f_law_rows : Fn := ⟨1, 7, (.cons (.par [(.nm 1), (.nm 2)] (.cons (.lst .nil) (.cons (.bin .sub (.call 35 (.cons (.var 0) (.cons (.cst (P.int (200))) .nil))) (.cst (P.int (100)))) .nil)))
  (.cons (.loop (.nm 3) (.rng1 (.bin .add (.cst (P.int (2))) (.call 35 (.cons (.var 0) (.cons (.cst (P.int (6))) .nil)))))
    (.cons (.par [(.nm 4), (.nm 5)] (.cons (.lst .nil) (.cons (.bin .sub (.call 35 (.cons (.var 0) (.cons (.cst (P.int (40))) .nil))) (.cst (P.int (20)))) .nil)))
  (.cons (.loop (.nm 6) (.rng1 (.bin .add (.cst (P.int (1))) (.call 35 (.cons (.var 0) (.cons (.cst (P.int (4))) .nil)))))
    (.cons (.expr (.m1 .append (.var 4) (.tup (.cons (.var 5) (.cons (.bin .add (.cst (P.int (1))) (.call 35 (.cons (.var 0) (.cons (.cst (P.int (4))) .nil)))) .nil)))))
  (.cons (.asg (.nm 5) (.bin .add (.var 5) (.ix (.tup (.cons (.cst (P.int (1))) (.cons (.cst (P.int (1))) (.cons (.cst (P.int (2))) (.cons (.cst (P.int (3))) (.cons (.cst (P.int (70))) .nil)))))) (.call 35 (.cons (.var 0) (.cons (.cst (P.int (5))) .nil))))))
  .nil)))
  (.cons (.expr (.m1 .append (.var 1) (.tup (.cons (.var 2) (.cons (.bi .tuple (.var 4)) .nil)))))
  (.cons (.asg (.nm 2) (.bin .add (.var 2) (.ix (.tup (.cons (.cst (P.int (1))) (.cons (.cst (P.int (1))) (.cons (.cst (P.int (2))) (.cons (.cst (P.int (5))) (.cons (.cst (P.int (140))) .nil)))))) (.call 35 (.cons (.var 0) (.cons (.cst (P.int (5))) .nil))))))
  .nil)))))
  (.cons (.ret (.bi .tuple (.var 1)))
  .nil)))⟩
def f_law_print : Fn := ⟨1, 5, (.cons (.asg (.nm 1) (.lst .nil))
  (.cons (.loop (.tup [(.nm 2), (.nm 3)]) (.e (.var 0))
    (.cons (.expr (.m1 .extend (.var 1) (.comp (.tup (.cons (.tup (.cons (.ix (.var 4) (.cst (P.int (0)))) (.cons (.var 2) .nil))) (.cons (.ix (.var 4) (.cst (P.int (1)))) .nil))) (.nm 4) (.e (.var 3)) .nil [4])))
  .nil))
  (.cons (.ret (.bi .tuple (.bi .sorted (.var 1))))
  .nil)))⟩
def f_law_counts : Fn := ⟨1, 4, (.cons (.asg (.nm 1) (.comp (.ix (.var 2) (.cst (P.int (1)))) (.nm 2) (.e (.var 0)) .nil [2]))
  (.cons (.ret (.bi .tuple (.comp (.tup (.cons (.var 3) (.cons (.m1 .count (.var 1) (.var 3)) .nil))) (.nm 3) (.e (.tup (.cons (.cst (P.int (1))) (.cons (.cst (P.int (2))) (.cons (.cst (P.int (3))) (.cons (.cst (P.int (4))) .nil)))))) (.cons (.cmp .inn (.var 3) (.var 1)) .nil) [3])))
  .nil))⟩
def f_law_is_check : Fn := ⟨1, 1, (.cons (.ret (.band (.call 33 (.cons (.var 0) .nil)) (.chain .le .lt (.cst (P.int (0))) (.var 0) (.cst (P.int (65536))))))
  .nil)⟩
def f_law_proof_right : Fn := ⟨2, 3, (.cons (.ife (.bor (.bnot (.bi (.isa .tuple) (.var 0))) (.cmp .ne (.bi .len (.var 0)) (.var 1)))
    (.cons (.ret (.cst (P.bl false)))
  .nil)
    .nil)
  (.cons (.loop (.nm 2) (.e (.var 0))
    (.cons (.ife (.bor (.bnot (.bi (.isa .tuple) (.var 2))) (.bor (.cmp .ne (.bi .len (.var 2)) (.cst (P.int (2)))) (.bor (.bnot (.call 33 (.cons (.ix (.var 2) (.cst (P.int (0)))) .nil))) (.cmp .nin (.ix (.var 2) (.cst (P.int (0)))) (.tup (.cons (.cst (P.int (0))) (.cons (.cst (P.int (1))) .nil)))))))
    (.cons (.ret (.cst (P.bl false)))
  .nil)
    .nil)
  (.cons (.ife (.bnot (.call 39 (.cons (.ix (.var 2) (.cst (P.int (1)))) .nil)))
    (.cons (.ret (.cst (P.bl false)))
  .nil)
    .nil)
  .nil)))
  (.cons (.ret (.cst (P.bl true)))
  .nil)))⟩
def f_law_height : Fn := ⟨2, 4, (.cons (.asg (.nm 2) (.cst (P.int (0))))
  (.cons (.loop (.nm 3) (.rng1 (.cst (P.int (40))))
    (.cons (.ife (.bnot (.cmp .gt (.var 0) (.cst (P.int (1)))))
    (.cons .brk
  .nil)
    .nil)
  (.cons (.ife (.bor (.cmp .eq (.bin .mod (.var 1) (.cst (P.int (2)))) (.cst (P.int (1)))) (.cmp .lt (.bin .add (.var 1) (.cst (P.int (1)))) (.var 0)))
    (.cons (.asg (.nm 2) (.bin .add (.var 2) (.cst (P.int (1)))))
  .nil)
    .nil)
  (.cons (.par [(.nm 0), (.nm 1)] (.cons (.bin .fdiv (.bin .add (.var 0) (.cst (P.int (1)))) (.cst (P.int (2)))) (.cons (.bin .fdiv (.var 1) (.cst (P.int (2)))) .nil)))
  .nil))))
  (.cons (.ret (.var 2))
  .nil)))⟩
def f_law_other_row : Fn := ⟨6, 12, (.cons (.par [(.nm 6), (.nm 7), (.nm 8)] (.cons (.call 22 (.cons (.var 0) (.cons (.var 4) .nil))) (.cons (.call 22 (.cons (.var 1) (.cons (.var 4) .nil))) (.cons (.call 41 (.cons (.var 5) (.cons (.var 4) .nil))) .nil))))
  (.cons (.ife (.bor (.bnot (.call 40 (.cons (.var 6) (.cons (.var 8) .nil)))) (.bnot (.call 40 (.cons (.var 7) (.cons (.var 8) .nil)))))
    (.cons (.ret (.cst (P.bl false)))
  .nil)
    .nil)
  (.cons (.ife (.cmp .ne (.comp (.ix (.var 10) (.cst (P.int (0)))) (.nm 10) (.e (.var 6)) .nil [10]) (.comp (.ix (.var 10) (.cst (P.int (0)))) (.nm 10) (.e (.var 7)) .nil [10]))
    (.cons (.ret (.cst (P.bl false)))
  .nil)
    .nil)
  (.cons (.ife (.cmp .ne (.bi .len (.comp (.var 11) (.nm 11) (.rng1 (.var 8)) (.cons (.cmp .ne (.ix (.ix (.var 6) (.var 11)) (.cst (P.int (1)))) (.ix (.ix (.var 7) (.var 11)) (.cst (P.int (1))))) .nil) [11])) (.cst (P.int (1))))
    (.cons (.ret (.cst (P.bl false)))
  .nil)
    .nil)
  (.cons (.asg (.nm 9) (.lst (.cons (.call 23 (.cons (.ix (.var 2) (.cst (P.int (0)))) (.cons (.ix (.var 3) (.cst (P.int (0)))) (.cons (.ix (.var 3) (.cst (P.int (1)))) (.cons (.var 6) .nil))))) (.cons (.call 23 (.cons (.ix (.var 2) (.cst (P.int (1)))) (.cons (.ix (.var 3) (.cst (P.int (0)))) (.cons (.ix (.var 3) (.cst (P.int (1)))) (.cons (.var 7) .nil))))) .nil))))
  (.cons (.expr (.m1 .extend (.var 9) (.lst (.cons (.call 23 (.cons (.ix (.var 2) (.cst (P.int (1)))) (.cons (.ix (.var 3) (.cst (P.int (0)))) (.cons (.ix (.var 3) (.cst (P.int (1)))) (.cons (.var 6) .nil))))) (.cons (.call 23 (.cons (.ix (.var 2) (.cst (P.int (0)))) (.cons (.ix (.var 3) (.cst (P.int (0)))) (.cons (.ix (.var 3) (.cst (P.int (1)))) (.cons (.var 7) .nil))))) .nil)))))
  (.cons (.ret (.call 34 (.cons (.bi .tuple (.var 9)) (.cons (.tup (.cons (.cst (P.bl true)) (.cons (.cst (P.bl true)) (.cons (.cst (P.bl false)) (.cons (.cst (P.bl false)) .nil))))) .nil))))
  .nil)))))))⟩
def f_law_own_row : Fn := ⟨7, 9, (.cons (.asg (.nm 7) (.call 22 (.cons (.var 0) (.cons (.var 5) .nil))))
  (.cons (.ife (.bor (.bnot (.call 40 (.cons (.var 7) (.cons (.call 41 (.cons (.var 6) (.cons (.var 5) .nil))) .nil)))) (.bnot (.call 34 (.cons (.call 22 (.cons (.var 1) (.cons (.var 5) .nil))) (.cons (.var 7) .nil)))))
    (.cons (.ret (.cst (P.bl false)))
  .nil)
    .nil)
  (.cons (.asg (.nm 8) (.lst (.cons (.call 23 (.cons (.ix (.var 2) (.cst (P.int (0)))) (.cons (.ix (.var 3) (.cst (P.int (0)))) (.cons (.ix (.var 3) (.cst (P.int (1)))) (.cons (.var 7) .nil))))) (.cons (.call 23 (.cons (.ix (.var 2) (.cst (P.int (1)))) (.cons (.ix (.var 4) (.cst (P.int (0)))) (.cons (.ix (.var 4) (.cst (P.int (1)))) (.cons (.var 7) .nil))))) .nil))))
  (.cons (.expr (.m1 .extend (.var 8) (.lst (.cons (.call 23 (.cons (.ix (.var 2) (.cst (P.int (1)))) (.cons (.ix (.var 3) (.cst (P.int (0)))) (.cons (.ix (.var 3) (.cst (P.int (1)))) (.cons (.var 7) .nil))))) (.cons (.call 23 (.cons (.ix (.var 2) (.cst (P.int (0)))) (.cons (.ix (.var 4) (.cst (P.int (0)))) (.cons (.ix (.var 4) (.cst (P.int (1)))) (.cons (.var 7) .nil))))) .nil)))))
  (.cons (.ret (.call 34 (.cons (.bi .tuple (.var 8)) (.cons (.tup (.cons (.cst (P.bl true)) (.cons (.cst (P.bl true)) (.cons (.cst (P.bl false)) (.cons (.cst (P.bl false)) .nil))))) .nil))))
  .nil)))))⟩
def f_law_deed_right : Fn := ⟨3, 11, (.cons (.par [(.nm 3), (.nm 4), (.nm 5)] (.cons (.call 37 (.cons (.var 0) .nil)) (.cons (.call 37 (.cons (.var 1) .nil)) (.cons (.bi .len (.var 0)) .nil))))
  (.cons (.asg (.nm 6) (.tup (.cons (.call 21 (.cons (.var 3) .nil)) (.cons (.call 21 (.cons (.var 4) .nil)) .nil))))
  (.cons (.ife (.bor (.bnot (.call 39 (.cons (.ix (.var 6) (.cst (P.int (0)))) .nil))) (.bor (.bnot (.call 39 (.cons (.ix (.var 6) (.cst (P.int (1)))) .nil))) (.cmp .eq (.ix (.var 6) (.cst (P.int (0)))) (.ix (.var 6) (.cst (P.int (1)))))))
    (.cons (.ret (.cst (P.bl false)))
  .nil)
    .nil)
  (.cons (.par [(.nm 7), (.nm 8)] (.cons (.call 18 (.cons (.var 3) .nil)) (.cons (.call 18 (.cons (.var 4) .nil)) .nil)))
  (.cons (.ife (.bor (.bnot (.bi (.isa .tuple) (.var 7))) (.bor (.cmp .ne (.bi .len (.var 7)) (.var 5)) (.bor (.bnot (.bi (.isa .tuple) (.var 8))) (.cmp .ne (.bi .len (.var 8)) (.var 5)))))
    (.cons (.ret (.cst (P.bl false)))
  .nil)
    .nil)
  (.cons (.loop (.nm 9) (.rng1 (.var 5))
    (.cons (.ife (.bor (.cmp .ne (.ix (.ix (.var 7) (.var 9)) (.cst (P.int (0)))) (.ix (.ix (.var 0) (.var 9)) (.cst (P.int (0))))) (.bor (.cmp .ne (.ix (.ix (.var 8) (.var 9)) (.cst (P.int (0)))) (.ix (.ix (.var 0) (.var 9)) (.cst (P.int (0))))) (.bnot (.call 39 (.cons (.ix (.ix (.var 7) (.var 9)) (.cst (P.int (1)))) .nil)))))
    (.cons (.ret (.cst (P.bl false)))
  .nil)
    .nil)
  (.cons (.ife (.cmp .ne (.cmp .ne (.ix (.ix (.var 7) (.var 9)) (.cst (P.int (1)))) (.ix (.ix (.var 8) (.var 9)) (.cst (P.int (1))))) (.cmp .eq (.var 9) (.var 2)))
    (.cons (.ret (.cst (P.bl false)))
  .nil)
    .nil)
  (.cons (.ife (.band (.cmp .ne (.var 9) (.var 2)) (.bnot (.call 42 (.cons (.var 3) (.cons (.var 4) (.cons (.var 6) (.cons (.ix (.var 0) (.var 9)) (.cons (.var 9) (.cons (.var 5) .nil)))))))))
    (.cons (.ret (.cst (P.bl false)))
  .nil)
    .nil)
  .nil))))
  (.cons (.ife (.bnot (.call 43 (.cons (.var 3) (.cons (.var 4) (.cons (.var 6) (.cons (.ix (.var 0) (.var 2)) (.cons (.ix (.var 1) (.var 2)) (.cons (.var 2) (.cons (.var 5) .nil)))))))))
    (.cons (.ret (.cst (P.bl false)))
  .nil)
    .nil)
  (.cons (.asg (.nm 10) (.call 16 (.cons (.var 4) .nil)))
  (.cons (.ife (.bor (.bnot (.bi (.isa .tuple) (.var 10))) (.bor (.cmp .eq (.var 10) (.call 16 (.cons (.var 3) .nil))) (.bnot (.call 34 (.cons (.call 17 (.cons (.var 10) .nil)) (.cons (.var 4) .nil))))))
    (.cons (.ret (.cst (P.bl false)))
  .nil)
    .nil)
  (.cons (.ret (.call 34 (.cons (.call 24 (.cons (.var 4) .nil)) (.cons (.call 38 (.cons (.var 4) .nil)) .nil))))
  .nil))))))))))⟩
def f_law : Fn := ⟨1, 23, (.cons (.asg (.nm 1) (.lst (.cons (.call 32 (.cons (.var 0) (.cons (.cst (P.int (80))) .nil))) (.cons (.cst (P.int (0))) .nil))))
  (.cons (.asg (.nm 2) (.call 36 (.cons (.var 1) .nil)))
  (.cons (.par [(.nm 3), (.nm 4), (.nm 5), (.nm 6)] (.cons (.call 37 (.cons (.var 2) .nil)) (.cons (.var 2) (.cons (.tup .nil) (.cons (.cst P.non) .nil)))))
  (.cons (.loop (.nm 7) (.rng1 (.cst (P.int (4))))
    (.cons (.asg (.nm 8) (.call 35 (.cons (.var 1) (.cons (.bi .len (.var 2)) .nil))))
  (.cons (.par [(.nm 9), (.nm 10)] (.cons (.call 35 (.cons (.var 1) (.cons (.bi .len (.ix (.ix (.var 2) (.var 8)) (.cst (P.int (1))))) .nil))) (.cons (.call 35 (.cons (.var 1) (.cons (.cst (P.int (3))) .nil))) .nil)))
  (.cons (.ife (.cmp .eq (.var 7) (.cst (P.int (0))))
    (.cons (.asg (.nm 6) (.tup (.cons (.var 8) (.cons (.var 9) .nil))))
  .nil)
    .nil)
  (.cons (.ife (.cmp .eq (.var 7) (.cst (P.int (3))))
    (.cons (.par [(.nm 8), (.nm 9)] (.cons (.ix (.var 6) (.cst (P.int (0)))) (.cons (.ix (.var 6) (.cst (P.int (1)))) .nil)))
  .nil)
    .nil)
  (.cons (.par [(.nm 11), (.nm 12)] (.cons (.ix (.ix (.var 4) (.var 8)) (.cst (P.int (0)))) (.cons (.ix (.ix (.var 4) (.var 8)) (.cst (P.int (1)))) .nil)))
  (.cons (.par [(.nm 13), (.nm 14)] (.cons (.ix (.ix (.var 12) (.var 9)) (.cst (P.int (0)))) (.cons (.ix (.ix (.var 12) (.var 9)) (.cst (P.int (1)))) .nil)))
  (.cons (.asg (.nm 15) (.bin .add (.bin .mod (.bi .int (.bin .add (.var 14) (.var 10))) (.cst (P.int (4)))) (.cst (P.int (1)))))
  (.cons (.ife (.cmp .eq (.var 7) (.cst (P.int (3))))
    (.cons (.asg (.nm 15) (.ix (.ix (.ix (.ix (.var 2) (.var 8)) (.cst (P.int (1)))) (.var 9)) (.cst (P.int (1)))))
  .nil)
    .nil)
  (.cons (.ife (.cmp .ne (.var 15) (.var 14))
    (.cons (.asg (.nm 16) (.bin .add (.bin .add (.sl (.var 4) .none (.some (.var 8))) (.tup (.cons (.tup (.cons (.var 11) (.cons (.bin .add (.bin .add (.sl (.var 12) .none (.some (.var 9))) (.tup (.cons (.tup (.cons (.var 13) (.cons (.var 15) .nil))) .nil))) (.sl (.var 12) (.some (.bin .add (.var 9) (.cst (P.int (1))))) .none)) .nil))) .nil))) (.sl (.var 4) (.some (.bin .add (.var 8) (.cst (P.int (1))))) .none)))
  (.cons (.par [(.nm 17), (.nm 18)] (.cons (.call 37 (.cons (.var 4) .nil)) (.cons (.tup (.cons (.tup (.cons (.tup (.cons (.var 13) (.cons (.var 11) .nil))) (.cons (.var 14) (.cons (.var 15) .nil)))) .nil)) .nil)))
  (.cons (.ife (.bor (.cmp .isn (.call 26 (.cons (.var 17) (.cons (.tup (.cons (.tup (.cons (.tup (.cons (.var 13) (.cons (.var 11) .nil))) (.cons (.cst (P.int (0))) (.cons (.var 15) .nil)))) .nil)) .nil))) (.cst P.non)) (.cmp .isn (.call 26 (.cons (.var 17) (.cons (.tup (.cons (.tup (.cons (.tup (.cons (.var 13) (.cons (.var 11) .nil))) (.cons (.var 15) (.cons (.var 14) .nil)))) .nil)) .nil))) (.cst P.non)))
    (.cons (.ret (.cst (P.bl false)))
  .nil)
    .nil)
  (.cons (.ife (.bor (.bnot (.call 34 (.cons (.call 26 (.cons (.var 17) (.cons (.var 18) .nil))) (.cons (.call 37 (.cons (.var 16) .nil)) .nil)))) (.bnot (.call 44 (.cons (.var 4) (.cons (.var 16) (.cons (.var 8) .nil))))))
    (.cons (.ret (.cst (P.bl false)))
  .nil)
    .nil)
  (.cons (.par [(.nm 5), (.nm 4)] (.cons (.call 28 (.cons (.var 5) (.cons (.var 18) .nil))) (.cons (.var 16) .nil)))
  .nil)))))
    .nil)
  .nil))))))))))
  (.cons (.asg (.nm 19) (.call 37 (.cons (.var 4) .nil)))
  (.cons (.asg (.nm 20) (.bi .tuple (.comp (.tup (.cons (.ix (.ix (.var 19) (.var 22)) (.cst (P.int (0)))) (.cons (.ix (.ix (.var 3) (.var 22)) (.cst (P.int (1)))) (.cons (.ix (.ix (.var 19) (.var 22)) (.cst (P.int (1)))) .nil)))) (.nm 22) (.rng1 (.bi .len (.var 19))) (.cons (.cmp .ne (.ix (.ix (.var 19) (.var 22)) (.cst (P.int (1)))) (.ix (.ix (.var 3) (.var 22)) (.cst (P.int (1))))) .nil) [22])))
  (.cons (.ife (.bor (.bnot (.call 34 (.cons (.var 5) (.cons (.var 20) .nil)))) (.bnot (.call 34 (.cons (.call 25 (.cons (.var 3) (.cons (.var 19) .nil))) (.cons (.var 20) .nil)))))
    (.cons (.ret (.cst (P.bl false)))
  .nil)
    .nil)
  (.cons (.ife (.bnot (.call 34 (.cons (.call 30 (.cons (.call 29 (.cons (.var 5) .nil)) .nil)) (.cons (.var 20) .nil))))
    (.cons (.ret (.cst (P.bl false)))
  .nil)
    .nil)
  (.cons (.asg (.nm 21) (.call 26 (.cons (.var 19) (.cons (.call 27 (.cons (.var 5) .nil)) .nil))))
  (.cons (.ret (.band (.call 34 (.cons (.var 21) (.cons (.var 3) .nil))) (.call 34 (.cons (.call 21 (.cons (.var 21) .nil)) (.cons (.call 21 (.cons (.var 3) .nil)) .nil)))))
  .nil))))))))))⟩

def tab : List Fn := [f_picture, f_number_bytes, f_read_number, f_signed_bytes, f_read_signed, f_sum_after, f_sum_of, f_sum_bytes, f_is_bytes, f_rows_of, f_rows_print, f_row_diff, f_row_after, f_cells_bytes, f_read_cells, f_row_bytes, f_packed_page, f_read_packed, f_row_sums, f_pair_sum, f_levels_of, f_page_check, f_row_proof, f_row_ok, f_ink_counts, f_patch_of, f_patched, f_patch_back, f_patch_both, f_patch_bytes, f_read_patch, f_law_mixed, f_law_row, f_law_is_int, f_law_like, f_law_pick, f_law_rows, f_law_print, f_law_counts, f_law_is_check, f_law_proof_right, f_law_height, f_law_other_row, f_law_own_row, f_law_deed_right, f_law]
theorem at_picture : tab[(0 : Nat)]? = some f_picture := rfl
theorem at_number_bytes : tab[(1 : Nat)]? = some f_number_bytes := rfl
theorem at_read_number : tab[(2 : Nat)]? = some f_read_number := rfl
theorem at_signed_bytes : tab[(3 : Nat)]? = some f_signed_bytes := rfl
theorem at_read_signed : tab[(4 : Nat)]? = some f_read_signed := rfl
theorem at_sum_after : tab[(5 : Nat)]? = some f_sum_after := rfl
theorem at_sum_of : tab[(6 : Nat)]? = some f_sum_of := rfl
theorem at_sum_bytes : tab[(7 : Nat)]? = some f_sum_bytes := rfl
theorem at_is_bytes : tab[(8 : Nat)]? = some f_is_bytes := rfl
theorem at_rows_of : tab[(9 : Nat)]? = some f_rows_of := rfl
theorem at_rows_print : tab[(10 : Nat)]? = some f_rows_print := rfl
theorem at_row_diff : tab[(11 : Nat)]? = some f_row_diff := rfl
theorem at_row_after : tab[(12 : Nat)]? = some f_row_after := rfl
theorem at_cells_bytes : tab[(13 : Nat)]? = some f_cells_bytes := rfl
theorem at_read_cells : tab[(14 : Nat)]? = some f_read_cells := rfl
theorem at_row_bytes : tab[(15 : Nat)]? = some f_row_bytes := rfl
theorem at_packed_page : tab[(16 : Nat)]? = some f_packed_page := rfl
theorem at_read_packed : tab[(17 : Nat)]? = some f_read_packed := rfl
theorem at_row_sums : tab[(18 : Nat)]? = some f_row_sums := rfl
theorem at_pair_sum : tab[(19 : Nat)]? = some f_pair_sum := rfl
theorem at_levels_of : tab[(20 : Nat)]? = some f_levels_of := rfl
theorem at_page_check : tab[(21 : Nat)]? = some f_page_check := rfl
theorem at_row_proof : tab[(22 : Nat)]? = some f_row_proof := rfl
theorem at_row_ok : tab[(23 : Nat)]? = some f_row_ok := rfl
theorem at_ink_counts : tab[(24 : Nat)]? = some f_ink_counts := rfl
theorem at_patch_of : tab[(25 : Nat)]? = some f_patch_of := rfl
theorem at_patched : tab[(26 : Nat)]? = some f_patched := rfl
theorem at_patch_back : tab[(27 : Nat)]? = some f_patch_back := rfl
theorem at_patch_both : tab[(28 : Nat)]? = some f_patch_both := rfl
theorem at_patch_bytes : tab[(29 : Nat)]? = some f_patch_bytes := rfl
theorem at_read_patch : tab[(30 : Nat)]? = some f_read_patch := rfl
theorem at_law_mixed : tab[(31 : Nat)]? = some f_law_mixed := rfl
theorem at_law_row : tab[(32 : Nat)]? = some f_law_row := rfl
theorem at_law_is_int : tab[(33 : Nat)]? = some f_law_is_int := rfl
theorem at_law_like : tab[(34 : Nat)]? = some f_law_like := rfl
theorem at_law_pick : tab[(35 : Nat)]? = some f_law_pick := rfl
theorem at_law_rows : tab[(36 : Nat)]? = some f_law_rows := rfl
theorem at_law_print : tab[(37 : Nat)]? = some f_law_print := rfl
theorem at_law_counts : tab[(38 : Nat)]? = some f_law_counts := rfl
theorem at_law_is_check : tab[(39 : Nat)]? = some f_law_is_check := rfl
theorem at_law_proof_right : tab[(40 : Nat)]? = some f_law_proof_right := rfl
theorem at_law_height : tab[(41 : Nat)]? = some f_law_height := rfl
theorem at_law_other_row : tab[(42 : Nat)]? = some f_law_other_row := rfl
theorem at_law_own_row : tab[(43 : Nat)]? = some f_law_own_row := rfl
theorem at_law_deed_right : tab[(44 : Nat)]? = some f_law_deed_right := rfl
theorem at_law : tab[(45 : Nat)]? = some f_law := rfl
end PyI
set_option linter.all false
set_option maxRecDepth 100000
namespace PyX
open PyI
open PySem (Str)

/-! numbers as bytes -/
def numB (n : Nat) : List Nat := if h : n < 128 then [n] else (n % 128 + 128) :: numB (n / 128)
abbrev eN (l : List Nat) : P := .tup (l.map fun b => P.int (b : Nat))
abbrev dN (l : List Nat) : List D := l.map fun b => .p (.int (b : Nat))
theorem numB_lt {n : Nat} (h : n < 128) : numB n = [n] := by rw [numB, dif_pos h]
theorem numB_ge {n : Nat} (h : ¬ n < 128) : numB n = (n % 128 + 128) :: numB (n / 128) := by
  conv => lhs; rw [numB]
  rw [dif_neg h]
theorem numB_256 : ∀ {n b : Nat}, b ∈ numB n → b < 256 := by
  intro n
  induction n using Nat.strongRecOn with
  | _ n ih =>
    intro b hb
    by_cases h : n < 128
    · rw [numB_lt h] at hb
      have := List.mem_singleton.mp hb
      omega
    · rw [numB_ge h] at hb
      rcases List.mem_cons.mp hb with hb | hb
      · omega
      · exact ih (n / 128) (by omega) hb
theorem numB_len {n : Nat} (h : n < 2097152) : 1 ≤ (numB n).length ∧ (numB n).length ≤ 3 := by
  by_cases h1 : n < 128
  · rw [numB_lt h1]; simp
  · rw [numB_ge h1]
    by_cases h2 : n / 128 < 128
    · rw [numB_lt h2]; simp
    · rw [numB_ge h2, numB_lt (by omega)]; simp
theorem r_number_bytes (n : Nat) {k : Nat} {S : Sto} (hn : n < 1000000) : run tab (k + 1) 1 [.p (.int n)] S = some (.p (eN (numB n)), S) := by
  refine run_W at_number_bytes rfl ?_
  unfold f_number_bytes
  simp! only [start]
  refine W_sq ?_
  refine W_while (fun m e S' => ∃ (v : Nat) (out : List Nat), v = m ∧ out.length + v ≤ n ∧ e = [some (.p (.int v)), some (.ref S.length)] ∧ S' = S ++ [.lst (dN out)] ∧ out ++ numB v = numB n) (fun m e S' ⟨v, out, h1, h2, h3, h4, h5⟩ => ?_) n ⟨n, [], rfl, by simp, rfl, rfl, rfl⟩
  subst h1 h3 h4
  have hl : out.length < LINE := by show _ < 16777216; omega
  by_cases hv : v < 128
  · have e1 : decide ((v : Int) < 128) = true := by simp; omega
    refine ⟨false, _, by simp! only [e1]; rfl, fun _ => ?_, nofun⟩
    simp! only [hl, W_some]
    rw [← h5, numB_lt hv]
    simp
  · have e1 : decide ((v : Int) < 128) = false := by simp; omega
    refine ⟨true, _, by simp! only [e1]; rfl, nofun, fun _ => ?_⟩
    simp! only [hl, W_some, Int.reduceLT]
    refine ⟨v / 128, by omega, v / 128, out ++ [v % 128 + 128], rfl, by simp; omega, by simp, by simp, ?_⟩
    rw [← h5, numB_ge hv]
    simp
theorem r_read_number (n : Nat) (pre post : List Nat) {l : List Nat} {k : Nat} {S : Sto} (hl : l = pre ++ numB n ++ post) (hs : l.length ≤ LINE) :
    run tab (k + 1) 2 [.p (eN l), .p (.int (pre.length : Nat))] S = some (.p (.tup [.int (n : Nat), .int ((pre.length + (numB n).length : Nat) : Int)]), S) := by
  refine run_W at_read_number rfl ?_
  unfold f_read_number
  simp! only [start]
  refine W_sq ?_
  refine W_while (fun m e S' => ∃ (d num : Nat) (pr : List Nat), pr.length = pre.length + d ∧ l = pr ++ numB m ++ post ∧ num + 128 ^ d * m = n ∧ (0 < d → 0 < m) ∧ d + (numB m).length = (numB n).length ∧
    e = [some (.p (eN l)), some (.p (.int (pr.length : Nat))), some (.p (.int num)), some (.p (.int ((128 ^ d : Nat) : Int))), some (.p (.int (pre.length : Nat)))] ∧ S' = S) (fun m e S' ⟨d, num, pr, h1, h2, h3, h4, h5, h6, h7⟩ => ?_) n ⟨0, 0, pre, rfl, hl, by simp, by simp, by simp, by simp, rfl⟩
  subst h6 h7
  refine ⟨true, S', by simp! only [], nofun, fun _ => ?_⟩
  by_cases hv : m < 128
  · rw [numB_lt hv] at h2 h5
    have g1 : decide (((pr.length : Nat) : Int) < ((l.length : Nat) : Int)) = true := by
      rw [h2]; simp; omega
    have g2 : atI (l.map fun b => P.int (b : Nat)) (pr.length : Nat) = some (.int m) := by
      rw [atI_nat, h2]; simp
    have g3 : mulOk ((m : Int) % 128) ((128 ^ d : Nat) : Int) = true := mulOk_l (by omega) (by omega)
    have g4 : mulOk ((128 ^ d : Nat) : Int) 128 = true := mulOk_r (by decide) (by decide)
    have g5 : decide ((m : Int) < 128) = true := by simp; omega
    have g8 : (num : Int) + (m : Int) % 128 * ((128 ^ d : Nat) : Int) = (n : Nat) := by
      rw [← h3, Int.emod_eq_of_lt (by omega) (by omega), Int.mul_comm]
      simp
    have g9 : (pr.length : Int) + 1 = ((pre.length + (numB n).length : Nat) : Int) := by
      rw [← h5, h1]; simp; omega
    by_cases h0 : m = 0
    · have hd : d = 0 := by omega
      have g6 : ((m : Int) == 0) = true := by simp; omega
      have g7 : decide ((1 : Int) < (pr.length : Int) + 1 - (pre.length : Int)) = false := by simp; omega
      simp! only [g1, g2, g3, g4, g5, g6, g7, W_some, Int.add_sub_cancel]
      rw [g8, g9]
      (first | exact List.prefix_refl _ | exact ⟨rfl, List.prefix_refl _⟩ | exact List.prefix_append .. | exact ⟨rfl, List.prefix_append ..⟩)
    · have g6 : ((m : Int) == 0) = false := by simp; omega
      simp! only [g1, g2, g3, g4, g5, g6, W_some, Int.add_sub_cancel]
      rw [g8, g9]
      (first | exact List.prefix_refl _ | exact ⟨rfl, List.prefix_refl _⟩ | exact List.prefix_append .. | exact ⟨rfl, List.prefix_append ..⟩)
  · rw [numB_ge hv] at h2 h5
    have g1 : decide (((pr.length : Nat) : Int) < ((l.length : Nat) : Int)) = true := by
      rw [h2]; simp; omega
    have g2 : atI (l.map fun b => P.int (b : Nat)) (pr.length : Nat) = some (.int (m % 128 + 128 : Nat)) := by
      rw [atI_nat, h2]; simp
    have g3 : mulOk (((m % 128 + 128 : Nat) : Int) % 128) ((128 ^ d : Nat) : Int) = true := mulOk_l (by omega) (by omega)
    have g4 : mulOk ((128 ^ d : Nat) : Int) 128 = true := mulOk_r (by decide) (by decide)
    have g5 : decide (((m % 128 + 128 : Nat) : Int) < 128) = false := by simp; omega
    simp! only [g1, g2, g3, g4, g5, W_some, Int.add_sub_cancel]
    refine ⟨m / 128, by omega, d + 1, num + m % 128 * 128 ^ d, pr ++ [m % 128 + 128], by simp; omega, by rw [h2]; simp, ?_, fun _ => by omega, by simp at h5; omega, ?_⟩
    · rw [← h3, Nat.pow_succ]
      have e := Nat.div_add_mod m 128
      generalize m / 128 = u at e ⊢
      generalize m % 128 = t at e ⊢
      subst e
      generalize 128 ^ d = z
      rw [Nat.mul_assoc, Nat.mul_add, Nat.mul_comm z t]
      omega
    · have e1 : ((m % 128 + 128 : Nat) : Int) % 128 = ((m % 128 : Nat) : Int) := by omega
      rw [e1]
      simp [Nat.pow_succ]
/-- any number's bytes -/
def sgn (i : Int) : Nat := (if 0 ≤ i then 2 * i else -2 * i - 1).toNat
def sgnB (i : Int) : List Nat := numB (sgn i)
theorem r_signed_bytes (i : Int) {k : Nat} {S : Sto} (h1 : -400000 < i) (h2 : i < 400000) : run tab (k + 2) 3 [.p (.int i)] S = some (.p (eN (sgnB i)), S) := by
  refine run_W at_signed_bytes rfl ?_
  unfold f_signed_bytes
  by_cases h : 0 ≤ i
  · have e : 2 * i = ((sgn i : Nat) : Int) := by unfold sgn; rw [if_pos h]; omega
    have b : mulOk 2 i = true := mulOk_l (by decide) (by decide)
    have g : decide (i < 0) = false := by simp; omega
    simp! only [start, g, b, e, r_number_bytes (sgn i) (show sgn i < 1000000 by omega), W_some]
    (first | exact List.prefix_refl _ | exact ⟨rfl, List.prefix_refl _⟩ | exact List.prefix_append .. | exact ⟨rfl, List.prefix_append ..⟩)
  · have e : -2 * i - 1 = ((sgn i : Nat) : Int) := by unfold sgn; rw [if_neg h]; omega
    have b : mulOk (-2) i = true := mulOk_l (by decide) (by decide)
    have g : decide (i < 0) = true := by simp; omega
    simp! only [start, g, b, e, r_number_bytes (sgn i) (show sgn i < 1000000 by omega), W_some]
    (first | exact List.prefix_refl _ | exact ⟨rfl, List.prefix_refl _⟩ | exact List.prefix_append .. | exact ⟨rfl, List.prefix_append ..⟩)
theorem sgn_even {i : Int} (h : 0 ≤ i) : sgn i % 2 = 0 ∧ ((sgn i / 2 : Nat) : Int) = i := by
  unfold sgn; rw [if_pos h]; omega
theorem sgn_odd {i : Int} (h : ¬ 0 ≤ i) : sgn i % 2 = 1 ∧ -(((sgn i : Nat) : Int) + 1) / 2 = i := by
  unfold sgn; rw [if_neg h]; omega
theorem r_read_signed (i : Int) (pre post : List Nat) {l : List Nat} {k : Nat} {S : Sto} (hl : l = pre ++ sgnB i ++ post) (hs : l.length ≤ LINE) :
    run tab (k + 2) 4 [.p (eN l), .p (.int (pre.length : Nat))] S = some (.p (.tup [.int i, .int ((pre.length + (sgnB i).length : Nat) : Int)]), S) := by
  refine run_W at_read_signed rfl ?_
  unfold f_read_signed
  by_cases h : 0 ≤ i
  · have e := sgn_even h
    have g : (((sgn i : Nat) : Int) % 2 == 0) = true := by simp; omega
    simp! only [start, r_read_number (sgn i) pre post hl hs, g, W_some]
    rw [show ((sgn i : Nat) : Int) / 2 = i by omega]
    (first | exact List.prefix_refl _ | exact ⟨rfl, List.prefix_refl _⟩ | exact List.prefix_append .. | exact ⟨rfl, List.prefix_append ..⟩)
  · have e := sgn_odd h
    have g : (((sgn i : Nat) : Int) % 2 == 0) = false := by simp; omega
    simp! only [start, r_read_number (sgn i) pre post hl hs, g, W_some]
    rw [e.2]
    (first | exact List.prefix_refl _ | exact ⟨rfl, List.prefix_refl _⟩ | exact List.prefix_append .. | exact ⟨rfl, List.prefix_append ..⟩)
theorem r_is_bytes (l : List Nat) {k : Nat} {S : Sto} (hl : l.length ≤ LINE) (h : ∀ b ∈ l, b < 256) : run tab (k + 1) 8 [.p (eN l)] S = some (.p (.bl true), S) := by
  refine run_W at_is_bytes rfl ?_
  unfold f_is_bytes
  simp! only [start, lineL]
  rw [compL_map l (fun b => .p (.int (b : Nat))) (fun _ => .p (.bl true)) (by simp) rfl]
  · simp! only [hl, decide_eq_true, allB_map, all_true (l := l) (f := fun _ => true) fun _ _ => rfl, W_some]
    (first | exact List.prefix_refl _ | exact ⟨rfl, List.prefix_refl _⟩ | exact List.prefix_append .. | exact ⟨rfl, List.prefix_append ..⟩)
  · intro b hb
    have g := h b hb
    have g1 : decide ((b : Int) < 256) = true := by simp; omega
    have g2 : decide ((b : Int) < 0) = false := by simp
    simp! only [compF, g1, g2]
/-! checks -/
def step1 (v : Nat) : Nat := if v % 2 = 1 then (v / 2) ^^^ 40961 else v / 2
def steps : Nat → Nat → Nat
  | 0, v => v
  | n + 1, v => step1 (steps n v)
def sumA (v b : Nat) : Nat := steps 8 (v ^^^ b)
theorem r_sum_after (v b : Nat) {k : Nat} {S : Sto} : run tab (k + 1) 5 [.p (.int v), .p (.int b)] S = some (.p (.int (sumA v b : Nat)), S) := by
  refine run_W at_sum_after rfl ?_
  unfold f_sum_after
  have s62 : small62 8 = true := by decide
  simp! only [start, xorI, Int.natCast_nonneg, Int.toNat_natCast, s62]
  refine W_sq ?_
  refine W_loop (List.range 8) _ (fun done e S' => ∃ j, e = [some (.p (.int (steps done.length (v ^^^ b) : Nat))), some (.p (.int b)), j] ∧ S' = S) rfl ?_ ?_ ⟨none, rfl, rfl⟩
  · rintro done a rest e S' hL ⟨j, rfl, rfl⟩
    by_cases h : steps done.length (v ^^^ b) % 2 = 1
    · have e1 : (((steps done.length (v ^^^ b) : Nat) : Int) % 2 == 1) = true := by simp; omega
      have e2 : (0 : Int) ≤ ((steps done.length (v ^^^ b) : Nat) : Int) / 2 := by omega
      simp! only [turnF, e1, e2, xorI, W_some, still, Int.reduceToNat, List.length_append, Int.zero_add]
      rw [show steps (done.length + 1) (v ^^^ b) = (((steps done.length (v ^^^ b) : Nat) : Int) / 2).toNat ^^^ 40961 by
        simp only [steps, step1, h, if_true]
        rw [show (((steps done.length (v ^^^ b) : Nat) : Int) / 2).toNat = steps done.length (v ^^^ b) / 2 by omega]]
      exact ⟨_, rfl⟩
    · have e1 : (((steps done.length (v ^^^ b) : Nat) : Int) % 2 == 1) = false := by simp; omega
      simp! only [turnF, e1, W_some, still, List.length_append]
      rw [show steps (done.length + 1) (v ^^^ b) = steps done.length (v ^^^ b) / 2 by simp only [steps, step1, h, if_false]]
      exact ⟨_, rfl⟩
  · rintro e S' ⟨j, rfl, rfl⟩
    simp! only [W_some]
    (first | exact List.prefix_refl _ | exact ⟨rfl, List.prefix_refl _⟩ | exact List.prefix_append .. | exact ⟨rfl, List.prefix_append ..⟩)
def sumF (v : Nat) (l : List Nat) : Nat := l.foldl sumA v
theorem r_sum_of (l : List Nat) {k : Nat} {S : Sto} : run tab (k + 2) 6 [.p (eN l)] S = some (.p (.int (sumF 65535 l : Nat)), S) := by
  refine run_W at_sum_of rfl ?_
  unfold f_sum_of
  simp! only [start]
  refine W_sq ?_
  refine W_loop l (fun b => .p (.int (b : Nat))) (fun done e S' => ∃ j, e = [some (.p (eN l)), some (.p (.int (sumF 65535 done : Nat))), j] ∧ S' = S) (by simp) ?_ ?_ ⟨none, rfl, rfl⟩
  · rintro done a rest e S' hL ⟨j, rfl, rfl⟩
    simp! only [turnF, r_sum_after, W_some, still]
    rw [show sumF 65535 (done ++ [a]) = sumA (sumF 65535 done) a by unfold sumF; rw [List.foldl_append]; rfl]
    exact ⟨_, rfl⟩
  · rintro e S' ⟨j, rfl, rfl⟩
    simp! only [W_some]
    (first | exact List.prefix_refl _ | exact ⟨rfl, List.prefix_refl _⟩ | exact List.prefix_append .. | exact ⟨rfl, List.prefix_append ..⟩)
theorem r_sum_bytes (l : List Nat) {k : Nat} {S : Sto} : run tab (k + 3) 7 [.p (eN l)] S = some (.p (eN [sumF 65535 l % 256, sumF 65535 l / 256]), S) := by
  refine run_W at_sum_bytes rfl ?_
  unfold f_sum_bytes
  simp! only [start, r_sum_of, W_some]
  (first | exact List.prefix_refl _ | exact ⟨rfl, List.prefix_refl _⟩ | exact List.prefix_append .. | exact ⟨rfl, List.prefix_append ..⟩)
end PyX
set_option linter.all false
set_option maxRecDepth 100000
namespace PyX
open PyI
open PySem (Str)

/-! the drawing that every law begins with -/
abbrev dZ (l : List Int) : List D := l.map fun b => .p (.int b)
abbrev dN' (l : List Nat) : List D := l.map fun b => .p (.int (b : Nat))
theorem emod_lt {a b : Int} (h : 0 < b) : 0 ≤ a % b ∧ a % b < b := ⟨Int.emod_nonneg _ (by omega), Int.emod_lt_of_pos _ h⟩
def mx1 (c j : Int) : Int := (c * 48271 + j * 69621 + 8191) % 2147483647
def mx2 (c j : Int) : Int := (mx1 c j * mx1 c j + mx1 c j / 7 + j * 16807) % 2147483629
def mx3 (c j : Int) : Int := (mx2 c j * mx2 c j + mx2 c j / 11 + 40692) % 2147483563
def mixV (c j : Int) : Int := mx3 c j / 5 % 1000003
theorem mixV_b (c j : Int) : 0 ≤ mixV c j ∧ mixV c j < 1000003 := emod_lt (by decide)
theorem mx1_m (c j : Int) : mulOk (mx1 c j) (mx1 c j) = true := by
  have := emod_lt (a := c * 48271 + j * 69621 + 8191) (b := 2147483647) (by decide)
  exact mulOk_l (by unfold mx1; omega) (by unfold mx1; omega)
theorem mx2_m (c j : Int) : mulOk (mx2 c j) (mx2 c j) = true := by
  have := emod_lt (a := mx1 c j * mx1 c j + mx1 c j / 7 + j * 16807) (b := 2147483629) (by decide)
  exact mulOk_l (by unfold mx2; omega) (by unfold mx2; omega)
theorem mx1_e (c j : Int) : (c * 48271 + j * 69621 + 8191) % 2147483647 = mx1 c j := by unfold mx1; rfl
theorem mx2_e (c j : Int) : (mx1 c j * mx1 c j + mx1 c j / 7 + j * 16807) % 2147483629 = mx2 c j := by unfold mx2; rfl
theorem mx3_e (c j : Int) : (mx2 c j * mx2 c j + mx2 c j / 11 + 40692) % 2147483563 = mx3 c j := by unfold mx3; rfl
theorem mulOk_lit {i : Int} : mulOk i 48271 = true ∧ mulOk i 69621 = true ∧ mulOk i 16807 = true := ⟨mulOk_r (by decide) (by decide), mulOk_r (by decide) (by decide), mulOk_r (by decide) (by decide)⟩
def cellV (ns : List Int) (j : Nat) : Int := if ns.length = 0 then 0 else ns.getD (j % ns.length) 0
def mixN (ns : List Int) (j : Nat) : Nat := (mixV (cellV ns j) j).toNat
theorem mixN_e (ns : List Int) (j : Nat) : ((mixN ns j : Nat) : Int) = mixV (cellV ns j) j := by
  have := mixV_b (cellV ns j) j
  unfold mixN
  omega
theorem r_law_mixed (ns : List Int) (j : Nat) {k h : Nat} {S : Sto} (hS : S[h]? = some (.rol (dZ ns))) : run tab (k + 1) 31 [.ref h, .p (.int j)] S = some (.p (.int (mixN ns j : Nat)), S) := by
  refine run_W at_law_mixed rfl ?_
  rw [mixN_e]
  unfold f_law_mixed
  by_cases h0 : ns.length = 0
  · have g' : decide ((0 : Int) < (ns.length : Int)) = false := decide_eq_false (by omega)
    rw [show cellV ns j = 0 by unfold cellV; rw [if_pos h0]]
    simp! only [start, hS, g', mulOk_lit, mx1_e, mx1_m, mx2_e, mx2_m, mx3_e, W_some]
    (first | exact List.prefix_refl _ | exact ⟨rfl, List.prefix_refl _⟩ | exact List.prefix_append .. | exact ⟨rfl, List.prefix_append ..⟩)
  · have hlt : j % ns.length < ns.length := Nat.mod_lt _ (by omega)
    have g' : decide ((0 : Int) < (ns.length : Int)) = true := decide_eq_true (by omega)
    have g2 : (0 : Int) < (ns.length : Int) := by omega
    rw [show cellV ns j = ns.getD (j % ns.length) 0 by unfold cellV; rw [if_neg h0]]
    have g3 : atI (dZ ns) ((j : Int) % (ns.length : Int)) = some (.p (.int (ns.getD (j % ns.length) 0))) := by
      rw [show (j : Int) % (ns.length : Int) = ((j % ns.length : Nat) : Int) by omega, atI_nat]
      simp [hlt]
    simp! only [start, hS, g', g2, g3, mulOk_lit, mx1_e, mx1_m, mx2_e, mx2_m, mx3_e, W_some]
    (first | exact List.prefix_refl _ | exact ⟨rfl, List.prefix_refl _⟩ | exact List.prefix_append .. | exact ⟨rfl, List.prefix_append ..⟩)
theorem r_law_row (ns : List Int) (many : Nat) {k h : Nat} {S : Sto} (hS : S[h]? = some (.rol (dZ ns))) (hm : many < 1000) :
    ∃ row : List Nat, row.length = many ∧ run tab (k + 2) 32 [.ref h, .p (.int many)] S = some (.ref S.length, S ++ [.lst (dN' row)]) := by
  have hh : h < S.length := (List.getElem?_eq_some_iff.mp hS).1
  have s62 : small62 (many : Int) = true := by unfold small62; rw [decide_eq_true (by omega), decide_eq_true (by omega)]; rfl
  have loop : ∀ big : Int, W (loopL (turnF (run tab (k + 1)) (.nm 4) (match f_law_row.body with | .cons _ (.cons _ (.cons _ (.cons (.loop _ _ b) _))) => b | _ => .nil)) ((List.range many).map fun i => D.p (.int (i : Nat))) none [some (.ref h), some (.p (.int many)), some (.p (.int big)), some (.ref S.length), none] (S ++ [.lst []])) fun o e S' => o = .nx ∧ e[3]? = some (some (.ref S.length)) ∧ ∃ row : List Nat, row.length = many ∧ S' = S ++ [.lst (dN' row)] := by
    intro big
    refine W_loop (List.range many) _ (fun done e S' => ∃ b j, ∃ row : List Nat, row.length = done.length ∧ e = [some (.ref h), some (.p (.int many)), some (.p (.int b)), some (.ref S.length), j] ∧ S' = S ++ [.lst (dN' row)]) rfl ?_ ?_ ⟨big, none, [], rfl, rfl, rfl⟩
    · rintro done a rest e S' hL ⟨b, j, row, h1, rfl, rfl⟩
      have hS2 : (S ++ [.lst (dN' row)])[h]? = some (.rol (dZ ns)) := by rw [List.getElem?_append_left hh]; exact hS
      have hlen : row.length < LINE := by
        have := congrArg List.length hL
        simp at this
        show _ < 16777216
        omega
      unfold f_law_row
      dsimp only
      by_cases hb : 0 < b
      · have g : decide ((0 : Int) < b) = true := decide_eq_true hb
        simp! only [turnF, g, hlen, W_some, still]
        refine ⟨b / 1000, _, row ++ [(b % 1000).toNat], by simp [h1], rfl, ?_⟩
        have := emod_lt (a := b) (b := 1000) (by decide)
        simp
        omega
      · have g : decide ((0 : Int) < b) = false := decide_eq_false hb
        simp! only [turnF, g, hlen, W_some, still, Int.mul_one, Int.zero_add, r_law_mixed ns a hS2]
        exact ⟨b, _, row ++ [mixN ns a], by simp [h1], rfl, by simp⟩
    · rintro e S' ⟨b, j, row, h1, rfl, rfl⟩
      exact ⟨rfl, rfl, row, by rw [h1]; simp, rfl⟩
  have fin : ∀ big : Int, W (Sq (loopL (turnF (run tab (k + 1)) (.nm 4) (match f_law_row.body with | .cons _ (.cons _ (.cons _ (.cons (.loop _ _ b) _))) => b | _ => .nil)) ((List.range many).map fun i => D.p (.int (i : Nat))) none [some (.ref h), some (.p (.int many)), some (.p (.int big)), some (.ref S.length), none] (S ++ [.lst []])) fun env S => exs (run tab (k + 1)) (.cons (.ret (.var 3)) .nil) env S) fun o _ S' => o = .ret (.ref S.length) ∧ ∃ row : List Nat, row.length = many ∧ S' = S ++ [.lst (dN' row)] := by
    intro big
    refine W_sq ((loop big).mono ?_)
    rintro o e S' ⟨rfl, h3, row, h4, rfl⟩
    simp! only [h3, W_some]
    exact ⟨row, h4, rfl⟩
  have key : W (exs (run tab (k + 1)) f_law_row.body (start f_law_row.nn [.ref h, .p (.int many)]) S) fun o _ S' => o = .ret (.ref S.length) ∧ ∃ row : List Nat, row.length = many ∧ S' = S ++ [.lst (dN' row)] := by
    unfold f_law_row
    by_cases h0 : ns.length = 0
    · have g' : decide ((0 : Int) < (ns.length : Int)) = false := decide_eq_false (by omega)
      simp! only [start, hS, g', s62]
      exact fin 0
    · have g' : decide ((0 : Int) < (ns.length : Int)) = true := decide_eq_true (by omega)
      have g3 : atI (dZ ns) 0 = some (.p (.int (ns.getD 0 0))) := by
        rw [show (0 : Int) = ((0 : Nat) : Int) from rfl, atI_nat]
        simp
        cases ns
        · exact absurd rfl h0
        · rfl
      have hp : powOk 10 18 = true := by decide
      by_cases h1 : (1000000000000000000 : Int) ≤ ns.getD 0 0
      · have g4 : decide (ns.getD 0 0 < 1000000000000000000) = false := decide_eq_false (by omega)
        simp! only [start, hS, g', g3, hp, g4, s62]
        exact fin _
      · have g4 : decide (ns.getD 0 0 < 1000000000000000000) = true := decide_eq_true (by omega)
        simp! only [start, hS, g', g3, hp, g4, s62]
        exact fin 0
  obtain ⟨o, e, S', h1, h2, row, h3, h4⟩ := key
  exact ⟨row, h3, run_Wr at_law_row rfl ⟨o, e, S', h1, h2, h4⟩⟩
/-! a pick -/
def pickV (row : List Nat) (a n : Nat) : Nat := row.getD (a % row.length) 0 / (1 + a / row.length) % n
theorem pickV_lt {row : List Nat} {a n : Nat} (h : 0 < n) : pickV row a n < n := Nat.mod_lt _ h
/-- the store of a law: the script, the row, the draw -/
abbrev B3 (sc : List D) (row : List Nat) (a : Nat) : Sto := [.rol sc, .lst (dN' row), .lst [.ref 1, .p (.int (a : Nat))]]
theorem r_law_pick {sc : List D} (row : List Nat) (a n : Nat) {k : Nat} {ext : Sto} (hr : 0 < row.length ∧ row.length < 1000000) (hn : 0 < n) (ha : a < 1000000) :
    run tab (k + 1) 35 [.ref 2, .p (.int n)] (B3 sc row a ++ ext) = some (.p (.int (pickV row a n : Nat)), B3 sc row (a + 1) ++ ext) := by
  refine run_Wm at_law_pick rfl ?_
  have g1 : (0 : Int) < (row.length : Int) := by omega
  have g2 : (row.length : Int) < 1073741824 := by omega
  have hlt : a % row.length < row.length := Nat.mod_lt _ (by omega)
  have g3 : atI (dN' row) ((a : Int) % (row.length : Int)) = some (.p (.int (row.getD (a % row.length) 0 : Nat))) := by
    rw [show (a : Int) % (row.length : Int) = ((a % row.length : Nat) : Int) by omega, atI_nat]
    simp [hlt]
  have g4 : atI [D.ref 1, .p (.int (a : Nat))] 0 = some (.ref 1) := rfl
  have g5 : atI [D.ref 1, .p (.int (a : Nat))] 1 = some (.p (.int (a : Nat))) := rfl
  have g6 : ixN 2 1 = some 1 := rfl
  have g7 : (0 : Int) < 1 + (a : Int) / (row.length : Int) := by
    have : (0 : Int) ≤ (a : Int) / (row.length : Int) := Int.ediv_nonneg (by omega) (by omega)
    omega
  have g8 : 1 + (a : Int) / (row.length : Int) < 1073741824 := by
    have : (a : Int) / (row.length : Int) ≤ a := Int.ediv_le_self _ (by omega)
    omega
  have g9 : (0 : Int) < (n : Int) := by omega
  unfold f_law_pick
  simp! only [start, g1, g2, g3, g4, g5, g6, g7, g8, g9, W_some]
  refine ⟨?_, [], by simp, ?_⟩
  · unfold pickV
    simp
  · simp only [okLeave, decide_true, Bool.true_or, Bool.true_and, belowO, List.all_cons, List.all_nil, belowD, List.length_cons, Bool.and_true, List.append_nil]
    rw [Bool.and_eq_true]
    refine ⟨?_, ?_⟩
    · simp
    · have := okLeave_self (ext.length + 1 + 1 + 1) ext []
      rw [List.append_nil] at this
      exact this
def pickZ (row : List Nat) (a : Nat) (n : Int) : Int := ((row.getD (a % row.length) 0 : Nat) : Int) / (1 + (a : Int) / (row.length : Int)) % n
theorem pickZ_b {row : List Nat} {a : Nat} {n : Int} (h : 0 < n) : 0 ≤ pickZ row a n ∧ pickZ row a n < n := emod_lt h
/-- the store of a law, what lies behind its three kept apart -/
def stB (sc : List D) (row : List Nat) (a : Nat) (ext : Sto) : Sto := B3 sc row a ++ ext
section
variable {sc : List D} {row : List Nat} {a : Nat} {ext t e : Sto} {x o : O}
theorem stB_app : stB sc row a ext ++ t = stB sc row a (ext ++ t) := by unfold stB; rw [List.append_assoc]
theorem stB_len : (stB sc row a ext).length = ext.length + 3 := by unfold stB; simp
theorem stB_get : (stB sc row a (e ++ x :: t))[e.length + 3]? = some x := by
  unfold stB
  rw [List.getElem?_append_right (by simp), show e.length + 3 - (B3 sc row a).length = e.length by simp]
  exact get_at
theorem stB_set : (stB sc row a (e ++ x :: t)).set (e.length + 3) o = stB sc row a (e ++ o :: t) := by
  unfold stB
  rw [List.set_append_right _ _ (by simp), show e.length + 3 - (B3 sc row a).length = e.length by simp, set_at]
theorem r_pick {n : Int} {k : Nat} (hr : 0 < row.length ∧ row.length < 1000000) (hn : 0 < n) (ha : a < 1000000) :
    run tab (k + 1) 35 [.ref 2, .p (.int n)] (stB sc row a ext) = some (.p (.int (pickZ row a n)), stB sc row (a + 1) ext) := by
  have z := r_law_pick (sc := sc) row a n.toNat (k := k) (ext := ext) hr (by omega) ha
  rw [show ((n.toNat : Nat) : Int) = n by omega] at z
  unfold stB
  rw [z]
  congr 3
  unfold pickV pickZ
  have : (n.toNat : Int) = n := by omega
  simp [this]
/-- a call that has drawn on -/
theorem run_draw {T : List Fn} {n f : Nat} {fn : Fn} {ds : List D} {R : P → Nat → Prop} (h : T[f]? = some fn) (hl : ds.length = fn.np)
    (hw : W (exs (run T n) fn.body (start fn.nn ds) (stB sc row a e)) fun o _ S' => ∃ x a' ext, o = .ret (.p x) ∧ S' = stB sc row a' (e ++ ext) ∧ R x a') : ∃ x a', run T (n + 1) f ds (stB sc row a e) = some (.p x, stB sc row a' e) ∧ R x a' := by
  obtain ⟨o, e', S', h1, x, a', ext, h2, h3, h4⟩ := hw
  refine ⟨x, a', run_Wm h hl ⟨o, e', S', h1, h2, ext, by rw [h3, stB_app], ?_, by rw [stB_len, stB_len]⟩, h4⟩
  rw [stB_len, stB_app]
  unfold stB
  simp only [B3, List.cons_append, List.nil_append, okLeave, decide_true, Bool.true_or, Bool.true_and, belowO, List.all_cons, List.all_nil, belowD, List.length_cons, Bool.and_true]
  rw [Bool.and_eq_true]
  refine ⟨?_, okLeave_self _ _ _⟩
  simp
end
/-! what is like -/
mutual
def okL : P → Bool
  | .tup l => decide (l.length ≤ LINE) && okLs l
  | .str s => decide (s.length ≤ LINE)
  | _ => true
def okLs : List P → Bool
  | [] => true
  | x :: r => okL x && okLs r
end
theorem okLs_mem : ∀ {l : List P}, okLs l = true → ∀ x ∈ l, okL x = true
  | [], _, x, hx => by simp at hx
  | y :: r, h, x, hx => by
    unfold okLs at h
    rw [Bool.and_eq_true] at h
    rcases List.mem_cons.mp hx with e | e
    · rw [e]; exact h.1
    · exact okLs_mem h.2 x e
theorem depths_mem : ∀ {l : List P}, ∀ x ∈ l, depth x ≤ depths l
  | [], x, hx => by simp at hx
  | y :: r, x, hx => by
    unfold depths
    rcases List.mem_cons.mp hx with e | e
    · rw [e]; exact Nat.le_max_left ..
    · exact Nat.le_trans (depths_mem x e) (Nat.le_max_right ..)
theorem r_law_is_int (i : Int) {k : Nat} {S : Sto} : run tab (k + 1) 33 [.p (.int i)] S = some (.p (.bl true), S) := by
  refine run_W at_law_is_int rfl ?_
  unfold f_law_is_int
  simp! only [start, W_some]
  (first | exact List.prefix_refl _ | exact ⟨rfl, List.prefix_refl _⟩ | exact List.prefix_append .. | exact ⟨rfl, List.prefix_append ..⟩)
theorem r_law_like : ∀ (d : Nat) (v : P), depth v ≤ d → d ≤ 60 → okL v = true → ∀ (k : Nat) (S : Sto), run tab (k + d + 2) 34 [.p v, .p v] S = some (.p (.bl true), S) := by
  intro d
  induction d with
  | zero =>
    intro v hd h60 ok k S
    refine run_W at_law_like rfl ?_
    unfold f_law_like
    cases v with
    | non =>
      simp! only [start, W_some]
      (first | exact List.prefix_refl _ | exact ⟨rfl, List.prefix_refl _⟩ | exact List.prefix_append .. | exact ⟨rfl, List.prefix_append ..⟩)
    | bl b =>
      simp! only [start, W_some]
      cases b <;> (first | exact List.prefix_refl _ | exact ⟨rfl, List.prefix_refl _⟩ | exact List.prefix_append .. | exact ⟨rfl, List.prefix_append ..⟩)
    | int i =>
      simp! only [start, W_some, beq_self_eq_true, r_law_is_int]
      (first | exact List.prefix_refl _ | exact ⟨rfl, List.prefix_refl _⟩ | exact List.prefix_append .. | exact ⟨rfl, List.prefix_append ..⟩)
    | str s =>
      simp! only [start, W_some]
      exact ⟨by simp, List.prefix_refl _⟩
    | tup l =>
      exact absurd hd (by simp [depth])
  | succ d ih =>
    intro v hd h60 ok k S
    cases v with
    | tup l =>
      refine run_W at_law_like rfl ?_
      unfold f_law_like
      unfold okL at ok
      rw [Bool.and_eq_true] at ok
      have hl : l.length ≤ LINE := of_decide_eq_true ok.1
      have hl2 : l.length ≤ 16777216 := hl
      have s62 : small62 (l.length : Int) = true := small62_nat hl
      simp! only [start, W_some, beq_self_eq_true, s62, lineL]
      rw [compL_map (List.range l.length) (fun i => .p (.int (i : Nat))) (fun _ => .p (.bl true))]
      · have hl3 : (List.range l.length).length ≤ 16777216 := by simp; exact hl2
        simp! only [hl3, W_some, allB_map, all_true (l := List.range l.length) (f := fun _ => true) fun _ _ => rfl]
        (first | exact List.prefix_refl _ | exact ⟨rfl, List.prefix_refl _⟩ | exact List.prefix_append .. | exact ⟨rfl, List.prefix_append ..⟩)
      · rfl
      · rfl
      · intro i hi
        have hi2 : i < l.length := by simpa using hi
        have g : atI l (i : Int) = some (l[i]'hi2) := by rw [atI_nat]; simp [hi2]
        have hm : l[i]'hi2 ∈ l := List.getElem_mem hi2
        have hdd : depth (l[i]'hi2) ≤ d := by
          have := depths_mem _ hm
          unfold depth at hd
          omega
        have q := ih (l[i]'hi2) hdd (by omega) (okLs_mem ok.2 _ hm) k S
        rw [show k + d + 2 = k + (d + 1) + 1 by omega] at q
        simp! only [compF, Int.mul_one, Int.zero_add, g, q]
    | _ =>
      rw [show k + (d + 1) + 2 = k + 1 + d + 2 by omega]
      exact ih _ (by simp [depth]) (by omega) ok (k + 1) S
end PyX
set_option linter.all false
set_option maxRecDepth 100000
namespace PyX
open PyI
open PySem (Str)

abbrev Row := List (Int × Int)
abbrev Cell := (Int × Int) × Int
abbrev eRow (r : Row) : P := .tup (r.map e2)
abbrev eYR (p : Int × Row) : P := .tup [.int p.1, eRow p.2]
abbrev eRows (rows : List (Int × Row)) : P := .tup (rows.map eYR)
abbrev ePic (l : List Cell) : P := .tup (l.map eP)
abbrev lstO (r : Row) : O := .lst (r.map fun c => .p (e2 c))

theorem r_picture {A M : List Cell} {k h : Nat} {S : Sto} (hS : S[h]? = some (d2 vI A)) (hl : A.length ≤ LINE) (p : A.Perm M) (hs : (M.map (·.1)).Pairwise lt2) : run tab (k + 1) 0 [.ref h] S = some (.p (ePic M), S) := by
  refine run_W at_picture rfl ?_
  unfold f_picture
  simp! only [start, hS, dItems_d2, sort_eP hl p hs, W_some]
  (first | exact List.prefix_refl _ | exact ⟨rfl, List.prefix_refl _⟩ | exact List.prefix_append .. | exact ⟨rfl, List.prefix_append ..⟩)
/-! the rows of a picture -/
def refsK (b : Nat) : List (Int × Row) → List (Key × D)
  | [] => []
  | g :: r => (kI g.1, .ref b) :: refsK (b + 1) r
theorem look_refs (y : Int) : ∀ (G : List (Int × Row)) (b : Nat), look (refsK b G) (kI y) = (G.findIdx? fun g => decide (g.1 = y)).map fun i => .ref (b + i)
  | [], b => rfl
  | g :: r, b => by
    unfold refsK look
    rw [List.find?_cons, List.findIdx?_cons]
    by_cases h : g.1 = y
    · simp [h]
    · have h2 : ¬ kI g.1 = kI y := fun z => h (kI_inj _ _ z)
      simp only [h, h2, decide_false, Bool.false_eq_true, if_false, Option.map_map]
      have := look_refs y r (b + 1)
      unfold look at this
      rw [this]
      congr 1
      funext i
      simp only [Function.comp]
      congr 1
      omega
theorem refs_append (g : Int × Row) : ∀ (G : List (Int × Row)) (b : Nat), refsK b (G ++ [g]) = refsK b G ++ [(kI g.1, .ref (b + G.length))]
  | [], b => rfl
  | a :: r, b => by
    rw [List.cons_append]
    unfold refsK
    rw [refs_append g r (b + 1), List.cons_append, List.length_cons, show b + 1 + r.length = b + (r.length + 1) by omega]
theorem refs_set (cs : Row) (y : Int) : ∀ (G : List (Int × Row)) (b i : Nat), (G[i]?).map (·.1) = some y → refsK b (G.set i (y, cs)) = refsK b G
  | [], b, i, h => by simp at h
  | a :: r, b, 0, h => by
    simp at h
    simp [refsK, h]
  | a :: r, b, i + 1, h => by
    simp only [List.getElem?_cons_succ] at h
    simp only [List.set_cons_succ, refsK, refs_set cs y r (b + 1) i h]
theorem refs_len : ∀ (G : List (Int × Row)) (b : Nat), (refsK b G).length = G.length
  | [], b => rfl
  | a :: r, b => by simp [refsK, refs_len r]
theorem refs_keys : ∀ (G : List (Int × Row)) (b : Nat), dKeys (.dK (refsK b G)) = some ((G.map (·.1)).map P.int) := by
  have key : ∀ (G : List (Int × Row)) (b : Nat), ((refsK b G).map fun p => ofKey p.1) = (G.map (·.1)).map P.int := by
    intro G
    induction G with
    | nil => intro b; rfl
    | cons a r ih =>
      intro b
      simp only [refsK, List.map_cons]
      rw [ih]
      rfl
  intro G b
  unfold dKeys
  dsimp only
  rw [key]
/-- a row's cells in a picture -/
def gath (l : List Cell) (y : Int) : Row := l.filterMap fun c => if c.1.2 = y then some (c.1.1, c.2) else none
theorem gath_append {l m : List Cell} {y : Int} : gath (l ++ m) y = gath l y ++ gath m y := List.filterMap_append
theorem gath_one {c : Cell} {y : Int} : gath [c] y = if c.1.2 = y then [(c.1.1, c.2)] else [] := by
  unfold gath
  by_cases h : c.1.2 = y <;> simp [h]
/-- the groups that the walk makes -/
structure Grp (l : List Cell) (G : List (Int × Row)) : Prop where
  keys : Keys G
  at_ : ∀ y, asc G y = if gath l y = [] then none else some (gath l y)
  len : G.length ≤ l.length
theorem find_asc {G : List (Int × Row)} {y : Int} {i : Nat} (h : (G.findIdx? fun g => decide (g.1 = y)) = some i) : ∃ cs, G[i]? = some (y, cs) ∧ asc G y = some cs := by
  induction G generalizing i with
  | nil => simp at h
  | cons g r ih =>
    rw [List.findIdx?_cons] at h
    by_cases e : g.1 = y
    · simp only [e, decide_true, if_true, Option.some.injEq] at h
      subst h
      exact ⟨g.2, by simp [← e], by rw [asc_cons, if_pos e]⟩
    · simp only [e, decide_false, Bool.false_eq_true, if_false, Option.map_eq_some_iff] at h
      obtain ⟨j, h1, rfl⟩ := h
      obtain ⟨cs, q1, q2⟩ := ih h1
      exact ⟨cs, by simpa using q1, by rw [asc_cons, if_neg e]; exact q2⟩
theorem find_none {G : List (Int × Row)} {y : Int} (h : (G.findIdx? fun g => decide (g.1 = y)) = none) : asc G y = none := by
  rw [List.findIdx?_eq_none_iff] at h
  rw [asc_none]
  intro z
  obtain ⟨g, hg, e⟩ := List.mem_map.mp z
  have := h g hg
  simp [e] at this
theorem set_upd {G : List (Int × Row)} (hk : Keys G) {y : Int} {i : Nat} (h : (G.findIdx? fun g => decide (g.1 = y)) = some i) (cs : Row) : G.set i (y, cs) = upd G y cs := by
  obtain ⟨c0, h1, h2⟩ := find_asc h
  unfold upd
  rw [if_pos (any_key.mpr (asc_isSome.mp (by rw [h2]; rfl)))]
  induction G generalizing i with
  | nil => simp at h
  | cons g r ih =>
    simp only [Keys, List.map_cons, List.nodup_cons] at hk
    rw [List.findIdx?_cons] at h
    by_cases e : g.1 = y
    · simp only [e, decide_true, if_true, Option.some.injEq] at h
      subst h
      rw [List.set_cons_zero, List.map_cons, if_pos e, e]
      congr 1
      have : ∀ p ∈ r, (if p.1 = y then (p.1, cs) else p) = p := by
        intro p hp
        rw [if_neg]
        intro z
        exact hk.1 (List.mem_map.mpr ⟨p, hp, z.trans e.symm⟩)
      exact (List.map_congr_left this |>.trans (List.map_id' r)).symm
    · simp only [e, decide_false, Bool.false_eq_true, if_false, Option.map_eq_some_iff] at h
      obtain ⟨j, q1, rfl⟩ := h
      rw [List.set_cons_succ, List.map_cons, if_neg e]
      congr 1
      exact ih hk.2 q1 (by simpa using h1) (by rw [asc_cons, if_neg e] at h2; exact h2)
theorem Grp.next {l : List Cell} {G : List (Int × Row)} (g : Grp l G) (c : Cell) : Grp (l ++ [c]) (upd G c.1.2 (gath l c.1.2 ++ [(c.1.1, c.2)])) := by
  refine ⟨keys_upd g.keys, fun y => ?_, ?_⟩
  · rw [asc_upd, gath_append, gath_one]
    by_cases e : y = c.1.2
    · subst e
      simp
    · have e2 : ¬ c.1.2 = y := fun z => e z.symm
      simp only [e, e2, if_false, List.append_nil]
      exact g.at_ y
  · have := len_upd (A := G) (k := c.1.2) (v := gath l c.1.2 ++ [(c.1.1, c.2)])
    have := g.len
    simp
    omega
def grpS (S : Sto) (G : List (Int × Row)) : Sto := S ++ (.dK (refsK (S.length + 1) G) :: G.map fun g => lstO g.2)
theorem grp_get {S : Sto} {G : List (Int × Row)} {i : Nat} : (grpS S G)[S.length + 1 + i]? = (G[i]?).map fun g => lstO g.2 := by
  unfold grpS
  rw [Nat.add_assoc, get_at1, Nat.add_comm 1 i, List.getElem?_cons_succ, List.getElem?_map]
theorem grp_set {S : Sto} {G : List (Int × Row)} {i : Nat} {y : Int} {cs cs2 : Row} (h : G[i]? = some (y, cs)) : (grpS S G).set (S.length + 1 + i) (lstO cs2) = grpS S (G.set i (y, cs2)) := by
  unfold grpS
  rw [Nat.add_assoc, set_at1, Nat.add_comm 1 i, List.set_cons_succ, refs_set cs2 y G _ i (by rw [h]; rfl), List.map_set]
theorem grp_len {S : Sto} {G : List (Int × Row)} : (grpS S G).length = S.length + 1 + G.length := by
  unfold grpS
  simp
  omega
theorem grp_dict {S : Sto} {G : List (Int × Row)} : (grpS S G)[S.length]? = some (.dK (refsK (S.length + 1) G)) := by unfold grpS; exact get_at
theorem lstO_snoc {cs : Row} {c : Int × Int} : O.lst ((cs.map fun c => D.p (e2 c)) ++ [.p (.tup [.int c.1, .int c.2])]) = lstO (cs ++ [c]) := by simp
theorem grp_new {S : Sto} {G : List (Int × Row)} {y : Int} {c : Int × Int} : List.set (List.set (grpS S G ++ [O.lst []]) S.length (O.dK (refsK (S.length + 1) G ++ [(kI y, D.ref (S.length + 1 + G.length))]))) (S.length + 1 + G.length) (lstO [c]) = grpS S (G ++ [(y, [c])]) := by
  unfold grpS
  rw [List.append_assoc, List.cons_append, set_at, Nat.add_assoc, set_at1, Nat.add_comm 1, List.set_cons_succ, refs_append, List.map_append]
  rw [List.set_append_right _ _ (by simp)]
  simp
  omega
theorem r_rows_of {pic : List Cell} {rows : List (Int × Row)} {k : Nat} {S : Sto} (hl : pic.length ≤ 10000) (H1 : (rows.map (·.1)).Pairwise (· < ·)) (H2 : ∀ y, gath pic y ≠ [] ↔ y ∈ rows.map (·.1))
    (H3 : ∀ r ∈ rows, (gath pic r.1).Perm r.2 ∧ (r.2.map (·.1)).Pairwise (· < ·)) : run tab (k + 1) 9 [.p (ePic pic)] S = some (.p (eRows rows), S) := by
  refine run_W at_rows_of rfl ?_
  unfold f_rows_of
  simp! only [start]
  refine W_sq ?_
  refine W_loop pic (fun c => .p (eP c)) (fun done e S' => ∃ j1 j2 j3, ∃ G, Grp done G ∧ e = [some (.p (ePic pic)), some (.ref S.length), j1, j2, j3] ∧ S' = grpS S G) rfl ?_ ?_ ⟨none, none, none, [], ⟨List.nodup_nil, fun y => rfl, Nat.le_refl _⟩, rfl, rfl⟩
  · rintro done c rest e S' hL ⟨j1, j2, j3, G, g, rfl, rfl⟩
    have hd : done.length < pic.length := by rw [hL]; simp
    have hG := g.len
    have len : (refsK (S.length + 1) G).length < LINE := by rw [refs_len]; show _ < 16777216; omega
    have g0 := g.next c
    cases hf : G.findIdx? (fun g => decide (g.1 = c.1.2)) with
    | some i =>
      obtain ⟨cs, h1, h2⟩ := find_asc hf
      have hcs : cs = gath done c.1.2 := by
        rw [g.at_] at h2
        split at h2
        · cases h2
        · cases h2; rfl
      have hlen : cs.length < LINE := by
        rw [hcs]
        have := List.length_filterMap_le (fun c' : Cell => if c'.1.2 = c.1.2 then some (c'.1.1, c'.2) else none) done
        show (gath done c.1.2).length < 16777216
        unfold gath
        omega
      have look1 : look (refsK (S.length + 1) G) (kI c.1.2) = some (.ref (S.length + 1 + i)) := by rw [look_refs, hf]; rfl
      have get1 := grp_get (S := S) (G := G) (i := i)
      rw [h1, Option.map_some] at get1
      rw [← hcs, ← set_upd g.keys hf] at g0
      simp! only [turnF, grp_dict, toKey_int, look1, len, get1, hlen, W_some, still]
      exact ⟨_, _, _, _, g0, rfl, by rw [← grp_set h1, ← lstO_snoc]⟩
    | none =>
      have look1 : look (refsK (S.length + 1) G) (kI c.1.2) = none := by rw [look_refs, hf]; rfl
      have hn : gath done c.1.2 = [] := by
        have := g.at_ c.1.2
        rw [find_none hf] at this
        split at this
        · assumption
        · cases this
      have hu : upd G c.1.2 ([] ++ [(c.1.1, c.2)]) = G ++ [(c.1.2, [(c.1.1, c.2)])] := by
        unfold upd
        rw [if_neg]
        · rfl
        · intro z
          exact asc_none.mp (find_none hf) (any_key.mp z)
      rw [hn, hu] at g0
      have get2 : ((grpS S G ++ [O.lst []]).set S.length (.dK (refsK (S.length + 1) G ++ [(kI c.1.2, .ref (S.length + 1 + G.length))])))[S.length + 1 + G.length]? = some (.lst []) := by
        rw [List.getElem?_set_ne (by omega), ← grp_len, get_at]
      simp! only [turnF, grp_dict, grp_len, toKey_int, look1, len, get2, W_some, still]
      exact ⟨_, _, _, _, g0, rfl, grp_new (c := (c.1.1, c.2))⟩
  · rintro e S' ⟨j1, j2, j3, G, g, rfl, rfl⟩
    have hG := g.len
    have mem : ∀ y, y ∈ G.map (·.1) ↔ y ∈ rows.map (·.1) := fun y => by
      rw [← asc_isSome, g.at_, ← H2]
      by_cases q : gath pic y = [] <;> simp [q]
    have pm : (G.map (·.1)).Perm (rows.map (·.1)) := (List.perm_ext_iff_of_nodup g.keys (H1.imp fun h => Int.ne_of_lt h)).mpr mem
    have hlen : rows.length ≤ 16777216 := by
      have := pm.length_eq
      simp at this
      omega
    have srt := sort_int (L := G.map (·.1)) (by show _ ≤ 16777216; simp; omega) pm H1
    have keys := refs_keys G (S.length + 1)
    simp! only [grp_dict, keys, srt, lineL]
    rw [compL_map rows (fun r => .p (.int r.1)) (fun r => .p (eYR r))]
    · simp! only [hlen, List.length_map, W_some]
      unfold grpS
      (first | exact List.prefix_refl _ | exact ⟨rfl, List.prefix_refl _⟩ | exact List.prefix_append .. | exact ⟨rfl, List.prefix_append ..⟩)
    · simp
    · rfl
    · intro r hr
      obtain ⟨h1, h2⟩ := H3 r hr
      have ha : asc G r.1 = some (gath pic r.1) := by
        rw [g.at_, if_neg]
        exact (H2 r.1).mpr (List.mem_map_of_mem hr)
      cases hf : G.findIdx? (fun g => decide (g.1 = r.1)) with
      | none => rw [find_none hf] at ha; cases ha
      | some i =>
        obtain ⟨cs, q1, q2⟩ := find_asc hf
        rw [ha] at q2
        cases q2
        have look1 : look (refsK (S.length + 1) G) (kI r.1) = some (.ref (S.length + 1 + i)) := by rw [look_refs, hf]; rfl
        have get1 := grp_get (S := S) (G := G) (i := i)
        rw [q1, Option.map_some] at get1
        have hgl : (gath pic r.1).length ≤ LINE := by
          have := List.length_filterMap_le (fun c' : Cell => if c'.1.2 = r.1 then some (c'.1.1, c'.2) else none) pic
          show (gath pic r.1).length ≤ 16777216
          unfold gath
          omega
        have srt2 := sort_e2 hgl h1 (lt1_pw h2)
        simp! only [compF, grp_dict, toKey_int, look1, get1, srt2]
end PyX
set_option linter.all false
set_option maxRecDepth 100000
namespace PyX
open PyI
open PySem (Str)
/-! rows as a picture -/
def flat (rows : List (Int × Row)) : List Cell := rows.flatMap fun r => r.2.map fun c => ((c.1, r.1), c.2)
theorem r_rows_print {rows : List (Int × Row)} {M : List Cell} {k : Nat} {S : Sto} (hl : (flat rows).length ≤ LINE) (p : (flat rows).Perm M) (hs : (M.map (·.1)).Pairwise lt2) : run tab (k + 1) 10 [.p (eRows rows)] S = some (.p (ePic M), S) := by
  refine run_W at_rows_print rfl ?_
  unfold f_rows_print
  simp! only [start, lineL]
  rw [compL2_eq rows (fun r => .p (eYR r)) (fun r => (r.2.map fun c => .p (eP ((c.1, r.1), c.2))))]
  · have e : (rows.flatMap fun r => (r.2.map fun c => D.p (eP ((c.1, r.1), c.2)))) = (flat rows).map fun c => D.p (eP c) := by
      unfold flat
      rw [List.map_flatMap]
      congr 1
      funext r
      rw [List.map_map]
      rfl
    rw [e]
    simp! only [sort_eP hl p hs, hl, W_some]
    (first | exact List.prefix_refl _ | exact ⟨rfl, List.prefix_refl _⟩ | exact List.prefix_append .. | exact ⟨rfl, List.prefix_append ..⟩)
  · rfl
  · rfl
  · intro r hr
    simp! only [compF2]
    rw [compL_map r.2 (fun c => .p (e2 c)) (fun c => .p (eP ((c.1, r.1), c.2)))]
    · rfl
    · rfl
    · intro c hc
      simp! only [compF]
/-! rows that differ -/
def keysU (one other : Row) : List Int := sortI (one.map (·.1) ++ other.map (·.1))
def rowDiff (one other : Row) : Row := ((keysU one other).filter fun x => decide (asc one x ≠ asc other x)).map fun x => (x, (asc other x).getD 0)
theorem r_row_diff {one other : Row} {k : Nat} {S : Sto} (h1 : Keys one) (h2 : Keys other) (hl : one.length + other.length < 64) : run tab (k + 1) 11 [.p (eRow one), .p (eRow other)] S = some (.p (eRow (rowDiff one other)), S) := by
  refine run_W at_row_diff rfl ?_
  unfold f_row_diff
  have ss : ssetP ((one.map (·.1) ++ other.map (·.1)).map P.int) = some ((keysU one other).map P.int) := sset_int (by simpa using hl) (fun x => sortI_mem) sortI_lt
  rw [List.map_append] at ss
  have hl2 : one.length + other.length ≤ 16777216 := by omega
  simp! only [start, lineL, dSrc_e2, dictOf_e2 h1, dictOf_e2 h2, dKeys_dI, hl2, ss]
  rw [compL_fil (keysU one other) (fun x => .p (.int x)) (fun x => .p (e2 (x, (asc other x).getD 0))) (fun x => decide (asc one x ≠ asc other x))]
  · have hk : ((keysU one other).filter fun x => decide (asc one x ≠ asc other x)).length ≤ 16777216 := by
      have a1 := List.length_filter_le (fun x => decide (asc one x ≠ asc other x)) (keysU one other)
      have : (keysU one other).length ≤ (one.map (·.1) ++ other.map (·.1)).length := List.Nodup.length_le_of_subset (nodup_lt sortI_lt) fun x hx => sortI_mem.mp hx
      simp at this
      omega
    simp! only [hk, W_some]
    refine ⟨?_, List.prefix_append ..⟩
    unfold rowDiff
    rw [eRow, List.map_map]
    rfl
  · rfl
  · rfl
  · intro x hx
    by_cases h : asc one x = asc other x
    · simp! only [compF, toKey_int, look_dI, getD_non, optP_dep, optP_eq, h]
      simp
    · simp! only [compF, toKey_int, look_dI, getD_non, getD_int, optP_dep, optP_eq, h]
      simp [h]
/-- what a row gives behind a change -/
def chg (row diff : Row) (j : Int) : Option Int := match asc diff j with
  | some i => if i = 0 then none else some i
  | none => asc row j
theorem chg_snoc {row done : Row} {c : Int × Int} (h : c.1 ∉ done.map (·.1)) (j : Int) : chg row (done ++ [c]) j = if j = c.1 then (if c.2 = 0 then none else some c.2) else chg row done j := by
  unfold chg
  rw [asc_append, asc_cons, asc_nil]
  by_cases e : j = c.1
  · subst e
    rw [asc_none.mpr h]
    simp
  · rw [if_neg e, if_neg (fun z => e z.symm), Option.or_none]
theorem r_row_after {row diff M : Row} {k : Nat} {S : Sto} (h1 : Keys row) (h2 : Keys diff) (hl : row.length + diff.length < 10000) (hd : ∀ c ∈ diff, (asc row c.1).getD 0 ≠ c.2)
    (hs : (M.map (·.1)).Pairwise (· < ·)) (hM : ∀ j, asc M j = chg row diff j) : run tab (k + 1) 12 [.p (eRow row), .p (eRow diff)] S = some (.p (eRow M), S) := by
  refine run_W at_row_after rfl ?_
  unfold f_row_after
  simp! only [start, dSrc_e2, dictOf_e2 h1]
  refine W_sq ?_
  refine W_loop diff (fun c => .p (e2 c)) (fun done e S' => ∃ j1 j2, ∃ A : Row, Keys A ∧ A.length ≤ row.length + done.length ∧ (∀ j, asc A j = chg row done j) ∧ e = [some (.p (eRow row)), some (.p (eRow diff)), some (.ref S.length), j1, j2] ∧ S' = S ++ [dI vI A]) rfl ?_ ?_ ⟨none, none, row, h1, by simp, fun j => rfl, rfl, rfl⟩
  · rintro done c rest e S' hL ⟨j1, j2, A, g1, g2, g3, rfl, rfl⟩
    have hdl : done.length < diff.length := by rw [hL]; simp
    have hn : c.1 ∉ done.map (·.1) := by
      have q := h2
      unfold Keys at q
      rw [hL, List.map_append, List.nodup_append] at q
      exact fun z => q.2.2 c.1 z c.1 (by simp) rfl
    have hA : asc A c.1 = asc row c.1 := by
      rw [g3]
      unfold chg
      rw [asc_none.mpr hn]
    have hne : (asc A c.1).getD 0 ≠ c.2 := by
      rw [hA]
      exact hd c (by rw [hL]; simp)
    have b1 : (((asc A c.1).getD 0 : Int) == c.2) = false := by simpa using hne
    have hlen : A.length < 16777216 := by omega
    by_cases hz : c.2 = 0
    · have b2 : (c.2 == 0) = true := by simpa using hz
      have b3 : (asc A c.1).isSome = true := by
        cases q : asc A c.1 with
        | none => rw [q] at hne; exact absurd hz.symm hne
        | some v => rfl
      simp! only [turnF, toKey_int, look_dI, getD_int, b1, b2, delIx, Option.isSome_map, b3, dropK_dI, W_some, still]
      refine ⟨_, _, del A c.1, keys_del g1, ?_, fun j => ?_, rfl, rfl⟩
      · have := len_del (A := A) (k := c.1)
        simp
        omega
      · rw [asc_del, chg_snoc hn, g3, if_pos hz]
    · have b2 : (c.2 == 0) = false := by simpa using hz
      simp! only [turnF, toKey_int, look_dI, getD_int, b1, b2, hlen, putK_dI, W_some, still]
      refine ⟨_, _, upd A c.1 c.2, keys_upd g1, ?_, fun j => ?_, rfl, rfl⟩
      · have := len_upd (A := A) (k := c.1) (v := c.2)
        simp
        omega
      · rw [asc_upd, chg_snoc hn, g3, if_neg hz]
  · rintro e S' ⟨j1, j2, A, g1, g2, g3, rfl, rfl⟩
    have pm : A.Perm M := perm_of_asc g1 (nodup_lt hs) fun j => by rw [g3, hM]
    have srt := sort_e2 (L := A) (by show _ ≤ 16777216; omega) pm (lt1_pw hs)
    simp! only [dItems_dI, srt, W_some]
    (first | exact List.prefix_refl _ | exact ⟨rfl, List.prefix_refl _⟩ | exact List.prefix_append .. | exact ⟨rfl, List.prefix_append ..⟩)
/-! bytes of rows -/
def cellsU (b : Int) : Row → List Nat
  | [] => []
  | c :: r => sgnB (c.1 - b) ++ c.2.toNat :: cellsU c.1 r
theorem cellsU_cons {b : Int} {c : Int × Int} {r : Row} : cellsU b (c :: r) = sgnB (c.1 - b) ++ c.2.toNat :: cellsU c.1 r := rfl
def cellsB (r : Row) : List Nat := numB r.length ++ cellsU 0 r
/-- places and inks within bounds -/
def InB (r : Row) : Prop := ∀ c ∈ r, -50000 ≤ c.1 ∧ c.1 ≤ 50000 ∧ 0 ≤ c.2 ∧ c.2 ≤ 200
theorem sgn_lt {i : Int} (h1 : -400000 < i) (h2 : i < 400000) : sgn i < 800000 := by
  unfold sgn
  split <;> omega
theorem sgnB_len {i : Int} (h1 : -400000 < i) (h2 : i < 400000) : 1 ≤ (sgnB i).length ∧ (sgnB i).length ≤ 3 := numB_len (Nat.lt_trans (sgn_lt h1 h2) (by decide))
theorem cellsU_len : ∀ {r : Row} {b : Int}, InB r → -50000 ≤ b → b ≤ 50000 → (cellsU b r).length ≤ 4 * r.length
  | [], b, _, _, _ => by simp [cellsU]
  | c :: r, b, h, h1, h2 => by
    obtain ⟨q1, q2, q3, q4⟩ := h c (List.mem_cons_self ..)
    have := sgnB_len (i := c.1 - b) (by omega) (by omega)
    have := cellsU_len (r := r) (b := c.1) (fun d hd => h d (List.mem_cons_of_mem _ hd)) q1 q2
    rw [cellsU_cons]
    simp
    omega
theorem r_cells_bytes {r : Row} {k : Nat} {S : Sto} (hr : r.length < 1000) (hb : InB r) : run tab (k + 3) 13 [.p (eRow r)] S = some (.p (eN (cellsB r)), S) := by
  refine run_W at_cells_bytes rfl ?_
  unfold f_cells_bytes
  simp! only [start, r_number_bytes r.length (show r.length < 1000000 by omega)]
  refine W_sq ?_
  have tl : (cellsB r).length ≤ 10000 := by
    unfold cellsB
    have := cellsU_len hb (b := 0) (by omega) (by omega)
    have := numB_len (n := r.length) (by omega)
    simp
    omega
  refine W_loop r (fun c => .p (e2 c)) (fun done e S' => ∃ j1 j2, ∃ (b : Int) (out : List Nat), -50000 ≤ b ∧ b ≤ 50000 ∧ (∀ rest, r = done ++ rest → cellsB r = out ++ cellsU b rest) ∧ e = [some (.p (eRow r)), some (.p (eN out)), some (.p (.int b)), j1, j2] ∧ S' = S) rfl ?_ ?_ ⟨none, none, 0, numB r.length, by omega, by omega, fun rest hr => by rw [← show r = rest from hr]; rfl, rfl, rfl⟩
  · rintro done c rest e S' hL ⟨j1, j2, b, out, g1, g2, g3, rfl, rfl⟩
    obtain ⟨q1, q2, q3, q4⟩ := hb c (by rw [hL]; simp)
    have hs := r_signed_bytes (c.1 - b) (k := k) (S := S') (by omega) (by omega)
    have z := g3 (c :: rest) hL
    have hlen : out.length + (sgnB (c.1 - b)).length + 1 ≤ 10000 := by
      rw [z] at tl
      rw [cellsU_cons] at tl
      simp at tl
      omega
    have l1 : out.length + (sgnB (c.1 - b)).length ≤ 16777216 := by omega
    have l2 : out.length + (sgnB (c.1 - b)).length + 1 ≤ 16777216 := by omega
    have l3 : out.length + ((sgnB (c.1 - b)).length + 1) ≤ 16777216 := by omega
    simp! only [turnF, hs, l1, l2, l3, W_some, still]
    rw [show (out.map fun b => P.int (b : Nat)) ++ (((sgnB (c.1 - b)).map fun b => P.int (b : Nat)) ++ [P.int c.2]) = (out ++ (sgnB (c.1 - b) ++ [c.2.toNat])).map fun b => P.int (b : Nat) by simp; omega]
    refine ⟨_, _, c.1, out ++ (sgnB (c.1 - b) ++ [c.2.toNat]), q1, q2, fun rest' hr' => ?_, rfl⟩
    have : rest' = rest := by
      have e := hL.symm.trans hr'
      simp at e
      exact e.symm
    subst this
    rw [z, cellsU_cons]
    simp
  · rintro e S' ⟨j1, j2, b, out, g1, g2, g3, rfl, rfl⟩
    have z := g3 [] (by simp)
    simp! only [W_some]
    rw [z]
    simp [cellsU]
end PyX
set_option linter.all false
set_option maxRecDepth 100000
namespace PyX
open PyI
open PySem (Str)
theorem keysU_mem {a b : Row} {x : Int} : x ∈ keysU a b ↔ x ∈ a.map (·.1) ∨ x ∈ b.map (·.1) := by
  unfold keysU
  rw [sortI_mem, List.mem_append]
theorem asc_mem' {A : Row} {x v : Int} (h : asc A x = some v) : (x, v) ∈ A := by
  induction A with
  | nil => cases h
  | cons p A ih =>
    rw [asc_cons] at h
    split at h
    · rename_i e
      cases h
      rw [← e]
      exact List.mem_cons_self ..
    · exact List.mem_cons_of_mem _ (ih h)
theorem InB_diff {a b : Row} (ha : InB a) (hb : InB b) : InB (rowDiff a b) := by
  intro c hc
  unfold rowDiff at hc
  obtain ⟨x, hx, rfl⟩ := List.mem_map.mp hc
  have hx2 := keysU_mem.mp (List.mem_filter.mp hx).1
  have q : -50000 ≤ x ∧ x ≤ 50000 := by
    rcases hx2 with h | h
    · obtain ⟨c2, hc2, rfl⟩ := List.mem_map.mp h
      exact ⟨(ha c2 hc2).1, (ha c2 hc2).2.1⟩
    · obtain ⟨c2, hc2, rfl⟩ := List.mem_map.mp h
      exact ⟨(hb c2 hc2).1, (hb c2 hc2).2.1⟩
  refine ⟨q.1, q.2, ?_⟩
  cases h : asc b x with
  | none => simp
  | some v =>
    have := hb _ (asc_mem' h)
    exact ⟨this.2.2.1, this.2.2.2⟩
theorem diff_len {a b : Row} : (rowDiff a b).length ≤ a.length + b.length := by
  unfold rowDiff
  rw [List.length_map]
  have a1 := List.length_filter_le (fun x => decide (asc a x ≠ asc b x)) (keysU a b)
  have : (keysU a b).length ≤ (a.map (·.1) ++ b.map (·.1)).length := List.Nodup.length_le_of_subset (nodup_lt sortI_lt) fun x hx => sortI_mem.mp hx
  simp at this
  omega
theorem cellsB_len {r : Row} (hb : InB r) (hr : r.length < 1000) : 1 ≤ (cellsB r).length ∧ (cellsB r).length ≤ 3 + 4 * r.length := by
  unfold cellsB
  have := cellsU_len hb (b := 0) (by omega) (by omega)
  have := numB_len (n := r.length) (by omega)
  simp
  omega
def rowB (before row : Row) : List Nat := if (cellsB (rowDiff before row)).length < (cellsB row).length then 1 :: cellsB (rowDiff before row) else 0 :: cellsB row
theorem rowB_len {a b : Row} (h1 : InB a) (h2 : InB b) (hl : a.length + b.length < 64) : (rowB a b).length ≤ 4 + 4 * b.length := by
  have := cellsB_len h2 (by omega)
  unfold rowB
  split
  · simp; omega
  · simp; omega
theorem r_row_bytes {a b : Row} {k : Nat} {S : Sto} (h1 : Keys a) (h2 : Keys b) (b1 : InB a) (b2 : InB b) (hl : a.length + b.length < 64) : run tab (k + 4) 15 [.p (eRow a), .p (eRow b)] S = some (.p (eN (rowB a b)), S) := by
  refine run_W at_row_bytes rfl ?_
  unfold f_row_bytes
  have dl := diff_len (a := a) (b := b)
  have c1 := r_cells_bytes (r := b) (k := k) (S := S) (by omega) b2
  have c2 := r_cells_bytes (r := rowDiff a b) (k := k) (S := S) (by omega) (InB_diff b1 b2)
  have l1 := cellsB_len b2 (by omega)
  have l2 := cellsB_len (InB_diff b1 b2) (by omega)
  have l3 : 1 + (cellsB b).length ≤ 16777216 := by omega
  have l4 : 1 + (cellsB (rowDiff a b)).length ≤ 16777216 := by omega
  have l3' : (cellsB b).length + 1 ≤ 16777216 := by omega
  have l4' : (cellsB (rowDiff a b)).length + 1 ≤ 16777216 := by omega
  by_cases h : (cellsB (rowDiff a b)).length < (cellsB b).length
  · have g : decide ((((cellsB (rowDiff a b)).length + 1 : Nat) : Int) < (((cellsB b).length + 1 : Nat) : Int)) = true := decide_eq_true (by omega)
    simp! only [start, c1, r_row_diff h1 h2 hl, c2, l3, l4, l3', l4', g, W_some]
    unfold rowB
    rw [if_pos h]
    (first | exact List.prefix_refl _ | exact ⟨rfl, List.prefix_refl _⟩ | exact List.prefix_append .. | exact ⟨rfl, List.prefix_append ..⟩)
  · have g : decide ((((cellsB (rowDiff a b)).length + 1 : Nat) : Int) < (((cellsB b).length + 1 : Nat) : Int)) = false := decide_eq_false (by omega)
    simp! only [start, c1, r_row_diff h1 h2 hl, c2, l3, l4, l3', l4', g, W_some]
    unfold rowB
    rw [if_neg h]
    (first | exact List.prefix_refl _ | exact ⟨rfl, List.prefix_refl _⟩ | exact List.prefix_append .. | exact ⟨rfl, List.prefix_append ..⟩)
/-- what makes a picture's rows -/
structure RowsOf (pic : List Cell) (rows : List (Int × Row)) : Prop where
  len : pic.length ≤ 10000
  h1 : (rows.map (·.1)).Pairwise (· < ·)
  h2 : ∀ y, gath pic y ≠ [] ↔ y ∈ rows.map (·.1)
  h3 : ∀ r ∈ rows, (gath pic r.1).Perm r.2 ∧ (r.2.map (·.1)).Pairwise (· < ·)
theorem RowsOf.run {pic : List Cell} {rows : List (Int × Row)} (h : RowsOf pic rows) {k : Nat} {S : Sto} : PyI.run tab (k + 1) 9 [.p (ePic pic)] S = some (.p (eRows rows), S) := r_rows_of h.len h.h1 h.h2 h.h3
/-- rows within bounds -/
structure RB (rows : List (Int × Row)) : Prop where
  len : rows.length ≤ 20
  at_ : ∀ r ∈ rows, -50000 ≤ r.1 ∧ r.1 ≤ 50000 ∧ r.2.length ≤ 10 ∧ InB r.2 ∧ (r.2.map (·.1)).Pairwise (· < ·)
def packU (last : Int) (cells : Row) : List (Int × Row) → List Nat
  | [] => []
  | r :: rest => sgnB (r.1 - last) ++ (rowB cells r.2 ++ packU r.1 r.2 rest)
theorem packU_cons {last : Int} {cells : Row} {r : Int × Row} {rest : List (Int × Row)} : packU last cells (r :: rest) = sgnB (r.1 - last) ++ (rowB cells r.2 ++ packU r.1 r.2 rest) := rfl
def packH (rows : List (Int × Row)) : List Nat := 80 :: 75 :: (numB rows.length ++ packU 0 [] rows)
def packP (rows : List (Int × Row)) : List Nat := packH rows ++ [sumF 65535 (packH rows) % 256, sumF 65535 (packH rows) / 256]
theorem packU_len : ∀ {rows : List (Int × Row)} {last : Int} {cells : Row}, (∀ r ∈ rows, -50000 ≤ r.1 ∧ r.1 ≤ 50000 ∧ r.2.length ≤ 10 ∧ InB r.2 ∧ (r.2.map (·.1)).Pairwise (· < ·)) → -50000 ≤ last → last ≤ 50000 → InB cells → cells.length ≤ 10 → (packU last cells rows).length ≤ 100 * rows.length
  | [], _, _, _, _, _, _, _ => by simp [packU]
  | r :: rest, last, cells, h, h1, h2, h3, h4 => by
    obtain ⟨q1, q2, q3, q4, q5⟩ := h r (List.mem_cons_self ..)
    have a1 := packU_len (rows := rest) (last := r.1) (cells := r.2) (fun d hd => h d (List.mem_cons_of_mem _ hd)) q1 q2 q4 q3
    have a2 := sgnB_len (i := r.1 - last) (by omega) (by omega)
    have a3 := rowB_len h3 q4 (by omega)
    rw [packU_cons]
    simp
    omega
theorem numB_ne (n : Nat) : numB n ≠ [] := by
  unfold numB
  split <;> simp
theorem InB_nil : InB [] := fun c hc => by simp at hc
theorem r_packed_page {pic : List Cell} {rows : List (Int × Row)} (h : RowsOf pic rows) (hb : RB rows) {k : Nat} {S : Sto} : run tab (k + 5) 16 [.p (ePic pic)] S = some (.p (eN (packP rows)), S) := by
  refine run_W at_packed_page rfl ?_
  unfold f_packed_page
  have tl : (packU 0 [] rows).length ≤ 2000 := by
    have := packU_len (last := 0) (cells := []) hb.at_ (by omega) (by omega) InB_nil (by simp)
    have := hb.len
    omega
  have nl := numB_len (n := rows.length) (by have := hb.len; omega)
  have nn := numB_ne rows.length
  have n1 : 2 + (numB rows.length).length ≤ 16777216 := by omega
  have n2 : ((numB rows.length).map fun b => P.int (b : Nat)) ≠ [] := by simpa using nn
  simp! only [start, h.run, r_number_bytes rows.length (show rows.length < 1000000 by have := hb.len; omega), n1, n2, ne_eq, not_false_eq_true, List.all_cons, List.all_nil]
  refine W_sq ?_
  refine W_loop rows (fun r => .p (eYR r)) (fun done e S' => ∃ j1 j2, ∃ (last : Int) (cells : Row) (out : List Nat), -50000 ≤ last ∧ last ≤ 50000 ∧ cells.length ≤ 10 ∧ InB cells ∧ Keys cells ∧ (∀ rest, rows = done ++ rest → packH rows = out ++ packU last cells rest) ∧
    e = [some (.p (ePic pic)), some (.p (eRows rows)), some (.p (eN out)), some (.p (.int last)), some (.p (eRow cells)), j1, j2] ∧ S' = S) rfl ?_ ?_ ⟨none, none, 0, [], 80 :: 75 :: numB rows.length, by omega, by omega, by simp, InB_nil, List.nodup_nil, fun rest hr => by rw [← show rows = rest from hr]; rfl, rfl, rfl⟩
  · rintro done r rest e S' hL ⟨j1, j2, last, cells, out, g1, g2, g3, g4, g5, g6, rfl, rfl⟩
    obtain ⟨q1, q2, q3, q4, q5⟩ := hb.at_ r (by rw [hL]; simp)
    have hs := r_signed_bytes (r.1 - last) (k := k + 2) (S := S') (by omega) (by omega)
    have z := g6 (r :: rest) hL
    have hlen : out.length + (sgnB (r.1 - last)).length + (rowB cells r.2).length ≤ 10000 := by
      have zl := congrArg List.length z
      rw [packU_cons] at zl
      unfold packH at zl
      simp at zl
      omega
    have l1 : out.length + (sgnB (r.1 - last)).length ≤ 16777216 := by omega
    have l2 : out.length + (sgnB (r.1 - last)).length + (rowB cells r.2).length ≤ 16777216 := by omega
    have l3 : out.length + ((sgnB (r.1 - last)).length + (rowB cells r.2).length) ≤ 16777216 := by omega
    simp! only [turnF, hs, r_row_bytes (k := k) (S := S') g5 (nodup_lt q5) g4 q4 (by omega), l1, l2, l3, W_some, still]
    rw [show (out.map fun b => P.int (b : Nat)) ++ (((sgnB (r.1 - last)).map fun b => P.int (b : Nat)) ++ ((rowB cells r.2).map fun b => P.int (b : Nat))) = (out ++ (sgnB (r.1 - last) ++ rowB cells r.2)).map fun b => P.int (b : Nat) by simp]
    refine ⟨_, _, r.1, r.2, out ++ (sgnB (r.1 - last) ++ rowB cells r.2), q1, q2, q3, q4, nodup_lt q5, fun rest' hr' => ?_, rfl⟩
    have : rest' = rest := by
      have e := hL.symm.trans hr'
      simp at e
      exact e.symm
    subst this
    rw [z, packU_cons]
    simp
  · rintro e S' ⟨j1, j2, last, cells, out, g1, g2, g3, g4, g5, g6, rfl, rfl⟩
    have z := g6 [] (by simp)
    have z2 : packH rows = out := by rw [z]; simp [packU]
    subst z2
    have l1 : (packH rows).length + 2 ≤ 16777216 := by
      unfold packH
      simp
      omega
    simp! only [r_sum_bytes, l1, W_some]
    exact ⟨by simp [packP], List.prefix_refl _⟩
end PyX
set_option linter.all false
set_option maxRecDepth 100000
namespace PyX
open PyI
open PySem (Str)
theorem range_zip {α : Type} (r : List α) : ((List.range r.length).map fun i => D.p (.int (i : Nat))) = r.zipIdx.map fun p => D.p (.int (p.2 : Nat)) := by
  have : List.range r.length = r.zipIdx.map (·.2) := by
    rw [List.zipIdx_map_snd, List.range_eq_range']
  rw [this, List.map_map]
  rfl
theorem zip_fst {α : Type} (r : List α) : r.zipIdx.map (·.1) = r := List.zipIdx_map_fst 0 r
theorem at_nat (pr : List Nat) (b : Nat) (post : List Nat) : atI ((pr ++ b :: post).map fun b => P.int (b : Nat)) (pr.length : Nat) = some (.int (b : Nat)) := by
  rw [atI_nat]
  simp
theorem cellsU_ge : ∀ {r : Row} {b : Int}, r.length ≤ (cellsU b r).length
  | [], b => by simp
  | c :: r, b => by
    have := cellsU_ge (r := r) (b := c.1)
    rw [cellsU_cons]
    simp
    omega
theorem r_read_cells {r : Row} {l pre post : List Nat} {least : Int} {k : Nat} {S : Sto} (hl : l = pre ++ (cellsB r ++ post)) (hs : l.length ≤ LINE) (hb : InB r) (hsrt : (r.map (·.1)).Pairwise (· < ·)) (hink : ∀ c ∈ r, least ≤ c.2 ∧ c.2 ≤ 4) :
    run tab (k + 3) 14 [.p (eN l), .p (.int (pre.length : Nat)), .p (.int least)] S = some (.p (.tup [eRow r, .int ((pre.length + (cellsB r).length : Nat) : Int)]), S) := by
  refine run_W at_read_cells rfl ?_
  unfold f_read_cells
  have hs2 : l.length ≤ 16777216 := hs
  have r1 := r_read_number r.length pre (cellsU 0 r ++ post) (l := l) (k := k + 1) (S := S) (by rw [hl]; simp [cellsB]) hs
  have hge : r.length ≤ l.length := by
    rw [hl]
    have := cellsU_ge (r := r) (b := 0)
    simp [cellsB]
    omega
  have hmin : decide ((l.length : Int) < (r.length : Int)) = false := decide_eq_false (by omega)
  have hmin2 : ¬ ((l.length : Int) < (r.length : Int)) := by omega
  have s62 : small62 (r.length : Int) = true := small62_nat (by omega)
  simp! only [start, r1, hmin2, s62, range_zip]
  refine W_sq ?_
  refine W_loop r.zipIdx (fun p => .p (.int (p.2 : Nat))) (fun done e S' => ∃ j1 j2, ∃ (b : Int) (out : Row) (pr : List Nat), -50000 ≤ b ∧ b ≤ 50000 ∧
    (∀ rest, r.zipIdx = done ++ rest → r = out ++ rest.map (·.1) ∧ l = pr ++ (cellsU b (rest.map (·.1)) ++ post) ∧ pre.length + (cellsB r).length = pr.length + (cellsU b (rest.map (·.1))).length ∧ (out ≠ [] → ∀ c ∈ rest.map (·.1), b < c.1)) ∧
    e = [some (.p (eN l)), some (.p (.int (pr.length : Nat))), some (.p (.int least)), some (.p (.int (r.length : Nat))), some (.ref S.length), some (.p (.int b)), j1, j2] ∧ S' = S ++ [lstO out]) rfl ?_ ?_
    ⟨none, none, 0, [], pre ++ numB r.length, by omega, by omega, fun rest hr => ?_, ?_, rfl⟩
  · rintro done ⟨c, i⟩ rest e S' hL ⟨j1, j2, b, out, pr, g1, g2, g3, rfl, rfl⟩
    obtain ⟨z1, z2, z3, z4⟩ := g3 _ hL
    simp only [List.map_cons] at z1 z2 z3 z4
    have hc : c ∈ r := by rw [z1]; simp
    obtain ⟨q1, q2, q3, q4⟩ := hb c hc
    obtain ⟨i1, i2⟩ := hink c hc
    rw [cellsU_cons] at z2 z3
    have r2 := r_read_signed (c.1 - b) pr (c.2.toNat :: (cellsU c.1 (rest.map (·.1)) ++ post)) (l := l) (k := k) (S := S ++ [lstO out]) (by rw [z2]; simp) hs
    have len2 : (sgnB (c.1 - b)).length + pr.length < l.length := by rw [z2]; simp; omega
    have g5 : decide (((pr.length + (sgnB (c.1 - b)).length : Nat) : Int) < (l.length : Int)) = true := decide_eq_true (by omega)
    have g6 : atI (l.map fun b => P.int (b : Nat)) ((pr.length + (sgnB (c.1 - b)).length : Nat) : Int) = some (.int c.2) := by
      have := at_nat (pr ++ sgnB (c.1 - b)) c.2.toNat (cellsU c.1 (rest.map (·.1)) ++ post)
      rw [List.length_append] at this
      rw [z2, show pr ++ (sgnB (c.1 - b) ++ c.2.toNat :: cellsU c.1 (rest.map (·.1)) ++ post) = pr ++ sgnB (c.1 - b) ++ c.2.toNat :: (cellsU c.1 (rest.map (·.1)) ++ post) by simp, this]
      simp
      omega
    have g7 : decide (c.2 < least) = false := decide_eq_false (by omega)
    have g8 : decide (4 < c.2) = false := decide_eq_false (by omega)
    have ol : out.length < 16777216 := by
      have := congrArg List.length z1
      simp at this
      omega
    have g9 : b + (c.1 - b) = c.1 := by omega
    have fin : ∃ j1 j2, ∃ (b' : Int) (out' : Row) (pr' : List Nat), -50000 ≤ b' ∧ b' ≤ 50000 ∧
    (∀ rest', r.zipIdx = done ++ (c, i) :: rest' → r = out' ++ rest'.map (·.1) ∧ l = pr' ++ (cellsU b' (rest'.map (·.1)) ++ post) ∧ pre.length + (cellsB r).length = pr'.length + (cellsU b' (rest'.map (·.1))).length ∧ (out' ≠ [] → ∀ c ∈ rest'.map (·.1), b' < c.1)) ∧
    ([some (.p (eN l)), some (.p (.int (((pr.length + (sgnB (c.1 - b)).length : Nat) : Int) + 1))), some (.p (.int least)), some (.p (.int (r.length : Nat))), some (.ref S.length), some (.p (.int c.1)), some (.p (.int (i : Nat))), some (.p (.int (c.1 - b)))] : List (Option D)) = [some (.p (eN l)), some (.p (.int (pr'.length : Nat))), some (.p (.int least)), some (.p (.int (r.length : Nat))), some (.ref S.length), some (.p (.int b')), j1, j2] ∧
      S ++ [O.lst ((out.map fun c => D.p (e2 c)) ++ [D.p (.tup [.int c.1, .int c.2])])] = S ++ [lstO out'] := by
      refine ⟨_, _, c.1, out ++ [c], pr ++ (sgnB (c.1 - b) ++ [c.2.toNat]), q1, q2, fun rest' hr' => ?_, by rw [show ((pr.length + (sgnB (c.1 - b)).length : Nat) : Int) + 1 = ((pr ++ (sgnB (c.1 - b) ++ [c.2.toNat])).length : Nat) by simp; omega], by simp⟩
      have : rest' = rest := by
        have e := hL.symm.trans hr'
        simp at e
        exact e.symm
      subst this
      refine ⟨by rw [z1]; simp, by rw [z2]; simp, by rw [z3]; simp; omega, fun _ d hd => ?_⟩
      rw [z1, List.map_append, List.pairwise_append, List.map_cons, List.pairwise_cons] at hsrt
      exact hsrt.2.1.1 d.1 (List.mem_map_of_mem hd)
    by_cases ho : out = []
    · subst ho
      simp! only [turnF, r2, g5, g6, g7, g8, g9, ol, W_some, still, List.isEmpty_nil]
      exact fin
    · have g10 : (out.map fun c => D.p (e2 c)).isEmpty = false := by simpa using ho
      have g11 : decide (c.1 - b < 1) = false := by
        have := z4 ho c (List.mem_cons_self ..)
        exact decide_eq_false (by omega)
      simp! only [turnF, r2, g5, g6, g7, g8, g9, g10, g11, ol, W_some, still]
      exact fin
  · rintro e S' ⟨j1, j2, b, out, pr, g1, g2, g3, rfl, rfl⟩
    obtain ⟨z1, z2, z3, z4⟩ := g3 [] (by simp)
    simp at z1
    subst z1
    simp! only [beq_self_eq_true, W_some]
    rw [z3]
    simp [cellsU]
  · simp at hr
    subst hr
    rw [zip_fst]
    exact ⟨rfl, by rw [hl]; simp [cellsB], by simp [cellsB]; omega, fun h => absurd rfl h⟩
  · simp
end PyX
set_option linter.all false
set_option maxRecDepth 100000
namespace PyX
open PyI
open PySem (Str)
theorem depths_int {α : Type} (l : List α) (f : α → Int) : depths (l.map fun a => P.int (f a)) = 0 := by
  induction l with
  | nil => rfl
  | cons a r ih => rw [List.map_cons]; unfold depths; rw [ih]; rfl
/-- inks as they are printed -/
def Ink (r : Row) : Prop := ∀ c ∈ r, 1 ≤ c.2 ∧ c.2 ≤ 4
theorem diff_ink {a b : Row} (hb : Ink b) : ∀ c ∈ rowDiff a b, 0 ≤ c.2 ∧ c.2 ≤ 4 := by
  intro c hc
  unfold rowDiff at hc
  obtain ⟨x, hx, rfl⟩ := List.mem_map.mp hc
  cases h : asc b x with
  | none => simp
  | some v =>
    have := hb _ (asc_mem' h)
    simp at this ⊢
    omega
theorem diff_keys {a b : Row} : ((rowDiff a b).map (·.1)).Pairwise (· < ·) := by
  unfold rowDiff
  rw [List.map_map]
  show List.Pairwise _ (List.map (fun x => x) _)
  rw [List.map_id']
  exact sortI_lt.filter _
theorem diff_ne {a b : Row} (ha : Ink a) (hb : Ink b) : ∀ c ∈ rowDiff a b, (asc a c.1).getD 0 ≠ c.2 := by
  intro c hc
  unfold rowDiff at hc
  obtain ⟨x, hx, rfl⟩ := List.mem_map.mp hc
  have h := of_decide_eq_true (List.mem_filter.mp hx).2
  dsimp only
  intro e
  apply h
  cases h1 : asc a x with
  | none =>
    cases h2 : asc b x with
    | none => rfl
    | some v =>
      have := (hb _ (asc_mem' h2)).1
      rw [h1, h2] at e
      simp at e this
      omega
  | some u =>
    cases h2 : asc b x with
    | none =>
      have := (ha _ (asc_mem' h1)).1
      rw [h1, h2] at e
      simp at e this
      omega
    | some v =>
      rw [h1, h2] at e
      simp at e
      rw [e]
theorem asc_map_self {L : List Int} {f : Int → Int} {j : Int} : asc (L.map fun x => (x, f x)) j = if j ∈ L then some (f j) else none := by
  induction L with
  | nil => rfl
  | cons x L ih =>
    rw [List.map_cons, asc_cons, ih]
    by_cases e : x = j
    · subst e; simp
    · have e2 : ¬ j = x := fun z => e z.symm
      simp [e, e2]
theorem chg_diff {a b : Row} (hb : Ink b) (j : Int) : asc b j = chg a (rowDiff a b) j := by
  unfold chg rowDiff
  rw [asc_map_self]
  by_cases h : asc a j = asc b j
  · have : j ∉ (keysU a b).filter fun x => decide (asc a x ≠ asc b x) := fun z => of_decide_eq_true (List.mem_filter.mp z).2 h
    rw [if_neg this, h]
  · have : j ∈ (keysU a b).filter fun x => decide (asc a x ≠ asc b x) := by
      refine List.mem_filter.mpr ⟨keysU_mem.mpr ?_, decide_eq_true h⟩
      rw [← asc_isSome, ← asc_isSome]
      cases h1 : asc a j with
      | some v => exact .inl rfl
      | none =>
        cases h2 : asc b j with
        | some v => exact .inr rfl
        | none => rw [h1, h2] at h; exact absurd rfl h
    rw [if_pos this]
    dsimp only
    cases h2 : asc b j with
    | none => rfl
    | some v =>
      have := (hb _ (asc_mem' h2)).1
      simp at this
      rw [Option.getD_some, if_neg (by omega)]
theorem cellsU_256 : ∀ {r : Row} {b : Int}, InB r → ∀ x ∈ cellsU b r, x < 256
  | [], b, _, x, hx => by simp [cellsU] at hx
  | c :: r, b, h, x, hx => by
    rw [cellsU_cons] at hx
    rcases List.mem_append.mp hx with e | e
    · exact numB_256 e
    · rcases List.mem_cons.mp e with e | e
      · have := h c (List.mem_cons_self ..)
        omega
      · exact cellsU_256 (fun d hd => h d (List.mem_cons_of_mem _ hd)) x e
theorem cellsB_256 {r : Row} (h : InB r) : ∀ x ∈ cellsB r, x < 256 := by
  intro x hx
  rcases List.mem_append.mp hx with e | e
  · exact numB_256 e
  · exact cellsU_256 h x e
theorem rowB_256 {a b : Row} (h1 : InB a) (h2 : InB b) : ∀ x ∈ rowB a b, x < 256 := by
  intro x hx
  unfold rowB at hx
  split at hx
  · rcases List.mem_cons.mp hx with e | e
    · omega
    · exact cellsB_256 (InB_diff h1 h2) x e
  · rcases List.mem_cons.mp hx with e | e
    · omega
    · exact cellsB_256 h2 x e
theorem packU_256 : ∀ {rows : List (Int × Row)} {last : Int} {cells : Row}, InB cells → (∀ r ∈ rows, InB r.2) → ∀ x ∈ packU last cells rows, x < 256
  | [], _, _, _, _, x, hx => by simp [packU] at hx
  | r :: rest, last, cells, h1, h2, x, hx => by
    rw [packU_cons] at hx
    have hr := h2 r (List.mem_cons_self ..)
    rcases List.mem_append.mp hx with e | e
    · exact numB_256 e
    · rcases List.mem_append.mp e with e | e
      · exact rowB_256 h1 hr x e
      · exact packU_256 hr (fun d hd => h2 d (List.mem_cons_of_mem _ hd)) x e
/-! checks stay below 65536 -/
theorem step1_lt {v : Nat} (h : v < 65536) : step1 v < 65536 := by
  unfold step1
  split
  · exact Nat.xor_lt_two_pow (n := 16) (by omega) (by omega)
  · omega
theorem steps_lt : ∀ {n v : Nat}, v < 65536 → steps n v < 65536
  | 0, v, h => h
  | n + 1, v, h => step1_lt (steps_lt h)
theorem sumA_lt {v b : Nat} (h : v < 65536) (hb : b < 65536) : sumA v b < 65536 := steps_lt (Nat.xor_lt_two_pow (n := 16) h hb)
theorem sumF_lt : ∀ {l : List Nat} {v : Nat}, v < 65536 → (∀ b ∈ l, b < 256) → sumF v l < 65536
  | [], v, h, _ => h
  | b :: l, v, h, hl => by
    unfold sumF
    rw [List.foldl_cons]
    exact sumF_lt (l := l) (sumA_lt h (by have := hl b (List.mem_cons_self ..); omega)) fun c hc => hl c (List.mem_cons_of_mem _ hc)
theorem packH_256 {rows : List (Int × Row)} (hb : RB rows) : ∀ x ∈ packH rows, x < 256 := by
  intro x hx
  unfold packH at hx
  rcases List.mem_cons.mp hx with e | hx
  · omega
  rcases List.mem_cons.mp hx with e | hx
  · omega
  rcases List.mem_append.mp hx with e | e
  · exact numB_256 e
  · exact packU_256 InB_nil (fun r hr => (hb.at_ r hr).2.2.2.1) x e
theorem packP_256 {rows : List (Int × Row)} (hb : RB rows) : ∀ x ∈ packP rows, x < 256 := by
  intro x hx
  have z := sumF_lt (v := 65535) (by omega) (packH_256 hb)
  unfold packP at hx
  rcases List.mem_append.mp hx with e | e
  · exact packH_256 hb x e
  · simp at e
    omega
theorem packH_len {rows : List (Int × Row)} (hb : RB rows) : 2 ≤ (packH rows).length ∧ (packH rows).length ≤ 3000 := by
  have := packU_len (last := 0) (cells := []) hb.at_ (by omega) (by omega) InB_nil (by simp)
  have := hb.len
  have nl := numB_len (n := rows.length) (by have := hb.len; omega)
  unfold packH
  simp
  omega
theorem r_rows_print_ref {rows : List (Int × Row)} {M : List Cell} {k h : Nat} {S : Sto} (hS : S[h]? = some (.lst (rows.map fun r => .p (eYR r)))) (hl : (flat rows).length ≤ LINE) (p : (flat rows).Perm M) (hs : (M.map (·.1)).Pairwise lt2) : run tab (k + 1) 10 [.ref h] S = some (.p (ePic M), S) := by
  refine run_W at_rows_print rfl ?_
  unfold f_rows_print
  simp! only [start, lineL, hS]
  rw [compL2_eq rows (fun r => .p (eYR r)) (fun r => (r.2.map fun c => .p (eP ((c.1, r.1), c.2))))]
  · have e : (rows.flatMap fun r => (r.2.map fun c => D.p (eP ((c.1, r.1), c.2)))) = (flat rows).map fun c => D.p (eP c) := by
      unfold flat
      rw [List.map_flatMap]
      congr 1
      funext r
      rw [List.map_map]
      rfl
    rw [e]
    simp! only [sort_eP hl p hs, hl, W_some]
    (first | exact List.prefix_refl _ | exact ⟨rfl, List.prefix_refl _⟩ | exact List.prefix_append .. | exact ⟨rfl, List.prefix_append ..⟩)
  · rfl
  · simp [still, hS]
  · intro r hr
    simp! only [compF2]
    rw [compL_map r.2 (fun c => .p (e2 c)) (fun c => .p (eP ((c.1, r.1), c.2)))]
    · rfl
    · rfl
    · intro c hc
      simp! only [compF]
theorem r_read_packed {pic : List Cell} {rows : List (Int × Row)} (h : RowsOf pic rows) (hb : RB rows) (hi : ∀ r ∈ rows, Ink r.2) (hfl : (flat rows).Perm pic) (hsp : (pic.map (·.1)).Pairwise lt2) {k : Nat} {S : Sto} :
    run tab (k + 6) 17 [.p (eN (packP rows))] S = some (.p (ePic pic), S) := by
  refine run_W at_read_packed rfl ?_
  unfold f_read_packed
  have pl := packH_len hb
  have pl2 : (packP rows).length ≤ 16777216 := by unfold packP; simp; omega
  have c1 : cutL ((packP rows).map fun b => P.int (b : Nat)) none (some 2) = [P.int 80, P.int 75] := by
    unfold packP packH
    simp [cutL, sIx]
  have hrl := hb.len
  have r1 := r_read_number rows.length [80, 75] (packU 0 [] rows ++ [sumF 65535 (packH rows) % 256, sumF 65535 (packH rows) / 256]) (l := packP rows) (k := k + 4) (S := S) (by simp [packP, packH]) pl2
  have r1' : run tab (k + 4 + 1) 2 [.p (eN (packP rows)), .p (.int 2)] S = some (.p (.tup [.int (rows.length : Nat), .int ((2 + (numB rows.length).length : Nat) : Int)]), S) := r1
  have g1 : decide ((4096 : Int) < (rows.length : Int)) = false := decide_eq_false (by omega)
  have s62 : small62 (rows.length : Int) = true := small62_nat (by omega)
  simp! only [start, r_is_bytes (packP rows) (k := k + 4) (S := S) pl2 (packP_256 hb), c1, beq_self_eq_true, r1', g1, s62, range_zip]
  refine W_sq ?_
  refine W_loop rows.zipIdx (fun p => .p (.int (p.2 : Nat))) (fun done e S' => ∃ j6 j7 j8 j9, ∃ (last : Int) (cells : Row) (out : List (Int × Row)) (pr : List Nat), -50000 ≤ last ∧ last ≤ 50000 ∧ cells.length ≤ 10 ∧ InB cells ∧ Ink cells ∧ Keys cells ∧
    (∀ rest, rows.zipIdx = done ++ rest → rows = out ++ rest.map (·.1) ∧ packP rows = pr ++ (packU last cells (rest.map (·.1)) ++ [sumF 65535 (packH rows) % 256, sumF 65535 (packH rows) / 256])) ∧
    e = [some (.p (eN (packP rows))), some (.p (.int (rows.length : Nat))), some (.p (.int (pr.length : Nat))), some (.ref S.length), some (.p (.int last)), some (.p (eRow cells)), j6, j7, j8, j9, none] ∧ S' = S ++ [.lst (out.map fun r => .p (eYR r))]) rfl ?_ ?_
    ⟨none, none, none, none, 0, [], [], 80 :: 75 :: numB rows.length, by omega, by omega, by simp, InB_nil, fun c hc => by simp at hc, List.nodup_nil, fun rest hr => ?_, ?_, rfl⟩
  · rintro done ⟨r, i⟩ rest e S' hL ⟨j6, j7, j8, j9, last, cells, out, pr, g1, g2, g3, g4, g5, g6, g7, rfl, rfl⟩
    obtain ⟨z1, z2⟩ := g7 _ hL
    simp only [List.map_cons] at z1 z2
    have hr : r ∈ rows := by rw [z1]; simp
    obtain ⟨q1, q2, q3, q4, q5⟩ := hb.at_ r hr
    have q6 := hi r hr
    rw [packU_cons] at z2
    have tail : ∀ rest', rows.zipIdx = (done ++ [(r, i)]) ++ rest' → rest' = rest := by
      intro rest' hr'
      have e := hL.symm.trans hr'
      simp at e
      exact e.symm
    generalize hR : packU r.1 r.2 (rest.map (·.1)) ++ [sumF 65535 (packH rows) % 256, sumF 65535 (packH rows) / 256] = R at z2
    have z3 : packP rows = pr ++ (sgnB (r.1 - last) ++ (rowB cells r.2 ++ R)) := by rw [z2, ← hR]; simp
    have r2 := r_read_signed (r.1 - last) pr (rowB cells r.2 ++ R) (l := packP rows) (k := k + 3) (S := S ++ [.lst (out.map fun r => .p (eYR r))]) (by rw [z3]; simp) pl2
    have ol : out.length < 16777216 := by
      have := congrArg List.length z1
      simp at this
      omega
    have g9 : last + (r.1 - last) = r.1 := by omega
    have fin : ∀ (pl9 : Nat) (ch : Row) (fl : Int), pl9 = pr.length + ((sgnB (r.1 - last)).length + (rowB cells r.2).length) → ∃ j6 j7 j8 j9, ∃ (last' : Int) (cells' : Row) (out' : List (Int × Row)) (pr' : List Nat), -50000 ≤ last' ∧ last' ≤ 50000 ∧ cells'.length ≤ 10 ∧ InB cells' ∧ Ink cells' ∧ Keys cells' ∧
    (∀ rest', rows.zipIdx = done ++ (r, i) :: rest' → rows = out' ++ rest'.map (·.1) ∧ packP rows = pr' ++ (packU last' cells' (rest'.map (·.1)) ++ [sumF 65535 (packH rows) % 256, sumF 65535 (packH rows) / 256])) ∧
    ([some (.p (eN (packP rows))), some (.p (.int (rows.length : Nat))), some (.p (.int (pl9 : Nat))), some (.ref S.length), some (.p (.int r.1)), some (.p (eRow r.2)), some (.p (.int (i : Nat))), some (.p (.int (r.1 - last))), some (.p (.int fl)), some (.p (eRow ch)), none] : List (Option D)) = [some (.p (eN (packP rows))), some (.p (.int (rows.length : Nat))), some (.p (.int (pr'.length : Nat))), some (.ref S.length), some (.p (.int last')), some (.p (eRow cells')), j6, j7, j8, j9, none] ∧
    S ++ [O.lst ((out.map fun r => D.p (eYR r)) ++ [.p (.tup [.int r.1, eRow r.2])])] = S ++ [.lst (out'.map fun r => .p (eYR r))] := by
      intro pl9 ch fl hpl9
      refine ⟨_, _, _, _, r.1, r.2, out ++ [r], pr ++ (sgnB (r.1 - last) ++ rowB cells r.2), q1, q2, q3, q4, q6, nodup_lt q5, fun rest' hr' => ?_, by rw [show pl9 = (pr ++ (sgnB (r.1 - last) ++ rowB cells r.2)).length by rw [hpl9]; simp], by simp⟩
      have := tail rest' (by rw [hr']; simp)
      subst this
      exact ⟨by rw [z1]; simp, by rw [z3, hR]; simp⟩
    have len1 : pr.length + ((sgnB (r.1 - last)).length + ((rowB cells r.2).length + R.length)) = (packP rows).length := by rw [z3]; simp
    by_cases hsh : (cellsB (rowDiff cells r.2)).length < (cellsB r.2).length
    · have hB : rowB cells r.2 = 1 :: cellsB (rowDiff cells r.2) := by unfold rowB; rw [if_pos hsh]
      have g10 : decide (((pr.length + (sgnB (r.1 - last)).length : Nat) : Int) < ((packP rows).length : Int)) = true := decide_eq_true (by rw [hB] at len1; simp at len1; omega)
      have g11 : atI ((packP rows).map fun b => P.int (b : Nat)) ((pr.length + (sgnB (r.1 - last)).length : Nat) : Int) = some (.int 1) := by
        have := at_nat (pr ++ sgnB (r.1 - last)) 1 (cellsB (rowDiff cells r.2) ++ R)
        rw [List.length_append] at this
        rw [z3, hB, show pr ++ (sgnB (r.1 - last) ++ (1 :: cellsB (rowDiff cells r.2) ++ R)) = pr ++ sgnB (r.1 - last) ++ 1 :: (cellsB (rowDiff cells r.2) ++ R) by simp, this]
        rfl
      have r3 := r_read_cells (r := rowDiff cells r.2) (l := packP rows) (pre := pr ++ sgnB (r.1 - last) ++ [1]) (post := R) (least := 0) (k := k + 2) (S := S ++ [.lst (out.map fun r => .p (eYR r))]) (by rw [z3, hB]; simp) pl2 (InB_diff g4 q4) diff_keys (diff_ink q6)
      have e9 : (((pr ++ sgnB (r.1 - last) ++ [1]).length : Nat) : Int) = ((pr.length + (sgnB (r.1 - last)).length : Nat) : Int) + 1 := by simp; omega
      rw [e9] at r3
      have r4 := r_row_after (row := cells) (diff := rowDiff cells r.2) (M := r.2) (k := k + 4) (S := S ++ [.lst (out.map fun r => .p (eYR r))]) g6 (nodup_lt diff_keys) (by have := diff_len (a := cells) (b := r.2); omega) (diff_ne g5 q6) q5 (chg_diff q6)
      simp! only [turnF, r2, g10, g11, g9, ol, r3, r4, beq_self_eq_true, W_some, still]
      exact fin _ _ _ (by rw [hB]; simp; omega)
    · have hB : rowB cells r.2 = 0 :: cellsB r.2 := by unfold rowB; rw [if_neg hsh]
      have g10 : decide (((pr.length + (sgnB (r.1 - last)).length : Nat) : Int) < ((packP rows).length : Int)) = true := decide_eq_true (by rw [hB] at len1; simp at len1; omega)
      have g11 : atI ((packP rows).map fun b => P.int (b : Nat)) ((pr.length + (sgnB (r.1 - last)).length : Nat) : Int) = some (.int 0) := by
        have := at_nat (pr ++ sgnB (r.1 - last)) 0 (cellsB r.2 ++ R)
        rw [List.length_append] at this
        rw [z3, hB, show pr ++ (sgnB (r.1 - last) ++ (0 :: cellsB r.2 ++ R)) = pr ++ sgnB (r.1 - last) ++ 0 :: (cellsB r.2 ++ R) by simp, this]
        rfl
      have r3 := r_read_cells (r := r.2) (l := packP rows) (pre := pr ++ sgnB (r.1 - last) ++ [0]) (post := R) (least := 1) (k := k + 2) (S := S ++ [.lst (out.map fun r => .p (eYR r))]) (by rw [z3, hB]; simp) pl2 q4 q5 q6
      have e9 : (((pr ++ sgnB (r.1 - last) ++ [0]).length : Nat) : Int) = ((pr.length + (sgnB (r.1 - last)).length : Nat) : Int) + 1 := by simp; omega
      rw [e9] at r3
      have g12 : ((0 : Int) == 1) = false := rfl
      simp! only [turnF, r2, g10, g11, g9, ol, r3, g12, W_some, still]
      exact fin _ _ _ (by rw [hB]; simp; omega)
  · rintro e S' ⟨j6, j7, j8, j9, last, cells, out, pr, g1, g2, g3, g4, g5, g6, g7, rfl, rfl⟩
    obtain ⟨z1, z2⟩ := g7 [] (by simp)
    simp at z1
    subst z1
    have fl : (flat rows).length ≤ LINE := by
      rw [hfl.length_eq]
      have := h.len
      show _ ≤ 16777216
      omega
    have rp := r_rows_print_ref (rows := rows) (M := pic) (k := k + 4) (S := S ++ [.lst (rows.map fun r => .p (eYR r))]) (h := S.length) get_at fl hfl hsp
    simp! only [rp, r_packed_page h hb, depths_int, pyEqs_self, W_some]
    (first | exact List.prefix_refl _ | exact ⟨rfl, List.prefix_refl _⟩ | exact List.prefix_append .. | exact ⟨rfl, List.prefix_append ..⟩)
  · simp at hr
    subst hr
    rw [zip_fst]
    exact ⟨rfl, by simp [packP, packH]⟩
  · simp
    omega
end PyX
set_option linter.all false
set_option maxRecDepth 100000
namespace PyX
open PyI
open PySem (Str)
/-! checks of rows, put together two by two -/
def leaf (r : Int × Row) : Nat := sumF 65535 (sgnB r.1 ++ cellsB r.2)
def pairS (a b : Nat) : Nat := sumF 65535 [a % 256, a / 256, b % 256, b / 256]
theorem r_row_sums {pic : List Cell} {rows : List (Int × Row)} (h : RowsOf pic rows) (hb : RB rows) {k : Nat} {S : Sto} : run tab (k + 4) 18 [.p (ePic pic)] S = some (.p (.tup (rows.map fun r => .tup [.int r.1, .int (leaf r : Nat)])), S) := by
  refine run_W at_row_sums rfl ?_
  unfold f_row_sums
  have hl : rows.length ≤ 16777216 := by have := hb.len; omega
  simp! only [start, h.run, lineL]
  rw [compL_map rows (fun r => .p (eYR r)) (fun r => .p (.tup [.int r.1, .int (leaf r : Nat)]))]
  · simp! only [hl, W_some]
    (first | exact List.prefix_refl _ | exact ⟨rfl, List.prefix_refl _⟩ | exact List.prefix_append .. | exact ⟨rfl, List.prefix_append ..⟩)
  · rfl
  · rfl
  · intro r hr
    obtain ⟨q1, q2, q3, q4, q5⟩ := hb.at_ r hr
    have c1 := cellsB_len q4 (by omega)
    have c2 := sgnB_len (i := r.1) (by omega) (by omega)
    have l1 : (sgnB r.1).length + (cellsB r.2).length ≤ 16777216 := by omega
    have rs := r_sum_of (sgnB r.1 ++ cellsB r.2) (k := k + 1) (S := S)
    rw [eN, List.map_append] at rs
    simp! only [compF, r_signed_bytes r.1 (k := k + 1) (S := S) (by omega) (by omega), r_cells_bytes (r := r.2) (k := k) (S := S) (by omega) q4, l1, rs]
    rfl
theorem r_pair_sum (a b : Nat) {k : Nat} {S : Sto} : run tab (k + 3) 19 [.p (.int a), .p (.int b)] S = some (.p (.int (pairS a b : Nat)), S) := by
  refine run_W at_pair_sum rfl ?_
  unfold f_pair_sum
  have rs := r_sum_of [a % 256, a / 256, b % 256, b / 256] (k := k) (S := S)
  have rs' : run tab (k + 2) 6 [.p (.tup [.int ((a : Int) % 256), .int ((a : Int) / 256), .int ((b : Int) % 256), .int ((b : Int) / 256)])] S = some (.p (.int (pairS a b : Nat)), S) := rs
  simp! only [start, rs', W_some]
  (first | exact List.prefix_refl _ | exact ⟨rfl, List.prefix_refl _⟩ | exact List.prefix_append .. | exact ⟨rfl, List.prefix_append ..⟩)
def up : List Nat → List Nat
  | a :: b :: r => pairS a b :: up r
  | [a] => [a]
  | [] => []
theorem up_len : ∀ L : List Nat, (up L).length = (L.length + 1) / 2
  | [] => by simp [up]
  | [a] => by simp [up]
  | a :: b :: r => by
    have := up_len r
    unfold up
    simp only [List.length_cons]
    omega
def lv (L : List Nat) : List (List Nat) := if h : L.length ≤ 1 then [L] else L :: lv (up L)
termination_by L.length
decreasing_by rw [up_len]; omega
theorem lv_one {L : List Nat} (h : L.length ≤ 1) : lv L = [L] := by rw [lv, dif_pos h]
theorem lv_more {L : List Nat} (h : ¬ L.length ≤ 1) : lv L = L :: lv (up L) := by
  conv => lhs; rw [lv]
  rw [dif_neg h]
theorem up_range : ∀ (L : List Nat), ((List.range ((L.length + 1) / 2)).map fun i => if 2 * i + 1 < L.length then pairS (L.getD (2 * i) 0) (L.getD (2 * i + 1) 0) else L.getD (2 * i) 0) = up L
  | [] => by simp [up]
  | [a] => by simp [up]
  | a :: b :: r => by
    have ih := up_range r
    have e : ((a :: b :: r).length + 1) / 2 = (r.length + 1) / 2 + 1 := by simp; omega
    rw [e, List.range_succ_eq_map, List.map_cons, List.map_map]
    unfold up
    congr 1
    rw [← ih]
    congr 1
    funext i
    simp only [Function.comp, List.length_cons, Nat.succ_eq_add_one]
    have e2 : 2 * (i + 1) = 2 * i + 1 + 1 := by omega
    rw [e2]
    by_cases h : 2 * i + 1 < r.length
    · rw [if_pos (by omega), if_pos h]
      simp
    · rw [if_neg (by omega), if_neg h]
      simp
theorem atI_last {α : Type} (l : List α) (x : α) : atI (l ++ [x]) (-1) = some x := by
  unfold atI ixN
  rw [if_neg (by omega), if_pos (by simp; omega)]
  simp
  have e : (-1 + ((l.length : Int) + 1)).toNat = l.length := by omega
  rw [e]
  simp
theorem r_levels_of (L : List Nat) {k h : Nat} {S : Sto} (hS : S[h]? = some (.lst (dN L))) (hl : L.length < 10000) : run tab (k + 4) 20 [.ref h] S = some (.p (.tup ((lv L).map fun l => eN l)), S) := by
  refine run_W at_levels_of rfl ?_
  unfold f_levels_of
  simp! only [start, hS]
  refine W_sq ?_
  refine W_while (fun m e S' => ∃ (done : List (List Nat)) (cur : List Nat) (j : Option D), lv L = done ++ lv cur ∧ m = cur.length ∧ done.length + cur.length ≤ 10000 ∧ e = [some (.ref h), some (.ref S.length), j, none] ∧ S' = S ++ [.lst ((done ++ [cur]).map fun l => .p (eN l))]) (fun m e S' ⟨done, cur, j, h1, h2, h3, h4, h5⟩ => ?_) L.length ⟨[], L, none, rfl, rfl, by simp; omega, rfl, rfl⟩
  subst h2 h4 h5
  have la : atI ((done ++ [cur]).map fun l => D.p (eN l)) (-1) = some (.p (eN cur)) := by
    rw [List.map_append]
    exact atI_last _ _
  rw [List.map_append, List.map_singleton] at la ⊢
  by_cases hc : cur.length ≤ 1
  · have g : decide ((1 : Int) < (cur.length : Int)) = false := decide_eq_false (by omega)
    refine ⟨false, _, by simp! only [la, g]; rfl, fun _ => ?_, nofun⟩
    simp! only [W_some]
    rw [h1, lv_one hc, List.map_append]
    (first | exact List.prefix_refl _ | exact ⟨rfl, List.prefix_refl _⟩ | exact List.prefix_append .. | exact ⟨rfl, List.prefix_append ..⟩)
  · have g : decide ((1 : Int) < (cur.length : Int)) = true := decide_eq_true (by omega)
    refine ⟨true, _, by simp! only [la, g]; rfl, nofun, fun _ => ?_⟩
    have s62 : small62 (cur.length : Int) = true := small62_nat (by omega)
    have s0 : small62 0 = true := by decide
    have rn : rngL 0 (rngN 0 (cur.length : Int) 2) 2 = (List.range ((cur.length + 1) / 2)).map fun i => D.p (.int ((2 * i : Nat) : Int)) := by
      unfold rngL
      have : rngN 0 (cur.length : Int) 2 = (cur.length + 1) / 2 := by
        unfold rngN
        have h2 : (2 : Int) > 0 := by decide
        simp only [h2, if_true]
        split <;> omega
      rw [this]
      refine List.map_congr_left fun i _ => ?_
      rw [show (0 : Int) + ((i : Nat) : Int) * 2 = ((2 * i : Nat) : Int) by omega]
    have d1 : decide ((2 : Int) ≠ 0) = true := by decide
    have d2 : decide (Int.natAbs 2 < 1073741824) = true := by decide
    simp! only [la, s62, s0, rn, lineL, d1, d2]
    rw [compL_map (List.range ((cur.length + 1) / 2)) (fun i => .p (.int ((2 * i : Nat) : Int))) (fun i => .p (.int ((if 2 * i + 1 < cur.length then pairS (cur.getD (2 * i) 0) (cur.getD (2 * i + 1) 0) else cur.getD (2 * i) 0 : Nat) : Int)))]
    · have hl1 : (List.range ((cur.length + 1) / 2)).length ≤ 16777216 := by simp; omega
      have hl2 : done.length + 1 < 16777216 := by omega
      simp! only [hl1, hl2, W_some]
      refine ⟨(up cur).length, by rw [up_len]; omega, done ++ [cur], up cur, _, by rw [h1, lv_more hc]; simp, rfl, by rw [up_len]; simp; omega, rfl, ?_⟩
      rw [← up_range cur]
      simp
    · rfl
    · rfl
    · intro i hi
      have hi2 : i < (cur.length + 1) / 2 := by simpa using hi
      have a1 : atI (cur.map fun b => P.int (b : Nat)) ((2 * i : Nat) : Int) = some (.int (cur.getD (2 * i) 0 : Nat)) := by
        rw [atI_nat]
        have : 2 * i < cur.length := by omega
        simp [this]
      by_cases h : 2 * i + 1 < cur.length
      · have a2 : atI (cur.map fun b => P.int (b : Nat)) (((2 * i : Nat) : Int) + 1) = some (.int (cur.getD (2 * i + 1) 0 : Nat)) := by
          rw [show ((2 * i : Nat) : Int) + 1 = ((2 * i + 1 : Nat) : Int) by omega, atI_nat]
          simp [h]
        have g3 : decide (((2 * i : Nat) : Int) + 1 < (cur.length : Int)) = true := decide_eq_true (by omega)
        simp! only [compF, a1, a2, g3, r_pair_sum]
        rw [if_pos h]
      · have g3 : decide (((2 * i : Nat) : Int) + 1 < (cur.length : Int)) = false := decide_eq_false (by omega)
        simp! only [compF, a1, g3]
        rw [if_neg h]
/-- the check of all -/
def rootT (L : List Nat) : Nat := if h : L.length ≤ 1 then L.headD 0 else rootT (up L)
termination_by L.length
decreasing_by rw [up_len]; omega
theorem rootT_one {L : List Nat} (h : L.length ≤ 1) : rootT L = L.headD 0 := by rw [rootT, dif_pos h]
theorem rootT_more {L : List Nat} (h : ¬ L.length ≤ 1) : rootT L = rootT (up L) := by
  conv => lhs; rw [rootT]
  rw [dif_neg h]
theorem lv_last : ∀ {L : List Nat}, L ≠ [] → ∃ ini, lv L = ini ++ [[rootT L]] := by
  intro L
  induction hn : L.length using Nat.strongRecOn generalizing L with
  | _ n ih =>
    intro h
    by_cases h1 : L.length ≤ 1
    · rw [lv_one h1, rootT_one h1]
      cases L with
      | nil => exact absurd rfl h
      | cons a r =>
        cases r with
        | nil => exact ⟨[], rfl⟩
        | cons => simp at h1
    · rw [lv_more h1, rootT_more h1]
      have hu : (up L).length = (L.length + 1) / 2 := up_len L
      obtain ⟨ini, e⟩ := ih (up L).length (by omega) rfl (by
        intro z
        rw [z] at hu
        simp at hu
        omega)
      exact ⟨L :: ini, by rw [e]; rfl⟩
/-- the way up from the i-th: sides and checks -/
def sib (i : Nat) : Nat := if i % 2 = 1 then i - 1 else i + 1
def prf1 (l : List Nat) (i : Nat) : List (Int × Int) := if sib i < l.length then [(if sib i < i then 0 else 1, ((l.getD (sib i) 0 : Nat) : Int))] else []
def prf : List (List Nat) → Nat → List (Int × Int)
  | [], _ => []
  | l :: r, i => prf1 l i ++ prf r (i / 2)
def prfT (L : List Nat) (i : Nat) : List (Int × Int) := prf (lv L).dropLast i
theorem prfT_one {L : List Nat} (h : L.length ≤ 1) (i : Nat) : prfT L i = [] := by
  unfold prfT
  rw [lv_one h]
  rfl
theorem lv_ne (L : List Nat) : lv L ≠ [] := by
  by_cases h : L.length ≤ 1
  · rw [lv_one h]; simp
  · rw [lv_more h]; simp
theorem prfT_more {L : List Nat} (h : ¬ L.length ≤ 1) (i : Nat) : prfT L i = prf1 L i ++ prfT (up L) (i / 2) := by
  unfold prfT
  rw [lv_more h, List.dropLast_cons_of_ne_nil (lv_ne _)]
  rfl
abbrev sums (rows : List (Int × Row)) : List Nat := rows.map leaf
theorem r_page_check {pic : List Cell} {rows : List (Int × Row)} (h : RowsOf pic rows) (hb : RB rows) (hn : rows ≠ []) {k : Nat} {S : Sto} : run tab (k + 5) 21 [.p (ePic pic)] S = some (.p (.int (rootT (sums rows) : Nat)), S) := by
  refine run_W at_page_check rfl ?_
  unfold f_page_check
  have hl : rows.length ≤ 16777216 := by have := hb.len; omega
  simp! only [start, r_row_sums h hb, lineL]
  rw [compL_map rows (fun r => .p (.tup [.int r.1, .int (leaf r : Nat)])) (fun r => .p (.int (leaf r : Nat)))]
  · have e : (rows.map fun r => D.p (.int (leaf r : Nat))) = dN (sums rows) := by simp
    rw [e]
    have hS : (S ++ [O.lst (dN (sums rows))])[S.length]? = some (.lst (dN (sums rows))) := get_at
    have rl := r_levels_of (sums rows) (k := k) hS (by have := hb.len; simp; omega)
    obtain ⟨ini, hini⟩ := lv_last (L := sums rows) (by simpa using hn)
    have la : atI ((lv (sums rows)).map fun l => eN l) (-1) = some (eN [rootT (sums rows)]) := by
      rw [hini, List.map_append]
      exact atI_last _ _
    have ne : (dN (sums rows)).isEmpty = false := by simpa using hn
    have a0 : atI [P.int (rootT (sums rows) : Nat)] 0 = some (P.int (rootT (sums rows) : Nat)) := rfl
    have hl2 : (dN (sums rows)).length ≤ 16777216 := by simpa using hl
    have hl3 : (sums rows).length ≤ 16777216 := by simpa using hl
    simp! only [hl, hl2, hl3, ne, rl, la, a0, W_some]
    (first | exact List.prefix_refl _ | exact ⟨rfl, List.prefix_refl _⟩ | exact List.prefix_append .. | exact ⟨rfl, List.prefix_append ..⟩)
  · rfl
  · rfl
  · intro r hr
    simp! only [compF]
theorem cut_butlast {α : Type} (ini : List α) (x : α) : cutL (ini ++ [x]) none (some (-1)) = ini := by
  unfold cutL sIx
  dsimp only
  have e : (-1 + (((ini ++ [x]).length : Nat) : Int)).toNat = ini.length := by simp; omega
  rw [if_pos (by decide), e]
  simp
theorem prfT_len (L : List Nat) (i : Nat) : ∀ ls : List (List Nat), (prf ls i).length ≤ ls.length := by
  intro ls
  induction ls generalizing i with
  | nil => simp [prf]
  | cons l r ih =>
    have := ih (i / 2)
    have p1 : (prf1 l i).length ≤ 1 := by
      unfold prf1
      split <;> simp
    unfold prf
    rw [List.length_append, List.length_cons]
    omega
theorem lv_len : ∀ {L : List Nat}, L ≠ [] → (lv L).length ≤ L.length := by
  intro L
  induction hn : L.length using Nat.strongRecOn generalizing L with
  | _ n ih =>
    intro h
    by_cases h1 : L.length ≤ 1
    · rw [lv_one h1]
      have : L.length ≠ 0 := fun z => h (List.length_eq_zero_iff.mp z)
      simp
      omega
    · rw [lv_more h1]
      have hu : (up L).length = (L.length + 1) / 2 := up_len L
      have := ih (up L).length (by omega) rfl (by
        intro z
        rw [z] at hu
        simp at hu
        omega)
      simp
      omega
theorem r_row_proof {pic : List Cell} {rows : List (Int × Row)} (h : RowsOf pic rows) (hb : RB rows) (hn : rows ≠ []) (i : Nat) {k : Nat} {S : Sto} : run tab (k + 5) 22 [.p (ePic pic), .p (.int i)] S = some (.p (eRow (prfT (sums rows) i)), S) := by
  refine run_W at_row_proof rfl ?_
  unfold f_row_proof
  have hl : rows.length ≤ 16777216 := by have := hb.len; omega
  simp! only [start, r_row_sums h hb, lineL]
  rw [compL_map rows (fun r => .p (.tup [.int r.1, .int (leaf r : Nat)])) (fun r => .p (.int (leaf r : Nat)))]
  · have e : (rows.map fun r => D.p (.int (leaf r : Nat))) = dN (sums rows) := by simp
    rw [e]
    have hS : (S ++ [O.lst (dN (sums rows))])[S.length]? = some (.lst (dN (sums rows))) := get_at
    have rl := r_levels_of (sums rows) (k := k) hS (by have := hb.len; simp; omega)
    have hsn : sums rows ≠ [] := by simpa using hn
    obtain ⟨ini, hini⟩ := lv_last hsn
    have hl2 : (dN (sums rows)).length ≤ 16777216 := by simpa using hl
    have hl3 : (sums rows).length ≤ 16777216 := by simpa using hl
    have hc : cutL ((lv (sums rows)).map fun l => eN l) none (some (-1)) = ini.map fun l => eN l := by
      rw [hini, List.map_append]
      exact cut_butlast _ _
    have hp : prfT (sums rows) i = prf ini i := by unfold prfT; rw [hini, List.dropLast_concat]
    have hil : ini.length ≤ 20 := by
      have := lv_len hsn
      have := hb.len
      rw [hini] at *
      simp at *
      omega
    simp! only [hl, hl2, hl3, rl, hc]
    refine W_sq ?_
    refine W_loop ini (fun l => .p (eN l)) (fun done e S' => ∃ (j4 j5 : Option D) (x : Nat) (out : Row), (∀ rest, ini = done ++ rest → prf ini i = out ++ prf rest x) ∧ out.length ≤ done.length ∧ e = [some (.p (ePic pic)), some (.p (.int x)), some (.p (.tup ((lv (sums rows)).map fun l => eN l))), some (.ref (S.length + 1)), j4, j5, none, none] ∧ S' = S ++ [.lst (dN (sums rows)), lstO out]) rfl ?_ ?_ ⟨none, none, i, [], fun rest hr => by rw [← show ini = rest from hr]; rfl, by simp, rfl, rfl⟩
    · rintro done l rest e S' hL ⟨j4, j5, x, out, g1, g2, rfl, rfl⟩
      have dl : done.length < 20 := by rw [hL] at hil; simp at hil; omega
      have ol : out.length < 16777216 := by omega
      have tail : ∀ rest', ini = done ++ l :: rest' → rest' = rest := by
        intro rest' hr'
        have e := hL.symm.trans hr'
        simp at e
        exact e.symm
      have z := g1 _ hL
      rw [show prf (l :: rest) x = prf1 l x ++ prf rest (x / 2) from rfl] at z
      have hx2 : ((x : Int) / 2) = ((x / 2 : Nat) : Int) := by omega
      have fin : ∀ (S2 : Sto) (j4 j5 : Option D), S2 = S ++ [O.lst (dN (sums rows)), lstO (out ++ prf1 l x)] → ∃ (j4' j5' : Option D) (x' : Nat) (out' : Row), (∀ rest', ini = done ++ l :: rest' → prf ini i = out' ++ prf rest' x') ∧ out'.length ≤ done.length + 1 ∧ ([some (.p (ePic pic)), some (.p (.int ((x : Int) / 2))), some (.p (.tup ((lv (sums rows)).map fun l => eN l))), some (.ref (S.length + 1)), j4, j5, none, none] : List (Option D)) = [some (.p (ePic pic)), some (.p (.int x')), some (.p (.tup ((lv (sums rows)).map fun l => eN l))), some (.ref (S.length + 1)), j4', j5', none, none] ∧ S2 = S ++ [.lst (dN (sums rows)), lstO out'] := by
        intro S2 j4 j5 hS2
        refine ⟨j4, j5, x / 2, out ++ prf1 l x, fun rest' hr' => ?_, ?_, by rw [hx2], hS2⟩
        · rw [tail rest' hr', z, List.append_assoc]
        · have : (prf1 l x).length ≤ 1 := by unfold prf1; split <;> simp
          rw [List.length_append]
          omega
      by_cases hs : sib x < l.length
      · have at1 : atI (l.map fun b => P.int (b : Nat)) ((sib x : Nat) : Int) = some (.int (l.getD (sib x) 0 : Nat)) := by
          rw [atI_nat]
          simp [hs]
        have g3 : decide (((sib x : Nat) : Int) < (l.length : Int)) = true := decide_eq_true (by omega)
        by_cases ho : x % 2 = 1
        · have o1 : (((x : Int) % 2) == 1) = true := by simp; omega
          have sx : (x : Int) - 1 = ((sib x : Nat) : Int) := by unfold sib; rw [if_pos ho]; omega
          have g4 : decide (((sib x : Nat) : Int) < (x : Int)) = true := decide_eq_true (by omega)
          simp! only [turnF, o1, sx, g3, g4, at1, ol, W_some, still]
          exact fin _ _ _ (by unfold prf1; rw [if_pos hs, if_pos (by omega)]; simp)
        · have o1 : (((x : Int) % 2) == 1) = false := by simp; omega
          have sx : (x : Int) + 1 = ((sib x : Nat) : Int) := by unfold sib; rw [if_neg ho]; omega
          have g4 : decide (((sib x : Nat) : Int) < (x : Int)) = false := decide_eq_false (by omega)
          simp! only [turnF, o1, sx, g3, g4, at1, ol, W_some, still]
          exact fin _ _ _ (by unfold prf1; rw [if_pos hs, if_neg (by omega)]; simp)
      · have g3 : decide (((sib x : Nat) : Int) < (l.length : Int)) = false := decide_eq_false (by omega)
        have hp1 : out ++ prf1 l x = out := by unfold prf1; rw [if_neg hs, List.append_nil]
        by_cases ho : x % 2 = 1
        · have o1 : (((x : Int) % 2) == 1) = true := by simp; omega
          have sx : (x : Int) - 1 = ((sib x : Nat) : Int) := by unfold sib; rw [if_pos ho]; omega
          simp! only [turnF, o1, sx, g3, W_some, still]
          exact fin _ _ _ (by rw [hp1])
        · have o1 : (((x : Int) % 2) == 1) = false := by simp; omega
          have sx : (x : Int) + 1 = ((sib x : Nat) : Int) := by unfold sib; rw [if_neg ho]; omega
          simp! only [turnF, o1, sx, g3, W_some, still]
          exact fin _ _ _ (by rw [hp1])
    · rintro e S' ⟨j4, j5, x, out, g1, g2, rfl, rfl⟩
      have z := g1 [] (by simp)
      simp! only [W_some]
      rw [hp, z]
      simp [prf]
  · rfl
  · rfl
  · intro r hr
    simp! only [compF]
/-- led up by a proof -/
def goUp (v : Nat) (p : List (Int × Int)) : Nat := p.foldl (fun v s => if s.1 = 0 then pairS s.2.toNat v else pairS v s.2.toNat) v
theorem r_row_ok {y : Int} {r : Row} {p : List (Int × Int)} (chk : Nat) (h1 : -50000 ≤ y) (h2 : y ≤ 50000) (hr : r.length ≤ 10) (hb : InB r) (hp : ∀ s ∈ p, 0 ≤ s.2) {k : Nat} {S : Sto} :
    run tab (k + 4) 23 [.p (.int chk), .p (.int y), .p (eRow r), .p (eRow p)] S = some (.p (.bl (decide (goUp (leaf (y, r)) p = chk))), S) := by
  refine run_W at_row_ok rfl ?_
  unfold f_row_ok
  have c1 := cellsB_len hb (by omega)
  have c2 := sgnB_len (i := y) (by omega) (by omega)
  have l1 : (sgnB y).length + (cellsB r).length ≤ 16777216 := by omega
  have rs := r_sum_of (sgnB y ++ cellsB r) (k := k + 1) (S := S)
  rw [eN, List.map_append] at rs
  simp! only [start, r_signed_bytes y (k := k + 1) (S := S) (by omega) (by omega), r_cells_bytes (r := r) (k := k) (S := S) (by omega) hb, l1, rs]
  refine W_sq ?_
  refine W_loop p (fun c => .p (e2 c)) (fun done e S' => ∃ j5 j6, e = [some (.p (.int chk)), some (.p (.int y)), some (.p (eRow r)), some (.p (eRow p)), some (.p (.int (goUp (leaf (y, r)) done : Nat))), j5, j6] ∧ S' = S) rfl ?_ ?_ ⟨none, none, rfl, rfl⟩
  · rintro done s rest e S' hL ⟨j5, j6, rfl, rfl⟩
    have hs := hp s (by rw [hL]; simp)
    have e1 : goUp (leaf (y, r)) (done ++ [s]) = if s.1 = 0 then pairS s.2.toNat (goUp (leaf (y, r)) done) else pairS (goUp (leaf (y, r)) done) s.2.toNat := by
      unfold goUp
      rw [List.foldl_append]
      rfl
    have e2' : s.2 = ((s.2.toNat : Nat) : Int) := by omega
    have r1 := r_pair_sum s.2.toNat (goUp (leaf (y, r)) done) (k := k) (S := S')
    have r2 := r_pair_sum (goUp (leaf (y, r)) done) s.2.toNat (k := k) (S := S')
    rw [← e2'] at r1 r2
    by_cases h : s.1 = 0
    · have g : (s.1 == 0) = true := by simpa using h
      simp! only [turnF, g, r1, W_some, still]
      rw [e1, if_pos h]
      exact ⟨_, _, rfl⟩
    · have g : (s.1 == 0) = false := by simpa using h
      simp! only [turnF, g, r2, W_some, still]
      rw [e1, if_neg h]
      exact ⟨_, _, rfl⟩
  · rintro e S' ⟨j5, j6, rfl, rfl⟩
    simp! only [W_some]
    refine ⟨?_, List.prefix_refl _⟩
    congr 3
    rw [Bool.eq_iff_iff]
    simp
    omega
end PyX
set_option linter.all false
set_option maxRecDepth 100000
namespace PyX
open PyI
open PySem (Str)
abbrev PRow := (Int × Int) × Int × Int
abbrev ePt (p : PRow) : P := .tup [e2 p.1, .int p.2.1, .int p.2.2]
abbrev ePatch (l : List PRow) : P := .tup (l.map ePt)
def cellsU2 (one other : List Cell) : List (Int × Int) := sort2 (one.map (·.1) ++ other.map (·.1))
def patchOf (one other : List Cell) : List PRow := ((cellsU2 one other).filter fun x => decide (asc one x ≠ asc other x)).map fun x => (x, (asc one x).getD 0, (asc other x).getD 0)
theorem r_patch_of {one other : List Cell} {k : Nat} {S : Sto} (h1 : Keys one) (h2 : Keys other) (n1 : one ≠ []) (n2 : other ≠ []) (hl : one.length + other.length < 64) : run tab (k + 1) 25 [.p (ePic one), .p (ePic other)] S = some (.p (ePatch (patchOf one other)), S) := by
  refine run_W at_patch_of rfl ?_
  unfold f_patch_of
  have ss : ssetP ((one.map (·.1) ++ other.map (·.1)).map e2) = some ((cellsU2 one other).map e2) := sset_e2 (by simpa using hl) (fun x => sort2_mem) sort2_lt
  rw [List.map_append] at ss
  have hl2 : one.length + other.length ≤ 16777216 := by omega
  simp! only [start, lineL, dSrc_eP, dictOf_eP' h1 n1, dictOf_eP' h2 n2, dKeys_d2, hl2, ss]
  rw [compL_fil (cellsU2 one other) (fun x => .p (e2 x)) (fun x => .p (ePt (x, (asc one x).getD 0, (asc other x).getD 0))) (fun x => decide (asc one x ≠ asc other x))]
  · have hk : ((cellsU2 one other).filter fun x => decide (asc one x ≠ asc other x)).length ≤ 16777216 := by
      have a1 := List.length_filter_le (fun x => decide (asc one x ≠ asc other x)) (cellsU2 one other)
      have : (cellsU2 one other).length ≤ (one.map (·.1) ++ other.map (·.1)).length := List.Nodup.length_le_of_subset (nodup_lt2 sort2_lt) fun x hx => sort2_mem.mp hx
      simp at this
      omega
    simp! only [hk, W_some]
    refine ⟨?_, List.prefix_append ..⟩
    unfold patchOf
    rw [ePatch, List.map_map]
    rfl
  · rfl
  · simp [still, get_at1]
  · intro x hx
    by_cases h : asc one x = asc other x
    · simp! only [compF, toKeyT_e2, look_d2, getD_non, optP_dep, optP_eq, h]
      simp
    · simp! only [compF, toKeyT_e2, look_d2, getD_non, getD_int, optP_dep, optP_eq, h]
      simp [h]
/-- what a picture gives behind a patch -/
def chgP (one : List Cell) (p : List PRow) (j : Int × Int) : Option Int := match asc p j with
  | some v => some v.2
  | none => asc one j
theorem r_patched {one M : List Cell} {p : List PRow} {k : Nat} {S : Sto} (h1 : Keys one) (n1 : one ≠ []) (h2 : Keys p) (hl : one.length + p.length < 10000) (hd : ∀ c ∈ p, (asc one c.1).getD 0 = c.2.1 ∧ c.2.2 ≠ 0)
    (hs : (M.map (·.1)).Pairwise lt2) (hM : ∀ j, asc M j = chgP one p j) : run tab (k + 2) 26 [.p (ePic one), .p (ePatch p)] S = some (.p (ePic M), S) := by
  refine run_W at_patched rfl ?_
  unfold f_patched
  simp! only [start, dSrc_eP, dictOf_eP' h1 n1]
  refine W_sq ?_
  refine W_loop p (fun c => .p (ePt c)) (fun done e S' => ∃ j1 j2 j3, ∃ A : List Cell, Keys A ∧ A.length ≤ one.length + done.length ∧ (∀ j, asc A j = chgP one done j) ∧ e = [some (.p (ePic one)), some (.p (ePatch p)), some (.ref S.length), j1, j2, j3] ∧ S' = S ++ [d2 vI A]) rfl ?_ ?_ ⟨none, none, none, one, h1, by simp, fun j => rfl, rfl, rfl⟩
  · rintro done c rest e S' hL ⟨j1, j2, j3, A, g1, g2, g3, rfl, rfl⟩
    have hdl : done.length < p.length := by rw [hL]; simp
    have hn : c.1 ∉ done.map (·.1) := by
      have q := h2
      unfold Keys at q
      rw [hL, List.map_append, List.nodup_append] at q
      exact fun z => q.2.2 c.1 z c.1 (by simp) rfl
    have hA : asc A c.1 = asc one c.1 := by
      rw [g3]
      unfold chgP
      rw [asc_none.mpr hn]
    obtain ⟨d1, d2'⟩ := hd c (by rw [hL]; simp)
    have b1 : (((asc A c.1).getD 0 : Int) == c.2.1) = true := by rw [hA, d1]; simp
    have hlen : A.length < 16777216 := by omega
    have b2 : (c.2.2 == 0) = false := by simpa using d2'
    simp! only [turnF, toKeyT_e2, look_d2, getD_int, b1, b2, hlen, putK_d2, W_some, still]
    refine ⟨_, _, _, upd A c.1 c.2.2, keys_upd g1, ?_, fun j => ?_, rfl, rfl⟩
    · have := len_upd (A := A) (k := c.1) (v := c.2.2)
      simp
      omega
    · rw [asc_upd, g3]
      unfold chgP
      rw [asc_append, asc_cons, asc_nil]
      by_cases e : j = c.1
      · subst e
        rw [asc_none.mpr hn]
        simp
      · rw [if_neg e, if_neg (fun z => e z.symm), Option.or_none]
  · rintro e S' ⟨j1, j2, j3, A, g1, g2, g3, rfl, rfl⟩
    have pm : A.Perm M := perm_of_asc g1 (nodup_lt2 hs) fun j => by rw [g3, hM]
    simp! only [r_picture (A := A) (M := M) (h := S.length) (k := k) (S := S ++ [d2 vI A]) get_at (by show _ ≤ 16777216; omega) pm hs, W_some]
    (first | exact List.prefix_refl _ | exact ⟨rfl, List.prefix_refl _⟩ | exact List.prefix_append .. | exact ⟨rfl, List.prefix_append ..⟩)
/-- a patch that does not fit -/
theorem r_patched_no {one : List Cell} {c : PRow} {k : Nat} {S : Sto} (h1 : Keys one) (n1 : one ≠ []) (hd : (asc one c.1).getD 0 ≠ c.2.1) : run tab (k + 2) 26 [.p (ePic one), .p (.tup [ePt c])] S = some (.p .non, S) := by
  refine run_W at_patched rfl ?_
  unfold f_patched
  simp! only [start, dSrc_eP, dictOf_eP' h1 n1]
  refine W_sq ?_
  refine W_loop [c] (fun c => .p (ePt c)) (fun done e S' => done = [] ∧ e = [some (.p (ePic one)), some (.p (.tup [ePt c])), some (.ref S.length), none, none, none] ∧ S' = S ++ [d2 vI one]) rfl ?_ ?_ ⟨rfl, rfl, rfl⟩
  · rintro done c' rest e S' hL ⟨rfl, rfl, rfl⟩
    simp at hL
    obtain ⟨rfl, rfl⟩ := hL
    have b1 : (((asc one c.1).getD 0 : Int) == c.2.1) = false := by simpa using hd
    simp! only [turnF, toKeyT_e2, look_d2, getD_int, b1, W_some]
    (first | exact List.prefix_refl _ | exact ⟨rfl, List.prefix_refl _⟩ | exact List.prefix_append .. | exact ⟨rfl, List.prefix_append ..⟩)
  · rintro e S' ⟨h, _⟩
    cases h
theorem r_patch_back {p : List PRow} {k : Nat} {S : Sto} (hl : p.length ≤ LINE) : run tab (k + 1) 27 [.p (ePatch p)] S = some (.p (ePatch (p.map fun c => (c.1, c.2.2, c.2.1))), S) := by
  refine run_W at_patch_back rfl ?_
  unfold f_patch_back
  simp! only [start, lineL]
  rw [compL_map p (fun c => .p (ePt c)) (fun c => .p (ePt (c.1, c.2.2, c.2.1)))]
  · simp! only [hl, W_some]
    refine ⟨?_, List.prefix_refl _⟩
    rw [ePatch, List.map_map]
    rfl
  · rfl
  · rfl
  · intro c hc
    simp! only [compF]
/-! two patches put together -/
theorem putAllT_any {β : Type} {ev : β → P} (L : List ((Int × Int) × β)) : ∀ (A : List ((Int × Int) × β)), Keys (A ++ L) → putAllT (L.map fun c => P.tup [e2 c.1, ev c.2]) (A.map fun p => (k2 p.1, D.p (ev p.2))) = some ((A ++ L).map fun p => (k2 p.1, D.p (ev p.2))) := by
  induction L with
  | nil => intro A _; rw [List.append_nil]; rfl
  | cons c L ih =>
    intro A h
    rw [List.map_cons]
    unfold putAllT
    rw [toKeyT_e2]
    dsimp only
    have e : upd A c.1 c.2 = A ++ [c] := by
      unfold upd
      rw [if_neg]
      intro z
      have := any_key.mp z
      unfold Keys at h
      rw [List.map_append, List.nodup_append] at h
      exact h.2.2 c.1 this c.1 (by simp) rfl
    have z := ih (A ++ [c]) (by rw [List.append_assoc]; exact h)
    rw [List.append_assoc] at z
    rw [show putK (A.map fun p => (k2 p.1, D.p (ev p.2))) (k2 c.1) (.p (ev c.2)) = (upd A c.1 c.2).map fun p => (k2 p.1, D.p (ev p.2)) from putK_map (vf := fun v => D.p (ev v)) k2_inj, e]
    exact z
abbrev vPt (c : (Int × Int) × (Int × Int)) : D := .p (ePt c)
/-- a patch as a table -/
def oPt (A : List PRow) : O := if A = [] then .dK [] else .dT (A.map fun p => (k2 p.1, D.p (ePt p)))
theorem dictOf_pt {A : List PRow} (h : Keys A) : dictOf (A.map fun c => P.tup [e2 c.1, ePt c]) = some (oPt A) := by
  cases A with
  | nil => rfl
  | cons c L =>
    have z := putAllT_any (ev := fun v : PRow => ePt v) ((c :: L).map fun p => (p.1, p)) [] (by
      unfold Keys at h ⊢
      rw [List.nil_append, List.map_map]
      exact h)
    simp only [List.nil_append, List.map_nil, List.map_map] at z
    unfold dictOf oPt
    rw [if_neg (by simp)]
    simp only [List.map_cons] at z ⊢
    have e : ((fun c : (Int × Int) × PRow => P.tup [e2 c.1, ePt c.2]) ∘ fun p : PRow => (p.1, p)) = fun c => P.tup [e2 c.1, ePt c] := rfl
    have e' : ((fun p : (Int × Int) × PRow => (k2 p.1, D.p (ePt p.2))) ∘ fun p : PRow => (p.1, p)) = fun p => (k2 p.1, D.p (ePt p)) := rfl
    rw [e, e'] at z
    rw [show putAllT (P.tup [P.tup [P.int c.1.1, P.int c.1.2], ePt c] :: List.map (fun c => P.tup [e2 c.1, ePt c]) L) [] = _ from z]
    rfl
theorem asc_self {A : List PRow} {x : Int × Int} : (look (A.map fun p => (k2 p.1, D.p (ePt p))) (k2 x)) = (asc A x).map fun v => D.p (ePt (x, v)) := by
  induction A with
  | nil => rfl
  | cons p A ih =>
    unfold look at *
    rw [List.map_cons, List.find?_cons, asc_cons]
    by_cases e : p.1 = x
    · subst e
      simp
    · have e2 : ¬ k2 p.1 = k2 x := fun z => e (k2_inj _ _ z)
      simp only [e, e2, decide_false, if_false]
      exact ih
theorem list_oPt {A : List PRow} {h : Nat} {S : Sto} (hS : S[h]? = some (oPt A)) : biR .list (.val (.ref h)) S = some (.tl ((A.map (·.1)).map fun a => D.p (e2 a)), S) := by
  unfold oPt at hS
  by_cases hA : A = []
  · subst hA
    rw [if_pos rfl] at hS
    simp only [biR, seqR, hS, objR, dKeys]
    rfl
  · rw [if_neg hA] at hS
    simp only [biR, seqR, hS, objR, dKeys]
    rw [if_pos (by simp)]
    simp only [Option.map_some, toDs, List.map_map]
    rfl
/-- a patch of two, cell by cell -/
def bothAt (f g : List PRow) (c : Int × Int) : Option PRow := match asc f c, asc g c with
  | some u, some v => if u.1 = v.2 then none else some (c, u.1, v.2)
  | some u, none => some (c, u)
  | none, some v => some (c, v)
  | none, none => none
def bothP (f g : List PRow) : List PRow := (sort2 (f.map (·.1) ++ g.map (·.1))).filterMap (bothAt f g)
theorem keys_oPt {A : List PRow} : dKeys (oPt A) = some ((A.map (·.1)).map e2) := by
  unfold oPt
  split
  · rename_i h
    subst h
    rfl
  · unfold dKeys
    dsimp only
    rw [if_pos (by simp)]
    simp only [List.map_map]
    rfl
theorem in_oPt {A : List PRow} {c : Int × Int} {h : Nat} {S : Sto} (hS : S[h]? = some (oPt A)) : inR (.val (.p (e2 c))) (.val (.ref h)) S = some (asc A c).isSome := by
  unfold oPt at hS
  by_cases hA : A = []
  · subst hA
    rw [if_pos rfl] at hS
    simp only [inR, objR, hS, pR]
    rfl
  · rw [if_neg hA] at hS
    simp only [inR, objR, hS, pR, toKeyT_e2]
    rw [asc_self]
    simp
theorem ix_oPt {A : List PRow} {c : Int × Int} {h : Nat} {S : Sto} {v : Int × Int} (hS : S[h]? = some (oPt A)) (hv : asc A c = some v) : ixR (.val (.ref h)) (.val (.p (e2 c))) S = some (.val (.p (ePt (c, v)))) := by
  have hne : A ≠ [] := fun z => by rw [z] at hv; cases hv
  unfold oPt at hS
  rw [if_neg hne] at hS
  simp only [ixR, hS, pR, toKeyT_e2]
  rw [asc_self, hv]
  rfl
theorem get1_oPt {A : List PRow} {c : Int × Int} {h : Nat} {S : Sto} (hS : S[h]? = some (oPt A)) : m1R .get (.val (.ref h)) (.val (.p (e2 c))) S = some (.val (match asc A c with
    | some v => .p (ePt (c, v))
    | none => .p .non), S) := by
  unfold oPt at hS
  by_cases hA : A = []
  · subst hA
    rw [if_pos rfl] at hS
    simp only [m1R, refR, hS, pR]
    rfl
  · rw [if_neg hA] at hS
    simp only [m1R, refR, hS, pR, toKeyT_e2]
    rw [asc_self]
    cases asc A c <;> rfl
theorem get2_oPt {A : List PRow} {c : Int × Int} {h : Nat} {S : Sto} {d : D} (hS : S[h]? = some (oPt A)) : m2R .get (.val (.ref h)) (.val (.p (e2 c))) (.val d) S = some (.val (match asc A c with
    | some v => .p (ePt (c, v))
    | none => d), S) := by
  unfold oPt at hS
  by_cases hA : A = []
  · subst hA
    rw [if_pos rfl] at hS
    simp only [m2R, refR, hS, pR]
    rfl
  · rw [if_neg hA] at hS
    simp only [m2R, refR, hS, pR, toKeyT_e2]
    rw [asc_self]
    cases asc A c <;> rfl
theorem dct_oPt {A : List PRow} {h : Nat} {S : Sto} (hS : S[h]? = some (oPt A)) : isDct (.val (.ref h)) S = true := by
  unfold isDct objR
  dsimp only
  rw [hS]
  unfold oPt
  by_cases hA : A = []
  · rw [if_pos hA]
  · rw [if_neg hA]
theorem r_patch_both {f g : List PRow} {k : Nat} {S : Sto} (h1 : Keys f) (h2 : Keys g) (hl : f.length + g.length < 64) (hc : ∀ c u v, asc f c = some u → asc g c = some v → u.2 = v.1) : run tab (k + 1) 28 [.p (ePatch f), .p (ePatch g)] S = some (.p (ePatch (bothP f g)), S) := by
  refine run_W at_patch_both rfl ?_
  unfold f_patch_both
  have hf : f.length ≤ 16777216 := by omega
  have hg : g.length ≤ 16777216 := by omega
  have hfg : f.length + g.length ≤ 16777216 := by omega
  have dc : ∀ (A : List PRow) (S : Sto) (x0 x1 x2 x3 x4 x5 x6 : Option D), compL (dcompF (run tab k) ((IE.var 6).ix (IE.cst (P.int 0))) (IE.var 6) (TG.nm 6) IEs.nil [6] [x0, x1, x2, x3, x4, x5, x6]) (A.map fun c => D.p (ePt c)) none S = some (A.map fun c => D.p (.tup [e2 c.1, ePt c]), S) := by
    intro A S x0 x1 x2 x3 x4 x5 x6
    rw [compL_map A (fun c => .p (ePt c)) (fun c => .p (.tup [e2 c.1, ePt c]))]
    · rfl
    · rfl
    · intro c hcc
      have a0 : atI [e2 c.1, P.int c.2.1, P.int c.2.2] 0 = some (e2 c.1) := rfl
      simp! only [dcompF, a0]
  have ss : ssetP ((f.map (·.1) ++ g.map (·.1)).map e2) = some ((sort2 (f.map (·.1) ++ g.map (·.1))).map e2) := sset_e2 (by simpa using hl) (fun x => sort2_mem) sort2_lt
  rw [List.map_append] at ss
  have sf : S[S.length]? = none := by simp
  generalize hU : sort2 (f.map (·.1) ++ g.map (·.1)) = U at ss
  have lf : biR .list (.val (.ref S.length)) (S ++ [oPt f, oPt g, O.lst []]) = some (.tl ((f.map (·.1)).map fun a => D.p (e2 a)), S ++ [oPt f, oPt g, O.lst []]) := list_oPt get_at
  have lg : biR .list (.val (.ref (S.length + 1))) (S ++ [oPt f, oPt g, O.lst []]) = some (.tl ((g.map (·.1)).map fun a => D.p (e2 a)), S ++ [oPt f, oPt g, O.lst []]) := list_oPt (by rw [get_at1]; rfl)
  have lu : biR .sset (.tl (((f.map (·.1)).map fun a => D.p (e2 a)) ++ ((g.map (·.1)).map fun a => D.p (e2 a)))) (S ++ [oPt f, oPt g, O.lst []]) = some (.tl (U.map fun a => D.p (e2 a)), S ++ [oPt f, oPt g, O.lst []]) := by
    simp! only [ss]
  simp?! only [start, dc, hf, hg, dictOf_pt h1, dictOf_pt h2, lf, lg, hfg, lu]
  refine W_sq ?_
  refine W_loop U (fun c => .p (e2 c)) (fun done e S' => ∃ j5, e = [some (.p (ePatch f)), some (.p (ePatch g)), some (.ref S.length), some (.ref (S.length + 1)), some (.ref (S.length + 2)), j5, none] ∧ S' = S ++ [oPt f, oPt g, .lst ((done.filterMap (bothAt f g)).map fun p => .p (ePt p))]) rfl ?_ ?_ ⟨none, rfl, rfl⟩
  · rintro done c rest e S' hL ⟨j5, rfl, rfl⟩
    have ol : (done.filterMap (bothAt f g)).length < 16777216 := by
      have a1 := List.length_filterMap_le (bothAt f g) done
      have a2 : U.length ≤ (f.map (·.1) ++ g.map (·.1)).length := by
        rw [← hU]
        exact List.Nodup.length_le_of_subset (nodup_lt2 sort2_lt) fun x hx => sort2_mem.mp hx
      rw [hL] at a2
      simp at a2
      omega
    generalize hout : done.filterMap (bothAt f g) = out at ol
    have s0 : (S ++ [oPt f, oPt g, O.lst (out.map fun p => .p (ePt p))])[S.length]? = some (oPt f) := get_at
    have s1 : (S ++ [oPt f, oPt g, O.lst (out.map fun p => .p (ePt p))])[S.length + 1]? = some (oPt g) := by rw [get_at1]; rfl
    have i0 := in_oPt (c := c) s0
    have i1 := in_oPt (c := c) s1
    have d0 := dct_oPt s0
    have d1 := dct_oPt s1
    have hcU : asc f c ≠ none ∨ asc g c ≠ none := by
      have : c ∈ U := by rw [hL]; simp
      rw [← hU, sort2_mem, List.mem_append, ← asc_isSome, ← asc_isSome] at this
      rcases this with h | h
      · left; intro z; rw [z] at h; cases h
      · right; intro z; rw [z] at h; cases h
    have fin : ∀ (S2 : Sto), S2 = S ++ [oPt f, oPt g, O.lst (((out ++ (bothAt f g c).toList)).map fun p => .p (ePt p))] → S2 = S ++ [oPt f, oPt g, O.lst (((done ++ [c]).filterMap (bothAt f g)).map fun p => .p (ePt p))] := by
      intro S2 h
      rw [h, List.filterMap_append, hout]
      congr 4
    have m1 : ∀ (v : Int × Int) (S : Sto), ixR (.val (.p (ePt (c, v)))) (.val (.p (.int 1))) S = some (.val (.p (.int v.1))) := fun _ _ => rfl
    have m2 : ∀ (v : Int × Int) (S : Sto), ixR (.val (.p (ePt (c, v)))) (.val (.p (.int 2))) S = some (.val (.p (.int v.2))) := fun _ _ => rfl
    have ap : ∀ d, m1R .append (.val (.ref (S.length + 2))) (.val d) (S ++ [oPt f, oPt g, O.lst (out.map fun p => .p (ePt p))]) = some (.val (.p .non), S ++ [oPt f, oPt g, O.lst ((out.map fun p => .p (ePt p)) ++ [d])]) := by
      intro d
      simp! only [ol]
    cases hfc : asc f c with
    | some u =>
      have x0 := ix_oPt s0 hfc
      have t0 := fun d => get2_oPt (c := c) (d := d) s0
      rw [hfc] at i0
      simp only [hfc] at t0
      cases hgc : asc g c with
      | some v =>
        have x1 := ix_oPt s1 hgc
        rw [hgc] at i1
        have huv := hc c u v hfc hgc
        have b1 : (u.2 == v.1) = true := by simpa using huv
        by_cases h : u.1 = v.2
        · have b2 : (u.1 == v.2) = true := by simpa using h
          simp?! only [turnF, i0, i1, x0, x1, m1, m2, b1, b2, W_some, still]
          have e1 := fin (S ++ [oPt f, oPt g, O.lst (out.map fun p => .p (ePt p))]) (by unfold bothAt; simp [hfc, hgc, h])
          exact ⟨_, rfl, e1⟩
        · have b2 : (u.1 == v.2) = false := by simpa using h
          simp?! only [turnF, i0, i1, x0, x1, m1, m2, b1, b2, ap, W_some, still]
          have e1 := fin (S ++ [oPt f, oPt g, O.lst ((out.map fun p => D.p (ePt p)) ++ [D.p (.tup [.tup [.int c.1, .int c.2], .int u.1, .int v.2])])]) (by unfold bothAt; simp [hfc, hgc, h])
          exact ⟨_, rfl, e1⟩
      | none =>
        have t1 := get1_oPt (c := c) s1
        rw [hgc] at i1
        simp only [hgc] at t1
        simp?! only [turnF, i0, i1, d0, d1, t0, t1, ap, W_some, still]
        have e1 := fin (S ++ [oPt f, oPt g, O.lst ((out.map fun p => D.p (ePt p)) ++ [D.p (ePt (c, u))])]) (by unfold bothAt; simp [hfc, hgc])
        exact ⟨_, rfl, e1⟩
    | none =>
      have t0 := fun d => get2_oPt (c := c) (d := d) s0
      rw [hfc] at i0
      simp only [hfc] at t0
      cases hgc : asc g c with
      | some v =>
        have t1 := get1_oPt (c := c) s1
        simp only [hgc] at t1
        simp?! only [turnF, i0, i1, d0, d1, t0, t1, ap, W_some, still]
        have e1 := fin (S ++ [oPt f, oPt g, O.lst ((out.map fun p => D.p (ePt p)) ++ [D.p (ePt (c, v))])]) (by unfold bothAt; simp [hfc, hgc])
        exact ⟨_, rfl, e1⟩
      | none =>
        rcases hcU with h | h
        · exact absurd hfc h
        · exact absurd hgc h
  · rintro e S' ⟨j5, rfl, rfl⟩
    simp! only [W_some]
    refine ⟨?_, List.prefix_append ..⟩
    unfold bothP
    rw [hU]
end PyX
set_option linter.all false
set_option maxRecDepth 100000
namespace PyX
open PyI
open PySem (Str)
def pat1 (c : PRow) : List Nat := sgnB c.1.1 ++ (sgnB c.1.2 ++ [(c.2.1 * 5 + c.2.2).toNat])
def patU (p : List PRow) : List Nat := p.flatMap pat1
def patH (p : List PRow) : List Nat := numB p.length ++ patU p
def patP (p : List PRow) : List Nat := patH p ++ [sumF 65535 (patH p) % 256, sumF 65535 (patH p) / 256]
structure PtB (p : List PRow) : Prop where
  len : p.length ≤ 100
  at_ : ∀ c ∈ p, (-50000 ≤ c.1.1 ∧ c.1.1 ≤ 50000) ∧ (-50000 ≤ c.1.2 ∧ c.1.2 ≤ 50000) ∧ (0 ≤ c.2.1 ∧ c.2.1 ≤ 4) ∧ 0 ≤ c.2.2 ∧ c.2.2 ≤ 4
theorem patU_cons {c : PRow} {p : List PRow} : patU (c :: p) = pat1 c ++ patU p := List.flatMap_cons
theorem patU_len : ∀ {p : List PRow}, (∀ c ∈ p, (-50000 ≤ c.1.1 ∧ c.1.1 ≤ 50000) ∧ (-50000 ≤ c.1.2 ∧ c.1.2 ≤ 50000) ∧ (0 ≤ c.2.1 ∧ c.2.1 ≤ 4) ∧ 0 ≤ c.2.2 ∧ c.2.2 ≤ 4) → p.length ≤ (patU p).length ∧ (patU p).length ≤ 7 * p.length
  | [], _ => by simp [patU]
  | c :: r, h => by
    obtain ⟨q1, q2, q3, q4⟩ := h c (List.mem_cons_self ..)
    have a1 := patU_len (p := r) fun d hd => h d (List.mem_cons_of_mem _ hd)
    have a2 := sgnB_len (i := c.1.1) (by omega) (by omega)
    have a3 := sgnB_len (i := c.1.2) (by omega) (by omega)
    rw [patU_cons]
    unfold pat1
    simp
    omega
theorem patH_len {p : List PRow} (hb : PtB p) : 1 ≤ (patH p).length ∧ (patH p).length ≤ 1000 := by
  have := patU_len hb.at_
  have := hb.len
  have nl := numB_len (n := p.length) (by omega)
  unfold patH
  simp
  omega
theorem r_patch_bytes {p : List PRow} (hb : PtB p) {k : Nat} {S : Sto} : run tab (k + 4) 29 [.p (ePatch p)] S = some (.p (eN (patP p)), S) := by
  refine run_W at_patch_bytes rfl ?_
  unfold f_patch_bytes
  have tl := patH_len hb
  simp! only [start, r_number_bytes p.length (show p.length < 1000000 by have := hb.len; omega)]
  refine W_sq ?_
  refine W_loop p (fun c => .p (ePt c)) (fun done e S' => ∃ j2 j3 j4 j5, ∃ (out : List Nat), (∀ rest, p = done ++ rest → patH p = out ++ patU rest) ∧ e = [some (.p (ePatch p)), some (.p (eN out)), j2, j3, j4, j5] ∧ S' = S) rfl ?_ ?_ ⟨none, none, none, none, numB p.length, fun rest hr => by rw [← show p = rest from hr]; rfl, rfl, rfl⟩
  · rintro done c rest e S' hL ⟨j2, j3, j4, j5, out, g1, rfl, rfl⟩
    obtain ⟨q1, q2, q3, q4⟩ := hb.at_ c (by rw [hL]; simp)
    have z := g1 _ hL
    rw [patU_cons] at z
    have zl := congrArg List.length z
    unfold pat1 at zl
    simp at zl
    have l1 : out.length + (sgnB c.1.1).length ≤ 16777216 := by omega
    have l2 : out.length + ((sgnB c.1.1).length + (sgnB c.1.2).length) ≤ 16777216 := by omega
    have l2' : out.length + (sgnB c.1.1).length + (sgnB c.1.2).length ≤ 16777216 := by omega
    have l3 : out.length + ((sgnB c.1.1).length + (sgnB c.1.2).length) ≤ 16777215 := by omega
    have mo : mulOk c.2.1 5 = true := mulOk_r (by decide) (by decide)
    simp! only [turnF, r_signed_bytes c.1.1 (k := k + 1) (S := S') (by omega) (by omega), r_signed_bytes c.1.2 (k := k + 1) (S := S') (by omega) (by omega), l1, l2, l2', l3, mo, W_some, still]
    rw [show (out.map fun b => P.int (b : Nat)) ++ (((sgnB c.1.1).map fun b => P.int (b : Nat)) ++ (((sgnB c.1.2).map fun b => P.int (b : Nat)) ++ [P.int (c.2.1 * 5 + c.2.2)])) = (out ++ pat1 c).map fun b => P.int (b : Nat) by unfold pat1; simp; omega]
    refine ⟨_, _, _, _, out ++ pat1 c, fun rest' hr' => ?_, rfl⟩
    have : rest' = rest := by
      have e := hL.symm.trans hr'
      simp at e
      exact e.symm
    rw [this, z, List.append_assoc]
  · rintro e S' ⟨j2, j3, j4, j5, out, g1, rfl, rfl⟩
    have z := g1 [] (by simp)
    have z2 : patH p = out := by rw [z]; simp [patU]
    subst z2
    have l1 : (patH p).length + 2 ≤ 16777216 := by omega
    simp! only [r_sum_bytes, l1, W_some]
    exact ⟨by simp [patP], List.prefix_refl _⟩
theorem r_read_patch {p : List PRow} (hb : PtB p) (hs : (p.map (·.1)).Pairwise lt2) (hn : ∀ c ∈ p, c.2.1 ≠ c.2.2) {k : Nat} {S : Sto} : run tab (k + 5) 30 [.p (eN (patP p))] S = some (.p (ePatch p), S) := by
  refine run_W at_read_patch rfl ?_
  unfold f_read_patch
  have tl := patH_len hb
  have pl := hb.len
  have ul := patU_len hb.at_
  have dl : (patP p).length = (patH p).length + 2 := by simp [patP]
  have dl2 : (patP p).length ≤ 16777216 := by omega
  have hge : p.length ≤ (patP p).length := by
    rw [dl]
    unfold patH
    simp
    omega
  have hmin2 : ¬ (((patP p).length : Int) < (p.length : Int)) := by omega
  have r1 := r_read_number p.length [] (patU p ++ [sumF 65535 (patH p) % 256, sumF 65535 (patH p) / 256]) (l := patP p) (k := k + 3) (S := S) (by simp [patP, patH]) dl2
  have r1' : run tab (k + 3 + 1) 2 [.p (eN (patP p)), .p (.int 0)] S = some (.p (.tup [.int (p.length : Nat), .int ((0 + (numB p.length).length : Nat) : Int)]), S) := r1
  have s62 : small62 (p.length : Int) = true := small62_nat (by omega)
  simp! only [start, r1', hmin2, s62, range_zip]
  refine W_sq ?_
  refine W_loop p.zipIdx (fun q => .p (.int (q.2 : Nat))) (fun done e S' => ∃ j4 j5 j6, ∃ (out : List PRow) (pr : List Nat), (∀ rest, p.zipIdx = done ++ rest → p = out ++ rest.map (·.1) ∧ patP p = pr ++ (patU (rest.map (·.1)) ++ [sumF 65535 (patH p) % 256, sumF 65535 (patH p) / 256])) ∧
    e = [some (.p (eN (patP p))), some (.p (.int (p.length : Nat))), some (.p (.int (pr.length : Nat))), some (.ref S.length), j4, j5, j6, none, none, none, none, none] ∧ S' = S ++ [.lst (out.map fun c => .p (ePt c))]) rfl ?_ ?_ ⟨none, none, none, [], numB p.length, fun rest hr => ?_, by simp, rfl⟩
  · rintro done ⟨c, i⟩ rest e S' hL ⟨j4, j5, j6, out, pr, g1, rfl, rfl⟩
    obtain ⟨z1, z2⟩ := g1 _ hL
    simp only [List.map_cons] at z1 z2
    obtain ⟨q1, q2, q3, q4⟩ := hb.at_ c (by rw [z1]; simp)
    rw [patU_cons] at z2
    unfold pat1 at z2
    generalize hR : patU (rest.map (·.1)) ++ [sumF 65535 (patH p) % 256, sumF 65535 (patH p) / 256] = R at z2
    have z3 : patP p = pr ++ (sgnB c.1.1 ++ (sgnB c.1.2 ++ ((c.2.1 * 5 + c.2.2).toNat :: R))) := by rw [z2, ← hR]; simp
    have r2 := r_read_signed c.1.1 pr (sgnB c.1.2 ++ ((c.2.1 * 5 + c.2.2).toNat :: R)) (l := patP p) (k := k + 2) (S := S ++ [.lst (out.map fun c => .p (ePt c))]) (by rw [z3]; simp) dl2
    have r3 := r_read_signed c.1.2 (pr ++ sgnB c.1.1) ((c.2.1 * 5 + c.2.2).toNat :: R) (l := patP p) (k := k + 2) (S := S ++ [.lst (out.map fun c => .p (ePt c))]) (by rw [z3]; simp) dl2
    rw [List.length_append] at r3
    have zl := congrArg List.length z3
    simp at zl
    have g10 : decide (((pr.length + (sgnB c.1.1).length + (sgnB c.1.2).length : Nat) : Int) < ((patP p).length : Int)) = true := decide_eq_true (by omega)
    have g11 : atI ((patP p).map fun b => P.int (b : Nat)) ((pr.length + (sgnB c.1.1).length + (sgnB c.1.2).length : Nat) : Int) = some (.int (c.2.1 * 5 + c.2.2)) := by
      have := at_nat (pr ++ sgnB c.1.1 ++ sgnB c.1.2) (c.2.1 * 5 + c.2.2).toNat R
      rw [List.length_append, List.length_append] at this
      rw [z3, show pr ++ (sgnB c.1.1 ++ (sgnB c.1.2 ++ ((c.2.1 * 5 + c.2.2).toNat :: R))) = pr ++ sgnB c.1.1 ++ sgnB c.1.2 ++ (c.2.1 * 5 + c.2.2).toNat :: R by simp, this, show (((c.2.1 * 5 + c.2.2).toNat : Nat) : Int) = c.2.1 * 5 + c.2.2 by omega]
    have ol : out.length < 16777216 := by
      have := congrArg List.length z1
      simp at this
      omega
    have e1 : (c.2.1 * 5 + c.2.2) / 5 = c.2.1 := by omega
    have e2' : (c.2.1 * 5 + c.2.2) % 5 = c.2.2 := by omega
    simp! only [turnF, r2, r3, g10, g11, e1, e2', ol, W_some, still]
    refine ⟨some (.p (.int (i : Nat))), some (.p (.int c.1.1)), some (.p (.int c.1.2)), out ++ [c], pr ++ sgnB c.1.1 ++ sgnB c.1.2 ++ [(c.2.1 * 5 + c.2.2).toNat], fun rest' hr' => ?_, ?_, by simp⟩
    · have : rest' = rest := by
        have e := hL.symm.trans hr'
        simp at e
        exact e.symm
      subst this
      exact ⟨by rw [z1]; simp, by rw [z3, ← hR]; simp⟩
    · rw [show ((pr.length + (sgnB c.1.1).length + (sgnB c.1.2).length : Nat) : Int) + 1 = ((pr ++ sgnB c.1.1 ++ sgnB c.1.2 ++ [(c.2.1 * 5 + c.2.2).toNat]).length : Nat) by simp; omega]
  · rintro e S' ⟨j4, j5, j6, out, pr, g1, rfl, rfl⟩
    obtain ⟨z1, z2⟩ := g1 [] (by simp)
    simp at z1
    subst z1
    have s63 : small62 ((p.length : Int) - 1) = true := by
      unfold small62
      rw [decide_eq_true (by omega), decide_eq_true (by omega)]
      rfl
    simp! only [s63, lineL]
    rw [compL_map (List.range ((p.length : Int) - 1).toNat) (fun i => .p (.int (i : Nat))) (fun _ => .p (.bl true))]
    · have hl1 : (List.range ((p.length : Int) - 1).toNat).length ≤ 16777216 := by simp; omega
      simp! only [hl1, allB_map, all_true (l := List.range ((p.length : Int) - 1).toNat) (f := fun _ => true) fun _ _ => rfl]
      rw [compL_map p (fun c => .p (ePt c)) (fun _ => .p (.bl true))]
      · have hl3 : p.length ≤ 16777216 := by omega
        simp! only [lineL, hl3, allB_map, all_true (l := p) (f := fun _ => true) fun _ _ => rfl, beq_self_eq_true, r_patch_bytes hb, depths_int, pyEqs_self, W_some]
        (first | exact List.prefix_refl _ | exact ⟨rfl, List.prefix_refl _⟩ | exact List.prefix_append .. | exact ⟨rfl, List.prefix_append ..⟩)
      · rfl
      · rfl
      · intro c hc
        obtain ⟨q1, q2, q3, q4⟩ := hb.at_ c hc
        have b1 : (c.2.1 == c.2.2) = false := by simpa using hn c hc
        have b2 : decide (4 < c.2.1) = false := decide_eq_false (by omega)
        have m1 : ∀ (v : Int × Int), atI [e2 c.1, .int v.1, .int v.2] 1 = some (.int v.1) := fun _ => rfl
        have m2 : ∀ (v : Int × Int), atI [e2 c.1, .int v.1, .int v.2] 2 = some (.int v.2) := fun _ => rfl
        simp! only [compF, m1, m2, b1, b2]
    · rfl
    · rfl
    · intro i hi
      have hi2 : i < ((p.length : Int) - 1).toNat := by simpa using hi
      have h1 : i < p.length := by omega
      have h2 : i + 1 < p.length := by omega
      have a1 : atI (p.map ePt) (i : Int) = some (ePt p[i]) := by rw [atI_nat]; simp [h1]
      have a2 : atI (p.map ePt) ((i : Int) + 1) = some (ePt p[i + 1]) := by
        rw [show (i : Int) + 1 = ((i + 1 : Nat) : Int) by omega, atI_nat]
        simp [h2]
      have m0 : ∀ (c : PRow), atI [e2 c.1, .int c.2.1, .int c.2.2] 0 = some (e2 c.1) := fun _ => rfl
      have hlt : lt2 p[i].1 p[i + 1].1 := by
        have := List.pairwise_iff_getElem.mp hs i (i + 1) (by simpa using h1) (by simpa using h2) (by omega)
        simpa using this
      have cl : ∀ a b : Int × Int, canLt (e2 a) (e2 b) = true := fun a b => by simp [canLt, alikeP, alikePs, isNon, depth, depths]
      simp! only [compF, a1, a2, m0, cl, ltP_e2, decide_eq_true hlt]
  · simp at hr
    subst hr
    rw [zip_fst]
    exact ⟨rfl, by simp [patP, patH]⟩
end PyX
set_option linter.all false
set_option maxRecDepth 100000
namespace PyX
open PyI
open PySem (Str)
/-! ### the check keeps things apart -/
theorem xor_rc {a b c : Nat} (h : a ^^^ c = b ^^^ c) : a = b := by
  have := congrArg (· ^^^ c) h
  simpa [Nat.xor_assoc, Nat.xor_self] using this
theorem xor_lc {a b c : Nat} (h : c ^^^ a = c ^^^ b) : a = b := by
  rw [Nat.xor_comm c a, Nat.xor_comm c b] at h
  exact xor_rc h
theorem xor_two (u w : Nat) : (u ^^^ 2 * w) / 2 = u / 2 ^^^ w ∧ (u ^^^ 2 * w) % 2 = u % 2 := by
  constructor
  · apply Nat.eq_of_testBit_eq
    intro i
    rw [Nat.testBit_div_two, Nat.testBit_xor, Nat.testBit_xor, Nat.testBit_div_two, Nat.testBit_succ, Nat.testBit_succ, Nat.mul_div_cancel_left w (by decide), ← Nat.testBit_succ]
  · have h : (u ^^^ 2 * w).testBit 0 = u.testBit 0 := by
      rw [Nat.testBit_xor, Nat.testBit_zero (2 * w), show 2 * w % 2 = 0 by omega]
      simp
    rw [Nat.testBit_zero, Nat.testBit_zero, decide_eq_decide] at h
    omega
theorem step1_xor (u w : Nat) : step1 (u ^^^ 2 * w) = step1 u ^^^ w := by
  obtain ⟨h1, h2⟩ := xor_two u w
  unfold step1
  rw [h1, h2]
  split
  · rw [Nat.xor_assoc, Nat.xor_comm w, ← Nat.xor_assoc]
  · rfl
theorem steps_xor : ∀ (n u w : Nat), steps n (u ^^^ 2 ^ n * w) = steps n u ^^^ w
  | 0, u, w => by simp [steps]
  | n + 1, u, w => by
    simp only [steps]
    rw [show 2 ^ (n + 1) * w = 2 ^ n * (2 * w) by rw [Nat.pow_succ, Nat.mul_assoc], steps_xor n u (2 * w), step1_xor]
theorem steps_add : ∀ (m n v : Nat), steps m (steps n v) = steps (m + n) v
  | 0, n, v => by simp [steps]
  | m + 1, n, v => by
    rw [show m + 1 + n = (m + n) + 1 by omega]
    simp only [steps]
    rw [steps_add m n v]
theorem split256 (a : Nat) : a % 256 ^^^ 256 * (a / 256) = a := by
  apply Nat.eq_of_testBit_eq
  intro i
  rw [Nat.testBit_xor, show (256 : Nat) = 2 ^ 8 from rfl, Nat.testBit_mod_two_pow, Nat.testBit_two_pow_mul, Nat.testBit_div_two_pow]
  by_cases h : i < 8
  · have : ¬ 8 ≤ i := by omega
    simp [h, this]
  · have h2 : 8 ≤ i := by omega
    simp [h, h2]
theorem word (v a : Nat) : sumA (sumA v (a % 256)) (a / 256) = steps 16 (v ^^^ a) := by
  unfold sumA
  rw [← steps_xor 8, steps_add, show (2 : Nat) ^ 8 = 256 from rfl, Nat.xor_assoc, split256]
theorem step1_inj {u v : Nat} (hu : u < 65536) (hv : v < 65536) (h : step1 u = step1 v) : u = v := by
  have key : ∀ w : Nat, w < 32768 → ¬ (w ^^^ 40961 < 32768) := by
    intro w hw hlt
    have b1 : w.testBit 15 = false := Nat.testBit_lt_two_pow hw
    have b2 : (w ^^^ 40961).testBit 15 = false := Nat.testBit_lt_two_pow hlt
    rw [Nat.testBit_xor, b1] at b2
    revert b2
    decide
  unfold step1 at h
  split at h
  · split at h
    · have : u / 2 = v / 2 := xor_rc h
      omega
    · exact absurd (h ▸ (show v / 2 < 32768 by omega)) (key (u / 2) (by omega))
  · split at h
    · exact absurd (h ▸ (show u / 2 < 32768 by omega)) (key (v / 2) (by omega))
    · omega
theorem steps_inj : ∀ {n u v : Nat}, u < 65536 → v < 65536 → steps n u = steps n v → u = v
  | 0, _, _, _, _, h => h
  | n + 1, u, v, hu, hv, h => steps_inj hu hv (step1_inj (steps_lt hu) (steps_lt hv) h)
theorem xor_lt16 {a b : Nat} (ha : a < 65536) (hb : b < 65536) : a ^^^ b < 65536 := Nat.xor_lt_two_pow (n := 16) ha hb
theorem pairS_eq (a b : Nat) : pairS a b = steps 16 (steps 16 (65535 ^^^ a) ^^^ b) := by
  unfold pairS sumF
  simp only [List.foldl_cons, List.foldl_nil]
  rw [word, word]
theorem pairS_lt {a b : Nat} (ha : a < 65536) (hb : b < 65536) : pairS a b < 65536 := by
  rw [pairS_eq]
  exact steps_lt (xor_lt16 (steps_lt (xor_lt16 (by decide) ha)) hb)
theorem pairS_inj1 {a a' b : Nat} (ha : a < 65536) (ha' : a' < 65536) (hb : b < 65536) (h : pairS a b = pairS a' b) : a = a' := by
  rw [pairS_eq, pairS_eq] at h
  have h1 := steps_inj (xor_lt16 (steps_lt (xor_lt16 (by decide) ha)) hb) (xor_lt16 (steps_lt (xor_lt16 (by decide) ha')) hb) h
  have h2 := steps_inj (xor_lt16 (by decide) ha) (xor_lt16 (by decide) ha') (xor_rc h1)
  exact xor_lc h2
theorem pairS_inj2 {a b b' : Nat} (ha : a < 65536) (hb : b < 65536) (hb' : b' < 65536) (h : pairS a b = pairS a b') : b = b' := by
  rw [pairS_eq, pairS_eq] at h
  have q := steps_lt (n := 16) (xor_lt16 (a := 65535) (by decide) ha)
  exact xor_lc (steps_inj (xor_lt16 q hb) (xor_lt16 q hb') h)
theorem sumF_inj : ∀ {l : List Nat} {u v : Nat}, (∀ b ∈ l, b < 256) → u < 65536 → v < 65536 → sumF u l = sumF v l → u = v
  | [], _, _, _, _, _, h => h
  | b :: l, u, v, hl, hu, hv, h => by
    have hb := hl b (List.mem_cons_self ..)
    have h1 := sumF_inj (l := l) (fun c hc => hl c (List.mem_cons_of_mem _ hc)) (sumA_lt hu (by omega)) (sumA_lt hv (by omega)) h
    exact xor_rc (steps_inj (xor_lt16 hu (by omega)) (xor_lt16 hv (by omega)) h1)
theorem sumF_ne {A B : List Nat} {b c : Nat} (hA : ∀ x ∈ A, x < 256) (hB : ∀ x ∈ B, x < 256) (hb : b < 256) (hc : c < 256) (h : sumF 65535 (A ++ b :: B) = sumF 65535 (A ++ c :: B)) : b = c := by
  unfold sumF at h
  rw [List.foldl_append, List.foldl_append, List.foldl_cons, List.foldl_cons] at h
  have q : List.foldl sumA 65535 A < 65536 := sumF_lt (by decide) hA
  have h1 := sumF_inj hB (sumA_lt q (by omega)) (sumA_lt q (by omega)) h
  exact xor_lc (steps_inj (xor_lt16 q (by omega)) (xor_lt16 q (by omega)) h1)
theorem cellsU_set : ∀ {r : Row} {b : Int} {p : Nat} {x i : Int}, r[p]? = some (x, i) → ∃ A B, ∀ n : Int, cellsU b (r.set p (x, n)) = A ++ n.toNat :: B
  | [], _, _, _, _, h => by simp at h
  | c :: r, b, 0, x, i, h => by
    simp at h
    subst h
    exact ⟨sgnB (x - b), cellsU x r, fun n => by rw [List.set_cons_zero, cellsU_cons]⟩
  | c :: r, b, p + 1, x, i, h => by
    obtain ⟨A, B, q⟩ := cellsU_set (r := r) (b := c.1) (p := p) (by simpa using h)
    exact ⟨sgnB (c.1 - b) ++ c.2.toNat :: A, B, fun n => by rw [List.set_cons_succ, cellsU_cons, q n]; simp⟩
theorem set_same {α : Type} {r : List α} {p : Nat} {c : α} (h : r[p]? = some c) : r.set p c = r := by
  obtain ⟨h1, h2⟩ := List.getElem?_eq_some_iff.mp h
  rw [← h2]
  exact List.set_getElem_self h1
theorem leaf_ne {y : Int} {r : Row} {p : Nat} {x i n : Int} (hb : InB r) (hp : r[p]? = some (x, i)) (hn : 0 ≤ n ∧ n ≤ 200) (hne : n ≠ i) : leaf (y, r.set p (x, n)) ≠ leaf (y, r) := by
  obtain ⟨A, B, q⟩ := cellsU_set (b := 0) hp
  have hi := hb (x, i) (List.mem_of_getElem? hp)
  have qi := q i
  rw [set_same hp] at qi
  intro h
  unfold leaf cellsB at h
  rw [q n, qi, List.length_set] at h
  have e : ∀ z, sgnB y ++ (numB r.length ++ (A ++ z :: B)) = (sgnB y ++ (numB r.length ++ A)) ++ z :: B := fun z => by simp
  dsimp only at h
  rw [e, e] at h
  have hm : ∀ x ∈ cellsU 0 r, x < 256 := cellsU_256 hb
  rw [qi] at hm
  have := sumF_ne (fun x hx => by
    rcases List.mem_append.mp hx with z | z
    · exact numB_256 z
    · rcases List.mem_append.mp z with z | z
      · exact numB_256 z
      · exact hm x (by simp [z])) (fun x hx => hm x (by simp [hx])) (by omega) (by have := hi.2.2; omega) h
  have := hi.2.2
  omega
theorem leaf_lt {r : Int × Row} (hb : InB r.2) : leaf r < 65536 := sumF_lt (by decide) fun b hbm => by
  rcases List.mem_append.mp hbm with z | z
  · exact numB_256 z
  · exact cellsB_256 hb b z
end PyX
set_option linter.all false
set_option maxRecDepth 100000
namespace PyX
open PyI
open PySem (Str)
/-! ### one check changed -/
abbrev AllLt (L : List Nat) : Prop := ∀ v ∈ L, v < 65536
theorem up_two {a b : Nat} {r : List Nat} : up (a :: b :: r) = pairS a b :: up r := by rw [up]
theorem up_one {a : Nat} : up [a] = [a] := by rw [up]
theorem up_nil : up [] = [] := by rw [up]
theorem up_lt : ∀ {L : List Nat}, AllLt L → AllLt (up L)
  | [], _ => by rw [up_nil]; intro v hv; cases hv
  | [a], h => by rw [up_one]; exact h
  | a :: b :: r, h => by
    rw [up_two]
    intro v hv
    rcases List.mem_cons.mp hv with e | e
    · rw [e]; exact pairS_lt (h a (by simp)) (h b (by simp))
    · exact up_lt (L := r) (fun w hw => h w (by simp [hw])) v e
theorem set_lt {L : List Nat} (h : AllLt L) {k v : Nat} (hv : v < 65536) : AllLt (L.set k v) := fun w hw => by
  rcases List.mem_or_eq_of_mem_set hw with z | z
  · exact h w z
  · rw [z]; exact hv
theorem up_set : ∀ {L : List Nat} {k u v : Nat}, AllLt L → L[k]? = some u → v < 65536 → v ≠ u → ∃ u' v', (up L)[k / 2]? = some u' ∧ v' < 65536 ∧ v' ≠ u' ∧ up (L.set k v) = (up L).set (k / 2) v'
  | [], k, u, v, _, h, _, _ => by simp at h
  | [a], k, u, v, hL, h, hv, hne => by
    cases k with
    | zero =>
      simp at h
      subst h
      exact ⟨a, v, by rw [up_one]; rfl, hv, hne, by rw [up_one]; exact up_one⟩
    | succ k => simp at h
  | a :: b :: r, 0, u, v, hL, h, hv, hne => by
    simp at h
    subst h
    refine ⟨pairS a b, pairS v b, by rw [up_two]; rfl, pairS_lt hv (hL b (by simp)), fun e => hne (pairS_inj1 hv (hL a (by simp)) (hL b (by simp)) e), ?_⟩
    rw [List.set_cons_zero, up_two, up_two]
    rfl
  | a :: b :: r, 1, u, v, hL, h, hv, hne => by
    simp at h
    subst h
    refine ⟨pairS a b, pairS a v, by rw [up_two]; rfl, pairS_lt (hL a (by simp)) hv, fun e => hne (pairS_inj2 (hL a (by simp)) hv (hL b (by simp)) e), ?_⟩
    rw [List.set_cons_succ, List.set_cons_zero, up_two, up_two]
    rfl
  | a :: b :: r, k + 2, u, v, hL, h, hv, hne => by
    obtain ⟨u', v', q1, q2, q3, q4⟩ := up_set (L := r) (k := k) (u := u) (v := v) (fun w hw => hL w (by simp [hw])) (by simpa using h) hv hne
    have e : (k + 2) / 2 = k / 2 + 1 := by omega
    refine ⟨u', v', by rw [up_two, e]; simpa using q1, q2, q3, ?_⟩
    rw [List.set_cons_succ, List.set_cons_succ, up_two, up_two, e, List.set_cons_succ, q4]
theorem len_of_get {α : Type} {L : List α} {k : Nat} {u : α} (h : L[k]? = some u) : k < L.length := (List.getElem?_eq_some_iff.mp h).1
theorem root_ne {L : List Nat} {k u v : Nat} (hL : AllLt L) (h : L[k]? = some u) (hv : v < 65536) (hne : v ≠ u) : rootT (L.set k v) ≠ rootT L := by
  induction hn : L.length using Nat.strongRecOn generalizing L k u v with
  | _ n ih =>
    have hk := len_of_get h
    by_cases h1 : L.length ≤ 1
    · rw [rootT_one h1, rootT_one (by rw [List.length_set]; exact h1)]
      have : k = 0 := by omega
      subst this
      cases L with
      | nil => simp at h
      | cons a r =>
        simp at h
        subst h
        simpa using hne
    · rw [rootT_more h1, rootT_more (by rw [List.length_set]; exact h1)]
      obtain ⟨u', v', q1, q2, q3, q4⟩ := up_set hL h hv hne
      rw [q4]
      exact ih (up L).length (by rw [up_len]; omega) (up_lt hL) q1 q2 q3 rfl
theorem sib_ne (i : Nat) : sib i ≠ i := by unfold sib; split <;> omega
theorem sib_two (i : Nat) : sib (i + 2) = sib i + 2 := by unfold sib; split <;> split <;> omega
theorem prf1_two {a b : Nat} {r : List Nat} {i : Nat} : prf1 (a :: b :: r) (i + 2) = prf1 r i := by
  unfold prf1
  rw [sib_two]
  by_cases h : sib i < r.length
  · rw [if_pos (by simp; omega), if_pos h]
    by_cases h2 : sib i < i
    · rw [if_pos (by omega), if_pos h2]; simp
    · rw [if_neg (by omega), if_neg h2]; simp
  · rw [if_neg (by simp; omega), if_neg h]
theorem up_get : ∀ {L : List Nat} {i u : Nat}, L[i]? = some u → (up L)[i / 2]? = some (goUp u (prf1 L i))
  | [], i, u, h => by simp at h
  | [a], i, u, h => by
    cases i with
    | zero =>
      simp at h
      subst h
      rw [up_one]
      rfl
    | succ k => simp at h
  | a :: b :: r, 0, u, h => by
    simp at h
    subst h
    rw [up_two]
    simp [prf1, sib, goUp]
  | a :: b :: r, 1, u, h => by
    simp at h
    subst h
    rw [up_two]
    simp [prf1, sib, goUp]
  | a :: b :: r, i + 2, u, h => by
    have e : (i + 2) / 2 = i / 2 + 1 := by omega
    rw [up_two, e, prf1_two]
    simpa using up_get (L := r) (i := i) (by simpa using h)
theorem goUp_append {v : Nat} {p q : List (Int × Int)} : goUp v (p ++ q) = goUp (goUp v p) q := by
  unfold goUp
  rw [List.foldl_append]
theorem goUp_root {L : List Nat} {i u : Nat} (h : L[i]? = some u) : goUp u (prfT L i) = rootT L := by
  induction hn : L.length using Nat.strongRecOn generalizing L i u with
  | _ n ih =>
    have hk := len_of_get h
    by_cases h1 : L.length ≤ 1
    · rw [rootT_one h1, prfT_one h1]
      have : i = 0 := by omega
      subst this
      cases L with
      | nil => simp at h
      | cons a r =>
        simp at h
        subst h
        rfl
    · rw [rootT_more h1, prfT_more h1, goUp_append]
      exact ih (up L).length (by rw [up_len]; omega) (up_get h) rfl
theorem prf1_set {L : List Nat} {k i v : Nat} (h : sib i ≠ k) : prf1 (L.set k v) i = prf1 L i := by
  unfold prf1
  rw [List.length_set]
  split
  · rw [List.getD_eq_getElem?_getD, List.getD_eq_getElem?_getD, List.getElem?_set_ne (fun z => h z.symm)]
  · rfl
/-- its own way is the same -/
theorem own_way {L : List Nat} {k u v : Nat} (hL : AllLt L) (h : L[k]? = some u) (hv : v < 65536) (hne : v ≠ u) : prfT (L.set k v) k = prfT L k := by
  induction hn : L.length using Nat.strongRecOn generalizing L k u v with
  | _ n ih =>
    have hk := len_of_get h
    by_cases h1 : L.length ≤ 1
    · rw [prfT_one h1, prfT_one (by rw [List.length_set]; exact h1)]
    · rw [prfT_more h1, prfT_more (by rw [List.length_set]; exact h1), prf1_set (sib_ne k)]
      obtain ⟨u', v', q1, q2, q3, q4⟩ := up_set hL h hv hne
      rw [q4, ih (up L).length (by rw [up_len]; omega) (up_lt hL) q1 q2 q3 rfl]
/-- alike but for one check -/
def OneDiff (p q : List (Int × Int)) : Prop := ∃ A s B c d, p = A ++ (s, c) :: B ∧ q = A ++ (s, d) :: B ∧ c ≠ d
theorem OneDiff.front {p q : List (Int × Int)} (A : List (Int × Int)) (h : OneDiff p q) : OneDiff (A ++ p) (A ++ q) := by
  obtain ⟨A', s, B, c, d, h1, h2, h3⟩ := h
  exact ⟨A ++ A', s, B, c, d, by rw [h1]; simp, by rw [h2]; simp, h3⟩
theorem other_way {L : List Nat} {k u v i : Nat} (hL : AllLt L) (h : L[k]? = some u) (hv : v < 65536) (hne : v ≠ u) (hi : i < L.length) (hik : i ≠ k) : OneDiff (prfT L i) (prfT (L.set k v) i) := by
  induction hn : L.length using Nat.strongRecOn generalizing L k u v i with
  | _ n ih =>
    have hk := len_of_get h
    have h1 : ¬ L.length ≤ 1 := by omega
    have h1' : ¬ (L.set k v).length ≤ 1 := by rw [List.length_set]; exact h1
    rw [prfT_more (L := L) h1, prfT_more h1']
    obtain ⟨u', v', q1, q2, q3, q4⟩ := up_set hL h hv hne
    by_cases hs : sib i = k
    · have h2 : i / 2 = k / 2 := by unfold sib at hs; split at hs <;> omega
      rw [q4, h2, own_way (up_lt hL) q1 q2 q3]
      unfold prf1
      rw [List.length_set, hs, if_pos hk, if_pos hk]
      refine ⟨[], _, prfT (up L) (k / 2), _, _, rfl, rfl, ?_⟩
      rw [List.getD_eq_getElem?_getD, List.getD_eq_getElem?_getD, h, List.getElem?_set_self hk]
      simp
      omega
    · rw [prf1_set hs, q4]
      refine OneDiff.front _ (ih (up L).length (by rw [up_len]; omega) (up_lt hL) q1 q2 q3 (by rw [up_len]; omega) ?_ rfl)
      intro z
      apply hs
      unfold sib
      split <;> omega
def hgt (n i : Nat) : Nat := if h : n ≤ 1 then 0 else (if i % 2 = 1 ∨ i + 1 < n then 1 else 0) + hgt ((n + 1) / 2) (i / 2)
theorem hgt_one {n i : Nat} (h : n ≤ 1) : hgt n i = 0 := by rw [hgt, dif_pos h]
theorem hgt_more {n i : Nat} (h : ¬ n ≤ 1) : hgt n i = (if i % 2 = 1 ∨ i + 1 < n then 1 else 0) + hgt ((n + 1) / 2) (i / 2) := by
  conv => lhs; rw [hgt]
  rw [dif_neg h]
theorem way_len {L : List Nat} {i : Nat} (hi : i < L.length) : (prfT L i).length = hgt L.length i := by
  induction hn : L.length using Nat.strongRecOn generalizing L i with
  | _ n ih =>
    by_cases h1 : L.length ≤ 1
    · rw [prfT_one h1, hgt_one (by omega)]
      rfl
    · rw [prfT_more h1, hgt_more (by omega), List.length_append, ih (up L).length (by rw [up_len]; omega) (by rw [up_len]; omega) rfl, up_len, hn]
      congr 1
      have e : (i % 2 = 1 ∨ i + 1 < n) ↔ sib i < L.length := by unfold sib; split <;> omega
      unfold prf1
      by_cases q : sib i < L.length
      · simp [e, q]
      · simp [e, q]
theorem way_ok {L : List Nat} {i : Nat} (hL : AllLt L) : ∀ s ∈ prfT L i, (s.1 = 0 ∨ s.1 = 1) ∧ 0 ≤ s.2 ∧ s.2 < 65536 := by
  induction hn : L.length using Nat.strongRecOn generalizing L i with
  | _ n ih =>
    by_cases h1 : L.length ≤ 1
    · rw [prfT_one h1]
      intro s hs
      cases hs
    · rw [prfT_more h1]
      intro s hs
      rcases List.mem_append.mp hs with z | z
      · unfold prf1 at z
        split at z
        · rename_i hlt
          simp only [List.mem_singleton] at z
          subst z
          have : L.getD (sib i) 0 < 65536 := by
            rw [List.getD_eq_getElem?_getD, List.getElem?_eq_getElem hlt]
            exact hL _ (List.getElem_mem hlt)
          refine ⟨?_, by simp, by simp only []; omega⟩
          dsimp only
          split
          · exact .inl rfl
          · exact .inr rfl
        · cases z
      · exact ih (up L).length (by rw [up_len]; omega) (up_lt hL) rfl s z
end PyX
set_option linter.all false
set_option maxRecDepth 100000
namespace PyX
open PyI
open PySem (Str)
/-! ### rows of the law, their picture -/
structure Vd (rows : List (Int × Row)) : Prop where
  len : 1 ≤ rows.length ∧ rows.length ≤ 7
  ys : (rows.map (·.1)).Pairwise (· < ·)
  at_ : ∀ r ∈ rows, (-40000 ≤ r.1 ∧ r.1 ≤ 40000) ∧ (1 ≤ r.2.length ∧ r.2.length ≤ 4) ∧ (r.2.map (·.1)).Pairwise (· < ·) ∧ ∀ c ∈ r.2, (-40000 ≤ c.1 ∧ c.1 ≤ 40000) ∧ 1 ≤ c.2 ∧ c.2 ≤ 4
theorem Vd.rb {rows : List (Int × Row)} (h : Vd rows) : RB rows := ⟨by have := h.len; omega, fun r hr => by
  obtain ⟨q1, q2, q3, q4⟩ := h.at_ r hr
  exact ⟨by omega, by omega, by omega, fun c hc => by have := q4 c hc; omega, q3⟩⟩
theorem Vd.ink {rows : List (Int × Row)} (h : Vd rows) : ∀ r ∈ rows, Ink r.2 := fun r hr c hc => ((h.at_ r hr).2.2.2 c hc).2
theorem Vd.ne {rows : List (Int × Row)} (h : Vd rows) : rows ≠ [] := fun z => by have := h.len; rw [z] at this; simp at this
theorem flat_cons {r : Int × Row} {rows : List (Int × Row)} : flat (r :: rows) = (r.2.map fun c => ((c.1, r.1), c.2)) ++ flat rows := List.flatMap_cons
/-- what a row's cells give -/
theorem asc_row {y : Int} {r : Row} {j : Int × Int} : asc (r.map fun c => ((c.1, y), c.2)) j = if j.2 = y then asc r j.1 else none := by
  induction r with
  | nil => simp [asc_nil]
  | cons c r ih =>
    rw [List.map_cons, asc_cons, asc_cons, ih]
    obtain ⟨jx, jy⟩ := j
    dsimp only
    by_cases h : jy = y
    · subst h
      by_cases h2 : c.1 = jx
      · subst h2
        simp
      · have : ¬ (c.1, jy) = (jx, jy) := fun z => h2 (congrArg Prod.fst z)
        simp [h2, this]
    · have : ¬ (c.1, y) = (jx, jy) := fun z => h (congrArg Prod.snd z).symm
      simp [h, this]
theorem keys_flat {rows : List (Int × Row)} (ys : (rows.map (·.1)).Pairwise (· < ·)) (hx : ∀ r ∈ rows, (r.2.map (·.1)).Pairwise (· < ·)) : Keys (flat rows) := by
  induction rows with
  | nil => exact List.nodup_nil
  | cons r rows ih =>
    rw [List.map_cons, List.pairwise_cons] at ys
    rw [flat_cons]
    unfold Keys
    rw [List.map_append, List.nodup_append]
    refine ⟨?_, ih ys.2 fun q hq => hx q (List.mem_cons_of_mem _ hq), ?_⟩
    · rw [List.map_map]
      have := nodup_lt (hx r (List.mem_cons_self ..))
      have e : ((fun p : Cell => p.1) ∘ fun c : Int × Int => ((c.1, r.1), c.2)) = (fun x : Int => (x, r.1)) ∘ fun c => c.1 := rfl
      rw [e, ← List.map_map]
      refine List.pairwise_map.mpr (this.imp fun {a b} h e => h (congrArg Prod.fst e))
    · intro a ha b hb e
      subst e
      obtain ⟨c, hc, rfl⟩ := List.mem_map.mp ha
      obtain ⟨d, hd, rfl⟩ := List.mem_map.mp hc
      obtain ⟨c2, hc2, e2⟩ := List.mem_map.mp hb
      unfold flat at hc2
      obtain ⟨r2, hr2, hc3⟩ := List.mem_flatMap.mp hc2
      obtain ⟨d2, hd2, rfl⟩ := List.mem_map.mp hc3
      have := ys.1 r2.1 (List.mem_map_of_mem hr2)
      have e3 : r2.1 = r.1 := congrArg Prod.snd e2
      omega
def printR (rows : List (Int × Row)) : List Cell := (sort2 ((flat rows).map (·.1))).map fun c => (c, (asc (flat rows) c).getD 0)
theorem print_keys {rows : List (Int × Row)} : (printR rows).map (·.1) = sort2 ((flat rows).map (·.1)) := by
  unfold printR
  rw [List.map_map]
  exact List.map_id' _
theorem print_lt {rows : List (Int × Row)} : ((printR rows).map (·.1)).Pairwise lt2 := by rw [print_keys]; exact sort2_lt
theorem print_nd {rows : List (Int × Row)} : Keys (printR rows) := nodup_lt2 print_lt
theorem asc_map2 {L : List (Int × Int)} {f : Int × Int → Int} {j : Int × Int} : asc (L.map fun x => (x, f x)) j = if j ∈ L then some (f j) else none := by
  induction L with
  | nil => rfl
  | cons x L ih =>
    rw [List.map_cons, asc_cons, ih]
    by_cases e : x = j
    · subst e; simp
    · have e2 : ¬ j = x := fun z => e z.symm
      simp [e, e2]
theorem asc_print {rows : List (Int × Row)} (j : Int × Int) : asc (printR rows) j = asc (flat rows) j := by
  unfold printR
  rw [asc_map2]
  by_cases h : j ∈ sort2 ((flat rows).map (·.1))
  · rw [if_pos h]
    have := asc_isSome.mpr (sort2_mem.mp h)
    cases q : asc (flat rows) j with
    | none => rw [q] at this; cases this
    | some v => rfl
  · rw [if_neg h]
    exact (asc_none.mpr fun z => h (sort2_mem.mpr z)).symm
theorem Vd.keys {rows : List (Int × Row)} (h : Vd rows) : Keys (flat rows) := keys_flat h.ys fun r hr => (h.at_ r hr).2.2.1
theorem Vd.perm {rows : List (Int × Row)} (h : Vd rows) : (flat rows).Perm (printR rows) := perm_of_asc h.keys print_nd fun j => (asc_print j).symm
theorem flat_len : ∀ {rows : List (Int × Row)}, (∀ r ∈ rows, 1 ≤ r.2.length ∧ r.2.length ≤ 4) → rows.length ≤ (flat rows).length ∧ (flat rows).length ≤ 4 * rows.length
  | [], _ => by simp [flat]
  | r :: rows, h => by
    have := h r (List.mem_cons_self ..)
    have := flat_len (rows := rows) fun q hq => h q (List.mem_cons_of_mem _ hq)
    rw [flat_cons]
    simp
    omega
theorem Vd.plen {rows : List (Int × Row)} (h : Vd rows) : 1 ≤ (printR rows).length ∧ (printR rows).length ≤ 28 := by
  have := flat_len (rows := rows) fun r hr => (h.at_ r hr).2.1
  have := h.perm.length_eq
  have := h.len
  omega
theorem Vd.pne {rows : List (Int × Row)} (h : Vd rows) : printR rows ≠ [] := fun z => by have := h.plen; rw [z] at this; simp at this
theorem gath_row {r : Row} {y z : Int} : gath (r.map fun c => ((c.1, y), c.2)) z = if y = z then r else [] := by
  induction r with
  | nil => simp [gath]
  | cons c r ih =>
    rw [List.map_cons, show gath (((c.1, y), c.2) :: r.map fun c => ((c.1, y), c.2)) z = gath [((c.1, y), c.2)] z ++ gath (r.map fun c => ((c.1, y), c.2)) z from gath_append (l := [_]), ih, gath_one]
    by_cases h : y = z <;> simp [h]
theorem gath_flat {z : Int} : ∀ {rows : List (Int × Row)}, (rows.map (·.1)).Pairwise (· < ·) → (∀ r ∈ rows, r.1 = z → gath (flat rows) z = r.2) ∧ ((∀ r ∈ rows, r.1 ≠ z) → gath (flat rows) z = [])
  | [], _ => ⟨fun r hr => by simp at hr, fun _ => rfl⟩
  | q :: rows, ys => by
    rw [List.map_cons, List.pairwise_cons] at ys
    have ih := gath_flat (z := z) ys.2
    rw [flat_cons, gath_append, gath_row]
    constructor
    · intro r hr e
      rcases List.mem_cons.mp hr with h | h
      · subst h
        rw [if_pos e, ih.2, List.append_nil]
        intro p hp e2
        have := ys.1 p.1 (List.mem_map_of_mem hp)
        omega
      · have := ys.1 r.1 (List.mem_map_of_mem h)
        rw [if_neg (by omega), ih.1 r h e]
        rfl
    · intro h
      rw [if_neg (h q (List.mem_cons_self ..)), ih.2 fun r hr => h r (List.mem_cons_of_mem _ hr)]
      rfl
theorem Vd.rows {rows : List (Int × Row)} (h : Vd rows) : RowsOf (printR rows) rows := by
  have pm : ∀ y, (gath (flat rows) y).Perm (gath (printR rows) y) := fun y => h.perm.filterMap _
  refine ⟨by have := h.plen; omega, h.ys, fun y => ?_, fun r hr => ⟨?_, (h.at_ r hr).2.2.1⟩⟩
  · have g := gath_flat (z := y) h.ys
    constructor
    · intro hne
      by_cases q : y ∈ rows.map (·.1)
      · exact q
      · exfalso
        apply hne
        have := g.2 fun r hr e => q (List.mem_map.mpr ⟨r, hr, e⟩)
        have p := pm y
        rw [this] at p
        exact List.nil_perm.mp p
    · intro hm hz
      obtain ⟨r, hr, e⟩ := List.mem_map.mp hm
      have p := pm y
      rw [hz, g.1 r hr e] at p
      have := (h.at_ r hr).2.1
      rw [List.perm_nil.mp p] at this
      simp at this
  · have g := (gath_flat (z := r.1) h.ys).1 r hr rfl
    have p := pm r.1
    rw [g] at p
    exact p.symm
/-! ### one ink changed -/
theorem asc_rset {r : Row} {p : Nat} {x i n : Int} (hk : Keys r) (hp : r[p]? = some (x, i)) (j : Int) : asc (r.set p (x, n)) j = if j = x then some n else asc r j := by
  induction r generalizing p with
  | nil => simp at hp
  | cons c r ih =>
    simp only [Keys, List.map_cons, List.nodup_cons] at hk
    cases p with
    | zero =>
      simp at hp
      subst hp
      rw [List.set_cons_zero, asc_cons, asc_cons]
      by_cases e : j = x
      · subst e; simp
      · have e2 : ¬ x = j := fun z => e z.symm
        simp [e, e2]
    | succ p =>
      have hp2 : r[p]? = some (x, i) := by simpa using hp
      rw [List.set_cons_succ, asc_cons, asc_cons, ih hk.2 hp2]
      by_cases e : c.1 = j
      · subst e
        have : c.1 ≠ x := by
          rintro rfl
          exact hk.1 (List.mem_map.mpr ⟨_, List.mem_of_getElem? hp2, rfl⟩)
        simp [this]
      · simp [e]
theorem keys_rset {r : Row} {p : Nat} {x i n : Int} (hp : r[p]? = some (x, i)) : (r.set p (x, n)).map (·.1) = r.map (·.1) := by
  rw [List.map_set]
  refine set_same ?_
  rw [List.getElem?_map, hp]
  rfl
theorem asc_flat {rows : List (Int × Row)} (ys : (rows.map (·.1)).Pairwise (· < ·)) {k : Nat} {y : Int} {r : Row} (hk : rows[k]? = some (y, r)) (x : Int) : asc (flat rows) (x, y) = asc r x := by
  induction rows generalizing k with
  | nil => simp at hk
  | cons q rows ih =>
    rw [List.map_cons, List.pairwise_cons] at ys
    rw [flat_cons, asc_append, asc_row]
    cases k with
    | zero =>
      simp at hk
      subst hk
      rw [if_pos rfl]
      cases h : asc r x with
      | some v => rfl
      | none =>
        rw [Option.none_or]
        refine asc_none.mpr fun z => ?_
        obtain ⟨c2, hc2, e2⟩ := List.mem_map.mp z
        unfold flat at hc2
        obtain ⟨r2, hr2, hc3⟩ := List.mem_flatMap.mp hc2
        obtain ⟨d2, hd2, rfl⟩ := List.mem_map.mp hc3
        have := ys.1 r2.1 (List.mem_map_of_mem hr2)
        have e3 : r2.1 = y := congrArg Prod.snd e2
        dsimp only at this
        omega
    | succ k =>
      have hk2 : rows[k]? = some (y, r) := by simpa using hk
      have := ys.1 y (List.mem_map.mpr ⟨_, List.mem_of_getElem? hk2, rfl⟩)
      rw [if_neg (by dsimp only; omega), Option.none_or]
      exact ih ys.2 hk2
theorem asc_flat_none {rows : List (Int × Row)} {j : Int × Int} (h : j.2 ∉ rows.map (·.1)) : asc (flat rows) j = none := by
  refine asc_none.mpr fun z => h ?_
  obtain ⟨c2, hc2, e2⟩ := List.mem_map.mp z
  unfold flat at hc2
  obtain ⟨r2, hr2, hc3⟩ := List.mem_flatMap.mp hc2
  obtain ⟨d2, hd2, rfl⟩ := List.mem_map.mp hc3
  exact List.mem_map.mpr ⟨r2, hr2, congrArg Prod.snd e2⟩
def setR (rows : List (Int × Row)) (k p : Nat) (y x n : Int) (r : Row) : List (Int × Row) := rows.set k (y, r.set p (x, n))
theorem ys_setR {rows : List (Int × Row)} {k p : Nat} {y x n : Int} {r : Row} (hk : rows[k]? = some (y, r)) : (setR rows k p y x n r).map (·.1) = rows.map (·.1) := by
  unfold setR
  rw [List.map_set]
  refine set_same ?_
  rw [List.getElem?_map, hk]
  rfl
theorem Vd.set {rows : List (Int × Row)} (h : Vd rows) {k p : Nat} {y x i n : Int} {r : Row} (hk : rows[k]? = some (y, r)) (hp : r[p]? = some (x, i)) (hn : 1 ≤ n ∧ n ≤ 4) : Vd (setR rows k p y x n r) := by
  refine ⟨by unfold setR; rw [List.length_set]; exact h.len, by rw [ys_setR hk]; exact h.ys, fun q hq => ?_⟩
  rcases List.mem_or_eq_of_mem_set hq with z | z
  · exact h.at_ q z
  · obtain ⟨q1, q2, q3, q4⟩ := h.at_ (y, r) (List.mem_of_getElem? hk)
    subst z
    refine ⟨q1, by dsimp only; rw [List.length_set]; exact q2, by dsimp only; rw [keys_rset hp]; exact q3, fun c hc => ?_⟩
    rcases List.mem_or_eq_of_mem_set hc with z | z
    · exact q4 c z
    · subst z
      exact ⟨(q4 (x, i) (List.mem_of_getElem? hp)).1, hn⟩
theorem asc_set {rows : List (Int × Row)} (h : Vd rows) {k p : Nat} {y x i n : Int} {r : Row} (hk : rows[k]? = some (y, r)) (hp : r[p]? = some (x, i)) (hn : 1 ≤ n ∧ n ≤ 4) (j : Int × Int) :
    asc (printR (setR rows k p y x n r)) j = if j = (x, y) then some n else asc (printR rows) j := by
  have h2 := h.set hk hp hn
  rw [asc_print, asc_print]
  obtain ⟨jx, jy⟩ := j
  by_cases hj : jy ∈ rows.map (·.1)
  · obtain ⟨q, hq, e⟩ := List.mem_map.mp hj
    obtain ⟨m, hm, e2⟩ := List.mem_iff_getElem.mp hq
    have hm2 : rows[m]? = some (jy, q.2) := by rw [List.getElem?_eq_getElem hm, e2, ← e]
    rw [asc_flat h.ys hm2]
    by_cases hmk : m = k
    · subst hmk
      rw [hk] at hm2
      cases hm2
      have hs : (setR rows m p y x n q.2)[m]? = some (y, q.2.set p (x, n)) := by unfold setR; rw [List.getElem?_set_self hm]
      rw [asc_flat h2.ys hs, asc_rset (nodup_lt (h.at_ _ (List.mem_of_getElem? hk)).2.2.1) hp]
      by_cases ex : jx = x
      · subst ex; simp
      · have : ¬ (jx, y) = (x, y) := fun z => ex (congrArg Prod.fst z)
        rw [if_neg ex, if_neg this]
    · have hs : (setR rows k p y x n r)[m]? = some (jy, q.2) := by unfold setR; rw [List.getElem?_set_ne (fun z => hmk z.symm)]; exact hm2
      rw [asc_flat h2.ys hs]
      have : ¬ (jx, jy) = (x, y) := by
        intro z
        have e3 : jy = y := congrArg Prod.snd z
        have hyk := len_of_get hk
        have pw := List.pairwise_iff_getElem.mp h.ys
        have g1 : (rows.map (·.1))[m]'(by simpa using hm) = jy := by
          have := (List.getElem?_eq_some_iff.mp hm2).2
          simp [this]
        have g2 : (rows.map (·.1))[k]'(by simpa using hyk) = y := by
          have := (List.getElem?_eq_some_iff.mp hk).2
          simp [this]
        rcases Nat.lt_or_gt_of_ne hmk with l | l
        · have := pw m k (by simpa using hm) (by simpa using hyk) l
          rw [g1, g2] at this
          omega
        · have := pw k m (by simpa using hyk) (by simpa using hm) l
          rw [g1, g2] at this
          omega
      rw [if_neg this]
  · rw [asc_flat_none (rows := rows) hj, asc_flat_none (rows := setR rows k p y x n r) (by rw [ys_setR hk]; exact hj)]
    have : ¬ (jx, jy) = (x, y) := by
      intro z
      have e3 : jy = y := congrArg Prod.snd z
      exact hj (List.mem_map.mpr ⟨(y, r), List.mem_of_getElem? hk, e3.symm⟩)
    rw [if_neg this]
theorem asc_cell {rows : List (Int × Row)} (h : Vd rows) {k p : Nat} {y x i : Int} {r : Row} (hk : rows[k]? = some (y, r)) (hp : r[p]? = some (x, i)) : asc (printR rows) (x, y) = some i := by
  rw [asc_print, asc_flat h.ys hk]
  exact (asc_mem (nodup_lt (h.at_ _ (List.mem_of_getElem? hk)).2.2.1)).mpr (List.mem_of_getElem? hp)
theorem sums_set {rows : List (Int × Row)} {k p : Nat} {y x n : Int} {r : Row} : sums (setR rows k p y x n r) = (sums rows).set k (leaf (y, r.set p (x, n))) := by
  unfold sums setR
  rw [List.map_set]
theorem sums_lt {rows : List (Int × Row)} (h : Vd rows) : AllLt (sums rows) := fun v hv => by
  obtain ⟨r, hr, rfl⟩ := List.mem_map.mp hv
  exact leaf_lt (h.rb.at_ r hr).2.2.2.1
end PyX
set_option linter.all false
set_option maxRecDepth 100000
namespace PyX
open PyI
open PySem (Str)
theorem sorted4 (S4 : List Int) (h : ∀ i ∈ S4, 1 ≤ i ∧ i ≤ 4) : sortI S4 = [1, 2, 3, 4].filter fun i => decide (i ∈ S4) := by
  refine sorted_ext (lt := fun a b : Int => a < b) (fun a => Int.lt_irrefl a) (fun a b h1 h2 => by omega) sortI_lt (List.Pairwise.filter _ (by decide)) fun x => ?_
  rw [sortI_mem, List.mem_filter]
  constructor
  · intro hx
    have := h x hx
    refine ⟨?_, decide_eq_true hx⟩
    have : x = 1 ∨ x = 2 ∨ x = 3 ∨ x = 4 := by omega
    simpa using this
  · intro hx
    exact of_decide_eq_true hx.2
def countsP (pic : List Cell) : Row := ([1, 2, 3, 4].filter fun i => decide (i ∈ pic.map (·.2))).map fun i => (i, ((pic.filter fun c => decide (c.2 = i)).length : Int))
theorem r_ink_counts {pic : List Cell} {k : Nat} {S : Sto} (hl : pic.length < 64) (hi : ∀ i ∈ pic.map (·.2), 1 ≤ i ∧ i ≤ 4) : run tab (k + 1) 24 [.p (ePic pic)] S = some (.p (eRow (countsP pic)), S) := by
  refine run_W at_ink_counts rfl ?_
  unfold f_ink_counts
  have hl2 : pic.length ≤ 16777216 := by omega
  have ss : ssetP ((pic.map (·.2)).map P.int) = some ((sortI (pic.map (·.2))).map P.int) := sset_int (by simpa using hl) (fun x => sortI_mem) sortI_lt
  rw [sorted4 _ hi] at ss
  generalize hU : [1, 2, 3, 4].filter (fun i => decide (i ∈ pic.map (·.2))) = U at ss
  have hU4 : U.length ≤ 4 := by rw [← hU]; exact List.length_filter_le _ _
  have hU5 : U.length ≤ 16777216 := by omega
  simp! only [start, lineL]
  rw [compL_map pic (fun c => .p (eP c)) (fun c => .p (.int c.2))]
  · have e : (pic.map fun c => D.p (.int c.2)) = (pic.map (·.2)).map fun i => D.p (.int i) := by simp
    rw [e]
    simp! only [hl2, ss, lineL]
    rw [compL_map U (fun i => .p (.int i)) (fun i => .p (e2 (i, ((pic.filter fun c => decide (c.2 = i)).length : Int))))]
    · simp! only [hU5, W_some]
      refine ⟨?_, List.prefix_append ..⟩
      unfold countsP
      rw [hU, eRow, List.map_map]
      rfl
    · rfl
    · simp [still, get_at]
    · intro i hi
      simp! only [compF, lineL]
      rw [compL_fil pic (fun c => .p (eP c)) (fun c => .p (e2 c.1)) (fun c => decide (c.2 = i))]
      · have hf : (pic.filter fun c => decide (c.2 = i)).length ≤ 16777216 := Nat.le_trans (List.length_filter_le _ _) hl2
        simp! only [hf]
      · rfl
      · rfl
      · intro c hc
        by_cases h : c.2 = i
        · have b : (c.2 == i) = true := by simpa using h
          simp! only [compF, b]
          simp [h]
        · have b : (c.2 == i) = false := by simpa using h
          simp! only [compF, b]
          simp [h]
  · rfl
  · rfl
  · intro c hc
    simp! only [compF]
theorem count_eq {pic : List Cell} {i : Int} : (pic.map fun c => P.int c.2).countP (fun y => pyEq y (.int i)) = (pic.filter fun c => decide (c.2 = i)).length := by
  rw [List.countP_map, List.countP_eq_length_filter]
  congr 2
theorem r_law_counts {pic : List Cell} {k : Nat} {S : Sto} (hl : pic.length < 64) : run tab (k + 1) 38 [.p (ePic pic)] S = some (.p (eRow (countsP pic)), S) := by
  refine run_W at_law_counts rfl ?_
  unfold f_law_counts
  have hl2 : pic.length ≤ 16777216 := by omega
  simp! only [start, lineL]
  rw [compL_map pic (fun c => .p (eP c)) (fun c => .p (.int c.2))]
  · simp! only [hl2, lineL]
    rw [compL_fil ([1, 2, 3, 4] : List Int) (fun i => .p (.int i)) (fun i => .p (e2 (i, ((pic.filter fun c => decide (c.2 = i)).length : Int)))) (fun i => decide (i ∈ pic.map (·.2)))]
    · have hU5 : (([1, 2, 3, 4] : List Int).filter fun i => decide (i ∈ pic.map (·.2))).length ≤ 16777216 := Nat.le_trans (List.length_filter_le _ _) (by decide)
      simp! only [hU5, W_some]
      refine ⟨?_, List.prefix_append ..⟩
      unfold countsP
      rw [eRow, List.map_map]
      rfl
    · rfl
    · rfl
    · intro i hi
      have hany : ((pic.map fun c => P.int c.2).any fun y => pyEq y (.int i)) = decide (i ∈ pic.map (·.2)) := by
        rw [Bool.eq_iff_iff]
        simp [pyEq]
      by_cases h : i ∈ pic.map (·.2)
      · have b := hany.trans (decide_eq_true h)
        simp! only [compF, inR, b, count_eq]
        simp only [h, decide_true, if_true]
      · have b := hany.trans (decide_eq_false h)
        simp! only [compF, inR, b]
        simp only [h, decide_false]
        rfl
  · rfl
  · rfl
  · intro c hc
    have a1 : atI [e2 c.1, P.int c.2] 1 = some (.int c.2) := rfl
    simp! only [compF, a1]
theorem r_law_print {rows : List (Int × Row)} (h : Vd rows) {k : Nat} {S : Sto} : run tab (k + 1) 37 [.p (eRows rows)] S = some (.p (ePic (printR rows)), S) := by
  refine run_W at_law_print rfl ?_
  unfold f_law_print
  have fl := flat_len (rows := rows) fun r hr => (h.at_ r hr).2.1
  have hn := h.len
  have srt := sort_eP (L := flat rows) (M := printR rows) (by show _ ≤ 16777216; omega) h.perm print_lt
  simp! only [start]
  refine W_sq ?_
  refine W_loop rows (fun r => .p (eYR r)) (fun done e S' => ∃ j2 j3, e = [some (.p (eRows rows)), some (.ref S.length), j2, j3, none] ∧ S' = S ++ [.lst ((flat done).map fun c => .p (eP c))]) rfl ?_ ?_ ⟨none, none, rfl, rfl⟩
  · rintro done r rest e S' hL ⟨j2, j3, rfl, rfl⟩
    have hr : r ∈ rows := by rw [hL]; simp
    have r4 := (h.at_ r hr).2.1
    have fd : (flat done).length + r.2.length ≤ (flat rows).length := by
      rw [hL]
      unfold flat
      rw [List.flatMap_append, List.flatMap_cons]
      simp
    have l1 : r.2.length ≤ 16777216 := by omega
    have l2 : (flat done).length + r.2.length ≤ 16777216 := by omega
    simp! only [turnF, lineL]
    rw [compL_map r.2 (fun c => .p (e2 c)) (fun c => .p (eP ((c.1, r.1), c.2)))]
    · simp! only [l1, l2, W_some, still]
      refine ⟨_, _, rfl, ?_⟩
      unfold flat
      rw [List.flatMap_append, List.flatMap_cons, List.flatMap_nil, List.append_nil, List.map_append, List.map_map]
      rfl
    · rfl
    · rfl
    · intro c hc
      have a0 : atI [P.int c.1, P.int c.2] 0 = some (.int c.1) := rfl
      have a1 : atI [P.int c.1, P.int c.2] 1 = some (.int c.2) := rfl
      simp! only [compF, a0, a1]
  · rintro e S' ⟨j2, j3, rfl, rfl⟩
    simp! only [srt, W_some]
    (first | exact List.prefix_refl _ | exact ⟨rfl, List.prefix_refl _⟩ | exact List.prefix_append .. | exact ⟨rfl, List.prefix_append ..⟩)
theorem r_law_is_check (v : Nat) (h : v < 65536) {k : Nat} {S : Sto} : run tab (k + 2) 39 [.p (.int v)] S = some (.p (.bl true), S) := by
  refine run_W at_law_is_check rfl ?_
  unfold f_law_is_check
  have g : decide ((v : Int) < 65536) = true := decide_eq_true (by omega)
  have g2 : decide ((v : Int) < 0) = false := decide_eq_false (by omega)
  simp! only [start, r_law_is_int, g, g2, W_some]
  (first | exact List.prefix_refl _ | exact ⟨rfl, List.prefix_refl _⟩ | exact List.prefix_append .. | exact ⟨rfl, List.prefix_append ..⟩)
theorem r_law_proof_right {p : List (Int × Int)} (hl : p.length < 1000) (h : ∀ s ∈ p, (s.1 = 0 ∨ s.1 = 1) ∧ 0 ≤ s.2 ∧ s.2 < 65536) {k : Nat} {S : Sto} : run tab (k + 3) 40 [.p (eRow p), .p (.int (p.length : Nat))] S = some (.p (.bl true), S) := by
  refine run_W at_law_proof_right rfl ?_
  unfold f_law_proof_right
  simp! only [start, beq_self_eq_true]
  refine W_sq ?_
  refine W_loop p (fun c => .p (e2 c)) (fun done e S' => ∃ j2, e = [some (.p (eRow p)), some (.p (.int (p.length : Nat))), j2] ∧ S' = S) rfl ?_ ?_ ⟨none, rfl, rfl⟩
  · rintro done s rest e S' hL ⟨j2, rfl, rfl⟩
    obtain ⟨q1, q2, q3⟩ := h s (by rw [hL]; simp)
    have a0 : atI [P.int s.1, P.int s.2] 0 = some (.int s.1) := rfl
    have a1 : atI [P.int s.1, P.int s.2] 1 = some (.int s.2) := rfl
    have rc := r_law_is_check s.2.toNat (by omega) (k := k) (S := S')
    rw [show ((s.2.toNat : Nat) : Int) = s.2 by omega] at rc
    have an : ([P.int 0, P.int 1].any fun y => pyEq y (.int s.1)) = true := by
      rcases q1 with e | e <;> rw [e] <;> decide
    simp! only [turnF, a0, a1, show ((2 : Nat) : Int) = 2 from rfl, beq_self_eq_true, r_law_is_int, rc, inR, an, W_some, still]
    exact ⟨_, rfl⟩
  · rintro e S' ⟨j2, rfl, rfl⟩
    simp! only [W_some]
    (first | exact List.prefix_refl _ | exact ⟨rfl, List.prefix_refl _⟩ | exact List.prefix_append .. | exact ⟨rfl, List.prefix_append ..⟩)
theorem r_law_height (n i : Nat) (hn : n < 40) {k : Nat} {S : Sto} : run tab (k + 1) 41 [.p (.int n), .p (.int i)] S = some (.p (.int (hgt n i : Nat)), S) := by
  refine run_W at_law_height rfl ?_
  unfold f_law_height
  have s62 : small62 40 = true := by decide
  simp! only [start, s62]
  refine W_sq ?_
  refine W_loop (List.range 40) _ (fun done e S' => ∃ j3, ∃ (m x f : Nat), f + hgt m x = hgt n i ∧ m + done.length ≤ 40 ∧ e = [some (.p (.int m)), some (.p (.int x)), some (.p (.int f)), j3] ∧ S' = S) rfl ?_ ?_ ⟨none, n, i, 0, by simp, by simp; omega, rfl, rfl⟩
  · rintro done a rest e S' hL ⟨j3, m, x, f, g1, g2, rfl, rfl⟩
    by_cases hm : m ≤ 1
    · have b : decide ((1 : Int) < (m : Int)) = false := decide_eq_false (by omega)
      simp! only [turnF, b, W_some]
      rw [hgt_one hm] at g1
      rw [← g1]
      simp
    · have b : decide ((1 : Int) < (m : Int)) = true := decide_eq_true (by omega)
      rw [hgt_more hm] at g1
      have fin : ∀ f' : Nat, f' + hgt ((m + 1) / 2) (x / 2) = hgt n i → ∃ j3, ∃ (m' x' f'' : Nat), f'' + hgt m' x' = hgt n i ∧ m' + (done.length + 1) ≤ 40 ∧ ([some (.p (.int (((m : Int) + 1) / 2))), some (.p (.int ((x : Int) / 2))), some (.p (.int f')), some (.p (.int (a : Nat)))] : List (Option D)) = [some (.p (.int m')), some (.p (.int x')), some (.p (.int f'')), j3] :=
        fun f' hf => ⟨_, (m + 1) / 2, x / 2, f', hf, by omega, by rw [show ((m : Int) + 1) / 2 = (((m + 1) / 2 : Nat) : Int) by omega, show (x : Int) / 2 = ((x / 2 : Nat) : Int) by omega]⟩
      by_cases h1 : x % 2 = 1
      · have b1 : (((x : Int) % 2) == 1) = true := by simp; omega
        simp! only [turnF, b, b1, W_some, still]
        rw [if_pos (.inl h1)] at g1
        have := fin (f + 1) (by omega)
        simpa using this
      · have b1 : (((x : Int) % 2) == 1) = false := by simp; omega
        by_cases h2 : x + 1 < m
        · have b2 : decide ((x : Int) + 1 < (m : Int)) = true := decide_eq_true (by omega)
          simp! only [turnF, b, b1, b2, W_some, still]
          rw [if_pos (.inr h2)] at g1
          have := fin (f + 1) (by omega)
          simpa using this
        · have b2 : decide ((x : Int) + 1 < (m : Int)) = false := decide_eq_false (by omega)
          simp! only [turnF, b, b1, b2, W_some, still]
          rw [if_neg (by omega)] at g1
          exact fin f (by omega)
  · rintro e S' ⟨j3, m, x, f, g1, g2, rfl, rfl⟩
    rw [List.length_range] at g2
    rw [hgt_one (by omega)] at g1
    simp! only [W_some]
    rw [← g1]
    exact ⟨by simp, List.prefix_refl _⟩
end PyX
set_option linter.all false
set_option maxRecDepth 100000
namespace PyX
open PyI
open PySem (Str)
abbrev eSides : P := .tup [.bl true, .bl true, .bl false, .bl false]
theorem like_sides {k : Nat} {S : Sto} : run tab (k + 3) 34 [.p eSides, .p eSides] S = some (.p (.bl true), S) := by
  have := r_law_like 1 eSides (by decide) (by decide) (by decide) k S
  exact this
theorem atI_map {α β : Type} {l : List α} {g : α → β} {i : Nat} (h : i < l.length) : atI (l.map g) (i : Nat) = some (g l[i]) := by
  rw [atI_nat]
  simp [h]
theorem OneDiff.len {p q : List (Int × Int)} (h : OneDiff p q) : p.length = q.length := by
  obtain ⟨A, s, B, c, d, rfl, rfl, _⟩ := h
  simp
theorem OneDiff.sides {p q : List (Int × Int)} (h : OneDiff p q) : p.map (·.1) = q.map (·.1) := by
  obtain ⟨A, s, B, c, d, rfl, rfl, _⟩ := h
  simp
theorem OneDiff.count {p q : List (Int × Int)} (h : OneDiff p q) : ((List.range p.length).filter fun i => decide ((p.getD i (0, 0)).2 ≠ (q.getD i (0, 0)).2)).length = 1 := by
  obtain ⟨A, s, B, c, d, rfl, rfl, hcd⟩ := h
  have e : ∀ i ∈ List.range (A ++ (s, c) :: B).length, decide (((A ++ (s, c) :: B).getD i (0, 0)).2 ≠ ((A ++ (s, d) :: B).getD i (0, 0)).2) = (i == A.length) := by
    intro i hi
    rw [Bool.eq_iff_iff]
    simp only [List.getD_eq_getElem?_getD, decide_eq_true_eq, beq_iff_eq]
    by_cases h : i < A.length
    · rw [List.getElem?_append_left h, List.getElem?_append_left h]
      simp
      omega
    · by_cases h2 : i = A.length
      · subst h2
        simp [hcd]
      · rw [List.getElem?_append_right (by omega), List.getElem?_append_right (by omega)]
        obtain ⟨j, hj⟩ : ∃ j, i - A.length = j + 1 := ⟨i - A.length - 1, by omega⟩
        rw [hj]
        simp [h2]
  rw [List.filter_congr e, ← List.countP_eq_length_filter]
  have : List.countP (fun i => i == A.length) (List.range (A ++ (s, c) :: B).length) = List.count A.length (List.range (A ++ (s, c) :: B).length) := rfl
  rw [this, List.Nodup.count List.nodup_range]
  simp
theorem r_law_other_row {one other : List Cell} {r : Int × Row} {c1 c2 i many : Nat} {p q : List (Int × Int)} {k : Nat} {S : Sto}
    (h1 : ∀ S, run tab (k + 5) 22 [.p (ePic one), .p (.int i)] S = some (.p (eRow p), S)) (h2 : ∀ S, run tab (k + 5) 22 [.p (ePic other), .p (.int i)] S = some (.p (eRow q), S))
    (hm : many < 40) (hp : p.length = hgt many i) (hd : OneDiff p q) (kp : ∀ s ∈ p, (s.1 = 0 ∨ s.1 = 1) ∧ 0 ≤ s.2 ∧ s.2 < 65536) (kq : ∀ s ∈ q, (s.1 = 0 ∨ s.1 = 1) ∧ 0 ≤ s.2 ∧ s.2 < 65536) (hpl : p.length < 100)
    (g1 : -50000 ≤ r.1 ∧ r.1 ≤ 50000) (g2 : r.2.length ≤ 10) (g3 : InB r.2) (u1 : goUp (leaf r) p = c1) (u2 : goUp (leaf r) q = c2) (hc : c1 ≠ c2) :
    run tab (k + 6) 42 [.p (ePic one), .p (ePic other), .p (.tup [.int c1, .int c2]), .p (eYR r), .p (.int i), .p (.int many)] S = some (.p (.bl true), S) := by
  refine run_W at_law_other_row rfl ?_
  unfold f_law_other_row
  have hq : q.length = p.length := hd.len.symm
  have pr1 := r_law_proof_right (p := p) (k := k + 2) (S := S) (by omega) kp
  have pr2 := r_law_proof_right (p := q) (k := k + 2) (S := S) (by omega) kq
  rw [hq, hp] at pr2
  rw [hp] at pr1
  have l1 : p.length ≤ 16777216 := by omega
  have l2 : q.length ≤ 16777216 := by omega
  have ok : ∀ (chk : Nat) (w : List (Int × Int)), (∀ s ∈ w, (s.1 = 0 ∨ s.1 = 1) ∧ 0 ≤ s.2 ∧ s.2 < 65536) → ∀ S, run tab (k + 5) 23 [.p (.int chk), .p (.int r.1), .p (eRow r.2), .p (eRow w)] S = some (.p (.bl (decide (goUp (leaf r) w = chk))), S) := fun chk w hw S => r_row_ok (k := k + 1) chk g1.1 g1.2 g2 g3 fun s hs => (hw s hs).2.1
  have o1 := ok c1 p kp
  have o2 := ok c2 q kq
  have o3 := ok c2 p kp
  have o4 := ok c1 q kq
  rw [u1, decide_eq_true rfl] at o1
  rw [u2, decide_eq_true rfl] at o2
  rw [u1, decide_eq_false hc] at o3
  rw [u2, decide_eq_false fun z => hc z.symm] at o4
  have a0 : atI [P.int (c1 : Nat), .int (c2 : Nat)] 0 = some (.int (c1 : Nat)) := rfl
  have a1 : atI [P.int (c1 : Nat), .int (c2 : Nat)] 1 = some (.int (c2 : Nat)) := rfl
  have b0 : atI [P.int r.1, eRow r.2] 0 = some (.int r.1) := rfl
  have b1 : atI [P.int r.1, eRow r.2] 1 = some (eRow r.2) := rfl
  have s62 : small62 ((hgt many i : Nat) : Int) = true := small62_nat (by omega)
  simp! only [start, h1, h2, r_law_height many i hm, pr1, pr2, lineL]
  rw [compL_map p (fun c => .p (e2 c)) (fun c => .p (.int c.1))]
  · simp! only [l1, lineL]
    rw [compL_map q (fun c => .p (e2 c)) (fun c => .p (.int c.1))]
    · have em : (q.map fun c => P.int c.1) = p.map fun c => P.int c.1 := by
        have := congrArg (List.map P.int) hd.sides
        rw [List.map_map, List.map_map] at this
        exact this.symm
      simp! only [l2, em, depths_int, pyEqs_self, s62, lineL]
      rw [compL_fil (List.range (hgt many i)) (fun i => .p (.int (i : Nat))) (fun i => .p (.int (i : Nat))) (fun i => decide ((p.getD i (0, 0)).2 ≠ (q.getD i (0, 0)).2))]
      · have cn := hd.count
        rw [hp] at cn
        have cl : ((List.range (hgt many i)).filter fun i => decide ((p.getD i (0, 0)).2 ≠ (q.getD i (0, 0)).2)).length ≤ 16777216 := by rw [cn]; decide
        have cn2 : ((((List.range (hgt many i)).filter fun i => decide ((p.getD i (0, 0)).2 ≠ (q.getD i (0, 0)).2)).length : Int) == 1) = true := by rw [cn]; rfl
        simp! only [cl, cn2, a0, a1, b0, b1, o1, o2, o3, o4, like_sides, W_some]
        (first | exact List.prefix_refl _ | exact ⟨rfl, List.prefix_refl _⟩ | exact List.prefix_append .. | exact ⟨rfl, List.prefix_append ..⟩)
      · rfl
      · rfl
      · intro j hj
        have hj2 : j < p.length := by rw [hp]; simpa using hj
        have x1 := atI_map (g := e2) hj2
        have x2 := atI_map (l := q) (g := e2) (i := j) (by omega)
        have y1 : ∀ c : Int × Int, atI [P.int c.1, .int c.2] 1 = some (.int c.2) := fun _ => rfl
        have z1 : p.getD j (0, 0) = p[j] := by simp [hj2]
        have z2 : q.getD j (0, 0) = q[j]'(by omega) := by simp [show j < q.length by omega]
        rw [z1, z2]
        by_cases h : p[j].2 = (q[j]'(by omega)).2
        · have b : (p[j].2 == (q[j]'(by omega)).2) = true := by simpa using h
          simp! only [compF, x1, x2, y1, b]
          simp [h]
        · have b : (p[j].2 == (q[j]'(by omega)).2) = false := by simpa using h
          simp! only [compF, x1, x2, y1, b]
          simp [h]
    · rfl
    · rfl
    · intro c hc
      have a0 : atI [P.int c.1, P.int c.2] 0 = some (.int c.1) := rfl
      simp! only [compF, a0]
  · rfl
  · rfl
  · intro c hc
    have a0 : atI [P.int c.1, P.int c.2] 0 = some (.int c.1) := rfl
    simp! only [compF, a0]
theorem depths_map {α : Type} {l : List α} {g : α → P} {d : Nat} (h : ∀ a, depth (g a) ≤ d) : depths (l.map g) ≤ d := by
  induction l with
  | nil => simp [depths]
  | cons a l ih =>
    rw [List.map_cons]
    unfold depths
    exact Nat.max_le.mpr ⟨h a, ih⟩
theorem okLs_map {α : Type} {l : List α} {g : α → P} (h : ∀ a, okL (g a) = true) : okLs (l.map g) = true := by
  induction l with
  | nil => rfl
  | cons a l ih =>
    rw [List.map_cons]
    unfold okLs
    rw [h a, ih]
    rfl
theorem like_map {α : Type} {l : List α} {g : α → P} (d : Nat) (h : ∀ a, depth (g a) ≤ d) (h60 : d < 60) (hk : ∀ a, okL (g a) = true) (hl : l.length ≤ LINE) {k : Nat} {S : Sto} : run tab (k + d + 3) 34 [.p (.tup (l.map g)), .p (.tup (l.map g))] S = some (.p (.bl true), S) := by
  have z := r_law_like (d + 1) (.tup (l.map g)) (by unfold depth; have := depths_map (l := l) h; omega) (by omega) (by
    unfold okL
    rw [okLs_map hk, List.length_map, decide_eq_true hl]
    rfl) k S
  rw [show k + d + 3 = k + (d + 1) + 2 by omega]
  exact z
theorem like_row {p : Row} (hl : p.length ≤ LINE) {k : Nat} {S : Sto} : run tab (k + 4) 34 [.p (eRow p), .p (eRow p)] S = some (.p (.bl true), S) := like_map 1 (fun a => by simp [depth, depths]) (by decide) (fun a => by simp [okL, okLs, LINE]) hl
theorem like_pic {p : List Cell} (hl : p.length ≤ LINE) {k : Nat} {S : Sto} : run tab (k + 5) 34 [.p (ePic p), .p (ePic p)] S = some (.p (.bl true), S) := like_map 2 (fun a => by simp [depth, depths]) (by decide) (fun a => by simp [okL, okLs, LINE]) hl
theorem like_patch {p : List PRow} (hl : p.length ≤ LINE) {k : Nat} {S : Sto} : run tab (k + 5) 34 [.p (ePatch p), .p (ePatch p)] S = some (.p (.bl true), S) := like_map 2 (fun a => by simp [depth, depths]) (by decide) (fun a => by simp [okL, okLs, LINE]) hl
theorem like_int {i : Int} {k : Nat} {S : Sto} : run tab (k + 2) 34 [.p (.int i), .p (.int i)] S = some (.p (.bl true), S) := r_law_like 0 (.int i) (by simp [depth]) (by decide) rfl k S
theorem r_law_own_row {one other : List Cell} {r r' : Int × Row} {c1 c2 i many : Nat} {p : List (Int × Int)} {k : Nat} {S : Sto}
    (h1 : ∀ S, run tab (k + 5) 22 [.p (ePic one), .p (.int i)] S = some (.p (eRow p), S)) (h2 : ∀ S, run tab (k + 5) 22 [.p (ePic other), .p (.int i)] S = some (.p (eRow p), S))
    (hm : many < 40) (hp : p.length = hgt many i) (kp : ∀ s ∈ p, (s.1 = 0 ∨ s.1 = 1) ∧ 0 ≤ s.2 ∧ s.2 < 65536) (hpl : p.length < 100)
    (g1 : -50000 ≤ r.1 ∧ r.1 ≤ 50000) (g2 : r.2.length ≤ 10) (g3 : InB r.2) (g1' : -50000 ≤ r'.1 ∧ r'.1 ≤ 50000) (g2' : r'.2.length ≤ 10) (g3' : InB r'.2) (u1 : goUp (leaf r) p = c1) (u2 : goUp (leaf r') p = c2) (hc : c1 ≠ c2) :
    run tab (k + 6) 43 [.p (ePic one), .p (ePic other), .p (.tup [.int c1, .int c2]), .p (eYR r), .p (eYR r'), .p (.int i), .p (.int many)] S = some (.p (.bl true), S) := by
  refine run_W at_law_own_row rfl ?_
  unfold f_law_own_row
  have pr1 := r_law_proof_right (p := p) (k := k + 2) (S := S) (by omega) kp
  rw [hp] at pr1
  have l1 : p.length ≤ 16777216 := by omega
  have ok : ∀ (chk : Nat) S, run tab (k + 5) 23 [.p (.int chk), .p (.int r.1), .p (eRow r.2), .p (eRow p)] S = some (.p (.bl (decide (goUp (leaf r) p = chk))), S) := fun chk S => r_row_ok (k := k + 1) chk g1.1 g1.2 g2 g3 fun s hs => (kp s hs).2.1
  have ok' : ∀ (chk : Nat) S, run tab (k + 5) 23 [.p (.int chk), .p (.int r'.1), .p (eRow r'.2), .p (eRow p)] S = some (.p (.bl (decide (goUp (leaf r') p = chk))), S) := fun chk S => r_row_ok (k := k + 1) chk g1'.1 g1'.2 g2' g3' fun s hs => (kp s hs).2.1
  have o1 := ok c1
  have o2 := ok' c2
  have o3 := ok c2
  have o4 := ok' c1
  rw [u1, decide_eq_true rfl] at o1
  rw [u2, decide_eq_true rfl] at o2
  rw [u1, decide_eq_false hc] at o3
  rw [u2, decide_eq_false fun z => hc z.symm] at o4
  have a0 : atI [P.int (c1 : Nat), .int (c2 : Nat)] 0 = some (.int (c1 : Nat)) := rfl
  have a1 : atI [P.int (c1 : Nat), .int (c2 : Nat)] 1 = some (.int (c2 : Nat)) := rfl
  have b0 : ∀ r : Int × Row, atI [P.int r.1, eRow r.2] 0 = some (.int r.1) := fun _ => rfl
  have b1 : ∀ r : Int × Row, atI [P.int r.1, eRow r.2] 1 = some (eRow r.2) := fun _ => rfl
  simp! only [start, h1, h2, r_law_height many i hm, pr1, like_row l1, a0, a1, b0, b1, o1, o2, o3, o4, like_sides, W_some]
  (first | exact List.prefix_refl _ | exact ⟨rfl, List.prefix_refl _⟩ | exact List.prefix_append .. | exact ⟨rfl, List.prefix_append ..⟩)
end PyX
set_option linter.all false
set_option maxRecDepth 100000
namespace PyX
open PyI
open PySem (Str)
theorem beq_nat_ne {a b : Nat} (h : a ≠ b) : ((a : Int) == (b : Int)) = false := by
  rw [beq_eq_false_iff_ne]
  omega
theorem root_lt {L : List Nat} (hL : AllLt L) (hn : L ≠ []) : rootT L < 65536 := by
  induction h : L.length using Nat.strongRecOn generalizing L with
  | _ n ih =>
    by_cases h1 : L.length ≤ 1
    · rw [rootT_one h1]
      cases L with
      | nil => exact absurd rfl hn
      | cons a r => exact hL a (by simp)
    · rw [rootT_more h1]
      have hu := up_len L
      exact ih (up L).length (by omega) (up_lt hL) (by
        intro z
        rw [z] at hu
        simp at hu
        omega) rfl
theorem eP_inj {a b : List Cell} (h : a.map eP = b.map eP) : a = b := by
  refine List.map_inj_right (f := eP) (fun x y e => ?_) |>.mp h
  obtain ⟨⟨x1, x2⟩, x3⟩ := x
  obtain ⟨⟨y1, y2⟩, y3⟩ := y
  cases e
  rfl
theorem read_page {rows : List (Int × Row)} (h : Vd rows) {k : Nat} {S : Sto} : run tab (k + 6) 17 [.p (eN (packP rows))] S = some (.p (ePic (printR rows)), S) := r_read_packed h.rows h.rb h.ink h.perm print_lt
theorem pack_ne {rows later : List (Int × Row)} (h : Vd rows) (h' : Vd later) (hne : printR rows ≠ printR later) : packP later ≠ packP rows := by
  intro e
  have a := read_page h (k := 0) (S := [])
  have b := read_page h' (k := 0) (S := [])
  rw [e, a] at b
  have : (printR rows).map eP = (printR later).map eP := by injection b with b; injection b with b _; injection b with b; injection b
  exact hne (eP_inj this)
theorem pyEqs_nat {a b : List Nat} (h : a ≠ b) : pyEqs (a.map fun b => P.int (b : Nat)) (b.map fun b => P.int (b : Nat)) = false := by
  cases q : pyEqs (a.map fun b => P.int (b : Nat)) (b.map fun b => P.int (b : Nat)) with
  | false => rfl
  | true =>
    exfalso
    apply h
    have e : ∀ l : List Nat, (l.map fun b => P.int (b : Nat)) = (l.map Int.ofNat).map P.int := fun l => by
      rw [List.map_map]
      rfl
    rw [e, e] at q
    have := pyEqs_ints q
    exact List.map_inj_right (f := Int.ofNat) (fun x y e => Int.ofNat.inj e) |>.mp this
theorem print_inks {rows : List (Int × Row)} (h : Vd rows) : ∀ i ∈ (printR rows).map (·.2), 1 ≤ i ∧ i ≤ 4 := by
  intro i hi
  have p := h.perm.map (·.2)
  have hi2 := p.mem_iff.mpr hi
  obtain ⟨c, hc, rfl⟩ := List.mem_map.mp hi2
  unfold flat at hc
  obtain ⟨r, hr, hc2⟩ := List.mem_flatMap.mp hc
  obtain ⟨d, hd, rfl⟩ := List.mem_map.mp hc2
  exact h.ink r hr d hd
theorem hgt_le : ∀ (n i : Nat), hgt n i ≤ n := by
  intro n
  induction n using Nat.strongRecOn with
  | _ n ih =>
    intro i
    by_cases h : n ≤ 1
    · rw [hgt_one h]; omega
    · rw [hgt_more h]
      have := ih ((n + 1) / 2) (by omega) (i / 2)
      split <;> omega
theorem r_law_deed_right {rows : List (Int × Row)} (h : Vd rows) {kx p : Nat} {y x i n : Int} {r : Row} (hk : rows[kx]? = some (y, r)) (hp : r[p]? = some (x, i)) (hn : 1 ≤ n ∧ n ≤ 4) (hne : n ≠ i) {k : Nat} {S : Sto} :
    run tab (k + 9) 44 [.p (eRows rows), .p (eRows (setR rows kx p y x n r)), .p (.int kx)] S = some (.p (.bl true), S) := by
  refine run_W at_law_deed_right rfl ?_
  unfold f_law_deed_right
  have h' := h.set hk hp hn
  generalize hlat : setR rows kx p y x n r = later at h'
  have hlen : later.length = rows.length := by rw [← hlat]; unfold setR; rw [List.length_set]
  have hkx := len_of_get hk
  have hrn := h.len
  have pl := h.plen
  have pl' := h'.plen
  have gl : ∀ j, j ≠ kx → later[j]? = rows[j]? := fun j hj => by rw [← hlat]; unfold setR; rw [List.getElem?_set_ne fun z => hj z.symm]
  have glk : later[kx]? = some (y, r.set p (x, n)) := by rw [← hlat]; unfold setR; rw [List.getElem?_set_self hkx]
  have hpic : printR rows ≠ printR later := by
    intro e
    have a := asc_cell h hk hp
    have b := asc_set h hk hp hn (x, y)
    rw [if_pos rfl, hlat, ← e, a] at b
    exact hne (Option.some.inj b).symm
  have hL := sums_lt h
  have hL' := sums_lt h'
  have lk : (sums rows)[kx]? = some (leaf (y, r)) := by unfold sums; rw [List.getElem?_map, hk]; rfl
  have hss : sums later = (sums rows).set kx (leaf (y, r.set p (x, n))) := by rw [← hlat]; exact sums_set
  have rk := h.rb.at_ (y, r) (List.mem_of_getElem? hk)
  have rk' := h'.rb.at_ (y, r.set p (x, n)) (List.mem_of_getElem? glk)
  have lne : leaf (y, r.set p (x, n)) ≠ leaf (y, r) := leaf_ne rk.2.2.2.1 hp (by omega) hne
  have lv' : leaf (y, r.set p (x, n)) < 65536 := leaf_lt rk'.2.2.2.1
  have sn : sums rows ≠ [] := by simpa using h.ne
  have sn' : sums later ≠ [] := by simpa using h'.ne
  have c1 := root_lt hL sn
  have c2 := root_lt hL' sn'
  have cne : rootT (sums rows) ≠ rootT (sums later) := by
    rw [hss]
    exact fun z => root_ne hL lk lv' lne z.symm
  have q1 : (((rootT (sums rows) : Nat) : Int) == ((rootT (sums later) : Nat) : Int)) = false := beq_nat_ne cne
  have a0 : atI [P.int (rootT (sums rows) : Nat), .int (rootT (sums later) : Nat)] 0 = some (.int (rootT (sums rows) : Nat)) := rfl
  have a1 : atI [P.int (rootT (sums rows) : Nat), .int (rootT (sums later) : Nat)] 1 = some (.int (rootT (sums later) : Nat)) := rfl
  have s62 : small62 (rows.length : Int) = true := small62_nat (by omega)
  have ll : ((later.length : Int) == (rows.length : Int)) = true := by rw [hlen]; simp
  have hpc := r_page_check h.rows h.rb h.ne (k := k + 3) (S := S)
  have hpc' := r_page_check h'.rows h'.rb h'.ne (k := k + 3) (S := S)
  have hrs := r_row_sums h.rows h.rb (k := k + 4) (S := S)
  have hrs' := r_row_sums h'.rows h'.rb (k := k + 4) (S := S)
  have hpf := fun (i : Nat) (S : Sto) => r_row_proof h.rows h.rb h.ne i (k := k + 2) (S := S)
  have hpf' := fun (i : Nat) (S : Sto) => r_row_proof h'.rows h'.rb h'.ne i (k := k + 2) (S := S)
  simp! only [start, r_law_print h, r_law_print h', hpc, hpc', r_law_is_check _ c1, r_law_is_check _ c2, a0, a1, q1, hrs, hrs', beq_self_eq_true, ll, s62]
  have sl : (sums rows).length = rows.length := by simp
  have wl : ∀ j, j < rows.length → (prfT (sums rows) j).length = hgt rows.length j := fun j hj => by
    have := way_len (L := sums rows) (i := j) (by rw [sl]; exact hj)
    rw [sl] at this
    exact this
  refine W_sq ?_
  refine W_loop (List.range rows.length) _ (fun done e S' => ∃ j9, e = [some (.p (eRows rows)), some (.p (eRows later)), some (.p (.int (kx : Nat))), some (.p (ePic (printR rows))), some (.p (ePic (printR later))), some (.p (.int (rows.length : Nat))), some (.p (.tup [.int (rootT (sums rows) : Nat), .int (rootT (sums later) : Nat)])),
    some (.p (.tup (rows.map fun r => .tup [.int r.1, .int (leaf r : Nat)]))), some (.p (.tup (later.map fun r => .tup [.int r.1, .int (leaf r : Nat)]))), j9, none] ∧ S' = S) rfl ?_ ?_ ⟨none, rfl, rfl⟩
  · rintro done j rest e S' hjL ⟨j9, rfl, rfl⟩
    have hj : j < rows.length := by
      have : j ∈ List.range rows.length := by rw [hjL]; simp
      simpa using this
    have hj' : j < later.length := by omega
    have x1 := atI_map (l := rows) (g := eYR) hj
    have x2 := atI_map (l := rows) (g := fun r => P.tup [.int r.1, .int (leaf r : Nat)]) hj
    have x3 := atI_map (l := later) (g := fun r => P.tup [.int r.1, .int (leaf r : Nat)]) hj'
    have y0 : ∀ (a : Int) (b : P), atI [P.int a, b] 0 = some (.int a) := fun _ _ => rfl
    have y1 : ∀ (a : Int) (b : P), atI [P.int a, b] 1 = some b := fun _ _ => rfl
    have rj := h.rb.at_ _ (List.getElem_mem hj)
    have ic := r_law_is_check (leaf rows[j]) (leaf_lt rj.2.2.2.1) (k := k + 6) (S := S')
    by_cases hjk : j = kx
    · subst hjk
      have e1 : rows[j] = (y, r) := (List.getElem?_eq_some_iff.mp hk).2
      have e2' : later[j] = (y, r.set p (x, n)) := (List.getElem?_eq_some_iff.mp glk).2
      rw [e1] at x1 x2 ic
      rw [e2'] at x3
      have q2 : (((leaf (y, r) : Nat) : Int) == ((leaf (y, r.set p (x, n)) : Nat) : Int)) = false := beq_nat_ne fun z => lne z.symm
      simp! only [turnF, x1, x2, x3, y0, y1, ic, q2, beq_self_eq_true, W_some, still]
      exact ⟨_, rfl⟩
    · have e2' : later[j] = rows[j] := by
        have := gl j hjk
        rw [List.getElem?_eq_getElem hj, List.getElem?_eq_getElem hj'] at this
        exact Option.some.inj this
      rw [e2'] at x3
      have q3 : (((j : Nat) : Int) == ((kx : Nat) : Int)) = false := beq_nat_ne hjk
      have od : OneDiff (prfT (sums rows) j) (prfT (sums later) j) := by
        rw [hss]
        exact other_way hL lk lv' lne (by rw [sl]; exact hj) hjk
      have u1 : goUp (leaf rows[j]) (prfT (sums rows) j) = rootT (sums rows) := goUp_root (by unfold sums; rw [List.getElem?_map, List.getElem?_eq_getElem hj]; rfl)
      have u2 : goUp (leaf rows[j]) (prfT (sums later) j) = rootT (sums later) := goUp_root (by unfold sums; rw [List.getElem?_map, List.getElem?_eq_getElem hj', e2']; rfl)
      have hle := hgt_le rows.length j
      have wlj := wl j hj
      have orow := r_law_other_row (k := k + 2) (S := S') (r := rows[j]) (fun S => hpf j S) (fun S => hpf' j S) (show rows.length < 40 by omega) wlj od (way_ok hL) (way_ok hL') (by omega) ⟨rj.1, rj.2.1⟩ rj.2.2.1 rj.2.2.2.1 u1 u2 cne
      simp! only [turnF, x1, x2, x3, y0, y1, ic, q3, orow, beq_self_eq_true, W_some, still]
      exact ⟨_, rfl⟩
  · rintro e S' ⟨j9, rfl, rfl⟩
    have x1 := atI_map (l := rows) (g := eYR) hkx
    have x2 := atI_map (l := later) (g := eYR) (i := kx) (by omega)
    have e1 : rows[kx] = (y, r) := (List.getElem?_eq_some_iff.mp hk).2
    have e2' : later[kx]'(by omega) = (y, r.set p (x, n)) := (List.getElem?_eq_some_iff.mp glk).2
    rw [e1] at x1
    rw [e2'] at x2
    have u1 : goUp (leaf (y, r)) (prfT (sums rows) kx) = rootT (sums rows) := goUp_root lk
    have own : prfT (sums later) kx = prfT (sums rows) kx := by rw [hss]; exact own_way hL lk lv' lne
    have u2 : goUp (leaf (y, r.set p (x, n))) (prfT (sums rows) kx) = rootT (sums later) := by
      rw [← own]
      exact goUp_root (by unfold sums; rw [List.getElem?_map, glk]; rfl)
    have hle := hgt_le rows.length kx
    have wlk := wl kx hkx
    have hpfk := hpf' kx
    rw [own] at hpfk
    have orow := r_law_own_row (k := k + 2) (S := S') (r := (y, r)) (r' := (y, r.set p (x, n))) (fun S => hpf kx S) (fun S => hpfk S) (show rows.length < 40 by omega) wlk (way_ok hL) (by omega) ⟨rk.1, rk.2.1⟩ rk.2.2.1 rk.2.2.2.1 ⟨rk'.1, rk'.2.1⟩ rk'.2.2.1 rk'.2.2.2.1 u1 u2 cne
    have pk := r_packed_page h.rows h.rb (k := k + 3) (S := S')
    have pk' := r_packed_page h'.rows h'.rb (k := k + 3) (S := S')
    have q4 : pyEqs ((packP later).map fun b => P.int (b : Nat)) ((packP rows).map fun b => P.int (b : Nat)) = false := pyEqs_nat (pack_ne h h' hpic)
    have rp := read_page h' (k := k + 2) (S := S')
    have lp := like_pic (p := printR later) (k := k + 3) (S := S') (by show _ ≤ 16777216; omega)
    have ic := r_ink_counts (pic := printR later) (k := k + 7) (S := S') (by omega) (print_inks h')
    have lc := r_law_counts (pic := printR later) (k := k + 7) (S := S') (by omega)
    have cl : (countsP (printR later)).length ≤ LINE := by
      unfold countsP
      rw [List.length_map]
      exact Nat.le_trans (List.length_filter_le _ _) (by decide)
    have lr := like_row (p := countsP (printR later)) (k := k + 4) (S := S') cl
    simp! only [x1, x2, orow, pk, pk', q4, depths_int, rp, lp, ic, lc, lr, W_some]
    (first | exact List.prefix_refl _ | exact ⟨rfl, List.prefix_refl _⟩ | exact List.prefix_append .. | exact ⟨rfl, List.prefix_append ..⟩)
end PyX
set_option linter.all false
set_option maxRecDepth 100000
namespace PyX
open PyI
open PySem (Str)
theorem step_x {v : Int} (h1 : 0 ≤ v) (h2 : v < 5) : ∃ d : Int, 1 ≤ d ∧ d ≤ 70 ∧ atI [P.int 1, .int 1, .int 2, .int 3, .int 70] v = some (.int d) := by
  have : v = 0 ∨ v = 1 ∨ v = 2 ∨ v = 3 ∨ v = 4 := by omega
  rcases this with e | e | e | e | e <;> subst e
  · exact ⟨1, by decide, by decide, rfl⟩
  · exact ⟨1, by decide, by decide, rfl⟩
  · exact ⟨2, by decide, by decide, rfl⟩
  · exact ⟨3, by decide, by decide, rfl⟩
  · exact ⟨70, by decide, by decide, rfl⟩
theorem step_y {v : Int} (h1 : 0 ≤ v) (h2 : v < 5) : ∃ d : Int, 1 ≤ d ∧ d ≤ 140 ∧ atI [P.int 1, .int 1, .int 2, .int 5, .int 140] v = some (.int d) := by
  have : v = 0 ∨ v = 1 ∨ v = 2 ∨ v = 3 ∨ v = 4 := by omega
  rcases this with e | e | e | e | e <;> subst e
  · exact ⟨1, by decide, by decide, rfl⟩
  · exact ⟨1, by decide, by decide, rfl⟩
  · exact ⟨2, by decide, by decide, rfl⟩
  · exact ⟨5, by decide, by decide, rfl⟩
  · exact ⟨140, by decide, by decide, rfl⟩
/-- a row's cells as they come -/
structure Cs (C : Row) (x : Int) (n : Nat) : Prop where
  len : C.length = n
  srt : (C.map (·.1)).Pairwise (· < ·)
  below : ∀ c ∈ C, c.1 < x ∧ -20 ≤ c.1 ∧ 1 ≤ c.2 ∧ c.2 ≤ 4
  lo : -20 ≤ x
  hi : x ≤ 20 + 70 * n
theorem Cs.next {C : Row} {x : Int} {n : Nat} (h : Cs C x n) {v d : Int} (h1 : 1 ≤ v ∧ v ≤ 4) (h2 : 1 ≤ d ∧ d ≤ 70) : Cs (C ++ [(x, v)]) (x + d) (n + 1) := by
  have hl := h.lo
  have hh := h.hi
  refine ⟨by simp [h.len], ?_, fun c hc => ?_, by omega, by omega⟩
  · rw [List.map_append, List.pairwise_append]
    refine ⟨h.srt, by simp, fun a ha b hb => ?_⟩
    obtain ⟨c, hc, rfl⟩ := List.mem_map.mp ha
    have := (h.below c hc).1
    simp at hb
    omega
  · rcases List.mem_append.mp hc with z | z
    · have := h.below c z
      omega
    · simp at z
      subst z
      dsimp only
      omega
structure Rs (R : List (Int × Row)) (y : Int) (n : Nat) : Prop where
  len : R.length = n
  srt : (R.map (·.1)).Pairwise (· < ·)
  at_ : ∀ r ∈ R, r.1 < y ∧ -100 ≤ r.1 ∧ ∃ x m, Cs r.2 x m ∧ 1 ≤ m ∧ m ≤ 4
  lo : -100 ≤ y
  hi : y ≤ 100 + 140 * n
theorem Rs.next {R : List (Int × Row)} {y : Int} {n : Nat} (h : Rs R y n) {C : Row} {x : Int} {m : Nat} (hc : Cs C x m) (hm : 1 ≤ m ∧ m ≤ 4) {d : Int} (h2 : 1 ≤ d ∧ d ≤ 140) : Rs (R ++ [(y, C)]) (y + d) (n + 1) := by
  have hl := h.lo
  have hh := h.hi
  refine ⟨by simp [h.len], ?_, fun r hr => ?_, by omega, by omega⟩
  · rw [List.map_append, List.pairwise_append]
    refine ⟨h.srt, by simp, fun a ha b hb => ?_⟩
    obtain ⟨c, hc, rfl⟩ := List.mem_map.mp ha
    have := (h.at_ c hc).1
    simp at hb
    omega
  · rcases List.mem_append.mp hr with z | z
    · have := h.at_ r z
      exact ⟨by omega, this.2.1, this.2.2⟩
    · simp at z
      subst z
      exact ⟨by dsimp only; omega, hl, x, m, hc, hm⟩
theorem Rs.vd {R : List (Int × Row)} {y : Int} {n : Nat} (h : Rs R y n) (hn : 2 ≤ n ∧ n ≤ 7) : Vd R := by
  have hh := h.hi
  refine ⟨by rw [h.len]; omega, h.srt, fun r hr => ?_⟩
  obtain ⟨q1, q2, x, m, hc, hm⟩ := h.at_ r hr
  have := hc.hi
  refine ⟨by omega, by rw [hc.len]; exact hm, hc.srt, fun c hcc => ?_⟩
  have := hc.below c hcc
  omega
theorem small_pick {c : Int} {row : List Nat} {a : Nat} {n : Int} (hn : 0 < n) (hn2 : n < 1000) (h1 : 0 ≤ c) (h2 : c < 1000) : small62 (c + pickZ row a n) = true := by
  have := pickZ_b (row := row) (a := a) hn
  unfold small62
  rw [decide_eq_true (by omega), decide_eq_true (by omega)]
  rfl
theorem r_law_rows {sc : List D} {row : List Nat} (hr : 0 < row.length ∧ row.length < 1000000) {k : Nat} {e : Sto} :
    ∃ x a', run tab (k + 2) 36 [.ref 2] (stB sc row 0 e) = some (.p x, stB sc row a' e) ∧ a' ≤ 500 ∧ ∃ rows, x = eRows rows ∧ Vd rows := by
  refine run_draw at_law_rows rfl ?_
  unfold f_law_rows
  have p200 := pickZ_b (row := row) (a := 0) (n := 200) (by decide)
  have p6 := pickZ_b (row := row) (a := 1) (n := 6) (by decide)
  have s6 := small_pick (c := 2) (row := row) (a := 1) (n := 6) (by decide) (by decide) (by decide) (by decide)
  have hp1 := fun ext => r_pick (sc := sc) (row := row) (a := 0) (ext := ext) (n := 200) (k := k) hr (by decide) (by decide)
  have hp2 := fun ext => r_pick (sc := sc) (row := row) (a := 1) (ext := ext) (n := 6) (k := k) hr (by decide) (by decide)
  simp! only [start, stB_app, stB_len, hp1, hp2, s6]
  refine W_sq ?_
  refine W_loop (List.range (2 + pickZ row 1 6).toNat) _ (fun done e' S' => ∃ j3 j4 j5 j6, ∃ (y : Int) (R : List (Int × Row)) (G : Sto) (a : Nat), Rs R y done.length ∧ a ≤ 2 + 20 * done.length ∧
    e' = [some (.ref 2), some (.ref (e.length + 3)), some (.p (.int y)), j3, j4, j5, j6] ∧ S' = stB sc row a (e ++ .lst (R.map fun r => .p (eYR r)) :: G)) rfl ?_ ?_ ⟨none, none, none, none, pickZ row 0 200 - 100, [], [], 2, ⟨rfl, by simp, fun r hr => by simp at hr, by omega, by simp; omega⟩, by simp, rfl, rfl⟩
  · rintro done t rest e' S' hL ⟨j3, j4, j5, j6, y, R, G, a, g1, g2, rfl, rfl⟩
    have hd : done.length < 8 := by
      have := congrArg List.length hL
      simp at this
      omega
    have p40 := pickZ_b (row := row) (a := a) (n := 40) (by decide)
    have p4 := pickZ_b (row := row) (a := a + 1) (n := 4) (by decide)
    have s4 := small_pick (c := 1) (row := row) (a := a + 1) (n := 4) (by decide) (by decide) (by decide) (by decide)
    have hp1 := fun ext => r_pick (sc := sc) (row := row) (a := a) (ext := ext) (n := 40) (k := k) hr (by decide) (by omega)
    have hp2 := fun ext => r_pick (sc := sc) (row := row) (a := a + 1) (ext := ext) (n := 4) (k := k) hr (by decide) (by omega)
    generalize hE : e ++ .lst (R.map fun r => .p (eYR r)) :: G = E
    simp! only [turnF, stB_app, stB_len, hp1, hp2, s4]
    refine W_sq ?_
    refine W_loop (List.range (1 + pickZ row (a + 1) 4).toNat) _ (fun done2 e' S' => ∃ j6, ∃ (x : Int) (C : Row) (a2 : Nat), Cs C x done2.length ∧ a2 ≤ a + 2 + 2 * done2.length ∧
      e' = [some (.ref 2), some (.ref (e.length + 3)), some (.p (.int y)), some (.p (.int (t : Nat))), some (.ref (E.length + 3)), some (.p (.int x)), j6] ∧ S' = stB sc row a2 (E ++ [.lst (C.map fun c => .p (e2 c))])) rfl ?_ ?_ ⟨j6, pickZ row a 40 - 20, [], a + 2, ⟨rfl, by simp, fun c hc => by simp at hc, by omega, by simp; omega⟩, by simp, rfl, rfl⟩
    · rintro done2 t2 rest2 e' S' hL2 ⟨j6, x, C, a2, c1, c2, rfl, rfl⟩
      have hd2 : done2.length < 5 := by
        have := congrArg List.length hL2
        simp at this
        omega
      have q4 := pickZ_b (row := row) (a := a2) (n := 4) (by decide)
      have q5 := pickZ_b (row := row) (a := a2 + 1) (n := 5) (by decide)
      obtain ⟨d, d1, d2, d3⟩ := step_x q5.1 q5.2
      have hq1 := fun ext => r_pick (sc := sc) (row := row) (a := a2) (ext := ext) (n := 4) (k := k) hr (by decide) (by omega)
      have hq2 := fun ext => r_pick (sc := sc) (row := row) (a := a2 + 1) (ext := ext) (n := 5) (k := k) hr (by decide) (by omega)
      have cl : C.length < 16777216 := by rw [c1.len]; omega
      simp! only [turnF, stB_get, stB_set, hq1, hq2, d3, cl, W_some, still]
      exact ⟨_, x + d, C ++ [(x, 1 + pickZ row a2 4)], a2 + 1 + 1, c1.next (by omega) ⟨d1, d2⟩, by omega, rfl, by simp⟩
    · rintro e' S' ⟨j6, x, C, a2, c1, c2, rfl, rfl⟩
      rw [List.length_range] at c1 c2
      have q5 := pickZ_b (row := row) (a := a2) (n := 5) (by decide)
      obtain ⟨d, d1, d2, d3⟩ := step_y q5.1 q5.2
      have hq2 := fun ext => r_pick (sc := sc) (row := row) (a := a2) (ext := ext) (n := 5) (k := k) hr (by decide) (by omega)
      have rl : R.length < 16777216 := by rw [g1.len]; omega
      have e3 : E ++ [O.lst (C.map fun c => .p (e2 c))] = e ++ .lst (R.map fun r => .p (eYR r)) :: (G ++ [O.lst (C.map fun c => .p (e2 c))]) := by rw [← hE]; simp
      have gc : (stB sc row a2 (E ++ [O.lst (C.map fun c => .p (e2 c))]))[E.length + 3]? = some (.lst (C.map fun c => .p (e2 c))) := stB_get
      rw [e3] at gc ⊢
      simp! only [gc, stB_get, stB_set, hq2, d3, rl, W_some, still]
      exact ⟨_, _, _, _, y + d, R ++ [(y, C)], G ++ [O.lst (C.map fun c => .p (e2 c))], a2 + 1, g1.next c1 (by omega) ⟨d1, d2⟩, by omega, rfl, by simp⟩
  · rintro e' S' ⟨j3, j4, j5, j6, y, R, G, a, g1, g2, rfl, rfl⟩
    rw [List.length_range] at g1 g2
    simp! only [stB_get, W_some]
    exact ⟨_, a, _, rfl, rfl, by omega, R, rfl, g1.vd (by omega)⟩
end PyX
set_option linter.all false
set_option maxRecDepth 100000
namespace PyX
open PyI
def lawTail : IS := (.ife (.cmp .ne (.var 15) (.var 14))
    (.cons (.asg (.nm 16) (.bin .add (.bin .add (.sl (.var 4) .none (.some (.var 8))) (.tup (.cons (.tup (.cons (.var 11) (.cons (.bin .add (.bin .add (.sl (.var 12) .none (.some (.var 9))) (.tup (.cons (.tup (.cons (.var 13) (.cons (.var 15) .nil))) .nil))) (.sl (.var 12) (.some (.bin .add (.var 9) (.cst (P.int (1))))) .none)) .nil))) .nil))) (.sl (.var 4) (.some (.bin .add (.var 8) (.cst (P.int (1))))) .none)))
  (.cons (.par [(.nm 17), (.nm 18)] (.cons (.call 37 (.cons (.var 4) .nil)) (.cons (.tup (.cons (.tup (.cons (.tup (.cons (.var 13) (.cons (.var 11) .nil))) (.cons (.var 14) (.cons (.var 15) .nil)))) .nil)) .nil)))
  (.cons (.ife (.bor (.cmp .isn (.call 26 (.cons (.var 17) (.cons (.tup (.cons (.tup (.cons (.tup (.cons (.var 13) (.cons (.var 11) .nil))) (.cons (.cst (P.int (0))) (.cons (.var 15) .nil)))) .nil)) .nil))) (.cst P.non)) (.cmp .isn (.call 26 (.cons (.var 17) (.cons (.tup (.cons (.tup (.cons (.tup (.cons (.var 13) (.cons (.var 11) .nil))) (.cons (.var 15) (.cons (.var 14) .nil)))) .nil)) .nil))) (.cst P.non)))
    (.cons (.ret (.cst (P.bl false)))
  .nil)
    .nil)
  (.cons (.ife (.bor (.bnot (.call 34 (.cons (.call 26 (.cons (.var 17) (.cons (.var 18) .nil))) (.cons (.call 37 (.cons (.var 16) .nil)) .nil)))) (.bnot (.call 44 (.cons (.var 4) (.cons (.var 16) (.cons (.var 8) .nil))))))
    (.cons (.ret (.cst (P.bl false)))
  .nil)
    .nil)
  (.cons (.par [(.nm 5), (.nm 4)] (.cons (.call 28 (.cons (.var 5) (.cons (.var 18) .nil))) (.cons (.var 16) .nil)))
  .nil)))))
    .nil)
def lawTurn : ISs := (.cons (.asg (.nm 8) (.call 35 (.cons (.var 1) (.cons (.bi .len (.var 2)) .nil))))
  (.cons (.par [(.nm 9), (.nm 10)] (.cons (.call 35 (.cons (.var 1) (.cons (.bi .len (.ix (.ix (.var 2) (.var 8)) (.cst (P.int (1))))) .nil))) (.cons (.call 35 (.cons (.var 1) (.cons (.cst (P.int (3))) .nil))) .nil)))
  (.cons (.ife (.cmp .eq (.var 7) (.cst (P.int (0))))
    (.cons (.asg (.nm 6) (.tup (.cons (.var 8) (.cons (.var 9) .nil))))
  .nil)
    .nil)
  (.cons (.ife (.cmp .eq (.var 7) (.cst (P.int (3))))
    (.cons (.par [(.nm 8), (.nm 9)] (.cons (.ix (.var 6) (.cst (P.int (0)))) (.cons (.ix (.var 6) (.cst (P.int (1)))) .nil)))
  .nil)
    .nil)
  (.cons (.par [(.nm 11), (.nm 12)] (.cons (.ix (.ix (.var 4) (.var 8)) (.cst (P.int (0)))) (.cons (.ix (.ix (.var 4) (.var 8)) (.cst (P.int (1)))) .nil)))
  (.cons (.par [(.nm 13), (.nm 14)] (.cons (.ix (.ix (.var 12) (.var 9)) (.cst (P.int (0)))) (.cons (.ix (.ix (.var 12) (.var 9)) (.cst (P.int (1)))) .nil)))
  (.cons (.asg (.nm 15) (.bin .add (.bin .mod (.bi .int (.bin .add (.var 14) (.var 10))) (.cst (P.int (4)))) (.cst (P.int (1)))))
  (.cons (.ife (.cmp .eq (.var 7) (.cst (P.int (3))))
    (.cons (.asg (.nm 15) (.ix (.ix (.ix (.ix (.var 2) (.var 8)) (.cst (P.int (1)))) (.var 9)) (.cst (P.int (1)))))
  .nil)
    .nil)
  (.cons lawTail
  .nil)))))))))
def lawAfter : ISs := (.cons (.asg (.nm 19) (.call 37 (.cons (.var 4) .nil)))
  (.cons (.asg (.nm 20) (.bi .tuple (.comp (.tup (.cons (.ix (.ix (.var 19) (.var 22)) (.cst (P.int (0)))) (.cons (.ix (.ix (.var 3) (.var 22)) (.cst (P.int (1)))) (.cons (.ix (.ix (.var 19) (.var 22)) (.cst (P.int (1)))) .nil)))) (.nm 22) (.rng1 (.bi .len (.var 19))) (.cons (.cmp .ne (.ix (.ix (.var 19) (.var 22)) (.cst (P.int (1)))) (.ix (.ix (.var 3) (.var 22)) (.cst (P.int (1))))) .nil) [22])))
  (.cons (.ife (.bor (.bnot (.call 34 (.cons (.var 5) (.cons (.var 20) .nil)))) (.bnot (.call 34 (.cons (.call 25 (.cons (.var 3) (.cons (.var 19) .nil))) (.cons (.var 20) .nil)))))
    (.cons (.ret (.cst (P.bl false)))
  .nil)
    .nil)
  (.cons (.ife (.bnot (.call 34 (.cons (.call 30 (.cons (.call 29 (.cons (.var 5) .nil)) .nil)) (.cons (.var 20) .nil))))
    (.cons (.ret (.cst (P.bl false)))
  .nil)
    .nil)
  (.cons (.asg (.nm 21) (.call 26 (.cons (.var 19) (.cons (.call 27 (.cons (.var 5) .nil)) .nil))))
  (.cons (.ret (.band (.call 34 (.cons (.var 21) (.cons (.var 3) .nil))) (.call 34 (.cons (.call 21 (.cons (.var 21) .nil)) (.cons (.call 21 (.cons (.var 3) .nil)) .nil)))))
  .nil))))))
def lawBody : ISs := (.cons (.asg (.nm 1) (.lst (.cons (.call 32 (.cons (.var 0) (.cons (.cst (P.int (80))) .nil))) (.cons (.cst (P.int (0))) .nil))))
  (.cons (.asg (.nm 2) (.call 36 (.cons (.var 1) .nil)))
  (.cons (.par [(.nm 3), (.nm 4), (.nm 5), (.nm 6)] (.cons (.call 37 (.cons (.var 2) .nil)) (.cons (.var 2) (.cons (.tup .nil) (.cons (.cst P.non) .nil)))))
  (.cons (.loop (.nm 7) (.rng1 (.cst (P.int (4))))
 lawTurn)
 lawAfter))))
theorem law_body : f_law.body = lawBody := rfl
end PyX
set_option linter.all false
set_option maxRecDepth 100000
namespace PyX
open PyI
open PySem (Str)
/-! ### what differs, cell by cell -/
theorem assoc_ext {β : Type} [DecidableEq β] {L M : List ((Int × Int) × β)} (h1 : (L.map (·.1)).Pairwise lt2) (h2 : (M.map (·.1)).Pairwise lt2) (h : ∀ j, asc L j = asc M j) : L = M := by
  have p := perm_of_asc (nodup_lt2 h1) (nodup_lt2 h2) h
  refine List.Perm.eq_of_pairwise (le := fun a b : (Int × Int) × β => lt2 a.1 b.1) (fun a b _ _ q1 q2 => (lt2_as _ _ q1 q2).elim) (List.pairwise_map.mp h1) (List.pairwise_map.mp h2) p
theorem asc_map3 {β : Type} {L : List (Int × Int)} {f : Int × Int → β} {j : Int × Int} : asc (L.map fun x => (x, f x)) j = if j ∈ L then some (f j) else none := by
  induction L with
  | nil => rfl
  | cons x L ih =>
    rw [List.map_cons, asc_cons, ih]
    by_cases e : x = j
    · subst e; simp
    · have e2 : ¬ j = x := fun z => e z.symm
      simp [e, e2]
theorem patchOf_keys {A B : List Cell} : ((patchOf A B).map (·.1)).Pairwise lt2 := by
  unfold patchOf
  rw [List.map_map]
  show List.Pairwise _ (List.map (fun x => x) _)
  rw [List.map_id']
  exact sort2_lt.filter _
theorem asc_patchOf {A B : List Cell} (j : Int × Int) : asc (patchOf A B) j = if asc A j = asc B j then none else some ((asc A j).getD 0, (asc B j).getD 0) := by
  unfold patchOf
  rw [asc_map3]
  by_cases h : asc A j = asc B j
  · rw [if_pos h, if_neg]
    intro z
    exact of_decide_eq_true (List.mem_filter.mp z).2 h
  · rw [if_neg h, if_pos]
    refine List.mem_filter.mpr ⟨?_, decide_eq_true h⟩
    unfold cellsU2
    rw [sort2_mem, List.mem_append, ← asc_isSome, ← asc_isSome]
    cases h1 : asc A j with
    | some v => exact .inl rfl
    | none =>
      cases h2 : asc B j with
      | some v => exact .inr rfl
      | none => rw [h1, h2] at h; exact absurd rfl h
theorem filterMap_keys {F : Int × Int → Option PRow} (hF : ∀ c q, F c = some q → q.1 = c) : ∀ {U : List (Int × Int)}, U.Pairwise lt2 → ((U.filterMap F).map (·.1)).Pairwise lt2 := by
  intro U h
  refine List.pairwise_map.mpr (List.pairwise_filterMap.mpr (h.imp fun {a b} q x hx y hy => ?_))
  rw [hF _ _ hx, hF _ _ hy]
  exact q
theorem asc_filterMap {F : Int × Int → Option PRow} (hF : ∀ c q, F c = some q → q.1 = c) {j : Int × Int} : ∀ {U : List (Int × Int)}, asc (U.filterMap F) j = if j ∈ U then (F j).map (·.2) else none
  | [] => rfl
  | c :: U => by
    by_cases e : c = j
    · subst e
      cases q : F c with
      | none =>
        rw [List.filterMap_cons_none q, asc_filterMap hF]
        simp [q]
      | some p =>
        rw [List.filterMap_cons_some q, asc_cons, if_pos (hF _ _ q)]
        simp
    · have e2 : ¬ j = c := fun z => e z.symm
      cases q : F c with
      | none =>
        rw [List.filterMap_cons_none q, asc_filterMap hF]
        simp [e2]
      | some p =>
        rw [List.filterMap_cons_some q, asc_cons, if_neg (by rw [hF _ _ q]; exact e), asc_filterMap hF]
        simp [e2]
theorem bothAt_key {f g : List PRow} (c : Int × Int) (q : PRow) (h : bothAt f g c = some q) : q.1 = c := by
  unfold bothAt at h
  split at h
  · split at h
    · cases h
    · cases h; rfl
  · cases h; rfl
  · cases h; rfl
  · cases h
theorem asc_bothP {f g : List PRow} (j : Int × Int) : asc (bothP f g) j = (bothAt f g j).map (·.2) := by
  unfold bothP
  rw [asc_filterMap bothAt_key]
  split
  · rfl
  · rename_i h
    rw [sort2_mem, List.mem_append] at h
    have h1 : asc f j = none := asc_none.mpr fun z => h (.inl z)
    have h2 : asc g j = none := asc_none.mpr fun z => h (.inr z)
    unfold bothAt
    rw [h1, h2]
    rfl
/-- one more deed -/
theorem both_one {B N N' : List Cell} {c : Int × Int} {ink n : Int} (hN : asc N c = some ink) (hB : ∃ b, asc B c = some b) (hne : n ≠ ink) (hN' : ∀ j, asc N' j = if j = c then some n else asc N j) : bothP (patchOf B N) [(c, ink, n)] = patchOf B N' := by
  refine assoc_ext ?_ patchOf_keys fun j => ?_
  · unfold bothP
    exact filterMap_keys bothAt_key sort2_lt
  · rw [asc_bothP, asc_patchOf, hN']
    unfold bothAt
    rw [asc_patchOf, asc_cons, asc_nil]
    by_cases e : j = c
    · subst e
      obtain ⟨b, hb⟩ := hB
      simp only [if_true, hN, hb]
      by_cases h : b = ink
      · subst h
        simp
        intro z
        exact hne z.symm
      · have h2 : ¬ (some b = some ink) := fun z => h (Option.some.inj z)
        simp only [h2, if_false, Option.getD_some]
        by_cases h3 : b = n
        · subst h3; simp
        · have : ¬ (some b = some n) := fun z => h3 (Option.some.inj z)
          simp [h3]
    · have e2 : ¬ c = j := fun z => e z.symm
      simp only [e, e2, if_false]
      split
      · rename_i u v q1 q2
        cases q2
      · rename_i u q1 q2
        rw [q1]
        rfl
      · rename_i v q1 q2
        cases q2
      · rename_i q1 q2
        rw [q1]
        rfl
/-! ### the same places -/
def shape (rows : List (Int × Row)) : List (Int × List Int) := rows.map fun r => (r.1, r.2.map (·.1))
theorem shape_keys {a b : List (Int × Row)} (h : shape a = shape b) : (flat a).map (·.1) = (flat b).map (·.1) := by
  have key : ∀ rows : List (Int × Row), (flat rows).map (·.1) = (shape rows).flatMap fun s => s.2.map fun x => (x, s.1) := by
    intro rows
    induction rows with
    | nil => rfl
    | cons r rows ih =>
      rw [flat_cons, List.map_append, ih]
      unfold shape
      rw [List.map_cons, List.flatMap_cons]
      congr 1
      rw [List.map_map, List.map_map]
      rfl
  rw [key, key, h]
theorem shape_print {a b : List (Int × Row)} (h : shape a = shape b) : (printR a).map (·.1) = (printR b).map (·.1) := by rw [print_keys, print_keys, shape_keys h]
theorem shape_set {rows : List (Int × Row)} {k p : Nat} {y x i n : Int} {r : Row} (hk : rows[k]? = some (y, r)) (hp : r[p]? = some (x, i)) : shape (setR rows k p y x n r) = shape rows := by
  unfold shape setR
  rw [List.map_set]
  refine set_same ?_
  rw [List.getElem?_map, hk]
  simp only [Option.map_some]
  rw [keys_rset hp]
theorem shape_get {a b : List (Int × Row)} (h : shape a = shape b) {k : Nat} {y : Int} {r : Row} (hk : a[k]? = some (y, r)) : ∃ r', b[k]? = some (y, r') ∧ r'.map (·.1) = r.map (·.1) := by
  have e := congrArg (fun l => l[k]?) h
  unfold shape at e
  try dsimp only at e
  rw [List.getElem?_map, List.getElem?_map, hk, Option.map_some] at e
  cases hb : b[k]? with
  | none => rw [hb] at e; cases e
  | some q =>
    rw [hb] at e
    simp only [Option.map_some, Option.some.injEq, Prod.mk.injEq] at e
    exact ⟨q.2, by rw [e.1], e.2.symm⟩
theorem shape_asc {a b : List (Int × Row)} (h : shape a = shape b) (j : Int × Int) : (asc (printR a) j).isSome = (asc (printR b) j).isSome := by
  rw [Bool.eq_iff_iff, asc_isSome, asc_isSome, shape_print h]
/-! ### a deed -/
theorem cut_take {α : Type} {l : List α} {i : Nat} : cutL l none (some (i : Int)) = l.take i := by
  unfold cutL
  rw [show sIx l.length l.length (some (i : Int)) = min i l.length by unfold sIx; dsimp only; rw [if_neg (by omega)]; simp, show sIx l.length 0 none = 0 from rfl]
  simp
theorem cut_drop {α : Type} {l : List α} {i : Nat} : cutL l (some ((i : Int) + 1)) none = l.drop (i + 1) := by
  unfold cutL
  rw [show sIx l.length 0 (some ((i : Int) + 1)) = min (i + 1) l.length by unfold sIx; dsimp only; rw [if_neg (by omega), show ((i : Int) + 1).toNat = i + 1 by omega], show sIx l.length l.length none = l.length from rfl]
  by_cases h : i + 1 ≤ l.length
  · rw [Nat.min_eq_left h, List.take_of_length_le (by rw [List.length_drop]; omega)]
  · rw [Nat.min_eq_right (by omega), List.drop_length, List.drop_of_length_le (by omega)]
    simp
theorem take_set {α β : Type} {l : List α} {g : α → β} {i : Nat} {v : α} (h : i < l.length) : (l.map g).take i ++ g v :: (l.map g).drop (i + 1) = (l.set i v).map g := by
  rw [List.set_eq_take_append_cons_drop, if_pos h]
  simp
theorem getD0 {a : Option Int} {v : Int} (h : a = some v) : a.getD 0 = v := by rw [h]; rfl
theorem r_tail {rows0 now : List (Int × Row)} (h0 : Vd rows0) (h : Vd now) (hs : shape now = shape rows0) {i p : Nat} {y x ink n : Int} {r : Row} (hk : now[i]? = some (y, r)) (hp : r[p]? = some (x, ink)) (hn : 1 ≤ n ∧ n ≤ 4)
    {k : Nat} {S : Sto} {v0 v1 v2 v3 v6 v7 v10 v16 v17 v18 v19 v20 v21 v22 : Option D} :
    W (ex (run tab (k + 9)) lawTail [v0, v1, v2, v3, some (.p (eRows now)), some (.p (ePatch (patchOf (printR rows0) (printR now)))), v6, v7, some (.p (.int i)), some (.p (.int p)), v10, some (.p (.int y)), some (.p (eRow r)), some (.p (.int x)), some (.p (.int ink)), some (.p (.int n)), v16, v17, v18, v19, v20, v21, v22] S)
      (fun o e S' => o = .nx ∧ S' = S ∧ ∃ now' v16 v17 v18, Vd now' ∧ shape now' = shape rows0 ∧ e = [v0, v1, v2, v3, some (.p (eRows now')), some (.p (ePatch (patchOf (printR rows0) (printR now')))), v6, v7, some (.p (.int i)), some (.p (.int p)), v10, some (.p (.int y)), some (.p (eRow r)), some (.p (.int x)), some (.p (.int ink)), some (.p (.int n)), v16, v17, v18, v19, v20, v21, v22]) := by
  unfold lawTail
  by_cases hne : n = ink
  · have b : (n == ink) = true := by simpa using hne
    simp! only [b, W_some]
    exact ⟨now, _, _, _, h, hs, rfl⟩
  · have b : (n == ink) = false := by simpa using hne
    have hi := len_of_get hk
    have hpl := len_of_get hp
    have h' := h.set hk hp hn
    have hl := h.len
    have rk := h.at_ (y, r) (List.mem_of_getElem? hk)
    have hink := (rk.2.2.2 (x, ink) (List.mem_of_getElem? hp)).2
    have eq1 : (r.map e2).take p ++ P.tup [.int x, .int n] :: (r.map e2).drop (p + 1) = (r.set p (x, n)).map e2 := take_set (g := e2) (v := (x, n)) hpl
    have eq2 : (now.map eYR).take i ++ P.tup [.int y, .tup ((r.set p (x, n)).map e2)] :: (now.map eYR).drop (i + 1) = (setR now i p y x n r).map eYR := take_set (g := eYR) (v := (y, r.set p (x, n))) hi
    generalize hlat : setR now i p y x n r = later at h' eq2
    have hlatv := hlat ▸ h'
    have rk2 : 1 ≤ r.length ∧ r.length ≤ 4 := rk.2.1
    have tl1 : ((r.map e2).take p).length ≤ 4 := by simp; omega
    have tl2 : ((r.map e2).drop (p + 1)).length ≤ 4 := by simp; omega
    have tl3 : ((now.map eYR).take i).length ≤ 7 := by simp; omega
    have tl4 : ((now.map eYR).drop (i + 1)).length ≤ 7 := by simp; omega
    have l1 : ((r.map e2).take p).length ≤ 16777215 := by omega
    have l2 : ((r.map e2).take p).length + 1 + ((r.map e2).drop (p + 1)).length ≤ 16777216 := by omega
    have l2' : ((r.map e2).take p).length + (((r.map e2).drop (p + 1)).length + 1) ≤ 16777216 := by omega
    have l3 : ((now.map eYR).take i).length ≤ 16777215 := by omega
    have l4 : ((now.map eYR).take i).length + 1 + ((now.map eYR).drop (i + 1)).length ≤ 16777216 := by omega
    have l4' : ((now.map eYR).take i).length + (((now.map eYR).drop (i + 1)).length + 1) ≤ 16777216 := by omega
    have c0 : asc (printR now) (x, y) = some ink := asc_cell h hk hp
    have c1 : ∀ j, asc (printR later) j = if j = (x, y) then some n else asc (printR now) j := fun j => by rw [← hlat]; exact asc_set h hk hp hn j
    have pl := h.plen
    have pl' := h'.plen
    have no1 := r_patched_no (one := printR now) (c := ((x, y), 0, n)) (k := k + 7) (S := S) print_nd h.pne (by rw [getD0 c0]; dsimp only; omega)
    have no2 := r_patched_no (one := printR now) (c := ((x, y), n, ink)) (k := k + 7) (S := S) print_nd h.pne (by rw [getD0 c0]; exact fun z => hne z.symm)
    have yes := r_patched (one := printR now) (M := printR later) (p := [((x, y), ink, n)]) (k := k + 7) (S := S) print_nd h.pne (by simp [Keys]) (by simp; omega) (fun c hc => by
      simp only [List.mem_singleton] at hc
      subst hc
      exact ⟨getD0 c0, by dsimp only; omega⟩) print_lt (fun j => by
      rw [c1]
      unfold chgP
      rw [asc_cons, asc_nil]
      by_cases e : j = (x, y)
      · rw [if_pos e, if_pos e.symm]
      · rw [if_neg e, if_neg (fun z => e z.symm)])
    have lk := like_pic (p := printR later) (k := k + 4) (S := S) (by show _ ≤ 16777216; omega)
    have deed := r_law_deed_right h hk hp hn hne (k := k) (S := S)
    rw [hlat] at deed
    have hB : ∃ b, asc (printR rows0) (x, y) = some b := by
      have := shape_asc hs (x, y)
      rw [c0] at this
      exact Option.isSome_iff_exists.mp this.symm
    have ptl : (patchOf (printR rows0) (printR now)).length ≤ 28 := by
      have sub : ((patchOf (printR rows0) (printR now)).map (·.1)).length ≤ ((printR now).map (·.1)).length := by
        refine List.Nodup.length_le_of_subset (nodup_lt2 patchOf_keys) fun c hc => ?_
        have q := asc_isSome.mpr hc
        rw [asc_patchOf] at q
        rw [← asc_isSome]
        cases e : asc (printR now) c with
        | some v => rfl
        | none =>
          have := shape_asc hs c
          rw [e] at this
          cases e2 : asc (printR rows0) c with
          | some w => rw [e2] at this; cases this
          | none => rw [e, e2] at q; simp at q
      simp at sub
      omega
    have both := r_patch_both (f := patchOf (printR rows0) (printR now)) (g := [((x, y), ink, n)]) (k := k + 8) (S := S) (nodup_lt2 patchOf_keys) (by simp [Keys]) (by simp; omega) (fun c u v hu hv => by
      rw [asc_cons, asc_nil] at hv
      split at hv
      · rename_i e
        cases hv
        dsimp only at e
        subst e
        rw [asc_patchOf] at hu
        split at hu
        · cases hu
        · cases hu
          exact getD0 c0
      · cases hv)
    rw [both_one c0 hB hne c1] at both
    have both' : run tab (k + 8 + 1) 28 [.p (ePatch (patchOf (printR rows0) (printR now))), .p (.tup [.tup [.tup [.int x, .int y], .int ink, .int n]])] S = some (.p (ePatch (patchOf (printR rows0) (printR later))), S) := both
    have yes' : run tab (k + 7 + 2) 26 [.p (ePic (printR now)), .p (.tup [.tup [.tup [.int x, .int y], .int ink, .int n]])] S = some (.p (ePic (printR later)), S) := yes
    simp! only [b, cut_take, cut_drop, eq1, eq2, l1, l2, l2', l3, l4, l4', r_law_print h, r_law_print h', no1, no2, yes', lk, deed, both', W_some]
    exact ⟨later, _, _, _, h', by rw [← hlat, shape_set hk hp]; exact hs, rfl⟩
end PyX
set_option linter.all false
set_option maxRecDepth 100000
namespace PyX
open PyI
open PySem (Str)
def SpotOk (rows0 : List (Int × Row)) (v : Option D) : Prop := ∃ (i p : Nat) (y : Int) (r : Row), rows0[i]? = some (y, r) ∧ p < r.length ∧ v = some (.p (.tup [.int i, .int p]))
theorem nat_of {z n : Int} (h : 0 ≤ z ∧ z < n) : ∃ i : Nat, z = (i : Int) ∧ (i : Int) < n := ⟨z.toNat, by omega, by omega⟩
theorem turn_S {cf : CF} {t : IS} {env : Env} {S : Sto} {Q : Out → Env → Sto → Prop} (h : W (ex cf t env S) fun o e S => o = .nx ∧ Q .nx e S) : W (Sq (ex cf t env S) fun env S => exs cf .nil env S) Q := by
  refine W_sq (h.mono ?_)
  rintro o e S' ⟨rfl, q⟩
  dsimp only
  rw [x_nil, W_some]
  exact q
theorem r_turn {rows0 now : List (Int × Row)} (h0 : Vd rows0) (h : Vd now) (hs : shape now = shape rows0) {sc : List D} {row : List Nat} (hr : 0 < row.length ∧ row.length < 1000000) {a c : Nat} (ha : a < 4) (hc : c < 1000) {ext : Sto} {v6 : Option D} (h6 : a ≠ 0 → SpotOk rows0 v6)
    {k : Nat} {j8 j9 j10 j11 j12 j13 j14 j15 j16 j17 j18 : Option D} :
    W (exs (run tab (k + 9)) lawTurn [some (.ref 0), some (.ref 2), some (.p (eRows rows0)), some (.p (ePic (printR rows0))), some (.p (eRows now)), some (.p (ePatch (patchOf (printR rows0) (printR now)))), v6, some (.p (.int a)), j8, j9, j10, j11, j12, j13, j14, j15, j16, j17, j18, none, none, none, none] (stB sc row c ext))
      (fun o e S' => o = .nx ∧ S' = stB sc row (c + 3) ext ∧ ∃ now' v6', Vd now' ∧ shape now' = shape rows0 ∧ SpotOk rows0 v6' ∧ ∃ j8 j9 j10 j11 j12 j13 j14 j15 j16 j17 j18, e = [some (.ref 0), some (.ref 2), some (.p (eRows rows0)), some (.p (ePic (printR rows0))), some (.p (eRows now')), some (.p (ePatch (patchOf (printR rows0) (printR now')))), v6', some (.p (.int a)), j8, j9, j10, j11, j12, j13, j14, j15, j16, j17, j18, none, none, none, none]) := by
  unfold lawTurn
  have hl := h0.len
  have pk := fun (c : Nat) (n : Int) (hn : 0 < n) (hcc : c < 1000000) => r_pick (sc := sc) (row := row) (a := c) (ext := ext) (n := n) (k := k + 8) hr hn hcc
  obtain ⟨i, ei, hi⟩ := nat_of (pickZ_b (row := row) (a := c) (n := (rows0.length : Int)) (by omega))
  have hi2 : i < rows0.length := by omega
  obtain ⟨y0, r0, hk0⟩ : ∃ y r, rows0[i]? = some (y, r) := ⟨_, _, List.getElem?_eq_getElem hi2⟩
  have ri := h0.at_ (y0, r0) (List.mem_of_getElem? hk0)
  have ri2 : 1 ≤ r0.length ∧ r0.length ≤ 4 := ri.2.1
  obtain ⟨p, ep, hp⟩ := nat_of (pickZ_b (row := row) (a := c + 1) (n := (r0.length : Int)) (by omega))
  have hp2 : p < r0.length := by omega
  have mo := pickZ_b (row := row) (a := c + 2) (n := 3) (by decide)
  have p1 := pk c (rows0.length : Int) (by omega) (by omega)
  have p2 := pk (c + 1) (r0.length : Int) (by omega) (by omega)
  have p3 := pk (c + 2) 3 (by decide) (by omega)
  rw [ei] at p1
  rw [ep] at p2
  have at0 : ∀ {rows : List (Int × Row)} {i : Nat} {y : Int} {r : Row}, rows[i]? = some (y, r) → atI (rows.map eYR) (i : Int) = some (eYR (y, r)) := by
    intro rows i y r h
    rw [atI_nat, List.getElem?_map, h]
    rfl
  have atr : ∀ {r : Row} {p : Nat} {x n : Int}, r[p]? = some (x, n) → atI (r.map e2) (p : Int) = some (e2 (x, n)) := by
    intro r p x n h
    rw [atI_nat, List.getElem?_map, h]
    rfl
  have y0' : ∀ (a b : P), atI [a, b] 0 = some a := fun _ _ => rfl
  have y1' : ∀ (a b : P), atI [a, b] 1 = some b := fun _ _ => rfl
  have x0 := at0 hk0
  by_cases ha0 : a = 0
  · subst ha0
    have b0 : (((0 : Nat) : Int) == 0) = true := rfl
    have b3 : (((0 : Nat) : Int) == 3) = false := rfl
    obtain ⟨r, hk, hrm⟩ := shape_get hs.symm hk0
    have hpr : p < r.length := by have := congrArg List.length hrm; simp at this; omega
    obtain ⟨x, ink, hpx⟩ : ∃ x n, r[p]? = some (x, n) := ⟨_, _, List.getElem?_eq_getElem hpr⟩
    have x1 := at0 hk
    have x2 := atr hpx
    simp! only [x0, x1, x2, p1, p2, p3, y0', y1', b0, b3]
    refine turn_S ((r_tail h0 h hs hk hpx (n := (ink + pickZ row (c + 2) 3) % 4 + 1) (by have := emod_lt (a := ink + pickZ row (c + 2) 3) (b := 4) (by decide); omega)).mono ?_)
    rintro o e S' ⟨rfl, rfl, now', v16, v17, v18, g1, g2, rfl⟩
    exact ⟨rfl, rfl, rfl, now', _, g1, g2, ⟨i, p, y0, r0, hk0, hp2, rfl⟩, _, _, _, _, _, _, _, _, _, _, _, rfl⟩
  · have b0 : ((a : Int) == 0) = false := by simpa using ha0
    by_cases ha3 : a = 3
    · have b3 : ((a : Int) == 3) = true := by rw [ha3]; rfl
      obtain ⟨i2, q2, y2, r2, hk2, hq2, rfl⟩ := h6 ha0
      obtain ⟨r, hk, hrm⟩ := shape_get hs.symm hk2
      have hpr : q2 < r.length := by have := congrArg List.length hrm; simp at this; omega
      obtain ⟨x, ink, hpx⟩ : ∃ x n, r[q2]? = some (x, n) := ⟨_, _, List.getElem?_eq_getElem hpr⟩
      obtain ⟨x', ink', hpx'⟩ : ∃ x n, r2[q2]? = some (x, n) := ⟨_, _, List.getElem?_eq_getElem hq2⟩
      have x1 := at0 hk
      have x2 := atr hpx
      have x3 := at0 hk2
      have x4 := atr hpx'
      have rk2 := h0.at_ (y2, r2) (List.mem_of_getElem? hk2)
      have ik := (rk2.2.2.2 (x', ink') (List.mem_of_getElem? hpx')).2
      simp! only [x0, x1, x2, x3, x4, p1, p2, p3, y0', y1', b0, b3]
      refine turn_S ((r_tail h0 h hs hk hpx (n := ink') ik).mono ?_)
      rintro o e S' ⟨rfl, rfl, now', v16, v17, v18, g1, g2, rfl⟩
      exact ⟨rfl, rfl, rfl, now', _, g1, g2, ⟨i2, q2, y2, r2, hk2, hq2, rfl⟩, _, _, _, _, _, _, _, _, _, _, _, rfl⟩
    · have b3 : ((a : Int) == 3) = false := by rw [beq_eq_false_iff_ne]; omega
      obtain ⟨r, hk, hrm⟩ := shape_get hs.symm hk0
      have hpr : p < r.length := by have := congrArg List.length hrm; simp at this; omega
      obtain ⟨x, ink, hpx⟩ : ∃ x n, r[p]? = some (x, n) := ⟨_, _, List.getElem?_eq_getElem hpr⟩
      have x1 := at0 hk
      have x2 := atr hpx
      simp! only [x0, x1, x2, p1, p2, p3, y0', y1', b0, b3]
      refine turn_S ((r_tail h0 h hs hk hpx (n := (ink + pickZ row (c + 2) 3) % 4 + 1) (by have := emod_lt (a := ink + pickZ row (c + 2) 3) (b := 4) (by decide); omega)).mono ?_)
      rintro o e S' ⟨rfl, rfl, now', v16, v17, v18, g1, g2, rfl⟩
      exact ⟨rfl, rfl, rfl, now', _, g1, g2, h6 ha0, _, _, _, _, _, _, _, _, _, _, _, rfl⟩
end PyX
set_option linter.all false
set_option maxRecDepth 100000
namespace PyX
open PyI
open PySem (Str)
theorem range_filter {α β : Type} [Inhabited α] (K : List α) (P : α → Bool) (g : α → β) : ((List.range K.length).filter fun i => P (K.getD i default)).map (fun i => g (K.getD i default)) = (K.filter P).map g := by
  have e : (List.range K.length).map (fun i => K.getD i default) = K := by
    refine List.ext_getElem (by simp) fun i h1 h2 => ?_
    have : i < K.length := h2
    simp [this]
  conv => rhs; rw [← e, List.filter_map, List.map_map]
  rfl
/-- what differs, told by places -/
theorem due_eq {B N : List Cell} (hk : B.map (·.1) = N.map (·.1)) (hs : (B.map (·.1)).Pairwise lt2) : ((List.range N.length).filter fun i => decide ((N.getD i default).2 ≠ (B.getD i default).2)).map (fun i => ((N.getD i default).1, (B.getD i default).2, (N.getD i default).2)) = patchOf B N := by
  have hlen : B.length = N.length := by have := congrArg List.length hk; simpa using this
  have kB : Keys B := nodup_lt2 hs
  have kN : Keys N := by unfold Keys; rw [← hk]; exact kB
  have getk : ∀ i, i < N.length → (B.getD i default).1 = (N.getD i default).1 := by
    intro i hi
    have := congrArg (fun l => l[i]?) hk
    simp only [List.getElem?_map] at this
    rw [List.getElem?_eq_getElem hi, List.getElem?_eq_getElem (by omega : i < B.length)] at this
    simp only [Option.map_some, Option.some.injEq] at this
    simp [hi, (by omega : i < B.length), this]
  have memN : ∀ i, i < N.length → asc N (N.getD i default).1 = some (N.getD i default).2 := fun i hi => (asc_mem kN).mpr (by
    have : N.getD i default = N[i] := by simp [hi]
    rw [this]
    exact List.getElem_mem hi)
  have memB : ∀ i, i < N.length → asc B (N.getD i default).1 = some (B.getD i default).2 := fun i hi => by
    rw [← getk i hi]
    have h2 : i < B.length := by omega
    have : B.getD i default = B[i] := by simp [h2]
    rw [this]
    exact (asc_mem kB).mpr (List.getElem_mem h2)
  have hU : cellsU2 B N = N.map (·.1) := by
    refine sorted_ext lt2_irr lt2_as sort2_lt (hk ▸ hs) fun x => ?_
    unfold cellsU2
    rw [sort2_mem, List.mem_append, hk, or_self]
  unfold patchOf
  rw [hU, List.filter_map, List.map_map]
  have e := range_filter N (fun c => decide (asc B c.1 ≠ asc N c.1)) (fun c => (c.1, (asc B c.1).getD 0, (asc N c.1).getD 0))
  rw [show (N.filter ((fun x => decide (asc B x ≠ asc N x)) ∘ fun p : Cell => p.1)) = N.filter fun c => decide (asc B c.1 ≠ asc N c.1) from rfl]
  rw [show ((fun x : Int × Int => (x, (asc B x).getD 0, (asc N x).getD 0)) ∘ fun p : Cell => p.1) = fun c : Cell => (c.1, (asc B c.1).getD 0, (asc N c.1).getD 0) from rfl]
  rw [← e]
  have f1 : ((List.range N.length).filter fun i => decide ((N.getD i default).2 ≠ (B.getD i default).2)) = (List.range N.length).filter fun i => decide (asc B (N.getD i default).1 ≠ asc N (N.getD i default).1) := by
    refine List.filter_congr fun i hi => ?_
    have hi2 : i < N.length := by simpa using hi
    rw [memN i hi2, memB i hi2]
    rw [Bool.eq_iff_iff]
    simp
    exact ⟨fun h z => h z.symm, fun h z => h z.symm⟩
  rw [f1]
  refine List.map_congr_left fun i hi => ?_
  have hi2 : i < N.length := by simpa using (List.mem_filter.mp hi).1
  rw [memN i hi2, memB i hi2]
  rfl
theorem r_after {rows0 now : List (Int × Row)} (h0 : Vd rows0) (h : Vd now) (hs : shape now = shape rows0) {k : Nat} {S : Sto} {v0 v1 v2 v6 j7 j8 j9 j10 j11 j12 j13 j14 j15 j16 j17 j18 : Option D} :
    W (exs (run tab (k + 9)) lawAfter [v0, v1, v2, some (.p (ePic (printR rows0))), some (.p (eRows now)), some (.p (ePatch (patchOf (printR rows0) (printR now)))), v6, j7, j8, j9, j10, j11, j12, j13, j14, j15, j16, j17, j18, none, none, none, none] S) (fun o e S' => o = .ret (.p (.bl true)) ∧ S' = S) := by
  unfold lawAfter
  have pl := h.plen
  have pl0 := h0.plen
  have hk : (printR rows0).map (·.1) = (printR now).map (·.1) := (shape_print hs).symm
  have hlen : (printR rows0).length = (printR now).length := by have := congrArg List.length hk; simpa using this
  have s62 : small62 ((printR now).length : Int) = true := small62_nat (by omega)
  have due := due_eq hk print_lt
  have pa : ∀ c ∈ patchOf (printR rows0) (printR now), asc (printR rows0) c.1 = some c.2.1 ∧ asc (printR now) c.1 = some c.2.2 ∧ c.2.1 ≠ c.2.2 := by
    intro c hc
    have e := (asc_mem (A := patchOf (printR rows0) (printR now)) (nodup_lt2 patchOf_keys)).mpr (show (c.1, c.2) ∈ _ from hc)
    rw [asc_patchOf] at e
    split at e
    · cases e
    · rename_i hne
      have iso := shape_asc hs c.1
      cases e1 : asc (printR rows0) c.1 with
      | none =>
        cases e2 : asc (printR now) c.1 with
        | none => rw [e1, e2] at hne; exact absurd rfl hne
        | some w => rw [e1, e2] at iso; cases iso
      | some v =>
        cases e2 : asc (printR now) c.1 with
        | none => rw [e1, e2] at iso; cases iso
        | some w =>
          rw [e1, e2] at e hne
          simp only [Option.getD_some, Option.some.injEq] at e
          rw [← e]
          exact ⟨rfl, rfl, fun z => hne (congrArg some z)⟩
  have inks : ∀ (rows : List (Int × Row)) (hv : Vd rows) (c : Int × Int) (v : Int), asc (printR rows) c = some v → 1 ≤ v ∧ v ≤ 4 ∧ (-40000 ≤ c.1 ∧ c.1 ≤ 40000) ∧ -40000 ≤ c.2 ∧ c.2 ≤ 40000 := by
    intro rows hv c v e
    rw [asc_print] at e
    have hm := (asc_mem hv.keys).mp e
    unfold flat at hm
    obtain ⟨r, hr, hc2⟩ := List.mem_flatMap.mp hm
    obtain ⟨d, hd, e3⟩ := List.mem_map.mp hc2
    cases e3
    have q := hv.at_ r hr
    have q2 := q.2.2.2 d hd
    exact ⟨q2.2.1, q2.2.2, q2.1, q.1⟩
  have ptl : (patchOf (printR rows0) (printR now)).length ≤ 28 := by
    rw [← due, List.length_map]
    refine Nat.le_trans (List.length_filter_le _ _) ?_
    rw [List.length_range]
    exact pl.2
  have ptb : PtB (patchOf (printR rows0) (printR now)) := ⟨by omega, fun c hc => by
    obtain ⟨q1, q2, q3⟩ := pa c hc
    have i1 := inks rows0 h0 _ _ q1
    have i2 := inks now h _ _ q2
    omega⟩
  have d28 : ((List.range (printR now).length).filter fun i => decide (((printR now).getD i default).2 ≠ ((printR rows0).getD i default).2)).length ≤ 16777216 := by
    have := congrArg List.length due
    rw [List.length_map] at this
    omega
  have dueE : ((List.range (printR now).length).filter fun i => decide (((printR now).getD i default).2 ≠ ((printR rows0).getD i default).2)).map (fun i => ePt (((printR now).getD i default).1, ((printR rows0).getD i default).2, ((printR now).getD i default).2)) = (patchOf (printR rows0) (printR now)).map ePt := by
    rw [← due, List.map_map]
    rfl
  have lk1 := like_patch (p := patchOf (printR rows0) (printR now)) (k := k + 4) (S := S) (by show _ ≤ 16777216; omega)
  have po := r_patch_of (one := printR rows0) (other := printR now) (k := k + 8) (S := S) print_nd print_nd h0.pne h.pne (by omega)
  have pb := r_patch_bytes ptb (k := k + 5) (S := S)
  have rp := r_read_patch ptb patchOf_keys (fun c hc => (pa c hc).2.2) (k := k + 4) (S := S)
  have bk := r_patch_back (p := patchOf (printR rows0) (printR now)) (k := k + 8) (S := S) (by show _ ≤ 16777216; omega)
  have bkk : ((patchOf (printR rows0) (printR now)).map fun c => (c.1, c.2.2, c.2.1)).map (·.1) = (patchOf (printR rows0) (printR now)).map (·.1) := by rw [List.map_map]; rfl
  have pt := r_patched (one := printR now) (M := printR rows0) (p := (patchOf (printR rows0) (printR now)).map fun c => (c.1, c.2.2, c.2.1)) (k := k + 7) (S := S) print_nd h.pne (by unfold Keys; rw [bkk]; exact nodup_lt2 patchOf_keys) (by rw [List.length_map]; omega) (fun c hc => by
    obtain ⟨d, hd, rfl⟩ := List.mem_map.mp hc
    obtain ⟨q1, q2, q3⟩ := pa d hd
    have i1 := inks rows0 h0 _ _ q1
    exact ⟨getD0 q2, by dsimp only; omega⟩) print_lt (fun j => by
    have e : asc ((patchOf (printR rows0) (printR now)).map fun c => (c.1, c.2.2, c.2.1)) j = (asc (patchOf (printR rows0) (printR now)) j).map fun v => (v.2, v.1) := by
      generalize patchOf (printR rows0) (printR now) = L
      induction L with
      | nil => rfl
      | cons c L ih =>
        rw [List.map_cons, asc_cons, asc_cons, ih]
        split <;> rfl
    unfold chgP
    rw [e, asc_patchOf]
    by_cases q : asc (printR rows0) j = asc (printR now) j
    · rw [if_pos q]
      exact q
    · rw [if_neg q]
      simp only [Option.map_some]
      have iso := shape_asc hs j
      cases e1 : asc (printR rows0) j with
      | some v => rfl
      | none =>
        cases e2 : asc (printR now) j with
        | none => rw [e1, e2] at q; exact absurd rfl q
        | some w => rw [e1, e2] at iso; cases iso)
  have lp := like_pic (p := printR rows0) (k := k + 4) (S := S) (by show _ ≤ 16777216; omega)
  have pc := r_page_check h0.rows h0.rb h0.ne (k := k + 4) (S := S)
  have li := like_int (i := ((rootT (sums rows0) : Nat) : Int)) (k := k + 7) (S := S)
  simp! only [r_law_print h, s62, lineL]
  rw [compL_fil (List.range (printR now).length) (fun i => .p (.int (i : Nat))) (fun i => .p (ePt (((printR now).getD i default).1, ((printR rows0).getD i default).2, ((printR now).getD i default).2))) (fun i => decide (((printR now).getD i default).2 ≠ ((printR rows0).getD i default).2))]
  · simp! only [d28, dueE, lk1, po, pb, rp, bk, pt, lp, pc, li, W_some]
  · rfl
  · rfl
  · intro i hi
    have hi2 : i < (printR now).length := by simpa using hi
    have g1 := atI_map (l := printR now) (g := eP) hi2
    have g2 := atI_map (l := printR rows0) (g := eP) (i := i) (by omega)
    have z1 : (printR now).getD i default = (printR now)[i] := by simp [hi2]
    have z2 : (printR rows0).getD i default = (printR rows0)[i]'(by omega) := by simp [(by omega : i < (printR rows0).length)]
    have y0 : ∀ (a b : P), atI [a, b] 0 = some a := fun _ _ => rfl
    have y1 : ∀ (a b : P), atI [a, b] 1 = some b := fun _ _ => rfl
    rw [z1, z2]
    by_cases q : ((printR now)[i]).2 = ((printR rows0)[i]'(by omega)).2
    · have b : (((printR now)[i]).2 == ((printR rows0)[i]'(by omega)).2) = true := by simpa using q
      simp! only [compF, g1, g2, y0, y1, b]
      simp [q]
    · have b : (((printR now)[i]).2 == ((printR rows0)[i]'(by omega)).2) = false := by simpa using q
      simp! only [compF, g1, g2, y0, y1, b]
      simp [q]
end PyX
set_option linter.all false
set_option maxRecDepth 100000
namespace PyX
open PyI
open PySem (Str)
theorem patch_self {A : List Cell} : patchOf A A = [] := by
  unfold patchOf
  simp
theorem r_law (ns : List Int) {k : Nat} : ∃ S', run tab (k + 10) 45 [.ref 0] [.rol (dZ ns)] = some (.p (.bl true), S') := by
  obtain ⟨row, hrow, e1⟩ := r_law_row ns 80 (k := k + 7) (h := 0) (S := [.rol (dZ ns)]) rfl (by decide)
  have hr : 0 < row.length ∧ row.length < 1000000 := by omega
  obtain ⟨x, a', e2, ha, rows, rfl, hv⟩ := r_law_rows (sc := dZ ns) (row := row) hr (k := k + 7) (e := [])
  have e3 : ([.rol (dZ ns)] ++ [.lst (dN' row)] ++ [.lst [.ref 1, .p (.int 0)]] : Sto) = stB (dZ ns) row 0 [] := rfl
  have pr := r_law_print hv (k := k + 8) (S := stB (dZ ns) row a' [])
  have hw : W (exs (run tab (k + 9)) f_law.body (start f_law.nn [.ref 0]) [.rol (dZ ns)]) fun o e S' => o = .ret (.p (.bl true)) := by
    rw [law_body]
    unfold lawBody
    have hs0 : start f_law.nn [D.ref 0] = [some (.ref 0), none, none, none, none, none, none, none, none, none, none, none, none, none, none, none, none, none, none, none, none, none, none] := rfl
    have e1' : run tab (k + 9) 32 [.ref 0, .p (.int 80)] [.rol (dZ ns)] = some (.ref 1, [.rol (dZ ns), .lst (dN' row)]) := e1
    have e2' : run tab (k + 9) 36 [.ref 2] [.rol (dZ ns), .lst (dN' row), .lst [.ref 1, .p (.int 0)]] = some (.p (eRows rows), stB (dZ ns) row a' []) := e2
    rw [hs0]
    simp! only [e1', e2', pr]
    refine W_sq ?_
    refine W_loop (List.range 4) (fun i => .p (.int (i : Nat))) (fun done e S' => ∃ now v6 c j7 j8 j9 j10 j11 j12 j13 j14 j15 j16 j17 j18, Vd now ∧ shape now = shape rows ∧ c ≤ 500 + 3 * done.length ∧ (done.length ≠ 0 → SpotOk rows v6) ∧ S' = stB (dZ ns) row c [] ∧
      e = [some (.ref 0), some (.ref 2), some (.p (eRows rows)), some (.p (ePic (printR rows))), some (.p (eRows now)), some (.p (ePatch (patchOf (printR rows) (printR now)))), v6, j7, j8, j9, j10, j11, j12, j13, j14, j15, j16, j17, j18, none, none, none, none]) rfl ?_ ?_ ?_
    · rintro done a rest e S' hL ⟨now, v6, c, j7, j8, j9, j10, j11, j12, j13, j14, j15, j16, j17, j18, hn, hs, hc, h6, rfl, rfl⟩
      have hda : done.length = a ∧ a < 4 := by
        have q := congrArg (fun l => l[done.length]?) hL
        have hlen := congrArg List.length hL
        simp at hlen
        simp [List.getElem?_range (show done.length < 4 by omega)] at q
        omega
      have t := r_turn hv hn hs (sc := dZ ns) hr (a := a) (c := c) hda.2 (by omega) (ext := []) (v6 := v6) (fun z => h6 (by omega)) (k := k) (j8 := j8) (j9 := j9) (j10 := j10) (j11 := j11) (j12 := j12) (j13 := j13) (j14 := j14) (j15 := j15) (j16 := j16) (j17 := j17) (j18 := j18)
      simp! only [turnF]
      refine t.mono ?_
      rintro o e S' ⟨rfl, rfl, now', v6', g1, g2, g3, j8, j9, j10, j11, j12, j13, j14, j15, j16, j17, j18, rfl⟩
      exact ⟨rfl, now', v6', c + 3, _, _, _, _, _, _, _, _, _, _, _, _, g1, g2, by simp; omega, fun _ => g3, rfl, rfl⟩
    · rintro e S' ⟨now, v6, c, j7, j8, j9, j10, j11, j12, j13, j14, j15, j16, j17, j18, hn, hs, hc, h6, rfl, rfl⟩
      refine (r_after hv hn hs).mono ?_
      rintro o e S' ⟨rfl, _⟩
      rfl
    · exact ⟨rows, _, a', _, _, _, _, _, _, _, _, _, _, _, _, hv, rfl, by simp; omega, by simp, rfl, by rw [patch_self]; rfl⟩
  obtain ⟨o, e, S', h1, rfl⟩ := hw
  refine ⟨(leave (.p (.bl true)) [.rol (dZ ns)] S').2, ?_⟩
  unfold run
  rw [at_law]
  simp only [show ([D.ref 0] : List D).length = f_law.np from rfl, if_true, h1]
  congr 1
  unfold leave
  dsimp only
  split <;> rfl
end PyX
namespace PyI
theorem law_runs (ns : List Int) (_ : ns.length ≤ 63) : ∃ S', run tab 40 45 [.ref 0] [.rol (ns.map fun i => .p (.int i))] = some (.p (.bl true), S') := PyX.r_law ns (k := 30)
end PyI
end
/-! PyT: from the text's trees to PyI's. -/
namespace PyI
open PySem (Str Expr Stmt Scope NameKind Comprehension Pos)

/-- what a name of the module stands for -/
inductive GV where
  | fn (i : Nat) | sc (x : P) | tp (x : P)
abbrev Names := List (Str × NameKind)
structure TC where
  N : List Str
  names : Names
  own : List Str
  gl : List (Str × GV)
  bl : List Str

def idx (N : List Str) (x : Str) : Option Nat := match N with
  | [] => none
  | y :: r => if y == x then some 0 else (idx r x).map (· + 1)
def seenAs (k : Option NameKind) : Bool := match k with
  | some .local => true
  | some .cell => true
  | some .free => true
  | _ => false
def ownAs (k : Option NameKind) : Bool := match k with
  | some .local => true
  | some .cell => true
  | _ => false
def isGlob (c : TC) (x : Str) : Bool := match c.names.lookup x with
  | some .globalImplicit => true
  | _ => false
def trVar (c : TC) (x : Str) : Option Nat := if seenAs (c.names.lookup x) && x != "__debug__" && x != "__classdict__" then idx c.N x else none
def trOwn (c : TC) (x : Str) : Option Nat := if ownAs (c.names.lookup x) && c.own.contains x then idx c.N x else none
def trGlob (c : TC) (x : Str) : Option GV := if isGlob c x && x != "__debug__" then c.gl.lookup x else none
/-- a built-in by its name: the module has none of that name -/
def isBlt (c : TC) (x : Str) : Bool := isGlob c x && c.bl.contains x && x != "__debug__" && x != "__name__"

def trConst : PySem.Const → Option P
  | .none => some .non
  | .bool b => some (.bl b)
  | .int i => some (.int i)
  | .str s => some (.str s)
  | _ => none
def trOp : PySem.Operator → Option Bop
  | .Add => some .add
  | .Sub => some .sub
  | .Mult => some .mul
  | .FloorDiv => some .fdiv
  | .Mod => some .mod
  | .Pow => some .pow
  | .BitXor => some .xor
  | _ => none
def trCmp : PySem.CmpOp → Option Cop
  | .Eq => some .eq
  | .NotEq => some .ne
  | .Lt => some .lt
  | .LtE => some .le
  | .Gt => some .gt
  | .GtE => some .ge
  | .Is => some .is
  | .IsNot => some .isn
  | .In => some .inn
  | .NotIn => some .nin

/-- the names of a comprehension's block as they are seen in it -/
def inner (outer : Names) (scope : Scope) : Names := scope.names.map fun p => if p.2 == .free && outer.lookup p.1 == some .cell then (p.1, .cell) else p
def ownOf (N : List Str) (scope : Scope) : List (Str × Nat) := scope.names.filterMap fun p => if p.2 == .local || p.2 == .cell then (idx N p.1).map fun i => (p.1, i) else none
def inC (c : TC) (scope : Scope) : TC := { c with names := inner c.names scope, own := (ownOf c.N scope).map (·.1) }
def blockOk (c : TC) (scope : Scope) : Bool :=
  (match scope.kind with
    | .function => true
    | _ => false) && scope.names.all (fun y => scope.names.lookup y.1 == some y.2) &&
  scope.names.all fun y => match y.2 with
    | .free => (match c.names.lookup y.1 with
      | some .cell => true
      | some .free => true
      | _ => false)
    | _ => true

mutual
def trG (c : TC) : Nat → Expr → Option TG
  | 0, _ => none
  | n + 1, e => match e with
    | .Name x _ => (trOwn c x).map .nm
    | .Tuple es _ _ => (trGs c n es).map .tup
    | _ => none
def trGs (c : TC) : Nat → List Expr → Option (List TG)
  | 0, _ => none
  | _ + 1, [] => some []
  | n + 1, e :: r => match trG c n e, trGs c n r with
    | some t, some ts => some (t :: ts)
    | _, _ => none
end

def blt1 (x : Str) : Option Bi :=
  if x == "len" then some .len else if x == "tuple" then some .tuple else if x == "list" then some .list else if x == "sorted" then some .sorted
  else if x == "all" then some .all else if x == "any" then some .any else if x == "sum" then some .sum else if x == "min" then some .min else if x == "max" then some .max
  else if x == "int" then some .int else if x == "abs" then some .abs else if x == "dict" then some .dict else none
def tyOf (x : Str) : Option Ty :=
  if x == "int" then some .int else if x == "bool" then some .bool else if x == "tuple" then some .tuple else if x == "str" then some .str else none
/-- the receiver of a method is no bare call -/
def noCall0 : Expr → Bool
  | .Call _ [] [] _ => false
  | _ => true
def few1 : List Expr → Bool
  | [] => true
  | [_] => true
  | _ => false
def noStar : Expr → Bool
  | .Starred .. => false
  | _ => true

mutual
def trE (c : TC) : Nat → Expr → Option IE
  | 0, _ => none
  | n + 1, e => match e with
    | .Constant k _ _ => (trConst k).map .cst
    | .Name x _ => match trVar c x with
      | some i => some (.var i)
      | none => match trGlob c x with
        | some (.sc p) => some (.cst p)
        | some (.tp p) => some (.glb p)
        | _ => none
    | .BinOp a o b _ => match trOp o, trE c n a, trE c n b with
      | some o, some a, some b => some (.bin o a b)
      | _, _, _ => none
    | .UnaryOp .USub a _ => (trE c n a).map .neg
    | .UnaryOp .Not a _ => (trE c n a).map .bnot
    | .BoolOp _ [a] _ => trE c n a
    | .BoolOp .And (a :: b :: r) p => match trE c n a, trE c n (.BoolOp .And (b :: r) p) with
      | some a, some b => some (.band a b)
      | _, _ => none
    | .BoolOp .Or (a :: b :: r) p => match trE c n a, trE c n (.BoolOp .Or (b :: r) p) with
      | some a, some b => some (.bor a b)
      | _, _ => none
    | .Compare a [o] [b] _ => match trCmp o, trE c n a, trE c n b with
      | some o, some a, some b => some (.cmp o a b)
      | _, _, _ => none
    | .Compare a [o, o'] [b, d] _ => match trCmp o, trCmp o', trE c n a, trE c n b, trE c n d with
      | some o, some o', some a, some b, some d => some (.chain o o' a b d)
      | _, _, _, _, _ => none
    | .IfExp t a b _ => match trE c n t, trE c n a, trE c n b with
      | some t, some a, some b => some (.ife t a b)
      | _, _, _ => none
    | .Tuple es _ _ => (trEs c n es).map .tup
    | .List es _ => (trEs c n es).map .lst
    | .Dict [] [] _ => some .dct
    | .Subscript a (.Slice lo hi none _) _ => match trE c n a, trO c n lo, trO c n hi with
      | some a, some lo, some hi => some (.sl a lo hi)
      | _, _, _ => none
    | .Subscript _ (.Slice ..) _ => none
    | .Subscript a b _ => match trE c n a, trE c n b with
      | some a, some b => some (.ix a b)
      | _, _ => none
    | .ListComp elt [⟨tg, it, ifs, 0⟩] scope _ =>
      if blockOk c scope && few1 ifs then match trI c n it, trG (inC c scope) n tg, trEs (inC c scope) n ifs, trE (inC c scope) n elt with
        | some it, some tg, some ifs, some elt => some (.comp elt tg it ifs ((ownOf c.N scope).map (·.2)))
        | _, _, _, _ => none
      else none
    | .ListComp elt [⟨tg, it, ifs, 0⟩, ⟨tg2, it2, ifs2, 0⟩] scope _ =>
      if blockOk c scope && few1 ifs && few1 ifs2 then match trI c n it, trG (inC c scope) n tg, trEs (inC c scope) n ifs, trE (inC c scope) n elt,
          trI (inC c scope) n it2, trG (inC c scope) n tg2, trEs (inC c scope) n ifs2 with
        | some it, some tg, some ifs, some elt, some it2, some tg2, some ifs2 => some (.comp2 elt tg it ifs tg2 it2 ifs2 ((ownOf c.N scope).map (·.2)))
        | _, _, _, _, _, _, _ => none
      else none
    | .DictComp k v [⟨tg, it, ifs, 0⟩] scope _ =>
      if blockOk c scope && few1 ifs then match trI c n it, trG (inC c scope) n tg, trEs (inC c scope) n ifs, trE (inC c scope) n k, trE (inC c scope) n v with
        | some it, some tg, some ifs, some k, some v => some (.dcomp k v tg it ifs ((ownOf c.N scope).map (·.2)))
        | _, _, _, _, _ => none
      else none
    | .Call (.Name f _) args [] _ => match trGlob c f with
      | some (.fn i) => (trEs c n args).map (.call i)
      | some _ => none
      | none => if isBlt c f then match args with
        | [.Call (.Name g _) [a] [] _] =>
          if f == "sorted" && g == "set" && isBlt c g then (trE c n a).map (.bi .sset)
          else trB1 c n f args
        | [.Call (.Attribute o m ap) [] [] p] =>
          if f == "sorted" && m == "items" && ap.endLine == p.line && noCall0 o then (trE c n o).map (.bi .sitems) else none
        | [a, .Name t _] => if f == "isinstance" && isBlt c t then match tyOf t, trE c n a with
            | some t, some a => some (.bi (.isa t) a)
            | _, _ => none
          else trB2 c n f args
        | [_] => trB1 c n f args
        | _ => trB2 c n f args
        else none
    | .Call (.Attribute o m ap) args [] p => if ap.endLine == p.line then match args with
      | [a] => if noStar a && noCall0 o then match trE c n o, trE c n a with
          | some o, some a => if m == "append" then some (.m1 .append o a) else if m == "extend" then some (.m1 .extend o a) else if m == "get" then some (.m1 .get o a)
            else if m == "count" then some (.m1 .count o a) else none
          | _, _ => none
        else none
      | [a, b] => if noStar a && noStar b && noCall0 o then match trE c n o, trE c n a, trE c n b with
          | some o, some a, some b => if m == "get" then some (.m2 .get o a b) else if m == "setdefault" then some (.m2 .setdefault o a b) else none
          | _, _, _ => none
        else none
      | _ => none
      else none
    | _ => none
def trB1 (c : TC) : Nat → Str → List Expr → Option IE
  | 0, _, _ => none
  | n + 1, f, args => match args with
    | [a] => if noStar a then match blt1 f, trE c n a with
      | some b, some a => some (.bi b a)
      | _, _ => none
      else none
    | _ => none
def trB2 (c : TC) : Nat → Str → List Expr → Option IE
  | 0, _, _ => none
  | n + 1, f, args => match args with
    | [a, b] => if noStar a && noStar b then match trE c n a, trE c n b with
      | some a, some b => if f == "min" then some (.bi2 .min a b) else if f == "max" then some (.bi2 .max a b) else none
      | _, _ => none
      else none
    | _ => none
def trEs (c : TC) : Nat → List Expr → Option IEs
  | 0, _ => none
  | _ + 1, [] => some .nil
  | n + 1, e :: r => if noStar e then match trE c n e, trEs c n r with
    | some e, some r => some (.cons e r)
    | _, _ => none
    else none
def trO (c : TC) : Nat → Option Expr → Option IEo
  | 0, _ => none
  | _ + 1, none => some .none
  | n + 1, some e => (trE c n e).map .some
def trI (c : TC) : Nat → Expr → Option IT
  | 0, _ => none
  | n + 1, e => match e with
    | .Call (.Name f _) [a] [] _ => if f == "range" && isBlt c f then (if noStar a then (trE c n a).map .rng1 else none) else (trE c n e).map .e
    | .Call (.Name f _) [a, b] [] _ => if f == "range" && isBlt c f then (if noStar a && noStar b then match trE c n a, trE c n b with
        | some a, some b => some (.rng2 a b)
        | _, _ => none else none) else (trE c n e).map .e
    | .Call (.Name f _) [a, b, d] [] _ => if f == "range" && isBlt c f then (if noStar a && noStar b && noStar d then match trE c n a, trE c n b, trE c n d with
        | some a, some b, some d => some (.rng3 a b d)
        | _, _, _ => none else none) else (trE c n e).map .e
    | .Set .. => none
    | _ => (trE c n e).map .e
end

/-! ### statements -/
def isName : Expr → Bool
  | .Name .. => true
  | _ => false
def isComp : Expr → Bool
  | .ListComp .. => true
  | .SetComp .. => true
  | .DictComp .. => true
  | _ => false
def locNames (c : TC) (line : Nat) (ts : List Expr) : List Str := ts.filterMap fun e => match e with
  | .Name x pos => if c.names.lookup x == some .local && pos.line == line then some x else none
  | _ => none
/-- what swappedStores says of (a, b) = (x, y): nothing, these names, or it stops -/
inductive Sw where
  | no | yes (l : List Str) | bad
def swOf (c : TC) (ts vs : List Expr) : Sw :=
  if !(ts.length == 2 || ts.length == 3) || vs.length != ts.length then .no
  else if !vs.all noStar then .no
  else if (locNames c ((ts.head?.map (·.pos.line)).getD 0) ts).length != ts.length || (locNames c ((ts.head?.map (·.pos.line)).getD 0) ts).eraseDups.length != (locNames c ((ts.head?.map (·.pos.line)).getD 0) ts).length then .no
  else if vs.all (PySem.foldedForSure 8) then .no
  else if vs.all (PySem.constantsAlone 8) then .bad
  else .yes (locNames c ((ts.head?.map (·.pos.line)).getD 0) ts)
def isBad : Sw → Bool
  | .bad => true
  | _ => false

/-- a dict's comprehension whose store takes the name at once -/
def swapC (c : TC) (x : Str) (px : Pos) (v : Expr) (scope : Scope) : Bool := c.names.lookup x == some .local && px.line == v.pos.line && !(scope.names.any fun (n, k) => n == x && (k == .local || k == .cell))
def swapsBad (c : TC) (x : Str) (px : Pos) (v : Expr) : Bool := match v with
  | .DictComp _ _ _ scope _ => swapC c x px v scope
  | .SetComp .. => true
  | _ => false
def trAug : PySem.Operator → Option Bop
  | .Add => some .add
  | .Sub => some .sub
  | .Mult => some .mul
  | .FloorDiv => some .fdiv
  | .Mod => some .mod
  | _ => none
mutual
def trS (c : TC) : Nat → Stmt → Option IS
  | 0, _ => none
  | n + 1, s => match s with
    | .Assign [.Tuple ts _ _] (.Tuple vs _ _) _ =>
      if ts.length == vs.length && ts.length != 0 && decide (ts.length ≤ 100) && !isBad (swOf c ts vs) then match trGs c n ts, trEs c n vs with
        | some ts, some vs => some (.par ts vs)
        | _, _ => none
      else none
    | .Assign [.Tuple ts _ _] v _ => if isComp v then none else match trGs c n ts, trE c n v with
      | some ts, some v => some (.asg (.tup ts) v)
      | _, _ => none
    | .Assign [.Name x px] v _ => if swapsBad c x px v then none else match trOwn c x, trE c n v with
      | some i, some v => some (.asg (.nm i) v)
      | _, _ => none
    | .Assign [.Subscript _ (.Slice ..) _] _ _ => none
    | .Assign [.Subscript o i _] v _ => if isComp v then none else match trE c n o, trE c n i, trE c n v with
      | some o, some i, some v => some (.setix o i v)
      | _, _, _ => none
    | .AugAssign (.Name x _) o e _ => match trOwn c x, trAug o, trE c n e with
      | some i, some o, some e => some (.aug i o e)
      | _, _, _ => none
    | .Delete [.Subscript _ (.Slice ..) _] _ => none
    | .Delete [.Subscript o i _] _ => match trE c n o, trE c n i with
      | some o, some i => some (.delix o i)
      | _, _ => none
    | .Expr e _ => if isComp e then none else (trE c n e).map .expr
    | .Return (some e) _ => (trE c n e).map .ret
    | .Return none _ => some .retn
    | .If t a b _ => match trE c n t, trSs c n a, trSs c n b with
      | some t, some a, some b => some (.ife t a b)
      | _, _, _ => none
    | .For t it b [] _ => match trG c n t, trI c n it, trSs c n b with
      | some t, some it, some b => some (.loop t it b)
      | _, _, _ => none
    | .While t b [] _ => match trE c n t, trSs c n b with
      | some t, some b => some (.while t b)
      | _, _ => none
    | .Break _ => some .brk
    | .Continue _ => some .cnt
    | .Pass _ => some .pas
    | .Raise .. => some .never
    | _ => none
def trSs (c : TC) : Nat → List Stmt → Option ISs
  | 0, _ => none
  | _ + 1, [] => some .nil
  | n + 1, s :: r => match trS c n s, trSs c n r with
    | some s, some r => some (.cons s r)
    | _, _ => none
end

/-- a def of the text, its names: the parameters first -/
structure Def where
  name : Str
  N : List Str
  ps : List Str
def defOf (x : Str) : List Stmt → Option (List Stmt × Scope)
  | .FunctionDef y _ b _ _ _ sc _ _ _ :: r => if y == x then some (b, sc) else defOf x r
  | _ :: r => defOf x r
  | [] => none
def trDef (gl : List (Str × GV)) (bl : List Str) (top : List Stmt) (d : Def) : Option Fn := match defOf d.name top with
  | some (b, sc) => (trSs ⟨d.N, sc.names, d.N, gl, bl⟩ 60 b).map fun b => ⟨d.ps.length, d.N.length, b⟩
  | none => none
def fnsFrom (i : Nat) : List Def → List (Str × GV)
  | [] => []
  | d :: r => (d.name, .fn i) :: fnsFrom (i + 1) r
def trAll (gl : List (Str × GV)) (bl : List Str) (top : List Stmt) : List Def → Option (List Fn)
  | [] => some []
  | d :: r => match trDef gl bl top d, trAll gl bl top r with
    | some f, some fs => some (f :: fs)
    | _, _ => none

end PyI

set_option Elab.async false
set_option linter.all false
set_option maxRecDepth 100000
set_option maxHeartbeats 1000000
/-! PyS1: what PyI's values are in the abstract heap of the layer. -/
namespace PyI
open PySem PySem.Spec PyProof.Rows L2
abbrev Fr := PySem.W.Frag

/-- a tuple's object: one that may be a key is tracked as a tuple, any other as an object that has no dict of its own -/
def TRep (H : Hp) (a : Addr) (xs : List V) (l : List P) : Prop := (keyish l = true ∧ H a = some (.tup xs)) ∨ (keyish l = false ∧ ∃ o, H a = some (.frz o (.tup xs)) ∧ o.dict = none)
theorem TRep.sq {K : Fr} {H : Hp} {a : Addr} {xs : List V} {l : List P} (h : TRep H a xs l) : SqT K H a xs := by
  rcases h with ⟨_, e⟩ | ⟨_, o, e, _⟩
  · exact .of e
  · exact .inl (.inr ⟨o, e⟩)
theorem TRep.mono {H H' : Hp} (h : ∀ a xs, H a = some (.tup xs) → H' a = some (.tup xs)) (g : ∀ a o u, H a = some (.frz o u) → H' a = some (.frz o u)) {a : Addr} {xs : List V} {l : List P} (r : TRep H a xs l) : TRep H' a xs l := by
  rcases r with ⟨k, e⟩ | ⟨k, o, e, d⟩
  · exact .inl ⟨k, h _ _ e⟩
  · exact .inr ⟨k, o, g _ _ _ e, d⟩
theorem TRep.key {H : Hp} {a : Addr} {xs : List V} {l : List P} (r : TRep H a xs l) (k : keyish l = true) : H a = some (.tup xs) := by
  rcases r with ⟨_, e⟩ | ⟨k', _⟩
  · exact e
  · rw [k] at k'
    cases k'
mutual
/-- data at an abstract heap: its tuples are tracked -/
inductive PRep (H : Hp) : V → P → Prop
  | non : PRep H .non .non
  | bl (b : Bool) : PRep H (.bl b) (.bl b)
  | int (i : Int) : PRep H (.int i) (.int i)
  | str (s : Str) : PRep H (.str s) (.str s)
  | tup {a : Addr} {xs : List V} {ps : List P} : TRep H a xs ps → PReps H xs ps → PRep H (.ref a) (.tup ps)
inductive PReps (H : Hp) : List V → List P → Prop
  | nil : PReps H [] []
  | cons {v : V} {vs : List V} {p : P} {ps : List P} : PRep H v p → PReps H vs ps → PReps H (v :: vs) (p :: ps)
end
mutual
/-- data that the module's top wrote -/
inductive WRep (K : Fr) : V → P → Prop
  | non : WRep K .non .non
  | bl (b : Bool) : WRep K (.bl b) (.bl b)
  | int (i : Int) : WRep K (.int i) (.int i)
  | str (s : Str) : WRep K (.str s) (.str s)
  | tup {a : Addr} {xs : List V} {ps : List P} : (∀ H, SqT K H a xs) → WReps K xs ps → WRep K (.ref a) (.tup ps)
inductive WReps (K : Fr) : List V → List P → Prop
  | nil : WReps K [] []
  | cons {v : V} {vs : List V} {p : P} {ps : List P} : WRep K v p → WReps K vs ps → WReps K (v :: vs) (p :: ps)
end
def DRep (ρ : List Addr) (H : Hp) : V → D → Prop
  | v, .p x => PRep H v x
  | v, .ref h => ∃ a, ρ[h]? = some a ∧ v = .ref a
abbrev DReps (ρ : List Addr) (H : Hp) : List V → List D → Prop := Paired (DRep ρ H)
abbrev KReps {κ : Type} (ρ : List Addr) (H : Hp) : List (κ × V) → List (κ × D) → Prop := Paired fun p q => p.1 = q.1 ∧ DRep ρ H p.2 q.2
def ORep (ρ : List Addr) (H : Hp) (a : Addr) : O → Prop
  | .lst l => ∃ xs, H a = some (.lst xs) ∧ DReps ρ H xs l
  | .rol l => ∃ o xs, H a = some (.frz o (.lst xs)) ∧ DReps ρ H xs l
  | .dK kvs => ∃ ks, H a = some (.dK ks) ∧ KReps ρ H ks kvs
  | .dT kvs => ∃ ks, H a = some (.dT ks) ∧ KReps ρ H ks kvs
/-- the store lies in the abstract heap, its objects at ρ -/
structure Sim (ρ : List Addr) (H : Hp) (S : Sto) : Prop where
  len : ρ.length = S.length
  nd : ρ.Nodup
  obj : ∀ (i : Nat) (a : Addr) (o : O), ρ[i]? = some a → S[i]? = some o → ORep ρ H a o
/-- what a run may do to the abstract heap -/
structure Fut (ρ : List Addr) (H : Hp) (ρ' : List Addr) (H' : Hp) : Prop where
  pre : ∃ t, ρ' = ρ ++ t ∧ ∀ a ∈ t, H a = none
  keep : ∀ a o, H a = some o → a ∉ ρ → H' a = some o
  tups : ∀ a xs, H a = some (.tup xs) → H' a = some (.tup xs)
  frzs : ∀ a o u, H a = some (.frz o u) → H' a = some (.frz o u)
  there : ∀ a o, H a = some o → ∃ o', H' a = some o'

section
variable {K : Fr} {ρ ρ' ρ1 ρ2 : List Addr} {H H' H1 H2 : Hp} {v : V} {p : P} {d : D} {vs : List V} {ds : List D} {S S' : Sto}

mutual
theorem PRep.mono (h : ∀ a xs, H a = some (.tup xs) → H' a = some (.tup xs)) (g : ∀ a o u, H a = some (.frz o u) → H' a = some (.frz o u)) : ∀ {v : V} {p : P}, PRep H v p → PRep H' v p
  | _, _, .non => .non
  | _, _, .bl b => .bl b
  | _, _, .int i => .int i
  | _, _, .str s => .str s
  | _, _, .tup e r => .tup (e.mono h g) (PReps.mono h g r)
theorem PReps.mono (h : ∀ a xs, H a = some (.tup xs) → H' a = some (.tup xs)) (g : ∀ a o u, H a = some (.frz o u) → H' a = some (.frz o u)) : ∀ {vs : List V} {ps : List P}, PReps H vs ps → PReps H' vs ps
  | _, _, .nil => .nil
  | _, _, .cons a b => .cons (PRep.mono h g a) (PReps.mono h g b)
end
theorem PReps.fut (f : Fut ρ H ρ' H') {vs : List V} {ps : List P} (h : PReps H vs ps) : PReps H' vs ps := PReps.mono f.tups f.frzs h
theorem PRep.fut (f : Fut ρ H ρ' H') {v : V} {p : P} (h : PRep H v p) : PRep H' v p := PRep.mono f.tups f.frzs h
theorem PReps.length : ∀ {vs : List V} {ps : List P}, PReps H vs ps → vs.length = ps.length
  | _, _, .nil => rfl
  | _, _, .cons _ t => congrArg (· + 1) (PReps.length t)
theorem PReps.paired : ∀ {vs : List V} {ps : List P}, PReps H vs ps → Paired (PRep H) vs ps
  | _, _, .nil => .nil
  | _, _, .cons a t => .cons a (PReps.paired t)
theorem PReps.of : ∀ {vs : List V} {ps : List P}, Paired (PRep H) vs ps → PReps H vs ps
  | _, _, .nil => .nil
  | _, _, .cons a t => .cons a (PReps.of t)
theorem PReps.toD : ∀ {vs : List V} {ps : List P}, PReps H vs ps → DReps ρ H vs (toDs ps)
  | _, _, .nil => .nil
  | _, _, .cons a t => .cons a (PReps.toD t)
theorem paired_get {α β : Type} {R : α → β → Prop} : ∀ {xs : List α} {ys : List β} {i : Nat} {y : β}, Paired R xs ys → ys[i]? = some y → ∃ x, xs[i]? = some x ∧ R x y
  | _, _, _, _, .nil, h => by simp at h
  | _, _, 0, _, .cons r _, h => by
    simp at h
    subst h
    exact ⟨_, rfl, r⟩
  | _, _, i + 1, _, .cons _ t, h => by
    obtain ⟨x, h1, h2⟩ := paired_get (i := i) t (by simpa using h)
    exact ⟨x, by simpa using h1, h2⟩
theorem paired_getL {α β : Type} {R : α → β → Prop} : ∀ {xs : List α} {ys : List β} {i : Nat} {x : α}, Paired R xs ys → xs[i]? = some x → ∃ y, ys[i]? = some y ∧ R x y
  | _, _, _, _, .nil, h => by simp at h
  | _, _, 0, _, .cons r _, h => by
    simp at h
    subst h
    exact ⟨_, rfl, r⟩
  | _, _, i + 1, _, .cons _ t, h => by
    obtain ⟨x, h1, h2⟩ := paired_getL (i := i) t (by simpa using h)
    exact ⟨x, by simpa using h1, h2⟩
theorem paired_append {α β : Type} {R : α → β → Prop} : ∀ {xs xs' : List α} {ys ys' : List β}, Paired R xs ys → Paired R xs' ys' → Paired R (xs ++ xs') (ys ++ ys')
  | _, _, _, _, .nil, h => h
  | _, _, _, _, .cons r t, h => .cons r (paired_append t h)
theorem paired_drop {α β : Type} {R : α → β → Prop} : ∀ {xs : List α} {ys : List β} (n : Nat), Paired R xs ys → Paired R (xs.drop n) (ys.drop n)
  | _, _, 0, h => h
  | _, _, _ + 1, .nil => .nil
  | _, _, n + 1, .cons _ t => paired_drop n t
theorem paired_take {α β : Type} {R : α → β → Prop} : ∀ {xs : List α} {ys : List β} (n : Nat), Paired R xs ys → Paired R (xs.take n) (ys.take n)
  | _, _, 0, _ => .nil
  | _, _, _ + 1, .nil => .nil
  | _, _, n + 1, .cons r t => .cons r (paired_take n t)
theorem paired_set {α β : Type} {R : α → β → Prop} {x : α} {y : β} (r : R x y) : ∀ {xs : List α} {ys : List β} (n : Nat), Paired R xs ys → Paired R (xs.set n x) (ys.set n y)
  | _, _, _, .nil => .nil
  | _, _, 0, .cons _ t => .cons r t
  | _, _, n + 1, .cons q t => .cons q (paired_set r n t)
theorem paired_mono {α β : Type} {R R' : α → β → Prop} (h : ∀ a b, R a b → R' a b) : ∀ {xs : List α} {ys : List β}, Paired R xs ys → Paired R' xs ys
  | _, _, .nil => .nil
  | _, _, .cons r t => .cons (h _ _ r) (paired_mono h t)

theorem Fut.refl (ρ : List Addr) (H : Hp) : Fut ρ H ρ H := ⟨⟨[], by simp, fun a h => absurd h (by simp)⟩, fun _ _ h _ => h, fun _ _ h => h, fun _ _ _ h => h, fun _ o h => ⟨o, h⟩⟩
theorem Fut.fresh (f : Fut ρ H ρ' H') {a : Addr} (h : H' a = none) : H a = none := by
  cases e : H a with
  | none => rfl
  | some o =>
    obtain ⟨o', e'⟩ := f.there a o e
    rw [h] at e'
    cases e'
theorem Fut.notin (f : Fut ρ H ρ' H') {a : Addr} {o : HO} (h : H a = some o) (n : a ∉ ρ) : a ∉ ρ' := by
  obtain ⟨t, e, q⟩ := f.pre
  rw [e]
  intro m
  rcases List.mem_append.mp m with m | m
  · exact n m
  · rw [q a m] at h
    cases h
theorem Fut.trans (f : Fut ρ H ρ1 H1) (g : Fut ρ1 H1 ρ2 H2) : Fut ρ H ρ2 H2 where
  pre := by
    obtain ⟨t, e, q⟩ := f.pre
    obtain ⟨u, e', q'⟩ := g.pre
    refine ⟨t ++ u, by rw [e', e, List.append_assoc], fun a m => ?_⟩
    rcases List.mem_append.mp m with m | m
    · exact q a m
    · exact f.fresh (q' a m)
  keep := fun a o h n => g.keep a o (f.keep a o h n) (f.notin h n)
  tups := fun a xs h => g.tups a xs (f.tups a xs h)
  frzs := fun a o u h => g.frzs a o u (f.frzs a o u h)
  there := fun a o h => by
    obtain ⟨o', e⟩ := f.there a o h
    exact g.there a o' e
theorem Fut.get (f : Fut ρ H ρ' H') {i : Nat} {a : Addr} (h : ρ[i]? = some a) : ρ'[i]? = some a := by
  obtain ⟨t, e, _⟩ := f.pre
  rw [e, List.getElem?_append_left (List.getElem?_eq_some_iff.mp h).1]
  exact h
theorem DRep.mono (f : Fut ρ H ρ' H') : ∀ {v : V} {d : D}, DRep ρ H v d → DRep ρ' H' v d
  | _, .p _, h => PRep.mono f.tups f.frzs h
  | _, .ref _, ⟨a, e, q⟩ => ⟨a, f.get e, q⟩
theorem DReps.mono (f : Fut ρ H ρ' H') {vs : List V} {ds : List D} (h : DReps ρ H vs ds) : DReps ρ' H' vs ds := paired_mono (fun _ _ q => DRep.mono f q) h
theorem KReps.mono {κ : Type} (f : Fut ρ H ρ' H') {vs : List (κ × V)} {ds : List (κ × D)} (h : KReps ρ H vs ds) : KReps ρ' H' vs ds := paired_mono (fun _ _ q => ⟨q.1, DRep.mono f q.2⟩) h
/-- what a handle stands for, in the future, where the object itself is as it was -/
theorem ORep.mono (f : Fut ρ H ρ' H') {a : Addr} (e : H' a = H a) : ∀ {o : O}, ORep ρ H a o → ORep ρ' H' a o
  | .lst _, ⟨xs, h, r⟩ => ⟨xs, e.trans h, DReps.mono f r⟩
  | .rol _, ⟨o, xs, h, r⟩ => ⟨o, xs, e.trans h, DReps.mono f r⟩
  | .dK _, ⟨xs, h, r⟩ => ⟨xs, e.trans h, KReps.mono f r⟩
  | .dT _, ⟨xs, h, r⟩ => ⟨xs, e.trans h, KReps.mono f r⟩
theorem ORep.there {a : Addr} : ∀ {o : O}, ORep ρ H a o → ∃ u, H a = some u
  | .lst _, ⟨xs, h, r⟩ => ⟨_, h⟩
  | .rol _, ⟨o, xs, h, r⟩ => ⟨_, h⟩
  | .dK _, ⟨xs, h, r⟩ => ⟨_, h⟩
  | .dT _, ⟨xs, h, r⟩ => ⟨_, h⟩
theorem ORep.notup {a : Addr} {xs : List V} : ∀ {o : O}, ORep ρ H a o → H a ≠ some (.tup xs)
  | .lst _, ⟨xs, h, r⟩, e => by rw [h] at e; cases e
  | .rol _, ⟨o, xs, h, r⟩, e => by rw [h] at e; cases e
  | .dK _, ⟨xs, h, r⟩, e => by rw [h] at e; cases e
  | .dT _, ⟨xs, h, r⟩, e => by rw [h] at e; cases e
theorem Sim.at (s : Sim ρ H S) {i : Nat} {a : Addr} (h : ρ[i]? = some a) : ∃ o, S[i]? = some o ∧ ORep ρ H a o := by
  have hi := (List.getElem?_eq_some_iff.mp h).1
  have hj : i < S.length := by rw [← s.len]; exact hi
  exact ⟨S[i], List.getElem?_eq_getElem hj, s.obj i a _ h (List.getElem?_eq_getElem hj)⟩
theorem Sim.addr (s : Sim ρ H S) {i : Nat} {o : O} (h : S[i]? = some o) : ∃ a, ρ[i]? = some a ∧ ORep ρ H a o := by
  have hi := (List.getElem?_eq_some_iff.mp h).1
  have hj : i < ρ.length := by rw [s.len]; exact hi
  exact ⟨ρ[i], List.getElem?_eq_getElem hj, s.obj i _ o (List.getElem?_eq_getElem hj) h⟩
theorem Sim.mem (_ : Sim ρ H S) {a : Addr} (h : a ∈ ρ) : ∃ i : Nat, ρ[i]? = some a := List.mem_iff_getElem?.mp h
theorem Sim.nottup (s : Sim ρ H S) {a : Addr} {xs : List V} (h : H a = some (.tup xs)) : a ∉ ρ := fun m => by
  obtain ⟨i, e⟩ := s.mem m
  obtain ⟨o, _, r⟩ := s.at e
  exact r.notup h
theorem Sim.free (s : Sim ρ H S) {a : Addr} (h : H a = none) : a ∉ ρ := fun m => by
  obtain ⟨i, e⟩ := s.mem m
  obtain ⟨o, _, r⟩ := s.at e
  obtain ⟨u, q⟩ := r.there
  rw [h] at q
  cases q

/-- a new object that is not of the store -/
theorem Fut.new {a : Addr} {o : HO} (n : H a = none) : Fut ρ H ρ (upd H a o) :=
  ⟨⟨[], by simp, fun a h => absurd h (by simp)⟩, fun b u h _ => by rw [upd_ne (ne_of_none h n)]; exact h, fun b u h => by rw [upd_ne (ne_of_none h n)]; exact h,
    fun b o u h => by rw [upd_ne (ne_of_none h n)]; exact h, fun b u h => ⟨u, by rw [upd_ne (ne_of_none h n)]; exact h⟩⟩
/-- the same objects where the heap has changed elsewhere -/
theorem Sim.mono (s : Sim ρ H S) (f : Fut ρ H ρ H') (e : ∀ a ∈ ρ, H' a = H a) : Sim ρ H' S :=
  ⟨s.len, s.nd, fun i a o h1 h2 => ORep.mono f (e a (List.mem_of_getElem? h1)) (s.obj i a o h1 h2)⟩
theorem Sim.new (s : Sim ρ H S) {a : Addr} {o : HO} (n : H a = none) : Sim ρ (upd H a o) S :=
  s.mono (Fut.new n) fun b m => upd_ne fun e => s.free n (e ▸ m)
/-- an object that stands already comes into the store -/
theorem Sim.enter (s : Sim ρ H S) {a : Addr} {o : O} (n : a ∉ ρ) (f : Fut ρ H (ρ ++ [a]) H' ) (e : ∀ b ∈ ρ, H' b = H b) (r : ORep (ρ ++ [a]) H' a o) : Sim (ρ ++ [a]) H' (S ++ [o]) where
  len := by rw [List.length_append, List.length_append, s.len]; rfl
  nd := by
    rw [List.nodup_append]
    refine ⟨s.nd, by simp, fun x hx y hy => ?_⟩
    have : y = a := by simpa using hy
    subst this
    exact fun z => n (z ▸ hx)
  obj := fun i b u h1 h2 => by
    by_cases hi : i < ρ.length
    · rw [List.getElem?_append_left hi] at h1
      rw [List.getElem?_append_left (by rw [← s.len]; exact hi)] at h2
      exact ORep.mono f (e b (List.mem_of_getElem? h1)) (s.obj i b u h1 h2)
    · have hj : i < ρ.length + 1 := by
        have := (List.getElem?_eq_some_iff.mp h1).1
        rw [List.length_append] at this
        exact this
      have ei : i = ρ.length := by omega
      subst ei
      rw [List.getElem?_append_right (Nat.le_refl _), Nat.sub_self] at h1
      rw [List.getElem?_append_right (by rw [s.len]; exact Nat.le_refl _), s.len, Nat.sub_self] at h2
      cases h1
      cases h2
      exact r
theorem Fut.enter {a : Addr} (n : H a = none) (f : Fut ρ H ρ' H') : Fut ρ H (ρ' ++ [a]) H' :=
  ⟨by
    obtain ⟨t, e, q⟩ := f.pre
    refine ⟨t ++ [a], by rw [e, List.append_assoc], fun b m => ?_⟩
    rcases List.mem_append.mp m with m | m
    · exact q b m
    · have : b = a := by simpa using m
      rw [this]
      exact n, f.keep, f.tups, f.frzs, f.there⟩
/-- an object of the store is changed -/
theorem Fut.write {a : Addr} {o u : HO} (m : a ∈ ρ) (h : H a = some o) (ht : ∀ xs, o ≠ .tup xs) (hf : ∀ ob w, o ≠ .frz ob w) : Fut ρ H ρ (upd H a u) :=
  ⟨⟨[], by simp, fun a h => absurd h (by simp)⟩, fun b w q n => by rw [upd_ne (fun e => by subst e; exact n m)]; exact q,
    fun b xs q => by
      rw [upd_ne (fun e => by subst e; rw [h] at q; exact ht xs (Option.some.inj q))]
      exact q,
    fun b ob w q => by
      rw [upd_ne (fun e => by subst e; rw [h] at q; exact hf ob w (Option.some.inj q))]
      exact q,
    fun b w q => by
      by_cases e : b = a
      · subst e; exact ⟨u, upd_same⟩
      · exact ⟨w, by rw [upd_ne e]; exact q⟩⟩
theorem nodup_get : ∀ {l : List Addr}, l.Nodup → ∀ {i j : Nat} {a : Addr}, l[i]? = some a → l[j]? = some a → i = j
  | [], _, _, _, _, h, _ => by simp at h
  | x :: r, nd, 0, 0, _, _, _ => rfl
  | x :: r, nd, 0, j + 1, a, h1, h2 => by
    simp at h1 h2
    subst h1
    exact absurd (List.mem_of_getElem? h2) (List.nodup_cons.mp nd).1
  | x :: r, nd, i + 1, 0, a, h1, h2 => by
    simp at h1 h2
    subst h2
    exact absurd (List.mem_of_getElem? h1) (List.nodup_cons.mp nd).1
  | x :: r, nd, i + 1, j + 1, a, h1, h2 => congrArg (· + 1) (nodup_get (List.nodup_cons.mp nd).2 (by simpa using h1) (by simpa using h2))
theorem Sim.write (s : Sim ρ H S) {h : Nat} {a : Addr} {u : HO} {o : O} (ha : ρ[h]? = some a) (f : Fut ρ H ρ (upd H a u)) (r : ORep ρ (upd H a u) a o) : Sim ρ (upd H a u) (S.set h o) where
  len := by rw [List.length_set]; exact s.len
  nd := s.nd
  obj := fun i b w h1 h2 => by
    by_cases e : h = i
    · subst e
      rw [ha] at h1
      cases h1
      rw [List.getElem?_set_self' ] at h2
      obtain ⟨o', q, _⟩ := s.at ha
      rw [q] at h2
      cases h2
      exact r
    · rw [List.getElem?_set_ne e] at h2
      refine ORep.mono f (upd_ne fun z => e ?_) (s.obj i b w h1 h2)
      subst z
      exact nodup_get s.nd ha h1
theorem DRep.below {n : Nat} : ∀ {v : V} {d : D}, belowD n d = true → DRep ρ H v d → DRep (ρ.take n) H v d
  | _, .p _, _, h => h
  | _, .ref k, b, ⟨a, e, q⟩ => ⟨a, by
    have hk : k < n := by simpa [belowD] using b
    rw [List.getElem?_take, if_pos hk]
    exact e, q⟩
theorem paired_all {α β : Type} {R R' : α → β → Prop} {f : β → Bool} (h : ∀ a b, f b = true → R a b → R' a b) : ∀ {xs : List α} {ys : List β}, ys.all f = true → Paired R xs ys → Paired R' xs ys
  | _, _, _, .nil => .nil
  | _, _, q, .cons r t => by
    rw [List.all_cons, Bool.and_eq_true] at q
    exact .cons (h _ _ q.1 r) (paired_all h q.2 t)
theorem ORep.below {n : Nat} {a : Addr} : ∀ {o : O}, belowO n o = true → ORep ρ H a o → ORep (ρ.take n) H a o
  | .lst _, b, ⟨xs, h, r⟩ => ⟨xs, h, paired_all (fun _ _ => DRep.below) b r⟩
  | .rol _, b, ⟨o, xs, h, r⟩ => ⟨o, xs, h, paired_all (fun _ _ => DRep.below) b r⟩
  | .dK _, b, ⟨xs, h, r⟩ => ⟨xs, h, paired_all (fun _ _ q z => ⟨z.1, DRep.below q z.2⟩) b r⟩
  | .dT _, b, ⟨xs, h, r⟩ => ⟨xs, h, paired_all (fun _ _ q z => ⟨z.1, DRep.below q z.2⟩) b r⟩
theorem DRep.isBelow {v : V} : ∀ {d : D}, DRep ρ H v d → belowD ρ.length d = true
  | .p _, _ => rfl
  | .ref k, ⟨a, e, q⟩ => by
    have := (List.getElem?_eq_some_iff.mp e).1
    simpa [belowD] using this
theorem paired_isAll {α β : Type} {R : α → β → Prop} {f : β → Bool} (h : ∀ a b, R a b → f b = true) : ∀ {xs : List α} {ys : List β}, Paired R xs ys → ys.all f = true
  | _, _, .nil => rfl
  | _, _, .cons r t => by rw [List.all_cons, h _ _ r, paired_isAll h t]; rfl
theorem ORep.isBelow {a : Addr} : ∀ {o : O}, ORep ρ H a o → belowO ρ.length o = true
  | .lst _, ⟨xs, h, r⟩ => paired_isAll (f := belowD ρ.length) (fun _ _ z => DRep.isBelow z) r
  | .rol _, ⟨o, xs, h, r⟩ => paired_isAll (f := belowD ρ.length) (fun _ _ z => DRep.isBelow z) r
  | .dK kvs, ⟨xs, h, r⟩ => by
    unfold belowO
    exact paired_isAll (f := fun (p : Key × D) => belowD ρ.length p.2) (fun _ _ z => DRep.isBelow z.2) r
  | .dT kvs, ⟨xs, h, r⟩ => by
    unfold belowO
    exact paired_isAll (f := fun (p : List Key × D) => belowD ρ.length p.2) (fun _ _ z => DRep.isBelow z.2) r
theorem okLeave_get {n : Nat} : ∀ {S S' : Sto} {i : Nat} {o o' : O}, okLeave n S S' = true → S[i]? = some o → S'[i]? = some o' → o' = o ∨ belowO n o' = true
  | [], _, _, _, _, _, h, _ => by simp at h
  | _ :: _, [], _, _, _, q, _, _ => by simp [okLeave] at q
  | o :: S, o' :: S', 0, _, _, q, h1, h2 => by
    simp at h1 h2
    subst h1 h2
    have q' : (decide (o' = o) || belowO n o') = true ∧ okLeave n S S' = true := by simpa [okLeave] using q
    simpa using q'.1
  | o :: S, o' :: S', i + 1, _, _, q, h1, h2 => by
    have q' : (decide (o' = o) || belowO n o') = true ∧ okLeave n S S' = true := by simpa [okLeave] using q
    exact okLeave_get (i := i) q'.2 (by simpa using h1) (by simpa using h2)
/-- behind a call: the objects that the call made are forgotten -/
theorem Sim.leave (s : Sim ρ H S) (s' : Sim ρ' H' S') (f : Fut ρ H ρ' H') (q : okLeave S.length S S' = true) : Sim ρ H' (S'.take S.length) := by
  obtain ⟨t, e, _⟩ := f.pre
  have et : ρ'.take S.length = ρ := by rw [e, ← s.len, List.take_left']; rfl
  have hl : S.length ≤ S'.length := by
    rw [← s.len, ← s'.len, e, List.length_append]
    omega
  refine ⟨by rw [List.length_take, s.len]; omega, s.nd, fun i a o h1 h2 => ?_⟩
  rw [List.getElem?_take] at h2
  split at h2
  · rename_i hi
    obtain ⟨o0, h0, r0⟩ := s.at h1
    have r' := s'.obj i a o (f.get h1) h2
    have b : belowO S.length o = true := by
      rcases okLeave_get q h0 h2 with z | z
      · rw [z, ← s.len]
        exact r0.isBelow
      · exact z
    have z := ORep.below b r'
    rw [et] at z
    exact z
  · cases h2
theorem Fut.leave (f : Fut ρ H ρ' H') : Fut ρ H ρ H' := ⟨⟨[], by simp, fun a h => absurd h (by simp)⟩, f.keep, f.tups, f.frzs, f.there⟩
end

/-- the result of an expression that began at H: a new list is none of the store's, and was not there -/
def RRep (K : Fr) (H : Hp) (ρ' : List Addr) (H' : Hp) (v : V) : R → Prop
  | .val d => DRep ρ' H' v d
  | .tl l => ∃ a xs, v = .ref a ∧ H a = none ∧ a ∉ ρ' ∧ H' a = some (.lst xs) ∧ DReps ρ' H' xs l
  | .kc x => WRep K v x
section
variable {K : Fr} {ρ ρ' ρ1 ρ2 : List Addr} {H H' H0 H1 H2 : Hp} {v : V} {r : R}
theorem RRep.mono (f : Fut ρ1 H1 ρ2 H2) : ∀ {r : R}, RRep K H ρ1 H1 v r → RRep K H ρ2 H2 v r
  | .val _, h => DRep.mono f h
  | .tl _, ⟨a, xs, e, n, m, h, q⟩ => ⟨a, xs, e, n, f.notin h m, f.keep a _ h m, DReps.mono f q⟩
  | .kc _, h => h
theorem RRep.from (f : Fut ρ0 H0 ρ1 H1) : ∀ {r : R}, RRep K H1 ρ2 H2 v r → RRep K H0 ρ2 H2 v r
  | .val _, h => h
  | .tl _, ⟨a, xs, e, n, m, h, q⟩ => ⟨a, xs, e, f.fresh n, m, h, q⟩
  | .kc _, h => h
end

def ERep (ρ : List Addr) (H : Hp) (σ : L2.St) (env : Env) : Prop := σ.length = env.length ∧ ∀ (i : Nat) (d : D), env[i]? = some (some d) → ∃ v, σ[i]? = some (some v) ∧ DRep ρ H v d
theorem ERep.mono {ρ ρ' : List Addr} {H H' : Hp} {σ : L2.St} {env : Env} (f : Fut ρ H ρ' H') (e : ERep ρ H σ env) : ERep ρ' H' σ env :=
  ⟨e.1, fun i d h => by
    obtain ⟨v, h1, h2⟩ := e.2 i d h
    exact ⟨v, h1, DRep.mono f h2⟩⟩
theorem ERep.get {ρ : List Addr} {H : Hp} {σ : L2.St} {env : Env} (e : ERep ρ H σ env) {i : Nat} {d : D} (h : getV env i = some d) : ∃ v, σ[i]? = some (some v) ∧ DRep ρ H v d := by
  unfold getV at h
  split at h
  · rename_i d' e'
    cases h
    exact e.2 i d e'
  · cases h
theorem ERep.set {ρ : List Addr} {H : Hp} {σ : L2.St} {env : Env} (e : ERep ρ H σ env) (i : Nat) {v : V} {d : D} (r : DRep ρ H v d) : ERep ρ H (σ.set i (some v)) (setV env i d) := by
  unfold setV
  refine ⟨by rw [List.length_set, List.length_set]; exact e.1, fun j d' h => ?_⟩
  by_cases hj : i = j
  · subst hj
    rw [List.getElem?_set_self'] at h
    have hi : i < env.length := by
      cases q : env[i]? with
      | none => rw [q] at h; cases h
      | some x => exact (List.getElem?_eq_some_iff.mp q).1
    have hi' : i < σ.length := by rw [e.1]; exact hi
    rw [List.getElem?_set_self hi']
    cases q : env[i]? with
    | none => rw [q] at h; cases h
    | some x =>
      rw [q] at h
      cases h
      exact ⟨v, rfl, r⟩
  · rw [List.getElem?_set_ne hj] at h
    rw [List.getElem?_set_ne hj]
    exact e.2 j d' h
theorem ERep.wipe {ρ : List Addr} {H : Hp} {σ : L2.St} {env : Env} (e : ERep ρ H σ env) : ∀ vs : List Nat, ERep ρ H (L2.wipe σ vs) (PyI.wipe env vs)
  | [] => e
  | v :: vs => by
    have ih := ERep.wipe e vs
    unfold L2.wipe PyI.wipe
    refine ⟨by rw [List.length_set, List.length_set]; exact ih.1, fun j d h => ?_⟩
    by_cases hj : v = j
    · subst hj
      rw [List.getElem?_set_self'] at h
      cases q : (PyI.wipe env vs)[v]? with
      | none => rw [q] at h; cases h
      | some x => rw [q] at h; cases h
    · rw [List.getElem?_set_ne hj] at h
      rw [List.getElem?_set_ne hj]
      exact ih.2 j d h

/-! ### the readings -/
def Post (K : Fr) (ρ : List Addr) (H : Hp) (r : R) (S' : Sto) (Q : VK) : Prop := ∀ ρ' v H', Fut ρ H ρ' H' → Sim ρ' H' S' → RRep K H ρ' H' v r → Q v H'
def tE (K : Fr) (f : Env → Sto → Option (R × Sto)) : TE := fun σ H Q => ∃ ρ env S r S', Sim ρ H S ∧ ERep ρ H σ env ∧ f env S = some (r, S') ∧ Post K ρ H r S' Q
def tT (f : Env → Sto → Option (Bool × Sto)) : TT := fun σ H Q => ∃ ρ env S b S', Sim ρ H S ∧ ERep ρ H σ env ∧ f env S = some (b, S') ∧ ∀ ρ' H', Fut ρ H ρ' H' → Sim ρ' H' S' → Q b H'
def tA (f : Env → Sto → Option (List D × Sto)) : TA := fun σ H Q => ∃ ρ env S l S', Sim ρ H S ∧ ERep ρ H σ env ∧ f env S = some (l, S') ∧ ∀ ρ' vs H', Fut ρ H ρ' H' → Sim ρ' H' S' → DReps ρ' H' vs l → Q vs H'
def OutOk (D : Ends) (ρ' : List Addr) (H' : Hp) (env' : Env) : Out → Prop
  | .nx => ∀ σ', ERep ρ' H' σ' env' → D.nx σ' H'
  | .bk => ∀ σ', ERep ρ' H' σ' env' → D.bk σ' H'
  | .ct => ∀ σ', ERep ρ' H' σ' env' → D.ct σ' H'
  | .ret d => ∀ v, DRep ρ' H' v d → D.rt v H'
def tS (f : Env → Sto → Option (Out × Env × Sto)) : TS := fun D σ H => ∃ ρ env S o env' S', Sim ρ H S ∧ ERep ρ H σ env ∧ f env S = some (o, env', S') ∧ ∀ ρ' H', Fut ρ H ρ' H' → Sim ρ' H' S' → OutOk D ρ' H' env' o

theorem PEi {X : Cx} {e : Expr} {t t' : TE} (h : PE X e t) (w : ∀ σ H Q, t' σ H Q → t σ H Q) : PE X e t' := ⟨fun pins s σ H Q I q => h.run pins s σ H Q I (w _ _ _ q)⟩
theorem PTi {X : Cx} {e : Expr} {t t' : TT} (h : PT X e t) (w : ∀ σ H Q, t' σ H Q → t σ H Q) : PT X e t' := ⟨fun pins s σ H Q I q => h.run pins s σ H Q I (w _ _ _ q)⟩
theorem PWi {X : Cx} {e : Expr} {t t' : TT} (h : PW X e t) (w : ∀ σ H Q, t' σ H Q → t σ H Q) : PW X e t' := ⟨fun wh pins s σ H Q I q => h.run wh pins s σ H Q I (w _ _ _ q)⟩
theorem PAi {X : Cx} {e : List Expr} {t t' : TA} (h : PA X e t) (w : ∀ σ H Q, t' σ H Q → t σ H Q) : PA X e t' := ⟨fun pos pins s σ H Q I q => h.run pos pins s σ H Q I (w _ _ _ q)⟩
theorem PSi {X : Cx} {e : Stmt} {t t' : TS} (h : PS X e t) (w : ∀ D σ H, t' D σ H → t D σ H) : PS X e t' := ⟨fun pins s σ H D I q => h.run pins s σ H D I (w _ _ _ q)⟩
theorem PSsi {X : Cx} {e : List Stmt} {t t' : TS} (h : PSs X e t) (w : ∀ D σ H, t' D σ H → t D σ H) : PSs X e t' := ⟨fun pins s σ H D I q => h.run pins s σ H D I (w _ _ _ q)⟩

/-- a value comes into the store where it is a new list -/
theorem alloc_ok {K : Fr} {ρ ρ1 : List Addr} {H H1 : Hp} {v : V} {r : R} {S1 S2 : Sto} {d : D} (f : Fut ρ H ρ1 H1) (s : Sim ρ1 H1 S1) (h : RRep K H ρ1 H1 v r) (e : alloc r S1 = some (d, S2)) :
    ∃ ρ2, Fut ρ H ρ2 H1 ∧ (∃ t, ρ2 = ρ1 ++ t) ∧ Sim ρ2 H1 S2 ∧ DRep ρ2 H1 v d := by
  cases r with
  | val d' =>
    cases e
    exact ⟨ρ1, f, ⟨[], by simp⟩, s, h⟩
  | tl l =>
    cases e
    obtain ⟨a, xs, rfl, n, m, h1, q⟩ := h
    have hp : ∀ {i : Nat} {b : Addr}, ρ1[i]? = some b → (ρ1 ++ [a])[i]? = some b := fun {i b} z => by
      rw [List.getElem?_append_left (List.getElem?_eq_some_iff.mp z).1]
      exact z
    have up : ∀ {w : V} {x : D}, DRep ρ1 H1 w x → DRep (ρ1 ++ [a]) H1 w x := fun {w x} z => by
      cases x with
      | p y => exact z
      | ref k =>
        obtain ⟨b, h1, h2⟩ := z
        exact ⟨b, hp h1, h2⟩
    refine ⟨ρ1 ++ [a], f.enter n, ⟨[a], rfl⟩, ⟨?_, ?_, ?_⟩, ⟨a, ?_, rfl⟩⟩
    · rw [List.length_append, List.length_append, s.len]
      rfl
    · rw [List.nodup_append]
      refine ⟨s.nd, by simp, fun x hx y hy => ?_⟩
      have : y = a := by simpa using hy
      subst this
      exact fun z => m (z ▸ hx)
    · intro i b o h3 h2
      have hi := (List.getElem?_eq_some_iff.mp h3).1
      rw [List.length_append] at hi
      by_cases hj : i < ρ1.length
      · rw [List.getElem?_append_left hj] at h3
        rw [List.getElem?_append_left (by rw [← s.len]; exact hj)] at h2
        have z := s.obj i b o h3 h2
        cases o with
        | lst _ =>
          obtain ⟨ys, z1, z2⟩ := z
          exact ⟨ys, z1, paired_mono (fun _ _ q => up q) z2⟩
        | rol _ =>
          obtain ⟨ob, ys, z1, z2⟩ := z
          exact ⟨ob, ys, z1, paired_mono (fun _ _ q => up q) z2⟩
        | dK _ =>
          obtain ⟨ys, z1, z2⟩ := z
          exact ⟨ys, z1, paired_mono (fun _ _ q => ⟨q.1, up q.2⟩) z2⟩
        | dT _ =>
          obtain ⟨ys, z1, z2⟩ := z
          exact ⟨ys, z1, paired_mono (fun _ _ q => ⟨q.1, up q.2⟩) z2⟩
      · have ei : i = ρ1.length := by
          have : ([a] : List Addr).length = 1 := rfl
          omega
        subst ei
        rw [List.getElem?_append_right (Nat.le_refl _), Nat.sub_self] at h3
        rw [List.getElem?_append_right (by rw [s.len]; exact Nat.le_refl _), s.len, Nat.sub_self] at h2
        cases h3
        cases h2
        exact ⟨xs, h1, paired_mono (fun _ _ q => up q) q⟩
    · rw [List.getElem?_append_right (by rw [s.len]; exact Nat.le_refl _), s.len, Nat.sub_self]
      rfl
  | kc x => cases e
end PyI
set_option Elab.async false
set_option linter.all false
set_option maxRecDepth 100000
set_option maxHeartbeats 1000000
/-! PyN: new tuples, either tracked as a tuple or as an object without a dict. -/
namespace PyI
open PySem PySem.Spec PyProof.Rows L2

/-- what is due of a new tuple -/
def NewTup (Q : VK) (H : Hp) (ys : List V) : Prop := ∀ p, H p = none → (Q (.ref p) (upd H p (.tup ys)) ∨ ∀ o : Obj, o.dict = none → Q (.ref p) (upd H p (.frz o (.tup ys))))
section
variable {X : Cx} {pins : List (Addr × Obj)} {σ : L2.St} {H : Hp} {s : Shared}
theorem new_tup {Q : VK} {ys : List V} {its : List Value} (I : Inv X pins σ H s) (r : Vals ys its) (hz : ys.length ≤ sizeLine) (q : NewTup Q H ys) :
    EP X pins σ Q (.ref s.heap.objs.size) { s with heap := s.heap.push { cls := .type "tuple", data := .seq its.toArray } } := by
  have hf : H s.heap.objs.size = none := I.hok.fresh (Nat.le_refl _)
  rcases q _ hf with q | q
  · exact ⟨.ref s.heap.objs.size, upd H s.heap.objs.size (.tup ys), I.laid (t' := s.toks) (fun b o e => Heap.get?_push_of_some _ e) (Nat.le_refl _) (show ObjOk X.prog X.w _ _ _ (.tup ys) from ⟨hz, its, r, IsTup.new _ _⟩), rfl, q⟩
  · exact ⟨.ref s.heap.objs.size, upd H s.heap.objs.size (.frz { cls := .type "tuple", data := .seq its.toArray } (.tup ys)), I.laid (t' := s.toks) (fun b o e => Heap.get?_push_of_some _ e) (Nat.le_refl _) (show ObjOk X.prog X.w _ _ _ (.frz _ (.tup ys)) from ⟨Heap.get?_push_size _ rfl, hz, its, r, IsTup.new _ _⟩), rfl, q _ rfl⟩
def tTupG (t : TA) : TE := fun σ H Q => t σ H fun xs H1 => xs.length ≤ sizeLine ∧ NewTup Q H1 xs
theorem pe_tupG {es : List Expr} {t : TA} {pos : Pos} {x1} (h : PA X es t) : PE X (.Tuple es x1 pos) (tTupG t) := by
  refine ⟨fun pins s σ H Q I hq => ?_⟩
  exact wpAny_Tuple_spliced (thn (h.run pos pins s σ H _ I hq) fun us s1 ⟨xs, H1, I1, r, z, q⟩ => ⟨by rw [← r.length]; exact z, new_tup I1 r z q⟩)
theorem call_tupleG : CallR X (.type "tuple") (fun xs H Q => ∃ p ys, xs = [.ref p] ∧ ((SqL X.K H p ys ∧ NewTup Q H ys) ∨ (SqT X.K H p ys ∧ Q (.ref p) H))) := by
  intro pins s σ H xs us Q I r h
  obtain ⟨p, ys, rfl, h⟩ := h
  obtain ⟨u, rfl, rx⟩ := vals1 r
  cases rx
  rcases h with ⟨hq, q⟩ | ⟨hq, q⟩
  · obtain ⟨its, r', pl, hz⟩ := I.list hq
    have hlen := r'.length
    refine call_tuple_list pl.isList (fun h' kp => ?_) (by simp only [List.size_toArray] <;> omega)
    exact new_tup (I.kept (t' := s.toks) kp) r' hz q
  · obtain ⟨its, r', pl, hz⟩ := I.tuple hq
    exact call_tuple_same pl ⟨.ref p, H, I, rfl, q⟩
def rCatG (K : Fr) : R2 := fun x y H Q => ∃ a b xs ys, x = .ref a ∧ y = .ref b ∧ SqT K H a xs ∧ SqT K H b ys ∧ xs.length + ys.length ≤ sizeLine ∧
  (xs = [] → Q (.ref b) H) ∧ (xs ≠ [] → ys = [] → Q (.ref a) H) ∧ (xs ≠ [] → ys ≠ [] → NewTup Q H (xs ++ ys))
theorem op_catG : OpR X (binaryOp .Add) (rCatG X.K) := by
  intro pins s σ H x y v u Q I rx ry h
  obtain ⟨a, b, xs, ys, rfl, rfl, ha, hb, hz, q0, q1, q2⟩ := h
  cases rx
  cases ry
  obtain ⟨its, r1, p1, _⟩ := I.tuple ha
  obtain ⟨its2, r2, p2, _⟩ := I.tuple hb
  by_cases hx : xs = []
  · subst hx
    cases r1
    exact cat_tup0 p1 p2 ⟨.ref b, H, I, rfl, q0 rfl⟩
  · refine HT.cat_tup p1 p2 (fun z => hx (r1.nil_iff.mp z)) (fun z => ⟨.ref a, H, I, rfl, q1 hx (r2.nil_iff.mp z)⟩) (fun z => ?_) (by rw [← r1.length, ← r2.length]; exact hz)
    exact new_tup I (r1.append r2) (by rw [List.length_append]; exact hz) (q2 hx fun w => z (r2.nil_iff.mpr w))
def rSlG (K : Fr) : V → Option Int → Option Int → Hp → VK → Prop := fun x lo hi H Q => ∃ a xs, x = .ref a ∧ SqT K H a xs ∧
  (HT.sIx xs.length 0 lo = 0 ∧ HT.sIx xs.length xs.length hi = xs.length → Q (.ref a) H) ∧ (¬ (HT.sIx xs.length 0 lo = 0 ∧ HT.sIx xs.length xs.length hi = xs.length) → NewTup Q H (cutV xs lo hi))
theorem sl_tupG : SlR X (rSlG X.K) := by
  intro pins s σ H x v vl vu lo hi sl Q I rx hs pl pu h
  obtain ⟨a, xs, rfl, hx, q1, q2⟩ := h
  cases rx
  obtain ⟨its, r, ht, hz⟩ := I.tuple hx
  have hlen : its.toArray.size = xs.length := by rw [List.size_toArray]; exact r.length.symm
  refine ⟨"tuple", _, PyProof.Rows.slot_tuple_getitem.lookup, ht.typeIs, ?_⟩
  by_cases hw : HT.sIx xs.length 0 lo = 0 ∧ HT.sIx xs.length xs.length hi = xs.length
  · exact getItem_tuple_whole ht hs pl pu (by rw [hlen]; exact hw) ⟨.ref a, H, I, rfl, q1 hw⟩
  · refine HT.getItem_tuple_cut ht hs pl pu (by rw [hlen]; exact hw) ?_ (by rw [hlen]; exact hz)
    rw [hlen]
    exact new_tup I ((r.drop (HT.sIx xs.length 0 lo)).take (HT.sIx xs.length xs.length hi - HT.sIx xs.length 0 lo)) (Nat.le_trans (cutV_length xs lo hi) hz) (q2 hw)
end
end PyI
set_option Elab.async false
set_option linter.all false
set_option maxRecDepth 100000
set_option maxHeartbeats 1000000
/-! PyS2: operators and comparisons. -/
namespace PyI
open PySem PySem.Spec PyProof.Rows L2

section
variable {K : Fr} {ρ ρ' : List Addr} {H H' : Hp} {S : Sto} {Q : VK} {v w : V}
theorem fin_p {x : P} (f : Fut ρ H ρ' H') (s : Sim ρ' H' S) (k : Post K ρ H (.val (.p x)) S Q) (r : PRep H' v x) : Q v H' := k ρ' v H' f s r
theorem fin_tup {l : List P} {xs : List V} (f : Fut ρ H ρ' H') (s : Sim ρ' H' S) (k : Post K ρ H (.val (.p (.tup l))) S Q) (r : PReps H' xs l) : NewTup Q H' xs := fun p n => by
  cases e : keyish l with
  | true => exact .inl (k ρ' (.ref p) _ (f.trans (Fut.new n)) (s.new n) (PRep.tup (.inl ⟨e, upd_same⟩) (PReps.fut (Fut.new (ρ := ρ') n) r)))
  | false => exact .inr fun o ho => k ρ' (.ref p) _ (f.trans (Fut.new n)) (s.new n) (PRep.tup (.inr ⟨e, o, upd_same, ho⟩) (PReps.fut (Fut.new (ρ := ρ') n) r))
theorem fin_tupK {l : List P} {xs : List V} {p : Addr} (f : Fut ρ H ρ' H') (s : Sim ρ' H' S) (k : Post K ρ H (.val (.p (.tup l))) S Q) (e : keyish l = true) (r : PReps H' xs l) (n : H' p = none) : Q (.ref p) (upd H' p (.tup xs)) :=
  k ρ' (.ref p) _ (f.trans (Fut.new n)) (s.new n) (PRep.tup (.inl ⟨e, upd_same⟩) (PReps.fut (Fut.new (ρ := ρ') n) r))
theorem fin_tl {l : List D} {xs : List V} {p : Addr} (f : Fut ρ H ρ' H') (s : Sim ρ' H' S) (k : Post K ρ H (.tl l) S Q) (r : DReps ρ' H' xs l) (n : H' p = none) : Q (.ref p) (upd H' p (.lst xs)) :=
  k ρ' (.ref p) _ (f.trans (Fut.new n)) (s.new n) ⟨p, xs, rfl, f.fresh n, s.free n, upd_same, DReps.mono (Fut.new n) r⟩
theorem isL_ok {a : R} {l : List D} (s : Sim ρ' H' S) (r : RRep K H ρ' H' v a) (h : isL a S = some l) : ∃ p xs, v = .ref p ∧ H' p = some (.lst xs) ∧ DReps ρ' H' xs l := by
  unfold isL at h
  split at h
  · cases h
    obtain ⟨p, xs, e, _, _, h1, h2⟩ := r
    exact ⟨p, xs, e, h1, h2⟩
  · rename_i hd
    split at h
    · rename_i l' e
      cases h
      obtain ⟨p, e1, e2⟩ := r
      obtain ⟨xs, h1, h2⟩ := s.obj _ _ _ e1 e
      exact ⟨p, xs, e2, h1, h2⟩
    · cases h
  · cases h
theorem seqR_ok {a : R} {l : List D} (s : Sim ρ' H' S) (r : RRep K H ρ' H' v a) (h : seqR a S = some l) : ∃ p xs, v = .ref p ∧ (SqL K H' p xs ∨ SqT K H' p xs) ∧ xs.length = l.length ∧ DReps ρ' H' xs l := by
  have wd : ∀ {xs : List V} {ps : List P}, WReps K xs ps → ps.all isScal = true → DReps ρ' H' xs (toDs ps) := by
    intro xs ps
    induction xs generalizing ps with
    | nil => intro q _; cases q; exact .nil
    | cons x xs ih =>
      intro q e
      cases q with
      | cons q1 q2 =>
        rw [List.all_cons, Bool.and_eq_true] at e
        refine .cons ?_ (ih q2 e.2)
        cases q1 with
        | tup _ _ => exact nomatch (show False by simpa [isScal] using e.1)
        | non => exact PRep.non
        | bl b => exact PRep.bl b
        | int i => exact PRep.int i
        | str t => exact PRep.str t
  unfold seqR at h
  split at h
  · cases h
    obtain ⟨p, xs, e, _, _, h1, h2⟩ := r
    exact ⟨p, xs, e, .inl (.of h1), Paired.length h2, h2⟩
  · cases h
    cases (show PRep H' v (.tup _) from r) with
    | tup e q => exact ⟨_, _, rfl, .inr e.sq, by rw [q.length]; simp [toDs], q.toD⟩
  · split at h
    · rename_i q
      cases h
      cases (show WRep K v (.tup _) from r) with
      | tup e q' =>
        have z := wd q' q
        exact ⟨_, _, rfl, .inr (e H'), Paired.length z, z⟩
    · cases h
  · split at h
    · rename_i l' e
      cases h
      obtain ⟨p, e1, e2⟩ := r
      obtain ⟨xs, h1, h2⟩ := s.obj _ _ _ e1 e
      exact ⟨p, xs, e2, .inl (.of h1), Paired.length h2, h2⟩
    · rename_i l' e
      cases h
      obtain ⟨p, e1, e2⟩ := r
      obtain ⟨o, xs, h1, h2⟩ := s.obj _ _ _ e1 e
      exact ⟨p, xs, e2, .inl (.inl (.inr ⟨o, h1⟩)), Paired.length h2, h2⟩
    · cases h
  · cases h
theorem intR_ok {a : R} {i : Int} (r : RRep K H ρ' H' v a) (h : intR a = some i) : v = .int i := by
  unfold intR at h
  split at h
  · cases h
    cases (show PRep H' v (.int _) from r)
    rfl
  · cases h
theorem pR_ok {a : R} {x : P} (r : RRep K H ρ' H' v a) (h : pR a = some x) : PRep H' v x := by
  unfold pR at h
  split at h
  · cases h
    exact r
  · cases h
end

theorem xorI_ok {i j k : Int} (h : xorI i j = some k) : Builtin.bitXor i j = k := by
  unfold xorI at h
  split at h
  · rename_i q
    cases h
    obtain ⟨a, rfl⟩ := Int.eq_ofNat_of_zero_le q.1
    obtain ⟨b, rfl⟩ := Int.eq_ofNat_of_zero_le q.2
    exact Bits.bitXor_pp q.1 q.2
  · cases h

section
variable {X : Cx}
/-- what an operator does on two values -/
def OpOk (X : Cx) (f : Value → Value → Sem Value) (g : R → R → Sto → Option R) : Prop := ∃ rr : R2, OpR X f rr ∧
  ∀ {ρ ρ' : List Addr} {H H' H0 H1 : Hp} {S : Sto} {x y : R} {v w : V} {r : R} {Q : VK}, Fut ρ H ρ' H' → Sim ρ' H' S → RRep X.K H0 ρ' H' v x → RRep X.K H1 ρ' H' w y → g x y S = some r → Post X.K ρ H r S Q → rr v w H' Q
theorem bin_int {f : Value → Value → Sem Value} {o : Bop} {C : Int → Int → Prop} {g : Int → Int → Int} (ho : OpR X f (L2.rI C fun i j => .int (g i j))) (hb : ∀ i j k, binI o i j = some k → C i j ∧ g i j = k) {S : Sto}
    {ρ ρ' : List Addr} {H H' : Hp} {v w : V} {r : R} {Q : VK} {i j : Int} (fu : Fut ρ H ρ' H') (s : Sim ρ' H' S) (rv : PRep H' v (.int i)) (rw' : PRep H' w (.int j)) (h : (binI o i j).map rInt = some r) (k : Post X.K ρ H r S Q) :
    L2.rI C (fun i j => .int (g i j)) v w H' Q := by
  cases rv
  cases rw'
  cases e : binI o i j with
  | none => rw [e] at h; cases h
  | some z =>
    rw [e] at h
    cases h
    obtain ⟨c, e'⟩ := hb i j z e
    refine ⟨i, j, rfl, rfl, c, ?_⟩
    show Q (.int (g i j)) H'
    rw [e']
    exact fin_p fu s k (.int z)

theorem isL_p {x : P} {S : Sto} : isL (.val (.p x)) S = none := rfl
/-- the arms of an operator that takes two ints -/
theorem opok_int {po : PySem.Operator} {o : Bop} {C : Int → Int → Prop} {g : Int → Int → Int} (hm : ∀ x y S r, binR o x y S = some r → ∃ i j, x = .val (.p (.int i)) ∧ y = .val (.p (.int j)) ∧ (binI o i j).map rInt = some r)
    (ho : OpR X (binaryOp po) (L2.rI C fun i j => .int (g i j))) (hb : ∀ i j k, binI o i j = some k → C i j ∧ g i j = k) : OpOk X (binaryOp po) (binR o) := by
  refine ⟨_, ho, fun {ρ ρ' H H' H0 H1 S x y v w r Q} f s rv rw' h k => ?_⟩
  obtain ⟨i, j, rfl, rfl, e⟩ := hm x y S r h
  exact bin_int ho hb f s rv rw' e k
theorem only_int {o : Bop} (ho : o ≠ .add ∧ o ≠ .mul) : ∀ x y S r, binR o x y S = some r → ∃ i j, x = .val (.p (.int i)) ∧ y = .val (.p (.int j)) ∧ (binI o i j).map rInt = some r := by
  intro x y S r h
  unfold binR at h
  obtain ⟨h1, h2⟩ := ho
  split at h
  · exact ⟨_, _, rfl, rfl, h⟩
  all_goals (cases o <;> first | exact absurd rfl h1 | exact absurd rfl h2 | cases h)
theorem op_sub' : OpOk X (binaryOp .Sub) (binR .sub) := opok_int (C := fun _ _ => True) (g := fun i j => i - j) (only_int (by decide)) (by
  intro pins s σ H x y v u Q I rx ry h
  obtain ⟨i, j, e1, e2, _, q⟩ := h
  exact op_sub pins s σ H x y v u Q I rx ry ⟨i, j, e1, e2, q⟩) fun i j k h => by cases h; exact ⟨trivial, rfl⟩
theorem op_fdiv' : OpOk X (binaryOp .FloorDiv) (binR .fdiv) := opok_int (only_int (by decide)) op_fdiv fun i j k h => by
  unfold binI at h
  dsimp only at h
  split at h
  · rename_i q; cases h; exact ⟨q, rfl⟩
  · cases h
theorem op_mod' : OpOk X (binaryOp .Mod) (binR .mod) := opok_int (only_int (by decide)) op_mod fun i j k h => by
  unfold binI at h
  dsimp only at h
  split at h
  · rename_i q; cases h; exact ⟨q, rfl⟩
  · cases h
theorem op_pow' : OpOk X (binaryOp .Pow) (binR .pow) := opok_int (only_int (by decide)) op_pow fun i j k h => by
  unfold binI at h
  dsimp only at h
  split at h
  · rename_i q; cases h; exact ⟨q, rfl⟩
  · cases h
theorem op_xor' : OpOk X (binaryOp .BitXor) (binR .xor) := opok_int (C := fun _ _ => True) (g := fun i j => Builtin.bitXor i j) (only_int (by decide)) (by
  intro pins s σ H x y v u Q I rx ry h
  obtain ⟨i, j, e1, e2, _, q⟩ := h
  exact op_xor pins s σ H x y v u Q I rx ry ⟨i, j, e1, e2, q⟩) fun i j k h => ⟨trivial, xorI_ok h⟩
theorem LINE_eq : LINE = sizeLine := by rw [sizeLine_eq]
theorem op_add' : OpOk X (binaryOp .Add) (binR .add) := by
  refine ⟨_, op_add.or (op_add_str.or (op_catG.or op_cat)), fun {ρ ρ' H H' H0 H1 S x y v w r Q} f s rv rw' h k => ?_⟩
  unfold binR at h
  split at h
  · cases (show PRep H' v (.int _) from rv)
    cases (show PRep H' w (.int _) from rw')
    cases h
    exact .inl ⟨_, _, rfl, rfl, fin_p f s k (.int _)⟩
  · dsimp only at h
    split at h
    · rename_i z
      cases (show PRep H' v (.str _) from rv)
      cases (show PRep H' w (.str _) from rw')
      cases h
      exact .inr (.inl ⟨_, _, rfl, rfl, by rw [← LINE_eq]; exact z, fin_p f s k (.str _)⟩)
    · cases h
  · dsimp only at h
    split at h
    · rename_i z
      cases (show PRep H' v (.tup _) from rv) with
      | tup e1 q1 =>
        cases (show PRep H' w (.tup _) from rw') with
        | tup e2 q2 =>
          cases h
          refine .inr (.inr (.inl ⟨_, _, _, _, rfl, rfl, e1.sq, e2.sq, by rw [q1.length, q2.length, ← LINE_eq]; exact z, fun e => ?_, fun _ e => ?_, fun _ _ => fin_tup f s k (PReps.of (paired_append q1.paired q2.paired))⟩))
          · subst e
            cases q1
            exact fin_p f s k (.tup e2 q2)
          · subst e
            cases q2
            refine fin_p f s k ?_
            rw [List.append_nil]
            exact .tup e1 q1
    · cases h
  · dsimp only at h
    split at h
    · rename_i z
      obtain ⟨z1, z2, z3, z4⟩ := z
      cases (show WRep X.K v (.tup _) from rv) with
      | tup e1 q1 =>
        have q1' : ∀ {xs : List V} {ps : List P}, WReps X.K xs ps → ps.all isScal = true → PReps H' xs ps := by
          intro xs ps
          induction xs generalizing ps with
          | nil => intro q _; cases q; exact .nil
          | cons x xs ih =>
            intro q e
            cases q with
            | cons q1 q2 =>
              rw [List.all_cons, Bool.and_eq_true] at e
              refine .cons ?_ (ih q2 e.2)
              cases q1 with
              | tup _ _ => exact nomatch (show False by simpa [isScal] using e.1)
              | non => exact PRep.non
              | bl b => exact PRep.bl b
              | int i => exact PRep.int i
              | str t => exact PRep.str t
        have q1 := q1' q1 z4
        cases (show PRep H' w (.tup _) from rw') with
        | tup e2 q2 =>
          cases h
          refine .inr (.inr (.inl ⟨_, _, _, _, rfl, rfl, e1 H', e2.sq, by rw [q1.length, q2.length, ← LINE_eq]; exact z1, fun e => ?_, fun _ e => ?_, fun _ _ => fin_tup f s k (PReps.of (paired_append q1.paired q2.paired))⟩))
          · subst e
            cases q1
            exact absurd rfl z2
          · subst e
            cases q2
            exact absurd rfl z3
    · cases h
  · cases h
  · dsimp only at h
    split at h
    · rename_i l1 l2 e1 e2
      split at h
      · rename_i z
        cases h
        obtain ⟨p1, xs, rfl, h1, r1⟩ := isL_ok s rv e1
        obtain ⟨p2, ys, rfl, h2, r2⟩ := isL_ok s rw' e2
        exact .inr (.inr (.inr ⟨p1, p2, xs, ys, rfl, rfl, h1, h2, by rw [Paired.length r1, Paired.length r2, ← LINE_eq]; exact z, fun p n => fin_tl f s k (paired_append r1 r2) n⟩))
      · cases h
    · cases h
theorem paired_rep {α β : Type} {R : α → β → Prop} {xs : List α} {ys : List β} (h : Paired R xs ys) : ∀ n : Nat, Paired R (List.replicate n xs).flatten (List.replicate n ys).flatten
  | 0 => .nil
  | n + 1 => by
    rw [List.replicate_succ, List.replicate_succ, List.flatten_cons, List.flatten_cons]
    exact paired_append h (paired_rep h n)
theorem keyish_iff {l : List P} : keyish l = true ↔ l ≠ [] ∧ ∀ x ∈ l, isKeyP x = true := by
  cases l with
  | nil => simp [keyish]
  | cons x r => simp [keyish]
theorem keyish_rep {x : List P} {k : Nat} (h : keyish x = true) (hk : 0 < k) : keyish (List.replicate k x).flatten = true := by
  rw [keyish_iff] at h ⊢
  refine ⟨fun e => ?_, fun y hy => ?_⟩
  · rw [List.flatten_eq_nil_iff] at e
    exact h.1 (e x (by rw [List.mem_replicate]; exact ⟨by omega, rfl⟩))
  · obtain ⟨l, hl, hy⟩ := List.mem_flatten.mp hy
    rw [(List.mem_replicate.mp hl).2] at hy
    exact h.2 y hy
theorem op_mul' : OpOk X (binaryOp .Mult) (binR .mul) := by
  refine ⟨_, op_mul.or (op_repT.or op_rep), fun {ρ ρ' H H' H0 H1 S x y v w r Q} f s rv rw' h k => ?_⟩
  unfold binR at h
  split at h
  · refine .inl (bin_int (C := CMul) (g := fun i j => i * j) op_mul (fun i j k h => ?_) f s rv rw' h k)
    unfold binI at h
    dsimp only at h
    split at h
    · rename_i q; cases h; exact ⟨q, rfl⟩
    · cases h
  · cases h
  · cases h
  · cases h
  · dsimp only at h
    split at h
    · rename_i z
      obtain ⟨z1, z2, z3, z4, z5⟩ := z
      cases (show PRep H' v (.tup _) from rv) with
      | tup e1 q1 =>
        cases (show PRep H' w (.int _) from rw')
        cases h
        refine .inr (.inl ⟨_, _, _, rfl, rfl, e1.sq, fun e => ?_, z5, z3, by rw [q1.length]; exact z1, fun p n => fin_tupK f s k (keyish_rep z4 (by omega)) (PReps.of (paired_rep q1.paired _)) n⟩)
        subst e
        cases q1
        cases z4
    · cases h
  · dsimp only at h
    split at h
    · rename_i l i e1 e2
      split at h
      · rename_i z
        cases h
        obtain ⟨p1, xs, rfl, h1, r1⟩ := isL_ok s rv e1
        obtain rfl := intR_ok rw' e2
        exact .inr (.inr ⟨p1, i, xs, rfl, rfl, h1, z.2.1, z.2.2, by rw [Paired.length r1, ← LINE_eq]; exact z.1, fun p n => fin_tl f s k (paired_rep r1 _) n⟩)
      · cases h
    · cases h
theorem bin_ok {po : PySem.Operator} {o : Bop} (h : trOp po = some o) : OpOk X (binaryOp po) (binR o) := by
  unfold trOp at h
  split at h <;> first | (cases h; first | exact op_add' | exact op_sub' | exact op_mul' | exact op_fdiv' | exact op_mod' | exact op_pow' | exact op_xor') | cases h
end
end PyI
set_option Elab.async false
set_option linter.all false
set_option maxRecDepth 100000
set_option maxHeartbeats 1000000
/-! PyS3: comparisons. -/
namespace PyI
open PySem PySem.Spec PyProof.Rows L2

mutual
def toPy : P → PyData
  | .non => .none
  | .bl b => .bool b
  | .int i => .int i
  | .str s => .str s
  | .tup l => .tuple (toPys l)
def toPys : List P → List PyData
  | [] => []
  | x :: r => toPy x :: toPys r
end
theorem toPys_map : ∀ l : List P, toPys l = l.map toPy
  | [] => rfl
  | x :: r => by rw [toPys, toPys_map r]; rfl
mutual
theorem toPy_plain : ∀ x : P, (toPy x).plain = true
  | .non => rfl
  | .bl _ => rfl
  | .int _ => rfl
  | .str _ => rfl
  | .tup l => by
    unfold toPy PyData.plain
    exact toPys_plain l
theorem toPys_plain : ∀ l : List P, PyData.plainAll (toPys l) = true
  | [] => rfl
  | x :: r => by
    unfold toPys PyData.plainAll
    rw [toPy_plain x, toPys_plain r]
    rfl
end
mutual
theorem toPy_depth : ∀ x : P, (toPy x).depth = depth x
  | .non => rfl
  | .bl _ => rfl
  | .int _ => rfl
  | .str _ => rfl
  | .tup l => by
    unfold toPy PyData.depth depth
    rw [toPys_depth l]
theorem toPys_depth : ∀ l : List P, PyData.depthAll (toPys l) = depths l
  | [] => rfl
  | x :: r => by
    unfold toPys PyData.depthAll depths
    rw [toPy_depth x, toPys_depth r]
end
mutual
theorem toPy_eq : ∀ x y : P, PyData.eqv (toPy x) (toPy y) = pyEq x y
  | .non, y => by cases y <;> simp [toPy, PyData.eqv, pyEq]
  | .bl _, y => by cases y <;> simp [toPy, PyData.eqv, pyEq]
  | .int _, y => by cases y <;> simp [toPy, PyData.eqv, pyEq]
  | .str _, y => by cases y <;> simp [toPy, PyData.eqv, pyEq]
  | .tup l, y => by
    cases y with
    | tup m =>
      simp only [toPy, PyData.eqv, pyEq]
      exact toPys_eq l m
    | _ => simp [toPy, PyData.eqv, pyEq]
theorem toPys_eq : ∀ l m : List P, PyData.eqvAll (toPys l) (toPys m) = pyEqs l m
  | [], m => by cases m <;> simp [toPys, PyData.eqvAll, pyEqs]
  | x :: r, m => by
    cases m with
    | nil => simp [toPys, PyData.eqvAll, pyEqs]
    | cons y t =>
      simp only [toPys, PyData.eqvAll, pyEqs]
      rw [toPy_eq x y, toPys_eq r t]
end
mutual
theorem toPy_alike : ∀ x y : P, PySem.W.alike (toPy x) (toPy y) = alikeP x y
  | .non, y => by cases y <;> simp [toPy, PySem.W.alike, alikeP]
  | .bl _, y => by cases y <;> simp [toPy, PySem.W.alike, alikeP]
  | .int _, y => by cases y <;> simp [toPy, PySem.W.alike, alikeP]
  | .str _, y => by cases y <;> simp [toPy, PySem.W.alike, alikeP]
  | .tup l, y => by
    cases y with
    | tup m =>
      simp only [toPy, PySem.W.alike, alikeP]
      exact toPys_alike l m
    | _ => simp [toPy, PySem.W.alike, alikeP]
theorem toPys_alike : ∀ l m : List P, PySem.W.alikeAll (toPys l) (toPys m) = alikePs l m
  | [], m => by cases m <;> simp [toPys, PySem.W.alikeAll, alikePs]
  | x :: r, m => by
    cases m with
    | nil => simp [toPys, PySem.W.alikeAll, alikePs]
    | cons y t =>
      simp only [toPys, PySem.W.alikeAll, alikePs]
      rw [toPy_alike x y, toPys_alike r t]
end
mutual
theorem toPy_toks : ∀ x : P, PySem.W.keyToks (toPy x) = toks x
  | .non => by simp [toPy, PySem.W.keyToks, toks]
  | .bl _ => by simp [toPy, PySem.W.keyToks, toks]
  | .int _ => by simp [toPy, PySem.W.keyToks, toks]
  | .str _ => by simp [toPy, PySem.W.keyToks, toks]
  | .tup l => by
    simp only [toPy, PySem.W.keyToks, toks]
    exact toPys_toks l
theorem toPys_toks : ∀ l : List P, PySem.W.keyToksAll (toPys l) = tokss l
  | [] => by simp [toPys, PySem.W.keyToksAll, tokss]
  | x :: r => by
    simp only [toPys, PySem.W.keyToksAll, tokss]
    rw [toPy_toks x, toPys_toks r]
end
theorem signLt_eq (a b : Int ⊕ List Nat) : itemLt a b = signLt a b := by
  cases a <;> cases b <;> first | rfl | (simp [itemLt, signLt]; done) | (simp [itemLt, signLt, strKind])
theorem rowLt_eq : ∀ a b : List (Int ⊕ List Nat), PyProof.Rows.lexLt itemOrd a b = rowLt a b
  | [], [] => rfl
  | [], _ :: _ => rfl
  | _ :: _, [] => rfl
  | x :: r, y :: t => by
    unfold rowLt
    rw [lex_cons]
    show (itemLt x y || (!itemLt y x && PyProof.Rows.lexLt itemOrd r t)) = _
    rw [signLt_eq, signLt_eq, rowLt_eq r t]
theorem toPy_lt (x y : P) : PySem.W.dataLt (toPy x) (toPy y) = ltP x y := by
  unfold PySem.W.dataLt ltP
  rw [rowLt_eq, toPy_toks, toPy_toks]
theorem toPy_non {x : P} (h : isNon x = false) : toPy x ≠ .none := by
  cases x with
  | non => exact nomatch (show False by simp [isNon] at h)
  | _ => intro e; simp [toPy] at e

/-- data, wherever it stands -/
def ARep (K : Fr) (H : Hp) (v : V) (x : P) : Prop := PRep H v x ∨ WRep K v x
def AReps (K : Fr) (H : Hp) : List V → List P → Prop := Paired (ARep K H)
theorem pK_ok {K : Fr} {ρ' : List Addr} {H H' : Hp} {v : V} {a : R} {x : P} (r : RRep K H ρ' H' v a) (h : pK a = some x) : ARep K H' v x := by
  unfold pK at h
  split at h
  · cases h
    exact .inl r
  · cases h
    exact .inr r
  · cases h
theorem ofDs_ok {ρ : List Addr} {H : Hp} : ∀ {vs : List V} {ds : List D} {ps : List P}, DReps ρ H vs ds → ofDs ds = some ps → PReps H vs ps
  | _, _, _, .nil, h => by
    cases h
    exact .nil
  | _, _, ps, .cons (b := d) r t, h => by
    unfold ofDs at h
    cases d with
    | ref k => simp [ofD] at h
    | p x =>
      simp only [ofD] at h
      split at h
      · rename_i xs e1 e2
        cases e1
        cases h
        exact .cons r (ofDs_ok t e2)
      · cases h

section
variable {X : Cx} {pins : List (Addr × Obj)} {σ : L2.St} {H : Hp} {s : Shared}
mutual
theorem PRep.reads (I : Inv X pins σ H s) : ∀ {v : V} {x : P} {u : Value}, PRep H v x → RelV v u → ∃ as, Reads s.heap u (toPy x) as
  | _, _, _, .non, r => by cases r; exact ⟨_, .none⟩
  | _, _, _, .bl b, r => by cases r; exact ⟨_, .bool b⟩
  | _, _, _, .int i, r => by obtain ⟨t, rfl⟩ := r; exact ⟨_, .int i t⟩
  | _, _, _, .str i, r => by obtain ⟨t, rfl⟩ := r; exact ⟨_, .str i t⟩
  | _, _, _, .tup e q, r => by
    cases r
    obtain ⟨its, rv, ⟨o, ho, hc, n, hd⟩, _⟩ := I.tuple e.sq
    obtain ⟨as, hr⟩ := PReps.reads I q rv
    exact ⟨_, Reads.tuple ho hc hd hr⟩
theorem PReps.reads (I : Inv X pins σ H s) : ∀ {vs : List V} {xs : List P} {us : List Value}, PReps H vs xs → Vals vs us → ∃ as, ReadsAll s.heap us (toPys xs) as
  | _, _, _, .nil, r => by cases r; exact ⟨_, .nil⟩
  | _, _, _, .cons a b, r => by
    cases r with
    | cons r1 r2 =>
      obtain ⟨as, h1⟩ := PRep.reads I a r1
      obtain ⟨bs, h2⟩ := PReps.reads I b r2
      exact ⟨_, .cons h1 h2⟩
end
mutual
theorem WRep.reads (I : Inv X pins σ H s) : ∀ {v : V} {x : P} {u : Value}, WRep X.K v x → RelV v u → ∃ as, Reads s.heap u (toPy x) as
  | _, _, _, .non, r => by cases r; exact ⟨_, .none⟩
  | _, _, _, .bl b, r => by cases r; exact ⟨_, .bool b⟩
  | _, _, _, .int i, r => by obtain ⟨t, rfl⟩ := r; exact ⟨_, .int i t⟩
  | _, _, _, .str i, r => by obtain ⟨t, rfl⟩ := r; exact ⟨_, .str i t⟩
  | _, _, _, .tup e q, r => by
    cases r
    obtain ⟨its, rv, ⟨o, ho, hc, n, hd⟩, _⟩ := I.tuple (e H)
    obtain ⟨as, hr⟩ := WReps.reads I q rv
    exact ⟨_, Reads.tuple ho hc hd hr⟩
theorem WReps.reads (I : Inv X pins σ H s) : ∀ {vs : List V} {xs : List P} {us : List Value}, WReps X.K vs xs → Vals vs us → ∃ as, ReadsAll s.heap us (toPys xs) as
  | _, _, _, .nil, r => by cases r; exact ⟨_, .nil⟩
  | _, _, _, .cons a b, r => by
    cases r with
    | cons r1 r2 =>
      obtain ⟨as, h1⟩ := WRep.reads I a r1
      obtain ⟨bs, h2⟩ := WReps.reads I b r2
      exact ⟨_, .cons h1 h2⟩
end
theorem ARep.reads (I : Inv X pins σ H s) {v : V} {x : P} {u : Value} (h : ARep X.K H v x) (r : RelV v u) : ∃ as, Reads s.heap u (toPy x) as := by
  rcases h with h | h
  · exact PRep.reads I h r
  · exact WRep.reads I h r
theorem list_reads (I : Inv X pins σ H s) {a : Addr} {vs : List V} {xs : List P} (h : SqL X.K H a vs) (q : PReps H vs xs) : ∃ its as, s.heap.IsList a its ∧ ReadsAll s.heap its.toList (toPys xs) as ∧ Reads s.heap (.ref a) (.list (toPys xs)) (a :: as) ∧ vs.length ≤ sizeLine := by
  obtain ⟨its, rv, pl, hz⟩ := I.list h
  obtain ⟨as, hr⟩ := PReps.reads I q rv
  obtain ⟨o, n, ho, hc, hdi, hd⟩ := id pl
  exact ⟨its.toArray, as, pl.isList, hr, Reads.list ho hc hd hr, hz⟩
theorem AReps.reads (I : Inv X pins σ H s) : ∀ {vs : List V} {xs : List P} {us : List Value}, AReps X.K H vs xs → Vals vs us → ∃ as, ReadsAll s.heap us (toPys xs) as
  | _, _, _, .nil, r => by cases r; exact ⟨_, .nil⟩
  | _, _, _, .cons a b, r => by
    cases r with
    | cons r1 r2 =>
      obtain ⟨as, h1⟩ := ARep.reads I a r1
      obtain ⟨bs, h2⟩ := AReps.reads I b r2
      exact ⟨_, .cons h1 h2⟩
theorem seq_reads (I : Inv X pins σ H s) {a : Addr} {vs : List V} {xs : List P} (h : SqL X.K H a vs ∨ SqT X.K H a vs) (q : AReps X.K H vs xs) :
    (∃ its as, s.heap.IsList a its ∧ ReadsAll s.heap its.toList (toPys xs) as ∧ Reads s.heap (.ref a) (.list (toPys xs)) (a :: as)) ∨ ∃ its as, s.heap.IsTuple a its ∧ ReadsAll s.heap its.toList (toPys xs) as ∧ Reads s.heap (.ref a) (.tuple (toPys xs)) as := by
  rcases h with h | h
  · obtain ⟨its, rv, pl, hz⟩ := I.list h
    obtain ⟨as, hr⟩ := AReps.reads I q rv
    obtain ⟨o, n, ho, hc, hdi, hd⟩ := id pl
    exact .inl ⟨its.toArray, as, pl.isList, hr, Reads.list ho hc hd hr⟩
  · obtain ⟨its, rv, pl, hz⟩ := I.tuple h
    obtain ⟨as, hr⟩ := AReps.reads I q rv
    obtain ⟨o, ho, hc, n, hd⟩ := id pl
    exact .inr ⟨its.toArray, as, pl, hr, Reads.tuple ho hc hd hr⟩
end
theorem PReps.a {K : Fr} {H : Hp} {vs : List V} {xs : List P} (h : PReps H vs xs) : AReps K H vs xs := paired_mono (fun _ _ q => .inl q) h.paired
theorem WReps.a {K : Fr} {H : Hp} : ∀ {vs : List V} {xs : List P}, WReps K vs xs → AReps K H vs xs
  | _, _, .nil => .nil
  | _, _, .cons a b => .cons (.inr a) (WReps.a b)

/-! ### the operators on data -/
def rD (K : Fr) (c : P → P → Prop) (g : P → P → Bool) : R2 := fun x y H Q => ∃ p q, ARep K H x p ∧ ARep K H y q ∧ c p q ∧ Q (.bl (g p q)) H
def rLL (K : Fr) (c : List P → List P → Prop) (g : List P → List P → Bool) : R2 := fun x y H Q => ∃ a b xs ys p q, x = .ref a ∧ y = .ref b ∧ SqL K H a xs ∧ SqL K H b ys ∧ PReps H xs p ∧ PReps H ys q ∧ c p q ∧ Q (.bl (g p q)) H
section
variable {X : Cx}
theorem room60 {n : Nat} (hu : X.A.units + 64 < cLine) (h : n ≤ 60) : X.A.units + n < cLine := by omega
theorem op_eqP (hu : X.A.units + 64 < cLine) : OpR X (compareOp .Eq) (rD X.K (fun p q => min (depth p) (depth q) ≤ 60) pyEq) := by
  intro pins s σ H x y v u Q I rx ry ⟨p, q, hp, hq, c, k⟩
  obtain ⟨as, r1⟩ := hp.reads I rx
  obtain ⟨bs, r2⟩ := hq.reads I ry
  exact SeqAt.eq_plain r1 r2 (toPy_plain p) (toPy_plain q) (by rw [toPy_depth, toPy_depth]; exact room60 hu c) ⟨.bl _, H, I, rfl, by rw [toPy_eq]; exact k⟩
theorem op_neP (hu : X.A.units + 64 < cLine) : OpR X (compareOp .NotEq) (rD X.K (fun p q => min (depth p) (depth q) ≤ 60) fun p q => !pyEq p q) := by
  intro pins s σ H x y v u Q I rx ry ⟨p, q, hp, hq, c, k⟩
  obtain ⟨as, r1⟩ := hp.reads I rx
  obtain ⟨bs, r2⟩ := hq.reads I ry
  exact SeqAt.ne_plain r1 r2 (toPy_plain p) (toPy_plain q) (by rw [toPy_depth, toPy_depth]; exact room60 hu c) ⟨.bl _, H, I, rfl, by rw [toPy_eq]; exact k⟩
theorem op_eqL (hu : X.A.units + 64 < cLine) : OpR X (compareOp .Eq) (rLL X.K (fun p q => min (depths p) (depths q) ≤ 60) pyEqs) := by
  intro pins s σ H x y v u Q I rx ry ⟨a, b, xs, ys, p, q, e1, e2, ha, hb, hp, hq, c, k⟩
  subst e1 e2
  cases rx
  cases ry
  obtain ⟨_, as, _, _, r1, _⟩ := list_reads I ha hp
  obtain ⟨_, bs, _, _, r2, _⟩ := list_reads I hb hq
  refine SeqAt.eq_plain r1 r2 (toPys_plain p) (toPys_plain q) ?_ ⟨.bl _, H, I, rfl, ?_⟩
  · show X.A.units + min (PyData.depthAll (toPys p) + 1) (PyData.depthAll (toPys q) + 1) < cLine
    rw [toPys_depth, toPys_depth]
    omega
  · show Q (.bl (PyData.eqvAll (toPys p) (toPys q))) H
    rw [toPys_eq]
    exact k
theorem op_neL (hu : X.A.units + 64 < cLine) : OpR X (compareOp .NotEq) (rLL X.K (fun p q => min (depths p) (depths q) ≤ 60) fun p q => !pyEqs p q) := by
  intro pins s σ H x y v u Q I rx ry ⟨a, b, xs, ys, p, q, e1, e2, ha, hb, hp, hq, c, k⟩
  subst e1 e2
  cases rx
  cases ry
  obtain ⟨_, as, _, _, r1, _⟩ := list_reads I ha hp
  obtain ⟨_, bs, _, _, r2, _⟩ := list_reads I hb hq
  refine SeqAt.ne_plain r1 r2 (toPys_plain p) (toPys_plain q) ?_ ⟨.bl _, H, I, rfl, ?_⟩
  · show X.A.units + min (PyData.depthAll (toPys p) + 1) (PyData.depthAll (toPys q) + 1) < cLine
    rw [toPys_depth, toPys_depth]
    omega
  · show Q (.bl (!PyData.eqvAll (toPys p) (toPys q))) H
    rw [toPys_eq]
    exact k
def cLt (p q : P) : Prop := alikeP p q = true ∧ isNon p = false ∧ min (depth p) (depth q) ≤ 60
theorem canLt_ok {p q : P} (h : canLt p q = true) : cLt p q := by
  unfold canLt at h
  simp only [Bool.and_eq_true, Bool.not_eq_true', decide_eq_true_eq] at h
  exact ⟨h.1.1, h.1.2, h.2⟩
theorem op_ltP (hu : X.A.units + 64 < cLine) : OpR X (compareOp .Lt) (rD X.K cLt fun x y => ltP x y) := by
  intro pins s σ H x y v u Q I rx ry ⟨p, q, hp, hq, ⟨c1, c2, c3⟩, k⟩
  obtain ⟨as, r1⟩ := hp.reads I rx
  obtain ⟨bs, r2⟩ := hq.reads I ry
  exact PySem.W.lt_data r1 r2 (by rw [toPy_alike]; exact c1) (toPy_non c2) (by rw [toPy_depth, toPy_depth]; exact room60 hu c3) ⟨.bl _, H, I, rfl, by rw [toPy_lt]; exact k⟩
theorem op_gtP (hu : X.A.units + 64 < cLine) : OpR X (compareOp .Gt) (rD X.K cLt fun x y => ltP y x) := by
  intro pins s σ H x y v u Q I rx ry ⟨p, q, hp, hq, ⟨c1, c2, c3⟩, k⟩
  obtain ⟨as, r1⟩ := hp.reads I rx
  obtain ⟨bs, r2⟩ := hq.reads I ry
  exact PySem.W.gt_data r1 r2 (by rw [toPy_alike]; exact c1) (toPy_non c2) (by rw [toPy_depth, toPy_depth]; exact room60 hu c3) ⟨.bl _, H, I, rfl, by rw [toPy_lt]; exact k⟩
theorem op_leP (hu : X.A.units + 64 < cLine) : OpR X (compareOp .LtE) (rD X.K cLt fun x y => !ltP y x) := by
  intro pins s σ H x y v u Q I rx ry ⟨p, q, hp, hq, ⟨c1, c2, c3⟩, k⟩
  obtain ⟨as, r1⟩ := hp.reads I rx
  obtain ⟨bs, r2⟩ := hq.reads I ry
  exact PySem.W.le_data r1 r2 (by rw [toPy_alike]; exact c1) (toPy_non c2) (by rw [toPy_depth, toPy_depth]; exact room60 hu c3) ⟨.bl _, H, I, rfl, by rw [toPy_lt]; exact k⟩
theorem op_geP (hu : X.A.units + 64 < cLine) : OpR X (compareOp .GtE) (rD X.K cLt fun x y => !ltP x y) := by
  intro pins s σ H x y v u Q I rx ry ⟨p, q, hp, hq, ⟨c1, c2, c3⟩, k⟩
  obtain ⟨as, r1⟩ := hp.reads I rx
  obtain ⟨bs, r2⟩ := hq.reads I ry
  exact PySem.W.ge_data r1 r2 (by rw [toPy_alike]; exact c1) (toPy_non c2) (by rw [toPy_depth, toPy_depth]; exact room60 hu c3) ⟨.bl _, H, I, rfl, by rw [toPy_lt]; exact k⟩

/-- a comparison of two values -/
def CmOk (X : Cx) (f : Value → Value → Sem Value) (g : R → R → Sto → Option Bool) : Prop := OpOk X f fun x y S => (g x y S).map rBool
theorem fin_b {ρ ρ' : List Addr} {H H' : Hp} {S : Sto} {Q : VK} {b : Bool} {r : R} (f : Fut ρ H ρ' H') (s : Sim ρ' H' S) (k : Post X.K ρ H r S Q) (h : (some b).map rBool = some r) : Q (.bl b) H' := by
  cases h
  exact fin_p f s k (.bl b)
theorem eqR_ok {K : Fr} {ρ' : List Addr} {H H0 H' : Hp} {S : Sto} {a b : R} {v w : V} {c : Bool} (s : Sim ρ' H' S) (ra : RRep K H ρ' H' v a) (rb : RRep K H0 ρ' H' w b) (h : eqR a b S = some c) :
    (∃ p q, ARep K H' v p ∧ ARep K H' w q ∧ min (depth p) (depth q) ≤ 60 ∧ c = pyEq p q) ∨
    ∃ x y xs ys p q, v = .ref x ∧ w = .ref y ∧ SqL K H' x xs ∧ SqL K H' y ys ∧ PReps H' xs p ∧ PReps H' ys q ∧ min (depths p) (depths q) ≤ 60 ∧ c = pyEqs p q := by
  unfold eqR at h
  split at h
  · rename_i p q e1 e2
    split at h
    · rename_i z
      cases h
      exact .inl ⟨p, q, pK_ok ra e1, pK_ok rb e2, z, rfl⟩
    · cases h
  · split at h
    · rename_i l1 l2 e1 e2
      split at h
      · rename_i p q e3 e4
        split at h
        · rename_i z
          cases h
          obtain ⟨x, xs, rfl, h1, r1⟩ := isL_ok s ra e1
          obtain ⟨y, ys, rfl, h2, r2⟩ := isL_ok s rb e2
          exact .inr ⟨x, y, xs, ys, p, q, rfl, rfl, .of h1, .of h2, ofDs_ok r1 e3, ofDs_ok r2 e4, z, rfl⟩
        · cases h
      · cases h
    · cases h
theorem cm_eq (hu : X.A.units + 64 < cLine) : CmOk X (compareOp .Eq) eqR := by
  refine ⟨_, (op_eqP hu).or (op_eqL hu), fun {ρ ρ' H H' H0 H1 S x y v w r Q} f s rv rw' h k => ?_⟩
  dsimp only at h
  cases e : eqR x y S with
  | none => rw [e] at h; cases h
  | some c =>
    rw [e] at h
    rcases eqR_ok s rv rw' e with ⟨p, q, h1, h2, h3, rfl⟩ | ⟨a, b, xs, ys, p, q, e1, e2, h1, h2, h3, h4, h5, rfl⟩
    · exact .inl ⟨p, q, h1, h2, h3, fin_b f s k h⟩
    · exact .inr ⟨a, b, xs, ys, p, q, e1, e2, h1, h2, h3, h4, h5, fin_b f s k h⟩
theorem cm_ne (hu : X.A.units + 64 < cLine) : CmOk X (compareOp .NotEq) fun x y S => (eqR x y S).map (!·) := by
  refine ⟨_, (op_neP hu).or (op_neL hu), fun {ρ ρ' H H' H0 H1 S x y v w r Q} f s rv rw' h k => ?_⟩
  dsimp only at h
  cases e : eqR x y S with
  | none => rw [e] at h; cases h
  | some c =>
    rw [e] at h
    rcases eqR_ok s rv rw' e with ⟨p, q, h1, h2, h3, rfl⟩ | ⟨a, b, xs, ys, p, q, e1, e2, h1, h2, h3, h4, h5, rfl⟩
    · exact .inl ⟨p, q, h1, h2, h3, fin_b f s k h⟩
    · exact .inr ⟨a, b, xs, ys, p, q, e1, e2, h1, h2, h3, h4, h5, fin_b f s k h⟩
theorem cm_ord {f : Value → Value → Sem Value} {g : P → P → Bool} (ho : OpR X f (rD X.K cLt g)) : CmOk X f fun x y _ => ltR g x y := by
  refine ⟨_, ho, fun {ρ ρ' H H' H0 H1 S x y v w r Q} f s rv rw' h k => ?_⟩
  dsimp only at h
  unfold ltR at h
  split at h
  · rename_i p q e1 e2
    split at h
    · rename_i z
      exact ⟨p, q, pK_ok rv e1, pK_ok rw' e2, canLt_ok z, fin_b f s k h⟩
    · cases h
  · cases h
theorem isR_ok {K : Fr} {ρ' : List Addr} {H H0 H' : Hp} {a b : R} {v w : V} {c : Bool} (ra : RRep K H ρ' H' v a) (rb : RRep K H0 ρ' H' w b) (h : isR a b = some c) :
    (w = .non ∧ c = decide (v = .non)) ∨ ∃ x y, v = .bl x ∧ w = .bl y ∧ c = decide (x = y) := by
  unfold isR at h
  split at h
  · cases h
    cases (show PRep H' w .non from rb)
    cases (show PRep H' v .non from ra)
    exact .inl ⟨rfl, rfl⟩
  · rename_i d hd
    cases h
    cases (show PRep H' w .non from rb)
    refine .inl ⟨rfl, (decide_eq_false fun e => ?_).symm⟩
    subst e
    cases d with
    | p x =>
      cases (show PRep H' .non x from ra)
      exact hd rfl
    | ref k =>
      obtain ⟨a, _, e⟩ := ra
      cases e
  · cases h
    cases (show PRep H' w .non from rb)
    obtain ⟨p, xs, e, _⟩ := ra
    subst e
    exact .inl ⟨rfl, rfl⟩
  · cases h
    cases (show PRep H' v (.bl _) from ra)
    cases (show PRep H' w (.bl _) from rb)
    refine .inr ⟨_, _, rfl, rfl, ?_⟩
    rw [Bool.beq_eq_decide_eq]
  · cases h
theorem cm_is : CmOk X (compareOp .Is) fun x y _ => isR x y := by
  refine ⟨_, op_isN.or op_isBl, fun {ρ ρ' H H' H0 H1 S x y v w r Q} f s rv rw' h k => ?_⟩
  dsimp only at h
  cases e : isR x y with
  | none => rw [e] at h; cases h
  | some c =>
    rw [e] at h
    rcases isR_ok rv rw' e with ⟨e1, rfl⟩ | ⟨a, b, e1, e2, rfl⟩
    · exact .inl ⟨e1, fin_b f s k h⟩
    · exact .inr ⟨a, b, e1, e2, fin_b f s k h⟩
theorem cm_isn : CmOk X (compareOp .IsNot) fun x y _ => (isR x y).map (!·) := by
  refine ⟨_, op_notN.or op_notBl, fun {ρ ρ' H H' H0 H1 S x y v w r Q} f s rv rw' h k => ?_⟩
  dsimp only at h
  cases e : isR x y with
  | none => rw [e] at h; cases h
  | some c =>
    rw [e] at h
    rcases isR_ok rv rw' e with ⟨e1, rfl⟩ | ⟨a, b, e1, e2, rfl⟩
    · exact .inl ⟨e1, fin_b f s k h⟩
    · exact .inr ⟨a, b, e1, e2, fin_b f s k h⟩
end
end PyI
set_option Elab.async false
set_option linter.all false
set_option maxRecDepth 100000
set_option maxHeartbeats 1000000
/-! PyS4: dicts asked, membership. -/
namespace PyI
open PySem PySem.Spec PyProof.Rows L2
section
variable {X : Cx} {pins : List (Addr × Obj)} {σ : L2.St} {H : Hp} {s : Shared} {a : Addr}
/-- an empty dict is one of either kind -/
theorem Inv.toT (I : Inv X pins σ H s) (h : H a = some (.dK [])) : Inv X pins σ (upd H a (.dT [])) s := by
  obtain ⟨z, hS, vs, r, o, es, ep, ho, hx, hd, _, hp, _⟩ := (show ObjOk X.prog X.w H s.heap a (.dK []) from I.hok a _ h)
  cases r
  have he : es.toList = [] := List.eq_nil_of_length_eq_zero hp.length
  exact I.write (x := a) (e := a) (h' := s.heap) (t' := s.toks) (by rw [h]; trivial) (.inl rfl) (fun _ _ _ q => q) ⟨_, ho⟩ ⟨z, hS, [], .nil, o, es, ep, ho, hx, hd, he, List.nodup_nil⟩
theorem Inv.toK (I : Inv X pins σ H s) (h : H a = some (.dT [])) : Inv X pins σ (upd H a (.dK [])) s := by
  obtain ⟨z, hS, vs, r, o, es, ep, ho, hx, hd, he, _⟩ := (show ObjOk X.prog X.w H s.heap a (.dT []) from I.hok a _ h)
  cases r
  have he' : es.toList = [] := he
  have e0 : es = #[] := by simpa using he'
  subst e0
  exact I.write (x := a) (e := a) (h' := s.heap) (t' := s.toks) (by rw [h]; trivial) (.inl rfl) (fun _ _ _ q => q) ⟨_, ho⟩ ⟨z, hS, [], .nil, o, #[], ep, ho, hx, hd, ⟨fun e m => (Array.not_mem_empty e m).elim, Pairs.nil, List.nodup_nil⟩⟩
theorem upd_self {H : Hp} {a : Addr} {o : HO} (h : H a = some o) : upd H a o = H := by
  funext b
  unfold upd
  split
  · rename_i e
    rw [e, h]
  · rfl
end
/-- what a dict of the store holds -/
def rGet (H : Hp) (a : Addr) (y : V) (r : Option V) : Prop := DGet H a y r ∨ (H a = some (.dK []) ∧ r = none ∧ ∃ (k : List Key) (b : Addr), y = .ref b ∧ H b = some (.tup (k.map kV)))
section
variable {X : Cx} {pins : List (Addr × Obj)} {σ : L2.St} {H : Hp} {s : Shared} {a : Addr} {A : Around} {E : Value → Shared → Prop} {y : V} {u : Value} {o : Option V}
theorem rGet_t {k : List Key} {b : Addr} (h : H a = some (.dK [])) (hb : H b = some (.tup (k.map kV))) : DGet (upd H a (.dT [])) a (.ref b) none := by
  refine .inr ⟨[], k, b, .inl upd_same, rfl, ?_, rfl⟩
  rw [upd_ne (ne_of hb h (fun z => nomatch z))]
  exact hb
theorem r_in {Q : Value → Shared → Prop} (hu : A.units + 1 < cLine) (I : Inv X pins σ H s) (g : rGet H a y o) (ry : RelV y u) (h : ∀ s', Inv X pins σ H s' → Q (.bool o.isSome) s') : wpAny (model X.prog X.w) A (compareOp .In u (.ref a)) Q E s := by
  rcases g with g | ⟨h0, rfl, k, b, rfl, hb⟩
  · exact d_in hu I g ry h
  · refine d_in hu (Inv.toT I h0) (rGet_t h0 hb) ry fun s' I' => h s' ?_
    have z := Inv.toK I' upd_same
    rw [upd_upd, upd_self h0] at z
    exact z
theorem r_notIn {Q : Value → Shared → Prop} (hu : A.units + 1 < cLine) (I : Inv X pins σ H s) (g : rGet H a y o) (ry : RelV y u) (h : ∀ s', Inv X pins σ H s' → Q (.bool (!o.isSome)) s') : wpAny (model X.prog X.w) A (compareOp .NotIn u (.ref a)) Q E s := by
  rcases g with g | ⟨h0, rfl, k, b, rfl, hb⟩
  · exact d_notIn hu I g ry h
  · refine d_notIn hu (Inv.toT I h0) (rGet_t h0 hb) ry fun s' I' => h s' ?_
    have z := Inv.toK I' upd_same
    rw [upd_upd, upd_self h0] at z
    exact z
end

/-! ### keys -/
theorem toKey_ok {H : Hp} {v : V} {x : P} {k : Key} (r : PRep H v x) (h : toKey x = some k) : v = kV k := by
  cases r <;> first | (cases h; rfl) | cases h
theorem toKeys_ok {H : Hp} : ∀ {vs : List V} {xs : List P} {ks : List Key}, PReps H vs xs → toKeys xs = some ks → vs = ks.map kV
  | _, _, _, .nil, h => by cases h; rfl
  | _, _, ks, .cons r t, h => by
    unfold toKeys at h
    split at h
    · rename_i k ks' e1 e2
      cases h
      rw [toKey_ok r e1, toKeys_ok t e2]
      rfl
    · cases h
theorem toKeys_keyish : ∀ {xs : List P} {ks : List Key}, toKeys xs = some ks → ∀ x ∈ xs, isKeyP x = true
  | [], _, _ => fun _ h => nomatch h
  | x :: r, ks, h => by
    unfold toKeys at h
    split at h
    · rename_i k ks' e1 e2
      intro y hy
      rcases List.mem_cons.mp hy with rfl | hy
      · cases y <;> first | rfl | cases e1
      · exact toKeys_keyish e2 y hy
    · cases h
theorem toKeyT_ok {H : Hp} {v : V} {x : P} {k : List Key} (r : PRep H v x) (h : toKeyT x = some k) : ∃ b, v = .ref b ∧ H b = some (.tup (k.map kV)) := by
  cases r with
  | tup e q =>
    unfold toKeyT at h
    split at h
    · rename_i x r e'
      cases e'
      have e := e.key (keyish_iff.mpr ⟨fun z => (by cases z), toKeys_keyish h⟩)
      rw [toKeys_ok q h] at e
      exact ⟨_, rfl, e⟩
    · cases h
  | _ => cases h
theorem look_ok {κ : Type} [DecidableEq κ] {ρ : List Addr} {H : Hp} : ∀ {ks : List (κ × V)} {kvs : List (κ × D)} (k : κ), KReps ρ H ks kvs → (∀ d, look kvs k = some d → ∃ v, valV ks k = some v ∧ DRep ρ H v d) ∧ (look kvs k = none → valV ks k = none)
  | _, _, k, .nil => ⟨fun d h => by simp [look] at h, fun _ => rfl⟩
  | p :: ks, q :: kvs, k, .cons r t => by
    have ih := look_ok k t
    by_cases e : p.1 = k
    · have e' : q.1 = k := r.1.symm.trans e
      have hl : look (q :: kvs) k = some q.2 := by simp [look, List.find?_cons, e']
      rw [hl, valV_pos e]
      exact ⟨fun d h => by cases h; exact ⟨_, rfl, r.2⟩, fun h => by cases h⟩
    · have e' : ¬ q.1 = k := fun z => e (r.1.trans z)
      have hl : look (q :: kvs) k = look kvs k := by simp [look, List.find?_cons, e']
      rw [hl, valV_neg e]
      exact ih
theorem look_some {κ : Type} [DecidableEq κ] {ρ : List Addr} {H : Hp} {ks : List (κ × V)} {kvs : List (κ × D)} (k : κ) (r : KReps ρ H ks kvs) : (valV ks k).isSome = (look kvs k).isSome := by
  obtain ⟨h1, h2⟩ := look_ok k r
  cases e : look kvs k with
  | none =>
    rw [h2 e]
    rfl
  | some d =>
    obtain ⟨v, q, _⟩ := h1 d e
    rw [q]
    rfl

section
variable {X : Cx}
def rInD (neg : Bool) : R2 := fun x y H Q => ∃ a o, y = .ref a ∧ rGet H a x o ∧ Q (.bl (if neg then !o.isSome else o.isSome)) H
theorem op_inD (hu : X.A.units + 1 < cLine) : OpR X (compareOp .In) (rInD false) := by
  intro pins s σ H x y v u Q I rx ry ⟨a, o, e, g, k⟩
  subst e
  cases ry
  exact r_in hu I g rx fun s' I' => ⟨.bl _, H, I', rfl, k⟩
theorem op_ninD (hu : X.A.units + 1 < cLine) : OpR X (compareOp .NotIn) (rInD true) := by
  intro pins s σ H x y v u Q I rx ry ⟨a, o, e, g, k⟩
  subst e
  cases ry
  exact r_notIn hu I g rx fun s' I' => ⟨.bl _, H, I', rfl, k⟩
def rInS (K : Fr) (neg : Bool) : R2 := fun x y H Q => ∃ a vs p ps, y = .ref a ∧ (SqL K H a vs ∨ SqT K H a vs) ∧ AReps K H vs ps ∧ ARep K H x p ∧ depth p ≤ 60 ∧ Q (.bl (if neg then !(ps.any fun z => pyEq z p) else ps.any fun z => pyEq z p)) H
theorem any_toPy (p : P) : ∀ ps : List P, ((toPys ps).any fun z => PyData.eqv z (toPy p)) = ps.any fun z => pyEq z p
  | [] => rfl
  | x :: r => by
    unfold toPys
    rw [List.any_cons, List.any_cons, toPy_eq, any_toPy p r]
theorem op_inS (hu : X.A.units + 64 < cLine) : OpR X (compareOp .In) (rInS X.K false) := by
  intro pins s σ H x y v u Q I rx ry ⟨a, vs, p, ps, e, hs, q, hp, hd, k⟩
  subst e
  cases ry
  obtain ⟨bs, r2⟩ := hp.reads I rx
  have hr : X.A.units + 1 + min (PyData.depthAll (toPys ps)) (toPy p).depth < cLine := by
    have : (toPy p).depth ≤ 60 := by rw [toPy_depth]; exact hd
    omega
  rcases seq_reads I hs q with ⟨its, as, _, _, r1⟩ | ⟨its, as, _, _, r1⟩
  · exact SeqAt.in_list_data r1 r2 (toPys_plain ps) (toPy_plain p) hr ⟨.bl _, H, I, rfl, by rw [any_toPy]; exact k⟩
  · exact SeqAt.in_tuple_data r1 r2 (toPys_plain ps) (toPy_plain p) hr ⟨.bl _, H, I, rfl, by rw [any_toPy]; exact k⟩
theorem op_ninS (hu : X.A.units + 64 < cLine) : OpR X (compareOp .NotIn) (rInS X.K true) := by
  intro pins s σ H x y v u Q I rx ry ⟨a, vs, p, ps, e, hs, q, hp, hd, k⟩
  subst e
  cases ry
  obtain ⟨bs, r2⟩ := hp.reads I rx
  have hr : X.A.units + 1 + min (PyData.depthAll (toPys ps)) (toPy p).depth < cLine := by
    have : (toPy p).depth ≤ 60 := by rw [toPy_depth]; exact hd
    omega
  rcases seq_reads I hs q with ⟨its, as, _, _, r1⟩ | ⟨its, as, _, _, r1⟩
  · exact SeqAt.notIn_list_data r1 r2 (toPys_plain ps) (toPy_plain p) hr ⟨.bl _, H, I, rfl, by rw [any_toPy]; exact k⟩
  · exact SeqAt.notIn_tuple_data r1 r2 (toPys_plain ps) (toPy_plain p) hr ⟨.bl _, H, I, rfl, by rw [any_toPy]; exact k⟩
end
section
variable {K : Fr} {ρ ρ' : List Addr} {H H' : Hp} {S : Sto} {v w : V}
theorem objR_ok {a : R} {o : O} (s : Sim ρ' H' S) (r : RRep K H ρ' H' v a) (h : objR a S = some o) : ∃ p, v = .ref p ∧ ORep ρ' H' p o ∧ p ∈ ρ' := by
  unfold objR at h
  split at h
  · obtain ⟨p, e1, e2⟩ := r
    exact ⟨p, e2, s.obj _ _ _ e1 h, List.mem_of_getElem? e1⟩
  · cases h
/-- the items of a list or a tuple of data -/
theorem seqP_ok {a : R} {ps : List P} (s : Sim ρ' H' S) (r : RRep K H ρ' H' v a) (h : (seqR a S).bind ofDs = some ps) : ∃ p xs, v = .ref p ∧ (SqL K H' p xs ∨ SqT K H' p xs) ∧ AReps K H' xs ps := by
  cases e : seqR a S with
  | none => rw [e] at h; cases h
  | some l =>
    rw [e] at h
    obtain ⟨p, xs, h1, h2, _, h3⟩ := seqR_ok s r e
    exact ⟨p, xs, h1, h2, (ofDs_ok h3 h).a⟩
theorem inR_ok {H0 : Hp} {a b : R} {c : Bool} (s : Sim ρ' H' S) (ra : RRep K H ρ' H' v a) (rb : RRep K H0 ρ' H' w b) (h : inR a b S = some c) :
    (∃ p o, w = .ref p ∧ rGet H' p v o ∧ c = o.isSome) ∨ ∃ p vs x ps, w = .ref p ∧ (SqL K H' p vs ∨ SqT K H' p vs) ∧ AReps K H' vs ps ∧ ARep K H' v x ∧ depth x ≤ 60 ∧ c = ps.any fun z => pyEq z x := by
  unfold inR at h
  split at h
  · rename_i kvs e
    obtain ⟨p, rfl, ⟨ks, hk, rk⟩, _⟩ := objR_ok s rb e
    split at h
    · rename_i x ex
      have px := pR_ok ra ex
      split at h
      · rename_i k ek
        cases h
        refine .inl ⟨p, _, rfl, .inl (.inl ⟨ks, k, .inl hk, toKey_ok px ek, rfl⟩), (look_some k rk).symm⟩
      · split at h
        · rename_i ee
          have : kvs = [] := by simpa using ee
          subst this
          cases rk
          split at h
          · rename_i k ek
            cases h
            obtain ⟨b, rfl, hb⟩ := toKeyT_ok px ek
            exact .inl ⟨p, none, rfl, .inr ⟨hk, rfl, k, b, rfl, hb⟩, rfl⟩
          · cases h
        · cases h
    · cases h
  · rename_i kvs e
    obtain ⟨p, rfl, ⟨ks, hk, rk⟩, _⟩ := objR_ok s rb e
    split at h
    · rename_i x ex
      have px := pR_ok ra ex
      split at h
      · rename_i k ek
        cases h
        obtain ⟨b, rfl, hb⟩ := toKeyT_ok px ek
        exact .inl ⟨p, _, rfl, .inl (.inr ⟨ks, k, b, .inl hk, rfl, hb, rfl⟩), (look_some k rk).symm⟩
      · cases h
    · cases h
  · split at h
    · rename_i x xs ex exs
      split at h
      · rename_i hd
        cases h
        obtain ⟨p, vs, h1, h2, h3⟩ := seqP_ok s rb exs
        exact .inr ⟨p, vs, x, xs, h1, h2, h3, pK_ok ra ex, hd, rfl⟩
      · cases h
    · cases h
end
section
variable {X : Cx}
theorem cm_in (hu : X.A.units + 64 < cLine) : CmOk X (compareOp .In) inR := by
  refine ⟨_, (op_inD (by omega)).or (op_inS hu), fun {ρ ρ' H H' H0 H1 S x y v w r Q} f s rv rw' h k => ?_⟩
  dsimp only at h
  cases e : inR x y S with
  | none => rw [e] at h; cases h
  | some c =>
    rw [e] at h
    rcases inR_ok s rv rw' e with ⟨p, o, e1, g, rfl⟩ | ⟨p, vs, x, ps, e1, h1, h2, h3, h4, rfl⟩
    · exact .inl ⟨p, o, e1, g, fin_b f s k h⟩
    · exact .inr ⟨p, vs, x, ps, e1, h1, h2, h3, h4, fin_b f s k h⟩
theorem cm_nin (hu : X.A.units + 64 < cLine) : CmOk X (compareOp .NotIn) fun x y S => (inR x y S).map (!·) := by
  refine ⟨_, (op_ninD (by omega)).or (op_ninS hu), fun {ρ ρ' H H' H0 H1 S x y v w r Q} f s rv rw' h k => ?_⟩
  dsimp only at h
  cases e : inR x y S with
  | none => rw [e] at h; cases h
  | some c =>
    rw [e] at h
    rcases inR_ok s rv rw' e with ⟨p, o, e1, g, rfl⟩ | ⟨p, vs, x, ps, e1, h1, h2, h3, h4, rfl⟩
    · exact .inl ⟨p, o, e1, g, fin_b f s k h⟩
    · exact .inr ⟨p, vs, x, ps, e1, h1, h2, h3, h4, fin_b f s k h⟩
theorem cm_ok (hu : X.A.units + 64 < cLine) {po : PySem.CmpOp} {o : Cop} (h : trCmp po = some o) : CmOk X (compareOp po) (cmpR o) := by
  unfold trCmp at h
  split at h <;> cases h
  · exact cm_eq hu
  · exact cm_ne hu
  · exact cm_ord (op_ltP hu)
  · exact cm_ord (op_leP hu)
  · exact cm_ord (op_gtP hu)
  · exact cm_ord (op_geP hu)
  · exact cm_is
  · exact cm_isn
  · exact cm_in hu
  · exact cm_nin hu
end
end PyI
set_option Elab.async false
set_option linter.all false
set_option maxRecDepth 100000
set_option maxHeartbeats 1000000
/-! PyS5: built-ins of one argument. -/
namespace PyI
open PySem PySem.Spec PyProof.Rows L2

/-- a built-in of one argument on values -/
def BiOk (X : Cx) (f : Value) (g : R → Sto → Option (R × Sto)) : Prop := ∃ rr : List V → Hp → VK → Prop, CallR X f rr ∧
  ∀ {ρ ρ' : List Addr} {H H' : Hp} {S S' : Sto} {x : R} {v : V} {r : R} {Q : VK}, Fut ρ H ρ' H' → Sim ρ' H' S → RRep X.K H ρ' H' v x → g x S = some (r, S') → Post X.K ρ H r S' Q → rr [v] H' Q

section
variable {K : Fr} {ρ ρ' : List Addr} {H H' : Hp} {S : Sto} {v w : V}
theorem lstR_ok {a : R} {l : List D} (s : Sim ρ' H' S) (r : RRep K H ρ' H' v a) (h : lstR a S = some l) : ∃ p xs, v = .ref p ∧ SqL K H' p xs ∧ DReps ρ' H' xs l := by
  unfold lstR at h
  split at h
  · cases h
    obtain ⟨p, xs, e, _, _, h1, h2⟩ := r
    exact ⟨p, xs, e, .of h1, h2⟩
  · split at h
    · rename_i l' e
      cases h
      obtain ⟨p, e1, e2⟩ := r
      obtain ⟨xs, h1, h2⟩ := s.obj _ _ _ e1 e
      exact ⟨p, xs, e2, .of h1, h2⟩
    · rename_i l' e
      cases h
      obtain ⟨p, e1, e2⟩ := r
      obtain ⟨o, xs, h1, h2⟩ := s.obj _ _ _ e1 e
      exact ⟨p, xs, e2, .inl (.inr ⟨o, h1⟩), h2⟩
    · cases h
  · cases h
theorem lstP_ok {a : R} {l : List P} (s : Sim ρ' H' S) (r : RRep K H ρ' H' v a) (h : lstP a S = some l) : ∃ p xs, v = .ref p ∧ SqL K H' p xs ∧ PReps H' xs l := by
  unfold lstP at h
  cases e : lstR a S with
  | none => rw [e] at h; cases h
  | some ds =>
    rw [e] at h
    obtain ⟨p, xs, e1, h1, h2⟩ := lstR_ok s r e
    exact ⟨p, xs, e1, h1, ofDs_ok h2 h⟩
theorem allB_ok : ∀ {l : List P} {bs : List Bool} {xs : List V}, PReps H xs l → allB l = some bs → xs = bs.map V.bl
  | _, _, _, .nil, h => by cases h; rfl
  | _, bs, _, .cons (p := p) (ps := ps) r t, h => by
    cases r <;> first | (unfold allB at h; cases h; done) | skip
    rename_i b
    unfold allB at h
    cases e : allB ps with
    | none => rw [e] at h; cases h
    | some cs =>
      rw [e] at h
      cases h
      rw [allB_ok t e]
      rfl
theorem allI_ok : ∀ {l : List P} {bs : List Int} {xs : List V}, PReps H xs l → allI l = some bs → xs = bs.map V.int
  | _, _, _, .nil, h => by cases h; rfl
  | _, bs, _, .cons (p := p) (ps := ps) r t, h => by
    cases r <;> first | (unfold allI at h; cases h; done) | skip
    rename_i b
    unfold allI at h
    cases e : allI ps with
    | none => rw [e] at h; cases h
    | some cs =>
      rw [e] at h
      cases h
      rw [allI_ok t e]
      rfl
end
section
variable {X : Cx}
theorem bi_len : BiOk X (.builtin "len") (biR .len) := by
  refine ⟨_, call_len_str.or call_len_seq, fun {ρ ρ' H H' S S' x v r Q} f s rv h k => ?_⟩
  unfold biR at h
  dsimp only at h
  split at h
  · split at h
    · rename_i z
      cases h
      cases (show PRep H' v (.str _) from rv)
      exact .inl ⟨_, rfl, by rw [← LINE_eq]; exact z, fin_p f s k (.int _)⟩
    · cases h
  · split at h
    · rename_i l e
      cases h
      obtain ⟨p, xs, rfl, h1, h2, h3⟩ := seqR_ok s rv e
      exact .inr ⟨p, xs, rfl, h1, by rw [h2]; exact fin_p f s k (.int _)⟩
    · cases h
theorem bi_tuple : BiOk X (.type "tuple") (biR .tuple) := by
  refine ⟨_, call_tupleG, fun {ρ ρ' H H' S S' x v r Q} f s rv h k => ?_⟩
  unfold biR at h
  dsimp only at h
  split at h
  · cases h
    cases (show PRep H' v (.tup _) from rv) with
    | tup e q => exact ⟨_, _, rfl, .inr ⟨e.sq, fin_p f s k (.tup e q)⟩⟩
  · split at h
    · rename_i l e
      cases h
      obtain ⟨p, xs, rfl, h1, h2⟩ := lstP_ok s rv e
      exact ⟨p, xs, rfl, .inl ⟨h1, fin_tup f s k h2⟩⟩
    · cases h
theorem bi_all (hc : X.calm = true) : BiOk X (.builtin "all") (biR .all) := by
  refine ⟨_, cr_all hc, fun {ρ ρ' H H' S S' x v r Q} f s rv h k => ?_⟩
  unfold biR at h
  dsimp only at h
  split at h
  · rename_i bs e
    cases h
    cases e2 : lstP x S with
    | none => rw [e2] at e; cases e
    | some l =>
      rw [e2] at e
      obtain ⟨p, xs, rfl, h1, h2⟩ := lstP_ok s rv e2
      have e3 := allB_ok h2 e
      subst e3
      exact ⟨p, bs, rfl, h1, fin_p f s k (.bl _)⟩
  · cases h
theorem bi_any (hc : X.calm = true) : BiOk X (.builtin "any") (biR .any) := by
  refine ⟨_, cr_any hc, fun {ρ ρ' H H' S S' x v r Q} f s rv h k => ?_⟩
  unfold biR at h
  dsimp only at h
  split at h
  · rename_i bs e
    cases h
    cases e2 : lstP x S with
    | none => rw [e2] at e; cases e
    | some l =>
      rw [e2] at e
      obtain ⟨p, xs, rfl, h1, h2⟩ := lstP_ok s rv e2
      have e3 := allB_ok h2 e
      subst e3
      exact ⟨p, bs, rfl, h1, fin_p f s k (.bl _)⟩
  · cases h
theorem bi_sum (hc : X.calm = true) : BiOk X (.builtin "sum") (biR .sum) := by
  refine ⟨_, cr_sum hc, fun {ρ ρ' H H' S S' x v r Q} f s rv h k => ?_⟩
  unfold biR at h
  dsimp only at h
  split at h
  · rename_i bs e
    cases h
    cases e2 : lstP x S with
    | none => rw [e2] at e; cases e
    | some l =>
      rw [e2] at e
      obtain ⟨p, xs, rfl, h1, h2⟩ := lstP_ok s rv e2
      have e3 := allI_ok h2 e
      subst e3
      exact ⟨p, bs, rfl, h1, fin_p f s k (.int _)⟩
  · cases h
theorem bi_int : BiOk X (.type "int") (biR .int) := by
  refine ⟨_, call_int1, fun {ρ ρ' H H' S S' x v r Q} f s rv h k => ?_⟩
  unfold biR at h
  dsimp only at h
  split at h
  · cases h
    cases (show PRep H' v (.int _) from rv)
    exact .inl ⟨_, rfl, fin_p f s k (.int _)⟩
  · cases h
    cases (show PRep H' v (.bl _) from rv)
    exact .inr ⟨_, rfl, fin_p f s k (.int _)⟩
  · cases h
theorem bi_abs : BiOk X (.builtin "abs") (biR .abs) := by
  refine ⟨_, call_abs, fun {ρ ρ' H H' S S' x v r Q} f s rv h k => ?_⟩
  unfold biR at h
  dsimp only at h
  split at h
  · rename_i i e
    cases h
    obtain rfl := intR_ok rv e
    exact ⟨i, rfl, fin_p f s k (.int _)⟩
  · cases h

/-! ### isinstance -/
def tyName : Ty → String
  | .int => "int"
  | .bool => "bool"
  | .tuple => "tuple"
  | .str => "str"
theorem isa_ok (t : Ty) : CallR X (.builtin "isinstance") (fun xs H Q => ∃ v p, xs = [v, .ty (tyName t)] ∧ PRep H v p ∧ Q (.bl (isaP t p)) H) := by
  intro pins s σ H vs us Q I r ⟨v, p, e, hp, k⟩
  subst e
  obtain ⟨u, u2, rfl, r1, r2⟩ := vals2 r
  obtain ⟨as, rd⟩ := PRep.reads I hp r1
  have fin : ∀ tk, EP X pins σ Q (.bool (isaP t p)) { s with toks := tk } := fun tk => ⟨.bl _, H, I.tok tk, rfl, k⟩
  cases t with
  | int =>
    cases (show u2 = Value.type "int" from r2)
    refine PySem.W.isinstance_int_data rd fun tk _ => ?_
    have e : (toPy p).isInt = isaP .int p := by cases p <;> rfl
    rw [e]
    exact fin tk
  | bool =>
    cases (show u2 = Value.type "bool" from r2)
    refine PySem.W.isinstance_bool_data rd fun tk _ => ?_
    have e : (toPy p).isBool = isaP .bool p := by cases p <;> rfl
    rw [e]
    exact fin tk
  | tuple =>
    cases (show u2 = Value.type "tuple" from r2)
    refine PySem.W.isinstance_tuple_data rd fun tk _ => ?_
    have e : (toPy p).isTuple = isaP .tuple p := by cases p <;> rfl
    rw [e]
    exact fin tk
  | str =>
    cases (show u2 = Value.type "str" from r2)
    refine PySem.W.isinstance_str_data rd fun tk _ => ?_
    have e : (toPy p).isStr = isaP .str p := by cases p <;> rfl
    rw [e]
    exact fin tk

/-! ### sorted, min, max of a list of data -/
def VP (H : Hp) (u : Value) (x : P) : Prop := ∃ v, RelV v u ∧ PRep H v x
theorem each_of {H : Hp} : ∀ {vs : List V} {us : List Value} {l : List P}, Vals vs us → PReps H vs l → PySem.W.EachIs (VP H) us l
  | _, _, _, .nil, .nil => .nil
  | _, _, _, .cons r t, .cons q u => .cons ⟨_, r, q⟩ (each_of t u)
theorem of_each {H : Hp} : ∀ {us : List Value} {l : List P}, PySem.W.EachIs (VP H) us l → ∃ vs, Vals vs us ∧ PReps H vs l
  | _, _, .nil => ⟨[], .nil, .nil⟩
  | _, _, .cons ⟨v, r, q⟩ t => by
    obtain ⟨vs, h1, h2⟩ := of_each t
    exact ⟨v :: vs, .cons r h1, .cons q h2⟩
theorem each_reads {pins : List (Addr × Obj)} {σ : L2.St} {H : Hp} {s : Shared} (I : Inv X pins σ H s) {us : List Value} {l : List P} (e : PySem.W.EachIs (VP H) us l) : PySem.W.EachIs (fun v b => ∃ as, Reads s.heap v (toPy b) as) us l := by
  induction e with
  | nil => exact .nil
  | cons a t ih =>
    obtain ⟨v, r, q⟩ := a
    exact .cons (PRep.reads I q r) ih
theorem sort_prem {l : List P} (h : canSort l = true) : PySem.W.AllAlike (l.map toPy) ∧ PySem.W.Sortable (l.map toPy) ∧ l.length ≤ sizeLine ∧ ∀ b ∈ l, (toPy b).depth ≤ 60 := by
  unfold canSort allAlike at h
  simp only [Bool.and_eq_true, List.all_eq_true, decide_eq_true_eq, Bool.or_eq_true] at h
  obtain ⟨⟨⟨h1, h2⟩, h3⟩, h4⟩ := h
  refine ⟨fun d hd d' hd' => ?_, ?_, by rw [← LINE_eq]; exact h4, fun b hb => by rw [toPy_depth]; exact h2 b hb⟩
  · obtain ⟨b, hb, rfl⟩ := List.mem_map.mp hd
    obtain ⟨b', hb', rfl⟩ := List.mem_map.mp hd'
    rw [toPy_alike]
    exact h1 b hb b' hb'
  · rcases h3 with h3 | h3
    · refine .inl fun d hd => ?_
      obtain ⟨b, hb, rfl⟩ := List.mem_map.mp hd
      have z := h3 b hb
      cases b with
      | tup xs =>
        cases xs with
        | nil => exact nomatch (show False by simp [fullTup] at z)
        | cons x r => exact ⟨toPy x, toPys r, by simp [toPy, toPys]⟩
      | _ => exact nomatch (show False by simp [fullTup] at z)
    · refine .inr fun d hd => ?_
      obtain ⟨b, hb, rfl⟩ := List.mem_map.mp hd
      have z := h3 b hb
      simp only [Bool.not_eq_true'] at z
      refine ⟨toPy_non z.2, fun xs e => ?_⟩
      cases b with
      | tup ys => exact nomatch (show False by simpa [isScal] using z.1)
      | _ => simp [toPy] at e
theorem sortL_eq (l : List P) : l.mergeSort (PySem.W.dataLe false toPy) = sortL l := by
  unfold sortL
  congr 1
  funext a b
  show (!PySem.W.dataLt (toPy b) (toPy a)) = !ltP b a
  rw [toPy_lt]
/-- sorted(list of data) -/
def rSrt (K : Fr) : List V → Hp → VK → Prop := fun vs H Q => ∃ a xs l, vs = [.ref a] ∧ SqL K H a xs ∧ PReps H xs l ∧ canSort l = true ∧ ∀ p ys, H p = none → PReps H ys (sortL l) → Q (.ref p) (upd H p (.lst ys))
theorem cr_srt (hu : X.A.units + 70 < cLine) : CallR X (.builtin "sorted") (rSrt X.K) := by
  intro pins s σ H vs us Q I r ⟨a, xs, l, e, hs, hp, hc, k⟩
  subst e
  obtain ⟨u, rfl, r1⟩ := vals1 r
  obtain rfl : u = Value.ref a := r1
  obtain ⟨its, rv, pl, hz⟩ := I.list hs
  obtain ⟨h1, h2, h3, h4⟩ := sort_prem hc
  have e := each_of rv hp
  refine PySem.W.sorted_data (R := VP H) (enc := toPy) pl.isList e (each_reads I e) h1 h2 h3 (fun b hb => by have := h4 b hb; omega) fun out ho he => ?_
  rw [sortL_eq] at he
  obtain ⟨ys, q1, q2⟩ := of_each he
  obtain ⟨n, hn⟩ := sortedAll_at s.heap its (List.toArray out)
  refine ⟨.ref (s.heap.objs.size + 1), upd H (s.heap.objs.size + 1) (.lst ys), I.laid (t' := s.toks) (fun b o e => sortedAll_old e) (Nat.le_succ _) ⟨?_, out, n, q1, hn⟩, rfl, k _ ys (I.hok.fresh (Nat.le_succ _)) q2⟩
  rw [q1.length, ho]
  exact h3
theorem min_prem {l : List P} (h : canMin l = true) : PySem.W.AlikeAll (toPys l) ∧ depths l ≤ 60 := by
  unfold canMin allAlike at h
  simp only [Bool.and_eq_true, List.all_eq_true, decide_eq_true_eq, Bool.not_eq_true'] at h
  obtain ⟨⟨h1, h2⟩, h3⟩ := h
  rw [toPys_map]
  refine ⟨⟨fun d hd d' hd' => ?_, fun d hd => ?_⟩, h3⟩
  · obtain ⟨b, hb, rfl⟩ := List.mem_map.mp hd
    obtain ⟨b', hb', rfl⟩ := List.mem_map.mp hd'
    rw [toPy_alike]
    exact h1 b hb b' hb'
  · obtain ⟨b, hb, rfl⟩ := List.mem_map.mp hd
    exact toPy_non (h2 b hb)
theorem minD_eq (x : P) (l : List P) : PySem.W.minD (toPy x) (toPys l) = toPy (minL x l) := by
  unfold PySem.W.minD minL
  induction l generalizing x with
  | nil => rfl
  | cons y r ih =>
    unfold toPys
    rw [List.foldl_cons, List.foldl_cons, toPy_lt]
    by_cases h : ltP y x = true
    · rw [if_pos h, if_pos h]
      exact ih y
    · rw [if_neg h, if_neg h]
      exact ih x
theorem maxD_eq (x : P) (l : List P) : PySem.W.maxD (toPy x) (toPys l) = toPy (maxL x l) := by
  unfold PySem.W.maxD maxL
  induction l generalizing x with
  | nil => rfl
  | cons y r ih =>
    unfold toPys
    rw [List.foldl_cons, List.foldl_cons, toPy_lt]
    by_cases h : ltP x y = true
    · rw [if_pos h, if_pos h]
      exact ih y
    · rw [if_neg h, if_neg h]
      exact ih x
end
end PyI
set_option Elab.async false
set_option linter.all false
set_option maxRecDepth 100000
set_option maxHeartbeats 1000000
/-! PyS6: sorted of what can be collected; dicts' keys and items. -/
namespace PyI
open PySem PySem.Spec PyProof.Rows L2

section
variable {X : Cx} {pins : List (Addr × Obj)} {σ : L2.St} {H : Hp} {s : Shared}
mutual
theorem PRep.reads0 (I : Inv X pins σ H s) : ∀ {v : V} {x : P} {u : Value}, PRep H v x → RelV v u → Reads s.heap u (toPy x) []
  | _, _, _, .non, r => by cases r; exact .none
  | _, _, _, .bl b, r => by cases r; exact .bool b
  | _, _, _, .int i, r => by obtain ⟨t, rfl⟩ := r; exact .int i t
  | _, _, _, .str i, r => by obtain ⟨t, rfl⟩ := r; exact .str i t
  | _, _, _, .tup e q, r => by
    cases r
    obtain ⟨its, rv, ⟨o, ho, hc, n, hd⟩, _⟩ := I.tuple e.sq
    exact Reads.tuple ho hc hd (PReps.reads0 I q rv)
theorem PReps.reads0 (I : Inv X pins σ H s) : ∀ {vs : List V} {xs : List P} {us : List Value}, PReps H vs xs → Vals vs us → ReadsAll s.heap us (toPys xs) []
  | _, _, _, .nil, r => by cases r; exact .nil
  | _, _, _, .cons a b, r => by
    cases r with
    | cons r1 r2 => exact ReadsAll.cons (PRep.reads0 I a r1) (PReps.reads0 I b r2)
end
theorem each_reads0 (I : Inv X pins σ H s) {us : List Value} {l : List P} (e : PySem.W.EachIs (VP H) us l) : PySem.W.EachIs (fun v b => Reads s.heap v (toPy b) []) us l := by
  induction e with
  | nil => exact .nil
  | cons a t ih =>
    obtain ⟨v, r, q⟩ := a
    exact .cons (PRep.reads0 I q r) ih

/-- sorted of whatever collects to data -/
theorem sorted_of {E : Value → Shared → Prop} {u : Value} {Q : VK} {l : List P} (hu : X.A.units + 70 < cLine)
    (hcol : ∀ R : List Value → Shared → Prop, (∀ (s' : Shared) (vs : List Value) (H' : Hp) (bs : List P), Inv X pins σ H' s' → (∀ b o, H b = some o → H' b = some o) → PySem.W.EachIs (VP H') vs bs → canSort bs = true → sortL bs = sortL l → R vs s') → wpAny (model X.prog X.w) X.A.in1 (collect u) R E s)
    (k : ∀ H' p ys, (∀ b o, H b = some o → H' b = some o) → H' p = none → PReps H' ys (sortL l) → Q (.ref p) (upd H' p (.lst ys))) :
    wpAny (model X.prog X.w) X.A (call (.builtin "sorted") [u]) (EP X pins σ Q) E s := by
  refine Calls.call_function_entry PyProof.Rows.kind_sorted PyProof.Rows.plain_sorted PyProof.Rows.entry_sorted (PyProof.Rows.args_sorted1 _) ?_
  unfold Builtin.«sorted»
  refine wpAny_bind (m := checkCount "sorted" 1 1 _) (wpAny_pure ?_)
  refine wpAny_bind (hcol _ fun s' vs H' bs I' hH e hc hl => ?_)
  obtain ⟨h1, h2, h3, h4⟩ := sort_prem hc
  have hlen : vs.length = bs.length := e.length
  refine wpAny_bind (wpAny_newList ?_ (by rw [hlen]; exact h3))
  have hoL : (s'.heap.push (seqObj "list" vs.toArray 0)).get? s'.heap.objs.size = some (seqObj "list" vs.toArray 0) := Heap.get?_push_size _ rfl
  show wpAny _ _ _ _ _ { s' with heap := s'.heap.push (seqObj "list" vs.toArray 0) }
  have er : PySem.W.EachIs (fun v b => ∃ as, Reads (s'.heap.push (seqObj "list" vs.toArray 0)) v (toPy b) as ∧ s'.heap.objs.size ∉ as) vs bs := (each_reads0 I' e).mono fun v b r => ⟨[], PyProof.Rows.Reads.keeps (fun b o q => Heap.get?_push_of_some _ q) r, by simp⟩
  refine wpAny_bind (wpAny_holding (PySem.W.list_sort_data (s := { s' with heap := s'.heap.push (seqObj "list" vs.toArray 0) }) (R := VP H') (enc := toPy) hoL e er h1 h2 h3 (fun b hb => by have := h4 b hb; show X.A.units + 1 + 1 + _ < _; omega) fun out ho he => ?_))
  rw [sortL_eq, hl] at he
  obtain ⟨ys, q1, q2⟩ := of_each he
  obtain ⟨e', he'⟩ := PyProof.Rows.sortedHeap_at (vs := vs) (out := List.toArray out) hoL
  have hz : ys.length ≤ sizeLine := by rw [q1.length, ho]; exact h3
  refine wpAny_pure ⟨_, rfl, .ref s'.heap.objs.size, upd H' s'.heap.objs.size (.lst ys), I'.laid (t' := s'.toks) (fun b u e => ?_) (Nat.le_refl _)
    (show ObjOk X.prog X.w _ _ _ (.lst ys) from ⟨hz, out, e', q1, he'⟩), rfl, k H' _ ys hH (I'.hok.fresh (Nat.le_refl _)) q2⟩
  have hb : b < s'.heap.objs.size := Heap.lt_size e
  rw [PyProof.Rows.sortedHeap_old (Nat.ne_of_lt hb) (by rw [size_push']; exact Nat.lt_succ_of_lt hb)]
  exact Heap.get?_push_of_some _ e
end

/-! ### dicts as rows of entries -/
def dPairs : O → List (P × D)
  | .dK kvs => kvs.map fun p => (ofKey p.1, p.2)
  | .dT kvs => kvs.map fun p => (.tup (p.1.map ofKey), p.2)
  | _ => []
def isDict : O → Bool
  | .dK _ => true
  | .dT kvs => kvs.all fun p => !p.1.isEmpty
  | _ => false
def EntOk (ρ : List Addr) (H : Hp) (e : DictEntry) (q : P × D) : Prop := ∃ k v, RelV k e.key ∧ PRep H k q.1 ∧ RelV v e.val ∧ DRep ρ H v q.2
theorem ofKey_rep {H : Hp} : ∀ k : Key, PRep H (kV k) (ofKey k)
  | .inl i => .int i
  | .inr x => .str x
theorem ofKeys_rep {H : Hp} : ∀ ks : List Key, PReps H (ks.map kV) (ks.map ofKey)
  | [] => .nil
  | k :: r => .cons (ofKey_rep k) (ofKeys_rep r)
theorem keyish_of : ∀ ks : List Key, ks ≠ [] → keyish (ks.map ofKey) = true := fun ks h => by
  rw [keyish_iff]
  refine ⟨by simpa using h, fun x hx => ?_⟩
  obtain ⟨k, _, rfl⟩ := List.mem_map.mp hx
  cases k <;> rfl
theorem ents_K {prog : Program} {w : World} {ρ : List Addr} {H : Hp} : ∀ {es : List DictEntry} {vs : List (Key × Value)} {ks : List (Key × V)} {kvs : List (Key × D)}, Pairs (mixKind prog w) es vs → KV ks vs → KReps ρ H ks kvs → Paired (EntOk ρ H) es (kvs.map fun p => (ofKey p.1, p.2))
  | _, _, _, _, .nil, .nil, .nil => .nil
  | _, _, _, _, .cons h1 h2 t, .cons r rt, .cons q qt => by
    rename_i e kv es vs p ks q' kvs
    refine .cons ⟨kV kv.1, p.2, keyIs_rel h1, ?_, by rw [h2]; exact r.2, q.2⟩ (ents_K t rt qt)
    show PRep H (kV kv.1) (ofKey q'.1)
    rw [← q.1, ← r.1]
    exact ofKey_rep _
theorem ents_T {prog : Program} {w : World} {ρ : List Addr} {H : Hp} : ∀ {xs : List (List Key × Addr × Value)} {ks : List (List Key × V)} {kvs : List (List Key × D)},
    Paired (fun (p : List Key × V) (q : List Key × Addr × Value) => p.1 = q.1 ∧ H q.2.1 = some (.tup (p.1.map kV)) ∧ RelV p.2 q.2.2) ks xs → KReps ρ H ks kvs → (kvs.all fun p => !p.1.isEmpty) = true → Paired (EntOk ρ H) (xs.map (entryOfKey (tupleKind (mixKind prog w)))) (kvs.map fun p => (.tup (p.1.map ofKey), p.2))
  | _, _, _, .nil, .nil, _ => .nil
  | _, _, _, .cons r rt, .cons q qt, hn => by
    rename_i p x ks' xs' q' kvs'
    rw [List.all_cons, Bool.and_eq_true] at hn
    refine .cons ⟨.ref x.2.1, p.2, rfl, ?_, r.2.2, q.2⟩ (ents_T rt qt hn.2)
    show PRep H (.ref x.2.1) (.tup (q'.1.map ofKey))
    rw [← q.1] at hn ⊢
    exact .tup (.inl ⟨keyish_of p.1 (by simpa using hn.1), r.2.1⟩) (ofKeys_rep _)
section
variable {X : Cx} {pins : List (Addr × Obj)} {σ : L2.St} {H : Hp} {s : Shared}
theorem dict_ents (I : Inv X pins σ H s) {ρ : List Addr} {a : Addr} {o : O} (h : ORep ρ H a o) (hd : isDict o = true) :
    ∃ ob es ep, s.heap.get? a = some ob ∧ ob.ExactDict ∧ ob.data = .dict es ep ∧ (a == sysModules) = false ∧ es.size ≤ sizeLine ∧ Paired (EntOk ρ H) es.toList (dPairs o) := by
  cases o with
  | lst l => exact nomatch (show False by simp [isDict] at hd)
  | rol l => exact nomatch (show False by simp [isDict] at hd)
  | dK kvs =>
    obtain ⟨ks, hk, rk⟩ := h
    obtain ⟨z, lo, vs, kv, o, es, ep, ho, hx, hdt, _, hp, _⟩ := (show ObjOk X.prog X.w H s.heap a (.dK ks) from I.hok a _ hk)
    have hp := ents_K hp kv rk
    refine ⟨o, es, ep, ho, hx, hdt, lo, ?_, hp⟩
    have l1 := hp.length
    have l2 := Paired.length rk
    rw [Array.length_toList, List.length_map] at l1
    omega
  | dT kvs =>
    obtain ⟨ks, hk, rk⟩ := h
    obtain ⟨z, lo, xs, r, o, es, ep, ho, hx, hdt, he, _⟩ := (show ObjOk X.prog X.w H s.heap a (.dT ks) from I.hok a _ hk)
    have hp := ents_T (prog := X.prog) (w := X.w) r rk hd
    rw [← he] at hp
    refine ⟨o, es, ep, ho, hx, hdt, lo, ?_, hp⟩
    have l1 := hp.length
    have l2 := Paired.length rk
    rw [Array.length_toList, List.length_map] at l1
    omega
theorem dKeys_eq {o : O} {l : List P} (h : dKeys o = some l) : isDict o = true ∧ l = (dPairs o).map (·.1) := by
  cases o with
  | lst l => cases h
  | rol l => cases h
  | dK kvs =>
    cases h
    refine ⟨rfl, ?_⟩
    show _ = (kvs.map _).map _
    rw [List.map_map]
    rfl
  | dT kvs =>
    unfold dKeys at h
    dsimp only at h
    split at h
    · rename_i hn
      cases h
      refine ⟨hn, ?_⟩
      show _ = (kvs.map _).map _
      rw [List.map_map]
      rfl
    · cases h
theorem ofDs_map {α : Type} (f : α → D) : ∀ {l : List α} {vs : List P}, ofDs (l.map f) = some vs → l.map f = vs.map D.p
  | [], vs, h => by cases h; rfl
  | a :: l, vs, h => by
    unfold ofDs List.map at h
    cases e : f a with
    | ref k => rw [e] at h; simp [ofD] at h
    | p x =>
      rw [e] at h
      simp only [ofD] at h
      split at h
      · rename_i xs e1 e2
        cases e1
        cases h
        rw [List.map_cons, List.map_cons, e, ofDs_map f e2]
      · cases h
theorem dItems_eq {o : O} {l : List P} (h : dItems o = some l) : isDict o = true ∧ l.length = (dPairs o).length ∧ ∀ (j : Nat) (x : P × D), (dPairs o)[j]? = some x → ∃ y, x.2 = .p y ∧ l[j]? = some (.tup [x.1, y]) := by
  have key : ∀ {κ : Type} (g : κ → P) (kvs : List (κ × D)) (vs : List P), ofDs (kvs.map (·.2)) = some vs → ((kvs.zip vs).map fun p => P.tup [g p.1.1, p.2]).length = kvs.length ∧ ∀ (j : Nat) (x : P × D), (kvs.map fun p => (g p.1, p.2))[j]? = some x → ∃ y, x.2 = .p y ∧ ((kvs.zip vs).map fun p => P.tup [g p.1.1, p.2])[j]? = some (.tup [x.1, y]) := by
    intro κ g kvs vs hv
    have e := ofDs_map (fun (p : κ × D) => p.2) hv
    have hl : kvs.length = vs.length := by
      have z := congrArg List.length e
      rw [List.length_map, List.length_map] at z
      exact z
    refine ⟨by rw [List.length_map, List.length_zip, ← hl, Nat.min_self], fun j x hx => ?_⟩
    rw [List.getElem?_map] at hx
    cases hj : kvs[j]? with
    | none => rw [hj] at hx; cases hx
    | some p =>
      rw [hj] at hx
      cases hx
      have z := congrArg (·[j]?) e
      simp only [List.getElem?_map, hj] at z
      cases hv' : vs[j]? with
      | none => rw [hv'] at z; cases z
      | some y =>
        rw [hv'] at z
        have z' : p.2 = .p y := Option.some.inj z
        refine ⟨y, z', ?_⟩
        have hz : (kvs.zip vs)[j]? = some (p, y) := List.getElem?_zip_eq_some.mpr ⟨hj, hv'⟩
        rw [List.getElem?_map, hz]
        rfl
  cases o with
  | lst l => cases h
  | rol l => cases h
  | dK kvs =>
    dsimp only [dItems] at h
    split at h
    · rename_i vs e
      cases h
      obtain ⟨k1, k2⟩ := key ofKey kvs vs e
      exact ⟨rfl, by rw [k1]; simp [dPairs], k2⟩
    · cases h
  | dT kvs =>
    dsimp only [dItems] at h
    split at h
    · rename_i vs e
      split at h
      · rename_i hn
        cases h
        obtain ⟨k1, k2⟩ := key (fun k => .tup (k.map ofKey)) kvs vs e
        exact ⟨hn, by rw [k1]; simp [dPairs], k2⟩
      · cases h
    · cases h
end
end PyI
set_option Elab.async false
set_option linter.all false
set_option maxRecDepth 100000
set_option maxHeartbeats 1000000
/-! PyQ: set(list of ints). -/
namespace PyI
open PySem PySem.Spec PyProof.Rows L2
abbrev nSet (w : World) : Obj := { cls := .type "set", dict := none, data := .set #[] 0 (.fresh 0 0 (!w.params.followText "set-order")) }
section
variable {P : Program} {w : World} {A : Around} {E : Value → Shared → Prop} {s : Shared}
set_option maxHeartbeats 3200000 in
theorem set_of_ints {l : Addr} {items : Array Value} (ns : List Int) {Q : Value → Shared → Prop} (hh : A.handled = none) (hl : s.heap.IsList l items) (hit : IntsAre items.toList ns) (hb : ns.length + 1 < scanBound)
    (h : ∀ (h' : Heap) (tk c : Nat), SetR w h' s.heap.objs.size (fun j => decide (j ∈ ns)) c → c ≤ ns.length → (∀ b o, s.heap.get? b = some o → h'.get? b = some o) → Q (.ref s.heap.objs.size) { s with heap := h', toks := tk }) :
    wpAny (model P w) A (call (.type "set") [.ref l]) Q E s := by
  have hsz : items.size = ns.length := by
    have q := IntsAre.length hit
    rw [Array.length_toList] at q
    exact q
  obtain ⟨c, tl, hmo⟩ := F.called_set.mro
  have hmd := F.called_set.made
  have hsb := F.called_set.sub
  refine wpAny_call (codeAny_of_tree ?_)
  show wpAny _ _ (callAny (.type "set") _) _ _ _
  refine wpAny_pure ⟨Code.quiet_builtin _ (by decide +kernel), codeAny_builtin F.entry_type_call ?_⟩
  rw [Around.under_plain (weight_type_call_type "set" [.ref l] []) rfl]
  have h1 := F.called_set.notType
  have h2 := F.called_set.canCreate
  have htc := F.typeCall_set_1 (.ref l)
  repeat (any_goals (first | assumption | wp_step))

  refine codeAny_mono (code_set_led1 (.ref l) (E := E) (Q₁ := fun obj sa => obj = .ref s.heap.objs.size ∧ sa = { s with heap := s.heap.push (nSet w) }) ⟨rfl, rfl⟩) fun r sa hr => ?_
  cases r with
  | error e => exact hr
  | ok fl =>
    cases fl with
    | ret obj =>
      obtain ⟨rfl, rfl⟩ := hr
      have hSt : (s.heap.push (nSet w)).get? s.heap.objs.size = some (nSet w) := Heap.get?_push_size _ rfl
      have hT : Shared.TypeIs { s with heap := s.heap.push (nSet w) } (.ref s.heap.objs.size) "set" := ⟨_, hSt, rfl⟩
      have hlk := F.called_set.init.lookup
      have hbd := F.called_set.init.bind (.ref s.heap.objs.size)
      repeat (any_goals (first | assumption | wp_step))

      refine codeAny_mono (codeAny_call_builtin (R := wants (fun r ss => r = .none ∧ ∃ h' tk c, ss = { s with heap := h', toks := tk } ∧ SetR w h' s.heap.objs.size (fun j => decide (j ∈ ns)) c ∧ c ≤ ns.length ∧
          (∀ b o, s.heap.get? b = some o → h'.get? b = some o)) E) F.called_set.init.plain F.entry_set_init (check_set_init_1 hT ?_)) fun rr ss hr₂ => ?_
      · obtain ⟨ol, hov, hcv, nl, hdv⟩ := hl
        obtain ⟨ocls, odict, odata, oslots⟩ := ol
        simp only at hcv hdv
        subst hcv; subst hdv
        have hov' : (s.heap.push (nSet w)).get? l = some { cls := .type "list", dict := odict, data := .seq items nl, slots := oslots } := Heap.get?_push_of_some _ hov
        have hs1 := F.sub_list_set
        have hs2 := F.sub_list_frozenset
        have hne : (Value.type "list" == Value.type "dict") = false := by decide
        have hq1 : (s.heap.push (nSet w)).IsList l items := ⟨_, hov', rfl, nl, rfl⟩
        unfold Builtin.«set.__init__» noKeywords Builtin.Frozenset.updateFrom
        generalize hPi : pyIter = PI
        wp_walk
        subst hPi

        refine wpAny_pyIter_list hq1 ?_
        refine wpAny_bind (wpAny_runValue ?_)
        have hlt : l < s.heap.objs.size := Heap.lt_size hov
        have hhh : A.in1.in1.in1.handled = none := by simp [hh]
        have hzz : (s.heap.push (nSet w)).objs.size = s.heap.objs.size + 1 := Heap.size_push ..
        have hni : l ≠ (s.heap.push (nSet w)).objs.size := by
          rw [Heap.size_push]; exact Nat.ne_of_lt (Nat.lt_succ_of_lt hlt)
        have hsf : s.heap.objs.size ∉ [(s.heap.push (nSet w)).objs.size, l] := by
          rw [Heap.size_push]; simp only [List.mem_cons, List.mem_singleton, List.not_mem_nil, or_false, not_or]
          exact ⟨Nat.ne_of_lt (Nat.lt_succ_self _), Nat.ne_of_gt hlt⟩
        have hvl : ∀ (i : Nat) (v : Value), items[i]? = some v → ∃ k t, ns[i]? = some k ∧ v = .int k t := fun i v hv => by
          have hi : i < ns.length := by rw [← hsz]; exact (Array.getElem?_eq_some_iff.mp hv).1
          obtain ⟨t, e⟩ := PyProof.Rows.IntsAre.int_at hit i v (by rw [Array.getElem?_toList]; exact hv)
          refine ⟨ns[i], t, List.getElem?_eq_getElem hi, ?_⟩
          rw [e, List.getD_eq_getElem?_getD, List.getElem?_eq_getElem hi] <;> rfl
        refine set_update_ints ((Walks.list hhh _ l hni items).toS) s.heap.objs.size
          hsf ns hsz hb hvl (items.size - 0) 0 _ (by omega) (Nat.zero_le _)
          ⟨⟨_, Heap.get?_push_size _ rfl, rfl, rfl⟩, (hq1.push _)⟩ ?hS0 ?hR
        case hS0 =>
          have hget : ((s.heap.push (nSet w)).push { cls := .type "list_iterator", data := .fields #[.ref l, .int 0 0] }).get? s.heap.objs.size
              = some (nSet w) := Heap.get?_push_of_some _ hSt
          exact ⟨0, Nat.le_refl 0, setR_new_at hget⟩
        case hR =>
          intro s' c' hm hc' hSe
          obtain ⟨h', g2, d', tk', os'⟩ := s'
          have eg : g2 = s.gens := hm.gens
          have ed : d' = s.drawn := hm.drawn
          have eo : os' = s.os := hm.os
          subst eg; subst ed; subst eo
          show wpAny _ _ _ _ _ _
          refine wpAny_pure ?_
          show wpAny _ _ (ret Value.none) _ _ _
          rw [hsz] at hc'
          refine wpAny_pure ⟨rfl, h', tk', c', rfl, hSe, hc', fun b o e => ?_⟩
          have hba : b < s.heap.objs.size := Heap.lt_size e
          have hbb : b ≠ s.heap.objs.size := Nat.ne_of_lt hba
          have hbc : b ≠ (s.heap.push (nSet w)).objs.size := by
            rw [Heap.size_push]; exact Nat.ne_of_lt (Nat.lt_succ_of_lt hba)
          exact hm.heap b o (by simp only [List.mem_cons, List.mem_singleton, List.not_mem_nil, or_false, not_or]; exact ⟨hbb, hbc⟩) (Heap.get?_push_of_some _ (Heap.get?_push_of_some _ e))

      · cases rr with
        | error e => exact hr₂
        | ok fl₂ =>
          cases fl₂ with
          | ret r =>
            obtain ⟨rfl, h', tk, c', rfl, hSe, hc', hk'⟩ := hr₂
            repeat (any_goals (first | assumption | wp_step))
            exact h _ _ _ hSe hc' hk'
          | _ => exact hr₂.elim
    | _ => exact hr.elim

end
end PyI
set_option Elab.async false
set_option linter.all false
set_option maxRecDepth 100000
set_option maxHeartbeats 1000000
/-! PyS8: sorted(set(..)), the built-ins that need it, and the rest of one argument. -/
namespace PyI
open PySem PySem.Spec PyProof.Rows L2

def SetIs (X : Cx) (H : Hp) (a : Addr) (u : HO) (ps : List P) : Prop :=
  (∃ S n, u = SetO X.w a S n ∧ n ≤ ps.length ∧ isInts ps = true ∧ ∀ k : Int, S k = true ↔ P.int k ∈ ps) ∨
  (∃ L : List (Addr × List Int), u = SetTO X.prog X.w a L ∧ isRows ps = true ∧ (∀ p ∈ L, TRep H p.1 (p.2.map V.int) (p.2.map P.int)) ∧ (∀ p ∈ L, P.tup (p.2.map P.int) ∈ ps) ∧ ∀ q ∈ ps, ∃ p ∈ L, q = P.tup (p.2.map P.int))
def rSetP (X : Cx) : List V → Hp → VK → Prop := fun xs H Q => ∃ l vs ps, xs = [V.ref l] ∧ SqL X.K H l vs ∧ PReps H vs ps ∧ (isInts ps = true ∨ isRows ps = true) ∧ ps.length < 64 ∧ ∀ a u, H a = none → SetIs X H a u ps → Q (.ref a) (upd H a u)
theorem ints_vals {H : Hp} : ∀ {ns : List Int} {vs : List V}, PReps H vs (ns.map P.int) → vs = ns.map V.int
  | [], _, .nil => rfl
  | _ :: _, _, .cons (.int _) t => by rw [ints_vals t]; rfl
theorem rows_vals {H : Hp} : ∀ {ps : List P} {vs : List V}, isRows ps = true → PReps H vs ps → ∃ ks : List (Addr × List Int), vs = ks.map (fun p => V.ref p.1) ∧ ps = ks.map (fun p => P.tup (p.2.map P.int)) ∧ ∀ p ∈ ks, TRep H p.1 (p.2.map V.int) (p.2.map P.int)
  | [], _, _, .nil => ⟨[], rfl, rfl, fun _ h => nomatch h⟩
  | x :: r, _, h, .cons a t => by
    have h1 : isRows r = true := by
      unfold isRows at h ⊢
      rw [List.all_cons, Bool.and_eq_true] at h
      exact h.2
    obtain ⟨ks, e1, e2, e3⟩ := rows_vals h1 t
    obtain ⟨ns, rfl⟩ := isRows_mem h (List.mem_cons_self ..)
    cases a with
    | tup e q =>
      rw [ints_vals q] at e
      refine ⟨(_, ns) :: ks, by rw [e1]; rfl, by rw [e2]; rfl, fun p hp => ?_⟩
      rcases List.mem_cons.mp hp with rfl | hp
      · exact e
      · exact e3 p hp
section
variable {X : Cx}
theorem cr_setP (hc : X.calm = true) (hu : X.A.units + 70 < cLine) : CallR X (.type "set") (rSetP X) := by
  intro pins s σ H xs us Q I r ⟨l, vs, ps, e, hl, hp, hi, h64, q⟩
  subst e
  by_cases hr : isRows ps = true
  · obtain ⟨ks, e1, e2, e3⟩ := rows_vals hr hp
    refine cr_setOfT hc (by omega) pins s σ H _ us Q I r ⟨l, ks, rfl, by rw [← e1]; exact hl, fun p hp => (e3 p hp).sq, by rw [e2, List.length_map] at h64; exact h64, fun a L hn hs ha => q a _ hn (.inr ⟨L, rfl, hr, fun p hp => e3 p (hs p hp), fun p hp => ?_, fun x hx => ?_⟩)⟩
    · rw [e2]
      exact List.mem_map.mpr ⟨p, hs p hp, rfl⟩
    · rw [e2] at hx
      obtain ⟨p, hp, rfl⟩ := List.mem_map.mp hx
      obtain ⟨p', hp', e'⟩ := List.mem_map.mp (ha p hp)
      exact ⟨p', hp', by rw [e']⟩
  · have hi : isInts ps = true := hi.resolve_right hr
    obtain ⟨ns, rfl⟩ := isInts_map hi
    rw [ints_vals hp] at hl
    rw [Vals.ref1 r]
    obtain ⟨its, rv, pl, hz⟩ := I.list hl
    rw [List.length_map] at h64
    refine set_of_ints ns (I.ok.hd hc) pl.isList (by simpa using rv.ints) (by unfold scanBound; omega) fun h' tk c R hc' k => ?_
    have hn : H s.heap.objs.size = none := I.hok.fresh (Nat.le_refl _)
    refine ⟨.ref s.heap.objs.size, upd H s.heap.objs.size (SetO X.w s.heap.objs.size (fun j => decide (j ∈ ns)) c), I.laid (t' := tk) k (Nat.le_refl _) (setO_new R), rfl, q _ _ hn (.inl ⟨_, c, rfl, by rw [List.length_map]; exact hc', hi, fun k => ?_⟩)⟩
    simp
theorem vp_ints {H : Hp} : ∀ (ns : List Int), PReps H (ns.map V.int) (ns.map P.int)
  | [] => .nil
  | i :: r => .cons (.int i) (vp_ints r)
theorem mem_int_map {ns : List Int} {x : P} : x ∈ ns.map P.int ↔ ∃ k, x = .int k ∧ k ∈ ns := by
  rw [List.mem_map]
  exact ⟨fun ⟨k, h, e⟩ => ⟨k, e.symm, h⟩, fun ⟨k, e, h⟩ => ⟨k, h, e.symm⟩⟩
theorem nodup_int_map {ns : List Int} (h : ns.Pairwise (· < ·)) : (ns.map P.int).Nodup := by
  rw [List.Nodup, List.pairwise_map]
  exact h.imp fun h e => by injection e with e; omega
theorem int_ltP (i j : Int) : ltP (.int i) (.int j) = decide (i < j) := by
  simp [ltP, toks, rowLt, signLt]
def rSortP (X : Cx) : List V → Hp → VK → Prop := fun xs H Q => ∃ a u ps, xs = [V.ref a] ∧ H a = some u ∧ SetIs X H a u ps ∧ canSort ps = true ∧ ps.length < 64 ∧
  ∀ H' p ys, (∀ b o, H b = some o → H' b = some o) → H' p = none → PReps H' ys (sortL (dedup ps)) → Q (.ref p) (upd H' p (.lst ys))
theorem cr_sortP (hc : X.calm = true) (hu : X.A.units + 70 < cLine) : CallR X (.builtin "sorted") (rSortP X) := by
  intro pins s σ H xs us Q I r ⟨a, u, ps, e, hu', hs, hcs, h64, q⟩
  subst e
  have hL : ps.length ≤ LINE := Nat.le_trans (Nat.le_of_lt h64) (by decide)
  rcases hs with ⟨S, n, rfl, hn, hi, hS⟩ | ⟨L, rfl, hr, h1, h2, h3⟩
  · refine cr_sortedSet hc pins s σ H _ us Q I r ⟨a, S, n, rfl, hu', by omega, fun ns p hp hm hl hn' => ?_⟩
    have hm' : ∀ x, x ∈ ns.map P.int ↔ x ∈ ps := fun x => by
      rw [mem_int_map]
      constructor
      · rintro ⟨k, rfl, hk⟩
        exact (hS k).mp ((hm k).mp hk)
      · intro hx
        obtain ⟨k, rfl⟩ := isInts_mem hi hx
        exact ⟨k, rfl, (hm k).mpr ((hS k).mpr hx)⟩
    obtain ⟨_, e⟩ := sset_eq (.inl hi) hcs (nodup_int_map hp) hm' (by rw [List.length_map, hl]; have : n < 64 := by omega
                                                                      exact Nat.le_trans (Nat.le_of_lt this) (by decide))
    refine q H p _ (fun _ _ h => h) hn' ?_
    rw [← e, sortL_id]
    · exact vp_ints ns
    · rw [List.pairwise_map]
      refine hp.imp fun {i j} h => ?_
      rw [int_ltP, decide_eq_false (by omega)]
      rfl
  · have R0 : SetT0 X.prog X.w s.heap a L := (I.hok a _ hu').1
    obtain ⟨es, ep, t, R⟩ := R0.full fun p hp => I.isT (h1 p hp).sq
    rw [Vals.ref1 r]
    obtain ⟨o, ho, hex, hd⟩ := R.ob
    have hfew := R.few
    have hsz := R.size
    refine sorted_of (l := dedup ps) hu (fun R' hR => ?_) q
    refine collect_set (A := X.A.in1) (I.ok.hd hc) ⟨o, ho, hex.1, hd⟩ R.fits (by unfold scanBound; omega) R.tab.ris R.led fun s1 vs k1 hz g1 o1 pm => ?_
    have hes : es.toList.map (·.2) = L.map fun q => Value.ref q.1 := by
      rw [R.rows]
      unfold rowsOf
      rw [List.map_map] <;> rfl
    rw [hes] at pm
    have J : Inv X pins σ H s1 := I.call' (ch := []) o1 (Un.kept k1) (I.hok.kept k1) (by rw [g1]; exact I.bare) (fun _ z => nomatch z)
    -- the rows, in the order in which they come
    have ord : ∀ vs : List Value, (∀ v ∈ vs, ∃ q ∈ L, v = Value.ref q.1) → ∃ L1 : List (Addr × List Int), vs = L1.map (fun q => Value.ref q.1) ∧ ∀ q ∈ L1, q ∈ L := by
      intro vs
      induction vs with
      | nil => exact fun _ => ⟨[], rfl, fun _ h => nomatch h⟩
      | cons v vs ih =>
        intro hv
        obtain ⟨p, hp, e⟩ := hv v (List.mem_cons_self ..)
        obtain ⟨L1, e1, hs⟩ := ih fun u hu => hv u (List.mem_cons_of_mem _ hu)
        refine ⟨p :: L1, by rw [e, e1]; rfl, fun x hx => ?_⟩
        rcases List.mem_cons.mp hx with rfl | hx
        · exact hp
        · exact hs x hx
    obtain ⟨L1, e1, hs1⟩ := ord vs fun v hv => by
      obtain ⟨p, hp, e⟩ := List.mem_map.mp (pm.mem_iff.mp hv)
      exact ⟨p, hp, e.symm⟩
    subst e1
    have one : ∀ p ∈ L, ∀ p' ∈ L, p.1 = p'.1 → p = p' := fun p hp p' hp' e => by
      have a1 := R.tup p hp
      have a2 := R.tup p' hp'
      rw [e] at a1
      exact Prod.ext e (a1.inj a2)
    have nL : L.Nodup := nodup_of_map R.nd
    have nref : (L.map fun q => Value.ref q.1).Nodup := by
      rw [List.Nodup, List.pairwise_map]
      refine List.Pairwise.imp_of_mem (fun {p p'} hp hp' hne e => ?_) nL
      injection e with e
      exact hne (one p hp p' hp' e)
    have n1 : L1.Nodup := nodup_of_map (pm.nodup_iff.mpr nref)
    have pL : L1.Perm L := (List.perm_ext_iff_of_nodup n1 nL).mpr fun p => ⟨hs1 p, fun hp => by
      obtain ⟨p', hp', e⟩ := List.mem_map.mp (pm.mem_iff.mpr (List.mem_map.mpr ⟨p, hp, rfl⟩))
      injection e with e
      rw [← one p' (hs1 p' hp') p hp e]
      exact hp'⟩
    have key : sortL (L1.map fun p => P.tup (p.2.map P.int)) = sortL (dedup ps) ∧ canSort (L1.map fun p => P.tup (p.2.map P.int)) = true := by
      have nd : (L1.map fun p => P.tup (p.2.map P.int)).Nodup := by
        have z : (L1.map (·.2)).Nodup := ((pL.map (·.2)).nodup_iff).mpr R.nd
        have e : (L1.map fun p => P.tup (p.2.map P.int)) = (L1.map (·.2)).map fun ns => P.tup (ns.map P.int) := by rw [List.map_map]; rfl
        rw [e, List.Nodup, List.pairwise_map]
        refine z.imp fun hne e => hne ?_
        injection e with e
        exact List.map_inj_right (fun x y (h : P.int x = P.int y) => by injection h) |>.mp e
      have z := sset_eq (.inr hr) hcs nd (fun x => ⟨fun hx => ?_, fun hx => ?_⟩) (by rw [List.length_map, pL.length_eq]; exact Nat.le_trans (Nat.le_of_lt hfew) (by decide))
      · exact ⟨z.2, z.1⟩
      · obtain ⟨p, hp, rfl⟩ := List.mem_map.mp hx
        exact h2 p (hs1 p hp)
      · obtain ⟨p, hp, rfl⟩ := h3 x hx
        exact List.mem_map.mpr ⟨p, pL.mem_iff.mpr hp, rfl⟩
    have each : ∀ L2 : List (Addr × List Int), (∀ p ∈ L2, p ∈ L) → PySem.W.EachIs (VP H) (L2.map fun q => Value.ref q.1) (L2.map fun p => P.tup (p.2.map P.int)) := by
      intro L2
      induction L2 with
      | nil => exact fun _ => .nil
      | cons p r ih =>
        intro hs
        exact .cons ⟨.ref p.1, rfl, .tup (h1 p (hs p (List.mem_cons_self ..))) (vp_ints _)⟩ (ih fun x hx => hs x (List.mem_cons_of_mem _ hx))
    exact hR s1 _ H _ J (fun _ _ h => h) (each L1 hs1) key.2 key.1
end
end PyI
set_option Elab.async false
set_option linter.all false
set_option maxRecDepth 100000
set_option maxHeartbeats 1000000
/-! PyS9: list, sorted of dicts, sorted items, dict, min, max. -/
namespace PyI
open PySem PySem.Spec PyProof.Rows L2

theorem each_of_get {α β : Type} {R : α → β → Prop} : ∀ {us : List α} {l : List β}, us.length = l.length → (∀ (j : Nat) (u : α) (x : β), us[j]? = some u → l[j]? = some x → R u x) → Paired R us l
  | [], [], _, _ => .nil
  | [], _ :: _, h, _ => by simp at h
  | _ :: _, [], h, _ => by simp at h
  | u :: us, x :: l, h, f => .cons (f 0 u x rfl rfl) (each_of_get (by simpa using h) fun j y w h1 h2 => f (j + 1) y w (by simpa using h1) (by simpa using h2))
theorem each_paired {α β : Type} {R : α → β → Prop} : ∀ {us : List α} {l : List β}, Paired R us l → PySem.W.EachIs R us l
  | _, _, .nil => .nil
  | _, _, .cons a t => .cons a (each_paired t)
theorem keys_each {ρ : List Addr} {H : Hp} {es : Array DictEntry} {acc : Array Value} {prs : List (P × D)} (hp : Paired (EntOk ρ H) es.toList prs) (hacc : ItemsOf (fun i v => ∃ en : DictEntry, es[i]? = some en ∧ v = en.key) acc es.size) :
    PySem.W.EachIs (VP H) acc.toList (prs.map (·.1)) := by
  refine each_paired (each_of_get ?_ fun j u x hu hx => ?_)
  · rw [Array.length_toList, hacc.1, List.length_map, ← hp.length, Array.length_toList]
  · obtain ⟨en, h1, h2⟩ := hacc.2 j u (by rw [← Array.getElem?_toList]; exact hu)
    rw [List.getElem?_map] at hx
    cases hq : prs[j]? with
    | none => rw [hq] at hx; cases hx
    | some q =>
      rw [hq] at hx
      cases hx
      obtain ⟨k, v, r1, r2, _⟩ : EntOk ρ H en q := by
        obtain ⟨y, e1, e2⟩ := paired_get hp hq
        rw [Array.getElem?_toList, h1] at e1
        cases e1
        exact e2
      exact ⟨k, by rw [h2]; exact r1, r2⟩
section
variable {X : Cx}
def rListD' : List V → Hp → VK → Prop := fun xs H Q => ∃ ρ a o, xs = [V.ref a] ∧ ORep ρ H a o ∧ isDict o = true ∧ ∀ p ys, H p = none → PReps H ys ((dPairs o).map (·.1)) → Q (.ref p) (upd H p (.lst ys))
theorem cr_listD (hc : X.calm = true) : CallR X (.type "list") rListD' := by
  intro pins s σ H xs us Q I r ⟨ρ, a, o, e, ho, hd, q⟩
  subst e
  rw [Vals.ref1 r]
  obtain ⟨ob, es, ep, h1, h2, h3, h4, h5, hp⟩ := dict_ents I ho hd
  refine PySem.W.kdl_call (kdl_raw h4 h2 h3) (I.ok.hd hc) h1 h5 fun h' tk acc' c' kp e it => ?_
  obtain ⟨ys, q1, q2⟩ := of_each (keys_each hp it)
  have hz : ys.length ≤ sizeLine := by rw [q1.length, Array.length_toList, it.1]; exact h5
  refine ⟨.ref s.heap.objs.size, _, I.laid (t' := tk) (o := .lst ys) kp (Nat.le_refl _) ?_, rfl, q _ _ (I.hok.fresh (Nat.le_refl _)) q2⟩
  exact ⟨hz, acc'.toList, c', q1, by rw [Array.toArray_toList]; exact e⟩
def rSortedD' : List V → Hp → VK → Prop := fun xs H Q => ∃ ρ a o, xs = [V.ref a] ∧ ORep ρ H a o ∧ isDict o = true ∧ canSort ((dPairs o).map (·.1)) = true ∧ ∀ H' p ys, (∀ b o, H b = some o → H' b = some o) → H' p = none → PReps H' ys (sortL ((dPairs o).map (·.1))) → Q (.ref p) (upd H' p (.lst ys))
theorem cr_sortedD (hc : X.calm = true) (hu : X.A.units + 70 < cLine) : CallR X (.builtin "sorted") rSortedD' := by
  intro pins s σ H xs us Q I r ⟨ρ, a, o, e, ho, hd, hs, q⟩
  subst e
  rw [Vals.ref1 r]
  obtain ⟨ob, es, ep, h1, h2, h3, h4, h5, hp⟩ := dict_ents I ho hd
  refine sorted_of (l := (dPairs o).map (·.1)) hu (fun R' hR => ?_) q
  refine PySem.W.kdu_collect (A := X.A.in1) (kdl_raw h4 h2 h3) (I.ok.hd hc) h1 h5 fun h' tk acc kp it => ?_
  exact hR _ _ H _ (I.kept (t' := tk) kp) (fun _ _ h => h) (keys_each hp it) hs rfl
def rItems' : V → List V → Hp → VK → Prop := fun x xs H Q => ∃ ρ a o, x = .ref a ∧ xs = [] ∧ ORep ρ H a o ∧ isDict o = true ∧ ∀ p, H p = none → Q (.ref p) (upd H p (DX.itemsO p a))
theorem mt_items' : MtR X "dict.items" rItems' := by
  intro pins s σ H x xs v us Q I rx rxs ⟨ρ, a, o, e1, e2, ho, hd, q⟩
  subst e1 e2
  cases rx
  cases rxs
  obtain ⟨ob, es, ep, h1, h2, h3, h4, h5, hp⟩ := dict_ents I ho hd
  refine DT.callItems (es := es) (ep := ep) h4 ⟨ob, h1, h2, h3⟩ ?_
  have hf : H s.heap.objs.size = none := I.hok.fresh (Nat.le_refl _)
  exact ⟨.ref s.heap.objs.size, upd H s.heap.objs.size (DX.itemsO s.heap.objs.size a), I.laid (t' := s.toks) (fun b u e => Heap.get?_push_of_some _ e) (Nat.le_refl _) (DX.itemsO_ok (Heap.get?_push_size _ rfl)), rfl, q _ hf⟩
/-- new tuples are tracked, as their data is -/
theorem takeU {pins : List (Addr × Obj)} {σ : L2.St} {H0 : Hp} {s : Shared} {h' : Heap} {tk : Nat} (I0 : Inv X pins σ H0 s) : ∀ (L : List (Addr × P)) (H1 : Hp), Inv X pins σ H1 { s with heap := h', toks := tk } → (L.map (·.1)).Nodup →
    (∀ q ∈ L, s.heap.objs.size ≤ q.1 ∧ H1 q.1 = none ∧ ∃ vs its l, q.2 = .tup l ∧ PReps H1 vs l ∧ vs.length ≤ sizeLine ∧ Vals vs its ∧ h'.get? q.1 = some { cls := .type "tuple", data := .seq its.toArray }) →
    ∃ H2, Inv X pins σ H2 { s with heap := h', toks := tk } ∧ (∀ b o, H1 b = some o → H2 b = some o) ∧ ∀ q ∈ L, PRep H2 (.ref q.1) q.2
  | [], H1, I1, _, _ => ⟨H1, I1, fun _ _ e => e, fun _ h => nomatch h⟩
  | q :: L, H1, I1, hn, h => by
    obtain ⟨hb, hnone, vs, its, l, e, hv, hz, rv, hg⟩ := h q (List.mem_cons_self ..)
    obtain ⟨u, hu1, hu2⟩ : ∃ u, Inv X pins σ (upd H1 q.1 u) { s with heap := h', toks := tk } ∧ PRep (upd H1 q.1 u) (.ref q.1) q.2 := by
      have up : PReps (upd H1 q.1 (.tup vs)) vs l ∧ ∀ o, PReps (upd H1 q.1 (.frz o (.tup vs))) vs l := ⟨hv.fut (Fut.new (ρ := []) hnone), fun o => hv.fut (Fut.new (ρ := []) hnone)⟩
      rw [e]
      cases ek : keyish l with
      | true => exact ⟨.tup vs, I1.take (h' := h') (t' := tk) (fun b ob _ e => e) (I0.fpOk hb hnone) (show ObjOk X.prog X.w _ _ _ (.tup vs) from ⟨hz, its, rv, _, hg, rfl, 0, rfl⟩), .tup (.inl ⟨ek, upd_same⟩) up.1⟩
      | false => exact ⟨.frz { cls := .type "tuple", data := .seq its.toArray } (.tup vs), I1.take (h' := h') (t' := tk) (fun b ob _ e => e) (I0.fpOk hb hnone) (show ObjOk X.prog X.w _ _ _ (.frz _ (.tup vs)) from ⟨hg, hz, its, rv, _, hg, rfl, 0, rfl⟩), .tup (.inr ⟨ek, _, upd_same, rfl⟩) (up.2 _)⟩
    rw [List.map_cons, List.nodup_cons] at hn
    obtain ⟨H2, I3, g, r⟩ := takeU I0 L (upd H1 q.1 u) hu1 hn.2 fun c hc => by
      obtain ⟨c1, c2, vs', its', l', c3, c4, c5⟩ := h c (List.mem_cons_of_mem _ hc)
      refine ⟨c1, by rw [upd_ne (fun z => hn.1 (by rw [← z]; exact List.mem_map.mpr ⟨c, hc, rfl⟩))]; exact c2, vs', its', l', c3, c4.fut (Fut.new (ρ := []) hnone), c5⟩
    refine ⟨H2, I3, fun b o e => g b o (by rw [upd_ne (ne_of_none e hnone)]; exact e), fun c hc => ?_⟩
    rcases List.mem_cons.mp hc with rfl | hc
    · exact hu2.mono (fun a xs h => g a _ h) (fun a o u h => g a _ h)
    · exact r c hc
def rSortItems : List V → Hp → VK → Prop := fun xs H Q => ∃ ρ p a o l, xs = [V.ref p] ∧ H p = some (DX.itemsO p a) ∧ ORep ρ H a o ∧ dItems o = some l ∧ canSort l = true ∧ ∀ H' p ys, (∀ b o, H b = some o → H' b = some o) → H' p = none → PReps H' ys (sortL l) → Q (.ref p) (upd H' p (.lst ys))
theorem cr_sortItems (hc : X.calm = true) (hu : X.A.units + 70 < cLine) : CallR X (.builtin "sorted") rSortItems := by
  intro pins s σ H xs us Q I r ⟨ρ, p, a, o, l, e, hv, ho, hl, hs, q⟩
  subst e
  rw [Vals.ref1 r]
  obtain ⟨hd, hl1, hl2⟩ := dItems_eq hl
  obtain ⟨ob, es, ep, h1, h2, h3, h4, h5, hp⟩ := dict_ents I ho hd
  have view : s.heap.IsItemsView p a := (show ObjOk X.prog X.w H s.heap p (DX.itemsO p a) from I.hok p _ hv).1
  refine sorted_of (l := l) hu (fun R' hR => ?_) q
  refine DT.collectI (A := X.A.in1) (es := es) (ep := ep) (I.ok.hd hc) view ⟨ob, h1, h2, h3⟩ h5 fun h' tk as kp hlt hlen hG => ?_
  have hal : as.length = l.length := by rw [hlen, hl1, ← hp.length, Array.length_toList]
  have nd : as.Nodup := List.Pairwise.imp (fun h => Nat.ne_of_lt h) hG.rise
  have I1 : Inv X pins σ H { s with heap := h', toks := tk } := I.kept kp
  obtain ⟨H2, I2, g, pr⟩ := takeU (h' := h') (tk := tk) I (as.zip l) H I1 (by rw [List.map_fst_zip (Nat.le_of_eq hal)]; exact nd) fun z hz => by
    obtain ⟨j, hj⟩ := List.mem_iff_getElem?.mp hz
    obtain ⟨ha, hx⟩ := List.getElem?_zip_eq_some.mp hj
    have hge : s.heap.objs.size < z.1 := hG.above _ (List.mem_of_getElem? ha)
    refine ⟨Nat.le_of_lt hge, I.hok.fresh (Nat.le_of_lt hge), ?_⟩
    obtain ⟨en, he, hg⟩ := hG.pairs j _ ha
    obtain ⟨pd, hpd, k, v, r1, r2, r3, r4⟩ := paired_getL hp (by rw [Array.getElem?_toList]; exact he)
    obtain ⟨y, e1, e2⟩ := hl2 j pd hpd
    rw [hx] at e2
    rw [e1] at r4
    exact ⟨[k, v], [en.key, en.val], [pd.1, y], Option.some.inj e2, .cons r2 (.cons r4 .nil), by rw [sizeLine_eq]; show 2 ≤ 16777216; decide, .cons r1 (.cons r3 .nil), hg⟩
  refine hR _ _ H2 l I2 g (each_paired (each_of_get (by rw [List.length_map]; exact hal) fun j u x hu hx => ?_)) hs rfl
  rw [List.getElem?_map] at hu
  cases ha : as[j]? with
  | none => rw [ha] at hu; cases hu
  | some b =>
    rw [ha] at hu
    cases hu
    exact ⟨.ref b, rfl, pr (b, x) (List.mem_of_getElem? (List.getElem?_zip_eq_some.mpr ⟨ha, hx⟩))⟩
end
end PyI
set_option Elab.async false
set_option linter.all false
set_option maxRecDepth 100000
set_option maxHeartbeats 1000000
/-! PyS10: dict of pairs. -/
namespace PyI
open PySem PySem.Spec PyProof.Rows L2

structure Ent where
  a : Addr
  k : Value
  v : Value
  kv : V
  vv : V
  kp : P
  vp : P
instance : Inhabited Ent := ⟨⟨0, .none, .none, .non, .non, .non, .non⟩⟩
def EntIs (H : Hp) (h : Heap) (e : Ent) : Prop := h.IsTuple e.a #[e.k, e.v] ∧ RelV e.kv e.k ∧ PRep H e.kv e.kp ∧ RelV e.vv e.v ∧ PRep H e.vv e.vp
def isPair : P → Bool
  | .tup [_, _] => true
  | _ => false
section
variable {X : Cx} {pins : List (Addr × Obj)} {σ : L2.St} {H : Hp} {s : Shared}
theorem ent_cons {h : Heap} {a : Addr} {k v : Value} {kv vv : V} {kp vp : P} {us : List Value} {l : List P} {es : List Ent} (pl : h.IsTuple a #[k, v]) (r1 : RelV kv k) (q1 : PRep H kv kp) (r2 : RelV vv v) (q2 : PRep H vv vp)
    (e1 : us = es.map (fun e => Value.ref e.a)) (e2 : l = es.map (fun e => P.tup [e.kp, e.vp])) (e3 : ∀ e ∈ es, EntIs H h e) : ∃ es : List Ent, Value.ref a :: us = es.map (fun e => Value.ref e.a) ∧ P.tup [kp, vp] :: l = es.map (fun e => P.tup [e.kp, e.vp]) ∧ ∀ e ∈ es, EntIs H h e := by
  refine ⟨⟨a, k, v, kv, vv, kp, vp⟩ :: es, by rw [e1]; rfl, by rw [e2]; rfl, fun x hx => ?_⟩
  rcases List.mem_cons.mp hx with rfl | hx
  · exact ⟨pl, r1, q1, r2, q2⟩
  · exact e3 x hx
theorem ents_of (I : Inv X pins σ H s) : ∀ {vs : List V} {l : List P} {us : List Value}, PReps H vs l → Vals vs us → l.all isPair = true → ∃ es : List Ent, us = es.map (fun e => Value.ref e.a) ∧ l = es.map (fun e => P.tup [e.kp, e.vp]) ∧ ∀ e ∈ es, EntIs H s.heap e
  | _, _, _, .nil, .nil, _ => ⟨[], rfl, rfl, fun _ h => nomatch h⟩
  | _, _, _, .cons a t, .cons r rt, h => by
    rw [List.all_cons, Bool.and_eq_true] at h
    obtain ⟨es, e1, e2, e3⟩ := ents_of I t rt h.2
    cases a with
    | tup e q =>
      cases q with
      | nil => cases h.1
      | cons q1 q2 =>
        cases q2 with
        | nil => cases h.1
        | cons q2 q3 =>
          cases q3 with
          | cons _ _ => cases h.1
          | nil =>
            cases r
            obtain ⟨its, rv, pl, _⟩ := I.tuple (e.sq (K := X.K))
            cases rv with
            | cons r1 rv =>
              cases rv with
              | cons r2 rv =>
                cases rv
                exact ent_cons pl r1 q1 r2 q2 e1 e2 e3
    | _ => cases h.1
theorem putAllK_ok : ∀ {l : List P} {acc r : List (Key × D)}, putAllK l acc = some r → l.all isPair = true ∧ ∀ es : List Ent, l = es.map (fun e => P.tup [e.kp, e.vp]) → (∀ e ∈ es, ∃ k, toKey e.kp = some k) ∧ r = es.foldl (fun acc e => putK acc ((toKey e.kp).getD (.inl 0)) (.p e.vp)) acc := by
  intro l
  induction l with
  | nil =>
    intro acc r h
    cases h
    refine ⟨rfl, fun es he => ?_⟩
    cases es with
    | nil => exact ⟨fun _ h => (nomatch h), rfl⟩
    | cons e es => cases he
  | cons x l ih =>
    intro acc r h
    unfold putAllK at h
    split at h
    · cases ‹x :: l = []›
    · rename_i k v r' acc' e
      cases e
      split at h
      · rename_i kk ek
        obtain ⟨h1, h2⟩ := ih h
        refine ⟨by rw [List.all_cons, h1]; rfl, fun es he => ?_⟩
        cases es with
        | nil => cases he
        | cons e es =>
          rw [List.map_cons] at he
          injection he with he1 he2
          injection he1 with he1
          injection he1 with hk hv
          injection hv with hv _
          obtain ⟨h3, h4⟩ := h2 es he2
          refine ⟨fun y hy => ?_, ?_⟩
          · rcases List.mem_cons.mp hy with rfl | hy
            · exact ⟨kk, by rw [← hk]; exact ek⟩
            · exact h3 y hy
          · rw [List.foldl_cons, h4, ← hk, ← hv, ek]
            rfl
      · cases h
    · cases h
theorem putAllT_ok : ∀ {l : List P} {acc r : List (List Key × D)}, putAllT l acc = some r → l.all isPair = true ∧ ∀ es : List Ent, l = es.map (fun e => P.tup [e.kp, e.vp]) → (∀ e ∈ es, ∃ k, toKeyT e.kp = some k) ∧ r = es.foldl (fun acc e => putK acc ((toKeyT e.kp).getD default) (.p e.vp)) acc := by
  intro l
  induction l with
  | nil =>
    intro acc r h
    cases h
    refine ⟨rfl, fun es he => ?_⟩
    cases es with
    | nil => exact ⟨fun _ h => (nomatch h), rfl⟩
    | cons e es => cases he
  | cons x l ih =>
    intro acc r h
    unfold putAllT at h
    split at h
    · cases ‹x :: l = []›
    · rename_i k v r' acc' e
      cases e
      split at h
      · rename_i kk ek
        obtain ⟨h1, h2⟩ := ih h
        refine ⟨by rw [List.all_cons, h1]; rfl, fun es he => ?_⟩
        cases es with
        | nil => cases he
        | cons e es =>
          rw [List.map_cons] at he
          injection he with he1 he2
          injection he1 with he1
          injection he1 with hk hv
          injection hv with hv _
          obtain ⟨h3, h4⟩ := h2 es he2
          refine ⟨fun y hy => ?_, ?_⟩
          · rcases List.mem_cons.mp hy with rfl | hy
            · exact ⟨kk, by rw [← hk]; exact ek⟩
            · exact h3 y hy
          · rw [List.foldl_cons, h4, ← hk, ← hv, ek]
            rfl
      · cases h
    · cases h
theorem kreps_put {κ : Type} [DecidableEq κ] {ρ : List Addr} {H : Hp} {ks : List (κ × V)} {kvs : List (κ × D)} (k : κ) {v : V} {d : D} (r : KReps ρ H ks kvs) (hv : DRep ρ H v d) : KReps ρ H (L2.putK ks k v) (putK kvs k d) := by
  have e : (ks.any fun kv => decide (kv.1 = k)) = kvs.any fun kv => decide (kv.1 = k) := by
    induction r with
    | nil => rfl
    | cons a t ih => rw [List.any_cons, List.any_cons, a.1, ih]
  unfold L2.putK putK
  rw [e]
  split
  · clear e
    rename_i h
    clear h
    induction r with
    | nil => exact .nil
    | cons a t ih =>
      rename_i p q ps qs
      refine .cons ?_ ih
      show (if p.1 = k then (p.1, v) else p).1 = (if q.1 = k then (q.1, d) else q).1 ∧ DRep ρ H (if p.1 = k then (p.1, v) else p).2 (if q.1 = k then (q.1, d) else q).2
      rw [← a.1]
      split
      · exact ⟨rfl, hv⟩
      · exact a
  · exact paired_append r (.cons ⟨rfl, hv⟩ .nil)
theorem put_len {κ : Type} [DecidableEq κ] (ks : List (κ × V)) (k : κ) (v : V) : (L2.putK ks k v).length ≤ ks.length + 1 := by
  unfold L2.putK
  split
  · rw [List.length_map]; omega
  · rw [List.length_append]; exact Nat.le_refl _
/-- the source of dict(..) -/
def SrcAt (K : Fr) (H : Hp) (a : Addr) (vs : List V) : Prop := SqL K H a vs ∨ ∃ o, H a = some (.frz o (.tup vs)) ∧ o.dict = none
def rDictP (K : Fr) : List V → Hp → VK → Prop := fun xs H Q => ∃ a vs l o, xs = [V.ref a] ∧ SrcAt K H a vs ∧ PReps H vs l ∧ dictOf l = some o ∧ ∀ p u, H p = none → (∀ ρ, ORep ρ (upd H p u) p o) → (∀ xs, u ≠ .tup xs) → Q (.ref p) (upd H p u)
theorem fold_rep {κ : Type} [DecidableEq κ] {ρ : List Addr} {H : Hp} (f : Ent → κ) : ∀ (es : List Ent) {ks : List (κ × V)} {kvs : List (κ × D)}, (∀ e ∈ es, PRep H e.vv e.vp) → KReps ρ H ks kvs → KReps ρ H (es.foldl (fun acc e => L2.putK acc (f e) e.vv) ks) (es.foldl (fun acc e => putK acc (f e) (.p e.vp)) kvs)
  | [], _, _, _, r => r
  | e :: es, _, _, h, r => by
    rw [List.foldl_cons, List.foldl_cons]
    exact fold_rep f es (fun x hx => h x (List.mem_cons_of_mem _ hx)) (kreps_put (f e) r (h e (List.mem_cons_self ..)))
theorem fold_len {κ : Type} [DecidableEq κ] (f : Ent → κ) : ∀ (es : List Ent) (ks : List (κ × V)), (es.foldl (fun acc e => L2.putK acc (f e) e.vv) ks).length ≤ ks.length + es.length
  | [], ks => Nat.le_refl _
  | e :: es, ks => by
    rw [List.foldl_cons, List.length_cons]
    have h1 := fold_len f es (L2.putK ks (f e) e.vv)
    have h2 := put_len ks (f e) e.vv
    omega
theorem fold_KT {H : Hp} (f : Ent → List Key) (b : Ent → Addr) : ∀ (es : List Ent) {ks : List (List Key × V)} {xs : List (List Key × Addr × Value)}, (∀ e ∈ es, H (b e) = some (.tup ((f e).map kV)) ∧ RelV e.vv e.v) → KT H ks xs →
    KT H (es.foldl (fun acc e => L2.putK acc (f e) e.vv) ks) (PySem.storedAllH xs (es.map fun e => (f e, b e, e.v)))
  | [], _, _, _, r => r
  | e :: es, _, _, h, r => by
    obtain ⟨h1, h2⟩ := h e (List.mem_cons_self ..)
    exact fold_KT f b es (fun x hx => h x (List.mem_cons_of_mem _ hx)) (r.put (f e) h1 h2)
theorem fold_KV {f : Ent → Key} : ∀ (es : List Ent) {ks : List (Key × V)} {xs : List (Key × Value)}, (∀ e ∈ es, RelV e.vv e.v) → KV ks xs → KV (es.foldl (fun acc e => L2.putK acc (f e) e.vv) ks) (merged xs (es.map fun e => (f e, e.v)))
  | [], _, _, _, r => r
  | e :: es, _, _, h, r => fold_KV es (fun x hx => h x (List.mem_cons_of_mem _ hx)) (r.put (f e) (h e (List.mem_cons_self ..)))
end
section
variable {X : Cx}
theorem dictOf_ok {l : List P} {o : O} (h : dictOf l = some o) : (∃ r, putAllT l [] = some r ∧ o = .dT r ∧ l ≠ []) ∨ ∃ r, putAllK l [] = some r ∧ o = .dK r := by
  unfold dictOf at h
  split at h
  · obtain ⟨r, h1, h2⟩ := Option.map_eq_some_iff.mp h
    exact .inl ⟨r, h1, h2.symm, fun z => (nomatch z)⟩
  · obtain ⟨r, h1, h2⟩ := Option.map_eq_some_iff.mp h
    exact .inr ⟨r, h1, h2.symm⟩
/-- how dict(..) asks its argument -/
theorem src_arg {pins : List (Addr × Obj)} {σ : L2.St} {H : Hp} {s : Shared} (I : Inv X pins σ H s) {a : Addr} {vs : List V} (h : SrcAt X.K H a vs) : ∃ (T : String) (its : List Value), Vals vs its ∧ vs.length ≤ sizeLine ∧ ∀ (Ts : Nat → Addr) (ps : List (Value × Value)), PySem.PairItems s.heap its.toArray Ts ps →
    ∃ fp, ∃ OK : Heap → Prop, PySem.PairArg X.prog X.w T a fp [] ps.length (PySem.PairRel ps) OK ∧ OK s.heap := by
  rcases h with h | ⟨o, ho, hd⟩
  · obtain ⟨its, rv, pl, hz⟩ := I.list h
    obtain ⟨o, n, ho, hc, hd, hdat⟩ := pl
    exact ⟨"list", its, rv, hz, fun Ts ps hp => ⟨_, _, PySem.PairArg.list a its.toArray Ts ps, ⟨o, n, ho, hc, hd, hdat⟩, hp⟩⟩
  · obtain ⟨hg, hz, its, rv, o', ho', hc, n, hdat⟩ := (show ObjOk X.prog X.w H s.heap a (.frz o (.tup vs)) from I.hok a _ ho)
    rw [hg] at ho'
    cases ho'
    exact ⟨"tuple", its, rv, hz, fun Ts ps hp => ⟨_, _, PySem.PairArg.tuple a its.toArray Ts ps, ⟨o, n, hg, hc, hd, hdat⟩, hp⟩⟩
theorem cr_dictP (hc : X.calm = true) (hu : X.A.units + 70 < cLine) : CallR X (.type "dict") (rDictP X.K) := by
  intro pins s σ H xs us Q I r ⟨a, vs, l, o, e, hsrc, hp, hdo, q⟩
  subst e
  rw [Vals.ref1 r]
  obtain ⟨T, its, rv, hz, harg⟩ := src_arg I hsrc
  have hlow : (s.heap.objs.size == sysModules) = false := beq_eq_false_iff_ne.mpr (Nat.ne_of_gt I.big)
  have hnone : H s.heap.objs.size = none := I.hok.fresh (Nat.le_refl _)
  have key : ∀ es : List Ent, its = es.map (fun e => Value.ref e.a) → (∀ e ∈ es, EntIs H s.heap e) → ∃ fp, ∃ OK : Heap → Prop, PySem.PairArg X.prog X.w T a fp [] es.length (PySem.PairRel (es.map fun e => (e.k, e.v))) OK ∧ OK s.heap := by
    intro es h1 h2
    obtain ⟨fp, OK, pa, ok⟩ := harg (fun j => (es.getD j default).a) (es.map fun e => (e.k, e.v)) ⟨by rw [List.size_toArray, h1, List.length_map, List.length_map], fun j k v hj => by
      rw [List.getElem?_map] at hj
      cases he : es[j]? with
      | none => rw [he] at hj; cases hj
      | some e =>
        rw [he] at hj
        cases hj
        have eg : es.getD j default = e := by rw [List.getD_eq_getElem?_getD, he]; rfl
        dsimp only
        rw [eg]
        exact ⟨by rw [h1]; simp [he], .inl (h2 e (List.mem_of_getElem? he)).1⟩⟩
    rw [List.length_map] at pa
    exact ⟨fp, OK, pa, ok⟩
  have caseK : ∀ r0, putAllK l [] = some r0 → o = .dK r0 → wpAny (model X.prog X.w) X.A (call (.type "dict") [.ref a]) (EP X pins σ Q) X.xe s := by
    intro r0 hput ho
    subst ho
    obtain ⟨h1, h2⟩ := putAllK_ok hput
    obtain ⟨es, e1, e2, e3⟩ := ents_of I hp rv h1
    obtain ⟨h3, h4⟩ := h2 es e2
    have hlen : es.length ≤ sizeLine := by rw [rv.length, e1, List.length_map] at hz; exact hz
    obtain ⟨fp, OK, pa, ok⟩ := key es e1 e3
    refine PySem.call_dict_pairs (knd := mixKind X.prog X.w) (kvs := es.map fun e => ((toKey e.kp).getD (.inl 0), e.v)) pa (I.ok.hd hc) ok ⟨List.length_map .., fun i k v hr => ?_⟩ hlen fun h' tk hd' kp => ?_
    · have hr : (es.map fun e => (e.k, e.v))[i]? = some (k, v) := hr
      rw [List.getElem?_map] at hr
      cases he : es[i]? with
      | none => rw [he] at hr; cases hr
      | some e =>
        rw [he] at hr
        cases hr
        have hm := List.mem_of_getElem? he
        obtain ⟨k, hk⟩ := h3 e hm
        obtain ⟨_, r1, r2, _, _⟩ := e3 e hm
        refine ⟨k, by rw [List.getElem?_map, he]; simp [hk], kV_is ?_⟩
        rw [← toKey_ok r2 hk]
        exact r1
    · have kv := fold_KV (f := fun e => (toKey e.kp).getD (.inl 0)) es (ks := []) (xs := []) (fun e he => (e3 e he).2.2.2.1) .nil
      refine ⟨.ref s.heap.objs.size, _, I.laid (t' := tk) (o := .dK (es.foldl (fun acc e => L2.putK acc ((toKey e.kp).getD (.inl 0)) e.vv) [])) (fun b o e => kp b o (by simp) e) (Nat.le_refl _) ?_, rfl, q _ (.dK (es.foldl (fun acc e => L2.putK acc ((toKey e.kp).getD (.inl 0)) e.vv) [])) hnone (fun ρ => ?_) (fun _ z => nomatch z)⟩
      · refine ⟨?_, hlow, _, kv, hd'⟩
        refine Nat.le_trans (fold_len (fun e => (toKey e.kp).getD (.inl 0)) es []) ?_
        rw [List.length_nil]
        omega
      · refine ⟨_, upd_same, ?_⟩
        rw [h4]
        exact fold_rep _ es (fun e he => (e3 e he).2.2.2.2.fut (Fut.new (ρ := []) hnone)) .nil
  have caseT : ∀ r0, putAllT l [] = some r0 → o = .dT r0 → wpAny (model X.prog X.w) X.A (call (.type "dict") [.ref a]) (EP X pins σ Q) X.xe s := by
    intro r0 hput ho
    subst ho
    obtain ⟨h1, h2⟩ := putAllT_ok hput
    obtain ⟨es, e1, e2, e3⟩ := ents_of I hp rv h1
    obtain ⟨h3, h4⟩ := h2 es e2
    have hlen : es.length ≤ sizeLine := by rw [rv.length, e1, List.length_map] at hz; exact hz
    obtain ⟨fp, OK, pa, ok⟩ := key es e1 e3
    have hb : ∀ e ∈ es, ∃ b, e.k = .ref b ∧ H b = some (.tup (((toKeyT e.kp).getD default).map kV)) := fun e he => by
      obtain ⟨k, hk⟩ := h3 e he
      obtain ⟨_, r1, r2, _, _⟩ := e3 e he
      obtain ⟨b, hb1, hb2⟩ := toKeyT_ok r2 hk
      rw [hb1] at r1
      have r1 : e.k = .ref b := r1
      exact ⟨b, r1, by rw [hk]; exact hb2⟩
    let bo : Ent → Addr := fun e => match e.k with
      | .ref b => b
      | _ => 0
    have hbo : ∀ e ∈ es, e.k = .ref (bo e) ∧ H (bo e) = some (.tup (((toKeyT e.kp).getD default).map kV)) := fun e he => by
      obtain ⟨b, h1, h2⟩ := hb e he
      have : bo e = b := by show (match e.k with | .ref b => b | _ => 0) = b; rw [h1]
      rw [this]
      exact ⟨h1, h2⟩
    refine PySem.call_dict_pairsH (knd := tupleKind (mixKind X.prog X.w)) (ps := es.map fun e => ((toKeyT e.kp).getD default, bo e, e.v)) pa (I.ok.hd hc) (tupleKind_room_in1 (by show X.A.units + 1 + 1 < cLine; omega)) ok ⟨List.length_map .., fun i k v hr => ?_⟩ (fun h' hk x hx => ?_) hlen fun h' tk hd' kp => ?_
    · have hr : (es.map fun e => (e.k, e.v))[i]? = some (k, v) := hr
      rw [List.getElem?_map] at hr
      cases he : es[i]? with
      | none => rw [he] at hr; cases hr
      | some e =>
        rw [he] at hr
        cases hr
        exact ⟨_, _, by rw [List.getElem?_map, he]; rfl, (hbo e (List.mem_of_getElem? he)).1⟩
    · obtain ⟨e, he, rfl⟩ := List.mem_map.mp hx
      have kk := key_of I.hok (hbo e he).2
      have hne : bo e < s.heap.objs.size := by
        obtain ⟨o, _, _, ho, _⟩ := kk
        exact Heap.lt_size ho
      obtain ⟨o, its', n, ho, h5, h6, h7⟩ := kk
      exact ⟨o, its', n, hk _ _ (Nat.ne_of_lt hne) (by simp) ho, h5, h6, h7⟩
    · have I1 : Inv X pins σ H { s with heap := h', toks := tk } := I.kept fun b o e => kp b o (by simp) e
      have up : ∀ b xs, H b = some (.tup xs) → upd H s.heap.objs.size (.dT (es.foldl (fun acc e => L2.putK acc ((toKeyT e.kp).getD default) e.vv) [])) b = some (.tup xs) := fun b xs e => by rw [upd_ne (ne_of_none e hnone)]; exact e
      have kt := fold_KT (H := upd H s.heap.objs.size (.dT (es.foldl (fun acc e => L2.putK acc ((toKeyT e.kp).getD default) e.vv) []))) (fun e => (toKeyT e.kp).getD default) bo es (ks := []) (xs := []) (fun e he => ⟨up _ _ (hbo e he).2, (e3 e he).2.2.2.1⟩) .nil
      obtain ⟨ob, ees, ep, g1, g2, g3, g4, _, g5⟩ := hd'
      refine ⟨.ref s.heap.objs.size, _, I.laid (t' := tk) (o := .dT (es.foldl (fun acc e => L2.putK acc ((toKeyT e.kp).getD default) e.vv) [])) (fun b o e => kp b o (by simp) e) (Nat.le_refl _) ?_, rfl, q _ (.dT (es.foldl (fun acc e => L2.putK acc ((toKeyT e.kp).getD default) e.vv) [])) hnone (fun ρ => ?_) (fun _ z => nomatch z)⟩
      · refine ⟨?_, hlow, _, kt, ob, ees, ep, g1, g2, g3, g4, g5⟩
        refine Nat.le_trans (fold_len (fun e => (toKeyT e.kp).getD default) es []) ?_
        rw [List.length_nil]
        omega
      · refine ⟨_, upd_same, ?_⟩
        rw [h4]
        exact fold_rep _ es (fun e he => (e3 e he).2.2.2.2.fut (Fut.new (ρ := []) hnone)) .nil
  rcases dictOf_ok hdo with ⟨r0, h1, h2, _⟩ | ⟨r0, h1, h2⟩
  · exact caseT r0 h1 h2
  · exact caseK r0 h1 h2
end
end PyI
set_option Elab.async false
set_option linter.all false
set_option maxRecDepth 100000
set_option maxHeartbeats 1000000
/-! PyS11: the built-ins as the interpreter has them; methods. -/
namespace PyI
open PySem PySem.Spec PyProof.Rows L2

section
variable {K : Fr} {ρ ρ' : List Addr} {H H' : Hp} {S : Sto} {Q : VK} {v w : V}
theorem get_last {l : List Addr} {a : Addr} : (l ++ [a])[l.length]? = some a := by
  rw [List.getElem?_append_right (Nat.le_refl _), Nat.sub_self]
  rfl
/-- a new object comes into the store -/
theorem fin_obj {o : O} {p : Addr} {u : HO} (f : Fut ρ H ρ' H') (s : Sim ρ' H' S) (k : Post K ρ H (.val (.ref S.length)) (S ++ [o]) Q) (n : H' p = none) (r : ∀ ρ, ORep ρ (upd H' p u) p o) : Q (.ref p) (upd H' p u) := by
  have fn : Fut ρ' H' ρ' (upd H' p u) := Fut.new n
  refine k (ρ' ++ [p]) (.ref p) _ ((f.trans fn).enter (f.fresh n)) (s.enter (s.free n) (fn.enter n) (fun b m => upd_ne fun e => s.free n (e ▸ m)) (r _)) ⟨p, ?_, rfl⟩
  rw [← s.len]
  exact get_last
/-- a new list of data -/
theorem fin_tlP {l : List P} {xs : List V} {H2 : Hp} {p : Addr} (f : Fut ρ H ρ' H') (s : Sim ρ' H' S) (k : Post K ρ H (.tl (toDs l)) S Q) (g : ∀ b o, H' b = some o → H2 b = some o) (r : PReps H2 xs l) (n : H2 p = none) : Q (.ref p) (upd H2 p (.lst xs)) := by
  have fg : Fut ρ' H' ρ' H2 := ⟨⟨[], by simp, fun a h => absurd h (by simp)⟩, fun a o h _ => g a o h, fun a xs h => g a _ h, fun a o u h => g a _ h, fun a o h => ⟨o, g a o h⟩⟩
  have sg : Sim ρ' H2 S := s.mono fg fun a m => by
    obtain ⟨i, e⟩ := s.mem m
    obtain ⟨o, _, q⟩ := s.at e
    obtain ⟨u, hu⟩ := q.there
    rw [hu, g a u hu]
  exact fin_tl (f.trans fg) sg k (PReps.toD r) n
end
section
variable {X : Cx}
theorem kt (hu : X.A.units + 80 < cLine) : X.A.units + 70 < cLine := by omega
theorem bi_list (hc : X.calm = true) : BiOk X (.type "list") (biR .list) := by
  refine ⟨_, call_list_of.or (cr_listD hc), fun {ρ ρ' H H' S S' x v r Q} f s rv h k => ?_⟩
  unfold biR at h
  dsimp only at h
  split at h
  · rename_i l e
    cases h
    obtain ⟨p, xs, rfl, h1, h2, h3⟩ := seqR_ok s rv e
    exact .inl ⟨p, xs, rfl, h1, fun q n => fin_tl f s k h3 n⟩
  · split at h
    · rename_i o e
      cases ek : dKeys o with
      | none => rw [ek] at h; cases h
      | some l =>
        rw [ek] at h
        cases h
        obtain ⟨p, rfl, ho, _⟩ := objR_ok s rv e
        obtain ⟨hd, rfl⟩ := dKeys_eq ek
        exact .inr ⟨ρ', p, o, rfl, ho, hd, fun q ys n hy => fin_tl f s k (PReps.toD hy) n⟩
    · cases h
theorem sortP_ok {l m : List P} (h : sortP l = some m) : canSort l = true ∧ m = sortL l := by
  unfold sortP at h
  split at h
  · rename_i e
    cases h
    exact ⟨e, rfl⟩
  · cases h
theorem bi_sorted (hc : X.calm = true) (hu : X.A.units + 80 < cLine) : BiOk X (.builtin "sorted") (biR .sorted) := by
  refine ⟨_, (cr_srt (kt hu)).or (cr_sortedD hc (kt hu)), fun {ρ ρ' H H' S S' x v r Q} f s rv h k => ?_⟩
  unfold biR at h
  dsimp only at h
  split at h
  · rename_i l e
    cases es : sortP l with
    | none => rw [es] at h; cases h
    | some m =>
      rw [es] at h
      cases h
      obtain ⟨h1, rfl⟩ := sortP_ok es
      obtain ⟨p, xs, rfl, h2, h3⟩ := lstP_ok s rv e
      exact .inl ⟨p, xs, l, rfl, h2, h3, h1, fun q ys n hy => fin_tl f s k (PReps.toD hy) n⟩
  · split at h
    · rename_i o e
      split at h
      · rename_i l ek
        cases es : sortP l with
        | none => rw [es] at h; cases h
        | some m =>
          rw [es] at h
          cases h
          obtain ⟨h1, rfl⟩ := sortP_ok es
          obtain ⟨p, rfl, ho, _⟩ := objR_ok s rv e
          obtain ⟨hd, rfl⟩ := dKeys_eq ek
          exact .inr ⟨ρ', p, o, rfl, ho, hd, h1, fun H2 q ys g n hy => fin_tlP f s k g hy n⟩
      · cases h
    · cases h
theorem bi_dict (hc : X.calm = true) (hu : X.A.units + 80 < cLine) : BiOk X (.type "dict") (biR .dict) := by
  refine ⟨_, cr_dictP hc (kt hu), fun {ρ ρ' H H' S S' x v r Q} f s rv h k => ?_⟩
  unfold biR at h
  dsimp only at h
  split at h
  · rename_i l e
    cases ed : dictOf l with
    | none => rw [ed] at h; cases h
    | some o =>
      rw [ed] at h
      cases h
      have src : ∃ a vs, v = .ref a ∧ SrcAt X.K H' a vs ∧ PReps H' vs l := by
        unfold dSrc at e
        split at e
        · split at e
          · cases e
          · rename_i ek
            cases e
            cases (show PRep H' v (.tup _) from rv) with
            | tup e q =>
              rcases e with ⟨e, _⟩ | ⟨_, o, e1, e2⟩
              · exact absurd e ek
              · exact ⟨_, _, rfl, .inr ⟨o, e1, e2⟩, q⟩
        · obtain ⟨p, xs, h1, h2, h3⟩ := lstP_ok s rv e
          exact ⟨p, xs, h1, .inl h2, h3⟩
      obtain ⟨a, vs, rfl, h1, h2⟩ := src
      exact ⟨a, vs, l, o, rfl, h1, h2, ed, fun p u n hr _ => fin_obj f s k n hr⟩
  · cases h
mutual
theorem toPy_inj : ∀ x y : P, toPy x = toPy y → x = y
  | .non, y, h => by cases y <;> first | rfl | (simp [toPy] at h)
  | .bl a, y, h => by cases y <;> first | (simp [toPy] at h; done) | (simp [toPy] at h; rw [h])
  | .int a, y, h => by cases y <;> first | (simp [toPy] at h; done) | (simp [toPy] at h; rw [h])
  | .str a, y, h => by cases y <;> first | (simp [toPy] at h; done) | (simp [toPy] at h; rw [h])
  | .tup a, y, h => by
    cases y with
    | tup b =>
      simp [toPy] at h
      rw [toPys_inj a b h]
    | _ => simp [toPy] at h
theorem toPys_inj : ∀ x y : List P, toPys x = toPys y → x = y
  | [], y, h => by cases y <;> first | rfl | (simp [toPys] at h)
  | x :: r, y, h => by
    cases y with
    | nil => simp [toPys] at h
    | cons z t =>
      simp [toPys] at h
      rw [toPy_inj x z h.1, toPys_inj r t h.2]
end
def rBest (K : Fr) (g : P → List P → P) : List V → Hp → VK → Prop := fun xs H Q => ∃ a vs x l, xs = [V.ref a] ∧ SqL K H a vs ∧ PReps H vs (x :: l) ∧ canMin (x :: l) = true ∧ ∀ v, PRep H v (g x l) → Q v H
theorem best_fin {pins : List (Addr × Obj)} {σ : L2.St} {H : Hp} {s : Shared} {Q : VK} (I : Inv X pins σ H s) {vs : List V} {l : List P} {its : List Value} (rv : Vals vs its) (hp : PReps H vs l) {i : Nat} {v : Value} {h' : Heap} {tk : Nat} {bs : List Addr} {b : P}
    (hi : its[i]? = some v) (hr : Reads h' v (toPy b) bs) (k : ∀ b o, s.heap.get? b = some o → h'.get? b = some o) (q : ∀ v, PRep H v b → Q v H) : EP X pins σ Q v { s with heap := h', toks := tk } := by
  obtain ⟨vv, h1, r1⟩ := paired_get rv hi
  obtain ⟨x, h2, r2⟩ := paired_getL hp.paired h1
  have z := PyProof.Rows.Reads.keeps k (PRep.reads0 I r2 r1)
  have e := SeqAt.plain_unique _ _ v _ _ (toPy_plain b) hr z
  rw [toPy_inj _ _ e] at q
  exact ⟨vv, H, I.kept k, r1, q vv r2⟩
theorem cr_min (hc : X.calm = true) (hu : X.A.units + 80 < cLine) : CallR X (.builtin "min") (rBest X.K minL) := by
  intro pins s σ H xs us Q I r ⟨a, vs, x, l, e, hs, hp, hm, q⟩
  subst e
  rw [Vals.ref1 r]
  obtain ⟨its, rv, pl, hz⟩ := I.list hs
  have hr := PReps.reads0 I hp rv
  obtain ⟨h1, h2⟩ := min_prem hm
  refine PySem.W.min_list_data (xs := toPys l) (x := toPy x) (I.ok.hd hc) pl.isList (by simpa [toPys] using hr) (by simpa [toPys] using h1) (by
    have e : PyData.depthAll (toPy x :: toPys l) = depths (x :: l) := toPys_depth (x :: l)
    rw [e]
    omega) fun i v h' tk bs hi hr k => ?_
  rw [minD_eq] at hr
  exact best_fin I rv hp (by simpa using hi) hr k q
theorem cr_max (hc : X.calm = true) (hu : X.A.units + 80 < cLine) : CallR X (.builtin "max") (rBest X.K maxL) := by
  intro pins s σ H xs us Q I r ⟨a, vs, x, l, e, hs, hp, hm, q⟩
  subst e
  rw [Vals.ref1 r]
  obtain ⟨its, rv, pl, hz⟩ := I.list hs
  have hr := PReps.reads0 I hp rv
  obtain ⟨h1, h2⟩ := min_prem hm
  refine PySem.W.max_list_data (xs := toPys l) (x := toPy x) (I.ok.hd hc) pl.isList (by simpa [toPys] using hr) (by simpa [toPys] using h1) (by
    have e : PyData.depthAll (toPy x :: toPys l) = depths (x :: l) := toPys_depth (x :: l)
    rw [e]
    omega) fun i v h' tk bs hi hr k => ?_
  rw [maxD_eq] at hr
  exact best_fin I rv hp (by simpa using hi) hr k q
theorem bi_min (hc : X.calm = true) (hu : X.A.units + 80 < cLine) : BiOk X (.builtin "min") (biR .min) := by
  refine ⟨_, cr_min hc hu, fun {ρ ρ' H H' S S' x v r Q} f s rv h k => ?_⟩
  unfold biR at h
  dsimp only at h
  split at h
  · rename_i y l e
    split at h
    · rename_i hm
      cases h
      obtain ⟨p, xs, rfl, h2, h3⟩ := lstP_ok s rv e
      exact ⟨p, xs, y, l, rfl, h2, h3, hm, fun w hw => fin_p f s k hw⟩
    · cases h
  · cases h
theorem bi_max (hc : X.calm = true) (hu : X.A.units + 80 < cLine) : BiOk X (.builtin "max") (biR .max) := by
  refine ⟨_, cr_max hc hu, fun {ρ ρ' H H' S S' x v r Q} f s rv h k => ?_⟩
  unfold biR at h
  dsimp only at h
  split at h
  · rename_i y l e
    split at h
    · rename_i hm
      cases h
      obtain ⟨p, xs, rfl, h2, h3⟩ := lstP_ok s rv e
      exact ⟨p, xs, y, l, rfl, h2, h3, hm, fun w hw => fin_p f s k hw⟩
    · cases h
  · cases h
end
end PyI
set_option Elab.async false
set_option linter.all false
set_option maxRecDepth 100000
set_option maxHeartbeats 1000000
/-! PyS12: methods of lists and dicts; what stands at an index. -/
namespace PyI
open PySem PySem.Spec PyProof.Rows L2

theorem DRep.ext {ρ : List Addr} {H : Hp} (t : List Addr) : ∀ {v : V} {d : D}, DRep ρ H v d → DRep (ρ ++ t) H v d
  | _, .p _, h => h
  | _, .ref _, ⟨a, e, q⟩ => ⟨a, by
    rw [List.getElem?_append_left (List.getElem?_eq_some_iff.mp e).1]
    exact e, q⟩
theorem get_ext {ρ : List Addr} (t : List Addr) {h : Nat} {a : Addr} (e : ρ[h]? = some a) : (ρ ++ t)[h]? = some a := by
  rw [List.getElem?_append_left (List.getElem?_eq_some_iff.mp e).1]
  exact e
section
variable {K : Fr} {ρ ρ' : List Addr} {H H' : Hp} {S : Sto} {Q : VK} {v w : V} {r : R}
/-- an object of the store is written -/
theorem fin_write {h : Nat} {a : Addr} {o' : O} {old u : HO} (f : Fut ρ H ρ' H') (s : Sim ρ' H' S) (ha : ρ'[h]? = some a) (hold : H' a = some old) (ht : ∀ xs, old ≠ .tup xs) (hf : ∀ ob w, old ≠ .frz ob w)
    (k : Post K ρ H r (S.set h o') Q) (ro : Fut ρ' H' ρ' (upd H' a u) → ORep ρ' (upd H' a u) a o') (rr : Fut ρ' H' ρ' (upd H' a u) → RRep K H ρ' (upd H' a u) v r) : Q v (upd H' a u) := by
  have fw : Fut ρ' H' ρ' (upd H' a u) := Fut.write (List.mem_of_getElem? ha) hold ht hf
  exact k ρ' v _ (f.trans fw) (s.write ha fw (ro fw)) (rr fw)
theorem refR_ok {x : R} {h : Nat} {o : O} (s : Sim ρ' H' S) (r : RRep K H ρ' H' v x) (e : refR x = some h) (e2 : S[h]? = some o) : ∃ a, ρ'[h]? = some a ∧ v = .ref a ∧ ORep ρ' H' a o := by
  unfold refR at e
  split at e
  · cases e
    obtain ⟨a, h1, h2⟩ := r
    exact ⟨a, h1, h2, s.obj _ _ _ h1 e2⟩
  · cases e
end
/-- a method of one argument, of two -/
def Mt1Ok (X : Cx) (T id : String) (m : M1) : Prop := ∃ rr : V → List V → Hp → VK → Prop, MtR X id rr ∧
  (∀ {ρ' : List Addr} {H H' : Hp} {S : Sto} {x : R} {v : V}, Sim ρ' H' S → RRep X.K H ρ' H' v x → rcv1 m x S = true → tyV X.K T v H') ∧
  ∀ {ρ ρ' : List Addr} {H H' : Hp} {S S' : Sto} {x y : R} {v w : V} {r : R} {Q : VK}, Fut ρ H ρ' H' → Sim ρ' H' S → RRep X.K H ρ' H' v x → RRep X.K H ρ' H' w y → m1R m x y S = some (r, S') → Post X.K ρ H r S' Q → rr v [w] H' Q
def Mt2Ok (X : Cx) (id : String) (m : M2) : Prop := ∃ rr : V → List V → Hp → VK → Prop, MtR X id rr ∧
  ∀ {ρ ρ' : List Addr} {H H' : Hp} {S S' : Sto} {x y z : R} {v w u : V} {r : R} {Q : VK}, Fut ρ H ρ' H' → Sim ρ' H' S → RRep X.K H ρ' H' v x → RRep X.K H ρ' H' w y → RRep X.K H ρ' H' u z → m2R m x y z S = some (r, S') → Post X.K ρ H r S' Q → rr v [w, u] H' Q
theorem ty_lst {K : Fr} {ρ' : List Addr} {H H' : Hp} {S : Sto} {x : R} {v : V} (s : Sim ρ' H' S) (r : RRep K H ρ' H' v x) (h : (isL x S).isSome = true) : tyV K "list" v H' := by
  obtain ⟨l, e⟩ := Option.isSome_iff_exists.mp h
  obtain ⟨p, xs, rfl, h1, _⟩ := isL_ok s r e
  exact .inl ⟨rfl, xs, .of h1⟩
theorem ty_dct {K : Fr} {ρ' : List Addr} {H H' : Hp} {S : Sto} {x : R} {v : V} (s : Sim ρ' H' S) (r : RRep K H ρ' H' v x) (h : isDct x S = true) : tyV K "dict" v H' := by
  unfold isDct at h
  split at h
  · rename_i kvs e
    obtain ⟨p, rfl, ⟨ks, hk, _⟩, _⟩ := objR_ok s r e
    exact .inr (.inr (.inl ⟨rfl, .inl ⟨ks, hk⟩⟩))
  · rename_i kvs e
    obtain ⟨p, rfl, ⟨ks, hk, _⟩, _⟩ := objR_ok s r e
    exact .inr (.inr (.inl ⟨rfl, .inr ⟨ks, hk⟩⟩))
  · cases h
section
variable {X : Cx}
theorem mt1_append : Mt1Ok X "list" "list.append" .append := by
  refine ⟨_, mt_append, fun s r h => ty_lst s r h, fun {ρ ρ' H H' S S' x y v w r Q} f s rv rw' h k => ?_⟩
  unfold m1R at h
  dsimp only at h
  split at h
  · rename_i n en
    split at h
    · rename_i l el
      split at h
      · rename_i d S2 ea
        split at h
        · rename_i hz
          cases h
          obtain ⟨a, ha, rfl, xs, hx, rx⟩ := refR_ok s rv en el
          obtain ⟨ρ2, f2, ⟨t, rfl⟩, s2, rd⟩ := alloc_ok f s rw' ea
          refine ⟨a, xs, w, rfl, rfl, hx, by rw [Paired.length rx, ← LINE_eq]; exact hz, ?_⟩
          refine fin_write f2 s2 (get_ext t ha) hx (fun _ z => nomatch z) (fun _ _ z => nomatch z) k (fun fw => ⟨_, upd_same, DReps.mono fw (paired_append (paired_mono (fun _ _ q => q.ext t) rx) (.cons rd .nil))⟩) fun _ => PRep.non
        · cases h
      · cases h
    · cases h
  · cases h
theorem mt1_extend : Mt1Ok X "list" "list.extend" .extend := by
  refine ⟨_, mt_extend, fun s r h => ty_lst s r h, fun {ρ ρ' H H' S S' x y v w r Q} f s rv rw' h k => ?_⟩
  unfold m1R at h
  dsimp only at h
  split at h
  · rename_i n en
    split at h
    · rename_i l el
      split at h
      · rename_i m em
        split at h
        · rename_i hz
          cases h
          obtain ⟨a, ha, rfl, xs, hx, rx⟩ := refR_ok s rv en el
          obtain ⟨b, ys, rfl, hy, ry⟩ := isL_ok s rw' em
          refine ⟨a, b, xs, ys, rfl, rfl, hx, hy, by rw [Paired.length rx, Paired.length ry, ← LINE_eq]; exact hz, ?_⟩
          refine fin_write f s ha hx (fun _ z => nomatch z) (fun _ _ z => nomatch z) k (fun fw => ⟨_, upd_same, DReps.mono fw (paired_append rx ry)⟩) fun _ => PRep.non
        · cases h
      · cases h
    · cases h
  · cases h
def rCnt (K : Fr) : V → List V → Hp → VK → Prop := fun x xs H Q => ∃ a w vs ps p, x = .ref a ∧ xs = [w] ∧ SqL K H a vs ∧ PReps H vs ps ∧ ARep K H w p ∧ depth p ≤ 60 ∧ Q (.int (ps.countP fun z => pyEq z p : Nat)) H
theorem cnt_toPy (p : P) : ∀ ps : List P, ((toPys ps).countP fun z => PyData.eqv z (toPy p)) = ps.countP fun z => pyEq z p
  | [] => rfl
  | x :: r => by
    unfold toPys
    rw [List.countP_cons, List.countP_cons, toPy_eq, cnt_toPy p r]
theorem mt_cnt (hu : X.A.units + 80 < cLine) : MtR X "list.count" (rCnt X.K) := by
  intro pins s σ H x xs v us Q I rx rxs ⟨a, w, vs, ps, p, e1, e2, hs, hp, hw, hd, q⟩
  subst e1 e2
  cases rx
  obtain ⟨u, rfl, ru⟩ := vals1 rxs
  obtain ⟨its, as, hl, r1, _, _⟩ := list_reads I hs hp
  obtain ⟨bs, r2⟩ := hw.reads I ru
  refine SeqAt.count_list_data hl r1 r2 (toPys_plain ps) (toPy_plain p) ?_ ⟨.int _, H, I.tok _, ⟨_, rfl⟩, ?_⟩
  · have : (toPy p).depth ≤ 60 := by rw [toPy_depth]; exact hd
    omega
  · rw [cnt_toPy]
    exact q
theorem mt1_count (hu : X.A.units + 80 < cLine) : Mt1Ok X "list" "list.count" .count := by
  refine ⟨_, mt_cnt hu, fun s r h => ty_lst s r h, fun {ρ ρ' H H' S S' x y v w r Q} f s rv rw' h k => ?_⟩
  unfold m1R at h
  dsimp only at h
  split at h
  · rename_i xs p e1 e2
    split at h
    · rename_i hd
      cases h
      cases el : isL x S with
      | none => rw [el] at e1; cases e1
      | some l =>
        rw [el] at e1
        obtain ⟨a, vs, rfl, hx, rx⟩ := isL_ok s rv el
        exact ⟨a, w, vs, xs, p, rfl, rfl, .of hx, ofDs_ok rx e1, pK_ok rw' e2, hd, fin_p f s k (.int _)⟩
    · cases h
  · cases h
section
variable {pins : List (Addr × Obj)} {σ : L2.St} {H : Hp} {s : Shared} {a : Addr} {A : Around} {E : Value → Shared → Prop} {y d : V} {u r : Value} {o : Option V}
theorem r_get1 {Q : Value → Shared → Prop} (hu : A.units + 1 < cLine) (I : Inv X pins σ H s) (g : rGet H a y o) (ry : RelV y u) (h : ∀ w' s', Inv X pins σ H s' → RelV (o.getD .non) w' → Q w' s') : wpAny (model X.prog X.w) A (call (.builtin "dict.get") [.ref a, u]) Q E s := by
  rcases g with g | ⟨h0, rfl, k, b, rfl, hb⟩
  · exact d_get1 hu I g ry h
  · refine d_get1 hu (Inv.toT I h0) (rGet_t h0 hb) ry fun w' s' I' => h w' s' ?_
    have z := Inv.toK I' upd_same
    rw [upd_upd, upd_self h0] at z
    exact z
theorem r_get2 {Q : Value → Shared → Prop} (hu : A.units + 1 < cLine) (I : Inv X pins σ H s) (g : rGet H a y o) (ry : RelV y u) (rd : RelV d r) (h : ∀ w' s', Inv X pins σ H s' → RelV (o.getD d) w' → Q w' s') : wpAny (model X.prog X.w) A (call (.builtin "dict.get") [.ref a, u, r]) Q E s := by
  rcases g with g | ⟨h0, rfl, k, b, rfl, hb⟩
  · exact d_get2 hu I g ry rd h
  · refine d_get2 hu (Inv.toT I h0) (rGet_t h0 hb) ry rd fun w' s' I' => h w' s' ?_
    have z := Inv.toK I' upd_same
    rw [upd_upd, upd_self h0] at z
    exact z
end
/-- what a dict of the store answers -/
theorem get_ok {ρ' : List Addr} {H' : Hp} {S : Sto} {h : Nat} {a : Addr} {w : V} {p : P} {res : Option D} (s : Sim ρ' H' S) (ha : ρ'[h]? = some a) (pw : PRep H' w p)
    (hh : (∃ kvs, S[h]? = some (.dK kvs) ∧ ((∃ k, toKey p = some k ∧ res = look kvs k) ∨ (kvs = [] ∧ ∃ k, toKeyT p = some k ∧ res = none))) ∨ (∃ kvs k, S[h]? = some (.dT kvs) ∧ toKeyT p = some k ∧ res = look kvs k)) :
    ∃ o, rGet H' a w o ∧ (∀ d, res = some d → ∃ v, o = some v ∧ DRep ρ' H' v d) ∧ (res = none → o = none) := by
  rcases hh with ⟨kvs, e, h1⟩ | ⟨kvs, k, e, h1, rfl⟩
  · obtain ⟨ks, hk, rk⟩ := s.obj _ _ _ ha e
    rcases h1 with ⟨k, h1, rfl⟩ | ⟨rfl, k, h1, rfl⟩
    · obtain ⟨l1, l2⟩ := look_ok k rk
      exact ⟨valV ks k, .inl (.inl ⟨ks, k, .inl hk, toKey_ok pw h1, rfl⟩), l1, l2⟩
    · cases rk
      obtain ⟨b, rfl, hb⟩ := toKeyT_ok pw h1
      exact ⟨none, .inr ⟨hk, rfl, k, b, rfl, hb⟩, fun d z => (nomatch z), fun _ => rfl⟩
  · obtain ⟨ks, hk, rk⟩ := s.obj _ _ _ ha e
    obtain ⟨b, rfl, hb⟩ := toKeyT_ok pw h1
    obtain ⟨l1, l2⟩ := look_ok k rk
    exact ⟨valV ks k, .inl (.inr ⟨ks, k, b, .inl hk, rfl, hb, rfl⟩), l1, l2⟩
def rGet1 : V → List V → Hp → VK → Prop := fun x xs H Q => ∃ a y o, x = .ref a ∧ xs = [y] ∧ rGet H a y o ∧ Q (o.getD .non) H
theorem mt_get1 (hu : X.A.units + 80 < cLine) : MtR X "dict.get" rGet1 := by
  intro pins s σ H x xs v us Q I rx rxs ⟨a, y, o, e1, e2, g, q⟩
  subst e1 e2
  cases rx
  obtain ⟨u, rfl, ru⟩ := vals1 rxs
  exact r_get1 (by omega) I g ru fun w' s' I' rw' => ⟨_, H, I', rw', q⟩
def rGet2 : V → List V → Hp → VK → Prop := fun x xs H Q => ∃ a y z o, x = .ref a ∧ xs = [y, z] ∧ rGet H a y o ∧ Q (o.getD z) H
theorem mt_get2 (hu : X.A.units + 80 < cLine) : MtR X "dict.get" rGet2 := by
  intro pins s σ H x xs v us Q I rx rxs ⟨a, y, z, o, e1, e2, g, q⟩
  subst e1 e2
  cases rx
  obtain ⟨u, u2, rfl, ru, ru2⟩ := vals2 rxs
  exact r_get2 (by omega) I g ru ru2 fun w' s' I' rw' => ⟨_, H, I', rw', q⟩
theorem mt1_get (hu : X.A.units + 80 < cLine) : Mt1Ok X "dict" "dict.get" .get := by
  refine ⟨_, mt_get1 hu, fun s r h => ty_dct s r h, fun {ρ ρ' H H' S S' x y v w r Q} f s rv rw' h k => ?_⟩
  unfold m1R at h
  dsimp only at h
  split at h
  · rename_i n en
    have fin : ∀ (o : O) (p : P) (res : Option D), S[n]? = some o → pR y = some p → ((∃ kvs, S[n]? = some (.dK kvs) ∧ ((∃ k, toKey p = some k ∧ res = look kvs k) ∨ (kvs = [] ∧ ∃ k, toKeyT p = some k ∧ res = none))) ∨ (∃ kvs k, S[n]? = some (.dT kvs) ∧ toKeyT p = some k ∧ res = look kvs k)) →
        Post X.K ρ H (.val (res.getD (.p .non))) S Q → rGet1 v [w] H' Q := by
      intro o p res e ep hh k
      obtain ⟨a, ha, rfl, _⟩ := refR_ok s rv en e
      obtain ⟨ov, g, g1, g2⟩ := get_ok s ha (pR_ok rw' ep) hh
      refine ⟨a, w, ov, rfl, rfl, g, ?_⟩
      cases res with
      | none =>
        rw [g2 rfl]
        exact fin_p f s k .non
      | some d =>
        obtain ⟨vv, rfl, rd⟩ := g1 d rfl
        exact k ρ' vv H' f s rd
    split at h
    · rename_i kvs e
      split at h
      · rename_i p ep
        split at h
        · rename_i kk ek
          cases h
          exact fin _ p _ e ep (.inl ⟨kvs, e, .inl ⟨kk, ek, rfl⟩⟩) k
        · split at h
          · rename_i ee
            have : kvs = [] := by simpa using ee
            subst this
            split at h
            · rename_i kk ek
              cases h
              exact fin _ p none e ep (.inl ⟨[], e, .inr ⟨rfl, kk, ek, rfl⟩⟩) k
            · cases h
          · cases h
      · cases h
    · rename_i kvs e
      split at h
      · rename_i p ep
        split at h
        · rename_i kk ek
          cases h
          exact fin _ p _ e ep (.inr ⟨kvs, kk, e, ek, rfl⟩) k
        · cases h
      · cases h
    · cases h
  · cases h
theorem mt2_get (hu : X.A.units + 80 < cLine) : Mt2Ok X "dict.get" .get := by
  refine ⟨_, mt_get2 hu, fun {ρ ρ' H H' S S' x y z v w u r Q} f s rv rw' ru h k => ?_⟩
  unfold m2R at h
  dsimp only at h
  split at h
  · rename_i n en
    have fin : ∀ (o : O) (p : P) (d : D) (res : Option D), S[n]? = some o → pR y = some p → z = .val d → ((∃ kvs, S[n]? = some (.dK kvs) ∧ ((∃ k, toKey p = some k ∧ res = look kvs k) ∨ (kvs = [] ∧ ∃ k, toKeyT p = some k ∧ res = none))) ∨ (∃ kvs k, S[n]? = some (.dT kvs) ∧ toKeyT p = some k ∧ res = look kvs k)) →
        Post X.K ρ H (.val (res.getD d)) S Q → rGet2 v [w, u] H' Q := by
      intro o p d res e ep ez hh k
      subst ez
      obtain ⟨a, ha, rfl, _⟩ := refR_ok s rv en e
      obtain ⟨ov, g, g1, g2⟩ := get_ok s ha (pR_ok rw' ep) hh
      refine ⟨a, w, u, ov, rfl, rfl, g, ?_⟩
      cases res with
      | none =>
        rw [g2 rfl]
        exact k ρ' u H' f s ru
      | some d =>
        obtain ⟨vv, rfl, rd⟩ := g1 d rfl
        exact k ρ' vv H' f s rd
    split at h
    · rename_i kvs e
      split at h
      · rename_i p d ep
        split at h
        · rename_i kk ek
          cases h
          exact fin _ p d _ e ep rfl (.inl ⟨kvs, e, .inl ⟨kk, ek, rfl⟩⟩) k
        · split at h
          · rename_i ee
            have : kvs = [] := by simpa using ee
            subst this
            split at h
            · rename_i kk ek
              cases h
              exact fin _ p d none e ep rfl (.inl ⟨[], e, .inr ⟨rfl, kk, ek, rfl⟩⟩) k
            · cases h
          · cases h
      · cases h
    · rename_i kvs e
      split at h
      · rename_i p d ep
        split at h
        · rename_i kk ek
          cases h
          exact fin _ p d _ e ep rfl (.inr ⟨kvs, kk, e, ek, rfl⟩) k
        · cases h
      · cases h
    · cases h
  · cases h
def rSetd : V → List V → Hp → VK → Prop := fun x xs H Q => ∃ a y z kvs k, x = .ref a ∧ xs = [y, z] ∧ H a = some (.dK kvs) ∧ y = kV k ∧ kvs.length < sizeLine ∧ (∀ v, valV kvs k = some v → Q v H) ∧ (valV kvs k = none → Q z (upd H a (.dK (L2.putK kvs k z))))
theorem mt_setd : MtR X "dict.setdefault" rSetd := by
  intro pins s σ H x xs v us Q I rx rxs ⟨a, y, z, kvs, k, e1, e2, h1, e3, h2, q1, q2⟩
  subst e1 e2 e3
  cases rx
  obtain ⟨u, u2, rfl, ru, ru2⟩ := vals2 rxs
  exact d_setd I h1 ru ru2 h2 (fun v hv w' s' I' r' => ⟨v, H, I', r', q1 v hv⟩) fun hn w' s' I' r' => ⟨z, _, I', r', q2 hn⟩
theorem putK_none {κ : Type} [DecidableEq κ] {ks : List (κ × V)} {k : κ} {v : V} (h : valV ks k = none) : L2.putK ks k v = ks ++ [(k, v)] := by
  unfold L2.putK
  rw [if_neg]
  rw [valV_any, h]
  simp
theorem mt2_setd : Mt2Ok X "dict.setdefault" .setdefault := by
  refine ⟨_, mt_setd, fun {ρ ρ' H H' S S' x y z v w u r Q} f s rv rw' ru h k => ?_⟩
  unfold m2R at h
  dsimp only at h
  split at h
  · rename_i n en
    split at h
    · rename_i kvs e
      split at h
      · rename_i p ep
        split at h
        · rename_i kk ek
          obtain ⟨a, ha, rfl, ks, hk, rk⟩ := refR_ok s rv en e
          have ew := toKey_ok (pR_ok rw' ep) ek
          obtain ⟨l1, l2⟩ := look_ok kk rk
          split at h
          · rename_i d el
            split at h
            case isFalse => cases h
            rename_i hz
            cases h
            obtain ⟨v1, e1, rd⟩ := l1 d el
            refine ⟨a, w, u, ks, kk, rfl, rfl, hk, ew, by rw [Paired.length rk, ← LINE_eq]; exact hz, fun v2 e2 => ?_, fun e2 => ?_⟩
            · rw [e1] at e2
              cases e2
              exact k ρ' v1 H' f s rd
            · rw [e1] at e2
              cases e2
          · rename_i el
            split at h
            · rename_i d S2 ea
              split at h
              · rename_i hz
                cases h
                have ev := l2 el
                obtain ⟨ρ2, f2, ⟨t, rfl⟩, s2, rd⟩ := alloc_ok f s ru ea
                refine ⟨a, w, u, ks, kk, rfl, rfl, hk, ew, by rw [Paired.length rk, ← LINE_eq]; exact hz, fun v2 e2 => ?_, fun _ => ?_⟩
                · rw [ev] at e2
                  cases e2
                · rw [putK_none ev]
                  exact fin_write f2 s2 (get_ext t ha) hk (fun _ z => nomatch z) (fun _ _ z => nomatch z) k (fun fw => ⟨_, upd_same, KReps.mono fw (paired_append (paired_mono (fun _ _ q => ⟨q.1, q.2.ext t⟩) rk) (.cons ⟨rfl, rd⟩ .nil))⟩) fun fw => DRep.mono fw rd
              · cases h
            · cases h
        · cases h
      · cases h
    · cases h
  · cases h
end
end PyI
set_option Elab.async false
set_option linter.all false
set_option maxRecDepth 100000
set_option maxHeartbeats 1000000
/-! PyS13: indices, slices, truth. -/
namespace PyI
open PySem PySem.Spec PyProof.Rows L2

theorem ixN_same (n : Nat) (i : Int) : L2.ixN n i = ixN n i := rfl
theorem paired_atI {α β : Type} {R : α → β → Prop} {xs : List α} {ys : List β} {i : Int} {y : β} (h : Paired R xs ys) (e : atI ys i = some y) : ∃ x, L2.atI xs i = some x ∧ R x y := by
  unfold atI at e
  unfold L2.atI
  rw [Paired.length h, ixN_same]
  cases q : ixN ys.length i with
  | none => rw [q] at e; cases e
  | some j =>
    rw [q] at e
    exact paired_get h e
def IxOk (X : Cx) : Prop := ∃ rr : R2, IxR X rr ∧
  ∀ {ρ ρ' : List Addr} {H H' : Hp} {S : Sto} {x y : R} {v w : V} {r : R} {Q : VK}, Fut ρ H ρ' H' → Sim ρ' H' S → RRep X.K H ρ' H' v x → RRep X.K H ρ' H' w y → ixR x y S = some r → Post X.K ρ H r S Q → rr v w H' Q
def SlOk (X : Cx) : Prop := ∃ rr : V → Option Int → Option Int → Hp → VK → Prop, SlR X rr ∧
  ∀ {ρ ρ' : List Addr} {H H' : Hp} {S : Sto} {x : R} {v : V} {lo hi : Option Int} {r : R} {Q : VK}, Fut ρ H ρ' H' → Sim ρ' H' S → RRep X.K H ρ' H' v x → slR x lo hi S = some r → Post X.K ρ H r S Q → rr v lo hi H' Q
section
variable {X : Cx}
def rIxD : R2 := fun x y H Q => ∃ a v, x = .ref a ∧ DGet H a y (some v) ∧ Q v H
theorem ix_dict (hu : X.A.units + 80 < cLine) : IxR X rIxD := by
  intro value slice pins s σ H x y v u Q I rx ry ⟨a, w, e, g, q⟩ hs
  subst e
  cases rx
  exact tail_any (dict_typeIs I g) PySem.F.slot_dict_getitem.lookup (d_getItem (by omega) I g ry fun w' s' I' rw' => ⟨w, H, I', rw', q⟩) hs
theorem ix_ok (hu : X.A.units + 80 < cLine) : IxOk X := by
  refine ⟨_, ix_list.or (ix_tup.or (ix_str.or (ix_dict hu))), fun {ρ ρ' H H' S x y v w r Q} f s rv rw' h k => ?_⟩
  have onL : ∀ {p : Addr} {xs : List V} {l : List D}, v = .ref p → SqL X.K H' p xs → DReps ρ' H' xs l → ∀ i, intR y = some i → ∀ d, atI l i = some d → r = .val d → rIxL X.K v w H' Q := by
    intro p xs l hv hl hx i hi d hd hr
    subst hv hr
    obtain ⟨z, h1, h2⟩ := paired_atI hx hd
    exact ⟨p, xs, i, z, rfl, intR_ok rw' hi, hl, h1, k ρ' z H' f s h2⟩
  unfold ixR at h
  split at h
  · obtain ⟨p, xs, e, _, _, h1, h2⟩ := rv
    split at h
    · rename_i i ei
      obtain ⟨d, hd, e2⟩ := Option.map_eq_some_iff.mp h
      exact .inl (onL e (.of h1) h2 i ei d hd e2.symm)
    · cases h
  · split at h
    · rename_i i ei
      obtain ⟨d, hd, e2⟩ := Option.map_eq_some_iff.mp h
      subst e2
      cases (show PRep H' v (.tup _) from rv) with
      | tup e q =>
        obtain ⟨z, h1, h2⟩ := paired_atI q.paired hd
        exact .inr (.inl ⟨_, _, i, z, rfl, intR_ok rw' ei, e.sq, h1, fin_p f s k h2⟩)
    · cases h
  · split at h
    · rename_i l i ei
      obtain ⟨d, hd, e2⟩ := Option.map_eq_some_iff.mp h
      subst e2
      cases (show WRep X.K v (.tup _) from rv) with
      | tup e q =>
        have qp : ∀ {xs : List V} {ps : List P}, WReps X.K xs ps → Paired (WRep X.K) xs ps := by
          intro xs
          induction xs with
          | nil => intro ps q; cases q; exact .nil
          | cons x xs ih => intro ps q; cases q with | cons a b => exact .cons a (ih b)
        obtain ⟨z, h1, h2⟩ := paired_atI (qp q) hd
        refine .inr (.inl ⟨_, _, i, z, rfl, intR_ok rw' ei, e H', h1, ?_⟩)
        split at k
        · rename_i hs
          refine fin_p f s k ?_
          cases h2 with
          | tup _ _ => exact nomatch (show False by simp [isScal] at hs)
          | non => exact .non
          | bl b => exact .bl b
          | int i => exact .int i
          | str t => exact .str t
        · exact k ρ' z H' f s h2
    · cases h
  · split at h
    · rename_i i ei
      split at h
      · rename_i hz
        obtain ⟨c, hc, e2⟩ := Option.map_eq_some_iff.mp h
        subst e2
        cases (show PRep H' v (.str _) from rv)
        exact .inr (.inr (.inl ⟨_, i, c, rfl, intR_ok rw' ei, by rw [← LINE_eq]; exact hz, hc, fin_p f s k (.str _)⟩))
      · cases h
    · cases h
  · rename_i n
    obtain ⟨a, ha, e0⟩ := rv
    subst e0
    split at h
    · rename_i l e
      split at h
      · rename_i i ei
        obtain ⟨d, hd, e2⟩ := Option.map_eq_some_iff.mp h
        obtain ⟨xs, h1, h2⟩ := s.obj _ _ _ ha e
        exact .inl (onL rfl (.of h1) h2 i ei d hd e2.symm)
      · cases h
    · rename_i l e
      split at h
      · rename_i i ei
        obtain ⟨d, hd, e2⟩ := Option.map_eq_some_iff.mp h
        obtain ⟨o, xs, h1, h2⟩ := s.obj _ _ _ ha e
        exact .inl (onL rfl (.inl (.inr ⟨o, h1⟩)) h2 i ei d hd e2.symm)
      · cases h
    · rename_i kvs e
      split at h
      · rename_i p ep
        split at h
        · rename_i kk ek
          obtain ⟨d, hd, e2⟩ := Option.map_eq_some_iff.mp h
          subst e2
          obtain ⟨ks, h1, rk⟩ := s.obj _ _ _ ha e
          obtain ⟨z, hz, rz⟩ := (look_ok kk rk).1 d hd
          exact .inr (.inr (.inr ⟨a, z, rfl, .inl ⟨ks, kk, .inl h1, toKey_ok (pR_ok rw' ep) ek, hz.symm⟩, k ρ' z H' f s rz⟩))
        · cases h
      · cases h
    · rename_i kvs e
      split at h
      · rename_i p ep
        split at h
        · rename_i kk ek
          obtain ⟨d, hd, e2⟩ := Option.map_eq_some_iff.mp h
          subst e2
          obtain ⟨ks, h1, rk⟩ := s.obj _ _ _ ha e
          obtain ⟨z, hz, rz⟩ := (look_ok kk rk).1 d hd
          obtain ⟨b, hb1, hb2⟩ := toKeyT_ok (pR_ok rw' ep) ek
          exact .inr (.inr (.inr ⟨a, z, rfl, .inr ⟨ks, kk, b, .inl h1, hb1, hb2, hz.symm⟩, k ρ' z H' f s rz⟩))
        · cases h
      · cases h
    · cases h
  · cases h
theorem sIx_same (n d : Nat) (o : Option Int) : HT.sIx n d o = sIx n d o := rfl
theorem paired_cut {β : Type} {R : V → β → Prop} {xs : List V} {ys : List β} (lo hi : Option Int) (h : Paired R xs ys) : Paired R (cutV xs lo hi) (cutL ys lo hi) := by
  unfold cutV cutL
  rw [Paired.length h, sIx_same, sIx_same]
  exact paired_take _ (paired_drop _ h)
theorem cut_whole {α : Type} {ys : List α} {lo hi : Option Int} (h : HT.sIx ys.length 0 lo = 0 ∧ HT.sIx ys.length ys.length hi = ys.length) : cutL ys lo hi = ys := by
  unfold cutL
  rw [← sIx_same, ← sIx_same, h.1, h.2]
  simp
theorem sl_ok : SlOk X := by
  refine ⟨_, sl_list.or sl_tupG, fun {ρ ρ' H H' S x v lo hi r Q} f s rv h k => ?_⟩
  unfold slR at h
  split at h
  · cases h
    obtain ⟨p, xs, rfl, _, _, h1, h2⟩ := rv
    exact .inl ⟨p, xs, rfl, .of h1, fun q n => fin_tl f s k (paired_cut lo hi h2) n⟩
  · cases h
    cases (show PRep H' v (.tup _) from rv) with
    | tup e q =>
      refine .inr ⟨_, _, rfl, e.sq, fun hw => ?_, fun _ => fin_tup f s k (PReps.of (paired_cut lo hi q.paired))⟩
      rw [q.length] at hw
      rw [cut_whole hw] at k
      exact fin_p f s k (.tup e q)
  · obtain ⟨a, ha, e0⟩ := rv
    subst e0
    split at h
    · rename_i l e
      cases h
      obtain ⟨xs, h1, h2⟩ := s.obj _ _ _ ha e
      exact .inl ⟨a, xs, rfl, .of h1, fun q n => fin_tl f s k (paired_cut lo hi h2) n⟩
    · rename_i l e
      cases h
      obtain ⟨o, xs, h1, h2⟩ := s.obj _ _ _ ha e
      exact .inl ⟨a, xs, rfl, .inl (.inr ⟨o, h1⟩), fun q n => fin_tl f s k (paired_cut lo hi h2) n⟩
    · cases h
  · cases h
theorem paired_empty {α β : Type} {R : α → β → Prop} {xs : List α} {ys : List β} (h : Paired R xs ys) : (!ys.isEmpty) = !xs.isEmpty := by
  cases h <;> rfl
theorem truthy_ok {ρ' : List Addr} {H H' : Hp} {S : Sto} {x : R} {v : V} {b : Bool} (s : Sim ρ' H' S) (rv : RRep X.K H ρ' H' v x) (h : truthy x S = some b) : TruV X.K v H' b := by
  unfold truthy at h
  split at h
  · cases h
    obtain ⟨p, xs, rfl, _, _, h1, h2⟩ := rv
    exact .inl ⟨xs, .of h1, paired_empty h2⟩
  · cases h
  · cases h
    cases (show PRep H' v .non from rv)
    rfl
  · cases h
    cases (show PRep H' v (.bl _) from rv)
    rfl
  · cases h
    cases (show PRep H' v (.int _) from rv)
    rfl
  · split at h
    · rename_i hz
      cases h
      cases (show PRep H' v (.str _) from rv)
      refine ⟨by rw [← LINE_eq]; exact hz, ?_⟩
      rename_i t
      show (t.length != 0) = ((t.length : Int) != 0)
      rw [Bool.eq_iff_iff]
      simp
    · cases h
  · cases h
    cases (show PRep H' v (.tup _) from rv) with
    | tup e q => exact .inr (.inl ⟨_, e.sq, paired_empty q.paired⟩)
  · obtain ⟨a, ha, e0⟩ := rv
    subst e0
    split at h
    · rename_i l e
      cases h
      obtain ⟨xs, h1, h2⟩ := s.obj _ _ _ ha e
      exact .inl ⟨xs, .of h1, paired_empty h2⟩
    · rename_i l e
      cases h
      obtain ⟨o, xs, h1, h2⟩ := s.obj _ _ _ ha e
      exact .inl ⟨xs, .inl (.inr ⟨o, h1⟩), paired_empty h2⟩
    · rename_i l e
      cases h
      obtain ⟨xs, h1, h2⟩ := s.obj _ _ _ ha e
      exact .inr (.inr ⟨xs, h1, paired_empty h2⟩)
    · cases h
end
end PyI
set_option Elab.async false
set_option linter.all false
set_option maxRecDepth 100000
set_option maxHeartbeats 1000000
/-! PyS14: where an expression stands, and the readings put together. -/
namespace PyI
open PySem PySem.Spec PyProof.Rows L2

/-- what a def does, as the interpreter has it -/
def spF (K : Fr) (cf : CF) (i : Nat) : Sp := fun vs H Q _ => ∃ ρ S ds d S', Sim ρ H S ∧ DReps ρ H vs ds ∧ cf i ds S = some (d, S') ∧ ∀ ρ' v H', Fut ρ H ρ' H' → Sim ρ' H' S' → DRep ρ' H' v d → Q v H'

def GvOk (X : Cx) (k : Nat) (cf : CF) (x : Str) : GV → Prop
  | .fn i => ∃ (f : Addr) (fd : FuncData) (ps : List Str), X.mg x = some (.ref f) ∧ PySem.W.keepIn X.K (.ref f) = true ∧ FnOk X.prog X.w X.K X.mg X.base C8.CX0 k f fd ps (spF X.K cf i) ∧ Binds X.K fd ps []
  | .sc p => ∃ u v, X.mg x = some u ∧ RelV v u ∧ ∀ H, PRep H v p
  | .tp p => ∃ u v, X.mg x = some u ∧ RelV v u ∧ WRep X.K v p
structure Gd (X : Cx) (c : TC) (k : Nat) (cf : CF) : Prop where
  calm : X.calm = true
  N : X.N = c.N
  nd : c.N.Nodup
  kind : X.env.scope.kind = .function
  names : X.env.scope.names = c.names
  own : ∀ x, c.own.contains x = true → X.fn x = true ∨ c.names.lookup x = some .local
  room : Room k X.A
  units : X.A.units + 90 < cLine
  gl : ∀ x g, c.gl.lookup x = some g → GvOk X k cf x g
  bl : ∀ x, c.bl.contains x = true → X.mg x = none

/-! ### the text's forms -/
theorem noslice {c : TC} : ∀ {n : Nat} {b : Expr} {ie : IE}, trE c n b = some ie → ∀ o i, subscripted b false o i = operate [o, i] (getItem o i)
  | 0, b, ie, h => by
    unfold trE at h
    cases h
  | n + 1, b, ie, h => by
    cases b with
    | Slice a b c p =>
      unfold trE at h
      cases h
    | _ => exact fun _ _ => rfl
theorem noset {c : TC} : ∀ {n : Nat} {b : Expr} {ie : IE}, trE c n b = some ie → ∀ op, behindInMarks op b = false
  | 0, b, ie, h => by
    unfold trE at h
    cases h
  | n + 1, b, ie, h => by
    cases b with
    | Set a b p =>
      unfold trE at h
      cases h
    | _ => exact fun _ => rfl
theorem star1 {env : PySem.Env} {e : Expr} {es : List Expr} (h : noStar e = true) : starEach (e :: es) env = (false, eval e env) :: starEach es env := by
  cases e <;> first | rfl | cases h
theorem starAny {env : PySem.Env} {pos : Pos} : ∀ {es : List Expr}, es.all noStar = true → (backTo pos (starEach es env)).any (·.1) = false
  | [], _ => rfl
  | e :: es, h => by
    rw [List.all_cons, Bool.and_eq_true] at h
    rw [star1 h.1]
    show (false || (backTo pos (starEach es env)).any (·.1)) = false
    rw [starAny h.2]
    rfl
theorem starNot {env : PySem.Env} {pos : Pos} : ∀ {es : List Expr}, es.all noStar = true → (backTo pos (starEach es env)).all (fun x => !x.1) = true
  | [], _ => rfl
  | e :: es, h => by
    rw [List.all_cons, Bool.and_eq_true] at h
    rw [star1 h.1]
    show (true && (backTo pos (starEach es env)).all fun x => !x.1) = true
    rw [starNot h.2]
    rfl
theorem basePlain {o : Expr} {m : Str} {env : PySem.Env} (h : noCall0 o = true) : attributeBase o m env (eval o env) = eval o env := by
  unfold attributeBase
  split
  · cases h
  · rfl
theorem trEs_noStar {c : TC} : ∀ {n : Nat} {es : List Expr} {ies : IEs}, trEs c n es = some ies → es.all noStar = true
  | 0, _, _, h => by
    unfold trEs at h
    cases h
  | n + 1, [], _, _ => rfl
  | n + 1, e :: r, ies, h => by
    unfold trEs at h
    split at h
    · rename_i hs
      split at h
      · rename_i e' r' h1 h2
        rw [List.all_cons, hs, trEs_noStar h2]
        rfl
      · cases h
    · cases h

/-! ### readings -/
section
variable {X : Cx} {ρ : List Addr} {H : Hp} {σ : L2.St} {env : Env} {S S1 S2 S3 : Sto}
theorem tE_one {K : Fr} {f : Env → Sto → Option (R × Sto)} {x : R} {rr : V → Hp → VK → Prop} {Q : VK} (s : Sim ρ H S) (e : ERep ρ H σ env) (h : f env S = some (x, S1))
    (k : ∀ ρ1 v H1, Fut ρ H ρ1 H1 → Sim ρ1 H1 S1 → RRep K H ρ1 H1 v x → rr v H1 Q) : tUn rr (tE K f) σ H Q :=
  ⟨ρ, env, S, x, S1, s, e, h, k⟩
theorem tE_two {K : Fr} {f g : Env → Sto → Option (R × Sto)} {x y : R} {rr : R2} {Q : VK} (s : Sim ρ H S) (e : ERep ρ H σ env) (h : f env S = some (x, S1)) (h2 : g env S1 = some (y, S2))
    (k : ∀ ρ2 v w H2, Fut ρ H ρ2 H2 → Sim ρ2 H2 S2 → RRep K H ρ2 H2 v x → RRep K H ρ2 H2 w y → rr v w H2 Q) : tOp rr (tE K f) (tE K g) σ H Q :=
  ⟨ρ, env, S, x, S1, s, e, h, fun ρ1 v H1 f1 s1 r1 => ⟨ρ1, env, S1, y, S2, s1, e.mono f1, h2, fun ρ2 w H2 f2 s2 r2 => k ρ2 v w H2 (f1.trans f2) s2 (r1.mono f2) (r2.from f1)⟩⟩
theorem pa_none : PA X [] (tA (evs cf .nil)) := by
  refine PAi pa_nil fun σ H Q h => ?_
  obtain ⟨ρ, env, S, l, S', s, e, hh, k⟩ := h
  simp only [evs, Option.some.injEq, Prod.mk.injEq] at hh
  obtain ⟨rfl, rfl⟩ := hh
  exact k ρ [] H (Fut.refl _ _) s .nil
theorem pa_more {a : Expr} {r : List Expr} {cf : CF} {ia : IE} {ir : IEs} (ha : PE X a (tE X.K (ev cf ia))) (hr : PA X r (tA (evs cf ir))) (hs : noStar a = true) : PA X (a :: r) (tA (evs cf (.cons ia ir))) := by
  refine PAi (pa_cons ha hr (star1 hs)) fun σ H Q h => ?_
  obtain ⟨ρ, env, S, l, S', s, e, hh, k⟩ := h
  simp only [evs] at hh
  split at hh
  · rename_i x S1 h1
    split at hh
    · rename_i d S2 h2
      split at hh
      · rename_i ds S3 h3
        cases hh
        refine ⟨ρ, env, S, x, S1, s, e, h1, fun ρ1 v H1 f1 s1 r1 => ?_⟩
        obtain ⟨ρ2, f2, ⟨t, rfl⟩, s2, rd⟩ := alloc_ok f1 s1 r1 h2
        refine ⟨ρ1 ++ t, env, S2, ds, _, s2, e.mono f2, h3, fun ρ3 vs H3 f3 s3 r3 => k ρ3 (v :: vs) H3 (f2.trans f3) s3 (.cons (rd.mono f3) r3)⟩
      · cases hh
    · cases hh
  · cases hh
/-- a built-in of one argument -/
theorem pe_bi {x : Str} {p pos : Pos} {a : Expr} {f g : Env → Sto → Option (R × Sto)} {u : Value} {b : Bi} (hb : BiOk X u (biR b)) (hu : (∃ id, u = .builtin id) ∨ ∃ T, u = .type T) (hg : Gl X x) (hm : X.mg x = none) (hv : bootBuiltins x = some u)
    (hn : x ≠ "__name__") (hd : (x == ("__debug__" : Str)) = false) (ha : PE X a (tE X.K f)) (hs : noStar a = true) (hfg : ∀ env S r S', g env S = some (r, S') → ∃ y S1, f env S = some (y, S1) ∧ biR b y S1 = some (r, S')) :
    PE X (.Call (.Name x p) [a] [] pos) (tE X.K g) := by
  obtain ⟨rr, hc, hk⟩ := hb
  have hpa : PA X [a] (tCons (tE X.K f) tNil) := pa_cons ha pa_nil (star1 hs)
  have key : PE X (.Call (.Name x p) [a] [] pos) (tCB rr (tCons (tE X.K f) tNil)) := by
    rcases hu with ⟨id, rfl⟩ | ⟨T, rfl⟩
    · exact pe_callB hc hg hm hv hpa hn hd (star1 hs) rfl
    · exact pe_callTy hc hg hm hv hpa hn hd (star1 hs) rfl
  refine PEi key fun σ H Q h => ?_
  obtain ⟨ρ, env, S, r, S', s, e, hh, k⟩ := h
  obtain ⟨y, S1, h1, h2⟩ := hfg _ _ _ _ hh
  exact ⟨ρ, env, S, y, S1, s, e, h1, fun ρ1 v H1 f1 s1 r1 => hk f1 s1 r1 h2 k⟩
/-- a reading as a test -/
theorem pt_val' {a : Expr} {f : Env → Sto → Option (R × Sto)} {g : Env → Sto → Option (Bool × Sto)} (ha : PE X a (tE X.K f)) (he : ∀ whole, isTrue a X.env whole = (do let v ← whole; standAt a.pos; holding [v] (PySem.truthy v)))
    (hg : ∀ env S b S', g env S = some (b, S') → ∃ x, f env S = some (x, S') ∧ truthy x S' = some b) : PT X a (tT g) := by
  refine PTi (pt_truth ha he) fun σ H Q h => ?_
  obtain ⟨ρ, env, S, b, S', s, e, hh, k⟩ := h
  obtain ⟨x, h1, h2⟩ := hg _ _ _ _ hh
  exact ⟨ρ, env, S, x, S', s, e, h1, fun ρ1 v H1 f1 s1 r1 => ⟨b, truthy_ok s1 r1 h2, k ρ1 H1 f1 s1⟩⟩
end
end PyI
set_option Elab.async false
set_option linter.all false
set_option maxRecDepth 100000
set_option maxHeartbeats 1000000
/-! PyS15: targets, iterators, list comprehensions. -/
namespace PyI
open PySem PySem.Spec PyProof.Rows L2

/-! ### targets -/
/-- the slots changed, the wiped rest is the same -/
def SameBut (l : List Nat) (σ σ' : L2.St) : Prop := ∀ vs : List Nat, (∀ i ∈ l, i ∈ vs) → L2.wipe σ' vs = L2.wipe σ vs
def tG (l : List Nat) (f : D → Env → Option Env) : L2.TG := fun v σ H Q => ∃ ρ env d env', ERep ρ H σ env ∧ DRep ρ H v d ∧ f d env = some env' ∧ ∀ σ', ERep ρ H σ' env' → SameBut l σ σ' → Q σ' H
def tGs (l : List Nat) (f : List D → Env → Option Env) : L2.TGs := fun vs σ H Q => ∃ ρ env ds env', ERep ρ H σ env ∧ DReps ρ H vs ds ∧ f ds env = some env' ∧ ∀ σ', ERep ρ H σ' env' → SameBut l σ σ' → Q σ' H
theorem SameBut.refl (l : List Nat) (σ : L2.St) : SameBut l σ σ := fun _ _ => rfl
theorem SameBut.trans {l m : List Nat} {σ σ1 σ2 : L2.St} (h : SameBut l σ σ1) (g : SameBut m σ1 σ2) : SameBut (l ++ m) σ σ2 := fun vs hv =>
  (g vs fun i hi => hv i (List.mem_append_right _ hi)).trans (h vs fun i hi => hv i (List.mem_append_left _ hi))
theorem wipe_set {σ : L2.St} {i : Nat} {x : Option V} : ∀ {vs : List Nat}, i ∈ vs → L2.wipe (σ.set i x) vs = L2.wipe σ vs
  | v :: vs, h => by
    unfold L2.wipe
    by_cases e : i ∈ vs
    · rw [wipe_set e]
    · have : v = i := by
        rcases List.mem_cons.mp h with h | h
        · exact h.symm
        · exact absurd h e
      subst this
      have key : ∀ {ws : List Nat}, v ∉ ws → L2.wipe (σ.set v x) ws = (L2.wipe σ ws).set v x := by
        intro ws
        induction ws with
        | nil => intro _; rfl
        | cons w ws ih =>
          intro hn
          rw [List.mem_cons, not_or] at hn
          unfold L2.wipe
          rw [ih hn.2, List.set_comm _ _ hn.1]
      rw [key e, List.set_set]
theorem wipe_idem (σ : L2.St) (vs : List Nat) : L2.wipe (L2.wipe σ vs) vs = L2.wipe σ vs := by
  have key : ∀ ws : List Nat, (∀ i ∈ ws, i ∈ vs) → L2.wipe (L2.wipe σ ws) vs = L2.wipe σ vs := by
    intro ws
    induction ws with
    | nil => intro _; rfl
    | cons w ws ih =>
      intro h
      show L2.wipe ((L2.wipe σ ws).set w none) vs = _
      rw [wipe_set (h w (List.mem_cons_self ..))]
      exact ih fun i hi => h i (List.mem_cons_of_mem _ hi)
  exact key vs fun _ h => h
theorem PGi {X : Cx} {e : Expr} {t t' : L2.TG} (h : PG X e t) (w : ∀ v σ H Q, t' v σ H Q → t v σ H Q) : PG X e t' := ⟨fun pins s σ H v u Q I r q => h.run pins s σ H v u Q I r (w _ _ _ _ q)⟩
theorem PGsi {X : Cx} {e : List Expr} {t t' : L2.TGs} (h : PGs X e t) (w : ∀ v σ H Q, t' v σ H Q → t v σ H Q) : PGs X e t' := ⟨fun pins s σ H v u Q I r q => h.run pins s σ H v u Q I r (w _ _ _ _ q)⟩
theorem idx_ok : ∀ {N : List Str} {x : Str} {i : Nat}, idx N x = some i → N[i]? = some x
  | [], _, _, h => by cases h
  | y :: r, x, i, h => by
    unfold idx at h
    split at h
    · rename_i e
      cases h
      have : y = x := by simpa using e
      rw [this]
      rfl
    · obtain ⟨j, hj, rfl⟩ := Option.map_eq_some_iff.mp h
      show r[j]? = some x
      exact idx_ok hj
section
variable {X : Cx} {c : TC} {k : Nat} {cf : CF}
theorem own_ok (G : Gd X c k cf) {x : Str} {i : Nat} (h : trOwn c x = some i) : X.N[i]? = some x ∧ L2.Loc X.env.scope x ∧ (X.fn x = true ∨ X.env.scope.names.lookup x = some .local) := by
  unfold trOwn at h
  split at h
  · rename_i hb
    rw [Bool.and_eq_true] at hb
    refine ⟨by rw [G.N]; exact idx_ok h, ?_, by rw [G.names]; exact G.own x hb.2⟩
    unfold L2.Loc
    rw [G.names]
    have z := hb.1
    unfold ownAs at z
    split at z
    · rename_i e; exact .inl e
    · rename_i e; exact .inr e
    · cases z
  · cases h
theorem isName_assign {env : PySem.Env} {e : Expr} {es : List Expr} (h : noStar e = true) : assignEach (e :: es) env = (false, assign e env) :: assignEach es env := by
  cases e <;> first | rfl | cases h
theorem trG_noStar : ∀ {n : Nat} {e : Expr} {t : TG}, trG c n e = some t → noStar e = true
  | 0, _, _, h => by unfold trG at h; cases h
  | n + 1, e, t, h => by
    unfold trG at h
    split at h
    · rfl
    · rfl
    · cases h
theorem trGs_len : ∀ {n : Nat} {es : List Expr} {ts : List TG}, trGs c n es = some ts → ts.length = es.length ∧ ∀ env : PySem.Env, (assignEach es env).length = es.length ∧ (assignEach es env).findIdx? (·.1) = none
  | 0, _, _, h => by unfold trGs at h; cases h
  | n + 1, [], ts, h => by
    unfold trGs at h
    cases h
    exact ⟨rfl, fun env => ⟨rfl, rfl⟩⟩
  | n + 1, e :: r, ts, h => by
    unfold trGs at h
    split at h
    · rename_i t ts' h1 h2
      cases h
      obtain ⟨e1, e2⟩ := trGs_len h2
      refine ⟨by rw [List.length_cons, List.length_cons, e1], fun env => ?_⟩
      rw [isName_assign (trG_noStar h1)]
      refine ⟨by rw [List.length_cons, List.length_cons, (e2 env).1], ?_⟩
      rw [List.findIdx?_cons, (e2 env).2]
      rfl
    · cases h
theorem asgDs_len : ∀ {ts : List TG} {ds : List D} {env env' : Env}, asgDs ts ds env = some env' → ts.length = ds.length
  | [], [], _, _, _ => rfl
  | [], _ :: _, _, _, h => by simp [asgDs] at h
  | _ :: _, [], _, _, h => by simp [asgDs] at h
  | t :: ts, d :: ds, env, env', h => by
    simp only [asgDs] at h
    split at h
    · rename_i env1 h1
      rw [List.length_cons, List.length_cons, asgDs_len h]
    · cases h
mutual
theorem tg_ok (G : Gd X c k cf) : ∀ {n : Nat} {e : Expr} {t : TG}, trG c n e = some t → PG X e (tG (tgIdx t) (asgD t))
  | 0, _, _, h => by unfold trG at h; cases h
  | n + 1, e, t, h => by
    unfold trG at h
    split at h
    · rename_i x p
      obtain ⟨i, hi, rfl⟩ := Option.map_eq_some_iff.mp h
      obtain ⟨h1, h2, h3⟩ := own_ok G hi
      refine PGi (pg_name (by rw [G.N]; exact G.nd) h1 h2 h3) fun v σ H Q hq => ?_
      obtain ⟨ρ, env, d, env', er, dr, ha, kk⟩ := hq
      simp only [asgD, Option.some.injEq] at ha
      subst ha
      exact kk _ (er.set i dr) fun vs hv => wipe_set (hv i (List.mem_cons_self ..))
    · rename_i es j p
      obtain ⟨ts, hts, rfl⟩ := Option.map_eq_some_iff.mp h
      obtain ⟨l1, l2⟩ := trGs_len hts
      refine PGi (pg_tup (n := es.length) G.calm (tgs_ok G hts) (l2 X.env).1 (l2 X.env).2) fun v σ H Q hq => ?_
      obtain ⟨ρ, env, d, env', er, dr, ha, kk⟩ := hq
      cases d with
      | ref _ => simp [asgD] at ha
      | p x =>
        cases x with
        | tup l =>
          simp only [asgD] at ha
          cases (show PRep H v (.tup l) from dr) with
          | tup e q =>
            refine ⟨_, _, rfl, e.sq, ?_, ρ, env, toDs l, env', er, q.toD, ha, fun σ' e' s' => kk σ' e' s'⟩
            rw [q.length, ← l1, asgDs_len ha]
            simp [toDs]
        | _ => simp [asgD] at ha
    · cases h
theorem tgs_ok (G : Gd X c k cf) : ∀ {n : Nat} {es : List Expr} {ts : List TG}, trGs c n es = some ts → PGs X es (tGs (tgsIdx ts) (asgDs ts))
  | 0, _, _, h => by unfold trGs at h; cases h
  | n + 1, [], ts, h => by
    unfold trGs at h
    cases h
    refine PGsi pgs_nil fun vs σ H Q hq => ?_
    obtain ⟨ρ, env, ds, env', er, dr, ha, kk⟩ := hq
    cases ds with
    | cons _ _ => simp [asgDs] at ha
    | nil =>
      simp only [asgDs, Option.some.injEq] at ha
      subst ha
      cases dr
      exact ⟨rfl, kk σ er (.refl _ _)⟩
  | n + 1, e :: r, ts, h => by
    unfold trGs at h
    split at h
    · rename_i t ts' h1 h2
      cases h
      refine PGsi (pgs_cons (tg_ok G h1) (tgs_ok G h2) (by rw [isName_assign (trG_noStar h1)]; rfl)) fun vs σ H Q hq => ?_
      obtain ⟨ρ, env, ds, env', er, dr, ha, kk⟩ := hq
      cases ds with
      | nil => simp [asgDs] at ha
      | cons d ds =>
        simp only [asgDs] at ha
        split at ha
        · rename_i env1 ha1
          cases dr with
          | cons d1 d2 =>
            refine ⟨_, _, rfl, ρ, env, d, env1, er, d1, ha1, fun σ1 e1 s1 => ?_⟩
            exact ⟨ρ, env1, ds, env', e1, d2, ha, fun σ2 e2 s2 => kk σ2 e2 (s1.trans s2)⟩
        · cases ha
    · cases h
end
end

/-! ### iterators -/
/-- what lasts whatever happens -/
structure Ext (ρ : List Addr) (H : Hp) (ρ' : List Addr) (H' : Hp) : Prop where
  pre : ∃ t, ρ' = ρ ++ t ∧ ∀ a ∈ t, H a = none
  tups : ∀ a xs, H a = some (.tup xs) → H' a = some (.tup xs)
  frzs : ∀ a o u, H a = some (.frz o u) → H' a = some (.frz o u)
  there : ∀ a o, H a = some o → ∃ o', H' a = some o'
theorem Fut.ext {ρ ρ' : List Addr} {H H' : Hp} (f : Fut ρ H ρ' H') : Ext ρ H ρ' H' := ⟨f.pre, f.tups, f.frzs, f.there⟩
theorem Ext.fresh {ρ ρ' : List Addr} {H H' : Hp} (f : Ext ρ H ρ' H') {a : Addr} (h : H' a = none) : H a = none := by
  cases e : H a with
  | none => rfl
  | some o =>
    obtain ⟨o', e'⟩ := f.there a o e
    rw [h] at e'
    cases e'
theorem Ext.trans {ρ ρ1 ρ2 : List Addr} {H H1 H2 : Hp} (f : Ext ρ H ρ1 H1) (g : Ext ρ1 H1 ρ2 H2) : Ext ρ H ρ2 H2 where
  pre := by
    obtain ⟨t, e, q⟩ := f.pre
    obtain ⟨u, e', q'⟩ := g.pre
    refine ⟨t ++ u, by rw [e', e, List.append_assoc], fun a m => ?_⟩
    rcases List.mem_append.mp m with m | m
    · exact q a m
    · exact f.fresh (q' a m)
  tups := fun a xs h => g.tups a xs (f.tups a xs h)
  frzs := fun a o u h => g.frzs a o u (f.frzs a o u h)
  there := fun a o h => by
    obtain ⟨o', e⟩ := f.there a o h
    exact g.there a o' e
theorem Ext.get {ρ ρ' : List Addr} {H H' : Hp} (f : Ext ρ H ρ' H') {i : Nat} {a : Addr} (h : ρ[i]? = some a) : ρ'[i]? = some a := by
  obtain ⟨t, e, _⟩ := f.pre
  rw [e]
  exact get_ext t h
theorem DRep.extm {ρ ρ' : List Addr} {H H' : Hp} (f : Ext ρ H ρ' H') : ∀ {v : V} {d : D}, DRep ρ H v d → DRep ρ' H' v d
  | _, .p _, h => PRep.mono f.tups f.frzs h
  | _, .ref _, ⟨a, e, q⟩ => ⟨a, f.get e, q⟩
theorem DReps.extm {ρ ρ' : List Addr} {H H' : Hp} (f : Ext ρ H ρ' H') {vs : List V} {ds : List D} (h : DReps ρ H vs ds) : DReps ρ' H' vs ds := paired_mono (fun _ _ q => DRep.extm f q) h
theorem ERep.extm {ρ ρ' : List Addr} {H H' : Hp} {σ : L2.St} {env : Env} (f : Ext ρ H ρ' H') (e : ERep ρ H σ env) : ERep ρ' H' σ env :=
  ⟨e.1, fun i d h => by
    obtain ⟨v, h1, h2⟩ := e.2 i d h
    exact ⟨v, h1, DRep.extm f h2⟩⟩
/-- what was not there at H00, is at H0 and is none of the store's, lasts -/
def NewKeep (H00 : Hp) (ρ0 : List Addr) (H0 H : Hp) : Prop := ∀ a o, H00 a = none → H0 a = some o → a ∉ ρ0 → H a = some o
/-- the iterator walks these, while the list stands -/
def JOk (J : It) (l : List D) (c : Option (Nat × List D)) (H00 : Hp) (ρ0 : List Addr) (H0 : Hp) : Prop := ∀ ρ H S, Ext ρ0 H0 ρ H → NewKeep H00 ρ0 H0 H → Sim ρ H S → still c S = true → ∀ i,
  (l.length ≤ i → J.stop i H) ∧ ∀ d, l[i]? = some d → J.go i H ∧ ∀ x H', J.yld i H x H' → Fut ρ H ρ H' ∧ Sim ρ H' S ∧ DRep ρ H' x d
def tI (f : Env → Sto → Option (List D × Option (Nat × List D) × Sto)) : TI := fun σ H R => ∃ ρ env S l c S', Sim ρ H S ∧ ERep ρ H σ env ∧ f env S = some (l, c, S') ∧ ∀ ρ' J H', Fut ρ H ρ' H' → Sim ρ' H' S' → still c S' = true → JOk J l c H ρ' H' → R J H'
theorem PIi {X : Cx} {tg e : Expr} {t t' : TI} (h : PI X tg e t) (w : ∀ σ H R, t' σ H R → t σ H R) : PI X tg e t' := ⟨fun pins s σ H R I q => h.run pins s σ H R I (w _ _ _ q)⟩
theorem PI.or {X : Cx} {tg e : Expr} {t t' : TI} (h : PI X tg e t) (h' : PI X tg e t') : PI X tg e (fun σ H R => t σ H R ∨ t' σ H R) := ⟨fun pins s σ H R I q => by
  rcases q with q | q
  · exact h.run pins s σ H R I q
  · exact h'.run pins s σ H R I q⟩
section
variable {K : Fr} {ρ : List Addr} {H H00 : Hp}
theorem jok_list {a : Addr} {l : List D} {c : Option (Nat × List D)} (h : ∀ ρ1 H1 S, Ext ρ H ρ1 H1 → NewKeep H00 ρ H H1 → Sim ρ1 H1 S → still c S = true → ∃ xs, SqL K H1 a xs ∧ DReps ρ1 H1 xs l) : JOk (Itl K a) l c H00 ρ H := fun ρ1 H1 S f nk s hs i => by
  obtain ⟨xs, h1, h2⟩ := h ρ1 H1 S f nk s hs
  refine ⟨fun hi => ⟨xs, h1, by rw [Paired.length h2]; exact hi⟩, fun d hd => ?_⟩
  obtain ⟨x, hx, rx⟩ := paired_get h2 hd
  refine ⟨⟨xs, x, h1, hx⟩, fun y H' hy => ?_⟩
  obtain ⟨rfl, hy⟩ := hy
  have e := hy xs h1
  rw [hx] at e
  cases e
  exact ⟨.refl _ _, s, rx⟩
theorem jok_tup {a : Addr} {l : List D} {xs : List V} (h : ∀ ρ1 H1, Ext ρ H ρ1 H1 → SqT K H1 a xs ∧ DReps ρ1 H1 xs l) : JOk (Itt K a) l none H00 ρ H := fun ρ1 H1 S f _ s hs i => by
  obtain ⟨h1, h2⟩ := h ρ1 H1 f
  refine ⟨fun hi => ⟨xs, h1, by rw [Paired.length h2]; exact hi⟩, fun d hd => ?_⟩
  obtain ⟨x, hx, rx⟩ := paired_get h2 hd
  refine ⟨⟨xs, x, h1, hx⟩, fun y H' hy => ?_⟩
  obtain ⟨rfl, hy⟩ := hy
  have e := hy xs h1
  rw [hx] at e
  cases e
  exact ⟨.refl _ _, s, rx⟩
theorem rngL_get {lo c : Int} {n i : Nat} {d : D} (h : (rngL lo n c)[i]? = some d) : i < n ∧ d = .p (.int (lo + (i : Nat) * c)) := by
  unfold rngL at h
  rw [List.getElem?_map] at h
  by_cases hi : i < n
  · rw [List.getElem?_range hi] at h
    cases h
    exact ⟨hi, rfl⟩
  · rw [List.getElem?_eq_none (by simpa using hi)] at h
    cases h
theorem rngL_len (lo c : Int) (n : Nat) : (rngL lo n c).length = n := by
  unfold rngL
  rw [List.length_map, List.length_range]
theorem jok_rng (lo : Int) (n : Nat) : JOk (Itr lo n) (rngL lo n 1) none H00 ρ H := fun ρ1 H1 S f _ s hs i => by
  refine ⟨fun hi => by rw [rngL_len] at hi; exact hi, fun d hd => ?_⟩
  obtain ⟨h1, rfl⟩ := rngL_get hd
  refine ⟨h1, fun y H' hy => ?_⟩
  obtain ⟨rfl, rfl⟩ := hy
  refine ⟨.refl _ _, s, ?_⟩
  rw [Int.mul_one]
  exact PRep.int _
end
end PyI
set_option Elab.async false
set_option linter.all false
set_option maxRecDepth 100000
set_option maxHeartbeats 1000000
/-! PyS16: what a loop walks. -/
namespace PyI
open PySem PySem.Spec PyProof.Rows L2

theorem small_ok {i j c : Int} (h1 : small62 i = true) (h2 : small62 j = true) (hc : c ≠ 0) (h3 : c.natAbs < 1073741824) : RgC i j c (rngN i j c) := by
  have e : Builtin.Range.rangeSize i j c = (rngN i j c : Nat) := rangeSize_toNat i j c
  refine ⟨hc, h3, ?_, e⟩
  have hb := rangeSize_toNat_le i j c
  have e' : (Builtin.Range.rangeSize i j c).toNat = rngN i j c := rfl
  rw [e'] at hb
  unfold small62 at h1 h2
  simp only [Bool.and_eq_true, decide_eq_true_eq] at h1 h2
  unfold Builtin.Range.small
  rw [e]
  simp only [Builtin.Range.rangeFitsLong, Bool.and_eq_true, Bool.or_eq_true, decide_eq_true_eq, beq_iff_eq]
  have hn : (c.natAbs : Int) < 1073741824 := by omega
  refine ⟨⟨⟨⟨?_, ?_⟩, ?_⟩, ?_⟩, .inr ?_⟩
  · omega
  · omega
  · omega
  · omega
  · split
    · simp only [Bool.and_eq_true, decide_eq_true_eq]
      omega
    · simp only [Bool.and_eq_true, decide_eq_true_eq]
      omega
theorem wreps_scal {K : Fr} {H : Hp} : ∀ {xs : List V} {ps : List P}, WReps K xs ps → ps.all isScal = true → PReps H xs ps
  | _, _, .nil, _ => .nil
  | _, _, .cons q1 q2, e => by
    rw [List.all_cons, Bool.and_eq_true] at e
    refine .cons ?_ (wreps_scal q2 e.2)
    cases q1 with
    | tup _ _ => exact nomatch (show False by simpa [isScal] using e.1)
    | non => exact PRep.non
    | bl b => exact PRep.bl b
    | int i => exact PRep.int i
    | str t => exact PRep.str t
theorem still_ok {n : Nat} {l : List D} {S : Sto} (h : still (some (n, l)) S = true) : S[n]? = some (.lst l) := by
  dsimp only [still] at h
  split at h
  · rename_i l2 e2
    have e : l2 = l := by simpa using h
    rw [e2, e]
  · cases h
section
variable {X : Cx} {c : TC} {k : Nat} {cf : CF}
theorem pi_e {tg a : Expr} {ia : IE} (ha : PE X a (tE X.K (ev cf ia))) : PI X tg a (tI (evi cf (.e ia))) := by
  refine PIi (PI.or (pi_list ha) (pi_tup ha)) fun σ H R h => ?_
  obtain ⟨ρ, env, S, l, cc, S', s, er, hh, kk⟩ := h
  simp only [evi] at hh
  split at hh
  · rename_i x S1 h1
    split at hh
    · rename_i l' c' hw
      simp only [Option.some.injEq, Prod.mk.injEq] at hh
      obtain ⟨rfl, rfl, rfl⟩ := hh
      unfold walkR at hw
      split at hw
      · -- a new list
        simp only [Option.some.injEq, Prod.mk.injEq] at hw
        obtain ⟨rfl, rfl⟩ := hw
        refine .inl ⟨ρ, env, S, _, S1, s, er, h1, fun ρ1 v H1 f1 s1 r1 => ?_⟩
        obtain ⟨a, xs, rfl, h0, hn, hx, rx⟩ := r1
        refine ⟨a, rfl, ⟨xs, .of hx⟩, kk ρ1 _ H1 f1 s1 rfl (jok_list fun ρ2 H2 S2 f2 nk s2 _ => ⟨xs, .of (nk a _ h0 hx hn), DReps.extm f2 rx⟩)⟩
      · simp only [Option.some.injEq, Prod.mk.injEq] at hw
        obtain ⟨rfl, rfl⟩ := hw
        refine .inr ⟨ρ, env, S, _, S1, s, er, h1, fun ρ1 v H1 f1 s1 r1 => ?_⟩
        cases (show PRep H1 v (.tup _) from r1) with
        | tup e q => exact ⟨_, rfl, ⟨_, e.sq⟩, kk ρ1 _ H1 f1 s1 rfl (jok_tup fun ρ2 H2 f2 => ⟨(e.mono f2.tups f2.frzs).sq, (PReps.mono f2.tups f2.frzs q).toD⟩)⟩
      · split at hw
        · rename_i hs
          simp only [Option.some.injEq, Prod.mk.injEq] at hw
          obtain ⟨rfl, rfl⟩ := hw
          refine .inr ⟨ρ, env, S, _, S1, s, er, h1, fun ρ1 v H1 f1 s1 r1 => ?_⟩
          cases (show WRep X.K v (.tup _) from r1) with
          | tup e q => exact ⟨_, rfl, ⟨_, e H1⟩, kk ρ1 _ H1 f1 s1 rfl (jok_tup fun ρ2 H2 f2 => ⟨e H2, (wreps_scal q hs).toD⟩)⟩
        · cases hw
      · rename_i n
        split at hw
        · rename_i l0 hl
          simp only [Option.some.injEq, Prod.mk.injEq] at hw
          obtain ⟨rfl, rfl⟩ := hw
          refine .inl ⟨ρ, env, S, _, S1, s, er, h1, fun ρ1 v H1 f1 s1 r1 => ?_⟩
          obtain ⟨a, ha', rfl⟩ := r1
          obtain ⟨xs, hx, rx⟩ := s1.obj _ _ _ ha' hl
          refine ⟨a, rfl, ⟨xs, .of hx⟩, kk ρ1 _ H1 f1 s1 (by simp [still, hl]) (jok_list fun ρ2 H2 S2 f2 _ s2 hst => ?_)⟩
          obtain ⟨ys, hy, ry⟩ := s2.obj _ _ _ (f2.get ha') (still_ok hst)
          exact ⟨ys, .of hy, ry⟩
        · rename_i l0 hl
          simp only [Option.some.injEq, Prod.mk.injEq] at hw
          obtain ⟨rfl, rfl⟩ := hw
          refine .inl ⟨ρ, env, S, _, S1, s, er, h1, fun ρ1 v H1 f1 s1 r1 => ?_⟩
          obtain ⟨a, ha', rfl⟩ := r1
          obtain ⟨o, xs, hx, rx⟩ := s1.obj _ _ _ ha' hl
          exact ⟨a, rfl, ⟨xs, .inl (.inr ⟨o, hx⟩)⟩, kk ρ1 _ H1 f1 s1 rfl (jok_list fun ρ2 H2 S2 f2 _ s2 _ => ⟨xs, .inl (.inr ⟨o, f2.frzs _ _ _ hx⟩), DReps.extm f2 rx⟩)⟩
        · cases hw
      · cases hw
    · cases hh
  · cases hh
theorem s62 {i : Int} (h : small62 i = true) : -(2 ^ 62) ≤ i ∧ i < 2 ^ 62 := by
  unfold small62 at h
  simp only [Bool.and_eq_true, decide_eq_true_eq] at h
  omega
theorem pi_r1 {tg a : Expr} {ia : IE} {p pos : Pos} (hg : Gl X "range") (hm : X.mg "range" = none) (hs : noStar a = true) (ha : PE X a (tE X.K (ev cf ia))) : PI X tg (.Call (.Name "range" p) [a] [] pos) (tI (evi cf (.rng1 ia))) := by
  refine PIi (pi_range1 hg hm (pa_cons ha pa_nil (star1 hs)) (star1 hs)) fun σ H R h => ?_
  obtain ⟨ρ, env, S, l, cc, S', s, er, hh, kk⟩ := h
  simp only [evi] at hh
  split at hh
  · rename_i x S1 h1
    split at hh
    · rename_i i hi
      split at hh
      · rename_i hb
        simp only [Option.some.injEq, Prod.mk.injEq] at hh
        obtain ⟨rfl, rfl, rfl⟩ := hh
        refine ⟨ρ, env, S, x, S1, s, er, h1, fun ρ1 v H1 f1 s1 r1 => ?_⟩
        obtain rfl := intR_ok r1 hi
        exact ⟨i, rfl, (s62 hb).1, (s62 hb).2, kk ρ1 _ H1 f1 s1 rfl (jok_rng 0 _)⟩
      · cases hh
    · cases hh
  · cases hh
theorem pi_r2 {tg a b : Expr} {ia ib : IE} {p pos : Pos} (hg : Gl X "range") (hm : X.mg "range" = none) (hs : noStar a = true) (hs2 : noStar b = true) (ha : PE X a (tE X.K (ev cf ia))) (hb : PE X b (tE X.K (ev cf ib))) : PI X tg (.Call (.Name "range" p) [a, b] [] pos) (tI (evi cf (.rng2 ia ib))) := by
  refine PIi (pi_range2 hg hm (pa_cons ha (pa_cons hb pa_nil (star1 hs2)) (star1 hs)) (by rw [star1 hs, star1 hs2]; rfl) (star1 hs2)) fun σ H R h => ?_
  obtain ⟨ρ, env, S, l, cc, S', s, er, hh, kk⟩ := h
  simp only [evi] at hh
  split at hh
  · rename_i x S1 h1
    split at hh
    · rename_i y S2 h2
      split at hh
      · rename_i i j hi hj
        split at hh
        · rename_i hb
          simp only [Option.some.injEq, Prod.mk.injEq] at hh
          obtain ⟨rfl, rfl, rfl⟩ := hh
          rw [Bool.and_eq_true] at hb
          refine ⟨ρ, env, S, x, S1, s, er, h1, fun ρ1 v H1 f1 s1 r1 => ⟨ρ1, env, S1, y, S2, s1, er.mono f1, h2, fun ρ2 w H2 f2 s2 r2 => ?_⟩⟩
          obtain rfl := intR_ok r1 hi
          obtain rfl := intR_ok r2 hj
          exact ⟨i, j, rfl, ⟨(s62 hb.1).1, (s62 hb.1).2, (s62 hb.2).1, (s62 hb.2).2⟩, kk ρ2 _ H2 (f1.trans f2) s2 rfl (jok_rng i _)⟩
        · cases hh
      · cases hh
    · cases hh
  · cases hh
theorem jok_rngC {ρ : List Addr} {H H00 : Hp} (lo c : Int) (n : Nat) : JOk (Itc lo c n) (rngL lo n c) none H00 ρ H := fun ρ1 H1 S f _ s hs i => by
  refine ⟨fun hi => by rw [rngL_len] at hi; exact hi, fun d hd => ?_⟩
  obtain ⟨h1, rfl⟩ := rngL_get hd
  refine ⟨h1, fun y H' hy => ?_⟩
  obtain ⟨rfl, rfl⟩ := hy
  exact ⟨.refl _ _, s, PRep.int _⟩
theorem pi_r3 {tg a b d : Expr} {ia ib id : IE} {p pos : Pos} (hg : Gl X "range") (hm : X.mg "range" = none) (hs : noStar a = true) (hs2 : noStar b = true) (hs3 : noStar d = true) (ha : PE X a (tE X.K (ev cf ia))) (hb : PE X b (tE X.K (ev cf ib))) (hd : PE X d (tE X.K (ev cf id))) :
    PI X tg (.Call (.Name "range" p) [a, b, d] [] pos) (tI (evi cf (.rng3 ia ib id))) := by
  refine PIi (pi_range3 hg hm (pa_cons ha (pa_cons hb (pa_cons hd pa_nil (star1 hs3)) (star1 hs2)) (star1 hs)) (star1 hs) (starAny (by rw [List.all_cons, List.all_cons, hs2, hs3]; rfl))) fun σ H R h => ?_
  obtain ⟨ρ, env, S, l, cc, S', s, er, hh, kk⟩ := h
  simp only [evi] at hh
  split at hh
  · rename_i x S1 h1
    split at hh
    · rename_i y S2 h2
      split at hh
      · rename_i z S3 h3
        split at hh
        · rename_i i j q hi hj hq
          split at hh
          · rename_i hb
            simp only [Option.some.injEq, Prod.mk.injEq] at hh
            obtain ⟨rfl, rfl, rfl⟩ := hh
            simp only [Bool.and_eq_true, decide_eq_true_eq] at hb
            obtain ⟨⟨⟨b1, b2⟩, b3⟩, b4⟩ := hb
            refine ⟨ρ, env, S, x, S1, s, er, h1, fun ρ1 v H1 f1 s1 r1 => ⟨ρ1, env, S1, y, S2, s1, er.mono f1, h2, fun ρ2 w H2 f2 s2 r2 => ⟨ρ2, env, S2, z, S3, s2, (er.mono f1).mono f2, h3, fun ρ3 u H3 f3 s3 r3 => ?_⟩⟩⟩
            obtain rfl := intR_ok r1 hi
            obtain rfl := intR_ok r2 hj
            obtain rfl := intR_ok r3 hq
            exact ⟨i, j, q, _, rfl, small_ok b1 b2 b3 b4, kk ρ3 _ H3 ((f1.trans f2).trans f3) s3 rfl (jok_rngC i q _)⟩
          · cases hh
        · cases hh
      · cases hh
    · cases hh
  · cases hh
end
end PyI
set_option Elab.async false
set_option linter.all false
set_option maxRecDepth 100000
set_option maxHeartbeats 1000000
/-! PyS17: list comprehensions. -/
namespace PyI
open PySem PySem.Spec PyProof.Rows L2

section
variable {ρ ρ' ρ1 : List Addr} {H H' H1 : Hp} {S : Sto} {D : Addr}
theorem DRep.same (t : ∀ a xs, H a = some (.tup xs) → H' a = some (.tup xs)) (g : ∀ a o u, H a = some (.frz o u) → H' a = some (.frz o u)) : ∀ {v : V} {d : PyI.D}, DRep ρ H v d → DRep ρ H' v d
  | _, .p _, h => PRep.mono t g h
  | _, .ref _, h => h
theorem DReps.same (t : ∀ a xs, H a = some (.tup xs) → H' a = some (.tup xs)) (g : ∀ a o u, H a = some (.frz o u) → H' a = some (.frz o u)) {vs : List V} {ds : List PyI.D} (h : DReps ρ H vs ds) : DReps ρ H' vs ds := paired_mono (fun _ _ q => DRep.same t g q) h
theorem ORep.same (t : ∀ a xs, H a = some (.tup xs) → H' a = some (.tup xs)) (g : ∀ a o u, H a = some (.frz o u) → H' a = some (.frz o u)) {a : Addr} (e : H' a = H a) : ∀ {o : O}, ORep ρ H a o → ORep ρ H' a o
  | .lst _, ⟨xs, h, r⟩ => ⟨xs, e.trans h, DReps.same t g r⟩
  | .rol _, ⟨o, xs, h, r⟩ => ⟨o, xs, e.trans h, DReps.same t g r⟩
  | .dK _, ⟨xs, h, r⟩ => ⟨xs, e.trans h, paired_mono (fun _ _ q => ⟨q.1, DRep.same t g q.2⟩) r⟩
  | .dT _, ⟨xs, h, r⟩ => ⟨xs, e.trans h, paired_mono (fun _ _ q => ⟨q.1, DRep.same t g q.2⟩) r⟩
theorem Sim.same (t : ∀ a xs, H a = some (.tup xs) → H' a = some (.tup xs)) (g : ∀ a o u, H a = some (.frz o u) → H' a = some (.frz o u)) (e : ∀ a ∈ ρ, H' a = H a) (s : Sim ρ H S) : Sim ρ H' S :=
  ⟨s.len, s.nd, fun i a o h1 h2 => ORep.same t g (e a (List.mem_of_getElem? h1)) (s.obj i a o h1 h2)⟩
/-- a thing of no store turns: no tuple, nothing frozen -/
def Own (ρ : List Addr) (H : Hp) (D : Addr) : Prop := D ∉ ρ ∧ (∀ xs, H D ≠ some (.tup xs)) ∧ ∀ o u, H D ≠ some (.frz o u)
theorem Own.lst {xs : List V} (n : D ∉ ρ) (e : H D = some (.lst xs)) : Own ρ H D := ⟨n, fun ys z => (by rw [e] at z; cases z), fun o u z => (by rw [e] at z; cases z)⟩
theorem Own.t (h : Own ρ H D) {u : HO} : ∀ a xs, H a = some (.tup xs) → upd H D u a = some (.tup xs) := fun a xs e => by
  rw [upd_ne (fun z => h.2.1 xs (by rw [← z]; exact e))]
  exact e
theorem Own.f (h : Own ρ H D) {w : HO} : ∀ a o u, H a = some (.frz o u) → upd H D w a = some (.frz o u) := fun a o u e => by
  rw [upd_ne (fun z => h.2.2 o u (by rw [← z]; exact e))]
  exact e
theorem Own.sim (h : Own ρ H D) {u : HO} (s : Sim ρ H S) : Sim ρ (upd H D u) S := s.same h.t h.f fun a m => upd_ne fun e => h.1 (e ▸ m)
theorem Own.fut (f : Fut ρ1 H1 ρ H) (n : H1 D = none) {u : HO} : Fut ρ1 H1 ρ (upd H D u) where
  pre := f.pre
  keep := fun a o h m => by
    rw [upd_ne (ne_of_none h n)]
    exact f.keep a o h m
  tups := fun a xs h => by
    rw [upd_ne (ne_of_none h n)]
    exact f.tups a xs h
  frzs := fun a o u h => by
    rw [upd_ne (ne_of_none h n)]
    exact f.frzs a o u h
  there := fun a o h => by
    rw [upd_ne (ne_of_none h n)]
    exact f.there a o h
end

/-- a comprehension's turn -/
def turnL (fg : D → Env → Option Env) (ft : Env → Sto → Option (Bool × Sto)) (fe : Env → Sto → Option (R × Sto)) (env : Env) : D → Sto → Option (Option D × Sto) := fun d S => match fg d env with
  | some env' => match ft env' S with
    | some (true, S) => match fe env' S with
      | some (r, S) => match alloc r S with
        | some (d, S) => some (some d, S)
        | none => none
      | none => none
    | some (false, S) => some (none, S)
    | none => none
  | none => none
theorem drop_at {α : Type} {l : List α} {i : Nat} (h : i < l.length) : l.drop i = l[i] :: l.drop (i + 1) := List.drop_eq_getElem_cons h
theorem compL_cons {f : D → Sto → Option (Option D × Sto)} {d : D} {r : List D} {c : Option (Nat × List D)} {S S2 : Sto} {outs : List D} (h : compL f (d :: r) c S = some (outs, S2)) :
    ∃ x S1 l, f d S = some (x, S1) ∧ still c S1 = true ∧ compL f r c S1 = some (l, S2) ∧ outs = (match x with
      | some y => y :: l
      | none => l) := by
  simp only [compL] at h
  split at h
  · rename_i x S1 h1
    split at h
    · rename_i h2
      split at h
      · rename_i l S2' h3
        simp only [Option.some.injEq, Prod.mk.injEq] at h
        obtain ⟨e, rfl⟩ := h
        exact ⟨x, S1, l, h1, h2, h3, e.symm⟩
      · cases h
    · cases h
  · cases h
section
variable {K : Fr}
/-- the walk of a comprehension's clause: the items come to D; ρb, Hb: where D was not yet -/
structure Wk (ρb : List Addr) (Hb H00 : Hp) (ρ1 : List Addr) (H1 : Hp) (D : Addr) (l : List PyI.D) (c : Option (Nat × List PyI.D)) (f : PyI.D → Sto → Option (Option PyI.D × Sto)) (accAll : List PyI.D) (S2 : Sto) (i m : Nat) (H : Hp) : Prop where
  ex : ∃ ρi Si xs acc outs, m = l.length - i ∧ i ≤ l.length ∧ Fut ρb Hb ρi H ∧ Ext ρ1 H1 ρi H ∧ NewKeep H00 ρ1 H1 H ∧ Sim ρi H Si ∧ still c Si = true ∧ H D = some (.lst xs) ∧ D ∉ ρi ∧ DReps ρi H xs acc ∧ compL f (l.drop i) c Si = some (outs, S2) ∧ acc ++ outs = accAll
theorem NewKeep.fut {H00 : Hp} {ρ1 ρi ρ' : List Addr} {H1 H H' : Hp} (h : NewKeep H00 ρ1 H1 H) (e : Ext ρ1 H1 ρi H) (f : Fut ρi H ρ' H') : NewKeep H00 ρ1 H1 H' := fun a o h0 h1 hn => by
  refine f.keep a o (h a o h0 h1 hn) fun m => ?_
  obtain ⟨t, et, q⟩ := e.pre
  rw [et] at m
  rcases List.mem_append.mp m with m | m
  · exact hn m
  · rw [q a m] at h1
    cases h1
theorem NewKeep.own {H00 : Hp} {ρ1 : List Addr} {H1 H : Hp} {D : Addr} {u : HO} (h : NewKeep H00 ρ1 H1 H) (hD : H00 D = none → H1 D = none) : NewKeep H00 ρ1 H1 (upd H D u) := fun a o h0 h1 hn => by
  rw [upd_ne fun e => ?_]
  · exact h a o h0 h1 hn
  · subst e
    rw [hD h0] at h1
    cases h1
theorem Own.ext {ρ ρ1 : List Addr} {H H1 : Hp} {D : Addr} (h : Own ρ H D) {u : HO} (e : Ext ρ1 H1 ρ H) : Ext ρ1 H1 ρ (upd H D u) := ⟨e.pre, fun a xs q => h.t a xs (e.tups a xs q), fun a o w q => h.f a o w (e.frzs a o w q), fun a o q => by
  by_cases z : a = D
  · subst z; exact ⟨u, upd_same⟩
  · rw [upd_ne z]; exact e.there a o q⟩
theorem wk_step {ρb : List Addr} {Hb H00 : Hp} {ρ1 : List Addr} {H1 : Hp} {D : Addr} {l : List PyI.D} {c : Option (Nat × List PyI.D)} {fg : PyI.D → Env → Option Env} {gi : List Nat} {ft : Env → Sto → Option (Bool × Sto)} {fe : Env → Sto → Option (R × Sto)} {env0 : Env} {σ0 : L2.St} {vs : List Nat} {accAll : List PyI.D} {S2 : Sto} {J : It}
    (hDb : Hb D = none) (hD : H00 D = none → H1 D = none) (jok : JOk J l c H00 ρ1 H1) (er : ERep ρ1 H1 (L2.wipe σ0 vs) env0) (hgi : ∀ i ∈ gi, i ∈ vs) (hall : accAll.length ≤ LINE) {i m : Nat} {H : Hp} (w : Wk ρb Hb H00 ρ1 H1 D l c (turnL fg ft fe env0) accAll S2 i m H) :
    (i = l.length ∧ J.stop i H ∧ ∃ ρi xs, Fut ρb Hb ρi H ∧ Ext ρ1 H1 ρi H ∧ NewKeep H00 ρ1 H1 H ∧ Sim ρi H S2 ∧ still c S2 = true ∧ H D = some (.lst xs) ∧ D ∉ ρi ∧ DReps ρi H xs accAll) ∨
    (J.go i H ∧ ∃ Nx : Hp → Prop, (∀ H', Nx H' → ∃ m', m' < m ∧ Wk ρb Hb H00 ρ1 H1 D l c (turnL fg ft fe env0) accAll S2 (i + 1) m' H') ∧ ∀ x H', J.yld i H x H' → tG gi fg x (L2.wipe σ0 vs) H' fun σ2 H2 => L2.wipe σ2 vs = L2.wipe σ0 vs ∧ tT ft σ2 H2 fun b H3 =>
      if b = true then tE K fe σ2 H3 fun y H4 => ∃ acc, H4 D = some (.lst acc) ∧ acc.length < sizeLine ∧ Nx (upd H4 D (.lst (acc ++ [y]))) else Nx H3) := by
  obtain ⟨ρi, Si, xs, acc, outs, rfl, hi, fi, ei, ki, si, hst, hxs, hn, rx, hc, hacc⟩ := w.ex
  obtain ⟨j1, j2⟩ := jok ρi H Si ei ki si hst i
  by_cases hlt : i < l.length
  · refine .inr ?_
    rw [drop_at hlt] at hc
    obtain ⟨x0, S1, l1, h1, h2, h3, e3⟩ := compL_cons hc
    obtain ⟨g1, g2⟩ := j2 l[i] (List.getElem?_eq_getElem hlt)
    refine ⟨g1, fun H' => Wk ρb Hb H00 ρ1 H1 D l c (turnL fg ft fe env0) accAll S2 (i + 1) (l.length - (i + 1)) H', fun H' w' => ⟨_, by omega, w'⟩, fun x H' hy => ?_⟩
    obtain ⟨fy, sy, ry⟩ := g2 x H' hy
    have hD' : H' D = some (.lst xs) := fy.keep D _ hxs hn
    unfold turnL at h1
    split at h1
    · rename_i env' hg
      refine ⟨ρi, env0, l[i], env', (er.extm ei).mono fy, ry, hg, fun σ2 e2 s2 => ⟨?_, ?_⟩⟩
      · rw [s2 vs hgi, wipe_idem]
      · split at h1
        · rename_i S1' ht
          split at h1
          · rename_i r S1'' hfe
            split at h1
            · rename_i d Sd ha
              simp only [Option.some.injEq, Prod.mk.injEq] at h1
              obtain ⟨rfl, rfl⟩ := h1
              dsimp only at e3
              refine ⟨ρi, env', Si, true, S1', sy, e2, ht, fun ρ3 H3 f3 s3 => ?_⟩
              show ite (true = true) _ _
              rw [if_pos rfl]
              refine ⟨ρ3, env', S1', r, S1'', s3, e2.mono f3, hfe, fun ρ4 y H4 f4 s4 r4 => ?_⟩
              have f34 := f3.trans f4
              obtain ⟨ρ5, f5, ⟨t, rfl⟩, s5, r5⟩ := alloc_ok f34 s4 (r4.from f3) ha
              have hn' : D ∉ ρ4 ++ t := f5.notin hD' hn
              have hD4 : H4 D = some (.lst xs) := f5.keep D _ hD' hn
              have own : Own (ρ4 ++ t) H4 D := Own.lst hn' hD4
              have fa := fy.trans f5
              have lx := Paired.length rx
              have hlen : acc.length + 1 ≤ accAll.length := by
                rw [← hacc, List.length_append, e3, List.length_cons]
                omega
              refine ⟨xs, hD4, by rw [← LINE_eq, lx]; omega, ⟨ρ4 ++ t, Sd, xs ++ [y], acc ++ [d], l1, rfl, hlt, Own.fut (fi.trans fa) hDb, own.ext (ei.trans fa.ext), (ki.fut ei fa).own hD, own.sim s5, h2, upd_same, hn', ?_, h3, by rw [← hacc, e3, List.append_assoc]; rfl⟩⟩
              exact DReps.same own.t own.f (paired_append (DReps.mono fa rx) (.cons r5 .nil))
            · cases h1
          · cases h1
        · rename_i S1' ht
          simp only [Option.some.injEq, Prod.mk.injEq] at h1
          obtain ⟨rfl, rfl⟩ := h1
          dsimp only at e3
          refine ⟨ρi, env', Si, false, S1', sy, e2, ht, fun ρ3 H3 f3 s3 => ?_⟩
          show ite (false = true) _ _
          rw [if_neg (by decide)]
          have fa := fy.trans f3
          exact ⟨ρ3, S1', xs, acc, l1, rfl, hlt, fi.trans fa, ei.trans fa.ext, ki.fut ei fa, s3, h2, f3.keep D _ hD' hn, f3.notin hD' hn, DReps.mono fa rx, h3, by rw [← hacc, e3]⟩
        · cases h1
    · cases h1
  · have e : i = l.length := by omega
    subst e
    refine .inl ⟨rfl, j1 (Nat.le_refl _), ?_⟩
    rw [List.drop_length] at hc
    simp only [compL, Option.some.injEq, Prod.mk.injEq] at hc
    obtain ⟨rfl, rfl⟩ := hc
    rw [List.append_nil] at hacc
    subst hacc
    exact ⟨ρi, xs, fi, ei, ki, si, hst, hxs, hn, rx⟩
theorem nk_refl (H00 : Hp) (ρ1 : List Addr) (H1 : Hp) : NewKeep H00 ρ1 H1 H1 := fun _ _ _ h _ => h
/-- a list comprehension of one clause -/
theorem lc_red {fi : Env → Sto → Option (List PyI.D × Option (Nat × List PyI.D) × Sto)} {fg : PyI.D → Env → Option Env} {gi : List Nat} {ft : Env → Sto → Option (Bool × Sto)} {fe : Env → Sto → Option (R × Sto)} {vs : List Nat} (hgi : ∀ i ∈ gi, i ∈ vs) {σ : L2.St} {H : Hp} {Q : VK}
    (h : tE K (fun env S => match fi env S with
      | some (l, c, S) => match compL (turnL fg ft fe (wipe env vs)) l c S with
        | some (l, S) => if l.length ≤ LINE then some (.tl l, S) else none
        | none => none
      | none => none) σ H Q) : tLc (tI fi) (tG gi fg) (tT ft) (tE K fe) vs σ H Q := by
  obtain ⟨ρ, env, S, r, S', s, er, hh, kk⟩ := h
  dsimp only at hh
  split at hh
  · rename_i l c S1 h1
    split at hh
    · rename_i outs S2 h2
      split at hh
      · rename_i hz
        simp only [Option.some.injEq, Prod.mk.injEq] at hh
        obtain ⟨rfl, rfl⟩ := hh
        refine ⟨ρ, env, S, l, c, S1, s, er, h1, fun ρ1 J H1 f1 s1 hst jok D hD => ?_⟩
        refine ⟨Wk ρ1 H1 H ρ1 H1 D l c (turnL fg ft fe (wipe env vs)) outs S2, ⟨l.length, ⟨ρ1, S1, [], [], outs, by simp, Nat.zero_le _, Fut.new hD, (Fut.new hD).ext, (nk_refl _ _ _).own fun _ => hD, s1.new hD, hst, upd_same, s1.free hD, .nil, by rw [List.drop_zero]; exact h2, rfl⟩⟩, fun i m Hi w => ?_⟩
        rcases wk_step (K := K) (gi := gi) hD (fun _ => hD) jok ((er.wipe vs).mono f1) hgi hz w with ⟨e, st, ρi, xs, fi', _, _, si, _, hx, hn, rx⟩ | ⟨go, step⟩
        · exact .inl ⟨st, kk ρi (.ref D) Hi (f1.trans fi') si ⟨D, xs, rfl, f1.fresh hD, hn, hx, rx⟩⟩
        · exact .inr ⟨go, step⟩
      · cases hh
    · cases hh
  · cases hh
/-! ### two clauses -/
def turnL2 (fg : D → Env → Option Env) (ft : Env → Sto → Option (Bool × Sto)) (fi2 : Env → Sto → Option (List D × Option (Nat × List D) × Sto)) (body : Env → D → Sto → Option (Option D × Sto)) (env : Env) : D → Sto → Option (List D × Sto) := fun d S => match fg d env with
  | some env' => match ft env' S with
    | some (true, S) => match fi2 env' S with
      | some (l2, c2, S) => compL (body env') l2 c2 S
      | none => none
    | some (false, S) => some ([], S)
    | none => none
  | none => none
theorem compL2_cons {f : D → Sto → Option (List D × Sto)} {d : D} {r : List D} {c : Option (Nat × List D)} {S S2 : Sto} {outs : List D} (h : compL2 f (d :: r) c S = some (outs, S2)) :
    ∃ x S1 l, f d S = some (x, S1) ∧ still c S1 = true ∧ compL2 f r c S1 = some (l, S2) ∧ outs = x ++ l := by
  simp only [compL2] at h
  split at h
  · rename_i x S1 h1
    split at h
    · rename_i h2
      split at h
      · rename_i l S2' h3
        simp only [Option.some.injEq, Prod.mk.injEq] at h
        obtain ⟨e, rfl⟩ := h
        exact ⟨x, S1, l, h1, h2, h3, e.symm⟩
      · cases h
    · cases h
  · cases h
structure Wk2 (H00 : Hp) (ρ1 : List Addr) (H1 : Hp) (D : Addr) (l : List PyI.D) (c : Option (Nat × List PyI.D)) (f : PyI.D → Sto → Option (List PyI.D × Sto)) (accAll : List PyI.D) (S2 : Sto) (i m : Nat) (H : Hp) : Prop where
  ex : ∃ ρi Si xs acc outs, m = l.length - i ∧ i ≤ l.length ∧ Fut ρ1 H1 ρi H ∧ Sim ρi H Si ∧ still c Si = true ∧ H D = some (.lst xs) ∧ D ∉ ρi ∧ DReps ρi H xs acc ∧ compL2 f (l.drop i) c Si = some (outs, S2) ∧ acc ++ outs = accAll
theorem lc2_red {fi fi2 : Env → Sto → Option (List PyI.D × Option (Nat × List PyI.D) × Sto)} {fg fg2 : PyI.D → Env → Option Env} {gi gi2 : List Nat} {ft ft2 : Env → Sto → Option (Bool × Sto)} {fe : Env → Sto → Option (R × Sto)} {vs : List Nat} (hgi : ∀ i ∈ gi, i ∈ vs) {σ : L2.St} {H : Hp} {Q : VK}
    (h : tE K (fun env S => match fi env S with
      | some (l, c, S) => match compL2 (turnL2 fg ft fi2 (fun env' => turnL fg2 ft2 fe (wipe env' gi2)) (wipe env vs)) l c S with
        | some (l, S) => if l.length ≤ LINE then some (.tl l, S) else none
        | none => none
      | none => none) σ H Q) : tLc2 (tI fi) (tG gi fg) (tT ft) (tI fi2) (tG gi2 fg2) (tT ft2) (tE K fe) vs gi2 σ H Q := by
  obtain ⟨ρ, env, S, r, S', s, er, hh, kk⟩ := h
  dsimp only at hh
  split at hh
  · rename_i l c S1 h1
    split at hh
    · rename_i accAll S2 h2
      split at hh
      · rename_i hz
        simp only [Option.some.injEq, Prod.mk.injEq] at hh
        obtain ⟨rfl, rfl⟩ := hh
        refine ⟨ρ, env, S, l, c, S1, s, er, h1, fun ρ1 J H1 f1 s1 hst jok D hD => ?_⟩
        generalize hf : turnL2 fg ft fi2 (fun env' => turnL fg2 ft2 fe (wipe env' gi2)) (wipe env vs) = f at h2
        have er1 : ERep ρ1 H1 (L2.wipe σ vs) (wipe env vs) := (er.wipe vs).mono f1
        refine ⟨Wk2 H ρ1 H1 D l c f accAll S2, ⟨l.length, ⟨ρ1, S1, [], [], accAll, by simp, Nat.zero_le _, Fut.new hD, s1.new hD, hst, upd_same, s1.free hD, .nil, by rw [List.drop_zero]; exact h2, rfl⟩⟩, fun i m Hi w => ?_⟩
        obtain ⟨ρi, Si, xs, acc, outs, rfl, hi, fi', si, hst', hxs, hn, rx, hc, hacc⟩ := w.ex
        have ki : NewKeep H ρ1 H1 Hi := fun a o _ h1 hn => fi'.keep a o h1 hn
        obtain ⟨j1, j2⟩ := jok ρi Hi Si fi'.ext ki si hst' i
        by_cases hlt : i < l.length
        · refine .inr ?_
          rw [drop_at hlt] at hc
          obtain ⟨x0, Sx, l1, hx1, hx2, hx3, e3⟩ := compL2_cons hc
          obtain ⟨g1, g2⟩ := j2 l[i] (List.getElem?_eq_getElem hlt)
          refine ⟨g1, fun H' => Wk2 H ρ1 H1 D l c f accAll S2 (i + 1) (l.length - (i + 1)) H', fun H' w' => ⟨_, by omega, w'⟩, fun x H' hy => ?_⟩
          obtain ⟨fy, sy, ry⟩ := g2 x H' hy
          have hD' : H' D = some (.lst xs) := fy.keep D _ hxs hn
          rw [← hf] at hx1
          unfold turnL2 at hx1
          split at hx1
          · rename_i env' hg
            refine ⟨ρi, wipe env vs, l[i], env', (er1.mono fi').mono fy, ry, hg, fun σ2 e2 s2 => ⟨?_, ?_⟩⟩
            · rw [s2 vs hgi, wipe_idem]
            · split at hx1
              · rename_i St ht
                split at hx1
                · rename_i l2 c2 Sc hc2
                  refine ⟨ρi, env', Si, true, St, sy, e2, ht, fun ρ3 H3 f3 s3 => ?_⟩
                  show ite (true = true) _ _
                  rw [if_pos rfl]
                  refine ⟨ρ3, env', St, l2, c2, Sc, s3, e2.mono f3, hc2, fun ρ4 J1 H4 f4 s4 hst4 jok4 => ?_⟩
                  have hD3 : H3 D = some (.lst xs) := f3.keep D _ hD' hn
                  have hn3 : D ∉ ρ3 := f3.notin hD' hn
                  have hD4 : H4 D = some (.lst xs) := f4.keep D _ hD3 hn3
                  have hn4 : D ∉ ρ4 := f4.notin hD3 hn3
                  have fa := (fi'.trans fy).trans (f3.trans f4)
                  have hacc2 : (acc ++ x0).length ≤ LINE := by
                    have z := congrArg List.length hacc
                    rw [e3, List.length_append, List.length_append] at z
                    rw [List.length_append]
                    omega
                  refine ⟨Wk ρ1 H1 H3 ρ4 H4 D l2 c2 (turnL fg2 ft2 fe (wipe env' gi2)) (acc ++ x0) Sx, ⟨l2.length, ⟨ρ4, Sc, xs, acc, x0, by simp, Nat.zero_le _, fa, (Fut.refl _ _).ext, nk_refl _ _ _, s4, hst4, hD4, hn4, DReps.mono (fy.trans (f3.trans f4)) rx, by rw [List.drop_zero]; exact hx1, rfl⟩⟩, fun j k Hj wj => ?_⟩
                  rcases wk_step (K := K) (gi := gi2) hD (fun z => by rw [hD3] at z; cases z) jok4 ((e2.mono (f3.trans f4)).wipe gi2) (fun _ h => h) hacc2 wj with ⟨e, st, ρj, ys, fj, ej, kj, sj, _, hxj, hnj, rj⟩ | ⟨go, step⟩
                  · exact .inl ⟨st, ⟨ρj, Sx, ys, acc ++ x0, l1, rfl, hlt, fj, sj, hx2, hxj, hnj, rj, hx3, by rw [← hacc, e3, List.append_assoc]⟩⟩
                  · exact .inr ⟨go, step⟩
                · cases hx1
              · rename_i St ht
                simp only [Option.some.injEq, Prod.mk.injEq] at hx1
                obtain ⟨rfl, rfl⟩ := hx1
                refine ⟨ρi, env', Si, false, St, sy, e2, ht, fun ρ3 H3 f3 s3 => ?_⟩
                show ite (false = true) _ _
                rw [if_neg (by decide)]
                have fa := fy.trans f3
                exact ⟨ρ3, St, xs, acc, l1, rfl, hlt, fi'.trans fa, s3, hx2, f3.keep D _ hD' hn, f3.notin hD' hn, DReps.mono fa rx, hx3, by rw [← hacc, e3]; rfl⟩
              · cases hx1
          · cases hx1
        · have e : i = l.length := by omega
          subst e
          rw [List.drop_length] at hc
          simp only [compL2, Option.some.injEq, Prod.mk.injEq] at hc
          obtain ⟨rfl, rfl⟩ := hc
          rw [List.append_nil] at hacc
          subst hacc
          exact .inl ⟨j1 (Nat.le_refl _), kk ρi (.ref D) Hi (f1.trans fi') si ⟨D, xs, rfl, f1.fresh hD, hn, hxs, rx⟩⟩
      · cases hh
    · cases hh
  · cases hh
end
end PyI
set_option Elab.async false
set_option linter.all false
set_option maxRecDepth 100000
set_option maxHeartbeats 4000000
/-! PyS18: dict comprehensions, keys of either kind. -/
namespace PyI
open PySem PySem.Spec PyProof.Rows L2

/-- a dict that a comprehension fills takes a key -/
def DSet (H : Hp) (D : Addr) (y z : V) (u : HO) : Prop :=
  (∃ kvs k, y = kV k ∧ H D = some (.dK kvs) ∧ kvs.length < sizeLine ∧ u = .dK (L2.putK kvs k z)) ∨
  (∃ (kvs : List (List Key × V)) (k : List Key) (b : Addr), y = .ref b ∧ H b = some (.tup (k.map kV)) ∧ (H D = some (.dT kvs) ∨ (H D = some (.dK []) ∧ kvs = [])) ∧ kvs.length < sizeLine ∧ u = .dT (L2.putK kvs k z))
section
variable {X : Cx}
theorem dsetT {pins : List (Addr × Obj)} {σ : L2.St} {H : Hp} {s : Shared} {E : Value → Shared → Prop} {D : Addr} {kvs : List (List Key × V)} {k : List Key} {b : Addr} {v : V} {r : Value} {Q : Unit → Shared → Prop} (hu : X.A.units + 90 < cLine) (I : Inv X pins σ H s) (hD : H D = some (.dT kvs)) (hz : kvs.length < sizeLine)
    (hb : H b = some (.tup (k.map kV))) (rv : RelV v r) (h : ∀ s', Inv X pins σ (upd H D (.dT (L2.putK kvs k v))) s' → Q () s') : wpAny (model X.prog X.w) X.A (dictSet D (.ref b) r) Q E s := by
  obtain ⟨z, hd, xs, rel, dd⟩ := dt_of I.hok hD
  have hz' : xs.length ≤ sizeLine := by rw [← Paired.length rel]; exact z
  have hl : (L2.putK kvs k v).length ≤ sizeLine := Nat.le_trans (put_len kvs k v) hz
  refine wpAny_dictSet_heap (hsz := hz') (show X.A.units < cLine by omega) (key_of I.hok hb) dd fun h' dd' hs => h _ ?_
  obtain ⟨q, es, ep, hq, h2, h3, h4, _, h5⟩ := dd'
  refine d_write I (by rw [hD]; exact True.intro) hs ⟨q, hq⟩ ⟨hl, hd, _, (rel.put k hb rv).keeps fun c ys ec => ?_, q, es, ep, hq, h2, h3, h4, h5⟩
  rw [upd_ne (ne_of ec hD (fun z => nomatch z))]
  exact ec
theorem dset_ok {pins : List (Addr × Obj)} {σ : L2.St} {H : Hp} {s : Shared} {E : Value → Shared → Prop} {D : Addr} {y v : V} {o : HO} {u r : Value} {Q : Unit → Shared → Prop} (hu : X.A.units + 90 < cLine) (I : Inv X pins σ H s) (g : DSet H D y v o)
    (ry : RelV y u) (rv : RelV v r) (h : ∀ s', Inv X pins σ (upd H D o) s' → Q () s') : wpAny (model X.prog X.w) X.A (dictSet D u r) Q E s := by
  rcases g with ⟨kvs, k, rfl, hD, hz, rfl⟩ | ⟨kvs, k, b, rfl, hb, hD, hz, rfl⟩
  · exact d_dictSet I hD hz ry rv h
  · cases ry
    rcases hD with hD | ⟨hD, rfl⟩
    · exact dsetT hu I hD hz hb rv h
    · refine dsetT hu (Inv.toT I hD) upd_same hz (by rw [upd_ne (ne_of hb hD (fun z => nomatch z))]; exact hb) rv fun s' I' => h s' ?_
      rw [upd_upd] at I'
      exact I'
def tDcg (wi : TI) (g : L2.TG) (tt : TT) (tk tv : TE) (vs : List Nat) : TE := fun σ H Q => wi σ H fun J H1 => ∀ D, H1 D = none → ∃ W : Nat → Nat → Hp → Prop, (∃ m, W 0 m (upd H1 D (.dK []))) ∧ ∀ i m H, W i m H →
  (J.stop i H ∧ Q (.ref D) H) ∨ (J.go i H ∧ ∃ Nx : Hp → Prop, (∀ H', Nx H' → ∃ m', m' < m ∧ W (i + 1) m' H') ∧ ∀ x H', J.yld i H x H' → g x (L2.wipe σ vs) H' fun σ2 H2 => L2.wipe σ2 vs = L2.wipe σ vs ∧ tt σ2 H2 fun b H3 =>
    if b = true then tk σ2 H3 fun y H4 => tv σ2 H4 fun z H5 => ∃ u, DSet H5 D y z u ∧ Nx (upd H5 D u) else Nx H3)
theorem dcg_core {pins : List (Addr × Obj)} {s : Shared} {σ : L2.St} {H : Hp} {Q : VK} {kx vx tg itr : Expr} {ifs : List Expr} {scp : Scope} {mine : List (Str × Nat)} {pos pos' : Pos} {wi : TI} {g : L2.TG} {tt : TT} {tk tv : TE} {use : Option (Value → Sem Unit)} {Qf : Value → Shared → Prop}
    (hu : X.A.units + 90 < cLine) (hcalm : X.calm = true) (hND : X.N.Nodup) (I : Inv X pins σ H s) (hi : PI X tg itr wi) (ok : BlkOk X.N X.env.scope scp mine)
    (hg : ∀ (s : Shared) (H : Hp) (C : Addr) (cl : List (Str × Addr)) (fps : List Addr), PG (X.blk s H scp (compEnvC scp cl C X.env) fps) tg g) (ht : ∀ (s : Shared) (H : Hp) (C : Addr) (cl : List (Str × Addr)) (fps : List Addr), PTs (X.blk s H scp (compEnvC scp cl C X.env) fps) ifs tt)
    (hk : ∀ (s : Shared) (H : Hp) (C : Addr) (cl : List (Str × Addr)) (fps : List Addr), PE (X.blk s H scp (compEnvC scp cl C X.env) fps) kx tk)
    (he : ∀ (s : Shared) (H : Hp) (C : Addr) (cl : List (Str × Addr)) (fps : List Addr), PE (X.blk s H scp (compEnvC scp cl C X.env) fps) vx tv) (hs : ∀ x, foldedSetIterable itr X.env x = pure x)
    (h : tDcg wi g tt tk tv (mine.map (·.2)) σ H Q)
    (hend : ∀ D C s' m H', Inv X pins σ H' s' → Q (.ref D) H' → s'.heap.Ns C m → FpOk X pins H' C → compPost (model X.prog X.w) X.A X.xe use Qf (.ref D) C (.ok .next) s') :
    wpAny (model X.prog X.w) X.A (comprehension (.DictComp kx vx [⟨tg, itr, ifs, 0⟩] scp pos) scp X.env pos' newDict false (eval itr X.env) use) Qf X.xe s := by
  have hfr : ∀ y ∈ scp.names, y.2 = .free → ∃ c, X.env.cells.lookup y.1 = some c := fun y hy e => by
    rcases ok.free y hy e with k | k
    · exact I.ok.has _ (.inl k)
    · exact I.ok.has _ (.inr k)
  refine wpAny_comprehension_free (use := use) rfl hs (closure_ok hfr) ok.kind (fun y hy e => by rw [ok.uniq y hy, e])
    (thn (hi.run pins s σ H _ I h) fun xv sh1 hx => thn hx fun itv sh2 h2 => ?_)
  obtain ⟨it, fps, tn, J, Hp2, e, Iv2, T, st2, f2, q⟩ := h2
  subst e
  refine wpAny_newObj_type (newEnv_comp ?_)
  generalize hD : sh2.heap.objs.size = D
  have hDn : Hp2 D = none := Iv2.hok.fresh (Nat.le_of_eq hD)
  obtain ⟨W, ⟨m0, w0⟩, trn⟩ := q D hDn
  -- the new list
  generalize hs3 : ({ sh2 with heap := sh2.heap.push { cls := .type "dict", data := .dict #[] } } : Shared) = sh3
  have Iv3 : Inv X pins σ (upd Hp2 D (.dK [])) sh3 := by
    rw [← hs3]
    refine Iv2.laid (t' := sh2.toks) (fun b o e => Heap.get?_push_of_some _ e) (Nat.le_of_eq hD) ?_
    rw [← hD]
    exact dk_empty sh2.heap Iv2.big
  have h3 : sh3.heap = sh2.heap.push { cls := .type "dict", data := .dict #[] } := by rw [← hs3]
  have sz : ∀ b ∈ fps, b < sh2.heap.objs.size := fun b hb => by
    obtain ⟨o, e, _⟩ := T.obj _ _ st2 b hb
    exact Heap.lt_size e
  have f3 : ∀ b ∈ fps, FpOk X pins (upd Hp2 D (.dK [])) b ∧ b < sh3.heap.objs.size := fun b hb => by
    have hlt := sz b hb
    refine ⟨⟨?_, (f2 b hb).2⟩, by rw [h3, Heap.size_push]; exact Nat.lt_succ_of_lt hlt⟩
    rw [upd_ne (by rw [← hD]; exact Nat.ne_of_lt hlt)]
    exact (f2 b hb).1
  have st3 : tn 0 sh3.heap := T.keep _ _ _ st2 fun b _ o e => by rw [h3]; exact Heap.get?_push_of_some _ e
  have Iv4 := block_start Iv3 ok hND f3
  have pg := hg sh3 (upd Hp2 D (.dK [])) sh3.heap.objs.size (cellsFrom (sh3.heap.objs.size + 1) scp.names (cloFrom X.env.cells scp.names [])) fps
  have pt := ht sh3 (upd Hp2 D (.dK [])) sh3.heap.objs.size (cellsFrom (sh3.heap.objs.size + 1) scp.names (cloFrom X.env.cells scp.names [])) fps
  have pk := hk sh3 (upd Hp2 D (.dK [])) sh3.heap.objs.size (cellsFrom (sh3.heap.objs.size + 1) scp.names (cloFrom X.env.cells scp.names [])) fps
  have pe := he sh3 (upd Hp2 D (.dK [])) sh3.heap.objs.size (cellsFrom (sh3.heap.objs.size + 1) scp.names (cloFrom X.env.cells scp.names [])) fps
  show codeAny _ _ (.compStart (.DictComp kx vx [⟨tg, itr, ifs, 0⟩] scp pos) 0 (.ref it) (.ref D) (compEnvC scp (cellsFrom (sh3.heap.objs.size + 1) scp.names (cloFrom X.env.cells scp.names [])) sh3.heap.objs.size X.env)) (compPost (model X.prog X.w) X.A X.xe use Qf (.ref D) sh3.heap.objs.size) { sh3 with heap := pushCells (sh3.heap.push { cls := .type "dict", data := .dict #[] }) scp.names }
  have nfp : ∀ b ∈ fps, (upd Hp2 D (.dK [])) b = none := fun b hb => (f3 b hb).1.1
  generalize hce : compEnvC scp (cellsFrom (sh3.heap.objs.size + 1) scp.names (cloFrom X.env.cells scp.names [])) sh3.heap.objs.size X.env = ce at Iv4 pg pt pk pe ⊢
  have cL : ce.locals = sh3.heap.objs.size := by subst hce; rfl
  generalize hH3 : upd Hp2 D (.dK []) = Hp3 at Iv3 Iv4 pg pt pk pe w0 nfp f3
  generalize hs4 : ({ sh3 with heap := pushCells (sh3.heap.push { cls := .type "dict", data := .dict #[] }) scp.names } : Shared) = sh4 at Iv4 ⊢
  have st4 : tn 0 sh4.heap := T.keep _ _ _ st3 fun b _ o e => by rw [← hs4]; exact pushCells_keeps _ _ _ _ (Heap.get?_push_of_some _ e)
  have stt : ∀ {σ' : L2.St} {H' : Hp} {s' : Shared}, Inv (X.blk sh3 Hp3 scp ce fps) [] σ' H' s' → (∀ b ∈ fps, H' b = none) → ∀ b ∈ fps, FpOk (X.blk sh3 Hp3 scp ce fps) [] H' b := fun {σ' H' s'} I' hn b hb =>
    ⟨hn b hb, (I'.ok.exf b hb).1, I'.ok.exfs b hb, .inl hb, fun x c e => (I'.ok.exf b hb).2 x c e, fun p hp => absurd (show p ∈ ([] : List (Addr × Obj)) ++ [] from hp) (by simp)⟩
  have loop : codeAny (model X.prog X.w) X.A (.compLoop (.DictComp kx vx [⟨tg, itr, ifs, 0⟩] scp pos) 0 (.ref it) (.ref D) ce) (compPost (model X.prog X.w) X.A X.xe use Qf (.ref D) sh3.heap.objs.size) sh4 := by
    refine compLoop_anyD (fun n s' => ∃ i H', Inv (X.blk sh3 Hp3 scp ce fps) [] (L2.wipe σ (mine.map (·.2))) H' s' ∧ tn i s'.heap ∧ (∀ b ∈ fps, H' b = none) ∧ W i n H') ?_ m0 ⟨0, Hp3, Iv4, st4, nfp, w0⟩
    rintro n sh5 ⟨i, Hp5, Iv5, st5, n5, w5⟩
    rcases trn i n Hp5 w5 with ⟨stop, qq⟩ | ⟨go, Nx, hNx, step⟩
    · have td := T.done (X.blk sh3 Hp3 scp ce fps) rfl rfl rfl hcalm i [] sh5 _ Hp5 (fun _ _ => False) Iv5 (stt Iv5 n5) st5 stop
      refine thnF td fun r sh6 ⟨hr, Iv6⟩ => ?_
      subst hr
      -- back in the def's context
      have Iv7 : Inv X pins σ Hp5 sh6 := Iv3.call' (ch := fps) Iv6.os Iv6.base Iv6.hok Iv6.bare fun b hb => ⟨(f3 b hb).1.2.2.2.1, (f3 b hb).1.2.1, (f3 b hb).1.2.2.2.2.1, (f3 b hb).1.2.2.2.2.2⟩
      have nC : Hp5 sh3.heap.objs.size = none := by
        have z : Hp5 ce.locals = none := Iv6.free
        rw [cL] at z
        exact z
      obtain ⟨m, hn, _⟩ := Iv6.loc
      have hn : sh6.heap.Ns ce.locals m := hn
      rw [cL] at hn
      exact hend D sh3.heap.objs.size sh6 m Hp5 Iv7 qq hn (Iv3.fpOk (Nat.le_refl _) nC)
    · have ti := T.item (X.blk sh3 Hp3 scp ce fps) rfl rfl rfl hcalm i [] sh5 _ Hp5 (fun _ _ => False) Iv5 (stt Iv5 n5) st5 go
      refine thnF ti fun r sh6 ⟨u, hr, h6⟩ => ?_
      subst hr
      refine thnF h6 fun _ sh7 ⟨x, Hp7, Iv7, r7, y7, st7, n7⟩ => ?_
      have Iv7' := Iv7.pinned (stt Iv7 n7) (T.obj _ _ st7)
      refine thnF (pg.run _ sh7 _ Hp7 x u _ Iv7' r7 (step x Hp7 y7)) fun _ sh8 ⟨σ8, Hp8, Iv8, hw8, q8⟩ => ?_
      refine thnF (pt.run _ sh8 σ8 Hp8 _ Iv8 q8) fun b sh9 ⟨Hp9, Iv9, q9⟩ => ?_
      -- the turn's end
      have fin : ∀ {s' : Shared} {H' : Hp}, Inv (X.blk sh3 Hp3 scp ce fps) ([] ++ pinsAt fps sh7.heap) σ8 H' s' → Nx H' → ∃ m, m < n ∧ ∃ i H', Inv (X.blk sh3 Hp3 scp ce fps) [] (L2.wipe σ (mine.map (·.2))) H' s' ∧ tn i s'.heap ∧ (∀ b ∈ fps, H' b = none) ∧ W i m H' := fun {s' H'} I' nx => by
        obtain ⟨m', hm, w'⟩ := hNx H' nx
        have pin' : ∀ b ∈ fps, ∀ o, sh7.heap.get? b = some o → s'.heap.get? b = some o ∧ H' b = none := fun b hb o e =>
          let z := I'.pin (b, o) (List.mem_append_right _ (List.mem_append_right _ (mem_pinsAt hb e)))
          ⟨z.1, z.2.1⟩
        have hl : (L2.wipe σ (mine.map (·.2))).length = σ8.length := by rw [← hw8, L2.wipe_length]
        refine ⟨m', hm, i + 1, H', (I'.unpinned (pins := [])).weak hl (fun j v e => ?_), T.keep _ _ _ st7 fun b hb o e => (pin' b hb o e).1, fun b hb => ?_, w'⟩
        · rw [← hw8] at e
          exact (wipe_some e).1
        · obtain ⟨o, e, _⟩ := T.obj _ _ st7 b hb
          exact (pin' b hb o e).2
      cases b with
      | false =>
        simp only [Bool.false_eq_true, if_false] at q9 ⊢
        exact fin Iv9 q9
      | true =>
        simp only [if_true] at q9 ⊢
        refine thnF (pk.run _ sh9 σ8 Hp9 _ Iv9 q9) fun z sh10 ⟨yk, Hp10, Iv10, r10, q10⟩ => ?_
        refine thnF (pe.run _ sh10 σ8 Hp10 _ Iv10 q10) fun z2 sh11 ⟨yv, Hp11, Iv11, r11, o11, hset, nx⟩ => ?_
        exact dset_ok (X := X.blk sh3 Hp3 scp ce fps) hu Iv11 hset r10 r11 fun sh12 Iv12 => fin Iv12 nx
  exact codeAny_compStart_dict loop (T.self X.A 0 _ _ _ st4 loop)
/-- as a value -/
theorem pe_dcg {kx vx tg itr : Expr} {ifs : List Expr} {scp : Scope} {mine : List (Str × Nat)} {pos : Pos} {wi : TI} {g : L2.TG} {tt : TT} {tk tv : TE} (hu : X.A.units + 90 < cLine) (hcalm : X.calm = true) (hND : X.N.Nodup) (hi : PI X tg itr wi) (ok : BlkOk X.N X.env.scope scp mine)
    (hg : ∀ (s : Shared) (H : Hp) (C : Addr) (cl : List (Str × Addr)) (fps : List Addr), PG (X.blk s H scp (compEnvC scp cl C X.env) fps) tg g) (ht : ∀ (s : Shared) (H : Hp) (C : Addr) (cl : List (Str × Addr)) (fps : List Addr), PTs (X.blk s H scp (compEnvC scp cl C X.env) fps) ifs tt)
    (hk : ∀ (s : Shared) (H : Hp) (C : Addr) (cl : List (Str × Addr)) (fps : List Addr), PE (X.blk s H scp (compEnvC scp cl C X.env) fps) kx tk)
    (he : ∀ (s : Shared) (H : Hp) (C : Addr) (cl : List (Str × Addr)) (fps : List Addr), PE (X.blk s H scp (compEnvC scp cl C X.env) fps) vx tv) (hs : ∀ x, foldedSetIterable itr X.env x = pure x := by intro _; rfl) :
    PE X (.DictComp kx vx [⟨tg, itr, ifs, 0⟩] scp pos) (tDcg wi g tt tk tv (mine.map (·.2))) := by
  refine ⟨fun pins s σ H Q I h => ?_⟩
  rw [arm_eval_DictComp]
  refine dcg_core hu hcalm hND I hi ok hg ht hk he hs h fun D C s' m H' I' q hn f => ⟨m, hn, fun h'' sb => ?_⟩
  obtain ⟨f0, f1, f2, f3, f4, f5⟩ := f
  exact ⟨.ref D, H', I'.turned (t' := s'.toks) (fun b o hb e => (sb.2 b hb).trans e) f0 f1 f3 f4 f5, rfl, q⟩

end
end PyI
set_option Elab.async false
set_option linter.all false
set_option maxRecDepth 100000
set_option maxHeartbeats 1000000
/-! PyS19: dict comprehensions as the interpreter has them. -/
namespace PyI
open PySem PySem.Spec PyProof.Rows L2

def pairK : P → Option (Key × P)
  | .tup [k, v] => (toKey k).map fun k => (k, v)
  | _ => none
def pairT : P → Option (List Key × P)
  | .tup [k, v] => (toKeyT k).map fun k => (k, v)
  | _ => none
theorem putAllK_cons (x : P) (l : List P) (acc : List (Key × D)) : putAllK (x :: l) acc = (pairK x).bind fun kv => putAllK l (putK acc kv.1 (.p kv.2)) := by
  cases x with
  | tup ys =>
    cases ys with
    | nil => rfl
    | cons a ys =>
      cases ys with
      | nil => rfl
      | cons b ys =>
        cases ys with
        | cons _ _ => rfl
        | nil =>
          show (match toKey a with
            | some k => putAllK l (putK acc k (.p b))
            | none => none) = ((toKey a).map fun k => (k, b)).bind _
          cases toKey a <;> rfl
  | _ => rfl
theorem putAllT_cons (x : P) (l : List P) (acc : List (List Key × D)) : putAllT (x :: l) acc = (pairT x).bind fun kv => putAllT l (putK acc kv.1 (.p kv.2)) := by
  cases x with
  | tup ys =>
    cases ys with
    | nil => rfl
    | cons a ys =>
      cases ys with
      | nil => rfl
      | cons b ys =>
        cases ys with
        | cons _ _ => rfl
        | nil =>
          show (match toKeyT a with
            | some k => putAllT l (putK acc k (.p b))
            | none => none) = ((toKeyT a).map fun k => (k, b)).bind _
          cases toKeyT a <;> rfl
  | _ => rfl
theorem putAllK_append : ∀ (l m : List P) (acc : List (Key × D)), putAllK (l ++ m) acc = (putAllK l acc).bind (putAllK m)
  | [], m, acc => rfl
  | x :: l, m, acc => by
    rw [List.cons_append, putAllK_cons, putAllK_cons]
    cases pairK x with
    | none => rfl
    | some kv => exact putAllK_append l m _
theorem putAllT_append : ∀ (l m : List P) (acc : List (List Key × D)), putAllT (l ++ m) acc = (putAllT l acc).bind (putAllT m)
  | [], m, acc => rfl
  | x :: l, m, acc => by
    rw [List.cons_append, putAllT_cons, putAllT_cons]
    cases pairT x with
    | none => rfl
    | some kv => exact putAllT_append l m _
theorem putK_len {κ : Type} [DecidableEq κ] (kvs : List (κ × D)) (k : κ) (d : D) : (putK kvs k d).length ≤ kvs.length + 1 := by
  unfold putK
  split
  · rw [List.length_map]; omega
  · rw [List.length_append]; exact Nat.le_refl _
theorem putAllK_len : ∀ (l : List P) (acc r : List (Key × D)), putAllK l acc = some r → r.length ≤ acc.length + l.length
  | [], acc, r, h => by
    cases h
    exact Nat.le_refl _
  | x :: l, acc, r, h => by
    rw [putAllK_cons] at h
    cases e : pairK x with
    | none => rw [e] at h; cases h
    | some kv =>
      rw [e] at h
      have h1 := putAllK_len l _ r h
      have h2 := putK_len acc kv.1 (.p kv.2)
      rw [List.length_cons]
      omega
theorem putAllT_len : ∀ (l : List P) (acc r : List (List Key × D)), putAllT l acc = some r → r.length ≤ acc.length + l.length
  | [], acc, r, h => by
    cases h
    exact Nat.le_refl _
  | x :: l, acc, r, h => by
    rw [putAllT_cons] at h
    cases e : pairT x with
    | none => rw [e] at h; cases h
    | some kv =>
      rw [e] at h
      have h1 := putAllT_len l _ r h
      have h2 := putK_len acc kv.1 (.p kv.2)
      rw [List.length_cons]
      omega
/-- a dict in the making holds these pairs -/
def Fill (b : Bool) (ρ : List Addr) (H : Hp) (D : Addr) (acc : List P) : Prop :=
  if b = true then ∃ kvs, putAllT acc [] = some kvs ∧ ((∃ ks, H D = some (.dT ks) ∧ KReps ρ H ks kvs ∧ acc ≠ []) ∨ (acc = [] ∧ H D = some (.dK [])))
  else ∃ kvs, putAllK acc [] = some kvs ∧ ∃ ks, H D = some (.dK ks) ∧ KReps ρ H ks kvs
/-- the pairs can be put on -/
def canPut (b : Bool) (l : List P) : Prop := if b = true then ∃ r, putAllT l [] = some r else ∃ r, putAllK l [] = some r
theorem canPut_pre {b : Bool} {l m : List P} (h : canPut b (l ++ m)) : canPut b l := by
  unfold canPut at *
  cases b with
  | true =>
    obtain ⟨r, hr⟩ := h
    rw [putAllT_append] at hr
    cases e : putAllT l [] with
    | none => rw [e] at hr; cases hr
    | some x => exact ⟨x, rfl⟩
  | false =>
    obtain ⟨r, hr⟩ := h
    rw [putAllK_append] at hr
    cases e : putAllK l [] with
    | none => rw [e] at hr; cases hr
    | some x => exact ⟨x, rfl⟩
theorem Fill.own {b : Bool} {ρ : List Addr} {H : Hp} {D : Addr} {acc : List P} (h : Fill b ρ H D acc) (n : D ∉ ρ) : Own ρ H D ∧ ∃ o, H D = some o := by
  unfold Fill at h
  cases b with
  | true =>
    obtain ⟨kvs, _, h⟩ := h
    rcases h with ⟨ks, h, _⟩ | ⟨_, h⟩
    · exact ⟨⟨n, fun ys z => (by rw [h] at z; cases z), fun o u z => (by rw [h] at z; cases z)⟩, _, h⟩
    · exact ⟨⟨n, fun ys z => (by rw [h] at z; cases z), fun o u z => (by rw [h] at z; cases z)⟩, _, h⟩
  | false =>
    obtain ⟨kvs, _, ks, h, _⟩ := h
    exact ⟨⟨n, fun ys z => (by rw [h] at z; cases z), fun o u z => (by rw [h] at z; cases z)⟩, _, h⟩
theorem Fill.mono {b : Bool} {ρ ρ' : List Addr} {H H' : Hp} {D : Addr} {acc : List P} (h : Fill b ρ H D acc) (n : D ∉ ρ) (f : Fut ρ H ρ' H') : Fill b ρ' H' D acc := by
  unfold Fill at *
  cases b with
  | true =>
    obtain ⟨kvs, h0, h⟩ := h
    refine ⟨kvs, h0, ?_⟩
    rcases h with ⟨ks, h, r, z⟩ | ⟨z, h⟩
    · exact .inl ⟨ks, f.keep D _ h n, KReps.mono f r, z⟩
    · exact .inr ⟨z, f.keep D _ h n⟩
  | false =>
    obtain ⟨kvs, h0, ks, h, r⟩ := h
    exact ⟨kvs, h0, ks, f.keep D _ h n, KReps.mono f r⟩
theorem KReps.same {κ : Type} {ρ : List Addr} {H H' : Hp} (t : ∀ a xs, H a = some (.tup xs) → H' a = some (.tup xs)) (g : ∀ a o u, H a = some (.frz o u) → H' a = some (.frz o u)) {ks : List (κ × V)} {kvs : List (κ × D)} (h : KReps ρ H ks kvs) : KReps ρ H' ks kvs := paired_mono (fun _ _ q => ⟨q.1, DRep.same t g q.2⟩) h
/-- one more pair -/
theorem Fill.put {b : Bool} {ρ : List Addr} {H : Hp} {D : Addr} {acc : List P} {x y : P} {v w : V} (h : Fill b ρ H D acc) (n : D ∉ ρ) (hc : canPut b (acc ++ [.tup [x, y]])) (hl : acc.length < LINE) (rv : PRep H v x) (rw' : PRep H w y) :
    ∃ u, DSet H D v w u ∧ Fill b ρ (upd H D u) D (acc ++ [.tup [x, y]]) := by
  obtain ⟨own, _⟩ := h.own n
  unfold canPut at hc
  cases b with
  | true =>
    obtain ⟨r, hr⟩ := hc
    unfold Fill at h
    obtain ⟨kvs, h0, h⟩ := h
    rw [putAllT_append, h0] at hr
    have hr : putAllT [.tup [x, y]] kvs = some r := hr
    rw [putAllT_cons] at hr
    cases ek : toKeyT x with
    | none => simp [pairT, ek] at hr
    | some k =>
      have hr' : putK kvs k (.p y) = r := by simpa [pairT, ek, putAllT] using hr
      obtain ⟨bb, e1, e2⟩ := toKeyT_ok rv ek
      have hlen := putAllT_len _ _ _ h0
      have fin : ∀ ks, KReps ρ H ks kvs → (H D = some (.dT ks) ∨ (H D = some (.dK []) ∧ ks = [])) → ∃ u, DSet H D v w u ∧ Fill true ρ (upd H D u) D (acc ++ [.tup [x, y]]) := fun ks rk hd => by
        refine ⟨.dT (L2.putK ks k w), .inr ⟨ks, k, bb, e1, e2, hd, ?_, rfl⟩, ?_⟩
        · rw [Paired.length rk, ← LINE_eq]
          rw [List.length_nil] at hlen
          omega
        · unfold Fill
          rw [if_pos rfl]
          refine ⟨r, ?_, .inl ⟨_, upd_same, ?_, by simp⟩⟩
          · rw [putAllT_append, h0]
            show putAllT [.tup [x, y]] kvs = some r
            rw [putAllT_cons]
            exact hr
          · rw [← hr']
            exact KReps.same own.t own.f (kreps_put k rk rw')
      rcases h with ⟨ks, hd, rk, _⟩ | ⟨rfl, hd⟩
      · exact fin ks rk (.inl hd)
      · cases h0
        exact fin [] .nil (.inr ⟨hd, rfl⟩)
  | false =>
    obtain ⟨r, hr⟩ := hc
    unfold Fill at h
    obtain ⟨kvs, h0, ks, hd, rk⟩ := h
    rw [putAllK_append, h0] at hr
    have hr : putAllK [.tup [x, y]] kvs = some r := hr
    rw [putAllK_cons] at hr
    cases ek : toKey x with
    | none => simp [pairK, ek] at hr
    | some k =>
      have hr' : putK kvs k (.p y) = r := by simpa [pairK, ek, putAllK] using hr
      have e1 := toKey_ok rv ek
      have hlen := putAllK_len _ _ _ h0
      refine ⟨.dK (L2.putK ks k w), .inl ⟨ks, k, e1, hd, ?_, rfl⟩, ?_⟩
      · rw [Paired.length rk, ← LINE_eq]
        rw [List.length_nil] at hlen
        omega
      · unfold Fill
        rw [if_neg (by decide)]
        refine ⟨r, ?_, _, upd_same, ?_⟩
        · rw [putAllK_append, h0]
          show putAllK [.tup [x, y]] kvs = some r
          rw [putAllK_cons]
          exact hr
        · rw [← hr']
          exact KReps.same own.t own.f (kreps_put k rk rw')
theorem ORep.extl {ρ : List Addr} {H : Hp} {a : Addr} (t : List Addr) : ∀ {o : O}, ORep ρ H a o → ORep (ρ ++ t) H a o
  | .lst _, ⟨xs, h, r⟩ => ⟨xs, h, paired_mono (fun _ _ q => q.ext t) r⟩
  | .rol _, ⟨o, xs, h, r⟩ => ⟨o, xs, h, paired_mono (fun _ _ q => q.ext t) r⟩
  | .dK _, ⟨xs, h, r⟩ => ⟨xs, h, paired_mono (fun _ _ q => ⟨q.1, q.2.ext t⟩) r⟩
  | .dT _, ⟨xs, h, r⟩ => ⟨xs, h, paired_mono (fun _ _ q => ⟨q.1, q.2.ext t⟩) r⟩
theorem get_last' {α : Type} {l : List α} {a : α} : (l ++ [a])[l.length]? = some a := by
  rw [List.getElem?_append_right (Nat.le_refl _), Nat.sub_self]
  rfl
/-- a turn -/
def turnD (fg : D → Env → Option Env) (ft : Env → Sto → Option (Bool × Sto)) (fk fv : Env → Sto → Option (R × Sto)) (env : Env) : D → Sto → Option (Option D × Sto) := fun d S => match fg d env with
  | some env' => match ft env' S with
    | some (true, S) => match fk env' S with
      | some (x, S) => match fv env' S with
        | some (y, S) => match pR x, pR y with
          | some x, some y => some (some (.p (.tup [x, y])), S)
          | _, _ => none
        | none => none
      | none => none
    | some (false, S) => some (none, S)
    | none => none
  | none => none
theorem ofDs_cons {p : P} {l : List D} {ps : List P} (h : ofDs (.p p :: l) = some ps) : ∃ qs, ofDs l = some qs ∧ ps = p :: qs := by
  unfold ofDs at h
  simp only [ofD] at h
  split at h
  · rename_i xs e1 e2
    cases e1
    cases h
    exact ⟨xs, e2, rfl⟩
  · cases h
structure WkD (b : Bool) (ρ1 : List Addr) (H1 : Hp) (D : Addr) (l : List PyI.D) (c : Option (Nat × List PyI.D)) (f : PyI.D → Sto → Option (Option PyI.D × Sto)) (accAll : List P) (S2 : Sto) (i m : Nat) (H : Hp) : Prop where
  ex : ∃ ρi Si acc outs ps, m = l.length - i ∧ i ≤ l.length ∧ Fut ρ1 H1 ρi H ∧ Sim ρi H Si ∧ still c Si = true ∧ D ∉ ρi ∧ Fill b ρi H D acc ∧ compL f (l.drop i) c Si = some (outs, S2) ∧ ofDs outs = some ps ∧ acc ++ ps = accAll
theorem dc_red {K : Fr} {fi : Env → Sto → Option (List PyI.D × Option (Nat × List PyI.D) × Sto)} {fg : PyI.D → Env → Option Env} {gi : List Nat} {ft : Env → Sto → Option (Bool × Sto)} {fk fv : Env → Sto → Option (R × Sto)} {vs : List Nat} (hgi : ∀ i ∈ gi, i ∈ vs) {σ : L2.St} {H : Hp} {Q : VK}
    (h : tE K (fun env S => match fi env S with
      | some (l, c, S) => match compL (turnD fg ft fk fv (wipe env vs)) l c S with
        | some (l, S) => if l.length ≤ LINE then match (ofDs l).bind dictOf with
          | some o => some (.val (.ref S.length), S ++ [o])
          | none => none else none
        | none => none
      | none => none) σ H Q) : tDcg (tI fi) (tG gi fg) (tT ft) (tE K fk) (tE K fv) vs σ H Q := by
  obtain ⟨ρ, env, S, r, S', s, er, hh, kk⟩ := h
  dsimp only at hh
  split at hh
  · rename_i l c S1 h1
    split at hh
    · rename_i outs0 S2 h2
      split at hh
      · rename_i hz
        cases ep : ofDs outs0 with
        | none => rw [ep] at hh; cases hh
        | some accAll =>
          rw [ep] at hh
          have hh : (match dictOf accAll with
            | some o => some (R.val (.ref S2.length), S2 ++ [o])
            | none => none) = some (r, S') := hh
          cases ed : dictOf accAll with
          | none => rw [ed] at hh; cases hh
          | some o =>
            rw [ed] at hh
            simp only [Option.some.injEq, Prod.mk.injEq] at hh
            obtain ⟨rfl, rfl⟩ := hh
            have hla : accAll.length ≤ LINE := by
              have key : ∀ {l : List PyI.D} {ps : List P}, ofDs l = some ps → ps.length = l.length := by
                intro l
                induction l with
                | nil => intro ps e; cases e; rfl
                | cons d r ih =>
                  intro ps e
                  cases d with
                  | ref n => simp [ofDs, ofD] at e
                  | p x =>
                    obtain ⟨qs, e1, rfl⟩ := ofDs_cons e
                    rw [List.length_cons, List.length_cons, ih e1]
              rw [key ep]
              exact hz
            obtain ⟨b, hcp, hfin⟩ : ∃ b, canPut b accAll ∧ ∀ ρ H D, Fill b ρ H D accAll → ∀ ρ', (∃ t, ρ' = ρ ++ t) → ORep ρ' H D o := by
              rcases dictOf_ok ed with ⟨r0, q1, q2, q3⟩ | ⟨r0, q1, q2⟩
              · refine ⟨true, ⟨r0, q1⟩, fun ρ H D hf ρ' ⟨t, e⟩ => ?_⟩
                unfold Fill at hf
                rw [if_pos rfl] at hf
                obtain ⟨kvs, h0, hf⟩ := hf
                rw [q1] at h0
                cases h0
                rcases hf with ⟨ks, hd, rk, _⟩ | ⟨z, _⟩
                · rw [q2, e]
                  exact ⟨ks, hd, paired_mono (fun _ _ q => ⟨q.1, q.2.ext t⟩) rk⟩
                · exact absurd z q3
              · refine ⟨false, ⟨r0, q1⟩, fun ρ H D hf ρ' ⟨t, e⟩ => ?_⟩
                unfold Fill at hf
                rw [if_neg (by decide)] at hf
                obtain ⟨kvs, h0, ks, hd, rk⟩ := hf
                rw [q1] at h0
                cases h0
                rw [q2, e]
                exact ⟨ks, hd, paired_mono (fun _ _ q => ⟨q.1, q.2.ext t⟩) rk⟩
            refine ⟨ρ, env, S, l, c, S1, s, er, h1, fun ρ1 J H1 f1 s1 hst jok D hD => ?_⟩
            have er1 : ERep ρ1 H1 (L2.wipe σ vs) (wipe env vs) := (er.wipe vs).mono f1
            generalize hf : turnD fg ft fk fv (wipe env vs) = f at h2
            refine ⟨WkD b ρ1 H1 D l c f accAll S2, ⟨l.length, ⟨ρ1, S1, [], outs0, accAll, by simp, Nat.zero_le _, Fut.new hD, s1.new hD, hst, s1.free hD, ?_, by rw [List.drop_zero]; exact h2, ep, rfl⟩⟩, fun i m Hi w => ?_⟩
            · unfold Fill
              cases b with
              | true => exact ⟨[], rfl, .inr ⟨rfl, upd_same⟩⟩
              | false => exact ⟨[], rfl, [], upd_same, .nil⟩
            obtain ⟨ρi, Si, acc, outs, ps, rfl, hi, fi', si, hst', hn, hfl, hc, hps, hacc⟩ := w.ex
            have ki : NewKeep H ρ1 H1 Hi := fun a o _ h1 hn => fi'.keep a o h1 hn
            obtain ⟨j1, j2⟩ := jok ρi Hi Si fi'.ext ki si hst' i
            by_cases hlt : i < l.length
            · refine .inr ?_
              rw [drop_at hlt] at hc
              obtain ⟨x0, Sx, l1, hx1, hx2, hx3, e3⟩ := compL_cons hc
              obtain ⟨g1, g2⟩ := j2 l[i] (List.getElem?_eq_getElem hlt)
              refine ⟨g1, fun H' => WkD b ρ1 H1 D l c f accAll S2 (i + 1) (l.length - (i + 1)) H', fun H' w' => ⟨_, by omega, w'⟩, fun x H' hy => ?_⟩
              obtain ⟨fy, sy, ry⟩ := g2 x H' hy
              rw [← hf] at hx1
              unfold turnD at hx1
              split at hx1
              · rename_i env' hg
                refine ⟨ρi, wipe env vs, l[i], env', (er1.mono fi').mono fy, ry, hg, fun σ2 e2 s2 => ⟨?_, ?_⟩⟩
                · rw [s2 vs hgi, wipe_idem]
                · split at hx1
                  · rename_i St ht
                    split at hx1
                    · rename_i rx Sk hk
                      split at hx1
                      · rename_i rv Sv hv
                        split at hx1
                        · rename_i px py epx epy
                          simp only [Option.some.injEq, Prod.mk.injEq] at hx1
                          obtain ⟨rfl, rfl⟩ := hx1
                          dsimp only at e3
                          subst e3
                          obtain ⟨qs, eq1, rfl⟩ := ofDs_cons hps
                          refine ⟨ρi, env', Si, true, St, sy, e2, ht, fun ρ3 H3 f3 s3 => ?_⟩
                          show ite (true = true) _ _
                          rw [if_pos rfl]
                          refine ⟨ρ3, env', St, rx, Sk, s3, e2.mono f3, hk, fun ρ4 y H4 f4 s4 r4 => ⟨ρ4, env', Sk, rv, Sv, s4, (e2.mono f3).mono f4, hv, fun ρ5 z H5 f5 s5 r5 => ?_⟩⟩
                          have fa := fy.trans ((f3.trans f4).trans f5)
                          have hf5 := hfl.mono hn fa
                          have hn5 : D ∉ ρ5 := by
                            obtain ⟨_, o', ho'⟩ := hfl.own hn
                            exact fa.notin ho' hn
                          obtain ⟨own, _⟩ := hf5.own hn5
                          have hlen : acc.length < LINE := by
                            have z := congrArg List.length hacc
                            rw [List.length_append, List.length_cons] at z
                            omega
                          have hcp' : canPut b (acc ++ [.tup [px, py]]) := by
                            rw [← hacc] at hcp
                            have e : acc ++ P.tup [px, py] :: qs = (acc ++ [.tup [px, py]]) ++ qs := by rw [List.append_assoc]; rfl
                            rw [e] at hcp
                            exact canPut_pre hcp
                          obtain ⟨u, hu1, hu2⟩ := hf5.put hn5 hcp' hlen ((pR_ok r4 epx).fut f5) (pR_ok r5 epy)
                          refine ⟨u, hu1, ⟨ρ5, Sv, acc ++ [.tup [px, py]], l1, qs, rfl, hlt, Own.fut (fi'.trans fa) hD, own.sim s5, hx2, hn5, hu2, hx3, eq1, by rw [← hacc, List.append_assoc]; rfl⟩⟩
                        · cases hx1
                      · cases hx1
                    · cases hx1
                  · rename_i St ht
                    simp only [Option.some.injEq, Prod.mk.injEq] at hx1
                    obtain ⟨rfl, rfl⟩ := hx1
                    dsimp only at e3
                    refine ⟨ρi, env', Si, false, St, sy, e2, ht, fun ρ3 H3 f3 s3 => ?_⟩
                    show ite (false = true) _ _
                    rw [if_neg (by decide)]
                    have fa := fy.trans f3
                    have hn3 : D ∉ ρ3 := by
                      obtain ⟨_, o', ho'⟩ := hfl.own hn
                      exact fa.notin ho' hn
                    exact ⟨ρ3, St, acc, l1, ps, rfl, hlt, fi'.trans fa, s3, hx2, hn3, hfl.mono hn fa, hx3, by rw [← e3]; exact hps, hacc⟩
                  · cases hx1
              · cases hx1
            · have e : i = l.length := by omega
              subst e
              rw [List.drop_length] at hc
              simp only [compL, Option.some.injEq, Prod.mk.injEq] at hc
              obtain ⟨rfl, rfl⟩ := hc
              cases hps
              rw [List.append_nil] at hacc
              subst hacc
              refine .inl ⟨j1 (Nat.le_refl _), ?_⟩
              have hin : D ∉ ρi := hn
              have hf2 : Fut ρ1 H1 (ρi ++ [D]) Hi := fi'.enter hD
              refine kk (ρi ++ [D]) (.ref D) Hi (f1.trans hf2) ?_ ⟨D, by rw [← si.len]; exact get_last, rfl⟩
              refine ⟨by rw [List.length_append, List.length_append, si.len]; rfl, ?_, fun i a o' h3 h4 => ?_⟩
              · rw [List.nodup_append]
                refine ⟨si.nd, by simp, fun x hx y hy => ?_⟩
                have : y = D := by simpa using hy
                subst this
                exact fun z => hin (z ▸ hx)
              · have hij := (List.getElem?_eq_some_iff.mp h3).1
                rw [List.length_append] at hij
                by_cases hj : i < ρi.length
                · rw [List.getElem?_append_left hj] at h3
                  rw [List.getElem?_append_left (by rw [← si.len]; exact hj)] at h4
                  exact ORep.extl [D] (si.obj i a o' h3 h4)
                · have ei : i = ρi.length := by
                    have : ([D] : List Addr).length = 1 := rfl
                    omega
                  subst ei
                  rw [get_last] at h3
                  rw [si.len, get_last'] at h4
                  cases h3
                  cases h4
                  exact hfin _ _ _ hfl _ ⟨[D], rfl⟩
      · cases hh
    · cases hh
  · cases hh
end PyI
set_option Elab.async false
set_option linter.all false
set_option maxRecDepth 100000
set_option maxHeartbeats 2000000
/-! PyS20: each form of an expression. -/
namespace PyI
open PySem PySem.Spec PyProof.Rows L2

structure EOk (X : Cx) (cf : CF) (e : Expr) (ie : IE) : Prop where
  ve : PE X e (tE X.K (ev cf ie))
  vt : PT X e (tT (tst cf ie))
  vw : ∀ op vs p, e = Expr.BoolOp op vs p → PW X e (tT (tst cf ie))
/-- its test is its value's truth -/
def isGen : IE → Bool
  | .bnot _ => false
  | .band _ _ => false
  | .bor _ _ => false
  | .cmp _ _ _ => false
  | .chain _ _ _ _ _ => false
  | .ife _ _ _ => false
  | _ => true
theorem tst_gen {cf : CF} {ie : IE} (h : isGen ie = true) {env : Env} {S : Sto} {b : Bool} {S' : Sto} (hh : tst cf ie env S = some (b, S')) : ∃ x, ev cf ie env S = some (x, S') ∧ truthy x S' = some b := by
  have key : ∀ o : Option (R × Sto), (match o with
      | some (x, S) => match truthy x S with
        | some b => some (b, S)
        | none => none
      | none => none) = some (b, S') → ∃ x, o = some (x, S') ∧ truthy x S' = some b := by
    intro o ho
    split at ho
    · rename_i x S1
      split at ho
      · rename_i b' hb
        simp only [Option.some.injEq, Prod.mk.injEq] at ho
        obtain ⟨rfl, rfl⟩ := ho
        exact ⟨x, rfl, hb⟩
      · cases ho
    · cases ho
  cases ie <;> first | (cases h; done) | (simp only [tst] at hh; exact key _ hh)
theorem mkE {X : Cx} {cf : CF} {e : Expr} {ie : IE} (h : PE X e (tE X.K (ev cf ie))) (hg : isGen ie = true) (he : ∀ whole, isTrue e X.env whole = (do let v ← whole; standAt e.pos; holding [v] (PySem.truthy v))) (nb : ∀ op vs p, e ≠ .BoolOp op vs p) : EOk X cf e ie :=
  ⟨h, pt_val' h he fun env S b S' hh => tst_gen hg hh, fun op vs p z => absurd z (nb op vs p)⟩
section
variable {X : Cx} {c : TC} {k : Nat} {cf : CF}
theorem nb_of {e : Expr} (h : (match e with
    | .BoolOp .. => true
    | _ => false) = false) : ∀ op vs p, e ≠ .BoolOp op vs p := fun op vs p z => by
  subst z
  cases h
theorem e_const {q : PySem.Const} {a b} {x : P} (h : trConst q = some x) : EOk X cf (.Constant q a b) (.cst x) := by
  refine mkE ?_ rfl (fun _ => rfl) (nb_of rfl)
  have fin : ∀ {v : V}, (∀ H, PRep H v x) → PE X (.Constant q a b) (tC v) → PE X (.Constant q a b) (tE X.K (ev cf (.cst x))) := fun hv hp => PEi hp fun σ H Q h => by
    obtain ⟨ρ, env, S, r, S', s, er, hh, kk⟩ := h
    simp only [ev, Option.some.injEq, Prod.mk.injEq] at hh
    obtain ⟨rfl, rfl⟩ := hh
    exact fin_p (Fut.refl _ _) s kk (hv H)
  unfold trConst at h
  split at h <;> first | (cases h; first | exact fin (fun _ => .non) pe_non | exact fin (fun _ => .bl _) pe_bl | exact fin (fun _ => .int _) pe_int | exact fin (fun _ => .str _) pe_str) | cases h
theorem ne_beq {x y : Str} (h : (x != y) = true) : (x == y) = false := by
  simpa [bne] using h
theorem e_var (G : Gd X c k cf) {x : Str} {p : Pos} {i : Nat} (h : trVar c x = some i) : EOk X cf (.Name x p) (.var i) := by
  unfold trVar at h
  split at h
  · rename_i hb
    simp only [Bool.and_eq_true] at hb
    obtain ⟨⟨h1, h2⟩, h3⟩ := hb
    refine mkE (PEi (pe_var (i := i) (by rw [G.N]; exact idx_ok h) ?_ (ne_beq h2) (ne_beq h3)) fun σ H Q hq => ?_) rfl (fun _ => rfl) (nb_of rfl)
    · unfold Vis
      rw [G.names]
      unfold seenAs at h1
      split at h1
      · rename_i e; exact .inl e
      · rename_i e; exact .inr (.inl e)
      · rename_i e; exact .inr (.inr e)
      · cases h1
    · obtain ⟨ρ, env, S, r, S', s, er, hh, kk⟩ := hq
      simp only [ev] at hh
      split at hh
      · rename_i d hd
        simp only [Option.some.injEq, Prod.mk.injEq] at hh
        obtain ⟨rfl, rfl⟩ := hh
        obtain ⟨v, h4, h5⟩ := er.get hd
        exact ⟨v, h4, kk ρ v H (Fut.refl _ _) s h5⟩
      · cases hh
  · cases h
theorem glob_ok (G : Gd X c k cf) {x : Str} {g : GV} (h : trGlob c x = some g) : Gl X x ∧ (x == ("__debug__" : Str)) = false ∧ GvOk X k cf x g := by
  unfold trGlob at h
  split at h
  · rename_i hb
    rw [Bool.and_eq_true] at hb
    refine ⟨?_, ne_beq hb.2, G.gl x g h⟩
    unfold Gl PySem.Env.kindOf
    rw [G.names]
    have z := hb.1
    unfold isGlob at z
    split at z
    · assumption
    · cases z
  · cases h
theorem e_glob (G : Gd X c k cf) {x : Str} {p : Pos} {g : GV} {ie : IE} (h : trGlob c x = some g) (hi : (∃ q, g = .sc q ∧ ie = .cst q) ∨ ∃ q, g = .tp q ∧ ie = .glb q) : EOk X cf (.Name x p) ie := by
  obtain ⟨h1, h2, h3⟩ := glob_ok G h
  rcases hi with ⟨q, rfl, rfl⟩ | ⟨q, rfl, rfl⟩
  · obtain ⟨u, v, e1, e2, e3⟩ := h3
    refine mkE (PEi (pe_glob h1 e1 e2 h2) fun σ H Q hq => ?_) rfl (fun _ => rfl) (nb_of rfl)
    obtain ⟨ρ, env, S, r, S', s, er, hh, kk⟩ := hq
    simp only [ev, Option.some.injEq, Prod.mk.injEq] at hh
    obtain ⟨rfl, rfl⟩ := hh
    exact fin_p (Fut.refl _ _) s kk (e3 H)
  · obtain ⟨u, v, e1, e2, e3⟩ := h3
    refine mkE (PEi (pe_glob h1 e1 e2 h2) fun σ H Q hq => ?_) rfl (fun _ => rfl) (nb_of rfl)
    obtain ⟨ρ, env, S, r, S', s, er, hh, kk⟩ := hq
    simp only [ev, Option.some.injEq, Prod.mk.injEq] at hh
    obtain ⟨rfl, rfl⟩ := hh
    exact kk ρ v H (Fut.refl _ _) s e3
theorem e_bin {po : PySem.Operator} {o : Bop} (h : trOp po = some o) {a b : Expr} {ia ib : IE} {p : Pos} (ha : EOk X cf a ia) (hb : EOk X cf b ib) : EOk X cf (.BinOp a po b p) (.bin o ia ib) := by
  obtain ⟨rr, ho, hk⟩ := bin_ok (X := X) h
  refine mkE (PEi (pe_op ho ha.ve hb.ve) fun σ H Q hq => ?_) rfl (fun _ => rfl) (nb_of rfl)
  obtain ⟨ρ, env, S, r, S', s, er, hh, kk⟩ := hq
  simp only [ev] at hh
  split at hh
  · rename_i x S1 h1
    split at hh
    · rename_i y S2 h2
      split at hh
      · rename_i r' h3
        simp only [Option.some.injEq, Prod.mk.injEq] at hh
        obtain ⟨rfl, rfl⟩ := hh
        exact tE_two s er h1 h2 fun ρ2 v w H2 f2 s2 r1 r2 => hk f2 s2 r1 r2 h3 kk
      · cases hh
    · cases hh
  · cases hh
theorem e_neg {a : Expr} {ia : IE} {p : Pos} (ha : EOk X cf a ia) : EOk X cf (.UnaryOp .USub a p) (.neg ia) := by
  refine mkE (PEi (pe_un un_neg ha.ve) fun σ H Q hq => ?_) rfl (fun _ => rfl) (nb_of rfl)
  obtain ⟨ρ, env, S, r, S', s, er, hh, kk⟩ := hq
  simp only [ev] at hh
  split at hh
  · rename_i x S1 h1
    split at hh
    · rename_i i h2
      simp only [Option.some.injEq, Prod.mk.injEq] at hh
      obtain ⟨rfl, rfl⟩ := hh
      exact tE_one s er h1 fun ρ2 v H2 f2 s2 r1 => ⟨i, intR_ok r1 h2, fin_p f2 s2 kk (.int _)⟩
    · cases hh
  · cases hh
theorem e_not {a : Expr} {ia : IE} {p : Pos} (ha : EOk X cf a ia) : EOk X cf (.UnaryOp .Not a p) (.bnot ia) := by
  refine ⟨PEi (pe_notT ha.ve) fun σ H Q hq => ?_, PTi (pt_not ha.vt) fun σ H Q hq => ?_, fun _ _ _ z => nomatch z⟩
  · obtain ⟨ρ, env, S, r, S', s, er, hh, kk⟩ := hq
    simp only [ev] at hh
    split at hh
    · rename_i x S1 h1
      split at hh
      · rename_i b h2
        simp only [Option.some.injEq, Prod.mk.injEq] at hh
        obtain ⟨rfl, rfl⟩ := hh
        exact ⟨ρ, env, S, x, S1, s, er, h1, fun ρ2 v H2 f2 s2 r1 => ⟨b, truthy_ok s2 r1 h2, fin_p f2 s2 kk (.bl _)⟩⟩
      · cases hh
    · cases hh
  · obtain ⟨ρ, env, S, b, S', s, er, hh, kk⟩ := hq
    simp only [tst] at hh
    split at hh
    · rename_i b' S1 h1
      simp only [Option.some.injEq, Prod.mk.injEq] at hh
      obtain ⟨rfl, rfl⟩ := hh
      exact ⟨ρ, env, S, b', S1, s, er, h1, fun ρ2 H2 f2 s2 => kk ρ2 H2 f2 s2⟩
    · cases hh
theorem e_bool1 {op : PySem.BoolOp} {a : Expr} {ia : IE} {p : Pos} (ha : EOk X cf a ia) : EOk X cf (.BoolOp op [a] p) ia := by
  have w : PW X (.BoolOp op [a] p) (tT (tst cf ia)) := by
    cases op with
    | And => exact pw_and1 ha.vt
    | Or => exact pw_or1 ha.vt
  exact ⟨pe_one ha.ve, w.pt, fun _ _ _ _ => w⟩
theorem e_and {a b : Expr} {r : List Expr} {ia ib : IE} {p : Pos} (ha : EOk X cf a ia) (hb : EOk X cf (.BoolOp .And (b :: r) p) ib) : EOk X cf (.BoolOp .And (a :: b :: r) p) (.band ia ib) := by
  have w : PW X (.BoolOp .And (a :: b :: r) p) (tT (tst cf (.band ia ib))) := by
    refine PWi (pw_and ha.vt (hb.vw _ _ _ rfl)) fun σ H Q hq => ?_
    obtain ⟨ρ, env, S, t, S', s, er, hh, kk⟩ := hq
    simp only [tst] at hh
    split at hh
    · rename_i S1 h1
      exact ⟨ρ, env, S, true, S1, s, er, h1, fun ρ2 H2 f2 s2 => ⟨ρ2, env, S1, t, S', s2, er.mono f2, hh, fun ρ3 H3 f3 s3 => kk ρ3 H3 (f2.trans f3) s3⟩⟩
    · rename_i S1 h1
      simp only [Option.some.injEq, Prod.mk.injEq] at hh
      obtain ⟨rfl, rfl⟩ := hh
      exact ⟨ρ, env, S, false, S1, s, er, h1, fun ρ2 H2 f2 s2 => kk ρ2 H2 f2 s2⟩
    · cases hh
  refine ⟨PEi (pe_andT ha.ve hb.ve) fun σ H Q hq => ?_, w.pt, fun _ _ _ _ => w⟩
  obtain ⟨ρ, env, S, r, S', s, er, hh, kk⟩ := hq
  simp only [ev] at hh
  split at hh
  · rename_i x S1 h1
    split at hh
    · rename_i h2
      exact ⟨ρ, env, S, x, S1, s, er, h1, fun ρ2 v H2 f2 s2 r1 => ⟨true, truthy_ok s2 r1 h2, ⟨ρ2, env, S1, r, S', s2, er.mono f2, hh, fun ρ3 w H3 f3 s3 r3 => kk ρ3 w H3 (f2.trans f3) s3 (r3.from f2)⟩⟩⟩
    · rename_i h2
      simp only [Option.some.injEq, Prod.mk.injEq] at hh
      obtain ⟨rfl, rfl⟩ := hh
      exact ⟨ρ, env, S, x, S1, s, er, h1, fun ρ2 v H2 f2 s2 r1 => ⟨false, truthy_ok s2 r1 h2, kk ρ2 v H2 f2 s2 r1⟩⟩
    · cases hh
  · cases hh
theorem e_or {a b : Expr} {r : List Expr} {ia ib : IE} {p : Pos} (ha : EOk X cf a ia) (hb : EOk X cf (.BoolOp .Or (b :: r) p) ib) : EOk X cf (.BoolOp .Or (a :: b :: r) p) (.bor ia ib) := by
  have w : PW X (.BoolOp .Or (a :: b :: r) p) (tT (tst cf (.bor ia ib))) := by
    refine PWi (pw_or ha.vt (hb.vw _ _ _ rfl)) fun σ H Q hq => ?_
    obtain ⟨ρ, env, S, t, S', s, er, hh, kk⟩ := hq
    simp only [tst] at hh
    split at hh
    · rename_i S1 h1
      simp only [Option.some.injEq, Prod.mk.injEq] at hh
      obtain ⟨rfl, rfl⟩ := hh
      exact ⟨ρ, env, S, true, S1, s, er, h1, fun ρ2 H2 f2 s2 => kk ρ2 H2 f2 s2⟩
    · rename_i S1 h1
      exact ⟨ρ, env, S, false, S1, s, er, h1, fun ρ2 H2 f2 s2 => ⟨ρ2, env, S1, t, S', s2, er.mono f2, hh, fun ρ3 H3 f3 s3 => kk ρ3 H3 (f2.trans f3) s3⟩⟩
    · cases hh
  refine ⟨PEi (pe_orT ha.ve hb.ve) fun σ H Q hq => ?_, w.pt, fun _ _ _ _ => w⟩
  obtain ⟨ρ, env, S, r, S', s, er, hh, kk⟩ := hq
  simp only [ev] at hh
  split at hh
  · rename_i x S1 h1
    split at hh
    · rename_i h2
      simp only [Option.some.injEq, Prod.mk.injEq] at hh
      obtain ⟨rfl, rfl⟩ := hh
      exact ⟨ρ, env, S, x, S1, s, er, h1, fun ρ2 v H2 f2 s2 r1 => ⟨true, truthy_ok s2 r1 h2, kk ρ2 v H2 f2 s2 r1⟩⟩
    · rename_i h2
      exact ⟨ρ, env, S, x, S1, s, er, h1, fun ρ2 v H2 f2 s2 r1 => ⟨false, truthy_ok s2 r1 h2, ⟨ρ2, env, S1, r, S', s2, er.mono f2, hh, fun ρ3 w H3 f3 s3 r3 => kk ρ3 w H3 (f2.trans f3) s3 (r3.from f2)⟩⟩⟩
    · cases hh
  · cases hh
theorem cmp_some {o : Cop} {x y : R} {S : Sto} {b : Bool} (h : cmpR o x y S = some b) : (cmpR o x y S).map rBool = some (rBool b) := by
  rw [h]
  rfl
theorem e_cmp (hu : X.A.units + 90 < cLine) {po : PySem.CmpOp} {o : Cop} (h : trCmp po = some o) {a b : Expr} {ia ib : IE} {p : Pos} (ha : EOk X cf a ia) (hb : EOk X cf b ib) (hn : ∀ op, behindInMarks op b = false) : EOk X cf (.Compare a [po] [b] p) (.cmp o ia ib) := by
  obtain ⟨rr, ho, hk⟩ := cm_ok (X := X) (by omega) h
  refine ⟨PEi (pe_cmpR ho ha.ve hb.ve (hn _)) fun σ H Q hq => ?_, PTi (pt_cmpR ho ha.ve hb.ve (hn _)) fun σ H Q hq => ?_, fun _ _ _ z => nomatch z⟩
  · obtain ⟨ρ, env, S, r, S', s, er, hh, kk⟩ := hq
    simp only [ev] at hh
    split at hh
    · rename_i x S1 h1
      split at hh
      · rename_i y S2 h2
        split at hh
        · rename_i r' h3
          simp only [Option.some.injEq, Prod.mk.injEq] at hh
          obtain ⟨rfl, rfl⟩ := hh
          exact tE_two s er h1 h2 fun ρ2 v w H2 f2 s2 r1 r2 => hk f2 s2 r1 r2 (r := rBool r') (cmp_some h3) kk
        · cases hh
      · cases hh
    · cases hh
  · obtain ⟨ρ, env, S, t, S', s, er, hh, kk⟩ := hq
    simp only [tst] at hh
    split at hh
    · rename_i x S1 h1
      split at hh
      · rename_i y S2 h2
        split at hh
        · rename_i r' h3
          simp only [Option.some.injEq, Prod.mk.injEq] at hh
          obtain ⟨rfl, rfl⟩ := hh
          exact tE_two (Q := fun z H' => ∃ k, z = .bl k ∧ Q k H') s er h1 h2 fun ρ2 v w H2 f2 s2 r1 r2 => hk f2 s2 r1 r2 (r := rBool r') (cmp_some h3) fun ρ3 u H3 f3 s3 r3 => by
            cases (show PRep H3 u (.bl r') from r3)
            exact ⟨r', rfl, kk ρ3 H3 f3 s3⟩
        · cases hh
      · cases hh
    · cases hh
theorem e_chain (hu : X.A.units + 90 < cLine) {po po' : PySem.CmpOp} {o o' : Cop} (h : trCmp po = some o) (h' : trCmp po' = some o') {a b d : Expr} {ia ib id : IE} {p : Pos} (ha : EOk X cf a ia) (hb : EOk X cf b ib) (hd : EOk X cf d id) (hn : ∀ op, behindInMarks op d = false) :
    EOk X cf (.Compare a [po, po'] [b, d] p) (.chain o o' ia ib id) := by
  obtain ⟨rr, ho, hk⟩ := cm_ok (X := X) (by omega) h
  obtain ⟨rr', ho', hk'⟩ := cm_ok (X := X) (by omega) h'
  have hm : lastMarks [po, po'] [b, d] = false := hn po'
  have red : ∀ {ρ : List Addr} {H : Hp} {σ : L2.St} {env : Env} {S S' : Sto} {t : Bool} {Q : VK}, Sim ρ H S → ERep ρ H σ env → tst cf (.chain o o' ia ib id) env S = some (t, S') → Post X.K ρ H (rBool t) S' Q → tChain rr rr' (tE X.K (ev cf ia)) (tE X.K (ev cf ib)) (tE X.K (ev cf id)) σ H Q := by
    intro ρ H σ env S S' t Q s er hh kk
    simp only [tst] at hh
    split at hh
    · rename_i x S1 h1
      split at hh
      · rename_i y S2 h2
        refine ⟨ρ, env, S, x, S1, s, er, h1, fun ρ1 v H1 f1 s1 r1 => ⟨ρ1, env, S1, y, S2, s1, er.mono f1, h2, fun ρ2 w H2 f2 s2 r2 => ?_⟩⟩
        have f12 := f1.trans f2
        split at hh
        · rename_i h3
          refine hk (Fut.refl ρ2 H2) s2 (r1.mono f2) r2 (r := rBool true) (cmp_some h3) fun ρ3 u H3 f3 s3 r3 => ?_
          cases (show PRep H3 u (.bl true) from r3)
          refine ⟨true, rfl, ?_⟩
          rw [if_pos rfl]
          split at hh
          · rename_i z S3 h4
            split at hh
            · rename_i q h5
              simp only [Option.some.injEq, Prod.mk.injEq] at hh
              obtain ⟨rfl, rfl⟩ := hh
              have f13 := f12.trans f3
              refine ⟨ρ3, env, S2, z, S3, s3, er.mono f13, h4, fun ρ4 u4 H4 f4 s4 r4 => ?_⟩
              exact hk' (f13.trans f4) s4 ((r2.mono f3).mono f4) r4 (r := rBool q) (cmp_some h5) kk
            · cases hh
          · cases hh
        · rename_i h3
          simp only [Option.some.injEq, Prod.mk.injEq] at hh
          obtain ⟨rfl, rfl⟩ := hh
          refine hk (Fut.refl ρ2 H2) s2 (r1.mono f2) r2 (r := rBool false) (cmp_some h3) fun ρ3 u H3 f3 s3 r3 => ?_
          cases (show PRep H3 u (.bl false) from r3)
          refine ⟨false, rfl, ?_⟩
          rw [if_neg (by decide)]
          exact kk ρ3 _ H3 (f12.trans f3) s3 (PRep.bl false)
        · cases hh
      · cases hh
    · cases hh
  have ek : ∀ {env : Env} {S : Sto} {r : R} {S' : Sto}, ev cf (.chain o o' ia ib id) env S = some (r, S') → ∃ t, r = rBool t ∧ tst cf (.chain o o' ia ib id) env S = some (t, S') := by
    intro env S r S' hh
    simp only [ev] at hh
    simp only [tst]
    split at hh
    · rename_i x S1 h1
      split at hh
      · rename_i y S2 h2
        split at hh
        · rename_i h3
          split at hh
          · rename_i z S3 h4
            split at hh
            · rename_i q h5
              simp only [Option.some.injEq, Prod.mk.injEq] at hh
              obtain ⟨rfl, rfl⟩ := hh
              exact ⟨q, rfl, rfl⟩
            · cases hh
          · cases hh
        · rename_i h3
          simp only [Option.some.injEq, Prod.mk.injEq] at hh
          obtain ⟨rfl, rfl⟩ := hh
          exact ⟨false, rfl, rfl⟩
        · cases hh
      · cases hh
    · cases hh
  refine ⟨PEi (pe_chain ho ho' ha.ve hb.ve hd.ve hm) fun σ H Q hq => ?_, PTi (pt_chain ho ho' ha.ve hb.ve hd.ve hm) fun σ H Q hq => ?_, fun _ _ _ z => nomatch z⟩
  · obtain ⟨ρ, env, S, r, S', s, er, hh, kk⟩ := hq
    obtain ⟨t, rfl, ht⟩ := ek hh
    exact red s er ht kk
  · obtain ⟨ρ, env, S, t, S', s, er, hh, kk⟩ := hq
    refine red (Q := fun z H' => ∃ k, z = .bl k ∧ Q k H') s er hh fun ρ3 u H3 f3 s3 r3 => ?_
    cases (show PRep H3 u (.bl t) from r3)
    exact ⟨t, rfl, kk ρ3 H3 f3 s3⟩
theorem e_ife {t a b : Expr} {it ia ib : IE} {p : Pos} (ht : EOk X cf t it) (ha : EOk X cf a ia) (hb : EOk X cf b ib) : EOk X cf (.IfExp t a b p) (.ife it ia ib) := by
  refine ⟨PEi (pe_ifExp ht.vt ha.ve hb.ve) fun σ H Q hq => ?_, ?_, fun _ _ _ z => nomatch z⟩
  · obtain ⟨ρ, env, S, r, S', s, er, hh, kk⟩ := hq
    simp only [ev] at hh
    split at hh
    · rename_i S1 h1
      exact ⟨ρ, env, S, true, S1, s, er, h1, fun ρ2 H2 f2 s2 => ⟨ρ2, env, S1, r, S', s2, er.mono f2, hh, fun ρ3 w H3 f3 s3 r3 => kk ρ3 w H3 (f2.trans f3) s3 (r3.from f2)⟩⟩
    · rename_i S1 h1
      exact ⟨ρ, env, S, false, S1, s, er, h1, fun ρ2 H2 f2 s2 => ⟨ρ2, env, S1, r, S', s2, er.mono f2, hh, fun ρ3 w H3 f3 s3 r3 => kk ρ3 w H3 (f2.trans f3) s3 (r3.from f2)⟩⟩
    · cases hh
  · refine ⟨fun pins s σ H Q I hq => ?_⟩
    obtain ⟨ρ, env, S, r, S', s0, er, hh, kk⟩ := hq
    show wpAny _ _ (do if ← PySem.isTrue t X.env (eval t X.env) then PySem.isTrue a X.env (eval a X.env) else PySem.isTrue b X.env (eval b X.env)) _ _ _
    simp only [tst] at hh
    refine wpAny_bind ?_
    split at hh
    · rename_i S1 h1
      refine thn (ht.vt.run pins s σ H (fun q H2 => q = true ∧ tT (tst cf ia) σ H2 Q) I ⟨ρ, env, S, true, S1, s0, er, h1, fun ρ2 H2 f2 s2 => ⟨rfl, ρ2, env, S1, r, S', s2, er.mono f2, hh, fun ρ3 H3 f3 s3 => kk ρ3 H3 (f2.trans f3) s3⟩⟩) fun q s1 ⟨H2, I2, e, q2⟩ => ?_
      subst e
      exact ha.vt.run pins s1 σ H2 Q I2 q2
    · rename_i S1 h1
      refine thn (ht.vt.run pins s σ H (fun q H2 => q = false ∧ tT (tst cf ib) σ H2 Q) I ⟨ρ, env, S, false, S1, s0, er, h1, fun ρ2 H2 f2 s2 => ⟨rfl, ρ2, env, S1, r, S', s2, er.mono f2, hh, fun ρ3 H3 f3 s3 => kk ρ3 H3 (f2.trans f3) s3⟩⟩) fun q s1 ⟨H2, I2, e, q2⟩ => ?_
      subst e
      exact hb.vt.run pins s1 σ H2 Q I2 q2
    · cases hh
theorem e_tup {es : List Expr} {ies : IEs} {q : Nat} {p : Pos} (ha : PA X es (tA (evs cf ies))) : EOk X cf (.Tuple es q p) (.tup ies) := by
  refine mkE (PEi (pe_tupG ha) fun σ H Q hq => ?_) rfl (fun _ => rfl) (nb_of rfl)
  obtain ⟨ρ, env, S, r, S', s, er, hh, kk⟩ := hq
  simp only [ev] at hh
  split at hh
  · rename_i l S1 h1
    split at hh
    · rename_i r' h2
      simp only [Option.some.injEq, Prod.mk.injEq] at hh
      obtain ⟨rfl, rfl⟩ := hh
      unfold tupD at h2
      split at h2
      · rename_i ps h3
        split at h2
        · rename_i h4
          cases h2
          refine ⟨ρ, env, S, l, S1, s, er, h1, fun ρ2 vs H2 f2 s2 rs => ?_⟩
          have rp := ofDs_ok rs h3
          exact ⟨by rw [rp.length, ← LINE_eq]; exact h4, fin_tup f2 s2 kk rp⟩
        · cases h2
      · cases h2
    · cases hh
  · cases hh
theorem e_lst {es : List Expr} {ies : IEs} {p : Pos} (ha : PA X es (tA (evs cf ies))) : EOk X cf (.List es p) (.lst ies) := by
  refine mkE (PEi (pe_lst ha) fun σ H Q hq => ?_) rfl (fun _ => rfl) (nb_of rfl)
  obtain ⟨ρ, env, S, r, S', s, er, hh, kk⟩ := hq
  simp only [ev] at hh
  split at hh
  · rename_i l S1 h1
    split at hh
    · rename_i h4
      simp only [Option.some.injEq, Prod.mk.injEq] at hh
      obtain ⟨rfl, rfl⟩ := hh
      refine ⟨ρ, env, S, l, S1, s, er, h1, fun ρ2 vs H2 f2 s2 rs => ?_⟩
      exact ⟨by rw [Paired.length rs, ← LINE_eq]; exact h4, fun q n => fin_tl f2 s2 kk rs n⟩
    · cases hh
  · cases hh
theorem e_dct {p : Pos} : EOk X cf (.Dict [] [] p) .dct := by
  refine mkE (PEi pe_dnewK fun σ H Q hq => ?_) rfl (fun _ => rfl) (nb_of rfl)
  obtain ⟨ρ, env, S, r, S', s, er, hh, kk⟩ := hq
  simp only [ev, Option.some.injEq, Prod.mk.injEq] at hh
  obtain ⟨rfl, rfl⟩ := hh
  exact fun q n => fin_obj (Fut.refl _ _) s kk n fun ρ => ⟨[], upd_same, .nil⟩
theorem e_ix (hu : X.A.units + 90 < cLine) {a b : Expr} {ia ib : IE} {p : Pos} (ha : EOk X cf a ia) (hb : EOk X cf b ib) (hn : ∀ o i, subscripted b false o i = operate [o, i] (getItem o i)) : EOk X cf (.Subscript a b p) (.ix ia ib) := by
  obtain ⟨rr, ho, hk⟩ := ix_ok (X := X) (by omega)
  refine mkE (PEi (pe_ix ho ha.ve hb.ve hn) fun σ H Q hq => ?_) rfl (fun _ => rfl) (nb_of rfl)
  obtain ⟨ρ, env, S, r, S', s, er, hh, kk⟩ := hq
  simp only [ev] at hh
  split at hh
  · rename_i x S1 h1
    split at hh
    · rename_i y S2 h2
      split at hh
      · rename_i r' h3
        simp only [Option.some.injEq, Prod.mk.injEq] at hh
        obtain ⟨rfl, rfl⟩ := hh
        exact tE_two s er h1 h2 fun ρ2 v w H2 f2 s2 r1 r2 => hk f2 s2 r1 r2 h3 kk
      · cases hh
    · cases hh
  · cases hh
def tO (f : Env → Sto → Option (Option Int × Sto)) : TO := fun σ H Q => ∃ ρ env S o S', Sim ρ H S ∧ ERep ρ H σ env ∧ f env S = some (o, S') ∧ ∀ ρ' H', Fut ρ H ρ' H' → Sim ρ' H' S' → Q o H'
theorem POi {e : Option Expr} {t t' : TO} (h : PO X e t) (w : ∀ σ H Q, t' σ H Q → t σ H Q) : PO X e t' := ⟨fun pins s σ H Q I q => h.run pins s σ H Q I (w _ _ _ q)⟩
theorem o_none : PO X none (tO (evo cf .none)) := POi po_none fun σ H Q hq => by
  obtain ⟨ρ, env, S, o, S', s, er, hh, kk⟩ := hq
  simp only [evo, Option.some.injEq, Prod.mk.injEq] at hh
  obtain ⟨rfl, rfl⟩ := hh
  exact kk ρ H (Fut.refl _ _) s
theorem o_some {e : Expr} {ie : IE} (h : EOk X cf e ie) : PO X (some e) (tO (evo cf (.some ie))) := POi (po_some h.ve) fun σ H Q hq => by
  obtain ⟨ρ, env, S, o, S', s, er, hh, kk⟩ := hq
  simp only [evo] at hh
  split at hh
  · rename_i x S1 h1
    split at hh
    · rename_i i h2
      simp only [Option.some.injEq, Prod.mk.injEq] at hh
      obtain ⟨rfl, rfl⟩ := hh
      exact ⟨ρ, env, S, x, S1, s, er, h1, fun ρ2 v H2 f2 s2 r1 => ⟨i, intR_ok r1 h2, kk ρ2 H2 f2 s2⟩⟩
    · cases hh
  · cases hh
theorem e_sl {a : Expr} {lo hi : Option Expr} {ia : IE} {il ih : IEo} {p p2 : Pos} (ha : EOk X cf a ia) (hl : PO X lo (tO (evo cf il))) (hh' : PO X hi (tO (evo cf ih))) : EOk X cf (.Subscript a (.Slice lo hi none p2) p) (.sl ia il ih) := by
  obtain ⟨rr, ho, hk⟩ := sl_ok (X := X)
  refine mkE (PEi (pe_slice ho ha.ve hl hh') fun σ H Q hq => ?_) rfl (fun _ => rfl) (nb_of rfl)
  obtain ⟨ρ, env, S, r, S', s, er, hh, kk⟩ := hq
  simp only [ev] at hh
  split at hh
  · rename_i x S1 h1
    split at hh
    · rename_i l S2 h2
      split at hh
      · rename_i h S3 h3
        split at hh
        · rename_i r' h4
          simp only [Option.some.injEq, Prod.mk.injEq] at hh
          obtain ⟨rfl, rfl⟩ := hh
          exact ⟨ρ, env, S, x, S1, s, er, h1, fun ρ1 v H1 f1 s1 r1 => ⟨ρ1, env, S1, l, S2, s1, er.mono f1, h2, fun ρ2 H2 f2 s2 => ⟨ρ2, env, S2, h, S3, s2, (er.mono f1).mono f2, h3, fun ρ3 H3 f3 s3 => hk ((f1.trans f2).trans f3) s3 ((r1.mono f2).mono f3) h4 kk⟩⟩⟩
        · cases hh
      · cases hh
    · cases hh
  · cases hh
end
end PyI
set_option Elab.async false
set_option linter.all false
set_option maxRecDepth 100000
set_option maxHeartbeats 2000000
/-! PyS21: comprehensions' blocks, calls, methods. -/
namespace PyI
open PySem PySem.Spec PyProof.Rows L2

section
variable {X : Cx} {c : TC} {k : Nat} {cf : CF}
theorem blockOk_iff {scope : Scope} (h : blockOk c scope = true) : scope.kind = .function ∧ (∀ y ∈ scope.names, scope.names.lookup y.1 = some y.2) ∧ ∀ y ∈ scope.names, y.2 = .free → c.names.lookup y.1 = some .cell ∨ c.names.lookup y.1 = some .free := by
  unfold blockOk at h
  simp only [Bool.and_eq_true, List.all_eq_true] at h
  obtain ⟨⟨h1, h2⟩, h3⟩ := h
  refine ⟨?_, fun y hy => by simpa using h2 y hy, fun y hy e => ?_⟩
  · split at h1
    · assumption
    · cases h1
  · have z := h3 y hy
    rw [e] at z
    dsimp only at z
    split at z
    · rename_i e2; exact .inl e2
    · rename_i e2; exact .inr e2
    · cases z
theorem ownOf_mem {N : List Str} {scope : Scope} {p : Str × Nat} (h : p ∈ ownOf N scope) : idx N p.1 = some p.2 ∧ ∃ k, (p.1, k) ∈ scope.names ∧ (k = .local ∨ k = .cell) := by
  unfold ownOf at h
  obtain ⟨y, hy, e⟩ := List.mem_filterMap.mp h
  split at e
  · rename_i hk
    obtain ⟨i, hi, rfl⟩ := Option.map_eq_some_iff.mp e
    refine ⟨hi, y.2, hy, ?_⟩
    simpa using hk
  · cases e
theorem blk_ok (G : Gd X c k cf) {scope : Scope} (h : blockOk c scope = true) : BlkOk X.N X.env.scope scope (ownOf c.N scope) := by
  obtain ⟨h1, h2, h3⟩ := blockOk_iff h
  refine ⟨h1, h2, fun p hp => ?_, fun y hy e => ?_, fun y hy e => ?_⟩
  · rw [G.N]
    exact idx_ok (ownOf_mem hp).1
  · rw [G.names]
    exact h3 y hy e
  · rw [G.N]
    cases hi : idx c.N y.1 with
    | some i =>
      refine .inl (List.mem_map.mpr ⟨(y.1, i), ?_, rfl⟩)
      unfold ownOf
      refine List.mem_filterMap.mpr ⟨y, hy, ?_⟩
      rw [if_pos (by rcases e with e | e <;> simp [e]), hi]
      rfl
    | none =>
      refine .inr fun hm => ?_
      have key : ∀ N : List Str, y.1 ∈ N → idx N y.1 ≠ none := by
        intro N
        induction N with
        | nil => intro h; cases h
        | cons z r ih =>
          intro hm e
          unfold idx at e
          split at e
          · cases e
          · rename_i hz
            rcases List.mem_cons.mp hm with q | q
            · rw [q] at hz
              simp at hz
            · have := ih q
              cases e2 : idx r y.1 with
              | none => exact this e2
              | some j => rw [e2] at e; cases e
      exact key c.N hm hi
theorem lookup_inner {outer : Names} : ∀ {l : List (Str × NameKind)} {x : Str}, l.lookup x = some .local → (l.map fun p => if p.2 == .free && outer.lookup p.1 == some .cell then (p.1, NameKind.cell) else p).lookup x = some .local
  | [], _, h => by simp at h
  | (y, q) :: r, x, h => by
    rw [List.lookup_cons] at h
    rw [List.map_cons]
    by_cases e : x == y
    · rw [e] at h
      dsimp only at h
      cases h
      show List.lookup x (((y, NameKind.local)) :: _) = _
      rw [List.lookup_cons, e]
    · have e' : (x == y) = false := by simpa using e
      rw [e'] at h
      dsimp only at h
      dsimp only
      split
      · rw [List.lookup_cons, e']
        exact lookup_inner h
      · rw [List.lookup_cons, e']
        exact lookup_inner h
theorem blk_gd (G : Gd X c k cf) {scope : Scope} (h : blockOk c scope = true) (s : Shared) (H : Hp) (C : Addr) (cl : List (Str × Addr)) (fp : List Addr) : Gd (X.blk s H scope (compEnvC scope cl C X.env) fp) (inC c scope) k cf where
  calm := G.calm
  N := G.N
  nd := G.nd
  kind := (blockOk_iff h).1
  names := by
    show (scope.names.map fun (n, q) => if (q == .free && X.env.scope.kind == .function && X.env.kindOf n == some .cell) then (n, NameKind.cell) else (n, q)) = inner c.names scope
    unfold inner
    refine List.map_congr_left fun p _ => ?_
    have hk : (X.env.scope.kind == ScopeKind.function) = true := by rw [G.kind]; rfl
    have hn : X.env.kindOf p.1 = c.names.lookup p.1 := by
      unfold PySem.Env.kindOf
      rw [G.names]
    dsimp only
    rw [hk, hn, Bool.and_true]
  own := fun x hx => by
    have hx : ((ownOf c.N scope).map (·.1)).contains x = true := hx
    rw [List.contains_iff_mem] at hx
    obtain ⟨p, hp, rfl⟩ := List.mem_map.mp hx
    obtain ⟨_, q, hq, hk⟩ := ownOf_mem hp
    have hl := (blockOk_iff h).2.1 _ hq
    rcases hk with rfl | rfl
    · exact .inr (lookup_inner hl)
    · refine .inl ?_
      show (scope.names.lookup p.1 == some .cell) = true
      rw [hl]
      rfl
  room := G.room
  units := G.units
  gl := fun x g hg => G.gl x g hg
  bl := fun x hx => G.bl x hx
theorem own_in {scope : Scope} : ∀ {n : Nat} {e : Expr} {t : TG}, trG (inC c scope) n e = some t → ∀ i ∈ tgIdx t, i ∈ (ownOf c.N scope).map (·.2) := by
  have key : ∀ (n : Nat), (∀ {e : Expr} {t : TG}, trG (inC c scope) n e = some t → ∀ i ∈ tgIdx t, i ∈ (ownOf c.N scope).map (·.2)) ∧ ∀ {es : List Expr} {ts : List TG}, trGs (inC c scope) n es = some ts → ∀ i ∈ tgsIdx ts, i ∈ (ownOf c.N scope).map (·.2) := by
    intro n
    induction n with
    | zero => exact ⟨fun h => (by unfold trG at h; cases h), fun h => (by unfold trGs at h; cases h)⟩
    | succ n ih =>
      refine ⟨fun {e t} h => ?_, fun {es ts} h => ?_⟩
      · unfold trG at h
        split at h
        · obtain ⟨i, hi, rfl⟩ := Option.map_eq_some_iff.mp h
          intro j hj
          have : j = i := by simpa [tgIdx] using hj
          subst this
          unfold trOwn at hi
          split at hi
          · rename_i hb
            rw [Bool.and_eq_true] at hb
            have hm : ((ownOf c.N scope).map (·.1)).contains _ = true := hb.2
            rw [List.contains_iff_mem] at hm
            obtain ⟨p, hp, e⟩ := List.mem_map.mp hm
            have h2 := (ownOf_mem hp).1
            have hi : idx c.N _ = some j := hi
            rw [e, hi] at h2
            exact List.mem_map.mpr ⟨p, hp, (Option.some.inj h2).symm⟩
          · cases hi
        · obtain ⟨ts, hts, rfl⟩ := Option.map_eq_some_iff.mp h
          exact fun i hi => ih.2 hts i (by simpa [tgIdx] using hi)
        · cases h
      · cases es with
        | nil =>
          unfold trGs at h
          cases h
          intro i hi
          simp [tgsIdx] at hi
        | cons e r =>
          unfold trGs at h
          split at h
          · rename_i t ts' h1 h2
            cases h
            intro i hi
            unfold tgsIdx at hi
            rcases List.mem_append.mp hi with hi | hi
            · exact ih.1 h1 i hi
            · exact ih.2 h2 i hi
          · cases h
  exact fun {n e t} h => (key n).1 h
theorem ev_comp {elt : IE} {tg : TG} {it : IT} {cs : IEs} {own : List Nat} {env : Env} {S : Sto} {r : R} {S' : Sto} (h : ev cf (.comp elt tg it cs own) env S = some (r, S')) :
    (match evi cf it env S with
      | some (l, c, S) => match compL (turnL (asgD tg) (tsts cf cs) (ev cf elt) (wipe env own)) l c S with
        | some (l, S) => if l.length ≤ LINE then some (R.tl l, S) else none
        | none => none
      | none => none) = some (r, S') := by
  simp only [ev] at h
  exact h
theorem e_comp (G : Gd X c k cf) {scope : Scope} (hb : blockOk c scope = true) {elt tg it : Expr} {ifs : List Expr} {p : Pos} {n : Nat} {ielt : IE} {itg : TG} {iit : IT} {iifs : IEs} (htg : trG (inC c scope) n tg = some itg)
    (hi : PI X tg it (tI (evi cf iit))) (hs : ∀ env x, foldedSetIterable it env x = pure x)
    (ht : ∀ {X' : Cx}, Gd X' (inC c scope) k cf → PTs X' ifs (tT (tsts cf iifs))) (he : ∀ {X' : Cx}, Gd X' (inC c scope) k cf → EOk X' cf elt ielt) :
    EOk X cf (.ListComp elt [⟨tg, it, ifs, 0⟩] scope p) (.comp ielt itg iit iifs ((ownOf c.N scope).map (·.2))) := by
  refine mkE (PEi (pe_lc (te := tE X.K (ev cf ielt)) (own := ownOf c.N scope) G.calm (by rw [G.N]; exact G.nd) hi (blk_ok G hb) (fun s H C cl fp => tg_ok (blk_gd G hb s H C cl fp) htg) (fun s H C cl fp => ht (blk_gd G hb s H C cl fp)) (fun s H C cl fp => (he (blk_gd G hb s H C cl fp)).ve) (fun x => hs _ x)) fun σ H Q hq => ?_) rfl (fun _ => rfl) (nb_of rfl)
  refine lc_red (own_in htg) ?_
  obtain ⟨ρ, env, S, r, S', s, er, hh, kk⟩ := hq
  exact ⟨ρ, env, S, r, S', s, er, ev_comp hh, kk⟩
theorem ev_comp2 {elt : IE} {tg tg2 : TG} {it it2 : IT} {cs cs2 : IEs} {own : List Nat} {env : Env} {S : Sto} {r : R} {S' : Sto} (h : ev cf (.comp2 elt tg it cs tg2 it2 cs2 own) env S = some (r, S')) :
    (match evi cf it env S with
      | some (l, c, S) => match compL2 (turnL2 (asgD tg) (tsts cf cs) (evi cf it2) (fun env' => turnL (asgD tg2) (tsts cf cs2) (ev cf elt) (wipe env' (tgIdx tg2))) (wipe env own)) l c S with
        | some (l, S) => if l.length ≤ LINE then some (R.tl l, S) else none
        | none => none
      | none => none) = some (r, S') := by
  simp only [ev] at h
  exact h
theorem e_comp2 (G : Gd X c k cf) {scope : Scope} (hb : blockOk c scope = true) {elt tg it tg2 it2 : Expr} {ifs ifs2 : List Expr} {p : Pos} {n n2 : Nat} {ielt : IE} {itg itg2 : TG} {iit iit2 : IT} {iifs iifs2 : IEs} (htg : trG (inC c scope) n tg = some itg) (htg2 : trG (inC c scope) n2 tg2 = some itg2)
    (hi : PI X tg it (tI (evi cf iit))) (hs : ∀ env x, foldedSetIterable it env x = pure x) (hi2 : ∀ {X' : Cx}, Gd X' (inC c scope) k cf → PI X' tg2 it2 (tI (evi cf iit2))) (hs2 : ∀ env x, foldedSetIterable it2 env x = pure x)
    (ht : ∀ {X' : Cx}, Gd X' (inC c scope) k cf → PTs X' ifs (tT (tsts cf iifs))) (ht2 : ∀ {X' : Cx}, Gd X' (inC c scope) k cf → PTs X' ifs2 (tT (tsts cf iifs2))) (he : ∀ {X' : Cx}, Gd X' (inC c scope) k cf → EOk X' cf elt ielt) :
    EOk X cf (.ListComp elt [⟨tg, it, ifs, 0⟩, ⟨tg2, it2, ifs2, 0⟩] scope p) (.comp2 ielt itg iit iifs itg2 iit2 iifs2 ((ownOf c.N scope).map (·.2))) := by
  refine mkE (PEi (pe_lc2 (te := tE X.K (ev cf ielt)) (own := ownOf c.N scope) (vs1 := tgIdx itg2) G.calm (by rw [G.N]; exact G.nd) hi (blk_ok G hb) (own_in htg2) (fun s H C cl fp => tg_ok (blk_gd G hb s H C cl fp) htg) (fun s H C cl fp => ht (blk_gd G hb s H C cl fp))
    (fun s H C cl fp => hi2 (blk_gd G hb s H C cl fp)) (fun s H C cl fp => tg_ok (blk_gd G hb s H C cl fp) htg2) (fun s H C cl fp => ht2 (blk_gd G hb s H C cl fp)) (fun s H C cl fp => (he (blk_gd G hb s H C cl fp)).ve) (fun x => hs _ x) hs2) fun σ H Q hq => ?_) rfl (fun _ => rfl) (nb_of rfl)
  refine lc2_red (own_in htg) ?_
  obtain ⟨ρ, env, S, r, S', s, er, hh, kk⟩ := hq
  exact ⟨ρ, env, S, r, S', s, er, ev_comp2 hh, kk⟩
theorem ev_dcomp {ek ev' : IE} {tg : TG} {it : IT} {cs : IEs} {own : List Nat} {env : Env} {S : Sto} {r : R} {S' : Sto} (h : ev cf (.dcomp ek ev' tg it cs own) env S = some (r, S')) :
    (match evi cf it env S with
      | some (l, c, S) => match compL (turnD (asgD tg) (tsts cf cs) (ev cf ek) (ev cf ev') (wipe env own)) l c S with
        | some (l, S) => if l.length ≤ LINE then match (ofDs l).bind dictOf with
          | some o => some (R.val (.ref S.length), S ++ [o])
          | none => none else none
        | none => none
      | none => none) = some (r, S') := by
  simp only [ev] at h
  exact h
theorem e_dcomp (G : Gd X c k cf) {scope : Scope} (hb : blockOk c scope = true) {kx vx tg it : Expr} {ifs : List Expr} {p : Pos} {n : Nat} {ikx ivx : IE} {itg : TG} {iit : IT} {iifs : IEs} (htg : trG (inC c scope) n tg = some itg)
    (hi : PI X tg it (tI (evi cf iit))) (hs : ∀ env x, foldedSetIterable it env x = pure x)
    (ht : ∀ {X' : Cx}, Gd X' (inC c scope) k cf → PTs X' ifs (tT (tsts cf iifs))) (hk : ∀ {X' : Cx}, Gd X' (inC c scope) k cf → EOk X' cf kx ikx) (hv : ∀ {X' : Cx}, Gd X' (inC c scope) k cf → EOk X' cf vx ivx) :
    EOk X cf (.DictComp kx vx [⟨tg, it, ifs, 0⟩] scope p) (.dcomp ikx ivx itg iit iifs ((ownOf c.N scope).map (·.2))) := by
  refine mkE (PEi (pe_dcg (tk := tE X.K (ev cf ikx)) (tv := tE X.K (ev cf ivx)) (mine := ownOf c.N scope) G.units G.calm (by rw [G.N]; exact G.nd) hi (blk_ok G hb) (fun s H C cl fp => tg_ok (blk_gd G hb s H C cl fp) htg) (fun s H C cl fp => ht (blk_gd G hb s H C cl fp)) (fun s H C cl fp => (hk (blk_gd G hb s H C cl fp)).ve) (fun s H C cl fp => (hv (blk_gd G hb s H C cl fp)).ve) (fun x => hs _ x)) fun σ H Q hq => ?_) rfl (fun _ => rfl) (nb_of rfl)
  refine dc_red (own_in htg) ?_
  obtain ⟨ρ, env, S, r, S', s, er, hh, kk⟩ := hq
  exact ⟨ρ, env, S, r, S', s, er, ev_dcomp hh, kk⟩

/-! ### calls -/
theorem nil_append {us : List V} : us ++ [] = us := List.append_nil _
theorem e_call (G : Gd X c k cf) {f : Str} {i : Nat} {args : List Expr} {ies : IEs} {p pos : Pos} (hf : trGlob c f = some (.fn i)) (ha : PA X args (tA (evs cf ies))) (hs : args.all noStar = true) (hnil : args = [] → ies = .nil) : EOk X cf (.Call (.Name f p) args [] pos) (.call i ies) := by
  obtain ⟨h1, h2, fa, fd, ps, h3, h4, h5, h6⟩ := glob_ok G hf
  have red : ∀ σ H Q, tE X.K (ev cf (.call i ies)) σ H Q → tCall (spF X.K cf i) [] (fun _ _ _ => False) (tA (evs cf ies)) σ H Q := fun σ H Q hq => by
    obtain ⟨ρ, env, S, r, S', s, er, hh, kk⟩ := hq
    simp only [ev] at hh
    split at hh
    · rename_i l S1 e1
      split at hh
      · rename_i d S2 e2
        simp only [Option.some.injEq, Prod.mk.injEq] at hh
        obtain ⟨rfl, rfl⟩ := hh
        refine ⟨ρ, env, S, l, S1, s, er, e1, fun ρ1 vs H1 f1 s1 rs => ?_⟩
        show spF X.K cf i (vs ++ []) H1 Q _
        rw [nil_append]
        exact ⟨ρ1, S1, l, d, S2, s1, rs, e2, fun ρ2 v H2 f2 s2 r2 => kk ρ2 v H2 (f1.trans f2) s2 r2⟩
      · cases hh
    · cases hh
  cases args with
  | nil =>
    refine mkE (PEi (pe_call0 (E := fun _ _ _ => False) h5 G.room h1 h3 h4 h6 .nil (fun _ _ _ _ _ _ _ z => z.elim) h2) fun σ H Q hq => ?_) rfl (fun _ => rfl) (nb_of rfl)
    obtain ⟨ρ, env, S, r, S', s, er, hh, kk⟩ := hq
    have red' := red σ H Q ⟨ρ, env, S, r, S', s, er, hh, kk⟩
    clear red
    obtain ⟨ρ0, env0, S0, l, S1, s0, er0, e1, cont⟩ := red'
    have e0 := hnil rfl
    subst e0
    simp only [evs, Option.some.injEq, Prod.mk.injEq] at e1
    obtain ⟨rfl, rfl⟩ := e1
    exact cont ρ0 [] H (Fut.refl _ _) s0 .nil
  | cons e es =>
    have hs1 : noStar e = true ∧ es.all noStar = true := by rw [List.all_cons, Bool.and_eq_true] at hs; exact hs
    exact mkE (PEi (pe_call (E := fun _ _ _ => False) h5 G.room h1 h3 h4 h6 .nil (fun _ _ _ _ _ _ _ z => z.elim) ha h2 (star1 hs1.1) (starAny hs1.2)) red) rfl (fun _ => rfl) (nb_of rfl)
end
end PyI
set_option Elab.async false
set_option linter.all false
set_option maxRecDepth 100000
set_option maxHeartbeats 2000000
/-! PyS22: built-ins and methods called. -/
namespace PyI
open PySem PySem.Spec PyProof.Rows L2

section
variable {X : Cx} {c : TC} {k : Nat} {cf : CF}
theorem trE_noStar : ∀ {n : Nat} {e : Expr} {ie : IE}, trE c n e = some ie → noStar e = true
  | 0, _, _, h => by unfold trE at h; cases h
  | n + 1, e, ie, h => by
    cases e with
    | Starred a b =>
      unfold trE at h
      cases h
    | _ => rfl
theorem blt_ok (G : Gd X c k cf) {x : Str} (h : isBlt c x = true) : Gl X x ∧ X.mg x = none ∧ (x == ("__debug__" : Str)) = false ∧ x ≠ ("__name__" : Str) := by
  unfold isBlt at h
  simp only [Bool.and_eq_true] at h
  obtain ⟨⟨⟨h1, h2⟩, h3⟩, h4⟩ := h
  refine ⟨?_, G.bl x h2, ne_beq h3, ?_⟩
  · unfold Gl PySem.Env.kindOf
    rw [G.names]
    unfold isGlob at h1
    split at h1
    · assumption
    · cases h1
  · intro e
    have := ne_beq h4
    rw [e, beq_self_eq_true] at this
    cases this
theorem bltn_all : bootBuiltins "all" = some (.builtin "all") := by decide +kernel
theorem bltn_any : bootBuiltins "any" = some (.builtin "any") := by decide +kernel
theorem bltn_sum : bootBuiltins "sum" = some (.builtin "sum") := by decide +kernel
theorem bltn_min : bootBuiltins "min" = some (.builtin "min") := by decide +kernel
theorem bltn_max : bootBuiltins "max" = some (.builtin "max") := by decide +kernel
theorem bltn_abs : bootBuiltins "abs" = some (.builtin "abs") := by decide +kernel
theorem bltn_len : bootBuiltins "len" = some (.builtin "len") := by decide +kernel
theorem bltn_sorted : bootBuiltins "sorted" = some (.builtin "sorted") := by decide +kernel
theorem bltn_tuple : bootBuiltins "tuple" = some (.type "tuple") := by decide +kernel
theorem bltn_list : bootBuiltins "list" = some (.type "list") := by decide +kernel
theorem bltn_int : bootBuiltins "int" = some (.type "int") := by decide +kernel
theorem bltn_bool : bootBuiltins "bool" = some (.type "bool") := by decide +kernel
theorem bltn_str : bootBuiltins "str" = some (.type "str") := by decide +kernel
theorem bltn_dict : bootBuiltins "dict" = some (.type "dict") := by decide +kernel
theorem bltn_set : bootBuiltins "set" = some (.type "set") := by decide +kernel
theorem bltn_isa : bootBuiltins "isinstance" = some (.builtin "isinstance") := by decide +kernel
theorem beq_str {x y : Str} (h : (x == y) = true) : x = y := by simpa using h
theorem blt1_ok (hc : X.calm = true) (hu : X.A.units + 90 < cLine) {f : Str} {b : Bi} (h : blt1 f = some b) : ∃ u, BiOk X u (biR b) ∧ ((∃ id, u = .builtin id) ∨ ∃ T, u = .type T) ∧ bootBuiltins f = some u := by
  have hu' : X.A.units + 80 < cLine := by omega
  unfold blt1 at h
  by_cases e : (f == ("len" : Str)) = true
  · rw [if_pos e] at h; rw [beq_str e]; cases h; exact ⟨_, bi_len, .inl ⟨_, rfl⟩, bltn_len⟩
  rw [if_neg e] at h
  by_cases e : (f == ("tuple" : Str)) = true
  · rw [if_pos e] at h; rw [beq_str e]; cases h; exact ⟨_, bi_tuple, .inr ⟨_, rfl⟩, bltn_tuple⟩
  rw [if_neg e] at h
  by_cases e : (f == ("list" : Str)) = true
  · rw [if_pos e] at h; rw [beq_str e]; cases h; exact ⟨_, bi_list hc, .inr ⟨_, rfl⟩, bltn_list⟩
  rw [if_neg e] at h
  by_cases e : (f == ("sorted" : Str)) = true
  · rw [if_pos e] at h; rw [beq_str e]; cases h; exact ⟨_, bi_sorted hc hu', .inl ⟨_, rfl⟩, bltn_sorted⟩
  rw [if_neg e] at h
  by_cases e : (f == ("all" : Str)) = true
  · rw [if_pos e] at h; rw [beq_str e]; cases h; exact ⟨_, bi_all hc, .inl ⟨_, rfl⟩, bltn_all⟩
  rw [if_neg e] at h
  by_cases e : (f == ("any" : Str)) = true
  · rw [if_pos e] at h; rw [beq_str e]; cases h; exact ⟨_, bi_any hc, .inl ⟨_, rfl⟩, bltn_any⟩
  rw [if_neg e] at h
  by_cases e : (f == ("sum" : Str)) = true
  · rw [if_pos e] at h; rw [beq_str e]; cases h; exact ⟨_, bi_sum hc, .inl ⟨_, rfl⟩, bltn_sum⟩
  rw [if_neg e] at h
  by_cases e : (f == ("min" : Str)) = true
  · rw [if_pos e] at h; rw [beq_str e]; cases h; exact ⟨_, bi_min hc hu', .inl ⟨_, rfl⟩, bltn_min⟩
  rw [if_neg e] at h
  by_cases e : (f == ("max" : Str)) = true
  · rw [if_pos e] at h; rw [beq_str e]; cases h; exact ⟨_, bi_max hc hu', .inl ⟨_, rfl⟩, bltn_max⟩
  rw [if_neg e] at h
  by_cases e : (f == ("int" : Str)) = true
  · rw [if_pos e] at h; rw [beq_str e]; cases h; exact ⟨_, bi_int, .inr ⟨_, rfl⟩, bltn_int⟩
  rw [if_neg e] at h
  by_cases e : (f == ("abs" : Str)) = true
  · rw [if_pos e] at h; rw [beq_str e]; cases h; exact ⟨_, bi_abs, .inl ⟨_, rfl⟩, bltn_abs⟩
  rw [if_neg e] at h
  by_cases e : (f == ("dict" : Str)) = true
  · rw [if_pos e] at h; rw [beq_str e]; cases h; exact ⟨_, bi_dict hc hu', .inr ⟨_, rfl⟩, bltn_dict⟩
  rw [if_neg e] at h
  cases h
theorem ev_bi {b : Bi} {ia : IE} {env : Env} {S : Sto} {r : R} {S' : Sto} (h : ev cf (.bi b ia) env S = some (r, S')) : ∃ y S1, ev cf ia env S = some (y, S1) ∧ biR b y S1 = some (r, S') := by
  simp only [ev] at h
  split at h
  · rename_i x S1 h1
    exact ⟨x, S1, h1, h⟩
  · cases h
theorem e_bi (G : Gd X c k cf) {f : Str} {b : Bi} {a : Expr} {ia : IE} {p pos : Pos} (hf : isBlt c f = true) (hb : blt1 f = some b) (ha : EOk X cf a ia) (hs : noStar a = true) : EOk X cf (.Call (.Name f p) [a] [] pos) (.bi b ia) := by
  obtain ⟨h1, h2, h3, h4⟩ := blt_ok G hf
  obtain ⟨u, h5, h6, h7⟩ := blt1_ok G.calm G.units hb
  exact mkE (pe_bi h5 h6 h1 h2 h7 h4 h3 ha.ve hs fun env S r S' hh => ev_bi hh) rfl (fun _ => rfl) (nb_of rfl)
theorem tyOf_ok {x : Str} {t : Ty} (h : tyOf x = some t) : bootBuiltins x = some (.type (tyName t)) := by
  unfold tyOf at h
  by_cases e : (x == ("int" : Str)) = true
  · rw [if_pos e] at h; rw [beq_str e]; cases h; exact bltn_int
  rw [if_neg e] at h
  by_cases e : (x == ("bool" : Str)) = true
  · rw [if_pos e] at h; rw [beq_str e]; cases h; exact bltn_bool
  rw [if_neg e] at h
  by_cases e : (x == ("tuple" : Str)) = true
  · rw [if_pos e] at h; rw [beq_str e]; cases h; exact bltn_tuple
  rw [if_neg e] at h
  by_cases e : (x == ("str" : Str)) = true
  · rw [if_pos e] at h; rw [beq_str e]; cases h; exact bltn_str
  rw [if_neg e] at h
  cases h
theorem e_isa (G : Gd X c k cf) {f t : Str} {ty : Ty} {a : Expr} {ia : IE} {p q pos : Pos} (hf : isBlt c f = true) (e : f = "isinstance") (ht : isBlt c t = true) (hty : tyOf t = some ty) (ha : EOk X cf a ia) (hs : noStar a = true) : EOk X cf (.Call (.Name f p) [a, .Name t q] [] pos) (.bi (.isa ty) ia) := by
  obtain ⟨h1, h2, h3, h4⟩ := blt_ok G hf
  obtain ⟨g1, g2, g3, g4⟩ := blt_ok G ht
  have hv : bootBuiltins f = some (.builtin "isinstance") := by rw [e]; exact bltn_isa
  refine mkE (PEi (pe_callB (isa_ok ty) h1 h2 hv (pa_cons ha.ve (pa_cons (pe_bltn (v := .ty (tyName ty)) g1 g2 (tyOf_ok hty) rfl g4 g3) pa_nil rfl) (star1 hs)) h4 h3 (star1 hs) rfl) fun σ H Q hq => ?_) rfl (fun _ => rfl) (nb_of rfl)
  obtain ⟨ρ, env, S, r, S', s, er, hh, kk⟩ := hq
  obtain ⟨y, S1, e1, e2⟩ := ev_bi hh
  refine ⟨ρ, env, S, y, S1, s, er, e1, fun ρ1 v H1 f1 s1 r1 => ?_⟩
  unfold biR at e2
  dsimp only at e2
  split at e2
  · rename_i x
    simp only [Option.some.injEq, Prod.mk.injEq] at e2
    obtain ⟨rfl, rfl⟩ := e2
    exact ⟨v, x, rfl, r1, fin_p f1 s1 kk (.bl _)⟩
  · cases e2
theorem SetIs.mono {H H' : Hp} {a : Addr} {u : HO} {ps : List P} (t : ∀ a xs, H a = some (.tup xs) → H' a = some (.tup xs)) (g : ∀ a o u, H a = some (.frz o u) → H' a = some (.frz o u)) (h : SetIs X H a u ps) : SetIs X H' a u ps := by
  rcases h with h | ⟨L, h1, h2, h3, h4⟩
  · exact .inl h
  · exact .inr ⟨L, h1, h2, fun p hp => (h3 p hp).mono t g, h4⟩
theorem e_sset (G : Gd X c k cf) {f g : Str} {a : Expr} {ia : IE} {p q pos pos2 : Pos} (hf : isBlt c f = true) (e : f = "sorted") (hg : isBlt c g = true) (e2 : g = "set") (ha : EOk X cf a ia) (hs : noStar a = true) :
    EOk X cf (.Call (.Name f p) [.Call (.Name g q) [a] [] pos2] [] pos) (.bi .sset ia) := by
  obtain ⟨h1, h2, h3, h4⟩ := blt_ok G hf
  obtain ⟨g1, g2, g3, g4⟩ := blt_ok G hg
  have hv : bootBuiltins f = some (.builtin "sorted") := by rw [e]; exact bltn_sorted
  have gv : bootBuiltins g = some (.type "set") := by rw [e2]; exact bltn_set
  have hu : X.A.units + 70 < cLine := by have := G.units; omega
  have pin := pe_callTy (pos := pos2) (p := q) (cr_setP G.calm hu) g1 g2 gv (pa_cons ha.ve pa_nil (star1 hs)) g4 g3 (star1 hs) rfl
  refine mkE (PEi (pe_callB (cr_sortP G.calm hu) h1 h2 hv (pa_cons pin pa_nil rfl) h4 h3 rfl rfl) fun σ H Q hq => ?_) rfl (fun _ => rfl) (nb_of rfl)
  obtain ⟨ρ, env, S, r, S', s, er, hh, kk⟩ := hq
  obtain ⟨y, S1, e1, e2⟩ := ev_bi hh
  refine ⟨ρ, env, S, y, S1, s, er, e1, fun ρ1 v H1 f1 s1 r1 => ?_⟩
  unfold biR at e2
  dsimp only at e2
  split at e2
  · rename_i l hl
    cases es : ssetP l with
    | none => rw [es] at e2; cases e2
    | some m =>
      rw [es] at e2
      cases e2
      obtain ⟨a0, xs, rfl, hx, rx⟩ := lstP_ok s1 r1 hl
      unfold ssetP at es
      split at es
      · rename_i hb
        cases es
        simp only [Bool.and_eq_true, Bool.or_eq_true, decide_eq_true_eq] at hb
        obtain ⟨⟨b1, b2⟩, b3⟩ := hb
        refine ⟨a0, xs, l, rfl, hx, rx, b2, b3, fun b u hn hset => ?_⟩
        have fn : Fut ρ1 H1 ρ1 (upd H1 b u) := Fut.new hn
        refine ⟨b, u, l, rfl, upd_same, hset.mono fn.tups fn.frzs, b1, b3, fun H2 q2 ys gk hn2 hy => ?_⟩
        exact fin_tlP (f1.trans fn) (s1.new hn) kk gk hy hn2
      · cases es
  · cases e2
theorem isDct_of {y : R} {S : Sto} {ob : O} (h : objR y S = some ob) (hd : isDict ob = true) : isDct y S = true := by
  unfold isDct
  rw [h]
  cases ob <;> first | rfl | cases hd
theorem e_sitems (G : Gd X c k cf) {f m : Str} {o : Expr} {io : IE} {p ap pos pos2 : Pos} (hf : isBlt c f = true) (e : f = "sorted") (em : m = "items") (hl : (ap.endLine == pos2.line) = true) (hn : noCall0 o = true) (ho : EOk X cf o io) :
    EOk X cf (.Call (.Name f p) [.Call (.Attribute o m ap) [] [] pos2] [] pos) (.bi .sitems io) := by
  subst em
  obtain ⟨h1, h2, h3, h4⟩ := blt_ok G hf
  have hv : bootBuiltins f = some (.builtin "sorted") := by rw [e]; exact bltn_sorted
  have hu : X.A.units + 70 < cLine := by have := G.units; omega
  have pin := pe_bm0 (apos := ap) (cpos := pos2) PySem.F.plainAttrs_dict PySem.F.slot_dict_items PySem.F.type_dict_items mt_items' ho.ve (basePlain hn) hl
  refine mkE (PEi (pe_callB (cr_sortItems G.calm hu) h1 h2 hv (pa_cons pin pa_nil rfl) h4 h3 rfl rfl) fun σ H Q hq => ?_) rfl (fun _ => rfl) (nb_of rfl)
  obtain ⟨ρ, env, S, r, S', s, er, hh, kk⟩ := hq
  obtain ⟨y, S1, e1, e2⟩ := ev_bi hh
  refine ⟨ρ, env, S, y, S1, s, er, e1, fun ρ1 v H1 f1 s1 r1 => ?_⟩
  unfold biR at e2
  dsimp only at e2
  split at e2
  · rename_i ob hob
    split at e2
    · rename_i l hli
      cases es : sortP l with
      | none => rw [es] at e2; cases e2
      | some mm =>
        rw [es] at e2
        cases e2
        obtain ⟨b1, rfl⟩ := sortP_ok es
        obtain ⟨a0, rfl, hor, _⟩ := objR_ok s1 r1 hob
        obtain ⟨hd, _⟩ := dItems_eq hli
        refine ⟨ty_dct s1 r1 (isDct_of hob hd), ρ1, a0, ob, rfl, rfl, hor, hd, fun q2 hn2 => ?_⟩
        have fn : Fut ρ1 H1 ρ1 (upd H1 q2 (DX.itemsO q2 a0)) := Fut.new hn2
        have sn := s1.new (o := DX.itemsO q2 a0) hn2
        have hne : a0 ≠ q2 := fun z => by
          obtain ⟨w, hw⟩ := hor.there
          rw [z, hn2] at hw
          cases hw
        refine ⟨ρ1, q2, a0, ob, l, rfl, upd_same, ORep.mono fn (upd_ne hne) hor, hli, b1, fun H2 q3 ys gk hn3 hy => ?_⟩
        exact fin_tlP (f1.trans fn) sn kk gk hy hn3
    · cases e2
  · cases e2
theorem few_ok {env : PySem.Env} {cpos : Pos} {es : List Expr} (h : es.all noStar = true) (hl : es.length < 30) :
    ((backTo cpos (starEach es env)).all (fun x => !x.1) && (backToKw cpos (keywordEach [] env)).all (fun x => x.1.isSome) && decide (es.length + ([] : List Keyword).length + (if ([] : List Keyword).isEmpty then 0 else 1) < 30)) = true := by
  rw [starNot h]
  simp only [Bool.true_and, Bool.and_eq_true]
  refine ⟨rfl, ?_⟩
  simp
  omega
theorem e_m1 {T id : String} {name : Str} {m : M1} (hm : Mt1Ok X T id m) (pa : PlainAttrs T) (slot : Slot T name id) (hty : typeOf (.builtin id) = pure (.type "method_descriptor")) {o a : Expr} {io ia : IE} {ap pos : Pos} (ho : EOk X cf o io) (ha : EOk X cf a ia)
    (hl : (ap.endLine == pos.line) = true) (hn : noCall0 o = true) (hs : noStar a = true) : EOk X cf (.Call (.Attribute o name ap) [a] [] pos) (.m1 m io ia) := by
  obtain ⟨rr, h1, h2, h3⟩ := hm
  have hall : [a].all noStar = true := by rw [List.all_cons, hs]; rfl
  refine mkE (PEi (pe_bm pa slot hty h1 ho.ve (pa_cons ha.ve pa_nil (star1 hs)) (basePlain hn) (few_ok hall (by show 1 < 30; decide)) hl (star1 hs) rfl) fun σ H Q hq => ?_) rfl (fun _ => rfl) (nb_of rfl)
  obtain ⟨ρ, env, S, r, S', s, er, hh, kk⟩ := hq
  simp only [ev] at hh
  split at hh
  · rename_i x S1 e1
    split at hh
    · rename_i hr
      split at hh
      · rename_i y S2 e2
        exact ⟨ρ, env, S, x, S1, s, er, e1, fun ρ1 v H1 f1 s1 r1 => ⟨h2 s1 r1 hr, ρ1, env, S1, y, S2, s1, er.mono f1, e2, fun ρ2 w H2 f2 s2 r2 => h3 (f1.trans f2) s2 (r1.mono f2) (r2.from f1) hh kk⟩⟩
      · cases hh
    · cases hh
  · cases hh
theorem e_m2 {id : String} {name : Str} {m : M2} (hm : Mt2Ok X id m) (slot : Slot "dict" name id) (hty : typeOf (.builtin id) = pure (.type "method_descriptor")) {o a b : Expr} {io ia ib : IE} {ap pos : Pos} (ho : EOk X cf o io) (ha : EOk X cf a ia) (hb : EOk X cf b ib)
    (hl : (ap.endLine == pos.line) = true) (hn : noCall0 o = true) (hs : noStar a = true) (hs2 : noStar b = true) : EOk X cf (.Call (.Attribute o name ap) [a, b] [] pos) (.m2 m io ia ib) := by
  obtain ⟨rr, h1, h3⟩ := hm
  have hall : [a, b].all noStar = true := by rw [List.all_cons, List.all_cons, hs, hs2]; rfl
  have hall2 : [b].all noStar = true := by rw [List.all_cons, hs2]; rfl
  refine mkE (PEi (pe_bm PySem.F.plainAttrs_dict slot hty h1 ho.ve (pa_cons ha.ve (pa_cons hb.ve pa_nil (star1 hs2)) (star1 hs)) (basePlain hn) (few_ok hall (by show 2 < 30; decide)) hl (star1 hs) (starAny hall2)) fun σ H Q hq => ?_) rfl (fun _ => rfl) (nb_of rfl)
  obtain ⟨ρ, env, S, r, S', s, er, hh, kk⟩ := hq
  simp only [ev] at hh
  split at hh
  · rename_i x S1 e1
    split at hh
    · rename_i hr
      split at hh
      · rename_i y S2 e2
        split at hh
        · rename_i z S3 e3
          exact ⟨ρ, env, S, x, S1, s, er, e1, fun ρ1 v H1 f1 s1 r1 => ⟨ty_dct s1 r1 hr, ρ1, env, S1, y, S2, s1, er.mono f1, e2, fun ρ2 w H2 f2 s2 r2 => ⟨ρ2, env, S2, z, S3, s2, (er.mono f1).mono f2, e3, fun ρ3 u H3 f3 s3 r3 =>
            h3 ((f1.trans f2).trans f3) s3 ((r1.mono f2).mono f3) ((r2.mono f3).from f1) (r3.from (f1.trans f2)) hh kk⟩⟩⟩
        · cases hh
      · cases hh
    · cases hh
  · cases hh
theorem e_bi2 (G : Gd X c k cf) {f : Str} {b : Bi2} {a d : Expr} {ia id : IE} {p pos : Pos} (hf : isBlt c f = true) (hb : (f = "min" ∧ b = .min) ∨ (f = "max" ∧ b = .max)) (ha : EOk X cf a ia) (hd : EOk X cf d id) (hs : noStar a = true) (hs2 : noStar d = true) :
    EOk X cf (.Call (.Name f p) [a, d] [] pos) (.bi2 b ia id) := by
  obtain ⟨h1, h2, h3, h4⟩ := blt_ok G hf
  have hall2 : [d].all noStar = true := by rw [List.all_cons, hs2]; rfl
  have hpa := pa_cons ha.ve (pa_cons hd.ve pa_nil (star1 hs2)) (star1 hs)
  rcases hb with ⟨e, rfl⟩ | ⟨e, rfl⟩
  · have hv : bootBuiltins f = some (.builtin "min") := by rw [e]; exact bltn_min
    refine mkE (PEi (pe_callB (call_min2 G.calm) h1 h2 hv hpa h4 h3 (star1 hs) (starAny hall2)) fun σ H Q hq => ?_) rfl (fun _ => rfl) (nb_of rfl)
    obtain ⟨ρ, env, S, r, S', s, er, hh, kk⟩ := hq
    simp only [ev] at hh
    split at hh
    · rename_i x S1 e1
      split at hh
      · rename_i y S2 e2
        split at hh
        · rename_i r' e3
          simp only [Option.some.injEq, Prod.mk.injEq] at hh
          obtain ⟨rfl, rfl⟩ := hh
          unfold bi2R at e3
          dsimp only at e3
          split at e3
          · rename_i i j hi hj
            cases e3
            refine ⟨ρ, env, S, x, S1, s, er, e1, fun ρ1 v H1 f1 s1 r1 => ⟨ρ1, env, S1, y, S2, s1, er.mono f1, e2, fun ρ2 w H2 f2 s2 r2 => ?_⟩⟩
            obtain rfl := intR_ok r1 hi
            obtain rfl := intR_ok r2 hj
            exact ⟨i, j, rfl, fin_p (f1.trans f2) s2 kk (.int _)⟩
          · cases e3
        · cases hh
      · cases hh
    · cases hh
  · have hv : bootBuiltins f = some (.builtin "max") := by rw [e]; exact bltn_max
    refine mkE (PEi (pe_callB (call_max2 G.calm) h1 h2 hv hpa h4 h3 (star1 hs) (starAny hall2)) fun σ H Q hq => ?_) rfl (fun _ => rfl) (nb_of rfl)
    obtain ⟨ρ, env, S, r, S', s, er, hh, kk⟩ := hq
    simp only [ev] at hh
    split at hh
    · rename_i x S1 e1
      split at hh
      · rename_i y S2 e2
        split at hh
        · rename_i r' e3
          simp only [Option.some.injEq, Prod.mk.injEq] at hh
          obtain ⟨rfl, rfl⟩ := hh
          unfold bi2R at e3
          dsimp only at e3
          split at e3
          · rename_i i j hi hj
            cases e3
            refine ⟨ρ, env, S, x, S1, s, er, e1, fun ρ1 v H1 f1 s1 r1 => ⟨ρ1, env, S1, y, S2, s1, er.mono f1, e2, fun ρ2 w H2 f2 s2 r2 => ?_⟩⟩
            obtain rfl := intR_ok r1 hi
            obtain rfl := intR_ok r2 hj
            exact ⟨i, j, rfl, fin_p (f1.trans f2) s2 kk (.int _)⟩
          · cases e3
        · cases hh
      · cases hh
    · cases hh
end
end PyI
set_option Elab.async false
set_option linter.all false
set_option maxRecDepth 100000
set_option maxHeartbeats 4000000
/-! PyS23: every expression that is translated. -/
namespace PyI
open PySem PySem.Spec PyProof.Rows L2

structure AllE (k : Nat) (cf : CF) (n : Nat) : Prop where
  e : ∀ {X : Cx} {c : TC}, Gd X c k cf → ∀ {e : Expr} {ie : IE}, trE c n e = some ie → EOk X cf e ie
  es : ∀ {X : Cx} {c : TC}, Gd X c k cf → ∀ {es : List Expr} {ies : IEs}, trEs c n es = some ies → PA X es (tA (evs cf ies)) ∧ (few1 es = true → PTs X es (tT (tsts cf ies)))
  o : ∀ {X : Cx} {c : TC}, Gd X c k cf → ∀ {eo : Option Expr} {io : IEo}, trO c n eo = some io → PO X eo (tO (evo cf io))
  i : ∀ {X : Cx} {c : TC}, Gd X c k cf → ∀ {e : Expr} {it : IT}, trI c n e = some it → (∀ tg, PI X tg e (tI (evi cf it))) ∧ ∀ env x, foldedSetIterable e env x = pure x
  b1 : ∀ {X : Cx} {c : TC}, Gd X c k cf → ∀ {f : Str} {args : List Expr} {ie : IE}, isBlt c f = true → trB1 c n f args = some ie → ∀ p pos, EOk X cf (.Call (.Name f p) args [] pos) ie
  b2 : ∀ {X : Cx} {c : TC}, Gd X c k cf → ∀ {f : Str} {args : List Expr} {ie : IE}, isBlt c f = true → trB2 c n f args = some ie → ∀ p pos, EOk X cf (.Call (.Name f p) args [] pos) ie
section
variable {X : Cx} {c : TC} {k : Nat} {cf : CF}
theorem fsi {n : Nat} {e : Expr} {ie : IE} (h : trE c n e = some ie) : ∀ env x, foldedSetIterable e env x = pure x := by
  cases n with
  | zero => unfold trE at h; cases h
  | succ n =>
    cases e with
    | Set a b p =>
      unfold trE at h
      cases h
    | _ => exact fun _ _ => rfl
theorem all0 : AllE k cf 0 where
  e := fun G _ _ h => by unfold trE at h; cases h
  es := fun G _ _ h => by unfold trEs at h; cases h
  o := fun G _ _ h => by unfold trO at h; cases h
  i := fun G _ _ h => by unfold trI at h; cases h
  b1 := fun G _ _ _ _ h => by unfold trB1 at h; cases h
  b2 := fun G _ _ _ _ h => by unfold trB2 at h; cases h
theorem es_step {n : Nat} (ih : AllE k cf n) (G : Gd X c k cf) {es : List Expr} {ies : IEs} (h : trEs c (n + 1) es = some ies) : PA X es (tA (evs cf ies)) ∧ (few1 es = true → PTs X es (tT (tsts cf ies))) := by
  cases es with
  | nil =>
    unfold trEs at h
    cases h
    refine ⟨pa_none, fun _ => ⟨fun pins s σ H Q I hq => ?_⟩⟩
    obtain ⟨ρ, env, S, b, S', s0, er, hh, kk⟩ := hq
    simp only [tsts, Option.some.injEq, Prod.mk.injEq] at hh
    obtain ⟨rfl, rfl⟩ := hh
    exact pts_nil.run pins s σ H Q I (kk ρ H (Fut.refl _ _) s0)
  | cons e r =>
    unfold trEs at h
    split at h
    · rename_i hs
      split at h
      · rename_i ie ir h1 h2
        cases h
        refine ⟨pa_more (ih.e G h1).ve (ih.es G h2).1 hs, fun hf => ?_⟩
        cases r with
        | cons _ _ => cases hf
        | nil =>
          have e0 : ir = .nil := by
            cases n with
            | zero => unfold trEs at h2; cases h2
            | succ n => unfold trEs at h2; cases h2; rfl
          subst e0
          refine ⟨fun pins s σ H Q I hq => (pts_one (ih.e G h1).vt).run pins s σ H Q I ?_⟩
          obtain ⟨ρ, env, S, b, S', s0, er, hh, kk⟩ := hq
          simp only [tsts] at hh
          split at hh
          · rename_i S1 e1
            simp only [Option.some.injEq, Prod.mk.injEq] at hh
            obtain ⟨rfl, rfl⟩ := hh
            exact ⟨ρ, env, S, true, _, s0, er, e1, kk⟩
          · rename_i S1 e1
            simp only [Option.some.injEq, Prod.mk.injEq] at hh
            obtain ⟨rfl, rfl⟩ := hh
            exact ⟨ρ, env, S, false, _, s0, er, e1, kk⟩
          · cases hh
      · cases h
    · cases h
theorem o_step {n : Nat} (ih : AllE k cf n) (G : Gd X c k cf) {eo : Option Expr} {io : IEo} (h : trO c (n + 1) eo = some io) : PO X eo (tO (evo cf io)) := by
  cases eo with
  | none =>
    unfold trO at h
    cases h
    exact o_none
  | some e =>
    unfold trO at h
    obtain ⟨ie, he, rfl⟩ := Option.map_eq_some_iff.mp h
    exact o_some (ih.e G he)
theorem b1_step {n : Nat} (ih : AllE k cf n) (G : Gd X c k cf) {f : Str} {args : List Expr} {ie : IE} (hf : isBlt c f = true) (h : trB1 c (n + 1) f args = some ie) (p pos : Pos) : EOk X cf (.Call (.Name f p) args [] pos) ie := by
  unfold trB1 at h
  split at h
  · split at h
    · rename_i hs
      split at h
      · rename_i b ia h1 h2
        cases h
        exact e_bi G hf h1 (ih.e G h2) hs
      · cases h
    · cases h
  · cases h
theorem b2_step {n : Nat} (ih : AllE k cf n) (G : Gd X c k cf) {f : Str} {args : List Expr} {ie : IE} (hf : isBlt c f = true) (h : trB2 c (n + 1) f args = some ie) (p pos : Pos) : EOk X cf (.Call (.Name f p) args [] pos) ie := by
  unfold trB2 at h
  split at h
  · split at h
    · rename_i hs
      rw [Bool.and_eq_true] at hs
      split at h
      · rename_i ia ib h1 h2
        by_cases e : (f == ("min" : Str)) = true
        · rw [if_pos e] at h
          cases h
          exact e_bi2 G hf (.inl ⟨beq_str e, rfl⟩) (ih.e G h1) (ih.e G h2) hs.1 hs.2
        · rw [if_neg e] at h
          by_cases e' : (f == ("max" : Str)) = true
          · rw [if_pos e'] at h
            cases h
            exact e_bi2 G hf (.inr ⟨beq_str e', rfl⟩) (ih.e G h1) (ih.e G h2) hs.1 hs.2
          · rw [if_neg e'] at h
            cases h
      · cases h
    · cases h
  · cases h
theorem i_gen {n : Nat} (ih : AllE k cf n) (G : Gd X c k cf) {e : Expr} {it : IT} (h : (trE c n e).map IT.e = some it) : (∀ tg, PI X tg e (tI (evi cf it))) ∧ ∀ env x, foldedSetIterable e env x = pure x := by
  obtain ⟨ie, he, rfl⟩ := Option.map_eq_some_iff.mp h
  exact ⟨fun tg => pi_e (ih.e G he).ve, fsi he⟩
theorem i_step {n : Nat} (ih : AllE k cf n) (G : Gd X c k cf) {e : Expr} {it : IT} (h : trI c (n + 1) e = some it) : (∀ tg, PI X tg e (tI (evi cf it))) ∧ ∀ env x, foldedSetIterable e env x = pure x := by
  unfold trI at h
  split at h
  · split at h
    · rename_i hb
      rw [Bool.and_eq_true] at hb
      obtain ⟨g1, g2, _, _⟩ := blt_ok G hb.2
      rw [beq_str hb.1] at g1 g2 ⊢
      split at h
      · rename_i hs
        obtain ⟨ia, ha, rfl⟩ := Option.map_eq_some_iff.mp h
        exact ⟨fun tg => pi_r1 g1 g2 hs (ih.e G ha).ve, fun _ _ => rfl⟩
      · cases h
    · exact i_gen ih G h
  · split at h
    · rename_i hb
      rw [Bool.and_eq_true] at hb
      obtain ⟨g1, g2, _, _⟩ := blt_ok G hb.2
      rw [beq_str hb.1] at g1 g2 ⊢
      split at h
      · rename_i hs
        rw [Bool.and_eq_true] at hs
        split at h
        · rename_i ia ib h1 h2
          cases h
          exact ⟨fun tg => pi_r2 g1 g2 hs.1 hs.2 (ih.e G h1).ve (ih.e G h2).ve, fun _ _ => rfl⟩
        · cases h
      · cases h
    · exact i_gen ih G h
  · split at h
    · rename_i hb
      rw [Bool.and_eq_true] at hb
      obtain ⟨g1, g2, _, _⟩ := blt_ok G hb.2
      rw [beq_str hb.1] at g1 g2 ⊢
      split at h
      · rename_i hs
        rw [Bool.and_eq_true, Bool.and_eq_true] at hs
        split at h
        · rename_i ia ib id h1 h2 h3
          cases h
          exact ⟨fun tg => pi_r3 g1 g2 hs.1.1 hs.1.2 hs.2 (ih.e G h1).ve (ih.e G h2).ve (ih.e G h3).ve, fun _ _ => rfl⟩
        · cases h
      · cases h
    · exact i_gen ih G h
  · cases h
  · exact i_gen ih G h
theorem m1_step {n : Nat} (ih : AllE k cf n) (G : Gd X c k cf) {o a : Expr} {m : Str} {ap p : Pos} {ie : IE} (hl : (ap.endLine == p.line) = true) (hs : noStar a = true) (hn : noCall0 o = true) {io ia : IE} (h1 : trE c n o = some io) (h2 : trE c n a = some ia)
    (h : (if m == "append" then some (IE.m1 .append io ia) else if m == "extend" then some (.m1 .extend io ia) else if m == "get" then some (.m1 .get io ia)
            else if m == "count" then some (.m1 .count io ia) else none) = some ie) : EOk X cf (.Call (.Attribute o m ap) [a] [] p) ie := by
  have hu : X.A.units + 80 < cLine := by have := G.units; omega
  by_cases e1 : (m == ("append" : Str)) = true
  · rw [if_pos e1] at h
    cases h
    rw [beq_str e1]
    exact e_m1 mt1_append PySem.F.plainAttrs_list PySem.F.slot_list_append PySem.F.type_list_append (ih.e G h1) (ih.e G h2) hl hn hs
  rw [if_neg e1] at h
  by_cases e2 : (m == ("extend" : Str)) = true
  · rw [if_pos e2] at h
    cases h
    rw [beq_str e2]
    exact e_m1 mt1_extend PySem.F.plainAttrs_list PySem.F.slot_list_extend PySem.F.type_list_extend (ih.e G h1) (ih.e G h2) hl hn hs
  rw [if_neg e2] at h
  by_cases e3 : (m == ("get" : Str)) = true
  · rw [if_pos e3] at h
    cases h
    rw [beq_str e3]
    exact e_m1 (mt1_get hu) PySem.F.plainAttrs_dict PySem.F.slot_dict_get PySem.F.type_dict_get (ih.e G h1) (ih.e G h2) hl hn hs
  rw [if_neg e3] at h
  by_cases e4 : (m == ("count" : Str)) = true
  · rw [if_pos e4] at h
    cases h
    rw [beq_str e4]
    exact e_m1 (mt1_count hu) PySem.F.plainAttrs_list PySem.F.slot_list_count PySem.F.type_list_count (ih.e G h1) (ih.e G h2) hl hn hs
  rw [if_neg e4] at h
  cases h
theorem m2_step {n : Nat} (ih : AllE k cf n) (G : Gd X c k cf) {o a b : Expr} {m : Str} {ap p : Pos} {ie : IE} (hl : (ap.endLine == p.line) = true) (hs : noStar a = true) (hs2 : noStar b = true) (hn : noCall0 o = true) {io ia ib : IE} (h1 : trE c n o = some io) (h2 : trE c n a = some ia) (h3 : trE c n b = some ib)
    (h : (if m == "get" then some (IE.m2 .get io ia ib) else if m == "setdefault" then some (.m2 .setdefault io ia ib) else none) = some ie) : EOk X cf (.Call (.Attribute o m ap) [a, b] [] p) ie := by
  have hu : X.A.units + 80 < cLine := by have := G.units; omega
  by_cases e1 : (m == ("get" : Str)) = true
  · rw [if_pos e1] at h
    cases h
    rw [beq_str e1]
    exact e_m2 (mt2_get hu) PySem.F.slot_dict_get PySem.F.type_dict_get (ih.e G h1) (ih.e G h2) (ih.e G h3) hl hn hs hs2
  rw [if_neg e1] at h
  by_cases e2 : (m == ("setdefault" : Str)) = true
  · rw [if_pos e2] at h
    cases h
    rw [beq_str e2]
    exact e_m2 mt2_setd PySem.F.slot_dict_setdefault PySem.F.type_dict_setdefault (ih.e G h1) (ih.e G h2) (ih.e G h3) hl hn hs hs2
  rw [if_neg e2] at h
  cases h
theorem trEs_nil {n : Nat} {ies : IEs} (h : trEs c n [] = some ies) : ies = .nil := by
  cases n with
  | zero => unfold trEs at h; cases h
  | succ n => unfold trEs at h; cases h; rfl
theorem e_step {n : Nat} (ih : AllE k cf n) (G : Gd X c k cf) {e : Expr} {ie : IE} (h : trE c (n + 1) e = some ie) : EOk X cf e ie := by
  unfold trE at h
  split at h
  · -- Constant
    obtain ⟨x, hx, rfl⟩ := Option.map_eq_some_iff.mp h
    exact e_const hx
  · -- Name
    split at h
    · rename_i i hi
      cases h
      exact e_var G hi
    · split at h
      · rename_i q hq
        cases h
        exact e_glob G hq (.inl ⟨q, rfl, rfl⟩)
      · rename_i q hq
        cases h
        exact e_glob G hq (.inr ⟨q, rfl, rfl⟩)
      · cases h
  · -- BinOp
    split at h
    · rename_i o ia ib h1 h2 h3
      cases h
      exact e_bin h1 (ih.e G h2) (ih.e G h3)
    · cases h
  · obtain ⟨ia, ha, rfl⟩ := Option.map_eq_some_iff.mp h
    exact e_neg (ih.e G ha)
  · obtain ⟨ia, ha, rfl⟩ := Option.map_eq_some_iff.mp h
    exact e_not (ih.e G ha)
  · exact e_bool1 (ih.e G h)
  · split at h
    · rename_i ia ib h1 h2
      cases h
      exact e_and (ih.e G h1) (ih.e G h2)
    · cases h
  · split at h
    · rename_i ia ib h1 h2
      cases h
      exact e_or (ih.e G h1) (ih.e G h2)
    · cases h
  · -- Compare
    split at h
    · rename_i o ia ib h1 h2 h3
      cases h
      exact e_cmp G.units h1 (ih.e G h2) (ih.e G h3) (noset h3)
    · cases h
  · split at h
    · rename_i o o' ia ib id h1 h2 h3 h4 h5
      cases h
      exact e_chain G.units h1 h2 (ih.e G h3) (ih.e G h4) (ih.e G h5) (noset h5)
    · cases h
  · split at h
    · rename_i it ia ib h1 h2 h3
      cases h
      exact e_ife (ih.e G h1) (ih.e G h2) (ih.e G h3)
    · cases h
  · obtain ⟨ia, ha, rfl⟩ := Option.map_eq_some_iff.mp h
    exact e_tup (ih.es G ha).1
  · obtain ⟨ia, ha, rfl⟩ := Option.map_eq_some_iff.mp h
    exact e_lst (ih.es G ha).1
  · cases h
    exact e_dct
  · -- slices
    split at h
    · rename_i ia il ih' h1 h2 h3
      cases h
      exact e_sl (ih.e G h1) (ih.o G h2) (ih.o G h3)
    · cases h
  · cases h
  · split at h
    · rename_i ia ib h1 h2
      cases h
      exact e_ix G.units (ih.e G h1) (ih.e G h2) (noslice h2)
    · cases h
  · -- comprehensions
    split at h
    · rename_i hb
      rw [Bool.and_eq_true] at hb
      split at h
      · rename_i iit itg iifs ielt h1 h2 h3 h4
        cases h
        exact e_comp G hb.1 h2 ((ih.i G h1).1 _) (ih.i G h1).2 (fun G' => (ih.es G' h3).2 hb.2) (fun G' => ih.e G' h4)
      · cases h
    · cases h
  · split at h
    · rename_i hb
      rw [Bool.and_eq_true, Bool.and_eq_true] at hb
      split at h
      · rename_i iit itg iifs ielt iit2 itg2 iifs2 h1 h2 h3 h4 h5 h6 h7
        cases h
        have G0 := blk_gd G hb.1.1 X.s_0 X.H_0 0 [] []
        exact e_comp2 G hb.1.1 h2 h6 ((ih.i G h1).1 _) (ih.i G h1).2 (fun G' => (ih.i G' h5).1 _) (ih.i G0 h5).2 (fun G' => (ih.es G' h3).2 hb.1.2) (fun G' => (ih.es G' h7).2 hb.2) (fun G' => ih.e G' h4)
      · cases h
    · cases h
  · split at h
    · rename_i hb
      rw [Bool.and_eq_true] at hb
      split at h
      · rename_i iit itg iifs ik iv h1 h2 h3 h4 h5
        cases h
        exact e_dcomp G hb.1 h2 ((ih.i G h1).1 _) (ih.i G h1).2 (fun G' => (ih.es G' h3).2 hb.2) (fun G' => ih.e G' h4) (fun G' => ih.e G' h5)
      · cases h
    · cases h
  · -- a name is called
    split at h
    · rename_i i hi
      obtain ⟨ia, ha, rfl⟩ := Option.map_eq_some_iff.mp h
      exact e_call G hi (ih.es G ha).1 (trEs_noStar ha) fun e => by
        subst e
        exact trEs_nil ha
    · cases h
    · split at h
      · rename_i hf
        split at h
        · split at h
          · rename_i hb
            simp only [Bool.and_eq_true] at hb
            obtain ⟨ia, ha, rfl⟩ := Option.map_eq_some_iff.mp h
            exact e_sset G hf (beq_str hb.1.1) hb.2 (beq_str hb.1.2) (ih.e G ha) (trE_noStar ha)
          · exact ih.b1 G hf h _ _
        · split at h
          · rename_i hb
            simp only [Bool.and_eq_true] at hb
            obtain ⟨io, ho, rfl⟩ := Option.map_eq_some_iff.mp h
            exact e_sitems G hf (beq_str hb.1.1.1) (beq_str hb.1.1.2) hb.1.2 hb.2 (ih.e G ho)
          · cases h
        · split at h
          · rename_i hb
            rw [Bool.and_eq_true] at hb
            split at h
            · rename_i ty ia h1 h2
              cases h
              exact e_isa G hf (beq_str hb.1) hb.2 h1 (ih.e G h2) (trE_noStar h2)
            · cases h
          · exact ih.b2 G hf h _ _
        · exact ih.b1 G hf h _ _
        · exact ih.b2 G hf h _ _
      · cases h
  · -- a method
    split at h
    · rename_i hl
      split at h
      · split at h
        · rename_i hs
          rw [Bool.and_eq_true] at hs
          split at h
          · rename_i io ia h1 h2
            exact m1_step ih G hl hs.1 hs.2 h1 h2 h
          · cases h
        · cases h
      · split at h
        · rename_i hs
          simp only [Bool.and_eq_true] at hs
          split at h
          · rename_i io ia ib h1 h2 h3
            exact m2_step ih G hl hs.1.1 hs.1.2 hs.2 h1 h2 h3 h
          · cases h
        · cases h
      · cases h
    · cases h
  · cases h
theorem all_e : ∀ n : Nat, AllE k cf n
  | 0 => all0
  | n + 1 => ⟨fun G _ _ h => e_step (all_e n) G h, fun G _ _ h => es_step (all_e n) G h, fun G _ _ h => o_step (all_e n) G h, fun G _ _ h => i_step (all_e n) G h, fun G _ _ _ hf h => b1_step (all_e n) G hf h, fun G _ _ _ hf h => b2_step (all_e n) G hf h⟩
end
end PyI
set_option Elab.async false
set_option linter.all false
set_option maxRecDepth 100000
set_option maxHeartbeats 4000000
/-! PyS24: statements. -/
namespace PyI
open PySem PySem.Spec PyProof.Rows L2

section
variable {X : Cx} {c : TC} {k : Nat} {cf : CF}
theorem s_pas {p : Pos} : PS X (.Pass p) (tS (ex cf .pas)) := PSi ps_pass fun D σ H hq => by
  obtain ⟨ρ, env, S, o, env', S', s, er, hh, kk⟩ := hq
  simp only [ex, Option.some.injEq, Prod.mk.injEq] at hh
  obtain ⟨rfl, rfl, rfl⟩ := hh
  exact kk ρ H (Fut.refl _ _) s σ er
theorem s_brk {p : Pos} : PS X (.Break p) (tS (ex cf .brk)) := PSi ps_break fun D σ H hq => by
  obtain ⟨ρ, env, S, o, env', S', s, er, hh, kk⟩ := hq
  simp only [ex, Option.some.injEq, Prod.mk.injEq] at hh
  obtain ⟨rfl, rfl, rfl⟩ := hh
  exact kk ρ H (Fut.refl _ _) s σ er
theorem s_cnt {p : Pos} : PS X (.Continue p) (tS (ex cf .cnt)) := PSi ps_continue fun D σ H hq => by
  obtain ⟨ρ, env, S, o, env', S', s, er, hh, kk⟩ := hq
  simp only [ex, Option.some.injEq, Prod.mk.injEq] at hh
  obtain ⟨rfl, rfl, rfl⟩ := hh
  exact kk ρ H (Fut.refl _ _) s σ er
theorem s_never {st : Stmt} : PS X st (tS (ex cf .never)) := PSi ps_never fun D σ H hq => by
  obtain ⟨ρ, env, S, o, env', S', s, er, hh, kk⟩ := hq
  simp only [ex] at hh
  cases hh
theorem s_retn {p : Pos} : PS X (.Return none p) (tS (ex cf .retn)) := PSi ps_retN fun D σ H hq => by
  obtain ⟨ρ, env, S, o, env', S', s, er, hh, kk⟩ := hq
  simp only [ex, Option.some.injEq, Prod.mk.injEq] at hh
  obtain ⟨rfl, rfl, rfl⟩ := hh
  exact kk ρ H (Fut.refl _ _) s .non PRep.non
theorem s_ret {e : Expr} {ie : IE} {p : Pos} (he : EOk X cf e ie) : PS X (.Return (some e) p) (tS (ex cf (.ret ie))) := PSi (ps_ret he.ve) fun D σ H hq => by
  obtain ⟨ρ, env, S, o, env', S', s, er, hh, kk⟩ := hq
  simp only [ex] at hh
  split at hh
  · rename_i x S1 h1
    split at hh
    · rename_i d S2 h2
      simp only [Option.some.injEq, Prod.mk.injEq] at hh
      obtain ⟨rfl, rfl, rfl⟩ := hh
      refine ⟨ρ, env, S, x, S1, s, er, h1, fun ρ1 v H1 f1 s1 r1 => ?_⟩
      obtain ⟨ρ2, f2, _, s2, rd⟩ := alloc_ok f1 s1 r1 h2
      exact kk ρ2 H1 f2 s2 v rd
    · cases hh
  · cases hh
theorem s_expr {e : Expr} {ie : IE} {p : Pos} (he : EOk X cf e ie) (hc : isComp e = false) : PS X (.Expr e p) (tS (ex cf (.expr ie))) := PSi (ps_expr he.ve (by cases e <;> first | rfl | cases hc)) fun D σ H hq => by
  obtain ⟨ρ, env, S, o, env', S', s, er, hh, kk⟩ := hq
  simp only [ex] at hh
  split at hh
  · rename_i x S1 h1
    simp only [Option.some.injEq, Prod.mk.injEq] at hh
    obtain ⟨rfl, rfl, rfl⟩ := hh
    exact ⟨ρ, env, S, _, S1, s, er, h1, fun ρ1 v H1 f1 s1 r1 => kk ρ1 H1 f1 s1 σ (er.mono f1)⟩
  · cases hh
theorem s_if {e : Expr} {ie : IE} {a b : List Stmt} {ia ib : ISs} {p : Pos} (he : EOk X cf e ie) (ha : PSs X a (tS (exs cf ia))) (hb : PSs X b (tS (exs cf ib))) : PS X (.If e a b p) (tS (ex cf (.ife ie ia ib))) := PSi (ps_if he.vt ha hb) fun D σ H hq => by
  obtain ⟨ρ, env, S, o, env', S', s, er, hh, kk⟩ := hq
  simp only [ex] at hh
  have up : ∀ {ρ1 : List Addr} {H1 : Hp}, Fut ρ H ρ1 H1 → ∀ ρ' H', Fut ρ1 H1 ρ' H' → Sim ρ' H' S' → OutOk D ρ' H' env' o := fun f1 ρ' H' f2 s2 => kk ρ' H' (f1.trans f2) s2
  split at hh
  · rename_i S1 h1
    exact ⟨ρ, env, S, true, S1, s, er, h1, fun ρ1 H1 f1 s1 => ⟨ρ1, env, S1, o, env', S', s1, er.mono f1, hh, up f1⟩⟩
  · rename_i S1 h1
    exact ⟨ρ, env, S, false, S1, s, er, h1, fun ρ1 H1 f1 s1 => ⟨ρ1, env, S1, o, env', S', s1, er.mono f1, hh, up f1⟩⟩
  · cases hh
theorem ss_nil : PSs X [] (tS (exs cf .nil)) := PSsi pss_nil fun D σ H hq => by
  obtain ⟨ρ, env, S, o, env', S', s, er, hh, kk⟩ := hq
  simp only [exs, Option.some.injEq, Prod.mk.injEq] at hh
  obtain ⟨rfl, rfl, rfl⟩ := hh
  exact kk ρ H (Fut.refl _ _) s σ er
theorem ss_cons {st : Stmt} {r : List Stmt} {is : IS} {ir : ISs} (h1 : PS X st (tS (ex cf is))) (h2 : PSs X r (tS (exs cf ir))) : PSs X (st :: r) (tS (exs cf (.cons is ir))) := PSsi (pss_cons h1 h2) fun D σ H hq => by
  obtain ⟨ρ, env, S, o, env', S', s, er, hh, kk⟩ := hq
  simp only [exs] at hh
  split at hh
  · rename_i env1 S1 e1
    refine ⟨ρ, env, S, .nx, env1, S1, s, er, e1, fun ρ1 H1 f1 s1 σ1 er1 => ?_⟩
    exact ⟨ρ1, env1, S1, o, env', S', s1, er1, hh, fun ρ2 H2 f2 s2 => kk ρ2 H2 (f1.trans f2) s2⟩
  · rename_i o1 env1 S1 hn e1
    simp only [Option.some.injEq, Prod.mk.injEq] at hh
    obtain ⟨rfl, rfl, rfl⟩ := hh
    refine ⟨ρ, env, S, o1, env1, S1, s, er, e1, fun ρ1 H1 f1 s1 => ?_⟩
    have z := kk ρ1 H1 f1 s1
    cases o1 with
    | nx => first | exact (hn rfl).elim | exact (hn _ rfl).elim | exact (hn _ _ rfl).elim
    | bk => exact z
    | ct => exact z
    | ret d => exact z
  · cases hh
theorem trAug_op {po : PySem.Operator} {o : Bop} (h : trAug po = some o) : ∃ (C : Int → Int → Prop) (g : Int → Int → Int), OpR X (inplaceOp po) (L2.rI C fun i j => .int (g i j)) ∧ ∀ i j q, binI o i j = some q → C i j ∧ g i j = q := by
  unfold trAug at h
  split at h
  · cases h
    exact ⟨fun _ _ => True, fun i j => i + j, fun pins s σ H x y v u Q I rx ry ⟨i, j, e1, e2, _, q⟩ => iop_add pins s σ H x y v u Q I rx ry ⟨i, j, e1, e2, q⟩, fun i j q e => by cases e; exact ⟨trivial, rfl⟩⟩
  · cases h
    exact ⟨fun _ _ => True, fun i j => i - j, fun pins s σ H x y v u Q I rx ry ⟨i, j, e1, e2, _, q⟩ => iop_sub pins s σ H x y v u Q I rx ry ⟨i, j, e1, e2, q⟩, fun i j q e => by cases e; exact ⟨trivial, rfl⟩⟩
  · cases h
    refine ⟨_, _, iop_mul, fun i j q e => ?_⟩
    unfold binI at e
    dsimp only at e
    split at e
    · rename_i z; cases e; exact ⟨z, rfl⟩
    · cases e
  · cases h
    refine ⟨_, _, iop_fdiv, fun i j q e => ?_⟩
    unfold binI at e
    dsimp only at e
    split at e
    · rename_i z; cases e; exact ⟨z, rfl⟩
    · cases e
  · cases h
    refine ⟨_, _, iop_mod, fun i j q e => ?_⟩
    unfold binI at e
    dsimp only at e
    split at e
    · rename_i z; cases e; exact ⟨z, rfl⟩
    · cases e
  · cases h
theorem s_aug (G : Gd X c k cf) {x : Str} {i : Nat} {po : PySem.Operator} {o : Bop} {e : Expr} {ie : IE} {p px : Pos} (hx : trOwn c x = some i) (ho : trAug po = some o) (he : EOk X cf e ie) : PS X (.AugAssign (.Name x px) po e p) (tS (ex cf (.aug i o ie))) := by
  obtain ⟨h1, h2, h3⟩ := own_ok G hx
  obtain ⟨C, g, hop, hb⟩ := trAug_op (X := X) ho
  refine PSi (ps_aug (by rw [G.N]; exact G.nd) h1 h2 he.ve hop h3) fun D σ H hq => ?_
  obtain ⟨ρ, env, S, o', env', S', s, er, hh, kk⟩ := hq
  simp only [ex] at hh
  split at hh
  · rename_i d hd
    split at hh
    · rename_i y S1 e1
      split at hh
      · rename_i j hj
        split at hh
        · rename_i r hr
          simp only [Option.some.injEq, Prod.mk.injEq] at hh
          obtain ⟨rfl, rfl, rfl⟩ := hh
          obtain ⟨v, hv1, hv2⟩ := er.get hd
          cases (show PRep H v (.int d) from hv2)
          refine ⟨.int d, hv1, ρ, env, S, y, S1, s, er, e1, fun ρ1 w H1 f1 s1 r1 => ?_⟩
          obtain rfl := intR_ok r1 hj
          obtain ⟨hC, rfl⟩ := hb d j r hr
          exact ⟨d, j, rfl, rfl, hC, kk ρ1 H1 f1 s1 _ ((er.mono f1).set i (PRep.int _))⟩
        · cases hh
      · cases hh
    · cases hh
  · cases hh

/-! ### the store of a key -/
def rSetDE : TSet := fun o i v H Q => ∃ a kvs k b, o = .ref a ∧ H a = some (.dK []) ∧ kvs = ([] : List (List Key × V)) ∧ i = .ref b ∧ H b = some (.tup (List.map kV k)) ∧ Q (upd H a (.dT [(k, v)]))
theorem set_dictE (hu : X.A.units + 1 < cLine) : PSet X rSetDE := by
  intro pins s σ H o i v ov iv u Q I ro ri rv ⟨a, kvs, k, b, e1, h1, _, e2, h2, q⟩
  subst e1 e2
  cases (show ov = Value.ref a from ro)
  have hb' : (upd H a (.dT [])) b = some (.tup (List.map kV k)) := by rw [upd_ne (ne_of h2 h1 (fun z => nomatch z))]; exact h2
  refine d_setItem hu (Inv.toT I h1) (v := v) (.inr ⟨[], k, b, upd_same, rfl, hb', by show 0 < sizeLine; rw [sizeLine_eq]; decide, rfl⟩) ri rv fun s' I' => ?_
  rw [upd_upd] at I'
  exact ⟨_, I', q⟩
theorem PSet.or {t t' : TSet} (h : PSet X t) (h' : PSet X t') : PSet X (fun o i v H Q => t o i v H Q ∨ t' o i v H Q) := by
  intro pins s σ H o i v ov iv u Q I ro ri rv q
  rcases q with q | q
  · exact h pins s σ H o i v ov iv u Q I ro ri rv q
  · exact h' pins s σ H o i v ov iv u Q I ro ri rv q
theorem setIx_ok {ρ : List Addr} {H H0 H1 : Hp} {S S' : Sto} {x y : R} {v w u : V} {d : D} {Q : Hp → Prop} (s : Sim ρ H S) (rx : RRep X.K H0 ρ H v x) (ry : RRep X.K H1 ρ H w y) (rd : DRep ρ H u d) (h : setIx x y d S = some S') (k : ∀ H', Fut ρ H ρ H' → Sim ρ H' S' → Q H') :
    rSetL v w u H Q ∨ rSetD v w u H Q ∨ rSetDE v w u H Q := by
  unfold setIx at h
  split at h
  · rename_i n en
    split at h
    · rename_i l e
      split at h
      · rename_i i hi
        obtain ⟨j, hj, rfl⟩ := Option.map_eq_some_iff.mp h
        obtain ⟨a, ha, rfl, xs, hx, r⟩ := refR_ok s rx en e
        have fw : Fut ρ H ρ (upd H a (.lst (xs.set j u))) := Fut.write (List.mem_of_getElem? ha) hx (fun _ z => nomatch z) (fun _ _ z => nomatch z)
        refine .inl ⟨a, xs, i, j, rfl, intR_ok ry hi, hx, by rw [Paired.length r]; exact hj, k _ fw (s.write ha fw ⟨_, upd_same, DReps.mono fw (paired_set rd j r)⟩)⟩
      · cases h
    · rename_i kvs e
      split at h
      · rename_i p ep
        obtain ⟨a, ha, rfl, ks, hk, rk⟩ := refR_ok s rx en e
        split at h
        · rename_i kk ek
          split at h
          · rename_i hz
            cases h
            have fw : Fut ρ H ρ (upd H a (.dK (L2.putK ks kk u))) := Fut.write (List.mem_of_getElem? ha) hk (fun _ z => nomatch z) (fun _ _ z => nomatch z)
            refine .inr (.inl ⟨a, _, rfl, .inl ⟨ks, kk, hk, toKey_ok (pR_ok ry ep) ek, by rw [Paired.length rk, ← LINE_eq]; exact hz, rfl⟩, k _ fw (s.write ha fw ⟨_, upd_same, KReps.mono fw (kreps_put kk rk rd)⟩)⟩)
          · cases h
        · split at h
          · rename_i ee
            have : kvs = [] := by simpa using ee
            subst this
            cases rk
            split at h
            · rename_i kk ek
              cases h
              obtain ⟨b, rfl, hb⟩ := toKeyT_ok (pR_ok ry ep) ek
              have fw : Fut ρ H ρ (upd H a (.dT [(kk, u)])) := Fut.write (List.mem_of_getElem? ha) hk (fun _ z => nomatch z) (fun _ _ z => nomatch z)
              exact .inr (.inr ⟨a, [], kk, b, rfl, hk, rfl, rfl, hb, k _ fw (s.write ha fw ⟨_, upd_same, .cons ⟨rfl, rd.mono fw⟩ .nil⟩)⟩)
            · cases h
          · cases h
      · cases h
    · rename_i kvs e
      split at h
      · rename_i p ep
        obtain ⟨a, ha, rfl, ks, hk, rk⟩ := refR_ok s rx en e
        split at h
        · rename_i kk ek
          split at h
          · rename_i hz
            cases h
            obtain ⟨b, rfl, hb⟩ := toKeyT_ok (pR_ok ry ep) ek
            have fw : Fut ρ H ρ (upd H a (.dT (L2.putK ks kk u))) := Fut.write (List.mem_of_getElem? ha) hk (fun _ z => nomatch z) (fun _ _ z => nomatch z)
            refine .inr (.inl ⟨a, _, rfl, .inr ⟨ks, kk, b, hk, rfl, hb, by rw [Paired.length rk, ← LINE_eq]; exact hz, rfl⟩, k _ fw (s.write ha fw ⟨_, upd_same, KReps.mono fw (kreps_put kk rk rd)⟩)⟩)
          · cases h
        · cases h
      · cases h
    · cases h
  · cases h
def isSl : Expr → Bool
  | .Slice .. => true
  | _ => false
theorem trE_sl : ∀ {n : Nat} {e : Expr} {ie : IE}, trE c n e = some ie → isSl e = false
  | 0, _, _, h => by unfold trE at h; cases h
  | n + 1, e, ie, h => by
    cases e with
    | Slice a b d p =>
      unfold trE at h
      cases h
    | _ => rfl
theorem s_setix (G : Gd X c k cf) {o i v : Expr} {io ii iv : IE} {p q : Pos} (ho : EOk X cf o io) (hi : EOk X cf i ii) (hv : EOk X cf v iv) (hc : isComp v = false) (hn : isSl i = false) : PS X (.Assign [.Subscript o i q] v p) (tS (ex cf (.setix io ii iv))) := by
  have hu := G.units
  refine PSi (ps_asg hv.ve (pg_sub ho.ve hi.ve (PSet.or set_list (PSet.or (set_dict (by omega)) (set_dictE (by omega)))) (by intro _; cases i <;> first | rfl | cases hn)) (by cases v <;> first | rfl | cases hc) (by cases v <;> rfl) (by rfl)) fun D σ H hq => ?_
  obtain ⟨ρ, env, S, o', env', S', s, er, hh, kk⟩ := hq
  simp only [ex] at hh
  split at hh
  · rename_i x S1 e1
    split at hh
    · rename_i d S2 e2
      split at hh
      · rename_i y S3 e3
        split at hh
        · rename_i z S4 e4
          split at hh
          · rename_i S5 e5
            simp only [Option.some.injEq, Prod.mk.injEq] at hh
            obtain ⟨rfl, rfl, rfl⟩ := hh
            refine ⟨ρ, env, S, x, S1, s, er, e1, fun ρ1 u H1 f1 s1 r1 => ?_⟩
            obtain ⟨ρ2, f2, ⟨t, rfl⟩, s2, rd⟩ := alloc_ok f1 s1 r1 e2
            refine ⟨ρ1 ++ t, env, S2, y, S3, s2, er.mono f2, e3, fun ρ3 w H3 f3 s3 r3 => ⟨ρ3, env, S3, z, S4, s3, (er.mono f2).mono f3, e4, fun ρ4 w2 H4 f4 s4 r4 => ?_⟩⟩
            exact setIx_ok s4 (r3.mono f4) r4 ((rd.mono f3).mono f4) e5 fun H5 f5 s5 => kk ρ4 H5 (((f2.trans f3).trans f4).trans f5) s5 σ ((((er.mono f2).mono f3).mono f4).mono f5)
          · cases hh
        · cases hh
      · cases hh
    · cases hh
  · cases hh
theorem dropK_rep {κ : Type} [DecidableEq κ] {ρ : List Addr} {H : Hp} (k : κ) : ∀ {ks : List (κ × V)} {kvs : List (κ × D)}, KReps ρ H ks kvs → KReps ρ H (L2.dropK ks k) (dropK kvs k)
  | _, _, .nil => .nil
  | _, _, .cons (a := a) (b := b) h t => by
    have ih := dropK_rep k t
    unfold L2.dropK dropK at *
    by_cases e : a.1 = k
    · have e' : b.1 = k := h.1.symm.trans e
      rw [List.filter_cons_of_neg (by simp [e]), List.filter_cons_of_neg (by simp [e'])]
      exact ih
    · have e' : ¬ b.1 = k := fun z => e (h.1.trans z)
      rw [List.filter_cons_of_pos (by simp [e]), List.filter_cons_of_pos (by simp [e'])]
      exact .cons h ih
theorem KT_without {H : Hp} (k : List Key) : ∀ {kvs : List (List Key × V)} {xs : List (List Key × Addr × Value)}, KT H kvs xs → KT H (L2.dropK kvs k) (withoutH xs k)
  | _, _, .nil => .nil
  | _, _, .cons (a := a) (b := b) h t => by
    have ih := KT_without k t
    unfold L2.dropK withoutH at *
    by_cases e : a.1 = k
    · have e' : b.1 = k := h.1.symm.trans e
      rw [List.filter_cons_of_neg (by simp [e]), List.filter_cons_of_neg (by simp [e'])]
      exact ih
    · have e' : ¬ b.1 = k := fun z => e (h.1.trans z)
      rw [List.filter_cons_of_pos (by simp [e]), List.filter_cons_of_pos (by simp [e'])]
      exact .cons h ih
/-- del d[k], of either kind -/
def sDelG (to ti : TE) : TS := fun D σ H => to σ H fun x H1 => ti σ H1 fun y H2 => ∃ a, x = .ref a ∧ ((∃ kvs k, H2 a = some (.dK kvs) ∧ y = kV k ∧ (valV kvs k).isSome = true ∧ D.nx σ (upd H2 a (.dK (L2.dropK kvs k)))) ∨
  ∃ (kvs : List (List Key × V)) (k : List Key) (b : Addr), H2 a = some (.dT kvs) ∧ y = .ref b ∧ H2 b = some (.tup (k.map kV)) ∧ (valV kvs k).isSome = true ∧ D.nx σ (upd H2 a (.dT (L2.dropK kvs k))))
theorem ps_delG (hu : X.A.units + 90 < cLine) {o i : Expr} {to ti : TE} {tpos pos : Pos} (ho : PE X o to) (hi : PE X i ti) : PS X (.Delete [.Subscript o i tpos] pos) (sDelG to ti) := by
  refine ⟨fun pins s σ H D I h => ?_⟩
  refine wpAny_Delete (wpAny_deleteEach_cons (wpAny_delete_Subscript (thn (ho.run pins s σ H _ I h) fun u s1 ⟨x, H1, I1, rx, q1⟩ => thn (hi.run pins s1 σ H1 _ I1 q1) fun iv s2 ⟨y, H2, I2, ry, a, ex, q2⟩ => ?_)))
  subst ex
  obtain rfl : u = Value.ref a := rx
  rcases q2 with ⟨kvs, k, e, rfl, l, q2⟩ | ⟨kvs, k, b, e, rfl, eb, l, q2⟩
  · exact d_delItem I2 e ry l fun s3 I3 => wpAny_deleteEach_nil ⟨σ, _, I3, q2⟩
  · obtain rfl : iv = Value.ref b := ry
    obtain ⟨z, hd, xs, rel, dd⟩ := dt_of I2.hok e
    have hz : xs.length ≤ sizeLine := by rw [← Paired.length rel]; exact z
    obtain ⟨v0, hv0⟩ := Option.isSome_iff_exists.mp l
    obtain ⟨w', hw, _⟩ := RelO.some_of (v := v0) (o := (atKey xs k).map (·.2)) (by rw [← hv0]; exact rel.val k)
    obtain ⟨p, hp, _⟩ := Option.map_eq_some_iff.mp hw
    refine wpAny_delItem_heap (hsz := hz) (tupleKind_room_in1 (by omega)) (key_of I2.hok eb) hd dd hp fun h' dd' hs => ?_
    obtain ⟨ob, es, ep, hq, h2, h3, h4, _, h5⟩ := dd'
    refine wpAny_deleteEach_nil ⟨σ, _, d_write I2 (by rw [e]; exact True.intro) hs ⟨ob, hq⟩ (show ObjOk X.prog X.w _ _ _ (.dT (L2.dropK kvs k)) from ⟨Nat.le_trans (dropK_le kvs k) z, hd, _, (KT_without k rel).keeps (fun c ys ec => ?_), ob, es, ep, hq, h2, h3, h4, h5⟩), q2⟩
    rw [upd_ne (ne_of ec e (fun z => nomatch z))]
    exact ec
end
end PyI
set_option Elab.async false
set_option linter.all false
set_option maxRecDepth 100000
set_option maxHeartbeats 4000000
/-! PyS25: stores, loops. -/
namespace PyI
open PySem PySem.Spec PyProof.Rows L2

section
variable {X : Cx} {c : TC} {k : Nat} {cf : CF}
theorem s_del (G : Gd X c k cf) {o i : Expr} {io ii : IE} {p q : Pos} (ho : EOk X cf o io) (hi : EOk X cf i ii) : PS X (.Delete [.Subscript o i q] p) (tS (ex cf (.delix io ii))) := by
  refine PSi (ps_delG G.units ho.ve hi.ve) fun D σ H hq => ?_
  obtain ⟨ρ, env, S, o', env', S', s, er, hh, kk⟩ := hq
  simp only [ex] at hh
  split at hh
  · rename_i y S1 e1
    split at hh
    · rename_i z S2 e2
      split at hh
      · rename_i S3 e3
        simp only [Option.some.injEq, Prod.mk.injEq] at hh
        obtain ⟨rfl, rfl, rfl⟩ := hh
        refine ⟨ρ, env, S, y, S1, s, er, e1, fun ρ1 v H1 f1 s1 r1 => ⟨ρ1, env, S1, z, S2, s1, er.mono f1, e2, fun ρ2 w H2 f2 s2 r2 => ?_⟩⟩
        have f12 := f1.trans f2
        unfold delIx at e3
        split at e3
        · rename_i n en
          split at e3
          · rename_i kvs el
            split at e3
            · rename_i x ex'
              split at e3
              · rename_i kk' ek
                split at e3
                · rename_i hsome
                  cases e3
                  obtain ⟨a, ha, rfl, ks, hk, rk⟩ := refR_ok s2 (r1.mono f2) en el
                  have fw : Fut ρ2 H2 ρ2 (upd H2 a (.dK (L2.dropK ks kk'))) := Fut.write (List.mem_of_getElem? ha) hk (fun _ z => nomatch z) (fun _ _ z => nomatch z)
                  exact ⟨a, rfl, .inl ⟨ks, kk', hk, toKey_ok (pR_ok r2 ex') ek, by rw [look_some kk' rk]; exact hsome, kk ρ2 _ (f12.trans fw) (s2.write ha fw ⟨_, upd_same, KReps.mono fw (dropK_rep kk' rk)⟩) σ ((er.mono f12).mono fw)⟩⟩
                · cases e3
              · cases e3
            · cases e3
          · rename_i kvs el
            split at e3
            · rename_i x ex'
              split at e3
              · rename_i kk' ek
                split at e3
                · rename_i hsome
                  cases e3
                  obtain ⟨a, ha, rfl, ks, hk, rk⟩ := refR_ok s2 (r1.mono f2) en el
                  obtain ⟨b, rfl, hb⟩ := toKeyT_ok (pR_ok r2 ex') ek
                  have fw : Fut ρ2 H2 ρ2 (upd H2 a (.dT (L2.dropK ks kk'))) := Fut.write (List.mem_of_getElem? ha) hk (fun _ z => nomatch z) (fun _ _ z => nomatch z)
                  exact ⟨a, rfl, .inr ⟨ks, kk', b, hk, rfl, hb, by rw [look_some kk' rk]; exact hsome, kk ρ2 _ (f12.trans fw) (s2.write ha fw ⟨_, upd_same, KReps.mono fw (dropK_rep kk' rk)⟩) σ ((er.mono f12).mono fw)⟩⟩
                · cases e3
              · cases e3
            · cases e3
          · cases e3
        · cases e3
      · cases hh
    · cases hh
  · cases hh
/-- name = value, read -/
theorem asg_red {te : TE} {i : Nat} {iv : IE} (hte : ∀ σ H Q, tE X.K (ev cf iv) σ H Q → te σ H Q) : ∀ D σ H, tS (ex cf (.asg (.nm i) iv)) D σ H → tAsg te (gName i) D σ H := fun D σ H hq => by
  obtain ⟨ρ, env, S, o', env', S', s, er, hh, kk⟩ := hq
  simp only [ex] at hh
  split at hh
  · rename_i x S1 e1
    split at hh
    · rename_i env1 S2 e2
      simp only [Option.some.injEq, Prod.mk.injEq] at hh
      obtain ⟨rfl, rfl, rfl⟩ := hh
      unfold asgR at e2
      split at e2
      · rename_i d S3 e3
        simp only [asgD, Option.map_some, Option.some.injEq, Prod.mk.injEq] at e2
        obtain ⟨rfl, rfl⟩ := e2
        refine hte _ _ _ ⟨ρ, env, S, x, S1, s, er, e1, fun ρ1 v H1 f1 s1 r1 => ?_⟩
        obtain ⟨ρ2, f2, _, s2, rd⟩ := alloc_ok f1 s1 r1 e3
        exact kk ρ2 H1 f2 s2 _ ((er.mono f2).set i rd)
      · cases e2
    · cases hh
  · cases hh
theorem sw_eq (G : Gd X c k cf) {x : Str} {px : Pos} {v : Expr} {scope : Scope} {l : Nat} (hv : (∃ a b d, v = .ListComp a b scope d) ∨ ∃ a b d e, v = .DictComp a b d scope e) : swapsWith v (some (.Name x px)) l X.env = pure (swapC c x px v scope) := by
  have hb : (X.env.blockKind == ScopeKind.function) = true := by
    unfold PySem.Env.blockKind
    rw [G.kind]
    rfl
  have hn : X.env.kindOf x = c.names.lookup x := by
    unfold PySem.Env.kindOf
    rw [G.names]
  have key : ∀ v : Expr, (pure (X.env.blockKind == .function && X.env.kindOf x == some .local && px.line == v.pos.line && !(scope.names.any fun (n, k) => n == x && (k == .local || k == .cell))) : Sem Bool) = pure (swapC c x px v scope) := fun v => by
    rw [hb, hn, Bool.true_and]
    rfl
  rcases hv with ⟨a, b, d, rfl⟩ | ⟨a, b, d, e, rfl⟩
  · exact key (.ListComp a b scope d)
  · exact key (.DictComp a b d scope e)
theorem s_name0 (G : Gd X c k cf) {x : Str} {px p : Pos} {v : Expr} {i : Nat} {iv : IE} (hx : trOwn c x = some i) (hv : EOk X cf v iv) (hs : swapsWith v (some (.Name x px)) p.line X.env = pure false) : PS X (.Assign [.Name x px] v p) (tS (ex cf (.asg (.nm i) iv))) := by
  obtain ⟨h1, h2, h3⟩ := own_ok G hx
  exact PSi (ps_set (by rw [G.N]; exact G.nd) h1 h2 hv.ve hs h3) (asg_red fun _ _ _ h => h)
theorem swapC_true {x : Str} {px : Pos} {v : Expr} {scope : Scope} (h : swapC c x px v scope = true) : c.names.lookup x = some .local := by
  unfold swapC at h
  simp only [Bool.and_eq_true] at h
  simpa using h.1.1
theorem s_name (G : Gd X c k cf) {n : Nat} {x : Str} {px p : Pos} {v : Expr} {i : Nat} {iv : IE} (hx : trOwn c x = some i) (hb : swapsBad c x px v = false) (h : trE c n v = some iv) : PS X (.Assign [.Name x px] v p) (tS (ex cf (.asg (.nm i) iv))) := by
  have hv : EOk X cf v iv := (all_e n).e G h
  obtain ⟨g1, g2, g3⟩ := own_ok G hx
  cases v with
  | ListComp elt gs scope pos =>
    by_cases hsw : swapC c x px (.ListComp elt gs scope pos) scope = true
    · have hloc : X.env.scope.names.lookup x = some .local := by rw [G.names]; exact swapC_true hsw
      have hs : swapsWith (.ListComp elt gs scope pos) (some (.Name x px)) p.line X.env = pure true := by rw [sw_eq G (.inl ⟨_, _, _, rfl⟩), hsw]
      have hN : X.N.Nodup := by rw [G.N]; exact G.nd
      cases n with
      | zero => unfold trE at h; cases h
      | succ n =>
        have ih := all_e (k := k) (cf := cf) n
        unfold trE at h
        split at h <;> try (exfalso; rename_i hz; cases hz; done)
        · rename_i hz
          cases hz
          split at h
          · rename_i hb'
            rw [Bool.and_eq_true] at hb'
            split at h
            · rename_i iit itg iifs ielt h1 h2 h3 h4
              cases h
              refine PSi (ps_setLc (te := tE X.K (ev cf ielt)) (own := ownOf c.N scope) G.calm hN g1 hloc hs ((ih.i G h1).1 _) (blk_ok G hb'.1) (fun s H C cl fp => tg_ok (blk_gd G hb'.1 s H C cl fp) h2) (fun s H C cl fp => (ih.es (blk_gd G hb'.1 s H C cl fp) h3).2 hb'.2) (fun s H C cl fp => (ih.e (blk_gd G hb'.1 s H C cl fp) h4).ve) (fun x => (ih.i G h1).2 _ x)) (asg_red (X := X) fun σ H Q hq => ?_)
              refine lc_red (own_in h2) ?_
              obtain ⟨ρ, env, S, r, S', s, er, hh, kk⟩ := hq
              exact ⟨ρ, env, S, r, S', s, er, ev_comp hh, kk⟩
            · cases h
          · cases h
        · rename_i hz
          cases hz
          split at h
          · rename_i hb'
            rw [Bool.and_eq_true, Bool.and_eq_true] at hb'
            split at h
            · rename_i iit itg iifs ielt iit2 itg2 iifs2 h1 h2 h3 h4 h5 h6 h7
              cases h
              have G0 := blk_gd G hb'.1.1 X.s_0 X.H_0 0 [] []
              refine PSi (ps_setLc2 (te := tE X.K (ev cf ielt)) (own := ownOf c.N scope) (vs1 := tgIdx itg2) G.calm hN g1 hloc hs ((ih.i G h1).1 _) (blk_ok G hb'.1.1) (own_in h6) (fun s H C cl fp => tg_ok (blk_gd G hb'.1.1 s H C cl fp) h2) (fun s H C cl fp => (ih.es (blk_gd G hb'.1.1 s H C cl fp) h3).2 hb'.1.2)
                (fun s H C cl fp => (ih.i (blk_gd G hb'.1.1 s H C cl fp) h5).1 _) (fun s H C cl fp => tg_ok (blk_gd G hb'.1.1 s H C cl fp) h6) (fun s H C cl fp => (ih.es (blk_gd G hb'.1.1 s H C cl fp) h7).2 hb'.2) (fun s H C cl fp => (ih.e (blk_gd G hb'.1.1 s H C cl fp) h4).ve) (fun x => (ih.i G h1).2 _ x) (ih.i G0 h5).2) (asg_red (X := X) fun σ H Q hq => ?_)
              refine lc2_red (own_in h2) ?_
              obtain ⟨ρ, env, S, r, S', s, er, hh, kk⟩ := hq
              exact ⟨ρ, env, S, r, S', s, er, ev_comp2 hh, kk⟩
            · cases h
          · cases h
        · cases h
    · exact s_name0 G hx hv (by rw [sw_eq G (.inl ⟨_, _, _, rfl⟩), Bool.eq_false_iff.mpr hsw])
  | DictComp a b d scope e =>
    refine s_name0 G hx hv ?_
    have hb : swapC c x px (.DictComp a b d scope e) scope = false := hb
    rw [sw_eq G (.inr ⟨_, _, _, _, rfl⟩), hb]
  | SetComp a b d e => cases hb
  | _ => exact s_name0 G hx hv rfl
theorem s_tup (G : Gd X c k cf) {n : Nat} {ts : List Expr} {kt : Nat} {pt p : Pos} {v : Expr} {its : List TG} {iv : IE} (ht : trGs c n ts = some its) (hv : EOk X cf v iv) (hc : isComp v = false) (hnt : ∀ a b d, v ≠ .Tuple a b d) : PS X (.Assign [.Tuple ts kt pt] v p) (tS (ex cf (.asg (.tup its) iv))) := by
  have hg : PG X (.Tuple ts kt pt) (tG (tgIdx (.tup its)) (asgD (.tup its))) := tg_ok (n := n + 1) G (by unfold trG; show Option.map TG.tup (trGs c n ts) = _; rw [ht]; rfl)
  refine PSi (ps_asg hv.ve hg (by cases v <;> first | rfl | cases hc) (by cases v <;> first | rfl | exact absurd rfl (hnt _ _ _)) (by rfl)) fun D σ H hq => ?_
  obtain ⟨ρ, env, S, o', env', S', s, er, hh, kk⟩ := hq
  simp only [ex] at hh
  split at hh
  · rename_i x S1 e1
    split at hh
    · rename_i env1 S2 e2
      simp only [Option.some.injEq, Prod.mk.injEq] at hh
      obtain ⟨rfl, rfl, rfl⟩ := hh
      unfold asgR at e2
      split at e2
      · rename_i d S3 e3
        obtain ⟨env2, e4, e5⟩ := Option.map_eq_some_iff.mp e2
        simp only [Prod.mk.injEq] at e5
        obtain ⟨rfl, rfl⟩ := e5
        refine ⟨ρ, env, S, x, S1, s, er, e1, fun ρ1 v H1 f1 s1 r1 => ?_⟩
        obtain ⟨ρ2, f2, _, s2, rd⟩ := alloc_ok f1 s1 r1 e3
        exact ⟨ρ2, env, d, env2, er.mono f2, rd, e4, fun σ' e' _ => kk ρ2 H1 f2 s2 σ' e'⟩
      · cases e2
    · cases hh
  · cases hh
/-- .. of as many values, one after another -/
theorem s_par0 (G : Gd X c k cf) {n : Nat} {ts vs : List Expr} {kt k2 : Nat} {pt p2 p : Pos} {its : List TG} {ivs : IEs} (ht : trGs c n ts = some its) (hv : PA X vs (tA (evs cf ivs))) (hl : ts.length ≤ 100) (hw : swappedStores [.Tuple ts kt pt] (.Tuple vs k2 p2) X.env = pure none) :
    PS X (.Assign [.Tuple ts kt pt] (.Tuple vs k2 p2) p) (tS (ex cf (.par its ivs))) := by
  obtain ⟨l1, l2⟩ := trGs_len ht
  refine PSi (ps_asg (pe_tupG hv) (pg_tup (n := ts.length) G.calm (tgs_ok G ht) (l2 X.env).1 (l2 X.env).2) rfl hw (by rfl)) fun D σ H hq => ?_
  obtain ⟨ρ, env, S, o', env', S', s, er, hh, kk⟩ := hq
  simp only [ex] at hh
  split at hh
  · rename_i ds S1 e1
    split at hh
    · rename_i env1 e2
      simp only [Option.some.injEq, Prod.mk.injEq] at hh
      obtain ⟨rfl, rfl, rfl⟩ := hh
      refine ⟨ρ, env, S, ds, S1, s, er, e1, fun ρ1 xs H1 f1 s1 rs => ?_⟩
      have hlen : xs.length = ts.length := by rw [Paired.length rs, ← asgDs_len e2, l1]
      refine ⟨by rw [hlen, sizeLine_eq]; omega, fun q hn => .inl ?_⟩
      have fn : Fut ρ1 H1 ρ1 (upd H1 q (.tup xs)) := Fut.new hn
      exact ⟨q, xs, rfl, .of upd_same, hlen, ρ1, env, ds, env1, (er.mono f1).mono fn, DReps.mono fn rs, e2, fun σ' e' _ => kk ρ1 _ (f1.trans fn) (s1.new hn) σ' e'⟩
    · cases hh
  · cases hh
end

/-! ### for -/
section
variable {X : Cx} {c : TC} {k : Nat} {cf : CF}
theorem loopL_cons {f : D → Env → Sto → Option (Out × Env × Sto)} {d : D} {r : List D} {cc : Option (Nat × List D)} {env : Env} {S : Sto} {res : Out × Env × Sto} (h : loopL f (d :: r) cc env S = some res) :
    ∃ o1 env1 S1, f d env S = some (o1, env1, S1) ∧ (((o1 = .nx ∨ o1 = .ct) ∧ still cc S1 = true ∧ loopL f r cc env1 S1 = some res) ∨ (o1 = .bk ∧ res = (.nx, env1, S1)) ∨ ∃ d, o1 = .ret d ∧ res = (.ret d, env1, S1)) := by
  simp only [loopL] at h
  split at h
  · rename_i env1 S1 h1
    split at h
    · rename_i h2
      exact ⟨_, _, _, h1, .inl ⟨.inl rfl, h2, h⟩⟩
    · cases h
  · rename_i env1 S1 h1
    split at h
    · rename_i h2
      exact ⟨_, _, _, h1, .inl ⟨.inr rfl, h2, h⟩⟩
    · cases h
  · rename_i env1 S1 h1
    cases h
    exact ⟨_, _, _, h1, .inr (.inl ⟨rfl, rfl⟩)⟩
  · rename_i d1 env1 S1 h1
    cases h
    exact ⟨_, _, _, h1, .inr (.inr ⟨d1, rfl, rfl⟩)⟩
  · cases h
structure WkF (ρ1 : List Addr) (H1 : Hp) (l : List PyI.D) (cc : Option (Nat × List PyI.D)) (f : PyI.D → Env → Sto → Option (Out × Env × Sto)) (res : Out × Env × Sto) (i m : Nat) (σ : L2.St) (H : Hp) : Prop where
  ex : ∃ ρi envi Si, m = l.length - i ∧ i ≤ l.length ∧ Fut ρ1 H1 ρi H ∧ Sim ρi H Si ∧ ERep ρi H σ envi ∧ still cc Si = true ∧ loopL f (l.drop i) cc envi Si = some res
theorem s_for (G : Gd X c k cf) (hp : PassesOwn (model X.prog X.w) X.A X.env X.xe) {tg it : Expr} {b : List Stmt} {itg : TG} {iit : IT} {ib : ISs} {p : Pos} (hg : PG X tg (tG (tgIdx itg) (asgD itg))) (hi : PI X tg it (tI (evi cf iit))) (hs : ∀ env x, foldedSetIterable it env x = pure x) (hb : PSs X b (tS (exs cf ib))) :
    PS X (.For tg it b [] p) (tS (ex cf (.loop itg iit ib))) := by
  refine PSi (ps_for hp G.calm hi hg hb (fun x => hs _ x)) fun D σ H hq => ?_
  obtain ⟨ρ, env, S, o, env', S', s, er, hh, kk⟩ := hq
  simp only [ex] at hh
  split at hh
  · rename_i l cc S1 e1
    refine ⟨ρ, env, S, l, cc, S1, s, er, e1, fun ρ1 J H1 f1 s1 hst jok => ?_⟩
    generalize hf : (fun (d : PyI.D) (env : Env) (S : Sto) => match asgD itg d env with
      | some env => exs cf ib env S
      | none => none) = f at hh
    refine ⟨WkF ρ1 H1 l cc f (o, env', S'), ⟨l.length, ⟨ρ1, env, S1, by simp, Nat.zero_le _, Fut.refl _ _, s1, er.mono f1, hst, by rw [List.drop_zero]; exact hh⟩⟩, fun i m σi Hi w => ?_⟩
    obtain ⟨ρi, envi, Si, rfl, hil, fi, si, ei, hsti, hc⟩ := w.ex
    obtain ⟨j1, j2⟩ := jok ρi Hi Si fi.ext (fun a o _ h1 hn => fi.keep a o h1 hn) si hsti i
    by_cases hlt : i < l.length
    · refine .inr ?_
      rw [drop_at hlt] at hc
      obtain ⟨o1, env1, S2, h1, h2⟩ := loopL_cons hc
      obtain ⟨g1, g2⟩ := j2 l[i] (List.getElem?_eq_getElem hlt)
      refine ⟨g1, fun σ' H' => WkF ρ1 H1 l cc f (o, env', S') (i + 1) (l.length - (i + 1)) σ' H', fun σ' H' w' => ⟨_, by omega, w'⟩, fun x H' hy => ?_⟩
      obtain ⟨fy, sy, ry⟩ := g2 x H' hy
      rw [← hf] at h1
      dsimp only at h1
      split at h1
      · rename_i env2 hg2
        refine ⟨ρi, envi, l[i], env2, ei.mono fy, ry, hg2, fun σ2 e2 _ => ?_⟩
        refine ⟨ρi, env2, Si, o1, env1, S2, sy, e2, h1, fun ρ3 H3 f3 s3 => ?_⟩
        have fa := (fi.trans fy).trans f3
        rcases h2 with ⟨ho, h3, h4⟩ | ⟨rfl, h3⟩ | ⟨d, rfl, h3⟩
        · have nx : ∀ σ', ERep ρ3 H3 σ' env1 → WkF ρ1 H1 l cc f (o, env', S') (i + 1) (l.length - (i + 1)) σ' H3 := fun σ' e' => ⟨ρ3, env1, S2, rfl, hlt, fa, s3, e', h3, h4⟩
          rcases ho with rfl | rfl
          · exact nx
          · exact nx
        · cases h3
          exact kk ρ3 H3 (f1.trans fa) s3
        · cases h3
          exact kk ρ3 H3 (f1.trans fa) s3
      · cases h1
    · have e : i = l.length := by omega
      subst e
      rw [List.drop_length] at hc
      simp only [loopL, Option.some.injEq, Prod.mk.injEq] at hc
      obtain ⟨rfl, rfl, rfl⟩ := hc
      exact .inl ⟨j1 (Nat.le_refl _), kk ρi Hi (f1.trans fi) si σi ei⟩
  · cases hh

/-! ### while -/
inductive WhR (cd : Env → Sto → Option (Bool × Sto)) (b : Env → Sto → Option (Out × Env × Sto)) : Nat → Env → Sto → Out × Env × Sto → Prop
  | stop {n env S S1} : cd env S = some (false, S1) → WhR cd b n env S (.nx, env, S1)
  | go {n env S S1 o env2 S2 r} : cd env S = some (true, S1) → b env S1 = some (o, env2, S2) → (o = .nx ∨ o = .ct) → WhR cd b n env2 S2 r → WhR cd b (n + 1) env S r
  | brk {n env S S1 env2 S2} : cd env S = some (true, S1) → b env S1 = some (.bk, env2, S2) → WhR cd b n env S (.nx, env2, S2)
  | ret {n env S S1 env2 S2 d} : cd env S = some (true, S1) → b env S1 = some (.ret d, env2, S2) → WhR cd b n env S (.ret d, env2, S2)
theorem whileD_ok (cd : Env → Sto → Option (Bool × Sto)) (b : Env → Sto → Option (Out × Env × Sto)) : ∀ env S r, whileD cd b env S = some r → ∃ n, WhR cd b n env S r := by
  refine whileD.partial_correctness cd b (fun env S r => ∃ n, WhR cd b n env S r) ?_
  intro f ih env S r h
  simp only [bind, Option.bind] at h
  split at h
  · cases h
  · rename_i p h1
    obtain ⟨t, S1⟩ := p
    dsimp only at h
    split at h
    · rename_i ht
      subst ht
      split at h
      · cases h
      · rename_i q h2
        obtain ⟨o, env2, S2⟩ := q
        dsimp only at h
        cases o with
        | nx =>
          obtain ⟨n, hn⟩ := ih _ _ _ h
          exact ⟨n + 1, .go h1 h2 (.inl rfl) hn⟩
        | ct =>
          obtain ⟨n, hn⟩ := ih _ _ _ h
          exact ⟨n + 1, .go h1 h2 (.inr rfl) hn⟩
        | bk =>
          cases h
          exact ⟨0, .brk h1 h2⟩
        | ret d =>
          cases h
          exact ⟨0, .ret h1 h2⟩
    · rename_i ht
      have ht : t = false := by simpa using ht
      subst ht
      cases h
      exact ⟨0, .stop h1⟩
structure WkW (ρ1 : List Addr) (H1 : Hp) (cd : Env → Sto → Option (Bool × Sto)) (b : Env → Sto → Option (Out × Env × Sto)) (res : Out × Env × Sto) (m : Nat) (σ : L2.St) (H : Hp) : Prop where
  ex : ∃ ρi envi Si, Fut ρ1 H1 ρi H ∧ Sim ρi H Si ∧ ERep ρi H σ envi ∧ WhR cd b m envi Si res
theorem s_while (hp : PassesOwn (model X.prog X.w) X.A X.env X.xe) {e : Expr} {ie : IE} {b : List Stmt} {ib : ISs} {p : Pos} (he : EOk X cf e ie) (hb : PSs X b (tS (exs cf ib))) : PS X (.While e b [] p) (tS (ex cf (.while ie ib))) := by
  refine PSi (ps_while hp he.vt hb) fun D σ H hq => ?_
  obtain ⟨ρ, env, S, o, env', S', s, er, hh, kk⟩ := hq
  simp only [ex] at hh
  obtain ⟨n, hn⟩ := whileD_ok _ _ _ _ _ hh
  refine ⟨WkW ρ H (fun env S => tst cf ie env S) (fun env S => exs cf ib env S) (o, env', S'), ⟨n, ⟨ρ, env, S, Fut.refl _ _, s, er, hn⟩⟩, fun m σi Hi w => ?_⟩
  obtain ⟨ρi, envi, Si, fi, si, ei, hw⟩ := w.ex
  cases hw with
  | stop h1 => exact ⟨ρi, _, _, false, _, si, ei, h1, fun ρ2 H2 f2 s2 => kk ρ2 H2 (fi.trans f2) s2 σi (ei.mono f2)⟩
  | go h1 h2 ho h3 =>
    refine ⟨ρi, _, _, true, _, si, ei, h1, fun ρ2 H2 f2 s2 => ?_⟩
    refine ⟨fun σ' H' => WkW ρ H (fun env S => tst cf ie env S) (fun env S => exs cf ib env S) (o, env', S') _ σ' H', fun σ' H' w' => ⟨_, Nat.lt_succ_self _, w'⟩, ρ2, _, _, _, _, _, s2, ei.mono f2, h2, fun ρ3 H3 f3 s3 => ?_⟩
    rcases ho with rfl | rfl
    · exact fun σ' e' => ⟨ρ3, _, _, (fi.trans f2).trans f3, s3, e', h3⟩
    · exact fun σ' e' => ⟨ρ3, _, _, (fi.trans f2).trans f3, s3, e', h3⟩
  | brk h1 h2 =>
    refine ⟨ρi, _, _, true, _, si, ei, h1, fun ρ2 H2 f2 s2 => ?_⟩
    exact ⟨fun _ _ => False, fun _ _ z => z.elim, ρ2, _, _, _, _, _, s2, ei.mono f2, h2, fun ρ3 H3 f3 s3 => kk ρ3 H3 ((fi.trans f2).trans f3) s3⟩
  | ret h1 h2 =>
    refine ⟨ρi, _, _, true, _, si, ei, h1, fun ρ2 H2 f2 s2 => ?_⟩
    exact ⟨fun _ _ => False, fun _ _ z => z.elim, ρ2, _, _, _, _, _, s2, ei.mono f2, h2, fun ρ3 H3 f3 s3 => kk ρ3 H3 ((fi.trans f2).trans f3) s3⟩
end
end PyI
set_option Elab.async false
set_option linter.all false
set_option maxRecDepth 100000
set_option maxHeartbeats 4000000
/-! PyS26: (a, b) = (x, y), and every statement. -/
namespace PyI
open PySem PySem.Spec PyProof.Rows L2

section
variable {X : Cx} {c : TC} {k : Nat} {cf : CF}
def starred : Expr → Bool
  | .Starred .. => true
  | _ => false
theorem star_any (vs : List Expr) : vs.any starred = !vs.all noStar := by
  induction vs with
  | nil => rfl
  | cons v vs ih =>
    rw [List.any_cons, List.all_cons, ih]
    cases v <;> rfl
theorem loc_eq (G : Gd X c k cf) (line : Nat) (ts : List Expr) : (ts.filterMap fun e => match e with
    | .Name id pos => if X.env.kindOf id == some .local && pos.line == line then some id else none
    | _ => none) = locNames c line ts := by
  unfold locNames
  congr 1
  funext e
  have hn : ∀ x, X.env.kindOf x = c.names.lookup x := fun x => by
    unfold PySem.Env.kindOf
    rw [G.names]
  cases e <;> first | rfl | (dsimp only; rw [hn])
theorem blockKind_ok (G : Gd X c k cf) : (X.env.blockKind != ScopeKind.function) = false := by
  unfold PySem.Env.blockKind
  rw [G.kind]
  rfl
theorem sw_ok (G : Gd X c k cf) {ts vs : List Expr} {kt k2 : Nat} {pt p2 : Pos} :
    (swOf c ts vs = .no → swappedStores [.Tuple ts kt pt] (.Tuple vs k2 p2) X.env = pure none) ∧ ∀ l, swOf c ts vs = .yes l → swappedStores [.Tuple ts kt pt] (.Tuple vs k2 p2) X.env = pure (some l) := by
  have hb := blockKind_ok G
  have key : swappedStores [.Tuple ts kt pt] (.Tuple vs k2 p2) X.env = (if (!(ts.length == 2 || ts.length == 3) || vs.length != ts.length || X.env.blockKind != .function) = true then pure none else if vs.any starred = true then pure none
      else if ((ts.filterMap fun e => match e with
    | .Name id pos => if X.env.kindOf id == some .local && pos.line == (ts.head?.map (·.pos.line)).getD 0 then some id else none
    | _ => none).length != ts.length || (ts.filterMap fun e => match e with
    | .Name id pos => if X.env.kindOf id == some .local && pos.line == (ts.head?.map (·.pos.line)).getD 0 then some id else none
    | _ => none).eraseDups.length != (ts.filterMap fun e => match e with
    | .Name id pos => if X.env.kindOf id == some .local && pos.line == (ts.head?.map (·.pos.line)).getD 0 then some id else none
    | _ => none).length) = true then pure none else if vs.all (foldedForSure 8) = true then pure none else if vs.all (constantsAlone 8) = true then (do unsupported "assign.tuple-of-constant-expressions:order-of-the-stores"; pure (some (ts.filterMap fun e => match e with
    | .Name id pos => if X.env.kindOf id == some .local && pos.line == (ts.head?.map (·.pos.line)).getD 0 then some id else none
    | _ => none))) else pure (some (ts.filterMap fun e => match e with
    | .Name id pos => if X.env.kindOf id == some .local && pos.line == (ts.head?.map (·.pos.line)).getD 0 then some id else none
    | _ => none))) := by rfl
  rw [key, loc_eq G, star_any, hb, Bool.or_false]
  unfold swOf
  refine ⟨fun h => ?_, fun l h => ?_⟩
  · by_cases c1 : (!(ts.length == 2 || ts.length == 3) || vs.length != ts.length) = true
    · rw [if_pos c1]
    rw [if_neg c1] at h ⊢
    by_cases c2 : (!vs.all noStar) = true
    · rw [if_pos c2]
    rw [if_neg c2] at h ⊢
    by_cases c3 : ((locNames c ((ts.head?.map (·.pos.line)).getD 0) ts).length != ts.length || (locNames c ((ts.head?.map (·.pos.line)).getD 0) ts).eraseDups.length != (locNames c ((ts.head?.map (·.pos.line)).getD 0) ts).length) = true
    · rw [if_pos c3]
    rw [if_neg c3] at h ⊢
    by_cases c4 : vs.all (foldedForSure 8) = true
    · rw [if_pos c4]
    rw [if_neg c4] at h
    by_cases c5 : vs.all (constantsAlone 8) = true
    · rw [if_pos c5] at h; cases h
    · rw [if_neg c5] at h; cases h
  · by_cases c1 : (!(ts.length == 2 || ts.length == 3) || vs.length != ts.length) = true
    · rw [if_pos c1] at h; cases h
    rw [if_neg c1] at h ⊢
    by_cases c2 : (!vs.all noStar) = true
    · rw [if_pos c2] at h; cases h
    rw [if_neg c2] at h ⊢
    by_cases c3 : ((locNames c ((ts.head?.map (·.pos.line)).getD 0) ts).length != ts.length || (locNames c ((ts.head?.map (·.pos.line)).getD 0) ts).eraseDups.length != (locNames c ((ts.head?.map (·.pos.line)).getD 0) ts).length) = true
    · rw [if_pos c3] at h; cases h
    rw [if_neg c3] at h ⊢
    by_cases c4 : vs.all (foldedForSure 8) = true
    · rw [if_pos c4] at h; cases h
    rw [if_neg c4] at h ⊢
    by_cases c5 : vs.all (constantsAlone 8) = true
    · rw [if_pos c5] at h; cases h
    · rw [if_neg c5] at h ⊢
      cases h
      rfl
def locF (c : TC) (line : Nat) (e : Expr) : Option Str := match e with
  | .Name x pos => if c.names.lookup x == some .local && pos.line == line then some x else none
  | _ => none
theorem locNames_eq (line : Nat) (ts : List Expr) : locNames c line ts = ts.filterMap (locF c line) := by
  unfold locNames
  congr 1
theorem locF_ok {line : Nat} {e : Expr} {x : Str} (h : locF c line e = some x) : (∃ px, e = .Name x px) ∧ c.names.lookup x = some .local := by
  unfold locF at h
  split at h
  · split at h
    · rename_i hb
      cases h
      rw [Bool.and_eq_true] at hb
      exact ⟨⟨_, rfl⟩, by simpa using hb.1⟩
    · cases h
  · cases h
theorem yes_ok {ts vs : List Expr} {l : List Str} (h : swOf c ts vs = .yes l) : (ts.length = 2 ∨ ts.length = 3) ∧ vs.length = ts.length ∧ ∃ line, l = ts.filterMap (locF c line) ∧ l.length = ts.length ∧ l.eraseDups.length = l.length := by
  unfold swOf at h
  by_cases c1 : (!(ts.length == 2 || ts.length == 3) || vs.length != ts.length) = true
  · rw [if_pos c1] at h; cases h
  rw [if_neg c1] at h
  by_cases c2 : (!vs.all noStar) = true
  · rw [if_pos c2] at h; cases h
  rw [if_neg c2] at h
  by_cases c3 : ((locNames c ((ts.head?.map (·.pos.line)).getD 0) ts).length != ts.length || (locNames c ((ts.head?.map (·.pos.line)).getD 0) ts).eraseDups.length != (locNames c ((ts.head?.map (·.pos.line)).getD 0) ts).length) = true
  · rw [if_pos c3] at h; cases h
  rw [if_neg c3] at h
  by_cases c4 : vs.all (foldedForSure 8) = true
  · rw [if_pos c4] at h; cases h
  rw [if_neg c4] at h
  by_cases c5 : vs.all (constantsAlone 8) = true
  · rw [if_pos c5] at h; cases h
  rw [if_neg c5] at h
  cases h
  simp only [Bool.or_eq_true, not_or, Bool.not_eq_true, Bool.not_eq_false', beq_iff_eq, bne_eq_false_iff_eq, bne_iff_ne, ne_eq, Decidable.not_not] at c1 c3
  refine ⟨?_, ?_, _, locNames_eq _ _, ?_, ?_⟩
  · exact c1.1
  · exact c1.2
  · exact c3.1
  · exact c3.2
theorem fm2 {f : Expr → Option Str} {a b : Expr} (h : ([a, b].filterMap f).length = 2) : ∃ x y, f a = some x ∧ f b = some y ∧ [a, b].filterMap f = [x, y] := by
  cases ea : f a with
  | none =>
    have := List.length_filterMap_le f [b]
    rw [List.filterMap_cons_none ea] at h
    rw [h] at this
    simp at this
  | some x =>
    cases eb : f b with
    | none =>
      rw [List.filterMap_cons_some ea, List.filterMap_cons_none eb] at h
      simp at h
    | some y => exact ⟨x, y, rfl, rfl, by rw [List.filterMap_cons_some ea, List.filterMap_cons_some eb]; rfl⟩
theorem fm3 {f : Expr → Option Str} {a b d : Expr} (h : ([a, b, d].filterMap f).length = 3) : ∃ x y z, f a = some x ∧ f b = some y ∧ f d = some z ∧ [a, b, d].filterMap f = [x, y, z] := by
  cases ea : f a with
  | none =>
    have := List.length_filterMap_le f [b, d]
    rw [List.filterMap_cons_none ea] at h
    rw [h] at this
    simp at this
  | some x =>
    rw [List.filterMap_cons_some ea, List.length_cons] at h
    obtain ⟨y, z, h1, h2, h3⟩ := fm2 (f := f) (a := b) (b := d) (by omega)
    exact ⟨x, y, z, rfl, h1, h2, by rw [List.filterMap_cons_some ea, h3]⟩
theorem dup2 {x y : Str} (h : [x, y].eraseDups.length = [x, y].length) : x ≠ y := by
  intro e
  subst e
  simp [List.eraseDups, List.eraseDupsBy, List.eraseDupsBy.loop] at h
theorem dup3 {x y z : Str} (h : [x, y, z].eraseDups.length = [x, y, z].length) : x ≠ y ∧ x ≠ z ∧ y ≠ z := by
  refine ⟨fun e => ?_, fun e => ?_, fun e => ?_⟩
  · subst e
    cases q : z == x <;> simp [List.eraseDups, List.eraseDupsBy, List.eraseDupsBy.loop, q] at h
  · subst e
    cases q : y == x <;> simp [List.eraseDups, List.eraseDupsBy, List.eraseDupsBy.loop, q] at h
  · subst e
    cases q : y == x <;> simp [List.eraseDups, List.eraseDupsBy, List.eraseDupsBy.loop, q] at h
theorem idx_ne (G : Gd X c k cf) {x y : Str} {i j : Nat} (hx : trOwn c x = some i) (hy : trOwn c y = some j) (h : x ≠ y) : i ≠ j := by
  intro e
  subst e
  have h1 := (own_ok G hx).1
  have h2 := (own_ok G hy).1
  rw [h1] at h2
  exact h (Option.some.inj h2)
theorem trGs_cons {n : Nat} {e : Expr} {r : List Expr} {its : List TG} (h : trGs c n (e :: r) = some its) : ∃ m t ts, trG c m e = some t ∧ trGs c m r = some ts ∧ its = t :: ts := by
  cases n with
  | zero => unfold trGs at h; cases h
  | succ n =>
    unfold trGs at h
    split at h
    · rename_i t ts h1 h2
      cases h
      exact ⟨n, t, ts, h1, h2, rfl⟩
    · cases h
theorem trGs_nil {n : Nat} {its : List TG} (h : trGs c n [] = some its) : its = [] := by
  cases n with
  | zero => unfold trGs at h; cases h
  | succ n => unfold trGs at h; cases h; rfl
theorem trG_name {n : Nat} {x : Str} {p : Pos} {t : TG} (h : trG c n (.Name x p) = some t) : ∃ i, trOwn c x = some i ∧ t = .nm i := by
  cases n with
  | zero => unfold trG at h; cases h
  | succ n =>
    unfold trG at h
    obtain ⟨i, hi, rfl⟩ := Option.map_eq_some_iff.mp (show (trOwn c x).map TG.nm = some t from h)
    exact ⟨i, hi, rfl⟩
theorem s_par (G : Gd X c k cf) {n : Nat} {ts vs : List Expr} {kt k2 : Nat} {pt p2 p : Pos} {its : List TG} {ivs : IEs} (ht : trGs c n ts = some its) (hv : PA X vs (tA (evs cf ivs))) (hl : ts.length ≤ 100) (hw : isBad (swOf c ts vs) = false) :
    PS X (.Assign [.Tuple ts kt pt] (.Tuple vs k2 p2) p) (tS (ex cf (.par its ivs))) := by
  cases e : swOf c ts vs with
  | no => exact s_par0 G ht hv hl ((sw_ok G).1 e)
  | bad => rw [e] at hw; cases hw
  | yes l =>
    have hsw := (sw_ok G (kt := kt) (k2 := k2) (pt := pt) (p2 := p2)).2 l e
    obtain ⟨h1, h2, line, h3, h4, h5⟩ := yes_ok e
    have hN : X.N.Nodup := by rw [G.N]; exact G.nd
    have up : ∀ {x : Str}, c.names.lookup x = some .local → X.env.scope.names.lookup x = some .local := fun h => by rw [G.names]; exact h
    rcases h1 with h1 | h1
    · match ts, h1 with
      | [t1, t2], _ =>
        match vs, h2 with
        | [v1, v2], _ =>
          rw [h3] at h4
          obtain ⟨x, y, e1, e2, e3⟩ := fm2 h4
          rw [e3] at h3
          subst h3
          obtain ⟨⟨px, rfl⟩, lx⟩ := locF_ok e1
          obtain ⟨⟨py, rfl⟩, ly⟩ := locF_ok e2
          obtain ⟨m1, g1, gs1, q1, q2, rfl⟩ := trGs_cons ht
          obtain ⟨m2, g2, gs2, q3, q4, rfl⟩ := trGs_cons q2
          obtain rfl := trGs_nil q4
          obtain ⟨i, hi, rfl⟩ := trG_name q1
          obtain ⟨j, hj, rfl⟩ := trG_name q3
          refine PSi (ps_par G.calm hN (own_ok G hi).1 (own_ok G hj).1 (idx_ne G hi hj (dup2 h5)) (up lx) (up ly) hv hsw rfl) fun D σ H hq => ?_
          obtain ⟨ρ, env, S, o', env', S', s, er, hh, kk⟩ := hq
          simp only [ex] at hh
          split at hh
          · rename_i ds S1 e5
            split at hh
            · rename_i env1 e6
              simp only [Option.some.injEq, Prod.mk.injEq] at hh
              obtain ⟨rfl, rfl, rfl⟩ := hh
              have hlen := asgDs_len e6
              match ds, hlen with
              | [d1, d2], _ =>
                simp only [asgDs, asgD, Option.some.injEq] at e6
                subst e6
                refine ⟨ρ, env, S, _, S1, s, er, e5, fun ρ1 xs H1 f1 s1 rs => ?_⟩
                cases rs with
                | cons r1 rs =>
                  cases rs with
                  | cons r2 rs =>
                    cases rs
                    exact ⟨_, _, rfl, kk ρ1 H1 f1 s1 _ (((er.mono f1).set i r1).set j r2)⟩
            · cases hh
          · cases hh
    · match ts, h1 with
      | [t1, t2, t3], _ =>
        match vs, h2 with
        | [v1, v2, v3], _ =>
          rw [h3] at h4
          obtain ⟨x, y, z, e1, e2, e2b, e3⟩ := fm3 h4
          rw [e3] at h3
          subst h3
          obtain ⟨⟨px, rfl⟩, lx⟩ := locF_ok e1
          obtain ⟨⟨py, rfl⟩, ly⟩ := locF_ok e2
          obtain ⟨⟨pz, rfl⟩, lz⟩ := locF_ok e2b
          obtain ⟨m1, g1, gs1, q1, q2, rfl⟩ := trGs_cons ht
          obtain ⟨m2, g2, gs2, q3, q4, rfl⟩ := trGs_cons q2
          obtain ⟨m3, g3, gs3, q5, q6, rfl⟩ := trGs_cons q4
          obtain rfl := trGs_nil q6
          obtain ⟨i, hi, rfl⟩ := trG_name q1
          obtain ⟨j, hj, rfl⟩ := trG_name q3
          obtain ⟨q, hq', rfl⟩ := trG_name q5
          obtain ⟨n1, n2, n3⟩ := dup3 h5
          refine PSi (ps_par3 G.calm hN (own_ok G hi).1 (own_ok G hj).1 (own_ok G hq').1 (idx_ne G hi hj n1) (idx_ne G hi hq' n2) (idx_ne G hj hq' n3) (up lx) (up ly) (up lz) hv hsw rfl) fun D σ H hq => ?_
          obtain ⟨ρ, env, S, o', env', S', s, er, hh, kk⟩ := hq
          simp only [ex] at hh
          split at hh
          · rename_i ds S1 e5
            split at hh
            · rename_i env1 e6
              simp only [Option.some.injEq, Prod.mk.injEq] at hh
              obtain ⟨rfl, rfl, rfl⟩ := hh
              have hlen := asgDs_len e6
              match ds, hlen with
              | [d1, d2, d3], _ =>
                simp only [asgDs, asgD, Option.some.injEq] at e6
                subst e6
                refine ⟨ρ, env, S, _, S1, s, er, e5, fun ρ1 xs H1 f1 s1 rs => ?_⟩
                cases rs with
                | cons r1 rs =>
                  cases rs with
                  | cons r2 rs =>
                    cases rs with
                    | cons r3 rs =>
                      cases rs
                      exact ⟨_, _, _, rfl, kk ρ1 H1 f1 s1 _ ((((er.mono f1).set i r1).set j r2).set q r3)⟩
            · cases hh
          · cases hh

/-! ### every statement -/
theorem all_s (G : Gd X c k cf) (hp : PassesOwn (model X.prog X.w) X.A X.env X.xe) : ∀ n : Nat, (∀ {st : Stmt} {is : IS}, trS c n st = some is → PS X st (tS (ex cf is))) ∧ ∀ {sts : List Stmt} {iss : ISs}, trSs c n sts = some iss → PSs X sts (tS (exs cf iss))
  | 0 => ⟨fun h => (by unfold trS at h; cases h), fun h => (by unfold trSs at h; cases h)⟩
  | n + 1 => by
    obtain ⟨ih1, ih2⟩ := all_s G hp n
    have E := all_e (k := k) (cf := cf) n
    refine ⟨fun {st is} h => ?_, fun {sts iss} h => ?_⟩
    · unfold trS at h
      split at h
      · -- (a, b) = (x, y)
        split at h
        · rename_i hb
          simp only [Bool.and_eq_true, decide_eq_true_eq, Bool.not_eq_true'] at hb
          split at h
          · rename_i its ivs h1 h2
            cases h
            exact s_par G h1 (E.es G h2).1 hb.1.2 hb.2
          · cases h
        · cases h
      · -- (a, b) = e
        rename_i hnt
        split at h
        · cases h
        · rename_i hc
          split at h
          · rename_i its iv h1 h2
            cases h
            exact s_tup G h1 (E.e G h2) (by simpa using hc) fun a b d e => (hnt a b d e)
          · cases h
      · -- a name
        split at h
        · cases h
        · rename_i hsb
          split at h
          · rename_i i iv h1 h2
            cases h
            exact s_name G h1 (by simpa using hsb) h2
          · cases h
      · cases h
      · -- o[i] = e
        split at h
        · cases h
        · rename_i hc
          split at h
          · rename_i io ii iv h1 h2 h3
            cases h
            exact s_setix G (E.e G h1) (E.e G h2) (E.e G h3) (by simpa using hc) (trE_sl h2)
          · cases h
      · split at h
        · rename_i i o ie h1 h2 h3
          cases h
          exact s_aug G h1 h2 (E.e G h3)
        · cases h
      · cases h
      · split at h
        · rename_i io ii h1 h2
          cases h
          exact s_del G (E.e G h1) (E.e G h2)
        · cases h
      · split at h
        · cases h
        · rename_i hc
          obtain ⟨ie, he, rfl⟩ := Option.map_eq_some_iff.mp h
          exact s_expr (E.e G he) (by simpa using hc)
      · obtain ⟨ie, he, rfl⟩ := Option.map_eq_some_iff.mp h
        exact s_ret (E.e G he)
      · cases h
        exact s_retn
      · split at h
        · rename_i ie ia ib h1 h2 h3
          cases h
          exact s_if (E.e G h1) (ih2 h2) (ih2 h3)
        · cases h
      · split at h
        · rename_i itg iit ib h1 h2 h3
          cases h
          exact s_for G hp (tg_ok G h1) ((E.i G h2).1 _) (E.i G h2).2 (ih2 h3)
        · cases h
      · split at h
        · rename_i ie ib h1 h2
          cases h
          exact s_while hp (E.e G h1) (ih2 h2)
        · cases h
      · cases h
        exact s_brk
      · cases h
        exact s_cnt
      · cases h
        exact s_pas
      · cases h
        exact s_never
      · cases h
    · cases sts with
      | nil =>
        unfold trSs at h
        cases h
        exact ss_nil
      | cons st r =>
        unfold trSs at h
        split at h
        · rename_i is ir h1 h2
          cases h
          exact ss_cons (ih1 h1) (ih2 h2)
        · cases h
end
end PyI
set_option Elab.async false
set_option linter.all false
set_option maxRecDepth 100000
set_option maxHeartbeats 4000000
/-! PyS27: every def does what the interpreter says. -/
namespace PyI
open PySem PySem.Spec PyProof.Rows L2
open C8 (fnBody fnScope fnArgs fn0)

/-- a def of the module: its text, its object, its translation -/
structure DefOk (K : Fr) (mg : Str → Option Value) (gl : List (Str × GV)) (bl : List Str) (d : Def) (st : Stmt) (fn : Fn) (f : Addr) (fd : FuncData) : Prop where
  fun_ : C8.Fun K d.name d.name st f fd
  glob : mg d.name = some (.ref f)
  keep : PySem.W.keepIn K (.ref f) = true
  binds : Binds K fd d.ps []
  scope : FnScope d.N d.ps (fnScope st)
  np : fn.np = d.ps.length
  nn : fn.nn = d.N.length
  body : trSs ⟨d.N, (fnScope st).names, d.N, gl, bl⟩ 60 (fnBody st) = some fn.body
theorem erep_start {ρ : List Addr} {H : Hp} {N : List Str} {vs : List V} {ds : List D} (r : DReps ρ H vs ds) (hl : vs.length ≤ N.length) : ERep ρ H (L2.start N vs) (start N.length ds) := by
  have hlen := Paired.length r
  unfold L2.start start
  refine ⟨?_, fun i d h => ?_⟩
  · rw [List.length_append, List.length_append, List.length_map, List.length_map, List.length_replicate, List.length_replicate, hlen]
  · by_cases hi : i < ds.length
    · rw [List.getElem?_append_left (by simpa using hi), List.getElem?_map] at h
      rw [List.getElem?_append_left (by simpa [hlen] using hi), List.getElem?_map]
      cases hd : ds[i]? with
      | none => rw [hd] at h; cases h
      | some d' =>
        rw [hd] at h
        cases h
        obtain ⟨v, h1, h2⟩ := paired_get r hd
        exact ⟨v, by rw [h1]; rfl, h2⟩
    · rw [List.getElem?_append_right (by simpa using hi)] at h
      rw [List.getElem?_replicate] at h
      split at h <;> cases h
section
variable {P : Program} {w : World} {K : Fr} {mg : Str → Option Value} {base : Heap} {T : List Fn} {gl : List (Str × GV)} {bl : List Str}
theorem len_run {n i : Nat} {ds : List D} {S : Sto} {r : D × Sto} (h : run T n i ds S = some r) : ∃ fn, T[i]? = some fn ∧ ds.length = fn.np := by
  cases n with
  | zero => cases h
  | succ n =>
    simp only [run] at h
    split at h
    · rename_i fn e
      split at h
      · rename_i hl
        exact ⟨fn, e, hl⟩
      · cases h
    · cases h
/-- what the other defs of the module promise, and what its constants are -/
def GlOk (P : Program) (w : World) (K : Fr) (mg : Str → Option Value) (base : Heap) (gl : List (Str × GV)) (k : Nat) (cf : CF) : Prop := ∀ x g, gl.lookup x = some g → match g with
  | .fn i => ∃ (f : Addr) (fd : FuncData) (ps : List Str), mg x = some (.ref f) ∧ PySem.W.keepIn K (.ref f) = true ∧ FnOk P w K mg base C8.CX0 k f fd ps (spF K cf i) ∧ Binds K fd ps []
  | .sc p => ∃ u v, mg x = some u ∧ RelV v u ∧ ∀ H, PRep H v p
  | .tp p => ∃ u v, mg x = some u ∧ RelV v u ∧ WRep K v p
theorem def_step {n i : Nat} {d : Def} {st : Stmt} {fn : Fn} {f : Addr} {fd : FuncData} (hd : DefOk K mg gl bl d st fn f fd) (hT : T[i]? = some fn) (hg : GlOk P w K mg base gl n (run T n)) (hb : ∀ x, bl.contains x = true → mg x = none) :
    FnOk P w K mg base C8.CX0 (n + 1) f fd d.ps (spF K (run T (n + 1)) i) := by
  refine fn0 hd.fun_ hd.scope (fun vs H Q E h => ?_) fun cdv A outer s H vs Q E hr h => ?_
  · obtain ⟨ρ, S, ds, dd, S', s, r, hh, _⟩ := h
    obtain ⟨fn', e1, e2⟩ := len_run hh
    rw [hT] at e1
    cases e1
    rw [Paired.length r, e2, hd.np]
  · obtain ⟨ρ, S, ds, dd, S', s0, r, hh, kk⟩ := h
    have G : Gd (cxOf C8.CX0 P w K mg base d.N d.name (fnScope st) f cdv A outer s H E).nox ⟨d.N, (fnScope st).names, d.N, gl, bl⟩ n (run T n) := {
      calm := rfl
      N := rfl
      nd := hd.scope.nd
      kind := hd.scope.kind
      names := rfl
      own := fun x hx => .inl rfl
      room := hr
      units := by
        have := hr.un
        show (A.deeper _).units + 90 < cLine
        omega
      gl := fun x g hx => by
        have z := hg x g hx
        cases g with
        | fn j => exact z
        | sc p => exact z
        | tp p => exact z
      bl := hb }
    refine ⟨_, (all_s G PassesOwn.never 60).2 hd.body, ?_⟩
    simp only [run] at hh
    rw [hT] at hh
    dsimp only at hh
    have hle : vs.length ≤ d.N.length := by
      have z := congrArg List.length hd.scope.pre
      rw [List.length_take] at z
      split at hh
      · rename_i hl
        rw [Paired.length r, hl, hd.np]
        omega
      · cases hh
    have er : ERep ρ H (L2.start d.N vs) (start fn.nn ds) := by
      rw [hd.nn]
      exact erep_start r hle
    split at hh
    · split at hh
      · rename_i d0 env0 S0 e0
        simp only [Option.some.injEq] at hh
        refine ⟨ρ, _, S, .ret d0, env0, S0, s0, er, e0, fun ρ' H' f' s' v rv => ?_⟩
        unfold leave at hh
        split at hh
        · split at hh
          · rename_i hok
            cases hh
            exact kk ρ v H' f'.leave (s0.leave s' f' hok) rv
          · cases hh
            exact kk ρ' v H' f' s' rv
        · cases hh
          exact kk ρ' v H' f' s' rv
      · rename_i env0 S0 e0
        simp only [Option.some.injEq] at hh
        refine ⟨ρ, _, S, .nx, env0, S0, s0, er, e0, fun ρ' H' f' s' σ' e' => ?_⟩
        unfold leave at hh
        dsimp only at hh
        split at hh
        · rename_i hok
          cases hh
          exact kk ρ .non H' f'.leave (s0.leave s' f' hok) PRep.non
        · cases hh
          exact kk ρ' .non H' f' s' PRep.non
      · cases hh
    · cases hh
/-- the defs of the module, each at its place -/
inductive DefsOk (K : Fr) (mg : Str → Option Value) (gl : List (Str × GV)) (bl : List Str) : List Def → List Fn → List (Addr × FuncData) → Prop
  | nil : DefsOk K mg gl bl [] [] []
  | cons {d st fn f fd ds fns fs} : DefOk K mg gl bl d st fn f fd → DefsOk K mg gl bl ds fns fs → DefsOk K mg gl bl (d :: ds) (fn :: fns) ((f, fd) :: fs)
theorem DefsOk.at : ∀ {ds : List Def} {fns : List Fn} {fs : List (Addr × FuncData)} {i : Nat} {d : Def}, DefsOk K mg gl bl ds fns fs → ds[i]? = some d → ∃ st fn f fd, DefOk K mg gl bl d st fn f fd ∧ fns[i]? = some fn ∧ fs[i]? = some (f, fd)
  | _, _, _, _, _, .nil, h => by simp at h
  | _, _, _, 0, _, .cons h t, e => by
    cases e
    exact ⟨_, _, _, _, h, rfl, rfl⟩
  | _, _, _, i + 1, _, .cons h t, e => DefsOk.at (i := i) t (by simpa using e)
theorem fnsFrom_ok : ∀ {ds : List Def} {j : Nat} {x : Str} {g : GV}, (fnsFrom j ds).lookup x = some g → ∃ i d, g = .fn (j + i) ∧ ds[i]? = some d ∧ d.name = x
  | [], _, _, _, h => by simp [fnsFrom] at h
  | d :: r, j, x, g, h => by
    unfold fnsFrom at h
    rw [List.lookup_cons] at h
    split at h
    · rename_i e
      cases h
      exact ⟨0, d, rfl, rfl, (beq_str e).symm⟩
    · obtain ⟨i, d', e1, e2, e3⟩ := fnsFrom_ok h
      exact ⟨i + 1, d', by rw [e1]; congr 1; omega, e2, e3⟩
/-- every def, at every level -/
theorem all_defs {ds : List Def} {cs : List (Str × GV)} {fs : List (Addr × FuncData)} (hgl : gl = fnsFrom 0 ds ++ cs) (hd : DefsOk K mg gl bl ds T fs)
    (hc : ∀ x g, cs.lookup x = some g → match g with
      | .fn _ => False
      | .sc p => ∃ u v, mg x = some u ∧ RelV v u ∧ ∀ H, PRep H v p
      | .tp p => ∃ u v, mg x = some u ∧ RelV v u ∧ WRep K v p) (hb : ∀ x, bl.contains x = true → mg x = none) :
    ∀ n i f fd, fs[i]? = some (f, fd) → ∃ ps, FnOk P w K mg base C8.CX0 n f fd ps (spF K (run T n) i) ∧ Binds K fd ps [] ∧ ∃ d, ds[i]? = some d ∧ ps = d.ps ∧ mg d.name = some (.ref f) ∧ PySem.W.keepIn K (.ref f) = true := by
  have back : ∀ {ds : List Def} {fns : List Fn} {fs : List (Addr × FuncData)} {i : Nat} {p : Addr × FuncData}, DefsOk K mg gl bl ds fns fs → fs[i]? = some p → ∃ d, ds[i]? = some d := by
    intro ds fns fs i p h
    induction h generalizing i with
    | nil => intro e; simp at e
    | cons h t ih =>
      intro e
      cases i with
      | zero => exact ⟨_, rfl⟩
      | succ i => exact ih (by simpa using e)
  intro n
  induction n with
  | zero =>
    intro i f fd hf
    obtain ⟨d, hdi⟩ := back hd hf
    obtain ⟨st, fn, f', fd', h1, h2, h3⟩ := hd.at hdi
    rw [hf] at h3
    cases h3
    refine ⟨d.ps, ⟨fun vs H Q E h => ?_, fun A outer s H args us vs Q E hr he hbn hv h => ?_⟩, h1.binds, d, hdi, rfl, h1.glob, h1.keep⟩
    · obtain ⟨ρ, S, ds, dd, S', s, r, hh, _⟩ := h
      cases hh
    · obtain ⟨ρ, S, ds, dd, S', s, r, hh, _⟩ := h
      cases hh
  | succ n ih =>
    intro i f fd hf
    obtain ⟨d, hdi⟩ := back hd hf
    obtain ⟨st, fn, f', fd', h1, h2, h3⟩ := hd.at hdi
    rw [hf] at h3
    cases h3
    refine ⟨d.ps, def_step h1 h2 (fun x g hx => ?_) hb, h1.binds, d, hdi, rfl, h1.glob, h1.keep⟩
    rw [hgl] at hx
    cases hl : (fnsFrom 0 ds).lookup x with
    | some g' =>
      have e : (fnsFrom 0 ds ++ cs).lookup x = some g' := by
        rw [List.lookup_append, hl]
        rfl
      rw [e] at hx
      cases hx
      obtain ⟨j, d', rfl, e2, e3⟩ := fnsFrom_ok hl
      rw [Nat.zero_add]
      obtain ⟨st', fn', f2, fd2, k1, k2, k3⟩ := hd.at e2
      obtain ⟨ps, q1, q2, _⟩ := ih j f2 fd2 k3
      refine ⟨f2, fd2, ps, ?_, k1.keep, q1, q2⟩
      rw [← e3]
      exact k1.glob
    | none =>
      have e : (fnsFrom 0 ds ++ cs).lookup x = cs.lookup x := by
        rw [List.lookup_append, hl]
        rfl
      rw [e] at hx
      have z := hc x g hx
      cases g with
      | fn j => exact z.elim
      | sc p => exact z
      | tp p => exact z
end
end PyI
set_option Elab.async false
set_option linter.all false
set_option maxRecDepth 100000
set_option maxHeartbeats 4000000
/-! PyS28: the script, the law's own def. -/
namespace PyI
open PySem PySem.Spec PyProof.Rows L2
open C8 (fnBody fnScope fnArgs)

/-- the module wrote no list of its own -/
def noLists (K : Fr) : Bool := K.all fun p => match p.2.cls with
  | .type n => n != "list"
  | _ => true
theorem noLists_ok {K : Fr} (h : noLists K = true) {a : Addr} {o : Obj} (e : K.lookup a = some o) : o.cls ≠ .type "list" := by
  intro z
  have hm : (a, o) ∈ K := by
    have key : ∀ l : List (Addr × Obj), l.lookup a = some o → (a, o) ∈ l := by
      intro l
      induction l with
      | nil => intro h; cases h
      | cons p r ih =>
        intro h
        obtain ⟨b, x⟩ := p
        rw [List.lookup_cons] at h
        split at h
        · rename_i hb
          have : a = b := by simpa using hb
          cases h
          rw [this]
          exact List.mem_cons_self ..
        · exact List.mem_cons_of_mem _ (ih h)
    exact key K e
  have := (List.all_eq_true.mp h) _ hm
  dsimp only at this
  rw [z] at this
  simp at this
theorem script_frz {K : Fr} {H : Hp} {a : Addr} {xs : List V} (hK : noLists K = true) (hO : Only H) (h : SqL K H a xs) : ∃ o, H a = some (.frz o (.lst xs)) := by
  rcases h with (h | h) | ⟨o, its, n, e, hc, _⟩
  · rcases hO a with q | ⟨o, ys, q⟩
    · rw [h] at q; cases q
    · rw [h] at q; cases q
  · exact h
  · exact absurd hc (noLists_ok hK e)
theorem ints_dreps {ρ : List Addr} {H : Hp} : ∀ ns : List Int, DReps ρ H (ns.map V.int) (ns.map fun i => D.p (.int i))
  | [] => .nil
  | i :: r => .cons (PRep.int i) (ints_dreps r)
/-- the law's promise, from its run -/
theorem law_sp {K : Fr} {H : Hp} {a : Addr} {ns : List Int} {cf : CF} {i : Nat} {S' : Sto} {E : XK} (hK : noLists K = true) (hO : Only H) (h : SqL K H a (ns.map V.int)) (hr : cf i [.ref 0] [.rol (ns.map fun i => .p (.int i))] = some (.p (.bl true), S')) :
    spF K cf i [.ref a] H (fun v _ => v = .bl true) E := by
  obtain ⟨o, ho⟩ := script_frz hK hO h
  refine ⟨[a], [.rol (ns.map fun i => .p (.int i))], [.ref 0], .p (.bl true), S', ⟨rfl, by simp, fun i b ob h1 h2 => ?_⟩, .cons ⟨a, rfl, rfl⟩ .nil, hr, fun ρ' v H' f s r => ?_⟩
  · cases i with
    | succ i => simp at h1
    | zero =>
      cases h1
      cases h2
      exact ⟨o, _, ho, ints_dreps ns⟩
  · cases (show PRep H' v (.bl true) from r)
    rfl
end PyI
set_option Elab.async false
set_option linter.all false
set_option maxRecDepth 100000
set_option maxHeartbeats 4000000
/-! PyE: a law's end, from what the top has written. -/
namespace PyI
open PySem PySem.Spec PyProof.Rows L2
open C8 (fnBody fnScope fnArgs)

/-- what the top has written of a def -/
structure FnFact (K : Fr) (mg : Str → Option Value) (x : Str) (st : Stmt) : Prop where
  ex : ∃ (f : Addr) (oc : Value) (od : Option Addr) (kV doc pm : Value) (an : Option Addr) (cd ct : Value) (sl : Array (Option Value)),
    mg x = some (.ref f) ∧ K.lookup f = some ⟨oc, od, .func (PySem.W.fnOf x x (fnArgs st) (fnBody st) (fnScope st) .none kV doc pm an cd ct), sl⟩ ∧ PySem.W.codeIn K cd x = true ∧ PySem.W.keepIn K (.ref f) = true
theorem fact {K : Fr} {h : Heap} {mg : Str → Option Value} (X : K.In h) (G : h.Ns mainGlobals mg) {x : Str} {st : Stmt} {f : Addr} {oc : Value} {od : Option Addr} {kV doc pm : Value} {an : Option Addr} {cd ct : Value} {sl : Array (Option Value)}
    (a : PySem.W.nsIn K mainGlobals x = some (some (.ref f))) (l : K.lookup f = some ⟨oc, od, .func (PySem.W.fnOf x x (fnArgs st) (fnBody st) (fnScope st) .none kV doc pm an cd ct), sl⟩) (c : PySem.W.codeIn K cd x = true) (k : PySem.W.keepIn K (.ref f) = true) : FnFact K mg x st :=
  ⟨f, oc, od, kV, doc, pm, an, cd, ct, sl, PySem.W.mg_of X G a, l, c, k⟩
abbrev KOfX {K : Fr} {h : Heap} (_ : K.In h) : Fr := K
/-- its parameters are told by place -/
def ByPlace (fd : FuncData) (ps : List Str) : Prop := ∀ us : List Value, us.length = ps.length → bindArgs fd ⟨us, []⟩ = pure (ps.zip us)
def ByPlaceS (x : Str) (st : Stmt) (ps : List Str) : Prop := ∀ (kV doc pm : Value) (an : Option Addr) (cdv ct : Value) (us : List Value), us.length = ps.length → bindArgs (PySem.W.fnOf x x (fnArgs st) (fnBody st) (fnScope st) .none kV doc pm an cdv ct) ⟨us, []⟩ = pure (ps.zip us)
theorem mkDef {K : Fr} {mg : Str → Option Value} {gl : List (Str × GV)} {bl : List Str} {d : Def} {st : Stmt} {fn : Fn} (F : FnFact K mg d.name st) (sc : C8.scC d.N d.ps (fnScope st) = true) (np : fn.np = d.ps.length) (nn : fn.nn = d.N.length)
    (body : trSs ⟨d.N, (fnScope st).names, d.N, gl, bl⟩ 60 (fnBody st) = some fn.body) (bp : ByPlaceS d.name st d.ps) : ∃ f fd, DefOk K mg gl bl d st fn f fd ∧ ByPlace fd d.ps := by
  obtain ⟨f, oc, od, kV, doc, pm, an, cd, ct, sl, h1, h2, h3, h4⟩ := F.ex
  have F' : C8.Fun K d.name d.name st f _ := ⟨⟨oc, od, .none, kV, doc, pm, an, cd, ct, sl, rfl, h2, h3⟩⟩
  exact ⟨f, _, ⟨F', h1, h4, C8.Fun.binds F' rfl (fun a b c d e g us hl => bp a b c d e g us hl), C8.fnScope_by sc, np, nn, body⟩, fun us hl => bp _ _ _ _ _ _ us hl⟩
/-- does a value that the top wrote stand for the data? -/
def wRepB (K : Fr) : Nat → Value → P → Option V
  | _, .none, .non => some .non
  | _, .bool a, .bl b => if a = b then some (.bl b) else none
  | _, .int i _, .int j => if i = j then some (.int j) else none
  | _, .str x _, .str y => if x = y then some (.str y) else none
  | n + 1, .ref a, .tup ps => match K.lookup a with
    | some ⟨.type c, _, .seq its _, _⟩ => if c = "tuple" ∧ its.size ≤ sizeLine ∧ its.size = ps.length then (((its.toList.zip ps).map fun q => wRepB K n q.1 q.2).foldr (fun (x : Option V) (r : Option (List V)) => match x, r with
      | some x, some r => some (x :: r)
      | _, _ => none) (some [])).map fun _ => V.ref a else none
    | _ => none
  | _, _, _ => none
theorem wRepB_ok {K : Fr} : ∀ {n : Nat} {u : Value} {p : P} {v : V}, wRepB K n u p = some v → RelV v u ∧ WRep K v p
  | n, u, p, v, h => by
    induction n generalizing u p v with
    | zero =>
      cases u <;> cases p <;> simp only [wRepB] at h <;> try (cases h; done)
      · cases h; exact ⟨rfl, .non⟩
      all_goals
        split at h
        · rename_i e
          cases h
          subst e
          first
            | exact ⟨rfl, .bl _⟩
            | exact ⟨⟨_, rfl⟩, .int _⟩
            | exact ⟨⟨_, rfl⟩, .str _⟩
        · cases h
    | succ n ih =>
      cases u <;> cases p <;> simp only [wRepB] at h <;> try (cases h; done)
      · cases h; exact ⟨rfl, .non⟩
      case ref.tup a ps =>
        split at h
        · rename_i c od its m sl e
          split at h
          · rename_i hc
            obtain ⟨h1, h2, h3⟩ := hc
            subst h1
            obtain ⟨vs, q1, q2⟩ := Option.map_eq_some_iff.mp h
            subst q2
            have key : ∀ (us : List Value) (ps : List P) (vs : List V), us.length = ps.length → ((us.zip ps).map fun q => wRepB K n q.1 q.2).foldr (fun (x : Option V) (r : Option (List V)) => match x, r with
                | some x, some r => some (x :: r)
                | _, _ => none) (some []) = some vs → Vals vs us ∧ WReps K vs ps := by
              intro us
              induction us with
              | nil =>
                intro ps vs hl hh
                cases ps with
                | nil => cases hh; exact ⟨.nil, .nil⟩
                | cons => cases hl
              | cons u us ih2 =>
                intro ps vs hl hh
                cases ps with
                | nil => cases hl
                | cons p ps =>
                  simp only [List.zip_cons_cons, List.map_cons, List.foldr_cons] at hh
                  split at hh
                  · rename_i x r e1 e2
                    cases hh
                    have z := @ih _ _ _ e1
                    have z2 := ih2 ps r (by simpa using hl) e2
                    exact ⟨.cons z.1 z2.1, .cons z.2 z2.2⟩
                  · cases hh
            have z := key its.toList ps vs (by rw [Array.length_toList]; exact h3) q1
            exact ⟨rfl, .tup (fun H => .inr ⟨_, its, m, e, rfl, rfl, h2, z.1⟩) z.2⟩
          · cases h
        · cases h
      all_goals
        split at h
        · rename_i e
          cases h
          subst e
          first
            | exact ⟨rfl, .bl _⟩
            | exact ⟨⟨_, rfl⟩, .int _⟩
            | exact ⟨⟨_, rfl⟩, .str _⟩
        · cases h
def conB (K : Fr) (cs : List (Str × GV)) : Bool := cs.all fun p => match PySem.W.nsIn K mainGlobals p.1, p.2 with
  | some (some u), .sc q => (isScal q) && (wRepB K 0 u q).isSome
  | some (some u), .tp q => (wRepB K 5 u q).isSome
  | _, _ => false
def noneB (K : Fr) (bl : List Str) : Bool := bl.all fun x => match PySem.W.nsIn K mainGlobals x with
  | some none => true
  | _ => false
theorem con_ok {K : Fr} {h : Heap} {mg : Str → Option Value} (X : K.In h) (G : h.Ns mainGlobals mg) {cs : List (Str × GV)} (c : conB K cs = true) : ∀ x g, cs.lookup x = some g → match g with
      | .fn _ => False
      | .sc p => ∃ u v, mg x = some u ∧ RelV v u ∧ ∀ H, PRep H v p
      | .tp p => ∃ u v, mg x = some u ∧ RelV v u ∧ WRep K v p := by
  intro x g hx
  have hm : (x, g) ∈ cs := by
    clear c
    induction cs with
    | nil => cases hx
    | cons q r ih =>
      obtain ⟨y, z⟩ := q
      rw [List.lookup_cons] at hx
      split at hx
      · rename_i e
        cases hx
        rw [eq_of_beq e]
        exact List.mem_cons_self ..
      · exact List.mem_cons_of_mem _ (ih hx)
  have z := (List.all_eq_true.mp c) _ hm
  dsimp only at z
  split at z
  · rename_i p u e1
    rw [Bool.and_eq_true] at z
    obtain ⟨v, hv⟩ := Option.isSome_iff_exists.mp z.2
    have w := wRepB_ok hv
    refine ⟨_, v, PySem.W.mg_of X G e1, w.1, fun H => ?_⟩
    cases w.2 with
    | non => exact .non
    | bl b => exact .bl b
    | int i => exact .int i
    | str s => exact .str s
    | tup => exact absurd z.1 (by simp [isScal])
  · rename_i p u e1
    obtain ⟨v, hv⟩ := Option.isSome_iff_exists.mp z
    have w := wRepB_ok hv
    exact ⟨_, v, PySem.W.mg_of X G e1, w.1, w.2⟩
  · cases z
theorem none_ok {K : Fr} {h : Heap} {mg : Str → Option Value} (X : K.In h) (G : h.Ns mainGlobals mg) {bl : List Str} (c : noneB K bl = true) : ∀ x, bl.contains x = true → mg x = none := by
  intro x hx
  have hm : x ∈ bl := by simpa using hx
  have z := (List.all_eq_true.mp c) _ hm
  split at z
  · rename_i e
    exact PySem.W.mg_none_of X G e
  · cases z
/-- what the end of a law wants -/
theorem law_F {l : PySem.W.OpenLaw} {w : World} {K : Fr} {h : Heap} {mg : Str → Option Value} {fa : Addr} {T : List Fn} {ds : List Def} {cs : List (Str × GV)} {bl : List Str} {fs : List (Addr × FuncData)} {N i m : Nat} {d : Def} {f : Addr} {fd : FuncData}
    (X : K.In h) (G : h.Ns mainGlobals mg) (hfa : mg "law" = some (.ref fa)) (hd : DefsOk K mg (fnsFrom 0 ds ++ cs) bl ds T fs) (hc : conB K cs = true) (hbl : noneB K bl = true) (nl : noLists K = true)
    (hi : ds[i]? = some d) (hn : d.name = "law") (hp : d.ps = [("script" : Str)]) (hf : fs[i]? = some (f, fd)) (hb : ByPlace fd d.ps)
    (hrun : ∀ ns : List Int, ns.length ≤ m → ∃ S', run T N i [.ref 0] [.rol (ns.map fun i => .p (.int i))] = some (.p (.bl true), S')) :
    ∃ (K : PySem.W.Frag) (fd : FuncData) (sp : Sp), K.In h ∧ (∀ (s : Shared) (u : Value), BindsTo s fd ⟨[u], []⟩ [("script", u)]) ∧
        (∀ (H : Hp) (a : Addr) (ns : List Int), ns.length ≤ m → Only H → SqL K H a (ns.map V.int) → sp [.ref a] H (fun v _ => v = .bl true) fun _ _ _ => False) ∧
        ∀ base : Heap, K.In base → base.Ns mainGlobals mg → FnOk l.prog w K mg base C8.CX0 N fa fd ["script"] sp := by
  refine ⟨K, fd, spF K (run T N) i, X, fun s u => .of_eq ?_, fun H a ns hns hO hS => ?_, fun base _ _ => ?_⟩
  · have z := hb [u] (by rw [hp]; rfl)
    rw [hp] at z
    exact z
  · obtain ⟨S', hS'⟩ := hrun ns hns
    exact law_sp nl hO hS hS'
  · obtain ⟨ps, q1, q2, d', q3, q4, q5, q6⟩ := all_defs (P := l.prog) (w := w) (base := base) rfl hd (con_ok X G hc) (none_ok X G hbl) N i f fd hf
    rw [hi] at q3
    cases q3
    rw [hn, hfa] at q5
    cases q5
    rw [q4, hp] at q1
    exact q1
end PyI
set_option Elab.async false
set_option linter.all false
set_option maxHeartbeats 4000000
set_option maxRecDepth 100000
namespace PyI
open PySem PySem.W PySem.Spec PyProof.Rows L2
open C8 (fnBody fnScope fnArgs)
abbrev stN (i : Nat) : Stmt := PySem.Challenge.pw_stampheld_k86_whole_inks_changed_seen.main.body.getD i (.Pass ⟨0, 0, 0, 0⟩)
def defsL : List Def := [
  ⟨"picture", ["cells"], ["cells"]⟩,
  ⟨"number_bytes", ["number", "found"], ["number"]⟩,
  ⟨"read_number", ["data", "at", "number", "place", "begin"], ["data", "at"]⟩,
  ⟨"signed_bytes", ["number"], ["number"]⟩,
  ⟨"read_signed", ["data", "at", "number"], ["data", "at"]⟩,
  ⟨"sum_after", ["value", "byte", "_"], ["value", "byte"]⟩,
  ⟨"sum_of", ["data", "value", "byte"], ["data"]⟩,
  ⟨"sum_bytes", ["data", "value"], ["data"]⟩,
  ⟨"is_bytes", ["value", "byte"], ["value"]⟩,
  ⟨"rows_of", ["picture", "found", "ink", "x", "y"], ["picture"]⟩,
  ⟨"rows_print", ["rows", "y", "cells", "x", "ink"], ["rows"]⟩,
  ⟨"row_diff", ["one", "other", "first", "second", "x"], ["one", "other"]⟩,
  ⟨"row_after", ["row", "diff", "found", "x", "ink"], ["row", "diff"]⟩,
  ⟨"cells_bytes", ["cells", "found", "before", "x", "ink"], ["cells"]⟩,
  ⟨"read_cells", ["data", "at", "least", "many", "found", "before", "_", "way"], ["data", "at", "least"]⟩,
  ⟨"row_bytes", ["before", "row", "alone", "shared"], ["before", "row"]⟩,
  ⟨"packed_page", ["picture", "rows", "found", "last", "cells", "y", "row"], ["picture"]⟩,
  ⟨"read_packed", ["data", "many", "at", "rows", "last", "cells", "_", "way", "kind", "change", "picture"], ["data"]⟩,
  ⟨"row_sums", ["picture", "y", "row"], ["picture"]⟩,
  ⟨"pair_sum", ["one", "other"], ["one", "other"]⟩,
  ⟨"levels_of", ["sums", "levels", "last", "place"], ["sums"]⟩,
  ⟨"page_check", ["picture", "sums", "y", "check"], ["picture"]⟩,
  ⟨"row_proof", ["picture", "index", "levels", "found", "level", "other", "y", "check"], ["picture", "index"]⟩,
  ⟨"row_ok", ["check", "y", "row", "proof", "now", "side", "other"], ["check", "y", "row", "proof"]⟩,
  ⟨"ink_counts", ["picture", "inks", "cell", "ink", "own"], ["picture"]⟩,
  ⟨"patch_of", ["one", "other", "first", "second", "cells", "cell"], ["one", "other"]⟩,
  ⟨"patched", ["one", "patch", "found", "cell", "before", "behind"], ["one", "patch"]⟩,
  ⟨"patch_back", ["patch", "cell", "before", "behind"], ["patch"]⟩,
  ⟨"patch_both", ["first", "second", "one", "two", "found", "cell", "row"], ["first", "second"]⟩,
  ⟨"patch_bytes", ["patch", "found", "before", "behind", "x", "y"], ["patch"]⟩,
  ⟨"read_patch", ["data", "many", "at", "found", "_", "x", "y", "patch", "rising", "good", "place", "row"], ["data"]⟩,
  ⟨"_law_mixed", ["script", "k", "cell", "first", "second", "third"], ["script", "k"]⟩,
  ⟨"_law_row", ["script", "many", "big", "row", "k"], ["script", "many"]⟩,
  ⟨"_law_is_int", ["value"], ["value"]⟩,
  ⟨"_law_like", ["value", "due", "k"], ["value", "due"]⟩,
  ⟨"_law_pick", ["draw", "n", "row", "at"], ["draw", "n"]⟩,
  ⟨"_law_rows", ["draw", "rows", "y", "k", "cells", "x", "j"], ["draw"]⟩,
  ⟨"_law_print", ["rows", "found", "y", "cells", "cell"], ["rows"]⟩,
  ⟨"_law_counts", ["picture_v", "inks", "own", "ink"], ["picture_v"]⟩,
  ⟨"_law_is_check", ["value"], ["value"]⟩,
  ⟨"_law_proof_right", ["value", "due", "step"], ["value", "due"]⟩,
  ⟨"_law_height", ["many", "index", "found", "lap"], ["many", "index"]⟩,
  ⟨"_law_other_row", ["one", "other", "checks", "row", "index", "many", "first", "second", "due", "told", "step", "k"], ["one", "other", "checks", "row", "index", "many"]⟩,
  ⟨"_law_own_row", ["one", "other", "checks", "before", "behind", "index", "many", "proof", "told"], ["one", "other", "checks", "before", "behind", "index", "many"]⟩,
  ⟨"_law_deed_right", ["rows", "later", "index", "one", "other", "many", "checks", "sums", "others", "k", "page"], ["rows", "later", "index"]⟩,
  ⟨"law", ["script", "draw", "rows", "begin", "now", "total", "spot", "turn", "index", "place", "more", "y", "cells", "x", "ink", "new", "later", "picture_v", "patch", "last", "due", "back", "k"], ["script"]⟩
]
def conL : List (Str × GV) := [
  ("INKS", .sc (.int (4))),
  ("SEVEN", .sc (.int (128))),
  ("SUM_BEGIN", .sc (.int (65535))),
  ("SUM_PUT", .sc (.int (40961))),
  ("HEAD", .tp (.tup [(.int (80)), (.int (75))])),
  ("MOST_ROWS", .sc (.int (4096)))
]
def blL : List Str := ["len", "tuple", "list", "sorted", "set", "all", "any", "sum", "min", "max", "int", "bool", "str", "abs", "dict", "isinstance", "range", "zip", "enumerate"]
def glL : List (Str × GV) := fnsFrom 0 defsL ++ conL

section
variable {K : Fr} {mg : Str → Option Value}
theorem d_picture (F : FnFact K mg "picture" (stN 5)) : ∃ f fd, DefOk K mg glL blL ⟨"picture", ["cells"], ["cells"]⟩ (stN 5) f_picture f fd ∧ ByPlace fd [("cells" : Str)] :=
  mkDef (d := ⟨"picture", ["cells"], ["cells"]⟩) F (by decide +kernel) rfl rfl (by kernel_rfl) fun _ _ _ _ _ _ us hl => match us, hl with | [_], _ => rfl
theorem d_number_bytes (F : FnFact K mg "number_bytes" (stN 10)) : ∃ f fd, DefOk K mg glL blL ⟨"number_bytes", ["number", "found"], ["number"]⟩ (stN 10) f_number_bytes f fd ∧ ByPlace fd [("number" : Str)] :=
  mkDef (d := ⟨"number_bytes", ["number", "found"], ["number"]⟩) F (by decide +kernel) rfl rfl (by kernel_rfl) fun _ _ _ _ _ _ us hl => match us, hl with | [_], _ => rfl
theorem d_read_number (F : FnFact K mg "read_number" (stN 11)) : ∃ f fd, DefOk K mg glL blL ⟨"read_number", ["data", "at", "number", "place", "begin"], ["data", "at"]⟩ (stN 11) f_read_number f fd ∧ ByPlace fd [("data" : Str), ("at" : Str)] :=
  mkDef (d := ⟨"read_number", ["data", "at", "number", "place", "begin"], ["data", "at"]⟩) F (by decide +kernel) rfl rfl (by kernel_rfl) fun _ _ _ _ _ _ us hl => match us, hl with | [_, _], _ => rfl
theorem d_signed_bytes (F : FnFact K mg "signed_bytes" (stN 12)) : ∃ f fd, DefOk K mg glL blL ⟨"signed_bytes", ["number"], ["number"]⟩ (stN 12) f_signed_bytes f fd ∧ ByPlace fd [("number" : Str)] :=
  mkDef (d := ⟨"signed_bytes", ["number"], ["number"]⟩) F (by decide +kernel) rfl rfl (by kernel_rfl) fun _ _ _ _ _ _ us hl => match us, hl with | [_], _ => rfl
theorem d_read_signed (F : FnFact K mg "read_signed" (stN 13)) : ∃ f fd, DefOk K mg glL blL ⟨"read_signed", ["data", "at", "number"], ["data", "at"]⟩ (stN 13) f_read_signed f fd ∧ ByPlace fd [("data" : Str), ("at" : Str)] :=
  mkDef (d := ⟨"read_signed", ["data", "at", "number"], ["data", "at"]⟩) F (by decide +kernel) rfl rfl (by kernel_rfl) fun _ _ _ _ _ _ us hl => match us, hl with | [_, _], _ => rfl
theorem d_sum_after (F : FnFact K mg "sum_after" (stN 14)) : ∃ f fd, DefOk K mg glL blL ⟨"sum_after", ["value", "byte", "_"], ["value", "byte"]⟩ (stN 14) f_sum_after f fd ∧ ByPlace fd [("value" : Str), ("byte" : Str)] :=
  mkDef (d := ⟨"sum_after", ["value", "byte", "_"], ["value", "byte"]⟩) F (by decide +kernel) rfl rfl (by kernel_rfl) fun _ _ _ _ _ _ us hl => match us, hl with | [_, _], _ => rfl
theorem d_sum_of (F : FnFact K mg "sum_of" (stN 15)) : ∃ f fd, DefOk K mg glL blL ⟨"sum_of", ["data", "value", "byte"], ["data"]⟩ (stN 15) f_sum_of f fd ∧ ByPlace fd [("data" : Str)] :=
  mkDef (d := ⟨"sum_of", ["data", "value", "byte"], ["data"]⟩) F (by decide +kernel) rfl rfl (by kernel_rfl) fun _ _ _ _ _ _ us hl => match us, hl with | [_], _ => rfl
theorem d_sum_bytes (F : FnFact K mg "sum_bytes" (stN 16)) : ∃ f fd, DefOk K mg glL blL ⟨"sum_bytes", ["data", "value"], ["data"]⟩ (stN 16) f_sum_bytes f fd ∧ ByPlace fd [("data" : Str)] :=
  mkDef (d := ⟨"sum_bytes", ["data", "value"], ["data"]⟩) F (by decide +kernel) rfl rfl (by kernel_rfl) fun _ _ _ _ _ _ us hl => match us, hl with | [_], _ => rfl
theorem d_is_bytes (F : FnFact K mg "is_bytes" (stN 17)) : ∃ f fd, DefOk K mg glL blL ⟨"is_bytes", ["value", "byte"], ["value"]⟩ (stN 17) f_is_bytes f fd ∧ ByPlace fd [("value" : Str)] :=
  mkDef (d := ⟨"is_bytes", ["value", "byte"], ["value"]⟩) F (by decide +kernel) rfl rfl (by kernel_rfl) fun _ _ _ _ _ _ us hl => match us, hl with | [_], _ => rfl
theorem d_rows_of (F : FnFact K mg "rows_of" (stN 21)) : ∃ f fd, DefOk K mg glL blL ⟨"rows_of", ["picture", "found", "ink", "x", "y"], ["picture"]⟩ (stN 21) f_rows_of f fd ∧ ByPlace fd [("picture" : Str)] :=
  mkDef (d := ⟨"rows_of", ["picture", "found", "ink", "x", "y"], ["picture"]⟩) F (by decide +kernel) rfl rfl (by kernel_rfl) fun _ _ _ _ _ _ us hl => match us, hl with | [_], _ => rfl
theorem d_rows_print (F : FnFact K mg "rows_print" (stN 22)) : ∃ f fd, DefOk K mg glL blL ⟨"rows_print", ["rows", "y", "cells", "x", "ink"], ["rows"]⟩ (stN 22) f_rows_print f fd ∧ ByPlace fd [("rows" : Str)] :=
  mkDef (d := ⟨"rows_print", ["rows", "y", "cells", "x", "ink"], ["rows"]⟩) F (by decide +kernel) rfl rfl (by kernel_rfl) fun _ _ _ _ _ _ us hl => match us, hl with | [_], _ => rfl
theorem d_row_diff (F : FnFact K mg "row_diff" (stN 23)) : ∃ f fd, DefOk K mg glL blL ⟨"row_diff", ["one", "other", "first", "second", "x"], ["one", "other"]⟩ (stN 23) f_row_diff f fd ∧ ByPlace fd [("one" : Str), ("other" : Str)] :=
  mkDef (d := ⟨"row_diff", ["one", "other", "first", "second", "x"], ["one", "other"]⟩) F (by decide +kernel) rfl rfl (by kernel_rfl) fun _ _ _ _ _ _ us hl => match us, hl with | [_, _], _ => rfl
theorem d_row_after (F : FnFact K mg "row_after" (stN 24)) : ∃ f fd, DefOk K mg glL blL ⟨"row_after", ["row", "diff", "found", "x", "ink"], ["row", "diff"]⟩ (stN 24) f_row_after f fd ∧ ByPlace fd [("row" : Str), ("diff" : Str)] :=
  mkDef (d := ⟨"row_after", ["row", "diff", "found", "x", "ink"], ["row", "diff"]⟩) F (by decide +kernel) rfl rfl (by kernel_rfl) fun _ _ _ _ _ _ us hl => match us, hl with | [_, _], _ => rfl
theorem d_cells_bytes (F : FnFact K mg "cells_bytes" (stN 25)) : ∃ f fd, DefOk K mg glL blL ⟨"cells_bytes", ["cells", "found", "before", "x", "ink"], ["cells"]⟩ (stN 25) f_cells_bytes f fd ∧ ByPlace fd [("cells" : Str)] :=
  mkDef (d := ⟨"cells_bytes", ["cells", "found", "before", "x", "ink"], ["cells"]⟩) F (by decide +kernel) rfl rfl (by kernel_rfl) fun _ _ _ _ _ _ us hl => match us, hl with | [_], _ => rfl
theorem d_read_cells (F : FnFact K mg "read_cells" (stN 26)) : ∃ f fd, DefOk K mg glL blL ⟨"read_cells", ["data", "at", "least", "many", "found", "before", "_", "way"], ["data", "at", "least"]⟩ (stN 26) f_read_cells f fd ∧ ByPlace fd [("data" : Str), ("at" : Str), ("least" : Str)] :=
  mkDef (d := ⟨"read_cells", ["data", "at", "least", "many", "found", "before", "_", "way"], ["data", "at", "least"]⟩) F (by decide +kernel) rfl rfl (by kernel_rfl) fun _ _ _ _ _ _ us hl => match us, hl with | [_, _, _], _ => rfl
theorem d_row_bytes (F : FnFact K mg "row_bytes" (stN 27)) : ∃ f fd, DefOk K mg glL blL ⟨"row_bytes", ["before", "row", "alone", "shared"], ["before", "row"]⟩ (stN 27) f_row_bytes f fd ∧ ByPlace fd [("before" : Str), ("row" : Str)] :=
  mkDef (d := ⟨"row_bytes", ["before", "row", "alone", "shared"], ["before", "row"]⟩) F (by decide +kernel) rfl rfl (by kernel_rfl) fun _ _ _ _ _ _ us hl => match us, hl with | [_, _], _ => rfl
theorem d_packed_page (F : FnFact K mg "packed_page" (stN 28)) : ∃ f fd, DefOk K mg glL blL ⟨"packed_page", ["picture", "rows", "found", "last", "cells", "y", "row"], ["picture"]⟩ (stN 28) f_packed_page f fd ∧ ByPlace fd [("picture" : Str)] :=
  mkDef (d := ⟨"packed_page", ["picture", "rows", "found", "last", "cells", "y", "row"], ["picture"]⟩) F (by decide +kernel) rfl rfl (by kernel_rfl) fun _ _ _ _ _ _ us hl => match us, hl with | [_], _ => rfl
theorem d_read_packed (F : FnFact K mg "read_packed" (stN 29)) : ∃ f fd, DefOk K mg glL blL ⟨"read_packed", ["data", "many", "at", "rows", "last", "cells", "_", "way", "kind", "change", "picture"], ["data"]⟩ (stN 29) f_read_packed f fd ∧ ByPlace fd [("data" : Str)] :=
  mkDef (d := ⟨"read_packed", ["data", "many", "at", "rows", "last", "cells", "_", "way", "kind", "change", "picture"], ["data"]⟩) F (by decide +kernel) rfl rfl (by kernel_rfl) fun _ _ _ _ _ _ us hl => match us, hl with | [_], _ => rfl
theorem d_row_sums (F : FnFact K mg "row_sums" (stN 30)) : ∃ f fd, DefOk K mg glL blL ⟨"row_sums", ["picture", "y", "row"], ["picture"]⟩ (stN 30) f_row_sums f fd ∧ ByPlace fd [("picture" : Str)] :=
  mkDef (d := ⟨"row_sums", ["picture", "y", "row"], ["picture"]⟩) F (by decide +kernel) rfl rfl (by kernel_rfl) fun _ _ _ _ _ _ us hl => match us, hl with | [_], _ => rfl
theorem d_pair_sum (F : FnFact K mg "pair_sum" (stN 31)) : ∃ f fd, DefOk K mg glL blL ⟨"pair_sum", ["one", "other"], ["one", "other"]⟩ (stN 31) f_pair_sum f fd ∧ ByPlace fd [("one" : Str), ("other" : Str)] :=
  mkDef (d := ⟨"pair_sum", ["one", "other"], ["one", "other"]⟩) F (by decide +kernel) rfl rfl (by kernel_rfl) fun _ _ _ _ _ _ us hl => match us, hl with | [_, _], _ => rfl
theorem d_levels_of (F : FnFact K mg "levels_of" (stN 32)) : ∃ f fd, DefOk K mg glL blL ⟨"levels_of", ["sums", "levels", "last", "place"], ["sums"]⟩ (stN 32) f_levels_of f fd ∧ ByPlace fd [("sums" : Str)] :=
  mkDef (d := ⟨"levels_of", ["sums", "levels", "last", "place"], ["sums"]⟩) F (by decide +kernel) rfl rfl (by kernel_rfl) fun _ _ _ _ _ _ us hl => match us, hl with | [_], _ => rfl
theorem d_page_check (F : FnFact K mg "page_check" (stN 33)) : ∃ f fd, DefOk K mg glL blL ⟨"page_check", ["picture", "sums", "y", "check"], ["picture"]⟩ (stN 33) f_page_check f fd ∧ ByPlace fd [("picture" : Str)] :=
  mkDef (d := ⟨"page_check", ["picture", "sums", "y", "check"], ["picture"]⟩) F (by decide +kernel) rfl rfl (by kernel_rfl) fun _ _ _ _ _ _ us hl => match us, hl with | [_], _ => rfl
theorem d_row_proof (F : FnFact K mg "row_proof" (stN 34)) : ∃ f fd, DefOk K mg glL blL ⟨"row_proof", ["picture", "index", "levels", "found", "level", "other", "y", "check"], ["picture", "index"]⟩ (stN 34) f_row_proof f fd ∧ ByPlace fd [("picture" : Str), ("index" : Str)] :=
  mkDef (d := ⟨"row_proof", ["picture", "index", "levels", "found", "level", "other", "y", "check"], ["picture", "index"]⟩) F (by decide +kernel) rfl rfl (by kernel_rfl) fun _ _ _ _ _ _ us hl => match us, hl with | [_, _], _ => rfl
theorem d_row_ok (F : FnFact K mg "row_ok" (stN 35)) : ∃ f fd, DefOk K mg glL blL ⟨"row_ok", ["check", "y", "row", "proof", "now", "side", "other"], ["check", "y", "row", "proof"]⟩ (stN 35) f_row_ok f fd ∧ ByPlace fd [("check" : Str), ("y" : Str), ("row" : Str), ("proof" : Str)] :=
  mkDef (d := ⟨"row_ok", ["check", "y", "row", "proof", "now", "side", "other"], ["check", "y", "row", "proof"]⟩) F (by decide +kernel) rfl rfl (by kernel_rfl) fun _ _ _ _ _ _ us hl => match us, hl with | [_, _, _, _], _ => rfl
theorem d_ink_counts (F : FnFact K mg "ink_counts" (stN 37)) : ∃ f fd, DefOk K mg glL blL ⟨"ink_counts", ["picture", "inks", "cell", "ink", "own"], ["picture"]⟩ (stN 37) f_ink_counts f fd ∧ ByPlace fd [("picture" : Str)] :=
  mkDef (d := ⟨"ink_counts", ["picture", "inks", "cell", "ink", "own"], ["picture"]⟩) F (by decide +kernel) rfl rfl (by kernel_rfl) fun _ _ _ _ _ _ us hl => match us, hl with | [_], _ => rfl
theorem d_patch_of (F : FnFact K mg "patch_of" (stN 39)) : ∃ f fd, DefOk K mg glL blL ⟨"patch_of", ["one", "other", "first", "second", "cells", "cell"], ["one", "other"]⟩ (stN 39) f_patch_of f fd ∧ ByPlace fd [("one" : Str), ("other" : Str)] :=
  mkDef (d := ⟨"patch_of", ["one", "other", "first", "second", "cells", "cell"], ["one", "other"]⟩) F (by decide +kernel) rfl rfl (by kernel_rfl) fun _ _ _ _ _ _ us hl => match us, hl with | [_, _], _ => rfl
theorem d_patched (F : FnFact K mg "patched" (stN 40)) : ∃ f fd, DefOk K mg glL blL ⟨"patched", ["one", "patch", "found", "cell", "before", "behind"], ["one", "patch"]⟩ (stN 40) f_patched f fd ∧ ByPlace fd [("one" : Str), ("patch" : Str)] :=
  mkDef (d := ⟨"patched", ["one", "patch", "found", "cell", "before", "behind"], ["one", "patch"]⟩) F (by decide +kernel) rfl rfl (by kernel_rfl) fun _ _ _ _ _ _ us hl => match us, hl with | [_, _], _ => rfl
theorem d_patch_back (F : FnFact K mg "patch_back" (stN 41)) : ∃ f fd, DefOk K mg glL blL ⟨"patch_back", ["patch", "cell", "before", "behind"], ["patch"]⟩ (stN 41) f_patch_back f fd ∧ ByPlace fd [("patch" : Str)] :=
  mkDef (d := ⟨"patch_back", ["patch", "cell", "before", "behind"], ["patch"]⟩) F (by decide +kernel) rfl rfl (by kernel_rfl) fun _ _ _ _ _ _ us hl => match us, hl with | [_], _ => rfl
theorem d_patch_both (F : FnFact K mg "patch_both" (stN 42)) : ∃ f fd, DefOk K mg glL blL ⟨"patch_both", ["first", "second", "one", "two", "found", "cell", "row"], ["first", "second"]⟩ (stN 42) f_patch_both f fd ∧ ByPlace fd [("first" : Str), ("second" : Str)] :=
  mkDef (d := ⟨"patch_both", ["first", "second", "one", "two", "found", "cell", "row"], ["first", "second"]⟩) F (by decide +kernel) rfl rfl (by kernel_rfl) fun _ _ _ _ _ _ us hl => match us, hl with | [_, _], _ => rfl
theorem d_patch_bytes (F : FnFact K mg "patch_bytes" (stN 43)) : ∃ f fd, DefOk K mg glL blL ⟨"patch_bytes", ["patch", "found", "before", "behind", "x", "y"], ["patch"]⟩ (stN 43) f_patch_bytes f fd ∧ ByPlace fd [("patch" : Str)] :=
  mkDef (d := ⟨"patch_bytes", ["patch", "found", "before", "behind", "x", "y"], ["patch"]⟩) F (by decide +kernel) rfl rfl (by kernel_rfl) fun _ _ _ _ _ _ us hl => match us, hl with | [_], _ => rfl
theorem d_read_patch (F : FnFact K mg "read_patch" (stN 44)) : ∃ f fd, DefOk K mg glL blL ⟨"read_patch", ["data", "many", "at", "found", "_", "x", "y", "patch", "rising", "good", "place", "row"], ["data"]⟩ (stN 44) f_read_patch f fd ∧ ByPlace fd [("data" : Str)] :=
  mkDef (d := ⟨"read_patch", ["data", "many", "at", "found", "_", "x", "y", "patch", "rising", "good", "place", "row"], ["data"]⟩) F (by decide +kernel) rfl rfl (by kernel_rfl) fun _ _ _ _ _ _ us hl => match us, hl with | [_], _ => rfl
theorem d_law_mixed (F : FnFact K mg "_law_mixed" (stN 46)) : ∃ f fd, DefOk K mg glL blL ⟨"_law_mixed", ["script", "k", "cell", "first", "second", "third"], ["script", "k"]⟩ (stN 46) f_law_mixed f fd ∧ ByPlace fd [("script" : Str), ("k" : Str)] :=
  mkDef (d := ⟨"_law_mixed", ["script", "k", "cell", "first", "second", "third"], ["script", "k"]⟩) F (by decide +kernel) rfl rfl (by kernel_rfl) fun _ _ _ _ _ _ us hl => match us, hl with | [_, _], _ => rfl
theorem d_law_row (F : FnFact K mg "_law_row" (stN 47)) : ∃ f fd, DefOk K mg glL blL ⟨"_law_row", ["script", "many", "big", "row", "k"], ["script", "many"]⟩ (stN 47) f_law_row f fd ∧ ByPlace fd [("script" : Str), ("many" : Str)] :=
  mkDef (d := ⟨"_law_row", ["script", "many", "big", "row", "k"], ["script", "many"]⟩) F (by decide +kernel) rfl rfl (by kernel_rfl) fun _ _ _ _ _ _ us hl => match us, hl with | [_, _], _ => rfl
theorem d_law_is_int (F : FnFact K mg "_law_is_int" (stN 48)) : ∃ f fd, DefOk K mg glL blL ⟨"_law_is_int", ["value"], ["value"]⟩ (stN 48) f_law_is_int f fd ∧ ByPlace fd [("value" : Str)] :=
  mkDef (d := ⟨"_law_is_int", ["value"], ["value"]⟩) F (by decide +kernel) rfl rfl (by kernel_rfl) fun _ _ _ _ _ _ us hl => match us, hl with | [_], _ => rfl
theorem d_law_like (F : FnFact K mg "_law_like" (stN 49)) : ∃ f fd, DefOk K mg glL blL ⟨"_law_like", ["value", "due", "k"], ["value", "due"]⟩ (stN 49) f_law_like f fd ∧ ByPlace fd [("value" : Str), ("due" : Str)] :=
  mkDef (d := ⟨"_law_like", ["value", "due", "k"], ["value", "due"]⟩) F (by decide +kernel) rfl rfl (by kernel_rfl) fun _ _ _ _ _ _ us hl => match us, hl with | [_, _], _ => rfl
theorem d_law_pick (F : FnFact K mg "_law_pick" (stN 50)) : ∃ f fd, DefOk K mg glL blL ⟨"_law_pick", ["draw", "n", "row", "at"], ["draw", "n"]⟩ (stN 50) f_law_pick f fd ∧ ByPlace fd [("draw" : Str), ("n" : Str)] :=
  mkDef (d := ⟨"_law_pick", ["draw", "n", "row", "at"], ["draw", "n"]⟩) F (by decide +kernel) rfl rfl (by kernel_rfl) fun _ _ _ _ _ _ us hl => match us, hl with | [_, _], _ => rfl
theorem d_law_rows (F : FnFact K mg "_law_rows" (stN 51)) : ∃ f fd, DefOk K mg glL blL ⟨"_law_rows", ["draw", "rows", "y", "k", "cells", "x", "j"], ["draw"]⟩ (stN 51) f_law_rows f fd ∧ ByPlace fd [("draw" : Str)] :=
  mkDef (d := ⟨"_law_rows", ["draw", "rows", "y", "k", "cells", "x", "j"], ["draw"]⟩) F (by decide +kernel) rfl rfl (by kernel_rfl) fun _ _ _ _ _ _ us hl => match us, hl with | [_], _ => rfl
theorem d_law_print (F : FnFact K mg "_law_print" (stN 52)) : ∃ f fd, DefOk K mg glL blL ⟨"_law_print", ["rows", "found", "y", "cells", "cell"], ["rows"]⟩ (stN 52) f_law_print f fd ∧ ByPlace fd [("rows" : Str)] :=
  mkDef (d := ⟨"_law_print", ["rows", "found", "y", "cells", "cell"], ["rows"]⟩) F (by decide +kernel) rfl rfl (by kernel_rfl) fun _ _ _ _ _ _ us hl => match us, hl with | [_], _ => rfl
theorem d_law_counts (F : FnFact K mg "_law_counts" (stN 53)) : ∃ f fd, DefOk K mg glL blL ⟨"_law_counts", ["picture_v", "inks", "own", "ink"], ["picture_v"]⟩ (stN 53) f_law_counts f fd ∧ ByPlace fd [("picture_v" : Str)] :=
  mkDef (d := ⟨"_law_counts", ["picture_v", "inks", "own", "ink"], ["picture_v"]⟩) F (by decide +kernel) rfl rfl (by kernel_rfl) fun _ _ _ _ _ _ us hl => match us, hl with | [_], _ => rfl
theorem d_law_is_check (F : FnFact K mg "_law_is_check" (stN 54)) : ∃ f fd, DefOk K mg glL blL ⟨"_law_is_check", ["value"], ["value"]⟩ (stN 54) f_law_is_check f fd ∧ ByPlace fd [("value" : Str)] :=
  mkDef (d := ⟨"_law_is_check", ["value"], ["value"]⟩) F (by decide +kernel) rfl rfl (by kernel_rfl) fun _ _ _ _ _ _ us hl => match us, hl with | [_], _ => rfl
theorem d_law_proof_right (F : FnFact K mg "_law_proof_right" (stN 55)) : ∃ f fd, DefOk K mg glL blL ⟨"_law_proof_right", ["value", "due", "step"], ["value", "due"]⟩ (stN 55) f_law_proof_right f fd ∧ ByPlace fd [("value" : Str), ("due" : Str)] :=
  mkDef (d := ⟨"_law_proof_right", ["value", "due", "step"], ["value", "due"]⟩) F (by decide +kernel) rfl rfl (by kernel_rfl) fun _ _ _ _ _ _ us hl => match us, hl with | [_, _], _ => rfl
theorem d_law_height (F : FnFact K mg "_law_height" (stN 56)) : ∃ f fd, DefOk K mg glL blL ⟨"_law_height", ["many", "index", "found", "lap"], ["many", "index"]⟩ (stN 56) f_law_height f fd ∧ ByPlace fd [("many" : Str), ("index" : Str)] :=
  mkDef (d := ⟨"_law_height", ["many", "index", "found", "lap"], ["many", "index"]⟩) F (by decide +kernel) rfl rfl (by kernel_rfl) fun _ _ _ _ _ _ us hl => match us, hl with | [_, _], _ => rfl
theorem d_law_other_row (F : FnFact K mg "_law_other_row" (stN 57)) : ∃ f fd, DefOk K mg glL blL ⟨"_law_other_row", ["one", "other", "checks", "row", "index", "many", "first", "second", "due", "told", "step", "k"], ["one", "other", "checks", "row", "index", "many"]⟩ (stN 57) f_law_other_row f fd ∧ ByPlace fd [("one" : Str), ("other" : Str), ("checks" : Str), ("row" : Str), ("index" : Str), ("many" : Str)] :=
  mkDef (d := ⟨"_law_other_row", ["one", "other", "checks", "row", "index", "many", "first", "second", "due", "told", "step", "k"], ["one", "other", "checks", "row", "index", "many"]⟩) F (by decide +kernel) rfl rfl (by kernel_rfl) fun _ _ _ _ _ _ us hl => match us, hl with | [_, _, _, _, _, _], _ => rfl
theorem d_law_own_row (F : FnFact K mg "_law_own_row" (stN 58)) : ∃ f fd, DefOk K mg glL blL ⟨"_law_own_row", ["one", "other", "checks", "before", "behind", "index", "many", "proof", "told"], ["one", "other", "checks", "before", "behind", "index", "many"]⟩ (stN 58) f_law_own_row f fd ∧ ByPlace fd [("one" : Str), ("other" : Str), ("checks" : Str), ("before" : Str), ("behind" : Str), ("index" : Str), ("many" : Str)] :=
  mkDef (d := ⟨"_law_own_row", ["one", "other", "checks", "before", "behind", "index", "many", "proof", "told"], ["one", "other", "checks", "before", "behind", "index", "many"]⟩) F (by decide +kernel) rfl rfl (by kernel_rfl) fun _ _ _ _ _ _ us hl => match us, hl with | [_, _, _, _, _, _, _], _ => rfl
theorem d_law_deed_right (F : FnFact K mg "_law_deed_right" (stN 59)) : ∃ f fd, DefOk K mg glL blL ⟨"_law_deed_right", ["rows", "later", "index", "one", "other", "many", "checks", "sums", "others", "k", "page"], ["rows", "later", "index"]⟩ (stN 59) f_law_deed_right f fd ∧ ByPlace fd [("rows" : Str), ("later" : Str), ("index" : Str)] :=
  mkDef (d := ⟨"_law_deed_right", ["rows", "later", "index", "one", "other", "many", "checks", "sums", "others", "k", "page"], ["rows", "later", "index"]⟩) F (by decide +kernel) rfl rfl (by kernel_rfl) fun _ _ _ _ _ _ us hl => match us, hl with | [_, _, _], _ => rfl
theorem d_law (F : FnFact K mg "law" (stN 60)) : ∃ f fd, DefOk K mg glL blL ⟨"law", ["script", "draw", "rows", "begin", "now", "total", "spot", "turn", "index", "place", "more", "y", "cells", "x", "ink", "new", "later", "picture_v", "patch", "last", "due", "back", "k"], ["script"]⟩ (stN 60) f_law f fd ∧ ByPlace fd [("script" : Str)] :=
  mkDef (d := ⟨"law", ["script", "draw", "rows", "begin", "now", "total", "spot", "turn", "index", "place", "more", "y", "cells", "x", "ink", "new", "later", "picture_v", "patch", "last", "due", "back", "k"], ["script"]⟩) F (by decide +kernel) rfl rfl (by kernel_rfl) fun _ _ _ _ _ _ us hl => match us, hl with | [_], _ => rfl
end
end PyI
namespace PyI
open PySem PySem.W PySem.Spec PyProof.Rows L2
theorem all_d {K : Fr} {mg : Str → Option Value} (F0 : FnFact K mg "picture" (stN 5)) (F1 : FnFact K mg "number_bytes" (stN 10)) (F2 : FnFact K mg "read_number" (stN 11)) (F3 : FnFact K mg "signed_bytes" (stN 12)) (F4 : FnFact K mg "read_signed" (stN 13)) (F5 : FnFact K mg "sum_after" (stN 14)) (F6 : FnFact K mg "sum_of" (stN 15)) (F7 : FnFact K mg "sum_bytes" (stN 16)) (F8 : FnFact K mg "is_bytes" (stN 17)) (F9 : FnFact K mg "rows_of" (stN 21)) (F10 : FnFact K mg "rows_print" (stN 22)) (F11 : FnFact K mg "row_diff" (stN 23)) (F12 : FnFact K mg "row_after" (stN 24)) (F13 : FnFact K mg "cells_bytes" (stN 25)) (F14 : FnFact K mg "read_cells" (stN 26)) (F15 : FnFact K mg "row_bytes" (stN 27)) (F16 : FnFact K mg "packed_page" (stN 28)) (F17 : FnFact K mg "read_packed" (stN 29)) (F18 : FnFact K mg "row_sums" (stN 30)) (F19 : FnFact K mg "pair_sum" (stN 31)) (F20 : FnFact K mg "levels_of" (stN 32)) (F21 : FnFact K mg "page_check" (stN 33)) (F22 : FnFact K mg "row_proof" (stN 34)) (F23 : FnFact K mg "row_ok" (stN 35)) (F24 : FnFact K mg "ink_counts" (stN 37)) (F25 : FnFact K mg "patch_of" (stN 39)) (F26 : FnFact K mg "patched" (stN 40)) (F27 : FnFact K mg "patch_back" (stN 41)) (F28 : FnFact K mg "patch_both" (stN 42)) (F29 : FnFact K mg "patch_bytes" (stN 43)) (F30 : FnFact K mg "read_patch" (stN 44)) (F31 : FnFact K mg "_law_mixed" (stN 46)) (F32 : FnFact K mg "_law_row" (stN 47)) (F33 : FnFact K mg "_law_is_int" (stN 48)) (F34 : FnFact K mg "_law_like" (stN 49)) (F35 : FnFact K mg "_law_pick" (stN 50)) (F36 : FnFact K mg "_law_rows" (stN 51)) (F37 : FnFact K mg "_law_print" (stN 52)) (F38 : FnFact K mg "_law_counts" (stN 53)) (F39 : FnFact K mg "_law_is_check" (stN 54)) (F40 : FnFact K mg "_law_proof_right" (stN 55)) (F41 : FnFact K mg "_law_height" (stN 56)) (F42 : FnFact K mg "_law_other_row" (stN 57)) (F43 : FnFact K mg "_law_own_row" (stN 58)) (F44 : FnFact K mg "_law_deed_right" (stN 59)) (F45 : FnFact K mg "law" (stN 60)) :
    ∃ fs f fd, DefsOk K mg glL blL defsL tab fs ∧ fs[45]? = some (f, fd) ∧ ByPlace fd [("script" : Str)] := by
  obtain ⟨f0, fd0, h0, b0⟩ := d_picture F0
  obtain ⟨f1, fd1, h1, b1⟩ := d_number_bytes F1
  obtain ⟨f2, fd2, h2, b2⟩ := d_read_number F2
  obtain ⟨f3, fd3, h3, b3⟩ := d_signed_bytes F3
  obtain ⟨f4, fd4, h4, b4⟩ := d_read_signed F4
  obtain ⟨f5, fd5, h5, b5⟩ := d_sum_after F5
  obtain ⟨f6, fd6, h6, b6⟩ := d_sum_of F6
  obtain ⟨f7, fd7, h7, b7⟩ := d_sum_bytes F7
  obtain ⟨f8, fd8, h8, b8⟩ := d_is_bytes F8
  obtain ⟨f9, fd9, h9, b9⟩ := d_rows_of F9
  obtain ⟨f10, fd10, h10, b10⟩ := d_rows_print F10
  obtain ⟨f11, fd11, h11, b11⟩ := d_row_diff F11
  obtain ⟨f12, fd12, h12, b12⟩ := d_row_after F12
  obtain ⟨f13, fd13, h13, b13⟩ := d_cells_bytes F13
  obtain ⟨f14, fd14, h14, b14⟩ := d_read_cells F14
  obtain ⟨f15, fd15, h15, b15⟩ := d_row_bytes F15
  obtain ⟨f16, fd16, h16, b16⟩ := d_packed_page F16
  obtain ⟨f17, fd17, h17, b17⟩ := d_read_packed F17
  obtain ⟨f18, fd18, h18, b18⟩ := d_row_sums F18
  obtain ⟨f19, fd19, h19, b19⟩ := d_pair_sum F19
  obtain ⟨f20, fd20, h20, b20⟩ := d_levels_of F20
  obtain ⟨f21, fd21, h21, b21⟩ := d_page_check F21
  obtain ⟨f22, fd22, h22, b22⟩ := d_row_proof F22
  obtain ⟨f23, fd23, h23, b23⟩ := d_row_ok F23
  obtain ⟨f24, fd24, h24, b24⟩ := d_ink_counts F24
  obtain ⟨f25, fd25, h25, b25⟩ := d_patch_of F25
  obtain ⟨f26, fd26, h26, b26⟩ := d_patched F26
  obtain ⟨f27, fd27, h27, b27⟩ := d_patch_back F27
  obtain ⟨f28, fd28, h28, b28⟩ := d_patch_both F28
  obtain ⟨f29, fd29, h29, b29⟩ := d_patch_bytes F29
  obtain ⟨f30, fd30, h30, b30⟩ := d_read_patch F30
  obtain ⟨f31, fd31, h31, b31⟩ := d_law_mixed F31
  obtain ⟨f32, fd32, h32, b32⟩ := d_law_row F32
  obtain ⟨f33, fd33, h33, b33⟩ := d_law_is_int F33
  obtain ⟨f34, fd34, h34, b34⟩ := d_law_like F34
  obtain ⟨f35, fd35, h35, b35⟩ := d_law_pick F35
  obtain ⟨f36, fd36, h36, b36⟩ := d_law_rows F36
  obtain ⟨f37, fd37, h37, b37⟩ := d_law_print F37
  obtain ⟨f38, fd38, h38, b38⟩ := d_law_counts F38
  obtain ⟨f39, fd39, h39, b39⟩ := d_law_is_check F39
  obtain ⟨f40, fd40, h40, b40⟩ := d_law_proof_right F40
  obtain ⟨f41, fd41, h41, b41⟩ := d_law_height F41
  obtain ⟨f42, fd42, h42, b42⟩ := d_law_other_row F42
  obtain ⟨f43, fd43, h43, b43⟩ := d_law_own_row F43
  obtain ⟨f44, fd44, h44, b44⟩ := d_law_deed_right F44
  obtain ⟨f45, fd45, h45, b45⟩ := d_law F45
  refine ⟨[(f0, fd0), (f1, fd1), (f2, fd2), (f3, fd3), (f4, fd4), (f5, fd5), (f6, fd6), (f7, fd7), (f8, fd8), (f9, fd9), (f10, fd10), (f11, fd11), (f12, fd12), (f13, fd13), (f14, fd14), (f15, fd15), (f16, fd16), (f17, fd17), (f18, fd18), (f19, fd19), (f20, fd20), (f21, fd21), (f22, fd22), (f23, fd23), (f24, fd24), (f25, fd25), (f26, fd26), (f27, fd27), (f28, fd28), (f29, fd29), (f30, fd30), (f31, fd31), (f32, fd32), (f33, fd33), (f34, fd34), (f35, fd35), (f36, fd36), (f37, fd37), (f38, fd38), (f39, fd39), (f40, fd40), (f41, fd41), (f42, fd42), (f43, fd43), (f44, fd44), (f45, fd45)], _, _, ?_, rfl, b45⟩
  exact .cons h0 (.cons h1 (.cons h2 (.cons h3 (.cons h4 (.cons h5 (.cons h6 (.cons h7 (.cons h8 (.cons h9 (.cons h10 (.cons h11 (.cons h12 (.cons h13 (.cons h14 (.cons h15 (.cons h16 (.cons h17 (.cons h18 (.cons h19 (.cons h20 (.cons h21 (.cons h22 (.cons h23 (.cons h24 (.cons h25 (.cons h26 (.cons h27 (.cons h28 (.cons h29 (.cons h30 (.cons h31 (.cons h32 (.cons h33 (.cons h34 (.cons h35 (.cons h36 (.cons h37 (.cons h38 (.cons h39 (.cons h40 (.cons h41 (.cons h42 (.cons h43 (.cons h44 (.cons h45 .nil)))))))))))))))))))))))))))))))))))))))))))))
end PyI
open PySem PySem.W PyProof.Rows
set_option maxHeartbeats 0 in
theorem PySem.Challenge.cw_stampheld_k86_whole_inks_changed_seen_holds : PySem.Challenge.rw_stampheld_k86_whole_inks_changed_seen.Holds := by
  w_on; o_law; k_head; (case hw => w_witness2)
  k_fill
  refine L2.walk_ofE (l := PySem.Challenge.rw_stampheld_k86_whole_inks_changed_seen) (n := 63) (k := 40) (x := "script") (CX := C8.CX0) rfl (by decide) rfl ⟨rfl, by decide, by decide⟩ ?F (fun _ _ _ _ h => h)
  case F =>
    intro w mg fa h Y G hmg
    have KX := PySem.W.kIn_of Y
    have F0 : PyI.FnFact (PyI.KOfX KX) mg "picture" (PyI.stN 5) := by
      refine' PyI.fact KX G ?a ?l ?c ?k; (case a => k_is); (case l => k_is); (case c => k_is); (case k => k_is)
    have F1 : PyI.FnFact (PyI.KOfX KX) mg "number_bytes" (PyI.stN 10) := by
      refine' PyI.fact KX G ?a ?l ?c ?k; (case a => k_is); (case l => k_is); (case c => k_is); (case k => k_is)
    have F2 : PyI.FnFact (PyI.KOfX KX) mg "read_number" (PyI.stN 11) := by
      refine' PyI.fact KX G ?a ?l ?c ?k; (case a => k_is); (case l => k_is); (case c => k_is); (case k => k_is)
    have F3 : PyI.FnFact (PyI.KOfX KX) mg "signed_bytes" (PyI.stN 12) := by
      refine' PyI.fact KX G ?a ?l ?c ?k; (case a => k_is); (case l => k_is); (case c => k_is); (case k => k_is)
    have F4 : PyI.FnFact (PyI.KOfX KX) mg "read_signed" (PyI.stN 13) := by
      refine' PyI.fact KX G ?a ?l ?c ?k; (case a => k_is); (case l => k_is); (case c => k_is); (case k => k_is)
    have F5 : PyI.FnFact (PyI.KOfX KX) mg "sum_after" (PyI.stN 14) := by
      refine' PyI.fact KX G ?a ?l ?c ?k; (case a => k_is); (case l => k_is); (case c => k_is); (case k => k_is)
    have F6 : PyI.FnFact (PyI.KOfX KX) mg "sum_of" (PyI.stN 15) := by
      refine' PyI.fact KX G ?a ?l ?c ?k; (case a => k_is); (case l => k_is); (case c => k_is); (case k => k_is)
    have F7 : PyI.FnFact (PyI.KOfX KX) mg "sum_bytes" (PyI.stN 16) := by
      refine' PyI.fact KX G ?a ?l ?c ?k; (case a => k_is); (case l => k_is); (case c => k_is); (case k => k_is)
    have F8 : PyI.FnFact (PyI.KOfX KX) mg "is_bytes" (PyI.stN 17) := by
      refine' PyI.fact KX G ?a ?l ?c ?k; (case a => k_is); (case l => k_is); (case c => k_is); (case k => k_is)
    have F9 : PyI.FnFact (PyI.KOfX KX) mg "rows_of" (PyI.stN 21) := by
      refine' PyI.fact KX G ?a ?l ?c ?k; (case a => k_is); (case l => k_is); (case c => k_is); (case k => k_is)
    have F10 : PyI.FnFact (PyI.KOfX KX) mg "rows_print" (PyI.stN 22) := by
      refine' PyI.fact KX G ?a ?l ?c ?k; (case a => k_is); (case l => k_is); (case c => k_is); (case k => k_is)
    have F11 : PyI.FnFact (PyI.KOfX KX) mg "row_diff" (PyI.stN 23) := by
      refine' PyI.fact KX G ?a ?l ?c ?k; (case a => k_is); (case l => k_is); (case c => k_is); (case k => k_is)
    have F12 : PyI.FnFact (PyI.KOfX KX) mg "row_after" (PyI.stN 24) := by
      refine' PyI.fact KX G ?a ?l ?c ?k; (case a => k_is); (case l => k_is); (case c => k_is); (case k => k_is)
    have F13 : PyI.FnFact (PyI.KOfX KX) mg "cells_bytes" (PyI.stN 25) := by
      refine' PyI.fact KX G ?a ?l ?c ?k; (case a => k_is); (case l => k_is); (case c => k_is); (case k => k_is)
    have F14 : PyI.FnFact (PyI.KOfX KX) mg "read_cells" (PyI.stN 26) := by
      refine' PyI.fact KX G ?a ?l ?c ?k; (case a => k_is); (case l => k_is); (case c => k_is); (case k => k_is)
    have F15 : PyI.FnFact (PyI.KOfX KX) mg "row_bytes" (PyI.stN 27) := by
      refine' PyI.fact KX G ?a ?l ?c ?k; (case a => k_is); (case l => k_is); (case c => k_is); (case k => k_is)
    have F16 : PyI.FnFact (PyI.KOfX KX) mg "packed_page" (PyI.stN 28) := by
      refine' PyI.fact KX G ?a ?l ?c ?k; (case a => k_is); (case l => k_is); (case c => k_is); (case k => k_is)
    have F17 : PyI.FnFact (PyI.KOfX KX) mg "read_packed" (PyI.stN 29) := by
      refine' PyI.fact KX G ?a ?l ?c ?k; (case a => k_is); (case l => k_is); (case c => k_is); (case k => k_is)
    have F18 : PyI.FnFact (PyI.KOfX KX) mg "row_sums" (PyI.stN 30) := by
      refine' PyI.fact KX G ?a ?l ?c ?k; (case a => k_is); (case l => k_is); (case c => k_is); (case k => k_is)
    have F19 : PyI.FnFact (PyI.KOfX KX) mg "pair_sum" (PyI.stN 31) := by
      refine' PyI.fact KX G ?a ?l ?c ?k; (case a => k_is); (case l => k_is); (case c => k_is); (case k => k_is)
    have F20 : PyI.FnFact (PyI.KOfX KX) mg "levels_of" (PyI.stN 32) := by
      refine' PyI.fact KX G ?a ?l ?c ?k; (case a => k_is); (case l => k_is); (case c => k_is); (case k => k_is)
    have F21 : PyI.FnFact (PyI.KOfX KX) mg "page_check" (PyI.stN 33) := by
      refine' PyI.fact KX G ?a ?l ?c ?k; (case a => k_is); (case l => k_is); (case c => k_is); (case k => k_is)
    have F22 : PyI.FnFact (PyI.KOfX KX) mg "row_proof" (PyI.stN 34) := by
      refine' PyI.fact KX G ?a ?l ?c ?k; (case a => k_is); (case l => k_is); (case c => k_is); (case k => k_is)
    have F23 : PyI.FnFact (PyI.KOfX KX) mg "row_ok" (PyI.stN 35) := by
      refine' PyI.fact KX G ?a ?l ?c ?k; (case a => k_is); (case l => k_is); (case c => k_is); (case k => k_is)
    have F24 : PyI.FnFact (PyI.KOfX KX) mg "ink_counts" (PyI.stN 37) := by
      refine' PyI.fact KX G ?a ?l ?c ?k; (case a => k_is); (case l => k_is); (case c => k_is); (case k => k_is)
    have F25 : PyI.FnFact (PyI.KOfX KX) mg "patch_of" (PyI.stN 39) := by
      refine' PyI.fact KX G ?a ?l ?c ?k; (case a => k_is); (case l => k_is); (case c => k_is); (case k => k_is)
    have F26 : PyI.FnFact (PyI.KOfX KX) mg "patched" (PyI.stN 40) := by
      refine' PyI.fact KX G ?a ?l ?c ?k; (case a => k_is); (case l => k_is); (case c => k_is); (case k => k_is)
    have F27 : PyI.FnFact (PyI.KOfX KX) mg "patch_back" (PyI.stN 41) := by
      refine' PyI.fact KX G ?a ?l ?c ?k; (case a => k_is); (case l => k_is); (case c => k_is); (case k => k_is)
    have F28 : PyI.FnFact (PyI.KOfX KX) mg "patch_both" (PyI.stN 42) := by
      refine' PyI.fact KX G ?a ?l ?c ?k; (case a => k_is); (case l => k_is); (case c => k_is); (case k => k_is)
    have F29 : PyI.FnFact (PyI.KOfX KX) mg "patch_bytes" (PyI.stN 43) := by
      refine' PyI.fact KX G ?a ?l ?c ?k; (case a => k_is); (case l => k_is); (case c => k_is); (case k => k_is)
    have F30 : PyI.FnFact (PyI.KOfX KX) mg "read_patch" (PyI.stN 44) := by
      refine' PyI.fact KX G ?a ?l ?c ?k; (case a => k_is); (case l => k_is); (case c => k_is); (case k => k_is)
    have F31 : PyI.FnFact (PyI.KOfX KX) mg "_law_mixed" (PyI.stN 46) := by
      refine' PyI.fact KX G ?a ?l ?c ?k; (case a => k_is); (case l => k_is); (case c => k_is); (case k => k_is)
    have F32 : PyI.FnFact (PyI.KOfX KX) mg "_law_row" (PyI.stN 47) := by
      refine' PyI.fact KX G ?a ?l ?c ?k; (case a => k_is); (case l => k_is); (case c => k_is); (case k => k_is)
    have F33 : PyI.FnFact (PyI.KOfX KX) mg "_law_is_int" (PyI.stN 48) := by
      refine' PyI.fact KX G ?a ?l ?c ?k; (case a => k_is); (case l => k_is); (case c => k_is); (case k => k_is)
    have F34 : PyI.FnFact (PyI.KOfX KX) mg "_law_like" (PyI.stN 49) := by
      refine' PyI.fact KX G ?a ?l ?c ?k; (case a => k_is); (case l => k_is); (case c => k_is); (case k => k_is)
    have F35 : PyI.FnFact (PyI.KOfX KX) mg "_law_pick" (PyI.stN 50) := by
      refine' PyI.fact KX G ?a ?l ?c ?k; (case a => k_is); (case l => k_is); (case c => k_is); (case k => k_is)
    have F36 : PyI.FnFact (PyI.KOfX KX) mg "_law_rows" (PyI.stN 51) := by
      refine' PyI.fact KX G ?a ?l ?c ?k; (case a => k_is); (case l => k_is); (case c => k_is); (case k => k_is)
    have F37 : PyI.FnFact (PyI.KOfX KX) mg "_law_print" (PyI.stN 52) := by
      refine' PyI.fact KX G ?a ?l ?c ?k; (case a => k_is); (case l => k_is); (case c => k_is); (case k => k_is)
    have F38 : PyI.FnFact (PyI.KOfX KX) mg "_law_counts" (PyI.stN 53) := by
      refine' PyI.fact KX G ?a ?l ?c ?k; (case a => k_is); (case l => k_is); (case c => k_is); (case k => k_is)
    have F39 : PyI.FnFact (PyI.KOfX KX) mg "_law_is_check" (PyI.stN 54) := by
      refine' PyI.fact KX G ?a ?l ?c ?k; (case a => k_is); (case l => k_is); (case c => k_is); (case k => k_is)
    have F40 : PyI.FnFact (PyI.KOfX KX) mg "_law_proof_right" (PyI.stN 55) := by
      refine' PyI.fact KX G ?a ?l ?c ?k; (case a => k_is); (case l => k_is); (case c => k_is); (case k => k_is)
    have F41 : PyI.FnFact (PyI.KOfX KX) mg "_law_height" (PyI.stN 56) := by
      refine' PyI.fact KX G ?a ?l ?c ?k; (case a => k_is); (case l => k_is); (case c => k_is); (case k => k_is)
    have F42 : PyI.FnFact (PyI.KOfX KX) mg "_law_other_row" (PyI.stN 57) := by
      refine' PyI.fact KX G ?a ?l ?c ?k; (case a => k_is); (case l => k_is); (case c => k_is); (case k => k_is)
    have F43 : PyI.FnFact (PyI.KOfX KX) mg "_law_own_row" (PyI.stN 58) := by
      refine' PyI.fact KX G ?a ?l ?c ?k; (case a => k_is); (case l => k_is); (case c => k_is); (case k => k_is)
    have F44 : PyI.FnFact (PyI.KOfX KX) mg "_law_deed_right" (PyI.stN 59) := by
      refine' PyI.fact KX G ?a ?l ?c ?k; (case a => k_is); (case l => k_is); (case c => k_is); (case k => k_is)
    have F45 : PyI.FnFact (PyI.KOfX KX) mg "law" (PyI.stN 60) := by
      refine' PyI.fact KX G ?a ?l ?c ?k; (case a => k_is); (case l => k_is); (case c => k_is); (case k => k_is)
    obtain ⟨fs, f, fd, hd, hf, hb⟩ := PyI.all_d F0 F1 F2 F3 F4 F5 F6 F7 F8 F9 F10 F11 F12 F13 F14 F15 F16 F17 F18 F19 F20 F21 F22 F23 F24 F25 F26 F27 F28 F29 F30 F31 F32 F33 F34 F35 F36 F37 F38 F39 F40 F41 F42 F43 F44 F45
    exact PyI.law_F KX G hmg hd (by kernel_rfl) (by kernel_rfl) (by kernel_rfl) (d := ⟨"law", ["script", "draw", "rows", "begin", "now", "total", "spot", "turn", "index", "place", "more", "y", "cells", "x", "ink", "new", "later", "picture_v", "patch", "last", "due", "back", "k"], ["script"]⟩) rfl rfl rfl hf hb PyI.law_runs
