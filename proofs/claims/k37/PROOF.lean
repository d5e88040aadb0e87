import PyProof.Rows.All
import HandS.ForMost
import HandS.Exc
import HandS.TryOnly
import HandS.ExcOwn
import HandS.WordsExc
import KE.KDictKeyed
import HandS.IsInst
import HandS.Wide
import HandS.TupAny
import HandS.Style
import KE.DataEq
import KE.SortData
import KE.KDictSum
import HandS.Conv
import PyProof.TupleOfSeq
import HandS.More
import HandS.Iter
import HandS.Zip
import KE.GoesMore
import PyProof.CollectIter
import PyProof.WalksMore
import PyProof.WalksS
import HandS.Base
import HandS.List
import KE.KRevSl
import HandS.ExcIs
import HandS.HeadHook1
import PyProof.ExcBaseAll.ValueError
import HandS.Words
import HandS.Codes
import HandS.Head0
import HandS.Head1
import HandS.Head2
import HandS.Ends
import HandS.HeadEnd
import HandS.HeadHook2
import HandS.HeadHook3
import HandS.HeadHook4
import PySem.Challenge.RW_forkrolls_k37_forms_of_deeds
set_option autoImplicit false
/-! FkPure: data, a store, a small form of the language, its meaning as total functions. Core Lean alone. -/
namespace Fk

inductive D where
  | none | bl (b : Bool) | int (i : Int) | str (s : List Nat)
  | tup (ds : List D) | lst (ds : List D) | dic (ks vs : List D) | set (ds : List D)
  | scr (ns : List Int) | ref (i : Nat) | fn (f : Nat) | ty (t : Nat)
  | tab (ks : List (List Nat)) (vs : List D)
  deriving Inhabited

mutual
/-- no reference within -/
def D.pure : D → Bool
  | .ref _ => false
  | .tup ds => D.pureL ds
  | .lst ds => D.pureL ds
  | .dic ks vs => D.pureL ks && D.pureL vs
  | .set ds => D.pureL ds
  | .tab _ vs => D.pureL vs
  | _ => true
def D.pureL : List D → Bool
  | [] => true
  | d :: ds => d.pure && D.pureL ds
end
mutual
/-- one above the greatest reference within -/
def D.top : D → Nat
  | .ref i => i + 1
  | .tup ds => D.topL ds
  | .lst ds => D.topL ds
  | .dic ks vs => max (D.topL ks) (D.topL vs)
  | .set ds => D.topL ds
  | .tab _ vs => D.topL vs
  | _ => 0
def D.topL : List D → Nat
  | [] => 0
  | d :: ds => max d.top (D.topL ds)
end

mutual
def D.beq : D → D → Bool
  | .none, .none => true
  | .bl a, .bl b => a == b
  | .int a, .int b => a == b
  | .str a, .str b => a == b
  | .tup a, .tup b => D.beqL a b
  | .lst a, .lst b => D.beqL a b
  | .dic a b, .dic c d => D.beqL a c && D.beqL b d
  | .set a, .set b => D.beqL a b
  | .scr a, .scr b => a == b
  | .ref a, .ref b => a == b
  | .fn a, .fn b => a == b
  | .ty a, .ty b => a == b
  | .tab a b, .tab c d => a == c && D.beqL b d
  | _, _ => false
def D.beqL : List D → List D → Bool
  | [], [] => true
  | a :: as, b :: bs => D.beq a b && D.beqL as bs
  | _, _ => false
end
mutual
theorem D.beq_eq : ∀ a b : D, D.beq a b = true → a = b
  | .none, b, h => by cases b <;> simp_all [D.beq]
  | .bl _, b, h => by cases b <;> simp_all [D.beq]
  | .int _, b, h => by cases b <;> simp_all [D.beq]
  | .str _, b, h => by cases b <;> simp_all [D.beq]
  | .tup a, b, h => by cases b <;> simp [D.beq] at h; rw [D.beqL_eq _ _ h]
  | .lst a, b, h => by cases b <;> simp [D.beq] at h; rw [D.beqL_eq _ _ h]
  | .dic a a', b, h => by cases b <;> simp [D.beq] at h; rw [D.beqL_eq _ _ h.1, D.beqL_eq _ _ h.2]
  | .set a, b, h => by cases b <;> simp [D.beq] at h; rw [D.beqL_eq _ _ h]
  | .scr _, b, h => by cases b <;> simp_all [D.beq]
  | .ref _, b, h => by cases b <;> simp_all [D.beq]
  | .fn _, b, h => by cases b <;> simp_all [D.beq]
  | .ty _, b, h => by cases b <;> simp_all [D.beq]
  | .tab a a', b, h => by cases b <;> simp [D.beq] at h; rw [h.1, D.beqL_eq _ _ h.2]
theorem D.beqL_eq : ∀ a b : List D, D.beqL a b = true → a = b
  | [], b, h => by cases b <;> simp_all [D.beqL]
  | a :: as, b, h => by
    cases b with
    | nil => simp [D.beqL] at h
    | cons b bs => simp [D.beqL] at h; rw [D.beq_eq _ _ h.1, D.beqL_eq _ _ h.2]
end

/-- what stands in the store -/
inductive O where
  | gone | lst (ds : List D) | dic (ks vs : List D)
  deriving Inhabited
def O.pure : O → Bool
  | .gone => true
  | .lst ds => D.pureL ds
  | .dic ks vs => D.pureL ks && D.pureL vs
abbrev St := List O
abbrev Env := List (Option D)

structure Ex where
  cls : Nat
  arg : Option D
  deriving Inhabited

inductive R (α : Type) where
  | ok (a : α) (s : St) | err (x : Ex) (s : St) | bad
def R.bind {α β : Type} : R α → (α → St → R β) → R β
  | .ok a s, f => f a s
  | .err x s, _ => .err x s
  | .bad, _ => .bad
@[simp] theorem R.bind_ok {α β : Type} (a : α) (s : St) (f : α → St → R β) : (R.ok a s).bind f = f a s := rfl
@[simp] theorem R.bind_err {α β : Type} (x : Ex) (s : St) (f : α → St → R β) : (R.err x s : R α).bind f = .err x s := rfl
@[simp] theorem R.bind_bad {α β : Type} (f : α → St → R β) : (R.bad : R α).bind f = .bad := rfl

/-- a reference read -/
def rd (s : St) : D → D
  | .ref i => match s[i]? with
    | some (.lst ds) => .lst ds
    | some (.dic ks vs) => .dic ks vs
    | _ => .ref i
  | d => d

inductive Op where
  | add | sub | mul | fdiv | mod | pow
  deriving DecidableEq
inductive Cmp where
  | lt | le | gt | ge | eq | ne | isin | notin | is_ | isnot
  deriving DecidableEq
inductive Blt where
  | isinst (t : Nat) | len | all | any | min2 | max2 | abs | int_ | tuple_ | list_ | sorted | dict_
  deriving DecidableEq
inductive Mth where
  | join
  deriving DecidableEq
inductive ItK where
  | val | range1 | range2 | zip | items | values
  deriving DecidableEq
inductive Pat where
  | s (i : Nat) | t (is : List Nat) | st (is : List Nat) (j : Nat)

inductive IE where
  | nop | c (d : D) | v (i : Nat)
  | bin (o : Op) (t : Bool) (a b : IE) | neg (a : IE)
  | cmp (o : Cmp) (a b : IE) | chain (o1 o2 : Cmp) (a b c : IE)
  | and (a b : IE) | or (a b : IE) | not (a : IE) | ite (c a b : IE)
  | tup (es : List IE) | lst (t : Bool) (es : List IE) | dic (t : Bool) (es : List IE)
  | sub (a i : IE) | sl (t : Bool) (a lo hi : IE)
  | call (f : Nat) (es : List IE)
  | blt (b : Blt) (t : Bool) (es : List IE) | meth (m : Mth) (o : IE) (es : List IE)
  | rev (a : IE) | callv (i : Nat) (es : List IE)
  | lc (elt : IE) (p : Pat) (k : ItK) (its : List IE) (cond : IE)
  /- o.pop(i), o.pop(); o.get(k), o.get(k, d), o.pop(k, d) -/
  | pop (o i : IE) | popl (o : IE) | get (o k : IE) | getd (o k d : IE) | dpop (o k d : IE)
  /- sorted(set(e)); sorted(e, key=lambda x: x[0]) -/
  | sorts (t : Bool) (e : IE) | sort0 (t : Bool) (e : IE)
  /- sorted(o.items()); isinstance(e, (ts..)) -/
  | sorti (t : Bool) (o : IE) | isin (e : IE) (ts : List Nat)

/-- in an except suite: a constant; whether the exception is of a class -/
inductive SuE where
  | k (d : D) | isx (c : Nat) (m : List Nat)

inductive IS where
  | raise (c : Nat) | tryR (body : List IS) (m : List Nat) (h sl : Nat) (es : List SuE)
  | expr (e : IE) | set (p : Pat) (e : IE) | setSub (o i e : IE)
  | app (o e : IE) | extd (o e : IE) | upd (o e : IE) | swap (o1 i1 o2 i2 e : IE)
  | whil (c : IE) (body : List IS) | brk | cnt | par (i j : Nat) (a b : IE)
  | fz (i : Nat)
  | ife (c : IE) (a b : List IS)
  | forr (p : Pat) (k : ItK) (its : List IE) (body : List IS)
  | ret (e : IE) | pass

/-! ### values -/
def sizeLine : Nat := 16777216
def mapB (bs : List D) : Option (List Bool) := bs.mapM fun | .bl b => some b | _ => Option.none
def strsOf (ds : List D) : Option (List (List Nat)) := ds.mapM fun | .str x => some x | _ => Option.none

mutual
/-- == of data -/
def eqv : D → D → Bool
  | .none, .none => true
  | .bl a, .bl b => a == b
  | .int a, .int b => a == b
  | .bl a, .int b => (if a then 1 else 0) == b
  | .int a, .bl b => a == (if b then 1 else 0)
  | .str a, .str b => a == b
  | .tup a, .tup b => eqvL a b
  | .lst a, .lst b => eqvL a b
  | _, _ => false
def eqvL : List D → List D → Bool
  | [], [] => true
  | a :: as, b :: bs => eqv a b && eqvL as bs
  | _, _ => false
end
mutual
/-- data that == and in are told of -/
def flat : D → Bool
  | .none => true | .bl _ => true | .int _ => true | .str _ => true
  | .tup ds => flatL ds
  | .lst ds => flatL ds
  | _ => false
def flatL : List D → Bool
  | [] => true
  | d :: ds => flat d && flatL ds
end
mutual
def depth : D → Nat
  | .tup ds => depthL ds + 1
  | .lst ds => depthL ds + 1
  | _ => 0
def depthL : List D → Nat
  | [] => 0
  | d :: ds => max (depth d) (depthL ds)
end
/-! ### the order -/
abbrev Tok := Sum Int (List Nat)
def ltN : List Nat → List Nat → Bool
  | [], [] => false
  | [], _ :: _ => true
  | _ :: _, [] => false
  | a :: as, b :: bs => decide (a < b) || (a == b && ltN as bs)
def tokLt : Tok → Tok → Bool
  | .inl a, .inl b => decide (a < b)
  | .inl _, .inr _ => true
  | .inr _, .inl _ => false
  | .inr a, .inr b => ltN a b
def lexT : List Tok → List Tok → Bool
  | [], [] => false
  | [], _ :: _ => true
  | _ :: _, [] => false
  | a :: as, b :: bs => tokLt a b || (!tokLt b a && lexT as bs)
mutual
/-- a datum as a row of signs: what is less is so by the first that is unlike -/
def toks : D → List Tok
  | .bl b => [.inl (if b = true then 1 else 0)]
  | .int n => [.inl n]
  | .str z => [.inr z]
  | .lst ds => toksL ds
  | .tup ds => toksL ds
  | _ => []
def toksL : List D → List Tok
  | [] => [.inl 0]
  | d :: ds => .inl 1 :: (toks d ++ toksL ds)
end
mutual
/-- which is less is told by the first place that is unlike -/
def cmpOk : D → D → Bool
  | .none, .none => true
  | .bl _, .bl _ => true
  | .int _, .int _ => true
  | .str _, .str _ => true
  | .tup a, .tup b => cmpOkL a b
  | _, _ => false
def cmpOkL : List D → List D → Bool
  | x :: xs, y :: ys => cmpOk x y && (!eqv x y || cmpOkL xs ys)
  | _, _ => true
end
def ltD (x y : D) : Bool := lexT (toks x) (toks y)
def leD (x y : D) : Bool := !ltD y x
def tupNE : D → Bool
  | .tup (_ :: _) => true
  | _ => false
def notTN : D → Bool
  | .tup _ => false
  | .none => false
  | _ => true
def sortOk (ds : List D) : Bool :=
  flatL ds && decide (depthL ds ≤ 60) && (ds.all fun a => ds.all fun b => cmpOk a b) && (ds.all tupNE || ds.all notTN) && decide (ds.length ≤ sizeLine)
def sortD (ds : List D) : Option (List D) := if sortOk ds then some (ds.mergeSort leD) else Option.none

/-! ### dicts -/
mutual
def keyOk : D → Bool
  | .int _ => true | .str _ => true
  | .tup ds => keyOkL ds
  | _ => false
/-- parts of a key -/
def keyOkL : List D → Bool
  | [] => true
  | d :: ds => (keyOk d || (match d with
    | .none => true
    | _ => false)) && keyOkL ds
end
def isTup : D → Bool
  | .tup _ => true
  | _ => false
/-- a key that a dict with the keys ks takes: all of them tuples, or none -/
def kOk (ks : List D) (k : D) : Bool := keyOk k && decide (depth k ≤ 8) && ks.all fun j => isTup j == isTup k
def dGet {α : Type} : List D → List α → D → Option α
  | k :: ks, v :: vs, x => if D.beq k x then some v else dGet ks vs x
  | _, _, _ => Option.none
def dPut {α : Type} : List D → List α → D → α → List D × List α
  | k :: ks, v :: vs, x, y => if D.beq k x then (k :: ks, y :: vs) else (k :: (dPut ks vs x y).1, v :: (dPut ks vs x y).2)
  | _, _, x, y => ([x], [y])
def dDel {α : Type} : List D → List α → D → List D × List α
  | k :: ks, v :: vs, x => if D.beq k x then (ks, vs) else (k :: (dDel ks vs x).1, v :: (dDel ks vs x).2)
  | _, _, _ => ([], [])
/-- one dict's pairs put behind another's -/
def dMerge {α : Type} : List D → List α → List D → List α → List D × List α
  | ks, vs, k :: ks', v :: vs' => dMerge (dPut ks vs k v).1 (dPut ks vs k v).2 ks' vs'
  | ks, vs, _, _ => (ks, vs)
/-- pairs put one behind another -/
def dPuts : List D → List D → List D → Option (List D × List D)
  | ks, vs, [] => some (ks, vs)
  | ks, vs, .tup [k, v] :: r => if kOk ks k && decide (ks.length < sizeLine) then dPuts (dPut ks vs k v).1 (dPut ks vs k v).2 r else Option.none
  | _, _, _ :: _ => Option.none
def pairsD (ks vs : List D) : List D := List.zipWith (fun k v => D.tup [k, v]) ks vs
/-- each once, where it comes first -/
def dedup : List D → List D → List D
  | seen, [] => seen
  | seen, d :: ds => if seen.any fun z => D.beq z d then dedup seen ds else dedup (seen ++ [d]) ds

/-- of no list, no tuple -/
def leaf : D → Bool
  | .none => true | .bl _ => true | .int _ => true | .str _ => true
  | _ => false

/-- a new object of the store -/
def alloc (o : O) (s : St) : R D := if o.pure then .ok (.ref s.length) (s ++ [o]) else .bad

/-- a new list, of the store (t) or not -/
def fin (t : Bool) (ds : List D) (s : St) : R D := if t then alloc (.lst ds) s else .ok (.lst ds) s
def finD (t : Bool) (ks vs : List D) (s : St) : R D := if t then alloc (.dic ks vs) s else .ok (.dic ks vs) s
def binD (o : Op) (t : Bool) (x y : D) (s : St) : R D :=
  match o, rd s x, rd s y with
  | .add, .int a, .int b => .ok (.int (a + b)) s
  | .sub, .int a, .int b => .ok (.int (a - b)) s
  | .mul, .int a, .int b => if a.natAbs.log2 + b.natAbs.log2 < 1000000 then .ok (.int (a * b)) s else .bad
  | .fdiv, .int a, .int b => if 0 < b ∧ b.natAbs.log2 < 9000 then .ok (.int (a / b)) s else .bad
  | .mod, .int a, .int b => if 0 < b then .ok (.int (a % b)) s else .bad
  | .pow, .int a, .int b => if 0 ≤ b ∧ (a.natAbs.log2 + 1) * b.toNat ≤ 2 ^ 27 then .ok (.int (a ^ b.toNat)) s else .bad
  | .add, .str a, .str b => if a.length + b.length ≤ sizeLine then .ok (.str (a ++ b)) s else .bad
  | .add, .tup a, .tup b => if a.length + b.length ≤ sizeLine then .ok (.tup (a ++ b)) s else .bad
  | .add, .lst a, .lst b => if a.length + b.length ≤ sizeLine then fin t (a ++ b) s else .bad
  | _, _, _ => .bad

def isN : D → Bool
  | .none => true
  | _ => false
/-- lists of other lengths -/
def lenNe : D → D → Bool
  | .lst a, .lst b => decide (a.length ≠ b.length)
  | _, _ => false
/-- a tuple of nothing, and one of something -/
def tupE : D → D → Bool
  | .tup [], .tup (_ :: _) => true
  | .tup (_ :: _), .tup [] => true
  | _, _ => false
def leafN : D → Bool
  | .none => true
  | _ => false
def isB (b : Bool) : D → Bool
  | .bl c => b == c
  | _ => false
def cmpD (o : Cmp) (x y : D) (s : St) : R D :=
  match o, rd s x, rd s y with
  | .lt, .int a, .int b => .ok (.bl (decide (a < b))) s
  | .le, .int a, .int b => .ok (.bl (decide (a ≤ b))) s
  | .lt, a, b => if cmpOk a b && flat a && flat b && decide (depth a ≤ 60) && decide (depth b ≤ 60) && !leafN a then .ok (.bl (ltD a b)) s else .bad
  | .gt, .int a, .int b => .ok (.bl (decide (b < a))) s
  | .ge, .int a, .int b => .ok (.bl (decide (b ≤ a))) s
  | .eq, a, b => if flat a && flat b && decide (depth a ≤ 60) && decide (depth b ≤ 60) then .ok (.bl (eqv a b)) s else if lenNe a b then .ok (.bl false) s else if tupE a b then .ok (.bl false) s else .bad
  | .ne, a, b => if flat a && flat b && decide (depth a ≤ 60) && decide (depth b ≤ 60) then .ok (.bl (!eqv a b)) s else .bad
  | .isin, .str [c], .str b => .ok (.bl (b.contains c)) s
  | .notin, .str [c], .str b => .ok (.bl (!b.contains c)) s
  | .isin, .str z, .tab ks _ => .ok (.bl (ks.contains z)) s
  | .notin, .str z, .tab ks _ => .ok (.bl (!ks.contains z)) s
  | .isin, a, .dic ks vs => if kOk ks a then .ok (.bl (dGet ks vs a).isSome) s else .bad
  | .notin, a, .dic ks vs => if kOk ks a then .ok (.bl (!(dGet ks vs a).isSome)) s else .bad
  | .isin, a, .lst ds => if flat a && flatL ds && decide (depth a ≤ 60) && decide (depthL ds ≤ 60) then .ok (.bl (ds.any fun z => eqv z a)) s else .bad
  | .notin, a, .lst ds => if flat a && flatL ds && decide (depth a ≤ 60) && decide (depthL ds ≤ 60) then .ok (.bl (!ds.any fun z => eqv z a)) s else .bad
  | .isin, a, .tup ds => if flat a && flatL ds && decide (depth a ≤ 60) && decide (depthL ds ≤ 60) then .ok (.bl (ds.any fun z => eqv z a)) s else .bad
  | .notin, a, .tup ds => if flat a && flatL ds && decide (depth a ≤ 60) && decide (depthL ds ≤ 60) then .ok (.bl (!ds.any fun z => eqv z a)) s else .bad
  | .is_, a, .bl b => .ok (.bl (isB b a)) s
  | .isnot, a, .bl b => .ok (.bl (!isB b a)) s
  | .is_, a, .none => .ok (.bl (isN a)) s
  | .isnot, a, .none => .ok (.bl (!isN a)) s
  | _, _, _ => .bad

/-- types by number: 0 int, 1 bool, 2 str, 3 tuple, 4 list, 5 dict -/
def isT (s : St) (t : Nat) (d : D) : Bool :=
  match t, rd s d with
  | 0, .int _ => true | 0, .bl _ => true
  | 1, .bl _ => true
  | 2, .str _ => true
  | 3, .tup _ => true
  | 4, .lst _ => true | 4, .scr _ => true
  | 5, .dic _ _ => true
  | _, _ => false

def kindKnown (s : St) (d : D) : Bool :=
  match rd s d with
  | .ref _ => false | .fn _ => false | .ty _ => false | .set _ => false | .scr _ => false | .tab _ _ => false
  | _ => true

def ixN (n : Nat) (i : Int) : Option Nat := if 0 ≤ i then (if i < n then some i.toNat else Option.none) else if -(n : Int) ≤ i then some (i + n).toNat else Option.none
def atI {α : Type} (xs : List α) (i : Int) : Option α := (ixN xs.length i).bind fun j => xs[j]?
def sIx (n d : Nat) : Option Int → Nat
  | Option.none => d
  | some v => if v < 0 then (v + (n : Int)).toNat else min v.toNat n
def cut {α : Type} (xs : List α) (lo hi : Option Int) : List α := (xs.drop (sIx xs.length 0 lo)).take (sIx xs.length xs.length hi - sIx xs.length 0 lo)
def partR (nop : Bool) (d : D) (s : St) : R (Option Int) :=
  if nop then .ok Option.none s else match d with
  | .int i => .ok (some i) s
  | _ => .bad

def subD (x i : D) (s : St) : R D :=
  match rd s x, i with
  | .lst ds, .int i => (match atI ds i with | some d => .ok d s | Option.none => .bad)
  | .tup ds, .int i => (match atI ds i with | some d => .ok d s | Option.none => .bad)
  | .str z, .int i => if z.length ≤ sizeLine then (match atI z i with | some c => .ok (.str [c]) s | Option.none => .bad) else .bad
  | .scr ns, .int i => (match atI ns i with | some n => .ok (.int n) s | Option.none => .bad)
  | .dic ks vs, k => if kOk ks k then (match dGet ks vs k with | some d => .ok d s | Option.none => .bad) else .bad
  | .tab ks vs, .str z => (match (ks.zip vs).lookup z with | some d => .ok d s | Option.none => .bad)
  | _, _ => .bad
def revD (x : D) (s : St) : R D :=
  match rd s x with
  | .lst ds => .ok (.lst ds.reverse) s
  | .tup ds => .ok (.tup ds.reverse) s
  | _ => .bad
def slD (t : Bool) (x : D) (l h : Option Int) (s : St) : R D :=
  match rd s x with
  | .lst ds => fin t (cut ds l h) s
  | .tup ds => .ok (.tup (cut ds l h)) s
  | .str z => if z.length ≤ sizeLine then .ok (.str (cut z l h)) s else .bad
  | _ => .bad

def bltD (b : Blt) (t : Bool) (xs : List D) (s : St) : R D :=
  match b, xs with
  | .isinst k, [d, .ty k'] => if k = k' ∧ kindKnown s d = true then .ok (.bl (isT s k d)) s else .bad
  | .len, [d] => (match rd s d with
    | .lst ds => .ok (.int ds.length) s
    | .tup ds => .ok (.int ds.length) s
    | .str z => if z.length ≤ sizeLine then .ok (.int z.length) s else .bad
    | .scr ns => .ok (.int ns.length) s
    | .dic ks _ => .ok (.int ks.length) s
    | _ => .bad)
  | .all, [d] => (match rd s d with
    | .lst ds => (match mapB ds with | some bs => .ok (.bl (bs.all id)) s | Option.none => .bad)
    | _ => .bad)
  | .any, [d] => (match rd s d with
    | .lst ds => (match mapB ds with | some bs => .ok (.bl (bs.any id)) s | Option.none => .bad)
    | _ => .bad)
  | .min2, [.int i, .int j] => .ok (.int (if j < i then j else i)) s
  | .max2, [.int i, .int j] => .ok (.int (if j > i then j else i)) s
  | .abs, [.int i] => .ok (.int (if i < 0 then -i else i)) s
  | .int_, [.int i] => .ok (.int i) s
  | .int_, [.bl k] => .ok (.int (if k then 1 else 0)) s
  | .tuple_, [d] => (match rd s d with
    | .lst ds => .ok (.tup ds) s
    | .tup ds => .ok (.tup ds) s
    | _ => .bad)
  | .sorted, [d] => (match rd s d with
    | .lst ds => (match sortD ds with | some ds => fin t ds s | Option.none => .bad)
    | .tup ds => (match sortD ds with | some ds => fin t ds s | Option.none => .bad)
    | .dic ks _ => (match sortD ks with | some ds => fin t ds s | Option.none => .bad)
    | _ => .bad)
  | .dict_, [d] => (match rd s d with
    | .lst ds => (match dPuts [] [] ds with | some (ks, vs) => finD t ks vs s | Option.none => .bad)
    | .tup ds => (match dPuts [] [] ds with | some (ks, vs) => finD t ks vs s | Option.none => .bad)
    | _ => .bad)
  | .list_, [d] => (match rd s d with
    | .lst ds => fin t ds s
    | .tup ds => fin t ds s
    | .dic ks _ => fin t ks s
    | _ => .bad)
  | _, _ => .bad

def isLstR (s : St) : D → Bool
  | .ref r => (match s[r]? with
    | some (.lst _) => true
    | _ => false)
  | _ => false
def isDicR (s : St) (x : D) : Bool :=
  match rd s x with
  | .dic _ _ => true
  | _ => false
def chk {α : Type} (b : Bool) (r : R α) : R α := if b then r else .bad
def popD (x i : D) (s : St) : R D :=
  match x, i with
  | .ref r, .int k => (match s[r]? with
    | some (.lst ds) => (match ixN ds.length k with
      | some j => (match ds[j]? with
        | some d => if ds.length ≤ sizeLine then .ok d (s.set r (.lst (ds.eraseIdx j))) else .bad
        | Option.none => .bad)
      | Option.none => .bad)
    | _ => .bad)
  | _, _ => .bad
def getD_ (x k d : D) (s : St) : R D :=
  match rd s x with
  | .dic ks vs => if kOk ks k then .ok ((dGet ks vs k).getD d) s else .bad
  | _ => .bad
def dpopD (x k d : D) (s : St) : R D :=
  match x with
  | .ref r => (match s[r]? with
    | some (.dic ks vs) => if kOk ks k then (match dGet ks vs k with
      | some v => .ok v (s.set r (.dic (dDel ks vs k).1 (dDel ks vs k).2))
      | Option.none => .ok d s) else .bad
    | _ => .bad)
  | _ => .bad
/-- what stands in a list, a tuple -/
def seqD (s : St) (x : D) : Option (List D) :=
  match rd s x with
  | .lst ds => some ds
  | .tup ds => some ds
  | _ => Option.none
def sortsD (t : Bool) (x : D) (s : St) : R D :=
  match seqD s x with
  | some ds => if ds.all (fun d => keyOk d && decide (depth d ≤ 8)) then (match sortD (dedup [] ds) with
    | some r => if sortOk ds then fin t r s else .bad
    | Option.none => .bad) else .bad
  | Option.none => .bad
def fstD : D → Option D
  | .tup (a :: _) => some a
  | _ => Option.none
def leF (x y : D) : Bool := match fstD x, fstD y with
  | some a, some b => leD a b
  | _, _ => true
def sort0D (t : Bool) (x : D) (s : St) : R D :=
  match seqD s x with
  | some ds => (match ds.mapM fstD with
    | some ks => if sortOk ks && decide (ds.length ≤ sizeLine) then fin t (ds.mergeSort leF) s else .bad
    | Option.none => .bad)
  | Option.none => .bad
def sortiD (t : Bool) (x : D) (s : St) : R D :=
  match rd s x with
  | .dic ks vs => (match sortD (pairsD ks vs) with
    | some ds => fin t ds s
    | Option.none => .bad)
  | _ => .bad
def isinD (x : D) (ts : List Nat) (s : St) : R D := if kindKnown s x then .ok (.bl (ts.any fun t => isT s t x)) s else .bad

def recvOk (m : Mth) (x : D) (_ : St) : Bool :=
  match m, x with
  | .join, .str _ => true
  | _, _ => false
def joinT (a : List Nat) : List (List Nat) → List Nat
  | [] => []
  | [x] => x
  | x :: y :: r => x ++ a ++ joinT a (y :: r)
def lenSum (n : Nat) : List (List Nat) → Nat
  | [] => 0
  | x :: r => x.length + n + lenSum n r
def methD (m : Mth) (o : D) (xs : List D) (s : St) : R D :=
  match m, o, xs with
  | .join, .str a, [d] => (match rd s d with
    | .lst ds => (match strsOf ds with | some ys => if lenSum a.length ys ≤ 16777216 then .ok (.str (joinT a ys)) s else .bad | Option.none => .bad)
    | _ => .bad)
  | _, _, _ => .bad

/-- what a loop walks, of a value -/
def iterD : D → Option (List D)
  | .tup ds => some ds
  | .lst ds => some ds
  | .str z => if z.length ≤ sizeLine then some (z.map fun c => .str [c]) else Option.none
  | .scr ns => some (ns.map .int)
  | .dic ks _ => some ks
  | _ => Option.none
def zipD (xs ys : List D) : List D := List.zipWith (fun x y => D.tup [x, y]) xs ys
/-- what zip draws of -/
def iterZ : D → Option (List D)
  | .tup ds => some ds
  | .lst ds => some ds
  | .str z => if z.length ≤ sizeLine then some (z.map fun c => .str [c]) else Option.none
  | _ => Option.none
def far : Int := 4611686018427387904
def itK (k : ItK) (xs : List D) : Option (List D) :=
  match k, xs with
  | .val, [w] => iterD w
  | .range1, [.int n] => if -far ≤ n ∧ n ≤ sizeLine then some ((List.range n.toNat).map fun i : Nat => D.int i) else Option.none
  | .range2, [.int a, .int b] => if -far ≤ a ∧ a < far ∧ -far ≤ b ∧ b < far ∧ b - a ≤ sizeLine then some ((List.range (b - a).toNat).map fun i : Nat => D.int (a + i)) else Option.none
  | .zip, [a, b] => (match iterZ a, iterZ b with
    | some xs, some ys => some (zipD xs ys)
    | _, _ => Option.none)
  | .items, [.dic ks vs] => some (pairsD ks vs)
  | .values, [.dic _ vs] => some vs
  | _, _ => Option.none

def setAll : List Nat → List D → Env → Option Env
  | [], [], env => some env
  | i :: is, d :: ds, env => setAll is ds (env.set i (some d))
  | _, _, _ => Option.none
def bindP : Pat → D → Env → Option Env
  | .s i, d, env => some (env.set i (some d))
  | .t is, .tup ds, env => setAll is ds env
  | .st is j, .tup ds, env => if is.length ≤ ds.length then setAll (is ++ [j]) (ds.take is.length ++ [.lst (ds.drop is.length)]) env else Option.none
  | _, _, _ => Option.none
def Pat.slots : Pat → List Nat
  | .s i => [i]
  | .t is => is
  | .st is j => is ++ [j]
def wipe (env : Env) : List Nat → Env
  | [] => env
  | i :: is => (wipe env is).set i Option.none

/-- nothing raised -/
def R.noErr {α : Type} : R α → R α
  | .err _ _ => .bad
  | r => r
@[simp] theorem R.noErr_ok {α : Type} (a : α) (s : St) : (R.ok a s).noErr = .ok a s := rfl
@[simp] theorem R.noErr_bad {α : Type} : (R.bad : R α).noErr = .bad := rfl
@[simp] theorem R.noErr_err {α : Type} (x : Ex) (s : St) : (R.err x s : R α).noErr = .bad := rfl
/-- the elements of a comprehension, one by one -/
def lcR (f : D → St → R (Option D)) : List D → List D → St → R D
  | [], acc, s => .ok (.lst acc) s
  | d :: ds, acc, s => (f d s).bind fun o s => match o with
    | some y => lcR f ds (acc ++ [y]) s
    | Option.none => lcR f ds acc s

def isNop : IE → Bool
  | .nop => true
  | _ => false
/-- the pairs of a dict's display -/
def pairsOf : List D → Option (List D × List D)
  | [] => some ([], [])
  | k :: v :: r => match pairsOf r with
    | some (ks, vs) => some (k :: ks, v :: vs)
    | Option.none => Option.none
  | _ => Option.none
def leafK : D → Bool
  | .int _ => true | .str _ => true
  | _ => false
def noDup : List D → Bool
  | [] => true
  | k :: ks => !(ks.any fun j => D.beq j k) && noDup ks
def asB {α : Type} (d : D) (s : St) (f : Bool → St → R α) : R α :=
  match d with
  | .bl b => f b s
  | _ => .bad

abbrev CF := Nat → List D → St → R D

mutual
def den (cf : CF) : IE → Env → St → R D
  | .nop, _, s => .ok .none s
  | .c d, _, s => .ok d s
  | .v i, env, s => match env[i]? with
    | some (some d) => .ok d s
    | _ => .bad
  | .bin o t a b, env, s => (den cf a env s).bind fun x s => (den cf b env s).bind fun y s => binD o t x y s
  | .neg a, env, s => (den cf a env s).bind fun x s => match x with
    | .int i => .ok (.int (-i)) s
    | _ => .bad
  | .cmp o a b, env, s => (den cf a env s).bind fun x s => (den cf b env s).bind fun y s => cmpD o x y s
  | .chain o1 o2 a b c, env, s => (den cf a env s).bind fun x s => (den cf b env s).bind fun y s => (cmpD o1 x y s).bind fun k s => asB k s fun k s =>
      if k then (den cf c env s).bind fun z s => cmpD o2 y z s else .ok (.bl false) s
  | .and a b, env, s => (den cf a env s).bind fun x s => asB x s fun k s => if k then den cf b env s else .ok (.bl false) s
  | .or a b, env, s => (den cf a env s).bind fun x s => asB x s fun k s => if k then .ok (.bl true) s else den cf b env s
  | .not a, env, s => (den cf a env s).bind fun x s => asB x s fun k s => .ok (.bl (!k)) s
  | .ite c a b, env, s => (den cf c env s).bind fun x s => asB x s fun k s => if k then den cf a env s else den cf b env s
  | .tup es, env, s => (denL cf es env s).bind fun xs s => .ok (.tup xs) s
  | .lst t es, env, s => (denL cf es env s).bind fun xs s => fin t xs s
  | .dic t es, env, s => (denL cf es env s).bind fun xs s => match pairsOf xs with
    | some (ks, vs) => if ks.all leafK && noDup ks then finD t ks vs s else .bad
    | Option.none => .bad
  | .pop o i, env, s => (den cf o env s).bind fun x s => chk (isLstR s x) ((den cf i env s).bind fun k s => popD x k s)
  | .popl o, env, s => (den cf o env s).bind fun x s => chk (isLstR s x) (popD x (.int (-1)) s)
  | .get o k, env, s => (den cf o env s).bind fun x s => chk (isDicR s x) ((den cf k env s).bind fun k s => getD_ x k .none s)
  | .getd o k d, env, s => (den cf o env s).bind fun x s => chk (isDicR s x) ((den cf k env s).bind fun k s => (den cf d env s).bind fun d s => getD_ x k d s)
  | .dpop o k d, env, s => (den cf o env s).bind fun x s => chk (isDicR s x) ((den cf k env s).bind fun k s => (den cf d env s).bind fun d s => dpopD x k d s)
  | .sorts t e, env, s => (den cf e env s).bind fun x s => sortsD t x s
  | .sort0 t e, env, s => (den cf e env s).bind fun x s => sort0D t x s
  | .sorti t e, env, s => (den cf e env s).bind fun x s => sortiD t x s
  | .isin e ts, env, s => (den cf e env s).bind fun x s => isinD x ts s
  | .sub a i, env, s => (den cf a env s).bind fun x s => (den cf i env s).bind fun y s => subD x y s
  | .sl t a lo hi, env, s => (den cf a env s).bind fun x s => ((den cf lo env s).bind fun l s => partR (isNop lo) l s).bind fun l s => ((den cf hi env s).bind fun h s => partR (isNop hi) h s).bind fun h s => slD t x l h s
  | .call f es, env, s => (denL cf es env s).bind fun xs s => cf f xs s
  | .rev a, env, s => (den cf a env s).bind fun x s => revD x s
  | .callv i es, env, s => match env[i]? with
    | some (some (.fn f)) => (denL cf es env s).bind fun xs s => cf f xs s
    | _ => .bad
  | .blt b t es, env, s => (denL cf es env s).bind fun xs s => bltD b t xs s
  | .meth m o es, env, s => (den cf o env s).bind fun x s => if recvOk m x s then (denL cf es env s).bind fun xs s => methD m x xs s else .bad
  | .lc elt p k its cond, env, s => (denL cf its env s).bind fun ws s => match itK k ws with
    | Option.none => .bad
    | some items => lcR (fun d s => match bindP p d (wipe env p.slots) with
        | Option.none => .bad
        | some env1 => (den cf cond env1 s).noErr.bind fun c s => asB c s fun k s => if k then (den cf elt env1 s).noErr.bind fun y s => .ok (some y) s else .ok Option.none s) items [] s
def denL (cf : CF) : List IE → Env → St → R (List D)
  | [], _, s => .ok [] s
  | e :: es, env, s => (den cf e env s).bind fun x s => (denL cf es env s).bind fun xs s => .ok (x :: xs) s
end

inductive Fl where
  | nx (env : Env) | rt (d : D) | bk (env : Env) | ct (env : Env)
inductive RS where
  | ok (f : Fl) (s : St) | err (x : Ex) (env : Env) (s : St) | bad
def R.toS {α : Type} (r : R α) (env : Env) (f : α → St → RS) : RS :=
  match r with
  | .ok a s => f a s
  | .err x s => .err x env s
  | .bad => .bad
def chkS_ (b : Bool) (r : RS) : RS := if b then r else .bad
def asBS (d : D) (s : St) (f : Bool → St → RS) : RS :=
  match d with
  | .bl b => f b s
  | _ => .bad
def RS.seq : RS → (Env → St → RS) → RS
  | .ok (.nx env) s, f => f env s
  | .ok fl s, _ => .ok fl s
  | .err x env s, _ => .err x env s
  | .bad, _ => .bad

def forR (p : Pat) (body : Env → St → RS) : List D → Env → St → RS
  | [], env, s => .ok (.nx env) s
  | d :: ds, env, s => match bindP p d env with
    | Option.none => .bad
    | some env1 => match body env1 s with
      | .ok (.nx e) s => forR p body ds e s
      | .ok (.ct e) s => forR p body ds e s
      | .ok (.bk e) s => .ok (.nx e) s
      | .ok (.rt d) s => .ok (.rt d) s
      | .err x e s => .err x e s
      | .bad => .bad

/-- so many turns at most -/
def whileR (test body : Env → St → RS) : Nat → Env → St → RS
  | 0, _, _ => .bad
  | n + 1, env, s => match test env s with
    | .ok (.nx env1) s1 => (match body env1 s1 with
      | .ok (.nx e) s => whileR test body n e s
      | .ok (.ct e) s => whileR test body n e s
      | .ok (.bk e) s => .ok (.nx e) s
      | .ok (.rt d) s => .ok (.rt d) s
      | .err x e s => .err x e s
      | .bad => .bad)
    | .ok (.bk env1) s1 => .ok (.nx env1) s1
    | .err x e s => .err x e s
    | _ => .bad
def setAt (o i x : D) (env : Env) (s : St) : RS :=
  match o, i with
  | .ref r, .int k => (match s[r]? with
    | some (.lst ds) => (match ixN ds.length k with
      | some j => if x.pure then .ok (.nx env) (s.set r (.lst (ds.set j x))) else .bad
      | Option.none => .bad)
    | _ => .bad)
  | _, _ => .bad
def setAtD (o i x : D) (env : Env) (s : St) : RS :=
  match o with
  | .ref r => (match s[r]? with
    | some (.dic ks vs) => if kOk ks i && x.pure && decide (ks.length < sizeLine) then .ok (.nx env) (s.set r (.dic (dPut ks vs i x).1 (dPut ks vs i x).2)) else .bad
    | _ => setAt o i x env s)
  | _ => .bad
def appD (o x : D) (env : Env) (s : St) : RS :=
  match o with
  | .ref r => (match s[r]? with
    | some (.lst ds) => if x.pure && decide (ds.length < sizeLine) then .ok (.nx env) (s.set r (.lst (ds ++ [x]))) else .bad
    | _ => .bad)
  | _ => .bad
def extdD (o x : D) (env : Env) (s : St) : RS :=
  match o with
  | .ref r => (match s[r]?, rd s x with
    | some (.lst ds), .lst es => if D.pureL es && decide (ds.length + es.length ≤ sizeLine) then .ok (.nx env) (s.set r (.lst (ds ++ es))) else .bad
    | _, _ => .bad)
  | _ => .bad
def updD (o x : D) (env : Env) (s : St) : RS :=
  match o, x with
  | .ref r, .dic ks' vs' => (match s[r]? with
    | some (.dic ks vs) => if D.pureL vs' && decide (ks'.length = vs'.length) && (ks.all fun k => !isTup k) && (ks'.all fun k => !isTup k) && decide (ks.length + ks'.length < sizeLine) then
        .ok (.nx env) (s.set r (.dic (dMerge ks vs ks' vs').1 (dMerge ks vs ks' vs').2)) else .bad
    | _ => .bad)
  | _, _ => .bad
def freeze (i : Nat) (env : Env) (s : St) : RS :=
  match env[i]? with
  | some (some (.ref r)) => (match s[r]? with
    | some (.lst ds) => .ok (.nx (env.set i (some (.lst ds)))) (s.set r .gone)
    | some (.dic ks vs) => .ok (.nx (env.set i (some (.dic ks vs)))) (s.set r .gone)
    | _ => .bad)
  | _ => .bad

def suV (c : Nat) : SuE → D
  | .k d => d
  | .isx _ m => .bl (m.contains c)
def RS.caught (m : List Nat) (es : List SuE) : RS → RS
  | .err x env s => if m.contains x.cls then (match x.arg with
      | Option.none => .ok (.rt (.lst (es.map (suV x.cls)))) s
      | some _ => .bad) else .err x env s
  | r => r

mutual
def exS (cf : CF) : IS → Env → St → RS
  | .expr e, env, s => (den cf e env s).toS env fun _ s => .ok (.nx env) s
  | .set p e, env, s => (den cf e env s).toS env fun d s => match bindP p d env with
    | some env1 => .ok (.nx env1) s
    | Option.none => .bad
  | .setSub o i e, env, s => (den cf e env s).toS env fun x s => (den cf o env s).toS env fun o s => (den cf i env s).toS env fun i s => setAtD o i x env s
  | .app o e, env, s => (den cf o env s).toS env fun o s => chkS_ (isLstR s o) ((den cf e env s).toS env fun x s => appD o x env s)
  | .extd o e, env, s => (den cf o env s).toS env fun o s => chkS_ (isLstR s o) ((den cf e env s).toS env fun x s => extdD o x env s)
  | .upd o e, env, s => (den cf o env s).toS env fun o s => chkS_ (isDicR s o) ((den cf e env s).toS env fun x s => updD o x env s)
  | .swap o1 i1 o2 i2 e, env, s => (den cf e env s).toS env fun x s => match x with
    | .tup [a, b] => (den cf o1 env s).toS env fun o s => (den cf i1 env s).toS env fun i s => (setAtD o i a env s).seq fun env s =>
        (den cf o2 env s).toS env fun o s => (den cf i2 env s).toS env fun i s => setAtD o i b env s
    | _ => .bad
  | .par i j a b, env, s => (den cf a env s).toS env fun x s => (den cf b env s).toS env fun y s => .ok (.nx ((env.set i (some x)).set j (some y))) s
  | .brk, env, s => .ok (.bk env) s
  | .cnt, env, s => .ok (.ct env) s
  | .whil c body, env, s => whileR (fun env s => (den cf c env s).toS env fun d s => match d with
      | .bl true => .ok (.nx env) s
      | .bl false => .ok (.bk env) s
      | _ => .bad) (fun env s => exB cf body env s) 4096 env s
  | .fz i, env, s => freeze i env s
  | .ife c a b, env, s => (den cf c env s).toS env fun d s => asBS d s fun k s => if k then exB cf a env s else exB cf b env s
  | .forr p k its body, env, s => (denL cf its env s).toS env fun ws s => match itK k ws with
    | Option.none => .bad
    | some items => forR p (fun env s => exB cf body env s) items env s
  | .ret e, env, s => (den cf e env s).toS env fun d s => .ok (.rt d) s
  | .pass, env, s => .ok (.nx env) s
  | .raise c, env, s => .err ⟨c, Option.none⟩ env s
  | .tryR body m _ _ es, env, s => (exB cf body env s).caught m es
def exB (cf : CF) : List IS → Env → St → RS
  | [], env, s => .ok (.nx env) s
  | t :: ts, env, s => (exS cf t env s).seq fun env s => exB cf ts env s
end

structure Fn where
  np : Nat
  ns : Nat
  body : List IS
def start (fn : Fn) (args : List D) : Env := args.map some ++ List.replicate (fn.ns - fn.np) Option.none
def back (s : St) : RS → R D
  | .ok (.rt d) s' => .ok d (s'.take (max s.length d.top))
  | .ok (.nx _) s' => .ok .none (s'.take s.length)
  | .err x _ s' => .err x (s'.take (max s.length (match x.arg with | some a => a.top | Option.none => 0)))
  | _ => .bad
def callF (P : List Fn) : Nat → CF
  | 0, _, _, _ => .bad
  | n + 1, f, args, s => match P[f]? with
    | some fn => if args.length = fn.np then back s (exB (callF P n) fn.body (start fn args) s) else .bad
    | Option.none => .bad
end Fk

set_option Elab.async false
set_option linter.all false
set_option autoImplicit false
set_option maxRecDepth 100000
set_option maxHeartbeats 4000000
/-! FkRel: how data stand in the abstract heap. -/
namespace L3
open PySem PySem.Spec PyProof.Rows L2 Fk

/-- what hangs on the program: the written part, the module's names, the defs by number -/
structure G where
  K : PySem.W.Frag
  mg : PySem.Str → Option Value
  fns : List PySem.Str
  excs : List PySem.Str
  w : World

/-- where the store's objects stand (o); what is in the making, and known to nobody (p) -/
structure Phi where
  o : List (Option Addr)
  p : List Addr
def Live (φ : Phi) (a : Addr) : Prop := (∃ j : Nat, φ.o[j]? = some (some a)) ∨ a ∈ φ.p
def strV (s : List Nat) : PySem.Str := ⟨s.toArray⟩
def tyName : Nat → String
  | 0 => "int" | 1 => "bool" | 2 => "str" | 3 => "tuple" | 4 => "list" | 5 => "dict" | _ => "object"
/-- a tuple that stands: of the written part, or tracked and not live -/
def TupAt (g : G) (H : Hp) (φ : Phi) (a : Addr) (vs : List V) : Prop :=
  (∃ (o : Obj) (its : Array Value) (n : Nat), g.K.lookup a = some o ∧ o.cls = .type "tuple" ∧ o.data = .seq its n ∧ its.size ≤ PySem.sizeLine ∧ Vals vs its.toList) ∨ (¬ Live φ a ∧ H a = some (.tup vs))
theorem TupAt.sq {g : G} {H : Hp} {φ : Phi} {a : Addr} {vs : List V} (h : TupAt g H φ a vs) : SqT g.K H a vs := by
  rcases h with h | ⟨_, h⟩
  · exact .inr h
  · exact SqT.of h
/-- the script -/
def ScrAt (g : G) (H : Hp) (φ : Phi) (a : Addr) (vs : List V) : Prop :=
  (∃ (o : Obj) (its : Array Value) (n : Nat), g.K.lookup a = some o ∧ o.cls = .type "list" ∧ o.dict = none ∧ o.data = .seq its n ∧ its.size ≤ PySem.sizeLine ∧ Vals vs its.toList) ∨ (¬ Live φ a ∧ Rd H a (.lst vs))
theorem ScrAt.sq {g : G} {H : Hp} {φ : Phi} {a : Addr} {vs : List V} (h : ScrAt g H φ a vs) : SqL g.K H a vs := by
  rcases h with h | ⟨_, h⟩
  · exact .inr h
  · exact .inl h

/-- a table of the text, its keys texts -/
def TabAt (g : G) (a : Addr) (ks : List (List Nat)) (us : List V) : Prop :=
  (∃ (es : Array DictEntry) (n : Nat), g.K.lookup a = some ⟨.type "dict", none, .dict es n, #[]⟩ ∧ PySem.W.KeysLit g.w.params es.toList ∧ (a == sysModules) = false ∧ ∀ e ∈ es.toList, ∃ k t, k ∈ ks ∧ e.key = Value.str (strV k) t) ∧
    ∀ (i : Nat) (k : List Nat) (v : V), ks[i]? = some k → us[i]? = some v → ∃ u, PySem.W.nsIn g.K a (strV k) = some (some u) ∧ RelV v u
/-- a dict's object, as it stands -/
def dO (a : Addr) (o : Obj) : HO := .ext fun h => h.get? a = some o
mutual
/-- a datum as a key -/
def keyN : D → NestedKey
  | .int i => .num i
  | .str z => .text (strV z)
  | .tup ds => .tup (keyNL ds)
  | _ => .none
def keyNL : List D → List NestedKey
  | [] => []
  | d :: ds => keyN d :: keyNL ds
end
/-- entries, by keys and values -/
def EntL (w : World) : List D → List V → List V → List DictEntry → Prop
  | [], [], [], [] => True
  | k :: ks, x :: xs, y :: ys, e :: es => e.hash = (keyN k).hash w ∧ RelV x e.key ∧ RelV y e.val ∧ EntL w ks xs ys es
  | _, _, _, _ => False
/-- keys of one dict -/
structure KsOk (ks : List D) : Prop where
  nd : ks.Nodup
  key : ∀ k ∈ ks, keyOk k = true ∧ depth k ≤ 8
  one : ∀ j ∈ ks, ∀ k ∈ ks, isTup j = isTup k
  len : ks.length ≤ PySem.sizeLine
structure DicP (w : World) (a : Addr) (o : Obj) (ks : List D) (xs ys : List V) : Prop where
  sys : (a == sysModules) = false
  ex : o.ExactDict
  ent : ∃ es ep, o.data = .dict es ep ∧ EntL w ks xs ys es.toList
  ks : KsOk ks
mutual
def RepV (g : G) (H : Hp) (φ : Phi) : D → V → Prop
  | .none, v => v = .non
  | .bl b, v => v = .bl b
  | .int i, v => v = .int i
  | .str s, v => v = .str (strV s)
  | .tup ds, v => ∃ a vs, v = .ref a ∧ TupAt g H φ a vs ∧ RepL g H φ ds vs ∧ vs.length ≤ PySem.sizeLine
  | .lst ds, v => ∃ a vs, v = .ref a ∧ ¬ Live φ a ∧ H a = some (.lst vs) ∧ RepL g H φ ds vs ∧ vs.length ≤ PySem.sizeLine
  | .dic ks ds, v => ∃ a o xs ys, v = .ref a ∧ ¬ Live φ a ∧ H a = some (dO a o) ∧ DicP g.w a o ks xs ys ∧ RepL g H φ ks xs ∧ RepL g H φ ds ys
  | .set _, _ => False
  | .scr ns, v => ∃ a, v = .ref a ∧ ScrAt g H φ a (ns.map V.int) ∧ ns.length ≤ PySem.sizeLine
  | .ref i, v => i < φ.o.length ∧ (∃ a, v = .ref a) ∧ ∀ a, φ.o[i]? = some (some a) → v = .ref a
  | .fn f, v => ∃ x a, g.fns[f]? = some x ∧ g.mg x = some (.ref a) ∧ v = .ref a
  | .ty t, v => v = .ty (tyName t)
  | .tab ks ds, v => ∃ a us, v = .ref a ∧ TabAt g a ks us ∧ RepL g H φ ds us ∧ ks.length = us.length
def RepL (g : G) (H : Hp) (φ : Phi) : List D → List V → Prop
  | [], vs => vs = []
  | d :: ds, vs => ∃ v r, vs = v :: r ∧ RepV g H φ d v ∧ RepL g H φ ds r
end

/-- from (H, φ) on to (H', φ') -/
structure Ext (H : Hp) (φ : Phi) (H' : Hp) (φ' : Phi) : Prop where
  len : φ.o.length ≤ φ'.o.length
  old : ∀ (j : Nat) (a : Addr), j < φ.o.length → φ'.o[j]? = some (some a) → φ.o[j]? = some (some a)
  lv : ∀ a : Addr, Live φ' a → Live φ a ∨ H a = none
  keep : ∀ (a : Addr) (o : HO), ¬ Live φ a ∨ a ∈ φ.p → H a = some o → H' a = some o
  dom : ∀ (a : Addr) (o : HO), H a = some o → ∃ o', H' a = some o'
  sub : ∀ a ∈ φ.p, a ∈ φ'.p
theorem Ext.refl {H : Hp} {φ : Phi} : Ext H φ H φ := ⟨Nat.le_refl _, fun _ _ _ h => h, fun _ h => .inl h, fun _ _ _ h => h, fun _ o h => ⟨o, h⟩, fun _ h => h⟩
theorem Ext.live {H H' : Hp} {φ φ' : Phi} (x : Ext H φ H' φ') {a : Addr} {o : HO} (n : ¬ Live φ a) (h : H a = some o) : ¬ Live φ' a := fun l => by
  rcases x.lv a l with q | q
  · exact n q
  · rw [h] at q; cases q
theorem Ext.back {H H' : Hp} {φ φ' : Phi} (x : Ext H φ H' φ') {a : Addr} (h : H' a = none) : H a = none := by
  cases q : H a with
  | none => rfl
  | some o =>
    obtain ⟨o', q'⟩ := x.dom a o q
    rw [h] at q'; cases q'
theorem Ext.trans {H H1 H2 : Hp} {φ φ1 φ2 : Phi} (a : Ext H φ H1 φ1) (b : Ext H1 φ1 H2 φ2) : Ext H φ H2 φ2 where
  len := Nat.le_trans a.len b.len
  old := fun j x hj h => a.old j x hj (b.old j x (Nat.lt_of_lt_of_le hj a.len) h)
  lv := fun x l => by
    rcases b.lv x l with q | q
    · exact a.lv x q
    · exact .inr (a.back q)
  keep := fun x o n h => by
    have h1 := a.keep x o n h
    rcases n with n | n
    · exact b.keep x o (.inl (a.live n h)) h1
    · exact b.keep x o (.inr (a.sub x n)) h1
  dom := fun x o h => let ⟨_, h'⟩ := a.dom x o h; b.dom x _ h'
  sub := fun x h => b.sub x (a.sub x h)

section
variable {g : G} {H H' : Hp} {φ φ' : Phi}
/-- what a value's standing leans on -/
structure Bears (H : Hp) (φ : Phi) (H' : Hp) (φ' : Phi) : Prop where
  keep : ∀ (a : Addr) (o : HO), ¬ Live φ a → H a = some o → H' a = some o ∧ ¬ Live φ' a
  len : φ.o.length ≤ φ'.o.length
  old : ∀ (j : Nat) (a : Addr), j < φ.o.length → φ'.o[j]? = some (some a) → φ.o[j]? = some (some a)
theorem Ext.bears (x : Ext H φ H' φ') : Bears H φ H' φ' := ⟨fun a o n h => ⟨x.keep a o (.inl n) h, x.live n h⟩, x.len, x.old⟩
theorem TupAt.bear (x : Bears H φ H' φ') {a : Addr} {vs : List V} (h : TupAt g H φ a vs) : TupAt g H' φ' a vs := by
  rcases h with h | ⟨n, h⟩
  · exact .inl h
  · exact .inr ⟨(x.keep a _ n h).2, (x.keep a _ n h).1⟩
theorem ScrAt.bear (x : Bears H φ H' φ') {a : Addr} {vs : List V} (h : ScrAt g H φ a vs) : ScrAt g H' φ' a vs := by
  rcases h with h | ⟨n, h⟩
  · exact .inl h
  · rcases h with h | ⟨o, h⟩
    · exact .inr ⟨(x.keep a _ n h).2, .inl (x.keep a _ n h).1⟩
    · exact .inr ⟨(x.keep a _ n h).2, .inr ⟨o, (x.keep a _ n h).1⟩⟩
theorem TupAt.ext (x : Ext H φ H' φ') {a : Addr} {vs : List V} (h : TupAt g H φ a vs) : TupAt g H' φ' a vs := h.bear x.bears
theorem ScrAt.ext (x : Ext H φ H' φ') {a : Addr} {vs : List V} (h : ScrAt g H φ a vs) : ScrAt g H' φ' a vs := h.bear x.bears
mutual
theorem RepV.bear (x : Bears H φ H' φ') : ∀ (d : D) {v : V}, RepV g H φ d v → RepV g H' φ' d v
  | .none, _, h => h
  | .bl _, _, h => h
  | .int _, _, h => h
  | .str _, _, h => h
  | .ty _, _, h => h
  | .fn _, _, h => h
  | .set _, _, h => by unfold RepV at h; exact h.elim
  | .tup ds, _, h => by
    unfold RepV at h ⊢
    obtain ⟨a, vs, e, t, r, z⟩ := h
    exact ⟨a, vs, e, t.bear x, RepL.bear x ds r, z⟩
  | .lst ds, _, h => by
    unfold RepV at h ⊢
    obtain ⟨a, vs, e, n, t, r, z⟩ := h
    exact ⟨a, vs, e, (x.keep a _ n t).2, (x.keep a _ n t).1, RepL.bear x ds r, z⟩
  | .dic ks vs, _, h => by
    unfold RepV at h ⊢
    obtain ⟨a, o, xs, ys, e, n, t, p, r1, r2⟩ := h
    exact ⟨a, o, xs, ys, e, (x.keep a _ n t).2, (x.keep a _ n t).1, p, RepL.bear x ks r1, RepL.bear x vs r2⟩
  | .scr ns, _, h => by
    unfold RepV at h ⊢
    obtain ⟨a, e, t, z⟩ := h
    exact ⟨a, e, t.bear x, z⟩
  | .ref i, _, h => by
    unfold RepV at h ⊢
    obtain ⟨l, e, t⟩ := h
    exact ⟨Nat.lt_of_lt_of_le l x.len, e, fun a ha => t a (x.old i a l ha)⟩
  | .tab ks ds, _, h => by
    unfold RepV at h ⊢
    obtain ⟨a, us, e, t, r, z⟩ := h
    exact ⟨a, us, e, t, RepL.bear x ds r, z⟩
theorem RepL.bear (x : Bears H φ H' φ') : ∀ (ds : List D) {vs : List V}, RepL g H φ ds vs → RepL g H' φ' ds vs
  | [], _, h => h
  | d :: ds, _, h => by
    unfold RepL at h ⊢
    obtain ⟨v, r, e, h1, h2⟩ := h
    exact ⟨v, r, e, RepV.bear x d h1, RepL.bear x ds h2⟩
end
theorem RepV.ext (x : Ext H φ H' φ') (d : D) {v : V} (h : RepV g H φ d v) : RepV g H' φ' d v := RepV.bear x.bears d h
theorem RepL.ext (x : Ext H φ H' φ') (ds : List D) {vs : List V} (h : RepL g H φ ds vs) : RepL g H' φ' ds vs := RepL.bear x.bears ds h
def Phi.cut (φ : Phi) (k : Nat) : Phi := ⟨φ.o.take k, φ.p⟩
def Phi.add (φ : Phi) (a : Addr) : Phi := ⟨φ.o ++ [some a], φ.p⟩
def Phi.fz (φ : Phi) (i : Nat) : Phi := ⟨φ.o.set i Option.none, φ.p⟩
def Phi.hide (φ : Phi) (a : Addr) : Phi := ⟨φ.o, a :: φ.p⟩
theorem live_cut {k : Nat} {a : Addr} (l : Live (φ.cut k) a) : Live φ a := by
  rcases l with ⟨j, hj⟩ | l
  · refine .inl ⟨j, ?_⟩
    unfold Phi.cut at hj
    simp only [List.getElem?_take] at hj
    split at hj <;> simp_all
  · exact .inr l
mutual
/-- the store is cut above all that is named -/
theorem RepV.take {k : Nat} : ∀ (d : D) {v : V}, RepV g H φ d v → d.top ≤ k → RepV g H (φ.cut k) d v
  | .none, _, h, _ => h
  | .bl _, _, h, _ => h
  | .int _, _, h, _ => h
  | .str _, _, h, _ => h
  | .ty _, _, h, _ => h
  | .fn _, _, h, _ => h
  | .set _, _, h, _ => by unfold RepV at h; exact h.elim
  | .tup ds, _, h, t => by
    unfold RepV at h ⊢
    obtain ⟨a, vs, e, q, r, z⟩ := h
    refine ⟨a, vs, e, ?_, RepL.take ds r (by unfold D.top at t; exact t), z⟩
    rcases q with q | ⟨n, q⟩
    · exact .inl q
    · exact .inr ⟨fun l => n (live_cut l), q⟩
  | .lst ds, _, h, t => by
    unfold RepV at h ⊢
    obtain ⟨a, vs, e, n, q, r, z⟩ := h
    exact ⟨a, vs, e, fun l => n (live_cut l), q, RepL.take ds r (by unfold D.top at t; exact t), z⟩
  | .dic ks vs, _, h, t => by
    unfold RepV at h ⊢
    unfold D.top at t
    obtain ⟨a, o, xs, ys, e, n, q, p, r1, r2⟩ := h
    exact ⟨a, o, xs, ys, e, fun l => n (live_cut l), q, p, RepL.take ks r1 (by omega), RepL.take vs r2 (by omega)⟩
  | .scr ns, _, h, _ => by
    unfold RepV at h ⊢
    obtain ⟨a, e, q, z⟩ := h
    refine ⟨a, e, ?_, z⟩
    rcases q with q | ⟨n, q⟩
    · exact .inl q
    · exact .inr ⟨fun l => n (live_cut l), q⟩
  | .ref i, _, h, t => by
    unfold RepV at h ⊢
    obtain ⟨l, e, q⟩ := h
    unfold D.top at t
    refine ⟨by show i < (φ.o.take k).length; rw [List.length_take]; omega, e, fun a ha => q a ?_⟩
    have ha' : (φ.o.take k)[i]? = some (some a) := ha
    rw [List.getElem?_take] at ha'
    split at ha' <;> simp_all
  | .tab ks ds, _, h, t => by
    unfold RepV at h ⊢
    obtain ⟨a, us, e, q, r, z⟩ := h
    exact ⟨a, us, e, q, RepL.take ds r (by unfold D.top at t; exact t), z⟩
theorem RepL.take {k : Nat} : ∀ (ds : List D) {vs : List V}, RepL g H φ ds vs → D.topL ds ≤ k → RepL g H (φ.cut k) ds vs
  | [], _, h, _ => h
  | d :: ds, _, h, t => by
    unfold RepL at h ⊢
    obtain ⟨v, r, e, h1, h2⟩ := h
    unfold D.topL at t
    exact ⟨v, r, e, RepV.take d h1 (by omega), RepL.take ds h2 (by omega)⟩
end
theorem RepL.length : ∀ {ds : List D} {vs : List V}, RepL g H φ ds vs → ds.length = vs.length
  | [], _, h => by unfold RepL at h; subst h; rfl
  | d :: ds, _, h => by
    unfold RepL at h
    obtain ⟨v, r, rfl, _, h2⟩ := h
    have := RepL.length h2
    simp [this]
theorem RepL.get : ∀ {ds : List D} {vs : List V} {i : Nat} {d : D}, RepL g H φ ds vs → ds[i]? = some d → ∃ v, vs[i]? = some v ∧ RepV g H φ d v
  | [], _, _, _, _, e => by simp at e
  | d :: ds, _, i, x, h, e => by
    unfold RepL at h
    obtain ⟨v, r, rfl, h1, h2⟩ := h
    cases i with
    | zero => simp at e; subst e; exact ⟨v, rfl, h1⟩
    | succ i =>
      obtain ⟨u, hu, q⟩ := RepL.get (i := i) h2 (by simpa using e)
      exact ⟨u, by simpa using hu, q⟩
theorem RepL.append : ∀ {ds es : List D} {vs us : List V}, RepL g H φ ds vs → RepL g H φ es us → RepL g H φ (ds ++ es) (vs ++ us)
  | [], _, _, _, h, q => by unfold RepL at h; subst h; exact q
  | d :: ds, _, _, _, h, q => by
    unfold RepL at h
    obtain ⟨v, r, rfl, h1, h2⟩ := h
    show RepL g H φ (d :: (ds ++ _)) (v :: (r ++ _))
    unfold RepL
    exact ⟨v, _, rfl, h1, RepL.append h2 q⟩
theorem RepL.set : ∀ {ds : List D} {vs : List V} (i : Nat) {d : D} {v : V}, RepL g H φ ds vs → RepV g H φ d v → RepL g H φ (ds.set i d) (vs.set i v)
  | [], _, _, _, _, h, _ => by unfold RepL at h; subst h; simp [RepL]
  | x :: ds, _, i, d, v, h, q => by
    unfold RepL at h
    obtain ⟨u, r, rfl, h1, h2⟩ := h
    cases i with
    | zero => simp only [List.set_cons_zero]; unfold RepL; exact ⟨v, r, rfl, q, h2⟩
    | succ i => simp only [List.set_cons_succ]; unfold RepL; exact ⟨u, _, rfl, h1, RepL.set i h2 q⟩
theorem RepL.takeN : ∀ {ds : List D} {vs : List V} (n : Nat), RepL g H φ ds vs → RepL g H φ (ds.take n) (vs.take n)
  | _, _, 0, _ => by simp [RepL]
  | [], _, n + 1, h => by unfold RepL at h; subst h; simp [RepL]
  | d :: ds, _, n + 1, h => by
    unfold RepL at h
    obtain ⟨v, r, rfl, h1, h2⟩ := h
    simp only [List.take_succ_cons]
    unfold RepL
    exact ⟨v, _, rfl, h1, RepL.takeN n h2⟩
theorem RepL.dropN : ∀ {ds : List D} {vs : List V} (n : Nat), RepL g H φ ds vs → RepL g H φ (ds.drop n) (vs.drop n)
  | _, _, 0, h => by simpa using h
  | [], _, n + 1, h => by unfold RepL at h; subst h; simp [RepL]
  | d :: ds, _, n + 1, h => by
    unfold RepL at h
    obtain ⟨v, r, rfl, h1, h2⟩ := h
    simp only [List.drop_succ_cons]
    exact RepL.dropN n h2
mutual
/-- what holds no reference hangs on no live object -/
theorem RepV.phi {φ2 : Phi} (hl : ∀ a, Live φ2 a → Live φ a) : ∀ (d : D) {v : V}, RepV g H φ d v → d.pure = true → RepV g H φ2 d v
  | .none, _, h, _ => h
  | .bl _, _, h, _ => h
  | .int _, _, h, _ => h
  | .str _, _, h, _ => h
  | .ty _, _, h, _ => h
  | .fn _, _, h, _ => h
  | .set _, _, h, _ => by unfold RepV at h; exact h.elim
  | .tup ds, _, h, p => by
    unfold RepV at h ⊢
    obtain ⟨a, vs, e, q, r, z⟩ := h
    refine ⟨a, vs, e, ?_, RepL.phi hl ds r (by unfold D.pure at p; exact p), z⟩
    rcases q with q | ⟨n, q⟩
    · exact .inl q
    · exact .inr ⟨fun z => n (hl a z), q⟩
  | .lst ds, _, h, p => by
    unfold RepV at h ⊢
    obtain ⟨a, vs, e, n, q, r, z⟩ := h
    exact ⟨a, vs, e, fun z => n (hl a z), q, RepL.phi hl ds r (by unfold D.pure at p; exact p), z⟩
  | .dic ks vs, _, h, t => by
    unfold RepV at h ⊢
    unfold D.pure at t
    rw [Bool.and_eq_true] at t
    obtain ⟨a, o, xs, ys, e, n, q, p, r1, r2⟩ := h
    exact ⟨a, o, xs, ys, e, fun z => n (hl a z), q, p, RepL.phi hl ks r1 t.1, RepL.phi hl vs r2 t.2⟩
  | .scr ns, _, h, _ => by
    unfold RepV at h ⊢
    obtain ⟨a, e, q, z⟩ := h
    refine ⟨a, e, ?_, z⟩
    rcases q with q | ⟨n, q⟩
    · exact .inl q
    · exact .inr ⟨fun z => n (hl a z), q⟩
  | .ref i, _, _, p => by unfold D.pure at p; cases p
  | .tab ks ds, _, h, p => by
    unfold RepV at h ⊢
    obtain ⟨a, us, e, q, r, z⟩ := h
    exact ⟨a, us, e, q, RepL.phi hl ds r (by unfold D.pure at p; exact p), z⟩
theorem RepL.phi {φ2 : Phi} (hl : ∀ a, Live φ2 a → Live φ a) : ∀ (ds : List D) {vs : List V}, RepL g H φ ds vs → D.pureL ds = true → RepL g H φ2 ds vs
  | [], _, h, _ => h
  | d :: ds, _, h, p => by
    unfold RepL at h ⊢
    obtain ⟨v, r, e, h1, h2⟩ := h
    unfold D.pureL at p
    rw [Bool.and_eq_true] at p
    exact ⟨v, r, e, RepV.phi hl d h1 p.1, RepL.phi hl ds h2 p.2⟩
end

/-! ### the store -/
/-- an object of the store stands at a -/
def ObR (g : G) (H : Hp) (φ : Phi) : O → Addr → Prop
  | .gone, _ => False
  | .lst ds, a => ∃ vs, H a = some (.lst vs) ∧ RepL g H φ ds vs ∧ D.pureL ds = true ∧ vs.length ≤ PySem.sizeLine
  | .dic ks ds, a => ∃ o xs ys, H a = some (dO a o) ∧ DicP g.w a o ks xs ys ∧ RepL g H φ ks xs ∧ RepL g H φ ds ys ∧ D.pureL ks = true ∧ D.pureL ds = true
theorem ObR.move {o : O} {a : Addr} (h : ObR g H φ o a) (k : ∀ u, H a = some u → H' a = some u) (f : ∀ ds vs, RepL g H φ ds vs → D.pureL ds = true → RepL g H' φ' ds vs) : ObR g H' φ' o a := by
  cases o with
  | gone => exact h
  | lst ds =>
    obtain ⟨vs, h1, h2, h3, h4⟩ := h
    exact ⟨vs, k _ h1, f _ _ h2 h3, h3, h4⟩
  | dic ks ds =>
    obtain ⟨o, xs, ys, h1, h2, h3, h4, h5, h6⟩ := h
    exact ⟨o, xs, ys, k _ h1, h2, f _ _ h3 h5, f _ _ h4 h6, h5, h6⟩
theorem ObR.there {o : O} {a : Addr} (h : ObR g H φ o a) : ∃ u, H a = some u := by
  cases o with
  | gone => exact h.elim
  | lst ds => obtain ⟨vs, h1, _⟩ := h; exact ⟨_, h1⟩
  | dic ks ds => obtain ⟨o, xs, ys, h1, _⟩ := h; exact ⟨_, h1⟩
structure Rep (g : G) (H : Hp) (φ : Phi) (s : Fk.St) : Prop where
  len : φ.o.length = s.length
  gone : ∀ i : Nat, s[i]? = some O.gone → φ.o[i]? = some none
  obj : ∀ (i : Nat) (o : O), s[i]? = some o → o ≠ .gone → ∃ a, φ.o[i]? = some (some a) ∧ ObR g H φ o a
  inj : ∀ (i j : Nat) (a : Addr), φ.o[i]? = some (some a) → φ.o[j]? = some (some a) → i = j
  priv : ∀ a ∈ φ.p, ∃ o, H a = some o
  sep : ∀ (i : Nat) (a : Addr), φ.o[i]? = some (some a) → a ∉ φ.p
theorem Rep.lst {s : Fk.St} (r : Rep g H φ s) (i : Nat) (ds : List D) (e : s[i]? = some (.lst ds)) : ∃ a vs, φ.o[i]? = some (some a) ∧ H a = some (.lst vs) ∧ RepL g H φ ds vs ∧ D.pureL ds = true ∧ vs.length ≤ PySem.sizeLine := by
  obtain ⟨a, h1, vs, h2⟩ := r.obj i _ e (fun q => nomatch q)
  exact ⟨a, vs, h1, h2⟩
theorem Rep.dic {s : Fk.St} (r : Rep g H φ s) (i : Nat) (ks ds : List D) (e : s[i]? = some (.dic ks ds)) : ∃ a o xs ys, φ.o[i]? = some (some a) ∧ H a = some (dO a o) ∧ DicP g.w a o ks xs ys ∧ RepL g H φ ks xs ∧ RepL g H φ ds ys ∧ D.pureL ks = true ∧ D.pureL ds = true := by
  obtain ⟨a, h1, o, xs, ys, h2⟩ := r.obj i _ e (fun q => nomatch q)
  exact ⟨a, o, xs, ys, h1, h2⟩
theorem Rep.there {s : Fk.St} (r : Rep g H φ s) {i : Nat} {a : Addr} (hi : φ.o[i]? = some (some a)) : ∃ u, H a = some u := by
  have hl : i < s.length := by
    rw [← r.len]
    exact (List.getElem?_eq_some_iff.mp hi).1
  cases q : s[i]? with
  | none => rw [List.getElem?_eq_none_iff] at q; omega
  | some o =>
    by_cases g : o = .gone
    · subst g
      have := r.gone i q; rw [hi] at this; cases this
    · obtain ⟨b, h1, h2⟩ := r.obj i o q g
      rw [hi] at h1; cases h1
      exact h2.there
theorem Rep.notLive {s : Fk.St} (r : Rep g H φ s) {a : Addr} (h : H a = none) : ¬ Live φ a := by
  rintro (⟨i, hi⟩ | l)
  · obtain ⟨_, q⟩ := r.there hi
    rw [h] at q; cases q
  · obtain ⟨o, q⟩ := r.priv a l
    rw [h] at q; cases q
/-- as it is, upon what bears it -/
theorem Rep.bear {s : Fk.St} (r : Rep g H φ s) (x : Bears H φ H' φ') (ho : φ'.o = φ.o) (hp : ∀ a ∈ φ'.p, (a ∈ φ.p ∨ H a = none) ∧ ∃ o, H' a = some o) (k : ∀ (i : Nat) (a : Addr) (o : HO), φ.o[i]? = some (some a) → H a = some o → H' a = some o) : Rep g H' φ' s where
  len := by rw [ho]; exact r.len
  gone := by rw [ho]; exact r.gone
  obj := fun i o q n => by
    obtain ⟨a, h1, h2⟩ := r.obj i o q n
    exact ⟨a, by rw [ho]; exact h1, h2.move (fun u z => k i a u h1 z) fun ds vs z _ => RepL.bear x ds z⟩
  inj := by rw [ho]; exact r.inj
  priv := fun a h => (hp a h).2
  sep := fun i a h z => by
    rw [ho] at h
    rcases (hp a z).1 with q | q
    · exact r.sep i a h q
    · obtain ⟨_, q'⟩ := r.there h
      rw [q] at q'; cases q'
/-- a new object, not of the store -/
theorem Ext.new_ {s : Fk.St} (r : Rep g H φ s) {p : Addr} (h : H p = none) (o : HO) : Ext H φ (upd H p o) φ where
  len := Nat.le_refl _
  old := fun _ _ _ q => q
  lv := fun _ q => .inl q
  keep := fun a u _ q => by rw [upd_ne (ne_of_none q h)]; exact q
  dom := fun a u q => ⟨u, by rw [upd_ne (ne_of_none q h)]; exact q⟩
  sub := fun _ q => q
theorem Rep.new_ {s : Fk.St} (r : Rep g H φ s) {p : Addr} (h : H p = none) (o : HO) : Rep g (upd H p o) φ s :=
  r.bear (Ext.new_ r h o).bears rfl (fun a q => ⟨.inl q, let ⟨u, z⟩ := r.priv a q; (Ext.new_ r h o).dom a u z⟩) fun i a u _ q => by rw [upd_ne (ne_of_none q h)]; exact q
theorem snoc_get {α : Type} {l : List (Option α)} {b : α} {j : Nat} {a : α} (h : (l ++ [some b])[j]? = some (some a)) : (j < l.length ∧ l[j]? = some (some a)) ∨ (j = l.length ∧ a = b) := by
  by_cases hj : j < l.length
  · rw [List.getElem?_append_left hj] at h; exact .inl ⟨hj, h⟩
  · rw [List.getElem?_append_right (by omega)] at h
    cases q : j - l.length with
    | zero => rw [q] at h; simp at h; exact .inr ⟨by omega, h.symm⟩
    | succ n => rw [q] at h; simp at h
/-- a new object of the store -/
theorem Ext.alloc {s : Fk.St} (r : Rep g H φ s) {p : Addr} (h : H p = none) (o : HO) : Ext H φ (upd H p o) (φ.add p) where
  len := by simp [Phi.add]
  old := fun j a hj q => by
    have q' : (φ.o ++ [some p])[j]? = some (some a) := q
    rw [List.getElem?_append_left hj] at q'; exact q'
  lv := fun a l => by
    rcases l with ⟨j, hj⟩ | l
    · rcases snoc_get hj with ⟨_, q⟩ | ⟨_, q⟩
      · exact .inl (.inl ⟨j, q⟩)
      · subst q; exact .inr h
    · exact .inl (.inr l)
  keep := fun a u _ q => by rw [upd_ne (ne_of_none q h)]; exact q
  dom := fun a u q => ⟨u, by rw [upd_ne (ne_of_none q h)]; exact q⟩
  sub := fun _ q => q
theorem Rep.alloc {s : Fk.St} (r : Rep g H φ s) {p : Addr} (h : H p = none) {o : O} {u : HO} (ng : o ≠ .gone) (q : Ext H φ (upd H p u) (φ.add p) → ObR g (upd H p u) (φ.add p) o p) : Rep g (upd H p u) (φ.add p) (s ++ [o]) := by
  have x := Ext.alloc r h u
  have nl := r.notLive h
  have g1 : ∀ i : Nat, i < s.length → (φ.add p).o[i]? = φ.o[i]? := fun i hi => by
    show (φ.o ++ [some p])[i]? = _
    rw [List.getElem?_append_left (by rw [r.len]; exact hi)]
  refine ⟨by simp [Phi.add, r.len], fun i e => ?_, fun i o' e ne => ?_, fun i j a e1 e2 => ?_, fun a l => ?_, fun i a e l => ?_⟩
  · by_cases hi : i < s.length
    · rw [List.getElem?_append_left hi] at e
      rw [g1 i hi]
      exact r.gone i e
    · rw [List.getElem?_append_right (by omega)] at e
      cases z : i - s.length with
      | zero => rw [z] at e; simp at e; exact absurd e ng
      | succ n => rw [z] at e; simp at e
  · by_cases hi : i < s.length
    · rw [List.getElem?_append_left hi] at e
      obtain ⟨a, h1, h2⟩ := r.obj i o' e ne
      refine ⟨a, by rw [g1 i hi]; exact h1, h2.move (fun w z => ?_) fun ds vs z _ => RepL.ext x ds z⟩
      rw [upd_ne (ne_of_none z h)]; exact z
    · rw [List.getElem?_append_right (by omega)] at e
      cases z : i - s.length with
      | zero =>
        rw [z] at e; simp at e; subst e
        refine ⟨p, ?_, q x⟩
        show (φ.o ++ [some p])[i]? = _
        rw [List.getElem?_append_right (by rw [r.len]; omega), r.len, z]; rfl
      | succ n => rw [z] at e; simp at e
  · rcases snoc_get e1 with ⟨_, a1⟩ | ⟨a1, b1⟩
    · rcases snoc_get e2 with ⟨_, a2⟩ | ⟨a2, b2⟩
      · exact r.inj i j a a1 a2
      · subst b2; exact absurd (.inl ⟨i, a1⟩) nl
    · rcases snoc_get e2 with ⟨_, a2⟩ | ⟨a2, b2⟩
      · subst b1; exact absurd (.inl ⟨j, a2⟩) nl
      · omega
  · obtain ⟨o, z⟩ := r.priv a l
    exact x.dom a o z
  · rcases snoc_get e with ⟨_, a1⟩ | ⟨a1, b1⟩
    · exact r.sep i a a1 l
    · subst b1; exact nl (.inr l)
/-- an object of the store is written -/
theorem Ext.write {s : Fk.St} (r : Rep g H φ s) {i : Nat} {a : Addr} {o : HO} (h : φ.o[i]? = some (some a)) : Ext H φ (upd H a o) φ where
  len := Nat.le_refl _
  old := fun _ _ _ q => q
  lv := fun _ q => .inl q
  keep := fun b u n q => by
    have : b ≠ a := by
      rintro rfl
      rcases n with n | n
      · exact n (.inl ⟨i, h⟩)
      · exact r.sep i b h n
    rw [upd_ne this]; exact q
  dom := fun b u q => by
    by_cases e : b = a
    · exact ⟨o, by rw [e, upd_same]⟩
    · exact ⟨u, by rw [upd_ne e]; exact q⟩
  sub := fun _ q => q
theorem Rep.write {s : Fk.St} (r : Rep g H φ s) {i : Nat} {a : Addr} {o₀ o : O} {u : HO} (hs : s[i]? = some o₀) (h : φ.o[i]? = some (some a)) (ng : o ≠ .gone) (q : Ext H φ (upd H a u) φ → ObR g (upd H a u) φ o a) : Rep g (upd H a u) φ (s.set i o) := by
  have x : Ext H φ (upd H a u) φ := Ext.write r h
  have hi : i < s.length := (List.getElem?_eq_some_iff.mp hs).1
  refine ⟨by simp [r.len], fun j e => ?_, fun j o' e ne => ?_, r.inj, fun b l => ?_, r.sep⟩
  · by_cases hj : i = j
    · subst hj; rw [List.getElem?_set_self hi] at e; exact absurd (Option.some.inj e) ng
    · rw [List.getElem?_set_ne hj] at e; exact r.gone j e
  · by_cases hj : i = j
    · subst hj; rw [List.getElem?_set_self hi] at e; cases e
      exact ⟨a, h, q x⟩
    · rw [List.getElem?_set_ne hj] at e
      obtain ⟨b, h1, h2⟩ := r.obj j o' e ne
      refine ⟨b, h1, h2.move (fun w z => ?_) fun ds vs z _ => RepL.ext x ds z⟩
      rw [upd_ne (fun z => hj (r.inj i j a h (by rw [← z]; exact h1)))]
      exact z
  · obtain ⟨o, z⟩ := r.priv b l
    exact x.dom b o z
/-- an object of the store is let go: from now on it stands -/
theorem fz_get {i j : Nat} {a : Addr} (h : (φ.fz i).o[j]? = some (some a)) : φ.o[j]? = some (some a) ∧ i ≠ j := by
  have h' : (φ.o.set i none)[j]? = some (some a) := h
  by_cases e : i = j
  · subst e
    by_cases hl : i < φ.o.length
    · rw [List.getElem?_set_self hl] at h'; cases h'
    · rw [List.getElem?_eq_none (by simpa using hl)] at h'; cases h'
  · rw [List.getElem?_set_ne e] at h'; exact ⟨h', e⟩
theorem Ext.freeze {i : Nat} : Ext H φ H (φ.fz i) where
  len := by simp [Phi.fz]
  old := fun j a _ q => (fz_get q).1
  lv := fun a l => by
    rcases l with ⟨j, hj⟩ | l
    · exact .inl (.inl ⟨j, (fz_get hj).1⟩)
    · exact .inl (.inr l)
  keep := fun _ _ _ q => q
  dom := fun _ o q => ⟨o, q⟩
  sub := fun _ q => q
theorem Rep.freezeO {s : Fk.St} (r : Rep g H φ s) {i : Nat} {o : O} (hs : s[i]? = some o) (ng : o ≠ .gone) : Rep g H (φ.fz i) (s.set i .gone) ∧ ∃ a, φ.o[i]? = some (some a) ∧ ¬ Live (φ.fz i) a ∧ ObR g H (φ.fz i) o a := by
  have x : Ext H φ H (φ.fz i) := Ext.freeze
  have hi : i < s.length := (List.getElem?_eq_some_iff.mp hs).1
  have hi2 : i < φ.o.length := by rw [r.len]; exact hi
  obtain ⟨a, h1, h2⟩ := r.obj i o hs ng
  refine ⟨⟨by simp [Phi.fz, r.len], fun j e => ?_, fun j o' e ne => ?_, fun j k b e1 e2 => r.inj j k b (fz_get e1).1 (fz_get e2).1, r.priv, fun j b e => r.sep j b (fz_get e).1⟩, a, h1, ?_, h2.move (fun _ z => z) fun ds vs z _ => RepL.ext x ds z⟩
  · show (φ.o.set i none)[j]? = _
    by_cases hj : i = j
    · subst hj; exact List.getElem?_set_self hi2
    · rw [List.getElem?_set_ne hj] at e ⊢; exact r.gone j e
  · by_cases hj : i = j
    · subst hj; rw [List.getElem?_set_self hi] at e; cases e; exact absurd rfl ne
    · rw [List.getElem?_set_ne hj] at e
      obtain ⟨b, q1, q2⟩ := r.obj j o' e ne
      exact ⟨b, by show (φ.o.set i none)[j]? = _; rw [List.getElem?_set_ne hj]; exact q1, q2.move (fun _ z => z) fun ds vs z _ => RepL.ext x ds z⟩
  · rintro (⟨j, hj⟩ | l)
    · obtain ⟨q1, q2⟩ := fz_get hj
      exact q2 (r.inj i j a h1 q1)
    · exact r.sep i a h1 l
/-- the store is cut -/
theorem Ext.cut {φ0 : Phi} {H0 : Hp} {k : Nat} (x : Ext H0 φ0 H φ) (hk : φ0.o.length ≤ k) : Ext H0 φ0 H (φ.cut k) where
  len := by show _ ≤ (φ.o.take k).length; rw [List.length_take]; have := x.len; omega
  old := fun j a hj q => x.old j a hj (by
    have q' : (φ.o.take k)[j]? = some (some a) := q
    rw [List.getElem?_take] at q'; split at q' <;> simp_all)
  lv := fun a l => x.lv a (live_cut l)
  keep := x.keep
  dom := x.dom
  sub := x.sub
theorem Rep.cut {s : Fk.St} (r : Rep g H φ s) (k : Nat) : Rep g H (φ.cut k) (s.take k) := by
  have t : ∀ {α : Type} (l : List α) (i : Nat) (x : α), (l.take k)[i]? = some x → i < k ∧ l[i]? = some x := fun l i x h => by
    rw [List.getElem?_take] at h
    split at h
    · exact ⟨by assumption, h⟩
    · cases h
  have u : ∀ {α : Type} (l : List α) (i : Nat) (x : α), i < k → l[i]? = some x → (l.take k)[i]? = some x := fun l i x h q => by
    rw [List.getElem?_take, if_pos h]; exact q
  refine ⟨by simp [Phi.cut, r.len], fun j e => ?_, fun j o e n => ?_, fun i j b e1 e2 => r.inj i j b (t _ _ _ e1).2 (t _ _ _ e2).2, r.priv, fun i a e => r.sep i a (t _ _ _ e).2⟩
  · obtain ⟨h, e⟩ := t _ _ _ e
    exact u _ _ _ h (r.gone j e)
  · obtain ⟨h, e⟩ := t _ _ _ e
    obtain ⟨a, h1, h2⟩ := r.obj j o e n
    exact ⟨a, u _ _ _ h h1, h2.move (fun _ z => z) fun ds vs z p => RepL.phi (fun a l => live_cut l) ds z p⟩
/-- an object in the making, known to nobody -/
theorem live_hide {a b : Addr} (l : Live (φ.hide b) a) : Live φ a ∨ a = b := by
  rcases l with l | l
  · exact .inl (.inl l)
  · rcases List.mem_cons.mp l with e | l
    · exact .inr e
    · exact .inl (.inr l)
theorem Ext.hide {p : Addr} (h : H p = none) (o : HO) : Ext H φ (upd H p o) (φ.hide p) where
  len := Nat.le_refl _
  old := fun _ _ _ q => q
  lv := fun a l => by
    rcases live_hide l with q | q
    · exact .inl q
    · subst q; exact .inr h
  keep := fun a u _ q => by rw [upd_ne (ne_of_none q h)]; exact q
  dom := fun a u q => ⟨u, by rw [upd_ne (ne_of_none q h)]; exact q⟩
  sub := fun _ q => List.mem_cons_of_mem _ q
theorem Rep.hide {s : Fk.St} (r : Rep g H φ s) {p : Addr} (h : H p = none) (o : HO) : Rep g (upd H p o) (φ.hide p) s :=
  r.bear (Ext.hide h o).bears rfl (fun a q => by
    rcases List.mem_cons.mp q with e | q
    · subst e; exact ⟨.inr h, o, upd_same⟩
    · exact ⟨.inl q, let ⟨u, z⟩ := r.priv a q; (Ext.hide (φ := φ) h o).dom a u z⟩) fun i a u _ q => by rw [upd_ne (ne_of_none q h)]; exact q
/-- it is written -/
theorem bears_poke {p : Addr} (h : p ∈ φ.p) (o : HO) : Bears H φ (upd H p o) φ := ⟨fun a u n q => ⟨by rw [upd_ne (fun e => n (by rw [e]; exact .inr h))]; exact q, n⟩, Nat.le_refl _, fun _ _ _ q => q⟩
theorem Rep.poke {s : Fk.St} (r : Rep g H φ s) {p : Addr} (h : p ∈ φ.p) (o : HO) : Rep g (upd H p o) φ s :=
  r.bear (bears_poke h o) rfl (fun a q => ⟨.inl q, by
    by_cases e : a = p
    · exact ⟨o, by rw [e, upd_same]⟩
    · obtain ⟨u, z⟩ := r.priv a q; exact ⟨u, by rw [upd_ne e]; exact z⟩⟩) fun i a u e q => by
    rw [upd_ne (fun z => r.sep i a e (by rw [z]; exact h))]; exact q
theorem Ext.poke {H0 : Hp} {φ0 : Phi} (x : Ext H0 φ0 H φ) {p : Addr} (h : H0 p = none) (o : HO) : Ext H0 φ0 (upd H p o) φ where
  len := x.len
  old := x.old
  lv := x.lv
  keep := fun a u n q => by rw [upd_ne (ne_of_none q h)]; exact x.keep a u n q
  dom := fun a u q => by rw [upd_ne (ne_of_none q h)]; exact x.dom a u q
  sub := x.sub
/-- it is shown: from now on it stands -/
theorem bears_show {q : List Addr} (h : ∀ a ∈ q, a ∈ φ.p) : Bears H φ H ⟨φ.o, q⟩ := ⟨fun a u n z => ⟨z, fun l => n (by
  rcases l with l | l
  · exact .inl l
  · exact .inr (h a l))⟩, Nat.le_refl _, fun _ _ _ z => z⟩
theorem Rep.show_ {s : Fk.St} (r : Rep g H φ s) {q : List Addr} (h : ∀ a ∈ q, a ∈ φ.p) : Rep g H ⟨φ.o, q⟩ s :=
  r.bear (bears_show h) rfl (fun a z => ⟨.inl (h a z), r.priv a (h a z)⟩) fun _ _ _ _ z => z
theorem Ext.show_ {H0 : Hp} {φ0 : Phi} (x : Ext H0 φ0 H φ) (h : ∀ a ∈ φ0.p, a ∈ φ.p) : Ext H0 φ0 H ⟨φ.o, φ0.p⟩ where
  len := x.len
  old := x.old
  lv := fun a l => x.lv a (by
    rcases l with l | l
    · exact .inl l
    · exact .inr (h a l))
  keep := x.keep
  dom := x.dom
  sub := fun _ z => z

/-! ### the frame -/
structure RepE (g : G) (H : Hp) (φ : Phi) (env : Fk.Env) (σ : L2.St) : Prop where
  len : env.length = σ.length
  at_ : ∀ (i : Nat) (d : D), env[i]? = some (some d) → ∃ v, σ[i]? = some (some v) ∧ RepV g H φ d v
theorem RepE.ext {env : Fk.Env} {σ : L2.St} (x : Ext H φ H' φ') (r : RepE g H φ env σ) : RepE g H' φ' env σ :=
  ⟨r.len, fun i d e => let ⟨v, h1, h2⟩ := r.at_ i d e; ⟨v, h1, RepV.ext x d h2⟩⟩
theorem RepE.set {env : Fk.Env} {σ : L2.St} (r : RepE g H φ env σ) (i : Nat) {d : D} {v : V} (h : RepV g H φ d v) : RepE g H φ (env.set i (some d)) (σ.set i (some v)) := by
  refine ⟨by simp [r.len], fun j x e => ?_⟩
  by_cases hj : i = j
  · subst hj
    by_cases hl : i < env.length
    · rw [List.getElem?_set_self hl] at e
      cases e
      exact ⟨v, List.getElem?_set_self (by rw [← r.len]; exact hl), h⟩
    · rw [List.getElem?_eq_none (by simpa using hl)] at e; cases e
  · rw [List.getElem?_set_ne hj] at e ⊢; exact r.at_ j x e
theorem RepE.unset {env : Fk.Env} {σ : L2.St} (r : RepE g H φ env σ) (i : Nat) : RepE g H φ (env.set i none) (σ.set i none) := by
  refine ⟨by simp [r.len], fun j x e => ?_⟩
  by_cases hj : i = j
  · subst hj
    by_cases hl : i < env.length
    · rw [List.getElem?_set_self hl] at e; cases e
    · rw [List.getElem?_eq_none (by simpa using hl)] at e; cases e
  · rw [List.getElem?_set_ne hj] at e ⊢; exact r.at_ j x e
theorem RepE.wipe {env : Fk.Env} {σ : L2.St} (r : RepE g H φ env σ) : ∀ is : List Nat, RepE g H φ (Fk.wipe env is) (L2.wipe σ is)
  | [] => r
  | i :: is => by unfold Fk.wipe L2.wipe; exact (RepE.wipe r is).unset i
end
end L3

set_option Elab.async false
set_option linter.all false
set_option autoImplicit false
set_option maxRecDepth 100000
set_option maxHeartbeats 4000000
/-! FkOps: what is told of a result; the operations by values. -/
namespace L3
open PySem PySem.Spec PyProof.Rows L2 Fk

/-- how an exception lies -/
def ExR (g : G) (H : Hp) (φ : Phi) (x : Ex) (cls : Value) (d : Option Addr) : Prop :=
  ∃ nm C, g.excs[x.cls]? = some nm ∧ g.mg nm = some (.ref C) ∧ cls = .ref C ∧
    (match x.arg with
     | none => d = none
     | some a => ∃ dd v, d = some dd ∧ H dd = some (.xd [(("name" : PySem.Str), v)]) ∧ RepV g H φ a v)

def PostR {α β : Type} (ρ : Hp → Phi → α → β → Prop) (g : G) (H : Hp) (φ : Phi) (r : R α) (Q : β → Hp → Prop) (E : XK) : Prop :=
  match r with
  | .ok a s => ∀ b H' φ', Ext H φ H' φ' → Rep g H' φ' s → ρ H' φ' a b → Q b H'
  | .err x s => ∀ cls d H' φ', Ext H φ H' φ' → Rep g H' φ' s → ExR g H' φ' x cls d → E cls d H'
  | .bad => False
section
variable {α β γ δ : Type} {ρ : Hp → Phi → α → β → Prop} {ρ1 : Hp → Phi → γ → δ → Prop} {g : G} {H H' : Hp} {φ φ' : Phi} {r : R α} {Q : β → Hp → Prop} {E : XK}
theorem PostR.ext (p : PostR ρ g H φ r Q E) (x : Ext H φ H' φ') : PostR ρ g H' φ' r Q E := by
  cases r with
  | ok a s => exact fun b H2 φ2 y => p b H2 φ2 (x.trans y)
  | err e s => exact fun c d H2 φ2 y => p c d H2 φ2 (x.trans y)
  | bad => exact p
theorem PostR.bind {m : R γ} {f : γ → Fk.St → R α} {Q1 : δ → Hp → Prop} (p : PostR ρ g H φ (m.bind f) Q E)
    (k : ∀ c s d H1 φ1, Ext H φ H1 φ1 → Rep g H1 φ1 s → ρ1 H1 φ1 c d → PostR ρ g H1 φ1 (f c s) Q E → Q1 d H1) : PostR ρ1 g H φ m Q1 E := by
  cases m with
  | ok a s => exact fun b H2 φ2 y r2 h => k a s b H2 φ2 y r2 h (p.ext y)
  | err e s => exact p
  | bad => exact p
theorem PostR.here {a : α} {b : β} {s : Fk.St} (p : PostR ρ g H φ (.ok a s) Q E) (r : Rep g H φ s) (h : ρ H φ a b) : Q b H := p b H φ Ext.refl r h
end

section
variable {g : G} {H : Hp} {φ : Phi} {s : Fk.St} {Q : VK} {E : XK}
theorem repv_lst {ds : List D} {x : V} (h : RepV g H φ (.lst ds) x) : ∃ a vs, x = .ref a ∧ ¬ Live φ a ∧ H a = some (.lst vs) ∧ RepL g H φ ds vs ∧ vs.length ≤ PySem.sizeLine := by unfold RepV at h; exact h
theorem repv_tup {ds : List D} {x : V} (h : RepV g H φ (.tup ds) x) : ∃ a vs, x = .ref a ∧ TupAt g H φ a vs ∧ RepL g H φ ds vs ∧ vs.length ≤ PySem.sizeLine := by unfold RepV at h; exact h
theorem repv_int {i : Int} {x : V} (h : RepV g H φ (.int i) x) : x = .int i := by unfold RepV at h; exact h
theorem repv_bl {i : Bool} {x : V} (h : RepV g H φ (.bl i) x) : x = .bl i := by unfold RepV at h; exact h
theorem repv_str {z : List Nat} {x : V} (h : RepV g H φ (.str z) x) : x = .str (strV z) := by unfold RepV at h; exact h
theorem repv_none {x : V} (h : RepV g H φ .none x) : x = .non := by unfold RepV at h; exact h
theorem repv_scr {ns : List Int} {x : V} (h : RepV g H φ (.scr ns) x) : ∃ a, x = .ref a ∧ ScrAt g H φ a (ns.map V.int) ∧ ns.length ≤ PySem.sizeLine := by unfold RepV at h; exact h
theorem repv_of_int {i : Int} : RepV g H φ (.int i) (.int i) := by unfold RepV; rfl
theorem repv_of_bl {i : Bool} : RepV g H φ (.bl i) (.bl i) := by unfold RepV; rfl
theorem repv_of_str {z : List Nat} : RepV g H φ (.str z) (.str (strV z)) := by unfold RepV; rfl
theorem repv_of_none : RepV g H φ .none .non := by unfold RepV; rfl

/-- what is read: a list, tracked -/
theorem rd_lst {a : D} {ds : List D} {x : V} (r : Rep g H φ s) (h : RepV g H φ a x) (e : rd s a = .lst ds) : ∃ p vs, x = .ref p ∧ H p = some (.lst vs) ∧ RepL g H φ ds vs ∧ vs.length ≤ PySem.sizeLine := by
  cases a with
  | lst es =>
    obtain ⟨p, vs, h1, _, h2, h3, h4⟩ := repv_lst h
    unfold rd at e; cases e
    exact ⟨p, vs, h1, h2, h3, h4⟩
  | ref i =>
    unfold RepV at h
    obtain ⟨_, _, h⟩ := h
    cases q : s[i]? with
    | none => simp [rd, q] at e
    | some o =>
      cases o with
      | gone => simp [rd, q] at e
      | dic ks vs => simp [rd, q] at e
      | lst es =>
        simp [rd, q] at e
        subst e
        obtain ⟨p, vs, h1, h2, h3, _, h4⟩ := r.lst i _ q
        exact ⟨p, vs, h p h1, h2, h3, h4⟩
  | _ => unfold rd at e; cases e
/-- what is read: a dict -/
theorem rd_dic {a : D} {ks ds : List D} {x : V} (r : Rep g H φ s) (h : RepV g H φ a x) (e : rd s a = .dic ks ds) : ∃ p o xs ys, x = .ref p ∧ H p = some (dO p o) ∧ DicP g.w p o ks xs ys ∧ RepL g H φ ks xs ∧ RepL g H φ ds ys := by
  cases a with
  | dic ks' ds' =>
    unfold rd at e; cases e
    unfold RepV at h
    obtain ⟨p, o, xs, ys, h1, _, h2⟩ := h
    exact ⟨p, o, xs, ys, h1, h2⟩
  | ref i =>
    unfold RepV at h
    obtain ⟨_, _, h⟩ := h
    cases q : s[i]? with
    | none => simp [rd, q] at e
    | some o =>
      cases o with
      | gone => simp [rd, q] at e
      | lst es => simp [rd, q] at e
      | dic ks' ds' =>
        simp [rd, q] at e
        obtain ⟨rfl, rfl⟩ := e
        obtain ⟨p, o, xs, ys, h1, h2, h3, h4, h5, _⟩ := r.dic i _ _ q
        exact ⟨p, o, xs, ys, h p h1, h2, h3, h4, h5⟩
  | _ => unfold rd at e; cases e
/-- what is read, all else, is the thing itself -/
theorem rd_same {a : D} (r : Rep g H φ s) (e : ∀ ds, rd s a ≠ .lst ds) (e2 : ∀ ks ds, rd s a ≠ .dic ks ds) : rd s a = a := by
  cases a with
  | ref i =>
    cases q : s[i]? with
    | none => simp [rd, q]
    | some o =>
      cases o with
      | gone => simp [rd, q]
      | dic ks vs => exact absurd (by simp [rd, q]) (e2 ks vs)
      | lst es => exact absurd (by simp [rd, q]) (e es)
  | _ => rfl
theorem rd_is {a b : D} {x : V} (r : Rep g H φ s) (h : RepV g H φ a x) (e : rd s a = b) (n : ∀ ds, b ≠ .lst ds) (n2 : ∀ ks ds, b ≠ .dic ks ds := by intro _ _ q; exact nomatch q) : RepV g H φ b x := by
  have := rd_same r (a := a) (fun ds q => n ds (e.symm.trans q)) (fun ks ds q => n2 ks ds (e.symm.trans q))
  rw [← e, this]; exact h

/-- a new list -/
theorem new_lst {ds : List D} {vs : List V} {p : Addr} (r : Rep g H φ s) (q : PostR (RepV g) g H φ (.ok (.lst ds) s) Q E) (h : RepL g H φ ds vs) (z : vs.length ≤ PySem.sizeLine) (hp : H p = none) : Q (.ref p) (upd H p (.lst vs)) := by
  have x := Ext.new_ r hp (.lst vs)
  refine q _ _ φ x (r.new_ hp _) ?_
  unfold RepV
  exact ⟨p, vs, rfl, r.notLive hp, upd_same, RepL.ext x ds h, z⟩
theorem new_tup {ds : List D} {vs : List V} {p : Addr} (r : Rep g H φ s) (q : PostR (RepV g) g H φ (.ok (.tup ds) s) Q E) (h : RepL g H φ ds vs) (z : vs.length ≤ PySem.sizeLine) (hp : H p = none) : Q (.ref p) (upd H p (.tup vs)) := by
  have x := Ext.new_ r hp (.tup vs)
  refine q _ _ φ x (r.new_ hp _) ?_
  unfold RepV
  exact ⟨p, vs, rfl, .inr ⟨r.notLive hp, upd_same⟩, RepL.ext x ds h, z⟩
theorem new_dic {ks ds : List D} {xs ys : List V} {p : Addr} {o : Obj} (r : Rep g H φ s) (q : PostR (RepV g) g H φ (.ok (.dic ks ds) s) Q E) (d : DicP g.w p o ks xs ys) (h1 : RepL g H φ ks xs) (h2 : RepL g H φ ds ys) (hp : H p = none) : Q (.ref p) (upd H p (dO p o)) := by
  have x := Ext.new_ r hp (dO p o)
  refine q _ _ φ x (r.new_ hp _) ?_
  unfold RepV
  exact ⟨p, o, xs, ys, rfl, r.notLive hp, upd_same, d, RepL.ext x ks h1, RepL.ext x ds h2⟩
/-- a new object of the store -/
theorem new_ob {o : O} {u : HO} {p : Addr} (r : Rep g H φ s) (q : PostR (RepV g) g H φ (Fk.alloc o s) Q E) (ng : o ≠ .gone) (hp : H p = none) (h : o.pure = true → Ext H φ (upd H p u) (φ.add p) → ObR g (upd H p u) (φ.add p) o p) : Q (.ref p) (upd H p u) := by
  unfold Fk.alloc at q
  by_cases hpure : o.pure = true
  · rw [if_pos hpure] at q
    have x := Ext.alloc r hp u
    refine q _ _ (φ.add p) x (r.alloc hp ng (h hpure)) ?_
    unfold RepV
    refine ⟨by rw [← r.len]; simp [Phi.add], ⟨p, rfl⟩, fun a ha => ?_⟩
    have ha : (φ.o ++ [some p])[s.length]? = some (some a) := ha
    rw [← r.len, List.getElem?_append_right (Nat.le_refl _)] at ha
    simp at ha
    rw [ha]
  · rw [if_neg hpure] at q; exact q.elim
theorem new_finD {t : Bool} {ks ds : List D} {xs ys : List V} {p : Addr} {o : Obj} (r : Rep g H φ s) (q : PostR (RepV g) g H φ (finD t ks ds s) Q E) (d : DicP g.w p o ks xs ys) (h1 : RepL g H φ ks xs) (h2 : RepL g H φ ds ys) (hp : H p = none) : Q (.ref p) (upd H p (dO p o)) := by
  unfold finD at q
  cases t with
  | true =>
    refine new_ob r q (fun z => nomatch z) hp fun pu x => ?_
    unfold O.pure at pu
    rw [Bool.and_eq_true] at pu
    exact ⟨o, xs, ys, upd_same, d, RepL.ext x ks h1, RepL.ext x ds h2, pu.1, pu.2⟩
  | false => exact new_dic r q d h1 h2 hp
/-- a new list of the store -/
theorem new_obj {ds : List D} {vs : List V} {p : Addr} (r : Rep g H φ s) (q : PostR (RepV g) g H φ (Fk.alloc (.lst ds) s) Q E) (h : RepL g H φ ds vs) (z : vs.length ≤ PySem.sizeLine) (hp : H p = none) : Q (.ref p) (upd H p (.lst vs)) :=
  new_ob r q (fun z => nomatch z) hp fun pu x => ⟨vs, upd_same, RepL.ext x ds h, pu, z⟩

theorem new_fin {t : Bool} {ds : List D} {vs : List V} {p : Addr} (r : Rep g H φ s) (q : PostR (RepV g) g H φ (fin t ds s) Q E) (h : RepL g H φ ds vs) (z : vs.length ≤ PySem.sizeLine) (hp : H p = none) : Q (.ref p) (upd H p (.lst vs)) := by
  unfold fin at q
  cases t with
  | true => exact new_obj r q h z hp
  | false => exact new_lst r q h z hp
end

/-! ### operations by values -/
/-- of two values -/
def rS2 (g : G) (f : D → D → Fk.St → R D) : R2 := fun x y H Q => ∃ a b s φ, Rep g H φ s ∧ RepV g H φ a x ∧ RepV g H φ b y ∧ ∃ E, PostR (RepV g) g H φ (f a b s) Q E
def opOf : Op → Operator
  | .add => .Add | .sub => .Sub | .mul => .Mult | .fdiv => .FloorDiv | .mod => .Mod | .pow => .Pow
theorem strV_len (z : List Nat) : (strV z).length = z.length := by simp [strV, PySem.Str.length]
theorem strV_app (a b : List Nat) : strV a ++ strV b = strV (a ++ b) := by
  show (⟨_⟩ : PySem.Str) = _
  simp [strV]
theorem sl_eq : Fk.sizeLine = PySem.sizeLine := by rw [PySem.sizeLine_eq]; rfl
theorem Inv.rep_lt {X : Cx} {pins : List (Addr × Obj)} {σ : L2.St} {H : Hp} {s : Shared} (I : Inv X pins σ H s) : True := trivial

section
variable {X : Cx} {g : G}
theorem op_powW : OpR X (binaryOp .Pow) (rI (fun i j => 0 ≤ j ∧ ((i.natAbs.log2 + 1) * j.toNat ≤ 2 ^ 27)) fun i j => .int (i ^ j.toNat)) := opI fun i j _ _ _ _ _ hc q => pow_int hc.1 (by
  have b : Builtin.Int.intBits i ≤ i.natAbs.log2 + 1 := by unfold Builtin.Int.intBits; split <;> omega
  have h1 : Builtin.Int.intBits i * j.toNat ≤ (i.natAbs.log2 + 1) * j.toNat := Nat.mul_le_mul_right _ b
  have h2 : Builtin.Int.intBits i * j.toNat ≤ 2 ^ 27 := Nat.le_trans h1 hc.2
  have h3 : ((Builtin.Int.intBits i * j.toNat : Nat) : Int) ≤ ((2 ^ 27 : Nat) : Int) := Int.ofNat_le.mpr h2
  have h4 : ((j.toNat : Nat) : Int) = j := Int.toNat_of_nonneg hc.1
  rw [Int.natCast_mul, h4] at h3
  exact h3) q
theorem op_bin (o : Op) (t : Bool) (hk : g.K = X.K) : OpR X (binaryOp (opOf o)) (rS2 g (binD o t)) := by
  intro pins s σ H x y v u Q I rx ry h
  obtain ⟨a, b, st, φ, r, ha, hb, E, h⟩ := h
  unfold binD at h
  split at h
  · rename_i e1 e2
    have h1 := repv_int (rd_is r ha e1 (fun _ q => nomatch q)); have h2 := repv_int (rd_is r hb e2 (fun _ q => nomatch q))
    exact op_add pins s σ H x y v u Q I rx ry ⟨_, _, h1, h2, h.here r repv_of_int⟩
  · rename_i e1 e2
    have h1 := repv_int (rd_is r ha e1 (fun _ q => nomatch q)); have h2 := repv_int (rd_is r hb e2 (fun _ q => nomatch q))
    exact op_sub pins s σ H x y v u Q I rx ry ⟨_, _, h1, h2, h.here r repv_of_int⟩
  · rename_i e1 e2
    have h1 := repv_int (rd_is r ha e1 (fun _ q => nomatch q)); have h2 := repv_int (rd_is r hb e2 (fun _ q => nomatch q))
    split at h
    · rename_i c
      exact op_mulW pins s σ H x y v u Q I rx ry ⟨_, _, h1, h2, c, h.here r repv_of_int⟩
    · exact h.elim
  · rename_i e1 e2
    have h1 := repv_int (rd_is r ha e1 (fun _ q => nomatch q)); have h2 := repv_int (rd_is r hb e2 (fun _ q => nomatch q))
    split at h
    · rename_i c
      exact op_fdivW pins s σ H x y v u Q I rx ry ⟨_, _, h1, h2, c, h.here r repv_of_int⟩
    · exact h.elim
  · rename_i e1 e2
    have h1 := repv_int (rd_is r ha e1 (fun _ q => nomatch q)); have h2 := repv_int (rd_is r hb e2 (fun _ q => nomatch q))
    split at h
    · rename_i c
      exact op_mod pins s σ H x y v u Q I rx ry ⟨_, _, h1, h2, c, h.here r repv_of_int⟩
    · exact h.elim
  · rename_i e1 e2
    have h1 := repv_int (rd_is r ha e1 (fun _ q => nomatch q)); have h2 := repv_int (rd_is r hb e2 (fun _ q => nomatch q))
    split at h
    · rename_i c
      exact op_powW pins s σ H x y v u Q I rx ry ⟨_, _, h1, h2, c, h.here r repv_of_int⟩
    · exact h.elim
  · rename_i e1 e2
    have h1 := repv_str (rd_is r ha e1 (fun _ q => nomatch q)); have h2 := repv_str (rd_is r hb e2 (fun _ q => nomatch q))
    split at h
    · rename_i c
      exact op_add_str pins s σ H x y v u Q I rx ry ⟨_, _, h1, h2, by rw [strV_len, strV_len, ← sl_eq]; exact c, by rw [strV_app]; exact h.here r repv_of_str⟩
    · exact h.elim
  · rename_i as bs e1 e2
    obtain ⟨p, vs, h1, h2, h3, h4⟩ := repv_tup (rd_is r ha e1 (fun _ q => nomatch q))
    obtain ⟨p', vs', h1', h2', h3', h4'⟩ := repv_tup (rd_is r hb e2 (fun _ q => nomatch q))
    have l1 := h3.length; have l2 := h3'.length
    split at h
    · rename_i c
      have hz : vs.length + vs'.length ≤ PySem.sizeLine := by rw [← sl_eq, ← l1, ← l2]; exact c
      refine op_catA pins s σ H x y v u Q I rx ry ⟨p, p', vs, vs', h1, h1', hk ▸ h2.sq, hk ▸ h2'.sq, hz, fun e => ?_, fun e e' => ?_, fun _ _ q hq => ?_⟩
      · have : as = [] := List.length_eq_zero_iff.mp (by rw [l1, e]; rfl)
        subst this
        refine h.here r ?_
        unfold RepV
        exact ⟨p', vs', rfl, h2', h3', h4'⟩
      · have : bs = [] := List.length_eq_zero_iff.mp (by rw [l2, e']; rfl)
        subst this
        refine h.here r ?_
        rw [List.append_nil]
        unfold RepV
        exact ⟨p, vs, rfl, h2, h3, h4⟩
      · exact new_tup r h (h3.append h3') (by rw [List.length_append]; exact hz) hq
    · exact h.elim
  · rename_i e1 e2
    obtain ⟨p, vs, h1, h2, h3, h4⟩ := rd_lst r ha e1
    obtain ⟨p', vs', h1', h2', h3', h4'⟩ := rd_lst r hb e2
    have l1 := h3.length; have l2 := h3'.length
    split at h
    · rename_i c
      refine op_cat pins s σ H x y v u Q I rx ry ⟨p, p', vs, vs', h1, h1', h2, h2', ?_, fun q hq => new_fin r h (h3.append h3') ?_ hq⟩
      · rw [← sl_eq, ← l1, ← l2]; exact c
      · rw [List.length_append, ← sl_eq, ← l1, ← l2]; exact c
    · exact h.elim
  · exact h.elim
end

/-! ### data that == is told of -/
mutual
def toPy : D → PyData
  | .bl b => .bool b
  | .int i => .int i
  | .str z => .str (strV z)
  | .tup ds => .tuple (toPyL ds)
  | .lst ds => .list (toPyL ds)
  | _ => .none
def toPyL : List D → List PyData
  | [] => []
  | d :: ds => toPy d :: toPyL ds
end
mutual
theorem dp_of {g : G} {H : Hp} {φ : Phi} : ∀ (d : D) {x : V}, RepV g H φ d x → flat d = true → Dp g.K H x (toPy d)
  | .none, _, h, _ => by rw [repv_none h]; unfold toPy; exact .non
  | .bl b, _, h, _ => by rw [repv_bl h]; unfold toPy; exact .bl b
  | .int b, _, h, _ => by rw [repv_int h]; unfold toPy; exact .int b
  | .str b, _, h, _ => by rw [repv_str h]; unfold toPy; exact .str _
  | .tup ds, _, h, f => by
    obtain ⟨a, vs, rfl, t, r, _⟩ := repv_tup h
    unfold toPy
    exact .tup t.sq (dpl_of ds r (by unfold flat at f; exact f))
  | .lst ds, _, h, f => by
    obtain ⟨a, vs, rfl, _, t, r, _⟩ := repv_lst h
    unfold toPy
    exact .lst (SqL.of t) (dpl_of ds r (by unfold flat at f; exact f))
  | .dic _ _, _, _, f => by unfold flat at f; cases f
  | .set _, _, _, f => by unfold flat at f; cases f
  | .scr _, _, _, f => by unfold flat at f; cases f
  | .ref _, _, _, f => by unfold flat at f; cases f
  | .fn _, _, _, f => by unfold flat at f; cases f
  | .ty _, _, _, f => by unfold flat at f; cases f
  | .tab _ _, _, _, f => by unfold flat at f; cases f
theorem dpl_of {g : G} {H : Hp} {φ : Phi} : ∀ (ds : List D) {vs : List V}, RepL g H φ ds vs → flatL ds = true → DpAll g.K H vs (toPyL ds)
  | [], _, h, _ => by unfold RepL at h; subst h; unfold toPyL; exact .nil
  | d :: ds, _, h, f => by
    unfold RepL at h
    obtain ⟨v, r, rfl, h1, h2⟩ := h
    unfold flatL at f
    rw [Bool.and_eq_true] at f
    unfold toPyL
    exact .cons (dp_of d h1 f.1) (dpl_of ds h2 f.2)
end
theorem strV_inj {a b : List Nat} : (strV a == strV b) = (a == b) := by
  by_cases h : a = b
  · subst h; simp
  · have : strV a ≠ strV b := fun e => h (by have := congrArg (fun z : PySem.Str => z.cps.toList) e; simpa [strV] using this)
    rw [beq_eq_false_iff_ne.mpr h, beq_eq_false_iff_ne.mpr this]
mutual
theorem eqv_py : ∀ a b : D, flat a = true → flat b = true → eqv a b = PyData.eqv (toPy a) (toPy b)
  | .none, b, _, f => by cases b <;> first | (unfold flat at f; cases f; done) | simp [eqv, toPy, PyData.eqv]
  | .bl _, b, _, f => by cases b <;> first | (unfold flat at f; cases f; done) | simp [eqv, toPy, PyData.eqv]
  | .int _, b, _, f => by cases b <;> first | (unfold flat at f; cases f; done) | simp [eqv, toPy, PyData.eqv]
  | .str _, b, _, f => by cases b <;> first | (unfold flat at f; cases f; done) | simp [eqv, toPy, PyData.eqv, strV_inj]
  | .tup ds, b, f1, f => by
    cases b with
    | tup es => simp only [eqv, toPy, PyData.eqv]; exact eqv_pyL ds es (by unfold flat at f1; exact f1) (by unfold flat at f; exact f)
    | _ => first | (unfold flat at f; cases f; done) | simp [eqv, toPy, PyData.eqv]
  | .lst ds, b, f1, f => by
    cases b with
    | lst es => simp only [eqv, toPy, PyData.eqv]; exact eqv_pyL ds es (by unfold flat at f1; exact f1) (by unfold flat at f; exact f)
    | _ => first | (unfold flat at f; cases f; done) | simp [eqv, toPy, PyData.eqv]
  | .dic _ _, _, f, _ => by unfold flat at f; cases f
  | .set _, _, f, _ => by unfold flat at f; cases f
  | .scr _, _, f, _ => by unfold flat at f; cases f
  | .ref _, _, f, _ => by unfold flat at f; cases f
  | .fn _, _, f, _ => by unfold flat at f; cases f
  | .ty _, _, f, _ => by unfold flat at f; cases f
  | .tab _ _, _, f, _ => by unfold flat at f; cases f
theorem eqv_pyL : ∀ a b : List D, flatL a = true → flatL b = true → eqvL a b = PyData.eqvAll (toPyL a) (toPyL b)
  | [], [], _, _ => by simp [eqvL, toPyL, PyData.eqvAll]
  | [], b :: bs, _, _ => by simp [eqvL, toPyL, PyData.eqvAll]
  | a :: as, [], _, _ => by simp [eqvL, toPyL, PyData.eqvAll]
  | a :: as, b :: bs, f, f' => by
    unfold flatL at f f'
    rw [Bool.and_eq_true] at f f'
    simp only [eqvL, toPyL, PyData.eqvAll]
    rw [eqv_py a b f.1 f'.1, eqv_pyL as bs f.2 f'.2]
end
mutual
theorem plain_py : ∀ a : D, (toPy a).plain = true
  | .none => rfl
  | .bl _ => rfl
  | .int _ => rfl
  | .str _ => rfl
  | .tup ds => by unfold toPy PyData.plain; exact plain_pyL ds
  | .lst ds => by unfold toPy PyData.plain; exact plain_pyL ds
  | .dic _ _ => rfl
  | .set _ => rfl
  | .scr _ => rfl
  | .ref _ => rfl
  | .fn _ => rfl
  | .ty _ => rfl
  | .tab _ _ => rfl
theorem plain_pyL : ∀ a : List D, PyData.plainAll (toPyL a) = true
  | [] => rfl
  | a :: as => by unfold toPyL PyData.plainAll; rw [plain_py a, plain_pyL as]; rfl
end
mutual
theorem depth_py : ∀ a : D, (toPy a).depth ≤ depth a
  | .none => by simp [toPy, PyData.depth]
  | .bl _ => by simp [toPy, PyData.depth]
  | .int _ => by simp [toPy, PyData.depth]
  | .str _ => by simp [toPy, PyData.depth]
  | .tup ds => by unfold toPy PyData.depth depth; have := depth_pyL ds; omega
  | .lst ds => by unfold toPy PyData.depth depth; have := depth_pyL ds; omega
  | .dic _ _ => by simp [toPy, PyData.depth]
  | .set _ => by simp [toPy, PyData.depth]
  | .scr _ => by simp [toPy, PyData.depth]
  | .ref _ => by simp [toPy, PyData.depth]
  | .fn _ => by simp [toPy, PyData.depth]
  | .ty _ => by simp [toPy, PyData.depth]
  | .tab _ _ => by simp [toPy, PyData.depth]
theorem depth_pyL : ∀ a : List D, PyData.depthAll (toPyL a) ≤ depthL a
  | [] => by simp [toPyL, PyData.depthAll]
  | a :: as => by unfold toPyL PyData.depthAll depthL; have := depth_py a; have := depth_pyL as; omega
end
/-- what == reads of a value: itself, or the list it refers to -/
theorem rd_dp {g : G} {H : Hp} {φ : Phi} {s : Fk.St} {a : D} {x : V} (r : Rep g H φ s) (h : RepV g H φ a x) (f : flat (rd s a) = true) : Dp g.K H x (toPy (rd s a)) := by
  cases e : rd s a with
  | lst ds =>
    obtain ⟨p, vs, rfl, h1, h2, _⟩ := rd_lst r h e
    rw [e] at f
    unfold toPy
    exact .lst (SqL.of h1) (dpl_of ds h2 (by unfold flat at f; exact f))
  | dic ks ds => rw [e] at f; simp [flat] at f
  | _ =>
    have q := rd_is r h e (fun _ z => nomatch z)
    rw [e] at f
    exact dp_of _ q f

section
variable {X : Cx} {g : G}
def cmpOf : Cmp → CmpOp
  | .lt => .Lt | .le => .LtE | .gt => .Gt | .ge => .GtE | .eq => .Eq | .ne => .NotEq | .isin => .In | .notin => .NotIn | .is_ => .Is | .isnot => .IsNot
theorem mem_dec (b : List Nat) (c : Nat) : b.contains c = decide (c ∈ (strV b).cps.toList) := by
  show _ = decide (c ∈ b)
  simp [List.contains_iff_mem]
theorem isN_rep {g : G} {H : Hp} {φ : Phi} {d : D} {x : V} (h : RepV g H φ d x) : isN d = decide (x = .non) := by
  cases d with
  | none => rw [repv_none h]; rfl
  | bl b => rw [repv_bl h]; rfl
  | int b => rw [repv_int h]; rfl
  | str b => rw [repv_str h]; rfl
  | tup ds => obtain ⟨a, vs, rfl, _⟩ := repv_tup h; rfl
  | lst ds => obtain ⟨a, vs, rfl, _⟩ := repv_lst h; rfl
  | dic ks vs => unfold RepV at h; obtain ⟨a, o, xs, ys, rfl, _⟩ := h; rfl
  | set ds => unfold RepV at h; exact h.elim
  | scr ns => obtain ⟨a, rfl, _⟩ := repv_scr h; rfl
  | ref i => unfold RepV at h; obtain ⟨_, ⟨a, rfl⟩, _⟩ := h; rfl
  | fn f => unfold RepV at h; obtain ⟨_, a, _, _, rfl⟩ := h; rfl
  | ty t => unfold RepV at h; rw [h]; rfl
  | tab ks ds => unfold RepV at h; obtain ⟨a, us, rfl, _⟩ := h; rfl
theorem isN_rd {g : G} {H : Hp} {φ : Phi} {s : Fk.St} {d : D} {x : V} (r : Rep g H φ s) (h : RepV g H φ d x) : isN (rd s d) = decide (x = .non) := by
  cases e : rd s d with
  | lst ds => obtain ⟨p, vs, rfl, _⟩ := rd_lst r h e; rfl
  | dic ks ds => obtain ⟨p, o, xs, ys, rfl, _⟩ := rd_dic r h e; rfl
  | _ => exact isN_rep (rd_is r h e (fun _ z => nomatch z))
theorem any_py (d : D) (hd : flat d = true) : ∀ ds : List D, flatL ds = true → (ds.any fun z => eqv z d) = (toPyL ds).any fun z => PyData.eqv z (toPy d)
  | [], _ => by simp [toPyL]
  | a :: as, f => by
    unfold flatL at f
    rw [Bool.and_eq_true] at f
    unfold toPyL
    rw [List.any_cons, List.any_cons, eqv_py a d f.1 hd, any_py d hd as f.2]
theorem in_data {neg : Bool} {pins : List (Addr × Obj)} {s : Shared} {σ : L2.St} {H : Hp} {x y : V} {v u : Value} {Q : VK} {a b : D} {t : Fk.St} {φ : Phi} {E : XK} {ds : List D} (hu : X.A.units + 64 < cLine) (hk : g.K = X.K) (I : Inv X pins σ H s) (rx : RelV x v) (ry : RelV y u)
    (r : Rep g H φ t) (ha : RepV g H φ a x) (hb : RepV g H φ b y) (e2 : rd t b = .lst ds ∨ rd t b = .tup ds) (c : (flat (rd t a) && flatL ds && decide (depth (rd t a) ≤ 60) && decide (depthL ds ≤ 60)) = true)
    (h : PostR (RepV g) g H φ (.ok (.bl (if neg then !ds.any fun z => eqv z (rd t a) else ds.any fun z => eqv z (rd t a))) t) Q E) : wpAny (model X.prog X.w) X.A (compareOp (if neg then .NotIn else .In) v u) (EP X pins σ Q) X.xe s := by
  simp only [Bool.and_eq_true, decide_eq_true_eq] at c
  obtain ⟨⟨⟨f1, f2⟩, d1⟩, d2⟩ := c
  have f2' : flat (rd t b) = true := by rcases e2 with e | e <;> (rw [e]; unfold flat; exact f2)
  obtain ⟨as, q1⟩ := Dp.reads I _ x v (hk ▸ rd_dp r ha f1) rx
  obtain ⟨bs, q2⟩ := Dp.reads I _ y u (hk ▸ rd_dp r hb f2') ry
  have hroom : X.A.units + 1 + min (PyData.depthAll (toPyL ds)) (toPy (rd t a)).depth < cLine := by have := depth_pyL ds; omega
  rw [any_py _ f1 ds f2] at h
  have q := h.here r repv_of_bl
  rcases e2 with e | e
  · rw [e] at q2
    unfold toPy at q2
    cases neg with
    | true => exact PySem.SeqAt.notIn_list_data q2 q1 (plain_pyL _) (plain_py _) hroom ⟨.bl _, H, I, rfl, q⟩
    | false => exact PySem.SeqAt.in_list_data q2 q1 (plain_pyL _) (plain_py _) hroom ⟨.bl _, H, I, rfl, q⟩
  · rw [e] at q2
    unfold toPy at q2
    cases neg with
    | true => exact PySem.SeqAt.notIn_tuple_data q2 q1 (plain_pyL _) (plain_py _) hroom ⟨.bl _, H, I, rfl, q⟩
    | false => exact PySem.SeqAt.in_tuple_data q2 q1 (plain_pyL _) (plain_py _) hroom ⟨.bl _, H, I, rfl, q⟩
/-- is True, is False: the left side anything -/
theorem op_isTF : OpR X (compareOp .Is) (fun x y H Q => ∃ k : Bool, y = .bl k ∧ Q (.bl (decide (x = .bl k))) H) := by
  intro pins s σ H x y v u Q I rx ry h
  obtain ⟨k, rfl, q⟩ := h
  cases (show u = Value.bool k from ry)
  by_cases e : x = .bl k
  · subst e
    cases (show v = Value.bool k from rx)
    exact wpAny_is_self rfl ⟨.bl true, H, I, rfl, by simpa using q⟩
  · have hp : plainIs v (.bool k) = true := by cases x <;> first | (cases rx; rfl) | (obtain ⟨t, ht⟩ := rx; rw [ht]; rfl)
    have hne : v ≠ .bool k := by
      rintro rfl
      apply e
      cases x <;> first | (cases rx; rfl) | (obtain ⟨t, ht⟩ := rx; cases ht) | (cases rx)
    exact wpAny_is_other hp hne ⟨.bl false, H, I, rfl, by simpa [e] using q⟩
theorem op_notTF : OpR X (compareOp .IsNot) (fun x y H Q => ∃ k : Bool, y = .bl k ∧ Q (.bl (!decide (x = .bl k))) H) := by
  intro pins s σ H x y v u Q I rx ry h
  obtain ⟨k, rfl, q⟩ := h
  cases (show u = Value.bool k from ry)
  by_cases e : x = .bl k
  · subst e
    cases (show v = Value.bool k from rx)
    exact wpAny_isNot_self rfl ⟨.bl false, H, I, rfl, by simpa using q⟩
  · have hp : plainIs v (.bool k) = true := by cases x <;> first | (cases rx; rfl) | (obtain ⟨t, ht⟩ := rx; rw [ht]; rfl)
    have hne : v ≠ .bool k := by
      rintro rfl
      apply e
      cases x <;> first | (cases rx; rfl) | (obtain ⟨t, ht⟩ := rx; cases ht) | (cases rx)
    exact wpAny_isNot_other hp hne ⟨.bl true, H, I, rfl, by simpa [e] using q⟩
theorem isB_rep {g : G} {H : Hp} {φ : Phi} {d : D} {x : V} {k : Bool} (h : RepV g H φ d x) : isB k d = decide (x = .bl k) := by
  cases d with
  | none => rw [repv_none h]; rfl
  | bl b => rw [repv_bl h]; cases b <;> cases k <;> rfl
  | int b => rw [repv_int h]; rfl
  | str b => rw [repv_str h]; rfl
  | tup ds => obtain ⟨a, vs, rfl, _⟩ := repv_tup h; rfl
  | lst ds => obtain ⟨a, vs, rfl, _⟩ := repv_lst h; rfl
  | dic ks vs => unfold RepV at h; obtain ⟨a, o, xs, ys, rfl, _⟩ := h; rfl
  | set ds => unfold RepV at h; exact h.elim
  | scr ns => obtain ⟨a, rfl, _⟩ := repv_scr h; rfl
  | ref i => unfold RepV at h; obtain ⟨_, ⟨a, rfl⟩, _⟩ := h; rfl
  | fn f => unfold RepV at h; obtain ⟨_, a, _, _, rfl⟩ := h; rfl
  | ty t => unfold RepV at h; rw [h]; rfl
  | tab ks ds => unfold RepV at h; obtain ⟨a, us, rfl, _⟩ := h; rfl
theorem isB_rd {g : G} {H : Hp} {φ : Phi} {s : Fk.St} {d : D} {x : V} {k : Bool} (r : Rep g H φ s) (h : RepV g H φ d x) : isB k (rd s d) = decide (x = .bl k) := by
  cases e : rd s d with
  | lst ds => obtain ⟨p, vs, rfl, _⟩ := rd_lst r h e; rfl
  | dic ks ds => obtain ⟨p, o, xs, ys, rfl, _⟩ := rd_dic r h e; rfl
  | _ => exact isB_rep (rd_is r h e (fun _ z => nomatch z))
theorem len_ne {g : G} {H : Hp} {φ : Phi} {s : Fk.St} {a b : D} {x y : V} (r : Rep g H φ s) (ha : RepV g H φ a x) (hb : RepV g H φ b y) (h : lenNe (rd s a) (rd s b) = true) :
    ∃ p q xs ys, x = .ref p ∧ y = .ref q ∧ H p = some (.lst xs) ∧ H q = some (.lst ys) ∧ xs.length ≠ ys.length := by
  unfold lenNe at h
  split at h
  · rename_i as bs e1 e2
    obtain ⟨p, xs, h1, h2, h3, _⟩ := rd_lst r ha e1
    obtain ⟨q, ys, h4, h5, h6, _⟩ := rd_lst r hb e2
    rw [decide_eq_true_eq, h3.length, h6.length] at h
    exact ⟨p, q, xs, ys, h1, h4, h2, h5, h⟩
  · cases h
end
theorem tup_ne {g : G} {H : Hp} {φ : Phi} {s : Fk.St} {a b : D} {x y : V} (r : Rep g H φ s) (ha : RepV g H φ a x) (hb : RepV g H φ b y) (h : tupE (rd s a) (rd s b) = true) :
    ∃ p q xs ys, x = .ref p ∧ y = .ref q ∧ TupAt g H φ p xs ∧ TupAt g H φ q ys ∧ xs.length ≠ ys.length ∧ min xs.length ys.length = 0 := by
  unfold tupE at h
  split at h
  · rename_i z zs e1 e2
    obtain ⟨p, xs, h1, h2, h3, _⟩ := repv_tup (rd_is r ha e1 (fun _ q => nomatch q))
    obtain ⟨q, ys, h4, h5, h6, _⟩ := repv_tup (rd_is r hb e2 (fun _ q => nomatch q))
    have l1 := h3.length; have l2 := h6.length
    simp only [List.length_nil, List.length_cons] at l1 l2
    exact ⟨p, q, xs, ys, h1, h4, h2, h5, by omega, by omega⟩
  · rename_i z zs e1 e2
    obtain ⟨p, xs, h1, h2, h3, _⟩ := repv_tup (rd_is r ha e1 (fun _ q => nomatch q))
    obtain ⟨q, ys, h4, h5, h6, _⟩ := repv_tup (rd_is r hb e2 (fun _ q => nomatch q))
    have l1 := h3.length; have l2 := h6.length
    simp only [List.length_nil, List.length_cons] at l1 l2
    exact ⟨p, q, xs, ys, h1, h4, h2, h5, by omega, by omega⟩
  · cases h
end L3

set_option Elab.async false
set_option linter.all false
set_option autoImplicit false
set_option maxRecDepth 100000
set_option maxHeartbeats 4000000
/-! FkOrd: less than, and sorting, of data that the first unlike place tells apart, whatever kinds stand behind it. -/
namespace PySem.SeqAt
open AutoSeq1 (wpAny_loadPart')
open MeetsSeq MeetsSeq2 MeetsSeq3 SeqRoads2

/-- as the first unlike place alone has it -/
theorem fk_tuple_lt (pa pb : Addr) (xs ys : Array Value) (m m2 : Nat) (da db : Option Addr) (sa sb : Array (Option Value)) (eq lt : Nat → Bool) :
    Meets (Builtin.«tuple.__lt__» ⟨[.ref pa, .ref pb], []⟩) (fun A R s =>
      s.heap.get? pa = some { cls := .type "tuple", dict := da, data := .seq xs m, slots := sa } ∧
      s.heap.get? pb = some { cls := .type "tuple", dict := db, data := .seq ys m2, slots := sb } ∧
      (∀ j (q1 : j < xs.size) (q2 : j < ys.size), EqAt A.in1 s xs[j] ys[j] (eq j)) ∧
      (∀ j (q1 : j < xs.size) (q2 : j < ys.size), (∀ i, i < j → eq i = true) → eq j = false → RcLt A.in1 s xs[j] ys[j] (lt j)) ∧
      R (.ok (.ret (.bool (firstLt eq lt (decide (xs.size < ys.size)) (List.range (min xs.size ys.size)))))) s) :=
  .of_wp fun prog w A R s hh => by
    obtain ⟨hp, gl, dp, tk, os⟩ := s
    obtain ⟨ha, hb, hE, hL, hQ⟩ := hh
    have sub2 := AutoSeq1.sub_tuple_tuple
    have zl : (xs.toList.zip ys.toList).length = min xs.size ys.size := by simp
    wp_walk using wpAny_loadPart' ha, wpAny_loadPart' hb, wpAny_forIn_list _ (fun left b s' => b.1 = none ∧ s' = ⟨hp, gl, dp, tk, os⟩ ∧ ∃ i, left = (xs.toList.zip ys.toList).drop i ∧ (∀ k, k < i → eq k = true) ∧
      R (.ok (.ret (.bool (firstLt eq lt (decide (xs.size < ys.size)) ((List.range (min xs.size ys.size)).drop i))))) ⟨hp, gl, dp, tk, os⟩) _
    case turn =>
      rintro ⟨y, x⟩ left b s' ⟨hn, rfl, i, hz, hall, hR⟩
      have il : i < (xs.toList.zip ys.toList).length := by
        rcases Nat.lt_or_ge i (xs.toList.zip ys.toList).length with q | q
        · exact q
        · rw [List.drop_of_length_le q] at hz; cases hz
      have im : i < min xs.size ys.size := zl ▸ il
      have i1 : i < xs.size := Nat.lt_of_lt_of_le im (Nat.min_le_left _ _)
      have i2 : i < ys.size := Nat.lt_of_lt_of_le im (Nat.min_le_right _ _)
      rw [List.drop_eq_getElem_cons il] at hz
      injection hz with hpair hleft
      have ey : y = xs[i] := by have := congrArg Prod.fst hpair; simpa using this
      have ex : x = ys[i] := by have := congrArg Prod.snd hpair; simpa using this
      subst ey ex
      have dr : (List.range (min xs.size ys.size)).drop i = i :: (List.range (min xs.size ys.size)).drop (i + 1) := by simp [List.drop_eq_getElem_cons, im]
      rw [dr] at hR
      refine wpAny_bind (hE i i1 i2 prog w _ _ ?_)
      cases he : eq i with
      | true =>
        rw [firstLt_yes he] at hR
        wp_walk
        refine ⟨rfl, rfl, i + 1, hleft, fun k hk => ?_, hR⟩
        rcases Nat.lt_succ_iff_lt_or_eq.mp hk with hk | rfl
        · exact hall k hk
        · exact he
      | false =>
        rw [firstLt_no he] at hR
        have hLi := hL i i1 i2 hall he prog w
        revert hLi
        generalize PySem.richCompare PySem.CmpOp.Lt xs[i] ys[i] = rc
        intro hLi
        wp_walk
        refine hLi _ _ ?_
        wp_walk
        exact ⟨_, rfl, hR⟩
    case fin =>
      rintro ⟨b1, b2⟩ s' ⟨hn, rfl, i, hz, _, hR⟩
      simp only at hn
      subst hn
      have ge : min xs.size ys.size ≤ i := by
        rcases Nat.lt_or_ge i (xs.toList.zip ys.toList).length with q | q
        · rw [List.drop_eq_getElem_cons q] at hz; cases hz
        · exact zl ▸ q
      rw [List.drop_of_length_le (by simpa using ge)] at hR
      wp_walk
      exact ⟨_, rfl, by simpa [Builtin.Tuple.tupleCompareSizes, firstLt] using hR⟩
    case h =>
      exact ⟨rfl, rfl, 0, rfl, fun k hk => absurd hk (Nat.not_lt_zero _), by simpa using hQ⟩

theorem RcLt.first {A : Around} {s : Shared} {pa pb : Addr} {xs ys : Array Value} {eq lt : Nat → Bool} (ha : s.heap.IsTuple pa xs) (hb : s.heap.IsTuple pb ys) (hu : A.units < cLine)
    (hE : ∀ j (q1 : j < xs.size) (q2 : j < ys.size), EqAt A.in1 s xs[j] ys[j] (eq j))
    (hL : ∀ j (q1 : j < xs.size) (q2 : j < ys.size), (∀ i, i < j → eq i = true) → eq j = false → RcLt A.in1 s xs[j] ys[j] (lt j)) :
    RcLt A s (.ref pa) (.ref pb) (firstLt eq lt (decide (xs.size < ys.size)) (List.range (min xs.size ys.size))) := by
  intro prog w E Q hQ
  obtain ⟨⟨c1, d1, dt1, s1⟩, g1, k1, n1, e1⟩ := id ha
  obtain ⟨⟨c2, d2, dt2, s2⟩, g2, k2, n2, e2⟩ := id hb
  simp only at k1 e1 k2 e2
  subst k1 e1 k2 e2
  exact richCompare_meets_room (op := .Lt) ⟨_, g1, rfl⟩ ⟨_, g2, rfl⟩ F.slot_tuple_lt F.entry_tuple_lt (F.args_tuple_lt_2 _ _) (fk_tuple_lt pa pb xs ys n1 n2 d1 d2 s1 s2 eq lt)
    ⟨g1, g2, hE, hL, ⟨(fun z => nomatch z), hQ⟩⟩ hu
end PySem.SeqAt

namespace PySem.W
open PySem PySem.Calls PyProof.Rows PySem.SeqAt

mutual
/-- which is less is told by the first place that is unlike -/
def cmpP : PyData → PyData → Bool
  | .none, .none => true
  | .bool _, .bool _ => true
  | .int _, .int _ => true
  | .str _, .str _ => true
  | .tuple xs, .tuple ys => cmpPL xs ys
  | _, _ => false
def cmpPL : List PyData → List PyData → Bool
  | x :: xs, y :: ys => cmpP x y && (!PyData.eqv x y || cmpPL xs ys)
  | [], _ => true
  | _ :: _, [] => true
end
theorem cmp_cons {x y : PyData} {xs ys : List PyData} (h : cmpPL (x :: xs) (y :: ys) = true) : cmpP x y = true ∧ (PyData.eqv x y = true → cmpPL xs ys = true) := by
  rw [cmpPL, Bool.and_eq_true, Bool.or_eq_true] at h
  exact ⟨h.1, fun e => h.2.resolve_left (by simp [e])⟩
mutual
theorem ctoks : ∀ (x y : PyData), cmpP x y = true → (PyData.eqv x y = true → keyToks x = keyToks y) ∧ (PyData.eqv x y = false → ∀ l m, PyProof.Rows.lexLt itemOrd (keyToks x ++ l) (keyToks y ++ m) = PyProof.Rows.lexLt itemOrd (keyToks x) (keyToks y))
  | .none, y, h => by
    cases y <;> first | (simp [cmpP] at h; done) | skip
    exact toks_eqv .none .none rfl
  | .bool a, y, h => by
    cases y <;> first | (simp [cmpP] at h; done) | skip
    exact toks_eqv _ _ (by simp [alike])
  | .int a, y, h => by
    cases y <;> first | (simp [cmpP] at h; done) | skip
    exact toks_eqv _ _ (by simp [alike])
  | .str a, y, h => by
    cases y <;> first | (simp [cmpP] at h; done) | skip
    exact toks_eqv _ _ (by simp [alike])
  | .list _, y, h => by simp [cmpP] at h
  | .tuple xs, y, h => by
    cases y <;> first | (simp [cmpP] at h; done) | skip
    rename_i ys
    have t := ctoksL xs ys (by simpa [cmpP] using h)
    simp only [keyToks, PyData.eqv]
    exact t
  | .dict _, y, h => by simp [cmpP] at h
theorem ctoksL : ∀ (xs ys : List PyData), cmpPL xs ys = true → (PyData.eqvAll xs ys = true → keyToksAll xs = keyToksAll ys) ∧ (PyData.eqvAll xs ys = false → ∀ l m, PyProof.Rows.lexLt itemOrd (keyToksAll xs ++ l) (keyToksAll ys ++ m) = PyProof.Rows.lexLt itemOrd (keyToksAll xs) (keyToksAll ys))
  | [], ys, _ => toksAll_eqv [] ys (by cases ys <;> simp [alikeAll])
  | x :: xs, [], _ => toksAll_eqv (x :: xs) [] (by simp [alikeAll])
  | x :: xs, y :: ys, h => by
    obtain ⟨h1, h2⟩ := cmp_cons h
    obtain ⟨a1, a2⟩ := ctoks x y h1
    rw [eqv_all_cons, toks_all_cons, toks_all_cons]
    cases hx : PyData.eqv x y with
    | true =>
      obtain ⟨b1, b2⟩ := ctoksL xs ys (h2 hx)
      rw [a1 hx, Bool.true_and]
      refine ⟨fun e => by rw [b1 e], fun e l m => ?_⟩
      simp only [List.cons_append, List.append_assoc]
      refine (lex_self (O := itemOrd) _ _ _).trans ?_
      rw [lex_pre, b2 e l m, lex_self (O := itemOrd), lex_pre]
    | false =>
      rw [Bool.false_and]
      refine ⟨fun e => (by cases e), fun _ l m => ?_⟩
      simp only [List.cons_append, List.append_assoc]
      rw [lex_self (O := itemOrd), lex_self (O := itemOrd), a2 hx, a2 hx]
end
theorem clt_yes {x y : PyData} {xs ys : List PyData} (h : cmpP x y = true) (e : PyData.eqv x y = true) : PyProof.Rows.lexLt itemOrd (keyToksAll (x :: xs)) (keyToksAll (y :: ys)) = PyProof.Rows.lexLt itemOrd (keyToksAll xs) (keyToksAll ys) := by
  rw [toks_all_cons, toks_all_cons, (ctoks x y h).1 e, lex_self (O := itemOrd), lex_pre]
theorem clt_no {x y : PyData} {xs ys : List PyData} (h : cmpP x y = true) (e : PyData.eqv x y = false) : PyProof.Rows.lexLt itemOrd (keyToksAll (x :: xs)) (keyToksAll (y :: ys)) = dataLt x y := by
  rw [toks_all_cons, toks_all_cons, lex_self (O := itemOrd)]
  exact (ctoks x y h).2 e _ _
theorem cfirst : ∀ (xs ys : List PyData), cmpPL xs ys = true →
    firstLt (pairEq xs ys) (fun j => dataLt (xs.getD j .none) (ys.getD j .none)) (decide (xs.length < ys.length)) (List.range (min xs.length ys.length)) = PyProof.Rows.lexLt itemOrd (keyToksAll xs) (keyToksAll ys)
  | [], ys, _ => firstLt_toks [] ys (by cases ys <;> simp [alikeAll])
  | x :: xs, [], _ => firstLt_toks (x :: xs) [] (by simp [alikeAll])
  | x :: xs, y :: ys, h => by
    obtain ⟨h1, h2⟩ := cmp_cons h
    have em : min (x :: xs).length (y :: ys).length = min xs.length ys.length + 1 := by simp only [List.length_cons]; omega
    have ed : decide ((x :: xs).length < (y :: ys).length) = decide (xs.length < ys.length) := by simp only [List.length_cons, Nat.add_lt_add_iff_right]
    rw [em, ed, List.range_succ_eq_map]
    cases hx : PyData.eqv x y with
    | true =>
      rw [firstLt_yes (show pairEq (x :: xs) (y :: ys) 0 = true from hx), firstLt_map, clt_yes h1 hx, ← cfirst xs ys (h2 hx)]
      rfl
    | false =>
      rw [firstLt_no (show pairEq (x :: xs) (y :: ys) 0 = false from hx), clt_no h1 hx]
      rfl
theorem cne_none {x y : PyData} (h : cmpP x y = true) (e : PyData.eqv x y = false) : x ≠ .none := by
  rintro rfl
  cases y <;> simp [cmpP, PyData.eqv] at h e
theorem plain_cons {x : PyData} {xs : List PyData} (h : PyData.plainAll (x :: xs) = true) : x.plain = true ∧ PyData.plainAll xs = true := by simpa [PyData.plainAll] using h
mutual
/-- a < b -/
theorem rcLt_cmp : ∀ (da db : PyData) (A : Around) (s : Shared) (a b : Value) (as bs : List Addr), Reads s.heap a da as → Reads s.heap b db bs → cmpP da db = true → da ≠ .none → da.plain = true → db.plain = true → A.units + min da.depth db.depth < cLine → RcLt A s a b (dataLt da db)
  | .none, _, _, _, _, _, _, _, _, _, _, hn, _, _, _ => absurd rfl hn
  | .bool x, db, A, s, a, b, as, bs, ra, rb, h, e, _, _, hu => by
    cases db <;> first | (simp [cmpP] at h; done) | skip
    exact rcLt_alike _ _ A s a b as bs ra rb (by simp [alike]) e hu
  | .int x, db, A, s, a, b, as, bs, ra, rb, h, e, _, _, hu => by
    cases db <;> first | (simp [cmpP] at h; done) | skip
    exact rcLt_alike _ _ A s a b as bs ra rb (by simp [alike]) e hu
  | .str x, db, A, s, a, b, as, bs, ra, rb, h, e, _, _, hu => by
    cases db <;> first | (simp [cmpP] at h; done) | skip
    exact rcLt_alike _ _ A s a b as bs ra rb (by simp [alike]) e hu
  | .list _, _, _, _, _, _, _, _, _, _, h, _, _, _, _ => by simp [cmpP] at h
  | .dict _, _, _, _, _, _, _, _, _, _, h, _, _, _, _ => by simp [cmpP] at h
  | .tuple xs, db, A, s, a, b, as, bs, ra, rb, h, e, pa, pb, hu => by
    cases db <;> first | (simp [cmpP] at h; done) | skip
    rename_i ys
    have hal : cmpPL xs ys = true := by simpa [cmpP] using h
    have pa' : PyData.plainAll xs = true := by simpa [PyData.plain] using pa
    have pb' : PyData.plainAll ys = true := by simpa [PyData.plain] using pb
    cases ra with
    | @tuple l o vs n _ as1 h1 h2 h3 h4 =>
      cases rb with
      | @tuple l' o' vs' n' _ bs1 k1 k2 k3 k4 =>
        have n1 : vs.size = xs.length := by simpa using ReadsAll.length _ _ _ h4
        have n2 : vs'.size = ys.length := by simpa using ReadsAll.length _ _ _ k4
        rw [dataLt_tuple, ← cfirst xs ys hal, ← n1, ← n2]
        refine RcLt.first ⟨_, h1, h2, _, h3⟩ ⟨_, k1, k2, _, k3⟩ (room_here hu) (fun j j1 j2 => ?_) fun j j1 j2 hall hj => ?_
        · have := eqAt_plainAll xs ys A.in1 s vs.toList vs'.toList _ _ h4 k4 pa' pb' (room_in hu) j (by simpa using j1) (by simpa using j2)
          simpa using this
        · have := rcLt_cmpL xs ys A.in1 s vs.toList vs'.toList _ _ h4 k4 hal pa' pb' (room_in hu) j (by simpa using j1) (by simpa using j2) hall hj
          simpa using this
theorem rcLt_cmpL : ∀ (xs ys : List PyData) (A : Around) (s : Shared) (vs ws : List Value) (as bs : List Addr), ReadsAll s.heap vs xs as → ReadsAll s.heap ws ys bs → cmpPL xs ys = true → PyData.plainAll xs = true → PyData.plainAll ys = true →
    A.units + min (PyData.depthAll xs) (PyData.depthAll ys) < cLine → ∀ j (h1 : j < vs.length) (h2 : j < ws.length), (∀ i, i < j → pairEq xs ys i = true) → pairEq xs ys j = false → RcLt A s vs[j] ws[j] (dataLt (xs.getD j .none) (ys.getD j .none))
  | [], _, _, _, _, _, _, _, ra, _, _, _, _, _, j, h1, _, _, _ => by cases ra; exact absurd h1 (Nat.not_lt_zero _)
  | _ :: _, [], _, _, _, _, _, _, _, rb, _, _, _, _, j, _, h2, _, _ => by cases rb; exact absurd h2 (Nat.not_lt_zero _)
  | x :: xs, y :: ys, A, s, _, _, _, _, ra, rb, h, pa, pb, hu, j, h1, h2, hall, hj => by
    obtain ⟨c1, c2⟩ := cmp_cons h
    cases ra with
    | cons r rs =>
      cases rb with
      | cons r' rs' =>
        cases j with
        | zero => exact rcLt_cmp x y A s _ _ _ _ r r' c1 (cne_none c1 hj) (plain_cons pa).1 (plain_cons pb).1 (room_head hu)
        | succ j =>
          have e0 : PyData.eqv x y = true := hall 0 (Nat.succ_pos _)
          exact rcLt_cmpL xs ys A s _ _ _ _ rs rs' (c2 e0) (plain_cons pa).2 (plain_cons pb).2 (room_tail hu) j (Nat.lt_of_succ_lt_succ h1) (Nat.lt_of_succ_lt_succ h2) (fun i hi => hall (i + 1) (Nat.succ_lt_succ hi)) hj
end
section
variable {prog : Program} {w : World} {A : Around} {E : Value → Shared → Prop} {s : Shared}
theorem oneLt_cmp {f : Bool} {da db : PyData} {a b : Value} {as bs : List Addr} {Q : Bool → Shared → Prop} (hf : f = true → ∀ xs, da ≠ .tuple xs) (ra : Reads s.heap a da as) (rb : Reads s.heap b db bs) (h : cmpP da db = true) (hn : da ≠ .none) (pa : da.plain = true) (pb : db.plain = true)
    (hu : A.units + min da.depth db.depth < cLine) (hq : Q (dataLt da db) s) : wpAny (model prog w) A (oneLt' f a b) Q E s := by
  cases f with
  | false =>
    rw [oneLt'_eq]
    simp only [Bool.false_eq_true, if_false]
    exact wpAny_bind (rcLt_cmp da db A s a b as bs ra rb h hn pa pb hu prog w E _ (wpAny_truthy_bool hq))
  | true =>
    cases da with
    | none => exact absurd rfl hn
    | tuple xs => exact absurd rfl (hf rfl xs)
    | list xs => simp [cmpP] at h
    | dict _ => simp [cmpP] at h
    | bool x =>
      cases db <;> first | (simp [cmpP] at h; done) | skip
      exact oneLt_alike hf ra rb (by simp [alike]) hn hu hq
    | int x =>
      cases db <;> first | (simp [cmpP] at h; done) | skip
      exact oneLt_alike hf ra rb (by simp [alike]) hn hu hq
    | str x =>
      cases db <;> first | (simp [cmpP] at h; done) | skip
      exact oneLt_alike hf ra rb (by simp [alike]) hn hu hq
theorem katLex_cmp {b fin : Bool} {Q : Bool → Shared → Prop} : ∀ (xs ys : List PyData) (i : Nat) (vs ws : List Value) (as bs : List Addr), ReadsAll s.heap vs xs as → ReadsAll s.heap ws ys bs → cmpPL xs ys = true → PyData.plainAll xs = true → PyData.plainAll ys = true →
    A.units + min (PyData.depthAll xs) (PyData.depthAll ys) < cLine → (b = true → i = 0 → ∀ x r t, xs = x :: r → x ≠ .tuple t) → fin = decide (xs.length < ys.length) → Q (PyProof.Rows.lexLt itemOrd (keyToksAll xs) (keyToksAll ys)) s → KatLex prog w A b fin Q (vs.zip ws) i s
  | [], ys, i, _, _, _, _, ra, rb, _, _, _, hu, hb, hf, hq => katLex_alike [] ys i _ _ _ _ ra rb (by cases ys <;> simp [alikeAll]) hu hb hf hq
  | x :: xs, [], i, _, _, _, _, ra, rb, _, _, _, hu, hb, hf, hq => katLex_alike (x :: xs) [] i _ _ _ _ ra rb (by simp [alikeAll]) hu hb hf hq
  | x :: xs, y :: ys, i, _, _, _, _, ra, rb, h, pa, pb, hu, hb, hf, hq => by
    obtain ⟨h1, h2⟩ := cmp_cons h
    have hf' : fin = decide (xs.length < ys.length) := by rw [hf]; simp only [List.length_cons, Nat.add_lt_add_iff_right]
    cases ra with
    | cons r rs =>
      cases rb with
      | cons r' rs' =>
        rw [List.zip_cons_cons]
        refine kat_cons (eqAt_plain x y A s _ _ _ _ r r' (plain_cons pa).1 (plain_cons pb).1 (room_head hu) prog w _ _ ?_)
        cases hx : PyData.eqv x y with
        | true =>
          rw [clt_yes h1 hx] at hq
          exact kat_yes (katLex_cmp xs ys (i + 1) _ _ _ _ rs rs' (h2 hx) (plain_cons pa).2 (plain_cons pb).2 (room_tail hu) (fun _ hi => absurd hi (Nat.succ_ne_zero i)) hf' hq)
        | false =>
          rw [clt_no h1 hx] at hq
          refine kat_no (oneLt_cmp (fun hbi t => ?_) r r' h1 (cne_none h1 hx) (plain_cons pa).1 (plain_cons pb).1 (room_head hu) hq)
          rw [Bool.and_eq_true] at hbi
          exact hb hbi.1 (by simpa using hbi.2) x xs t rfl
end

/-! ### sorting -/
def AllCmp (ds : List PyData) : Prop := ∀ d, d ∈ ds → ∀ d', d' ∈ ds → cmpP d d' = true
def AllPlain (ds : List PyData) : Prop := ∀ d, d ∈ ds → d.plain = true
theorem ckind_some {h : Heap} {ds : List PyData} (hp : AllPlain ds) {v : Value} {d : PyData} {as : List Addr} (hd : d ∈ ds) (r : Reads h v d as) : (dataKind h ds).keyOf v = some (keyToks d) := by
  have q : ∃ d, d ∈ ds ∧ ∃ as, Reads h v d as := ⟨d, hd, as, r⟩
  have e : (dataKind h ds).keyOf v = some (keyToks q.choose) := by
    show (open Classical in if q : ∃ d, d ∈ ds ∧ ∃ as, Reads h v d as then some (keyToks q.choose) else none) = _
    rw [dif_pos q]
  obtain ⟨g1, as', g2⟩ := q.choose_spec
  rw [e, plain_unique _ _ _ _ _ (hp _ g1) g2 r]
theorem ctype {x y : PyData} (h : cmpP x y = true) : dataType x = dataType y := by
  cases x <;> cases y <;> first | rfl | (simp [cmpP] at h; done)
section
variable {prog : Program} {w : World} {A : Around} {s : Shared}
/-- such values can be sorted -/
theorem SortsAt.cmp {vs : List Value} {ds : List PyData} (e : EachIs (fun v d => ∃ as, Reads s.heap v d as) vs ds) (hal : AllCmp ds) (hp : AllPlain ds) (hk : Sortable ds) (hu : ∀ d, d ∈ ds → A.units + d.depth < cLine) : SortsAt prog w A s (dataKind s.heap ds) vs := by
  have room : ∀ {d d' : PyData}, d ∈ ds → A.units + min d.depth d'.depth < cLine := fun {d d'} hd => Nat.lt_of_le_of_lt (Nat.add_le_add_left (Nat.min_le_left _ _) _) (hu d hd)
  refine ⟨fun v hv => ?_, ?_⟩
  · obtain ⟨d, hd, as, r⟩ := e.left v hv
    exact ⟨_, ckind_some hp hd r⟩
  · rcases hk with ht | hn
    · cases ds with
      | nil =>
        cases e
        refine ⟨general', fun E x y a b Q ha _ _ => ?_, fun h2 => absurd h2 (by simp)⟩
        obtain ⟨d, _, hd, _⟩ := dataKind_inv ha
        exact absurd hd (by simp)
      | cons d0 ds0 =>
        obtain ⟨x0, r0, e0⟩ := ht d0 List.mem_cons_self
        have hfirst : ∀ x r, PyData.tuple (x :: r) ∈ d0 :: ds0 → cmpP x x0 = true := fun x r hm => by
          have q := hal _ hm d0 List.mem_cons_self
          rw [e0] at q
          exact (cmp_cons (by simpa [cmpP] using q)).1
        refine ⟨tuples' (dataType x0 != Value.type "tuple"), fun E x y a b Q ha hb hq => ?_, fun h2 E Q hq => ?_⟩
        · obtain ⟨d, as, hd, ra, rfl⟩ := dataKind_inv ha
          obtain ⟨d', as', hd', rb, rfl⟩ := dataKind_inv hb
          have hdd := hal d hd d' hd'
          have hroom := room (d' := d') hd
          have pd := hp d hd
          have pd' := hp d' hd'
          obtain ⟨x1, r1, rfl⟩ := ht d hd
          obtain ⟨x2, r2, rfl⟩ := ht d' hd'
          have hq' : Q (dataLt (.tuple (x1 :: r1)) (.tuple (x2 :: r2))) s := hq
          rw [dataLt_tuple] at hq'
          cases ra with
          | @tuple l o xs n _ _ h1 h2 h3 h4 =>
            cases rb with
            | @tuple l' o' xs' n' _ _ k1 k2 k3 k4 =>
              have n1 : xs.size = (x1 :: r1).length := by simpa using SeqAt.ReadsAll.length _ _ _ h4
              have n2 : xs'.size = (x2 :: r2).length := by simpa using SeqAt.ReadsAll.length _ _ _ k4
              refine kat_lt h1 h3 k1 k3 (katLex_cmp (x1 :: r1) (x2 :: r2) 0 _ _ _ _ h4 k4 (by simpa [cmpP] using hdd) (by simpa [PyData.plain] using pd) (by simpa [PyData.plain] using pd') (by have q := SeqAt.room_in hroom; omega) (fun hb _ x r t ex => ?_) (by rw [n1, n2]) hq')
              obtain ⟨rfl, rfl⟩ := List.cons.inj ex
              have q := ctype (hfirst _ _ hd)
              rw [← q] at hb
              exact dataType_tuple hb t
        · obtain ⟨fs, t1, t2, t3⟩ := each_katTups e ht
          refine kat_kind (T := dataType x0) t1 (by omega) (fun f hf => ?_) (beq_self_eq_true _) hq
          obtain ⟨x, r, as, m1, m2⟩ := t3 f hf
          rw [← ctype (hfirst x r m1)]
          exact looks_reads m2
    · refine ⟨oneType', fun E x y a b Q ha hb hq => ?_, fun h2 E Q hq => ?_⟩
      · obtain ⟨d, as, hd, ra, rfl⟩ := dataKind_inv ha
        obtain ⟨d', as', hd', rb, rfl⟩ := dataKind_inv hb
        rw [keyLt'_oneType]
        exact oneLt_cmp (fun _ => (hn d hd).2) ra rb (hal d hd d' hd') (hn d hd).1 (hp d hd) (hp d' hd') (room hd) hq
      · cases ds with
        | nil => cases e; exact absurd h2 (by simp)
        | cons d0 ds0 =>
          refine kas_kind (T := dataType d0) h2 (fun v hv => ?_) (dataType_other (hn d0 List.mem_cons_self).2) (beq_self_eq_true _) hq
          obtain ⟨d, hd, as, r⟩ := e.left v hv
          rw [← ctype (hal d hd d0 List.mem_cons_self)]
          exact looks_reads r
theorem csort_each {β : Type} {h' : Heap} {R : Value → β → Prop} {enc : β → PyData} {vs : List Value} {bs : List β} (rev : Bool) (e : EachIs R vs bs) (er : EachIs (fun v b => ∃ as, Reads h' v (enc b) as) vs bs) (hp : AllPlain (bs.map enc)) :
    EachIs R (sortVals (dataKind h' (bs.map enc)) rev vs vs) (bs.mergeSort (dataLe rev enc)) :=
  sortVals_each (κ := dataKind h' (bs.map enc)) (fun b => keyToks (enc b)) e (each_of_map enc ((each_mem (each_map (R := fun v d => ∃ as, Reads h' v d as) enc er)).mono fun _ _ ⟨⟨_, r⟩, hd⟩ => ckind_some hp hd r))
/-- sorted(xs) -/
theorem sorted_cmp {β : Type} {E : Value → Shared → Prop} {l : Addr} {vs : List Value} {bs : List β} {enc : β → PyData} {R : Value → β → Prop} {Q : Value → Shared → Prop} (hl : s.heap.IsList l vs.toArray) (e : EachIs R vs bs) (er : EachIs (fun v b => ∃ as, Reads s.heap v (enc b) as) vs bs)
    (hal : AllCmp (bs.map enc)) (hp : AllPlain (bs.map enc)) (hk : Sortable (bs.map enc)) (hL : bs.length ≤ sizeLine) (hu : ∀ b, b ∈ bs → A.units + 2 + (enc b).depth < cLine)
    (h : ∀ out, out.length = bs.length → EachIs R out (bs.mergeSort (dataLe false enc)) → Q (.ref (s.heap.objs.size + 1)) { s with heap := sortedAll s.heap vs (List.toArray out) }) :
    wpAny (model prog w) A (call (.builtin "sorted") [.ref l]) Q E s := by
  have er' : EachIs (fun v b => ∃ as, Reads (sortingHeap (copyHeap s.heap vs) (s.heap.objs.size + 1) vs) v (enc b) as) vs bs := er.mono fun _ _ ⟨as, r⟩ => ⟨as, PyProof.Rows.Reads.keeps (fun _ _ => sorting_copy_old) r⟩
  refine sorted_vals hl (SortsAt.cmp (s := { s with heap := sortingHeap (copyHeap s.heap vs) (s.heap.objs.size + 1) vs }) (each_map (R := fun v d => ∃ as, Reads (sortingHeap (copyHeap s.heap vs) (s.heap.objs.size + 1) vs) v d as) enc er') hal hp hk (bound_map hu)) (by rw [e.length]; exact hL) ?_
  exact h _ (by rw [sortVals_length false rfl]; exact e.length) (csort_each false e er' hp)
end
end PySem.W

set_option Elab.async false
set_option linter.all false
set_option autoImplicit false
set_option maxRecDepth 100000
set_option maxHeartbeats 4000000
/-! FkDict: dicts by keys: numbers, texts, tuples. -/
namespace L3
open PySem PySem.Spec PyProof.Rows L2 Fk

mutual
theorem beq_self : ∀ a : D, D.beq a a = true
  | .none => rfl
  | .bl _ => by simp [D.beq]
  | .int _ => by simp [D.beq]
  | .str _ => by simp [D.beq]
  | .tup a => by simp [D.beq, beqL_self a]
  | .lst a => by simp [D.beq, beqL_self a]
  | .dic a b => by simp [D.beq, beqL_self a, beqL_self b]
  | .set a => by simp [D.beq, beqL_self a]
  | .scr _ => by simp [D.beq]
  | .ref _ => by simp [D.beq]
  | .fn _ => by simp [D.beq]
  | .ty _ => by simp [D.beq]
  | .tab a b => by simp [D.beq, beqL_self b]
theorem beqL_self : ∀ a : List D, D.beqL a a = true
  | [] => rfl
  | a :: as => by simp [D.beqL, beq_self a, beqL_self as]
end
theorem beq_iff {a b : D} : D.beq a b = true ↔ a = b := ⟨D.beq_eq a b, fun e => e ▸ beq_self a⟩
theorem beq_ne {a b : D} (h : a ≠ b) : D.beq a b = false := by
  cases e : D.beq a b with
  | false => rfl
  | true => exact absurd (beq_iff.mp e) h

/-- a key that is no tuple -/
def keyK : D → Key
  | .int i => .inl i
  | .str z => .inr (strV z)
  | _ => .inl 0
theorem strV_eq {a b : List Nat} (h : strV a = strV b) : a = b := by
  have := congrArg (fun z : PySem.Str => z.cps.toList) h
  simpa [strV] using this
theorem keyK_inj {a b : D} (ha : keyOk a = true) (hb : keyOk b = true) (ta : isTup a = false) (tb : isTup b = false) (h : keyK a = keyK b) : a = b := by
  cases a <;> first | (simp [keyOk] at ha; done) | (simp [isTup] at ta; done) | skip
  all_goals cases b <;> first | (simp [keyOk] at hb; done) | (simp [isTup] at tb; done) | skip
  · simp only [keyK, Sum.inl.injEq] at h; rw [h]
  · simp [keyK] at h
  · simp [keyK] at h
  · simp only [keyK, Sum.inr.injEq] at h; rw [strV_eq h]
theorem keyOkL_cons {d : D} {ds : List D} (h : keyOkL (d :: ds) = true) : (keyOk d = true ∨ d = .none) ∧ keyOkL ds = true := by
  unfold keyOkL at h
  rw [Bool.and_eq_true, Bool.or_eq_true] at h
  refine ⟨h.1.imp id fun q => ?_, h.2⟩
  cases d <;> first | rfl | (cases q; done)
mutual
theorem keyN_inj : ∀ (a b : D), (keyOk a = true ∨ a = .none) → (keyOk b = true ∨ b = .none) → keyN a = keyN b → a = b
  | .none, b, _, hb, h => by cases b <;> first | rfl | (simp [keyOk] at hb; done) | (simp [keyN] at h; done)
  | .int i, b, _, hb, h => by
    cases b <;> first | (simp [keyOk] at hb; done) | (simp [keyN] at h; done) | skip
    simp only [keyN, NestedKey.num.injEq] at h; rw [h]
  | .str i, b, _, hb, h => by
    cases b <;> first | (simp [keyOk] at hb; done) | (simp [keyN] at h; done) | skip
    simp only [keyN, NestedKey.text.injEq] at h; rw [strV_eq h]
  | .tup as, b, ha, hb, h => by
    cases b <;> first | (simp [keyOk] at hb; done) | (simp [keyN] at h; done) | skip
    simp only [keyN, NestedKey.tup.injEq] at h
    rw [keyNL_inj as _ (by rcases ha with ha | ha; exact (by unfold keyOk at ha; exact ha); cases ha) (by rcases hb with hb | hb; exact (by unfold keyOk at hb; exact hb); cases hb) h]
  | .bl _, _, ha, _, _ => by simp [keyOk] at ha
  | .lst _, _, ha, _, _ => by simp [keyOk] at ha
  | .dic _ _, _, ha, _, _ => by simp [keyOk] at ha
  | .set _, _, ha, _, _ => by simp [keyOk] at ha
  | .scr _, _, ha, _, _ => by simp [keyOk] at ha
  | .ref _, _, ha, _, _ => by simp [keyOk] at ha
  | .fn _, _, ha, _, _ => by simp [keyOk] at ha
  | .ty _, _, ha, _, _ => by simp [keyOk] at ha
  | .tab _ _, _, ha, _, _ => by simp [keyOk] at ha
theorem keyNL_inj : ∀ (as bs : List D), keyOkL as = true → keyOkL bs = true → keyNL as = keyNL bs → as = bs
  | [], [], _, _, _ => rfl
  | [], _ :: _, _, _, h => by simp [keyNL] at h
  | _ :: _, [], _, _, h => by simp [keyNL] at h
  | a :: as, b :: bs, ha, hb, h => by
    simp only [keyNL, List.cons.injEq] at h
    rw [keyN_inj a b (keyOkL_cons ha).1 (keyOkL_cons hb).1 h.1, keyNL_inj as bs (keyOkL_cons ha).2 (keyOkL_cons hb).2 h.2]
end
mutual
theorem keyN_depth : ∀ a : D, (keyOk a = true ∨ a = .none) → (keyN a).depth = depth a
  | .none, _ => rfl
  | .int _, _ => rfl
  | .str _, _ => rfl
  | .tup as, ha => by
    simp only [keyN, NestedKey.depth, depth]
    rw [keyNL_depth as (by rcases ha with ha | ha; exact (by unfold keyOk at ha; exact ha); cases ha)]
  | .bl _, ha => by simp [keyOk] at ha
  | .lst _, ha => by simp [keyOk] at ha
  | .dic _ _, ha => by simp [keyOk] at ha
  | .set _, ha => by simp [keyOk] at ha
  | .scr _, ha => by simp [keyOk] at ha
  | .ref _, ha => by simp [keyOk] at ha
  | .fn _, ha => by simp [keyOk] at ha
  | .ty _, ha => by simp [keyOk] at ha
  | .tab _ _, ha => by simp [keyOk] at ha
theorem keyNL_depth : ∀ as : List D, keyOkL as = true → NestedKey.depthAll (keyNL as) = depthL as
  | [], _ => rfl
  | a :: as, h => by
    simp only [keyNL, NestedKey.depthAll, depthL]
    rw [keyN_depth a (keyOkL_cons h).1, keyNL_depth as (keyOkL_cons h).2]
end
section
variable {X : Cx} {g : G} {pins : List (Addr × Obj)} {σ : L2.St} {H : Hp} {s : Shared} {φ : Phi}
mutual
/-- what stands for a key is that key -/
theorem nested_is (hk : g.K = X.K) (I : Inv X pins σ H s) : ∀ (d : D) {x : V} {u : Value}, RepV g H φ d x → RelV x u → (keyOk d = true ∨ d = .none) → NestedIs s.heap (keyN d) u
  | .none, x, u, h, r, _ => by
    rw [repv_none h] at r
    cases (show u = Value.none from r)
    exact .none
  | .int i, x, u, h, r, _ => by
    rw [repv_int h] at r
    obtain ⟨t, rfl⟩ := r
    exact .int i t
  | .str z, x, u, h, r, _ => by
    rw [repv_str h] at r
    obtain ⟨t, rfl⟩ := r
    exact .text _ t
  | .tup ds, x, u, h, r, hd => by
    obtain ⟨a, vs, rfl, t, rl, _⟩ := repv_tup h
    cases (show u = Value.ref a from r)
    obtain ⟨its, rv, ⟨o, e, c, n, dt⟩, _⟩ := I.tuple (hk ▸ t.sq)
    simp only [keyN]
    exact .tup e c dt (by simpa using nested_all hk I ds rl rv (by rcases hd with hd | hd; exact (by unfold keyOk at hd; exact hd); cases hd))
  | .bl _, _, _, _, _, ha => by simp [keyOk] at ha
  | .lst _, _, _, _, _, ha => by simp [keyOk] at ha
  | .dic _ _, _, _, _, _, ha => by simp [keyOk] at ha
  | .set _, _, _, _, _, ha => by simp [keyOk] at ha
  | .scr _, _, _, _, _, ha => by simp [keyOk] at ha
  | .ref _, _, _, _, _, ha => by simp [keyOk] at ha
  | .fn _, _, _, _, _, ha => by simp [keyOk] at ha
  | .ty _, _, _, _, _, ha => by simp [keyOk] at ha
  | .tab _ _, _, _, _, _, ha => by simp [keyOk] at ha
theorem nested_all (hk : g.K = X.K) (I : Inv X pins σ H s) : ∀ (ds : List D) {xs : List V} {us : List Value}, RepL g H φ ds xs → Vals xs us → keyOkL ds = true → NestedAll s.heap (keyNL ds) us
  | [], xs, us, h, r, _ => by
    unfold RepL at h; subst h
    cases r
    exact .nil
  | d :: ds, xs, us, h, r, hd => by
    unfold RepL at h
    obtain ⟨v, rr, rfl, h1, h2⟩ := h
    cases r with
    | cons q1 q2 =>
      simp only [keyNL]
      exact .cons (nested_is hk I d h1 q1 (keyOkL_cons hd).1) (nested_all hk I ds h2 q2 (keyOkL_cons hd).2)
end
theorem key_tup (hk : g.K = X.K) (I : Inv X pins σ H s) {d : D} {x : V} {u : Value} (h : RepV g H φ d x) (r : RelV x u) (hd : keyOk d = true) (hz : depth d ≤ 8) (ht : isTup d = true) : ∃ b, x = .ref b ∧ u = .ref b ∧ (nestedKind X.prog X.w).is s.heap (keyN d) b := by
  have q := nested_is hk I d h r (.inl hd)
  cases d <;> first | (simp [isTup] at ht; done) | skip
  obtain ⟨a, vs, rfl, t, rl, _⟩ := repv_tup h
  cases (show u = Value.ref a from r)
  exact ⟨a, rfl, rfl, q, by rw [keyN_depth _ (.inl hd)]; exact hz⟩
theorem key_mix {d : D} {x : V} {u : Value} (h : RepV g H φ d x) (r : RelV x u) (hd : keyOk d = true) (ht : isTup d = false) {P : Program} {w : World} : (mixKind P w).is (keyK d) u = true := by
  cases d <;> first | (simp [keyOk] at hd; done) | (simp [isTup] at ht; done) | skip
  · rw [repv_int h] at r
    obtain ⟨t, rfl⟩ := r
    exact mixKind_int _ _ _ _
  · rw [repv_str h] at r
    obtain ⟨t, rfl⟩ := r
    exact mixKind_str _ _ _ _
theorem key_hash {d : D} (hd : keyOk d = true) (ht : isTup d = false) {P : Program} {w : World} : (mixKind P w).hash (keyK d) = (keyN d).hash w := by
  cases d <;> first | (simp [keyOk] at hd; done) | (simp [isTup] at ht; done) | rfl
theorem key_rel {d : D} {u : Value} (hd : keyOk d = true) (ht : isTup d = false) {P : Program} {w : World} (h : (mixKind P w).is (keyK d) u = true) : ∃ x, RelV x u ∧ ∀ H φ, RepV g H φ d x := by
  cases d <;> first | (simp [keyOk] at hd; done) | (simp [isTup] at ht; done) | skip
  · rename_i n
    have h' : keyIs (Sum.inl n) u = true := h
    rcases keyIs_shape h' with ⟨i, t, e, ev⟩ | ⟨z, t, e, ev⟩
    · cases e; subst ev
      exact ⟨.int _, ⟨t, rfl⟩, fun _ _ => repv_of_int⟩
    · cases e
  · rename_i n
    have h' : keyIs (Sum.inr (strV n)) u = true := h
    rcases keyIs_shape h' with ⟨i, t, e, ev⟩ | ⟨z, t, e, ev⟩
    · cases e
    · cases e; subst ev
      exact ⟨.str _, ⟨t, rfl⟩, fun _ _ => repv_of_str⟩
theorem Inv.dob (I : Inv X pins σ H s) {a : Addr} {o : Obj} (h : H a = some (dO a o)) : s.heap.get? a = some o := (show ObjOk X.prog X.w H s.heap a (dO a o) from I.hok a _ h).1
theorem dO_ok {P : Program} {w : World} {h : Heap} {a : Addr} {o : Obj} (e : h.get? a = some o) : ObjOk P w H h a (dO a o) := ⟨e, ⟨o, e⟩, fun h1 h2 p k => k _ p⟩
end

/-! ### what entries are, by keys -/
theorem entl_len {w : World} : ∀ {ks : List D} {xs ys : List V} {es : List DictEntry}, EntL w ks xs ys es → ks.length = es.length ∧ xs.length = es.length ∧ ys.length = es.length
  | [], [], [], [], _ => ⟨rfl, rfl, rfl⟩
  | k :: ks, x :: xs, y :: ys, e :: es, h => by
    obtain ⟨_, _, _, h⟩ := (show _ ∧ _ ∧ _ ∧ _ from h)
    obtain ⟨a, b, c⟩ := entl_len h
    simp [a, b, c]
  | [], [], [], _ :: _, h => h.elim
  | [], [], _ :: _, _, h => h.elim
  | [], _ :: _, _, _, h => h.elim
  | _ :: _, [], _, _, h => h.elim
  | _ :: _, _ :: _, [], _, h => h.elim
  | _ :: _, _ :: _, _ :: _, [], h => h.elim
theorem entl_vals {w : World} : ∀ {ks : List D} {xs ys : List V} {es : List DictEntry}, EntL w ks xs ys es → Vals xs (es.map (·.key)) ∧ Vals ys (es.map (·.val))
  | [], [], [], [], _ => ⟨.nil, .nil⟩
  | k :: ks, x :: xs, y :: ys, e :: es, h => by
    obtain ⟨_, h1, h2, h⟩ := (show _ ∧ _ ∧ _ ∧ _ from h)
    obtain ⟨a, b⟩ := entl_vals h
    exact ⟨.cons h1 a, .cons h2 b⟩
  | [], [], [], _ :: _, h => h.elim
  | [], [], _ :: _, _, h => h.elim
  | [], _ :: _, _, _, h => h.elim
  | _ :: _, [], _, _, h => h.elim
  | _ :: _, _ :: _, [], _, h => h.elim
  | _ :: _, _ :: _, _ :: _, [], h => h.elim
/-- the pairs by keys that are no tuples -/
def mixP (ks : List D) (us : List Value) : List (Key × Value) := (ks.map keyK).zip us
/-- .. that are -/
def nesP : List D → List Addr → List Value → List (NestedKey × Addr × Value)
  | k :: ks, a :: as, u :: us => (keyN k, a, u) :: nesP ks as us
  | _, _, _ => []
section
variable {g : G} {H : Hp} {φ : Phi}
theorem ent_mix {P : Program} {w : World} : ∀ {ks : List D} {xs ys : List V} {es : List DictEntry}, EntL w ks xs ys es → RepL g H φ ks xs → (∀ k ∈ ks, keyOk k = true ∧ isTup k = false) →
    Pairs (mixKind P w) es (mixP ks (es.map (·.val))) ∧ ∀ e ∈ es, ∃ k, (mixKind P w).is k e.key = true ∧ e.hash = (mixKind P w).hash k
  | [], [], [], [], _, _, _ => ⟨.nil, fun e h => by cases h⟩
  | k :: ks, x :: xs, y :: ys, e :: es, h, r, hk => by
    obtain ⟨h0, h1, h2, h⟩ := (show _ ∧ _ ∧ _ ∧ _ from h)
    unfold RepL at r
    obtain ⟨v, rr, q, r1, r2⟩ := r
    cases q
    obtain ⟨a, b⟩ := ent_mix (P := P) h r2 (fun j hj => hk j (List.mem_cons_of_mem _ hj))
    obtain ⟨k1, k2⟩ := hk k List.mem_cons_self
    have ki := key_mix (P := P) (w := w) r1 h1 k1 k2
    refine ⟨?_, fun e' he => ?_⟩
    · show Pairs _ (e :: es) ((keyK k, e.val) :: mixP ks (es.map (·.val)))
      exact .cons ki rfl a
    · rcases List.mem_cons.mp he with rfl | he
      · exact ⟨_, ki, by rw [h0, key_hash k1 k2]⟩
      · exact b e' he
  | [], [], [], _ :: _, h, _, _ => h.elim
  | [], [], _ :: _, _, h, _, _ => h.elim
  | [], _ :: _, _, _, h, _, _ => h.elim
  | _ :: _, [], _, _, h, _, _ => h.elim
  | _ :: _, _ :: _, [], _, h, _, _ => h.elim
  | _ :: _, _ :: _, _ :: _, [], h, _, _ => h.elim
theorem mix_ent {P : Program} {w : World} : ∀ {ks : List D} {us : List Value} {ys : List V} {es : List DictEntry}, Pairs (mixKind P w) es (mixP ks us) → ks.length = us.length → Vals ys us → (∀ k ∈ ks, keyOk k = true ∧ isTup k = false) → (∀ e ∈ es, ∃ k, (mixKind P w).is k e.key = true ∧ e.hash = (mixKind P w).hash k) →
    ∃ xs, EntL w ks xs ys es ∧ ∀ H φ, RepL g H φ ks xs
  | [], [], ys, es, h, _, v, _, _ => by
    cases v
    cases h
    exact ⟨[], trivial, fun _ _ => by simp [RepL]⟩
  | k :: ks, u :: us, ys, es, h, l, v, hk, he => by
    cases v with
    | cons v1 v2 =>
      have h' : Pairs (mixKind P w) es ((keyK k, u) :: mixP ks us) := h
      cases h' with
      | @cons e kv es kvs p1 p2 p3 =>
        obtain ⟨k1, k2⟩ := hk k List.mem_cons_self
        obtain ⟨x, q1, q2⟩ := key_rel (g := g) k1 k2 p1
        obtain ⟨xs, q3, q4⟩ := mix_ent p3 (by simpa using l) v2 (fun j hj => hk j (List.mem_cons_of_mem _ hj)) (fun e' he' => he e' (List.mem_cons_of_mem _ he'))
        refine ⟨x :: xs, ⟨?_, q1, by rw [p2]; exact v1, q3⟩, fun H φ => ?_⟩
        · obtain ⟨k', e1, e2⟩ := he e List.mem_cons_self
          have : k' = keyK k := (mixKind P w).inj _ _ _ e1 p1
          rw [e2, this, key_hash k1 k2]
        · unfold RepL
          exact ⟨x, xs, rfl, q2 H φ, q4 H φ⟩
  | [], _ :: _, _, _, _, l, _, _, _ => by simp at l
  | _ :: _, [], _, _, _, l, _, _, _ => by simp at l
def adOf : V → Addr
  | .ref a => a
  | _ => 0
theorem ent_nes {P : Program} {w : World} : ∀ {ks : List D} {xs ys : List V} {es : List DictEntry}, EntL w ks xs ys es → RepL g H φ ks xs → (∀ k ∈ ks, keyOk k = true ∧ isTup k = true) →
    es = (nesP ks (xs.map adOf) (es.map (·.val))).map (entryOfKey (nestedKind P w)) ∧ ∀ x ∈ xs, x = .ref (adOf x)
  | [], [], [], [], _, _, _ => ⟨rfl, fun x h => by cases h⟩
  | k :: ks, x :: xs, y :: ys, e :: es, h, r, hk => by
    obtain ⟨h0, h1, h2, h⟩ := (show _ ∧ _ ∧ _ ∧ _ from h)
    unfold RepL at r
    obtain ⟨v, rr, q, r1, r2⟩ := r
    cases q
    obtain ⟨a, b⟩ := ent_nes (P := P) h r2 (fun j hj => hk j (List.mem_cons_of_mem _ hj))
    obtain ⟨k1, k2⟩ := hk k List.mem_cons_self
    have hx : ∃ p, x = .ref p := by
      cases k <;> first | (simp [isTup] at k2; done) | skip
      obtain ⟨p, _, e, _⟩ := repv_tup r1
      exact ⟨p, e⟩
    obtain ⟨p, rfl⟩ := hx
    refine ⟨?_, fun x hx => ?_⟩
    · show e :: es = entryOfKey (nestedKind P w) (keyN k, p, e.val) :: (nesP ks (xs.map adOf) (es.map (·.val))).map (entryOfKey (nestedKind P w))
      rw [← a]
      congr 1
      obtain ⟨eh, ek, ev⟩ := e
      have h1' : ek = Value.ref p := h1
      have h0' : eh = (keyN k).hash w := h0
      subst h1' h0'
      rfl
    · rcases List.mem_cons.mp hx with rfl | hx
      · rfl
      · exact b x hx
  | [], [], [], _ :: _, h, _, _ => h.elim
  | [], [], _ :: _, _, h, _, _ => h.elim
  | [], _ :: _, _, _, h, _, _ => h.elim
  | _ :: _, [], _, _, h, _, _ => h.elim
  | _ :: _, _ :: _, [], _, h, _, _ => h.elim
  | _ :: _, _ :: _, _ :: _, [], h, _, _ => h.elim
theorem nes_ent {P : Program} {w : World} : ∀ {ks : List D} {as : List Addr} {us : List Value} {ys : List V}, ks.length = us.length → as.length = us.length → Vals ys us → EntL w ks (as.map V.ref) ys ((nesP ks as us).map (entryOfKey (nestedKind P w)))
  | [], [], [], ys, _, _, v => by cases v; exact trivial
  | k :: ks, a :: as, u :: us, ys, l, l2, v => by
    cases v with
    | cons v1 v2 => exact ⟨rfl, rfl, v1, nes_ent (by simpa using l) (by simpa using l2) v2⟩
  | [], _, _ :: _, _, l, _, _ => by simp at l
  | [], _ :: _, [], _, _, l, _ => by simp at l
  | _ :: _, _, [], _, l, _, _ => by simp at l
  | _ :: _, [], _ :: _, _, _, l, _ => by simp at l
end

/-! ### the operations on lists of keys and values -/
section
variable {α : Type}
theorem dPut_len : ∀ {ks : List D} {vs : List α} {k : D} {v : α}, ks.length = vs.length → (dPut ks vs k v).1.length = (dPut ks vs k v).2.length
  | [], [], _, _, _ => rfl
  | k' :: ks, v' :: vs, k, v, l => by
    unfold dPut
    split
    · simpa using l
    · simp only [List.length_cons]; rw [dPut_len (by simpa using l)]
  | [], _ :: _, _, _, l => by simp at l
  | _ :: _, [], _, _, l => by simp at l
theorem dPut_none {k : D} {v : α} : ∀ {ks : List D} {vs : List α}, ks.length = vs.length → dGet ks vs k = none → dPut ks vs k v = (ks ++ [k], vs ++ [v])
  | [], [], _, _ => rfl
  | k' :: ks, v' :: vs, l, h => by
    unfold dGet at h
    split at h
    · cases h
    · rename_i c
      unfold dPut
      rw [if_neg c, dPut_none (by simpa using l) h]
      rfl
  | [], _ :: _, l, _ => by simp at l
  | _ :: _, [], l, _ => by simp at l
theorem dPut_some {k : D} {v : α} : ∀ {ks : List D} {vs : List α}, ks.length = vs.length → (dGet ks vs k).isSome = true → (dPut ks vs k v).1 = ks
  | [], [], _, h => by simp [dGet] at h
  | k' :: ks, v' :: vs, l, h => by
    unfold dGet at h
    unfold dPut
    split
    · rfl
    · rename_i c
      rw [if_neg c] at h
      rw [dPut_some (by simpa using l) h]
  | [], _ :: _, l, _ => by simp at l
  | _ :: _, [], l, _ => by simp at l
theorem dGet_mem {k : D} : ∀ {ks : List D} {vs : List α}, ks.length = vs.length → ((dGet ks vs k).isSome = true ↔ k ∈ ks)
  | [], [], _ => by simp [dGet]
  | k' :: ks, v' :: vs, l => by
    unfold dGet
    by_cases c : D.beq k' k = true
    · rw [if_pos c]
      have := beq_iff.mp c
      simp [this]
    · rw [if_neg c, dGet_mem (by simpa using l)]
      have : ¬ k = k' := fun e => c (by rw [e]; exact beq_self _)
      simp [this]
  | [], _ :: _, l => by simp at l
  | _ :: _, [], l => by simp at l
theorem dPut_keys {β : Type} {k : D} {v : α} {w : β} : ∀ {ks : List D} {vs : List α} {us : List β}, ks.length = vs.length → ks.length = us.length → (dPut ks vs k v).1 = (dPut ks us k w).1
  | [], [], [], _, _ => rfl
  | k' :: ks, v' :: vs, u' :: us, l, l2 => by
    unfold dPut
    split
    · rfl
    · simp only [List.cons.injEq, true_and]
      exact dPut_keys (by simpa using l) (by simpa using l2)
  | [], _ :: _, _, l, _ => by simp at l
  | _ :: _, [], _, l, _ => by simp at l
  | [], [], _ :: _, _, l => by simp at l
  | _ :: _, _ :: _, [], _, l => by simp at l
theorem dDel_keys {β : Type} {k : D} : ∀ {ks : List D} {vs : List α} {us : List β}, ks.length = vs.length → ks.length = us.length → (dDel ks vs k).1 = (dDel ks us k).1
  | [], [], [], _, _ => rfl
  | k' :: ks, v' :: vs, u' :: us, l, l2 => by
    unfold dDel
    split
    · rfl
    · simp only [List.cons.injEq, true_and]
      exact dDel_keys (by simpa using l) (by simpa using l2)
  | [], _ :: _, _, l, _ => by simp at l
  | _ :: _, [], _, l, _ => by simp at l
  | [], [], _ :: _, _, l => by simp at l
  | _ :: _, _ :: _, [], _, l => by simp at l
theorem dDel_len : ∀ {ks : List D} {vs : List α} {k : D}, ks.length = vs.length → (dDel ks vs k).1.length = (dDel ks vs k).2.length
  | [], [], _, _ => rfl
  | k' :: ks, v' :: vs, k, l => by
    unfold dDel
    split
    · simpa using l
    · simp only [List.length_cons]; rw [dDel_len (by simpa using l)]
  | [], _ :: _, _, l => by simp at l
  | _ :: _, [], _, l => by simp at l
theorem dDel_sub : ∀ {ks : List D} {vs : List α} {k : D}, ks.length = vs.length → (dDel ks vs k).1.Sublist ks
  | [], [], _, _ => .slnil
  | k' :: ks, v' :: vs, k, l => by
    unfold dDel
    split
    · exact List.sublist_cons_self _ _
    · exact (dDel_sub (by simpa using l)).cons₂ _
  | [], _ :: _, _, l => by simp at l
  | _ :: _, [], _, l => by simp at l
end
section
variable {g : G} {H : Hp} {φ : Phi}
theorem repl_put {k : D} {d : D} {y : V} : ∀ {ks ds : List D} {ys : List V}, ks.length = ds.length → RepL g H φ ds ys → RepV g H φ d y → RepL g H φ (dPut ks ds k d).2 (dPut ks ys k y).2
  | [], [], ys, _, h, v => by
    unfold RepL at h; subst h
    show RepL g H φ [d] [y]
    unfold RepL
    exact ⟨y, [], rfl, v, by simp [RepL]⟩
  | k' :: ks, d' :: ds, ys, l, h, v => by
    unfold RepL at h
    obtain ⟨y', r, rfl, h1, h2⟩ := h
    unfold dPut
    split
    · unfold RepL; exact ⟨y, r, rfl, v, h2⟩
    · show RepL g H φ (d' :: _) (y' :: _)
      unfold RepL
      exact ⟨y', _, rfl, h1, repl_put (by simpa using l) h2 v⟩
  | [], _ :: _, _, l, _, _ => by simp at l
  | _ :: _, [], _, l, _, _ => by simp at l
theorem vals_put {k : D} {y : V} {u : Value} : ∀ {ks : List D} {ys : List V} {us : List Value}, ks.length = ys.length → Vals ys us → RelV y u → Vals (dPut ks ys k y).2 (dPut ks us k u).2
  | [], [], _, _, h, v => by cases h; exact .cons v .nil
  | k' :: ks, y' :: ys, _, l, h, v => by
    cases h with
    | cons h1 h2 =>
      unfold dPut
      split
      · exact .cons v h2
      · exact .cons h1 (vals_put (by simpa using l) h2 v)
  | [], _ :: _, _, l, _, _ => by simp at l
  | _ :: _, [], _, l, _, _ => by simp at l
theorem repl_del {k : D} : ∀ {ks ds : List D} {ys : List V}, ks.length = ds.length → RepL g H φ ds ys → RepL g H φ (dDel ks ds k).2 (dDel ks ys k).2
  | [], [], ys, _, h => by unfold RepL at h; subst h; simp [dDel, RepL]
  | k' :: ks, d' :: ds, ys, l, h => by
    unfold RepL at h
    obtain ⟨y', r, rfl, h1, h2⟩ := h
    unfold dDel
    split
    · exact h2
    · show RepL g H φ (d' :: _) (y' :: _)
      unfold RepL
      exact ⟨y', _, rfl, h1, repl_del (by simpa using l) h2⟩
  | [], _ :: _, _, l, _ => by simp at l
  | _ :: _, [], _, l, _ => by simp at l
theorem vals_del {k : D} : ∀ {ks : List D} {ys : List V} {us : List Value}, ks.length = ys.length → Vals ys us → Vals (dDel ks ys k).2 (dDel ks us k).2
  | [], [], _, _, h => by cases h; exact .nil
  | k' :: ks, y' :: ys, _, l, h => by
    cases h with
    | cons h1 h2 =>
      unfold dDel
      split
      · exact h2
      · exact .cons h1 (vals_del (by simpa using l) h2)
  | [], _ :: _, _, l, _ => by simp at l
  | _ :: _, [], _, l, _ => by simp at l
theorem repl_get {k : D} {us : List Value} : ∀ {ks ds : List D} {ys : List V}, ks.length = ds.length → RepL g H φ ds ys → ∀ {d}, dGet ks ds k = some d → ∃ y, dGet ks ys k = some y ∧ RepV g H φ d y
  | [], [], ys, _, h, d, e => by simp [dGet] at e
  | k' :: ks, d' :: ds, ys, l, h, d, e => by
    unfold RepL at h
    obtain ⟨y', r, rfl, h1, h2⟩ := h
    unfold dGet at e ⊢
    split at e
    · rename_i c; cases e; rw [if_pos c]; exact ⟨y', rfl, h1⟩
    · rename_i c; rw [if_neg c]; exact repl_get (us := us) (by simpa using l) h2 e
  | [], _ :: _, _, l, _, _, _ => by simp at l
  | _ :: _, [], _, l, _, _, _ => by simp at l
theorem vals_get {k : D} : ∀ {ks : List D} {ys : List V} {us : List Value}, ks.length = ys.length → Vals ys us → ∀ {y}, dGet ks ys k = some y → ∃ u, dGet ks us k = some u ∧ RelV y u
  | [], [], _, _, h, y, e => by simp [dGet] at e
  | k' :: ks, y' :: ys, _, l, h, y, e => by
    cases h with
    | cons h1 h2 =>
      unfold dGet at e ⊢
      split at e
      · rename_i c; cases e; rw [if_pos c]; exact ⟨_, rfl, h1⟩
      · rename_i c; rw [if_neg c]; exact vals_get (by simpa using l) h2 e
  | [], _ :: _, _, l, _, _, _ => by simp at l
  | _ :: _, [], _, l, _, _, _ => by simp at l
end

/-! ### by keys that are no tuples -/
theorem mix_mem {k : D} (kk : keyOk k = true ∧ isTup k = false) {ks : List D} (hk : ∀ j ∈ ks, keyOk j = true ∧ isTup j = false) : keyK k ∈ ks.map keyK ↔ k ∈ ks := by
  constructor
  · intro h
    obtain ⟨j, hj, e⟩ := List.mem_map.mp h
    rw [← keyK_inj (hk j hj).1 kk.1 (hk j hj).2 kk.2 e]; exact hj
  · exact fun h => List.mem_map_of_mem h
theorem nes_mem {k : D} (kk : keyOk k = true) {ks : List D} (hk : ∀ j ∈ ks, keyOk j = true) : keyN k ∈ ks.map keyN ↔ k ∈ ks := by
  constructor
  · intro h
    obtain ⟨j, hj, e⟩ := List.mem_map.mp h
    rw [← keyN_inj j k (.inl (hk j hj)) (.inl kk) e]; exact hj
  · exact fun h => List.mem_map_of_mem h
section
variable {k : D}
theorem mix_get (kk : keyOk k = true ∧ isTup k = false) : ∀ {ks : List D} {us : List Value}, (∀ j ∈ ks, keyOk j = true ∧ isTup j = false) → valueAt (mixP ks us) (keyK k) = dGet ks us k
  | [], _, _ => by simp [mixP, valueAt, dGet]
  | j :: ks, [], _ => by simp [mixP, valueAt, dGet]
  | j :: ks, u :: us, h => by
    have ih := mix_get kk (ks := ks) (us := us) (fun i hi => h i (List.mem_cons_of_mem _ hi))
    obtain ⟨h1, h2⟩ := h j List.mem_cons_self
    unfold dGet
    by_cases c : D.beq j k = true
    · rw [if_pos c]
      have := beq_iff.mp c; subst this
      show Option.map _ (List.find? _ ((keyK j, u) :: _)) = _
      rw [List.find?_cons_of_pos (by simp)]; rfl
    · rw [if_neg c, ← ih]
      have : keyK j ≠ keyK k := fun e => c (by rw [keyK_inj h1 kk.1 h2 kk.2 e]; exact beq_self _)
      show Option.map _ (List.find? _ ((keyK j, u) :: _)) = _
      rw [List.find?_cons_of_neg (by simpa using this)]; rfl
theorem stored_cons {K : Type} [DecidableEq K] {p : K × Value} {ps : List (K × Value)} {k : K} {v : Value} (h : p.1 ≠ k) : stored (p :: ps) k v = p :: stored ps k v := by
  unfold stored
  rw [List.any_cons]
  simp only [h, decide_false, Bool.false_or]
  split
  · rw [List.map_cons, if_neg h]
  · rfl
theorem stored_same {K : Type} [DecidableEq K] {p : K × Value} {ps : List (K × Value)} {v : Value} (h : p.1 ∉ ps.map (·.1)) : stored (p :: ps) p.1 v = (p.1, v) :: ps := by
  unfold stored
  rw [List.any_cons]
  simp only [decide_true, Bool.true_or, if_true, List.map_cons]
  congr 1
  conv => rhs; rw [← List.map_id ps]
  refine List.map_congr_left fun q hq => ?_
  rw [if_neg (fun e => h (by rw [← e]; exact List.mem_map_of_mem hq))]; rfl
theorem mixP_keys {ks : List D} {us : List Value} (l : ks.length = us.length) : (mixP ks us).map (·.1) = ks.map keyK := by
  unfold mixP
  rw [List.map_fst_zip (by simp; omega)]
theorem mix_put (kk : keyOk k = true ∧ isTup k = false) {u : Value} : ∀ {ks : List D} {us : List Value}, ks.length = us.length → ks.Nodup → (∀ j ∈ ks, keyOk j = true ∧ isTup j = false) → stored (mixP ks us) (keyK k) u = mixP (dPut ks us k u).1 (dPut ks us k u).2
  | [], [], _, _, _ => rfl
  | j :: ks, v :: us, l, nd, h => by
    obtain ⟨h1, h2⟩ := h j List.mem_cons_self
    have l' : ks.length = us.length := by simpa using l
    have nd' := List.nodup_cons.mp nd
    have hm := fun i hi => h i (List.mem_cons_of_mem _ hi)
    unfold dPut
    by_cases c : D.beq j k = true
    · rw [if_pos c]
      have := beq_iff.mp c; subst this
      show stored ((keyK j, v) :: mixP ks us) (keyK j) u = (keyK j, u) :: mixP ks us
      exact stored_same (p := (keyK j, v)) (by rw [mixP_keys l']; exact fun q => nd'.1 ((mix_mem kk hm).mp q))
    · rw [if_neg c]
      have hne : keyK j ≠ keyK k := fun e => c (by rw [keyK_inj h1 kk.1 h2 kk.2 e]; exact beq_self _)
      show stored ((keyK j, v) :: mixP ks us) (keyK k) u = (keyK j, v) :: mixP _ _
      rw [stored_cons (p := (keyK j, v)) hne, mix_put kk l' nd'.2 hm]
  | [], _ :: _, l, _, _ => by simp at l
  | _ :: _, [], l, _, _ => by simp at l
theorem mix_del (kk : keyOk k = true ∧ isTup k = false) : ∀ {ks : List D} {us : List Value}, ks.length = us.length → ks.Nodup → (∀ j ∈ ks, keyOk j = true ∧ isTup j = false) → without (mixP ks us) (keyK k) = mixP (dDel ks us k).1 (dDel ks us k).2
  | [], [], _, _, _ => rfl
  | j :: ks, v :: us, l, nd, h => by
    obtain ⟨h1, h2⟩ := h j List.mem_cons_self
    have l' : ks.length = us.length := by simpa using l
    have nd' := List.nodup_cons.mp nd
    have hm := fun i hi => h i (List.mem_cons_of_mem _ hi)
    unfold dDel
    by_cases c : D.beq j k = true
    · rw [if_pos c]
      have := beq_iff.mp c; subst this
      show List.filter _ ((keyK j, v) :: mixP ks us) = mixP ks us
      rw [List.filter_cons_of_neg (by simp)]
      exact without_of_not_mem _ _ (by rw [mixP_keys l']; exact fun q => nd'.1 ((mix_mem kk hm).mp q))
    · rw [if_neg c]
      have hne : keyK j ≠ keyK k := fun e => c (by rw [keyK_inj h1 kk.1 h2 kk.2 e]; exact beq_self _)
      show List.filter _ ((keyK j, v) :: mixP ks us) = (keyK j, v) :: mixP _ _
      rw [List.filter_cons_of_pos (by simpa using hne), ← mix_del kk l' nd'.2 hm]
      rfl
  | [], _ :: _, l, _, _ => by simp at l
  | _ :: _, [], l, _, _ => by simp at l

/-! ### by keys that are tuples -/
theorem nesP_keys : ∀ {ks : List D} {as : List Addr} {us : List Value}, ks.length = us.length → as.length = us.length → (nesP ks as us).map (·.1) = ks.map keyN
  | [], [], [], _, _ => rfl
  | k :: ks, a :: as, u :: us, l, l2 => by
    show keyN k :: (nesP ks as us).map (·.1) = _
    rw [nesP_keys (by simpa using l) (by simpa using l2)]; rfl
  | [], _, _ :: _, l, _ => by simp at l
  | [], _ :: _, [], _, l => by simp at l
  | _ :: _, _, [], l, _ => by simp at l
  | _ :: _, [], _ :: _, _, l => by simp at l
theorem nesP_len : ∀ {ks : List D} {as : List Addr} {us : List Value}, ks.length = us.length → as.length = us.length → (nesP ks as us).length = ks.length := fun l l2 => by
  have := congrArg List.length (nesP_keys l l2)
  simpa using this
theorem nes_get (kk : keyOk k = true) : ∀ {ks : List D} {as : List Addr} {us : List Value}, ks.length = us.length → as.length = us.length → (∀ j ∈ ks, keyOk j = true) → (atKey (nesP ks as us) (keyN k)).map (·.2) = dGet ks us k
  | [], [], [], _, _, _ => rfl
  | j :: ks, a :: as, u :: us, l, l2, h => by
    have ih := nes_get kk (ks := ks) (as := as) (us := us) (by simpa using l) (by simpa using l2) (fun i hi => h i (List.mem_cons_of_mem _ hi))
    unfold dGet
    by_cases c : D.beq j k = true
    · rw [if_pos c]
      have := beq_iff.mp c; subst this
      show Option.map _ (Option.map _ (List.find? _ ((keyN j, a, u) :: _))) = _
      rw [List.find?_cons_of_pos (by simp)]; rfl
    · rw [if_neg c, ← ih]
      have : keyN j ≠ keyN k := fun e => c (by rw [keyN_inj j k (.inl (h j List.mem_cons_self)) (.inl kk) e]; exact beq_self _)
      show Option.map _ (Option.map _ (List.find? _ ((keyN j, a, u) :: _))) = _
      rw [List.find?_cons_of_neg (by simpa using this)]; rfl
  | [], _, _ :: _, l, _, _ => by simp at l
  | [], _ :: _, [], _, l, _ => by simp at l
  | _ :: _, _, [], l, _, _ => by simp at l
  | _ :: _, [], _ :: _, _, l, _ => by simp at l
/-- where the keys stand, behind -/
def aPut (ks : List D) (as : List Addr) (k : D) (b : Addr) : List Addr := if (ks.any fun j => D.beq j k) then as else as ++ [b]
theorem any_beq {ks : List D} : (ks.any fun j => D.beq j k) = true ↔ k ∈ ks := by
  rw [List.any_eq_true]
  constructor
  · rintro ⟨j, hj, e⟩; rw [← beq_iff.mp e]; exact hj
  · exact fun h => ⟨k, h, beq_self _⟩
theorem at_some {K : Type} [DecidableEq K] {k : K} : ∀ {xs : List (K × Addr × Value)}, (atKey xs k).isSome = true ↔ k ∈ xs.map (·.1)
  | [] => by simp [atKey]
  | x :: xs => by
    have ih := at_some (k := k) (xs := xs)
    unfold atKey at ih ⊢
    by_cases c : x.1 = k
    · rw [List.find?_cons_of_pos (by simpa using c)]; simp [c]
    · rw [List.find?_cons_of_neg (by simpa using c), ih]
      have : ¬ k = x.1 := fun e => c e.symm
      simp [this]
theorem storedH_cons {K : Type} [DecidableEq K] {p : K × Addr × Value} {ps : List (K × Addr × Value)} {k : K} {b : Addr} {v : Value} (h : p.1 ≠ k) : storedH (p :: ps) k b v = p :: storedH ps k b v := by
  have e : (atKey (p :: ps) k).isSome = (atKey ps k).isSome := by unfold atKey; rw [List.find?_cons_of_neg (by simpa using h)]
  unfold storedH
  rw [e]
  split
  · rw [List.map_cons]; congr 1; unfold putAt; rw [if_neg h]
  · rfl
theorem storedH_same {K : Type} [DecidableEq K] {p : K × Addr × Value} {ps : List (K × Addr × Value)} {b : Addr} {v : Value} (h : p.1 ∉ ps.map (·.1)) : storedH (p :: ps) p.1 b v = (p.1, p.2.1, v) :: ps := by
  have e : (atKey (p :: ps) p.1).isSome = true := at_some.mpr (by simp)
  unfold storedH
  rw [if_pos e, List.map_cons, map_putAt_of_not_mem _ _ _ h]
  unfold putAt
  rw [if_pos rfl]
theorem nes_put (kk : keyOk k = true) {b : Addr} {u : Value} : ∀ {ks : List D} {as : List Addr} {us : List Value}, ks.length = us.length → as.length = us.length → ks.Nodup → (∀ j ∈ ks, keyOk j = true) →
    storedH (nesP ks as us) (keyN k) b u = nesP (dPut ks us k u).1 (aPut ks as k b) (dPut ks us k u).2
  | [], [], [], _, _, _, _ => rfl
  | j :: ks, a :: as, v :: us, l, l2, nd, h => by
    have l' : ks.length = us.length := by simpa using l
    have l2' : as.length = us.length := by simpa using l2
    have nd' := List.nodup_cons.mp nd
    have hm := fun i hi => h i (List.mem_cons_of_mem _ hi)
    unfold dPut
    by_cases c : D.beq j k = true
    · rw [if_pos c]
      have := beq_iff.mp c; subst this
      have ea : aPut (j :: ks) (a :: as) j b = a :: as := by unfold aPut; rw [List.any_cons, beq_self]; rfl
      rw [ea]
      show storedH ((keyN j, a, v) :: nesP ks as us) (keyN j) b u = (keyN j, a, u) :: nesP ks as us
      exact storedH_same (p := (keyN j, a, v)) (by rw [nesP_keys l' l2']; exact fun q => nd'.1 ((nes_mem kk hm).mp q))
    · rw [if_neg c]
      have hne : keyN j ≠ keyN k := fun e => c (by rw [keyN_inj j k (.inl (h j List.mem_cons_self)) (.inl kk) e]; exact beq_self _)
      have ea : aPut (j :: ks) (a :: as) k b = a :: aPut ks as k b := by
        unfold aPut
        rw [List.any_cons]
        simp only [c, Bool.false_or]
        split <;> rfl
      rw [ea]
      show storedH ((keyN j, a, v) :: nesP ks as us) (keyN k) b u = (keyN j, a, v) :: nesP _ _ _
      rw [storedH_cons (p := (keyN j, a, v)) hne, nes_put kk l' l2' nd'.2 hm]
  | [], _, _ :: _, l, _, _, _ => by simp at l
  | [], _ :: _, [], _, l, _, _ => by simp at l
  | _ :: _, _, [], l, _, _, _ => by simp at l
  | _ :: _, [], _ :: _, _, l, _, _ => by simp at l
theorem nes_del (kk : keyOk k = true) : ∀ {ks : List D} {as : List Addr} {us : List Value}, ks.length = us.length → as.length = us.length → ks.Nodup → (∀ j ∈ ks, keyOk j = true) →
    withoutH (nesP ks as us) (keyN k) = nesP (dDel ks us k).1 (dDel ks as k).2 (dDel ks us k).2
  | [], [], [], _, _, _, _ => rfl
  | j :: ks, a :: as, v :: us, l, l2, nd, h => by
    have l' : ks.length = us.length := by simpa using l
    have l2' : as.length = us.length := by simpa using l2
    have nd' := List.nodup_cons.mp nd
    have hm := fun i hi => h i (List.mem_cons_of_mem _ hi)
    unfold dDel
    by_cases c : D.beq j k = true
    · rw [if_pos c, if_pos c]
      have := beq_iff.mp c; subst this
      show List.filter _ ((keyN j, a, v) :: nesP ks as us) = nesP ks as us
      rw [List.filter_cons_of_neg (by simp)]
      exact withoutH_of_not_mem _ _ (by rw [nesP_keys l' l2']; exact fun q => nd'.1 ((nes_mem kk hm).mp q))
    · rw [if_neg c, if_neg c]
      have hne : keyN j ≠ keyN k := fun e => c (by rw [keyN_inj j k (.inl (h j List.mem_cons_self)) (.inl kk) e]; exact beq_self _)
      show List.filter _ ((keyN j, a, v) :: nesP ks as us) = (keyN j, a, v) :: nesP _ _ _
      rw [List.filter_cons_of_pos (by simpa using hne), ← nes_del kk l' l2' nd'.2 hm]
      rfl
  | [], _, _ :: _, l, _, _, _ => by simp at l
  | [], _ :: _, [], _, l, _, _ => by simp at l
  | _ :: _, _, [], l, _, _, _ => by simp at l
  | _ :: _, [], _ :: _, _, l, _, _ => by simp at l
end
end L3

set_option Elab.async false
set_option linter.all false
set_option autoImplicit false
set_option maxRecDepth 100000
set_option maxHeartbeats 4000000
/-! FkDict2: what is done with dicts. -/
namespace L3
open PySem PySem.Spec PyProof.Rows L2 Fk

theorem kOk_of {ks : List D} {k : D} (h : kOk ks k = true) : keyOk k = true ∧ depth k ≤ 8 ∧ ∀ j ∈ ks, isTup j = isTup k := by
  unfold kOk at h
  simp only [Bool.and_eq_true, decide_eq_true_eq, List.all_eq_true, beq_iff_eq] at h
  exact ⟨h.1.1, h.1.2, h.2⟩
theorem ksOk_put {α : Type} {ks : List D} {vs : List α} {k : D} {v : α} (K : KsOk ks) (l : ks.length = vs.length) (h : kOk ks k = true) (z : ks.length < PySem.sizeLine) : KsOk (dPut ks vs k v).1 := by
  obtain ⟨h1, h2, h3⟩ := kOk_of h
  cases q : dGet ks vs k with
  | some y => rw [dPut_some l (by rw [q]; rfl)]; exact K
  | none =>
    rw [dPut_none l q]
    have hn : k ∉ ks := fun hm => by have := (dGet_mem (vs := vs) l).mpr hm; rw [q] at this; cases this
    refine ⟨List.nodup_append.mpr ⟨K.nd, by simp, fun a ha b hb e => ?_⟩, fun j hj => ?_, fun i hi j hj => ?_, ?_⟩
    · rw [List.mem_singleton] at hb
      subst hb e
      exact hn ha
    · rcases List.mem_append.mp hj with hj | hj
      · exact K.key j hj
      · rw [List.mem_singleton.mp hj]; exact ⟨h1, h2⟩
    · have t : ∀ x ∈ ks ++ [k], isTup x = isTup k := fun x hx => by
        rcases List.mem_append.mp hx with hx | hx
        · exact h3 x hx
        · rw [List.mem_singleton.mp hx]
      rw [t i hi, t j hj]
    · simp only [List.length_append, List.length_singleton]; omega
theorem ksOk_del {α : Type} {ks : List D} {vs : List α} {k : D} (K : KsOk ks) (l : ks.length = vs.length) : KsOk (dDel ks vs k).1 := by
  have sb := dDel_sub (k := k) l
  exact ⟨K.nd.sublist sb, fun j hj => K.key j (sb.subset hj), fun i hi j hj => K.one i (sb.subset hi) j (sb.subset hj), Nat.le_trans sb.length_le K.len⟩
theorem ksOk_nil : KsOk [] where
  nd := List.nodup_nil
  key := fun k h => (by simp at h)
  one := fun k h => (by simp at h)
  len := Nat.zero_le _

section
variable {X : Cx} {g : G} {pins : List (Addr × Obj)} {σ : L2.St} {H : Hp} {s : Shared} {φ : Phi} {a : Addr} {o : Obj} {ks ds : List D} {xs ys : List V}
/-- the faces of a dict that stands -/
theorem dict_faces (hw : g.w = X.w) (hk : g.K = X.K) (I : Inv X pins σ H s) (hd : H a = some (dO a o)) (p : DicP g.w a o ks xs ys) (rk : RepL g H φ ks xs) :
    ∃ us, Vals ys us ∧ ks.length = us.length ∧ ((∀ k ∈ ks, isTup k = false) → s.heap.DictOf (mixKind X.prog X.w) a (mixP ks us)) ∧
      ((∀ k ∈ ks, isTup k = true) → ∃ as : List Addr, xs = as.map V.ref ∧ as.length = us.length ∧ s.heap.DictOfH (nestedKind X.prog X.w) a (nesP ks as us)) := by
  obtain ⟨es, ep, e1, e2⟩ := p.ent
  obtain ⟨l1, l2, l3⟩ := entl_len e2
  have ho := Inv.dob I hd
  refine ⟨es.toList.map (·.val), (entl_vals e2).2, by simpa using l1, fun ht => ?_, fun ht => ?_⟩
  · obtain ⟨q1, q2⟩ := ent_mix (P := X.prog) (hw ▸ e2) rk (fun k h => ⟨(p.ks.key k h).1, ht k h⟩)
    refine ⟨o, es, ep, ho, p.ex, e1, fun e he => q2 e (by simpa using he), q1, ?_⟩
    rw [mixP_keys (by simpa using l1)]
    refine List.pairwise_map.mpr (p.ks.nd.imp_of_mem fun {a b} ha hb hab e => hab ?_)
    exact keyK_inj (p.ks.key a ha).1 (p.ks.key b hb).1 (ht a ha) (ht b hb) e
  · obtain ⟨q1, q2⟩ := ent_nes (P := X.prog) (hw ▸ e2) rk (fun k h => ⟨(p.ks.key k h).1, ht k h⟩)
    have hx : xs = (xs.map adOf).map V.ref := by
      rw [List.map_map]
      conv => lhs; rw [← List.map_id xs]
      exact List.map_congr_left fun x hx => q2 x hx
    refine ⟨xs.map adOf, hx, by simp [l2], o, es, ep, ho, p.ex, e1, q1, ?_, ?_⟩
    · -- each stands
      have all : ∀ (ks : List D) (xs : List V) (us : List Value), RepL g H φ ks xs → (∀ k ∈ ks, keyOk k = true ∧ depth k ≤ 8 ∧ isTup k = true) → ∀ y ∈ nesP ks (xs.map adOf) us, (nestedKind X.prog X.w).is s.heap y.1 y.2.1 := by
        intro ks
        induction ks with
        | nil => intro xs us _ _ y hy; simp [nesP] at hy
        | cons k ks ih =>
          intro xs us r hk2 y hy
          unfold RepL at r
          obtain ⟨v, rr, rfl, r1, r2⟩ := r
          cases us with
          | nil => simp [nesP] at hy
          | cons u us =>
            have hy' : y ∈ (keyN k, adOf v, u) :: nesP ks (rr.map adOf) us := hy
            rcases List.mem_cons.mp hy' with rfl | hy'
            · obtain ⟨c1, c2, c3⟩ := hk2 k List.mem_cons_self
              have hv : ∃ b, v = .ref b := by
                cases k <;> first | (simp [isTup] at c3; done) | skip
                obtain ⟨b, _, e, _⟩ := repv_tup r1
                exact ⟨b, e⟩
              obtain ⟨b, rfl⟩ := hv
              obtain ⟨b', e1, _, e3⟩ := key_tup hk I r1 (u := .ref b) rfl c1 c2 c3
              cases e1
              exact e3
            · exact ih rr us r2 (fun j hj => hk2 j (List.mem_cons_of_mem _ hj)) y hy'
      exact all ks xs _ rk (fun k h => ⟨(p.ks.key k h).1, (p.ks.key k h).2, ht k h⟩)
    · rw [nesP_keys (by simpa using l1) (by simp [l2])]
      exact List.pairwise_map.mpr (p.ks.nd.imp_of_mem fun {a b} ha hb hab e => hab (keyN_inj a b (.inl (p.ks.key a ha).1) (.inl (p.ks.key b hb).1) e))
theorem face_mix {P : Program} {w : World} {h' : Heap} {us : List Value} (d : h'.DictOf (mixKind P w) a (mixP ks us)) (l : ks.length = us.length) (v : Vals ys us) (K : KsOk ks) (nt : ∀ k ∈ ks, isTup k = false) (sys : (a == sysModules) = false) :
    ∃ o xs, h'.get? a = some o ∧ DicP w a o ks xs ys ∧ ∀ H φ, RepL g H φ ks xs := by
  obtain ⟨o, es, ep, h1, h2, h3, h4, h5, h6⟩ := d
  obtain ⟨xs, q1, q2⟩ := mix_ent (g := g) h5 l v (fun k h => ⟨(K.key k h).1, nt k h⟩) (fun e he => h4 e (by simpa using he))
  exact ⟨o, xs, h1, ⟨sys, h2, ⟨es, ep, h3, q1⟩, K⟩, q2⟩
theorem face_nes {P : Program} {w : World} {h' : Heap} {as : List Addr} {us : List Value} (d : h'.DictOfH (nestedKind P w) a (nesP ks as us)) (l : ks.length = us.length) (l2 : as.length = us.length) (v : Vals ys us) (K : KsOk ks) (sys : (a == sysModules) = false) :
    ∃ o, h'.get? a = some o ∧ DicP w a o ks (as.map V.ref) ys := by
  obtain ⟨o, es, ep, h1, h2, h3, h4, h5, h6⟩ := d
  exact ⟨o, h1, ⟨sys, h2, ⟨es, ep, h3, by rw [h4]; exact nes_ent l l2 v⟩, K⟩⟩

section
variable {A : Around} {E : Value → Shared → Prop} {k : D} {x y : V} {u r : Value}
theorem one_kind (h : kOk ks k = true) : (isTup k = false ∧ ∀ j ∈ ks, isTup j = false) ∨ (isTup k = true ∧ ∀ j ∈ ks, isTup j = true) := by
  obtain ⟨_, _, h3⟩ := kOk_of h
  cases e : isTup k with
  | false => exact .inl ⟨rfl, fun j hj => by rw [h3 j hj, e]⟩
  | true => exact .inr ⟨rfl, fun j hj => by rw [h3 j hj, e]⟩
/-- d[k] -/
theorem k_get {Q : Value → Shared → Prop} (hu : A.units + 64 < cLine) (hw : g.w = X.w) (hk : g.K = X.K) (I : Inv X pins σ H s) (hd : H a = some (dO a o)) (p : DicP g.w a o ks xs ys) (rk : RepL g H φ ks xs) (rd : RepL g H φ ds ys)
    (h1 : kOk ks k = true) (rx : RepV g H φ k x) (ru : RelV x u) {d : D} (e : dGet ks ds k = some d) (h : ∀ v w s', Inv X pins σ H s' → RepV g H φ d v → RelV v w → Q w s') : wpAny (model X.prog X.w) A (getItem (.ref a) u) Q E s := by
  obtain ⟨us, v1, l1, f1, f2⟩ := dict_faces hw hk I hd p rk
  have ly : ks.length = ys.length := by rw [l1, v1.length]
  have ld : ks.length = ds.length := by rw [ly, rd.length]
  obtain ⟨v, e2, rv⟩ := repl_get (us := us) ld rd e
  obtain ⟨w, e3, rw'⟩ := vals_get ly v1 e2
  obtain ⟨k1, k2, k3⟩ := kOk_of h1
  rcases one_kind h1 with ⟨t1, t2⟩ | ⟨t1, t2⟩
  · exact wpAny_getItem_of (key_mix rx ru k1 t1) (f1 t2).mapOf (by rw [mix_get ⟨k1, t1⟩ (fun j hj => ⟨(p.ks.key j hj).1, t2 j hj⟩)]; exact e3) (h v w _ (I.tok _) rv rw')
  · obtain ⟨b, rfl, rfl, ki⟩ := key_tup hk I rx ru k1 k2 t1
    obtain ⟨as, q1, q2, q3⟩ := f2 t2
    have ge := nes_get k1 l1 q2 (fun j hj => (p.ks.key j hj).1)
    rw [e3] at ge
    obtain ⟨pr, g1, g2⟩ := Option.map_eq_some_iff.mp ge
    refine wpAny_getItem_heap (knd := nestedKind X.prog X.w) (by show A.units + 1 + 8 < cLine; omega) ki q3 g1 ?_
    rw [g2]
    exact h v w _ (I.tok _) rv rw'
/-- k in d, k not in d -/
theorem k_in {Q : Value → Shared → Prop} (hu : A.units + 64 < cLine) (hw : g.w = X.w) (hk : g.K = X.K) (I : Inv X pins σ H s) (hd : H a = some (dO a o)) (p : DicP g.w a o ks xs ys) (rk : RepL g H φ ks xs) (rd : RepL g H φ ds ys)
    (h1 : kOk ks k = true) (rx : RepV g H φ k x) (ru : RelV x u) :
    ((∀ s', Inv X pins σ H s' → Q (.bool (dGet ks ds k).isSome) s') → wpAny (model X.prog X.w) A (compareOp .In u (.ref a)) Q E s) ∧
    ((∀ s', Inv X pins σ H s' → Q (.bool (!(dGet ks ds k).isSome)) s') → wpAny (model X.prog X.w) A (compareOp .NotIn u (.ref a)) Q E s) := by
  obtain ⟨us, v1, l1, f1, f2⟩ := dict_faces hw hk I hd p rk
  have ly : ks.length = ys.length := by rw [l1, v1.length]
  have ld : ks.length = ds.length := by rw [ly, rd.length]
  have es : (dGet ks us k).isSome = (dGet ks ds k).isSome := by
    rw [Bool.eq_iff_iff, dGet_mem l1, dGet_mem ld]
  obtain ⟨k1, k2, k3⟩ := kOk_of h1
  rcases one_kind h1 with ⟨t1, t2⟩ | ⟨t1, t2⟩
  · have ge := mix_get (us := us) ⟨k1, t1⟩ (fun j hj => ⟨(p.ks.key j hj).1, t2 j hj⟩)
    refine ⟨fun h => wpAny_in_of (key_mix rx ru k1 t1) p.sys (f1 t2).mapOf ?_, fun h => wpAny_notIn_of (key_mix rx ru k1 t1) p.sys (f1 t2).mapOf ?_⟩
    · rw [ge, es]; exact h _ (I.tok _)
    · rw [ge, es]; exact h _ (I.tok _)
  · obtain ⟨b, rfl, rfl, ki⟩ := key_tup hk I rx ru k1 k2 t1
    obtain ⟨as, q1, q2, q3⟩ := f2 t2
    have ge := nes_get k1 l1 q2 (fun j hj => (p.ks.key j hj).1)
    have e2 : (atKey (nesP ks as us) (keyN k)).isSome = (dGet ks ds k).isSome := by rw [← es, ← ge, Option.isSome_map]
    refine ⟨fun h => wpAny_in_heap (knd := nestedKind X.prog X.w) (by show A.units + 1 + 8 < cLine; omega) ki p.sys q3 ?_, fun h => wpAny_notIn_heap (knd := nestedKind X.prog X.w) (by show A.units + 1 + 8 < cLine; omega) ki p.sys q3 ?_⟩
    · rw [e2]; exact h _ (I.tok _)
    · rw [e2]; exact h _ (I.tok _)
/-- where the keys of a dict stand, behind d[k] = v -/
def KeysAt (g : G) (H : Hp) (φ : Phi) (ks : List D) (xs : List V) (k : D) (x : V) (ks' : List D) (xs' : List V) : Prop :=
  ∀ H' φ', RepL g H' φ' ks xs → RepV g H' φ' k x → RepL g H' φ' ks' xs'
theorem I_wr (I : Inv X pins σ H s) {h' : Heap} {t' : Nat} {o' : Obj} (hd : H a = some (dO a o)) (hs : Heap.SameBut a s.heap h') (ho : h'.get? a = some o') : Inv X pins σ (upd H a (dO a o')) { s with heap := h', toks := t' } :=
  d_write I (by rw [hd]; exact True.intro) hs ⟨_, ho⟩ (dO_ok ho)
/-- d[k] = v -/
theorem k_put {Q : Unit → Shared → Prop} (hu : A.units + 64 < cLine) (hw : g.w = X.w) (hk : g.K = X.K) (I : Inv X pins σ H s) (hd : H a = some (dO a o)) (p : DicP g.w a o ks xs ys) (rk : RepL g H φ ks xs)
    (h1 : kOk ks k = true) (hz : ks.length < PySem.sizeLine) (rx : RepV g H φ k x) (ru : RelV x u) (rr : RelV y r)
    (h : ∀ o' xs' s', Inv X pins σ (upd H a (dO a o')) s' → DicP g.w a o' (dPut ks ys k y).1 xs' (dPut ks ys k y).2 → KeysAt g H φ ks xs k x (dPut ks ys k y).1 xs' → Q () s') : wpAny (model X.prog X.w) A (setItem (.ref a) u r) Q E s := by
  obtain ⟨us, v1, l1, f1, f2⟩ := dict_faces hw hk I hd p rk
  have ly : ks.length = ys.length := by rw [l1, v1.length]
  obtain ⟨k1, k2, k3⟩ := kOk_of h1
  have K' := ksOk_put (v := y) p.ks ly h1 hz
  have ek : (dPut ks us k r).1 = (dPut ks ys k y).1 := dPut_keys l1 ly
  have lp := dPut_len (k := k) (v := r) l1
  have vp := vals_put (k := k) ly v1 rr
  rcases one_kind h1 with ⟨t1, t2⟩ | ⟨t1, t2⟩
  · refine wpAny_setItem_pairs (hsz := by unfold mixP; simp; omega) (key_mix rx ru k1 t1) (f1 t2) fun h' hm hs => ?_
    rw [mix_put ⟨k1, t1⟩ l1 p.ks.nd (fun j hj => ⟨(p.ks.key j hj).1, t2 j hj⟩), ek] at hm
    obtain ⟨o', xs', q1, q2, q3⟩ := face_mix (g := g) (w := X.w) hm (by rw [← ek]; exact lp) vp K' (fun j hj => by
      cases q : dGet ks ys k with
      | some z => rw [dPut_some ly (by rw [q]; rfl)] at hj; exact t2 j hj
      | none =>
        rw [dPut_none ly q] at hj
        rcases List.mem_append.mp hj with hj | hj
        · exact t2 j hj
        · rw [List.mem_singleton.mp hj]; exact t1) p.sys
    exact h o' xs' _ (I_wr I hd hs q1) (hw.symm ▸ q2) fun H' φ' _ _ => q3 H' φ'
  · obtain ⟨b, rfl, rfl, ki⟩ := key_tup hk I rx ru k1 k2 t1
    obtain ⟨as, rfl, q2, q3⟩ := f2 t2
    refine wpAny_setItem_heap (knd := nestedKind X.prog X.w) (hsz := by rw [nesP_len l1 q2]; omega) (by show A.units + 1 + 8 < cLine; omega) ki q3 fun h' hm hs => ?_
    rw [nes_put k1 l1 q2 p.ks.nd (fun j hj => (p.ks.key j hj).1), ek] at hm
    have la : (aPut ks as k b).length = (dPut ks us k r).2.length := by
      unfold aPut
      rw [← lp]
      cases q : dGet ks us k with
      | some z =>
        have hm := (dGet_mem (vs := us) (k := k) l1).mp (by rw [q]; rfl)
        rw [if_pos (any_beq.mpr hm), dPut_some l1 (by rw [q]; rfl)]; omega
      | none =>
        have hn : ¬ (ks.any fun j => D.beq j k) = true := fun e => by
          have := (dGet_mem (vs := us) l1).mpr (any_beq.mp e); rw [q] at this; cases this
        rw [if_neg hn, dPut_none l1 q]; simp; omega
    obtain ⟨o', e1, e2⟩ := face_nes (w := X.w) hm (by rw [← ek]; exact lp) la vp K' p.sys
    refine h o' _ _ (I_wr I hd hs e1) (hw.symm ▸ e2) fun H' φ' z1 z2 => ?_
    unfold aPut
    cases q : dGet ks ys k with
    | some z =>
      have hm := (dGet_mem (vs := ys) (k := k) ly).mp (by rw [q]; rfl)
      rw [if_pos (any_beq.mpr hm), dPut_some ly (by rw [q]; rfl)]; exact z1
    | none =>
      have hn : ¬ (ks.any fun j => D.beq j k) = true := fun e => by
        have := (dGet_mem (vs := ys) ly).mpr (any_beq.mp e); rw [q] at this; cases this
      rw [if_neg hn, dPut_none ly q, List.map_append]
      exact z1.append (by unfold RepL; exact ⟨_, [], rfl, z2, by simp [RepL]⟩)
/-- d.get(k), d.get(k, z) -/
theorem k_getd {Q : Value → Shared → Prop} (hu : A.units + 64 < cLine) (hw : g.w = X.w) (hk : g.K = X.K) (I : Inv X pins σ H s) (hd : H a = some (dO a o)) (p : DicP g.w a o ks xs ys) (rk : RepL g H φ ks xs) (rd : RepL g H φ ds ys)
    (h1 : kOk ks k = true) (rx : RepV g H φ k x) (ru : RelV x u) {z : D} {zv : V} {zu : Value} (rz : RepV g H φ z zv) (rzu : RelV zv zu) (h : ∀ v w s', Inv X pins σ H s' → RepV g H φ ((dGet ks ds k).getD z) v → RelV v w → Q w s') :
    (zu = .none → wpAny (model X.prog X.w) A (call (.builtin "dict.get") [.ref a, u]) Q E s) ∧ wpAny (model X.prog X.w) A (call (.builtin "dict.get") [.ref a, u, zu]) Q E s := by
  obtain ⟨us, v1, l1, f1, f2⟩ := dict_faces hw hk I hd p rk
  have ly : ks.length = ys.length := by rw [l1, v1.length]
  have ld : ks.length = ds.length := by rw [ly, rd.length]
  obtain ⟨k1, k2, k3⟩ := kOk_of h1
  have fin : ∀ s', Inv X pins σ H s' → Q ((dGet ks us k).getD zu) s' := fun s' I' => by
    cases e : dGet ks ds k with
    | some d =>
      obtain ⟨v, e2, rv⟩ := repl_get (us := us) ld rd e
      obtain ⟨w, e3, rw'⟩ := vals_get ly v1 e2
      rw [e3]
      exact h v w s' I' (by rw [e]; exact rv) rw'
    | none =>
      have e3 : dGet ks us k = none := by
        cases q : dGet ks us k with
        | none => rfl
        | some w =>
          have := (dGet_mem (vs := ds) ld).mpr ((dGet_mem (vs := us) (k := k) l1).mp (by rw [q]; rfl))
          rw [e] at this; cases this
      rw [e3]
      exact h zv zu s' I' (by rw [e]; exact rz) rzu
  rcases one_kind h1 with ⟨t1, t2⟩ | ⟨t1, t2⟩
  · have ge := mix_get (us := us) ⟨k1, t1⟩ (fun j hj => ⟨(p.ks.key j hj).1, t2 j hj⟩)
    refine ⟨fun e => ?_, ?_⟩
    · refine call_meetsIn PySem.F.slot_dict_get (f1 t2).typeIs PySem.F.entry_dict_get (PySem.F.args_dict_get_2 _ _) (meets_dict_get (mixKind X.prog X.w) a (key_mix rx ru k1 t1) p.sys) ⟨_, (f1 t2).mapOf, ?_⟩
      rw [ge]; subst e; exact fin _ (I.tok _)
    · refine call_meetsIn PySem.F.slot_dict_get (f1 t2).typeIs PySem.F.entry_dict_get (PySem.F.args_dict_get_3 _ _ _) (meets_dict_get_default (mixKind X.prog X.w) a (key_mix rx ru k1 t1) p.sys zu) ⟨_, (f1 t2).mapOf, ?_⟩
      rw [ge]; exact fin _ (I.tok _)
  · obtain ⟨b, rfl, rfl, ki⟩ := key_tup hk I rx ru k1 k2 t1
    obtain ⟨as, q1, q2, q3⟩ := f2 t2
    have ge := nes_get k1 l1 q2 (fun j hj => (p.ks.key j hj).1)
    refine ⟨fun e => ?_, ?_⟩
    · refine call_meetsIn PySem.F.slot_dict_get q3.typeIs PySem.F.entry_dict_get (PySem.F.args_dict_get_2 _ _) (meetsH_dict_get (nestedKind X.prog X.w) a b p.sys) ⟨by show A.units + 1 + 8 < cLine; omega, _, _, ki, q3, ?_⟩
      rw [ge]; subst e; exact fin _ (I.tok _)
    · refine call_meetsIn PySem.F.slot_dict_get q3.typeIs PySem.F.entry_dict_get (PySem.F.args_dict_get_3 _ _ _) (meetsH_dict_get_default (nestedKind X.prog X.w) a b p.sys zu) ⟨by show A.units + 1 + 8 < cLine; omega, _, _, ki, q3, ?_⟩
      rw [ge]; exact fin _ (I.tok _)
/-- d.pop(k, z) -/
theorem k_pop {Q : Value → Shared → Prop} (hu : A.units + 64 < cLine) (hw : g.w = X.w) (hk : g.K = X.K) (I : Inv X pins σ H s) (hd : H a = some (dO a o)) (p : DicP g.w a o ks xs ys) (rk : RepL g H φ ks xs) (rd : RepL g H φ ds ys)
    (h1 : kOk ks k = true) (rx : RepV g H φ k x) (ru : RelV x u) {zv : V} {zu : Value} (rzu : RelV zv zu)
    (h0 : dGet ks ds k = none → ∀ s', Inv X pins σ H s' → Q zu s')
    (h2 : ∀ d v w o' xs' s', dGet ks ds k = some d → RepV g H φ d v → RelV v w → Inv X pins σ (upd H a (dO a o')) s' → DicP g.w a o' (dDel ks ys k).1 xs' (dDel ks ys k).2 → (∀ H' φ', RepL g H' φ' ks xs → RepL g H' φ' (dDel ks ys k).1 xs') → Q w s') :
    wpAny (model X.prog X.w) A (call (.builtin "dict.pop") [.ref a, u, zu]) Q E s := by
  obtain ⟨us, v1, l1, f1, f2⟩ := dict_faces hw hk I hd p rk
  have ly : ks.length = ys.length := by rw [l1, v1.length]
  have ld : ks.length = ds.length := by rw [ly, rd.length]
  obtain ⟨k1, k2, k3⟩ := kOk_of h1
  have K' := ksOk_del (k := k) p.ks ly
  have ek : (dDel ks us k).1 = (dDel ks ys k).1 := dDel_keys l1 ly
  have lp := dDel_len (k := k) l1
  have vp := vals_del (k := k) ly v1
  have both : ∀ w, dGet ks us k = some w → ∃ d v, dGet ks ds k = some d ∧ RepV g H φ d v ∧ RelV v w := fun w e => by
    cases q : dGet ks ds k with
    | none =>
      have := (dGet_mem (vs := ds) ld).mpr ((dGet_mem (vs := us) (k := k) l1).mp (by rw [e]; rfl))
      rw [q] at this; cases this
    | some d =>
      obtain ⟨v, e2, rv⟩ := repl_get (us := us) ld rd q
      obtain ⟨w', e3, rw'⟩ := vals_get ly v1 e2
      rw [e] at e3; cases e3
      exact ⟨d, v, rfl, rv, rw'⟩
  have neither : dGet ks us k = none → dGet ks ds k = none := fun e => by
    cases q : dGet ks ds k with
    | none => rfl
    | some d =>
      have := (dGet_mem (vs := us) l1).mpr ((dGet_mem (vs := ds) (k := k) ld).mp (by rw [q]; rfl))
      rw [e] at this; cases this
  rcases one_kind h1 with ⟨t1, t2⟩ | ⟨t1, t2⟩
  · have ge := mix_get (us := us) ⟨k1, t1⟩ (fun j hj => ⟨(p.ks.key j hj).1, t2 j hj⟩)
    have hp : (keyPart u).isSome = true := by
      have := key_mix (P := X.prog) (w := X.w) rx ru k1 t1
      rcases keyIs_shape (show keyIs (keyK k) u = true from this) with ⟨i, t, _, rfl⟩ | ⟨z, t, _, rfl⟩ <;> rfl
    cases e : dGet ks us k with
    | none =>
      exact call_meetsIn PySem.F.slot_dict_pop (f1 t2).typeIs PySem.F.entry_dict_pop (PySem.F.args_dict_pop_3 _ _ _) (meets_dict_pop_default (mixKind X.prog X.w) a (key_mix rx ru k1 t1) p.sys hp zu) ⟨_, f1 t2, by rw [ge, e], h0 (neither e) _ (I.tok _)⟩
    | some w =>
      obtain ⟨d, v, e1, rv, rw'⟩ := both w e
      refine call_meetsIn PySem.F.slot_dict_pop (f1 t2).typeIs PySem.F.entry_dict_pop (PySem.F.args_dict_pop_3 _ _ _) (meets_dict_pop_there (mixKind X.prog X.w) a (key_mix rx ru k1 t1) [zu] (.inr ⟨_, rfl⟩) hp)
        ⟨_, w, f1 t2, by unfold mixP; simp; have := p.ks.len; omega, by rw [ge, e], fun h' hm hs => ?_⟩
      rw [mix_del ⟨k1, t1⟩ l1 p.ks.nd (fun j hj => ⟨(p.ks.key j hj).1, t2 j hj⟩), ek] at hm
      obtain ⟨o', xs', q1, q2, q3⟩ := face_mix (g := g) (w := X.w) hm (by rw [← ek]; exact lp) vp K' (fun j hj => t2 j ((dDel_sub ly).subset hj)) p.sys
      exact h2 d v w o' xs' _ e1 rv rw' (I_wr I hd hs q1) (hw.symm ▸ q2) fun H' φ' _ => q3 H' φ'
  · obtain ⟨b, rfl, rfl, ki⟩ := key_tup hk I rx ru k1 k2 t1
    obtain ⟨as, rfl, q2, q3⟩ := f2 t2
    have ge := nes_get k1 l1 q2 (fun j hj => (p.ks.key j hj).1)
    cases e : dGet ks us k with
    | none =>
      refine call_pop_default_heap (knd := nestedKind X.prog X.w) (hsz := by rw [nesP_len l1 q2]; have := p.ks.len; omega) (by show A.units + 1 + 8 < cLine; omega) ki p.sys q3 (by rw [e] at ge; exact Option.map_eq_none_iff.mp ge) fun tk => h0 (neither e) _ (I.tok _)
    | some w =>
      obtain ⟨d, v, e1, rv, rw'⟩ := both w e
      rw [e] at ge
      obtain ⟨pr, g1, g2⟩ := Option.map_eq_some_iff.mp ge
      refine call_pop_heap (knd := nestedKind X.prog X.w) (more := [zu]) (hsz := by rw [nesP_len l1 q2]; have := p.ks.len; omega) (.inr ⟨_, rfl⟩) (PySem.F.args_dict_pop_3 _ _ _) (by show A.units + 1 + 8 < cLine; omega) ki p.sys q3 g1 fun h' hm hs => ?_
      rw [nes_del k1 l1 q2 p.ks.nd (fun j hj => (p.ks.key j hj).1), ek] at hm
      have eka : (dDel ks as k).1 = (dDel ks us k).1 := dDel_keys (by omega) l1
      have lpa := dDel_len (k := k) (show ks.length = as.length by omega)
      obtain ⟨o', e4, e5⟩ := face_nes (w := X.w) hm (by rw [← ek]; exact lp) (by rw [← lpa, eka]; exact lp) vp K' p.sys
      rw [g2]
      refine h2 d v w o' _ _ e1 rv rw' (I_wr I hd hs e4) (hw.symm ▸ e5) fun H' φ' z1 => ?_
      have hmap : ∀ (ks : List D) (as : List Addr), (dDel ks (as.map V.ref) k).2 = (dDel ks as k).2.map V.ref := by
        intro ks
        induction ks with
        | nil => intro as; simp [dDel]
        | cons j ks ih =>
          intro as
          cases as with
          | nil => simp [dDel]
          | cons b as =>
            simp only [List.map_cons]
            unfold dDel
            split
            · rfl
            · simp only [List.map_cons]; rw [ih]
      rw [← hmap, ← dDel_keys (vs := as.map V.ref) (by simp; omega) ly]
      have : ∀ (ks : List D) (xs : List V), RepL g H' φ' ks xs → RepL g H' φ' (dDel ks xs k).1 (dDel ks xs k).2 := by
        intro ks
        induction ks with
        | nil => intro xs h; unfold RepL at h; subst h; simp [dDel, RepL]
        | cons j ks ih =>
          intro xs h
          unfold RepL at h
          obtain ⟨v, rr, rfl, q1, q2⟩ := h
          unfold dDel
          split
          · exact q2
          · unfold RepL; exact ⟨v, _, rfl, q1, ih rr q2⟩
      exact this _ _ z1
end
end
end L3

set_option Elab.async false
set_option linter.all false
set_option autoImplicit false
set_option maxRecDepth 100000
set_option maxHeartbeats 4000000
/-! FkCmp: comparisons. -/
namespace L3
open PySem PySem.Spec PyProof.Rows L2 Fk

theorem ltN_eq : ∀ a b : List Nat, PyProof.Rows.strKind.blt a b = ltN a b
  | [], [] => by simp [PyProof.Rows.strKind, ltN]
  | [], b :: bs => by simp [PyProof.Rows.strKind, ltN]
  | a :: as, [] => by simp [PyProof.Rows.strKind, ltN]
  | a :: as, b :: bs => by
    have ih := ltN_eq as bs
    simp only [PyProof.Rows.strKind, ltN] at ih ⊢
    rw [← ih]
    by_cases h1 : a < b
    · simp [h1, List.cons_lt_cons_iff]
    · by_cases h2 : a = b
      · subst h2; simp [List.cons_lt_cons_iff]
      · simp [h1, h2, List.cons_lt_cons_iff]
theorem tokLt_eq : ∀ a b : Int ⊕ List Nat, PyProof.Rows.itemLt a b = tokLt a b
  | .inl _, .inl _ => rfl
  | .inl _, .inr _ => rfl
  | .inr _, .inl _ => rfl
  | .inr a, .inr b => ltN_eq a b
theorem lexT_eq : ∀ a b : List (Int ⊕ List Nat), PyProof.Rows.lexLt PyProof.Rows.itemOrd a b = lexT a b
  | [], [] => rfl
  | [], _ :: _ => rfl
  | _ :: _, [] => rfl
  | a :: as, b :: bs => by
    rw [PyProof.Rows.lex_cons, lexT, lexT_eq as bs]
    show (PyProof.Rows.itemLt a b || (!PyProof.Rows.itemLt b a && _)) = _
    rw [tokLt_eq, tokLt_eq]
mutual
theorem toks_py : ∀ d : D, flat d = true → PySem.W.keyToks (toPy d) = toks d
  | .none, _ => by simp [toPy, toks, PySem.W.keyToks]
  | .bl b, _ => by simp [toPy, toks, PySem.W.keyToks]
  | .int i, _ => by simp [toPy, toks, PySem.W.keyToks]
  | .str z, _ => by simp [toPy, toks, PySem.W.keyToks, strV]
  | .tup ds, h => by
    simp only [toPy, toks, PySem.W.keyToks]
    exact toksL_py ds (by unfold flat at h; exact h)
  | .lst ds, h => by
    simp only [toPy, toks, PySem.W.keyToks]
    exact toksL_py ds (by unfold flat at h; exact h)
  | .dic _ _, h => by simp [flat] at h
  | .set _, h => by simp [flat] at h
  | .scr _, h => by simp [flat] at h
  | .ref _, h => by simp [flat] at h
  | .fn _, h => by simp [flat] at h
  | .ty _, h => by simp [flat] at h
  | .tab _ _, h => by simp [flat] at h
theorem toksL_py : ∀ ds : List D, flatL ds = true → PySem.W.keyToksAll (toPyL ds) = toksL ds
  | [], _ => by simp [toPyL, toksL, PySem.W.keyToksAll]
  | d :: ds, h => by
    unfold flatL at h
    rw [Bool.and_eq_true] at h
    simp only [toPyL, toksL, PySem.W.keyToksAll]
    rw [toks_py d h.1, toksL_py ds h.2]
end
mutual
theorem cmp_py : ∀ a b : D, flat a = true → flat b = true → cmpOk a b = true → PySem.W.cmpP (toPy a) (toPy b) = true
  | .none, b, _, _, h => by cases b <;> first | (simp [cmpOk] at h; done) | simp [toPy, PySem.W.cmpP]
  | .bl _, b, _, _, h => by cases b <;> first | (simp [cmpOk] at h; done) | simp [toPy, PySem.W.cmpP]
  | .int _, b, _, _, h => by cases b <;> first | (simp [cmpOk] at h; done) | simp [toPy, PySem.W.cmpP]
  | .str _, b, _, _, h => by cases b <;> first | (simp [cmpOk] at h; done) | simp [toPy, PySem.W.cmpP]
  | .tup as, b, f1, f2, h => by
    cases b <;> first | (simp [cmpOk] at h; done) | skip
    simp only [toPy, PySem.W.cmpP]
    exact cmpL_py as _ (by unfold flat at f1; exact f1) (by unfold flat at f2; exact f2) (by unfold cmpOk at h; exact h)
  | .lst _, b, _, _, h => by simp [cmpOk] at h
  | .dic _ _, b, f, _, _ => by simp [flat] at f
  | .set _, _, f, _, _ => by simp [flat] at f
  | .scr _, _, f, _, _ => by simp [flat] at f
  | .ref _, _, f, _, _ => by simp [flat] at f
  | .fn _, _, f, _, _ => by simp [flat] at f
  | .ty _, _, f, _, _ => by simp [flat] at f
  | .tab _ _, _, f, _, _ => by simp [flat] at f
theorem cmpL_py : ∀ as bs : List D, flatL as = true → flatL bs = true → cmpOkL as bs = true → PySem.W.cmpPL (toPyL as) (toPyL bs) = true
  | [], bs, _, _, _ => by cases bs <;> simp [toPyL, PySem.W.cmpPL]
  | _ :: _, [], _, _, _ => by simp [toPyL, PySem.W.cmpPL]
  | a :: as, b :: bs, f1, f2, h => by
    unfold flatL at f1 f2
    rw [Bool.and_eq_true] at f1 f2
    unfold cmpOkL at h
    rw [Bool.and_eq_true, Bool.or_eq_true] at h
    simp only [toPyL, PySem.W.cmpPL]
    rw [cmp_py a b f1.1 f2.1 h.1, ← eqv_py a b f1.1 f2.1]
    rcases h.2 with q | q
    · rw [q]; rfl
    · rw [cmpL_py as bs f1.2 f2.2 q]; simp
end
theorem lt_py {a b : D} (f1 : flat a = true) (f2 : flat b = true) : PySem.W.dataLt (toPy a) (toPy b) = ltD a b := by
  unfold PySem.W.dataLt ltD
  rw [lexT_eq, toks_py a f1, toks_py b f2]
theorem py_none {a : D} (f : flat a = true) (h : leafN a = false) : toPy a ≠ .none := by
  cases a <;> first | (simp [flat] at f; done) | (simp [leafN] at h; done) | simp [toPy]

section
variable {X : Cx} {g : G}
theorem key_rd {H : Hp} {φ : Phi} {st : Fk.St} {a : D} {x : V} (r : Rep g H φ st) (ha : RepV g H φ a x) (h : keyOk (rd st a) = true) : RepV g H φ (rd st a) x := by
  refine rd_is r ha rfl (fun ds q => ?_) (fun ks ds q => ?_)
  · rw [q] at h; simp [keyOk] at h
  · rw [q] at h; simp [keyOk] at h
theorem in_tab {neg : Bool} {pins : List (Addr × Obj)} {s : Shared} {σ : L2.St} {H : Hp} {x y : V} {v u : Value} {Q : VK} {a b : D} {t : Fk.St} {φ : Phi} {E : XK} {z : List Nat} {ks : List (List Nat)} {vs : List D} (hk : g.K = X.K) (hw : g.w = X.w) (I : Inv X pins σ H s) (rx : RelV x v) (ry : RelV y u) (r : Rep g H φ t) (ha : RepV g H φ a x) (hb : RepV g H φ b y)
    (e1 : rd t a = .str z) (e2 : rd t b = .tab ks vs) (h : PostR (RepV g) g H φ (.ok (.bl (if neg then !ks.contains z else ks.contains z)) t) Q E) : wpAny (model X.prog X.w) X.A (compareOp (cmpOf (if neg then .notin else .isin)) v u) (EP X pins σ Q) X.xe s := by
  have h1 := repv_str (rd_is r ha e1 (fun _ q => nomatch q))
  have h2 := rd_is r hb e2 (fun _ q => nomatch q)
  unfold RepV at h2
  obtain ⟨p, us, rfl, ⟨⟨es, n, q1, q2, sys, q0⟩, q3⟩, q4, q5⟩ := h2
  subst h1
  obtain ⟨tk, rfl⟩ := rx
  cases ry
  have hm := PySem.W.mapOf_K (prog := X.prog) (w := X.w) I.kIn (hk ▸ q1) (hw ▸ q2)
  have e : (findBy Value.isStrOf es (strV z)).isSome = ks.contains z := by
    cases c : ks.contains z with
    | true =>
      have hz := List.contains_iff_mem.mp c
      obtain ⟨i, hi, ei⟩ := List.mem_iff_getElem.mp hz
      have hi2 : i < us.length := by rw [← q5]; exact hi
      obtain ⟨u0, u1, _⟩ := q3 i z us[i] (by rw [List.getElem?_eq_getElem hi, ei]) (List.getElem?_eq_getElem hi2)
      rw [PySem.W.find_K (hk ▸ q1) (hk ▸ u1)]; rfl
    | false =>
      unfold findBy
      rw [Option.isSome_map, Option.isSome_eq_false_iff, Option.isNone_iff_eq_none, Array.find?_eq_none]
      intro en hen hst
      obtain ⟨k', t', k1, k2⟩ := q0 en (by simpa using hen)
      rw [k2] at hst
      have : strV k' = strV z := by simpa [Value.isStrOf] using hst
      have := strV_eq this
      subst this
      rw [List.contains_iff_mem.mpr k1] at c; cases c
  cases neg with
  | false =>
    refine wpAny_in_of (strKind_is X.prog X.w (strV z) tk) sys hm ?_
    rw [e]
    exact ⟨.bl _, H, I.tok _, rfl, h.here r repv_of_bl⟩
  | true =>
    refine wpAny_notIn_of (strKind_is X.prog X.w (strV z) tk) sys hm ?_
    rw [e]
    exact ⟨.bl _, H, I.tok _, rfl, h.here r repv_of_bl⟩
theorem op_cmp (o : Cmp) (hu : X.A.units + 64 < cLine) (hk : g.K = X.K) (hw : g.w = X.w) : OpR X (compareOp (cmpOf o)) (rS2 g (cmpD o)) := by
  intro pins s σ H x y v u Q I rx ry h
  obtain ⟨a, b, t, φ, r, ha, hb, E, h⟩ := h
  unfold cmpD at h
  split at h
  · rename_i e1 e2
    have h1 := repv_int (rd_is r ha e1 (fun _ q => nomatch q)); have h2 := repv_int (rd_is r hb e2 (fun _ q => nomatch q))
    exact op_lt pins s σ H x y v u Q I rx ry ⟨_, _, h1, h2, h.here r repv_of_bl⟩
  · rename_i e1 e2
    have h1 := repv_int (rd_is r ha e1 (fun _ q => nomatch q)); have h2 := repv_int (rd_is r hb e2 (fun _ q => nomatch q))
    exact op_le pins s σ H x y v u Q I rx ry ⟨_, _, h1, h2, h.here r repv_of_bl⟩
  · split at h
    · rename_i c
      simp only [Bool.and_eq_true, decide_eq_true_eq, Bool.not_eq_true'] at c
      obtain ⟨⟨⟨⟨⟨c1, f1⟩, f2⟩, d1⟩, d2⟩, nn⟩ := c
      obtain ⟨as, q1⟩ := Dp.reads I _ x v (hk ▸ rd_dp r ha f1) rx
      obtain ⟨bs, q2⟩ := Dp.reads I _ y u (hk ▸ rd_dp r hb f2) ry
      refine PySem.W.rcLt_cmp _ _ _ _ _ _ _ _ q1 q2 (cmp_py _ _ f1 f2 c1) (py_none f1 nn) (plain_py _) (plain_py _) ?_ _ _ _ _ ⟨.bl _, H, I, rfl, h.here r ?_⟩
      · have := depth_py (rd t a); omega
      · rw [← lt_py f1 f2]; exact repv_of_bl
    · exact h.elim
  · rename_i e1 e2
    have h1 := repv_int (rd_is r ha e1 (fun _ q => nomatch q)); have h2 := repv_int (rd_is r hb e2 (fun _ q => nomatch q))
    exact op_gt pins s σ H x y v u Q I rx ry ⟨_, _, h1, h2, h.here r repv_of_bl⟩
  · rename_i e1 e2
    have h1 := repv_int (rd_is r ha e1 (fun _ q => nomatch q)); have h2 := repv_int (rd_is r hb e2 (fun _ q => nomatch q))
    exact op_ge pins s σ H x y v u Q I rx ry ⟨_, _, h1, h2, h.here r repv_of_bl⟩
  · split at h
    · rename_i c
      simp only [Bool.and_eq_true, decide_eq_true_eq] at c
      obtain ⟨⟨⟨f1, f2⟩, d1⟩, d2⟩ := c
      obtain ⟨as, q1⟩ := Dp.reads I _ x v (hk ▸ rd_dp r ha f1) rx
      obtain ⟨bs, q2⟩ := Dp.reads I _ y u (hk ▸ rd_dp r hb f2) ry
      refine PySem.SeqAt.eq_plain q1 q2 (plain_py _) (plain_py _) ?_ ⟨.bl _, H, I, rfl, h.here r ?_⟩
      · have := depth_py (rd t a); omega
      · rw [← eqv_py _ _ f1 f2]; exact repv_of_bl
    · split at h
      · rename_i c
        obtain ⟨p, q, xs, ys, rfl, rfl, h1, h2, hn⟩ := len_ne r ha hb c
        cases rx; cases ry
        obtain ⟨its, r1, t1, _⟩ := I.list (SqL.of h1)
        obtain ⟨its2, r2, t2, _⟩ := I.list (SqL.of h2)
        exact PySem.SeqAt.eq_list_lengthsAt t1.isList t2.isList (by have := r1.length; have := r2.length; simp; omega) (by omega) ⟨.bl _, H, I, rfl, h.here r repv_of_bl⟩
      · split at h
        · rename_i c
          obtain ⟨p, q, xs, ys, rfl, rfl, h1, h2, hn, hm⟩ := tup_ne r ha hb c
          cases rx; cases ry
          obtain ⟨its, r1, t1, _⟩ := I.tuple (hk ▸ h1.sq)
          obtain ⟨its2, r2, t2, _⟩ := I.tuple (hk ▸ h2.sq)
          have l1 := r1.length; have l2 := r2.length
          refine PySem.SeqAt.eq_tupleAt (e := fun _ => false) t1 t2 (by omega) (fun j q1 q2 => by simp at q1 q2; omega) ⟨.bl _, H, I, rfl, ?_⟩
          have : ((List.range (min its.toArray.size its2.toArray.size)).all (fun _ => false) && its.toArray.size == its2.toArray.size) = false := by
            rw [Bool.and_eq_false_iff]; right
            simp; omega
          rw [this]
          exact h.here r repv_of_bl
        · exact h.elim
  · split at h
    · rename_i c
      simp only [Bool.and_eq_true, decide_eq_true_eq] at c
      obtain ⟨⟨⟨f1, f2⟩, d1⟩, d2⟩ := c
      obtain ⟨as, q1⟩ := Dp.reads I _ x v (hk ▸ rd_dp r ha f1) rx
      obtain ⟨bs, q2⟩ := Dp.reads I _ y u (hk ▸ rd_dp r hb f2) ry
      refine PySem.SeqAt.ne_plain q1 q2 (plain_py _) (plain_py _) ?_ ⟨.bl _, H, I, rfl, h.here r ?_⟩
      · have := depth_py (rd t a); omega
      · rw [← eqv_py _ _ f1 f2]; exact repv_of_bl
    · exact h.elim
  · rename_i e1 e2
    have h1 := repv_str (rd_is r ha e1 (fun _ q => nomatch q)); have h2 := repv_str (rd_is r hb e2 (fun _ q => nomatch q))
    refine op_in_sign pins s σ H x y v u Q I rx ry ⟨_, _, h1, h2, ?_⟩
    rw [← mem_dec]; exact h.here r repv_of_bl
  · rename_i e1 e2
    have h1 := repv_str (rd_is r ha e1 (fun _ q => nomatch q)); have h2 := repv_str (rd_is r hb e2 (fun _ q => nomatch q))
    refine op_notIn_sign pins s σ H x y v u Q I rx ry ⟨_, _, h1, h2, ?_⟩
    rw [← mem_dec]; exact h.here r repv_of_bl
  · rename_i z ks us e1 e2
    exact in_tab (neg := false) hk hw I rx ry r ha hb e1 e2 h
  · rename_i z ks us e1 e2
    exact in_tab (neg := true) hk hw I rx ry r ha hb e1 e2 h
  · rename_i ks ds e2
    split at h
    · rename_i c
      obtain ⟨p, o, xs, ys, rfl, q1, q2, q3, q4⟩ := rd_dic r hb e2
      cases ry
      have ha' := key_rd r ha (kOk_of c).1
      exact (k_in hu hw hk I q1 q2 q3 q4 c ha' rx).1 fun s' I' => ⟨.bl _, H, I', rfl, h.here r repv_of_bl⟩
    · exact h.elim
  · rename_i ks ds e2
    split at h
    · rename_i c
      obtain ⟨p, o, xs, ys, rfl, q1, q2, q3, q4⟩ := rd_dic r hb e2
      cases ry
      have ha' := key_rd r ha (kOk_of c).1
      exact (k_in hu hw hk I q1 q2 q3 q4 c ha' rx).2 fun s' I' => ⟨.bl _, H, I', rfl, h.here r repv_of_bl⟩
    · exact h.elim
  · rename_i ds e2
    split at h
    · rename_i c
      exact in_data (neg := false) hu hk I rx ry r ha hb (.inl e2) c h
    · exact h.elim
  · rename_i ds e2
    split at h
    · rename_i c
      exact in_data (neg := true) hu hk I rx ry r ha hb (.inl e2) c h
    · exact h.elim
  · rename_i ds e2
    split at h
    · rename_i c
      exact in_data (neg := false) hu hk I rx ry r ha hb (.inr e2) c h
    · exact h.elim
  · rename_i ds e2
    split at h
    · rename_i c
      exact in_data (neg := true) hu hk I rx ry r ha hb (.inr e2) c h
    · exact h.elim
  · rename_i k e2
    have h2 := repv_bl (rd_is r hb e2 (fun _ q => nomatch q))
    refine op_isTF pins s σ H x y v u Q I rx ry ⟨k, h2, ?_⟩
    rw [← isB_rd r ha]; exact h.here r repv_of_bl
  · rename_i k e2
    have h2 := repv_bl (rd_is r hb e2 (fun _ q => nomatch q))
    refine op_notTF pins s σ H x y v u Q I rx ry ⟨k, h2, ?_⟩
    rw [← isB_rd r ha]; exact h.here r repv_of_bl
  · rename_i e2
    have h2 := repv_none (rd_is r hb e2 (fun _ q => nomatch q))
    refine op_isN pins s σ H x y v u Q I rx ry ⟨h2, ?_⟩
    rw [← isN_rd r ha]; exact h.here r repv_of_bl
  · rename_i e2
    have h2 := repv_none (rd_is r hb e2 (fun _ q => nomatch q))
    refine op_notN pins s σ H x y v u Q I rx ry ⟨h2, ?_⟩
    rw [← isN_rd r ha]; exact h.here r repv_of_bl
  · exact h.elim
end
end L3

set_option Elab.async false
set_option linter.all false
set_option autoImplicit false
set_option maxRecDepth 100000
set_option maxHeartbeats 4000000
/-! FkSort: sorted(..) of what is gathered. -/
namespace PySem.W
open PySem PySem.Calls PyProof.Rows PySem.SeqAt
section
variable {prog : Program} {w : World} {A : Around} {E : Value → Shared → Prop} {s : Shared}
theorem sorted_coll {β : Type} {r : Value} {bs : List β} {enc : β → PyData} {Good : Heap → List Value → Prop} {Q : Value → Shared → Prop}
    (hcol : ∀ (A' : Around) (R : List Value → Shared → Prop) (E' : Value → Shared → Prop), A'.units ≤ A.units + 2 → A'.handled = A.handled → (∀ h' tk vs, (∀ b o, s.heap.get? b = some o → h'.get? b = some o) → Good h' vs → R vs { s with heap := h', toks := tk }) → wpAny (model prog w) A' (collect r) R E' s)
    (hg : ∀ h' vs, Good h' vs → EachIs (fun v b => ∃ as, Reads h' v (enc b) as) vs bs) (hal : AllCmp (bs.map enc)) (hp : AllPlain (bs.map enc)) (hk : Sortable (bs.map enc)) (hL : bs.length ≤ sizeLine) (hu : ∀ b, b ∈ bs → A.units + 2 + (enc b).depth < cLine)
    (h : ∀ h' tk vs out p c h'', (∀ b o, s.heap.get? b = some o → h'.get? b = some o) → Good h' vs → (∀ b o, h'.get? b = some o → h''.get? b = some o) → h'.objs.size ≤ p → h''.get? p = some (seqObj "list" (List.toArray out) c) →
      (∀ R : Value → β → Prop, EachIs R vs bs → EachIs R out (bs.mergeSort (dataLe false enc))) → Q (.ref p) { s with heap := h'', toks := tk }) :
    wpAny (model prog w) A (call (.builtin "sorted") [r]) Q E s := by
  refine call_function_entry_kw kind_sorted plain_sorted entry_sorted (args_sorted1 _) ?_
  unfold Builtin.«sorted»
  refine wpAny_bind (m := checkCount "sorted" 1 1 _) (wpAny_pure ?_)
  refine wpAny_bind (hcol _ _ _ (by show A.units + 1 ≤ _; omega) rfl fun h' tk vs kp gd => ?_)
  have er := hg h' vs gd
  have hvl : vs.length ≤ sizeLine := by rw [er.length]; exact hL
  refine wpAny_bind (wpAny_newList ?_ hvl)
  show wpAny _ _ _ _ _ { s with heap := h'.push (seqObj "list" vs.toArray 0), toks := tk }
  have hob : (h'.push (seqObj "list" vs.toArray 0)).get? h'.objs.size = some (seqObj "list" vs.toArray 0) := Heap.get?_push_size _ rfl
  refine wpAny_bind (wpAny_holding (wpAny_call_entry_kw slot_list_sort ⟨_, hob, rfl⟩ entry_list_sort ?body (args_list_sort _)))
  case body =>
    show wpAny (model prog w) A.in1.in1 (Builtin.«list.sort» ⟨[.ref h'.objs.size], []⟩) _ _ _
    have old : ∀ b o, h'.get? b = some o → (sortingHeap (h'.push (seqObj "list" vs.toArray 0)) h'.objs.size vs).get? b = some o := fun b o e =>
      sortingHeap_old (Nat.ne_of_lt (Heap.lt_size e)) (Heap.get?_push_of_some _ e)
    have er' : EachIs (fun v b => ∃ as, Reads (sortingHeap (h'.push (seqObj "list" vs.toArray 0)) h'.objs.size vs) v (enc b) as) vs bs := er.mono fun _ _ ⟨as, q⟩ => ⟨as, PyProof.Rows.Reads.keeps old q⟩
    refine list_sort_vals (κ := dataKind (sortingHeap (h'.push (seqObj "list" vs.toArray 0)) h'.objs.size vs) (bs.map enc)) (s := { s with heap := h'.push (seqObj "list" vs.toArray 0), toks := tk }) hob
      (SortsAt.cmp (s := { s with heap := sortingHeap (h'.push (seqObj "list" vs.toArray 0)) h'.objs.size vs, toks := tk }) (each_map (R := fun v d => ∃ as, Reads (sortingHeap (h'.push (seqObj "list" vs.toArray 0)) h'.objs.size vs) v d as) enc er') hal hp hk ?_) hvl ?_
    · intro d hd
      obtain ⟨b, hb, rfl⟩ := List.mem_map.mp hd
      exact hu b hb
    · refine ⟨_, rfl, wpAny_pure ⟨_, rfl, ?_⟩⟩
      obtain ⟨c, hc⟩ := sortedHeap_at (out := (sortVals (dataKind (sortingHeap (h'.push (seqObj "list" vs.toArray 0)) h'.objs.size vs) (bs.map enc)) false vs vs).toArray) hob
      refine h h' tk vs _ h'.objs.size c _ kp gd (fun b o e => ?_) (Nat.le_refl _) hc fun R e => csort_each false e er' hp
      have hlt := Heap.lt_size e
      rw [sortedHeap_old (Nat.ne_of_lt hlt) (by rw [size_push']; exact Nat.lt_succ_of_lt hlt)]
      exact Heap.get?_push_of_some _ e
end
end PySem.W
namespace L3
open PySem PySem.Spec PyProof.Rows L2 Fk

theorem all2 {ds : List D} {p : D → D → Bool} (h : (ds.all fun a => ds.all fun b => p a b) = true) : ∀ a ∈ ds, ∀ b ∈ ds, p a b = true := fun a ha b hb => List.all_eq_true.mp (List.all_eq_true.mp h a ha) b hb
structure SOk (ds : List D) : Prop where
  flat : ∀ d ∈ ds, flat d = true
  dep : ∀ d ∈ ds, depth d ≤ 60
  cmp : ∀ a ∈ ds, ∀ b ∈ ds, cmpOk a b = true
  kind : (∀ d ∈ ds, tupNE d = true) ∨ ∀ d ∈ ds, notTN d = true
  len : ds.length ≤ PySem.sizeLine
theorem flatL_all : ∀ {ds : List D}, flatL ds = true → ∀ d ∈ ds, Fk.flat d = true
  | [], _, d, h => by cases h
  | x :: ds, f, d, h => by
    unfold flatL at f
    rw [Bool.and_eq_true] at f
    rcases List.mem_cons.mp h with rfl | h
    · exact f.1
    · exact flatL_all f.2 d h
theorem depthL_all {n : Nat} : ∀ {ds : List D}, depthL ds ≤ n → ∀ d ∈ ds, depth d ≤ n
  | [], _, d, h => by cases h
  | x :: ds, f, d, h => by
    unfold depthL at f
    rcases List.mem_cons.mp h with rfl | h
    · omega
    · exact depthL_all (by omega) d h
theorem sOk_of {ds : List D} (h : sortOk ds = true) : SOk ds := by
  unfold sortOk at h
  simp only [Bool.and_eq_true, Bool.or_eq_true, decide_eq_true_eq] at h
  obtain ⟨⟨⟨⟨h1, h2⟩, h3⟩, h4⟩, h5⟩ := h
  exact ⟨flatL_all h1, depthL_all h2, all2 h3, h4.imp (fun q => List.all_eq_true.mp q) (fun q => List.all_eq_true.mp q), by rw [← sl_eq]; exact h5⟩
theorem sOk_cmp {ds : List D} (S : SOk ds) : PySem.W.AllCmp (ds.map toPy) := by
  intro d hd d' hd'
  obtain ⟨a, ha, rfl⟩ := List.mem_map.mp hd
  obtain ⟨b, hb, rfl⟩ := List.mem_map.mp hd'
  exact cmp_py a b (S.flat a ha) (S.flat b hb) (S.cmp a ha b hb)
theorem sOk_plain {ds : List D} : PySem.W.AllPlain (ds.map toPy) := by
  intro d hd
  obtain ⟨a, ha, rfl⟩ := List.mem_map.mp hd
  exact plain_py a
theorem sOk_kind {ds : List D} (S : SOk ds) : PySem.W.Sortable (ds.map toPy) := by
  rcases S.kind with h | h
  · refine .inl fun d hd => ?_
    obtain ⟨a, ha, rfl⟩ := List.mem_map.mp hd
    have := h a ha
    cases a <;> first | (simp [tupNE] at this; done) | skip
    rename_i l
    cases l with
    | nil => simp [tupNE] at this
    | cons x r => exact ⟨toPy x, toPyL r, by simp [toPy, toPyL]⟩
  · refine .inr fun d hd => ?_
    obtain ⟨a, ha, rfl⟩ := List.mem_map.mp hd
    have h1 := h a ha
    have h2 := S.flat a ha
    cases a <;> first | (simp [notTN] at h1; done) | (simp [Fk.flat] at h2; done) | exact ⟨by simp [toPy], fun xs => by simp [toPy]⟩
theorem le_py : ∀ {a b : D}, Fk.flat a = true → Fk.flat b = true → PySem.W.dataLe false toPy a b = leD a b := fun {a b} ha hb => by
  rw [PySem.W.dataLe_eq]
  show (!PySem.W.dataLt (toPy b) (toPy a)) = _
  rw [lt_py hb ha]; rfl
theorem merge_py {ds : List D} (S : SOk ds) : ds.mergeSort (PySem.W.dataLe false toPy) = ds.mergeSort leD :=
  PySem.W.sort_congr fun a ha b hb => le_py (S.flat a ha) (S.flat b hb)
/-- by D and V: what is sorted is so told -/
theorem each_dv {ds : List D} {xs : List V} {us : List Value} {g : G} {H : Hp} {φ : Phi} (r : RepL g H φ ds xs) (v : Vals xs us) : PySem.W.EachIs (fun u d => ∃ x, RelV x u ∧ RepV g H φ d x) us ds := by
  induction ds generalizing xs us with
  | nil => unfold RepL at r; subst r; cases v; exact .nil
  | cons d ds ih =>
    unfold RepL at r
    obtain ⟨x, rr, rfl, r1, r2⟩ := r
    cases v with
    | cons v1 v2 => exact .cons ⟨x, v1, r1⟩ (ih r2 v2)
theorem dv_each {ds : List D} {us : List Value} {g : G} {H : Hp} {φ : Phi} (e : PySem.W.EachIs (fun u d => ∃ x, RelV x u ∧ RepV g H φ d x) us ds) : ∃ xs, Vals xs us ∧ RepL g H φ ds xs := by
  induction e with
  | nil => exact ⟨[], .nil, by simp [RepL]⟩
  | cons h1 _ ih =>
    obtain ⟨x, q1, q2⟩ := h1
    obtain ⟨xs, q3, q4⟩ := ih
    exact ⟨x :: xs, .cons q1 q3, by unfold RepL; exact ⟨x, xs, rfl, q2, q4⟩⟩
section
variable {X : Cx} {g : G} {pins : List (Addr × Obj)} {σ : L2.St} {H : Hp} {s : Shared} {φ : Phi}
/-- what may be gathered at once: a list, a tuple, a dict by its keys -/
theorem gather (hc : X.calm = true) (hk : g.K = X.K) (hw : g.w = X.w) (I : Inv X pins σ H s) {x : V} {u : Value} {ds : List D} (ru : RelV x u)
    (h : (∃ p vs, x = .ref p ∧ SqL X.K H p vs ∧ RepL g H φ ds vs) ∨ (∃ p vs, x = .ref p ∧ SqT X.K H p vs ∧ RepL g H φ ds vs) ∨ ∃ p o xs ys, x = .ref p ∧ H p = some (dO p o) ∧ DicP g.w p o ds xs ys ∧ RepL g H φ ds xs) :
    ∃ xs us, Vals xs us ∧ RepL g H φ ds xs ∧ ∀ (A' : Around) (R : List Value → Shared → Prop) (E' : Value → Shared → Prop), A'.units ≤ X.A.units + 2 → A'.handled = X.A.handled →
      (∀ h' tk vs, (∀ b o, s.heap.get? b = some o → h'.get? b = some o) → vs = us → R vs { s with heap := h', toks := tk }) → wpAny (model X.prog X.w) A' (collect u) R E' s := by
  rcases h with ⟨p, vs, rfl, hq, hr⟩ | ⟨p, vs, rfl, hq, hr⟩ | ⟨p, o, xs, ys, rfl, hd, dp, hr⟩
  · cases (show u = Value.ref p from ru)
    obtain ⟨its, rv, pl, hz⟩ := I.list hq
    obtain ⟨o, n, e, c, dt⟩ := pl.isList
    refine ⟨vs, its, rv, hr, fun A' R E' _ _ hR => ?_⟩
    obtain ⟨o, ho, c, n, dt⟩ := pl.isList
    exact wpAny_collect_seq p (.inl rfl) ho c dt (hsz := by have := rv.length; simp; omega) fun h' kp => by simpa using hR h' s.toks its kp rfl
  · cases (show u = Value.ref p from ru)
    obtain ⟨its, rv, ⟨o, ho, c, n, dt⟩, hz⟩ := I.tuple hq
    exact ⟨vs, its, rv, hr, fun A' R E' _ _ hR => wpAny_collect_seq p (.inr rfl) ho c dt (hsz := by have := rv.length; simp; omega) fun h' kp => by simpa using hR h' s.toks its kp rfl⟩
  · cases (show u = Value.ref p from ru)
    obtain ⟨es, ep, e1, e2⟩ := dp.ent
    obtain ⟨l1, l2, l3⟩ := entl_len e2
    refine ⟨xs, es.toList.map (·.key), (entl_vals e2).1, hr, fun A' R E' _ hh hR => ?_⟩
    refine PySem.W.kdu_collect (kdl_raw dp.sys dp.ex e1) (hh.trans (I.ok.hd hc)) (Inv.dob I hd) (by have := dp.ks.len; simp at l1; omega) fun h' tk acc kp it => hR h' tk _ kp ?_
    apply List.ext_getElem?
    intro j
    rw [List.getElem?_map]
    cases hj : acc.toList[j]? with
    | none =>
      have h1 := List.getElem?_eq_none_iff.mp hj
      rw [Array.length_toList, it.1] at h1
      rw [List.getElem?_eq_none (by simpa using h1)]; rfl
    | some v =>
      obtain ⟨en, hen, hv⟩ := it.2 j v (by rw [← Array.getElem?_toList]; exact hj)
      rw [Array.getElem?_toList, hen, hv]; rfl
/-- sorted(x) -/
theorem sorted_run (hc : X.calm = true) (hk : g.K = X.K) (hw : g.w = X.w) (hu : X.A.units + 64 < cLine) (I : Inv X pins σ H s) {u : Value} {xs : List V} {us : List Value} {ds : List D} (S : SOk ds) (rv : Vals xs us) (rr : RepL g H φ ds xs)
    (hcol : ∀ (A' : Around) (R : List Value → Shared → Prop) (E' : Value → Shared → Prop), A'.units ≤ X.A.units + 2 → A'.handled = X.A.handled → (∀ h' tk vs, (∀ b o, s.heap.get? b = some o → h'.get? b = some o) → vs = us → R vs { s with heap := h', toks := tk }) → wpAny (model X.prog X.w) A' (collect u) R E' s)
    {Q : VK} (h : ∀ p vs, H p = none → vs.length ≤ PySem.sizeLine → RepL g H φ (ds.mergeSort leD) vs → Q (.ref p) (upd H p (.lst vs))) : wpAny (model X.prog X.w) X.A (call (.builtin "sorted") [u]) (EP X pins σ Q) X.xe s := by
  have rds : PySem.W.EachIs (fun v b => ∃ as, Reads s.heap v (toPy b) as) us ds := by
    have aux : ∀ (ds : List D) (xs : List V) (us : List Value), RepL g H φ ds xs → Vals xs us → (∀ d ∈ ds, Fk.flat d = true) → PySem.W.EachIs (fun v b => ∃ as, Reads s.heap v (toPy b) as) us ds := by
      intro ds
      induction ds with
      | nil => intro xs us h1 h2 _; unfold RepL at h1; subst h1; cases h2; exact .nil
      | cons d ds ih =>
        intro xs us h1 h2 hf
        unfold RepL at h1
        obtain ⟨x, r, rfl, q1, q2⟩ := h1
        cases h2 with
        | cons w1 w2 => exact .cons (Dp.reads I _ x _ (hk ▸ dp_of d q1 (hf d List.mem_cons_self)) w1) (ih r _ q2 w2 fun e he => hf e (List.mem_cons_of_mem _ he))
    exact aux ds xs us rr rv S.flat
  refine PySem.W.sorted_coll (bs := ds) (enc := toPy) (Good := fun h' vs => vs = us ∧ ∀ b o, s.heap.get? b = some o → h'.get? b = some o) (fun A' R E' q1 q2 k => hcol A' R E' q1 q2 fun h' tk vs kp e => k h' tk vs kp ⟨e, kp⟩) (fun h' vs ⟨e, kp⟩ => ?_) (sOk_cmp S) sOk_plain (sOk_kind S) S.len (fun b hb => ?_) fun h' tk vs out p c h'' kp ⟨e, _⟩ k2 hp ho hsort => ?_
  · subst e
    exact rds.mono fun _ _ ⟨as, r⟩ => ⟨as, PyProof.Rows.Reads.keeps kp r⟩
  · have := S.dep b hb
    have := depth_py b
    omega
  · subst e
    have e1 := hsort _ (each_dv rr rv)
    rw [merge_py S] at e1
    obtain ⟨ws, w1, w2⟩ := dv_each e1
    have lw : ws.length ≤ PySem.sizeLine := by
      have := w2.length
      have := S.len
      simp at *; omega
    have I1 : Inv X pins σ H { s with heap := h', toks := tk } := I.kept kp
    have nw : ObjOk X.prog X.w (upd H p (.lst ws)) h'' p (.lst ws) := ⟨lw, out, c, w1, ho⟩
    exact ⟨.ref p, _, I1.laid (t' := tk) k2 hp nw, rfl, h p ws (I1.hok.fresh hp) lw w2⟩
end
end L3

set_option Elab.async false
set_option linter.all false
set_option autoImplicit false
set_option maxRecDepth 100000
set_option maxHeartbeats 4000000
/-! FkOps2: subscripts, slices, built-in functions by values. -/
namespace L3
open PySem PySem.Spec PyProof.Rows L2 Fk

def rSL (g : G) (f : List D → Fk.St → R D) : List V → Hp → VK → Prop := fun xs H Q => ∃ ds s φ, Rep g H φ s ∧ RepL g H φ ds xs ∧ ∃ E, PostR (RepV g) g H φ (f ds s) Q E
theorem at_eq {α : Type} (xs : List α) (i : Int) : L2.atI xs i = Fk.atI xs i := rfl
theorem sIx_eq (n d : Nat) (o : Option Int) : HT.sIx n d o = Fk.sIx n d o := by cases o <;> rfl
section
variable {X : Cx} {g : G} {H : Hp} {φ : Phi} {s : Fk.St}
theorem RepL.at_ {ds : List D} {vs : List V} {i : Int} {d : D} (h : RepL g H φ ds vs) (e : Fk.atI ds i = some d) : ∃ v, L2.atI vs i = some v ∧ RepV g H φ d v := by
  unfold Fk.atI at e
  unfold L2.atI
  have l := h.length
  cases q : Fk.ixN ds.length i with
  | none => rw [q] at e; cases e
  | some j =>
    rw [q] at e
    obtain ⟨v, h1, h2⟩ := h.get e
    refine ⟨v, ?_, h2⟩
    have q' : L2.ixN vs.length i = some j := by rw [← l]; exact q
    rw [q']; exact h1
theorem at_map {ns : List Int} {i n : Int} (e : Fk.atI ns i = some n) : L2.atI (ns.map V.int) i = some (.int n) := by
  unfold Fk.atI at e
  unfold L2.atI
  rw [List.length_map]
  have q' : L2.ixN ns.length i = Fk.ixN ns.length i := rfl
  rw [q']
  cases q : Fk.ixN ns.length i with
  | none => rw [q] at e; cases e
  | some j =>
    rw [q] at e
    show (ns.map V.int)[j]? = _
    rw [List.getElem?_map]
    have e' : ns[j]? = some n := e
    rw [e']; rfl
theorem zip_look {z : List Nat} {d : D} : ∀ {ks : List (List Nat)} {vs : List D}, (ks.zip vs).lookup z = some d → ∃ i : Nat, ks[i]? = some z ∧ vs[i]? = some d
  | [], _, h => by simp at h
  | _ :: _, [], h => by simp at h
  | k :: ks, v :: vs, h => by
    rw [List.zip_cons_cons, List.lookup_cons] at h
    cases e : z == k with
    | true =>
      rw [e] at h
      cases h
      have := beq_iff_eq.mp e
      subst this
      exact ⟨0, rfl, rfl⟩
    | false =>
      rw [e] at h
      obtain ⟨i, h1, h2⟩ := zip_look h
      exact ⟨i + 1, by simpa using h1, by simpa using h2⟩
theorem ix_sub (hu : X.A.units + 64 < cLine) (hk : g.K = X.K) (hw : g.w = X.w) : IxR X (rS2 g subD) := by
  intro value slice pins s σ H x y v u Q I rx ry h hs
  obtain ⟨a, b, st, φ, r, ha, hb, E, h⟩ := h
  unfold subD at h
  split at h
  · rename_i e1
    obtain ⟨p, vs, h1, h2, h3, _⟩ := rd_lst r ha e1
    have hi := repv_int hb
    split at h
    · rename_i e2
      obtain ⟨w, q1, q2⟩ := h3.at_ e2
      exact ix_list value slice pins s σ H x y v u Q I rx ry ⟨p, vs, _, w, h1, hi, SqL.of h2, q1, h.here r q2⟩ hs
    · exact h.elim
  · rename_i e1
    obtain ⟨p, vs, h1, h2, h3, _⟩ := repv_tup (rd_is r ha e1 (fun _ q => nomatch q))
    have hi := repv_int hb
    split at h
    · rename_i e2
      obtain ⟨w, q1, q2⟩ := h3.at_ e2
      exact ix_tup value slice pins s σ H x y v u Q I rx ry ⟨p, vs, _, w, h1, hi, hk ▸ h2.sq, q1, h.here r q2⟩ hs
    · exact h.elim
  · rename_i e1
    have h1 := repv_str (rd_is r ha e1 (fun _ q => nomatch q))
    have hi := repv_int hb
    split at h
    · rename_i c
      split at h
      · rename_i e2
        exact ix_str value slice pins s σ H x y v u Q I rx ry ⟨_, _, _, h1, hi, by rw [strV_len, ← sl_eq]; exact c, e2, h.here r repv_of_str⟩ hs
      · exact h.elim
    · exact h.elim
  · rename_i e1
    obtain ⟨p, h1, h2, _⟩ := repv_scr (rd_is r ha e1 (fun _ q => nomatch q))
    have hi := repv_int hb
    split at h
    · rename_i e2
      exact ix_list value slice pins s σ H x y v u Q I rx ry ⟨p, _, _, _, h1, hi, hk ▸ h2.sq, at_map e2, h.here r repv_of_int⟩ hs
    · exact h.elim
  · rename_i ks ds k e1
    split at h
    · rename_i c
      split at h
      · rename_i d e2
        obtain ⟨p, o, xs, ys, rfl, q1, q2, q3, q4⟩ := rd_dic r ha e1
        cases rx
        exact tail_any ⟨o, Inv.dob I q1, q2.ex.1⟩ PySem.F.slot_dict_getitem.lookup (k_get hu hw hk I q1 q2 q3 q4 c hb ry e2 fun v w s' I' rv rw' => ⟨v, H, I', rw', h.here r rv⟩) hs
      · exact h.elim
    · exact h.elim
  · rename_i ks ds z e1
    split at h
    · rename_i d e2
      have q := rd_is r ha e1 (fun _ q => nomatch q)
      unfold RepV at q
      obtain ⟨p, us, h1, ⟨⟨es, n, q1, q2, _⟩, q3⟩, q4, _⟩ := q
      obtain ⟨i, i1, i2⟩ := zip_look e2
      obtain ⟨vv, v1, v2⟩ := q4.get i2
      obtain ⟨u0, u1, u2⟩ := q3 i _ _ i1 v1
      have hz := repv_str hb
      refine ix_kdict value slice pins s σ H x y v u Q I rx ry ⟨p, _, vv, h1, hz, ⟨es, n, u0, hk ▸ q1, hw ▸ q2, hk ▸ u1, u2⟩, h.here r v2⟩ hs
    · exact h.elim
  · exact h.elim
def rSSl (g : G) (t : Bool) : V → Option Int → Option Int → Hp → VK → Prop := fun x lo hi H Q => ∃ a s φ, Rep g H φ s ∧ RepV g H φ a x ∧ ∃ E, PostR (RepV g) g H φ (slD t a lo hi s) Q E
theorem cut_rep {ds : List D} {vs : List V} (h : RepL g H φ ds vs) (lo hi : Option Int) : RepL g H φ (Fk.cut ds lo hi) (cutV vs lo hi) := by
  unfold Fk.cut cutV
  have l := h.length
  rw [sIx_eq, sIx_eq, ← l]
  exact (h.dropN _).takeN _
theorem sl_sub (t : Bool) (hk : g.K = X.K) : SlR X (rSSl g t) := by
  intro pins s σ H x v vl vu lo hi sl Q I rx hs pl pu h
  obtain ⟨a, st, φ, r, ha, E, h⟩ := h
  simp only [slD] at h
  split at h
  · rename_i e1
    obtain ⟨p, vs, h1, h2, h3, h4⟩ := rd_lst r ha e1
    exact sl_list pins s σ H x v vl vu lo hi sl Q I rx hs pl pu ⟨p, vs, h1, SqL.of h2, fun q hq => new_fin r h (cut_rep h3 lo hi) (Nat.le_trans (cutV_length _ _ _) h4) hq⟩
  · rename_i ds e1
    obtain ⟨p, vs, h1, h2, h3, h4⟩ := repv_tup (rd_is r ha e1 (fun _ q => nomatch q))
    refine sl_tupA pins s σ H x v vl vu lo hi sl Q I rx hs pl pu ⟨p, vs, h1, hk ▸ h2.sq, fun hw => ?_, fun _ q hq => new_tup r h (cut_rep h3 lo hi) (Nat.le_trans (cutV_length _ _ _) h4) hq⟩
    refine h.here r ?_
    have hcut : Fk.cut ds lo hi = ds := by
      obtain ⟨w1, w2⟩ := hw
      rw [sIx_eq, ← h3.length] at w1 w2
      unfold Fk.cut
      rw [w1, w2, List.drop_zero, Nat.sub_zero, List.take_length]
    rw [hcut]
    unfold RepV
    exact ⟨p, vs, rfl, h2, h3, h4⟩
  · rename_i e1
    have h1 := repv_str (rd_is r ha e1 (fun _ q => nomatch q))
    split at h
    · rename_i c
      refine sl_str pins s σ H x v vl vu lo hi sl Q I rx hs pl pu ⟨_, h1, by rw [strV_len, ← sl_eq]; exact c, ?_⟩
      refine h.here r ?_
      have : cutS (strV ‹_›) lo hi = strV (Fk.cut ‹_› lo hi) := by
        unfold cutS Fk.cut strV
        rw [sIx_eq, sIx_eq]
        simp [PySem.Str.length]
      unfold RepV
      rw [this]
    · exact h.elim
  · exact h.elim

/-! ### built-in functions -/
def bltV : Blt → Value
  | .isinst _ => .builtin "isinstance" | .len => .builtin "len" | .all => .builtin "all" | .any => .builtin "any" | .min2 => .builtin "min" | .max2 => .builtin "max"
  | .abs => .builtin "abs" | .int_ => .type "int" | .tuple_ => .type "tuple" | .list_ => .type "list"
  | .sorted => .builtin "sorted" | .dict_ => .type "dict"
theorem repl_1 {d : D} {xs : List V} (h : RepL g H φ [d] xs) : ∃ x, xs = [x] ∧ RepV g H φ d x := by
  unfold RepL at h
  obtain ⟨v, r, rfl, h1, h2⟩ := h
  unfold RepL at h2
  subst h2
  exact ⟨v, rfl, h1⟩
theorem repl_2 {d e : D} {xs : List V} (h : RepL g H φ [d, e] xs) : ∃ x y, xs = [x, y] ∧ RepV g H φ d x ∧ RepV g H φ e y := by
  unfold RepL at h
  obtain ⟨v, r, rfl, h1, h2⟩ := h
  obtain ⟨y, rfl, h3⟩ := repl_1 h2
  exact ⟨v, y, rfl, h1, h3⟩
theorem repl_bools : ∀ {ds : List D} {bs : List Bool} {vs : List V}, RepL g H φ ds vs → mapB ds = some bs → vs = bs.map V.bl
  | [], _, _, h, e => by
    unfold RepL at h; subst h
    have e' : some [] = some _ := e
    cases e'
    rfl
  | d :: ds, bs, vs, h, e => by
    unfold RepL at h
    obtain ⟨v, r, rfl, h1, h2⟩ := h
    unfold mapB at e
    rw [List.mapM_cons] at e
    cases d with
    | bl b =>
      cases q : mapB ds with
      | none => unfold mapB at q; simp [q] at e
      | some cs =>
        have ih := repl_bools h2 q
        unfold mapB at q
        simp [q] at e
        subst e
        rw [repv_bl h1, ih]; rfl
    | _ => simp at e
theorem repl_strs : ∀ {ds : List D} {bs : List (List Nat)} {vs : List V}, RepL g H φ ds vs → strsOf ds = some bs → vs = (bs.map strV).map V.str
  | [], _, _, h, e => by
    unfold RepL at h; subst h
    have e' : some [] = some _ := e
    cases e'
    rfl
  | d :: ds, bs, vs, h, e => by
    unfold RepL at h
    obtain ⟨v, r, rfl, h1, h2⟩ := h
    unfold strsOf at e
    rw [List.mapM_cons] at e
    cases d with
    | str b =>
      cases q : strsOf ds with
      | none => unfold strsOf at q; simp [q] at e
      | some cs =>
        have ih := repl_strs h2 q
        unfold strsOf at q
        simp [q] at e
        subst e
        rw [repv_str h1, ih]; rfl
    | _ => simp at e
/-- the type of a value -/
def tyOf : D → String
  | .none => "NoneType" | .bl _ => "bool" | .int _ => "int" | .str _ => "str" | .tup _ => "tuple" | .lst _ => "list" | .dic _ _ => "dict" | _ => "list"
theorem kits : ∀ a ∈ ["NoneType", "bool", "int", "str", "tuple", "list", "dict"], ∀ b ∈ ["int", "bool", "str", "tuple", "list", "dict"], kitB a b = some (a == b || (a == "bool" && b == "int")) := by decide +kernel
/-- a value's type, dicts as they stand too -/
def TyY (K : PySem.W.Frag) (H : Hp) (x : V) (t : Value) : Prop := TyX K H x t ∨ ∃ a o, x = .ref a ∧ H a = some (dO a o) ∧ o.cls = .type "dict" ∧ t = .type "dict"
theorem kit_ofY {pins : List (Addr × Obj)} {σ : L2.St} {s : Shared} {x : V} {u t : Value} (I : Inv X pins σ H s) (rx : RelV x u) (ty : TyY X.K H x t) : ∃ P : Heap → Prop, PySem.W.KitX X.K u t P ∧ P s.heap ∧ u ≠ .builtin "__main__.__loader__#opaque" := by
  rcases ty with ty | ⟨a, o, rfl, h1, h2, rfl⟩
  · exact kit_of I rx ty
  · cases (show u = Value.ref a from rx)
    exact ⟨_, PySem.W.kitx_dict, ⟨o, Inv.dob I h1, h2⟩, fun z => nomatch z⟩
theorem call_isiY : CallR X (.builtin "isinstance") (fun xs H Q => ∃ (x c : V) (t u : Value) (b : Bool), xs = [x, c] ∧ ClsV c u ∧ TyY X.K H x t ∧ PySem.W.kitOne X.K t u = some b ∧ Q (.bl b) H) := by
  intro pins s σ H xs us Q I r ⟨x, c, t, u, b, ex, k, ty, e, q⟩
  subst ex
  obtain ⟨u1, u2, rfl, r1, r2⟩ := vals2 r
  have e2 := k.eq r2
  subst e2
  obtain ⟨P, Z, p, hx⟩ := kit_ofY I r1 ty
  exact PySem.W.kia_one Z I.kIn p e hx fun tk => ⟨.bl b, H, I.tok tk, rfl, q⟩
theorem ty_of {a : D} {x : V} {st : Fk.St} (hk : g.K = X.K) (r : Rep g H φ st) (h : RepV g H φ a x) (k : kindKnown st a = true) : TyY X.K H x (.type (tyOf (rd st a))) := by
  unfold kindKnown at k
  cases e : rd st a with
  | lst ds => obtain ⟨p, vs, rfl, h2, _⟩ := rd_lst r h e; exact .inl <| .base (.lst h2)
  | none => rw [repv_none (rd_is r h e (fun _ z => nomatch z))]; exact .inl <| .base .non
  | bl b => rw [repv_bl (rd_is r h e (fun _ z => nomatch z))]; exact .inl <| .base (.bl _)
  | int b => rw [repv_int (rd_is r h e (fun _ z => nomatch z))]; exact .inl <| .base (.int _)
  | str b => rw [repv_str (rd_is r h e (fun _ z => nomatch z))]; exact .inl <| .base (.str _)
  | tup ds =>
    obtain ⟨p, vs, rfl, h2, _⟩ := repv_tup (rd_is r h e (fun _ z => nomatch z))
    rcases h2 with ⟨o, its, n, q1, q2, _⟩ | ⟨_, q⟩
    · rw [hk] at q1; exact .inl <| .kTuple q1 q2
    · exact .inl <| .base (.tup q)
  | dic ks vs =>
    obtain ⟨p, o, xs, ys, rfl, q1, q2, _⟩ := rd_dic r h e
    exact .inr ⟨p, o, rfl, q1, q2.ex.1, rfl⟩
  | ref i => rw [e] at k; cases k
  | fn i => rw [e] at k; cases k
  | ty i => rw [e] at k; cases k
  | set i => rw [e] at k; cases k
  | scr i => rw [e] at k; cases k
  | tab _ _ => rw [e] at k; cases k
theorem isT_kit {a : D} {st : Fk.St} {t : Nat} (k : kindKnown st a = true) (ht : t < 6) : kitB (tyOf (rd st a)) (tyName t) = some (isT st t a) := by
  unfold kindKnown at k
  have hb : tyName t ∈ ["int", "bool", "str", "tuple", "list", "dict"] := by
    match t, ht with
    | 0, _ => decide
    | 1, _ => decide
    | 2, _ => decide
    | 3, _ => decide
    | 4, _ => decide
    | 5, _ => decide
  unfold isT
  cases e : rd st a with
  | ref i => rw [e] at k; cases k
  | fn i => rw [e] at k; cases k
  | ty i => rw [e] at k; cases k
  | set i => rw [e] at k; cases k
  | scr i => rw [e] at k; cases k
  | tab _ _ => rw [e] at k; cases k
  | _ =>
    rw [kits _ (by simp [tyOf]) _ hb]
    match t, ht with
    | 0, _ => rfl
    | 1, _ => rfl
    | 2, _ => rfl
    | 3, _ => rfl
    | 4, _ => rfl
    | 5, _ => rfl
theorem sort_fin {pins : List (Addr × Obj)} {σ : L2.St} {s : Shared} {st : Fk.St} {t : Bool} {ds : List D} {xs : List V} {us : List Value} {u : Value} {Q : VK} {E : XK} (hc : X.calm = true) (hk : g.K = X.K) (hw : g.w = X.w) (hu : X.A.units + 64 < cLine) (I : Inv X pins σ H s) (rv : Vals xs us) (rr : RepL g H φ ds xs)
    (hcol : ∀ (A' : Around) (R : List Value → Shared → Prop) (E' : Value → Shared → Prop), A'.units ≤ X.A.units + 2 → A'.handled = X.A.handled → (∀ h' tk vs, (∀ b o, s.heap.get? b = some o → h'.get? b = some o) → vs = us → R vs { s with heap := h', toks := tk }) → wpAny (model X.prog X.w) A' (collect u) R E' s)
    (rp : Rep g H φ st) (h : PostR (RepV g) g H φ (match sortD ds with | some ds => fin t ds st | Option.none => .bad) Q E) : wpAny (model X.prog X.w) X.A (call (.builtin "sorted") [u]) (EP X pins σ Q) X.xe s := by
  split at h
  · rename_i ds' e
    unfold sortD at e
    split at e
    · rename_i ok
      cases e
      exact sorted_run hc hk hw hu I (sOk_of ok) rv rr hcol fun p vs hp lz rl => new_fin rp h rl lz hp
    · cases e
  · exact h.elim
theorem call_blt (b : Blt) (t : Bool) (hc : X.calm = true) (hu : X.A.units + 64 < cLine) (hw : g.w = X.w) (hk : g.K = X.K) (hnd : b ≠ .dict_) (hb : ∀ k, b = .isinst k → k < 6) : CallR X (bltV b) (rSL g (bltD b t)) := by
  intro pins s σ H xs us Q I r h
  obtain ⟨ds, st, φ, rp, rl, E, h⟩ := h
  unfold bltD at h
  split at h
  · rename_i k d k'
    split at h
    · rename_i c
      obtain ⟨rfl, c⟩ := c
      obtain ⟨x, y, rfl, h1, h2⟩ := repl_2 rl
      have h2' : y = .ty (tyName k) := by unfold RepV at h2; exact h2
      subst h2'
      exact call_isiY pins s σ H _ us Q I r ⟨x, _, _, _, _, rfl, .ty _, ty_of hk rp h1 c, kit_ty (isT_kit c (hb k rfl)), h.here rp repv_of_bl⟩
    · exact h.elim
  · obtain ⟨x, rfl, h1⟩ := repl_1 rl
    split at h
    · rename_i e1
      obtain ⟨p, vs, rfl, q2, q3, _⟩ := rd_lst rp h1 e1
      have l := q3.length
      exact call_len pins s σ H _ us Q I r ⟨_, _, rfl, .inl ⟨vs, SqL.of q2, rfl⟩, by rw [← l]; exact h.here rp repv_of_int⟩
    · rename_i e1
      obtain ⟨p, vs, rfl, q2, q3, _⟩ := repv_tup (rd_is rp h1 e1 (fun _ z => nomatch z))
      have l := q3.length
      exact call_len pins s σ H _ us Q I r ⟨_, _, rfl, .inr ⟨vs, hk ▸ q2.sq, rfl⟩, by rw [← l]; exact h.here rp repv_of_int⟩
    · rename_i e1
      have q := repv_str (rd_is rp h1 e1 (fun _ z => nomatch z))
      subst q
      split at h
      · rename_i c
        exact call_len pins s σ H _ us Q I r ⟨_, _, rfl, ⟨by rw [strV_len, ← sl_eq]; exact c, rfl⟩, by rw [strV_len]; exact h.here rp repv_of_int⟩
      · exact h.elim
    · rename_i e1
      obtain ⟨p, rfl, q2, _⟩ := repv_scr (rd_is rp h1 e1 (fun _ z => nomatch z))
      exact call_len pins s σ H _ us Q I r ⟨_, _, rfl, .inl ⟨_, hk ▸ q2.sq, rfl⟩, by rw [List.length_map]; exact h.here rp repv_of_int⟩
    · rename_i ks ds e1
      obtain ⟨p, o, xs, ys, rfl, q1, q2, q3, _⟩ := rd_dic rp h1 e1
      obtain ⟨u, eu, rx⟩ := vals1 r
      subst eu
      cases rx
      obtain ⟨es, ep, w1, w2⟩ := q2.ent
      have hr : s.heap.DictRaw p es ep := ⟨o, Inv.dob I q1, q2.ex, w1⟩
      have hl := (entl_len w2).1
      have hz := q2.ks.len
      have he : es.size = ks.length := by simp at hl; exact hl.symm
      refine PyProof.Rows.call_len_slot (n := es.size) hr.typeIs PySem.F.slot_dict_len (fun Q' hq => PySem.call_len_raw q2.sys hr hq) (by omega) (by rw [sizeLine_eq] at hz; omega) ⟨.int ks.length, H, I.tok _, ⟨_, by rw [he]⟩, h.here rp repv_of_int⟩
    · exact h.elim
  · obtain ⟨x, rfl, h1⟩ := repl_1 rl
    split at h
    · rename_i e1
      obtain ⟨p, vs, rfl, q2, q3, _⟩ := rd_lst rp h1 e1
      split at h
      · rename_i bs e2
        have q := repl_bools q3 e2
        subst q
        exact cr_all hc pins s σ H _ us Q I r ⟨p, bs, rfl, SqL.of q2, h.here rp repv_of_bl⟩
      · exact h.elim
    · exact h.elim
  · obtain ⟨x, rfl, h1⟩ := repl_1 rl
    split at h
    · rename_i e1
      obtain ⟨p, vs, rfl, q2, q3, _⟩ := rd_lst rp h1 e1
      split at h
      · rename_i bs e2
        have q := repl_bools q3 e2
        subst q
        exact cr_any hc pins s σ H _ us Q I r ⟨p, bs, rfl, SqL.of q2, h.here rp repv_of_bl⟩
      · exact h.elim
    · exact h.elim
  · obtain ⟨x, y, rfl, h1, h2⟩ := repl_2 rl
    exact call_min2 hc pins s σ H _ us Q I r ⟨_, _, by rw [repv_int h1, repv_int h2], h.here rp repv_of_int⟩
  · obtain ⟨x, y, rfl, h1, h2⟩ := repl_2 rl
    exact call_max2 hc pins s σ H _ us Q I r ⟨_, _, by rw [repv_int h1, repv_int h2], h.here rp repv_of_int⟩
  · obtain ⟨x, rfl, h1⟩ := repl_1 rl
    exact call_abs pins s σ H _ us Q I r ⟨_, by rw [repv_int h1], h.here rp repv_of_int⟩
  · obtain ⟨x, rfl, h1⟩ := repl_1 rl
    exact call_int1 pins s σ H _ us Q I r (.inl ⟨_, by rw [repv_int h1], h.here rp repv_of_int⟩)
  · obtain ⟨x, rfl, h1⟩ := repl_1 rl
    exact call_int1 pins s σ H _ us Q I r (.inr ⟨_, by rw [repv_bl h1], h.here rp repv_of_int⟩)
  · obtain ⟨x, rfl, h1⟩ := repl_1 rl
    split at h
    · rename_i e1
      obtain ⟨p, vs, rfl, q2, q3, q4⟩ := rd_lst rp h1 e1
      exact call_tuple_of pins s σ H _ us Q I r ⟨p, vs, rfl, .inl ⟨SqL.of q2, fun l hl => new_tup rp h q3 q4 hl⟩⟩
    · rename_i e1
      have q := rd_is rp h1 e1 (fun _ z => nomatch z)
      obtain ⟨p, vs, rfl, q2, q3, _⟩ := repv_tup q
      exact call_tuple_of pins s σ H _ us Q I r ⟨p, vs, rfl, .inr ⟨hk ▸ q2.sq, h.here rp q⟩⟩
    · exact h.elim
  · obtain ⟨x, rfl, h1⟩ := repl_1 rl
    obtain ⟨u, eu, rx⟩ := vals1 r
    subst eu
    split at h
    · rename_i ds e1
      obtain ⟨p, vs, ex, q2, q3, _⟩ := rd_lst rp h1 e1
      obtain ⟨xs, us, g1, g2, g3⟩ := gather hc hk hw I rx (.inl ⟨p, vs, ex, SqL.of q2, q3⟩)
      exact sort_fin hc hk hw hu I g1 g2 g3 rp h
    · rename_i ds e1
      obtain ⟨p, vs, ex, q2, q3, _⟩ := repv_tup (rd_is rp h1 e1 (fun _ z => nomatch z))
      obtain ⟨xs, us, g1, g2, g3⟩ := gather hc hk hw I rx (.inr (.inl ⟨p, vs, ex, hk ▸ q2.sq, q3⟩))
      exact sort_fin hc hk hw hu I g1 g2 g3 rp h
    · rename_i ks ds e1
      obtain ⟨p, o, xs, ys, ex, q1, q2, q3, _⟩ := rd_dic rp h1 e1
      obtain ⟨xs, us, g1, g2, g3⟩ := gather hc hk hw I rx (.inr (.inr ⟨p, o, xs, ys, ex, q1, q2, q3⟩))
      exact sort_fin hc hk hw hu I g1 g2 g3 rp h
    · exact h.elim
  · exact absurd rfl hnd
  · obtain ⟨x, rfl, h1⟩ := repl_1 rl
    split at h
    · rename_i e1
      obtain ⟨p, vs, rfl, q2, q3, q4⟩ := rd_lst rp h1 e1
      exact call_list_of pins s σ H _ us Q I r ⟨p, vs, rfl, .inl (SqL.of q2), fun l hl => new_fin rp h q3 q4 hl⟩
    · rename_i e1
      obtain ⟨p, vs, rfl, q2, q3, q4⟩ := repv_tup (rd_is rp h1 e1 (fun _ z => nomatch z))
      exact call_list_of pins s σ H _ us Q I r ⟨p, vs, rfl, .inr (hk ▸ q2.sq), fun l hl => new_fin rp h q3 q4 hl⟩
    · rename_i ks ds e1
      obtain ⟨p, o, xs, ys, rfl, q1, q2, q3, _⟩ := rd_dic rp h1 e1
      obtain ⟨u, eu, rx⟩ := vals1 r
      subst eu
      cases rx
      obtain ⟨es, ep, w1, w2⟩ := q2.ent
      obtain ⟨l1, l2, l3⟩ := entl_len w2
      have hz := q2.ks.len
      refine PySem.W.kdl_call (kdl_raw q2.sys q2.ex w1) (I.ok.hd hc) (Inv.dob I q1) (by simp at l1; omega) fun h' tk acc c kp e it => ?_
      have ea : acc.toList = es.toList.map (·.key) := by
        apply List.ext_getElem?
        intro j
        rw [List.getElem?_map]
        cases hj : acc.toList[j]? with
        | none =>
          have h1 := List.getElem?_eq_none_iff.mp hj
          rw [Array.length_toList, it.1] at h1
          rw [List.getElem?_eq_none (by simpa using h1)]; rfl
        | some v =>
          obtain ⟨en, hen, hv⟩ := it.2 j v (by rw [← Array.getElem?_toList]; exact hj)
          rw [Array.getElem?_toList, hen, hv]; rfl
      have lz : xs.length ≤ PySem.sizeLine := by rw [l2, ← l1]; exact hz
      have nw : ObjOk X.prog X.w (upd H s.heap.objs.size (.lst xs)) h' s.heap.objs.size (.lst xs) := ⟨lz, acc.toList, c, by rw [ea]; exact (entl_vals w2).1, by simpa using e⟩
      exact ⟨.ref s.heap.objs.size, _, I.laid (t' := tk) kp (Nat.le_refl _) nw, rfl, new_fin rp h q3 lz (I.hok.fresh (Nat.le_refl _))⟩
    · exact h.elim
  · exact h.elim

/-! ### methods of texts -/
theorem join_eq (a : List Nat) : ∀ ys : List (List Nat), PySem.Txt.join (strV a) (ys.map strV) = strV (joinT a ys) := by
  intro ys
  show Builtin.Str.glued _ _ = _
  rw [PySem.StrLaws.glued_eq_join]
  induction ys with
  | nil => rfl
  | cons y ys ih =>
    cases ys with
    | nil => rfl
    | cons z r =>
      show strV y ++ strV a ++ PySem.Str.join (strV a) (List.map strV (z :: r)) = strV (y ++ a ++ joinT a (z :: r))
      rw [ih, strV_app, strV_app]
theorem lenSum_eq (n : Nat) : ∀ ys : List (List Nat), ((ys.map strV).map (·.length)).sum + (ys.map strV).length * n = lenSum n ys
  | [] => by simp [lenSum]
  | y :: ys => by
    have ih := lenSum_eq n ys
    simp only [List.map_cons, List.sum_cons, List.length_cons, lenSum, strV_len] at ih ⊢
    rw [Nat.add_mul]
    omega
end
end L3

set_option Elab.async false
set_option linter.all false
set_option autoImplicit false
set_option maxRecDepth 100000
set_option maxHeartbeats 4000000
/-! FkWalk: walks over dicts as they stand. -/
namespace L3
open PySem PySem.Spec PyProof.Rows L2 Fk

/-- by a row of values, while the dict at d stands as o -/
def ItO (d : Addr) (o : Obj) (vs : List V) : It :=
  ⟨fun i H => H d = some (dO d o) ∧ i < vs.length, fun i H v H' => H' = H ∧ vs[i]? = some v, fun i H => H d = some (dO d o) ∧ vs.length ≤ i⟩
/-- by pairs -/
def ItP (d : Addr) (o : Obj) (xs ys : List V) : It :=
  ⟨fun i H => H d = some (dO d o) ∧ i < xs.length, fun i H v H' => ∃ T x y, xs[i]? = some x ∧ ys[i]? = some y ∧ v = .ref T ∧ H T = none ∧ H' = upd H T (.tup [x, y]), fun i H => H d = some (dO d o) ∧ xs.length ≤ i⟩
section
variable {P : Program} {w : World} {K : PySem.W.Frag} {tg : Expr} {d : Addr} {o : Obj} {es : Array DictEntry} {ep : Nat} {xs ys : List V}
theorem turn_dkeys (it : Addr) (hod : o.data = .dict es ep) (hx : Vals xs (es.toList.map (·.key))) : Turn P w K tg (ItO d o xs) [it] it (fun i h => h.IsKeyIter it d i es.size ep) where
  mem := by simp
  obj := fun i h st b hb => by
    have e : b = it := by simpa using hb
    subst e
    obtain ⟨oi, e, c, dd⟩ := st
    exact ⟨oi, e, fun v z => by rw [dd] at z; cases z⟩
  keep := fun i h h' st k => st.at fun oi e => k it (by simp) oi e
  item := by
    intro X hP hw hK hc i pins s σ H E I hf st ⟨hd, hi⟩
    subst hP hw hK
    obtain ⟨f0, f1, f2, f3, f4, f5⟩ := hf it (by simp)
    have hl : xs.length = es.size := by simpa using hx.length
    have hi2 : i < es.size := by omega
    obtain ⟨u, hu, ru⟩ := hx.get (List.getElem?_eq_getElem hi)
    have hen : es[i]? = some es[i] := Array.getElem?_eq_getElem hi2
    refine next_key_item st (Inv.dob I hd) hod rfl hen fun h' st' sb => ?_
    have I1 : Inv X pins σ H { s with heap := h' } := I.turned (t' := s.toks) (fun b ob hb e => (sb.2 b hb).trans e) f0 f1 f3 f4 f5
    obtain ⟨oi, e, c, dd⟩ := id st'
    have ek : u = es[i].key := by
      rw [List.getElem?_map, Array.getElem?_toList, hen] at hu
      exact (Option.some.inj hu).symm
    subst ek
    exact ⟨_, rfl, go_of (s := { s with heap := h' }) e c dd (by decide) ⟨_, H, I1, ru, ⟨rfl, List.getElem?_eq_getElem hi⟩, st', fun b hb => (hf b hb).1⟩⟩
  done := by
    intro X hP hw hK hc i pins s σ H E I hf st ⟨hd, hi⟩
    subst hP hw hK
    obtain ⟨f0, f1, f2, f3, f4, f5⟩ := hf it (by simp)
    have hl : xs.length = es.size := by simpa using hx.length
    exact next_key_end (I.ok.hd hc) st (Inv.dob I hd) hod rfl (by omega) fun h' eb => ⟨rfl, I.turned (t' := s.toks) (fun b ob hb e => eb b ob hb e) f0 f1 f3 f4 f5⟩
  self := fun A i s Q E st h => wpAny_pyIter_keyiter st h
theorem turn_dvals (it : Addr) (hex : o.ExactDict) (hod : o.data = .dict es ep) (hx : Vals xs (es.toList.map (·.val))) : Turn P w K tg (ItO d o xs) [it] it (fun i h => h.IsValIter it d i es.size ep) where
  mem := by simp
  obj := fun i h st b hb => by
    have e : b = it := by simpa using hb
    subst e
    obtain ⟨oi, e, c, dd⟩ := st
    exact ⟨oi, e, fun v z => by rw [dd] at z; cases z⟩
  keep := fun i h h' st k => st.at fun oi e => k it (by simp) oi e
  item := by
    intro X hP hw hK hc i pins s σ H E I hf st ⟨hd, hi⟩
    subst hP hw hK
    obtain ⟨f0, f1, f2, f3, f4, f5⟩ := hf it (by simp)
    have hl : xs.length = es.size := by simpa using hx.length
    have hi2 : i < es.size := by omega
    obtain ⟨u, hu, ru⟩ := hx.get (List.getElem?_eq_getElem hi)
    refine wpAny_pyNext_values_item_raw st ⟨o, Inv.dob I hd, hex, hod⟩ hi2 fun h' st' sb => ?_
    have I1 : Inv X pins σ H { s with heap := h' } := I.turned (t' := s.toks) (fun b ob hb e => (sb.2 b hb).trans e) f0 f1 f3 f4 f5
    obtain ⟨oi, e, c, dd⟩ := id st'
    have ek : u = es[i].val := by
      rw [List.getElem?_map, Array.getElem?_toList, Array.getElem?_eq_getElem hi2] at hu
      exact (Option.some.inj hu).symm
    subst ek
    exact ⟨_, rfl, go_of (s := { s with heap := h' }) e c dd (by decide) ⟨_, H, I1, ru, ⟨rfl, List.getElem?_eq_getElem hi⟩, st', fun b hb => (hf b hb).1⟩⟩
  done := by
    intro X hP hw hK hc i pins s σ H E I hf st ⟨hd, hi⟩
    subst hP hw hK
    obtain ⟨f0, f1, f2, f3, f4, f5⟩ := hf it (by simp)
    have hl : xs.length = es.size := by simpa using hx.length
    exact wpAny_pyNext_values_end_raw (I.ok.hd hc) st ⟨o, Inv.dob I hd, hex, hod⟩ (by omega) fun h' eb => ⟨rfl, I.turned (t' := s.toks) (fun b ob hb e => eb b ob hb e) f0 f1 f3 f4 f5⟩
  self := fun A i s Q E st h => wpAny_pyIter_valiter st h
theorem turn_ditems {elts : List Expr} {kk : Nat} {tpos : Pos} (it : Addr) (hex : o.ExactDict) (hod : o.data = .dict es ep) (hx : Vals xs (es.toList.map (·.key))) (hy : Vals ys (es.toList.map (·.val))) :
    Turn P w K (.Tuple elts kk tpos) (ItP d o xs ys) [it] it (fun i h => ∃ ok ov, IsItemIter h it d i es.size ep ok ov) where
  mem := by simp
  obj := fun i h st b hb => by
    have e : b = it := by simpa using hb
    subst e
    obtain ⟨ok, ov, e⟩ := st
    exact ⟨_, e, fun v z => nomatch z⟩
  keep := fun i h h' st k => let ⟨ok, ov, e⟩ := st; ⟨ok, ov, k it (by simp) _ e⟩
  item := by
    intro X hP hw hK hc i pins s σ H E I hf st ⟨hd, hi⟩
    subst hP hw hK
    obtain ⟨ok, ov, he⟩ := st
    have hl : xs.length = es.size := by simpa using hx.length
    have hl2 : ys.length = es.size := by simpa using hy.length
    have hi2 : i < es.size := by omega
    have hlt : it < s.heap.objs.size := Heap.lt_size he
    obtain ⟨u, hu, ru⟩ := hx.get (List.getElem?_eq_getElem hi)
    obtain ⟨u', hu', ru'⟩ := hy.get (List.getElem?_eq_getElem (show i < ys.length by omega))
    have ek : u = es[i].key := by
      rw [List.getElem?_map, Array.getElem?_toList, Array.getElem?_eq_getElem hi2] at hu
      exact (Option.some.inj hu).symm
    have ev : u' = es[i].val := by
      rw [List.getElem?_map, Array.getElem?_toList, Array.getElem?_eq_getElem hi2] at hu'
      exact (Option.some.inj hu').symm
    subst ek ev
    refine wpAny_pyNext_items_item_raw he ⟨o, Inv.dob I hd, hex, hod⟩ hi2 fun h' ho hT hz hk => ?_
    refine ⟨_, rfl, wpAny_letOwnedTupleGo_items (s := { s with heap := h' }) ho fun h'' he' sb => ?_⟩
    have hT2 : h''.get? s.heap.objs.size = some { cls := .type "tuple", data := .seq #[es[i].key, es[i].val] } := (sb.2 _ (Nat.ne_of_gt hlt)).trans hT
    have new : ObjOk X.prog X.w (upd H s.heap.objs.size (.tup [xs[i], ys[i]])) h'' s.heap.objs.size (.tup [xs[i], ys[i]]) :=
      ⟨by show 2 ≤ PySem.sizeLine; decide, [es[i].key, es[i].val], .cons ru (.cons ru' .nil), ⟨_, hT2, rfl, _, rfl⟩⟩
    have I1 : Inv X pins σ (upd H s.heap.objs.size (.tup [xs[i], ys[i]])) { s with heap := h'' } :=
      I.turnedNew (t' := s.toks) (ch := [it]) (fun b ob hb e => (sb.2 b (by simpa using hb)).trans (hk b ob (by simpa using hb) e)) hf (Nat.le_refl _) new
    refine ⟨.ref s.heap.objs.size, _, I1, rfl, ⟨_, xs[i], ys[i], List.getElem?_eq_getElem hi, List.getElem?_eq_getElem (by omega), rfl, I.hok.fresh (Nat.le_refl _), rfl⟩, ⟨_, _, he'⟩, fun b hb => ?_⟩
    have e : b = it := by simpa using hb
    rw [e, upd_ne (Nat.ne_of_lt hlt)]
    exact (hf it (by simp)).1
  done := by
    intro X hP hw hK hc i pins s σ H E I hf st ⟨hd, hi⟩
    subst hP hw hK
    obtain ⟨f0, f1, f2, f3, f4, f5⟩ := hf it (by simp)
    obtain ⟨ok, ov, he⟩ := st
    have hl : xs.length = es.size := by simpa using hx.length
    exact wpAny_pyNext_items_end_raw (I.ok.hd hc) he ⟨o, Inv.dob I hd, hex, hod⟩ (by omega) fun h' eb => ⟨rfl, I.turned (t' := s.toks) (fun b ob hb e => eb b ob hb e) f0 f1 f3 f4 f5⟩
  self := fun A i s Q E st h => let ⟨_, _, e⟩ := st; PySem.W.kcp_self e h
end
/-- a dict that stands, by entries -/
def DE (H : Hp) (x : V) (d : Addr) (o : Obj) (xs ys : List V) : Prop :=
  ∃ es ep, x = .ref d ∧ H d = some (dO d o) ∧ (d == sysModules) = false ∧ o.ExactDict ∧ o.data = .dict es ep ∧ Vals xs (es.toList.map (·.key)) ∧ Vals ys (es.toList.map (·.val))
def iDV (td : TE) : TI := fun σ H R => td σ H fun x H1 => ∃ d o xs ys, DE H1 x d o xs ys ∧ R (ItO d o ys) H1
def iDP (td : TE) : TI := fun σ H R => td σ H fun x H1 => ∃ d o xs ys, DE H1 x d o xs ys ∧ R (ItP d o xs ys) H1
section
variable {X : Cx} {tg e : Expr} {td : TE} {apos cpos : Pos}
theorem pi_dvals (he : PE X e td) (hbase : attributeBase e "values" X.env (eval e X.env) = eval e X.env) (hline : (apos.endLine == cpos.line) = true) : PI X tg (.Call (.Attribute e "values" apos) [] [] cpos) (iDV td) := by
  refine ⟨fun pins s σ H R I h => ?_⟩
  refine wpAny_Call_method (T := "dict") (id := "dict.values") hbase rfl hline PySem.F.plainAttrs_dict PySem.F.slot_dict_values PySem.F.type_dict_values (thn (he.run pins s σ H _ I h) fun u s1 ⟨x, H1, I1, rx, d, o, xs, ys, ⟨es, ep, ex, hd, hs, hex, hod, hx, hy⟩, q⟩ => ?_)
  subst ex
  obtain rfl : u = Value.ref d := rx
  have ho := Inv.dob I1 hd
  have hr : s1.heap.DictRaw d es ep := ⟨o, ho, hex, hod⟩
  refine ⟨⟨o, ho, hex.1⟩, fun b z => (by cases z; exact ⟨o, ho, hex.2.1⟩), ?_⟩
  have I2 : Inv X pins σ H1 { s1 with heap := s1.heap.push { cls := .type "dict_values", data := .fields #[.ref d] } } := I1.kept (t' := s1.toks) fun b ob q => Heap.get?_push_of_some _ q
  have fin : wpAny (model X.prog X.w) X.A (pyIter (.ref s1.heap.objs.size)) (PIE X pins σ tg R) X.xe { s1 with heap := s1.heap.push { cls := .type "dict_values", data := .fields #[.ref d] } } :=
    wpAny_pyIter_values_raw (d := d) (es := es) (ep := ep) ⟨_, Heap.get?_push_size _ rfl, rfl, rfl⟩ ⟨o, Heap.get?_push_of_some _ ho, hex, hod⟩ (pi_one (tk := s1.toks) I2 _ (turn_dvals _ hex hod hy) ⟨_, Heap.get?_push_size _ rfl, rfl, rfl⟩ q)
  show wpAny _ _ (callWith cpos (.builtin "dict.values") [.ref d] [] []) _ X.xe s1
  exact method_meetsIn PySem.F.slot_dict_values PySem.F.entry_dict_values rfl (PySem.evalArgs_none ⟨rfl, ⟨o, ho, hex.1⟩, PySem.F.args_dict_values_1 _, _, meets_dict_values_raw d hs, ⟨es, ep, hr⟩, fin⟩)
theorem pi_ditems {elts : List Expr} {kk : Nat} {tpos : Pos} (he : PE X e td) (hbase : attributeBase e "items" X.env (eval e X.env) = eval e X.env) (hline : (apos.endLine == cpos.line) = true) :
    PI X (.Tuple elts kk tpos) (.Call (.Attribute e "items" apos) [] [] cpos) (iDP td) := by
  refine ⟨fun pins s σ H R I h => ?_⟩
  refine wpAny_Call_method (T := "dict") (id := "dict.items") hbase rfl hline PySem.F.plainAttrs_dict PySem.F.slot_dict_items PySem.F.type_dict_items (thn (he.run pins s σ H _ I h) fun u s1 ⟨x, H1, I1, rx, d, o, xs, ys, ⟨es, ep, ex, hd, hs, hex, hod, hx, hy⟩, q⟩ => ?_)
  subst ex
  obtain rfl : u = Value.ref d := rx
  have ho := Inv.dob I1 hd
  have hr : s1.heap.DictRaw d es ep := ⟨o, ho, hex, hod⟩
  refine ⟨⟨o, ho, hex.1⟩, fun b z => (by cases z; exact ⟨o, ho, hex.2.1⟩), ?_⟩
  have I2 : Inv X pins σ H1 { s1 with heap := s1.heap.push { cls := .type "dict_items", data := .fields #[.ref d] } } := I1.kept (t' := s1.toks) fun b ob q => Heap.get?_push_of_some _ q
  have fin : wpAny (model X.prog X.w) X.A (pyIter (.ref s1.heap.objs.size)) (PIE X pins σ (.Tuple elts kk tpos) R) X.xe { s1 with heap := s1.heap.push { cls := .type "dict_items", data := .fields #[.ref d] } } :=
    wpAny_pyIter_items_raw (d := d) (es := es) (ep := ep) ⟨_, Heap.get?_push_size _ rfl, rfl, rfl⟩ ⟨o, Heap.get?_push_of_some _ ho, hex, hod⟩ (pi_one (tk := s1.toks) I2 _ (turn_ditems _ hex hod hx hy) ⟨.none, .none, Heap.get?_push_size _ rfl⟩ q)
  show wpAny _ _ (callWith cpos (.builtin "dict.items") [.ref d] [] []) _ X.xe s1
  exact method_meetsIn PySem.F.slot_dict_items PySem.F.entry_dict_items rfl (PySem.evalArgs_none ⟨rfl, ⟨o, ho, hex.1⟩, PySem.F.args_dict_items_1 _, _, meets_dict_items_raw d hs, ⟨es, ep, hr⟩, fin⟩)
end
end L3

set_option Elab.async false
set_option linter.all false
set_option autoImplicit false
set_option maxRecDepth 100000
set_option maxHeartbeats 4000000
/-! FkIter: what a loop walks; comprehensions. -/
namespace L3
open PySem PySem.Spec PyProof.Rows L2 Fk

theorem _root_.L2.PE.imp {X : Cx} {e : Expr} {t t' : TE} (h : PE X e t) (k : ∀ σ H Q, t' σ H Q → t σ H Q) : PE X e t' := ⟨fun pins s σ H Q I q => h.run pins s σ H Q I (k σ H Q q)⟩
theorem _root_.L2.PT.imp {X : Cx} {e : Expr} {t t' : TT} (h : PT X e t) (k : ∀ σ H Q, t' σ H Q → t σ H Q) : PT X e t' := ⟨fun pins s σ H Q I q => h.run pins s σ H Q I (k σ H Q q)⟩
theorem _root_.L2.PA.imp {X : Cx} {e : List Expr} {t t' : TA} (h : PA X e t) (k : ∀ σ H Q, t' σ H Q → t σ H Q) : PA X e t' := ⟨fun pos pins s σ H Q I q => h.run pos pins s σ H Q I (k σ H Q q)⟩
theorem _root_.L2.PI.imp {X : Cx} {tg e : Expr} {t t' : TI} (h : PI X tg e t) (k : ∀ σ H Q, t' σ H Q → t σ H Q) : PI X tg e t' := ⟨fun pins s σ H Q I q => h.run pins s σ H Q I (k σ H Q q)⟩
theorem _root_.L2.PS.imp {X : Cx} {e : Stmt} {t t' : TS} (h : PS X e t) (k : ∀ D σ H, t' D σ H → t D σ H) : PS X e t' := ⟨fun pins s σ H D I q => h.run pins s σ H D I (k D σ H q)⟩
theorem _root_.L2.PSs.imp {X : Cx} {e : List Stmt} {t t' : TS} (h : PSs X e t) (k : ∀ D σ H, t' D σ H → t D σ H) : PSs X e t' := ⟨fun pins s σ H D I q => h.run pins s σ H D I (k D σ H q)⟩

/-- the walk J yields the items, whatever comes beside -/
structure Walk (g : G) (J : It) (items : List D) (H : Hp) (φ : Phi) : Prop where
  go : ∀ i H' φ', Ext H φ H' φ' → i < items.length → J.go i H'
  stop : ∀ i H' φ', Ext H φ H' φ' → i = items.length → J.stop i H'
  yld : ∀ i H' φ' s x H2, i < items.length → Ext H φ H' φ' → Rep g H' φ' s → J.yld i H' x H2 → ∃ d φ2, items[i]? = some d ∧ Ext H' φ' H2 φ2 ∧ Rep g H2 φ2 s ∧ RepV g H2 φ2 d x
theorem Walk.ext {g : G} {J : It} {items : List D} {H H' : Hp} {φ φ' : Phi} (w : Walk g J items H φ) (x : Ext H φ H' φ') : Walk g J items H' φ' :=
  ⟨fun i H2 φ2 y => w.go i H2 φ2 (x.trans y), fun i H2 φ2 y => w.stop i H2 φ2 (x.trans y), fun i H2 φ2 s v H3 hi y => w.yld i H2 φ2 s v H3 hi (x.trans y)⟩
def tI (g : G) (W : WX) (m : Fk.Env → Fk.St → R (List D)) : TI := fun σ H Q => ∃ env s φ, RepE g H φ env σ ∧ Rep g H φ s ∧ PostR (fun H φ items J => Walk g J items H φ ∧ items.length ≤ PySem.sizeLine) g H φ (m env s) Q (fun c d H => W c d σ H)
def tR {α β : Type} (ρ : Hp → Phi → α → β → Prop) (g : G) (W : WX) (m : Fk.Env → Fk.St → R α) : L2.St → Hp → (β → Hp → Prop) → Prop :=
  fun σ H Q => ∃ env s φ, RepE g H φ env σ ∧ Rep g H φ s ∧ PostR ρ g H φ (m env s) Q (fun c d H => W c d σ H)

/-- list, tuple or text: by what comes -/
def iAny (K : PySem.W.Frag) (tl : TE) : TI := fun σ H R => tl σ H fun x H1 => (∃ a, x = .ref a ∧ (∃ xs, SqL K H1 a xs) ∧ R (Itl K a) H1) ∨ (∃ a, x = .ref a ∧ (∃ xs, SqT K H1 a xs) ∧ R (Itt K a) H1) ∨ (∃ z, x = .str z ∧ R (Its z) H1) ∨ ∃ d o xs ys, DE H1 x d o xs ys ∧ R (ItO d o xs) H1
theorem pi_any {X : Cx} {tg l : Expr} {tl : TE} (hl : PE X l tl) : PI X tg l (iAny X.K tl) := by
  refine ⟨fun pins s σ H R I h => ?_⟩
  refine thn (hl.run pins s σ H _ I h) fun v s1 ⟨x, H1, I1, r1, q1⟩ => ?_
  rcases q1 with ⟨a, e, ⟨xs, hq⟩, q⟩ | ⟨a, e, ⟨xs, hq⟩, q⟩ | ⟨x, ex, q⟩ | ⟨d, o, xs, ys, ⟨es, ep, ex, hd, hs, hex, hod, hx, hy⟩, q⟩
  · subst e
    cases r1
    obtain ⟨its, rv, p, hz⟩ := I1.list hq
    refine wpAny_pyIter_list p.isList ?_
    refine ⟨s1.heap.objs.size, [s1.heap.objs.size], _, _, H1, rfl, I1.kept (t' := s1.toks) fun b o e => Heap.get?_push_of_some _ e, turn_list a _, ⟨_, Heap.get?_push_size _ rfl, rfl, rfl⟩, fun b hb => ?_, q⟩
    have e : b = s1.heap.objs.size := by simpa using hb
    subst e
    exact I1.fpOk (Nat.le_refl _) (I1.hok.fresh (Nat.le_refl _))
  · subst e
    cases r1
    obtain ⟨its, rv, p, hz⟩ := I1.tuple hq
    refine wpAny_pyIter_tuple (show s1.heap.IsTuple a its.toArray from p) ?_
    refine ⟨s1.heap.objs.size, [s1.heap.objs.size], _, _, H1, rfl, I1.kept (t' := s1.toks) fun b o e => Heap.get?_push_of_some _ e, turn_tuple a _, ⟨_, Heap.get?_push_size _ rfl, rfl, rfl⟩, fun b hb => ?_, q⟩
    have e : b = s1.heap.objs.size := by simpa using hb
    subst e
    exact I1.fpOk (Nat.le_refl _) (I1.hok.fresh (Nat.le_refl _))
  · subst ex
    obtain ⟨t, rfl⟩ := r1
    cases ha : x.cps.all (· < 128)
    · exact wpAny_pyIter_wide ha (pi_one (tk := s1.toks) I1 _ (turn_str _ x t "str_iterator" (.inr rfl)) ⟨_, Heap.get?_push_size _ rfl, rfl, rfl⟩ q)
    · exact wpAny_pyIter_ascii ha (pi_one (tk := s1.toks) I1 _ (turn_str _ x t "str_ascii_iterator" (.inl rfl)) ⟨_, Heap.get?_push_size _ rfl, rfl, rfl⟩ q)
  · subst ex
    obtain rfl : v = Value.ref d := r1
    exact iter_keys hs (Inv.dob I1 hd) hex hod (pi_one (tk := s1.toks) I1 _ (turn_dkeys _ hod hx) ⟨_, Heap.get?_push_size _ rfl, rfl, rfl⟩ q)

section
variable {g : G} {H : Hp} {φ : Phi} {K : PySem.W.Frag}
theorem walk_lst {ds : List D} {vs : List V} {a : Addr} (n : ¬ Live φ a) (h : H a = some (.lst vs)) (r : RepL g H φ ds vs) : Walk g (Itl K a) ds H φ where
  go := fun i H' φ' x hi => by
    obtain ⟨v, hv, _⟩ := r.get (List.getElem?_eq_getElem hi)
    exact ⟨vs, v, SqL.of (x.keep a _ (.inl n) h), hv⟩
  stop := fun i H' φ' x hi => ⟨vs, SqL.of (x.keep a _ (.inl n) h), by rw [← r.length, hi]; exact Nat.le_refl _⟩
  yld := fun i H' φ' s v H2 hi x rp y => by
    obtain ⟨rfl, y⟩ := y
    have q := y vs (SqL.of (x.keep a _ (.inl n) h))
    obtain ⟨w, hw, rw_⟩ := r.get (List.getElem?_eq_getElem hi)
    rw [q] at hw; cases hw
    exact ⟨_, φ', List.getElem?_eq_getElem hi, Ext.refl, rp, RepV.ext x _ rw_⟩
theorem walk_tup {ds : List D} {vs : List V} {a : Addr} (h : TupAt g H φ a vs) (r : RepL g H φ ds vs) : Walk g (Itt g.K a) ds H φ where
  go := fun i H' φ' x hi => by
    obtain ⟨v, hv, _⟩ := r.get (List.getElem?_eq_getElem hi)
    exact ⟨vs, v, (h.ext x).sq, hv⟩
  stop := fun i H' φ' x hi => ⟨vs, (h.ext x).sq, by rw [← r.length, hi]; exact Nat.le_refl _⟩
  yld := fun i H' φ' s v H2 hi x rp y => by
    obtain ⟨rfl, y⟩ := y
    have q := y vs (h.ext x).sq
    obtain ⟨w, hw, rw_⟩ := r.get (List.getElem?_eq_getElem hi)
    rw [q] at hw; cases hw
    exact ⟨_, φ', List.getElem?_eq_getElem hi, Ext.refl, rp, RepV.ext x _ rw_⟩
theorem repl_int (ns : List Int) : RepL g H φ (ns.map D.int) (ns.map V.int) := by
  induction ns with
  | nil => simp [RepL]
  | cons n ns ih => simp only [List.map_cons]; unfold RepL; exact ⟨_, _, rfl, repv_of_int, ih⟩
theorem walk_scr {ns : List Int} {a : Addr} (h : ScrAt g H φ a (ns.map V.int)) : Walk g (Itl g.K a) (ns.map D.int) H φ where
  go := fun i H' φ' x hi => by
    have r : RepL g H φ (ns.map D.int) (ns.map V.int) := repl_int ns
    obtain ⟨v, hv, _⟩ := r.get (List.getElem?_eq_getElem hi)
    exact ⟨_, v, (h.ext x).sq, hv⟩
  stop := fun i H' φ' x hi => ⟨_, (h.ext x).sq, by subst hi; simp⟩
  yld := fun i H' φ' s v H2 hi x rp y => by
    obtain ⟨rfl, y⟩ := y
    have r : RepL g H2 φ' (ns.map D.int) (ns.map V.int) := repl_int ns
    have q := y _ (h.ext x).sq
    obtain ⟨w, hw, rw_⟩ := r.get (List.getElem?_eq_getElem hi)
    rw [q] at hw; cases hw
    exact ⟨_, φ', List.getElem?_eq_getElem hi, Ext.refl, rp, rw_⟩
theorem walk_str (z : List Nat) : Walk g (Its (strV z)) (z.map fun c => .str [c]) H φ where
  go := fun i H' φ' x hi => by
    show i < (strV z).cps.size
    simpa [strV] using hi
  stop := fun i H' φ' x hi => by
    show (strV z).cps.size ≤ i
    subst hi; simp [strV]
  yld := fun i H' φ' s v H2 hi x rp y => by
    obtain ⟨rfl, c, hc, rfl⟩ := y
    have hc' : z[i]? = some c := by simpa [strV] using hc
    refine ⟨.str [c], φ', by rw [List.getElem?_map, hc']; rfl, Ext.refl, rp, ?_⟩
    exact repv_of_str
theorem walk_rng (lo : Int) (n : Nat) : Walk g (Itr lo n) ((List.range n).map fun i : Nat => D.int (lo + i)) H φ where
  go := fun i H' φ' x hi => by
    show i < n
    simpa using hi
  stop := fun i H' φ' x hi => by
    show n ≤ i
    subst hi; simp
  yld := fun i H' φ' s v H2 hi x rp y => by
    obtain ⟨rfl, rfl⟩ := y
    have hi' : i < n := by simpa using hi
    refine ⟨.int (lo + i), φ', ?_, Ext.refl, rp, repv_of_int⟩
    rw [List.getElem?_map, List.getElem?_range hi']; rfl
theorem walk_do {ds : List D} {vs : List V} {d : Addr} {o : Obj} (n : ¬ Live φ d) (h : H d = some (dO d o)) (r : RepL g H φ ds vs) : Walk g (ItO d o vs) ds H φ where
  go := fun i H' φ' x hi => ⟨x.keep d _ (.inl n) h, by rw [← r.length]; exact hi⟩
  stop := fun i H' φ' x hi => ⟨x.keep d _ (.inl n) h, by rw [← r.length]; omega⟩
  yld := fun i H' φ' s v H2 hi x rp y => by
    obtain ⟨rfl, y⟩ := y
    obtain ⟨w, hw, rw_⟩ := r.get (List.getElem?_eq_getElem hi)
    rw [y] at hw; cases hw
    exact ⟨_, φ', List.getElem?_eq_getElem hi, Ext.refl, rp, RepV.ext x _ rw_⟩
theorem walk_dp {ks ds : List D} {xs ys : List V} {d : Addr} {o : Obj} (n : ¬ Live φ d) (h : H d = some (dO d o)) (r : RepL g H φ ks xs) (r2 : RepL g H φ ds ys) (hl : ks.length = ds.length) : Walk g (ItP d o xs ys) (pairsD ks ds) H φ where
  go := fun i H' φ' x hi => ⟨x.keep d _ (.inl n) h, by unfold pairsD at hi; simp at hi; rw [← r.length]; omega⟩
  stop := fun i H' φ' x hi => ⟨x.keep d _ (.inl n) h, by unfold pairsD at hi; simp at hi; rw [← r.length]; omega⟩
  yld := fun i H' φ' s v H2 hi x rp y => by
    unfold pairsD at hi
    simp at hi
    obtain ⟨T, u, w, hu, hw, rfl, hT, rfl⟩ := y
    obtain ⟨v1, hv1, rv1⟩ := r.get (List.getElem?_eq_getElem (show i < ks.length by omega))
    obtain ⟨v2, hv2, rv2⟩ := r2.get (List.getElem?_eq_getElem (show i < ds.length by omega))
    rw [hu] at hv1; cases hv1
    rw [hw] at hv2; cases hv2
    have x0 := Ext.new_ rp hT (.tup [u, w])
    refine ⟨.tup [ks[i], ds[i]], φ', ?_, x0, rp.new_ hT _, ?_⟩
    · unfold pairsD
      rw [List.getElem?_zipWith, List.getElem?_eq_getElem (show i < ks.length by omega), List.getElem?_eq_getElem (show i < ds.length by omega)]
    · unfold RepV
      refine ⟨T, [u, w], rfl, .inr ⟨rp.notLive hT, upd_same⟩, ?_, by show 2 ≤ PySem.sizeLine; rw [← sl_eq]; decide⟩
      unfold RepL
      refine ⟨u, [w], rfl, RepV.ext (x.trans x0) _ rv1, ?_⟩
      unfold RepL
      exact ⟨w, [], rfl, RepV.ext (x.trans x0) _ rv2, by simp [RepL]⟩
/-- a dict of no name, as it stands -/
theorem de_of {ks ds : List D} {x : V} (h : RepV g H φ (.dic ks ds) x) : ∃ d o xs ys, DE H x d o xs ys ∧ ¬ Live φ d ∧ H d = some (dO d o) ∧ RepL g H φ ks xs ∧ RepL g H φ ds ys ∧ ks.length = ds.length ∧ ks.length ≤ PySem.sizeLine := by
  unfold RepV at h
  obtain ⟨d, o, xs, ys, rfl, n, q, p, r1, r2⟩ := h
  obtain ⟨es, ep, e1, e2⟩ := p.ent
  obtain ⟨v1, v2⟩ := entl_vals e2
  obtain ⟨l1, l2, l3⟩ := entl_len e2
  exact ⟨d, o, xs, ys, ⟨es, ep, rfl, q, p.sys, p.ex, e1, v1, v2⟩, n, q, r1, r2, by rw [r1.length, r2.length, l2, l3], p.ks.len⟩
/-- a value that is walked -/
theorem iter_value {X : Cx} {tg e : Expr} {W : WX} {m : Fk.Env → Fk.St → R D} (hk : X.K = g.K) (he : PE X e (tR (RepV g) g W m)) :
    PI X tg e (tI g W fun env s => (m env s).bind fun w s => match iterD w with
      | Option.none => .bad
      | some items => .ok items s) := by
  refine (pi_any he).imp fun σ H R ⟨env, s, φ, hE, hS, hP⟩ => ⟨env, s, φ, hE, hS, hP.bind fun w s1 x H1 φ1 _ r1 v1 p1 => ?_⟩
  rw [hk]
  cases w with
  | tup ds =>
    obtain ⟨a, vs, rfl, t, r, z⟩ := repv_tup v1
    exact .inr (.inl ⟨a, rfl, ⟨vs, t.sq⟩, p1.here r1 ⟨walk_tup t r, by rw [r.length]; exact z⟩⟩)
  | lst ds =>
    obtain ⟨a, vs, rfl, n, t, r, z⟩ := repv_lst v1
    exact .inl ⟨a, rfl, ⟨vs, SqL.of t⟩, p1.here r1 ⟨walk_lst n t r, by rw [r.length]; exact z⟩⟩
  | scr ns =>
    obtain ⟨a, rfl, t, z⟩ := repv_scr v1
    exact .inl ⟨a, rfl, ⟨_, t.sq⟩, p1.here r1 ⟨walk_scr t, by simpa using z⟩⟩
  | str z =>
    have q := repv_str v1
    subst q
    simp only [iterD] at p1
    by_cases c : z.length ≤ Fk.sizeLine
    · rw [if_pos c] at p1
      exact .inr (.inr (.inl ⟨_, rfl, p1.here r1 ⟨walk_str z, by rw [← sl_eq]; simpa using c⟩⟩))
    · rw [if_neg c] at p1; exact p1.elim
  | dic ks ds =>
    obtain ⟨d, o, xs, ys, de, n, hd, q1, q2, ql, qz⟩ := de_of v1
    exact .inr (.inr (.inr ⟨d, o, xs, ys, de, p1.here r1 ⟨walk_do n hd q1, qz⟩⟩))
  | _ => exact p1.elim
theorem iter_vals {X : Cx} {tg e : Expr} {apos cpos : Pos} {W : WX} {m : Fk.Env → Fk.St → R D} (hk : X.K = g.K) (he : PE X e (tR (RepV g) g W m)) (hbase : attributeBase e "values" X.env (eval e X.env) = eval e X.env) (hline : (apos.endLine == cpos.line) = true) :
    PI X tg (.Call (.Attribute e "values" apos) [] [] cpos) (tI g W fun env s => (m env s).bind fun w s => match w with
      | .dic _ vs => .ok vs s
      | _ => .bad) := by
  refine (pi_dvals he hbase hline).imp fun σ H R ⟨env, s, φ, hE, hS, hP⟩ => ⟨env, s, φ, hE, hS, hP.bind fun w s1 x H1 φ1 _ r1 v1 p1 => ?_⟩
  cases w with
  | dic ks ds =>
    obtain ⟨d, o, xs, ys, de, n, hd, q1, q2, ql, qz⟩ := de_of v1
    exact ⟨d, o, xs, ys, de, p1.here r1 ⟨walk_do n hd q2, by omega⟩⟩
  | _ => exact p1.elim
theorem iter_items {X : Cx} {e : Expr} {elts : List Expr} {kk : Nat} {tpos apos cpos : Pos} {W : WX} {m : Fk.Env → Fk.St → R D} (hk : X.K = g.K) (he : PE X e (tR (RepV g) g W m)) (hbase : attributeBase e "items" X.env (eval e X.env) = eval e X.env) (hline : (apos.endLine == cpos.line) = true) :
    PI X (.Tuple elts kk tpos) (.Call (.Attribute e "items" apos) [] [] cpos) (tI g W fun env s => (m env s).bind fun w s => match w with
      | .dic ks vs => .ok (pairsD ks vs) s
      | _ => .bad) := by
  refine (pi_ditems he hbase hline).imp fun σ H R ⟨env, s, φ, hE, hS, hP⟩ => ⟨env, s, φ, hE, hS, hP.bind fun w s1 x H1 φ1 _ r1 v1 p1 => ?_⟩
  cases w with
  | dic ks ds =>
    obtain ⟨d, o, xs, ys, de, n, hd, q1, q2, ql, qz⟩ := de_of v1
    exact ⟨d, o, xs, ys, de, p1.here r1 ⟨walk_dp n hd q1 q2 ql, by unfold pairsD; simp; omega⟩⟩
  | _ => exact p1.elim
end
end L3

set_option Elab.async false
set_option linter.all false
set_option autoImplicit false
set_option maxRecDepth 100000
set_option maxHeartbeats 4000000
/-! FkZip: zip of lists, tuples, texts in any mix. -/
namespace L3
open PySem PySem.Spec PyProof.Rows L2 Fk

/-- what is zipped: a list, a tuple, a text -/
inductive SK where
  | l (a : Addr) | t (a : Addr) | s (z : PySem.Str)
def SK.v : SK → V
  | .l a => .ref a
  | .t a => .ref a
  | .s z => .str z
def SK.ad : SK → List Addr
  | .l a => [a]
  | .t a => [a]
  | .s _ => []
def SrcK (K : PySem.W.Frag) (H : Hp) : SK → List V → Prop
  | .l a, xs => SqL K H a xs
  | .t a, xs => SqT K H a xs
  | .s z, xs => xs = z.cps.toList.map fun c => V.str ⟨#[c]⟩
def ItAt (h : Heap) (it : Addr) : SK → Nat → Prop
  | .l a, i => h.IsListIter it a i
  | .t a, i => h.IsTupleIter it a i
  | .s z, i => ∃ t, h.IsStrIter it (strIterType z) z t i
theorem ItAt.ob {h : Heap} {it : Addr} : ∀ {k : SK} {i : Nat}, ItAt h it k i → ∃ o, h.get? it = some o ∧ ∀ v, o.data ≠ .cell v
  | .l a, i, st => by
    obtain ⟨o, e, c, d⟩ := st
    exact ⟨o, e, fun v z => by rw [d] at z; cases z⟩
  | .t a, i, st => by
    obtain ⟨o, e, c, d⟩ := st
    exact ⟨o, e, fun v z => by rw [d] at z; cases z⟩
  | .s z, i, st => by
    obtain ⟨t, o, e, c, d⟩ := st
    exact ⟨o, e, fun v z => by rw [d] at z; cases z⟩
theorem ItAt.at' {h h' : Heap} {it : Addr} : ∀ {k : SK} {i : Nat}, ItAt h it k i → (∀ o, h.get? it = some o → h'.get? it = some o) → ItAt h' it k i
  | .l a, i, st, k => by
    obtain ⟨o, e, r⟩ := st
    exact ⟨o, k o e, r⟩
  | .t a, i, st, k => by
    obtain ⟨o, e, r⟩ := st
    exact ⟨o, k o e, r⟩
  | .s z, i, st, k => by
    obtain ⟨t, o, e, r⟩ := st
    exact ⟨t, o, k o e, r⟩
/-- what stands at each is what is drawn -/
theorem draw_of {X : Cx} {pins : List (Addr × Obj)} {σ : L2.St} {H : Hp} {s : Shared} {A : Around} (I : Inv X pins σ H s) (hh : A.handled = none) {it : Addr} {i : Nat} : ∀ {k : SK} {xs : List V}, SrcK X.K H k xs → it ∉ k.ad → ItAt s.heap it k i →
    ∃ (n : Nat) (P : Nat → Value → Prop) (St : Nat → Heap → Prop), Draws X.prog X.w A it (it :: k.ad) n P St ∧ n = xs.length ∧ (∀ j v, P j v → ∃ x, xs[j]? = some x ∧ RelV x v) ∧ St i s.heap ∧ ∀ j h, St j h → ItAt h it k j
  | .l a, xs, q, hn, st => by
    obtain ⟨its, rv, p, _⟩ := I.list q
    refine ⟨_, _, _, Draws.list hh it a (fun e => hn (by simp [SK.ad, e])) its.toArray, ?_, fun j v hv => ?_, ⟨st, p.isList⟩, fun j h z => z.1⟩
    · have := rv.length; simp; omega
    · have hv' : its[j]? = some v := by simpa using hv
      have hl : j < xs.length := by
        have := rv.length
        have := (List.getElem?_eq_some_iff.mp hv').1
        omega
      obtain ⟨u, hu, ru⟩ := rv.get (List.getElem?_eq_getElem hl)
      rw [hu] at hv'; cases hv'
      exact ⟨_, List.getElem?_eq_getElem hl, ru⟩
  | .t a, xs, q, hn, st => by
    obtain ⟨its, rv, p, _⟩ := I.tuple q
    refine ⟨_, _, _, Draws.tuple hh it a (fun e => hn (by simp [SK.ad, e])) its.toArray, ?_, fun j v hv => ?_, ⟨st, p⟩, fun j h z => z.1⟩
    · have := rv.length; simp; omega
    · have hv' : its[j]? = some v := by simpa using hv
      have hl : j < xs.length := by
        have := rv.length
        have := (List.getElem?_eq_some_iff.mp hv').1
        omega
      obtain ⟨u, hu, ru⟩ := rv.get (List.getElem?_eq_getElem hl)
      rw [hu] at hv'; cases hv'
      exact ⟨_, List.getElem?_eq_getElem hl, ru⟩
  | .s z, xs, q, hn, st => by
    obtain ⟨t, st⟩ := st
    have q' : xs = z.cps.toList.map fun c => V.str ⟨#[c]⟩ := q
    refine ⟨_, _, _, Draws.text hh it z t, ?_, fun j v hv => ?_, st, fun j h y => ⟨t, y⟩⟩
    · rw [q']; simp
    · obtain ⟨c, u, hc, rfl⟩ := hv
      refine ⟨.str ⟨#[c]⟩, ?_, ⟨u, rfl⟩⟩
      rw [q', List.getElem?_map]
      have : z.cps.toList[j]? = some c := by simpa using hc
      rw [this]; rfl
theorem src_inj {X : Cx} {pins : List (Addr × Obj)} {σ : L2.St} {H : Hp} {s : Shared} (I : Inv X pins σ H s) : ∀ {k : SK} {xs ys : List V}, SrcK X.K H k xs → SrcK X.K H k ys → xs = ys
  | .l _, _, _, h, h' => I.list_inj h h'
  | .t _, _, _, h, h' => I.tuple_inj h h'
  | .s _, _, _, h, h' => by
    have h1 : _ = _ := h
    have h2 : _ = _ := h'
    rw [h1, h2]
/-- the items in new pairs -/
def ItzK (K : PySem.W.Frag) (k1 k2 : SK) : It :=
  ⟨fun i H => ∃ (xs ys : List V), SrcK K H k1 xs ∧ SrcK K H k2 ys ∧ i < xs.length ∧ i < ys.length,
    fun i H v H' => ∃ T x y, v = .ref T ∧ H T = none ∧ H' = upd H T (.tup [x, y]) ∧ (∀ xs, SrcK K H k1 xs → xs[i]? = some x) ∧ ∀ ys, SrcK K H k2 ys → ys[i]? = some y,
    fun i H => ∃ xs ys : List V, SrcK K H k1 xs ∧ SrcK K H k2 ys ∧ i ≤ xs.length ∧ i ≤ ys.length ∧ (i = xs.length ∨ i = ys.length)⟩
structure ZApart (z TI TO i1 i2 : Addr) (k1 k2 : SK) : Prop where
  TIz : TI ≠ z
  TOz : TO ≠ z
  TITO : TI ≠ TO
  TIi1 : TI ≠ i1
  TIi2 : TI ≠ i2
  zi1 : z ≠ i1
  zi2 : z ≠ i2
  TOi1 : TO ≠ i1
  TOi2 : TO ≠ i2
  i12 : i1 ≠ i2
  n1 : ∀ a ∈ k1.ad, a ≠ z ∧ a ≠ TO ∧ a ≠ i1 ∧ a ≠ i2
  n2 : ∀ a ∈ k2.ad, a ≠ z ∧ a ≠ TO ∧ a ≠ i1 ∧ a ≠ i2
theorem ZApart.sep {z TI TO i1 i2 : Addr} {k1 k2 : SK} (D : ZApart z TI TO i1 i2 k1 k2) : ZipSep2 z TI TO i1 i2 (i1 :: k1.ad) (i2 :: k2.ad) where
  TIz := D.TIz
  TOz := D.TOz
  TITO := D.TITO
  TIi1 := D.TIi1
  TIi2 := D.TIi2
  mem1 := List.mem_cons_self
  mem2 := List.mem_cons_self
  zf1 := fun h => by
    rcases List.mem_cons.mp h with h | h
    · exact D.zi1 h
    · exact (D.n1 _ h).1 rfl
  zf2 := fun h => by
    rcases List.mem_cons.mp h with h | h
    · exact D.zi2 h
    · exact (D.n2 _ h).1 rfl
  Tf1 := fun h => by
    rcases List.mem_cons.mp h with h | h
    · exact D.TOi1 h
    · exact (D.n1 _ h).2.1 rfl
  Tf2 := fun h => by
    rcases List.mem_cons.mp h with h | h
    · exact D.TOi2 h
    · exact (D.n2 _ h).2.1 rfl
  sep1_2 := fun h => by
    rcases List.mem_cons.mp h with h | h
    · exact D.i12 h
    · exact (D.n2 _ h).2.2.1 rfl
  sep2_1 := fun h => by
    rcases List.mem_cons.mp h with h | h
    · exact D.i12 h.symm
    · exact (D.n1 _ h).2.2.2 rfl
theorem turn_zipK {P : Program} {w : World} {K : PySem.W.Frag} {elts : List Expr} {kk : Nat} {tpos : Pos} {k1 k2 : SK} {z TI TO i1 i2 : Addr} (D : ZApart z TI TO i1 i2 k1 k2) :
    Turn P w K (.Tuple elts kk tpos) (ItzK K k1 k2) [z, TI, TO, i1, i2] z (fun i h => IsZip h z TI TO .none ∧ IsTupOf2 h TI (.ref i1) (.ref i2) ∧ (∃ x y, IsTupOf2 h TO x y) ∧ ItAt h i1 k1 i ∧ ItAt h i2 k2 i) where
  mem := by simp
  obj := fun i h st c hc => by
    obtain ⟨hz, hTI, ⟨x, y, hTO⟩, s1, s2⟩ := st
    have e' : c = z ∨ c = TI ∨ c = TO ∨ c = i1 ∨ c = i2 := by simpa using hc
    rcases e' with q | q | q | q | q
    · rw [q]; exact ⟨_, hz, fun v q => nomatch q⟩
    · rw [q]; exact ⟨_, hTI, fun v q => nomatch q⟩
    · rw [q]; exact ⟨_, hTO, fun v q => nomatch q⟩
    · rw [q]; exact s1.ob
    · rw [q]; exact s2.ob
  keep := fun i h h' st k => by
    obtain ⟨hz, hTI, ⟨x, y, hTO⟩, h1, h2⟩ := st
    exact ⟨k z (by simp) _ hz, k TI (by simp) _ hTI, ⟨x, y, k TO (by simp) _ hTO⟩, h1.at' fun o q => k i1 (by simp) o q, h2.at' fun o q => k i2 (by simp) o q⟩
  item := by
    intro X hP hw hK hc i pins s σ H E I hf st hg
    subst hP hw hK
    obtain ⟨hz, hTI, ⟨x0, y0, hTO⟩, h1, h2⟩ := st
    obtain ⟨xs, ys, hqx, hqy, hx, hy⟩ := hg
    obtain ⟨n1, P1, St1, D1, e1, f1, st1, b1⟩ := draw_of (A := X.A.in1) I (I.ok.hd hc) hqx (fun h => (D.n1 _ h).2.2.1 rfl) h1
    obtain ⟨n2, P2, St2, D2, e2, f2, st2, b2⟩ := draw_of (A := X.A.in1) I (I.ok.hd hc) hqy (fun h => (D.n2 _ h).2.2.2 rfl) h2
    have hzl : z < s.heap.objs.size := Heap.lt_size hz
    refine wpAny_pyNext_zipD2_item D.sep D1 D2 hz hTI hTO st1 st2 (by omega) (by omega) fun u u2 h' tk hu hu2 z' TO' h1' h2' hT hsz hk => ?_
    obtain ⟨x, hx, ru⟩ := f1 _ _ hu
    obtain ⟨y, hy, ru2⟩ := f2 _ _ hu2
    refine ⟨_, rfl, wpAny_letOwnedTupleGo_zip (s := { s with heap := h', toks := tk }) z' fun h'' z'' sb => ?_⟩
    have hT2 : h''.get? s.heap.objs.size = some { cls := .type "tuple", data := .seq #[u, u2] } := (sb.2 _ (Nat.ne_of_gt hzl)).trans hT
    have new : ObjOk X.prog X.w (upd H s.heap.objs.size (.tup [x, y])) h'' s.heap.objs.size (.tup [x, y]) :=
      ⟨by show 2 ≤ PySem.sizeLine; decide, [u, u2], .cons ru (.cons ru2 .nil), ⟨_, hT2, rfl, _, rfl⟩⟩
    have I1 : Inv X pins σ (upd H s.heap.objs.size (.tup [x, y])) { s with heap := h'', toks := tk } :=
      I.turnedNew (t' := tk) (ch := [z, TI, TO, i1, i2]) (fun c o hb q => (sb.2 c (fun q' => hb (by simp [q']))).trans (hk c o (fun q' => hb (by simp [q'])) (fun q' => hb (by simp [q'])) (fun q' => hb (by simp [q'])) (fun q' => hb (by simp [q'])) q)) hf (Nat.le_refl _) new
    refine ⟨.ref s.heap.objs.size, _, I1, rfl, ⟨_, x, y, rfl, I.hok.fresh (Nat.le_refl _), rfl, fun xs' h' => (src_inj I h' hqx).symm ▸ hx, fun ys' h' => (src_inj I h' hqy).symm ▸ hy⟩, ⟨z'', ?_, ⟨u, u2, ?_⟩, ?_, ?_⟩, fun c hcm => ?_⟩
    · exact (sb.2 _ D.TIz).trans (hk _ _ D.TIz D.TITO D.TIi1 D.TIi2 hTI)
    · exact (sb.2 _ D.TOz).trans TO'
    · exact (b1 _ _ h1').at' fun o q => (sb.2 _ D.zi1.symm).trans q
    · exact (b2 _ _ h2').at' fun o q => (sb.2 _ D.zi2.symm).trans q
    · have hlt : c < s.heap.objs.size := by
        have e' : c = z ∨ c = TI ∨ c = TO ∨ c = i1 ∨ c = i2 := by simpa using hcm
        rcases e' with q | q | q | q | q
        · rw [q]; exact hzl
        · rw [q]; exact Heap.lt_size hTI
        · rw [q]; exact Heap.lt_size hTO
        · rw [q]; obtain ⟨_, e1, _⟩ := h1.ob; exact Heap.lt_size e1
        · rw [q]; obtain ⟨_, e2, _⟩ := h2.ob; exact Heap.lt_size e2
      rw [upd_ne (Nat.ne_of_lt hlt)]
      exact (hf c hcm).1
  done := by
    intro X hP hw hK hc i pins s σ H E I hf st hg
    subst hP hw hK
    obtain ⟨hz, hTI, ⟨x0, y0, hTO⟩, h1, h2⟩ := st
    obtain ⟨xs, ys, hqx, hqy, hl1, hl2, hend⟩ := hg
    obtain ⟨n1, P1, St1, D1, e1, f1, st1, b1⟩ := draw_of (A := X.A.in1) I (I.ok.hd hc) hqx (fun h => (D.n1 _ h).2.2.1 rfl) h1
    obtain ⟨n2, P2, St2, D2, e2, f2, st2, b2⟩ := draw_of (A := X.A.in1) I (I.ok.hd hc) hqy (fun h => (D.n2 _ h).2.2.2 rfl) h2
    exact wpAny_pyNext_zipD2_end D.sep D1 D2 hz hTI hTO st1 st2 (by omega) (by omega) (by omega) fun h' tk hk => ⟨rfl, I.turnedL (t' := tk) (ch := [z, TI, TO, i1, i2]) (fun c o hb q =>
      hk c o (fun q' => hb (by simp [q'])) (fun q' => hb (by simp [q'])) (fun q' => hb (by simp [q'])) (fun q' => hb (by simp [q'])) q) hf⟩
  self := fun A i s Q E st h => wpAny_pyIter_zip st.1 h
theorem begins_of {X : Cx} {pins : List (Addr × Obj)} {σ : L2.St} {H : Hp} {s : Shared} (I : Inv X pins σ H s) : ∀ {k : SK} {xs : List V} {u : Value}, SrcK X.K H k xs → RelV k.v u →
    ∃ (o : Obj) (HP : Heap → Prop), Begins u o HP ∧ HP s.heap ∧ (∀ (h' : Heap) (it : Addr), h'.get? it = some o → ItAt h' it k 0) ∧ ∀ a ∈ k.ad, a < s.heap.objs.size
  | .l a, xs, u, q, r => by
    cases (show u = Value.ref a from r)
    obtain ⟨its, rv, p, _⟩ := I.list q
    refine ⟨_, _, begins_list a its.toArray, p.isList, fun h' it e => ⟨_, e, rfl, rfl⟩, fun b hb => ?_⟩
    have : b = a := by simpa [SK.ad] using hb
    subst this
    exact p.lt
  | .t a, xs, u, q, r => by
    cases (show u = Value.ref a from r)
    obtain ⟨its, rv, p, _⟩ := I.tuple q
    refine ⟨_, _, begins_tuple a its.toArray, p, fun h' it e => ⟨_, e, rfl, rfl⟩, fun b hb => ?_⟩
    have : b = a := by simpa [SK.ad] using hb
    subst this
    obtain ⟨o1, ho1, _⟩ := id p
    exact Heap.lt_size ho1
  | .s z, xs, u, q, r => by
    obtain ⟨t, rfl⟩ := (show ∃ t, u = Value.str z t from r)
    exact ⟨_, _, begins_text z t, trivial, fun h' it e => ⟨t, _, e, rfl, rfl⟩, fun b hb => by simp [SK.ad] at hb⟩
theorem zapart {n : Nat} {k1 k2 : SK} (l1 : ∀ a ∈ k1.ad, a < n) (l2 : ∀ a ∈ k2.ad, a < n) : ZApart (n + 4) (n + 2) (n + 3) n (n + 1) k1 k2 := by
  refine ⟨?_, ?_, ?_, ?_, ?_, ?_, ?_, ?_, ?_, ?_, fun a ha => ?_, fun a ha => ?_⟩
  any_goals (show (_ : Nat) ≠ _; omega)
  · have : (a : Nat) < n := l1 a ha
    exact ⟨Nat.ne_of_lt (Nat.lt_of_lt_of_le this (Nat.le_add_right _ 4)), Nat.ne_of_lt (Nat.lt_of_lt_of_le this (Nat.le_add_right _ 3)), Nat.ne_of_lt this, Nat.ne_of_lt (Nat.lt_of_lt_of_le this (Nat.le_add_right _ 1))⟩
  · have : (a : Nat) < n := l2 a ha
    exact ⟨Nat.ne_of_lt (Nat.lt_of_lt_of_le this (Nat.le_add_right _ 4)), Nat.ne_of_lt (Nat.lt_of_lt_of_le this (Nat.le_add_right _ 3)), Nat.ne_of_lt this, Nat.ne_of_lt (Nat.lt_of_lt_of_le this (Nat.le_add_right _ 1))⟩
def iZipK (K : PySem.W.Frag) (ta : TA) : TI := fun σ H R => ta σ H fun vs H1 => ∃ k1 k2 xs ys, vs = [k1.v, k2.v] ∧ SrcK K H1 k1 xs ∧ SrcK K H1 k2 ys ∧ R (ItzK K k1 k2) H1
theorem pi_zipK {X : Cx} {e e2 : Expr} {ta : TA} {p pos tpos : Pos} {elts : List Expr} {kk : Nat} (hg : Gl X "zip") (hm : X.mg "zip" = none) (ha : PA X [e, e2] ta)
    (hs : starEach [e, e2] X.env = (false, eval e X.env) :: starEach [e2] X.env) (hpl : (backTo pos (starEach [e2] X.env)).any (·.1) = false) :
    PI X (.Tuple elts kk tpos) (.Call (.Name "zip" p) [e, e2] [] pos) (iZipK X.K ta) := by
  refine ⟨fun pins s σ H R I h => ?_⟩
  refine Call_ (ld_blt I hg hm PyProof.Rows.boot_zip (PyProof.Rows.callWith_type1 (thn (ha.run pos pins s σ H _ I h) fun us s1 ⟨vs, H1, I1, r1, q1⟩ => ?_) hs hpl))
  obtain ⟨k1, k2, xs, ys, rfl, hqx, hqy, q⟩ := q1
  cases r1 with
  | cons r rr =>
    cases rr with
    | cons r' rr =>
      cases rr
      obtain ⟨o1, HP1, B1, p1, a1, l1⟩ := begins_of I1 hqx r
      obtain ⟨o2, HP2, B2, p2, a2, l2⟩ := begins_of I1 hqy r'
      refine zip_begins2 B1 B2 p1 p2 fun h' hz hTI hTO h1 h2 hsz hk => wpAny_pyIter_zip hz ?_
      have I2 : Inv X pins σ H1 { s1 with heap := h' } := I1.kept (t' := s1.toks) hk
      refine ⟨s1.heap.objs.size + 4, [s1.heap.objs.size + 4, s1.heap.objs.size + 2, s1.heap.objs.size + 3, s1.heap.objs.size, s1.heap.objs.size + 1], _, _, H1, rfl, I2, turn_zipK (zapart l1 l2), ⟨hz, hTI, ⟨_, _, hTO⟩, a1 _ _ h1, a2 _ _ h2⟩, fun c hcm => ?_, q⟩
      · have e' : c = s1.heap.objs.size + 4 ∨ c = s1.heap.objs.size + 2 ∨ c = s1.heap.objs.size + 3 ∨ c = s1.heap.objs.size ∨ c = s1.heap.objs.size + 1 := by simpa using hcm
        have hle : s1.heap.objs.size ≤ c := by
          rcases e' with z | z | z | z | z
          · rw [z]; exact Nat.le_add_right _ _
          · rw [z]; exact Nat.le_add_right _ _
          · rw [z]; exact Nat.le_add_right _ _
          · rw [z]; exact Nat.le_refl _
          · rw [z]; exact Nat.le_add_right _ _
        exact I1.fpOk hle (I1.hok.fresh hle)
section
variable {g : G} {H : Hp} {φ : Phi}
theorem zip_len {ds es : List D} : (List.zipWith (fun x y => D.tup [x, y]) ds es).length = min ds.length es.length := by simp
/-- a source that stays as it is -/
structure SrcS (g : G) (H : Hp) (φ : Phi) (k : SK) (ds : List D) (vs : List V) : Prop where
  src : ∀ H' φ', Ext H φ H' φ' → SrcK g.K H' k vs
  rep : RepL g H φ ds vs
theorem walk_zip {ds es : List D} {xs ys : List V} {k1 k2 : SK} (h1 : SrcS g H φ k1 ds xs) (h2 : SrcS g H φ k2 es ys) :
    Walk g (ItzK g.K k1 k2) (List.zipWith (fun x y => D.tup [x, y]) ds es) H φ where
  go := fun i H' φ' x hi => by
    rw [zip_len] at hi
    exact ⟨xs, ys, h1.src _ _ x, h2.src _ _ x, by have := h1.rep.length; omega, by have := h2.rep.length; omega⟩
  stop := fun i H' φ' x hi => by
    have hi : i = min ds.length es.length := by rw [← zip_len (ds := ds) (es := es)]; omega
    have := h1.rep.length
    have := h2.rep.length
    exact ⟨xs, ys, h1.src _ _ x, h2.src _ _ x, by omega, by omega, by omega⟩
  yld := fun i H' φ' s v H2 hi x rp y => by
    rw [zip_len] at hi
    obtain ⟨T, u, w, rfl, hT, rfl, k1, k2⟩ := y
    have k1 := k1 _ (h1.src _ _ x)
    have k2 := k2 _ (h2.src _ _ x)
    obtain ⟨v1, hv1, rv1⟩ := h1.rep.get (List.getElem?_eq_getElem (show i < ds.length by omega))
    obtain ⟨v2, hv2, rv2⟩ := h2.rep.get (List.getElem?_eq_getElem (show i < es.length by omega))
    rw [k1] at hv1; cases hv1
    rw [k2] at hv2; cases hv2
    have x0 := Ext.new_ rp hT (.tup [u, w])
    refine ⟨.tup [ds[i], es[i]], φ', ?_, x0, rp.new_ hT _, ?_⟩
    · rw [List.getElem?_zipWith, List.getElem?_eq_getElem (show i < ds.length by omega), List.getElem?_eq_getElem (show i < es.length by omega)]
    · unfold RepV
      refine ⟨T, [u, w], rfl, .inr ⟨rp.notLive hT, upd_same⟩, ?_, by show 2 ≤ PySem.sizeLine; rw [← sl_eq]; decide⟩
      unfold RepL
      refine ⟨u, [w], rfl, RepV.ext (x.trans x0) _ rv1, ?_⟩
      unfold RepL
      exact ⟨w, [], rfl, RepV.ext (x.trans x0) _ rv2, by simp [RepL]⟩
theorem src_of {d : D} {ds : List D} {x : V} (h : RepV g H φ d x) (e : iterZ d = some ds) : ∃ k vs, x = k.v ∧ SrcS g H φ k ds vs ∧ ds.length ≤ PySem.sizeLine := by
  cases d <;> first | (simp [iterZ] at e; done) | skip
  · rename_i l
    simp [iterZ] at e
    obtain ⟨z, e1⟩ := e
    subst e1
    have q := repv_str h
    subst q
    refine ⟨.s (strV _), _, rfl, ⟨fun H' φ' _ => rfl, ?_⟩, by rw [← sl_eq]; simpa using z⟩
    have : ∀ l : List Nat, RepL g H φ (l.map fun c => .str [c]) ((strV l).cps.toList.map fun c => V.str ⟨#[c]⟩) := fun l => by
      show RepL g H φ _ (l.toArray.toList.map _)
      rw [List.toList_toArray]
      induction l with
      | nil => simp [RepL]
      | cons c l ih => simp only [List.map_cons]; unfold RepL; exact ⟨_, _, rfl, repv_of_str, ih⟩
    exact this _
  · simp [iterZ] at e; subst e
    obtain ⟨a, vs, rfl, t, r, z⟩ := repv_tup h
    exact ⟨.t a, vs, rfl, ⟨fun H' φ' x => (t.ext x).sq, r⟩, by rw [r.length]; exact z⟩
  · simp [iterZ] at e; subst e
    obtain ⟨a, vs, rfl, n, t, r, z⟩ := repv_lst h
    exact ⟨.l a, vs, rfl, ⟨fun H' φ' x => SqL.of (x.keep a _ (.inl n) t), r⟩, by rw [r.length]; exact z⟩
end
end L3

set_option Elab.async false
set_option linter.all false
set_option autoImplicit false
set_option maxRecDepth 100000
set_option maxHeartbeats 4000000
/-! FkStar: a, b, *rest = a tuple. -/
namespace L3
open PySem PySem.Spec PyProof.Rows L2

/-- a tuple's iterator, from a place on -/
theorem walks_from {prog : Program} {w : World} {A : Around} (hh : A.handled = none) (I ax : Addr) (hne : ax ≠ I) (items : Array Value) (k : Nat) (hk : k ≤ items.size) :
    Walks prog w A I [I, ax] [I] (items.size - k) (fun i v => items[k + i]? = some v) (fun i h => h.IsTupleIter I ax (k + i) ∧ h.IsTuple ax items) :=
  let W := Walks.tuple (prog := prog) (w := w) (A := A) hh I ax hne items
  { sub := W.sub
    frame := fun i h h' st e => W.frame (k + i) h h' st e
    item := fun i s Q E hi st hQ => W.item (k + i) s Q E (by omega) st fun v h' tk p st' e => hQ v h' tk p st' e
    done := fun s Q E st hQ => W.done s Q E (by have : k + (items.size - k) = items.size := by omega
                                                rw [← this]; exact st) hQ
    self := fun i s Q E st hQ => W.self (k + i) s Q E st hQ }
theorem items_drop {items : Array Value} {k : Nat} {acc : Array Value} (hk : k ≤ items.size) (h : ItemsOf (fun i v => items[k + i]? = some v) acc (items.size - k)) : acc.toList = items.toList.drop k := by
  obtain ⟨h1, h2⟩ := h
  refine List.ext_getElem? fun j => ?_
  rw [List.getElem?_drop]
  by_cases hj : j < acc.size
  · have e : acc[j]? = some acc[j] := Array.getElem?_eq_getElem hj
    have q := h2 j _ e
    have e1 : acc.toList[j]? = some acc[j] := by rw [Array.getElem?_toList]; exact e
    have e2 : items.toList[k + j]? = items[k + j]? := Array.getElem?_toList
    rw [e1, e2, q]
  · rw [List.getElem?_eq_none (by simpa using hj), List.getElem?_eq_none (by simp; omega)]
theorem unpack_star {prog : Program} {w : World} {A : Around} {E : Value → Shared → Prop} {s : Shared} {t : Addr} {items : Array Value} {k : Nat} {Q : List Value → Shared → Prop} (hh : A.handled = none) (ht : IsTup s.heap t items) (hk : k ≤ items.size) (hz : items.size ≤ sizeLine)
    (hQ : ∀ (h' : Heap) (tk : Nat), (∀ b o, s.heap.get? b = some o → h'.get? b = some o) → Q (items.toList.take k ++ [.ref h'.objs.size]) { s with heap := h'.push { cls := .type "list", data := .seq (items.toList.drop k).toArray }, toks := tk }) :
    wpAny (model prog w) A (unpackItems (.ref t) (k + 1) (some k)) Q E s := by
  have hlt : t ≠ s.heap.objs.size := by obtain ⟨o, ho, _⟩ := ht; exact Nat.ne_of_lt (Heap.lt_size ho)
  unfold unpackItems
  refine wpAny_bind ?_
  unfold notIterableAtAll
  refine wpAny_bind (wpAny_specialOf ht.typeIs slot_tuple_iter.lookup ?_)
  refine wpAny_pure ?_
  simp only [Bool.false_eq_true, if_false]
  refine wpAny_bind (wpAny_holding (iter_tuple ht ?_))
  refine wpAny_bind (wpAny_holding (draw_tuple hlt k 0 _ _ ⟨_, Heap.get?_push_size _ rfl, rfl, rfl⟩ (ht.push _) (by omega) fun h1 hit1 hs1 => ?_))
  have hlen : ((items.toList.drop 0).take k).length = k := by rw [List.drop_zero, List.length_take]; simp; omega
  rw [if_neg (by rw [hlen]; exact Nat.lt_irrefl _)]
  have ht1 : IsTup h1 t items := (ht.push _).extBut hs1.extBut hlt
  have keep1 : ∀ b o, s.heap.get? b = some o → h1.get? b = some o := fun b o e => hs1.extBut b o (Nat.ne_of_lt (Heap.lt_size e)) (Heap.get?_push_of_some _ e)
  have W := (walks_from (prog := prog) (w := w) (A := A.in1) hh s.heap.objs.size t hlt items k hk).toS
  refine wpAny_bind (wpAny_holding (wpAny_collect_iter (T := "tuple_iterator") (.inr (.inr (.inr rfl))) W (fun i s' st => ?_) ⟨?_, ?_⟩ (fun b hb => ?_) List.mem_cons_self (fun s' acc hm hi => ?_) (by omega)))
  · obtain ⟨⟨o, e1, e2, _⟩, _⟩ := st
    exact ⟨o, e1, e2⟩
  · exact (by simpa using hit1 : IsTupIter h1 s.heap.objs.size t k)
  · exact ht1
  · obtain ⟨o, e1, _⟩ := hit1
    obtain ⟨o2, e2, _⟩ := ht1
    rcases List.mem_cons.mp hb with rfl | hb
    · exact Heap.lt_size e1
    · rw [List.mem_singleton] at hb
      subst hb
      exact Heap.lt_size e2
  · have hacc := items_drop hk hi
    rw [hacc]
    have m0 : k + 1 - 1 - k = 0 := by omega
    simp only [m0, Nat.not_lt_zero, if_false, Nat.sub_zero, List.take_length, List.drop_length, List.append_nil]
    refine wpAny_bind (wpAny_newList (wpAny_pure ?_) (by rw [List.length_drop]; simp; omega))
    obtain ⟨m1, m2, m3, m4, m5⟩ := hm
    obtain ⟨hh', gg', dd', tt', oo'⟩ := s'
    have m2' : gg' = s.gens := m2
    have m3' : dd' = s.drawn := m3
    have m4' : oo' = s.os := m4
    subst m2' m3' m4'
    have keep2 : ∀ b o, s.heap.get? b = some o → hh'.get? b = some o := fun b o e => m1 b o (by
      rw [List.mem_singleton]
      exact Nat.ne_of_lt (Heap.lt_size e)) (keep1 b o e)
    exact hQ hh' tt' keep2
def unstar : List Expr → Option (List Expr)
  | [] => none
  | [.Starred e _] => some [e]
  | e :: es => (match e with
    | .Starred .. => none
    | e => (unstar es).map (e :: ·))
theorem each_cons {e : Expr} {es : List Expr} {env : PySem.Env} (h : ∀ x p, e ≠ .Starred x p) : assignEach (e :: es) env = (false, assign e env) :: assignEach es env := by
  cases e <;> first | rfl | (exact absurd rfl (h _ _))
theorem unstar_each {env : PySem.Env} : ∀ {es es' : List Expr}, unstar es = some es' → (∀ e ∈ es', ∀ x p, e ≠ .Starred x p) → (assignEach es env).map (·.2) = (assignEach es' env).map (·.2) ∧ es.length = es'.length ∧ (assignEach es env).length = es'.length ∧ 0 < es'.length ∧ (assignEach es env).findIdx? (·.1) = some (es'.length - 1)
  | [], _, h, _ => by cases h
  | [e], es', h, hn => by
    cases e with
    | Starred x p =>
      have h' : some [x] = some es' := h
      cases h'
      have e2 : assignEach [x] env = [(false, assign x env)] := each_cons (hn x (by simp))
      have e1 : assignEach [.Starred x p] env = [(true, assign x env)] := rfl
      rw [e1, e2]
      exact ⟨rfl, rfl, rfl, by simp, by simp⟩
    | _ => cases h
  | e :: e2 :: es, es', h, hn => by
    have hs : ∀ x p, e ≠ .Starred x p := by
      rintro x p rfl
      cases h
    have h' : (unstar (e2 :: es)).map (e :: ·) = some es' := by
      cases e <;> first | exact h | (exact absurd rfl (hs _ _))
    cases q : unstar (e2 :: es) with
    | none => rw [q] at h'; cases h'
    | some r =>
      rw [q] at h'
      cases h'
      obtain ⟨h1, h2, h3, h4, h5⟩ := unstar_each (env := env) q fun e he => hn e (List.mem_cons_of_mem _ he)
      rw [each_cons hs, each_cons hs]
      refine ⟨by simp [h1], by simp [h2], by simp [h3], by simp, ?_⟩
      rw [List.findIdx?_cons]
      simp only [Bool.false_eq_true, if_false, h5, Option.map_some, List.length_cons]
      congr 1
      omega
/-- (a, .., *rest) = a tuple of that length at least -/
def gStar (K : PySem.W.Frag) (n : Nat) (t : TGs) : TG := fun v σ H Q => ∃ a xs, v = .ref a ∧ SqT K H a xs ∧ n ≤ xs.length ∧ ∀ p, H p = none → t (xs.take n ++ [.ref p]) σ (upd H p (.lst (xs.drop n))) Q
theorem pg_star {X : Cx} {es es' : List Expr} {k : Nat} {pos : Pos} {t : TGs} {n : Nat} (hc : X.calm = true) (hu : unstar es = some es') (hn : ∀ e ∈ es', ∀ x p, e ≠ .Starred x p) (hl : es'.length = n + 1) (h : PGs X es' t) : PG X (.Tuple es k pos) (gStar X.K n t) := by
  refine ⟨fun pins s σ H v u Q I r hw => ?_⟩
  obtain ⟨a, xs, rfl, hq, hz, hw⟩ := hw
  cases r
  obtain ⟨its, rv, ht, hsz⟩ := I.tuple hq
  obtain ⟨h1, h2, h3, h4, h5⟩ := unstar_each (env := X.env) hu hn
  have hlen := rv.length
  rw [assign_Tuple]
  refine wpAny_bind (wpAny_standAt ?_)
  unfold unpack
  rw [h1, h3, h5, hl]
  refine wpAny_bind (wpAny_holding (unpack_star (I.ok.hd hc) ht (by simp; omega) (by simp; omega) fun h' tk keep => ?_))
  have I1 : Inv X pins σ H { s with heap := h', toks := tk } := I.kept keep
  have hd : Vals (xs.drop n) (its.drop n) := rv.drop n
  have hn' := I1.hok.fresh (Nat.le_refl h'.objs.size)
  have I2 := I1.laid (a := h'.objs.size) (o := .lst (xs.drop n)) (h' := h'.push { cls := .type "list", data := .seq (its.drop n).toArray }) (t' := tk) (fun _ _ q => Heap.get?_push_of_some _ q) (Nat.le_refl _) ⟨by rw [List.length_drop]; omega, its.drop n, 0, hd, Heap.get?_push_size _ rfl⟩
  have rv2 : Vals (xs.take n ++ [.ref h'.objs.size]) (its.take n ++ [.ref h'.objs.size]) := (rv.take n).append (.cons rfl .nil)
  have z := h.run pins _ σ _ _ _ Q I2 rv2 (hw _ hn')
  simpa using z
/-! ### t[::-1] -/
theorem fm_congr {α β : Type} {f g : α → Option β} : ∀ (l : List α), (∀ x ∈ l, f x = g x) → l.filterMap f = l.filterMap g
  | [], _ => rfl
  | a :: l, h => by
    rw [List.filterMap_cons, List.filterMap_cons, h a List.mem_cons_self, fm_congr l fun x hx => h x (List.mem_cons_of_mem _ hx)]
theorem rev_pick (xs : Array Value) : ((List.range xs.size).filterMap fun (m : Nat) => xs[(((xs.size : Int) - 1) + (m : Int) * -1).toNat]?).toArray = xs.toList.reverse.toArray := by
  congr 1
  have h := PySem.W.krv_all xs.toList.reverse.toArray
  have e : (List.range xs.size).filterMap (fun (m : Nat) => xs[(((xs.size : Int) - 1) + (m : Int) * -1).toNat]?) = (List.range xs.toList.reverse.toArray.size).filterMap (xs.toList.reverse.toArray[·]?) := by
    have hs : xs.toList.reverse.toArray.size = xs.size := by simp
    rw [hs]
    refine fm_congr _ fun m hm => ?_
    have hm' : m < xs.size := List.mem_range.mp hm
    have i1 : (((xs.size : Int) - 1) + (m : Int) * -1).toNat = xs.size - 1 - m := by omega
    rw [i1]
    simp only [List.getElem?_toArray]
    rw [List.getElem?_reverse (by simpa using hm')]
    simp
  rw [e, h]
theorem sliceApplied_rev {prog : Program} {w : World} {A : Around} {E : Value → Shared → Prop} {s : Shared} {sl : Addr} {vl vu vs : Value} {n : Nat} {Q : Int × Int × Nat → Shared → Prop} (hs : s.heap.IsSliceOf sl vl vu vs) (pl : IsPart vl none) (pu : IsPart vu none) (ps : IsPart vs (some (-1)))
    (h : Q ((n : Int) - 1, -1, n) s) : wpAny (model prog w) A (Builtin.Slice.sliceApplied (.ref sl) (pure (n : Int))) Q E s := by
  obtain ⟨os, hos, hcs, hds⟩ := id hs
  unfold Builtin.Slice.sliceApplied Builtin.Slice.sliceFields
  refine wpAny_bind (wpAny_bind (wpAny_field hos hds (x := vl) rfl (wpAny_bind (wpAny_field hos hds (x := vu) rfl (wpAny_bind (wpAny_field hos hds (x := vs) rfl (wpAny_pure ?_)))))))
  refine wpAny_bind (HT.slicePart_ ps ?_)
  show wpAny _ _ (if ((-1 : Int) == 0) = true then _ else _) _ _ s
  rw [if_neg (by decide)]
  refine wpAny_bind (HT.slicePart_ pl (wpAny_bind (HT.slicePart_ pu (wpAny_bind (wpAny_pure ?_)))))
  show wpAny _ _ (match Builtin.Slice.sliceAdjust none none (-1) (n : Int) with | (lo, hi) => pure (lo, (-1 : Int), Builtin.Slice.slicePlaces lo hi (-1))) _ _ s
  have e1 : Builtin.Slice.sliceAdjust none none (-1) (n : Int) = ((n : Int) - 1, -1) := rfl
  rw [e1]
  show wpAny _ _ (pure ((n : Int) - 1, (-1 : Int), Builtin.Slice.slicePlaces ((n : Int) - 1) (-1) (-1))) _ _ s
  have e2 : Builtin.Slice.slicePlaces ((n : Int) - 1) (-1) (-1) = n := by
    unfold Builtin.Slice.slicePlaces
    have h1 : ¬ ((-1 : Int) > 0) := by omega
    simp only [h1, if_false]
    rw [show (- -1 : Int) = 1 from rfl, Int.ediv_one]
    split <;> omega
  rw [e2]
  exact wpAny_pure h
theorem getItem_tuple_rev {prog : Program} {w : World} {A : Around} {E : Value → Shared → Prop} {s : Shared} {t sl : Addr} {items : Array Value} {vl vu vs : Value} {Q : Value → Shared → Prop} (ht : IsTup s.heap t items) (hs : s.heap.IsSliceOf sl vl vu vs) (pl : IsPart vl none) (pu : IsPart vu none) (ps : IsPart vs (some (-1)))
    (h : Q (.ref s.heap.objs.size) { s with heap := s.heap.push { cls := .type "tuple", data := .seq items.toList.reverse.toArray } }) (hsz : items.size ≤ sizeLine) : wpAny (model prog w) A (getItem (.ref t) (.ref sl)) Q E s := by
  have htake : sizeOk (.seq items.toList.reverse.toArray) := by
    show items.toList.reverse.toArray.size ≤ sizeLine
    simpa using hsz
  obtain ⟨os, hos, hcs, hds⟩ := id hs
  have hTs : s.TypeIs (.ref sl) "slice" := ⟨os, hos, hcs⟩
  unfold getItem
  try with_reducible refine wpAny_holding ?_
  first | refine wpAny_bind (wpAny_pure ?_) | skip
  refine wpAny_bind (wpAny_sequenceKey ht.typeIs (by decide) ?_)
  refine wpAny_bind (wpAny_callSpecial?_slot (name := Str.ofString "__getitem__") ht.typeIs PyProof.Rows.slot_tuple_getitem
    (wpAny_call_entry PyProof.Rows.slot_tuple_getitem ht.typeIs entry_tuple_getitem ?_ (args_tuple_getitem _ _)))
  show wpAny _ _ (Builtin.Tuple.tupleItemsOf (.ref t) >>= _) _ _ s
  refine wpAny_bind (tupleItemsOf_ ht ?_)
  refine wpAny_bind (wpAny_typeOf hTs ?_)
  rw [if_pos (by decide)]
  refine wpAny_bind (sliceApplied_rev hs pl pu ps ?_)
  have hno : ¬ ((((items.size : Int) - 1) == 0 && (-1 : Int) == 1 && items.size == items.size) = true) := by
    intro q
    rw [Bool.and_eq_true, Bool.and_eq_true] at q
    exact absurd q.1.2 (by decide)
  show wpAny _ _ (if (((items.size : Int) - 1) == 0 && (-1 : Int) == 1 && items.size == items.size) = true then _ else _) _ _ s
  rw [if_neg hno, rev_pick]
  first
    | exact wpAny_bind (m := Builtin.Tuple.tupleExact _) (wpAny_newObj_type (wpAny_pure ⟨_, rfl, wpAny_pure h⟩) htake)
    | exact wpAny_bind (m := Builtin.Tuple.tupleExact _) (wpAny_newObj_type (wpAny_bind (wpAny_pure (wpAny_pure ⟨_, rfl, wpAny_pure h⟩))) htake)
    | exact wpAny_bind (wpAny_bind (m := Builtin.Tuple.tupleExact _) (wpAny_newObj_type (wpAny_pure (wpAny_pure ⟨_, rfl, wpAny_pure h⟩)) htake))
    | exact wpAny_bind (wpAny_bind (m := Builtin.Tuple.tupleExact _) (wpAny_newObj_type (wpAny_pure ⟨_, rfl, wpAny_pure h⟩) htake))
def tRev (K : PySem.W.Frag) (te : TE) : TE := fun σ H Q => te σ H fun x H1 => ∃ a xs, x = .ref a ∧ ((SqL K H1 a xs ∧ ∀ p, H1 p = none → Q (.ref p) (upd H1 p (.lst xs.reverse))) ∨ (SqT K H1 a xs ∧ ∀ p, H1 p = none → Q (.ref p) (upd H1 p (.tup xs.reverse))))
theorem pe_rev {X : Cx} {te : TE} {e : Expr} {k : Nat} {p1 p2 p3 pos : Pos} (he : PE X e te) : PE X (.Subscript e (.Slice none none (some (.UnaryOp .USub (.Constant (.int 1) k p1) p2)) p3) pos) (tRev X.K te) := by
  refine ⟨fun pins s σ H Q I h => ?_⟩
  refine Subscript_ (thn (he.run pins s σ H _ I h) fun v s1 ⟨x, H1, I1, r1, q1⟩ => ?_)
  obtain ⟨a, xs, ex, q⟩ := q1
  subst ex
  cases r1
  have hst : PO X (some (.UnaryOp .USub (.Constant (.int 1) k p1) p2)) (tPart (tUn (rU fun i => .int (-i)) (tC (.int 1)))) := po_some (pe_un un_neg pe_int)
  refine wpAny_Slice (thn (po_none.run pins s1 σ H1 (fun o H2 => o = none ∧ H2 = H1) I1 ⟨rfl, rfl⟩) fun vl s2 ⟨l, H2, I2, pl, el, e2⟩ => ?_)
  subst el e2
  refine thn (po_none.run pins s2 σ H2 (fun o H3 => o = none ∧ H3 = H2) I2 ⟨rfl, rfl⟩) fun vu s3 ⟨u, H3, I3, pu, eu, e3⟩ => ?_
  subst eu e3
  refine thn (hst.run pins s3 σ H3 (fun o H4 => o = some (-1) ∧ H4 = H3) I3 ⟨1, rfl, -1, rfl, rfl, rfl⟩) fun vs s4 ⟨o, H4, I4, ps, eo, e4⟩ => ?_
  subst eo e4
  have I5 : Inv X pins σ H4 { s4 with heap := s4.heap.push { cls := .type "slice", data := .fields #[vl, vu, vs] } } := I4.kept (t' := s4.toks) fun b ob q => Heap.get?_push_of_some _ q
  show wpAny (model X.prog X.w) X.A (subscriptTail e (.Slice none none (some (.UnaryOp .USub (.Constant (.int 1) k p1) p2)) p3) (.ref a) (.ref s4.heap.objs.size)) (EP X pins σ Q) X.xe { s4 with heap := s4.heap.push { cls := .type "slice", data := .fields #[vl, vu, vs] } }
  rcases q with ⟨hx, q⟩ | ⟨hx, q⟩
  · obtain ⟨its, r, ht, hz⟩ := I5.list hx
    have hlen := r.length
    refine tail_any (ops := [.ref a, .ref s4.heap.objs.size]) ht.isList.typeIs (PySem.slot_list_getitem.lookup) ?_ (by with_unfolding_all rfl)
    refine wpAny_getItem_list_slice ht.isList (Heap.IsSliceOf.new _ vl vu vs) pl pu ps (by decide) ?_ (by rw [List.size_toArray]; omega)
    rw [PySem.W.krv_pick]
    refine ⟨.ref _, _, I5.laid (t' := s4.toks) (o := .lst xs.reverse) (fun b ob q => Heap.get?_push_of_some _ q) (Nat.le_refl _) ?_, rfl, q _ (I5.hok.fresh (Nat.le_refl _))⟩
    exact ⟨by rw [List.length_reverse]; exact hz, _, 0, r.reverse, Heap.get?_push_size _ rfl⟩
  · obtain ⟨its, r, ht, hz⟩ := I5.tuple hx
    have hlen := r.length
    refine tail_any (ops := [.ref a, .ref s4.heap.objs.size]) ht.typeIs (PyProof.Rows.slot_tuple_getitem.lookup) ?_ (by with_unfolding_all rfl)
    refine getItem_tuple_rev ht (Heap.IsSliceOf.new _ vl vu vs) pl pu ps ?_ (by simp; omega)
    refine ⟨.ref _, _, I5.laid (t' := s4.toks) (o := .tup xs.reverse) (fun b ob q => Heap.get?_push_of_some _ q) (Nat.le_refl _) ?_, rfl, q _ (I5.hok.fresh (Nat.le_refl _))⟩
    exact ⟨by rw [List.length_reverse]; exact hz, _, r.reverse, ⟨_, Heap.get?_push_size _ rfl, rfl, _, rfl⟩⟩
end L3

set_option Elab.async false
set_option linter.all false
set_option autoImplicit false
set_option maxRecDepth 100000
set_option maxHeartbeats 4000000
/-! FkChk: whether a form is that of a text; static contexts; targets. -/
namespace L3
open PySem PySem.Spec PyProof.Rows L2 Fk

structure SC where
  sc : Scope
  N : List PySem.Str
  fn : PySem.Str → Bool
structure Tab where
  fns : List PySem.Str
  excs : List PySem.Str
  consts : List (PySem.Str × D)
  blts : List PySem.Str
  tabs : List (PySem.Str × List (List Nat × D)) := []
  subs : List (Nat × Nat) := []
def tabD (l : List (List Nat × D)) : D := .tab (l.map (·.1)) (l.map (·.2))
/-- an exception's class of the text -/
structure ExcCls (g : G) (C : Addr) : Prop where
  ex : PySem.W.excIn g.K C He.veBase "ValueError.__new__" = true
  kp : PySem.W.keepIn g.K (.ref C) = true
  sb : PySem.W.subIn g.K (.ref C) (.type "BaseException") = some true
  ty : PySem.W.typeIn g.K (.ref C) = some (.type "type")
  ec : ExcC g.K C
structure TabOk (g : G) (T : Tab) : Prop where
  fns : g.fns = T.fns
  excs : g.excs = T.excs
  consts : ∀ x d, T.consts.lookup x = some d → ∃ u v, g.mg x = some u ∧ RelV v u ∧ ∀ H φ, RepV g H φ d v
  blts : ∀ x, T.blts.contains x = true → g.mg x = none
  tabs : ∀ x l, T.tabs.lookup x = some l → ∃ u v, g.mg x = some u ∧ RelV v u ∧ ∀ H φ, RepV g H φ (tabD l) v
  exc : ∀ (c : Nat) nm, T.excs[c]? = some nm → ∃ C, g.mg nm = some (.ref C) ∧ ExcCls g C
  sub : ∀ (c c' : Nat) nm nm' C C', T.excs[c]? = some nm → T.excs[c']? = some nm' → g.mg nm = some (.ref C) → g.mg nm' = some (.ref C') →
    PySem.W.exmOne g.K (.ref C) (.ref C') = some (T.subs.contains (c, c')) ∧ PySem.W.kitOne g.K (.ref C) (.ref C') = some (T.subs.contains (c, c'))
/-- a promise by a function of ours -/
def spOf (g : G) (np : Nat) (f : List D → Fk.St → R D) : Sp := fun vs H Q E => vs.length = np ∧ ∃ ds s φ, Rep g H φ s ∧ RepL g H φ ds vs ∧ PostR (RepV g) g H φ (f ds s) Q E
/-- the defs keep their promises, to a level -/
structure Calls (P : Program) (w : World) (g : G) (base : Heap) (k : Nat) (cf : CF) : Prop where
  fn : ∀ (f : Nat) (x : PySem.Str), g.fns[f]? = some x →
    ∃ fa fd ps, g.mg x = some (.ref fa) ∧ PySem.W.keepIn g.K (.ref fa) = true ∧ FnOk P w g.K g.mg base (L2.CX P w) k fa fd ps (spOf g ps.length (cf f)) ∧ Binds g.K fd ps [] ∧ ∀ ds s, ds.length ≠ ps.length → cf f ds s = .bad
structure Good (g : G) (T : Tab) (cf : CF) (C : SC) (X : Cx) : Prop where
  K : X.K = g.K
  mg : X.mg = g.mg
  w : X.w = g.w
  sc : X.env.scope = C.sc
  N : X.N = C.N
  nd : C.N.Nodup
  fn : X.fn = C.fn
  calm : X.calm = true
  tab : TabOk g T
  room : ∃ k, Room k X.A ∧ Calls X.prog X.w g X.base k cf

/-! ### names -/
def isDbg (x : PySem.Str) : Bool := x == ("__debug__" : PySem.Str) || x == ("__classdict__" : PySem.Str)
def visB (C : SC) (x : PySem.Str) : Bool := C.sc.names.lookup x == some .local || C.sc.names.lookup x == some .cell || C.sc.names.lookup x == some .free
def locB (C : SC) (x : PySem.Str) : Bool := C.sc.names.lookup x == some .local || (C.sc.names.lookup x == some .cell && C.fn x)
def glB (C : SC) (x : PySem.Str) : Bool := C.sc.names.lookup x == some .globalImplicit
section
variable {g : G} {T : Tab} {cf : CF} {C : SC} {X : Cx}
theorem Good.vis (h : Good g T cf C X) {x : PySem.Str} (b : visB C x = true) : Vis X.env.scope x := by
  unfold visB at b
  unfold Vis
  rw [h.sc]
  simpa [or_assoc] using b
theorem Good.loc (h : Good g T cf C X) {x : PySem.Str} (b : locB C x = true) : L2.Loc X.env.scope x ∧ (X.fn x = true ∨ X.env.scope.names.lookup x = some .local) := by
  unfold locB at b
  unfold L2.Loc
  rw [h.sc, h.fn]
  simp only [Bool.or_eq_true, Bool.and_eq_true, beq_iff_eq] at b
  rcases b with b | ⟨b, c⟩
  · exact ⟨.inl b, .inr b⟩
  · exact ⟨.inr b, .inl c⟩
theorem Good.gl (h : Good g T cf C X) {x : PySem.Str} (b : glB C x = true) : Gl X x := by
  unfold glB at b
  show X.env.scope.names.lookup x = _
  rw [h.sc]
  simpa using b
end

/-! ### targets -/
def chkNames (C : SC) : List Nat → List Expr → Bool
  | [], [] => true
  | i :: is, .Name x _ :: es => C.N[i]? == some x && locB C x && chkNames C is es
  | _, _ => false
def chkP (C : SC) : Pat → Expr → Bool
  | .s i, .Name x _ => C.N[i]? == some x && locB C x
  | .t is, .Tuple es _ _ => chkNames C is es
  | .st is j, .Tuple es _ _ => (match unstar es with
    | some es' => chkNames C (is ++ [j]) es'
    | none => false)
  | _, _ => false
theorem wipe_get (vs : List Nat) (σ : L2.St) (j : Nat) : (L2.wipe σ vs)[j]? = if j ∈ vs then (σ[j]?).map (fun _ => none) else σ[j]? := by
  induction vs with
  | nil => simp [L2.wipe]
  | cons v vs ih =>
    unfold L2.wipe
    by_cases h : v = j
    · subst h
      by_cases hl : v < σ.length
      · rw [List.getElem?_set_self (by rw [L2.wipe_length]; exact hl)]
        simp [hl]
      · rw [List.getElem?_eq_none (by simpa [L2.wipe_length] using hl)]
        simp [List.getElem?_eq_none (Nat.le_of_not_lt hl)]
    · rw [List.getElem?_set_ne h, ih]
      have : (j ∈ v :: vs) ↔ j ∈ vs := by simp [Ne.symm h]
      simp only [this]
theorem wipe_set {vs : List Nat} {σ : L2.St} {i : Nat} {x : Option V} (h : i ∈ vs) : L2.wipe (σ.set i x) vs = L2.wipe σ vs := by
  refine List.ext_getElem? fun j => ?_
  rw [wipe_get, wipe_get]
  by_cases hj : j ∈ vs
  · rw [if_pos hj, if_pos hj]
    by_cases hi : i = j
    · subst hi
      by_cases hl : i < σ.length
      · rw [List.getElem?_set_self hl]; simp [hl]
      · rw [List.getElem?_eq_none (by simpa using hl), List.getElem?_eq_none (by simpa using hl)]
    · rw [List.getElem?_set_ne hi]
  · rw [if_neg hj, if_neg hj]
    rw [List.getElem?_set_ne (by rintro rfl; exact hj h)]
theorem wipe_wipe (vs : List Nat) (σ : L2.St) : L2.wipe (L2.wipe σ vs) vs = L2.wipe σ vs := by
  refine List.ext_getElem? fun j => ?_
  rw [wipe_get, wipe_get]
  by_cases hj : j ∈ vs
  · rw [if_pos hj, if_pos hj]; cases σ[j]? <;> rfl
  · rw [if_neg hj, if_neg hj]
def gD (g : G) (p : Pat) : TG := fun v σ H Q => ∃ d env env' s φ, RepE g H φ env σ ∧ Rep g H φ s ∧ RepV g H φ d v ∧ bindP p d env = some env' ∧ ∀ σ' H' φ', Ext H φ H' φ' → Rep g H' φ' s → RepE g H' φ' env' σ' → L2.wipe σ' p.slots = L2.wipe σ p.slots → Q σ' H'
def gAll (g : G) (is : List Nat) (ws : List Nat) : TGs := fun vs σ H Q => ∃ ds env env' s φ, RepE g H φ env σ ∧ Rep g H φ s ∧ RepL g H φ ds vs ∧ setAll is ds env = some env' ∧ ∀ σ' H' φ', Ext H φ H' φ' → Rep g H' φ' s → RepE g H' φ' env' σ' → L2.wipe σ' ws = L2.wipe σ ws → Q σ' H'
section
variable {g : G} {T : Tab} {cf : CF} {C : SC} {X : Cx}
theorem _root_.L2.PG.imp {X : Cx} {e : Expr} {t t' : TG} (h : PG X e t) (k : ∀ v σ H Q, t' v σ H Q → t v σ H Q) : PG X e t' := ⟨fun pins s σ H v u Q I r q => h.run pins s σ H v u Q I r (k v σ H Q q)⟩
theorem _root_.L2.PGs.imp {X : Cx} {e : List Expr} {t t' : TGs} (h : PGs X e t) (k : ∀ v σ H Q, t' v σ H Q → t v σ H Q) : PGs X e t' := ⟨fun pins s σ H v u Q I r q => h.run pins s σ H v u Q I r (k v σ H Q q)⟩
theorem pgs_all (h : Good g T cf C X) (ws : List Nat) : ∀ (is : List Nat) (es : List Expr), (∀ i ∈ is, i ∈ ws) → chkNames C is es = true → PGs X es (gAll g is ws)
  | [], [], _, _ => pgs_nil.imp fun v σ H Q ⟨ds, env, env', s, φ, hE, hR, hL, e, k⟩ => by
    cases ds with
    | nil =>
      unfold RepL at hL
      have e' : some env = some env' := e
      cases e'
      exact ⟨hL, k σ H φ Ext.refl hR hE rfl⟩
    | cons d ds => cases e
  | i :: is, .Name x p :: es, hw, c => by
    unfold chkNames at c
    simp only [Bool.and_eq_true, beq_iff_eq] at c
    obtain ⟨⟨c1, c2⟩, c3⟩ := c
    obtain ⟨l1, l2⟩ := h.loc c2
    refine (pgs_cons (pg_name (i := i) (h.N ▸ h.nd) (h.N ▸ c1) l1 l2) (pgs_all h ws is es (fun j hj => hw j (List.mem_cons_of_mem _ hj)) c3) rfl).imp fun v σ H Q ⟨ds, env, env', s, φ, hE, hR, hL, e, k⟩ => ?_
    cases ds with
    | nil => cases e
    | cons d ds =>
      unfold RepL at hL
      obtain ⟨y, r, rfl, h1, h2⟩ := hL
      refine ⟨y, r, rfl, ds, _, env', s, φ, hE.set i h1, hR, h2, e, fun σ' H' φ' x hR' hE' hw' => k σ' H' φ' x hR' hE' ?_⟩
      rw [hw', wipe_set (hw i List.mem_cons_self)]
  | [], _ :: _, _, c => by unfold chkNames at c; cases c
  | _ :: _, [], _, c => by unfold chkNames at c; cases c
theorem names_each (C : SC) (env : PySem.Env) : ∀ (is : List Nat) (es : List Expr), chkNames C is es = true → (assignEach es env).length = es.length ∧ is.length = es.length ∧ (assignEach es env).findIdx? (·.1) = none
  | [], [], _ => ⟨rfl, rfl, rfl⟩
  | i :: is, .Name x p :: es, c => by
    unfold chkNames at c
    simp only [Bool.and_eq_true] at c
    obtain ⟨h1, h2, h3⟩ := names_each C env is es c.2
    have e : assignEach (.Name x p :: es) env = (false, assign (.Name x p) env) :: assignEach es env := rfl
    rw [e]
    refine ⟨by simp [h1], by simp [h2], ?_⟩
    rw [List.findIdx?_cons]
    simp [h3]
  | [], _ :: _, c => by unfold chkNames at c; cases c
  | _ :: _, [], c => by unfold chkNames at c; cases c
theorem names_plain (C : SC) : ∀ (is : List Nat) (es : List Expr), chkNames C is es = true → ∀ e ∈ es, ∀ x p, e ≠ .Starred x p
  | [], [], _ => fun e h => by cases h
  | i :: is, .Name x p :: es, c => fun e h => by
    unfold chkNames at c
    simp only [Bool.and_eq_true] at c
    rcases List.mem_cons.mp h with rfl | h
    · intro x p hh; cases hh
    · exact names_plain C is es c.2 e h
  | [], _ :: _, c => by unfold chkNames at c; cases c
  | _ :: _, [], c => by unfold chkNames at c; cases c
theorem setAll_len : ∀ {is : List Nat} {ds : List D} {env env' : Fk.Env}, setAll is ds env = some env' → is.length = ds.length
  | [], [], _, _, _ => rfl
  | [], _ :: _, _, _, e => by cases e
  | _ :: _, [], _, _, e => by cases e
  | i :: is, d :: ds, env, env', e => by
    have := setAll_len (is := is) (ds := ds) e
    simp [this]
theorem pg_pat (h : Good g T cf C X) : ∀ (p : Pat) (tg : Expr), chkP C p tg = true → PG X tg (gD g p)
  | .s i, tg, c => by
    cases tg with
    | Name x pos =>
      unfold chkP at c
      simp only [Bool.and_eq_true, beq_iff_eq] at c
      obtain ⟨l1, l2⟩ := h.loc c.2
      refine (pg_name (i := i) (h.N ▸ h.nd) (h.N ▸ c.1) l1 l2).imp fun v σ H Q ⟨d, env, env', s, φ, hE, hR, hV, e, k⟩ => ?_
      have e' : some (env.set i (some d)) = some env' := e
      cases e'
      exact k _ H φ Ext.refl hR (hE.set i hV) (wipe_set (by simp [Pat.slots]))
    | _ => unfold chkP at c; cases c
  | .t is, tg, c => by
    cases tg with
    | Tuple es kk pos =>
      unfold chkP at c
      obtain ⟨n1, n2, n3⟩ := names_each C X.env is es c
      refine (pg_tup h.calm (pgs_all h is is es (fun _ q => q) c) (n := is.length) (by rw [n1, n2]) n3).imp fun v σ H Q ⟨d, env, env', s, φ, hE, hR, hV, e, k⟩ => ?_
      cases d with
      | tup ds =>
        obtain ⟨a, vs, rfl, t, r, z⟩ := repv_tup hV
        exact ⟨a, vs, rfl, h.K ▸ t.sq, by rw [setAll_len e]; exact r.length.symm, ds, env, env', s, φ, hE, hR, r, e, k⟩
      | _ => cases e
    | _ => unfold chkP at c; cases c
  | .st is j, tg, c => by
    cases tg with
    | Tuple es kk pos =>
      simp only [chkP] at c
      split at c
      · rename_i es' hu
        obtain ⟨n1, n2, n3⟩ := names_each C X.env (is ++ [j]) es' c
        have hl : es'.length = is.length + 1 := by rw [← n2]; simp
        refine (pg_star h.calm hu (names_plain C (is ++ [j]) es' c) hl (pgs_all h (is ++ [j]) (is ++ [j]) es' (fun _ q => q) c)).imp fun v σ H Q ⟨d, env, env', s, φ, hE, hR, hV, e, k⟩ => ?_
        cases d with
        | tup ds =>
          obtain ⟨a, vs, rfl, t, r, z⟩ := repv_tup hV
          simp only [bindP] at e
          split at e
          · rename_i hle
            refine ⟨a, vs, rfl, h.K ▸ t.sq, by rw [← r.length]; exact hle, fun p hp => ?_⟩
            have x0 := Ext.new_ hR hp (.lst (vs.drop is.length))
            refine ⟨ds.take is.length ++ [.lst (ds.drop is.length)], env, env', s, φ, hE.ext x0, hR.new_ hp _, (RepL.ext x0 _ (r.takeN is.length)).append ?_, e, fun σ' H' φ' x hR' hE' hw' => k σ' H' φ' (x0.trans x) hR' hE' hw'⟩
            unfold RepL
            refine ⟨.ref p, [], rfl, ?_, by simp [RepL]⟩
            unfold RepV
            exact ⟨p, _, rfl, hR.notLive hp, upd_same, RepL.ext x0 _ (r.dropN is.length), by rw [List.length_drop]; omega⟩
          · cases e
        | _ => cases e
      · cases c
    | _ => unfold chkP at c; cases c
end
end L3

set_option Elab.async false
set_option linter.all false
set_option autoImplicit false
set_option maxRecDepth 100000
set_option maxHeartbeats 8000000
/-! FkSnd: a form that is a text's, and has a meaning, is run so: expressions. -/
namespace L3
open PySem PySem.Spec PyProof.Rows L2 Fk

def constB : Const → D → Bool
  | .none, .none => true
  | .bool b, .bl c => b == c
  | .int i, .int j => i == j
  | .str s, .str z => s.cps.toList == z
  | _, _ => false
def tyStr (t : Nat) : PySem.Str := PySem.Str.ofString (tyName t)
def bltN : Blt → PySem.Str
  | .isinst _ => "isinstance" | .len => "len" | .all => "all" | .any => "any" | .min2 => "min" | .max2 => "max"
  | .abs => "abs" | .int_ => "int" | .tuple_ => "tuple" | .list_ => "list" | .sorted => "sorted" | .dict_ => "dict"
def bltOk : Blt → Bool
  | .isinst k => decide (k < 6)
  | .dict_ => false
  | _ => true
def mthN : Mth → PySem.Str
  | .join => "join"
def notStar : Expr → Bool
  | .Starred .. => false
  | _ => true
def notSlice : Expr → Bool
  | .Slice .. => false
  | _ => true
def notSet : Expr → Bool
  | .Set .. => false
  | _ => true
def plainBase : Expr → Bool
  | .Call (.Name ..) .. => false
  | _ => true
def gBlt (T : Tab) (C : SC) (x : PySem.Str) : Bool := glB C x && !isDbg x && T.blts.contains x && !(x == ("__name__" : PySem.Str))
def ownOf (C : SC) (p : Pat) : List (PySem.Str × Nat) := p.slots.map fun i => (C.N.getD i "", i)
def inner (C : SC) (scope : Scope) : SC := ⟨relS scope C.sc, C.N, fun x => scope.names.lookup x == some .cell⟩
def isTrueC : IE → Bool
  | .c (.bl true) => true
  | _ => false
/-- what is walked, of a loop's header -/
def itArgs (T : Tab) (C : SC) (k : ItK) (iter : Expr) : Option (List Expr) :=
  match k, iter with
  | .val, e => if notSet e then some [e] else none
  | .range1, .Call (.Name x _) [a] [] _ => if x == ("range" : PySem.Str) && gBlt T C x then some [a] else none
  | .zip, .Call (.Name x _) [a, b] [] _ => if x == ("zip" : PySem.Str) && gBlt T C x then some [a, b] else none
  | .items, .Call (.Attribute o n apos) [] [] cpos => if n == ("items" : PySem.Str) && plainBase o && apos.endLine == cpos.line then some [o] else none
  | .values, .Call (.Attribute o n apos) [] [] cpos => if n == ("values" : PySem.Str) && plainBase o && apos.endLine == cpos.line then some [o] else none
  | .range2, .Call (.Name x _) [a, b] [] _ => if x == ("range" : PySem.Str) && gBlt T C x then some [a, b] else none
  | _, _ => none

/-- pairs come, a tuple takes them -/
def tgOk : ItK → Expr → Bool
  | .zip, .Tuple .. => true
  | .items, .Tuple .. => true
  | .zip, _ => false
  | .items, _ => false
  | _, _ => true
mutual
def chkE (T : Tab) : IE → SC → Expr → Bool
  | .nop, _, _ => false
  | .c d, C, e => (match e with
    | .Constant c _ _ => constB c d
    | .Name x _ => (match d with
      | .ty t => decide (t < 6) && x == tyStr t && gBlt T C x
      | .tab ks vs => glB C x && !isDbg x && (match T.tabs.lookup x with
        | some l => D.beq (tabD l) (.tab ks vs)
        | none => false)
      | d => glB C x && !isDbg x && (match T.consts.lookup x with
        | some d' => D.beq d' d
        | none => false))
    | _ => false)
  | .v i, C, e => (match e with
    | .Name x _ => C.N[i]? == some x && visB C x && !isDbg x
    | _ => false)
  | .bin o t a b, C, e => (match e with
    | .BinOp l op r _ => op == opOf o && chkE T a C l && chkE T b C r
    | _ => false)
  | .neg a, C, e => (match e with
    | .UnaryOp .USub x _ => chkE T a C x
    | _ => false)
  | .cmp o a b, C, e => (match e with
    | .Compare l [op] [r] _ => op == cmpOf o && !behindInMarks op r && chkE T a C l && chkE T b C r
    | _ => false)
  | .chain o1 o2 a b c, C, e => (match e with
    | .Compare l [p1, p2] [m, r] _ => p1 == cmpOf o1 && p2 == cmpOf o2 && !lastMarks [p1, p2] [m, r] && chkE T a C l && chkE T b C m && chkE T c C r
    | _ => false)
  | .and a b, C, e => (match e with
    | .BoolOp .And [x, y] _ => chkE T a C x && chkE T b C y
    | .BoolOp .And (x :: y :: z :: r) pos => chkE T a C x && chkE T b C (.BoolOp .And (y :: z :: r) pos)
    | _ => false)
  | .or a b, C, e => (match e with
    | .BoolOp .Or [x, y] _ => chkE T a C x && chkE T b C y
    | .BoolOp .Or (x :: y :: z :: r) pos => chkE T a C x && chkE T b C (.BoolOp .Or (y :: z :: r) pos)
    | _ => false)
  | .not a, C, e => (match e with
    | .UnaryOp .Not x _ => chkE T a C x
    | _ => false)
  | .ite c a b, C, e => (match e with
    | .IfExp t x y _ => chkE T c C t && chkE T a C x && chkE T b C y
    | _ => false)
  | .tup es, C, e => (match e with
    | .Tuple xs _ _ => decide (xs.length ≤ 1000) && chkL T es C xs
    | _ => false)
  | .lst t es, C, e => (match e with
    | .List xs _ => decide (xs.length ≤ 1000) && chkL T es C xs
    | _ => false)
  | .dic t es, C, e => (match e with
    | .Dict ks vs _ => decide (ks.length ≤ 15) && chkD T es C ks vs
    | _ => false)
  | .pop o i, C, e => (match e with
    | .Call (.Attribute x n apos) [y] [] pos => n == ("pop" : PySem.Str) && plainBase x && apos.endLine == pos.line && notStar y && chkE T o C x && chkE T i C y
    | _ => false)
  | .popl o, C, e => (match e with
    | .Call (.Attribute x n apos) [] [] pos => n == ("pop" : PySem.Str) && plainBase x && apos.endLine == pos.line && chkE T o C x
    | _ => false)
  | .get o k, C, e => (match e with
    | .Call (.Attribute x n apos) [y] [] pos => n == ("get" : PySem.Str) && plainBase x && apos.endLine == pos.line && notStar y && chkE T o C x && chkE T k C y
    | _ => false)
  | .getd o k d, C, e => (match e with
    | .Call (.Attribute x n apos) [y, z] [] pos => n == ("get" : PySem.Str) && plainBase x && apos.endLine == pos.line && notStar y && notStar z && chkE T o C x && chkE T k C y && chkE T d C z
    | _ => false)
  | .dpop o k d, C, e => (match e with
    | .Call (.Attribute x n apos) [y, z] [] pos => n == ("pop" : PySem.Str) && plainBase x && apos.endLine == pos.line && notStar y && notStar z && chkE T o C x && chkE T k C y && chkE T d C z
    | _ => false)
  | .sorts _ _, _, _ => false
  | .sort0 _ _, _, _ => false
  | .sorti _ _, _, _ => false
  | .isin _ _, _, _ => false
  | .sub a i, C, e => (match e with
    | .Subscript x y _ => notSlice y && chkE T a C x && chkE T i C y
    | _ => false)
  | .sl t a lo hi, C, e => (match e with
    | .Subscript x (.Slice l h none _) _ => chkE T a C x && (match l with
        | none => isNop lo
        | some l => chkE T lo C l) && (match h with
        | none => isNop hi
        | some h => chkE T hi C h)
    | _ => false)
  | .call f es, C, e => (match e with
    | .Call (.Name x _) xs [] _ => T.fns[f]? == some x && glB C x && !isDbg x && chkL T es C xs
    | _ => false)
  | .rev a, C, e => (match e with
    | .Subscript x (.Slice none none (some (.UnaryOp .USub (.Constant (.int 1) _ _) _)) _) _ => chkE T a C x
    | _ => false)
  | .callv i es, C, e => (match e with
    | .Call (.Name x _) (y :: xs) [] _ => C.N[i]? == some x && visB C x && !isDbg x && chkL T es C (y :: xs)
    | _ => false)
  | .blt b t es, C, e => (match e with
    | .Call (.Name x _) (y :: xs) [] _ => bltOk b && x == bltN b && gBlt T C x && chkL T es C (y :: xs)
    | _ => false)
  | .meth m o es, C, e => (match e with
    | .Call (.Attribute x n apos) [y] [] pos => n == mthN m && plainBase x && apos.endLine == pos.line && chkE T o C x && chkL T es C [y]
    | _ => false)
  | .lc elt p k its cond, C, e => (match e with
    | .ListComp el [⟨tg, iter, ifs, 0⟩] scope _ => blkC C.N C.sc scope (ownOf C p) && (match itArgs T C k iter with
        | some xs => chkL T its C xs
        | none => false) && tgOk k tg && chkP (inner C scope) p tg && chkE T elt (inner C scope) el && (match ifs with
        | [] => isTrueC cond
        | [c] => chkE T cond (inner C scope) c
        | _ => false)
    | _ => false)
def chkL (T : Tab) : List IE → SC → List Expr → Bool
  | [], _, xs => xs.isEmpty
  | e :: es, C, xs => (match xs with
    | x :: xs => notStar x && chkE T e C x && chkL T es C xs
    | [] => false)
def chkD (T : Tab) : List IE → SC → List (Option Expr) → List Expr → Bool
  | [], _, ks, vs => ks.isEmpty && vs.isEmpty
  | [_], _, _, _ => false
  | k :: v :: es, C, ks, vs => (match ks, vs with
    | some x :: ks, y :: vs => chkE T k C x && chkE T v C y && chkD T es C ks vs
    | _, _ => false)
end
def bEq : Hp → Phi → Bool → Bool → Prop := fun _ _ a b => a = b
def denB (cf : CF) (e : IE) : Fk.Env → Fk.St → R Bool := fun env s => (den cf e env s).bind fun d s => asB d s fun b s => .ok b s
structure Snd (g : G) (W : WX) (cf : CF) (e : IE) (X : Cx) (x : Expr) : Prop where
  pe : PE X x (tR (RepV g) g W (den cf e))
  pt : PT X x (tR bEq g W (denB cf e))

/-! ### from readings of parts to a reading -/
section
variable {g : G} {W : WX} {σ : L2.St} {H : Hp}
theorem PostR.asB {α β : Type} {ρ : Hp → Phi → α → β → Prop} {φ : Phi} {d : D} {s : Fk.St} {f : Bool → Fk.St → R α} {Q : β → Hp → Prop} {E : XK} {x : V} (p : PostR ρ g H φ (Fk.asB d s f) Q E) (h : RepV g H φ d x) : ∃ b, x = .bl b ∧ d = .bl b ∧ PostR ρ g H φ (f b s) Q E := by
  cases d with
  | bl b => exact ⟨b, repv_bl h, rfl, p⟩
  | _ => exact p.elim
theorem wk2 {m1 m2 : Fk.Env → Fk.St → R D} {f : D → D → Fk.St → R D} {Q : VK} (h : tR (RepV g) g W (fun env s => (m1 env s).bind fun x s => (m2 env s).bind fun y s => f x y s) σ H Q) :
    tOp (rS2 g f) (tR (RepV g) g W m1) (tR (RepV g) g W m2) σ H Q := by
  obtain ⟨env, s, φ, hE, hS, hP⟩ := h
  exact ⟨env, s, φ, hE, hS, hP.bind fun a s1 x H1 φ1 e1 r1 v1 p1 => ⟨env, s1, φ1, hE.ext e1, r1, p1.bind fun b s2 y H2 φ2 e2 r2 v2 p2 => ⟨a, b, s2, φ2, r2, RepV.ext e2 a v1, v2, _, p2⟩⟩⟩
theorem wk2T {m1 m2 : Fk.Env → Fk.St → R D} {f : D → D → Fk.St → R D} {Q : Bool → Hp → Prop} (h : tR bEq g W (fun env s => ((m1 env s).bind fun x s => (m2 env s).bind fun y s => f x y s).bind fun d s => Fk.asB d s fun b s => .ok b s) σ H Q) :
    tTest (tOp (rS2 g f) (tR (RepV g) g W m1) (tR (RepV g) g W m2)) σ H Q := by
  obtain ⟨env, s, φ, hE, hS, hP⟩ := h
  refine wk2 ⟨env, s, φ, hE, hS, hP.bind fun d s1 x H1 φ1 e1 r1 v1 p1 => ?_⟩
  obtain ⟨b, rfl, _, q⟩ := p1.asB v1
  exact ⟨b, rfl, q.here r1 rfl⟩
/-- a value as a test -/
theorem wkT {m : Fk.Env → Fk.St → R D} {Q : Bool → Hp → Prop} (h : tR bEq g W (fun env s => (m env s).bind fun d s => Fk.asB d s fun b s => .ok b s) σ H Q) : tB (tR (RepV g) g W m) σ H Q := by
  obtain ⟨env, s, φ, hE, hS, hP⟩ := h
  refine ⟨env, s, φ, hE, hS, hP.bind fun d s1 x H1 φ1 e1 r1 v1 p1 => ?_⟩
  obtain ⟨b, rfl, _, q⟩ := p1.asB v1
  exact ⟨b, rfl, q.here r1 rfl⟩
end
def plainE : Expr → Bool
  | .UnaryOp .Not .. => false
  | .BoolOp .. => false
  | .IfExp .. => false
  | .Compare .. => false
  | _ => true
theorem plain_true {e : Expr} {env : PySem.Env} (h : plainE e = true) : ∀ whole, isTrue e env whole = (do let v ← whole; standAt e.pos; holding [v] (truthy v)) := by
  intro whole
  cases e <;> first | rfl | (cases h; done) | skip
  rename_i op _ _
  cases op <;> first | rfl | (cases h; done)
theorem snd_plain {g : G} {W : WX} {cf : CF} {e : IE} {X : Cx} {x : Expr} (h : PE X x (tR (RepV g) g W (den cf e))) (p : plainE x = true) : Snd g W cf e X x :=
  ⟨h, (pt_val h (plain_true p)).imp fun _ _ _ q => wkT q⟩
theorem star_cons {e : Expr} {es : List Expr} {env : PySem.Env} (h : notStar e = true) : starEach (e :: es) env = (false, eval e env) :: starEach es env := by
  cases e <;> first | rfl | (cases h; done)
theorem star_none {T : Tab} {C : SC} {env : PySem.Env} {pos : Pos} : ∀ (is : List IE) (es : List Expr), chkL T is C es = true → (backTo pos (starEach es env)).any (·.1) = false
  | [], [], _ => rfl
  | [], _ :: _, h => by unfold chkL at h; cases h
  | i :: is, [], h => by unfold chkL at h; cases h
  | i :: is, e :: es, h => by
    unfold chkL at h
    simp only [Bool.and_eq_true] at h
    rw [star_cons h.1.1]
    show (backTo pos ((false, eval e env) :: starEach es env)).any (·.1) = false
    have ih := star_none (env := env) (pos := pos) is es h.2
    unfold backTo at ih ⊢
    rw [List.map_cons, List.any_cons, ih]
    rfl
theorem base_plain {e : Expr} {n : PySem.Str} {env : PySem.Env} (h : plainBase e = true) : attributeBase e n env (eval e env) = eval e env := by
  cases e with
  | Call f as ks pos =>
    cases f with
    | Name _ _ => cases h
    | _ => rfl
  | _ => rfl
theorem ix_plain {e : Expr} (h : notSlice e = true) : PlainIx e := by
  intro o i
  cases e <;> first | rfl | (cases h; done)
theorem folded_pure {e : Expr} {env : PySem.Env} (h : notSet e = true) : ∀ x, foldedSetIterable e env x = pure x := by
  intro x
  cases e <;> first | rfl | (cases h; done)
theorem blt_boot : ∀ b : Blt, bltOk b = true → bootBuiltins (bltN b) = some (bltV b) := by
  intro b
  cases b with
  | isinst k => intro _; show bootBuiltins "isinstance" = some (.builtin "isinstance"); decide +kernel
  | _ => intro _; decide +kernel
theorem ty_boot : ∀ t < 6, bootBuiltins (tyStr t) = some (.type (tyName t)) := by
  intro t h
  match t, h with
  | 0, _ => decide +kernel
  | 1, _ => decide +kernel
  | 2, _ => decide +kernel
  | 3, _ => decide +kernel
  | 4, _ => decide +kernel
  | 5, _ => decide +kernel
section
variable {g : G} {T : Tab} {cf : CF} {C : SC} {X : Cx}
theorem Good.blt (h : Good g T cf C X) {x : PySem.Str} (b : gBlt T C x = true) : Gl X x ∧ X.mg x = none ∧ x ≠ "__name__" ∧ (x == ("__debug__" : PySem.Str)) = false := by
  unfold gBlt isDbg at b
  simp only [Bool.and_eq_true, Bool.not_eq_true', Bool.or_eq_false_iff] at b
  obtain ⟨⟨⟨b1, b2, _⟩, b3⟩, b4⟩ := b
  exact ⟨h.gl b1, by rw [h.mg]; exact h.tab.blts x b3, by simpa using b4, b2⟩
end
end L3

set_option Elab.async false
set_option linter.all false
set_option autoImplicit false
set_option maxRecDepth 100000
set_option maxHeartbeats 8000000
/-! FkLc: list comprehensions. -/
namespace L3
open PySem PySem.Spec PyProof.Rows L2 Fk

/-- the rest told from where one began -/
theorem PostR.from {α β γ δ : Type} {ρ : Hp → Phi → α → β → Prop} {ρ1 : Hp → Phi → γ → δ → Prop} {g : G} {H0 H : Hp} {φ0 φ : Phi} {Q : β → Hp → Prop} {E E1 : XK} {m : R γ} {f : γ → Fk.St → R α} {Q1 : δ → Hp → Prop}
    (p : PostR ρ g H0 φ0 (m.noErr.bind f) Q E) (k : ∀ c s d H1 φ1, m = .ok c s → Ext H φ H1 φ1 → Rep g H1 φ1 s → ρ1 H1 φ1 c d → PostR ρ g H0 φ0 (f c s) Q E → Q1 d H1) : PostR ρ1 g H φ m Q1 E1 := by
  cases m with
  | ok a s => exact fun b H2 φ2 y r2 h => k a s b H2 φ2 rfl y r2 h p
  | err e s => exact p.elim
  | bad => exact p.elim

abbrev WF : WX := fun _ _ _ _ => False
/-- one turn -/
def lcF (cf : CF) (elt : IE) (p : Pat) (cond : IE) (env : Fk.Env) : D → Fk.St → R (Option D) := fun d s => match bindP p d (Fk.wipe env p.slots) with
  | Option.none => .bad
  | some env1 => (den cf cond env1 s).noErr.bind fun c s => Fk.asB c s fun k s => if k then (den cf elt env1 s).noErr.bind fun y s => .ok (some y) s else .ok Option.none s

section
variable {g : G} {T : Tab} {cf : CF} {C : SC} {X : Cx} {W : WX}
theorem lc_imp {p : Pat} {elt cond : IE} {mI : Fk.Env → Fk.St → R (List D)} {σ : L2.St} {H : Hp} {Q : VK}
    (h : tR (RepV g) g W (fun env s => (mI env s).bind fun items s => lcR (lcF cf elt p cond env) items [] s) σ H Q) :
    tLc (tI g W mI) (gD g p) (tR bEq g WF (denB cf cond)) (tR (RepV g) g WF (den cf elt)) p.slots σ H Q := by
  obtain ⟨env, s, φ, hE, hS, hP⟩ := h
  refine ⟨env, s, φ, hE, hS, hP.bind fun items s1 J H1 φ1 x1 r1 ⟨wk, z⟩ p1 => ?_⟩
  intro A hA
  have hE1 := hE.ext x1
  refine ⟨fun i m H => m = items.length - i ∧ i ≤ items.length ∧ ∃ s φ acc vs, Ext H1 φ1 H φ ∧ Rep g H φ s ∧ H A = some (.lst vs) ∧ A ∈ φ.p ∧ RepL g H φ acc vs ∧ vs.length ≤ i ∧
    PostR (RepV g) g H1 φ1 (lcR (lcF cf elt p cond env) (items.drop i) acc s) Q (fun c d H => W c d σ H), ⟨items.length, rfl, Nat.zero_le _, s1, φ1.hide A, [], [], Ext.hide hA _, r1.hide hA _, upd_same, List.mem_cons_self, by simp [RepL], Nat.le_refl _, by rw [List.drop_zero]; exact p1⟩, ?_⟩
  rintro i m H2 ⟨rfl, hi2, s2, φ2, acc, vs, x2, r2, hA2, lA2, ra2, l2, p2⟩
  by_cases hlt : i < items.length
  · refine .inr ⟨wk.go i H2 φ2 x2 hlt, fun H' => (fun i m H => m = items.length - i ∧ i ≤ items.length ∧ ∃ s φ acc vs, Ext H1 φ1 H φ ∧ Rep g H φ s ∧ H A = some (.lst vs) ∧ A ∈ φ.p ∧ RepL g H φ acc vs ∧ vs.length ≤ i ∧
      PostR (RepV g) g H1 φ1 (lcR (lcF cf elt p cond env) (items.drop i) acc s) Q (fun c d H => W c d σ H)) (i + 1) (items.length - (i + 1)) H', fun H' h => ⟨_, by omega, h⟩, fun x H' hy => ?_⟩
    obtain ⟨d, φ3, hd, x3, r3, v3⟩ := wk.yld i H2 φ2 s2 x H' hlt x2 r2 hy
    have hdrop : items.drop i = d :: items.drop (i + 1) := by
      rw [List.drop_eq_getElem_cons hlt]
      rw [List.getElem?_eq_getElem hlt] at hd
      rw [Option.some.inj hd]
    rw [hdrop] at p2
    unfold lcR at p2
    have x13 := x2.trans x3
    cases hb : bindP p d (Fk.wipe env p.slots) with
    | none =>
      have e : lcF cf elt p cond env d s2 = .bad := by unfold lcF; rw [hb]
      rw [e] at p2; exact p2.elim
    | some env1 =>
      have e : lcF cf elt p cond env d s2 = (den cf cond env1 s2).noErr.bind fun c s => Fk.asB c s fun k s => if k then (den cf elt env1 s).noErr.bind fun y s => .ok (some y) s else .ok Option.none s := by unfold lcF; rw [hb]
      rw [e] at p2
      refine ⟨d, Fk.wipe env p.slots, env1, s2, φ3, (hE1.ext x13).wipe p.slots, r3, v3, hb, fun σ3 H3b φ3b x3b r3b hE3 hw => ⟨by rw [hw, wipe_wipe], ?_⟩⟩
      have x3 := x3.trans x3b
      have x13 := x2.trans x3
      refine ⟨env1, s2, φ3b, hE3, r3b, ?_⟩
      unfold denB
      have assoc : ∀ {α β γ : Type} (m : R α) (f : α → Fk.St → R β) (h : β → Fk.St → R γ), (m.bind f).bind h = m.bind fun a s => (f a s).bind h := fun m f h => by cases m <;> rfl
      rw [assoc] at p2
      cases q : den cf cond env1 s2 with
      | err x s => rw [q] at p2; exact p2.elim
      | bad => rw [q] at p2; exact p2.elim
      | ok c s4 =>
        rw [q] at p2
        simp only [R.noErr_ok, R.bind_ok] at p2 ⊢
        cases c with
        | bl b =>
          simp only [Fk.asB] at p2 ⊢
          intro b' H4 φ4 x4 r4 hbb
          have hbb' : b = b' := hbb
          subst hbb'
          have x14 := x13.trans x4
          have hA4 : H4 A = some (.lst vs) := x4.keep A _ (.inr (x3.sub A lA2)) (x3.keep A _ (.inr lA2) hA2)
          have lA4 : A ∈ φ4.p := x4.sub A (x3.sub A lA2)
          have ra4 : RepL g H4 φ4 acc vs := RepL.ext x4 acc (RepL.ext x3 acc ra2)
          cases b with
          | false =>
            rw [if_neg Bool.false_ne_true]
            rw [if_neg Bool.false_ne_true] at p2
            exact ⟨trivial, hlt, s4, φ4, acc, vs, x14, r4, hA4, lA4, ra4, Nat.le_succ_of_le l2, p2⟩
          | true =>
            rw [if_pos rfl]
            rw [if_pos rfl, assoc] at p2
            refine ⟨env1, s4, φ4, hE3.ext x4, r4, PostR.from (ρ1 := RepV g) p2 fun y s5 w H5 φ5 _ x5 r5 v5 p5 => ?_⟩
            have x15 := x14.trans x5
            have hA5 : H5 A = some (.lst vs) := x5.keep A _ (.inr lA4) hA4
            have lA5 : A ∈ φ5.p := x5.sub A lA4
            refine ⟨vs, hA5, ?_, trivial, hlt, s5, φ5, acc ++ [y], vs ++ [w], x15.poke hA _, r5.poke lA5 _, upd_same, lA5, ?_, by simp; omega, p5⟩
            · omega
            · have b5 := bears_poke (H := H5) lA5 (HO.lst (vs ++ [w]))
              exact RepL.bear b5 _ (RepL.append (RepL.ext x5 acc ra4) (by unfold RepL; exact ⟨w, [], rfl, v5, by simp [RepL]⟩))
        | _ => exact p2.elim
  · have e : i = items.length := by omega
    subst e
    refine .inl ⟨wk.stop _ H2 φ2 x2 rfl, ?_⟩
    rw [List.drop_length] at p2
    unfold lcR at p2
    have x3 := x2.show_ x2.sub
    refine p2 _ _ _ x3 (r2.show_ x2.sub) ?_
    unfold RepV
    refine ⟨A, vs, rfl, ?_, hA2, RepL.bear (bears_show x2.sub) acc ra2, by omega⟩
    rintro (⟨j, hj⟩ | l)
    · exact r2.sep j A hj lA2
    · obtain ⟨o, q⟩ := r1.priv A l
      rw [hA] at q; cases q
theorem own_slots (C : SC) (p : Pat) : (ownOf C p).map (·.2) = p.slots := by unfold ownOf; rw [List.map_map]; exact List.map_id' _
theorem lc_sound (hG : Good g T cf C X) {tg iter el : Expr} {ifs : List Expr} {scope : Scope} {pos : Pos} {p : Pat} {elt cond : IE} {mI : Fk.Env → Fk.St → R (List D)}
    (hi : PI X tg iter (tI g W mI)) (ok : blkC C.N C.sc scope (ownOf C p) = true)
    (hg : ∀ (s : Shared) (H : Hp) (B : Addr) (cl : List (PySem.Str × Addr)) (fp : List Addr), PG (X.blk s H scope (compEnvC scope cl B X.env) fp) tg (gD g p))
    (ht : ∀ (s : Shared) (H : Hp) (B : Addr) (cl : List (PySem.Str × Addr)) (fp : List Addr), PTs (X.blk s H scope (compEnvC scope cl B X.env) fp) ifs (tR bEq g WF (denB cf cond)))
    (he : ∀ (s : Shared) (H : Hp) (B : Addr) (cl : List (PySem.Str × Addr)) (fp : List Addr), PE (X.blk s H scope (compEnvC scope cl B X.env) fp) el (tR (RepV g) g WF (den cf elt)))
    (hs : ∀ x, foldedSetIterable iter X.env x = pure x) :
    PE X (.ListComp el [⟨tg, iter, ifs, 0⟩] scope pos) (tR (RepV g) g W fun env s => (mI env s).bind fun items s => lcR (lcF cf elt p cond env) items [] s) := by
  have hN : X.N.Nodup := by rw [hG.N]; exact hG.nd
  have hok : BlkOk X.N X.env.scope scope (ownOf C p) := by rw [hG.N, hG.sc]; exact blkOk_by ok
  have hown : (ownOf C p).map (·.2) = p.slots := by unfold ownOf; rw [List.map_map]; exact List.map_id' _
  refine (pe_lc (own := ownOf C p) hG.calm hN hi hok hg ht he hs).imp fun σ H Q h => ?_
  rw [hown]
  exact lc_imp h
end
end L3

set_option Elab.async false
set_option linter.all false
set_option autoImplicit false
set_option maxRecDepth 100000
set_option maxHeartbeats 4000000
/-! FkMth: methods of lists and dicts; dicts laid. -/
namespace L3
open PySem PySem.Spec PyProof.Rows L2 Fk
/-- a dict stands there -/
def IsDO (H : Hp) (x : V) : Prop := ∃ a ob, x = .ref a ∧ H a = some (dO a ob) ∧ ob.ExactDict
section
variable {X : Cx} {g : G}
theorem pe_bmD {id : String} {name : PySem.Str} {r : V → List V → Hp → VK → Prop} {o e : Expr} {es : List Expr} {to : TE} {t : TA} {apos cpos : Pos} (slot : Slot "dict" name id) (hty : typeOf (.builtin id) = pure (.type "method_descriptor")) (hm : MtR X id r) (ho : PE X o to) (ha : PA X (e :: es) t)
    (hbase : attributeBase o name X.env (eval o X.env) = eval o X.env)
    (hfew : ((backTo cpos (starEach (e :: es) X.env)).all (fun x => !x.1) && (backToKw cpos (keywordEach [] X.env)).all (fun x => x.1.isSome)
      && decide ((e :: es).length + ([] : List Keyword).length + (if ([] : List Keyword).isEmpty then 0 else 1) < 30)) = true)
    (hline : (apos.endLine == cpos.line) = true) (hs : starEach (e :: es) X.env = (false, eval e X.env) :: starEach es X.env) (hplain : (backTo cpos (starEach es X.env)).any (·.1) = false) :
    PE X (.Call (.Attribute o name apos) (e :: es) [] cpos) (fun σ H Q => to σ H fun x H1 => IsDO H1 x ∧ t σ H1 fun vs H2 => r x vs H2 Q) := by
  refine ⟨fun pins s σ H Q I h => ?_⟩
  refine wpAny_Call_method_late hbase hfew hline rfl (thn (ho.run pins s σ H _ I h) fun v s1 ⟨x, H1, I1, r1, ⟨a, ob, ex, hd, hx⟩, q1⟩ => ?_)
  subst ex
  have ev : v = Value.ref a := r1
  subst ev
  have ho := Inv.dob I1 hd
  refine ⟨"dict", id, PySem.F.plainAttrs_dict, slot, hty, ⟨ob, ho, hx.1⟩, fun b z => (by cases z; exact ⟨ob, ho, hx.2.1⟩), ?_⟩
  have hA := ha.run cpos pins s1 σ H1 _ I1 q1
  rw [hs] at hA ⊢
  refine Calls.callWith_builtin (by show (false || (backTo cpos (starEach es X.env)).any (·.1)) = false; rw [hplain] <;> rfl) (Calls.evalArgs_plain ?_)
  exact thn hA fun us s2 ⟨vs, H2, I2, r2, q2⟩ => hm pins s2 σ H2 _ vs _ us Q I2 r1 r2 q2
def rDm (g : G) (f : D → List D → Fk.St → R D) : V → List V → Hp → VK → Prop := fun x xs H Q => ∃ d ds s φ, Rep g H φ s ∧ RepV g H φ d x ∧ RepL g H φ ds xs ∧ ∃ E, PostR (RepV g) g H φ (f d ds s) Q E
def fGet : D → List D → Fk.St → R D := fun x ks s => match ks with
  | [k] => getD_ x k .none s
  | [k, d] => getD_ x k d s
  | _ => .bad
def fPop : D → List D → Fk.St → R D := fun x ks s => match ks with
  | [k, d] => dpopD x k d s
  | _ => .bad
theorem mt_getD (hu : X.A.units + 64 < cLine) (hw : g.w = X.w) (hk : g.K = X.K) : MtR X "dict.get" (rDm g fGet) := by
  intro pins s σ H x xs v us Q I rx r ⟨d, ds, st, φ, rp, rd_, rl, E, h⟩
  unfold fGet at h
  split at h
  · rename_i k
    obtain ⟨y, rfl, h1⟩ := repl_1 rl
    obtain ⟨u, rfl, ru⟩ := vals1 r
    unfold getD_ at h
    split at h
    · rename_i ks vs e
      split at h
      · rename_i c
        obtain ⟨p, o, xs, ys, rfl, q1, q2, q3, q4⟩ := rd_dic rp rd_ e
        cases rx
        exact (k_getd hu hw hk I q1 q2 q3 q4 c h1 ru (z := .none) (zv := .non) (zu := .none) repv_of_none rfl fun v w s' I' rv rw' => ⟨v, H, I', rw', h.here rp rv⟩).1 rfl
      · exact h.elim
    · exact h.elim
  · rename_i k z
    obtain ⟨y, zv, rfl, h1, h2⟩ := repl_2 rl
    obtain ⟨u, zu, rfl, ru, rz⟩ := vals2 r
    unfold getD_ at h
    split at h
    · rename_i ks vs e
      split at h
      · rename_i c
        obtain ⟨p, o, xs, ys, rfl, q1, q2, q3, q4⟩ := rd_dic rp rd_ e
        cases rx
        exact (k_getd hu hw hk I q1 q2 q3 q4 c h1 ru h2 rz fun v w s' I' rv rw' => ⟨v, H, I', rw', h.here rp rv⟩).2
      · exact h.elim
    · exact h.elim
  · exact h.elim
theorem pureL_put {k : D} {d : D} (hd : d.pure = true) : ∀ {ks ds : List D}, D.pureL ds = true → D.pureL (dPut ks ds k d).2 = true
  | [], _, h => by simp [dPut, D.pureL, hd]
  | _ :: _, [], h => by simp [dPut, D.pureL, hd]
  | j :: ks, e :: ds, h => by
    unfold D.pureL at h
    rw [Bool.and_eq_true] at h
    unfold dPut
    split
    · simp only [D.pureL, hd, h.2, Bool.and_self]
    · simp only [D.pureL, h.1, Bool.true_and]; exact pureL_put hd h.2
mutual
theorem key_pure : ∀ d : D, keyOk d = true → d.pure = true
  | .int _, _ => rfl
  | .str _, _ => rfl
  | .tup ds, h => by unfold D.pure; exact keyL_pure ds (by unfold keyOk at h; exact h)
  | .none, h => rfl
  | .bl _, h => rfl
  | .lst _, h => by simp [keyOk] at h
  | .dic _ _, h => by simp [keyOk] at h
  | .set _, h => by simp [keyOk] at h
  | .scr _, h => rfl
  | .ref _, h => by simp [keyOk] at h
  | .fn _, h => rfl
  | .ty _, h => rfl
  | .tab _ _, h => by simp [keyOk] at h
theorem keyL_pure : ∀ ds : List D, keyOkL ds = true → D.pureL ds = true
  | [], _ => rfl
  | d :: ds, h => by
    obtain ⟨h1, h2⟩ := keyOkL_cons h
    unfold D.pureL
    rw [keyL_pure ds h2, Bool.and_true]
    rcases h1 with h1 | h1
    · exact key_pure d h1
    · subst h1; rfl
end
theorem pureL_all : ∀ {ds : List D}, (∀ d ∈ ds, d.pure = true) → D.pureL ds = true
  | [], _ => rfl
  | d :: ds, h => by unfold D.pureL; rw [h d List.mem_cons_self, pureL_all fun e he => h e (List.mem_cons_of_mem _ he)]; rfl
theorem pureL_mem : ∀ {ds : List D}, D.pureL ds = true → ∀ d ∈ ds, d.pure = true
  | [], _, d, h => by cases h
  | e :: ds, p, d, h => by
    unfold D.pureL at p
    rw [Bool.and_eq_true] at p
    rcases List.mem_cons.mp h with rfl | h
    · exact p.1
    · exact pureL_mem p.2 d h
theorem pureL_del {k : D} : ∀ {ks ds : List D}, D.pureL ds = true → D.pureL (dDel ks ds k).2 = true
  | [], _, h => by simp [dDel, D.pureL]
  | _ :: _, [], h => by simp [dDel, D.pureL]
  | j :: ks, e :: ds, h => by
    unfold D.pureL at h
    rw [Bool.and_eq_true] at h
    unfold dDel
    split
    · exact h.2
    · simp only [D.pureL, h.1, Bool.true_and]; exact pureL_del h.2
theorem ks_pure {ks : List D} (K : KsOk ks) : D.pureL ks = true := pureL_all fun d h => key_pure d (K.key d h).1
theorem mt_dpop (hu : X.A.units + 64 < cLine) (hw : g.w = X.w) (hk : g.K = X.K) : MtR X "dict.pop" (rDm g fPop) := by
  intro pins s σ H x xs v us Q I rx r ⟨d, ds, st, φ, rp, rd_, rl, E, h⟩
  unfold fPop at h
  split at h
  · rename_i k z
    obtain ⟨y, zv, rfl, h1, h2⟩ := repl_2 rl
    obtain ⟨u, zu, rfl, ru, rz⟩ := vals2 r
    unfold dpopD at h
    split at h
    · rename_i i
      split at h
      · rename_i ks vs e
        split at h
        · rename_i c
          obtain ⟨p, o, xs, ys, e1, q1, q2, q3, q4, q5, q6⟩ := rp.dic i ks vs e
          unfold RepV at rd_
          have ex := rd_.2.2 p e1
          subst ex
          cases rx
          have ly : ks.length = vs.length := by
            obtain ⟨es, ep, w1, w2⟩ := q2.ent
            obtain ⟨l1, l2, l3⟩ := entl_len w2
            rw [q3.length, l2, q4.length, l3]
          have lyy : ks.length = ys.length := by rw [ly, q4.length]
          refine k_pop hu hw hk I q1 q2 q3 q4 c h1 ru rz (fun en s' I' => ?_) fun d' v' w' o' xs' s' ed rv rw' I' dp kf => ?_
          · rw [en] at h
            exact ⟨zv, H, I', rz, h.here rp h2⟩
          · rw [ed] at h
            have x0 : Ext H φ (upd H p (dO p o')) φ := Ext.write rp e1
            refine ⟨v', _, I', rw', h _ _ φ x0 (rp.write e e1 (fun z => nomatch z) fun x1 => ?_) (RepV.ext x0 _ rv)⟩
            have ek : (dDel ks ys k).1 = (dDel ks vs k).1 := dDel_keys lyy ly
            rw [ek] at dp kf
            exact ⟨o', xs', _, upd_same, dp, kf _ _ (RepL.ext x1 _ q3), repl_del ly (RepL.ext x1 _ q4), ks_pure dp.ks, pureL_del q6⟩
        · exact h.elim
      · exact h.elim
    · exact h.elim
  · exact h.elim
/-- in another coat: a dict by keys that are no tuples -/
theorem recast {pins : List (Addr × Obj)} {σ : L2.St} {H : Hp} {s : Shared} {p : Addr} {ks : List D} {ys : List V} (hw : g.w = X.w) (I : Inv X pins σ H s) (e : H p = some (.dK ((ks.map keyK).zip ys))) (l : ks.length = ys.length) (K : KsOk ks) (nt : ∀ k ∈ ks, isTup k = false) :
    ∃ o xs, Inv X pins σ (upd H p (dO p o)) s ∧ DicP g.w p o ks xs ys ∧ ∀ H φ, RepL g H φ ks xs := by
  obtain ⟨z, sys, vs, kv, dd⟩ := (show ObjOk X.prog X.w H s.heap p (.dK _) from I.hok p _ e)
  have hz : ∃ us, vs = mixP ks us ∧ Vals ys us ∧ ks.length = us.length := by
    have aux : ∀ (ks : List D) (ys : List V) (vs : List (Key × Value)), ks.length = ys.length → KV ((ks.map keyK).zip ys) vs → ∃ us, vs = mixP ks us ∧ Vals ys us ∧ ks.length = us.length := by
      intro ks
      induction ks with
      | nil =>
        intro ys vs l h
        cases ys with
        | nil => cases h; exact ⟨[], rfl, .nil, rfl⟩
        | cons _ _ => simp at l
      | cons k ks ih =>
        intro ys vs l h
        cases ys with
        | nil => simp at l
        | cons y ys =>
          have h' : Paired _ ((keyK k, y) :: (ks.map keyK).zip ys) vs := h
          cases h' with
          | @cons _ q _ qs h1 h2 =>
            obtain ⟨us, e1, e2, e3⟩ := ih ys qs (by simpa using l) h2
            obtain ⟨q1, q2⟩ := q
            obtain ⟨e4, e5⟩ := h1
            simp only at e4 e5
            subst e4 e1
            exact ⟨q2 :: us, rfl, .cons e5 e2, by simp [e3]⟩
    exact aux ks ys vs l kv
  obtain ⟨us, rfl, v1, l1⟩ := hz
  obtain ⟨o, xs, q1, q2, q3⟩ := face_mix (g := g) (w := X.w) dd l1 v1 K nt sys
  refine ⟨o, xs, ?_, hw.symm ▸ q2, q3⟩
  exact I.write (t' := s.toks) (x := p) (e := p) (by rw [e]; exact True.intro) (.inl rfl) (fun b u _ z => z) ⟨o, q1⟩ (dO_ok q1)
theorem pe_recast {e : Expr} {t : TE} (hw : g.w = X.w) (h : PE X e t) : PE X e (fun σ H Q => t σ H fun v H1 => ∃ (p : Addr) (ks : List D) (ys : List V), v = .ref p ∧ H1 p = some (.dK ((ks.map keyK).zip ys)) ∧ ks.length = ys.length ∧ KsOk ks ∧ (∀ k ∈ ks, isTup k = false) ∧
    ∀ o xs, DicP g.w p o ks xs ys → (∀ H φ, RepL g H φ ks xs) → Q v (upd H1 p (dO p o))) := by
  refine ⟨fun pins s σ H Q I q => thn (h.run pins s σ H _ I q) fun u s1 ⟨v, H1, I1, r1, p, ks, ys, e1, e2, e3, e4, e5, k⟩ => ?_⟩
  obtain ⟨o, xs, I2, d1, d2⟩ := recast (g := g) hw I1 e2 e3 e4 e5
  exact ⟨v, _, I2, r1, k o xs d1 d2⟩
/-- what was in the making joins the store -/
theorem bears_adopt {H : Hp} {φ : Phi} {p : Addr} {q : List Addr} (lp : p ∈ φ.p) (sub : ∀ a ∈ q, a ∈ φ.p) : Bears H φ H ⟨φ.o ++ [some p], q⟩ where
  keep := fun a o n h => ⟨h, fun l => n (by
    rcases l with ⟨j, hj⟩ | l
    · rcases snoc_get hj with ⟨_, z⟩ | ⟨_, z⟩
      · exact .inl ⟨j, z⟩
      · rw [z]; exact .inr lp
    · exact .inr (sub a l))⟩
  len := by simp
  old := fun j a hj h => by
    have h' : (φ.o ++ [some p])[j]? = some (some a) := h
    rw [List.getElem?_append_left hj] at h'; exact h'
theorem Rep.adopt {H : Hp} {φ : Phi} {s : Fk.St} (r : Rep g H φ s) {p : Addr} {q : List Addr} {o : O} (lp : p ∈ φ.p) (sub : ∀ a ∈ q, a ∈ φ.p) (np : p ∉ q) (ng : o ≠ .gone) (w : ObR g H ⟨φ.o ++ [some p], q⟩ o p) : Rep g H ⟨φ.o ++ [some p], q⟩ (s ++ [o]) := by
  have bx : Bears H φ H ⟨φ.o ++ [some p], q⟩ := bears_adopt lp sub
  have g1 : ∀ i : Nat, i < s.length → (φ.o ++ [some p])[i]? = φ.o[i]? := fun i hi => List.getElem?_append_left (by rw [r.len]; exact hi)
  refine ⟨by simp [r.len], fun i e => ?_, fun i o' e ne => ?_, fun i j a e1 e2 => ?_, fun a h => r.priv a (sub a h), fun i a e l => ?_⟩
  · show (φ.o ++ [some p])[i]? = _
    by_cases hi : i < s.length
    · rw [List.getElem?_append_left hi] at e
      rw [g1 i hi]
      exact r.gone i e
    · rw [List.getElem?_append_right (by omega)] at e
      cases z : i - s.length with
      | zero => rw [z] at e; simp at e; exact absurd e ng
      | succ n => rw [z] at e; simp at e
  · by_cases hi : i < s.length
    · rw [List.getElem?_append_left hi] at e
      obtain ⟨a, h1, h2⟩ := r.obj i o' e ne
      exact ⟨a, by show (φ.o ++ [some p])[i]? = _; rw [g1 i hi]; exact h1, h2.move (fun _ z => z) fun ds vs z _ => RepL.bear bx ds z⟩
    · rw [List.getElem?_append_right (by omega)] at e
      cases z : i - s.length with
      | zero =>
        rw [z] at e; simp at e; subst e
        refine ⟨p, ?_, w⟩
        show (φ.o ++ [some p])[i]? = _
        rw [List.getElem?_append_right (by rw [r.len]; omega), r.len, z]; rfl
      | succ n => rw [z] at e; simp at e
  · rcases snoc_get e1 with ⟨_, a1⟩ | ⟨a1, b1⟩
    · rcases snoc_get e2 with ⟨_, a2⟩ | ⟨a2, b2⟩
      · exact r.inj i j a a1 a2
      · subst b2; exact absurd lp (r.sep i a a1)
    · rcases snoc_get e2 with ⟨_, a2⟩ | ⟨a2, b2⟩
      · subst b1; exact absurd lp (r.sep j a a2)
      · omega
  · rcases snoc_get e with ⟨_, a1⟩ | ⟨a1, b1⟩
    · exact r.sep i a a1 (sub a l)
    · subst b1; exact np l
end
/-- keys that are no tuples -/
theorem leafK_ok {k : D} (h : leafK k = true) : keyOk k = true ∧ depth k ≤ 8 ∧ isTup k = false := by
  cases k <;> first | (simp [leafK] at h; done) | exact ⟨rfl, by simp [depth], rfl⟩
theorem noDup_ok : ∀ {ks : List D}, noDup ks = true → ks.Nodup
  | [], _ => List.nodup_nil
  | k :: ks, h => by
    unfold noDup at h
    rw [Bool.and_eq_true, Bool.not_eq_true'] at h
    refine List.nodup_cons.mpr ⟨fun hm => ?_, noDup_ok h.2⟩
    rw [any_beq.mpr hm] at h
    cases h.1
theorem mergeK_nodup : ∀ (kvs acc : List (Key × V)), ((acc ++ kvs).map (·.1)).Nodup → mergeK acc kvs = acc ++ kvs
  | [], acc, _ => by simp [mergeK]
  | kv :: kvs, acc, h => by
    have hn : ¬ (acc.any fun q => decide (q.1 = kv.1)) = true := by
      intro q
      obtain ⟨a, ha, e⟩ := List.any_eq_true.mp q
      rw [decide_eq_true_eq] at e
      rw [List.map_append, List.nodup_append] at h
      exact h.2.2 _ (List.mem_map_of_mem ha) kv.1 (by simp) e
    show mergeK (putK acc kv.1 kv.2) kvs = _
    unfold putK
    rw [if_neg hn, mergeK_nodup kvs (acc ++ [(kv.1, kv.2)]) (by simpa using h)]
    simp
end L3

set_option Elab.async false
set_option linter.all false
set_option autoImplicit false
set_option maxRecDepth 100000
set_option maxHeartbeats 8000000
/-! FkSnd2: expressions: the theorem. -/
namespace L3
open PySem PySem.Spec PyProof.Rows L2 Fk

theorem pt_ifExp {X : Cx} {c a b : Expr} {pos : Pos} {tA ta tb : TT} (hc : PT X c tA) (ha : PT X a ta) (hb : PT X b tb) : PT X (.IfExp c a b pos) (fun σ H Q => tA σ H fun k H1 => if k = true then ta σ H1 Q else tb σ H1 Q) := by
  refine ⟨fun pins s σ H Q I h => ?_⟩
  refine isTrue_IfExp (thn (hc.run pins s σ H _ I h) fun d s1 ⟨H1, I1, q1⟩ => ?_)
  cases d with
  | true => exact ha.run pins s1 σ H1 Q I1 q1
  | false => exact hb.run pins s1 σ H1 Q I1 q1
theorem _root_.L2.PTs.imp {X : Cx} {e : List Expr} {t t' : TT} (h : PTs X e t) (k : ∀ σ H Q, t' σ H Q → t σ H Q) : PTs X e t' := ⟨fun pins s σ H Q I q => h.run pins s σ H Q I (k σ H Q q)⟩
theorem pw_of {X : Cx} {op : BoolOp} {vs : List Expr} {pos : Pos} {t : TT} (h : PT X (.BoolOp op vs pos) t) : PW X (.BoolOp op vs pos) t := ⟨fun _ pins s σ H Q I q => h.run pins s σ H Q I q⟩
theorem R.assoc {α β γ : Type} (m : R α) (f : α → Fk.St → R β) (h : β → Fk.St → R γ) : (m.bind f).bind h = m.bind fun a s => (f a s).bind h := by cases m <;> rfl

theorem PostR.bindE {α β γ δ : Type} {ρ : Hp → Phi → α → β → Prop} {ρ1 : Hp → Phi → γ → δ → Prop} {g : G} {H0 H : Hp} {φ0 φ : Phi} {Q : β → Hp → Prop} {E : XK} {m : R γ} {f : γ → Fk.St → R α} {Q1 : δ → Hp → Prop}
    (x0 : Ext H0 φ0 H φ) (p : PostR ρ g H0 φ0 (m.bind f) Q E) (k : ∀ c s d H1 φ1, m = .ok c s → Ext H φ H1 φ1 → Rep g H1 φ1 s → ρ1 H1 φ1 c d → PostR ρ g H0 φ0 (f c s) Q E → Q1 d H1) : PostR ρ1 g H φ m Q1 E := by
  cases m with
  | ok a s => exact fun b H2 φ2 y r2 h => k a s b H2 φ2 rfl y r2 h p
  | err e s => exact fun c d H2 φ2 y => p c d H2 φ2 (x0.trans y)
  | bad => exact p.elim
theorem denL_len {cf : CF} : ∀ (es : List IE) {env : Fk.Env} {s s1 : Fk.St} {xs : List D}, denL cf es env s = .ok xs s1 → xs.length = es.length
  | [], env, s, s1, xs, h => by
    simp only [denL] at h
    cases h; rfl
  | e :: es, env, s, s1, xs, h => by
    simp only [denL] at h
    cases q : den cf e env s with
    | ok d s2 =>
      rw [q] at h
      simp only [R.bind_ok] at h
      cases q2 : denL cf es env s2 with
      | ok ds s3 =>
        rw [q2] at h
        simp only [R.bind_ok] at h
        cases h
        have := denL_len es q2
        simp [this]
      | err _ _ => rw [q2] at h; cases h
      | bad => rw [q2] at h; cases h
    | err _ _ => rw [q] at h; cases h
    | bad => rw [q] at h; cases h
theorem chkL_len {T : Tab} {C : SC} : ∀ (es : List IE) (xs : List Expr), chkL T es C xs = true → es.length = xs.length
  | [], [], _ => rfl
  | [], _ :: _, h => by unfold chkL at h; cases h
  | _ :: _, [], h => by unfold chkL at h; cases h
  | e :: es, x :: xs, h => by
    unfold chkL at h
    simp only [Bool.and_eq_true] at h
    have := chkL_len es xs h.2
    simp [this]
theorem chkD_len {T : Tab} {C : SC} : ∀ (es : List IE) (ks : List (Option Expr)) (vs : List Expr), chkD T es C ks vs = true → es.length = 2 * ks.length ∧ ks.length = vs.length ∧ ks.all (·.isSome) = true
  | [], ks, vs, h => by
    unfold chkD at h
    simp only [Bool.and_eq_true, List.isEmpty_iff] at h
    obtain ⟨rfl, rfl⟩ := h
    exact ⟨rfl, rfl, rfl⟩
  | [_], _, _, h => by unfold chkD at h; cases h
  | k :: v :: es, ks, vs, h => by
    unfold chkD at h
    split at h
    · simp only [Bool.and_eq_true] at h
      obtain ⟨h1, h2, h3⟩ := chkD_len es _ _ h.2
      refine ⟨by simp [h1]; omega, by simp [h2], by simp [h3]⟩
    · cases h
/-- values two by two -/
def prs : List V → List (V × V)
  | x :: y :: r => (x, y) :: prs r
  | _ => []
theorem prs_keys {g : G} {H : Hp} {φ : Phi} : ∀ {ds ks vs : List D} {us : List V}, RepL g H φ ds us → Fk.pairsOf ds = some (ks, vs) → ks.all leafK = true → ∃ ys : List V, prs us = ((ks.map keyK).zip ys).map (fun kv => (kV kv.1, kv.2)) ∧ ks.length = ys.length ∧ 2 * ks.length = ds.length ∧ RepL g H φ vs ys
  | [], ks, vs, us, h, e, _ => by
    unfold RepL at h
    subst h
    unfold Fk.pairsOf at e
    cases e
    exact ⟨[], rfl, rfl, rfl, by simp [RepL]⟩
  | [_], _, _, _, _, e, _ => by unfold Fk.pairsOf at e; cases e
  | k :: v :: ds, ks, vs, us, h, e, a => by
    unfold RepL at h
    obtain ⟨x, r, rfl, h1, h2⟩ := h
    unfold RepL at h2
    obtain ⟨y, r, rfl, h2, h3⟩ := h2
    unfold Fk.pairsOf at e
    split at e
    · rename_i ks' vs' e'
      cases e
      simp only [List.all_cons, Bool.and_eq_true] at a
      obtain ⟨ys, q1, q2, q3, q4⟩ := prs_keys h3 e' a.2
      have hk : x = kV (keyK k) := by
        cases k with
        | int i => exact repv_int h1
        | str z => exact repv_str h1
        | _ => exact absurd a.1 (by simp [leafK])
      refine ⟨y :: ys, ?_, by simp [q2], by simp; omega, by unfold RepL; exact ⟨y, ys, rfl, h2, q4⟩⟩
      show (x, y) :: prs r = _
      rw [q1, hk]; rfl
    · cases e

section
variable {g : G} {W : WX} {σ : L2.St} {H : Hp}
theorem tR_congr {α β : Type} {ρ : Hp → Phi → α → β → Prop} {m m' : Fk.Env → Fk.St → R α} {Q : β → Hp → Prop} (h : tR ρ g W m σ H Q) (e : ∀ env s, m env s = m' env s) : tR ρ g W m' σ H Q := by
  obtain ⟨env, s, φ, hE, hS, hP⟩ := h
  exact ⟨env, s, φ, hE, hS, by rw [← e]; exact hP⟩
theorem tR_bind {α β γ δ : Type} {ρ : Hp → Phi → α → β → Prop} {ρ1 : Hp → Phi → γ → δ → Prop} {m : Fk.Env → Fk.St → R γ} {f : γ → Fk.Env → Fk.St → R α} {Q : β → Hp → Prop} {Q1 : δ → Hp → Prop}
    (h : tR ρ g W (fun env s => (m env s).bind fun c s => f c env s) σ H Q)
    (k : ∀ c d env s H1 φ1, RepE g H1 φ1 env σ → Rep g H1 φ1 s → ρ1 H1 φ1 c d → PostR ρ g H1 φ1 (f c env s) Q (fun c d H => W c d σ H) → Q1 d H1) : tR ρ1 g W m σ H Q1 := by
  obtain ⟨env, s, φ, hE, hS, hP⟩ := h
  exact ⟨env, s, φ, hE, hS, hP.bind fun c s1 d H1 φ1 x1 r1 v1 p1 => k c d env s1 H1 φ1 (hE.ext x1) r1 v1 p1⟩
end
def asg (m : Fk.Env → Fk.St → R D) : Fk.Env → Fk.St → R Bool := fun env s => (m env s).bind fun d s => Fk.asB d s fun b s => .ok b s

theorem Good.units {g : G} {T : Tab} {cf : CF} {C : SC} {X : Cx} (h : Good g T cf C X) : X.A.units + 64 < cLine := let ⟨_, r, _⟩ := h.room; r.units
theorem Good.inner {g : G} {T : Tab} {cf : CF} {C : SC} {X : Cx} (h : Good g T cf C X) (s : Shared) (H : Hp) (scope : Scope) (cl : List (PySem.Str × Addr)) (B : Addr) (fp : List Addr) :
    Good g T cf (L3.inner C scope) (X.blk s H scope (compEnvC scope cl B X.env) fp) := by
  refine ⟨h.K, h.mg, h.w, ?_, h.N, h.nd, rfl, h.calm, h.tab, h.room⟩
  show relS scope X.env.scope = relS scope C.sc
  rw [h.sc]

/-- a slice's part -/
theorem po_of {g : G} {W : WX} {cf : CF} {X : Cx} (lo : IE) (l : Option Expr) (h : match l with | none => isNop lo = true | some x => isNop lo = false ∧ PE X x (tR (RepV g) g W (den cf lo))) :
    ∃ t, PO X l t ∧ ∀ σ H Q, tR (fun _ _ a b => a = b) g W (fun env s => (den cf lo env s).bind fun l s => partR (isNop lo) l s) σ H Q → t σ H Q := by
  cases l with
  | none =>
    refine ⟨_, po_none, fun σ H Q ⟨env, s, φ, hE, hS, hP⟩ => ?_⟩
    cases lo with
    | nop =>
      simp only [den, R.bind_ok, partR, isNop] at hP
      exact hP.here hS rfl
    | _ => cases h
  | some x =>
    refine ⟨_, po_some h.2, fun σ H Q q => ?_⟩
    refine tR_bind q fun d v env s H1 φ1 hE hS hv hP => ?_
    rw [h.1] at hP
    cases d with
    | int i => exact ⟨i, repv_int hv, hP.here hS rfl⟩
    | _ => exact hP.elim
theorem chkE_nop {T : Tab} {C : SC} {lo : IE} {x : Expr} (h : chkE T lo C x = true) : isNop lo = false := by
  cases lo with
  | nop => unfold chkE at h; cases h
  | _ => rfl
/-- x() -/
theorem pe_call0S {X : Cx} {k : Nat} {f : Addr} {fd : FuncData} {ps : List PySem.Str} {sp : Sp} {E : L2.St → XK} {x : PySem.Str} {p pos : Pos} (F : FnOk X.prog X.w X.K X.mg X.base (L2.CX X.prog X.w) k f fd ps sp) (hr : Room k X.A) (hg : Gl X x) (hm : X.mg x = some (.ref f)) (hk : PySem.W.keepIn X.K (.ref f) = true) (hb : Binds X.K fd ps [])
    (hx : ∀ σ, PassesAt (L2.CX X.prog X.w) X σ (E σ)) (hdb : (x == ("__debug__" : PySem.Str)) = false) : PE X (.Call (.Name x p) [] [] pos) (fun σ H Q => sp [] H Q (E σ)) := by
  refine ⟨fun pins s σ H Q I h => ?_⟩
  refine wpAny_Call_Name_kw (ld_glob I hg hm ?_ hdb)
  exact PySem.W.callWith_K0 I.kIn hk (run_fnS (us := []) F hr hb (hx σ) I .nil h)
theorem repl_rev {g : G} {H : Hp} {φ : Phi} {ds : List D} {vs : List V} (h : RepL g H φ ds vs) : RepL g H φ ds.reverse vs.reverse := by
  induction ds generalizing vs with
  | nil => unfold RepL at h; subst h; simp [RepL]
  | cons d ds ih =>
    unfold RepL at h
    obtain ⟨v, r, rfl, h1, h2⟩ := h
    rw [List.reverse_cons, List.reverse_cons]
    exact (ih h2).append (by unfold RepL; exact ⟨v, [], rfl, h1, by simp [RepL]⟩)
/-- x(..), x a local name that holds a def -/
theorem pe_callVS {X : Cx} {i : Nat} {E : L2.St → XK} {x : PySem.Str} {p pos : Pos} {e : Expr} {es : List Expr} {t : TA} (hN : X.N[i]? = some x) (hv : Vis X.env.scope x) (ha : PA X (e :: es) t)
    (hdb : (x == ("__debug__" : PySem.Str)) = false) (hcd : (x == ("__classdict__" : PySem.Str)) = false)
    (he : starEach (e :: es) X.env = (false, eval e X.env) :: starEach es X.env) (hpl : (backTo pos (starEach es X.env)).any (·.1) = false) :
    PE X (.Call (.Name x p) (e :: es) [] pos) (fun σ H Q => ∃ (f : Addr) (fd : FuncData) (ps : List PySem.Str) (sp : Sp) (k : Nat), σ[i]? = some (some (.ref f)) ∧ FnOk X.prog X.w X.K X.mg X.base (L2.CX X.prog X.w) k f fd ps sp ∧ Room k X.A ∧ PySem.W.keepIn X.K (.ref f) = true ∧ Binds X.K fd ps [] ∧
      PassesAt (L2.CX X.prog X.w) X σ (E σ) ∧ t σ H fun vs H1 => sp vs H1 Q (E σ)) := by
  refine ⟨fun pins s σ H Q I ⟨f, fd, ps, sp, k, hs, F, hr, hk, hb, hx, ht⟩ => ?_⟩
  refine wpAny_Call_Name_kw (thn ((pe_var (pos := p) hN hv hdb hcd).run pins s σ H (fun v H1 => v = .ref f ∧ H1 = H) I ⟨.ref f, hs, rfl, rfl⟩) fun u s1 ⟨v, H1, I1, r1, q1⟩ => ?_)
  obtain ⟨rfl, rfl⟩ := q1
  cases r1
  exact PySem.W.callWith_K (h₀ := X.base) I.ok.mod.kin hk (thn (ha.run pos pins s1 σ _ _ I1 ht) fun us s2 ⟨vs, H2, I2, r, q⟩ => ⟨I2.kIn, run_fnS F hr hb hx I2 r q⟩) he hpl
theorem repl_ints1 {g : G} {H : Hp} {φ : Phi} {i : Int} {vs : List V} (h : RepL g H φ [.int i] vs) : vs = [.int i] := by
  obtain ⟨x, rfl, q⟩ := repl_1 h
  rw [repv_int q]
theorem lst_chk {g : G} {H : Hp} {φ : Phi} {d : D} {s : Fk.St} {r : R D} {Q : VK} {E : XK} (h : PostR (RepV g) g H φ (chk (isLstR s d) r) Q E) : ∃ i ds, d = .ref i ∧ s[i]? = some (.lst ds) ∧ PostR (RepV g) g H φ r Q E := by
  unfold chk at h
  split at h
  · rename_i c
    unfold isLstR at c
    split at c
    · rename_i i
      split at c
      · rename_i ds e
        exact ⟨i, ds, rfl, e, h⟩
      · cases c
    · cases c
  · exact h.elim
theorem dic_chk {g : G} {H : Hp} {φ : Phi} {d : D} {v : V} {s : Fk.St} {r : R D} {Q : VK} {E : XK} (hS : Rep g H φ s) (hv : RepV g H φ d v) (h : PostR (RepV g) g H φ (chk (isDicR s d) r) Q E) : IsDO H v ∧ PostR (RepV g) g H φ r Q E := by
  unfold chk at h
  split at h
  · rename_i c
    unfold isDicR at c
    split at c
    · rename_i ks ds e
      obtain ⟨p, o, xs, ys, rfl, h1, h2, _⟩ := rd_dic hS hv e
      exact ⟨⟨p, o, rfl, h1, h2.ex⟩, h⟩
    · cases c
  · exact h.elim
theorem env_nil {g : G} {f : D → List D → Fk.St → R D} {H : Hp} {φ : Phi} {d : D} {v : V} {s : Fk.St} {Q : VK} {E : XK} (ds : List D) (vs : List V) (hS : Rep g H φ s) (hv : RepV g H φ d v) (hl : RepL g H φ ds vs) (h : PostR (RepV g) g H φ (f d ds s) Q E) : rDm g f v vs H Q :=
  ⟨d, ds, s, φ, hS, hv, hl, E, h⟩
theorem repl_erase {g : G} {H : Hp} {φ : Phi} : ∀ {ds : List D} {vs : List V} (j : Nat), RepL g H φ ds vs → RepL g H φ (ds.eraseIdx j) (vs.eraseIdx j)
  | [], _, _, h => by unfold RepL at h; subst h; simp [RepL]
  | d :: ds, _, j, h => by
    unfold RepL at h
    obtain ⟨v, r, rfl, h1, h2⟩ := h
    cases j with
    | zero => exact h2
    | succ j => simp only [List.eraseIdx_cons_succ]; unfold RepL; exact ⟨v, _, rfl, h1, repl_erase j h2⟩
theorem pureL_erase : ∀ {ds : List D} (j : Nat), D.pureL ds = true → D.pureL (ds.eraseIdx j) = true := fun {ds} j h => pureL_all fun d hd => pureL_mem h d (List.mem_of_mem_eraseIdx hd)
theorem pop_core {g : G} {H : Hp} {φ : Phi} {i : Nat} {k : Int} {s : Fk.St} {v : V} {Q : VK} {E : XK} (hS : Rep g H φ s) (hv : RepV g H φ (.ref i) v) (h : PostR (RepV g) g H φ (popD (.ref i) (.int k) s) Q E) :
    ∃ a vs j y, v = .ref a ∧ H a = some (.lst vs) ∧ L2.ixN vs.length k = some j ∧ vs[j]? = some y ∧ vs.length ≤ PySem.sizeLine ∧ Q y (upd H a (.lst (vs.eraseIdx j))) := by
  unfold popD at h
  simp only at h
  split at h
  · rename_i ds e
    split at h
    · rename_i j e2
      split at h
      · rename_i d e3
        split at h
        · rename_i hz
          obtain ⟨a, vs, q1, q2, q3, q4, q5⟩ := hS.lst i ds e
          unfold RepV at hv
          have hx := hv.2.2 a q1
          obtain ⟨y, y1, y2⟩ := q3.get e3
          have l := q3.length
          have x : Ext H φ (upd H a (.lst (vs.eraseIdx j))) φ := Ext.write hS q1
          refine ⟨a, vs, j, y, hx, q2, by rw [← l]; exact e2, y1, q5, h y _ φ x (hS.write e q1 (fun z => nomatch z) fun x1 => ⟨_, upd_same, RepL.ext x1 _ (repl_erase j q3), pureL_erase j q4, Nat.le_trans (List.length_eraseIdx_le _ _) q5⟩) (RepV.ext x _ y2)⟩
        · exact h.elim
      · exact h.elim
    · exact h.elim
  · exact h.elim
theorem pop_fin {g : G} {H : Hp} {φ : Phi} {i : Nat} {kd : D} {kv : V} {s : Fk.St} {v : V} {Q : VK} {E : XK} (hS : Rep g H φ s) (hv : RepV g H φ (.ref i) v) (hk : RepV g H φ kd kv) (h : PostR (RepV g) g H φ (popD (.ref i) kd s) Q E) : rPopAt v [kv] H Q := by
  cases kd with
  | int k =>
    obtain ⟨a, vs, j, y, rfl, h1, h2, h3, h4, h5⟩ := pop_core hS hv h
    obtain ⟨s1, s2, s3, s4⟩ := ixN_seq h2
    rw [← sl_eq] at h4
    unfold Fk.sizeLine at h4
    exact ⟨a, vs, k, j, y, rfl, by rw [repv_int hk], h1, by omega, by omega, s1, h3, h5⟩
  | _ => unfold popD at h; exact h.elim
theorem popl_fin {g : G} {H : Hp} {φ : Phi} {i : Nat} {s : Fk.St} {v : V} {Q : VK} {E : XK} (hS : Rep g H φ s) (hv : RepV g H φ (.ref i) v) (h : PostR (RepV g) g H φ (popD (.ref i) (.int (-1)) s) Q E) : rPop v [] H Q := by
  obtain ⟨a, vs, j, y, rfl, h1, h2, h3, h4, h5⟩ := pop_core hS hv h
  have hl : j < vs.length := (List.getElem?_eq_some_iff.mp h3).1
  have hj : j = vs.length - 1 := by
    unfold L2.ixN at h2
    rw [if_neg (by omega)] at h2
    split at h2
    · cases h2; omega
    · cases h2
  refine ⟨a, vs, y, rfl, rfl, h1, by rw [← hj]; exact h3, ?_⟩
  have : vs.dropLast = vs.eraseIdx j := by
    rw [hj, List.eraseIdx_eq_dropLast]
    omega
  rw [this]; exact h5
theorem itK_r1 {ds items : List D} (e : itK .range1 ds = some items) : ∃ n : Int, ds = [.int n] ∧ (-far ≤ n ∧ n ≤ Fk.sizeLine) ∧ items = (List.range n.toNat).map fun i : Nat => D.int i := by
  rcases ds with _ | ⟨d, _ | ⟨d2, r⟩⟩
  · simp [itK] at e
  · cases d <;> first | (simp [itK] at e; done) | skip
    rename_i n
    simp only [itK] at e
    split at e
    · rename_i h
      cases e
      exact ⟨n, rfl, h, rfl⟩
    · cases e
  · simp [itK] at e
theorem itK_r2 {ds items : List D} (e : itK .range2 ds = some items) : ∃ a b : Int, ds = [.int a, .int b] ∧ (-far ≤ a ∧ a < far ∧ -far ≤ b ∧ b < far ∧ b - a ≤ Fk.sizeLine) ∧ items = (List.range (b - a).toNat).map fun i : Nat => D.int (a + i) := by
  rcases ds with _ | ⟨d, _ | ⟨d2, _ | ⟨d3, r⟩⟩⟩
  · simp [itK] at e
  · simp [itK] at e
  · cases d <;> first | (simp [itK] at e; done) | skip
    cases d2 <;> first | (simp [itK] at e; done) | skip
    rename_i a b
    simp only [itK] at e
    split at e
    · rename_i h
      cases e
      exact ⟨a, b, rfl, h, rfl⟩
    · cases e
  · simp [itK] at e
theorem itK_z {ds items : List D} (e : itK .zip ds = some items) : ∃ a b xs ys, ds = [a, b] ∧ iterZ a = some xs ∧ iterZ b = some ys ∧ items = zipD xs ys := by
  rcases ds with _ | ⟨d, _ | ⟨d2, _ | ⟨d3, r⟩⟩⟩
  · simp [itK] at e
  · simp [itK] at e
  · simp only [itK] at e
    split at e
    · rename_i xs ys h1 h2
      cases e
      exact ⟨d, d2, xs, ys, rfl, h1, h2, rfl⟩
    · cases e
  · simp [itK] at e
theorem it_sound {g : G} {T : Tab} {cf : CF} {C : SC} {X : Cx} {W : WX} (hG : Good g T cf C X) {k : ItK} {its : List IE} {tg iter : Expr} {xs : List Expr} (htg : tgOk k tg = true) (ha : itArgs T C k iter = some xs) (hc : chkL T its C xs = true)
    (hL : PA X xs (tR (RepL g) g W (denL cf its))) (h1 : ∀ x, xs = [x] → ∃ e, its = [e] ∧ PE X x (tR (RepV g) g W (den cf e))) :
    PI X tg iter (tI g W fun env s => (denL cf its env s).bind fun ws s => match itK k ws with
      | Option.none => .bad
      | some items => .ok items s) ∧ ∀ x, foldedSetIterable iter X.env x = pure x := by
  unfold itArgs at ha
  split at ha
  · split at ha
    · rename_i hn
      cases ha
      obtain ⟨e, rfl, he⟩ := h1 _ rfl
      refine ⟨(iter_value (tg := tg) hG.K he).imp fun σ H R' ⟨env, s, φ, hE, hS, hP⟩ => ⟨env, s, φ, hE, hS, ?_⟩, folded_pure hn⟩
      have : ((denL cf [e] env s).bind fun ws s => match itK .val ws with
        | Option.none => .bad
        | some items => .ok items s) = ((den cf e env s).bind fun w s => match iterD w with
        | Option.none => .bad
        | some items => .ok items s) := by
        simp only [denL, R.bind_ok, R.assoc, itK]
      exact Eq.mp (congrArg (fun r => PostR (fun H φ items J => Walk g J items H φ ∧ items.length ≤ PySem.sizeLine) g H φ r R' (fun c d H => W c d σ H)) this) hP
    · cases ha
  · rename_i x p a pos
    split at ha
    · rename_i hn
      cases ha
      simp only [Bool.and_eq_true, beq_iff_eq] at hn
      obtain ⟨rfl, b⟩ := hn
      obtain ⟨b1, b2, b3, b4⟩ := hG.blt b
      have ns : starEach [a] X.env = [(false, eval a X.env)] := by
        cases its with
        | nil => unfold chkL at hc; cases hc
        | cons e es =>
          unfold chkL at hc
          simp only [Bool.and_eq_true] at hc
          exact star_cons hc.1.1
      refine ⟨(pi_range1 (tg := tg) b1 b2 hL ns).imp fun σ H R' ⟨env, s, φ, hE, hS, hP⟩ => ⟨env, s, φ, hE, hS, hP.bind fun ds s1 vs H1 φ1 x1 r1 v1 p1 => ?_⟩, fun _ => rfl⟩
      split at p1
      · exact p1.elim
      · rename_i items e
        obtain ⟨n, rfl, hn, rfl⟩ := itK_r1 e
        have z : (2 : Int) ^ 62 = 4611686018427387904 := by decide
        have z2 : Fk.sizeLine = 16777216 := rfl
        unfold far at hn
        refine ⟨n, repl_ints1 v1, by omega, by omega, ?_⟩
        have w := walk_rng (g := g) (H := H1) (φ := φ1) 0 n.toNat
        simp only [Int.zero_add] at w
        exact p1.here r1 ⟨w, by simp; rw [← sl_eq]; omega⟩
    · cases ha
  · rename_i x p a b' pos
    split at ha
    · rename_i hn
      cases ha
      simp only [Bool.and_eq_true, beq_iff_eq] at hn
      obtain ⟨rfl, b⟩ := hn
      obtain ⟨b1, b2, b3, b4⟩ := hG.blt b
      have ns : starEach [a, b'] X.env = (false, eval a X.env) :: starEach [b'] X.env ∧ starEach [b'] X.env = [(false, eval b' X.env)] := by
        cases its with
        | nil => unfold chkL at hc; cases hc
        | cons e es =>
          unfold chkL at hc
          simp only [Bool.and_eq_true] at hc
          cases es with
          | nil => have := hc.2; unfold chkL at this; cases this
          | cons e2 es =>
            have h2 := hc.2
            unfold chkL at h2
            simp only [Bool.and_eq_true] at h2
            exact ⟨star_cons hc.1.1, star_cons h2.1.1⟩
      cases tg <;> first | (simp [tgOk] at htg; done) | skip
      refine ⟨(pi_zipK b1 b2 hL ns.1 (by rw [ns.2]; rfl)).imp fun σ H R' ⟨env, s, φ, hE, hS, hP⟩ => ⟨env, s, φ, hE, hS, hP.bind fun ds s1 vs H1 φ1 x1 r1 v1 p1 => ?_⟩, fun _ => rfl⟩
      split at p1
      · exact p1.elim
      · rename_i items e
        obtain ⟨d1, d2, l1, l2, rfl, z1, z2, rfl⟩ := itK_z e
        obtain ⟨x, y, rfl, q1, q2⟩ := repl_2 v1
        obtain ⟨k1, vs1, e1, s1', z1'⟩ := src_of q1 z1
        obtain ⟨k2, vs2, e2, s2', z2'⟩ := src_of q2 z2
        rw [hG.K]
        exact ⟨k1, k2, vs1, vs2, by rw [e1, e2], s1'.src _ _ Ext.refl, s2'.src _ _ Ext.refl, p1.here r1 ⟨walk_zip s1' s2', by show (List.zipWith _ l1 l2).length ≤ _; rw [zip_len]; omega⟩⟩
    · cases ha
  · rename_i o n apos cpos
    split at ha
    · rename_i hn
      cases ha
      simp only [Bool.and_eq_true, beq_iff_eq] at hn
      obtain ⟨⟨rfl, c2⟩, c3⟩ := hn
      obtain ⟨e, rfl, he⟩ := h1 _ rfl
      cases tg <;> first | (simp [tgOk] at htg; done) | skip
      refine ⟨(iter_items hG.K he (base_plain c2) (by rw [beq_iff_eq]; exact c3)).imp fun σ H R' ⟨env, s, φ, hE, hS, hP⟩ => ⟨env, s, φ, hE, hS, ?_⟩, fun _ => rfl⟩
      have : ((denL cf [e] env s).bind fun ws s => match itK .items ws with
        | Option.none => .bad
        | some items => .ok items s) = ((den cf e env s).bind fun w s => match w with
        | .dic ks vs => .ok (pairsD ks vs) s
        | _ => .bad) := by
        simp only [denL, R.bind_ok, R.assoc]
        congr 1
        funext w s
        cases w <;> rfl
      exact Eq.mp (congrArg (fun r => PostR (fun H φ items J => Walk g J items H φ ∧ items.length ≤ PySem.sizeLine) g H φ r R' (fun c d H => W c d σ H)) this) hP
    · cases ha
  · rename_i o n apos cpos
    split at ha
    · rename_i hn
      cases ha
      simp only [Bool.and_eq_true, beq_iff_eq] at hn
      obtain ⟨⟨rfl, c2⟩, c3⟩ := hn
      obtain ⟨e, rfl, he⟩ := h1 _ rfl
      refine ⟨(iter_vals hG.K he (base_plain c2) (by rw [beq_iff_eq]; exact c3)).imp fun σ H R' ⟨env, s, φ, hE, hS, hP⟩ => ⟨env, s, φ, hE, hS, ?_⟩, fun _ => rfl⟩
      have : ((denL cf [e] env s).bind fun ws s => match itK .values ws with
        | Option.none => .bad
        | some items => .ok items s) = ((den cf e env s).bind fun w s => match w with
        | .dic _ vs => .ok vs s
        | _ => .bad) := by
        simp only [denL, R.bind_ok, R.assoc]
        congr 1
        funext w s
        cases w <;> rfl
      exact Eq.mp (congrArg (fun r => PostR (fun H φ items J => Walk g J items H φ ∧ items.length ≤ PySem.sizeLine) g H φ r R' (fun c d H => W c d σ H)) this) hP
    · cases ha
  · rename_i x p a b' pos
    split at ha
    · rename_i hn
      cases ha
      simp only [Bool.and_eq_true, beq_iff_eq] at hn
      obtain ⟨rfl, b⟩ := hn
      obtain ⟨b1, b2, b3, b4⟩ := hG.blt b
      have ns : starEach [a, b'] X.env = [(false, eval a X.env), (false, eval b' X.env)] ∧ starEach [b'] X.env = [(false, eval b' X.env)] := by
        cases its with
        | nil => unfold chkL at hc; cases hc
        | cons e es =>
          unfold chkL at hc
          simp only [Bool.and_eq_true] at hc
          cases es with
          | nil => have := hc.2; unfold chkL at this; cases this
          | cons e2 es =>
            have h2 := hc.2
            unfold chkL at h2
            simp only [Bool.and_eq_true] at h2
            have q2 : starEach [b'] X.env = [(false, eval b' X.env)] := star_cons h2.1.1
            exact ⟨by rw [star_cons hc.1.1, q2], q2⟩
      refine ⟨(pi_range2 (tg := tg) b1 b2 hL ns.1 ns.2).imp fun σ H R' ⟨env, s, φ, hE, hS, hP⟩ => ⟨env, s, φ, hE, hS, hP.bind fun ds s1 vs H1 φ1 x1 r1 v1 p1 => ?_⟩, fun _ => rfl⟩
      split at p1
      · exact p1.elim
      · rename_i items e
        obtain ⟨i, j, rfl, hn, rfl⟩ := itK_r2 e
        have z : (2 : Int) ^ 62 = 4611686018427387904 := by decide
        have z2 : Fk.sizeLine = 16777216 := rfl
        unfold far at hn
        obtain ⟨x, y, rfl, q1, q2⟩ := repl_2 v1
        refine ⟨i, j, by rw [repv_int q1, repv_int q2], by omega, ?_⟩
        exact p1.here r1 ⟨walk_rng i (j - i).toNat, by simp; rw [← sl_eq]; omega⟩
    · cases ha
  · cases ha

mutual
theorem snd_E {g : G} {T : Tab} {cf : CF} : ∀ (e : IE) (C : SC) (X : Cx) (x : Expr) (W : WX), Good g T cf C X → Takes X W → chkE T e C x = true → Snd g W cf e X x
  | .nop, C, X, x, W, hG, tk, c => by unfold chkE at c; cases c
  | .c d, C, X, x, W, hG, tk, c => by
    unfold chkE at c
    split at c
    · rename_i k _ _
      refine snd_plain ?_ rfl
      unfold constB at c
      split at c
      · exact pe_non.imp fun σ H Q ⟨env, s, φ, hE, hS, hP⟩ => hP.here hS repv_of_none
      · have := beq_iff_eq.mp c; subst this
        exact pe_bl.imp fun σ H Q ⟨env, s, φ, hE, hS, hP⟩ => hP.here hS repv_of_bl
      · have := beq_iff_eq.mp c; subst this
        exact pe_int.imp fun σ H Q ⟨env, s, φ, hE, hS, hP⟩ => hP.here hS repv_of_int
      · rename_i z zs
        have := beq_iff_eq.mp c; subst this
        refine pe_str.imp fun σ H Q ⟨env, s, φ, hE, hS, hP⟩ => ?_
        have q := hP.here hS repv_of_str
        exact q
      · cases c
    · rename_i y _
      refine snd_plain ?_ rfl
      split at c
      · rename_i t
        simp only [Bool.and_eq_true, decide_eq_true_eq, beq_iff_eq] at c
        obtain ⟨⟨c1, rfl⟩, c3⟩ := c
        obtain ⟨b1, b2, b3, b4⟩ := hG.blt c3
        refine (pe_bltn (v := .ty (tyName t)) b1 b2 (ty_boot t c1) rfl b3 b4).imp fun σ H Q ⟨env, s, φ, hE, hS, hP⟩ => hP.here hS ?_
        unfold RepV; rfl
      · simp only [Bool.and_eq_true] at c
        obtain ⟨⟨c1, c2⟩, c3⟩ := c
        split at c3
        · rename_i l e
          have := D.beq_eq _ _ c3
          obtain ⟨u, v, h1, h2, h3⟩ := hG.tab.tabs _ _ e
          unfold isDbg at c2
          simp only [Bool.not_eq_true', Bool.or_eq_false_iff] at c2
          exact (pe_glob (v := v) (hG.gl c1) (by rw [hG.mg]; exact h1) h2 c2.1).imp fun σ H Q ⟨env, s, φ, hE, hS, hP⟩ => hP.here hS (this ▸ h3 _ _)
        · cases c3
      · simp only [Bool.and_eq_true] at c
        obtain ⟨⟨c1, c2⟩, c3⟩ := c
        split at c3
        · rename_i d' e
          have := D.beq_eq _ _ c3
          subst this
          obtain ⟨u, v, h1, h2, h3⟩ := hG.tab.consts _ _ e
          unfold isDbg at c2
          simp only [Bool.not_eq_true', Bool.or_eq_false_iff] at c2
          exact (pe_glob (v := v) (hG.gl c1) (by rw [hG.mg]; exact h1) h2 c2.1).imp fun σ H Q ⟨env, s, φ, hE, hS, hP⟩ => hP.here hS (h3 _ _)
        · cases c3
    · cases c
  | .v i, C, X, x, W, hG, tk, c => by
    unfold chkE at c
    split at c
    · rename_i y _
      refine snd_plain ?_ rfl
      simp only [Bool.and_eq_true, beq_iff_eq] at c
      obtain ⟨⟨c1, c2⟩, c3⟩ := c
      unfold isDbg at c3
      simp only [Bool.not_eq_true', Bool.or_eq_false_iff] at c3
      refine (pe_var (i := i) (by rw [hG.N]; exact c1) (hG.vis c2) c3.1 c3.2).imp fun σ H Q ⟨env, s, φ, hE, hS, hP⟩ => ?_
      simp only [den] at hP
      split at hP
      · rename_i d e
        obtain ⟨v, h1, h2⟩ := hE.at_ i d e
        exact ⟨v, h1, hP.here hS h2⟩
      · exact hP.elim
    · cases c
  | .bin o t a b, C, X, x, W, hG, tk, c => by
    unfold chkE at c
    split at c
    · rename_i l op r _
      simp only [Bool.and_eq_true, beq_iff_eq] at c
      obtain ⟨⟨rfl, c2⟩, c3⟩ := c
      exact snd_plain ((pe_op (op_bin o t hG.K.symm) (snd_E a C X l W hG tk c2).pe (snd_E b C X r W hG tk c3).pe).imp fun σ H Q h => wk2 (tR_congr h fun _ _ => by simp only [den])) rfl
    · cases c
  | .neg a, C, X, x, W, hG, tk, c => by
    unfold chkE at c
    split at c
    · rename_i l _
      refine snd_plain ((pe_un un_neg (snd_E a C X l W hG tk c).pe).imp fun σ H Q h => ?_) rfl
      simp only [den] at h
      refine tR_bind h fun d v env s H1 φ1 hE hS hv hP => ?_
      cases d with
      | int i => exact ⟨i, repv_int hv, hP.here hS repv_of_int⟩
      | _ => exact hP.elim
    · cases c
  | .cmp o a b, C, X, x, W, hG, tk, c => by
    unfold chkE at c
    split at c
    · rename_i l op r _
      simp only [Bool.and_eq_true, beq_iff_eq, Bool.not_eq_true'] at c
      obtain ⟨⟨⟨rfl, c1⟩, c2⟩, c3⟩ := c
      have A := (snd_E a C X l W hG tk c2).pe
      have B := (snd_E b C X r W hG tk c3).pe
      refine ⟨(pe_cmpR (op_cmp o hG.units hG.K.symm hG.w.symm) A B c1).imp fun σ H Q h => wk2 (tR_congr h fun _ _ => by simp only [den]), (pt_cmpR (op_cmp o hG.units hG.K.symm hG.w.symm) A B c1).imp fun σ H Q h => wk2T (tR_congr h fun _ _ => by simp only [denB, den])⟩
    · cases c
  | .chain o1 o2 a b k, C, X, x, W, hG, tk, c => by
    unfold chkE at c
    split at c
    · rename_i l p1 p2 m r _
      simp only [Bool.and_eq_true, beq_iff_eq, Bool.not_eq_true'] at c
      obtain ⟨⟨⟨⟨⟨rfl, rfl⟩, c1⟩, c2⟩, c3⟩, c4⟩ := c
      have A := (snd_E a C X l W hG tk c2).pe
      have B := (snd_E b C X m W hG tk c3).pe
      have K := (snd_E k C X r W hG tk c4).pe
      have body : ∀ (σ : L2.St) (H : Hp) (Q : VK), tR (RepV g) g W (den cf (.chain o1 o2 a b k)) σ H Q → tChain (rS2 g (cmpD o1)) (rS2 g (cmpD o2)) (tR (RepV g) g W (den cf a)) (tR (RepV g) g W (den cf b)) (tR (RepV g) g W (den cf k)) σ H Q := fun σ H Q h => by
        simp only [den] at h
        refine tR_bind h fun d v env s H1 φ1 hE hS hv hP => ?_
        refine ⟨env, s, φ1, hE, hS, hP.bind fun d2 s2 y H2 φ2 x2 r2 v2 p2 => ?_⟩
        refine ⟨d, d2, s2, φ2, r2, RepV.ext x2 d hv, v2, _, p2.bind fun d3 s3 z H3 φ3 x3 r3 v3 p3 => ?_⟩
        obtain ⟨bb, rfl, _, p4⟩ := p3.asB v3
        refine ⟨bb, rfl, ?_⟩
        cases bb with
        | false => exact p4.here r3 repv_of_bl
        | true =>
          refine ⟨env, s3, φ3, (hE.ext x2).ext x3, r3, p4.bind fun d5 s5 w H5 φ5 x5 r5 v5 p5 => ?_⟩
          exact ⟨d2, d5, s5, φ5, r5, RepV.ext x5 d2 (RepV.ext x3 d2 v2), v5, _, p5⟩
      refine ⟨(pe_chain (op_cmp o1 hG.units hG.K.symm hG.w.symm) (op_cmp o2 hG.units hG.K.symm hG.w.symm) A B K c1).imp body, (pt_chain (op_cmp o1 hG.units hG.K.symm hG.w.symm) (op_cmp o2 hG.units hG.K.symm hG.w.symm) A B K c1).imp fun σ H Q h => ?_⟩
      exact body σ H _ (wkT h)
    · cases c
  | .and a b, C, X, x, W, hG, tk, c => by
    have val : ∀ {x y : Expr} {r : List Expr} {pos : Pos}, PE X x (tR (RepV g) g W (den cf a)) → PE X (.BoolOp .And (y :: r) pos) (tR (RepV g) g W (den cf b)) → PE X (.BoolOp .And (x :: y :: r) pos) (tR (RepV g) g W (den cf (.and a b))) := fun A B => (pe_and A B).imp fun σ H Q h => by
      simp only [den] at h
      refine tR_bind h fun d v env s H1 φ1 hE hS hv hP => ?_
      obtain ⟨k, rfl, _, p⟩ := hP.asB hv
      refine ⟨k, rfl, ?_⟩
      cases k with
      | true => exact ⟨env, s, φ1, hE, hS, p⟩
      | false => exact p.here hS repv_of_bl
    have tst : ∀ {x y : Expr} {r : List Expr} {pos : Pos}, PT X x (tR bEq g W (denB cf a)) → PW X (.BoolOp .And (y :: r) pos) (tR bEq g W (denB cf b)) → PT X (.BoolOp .And (x :: y :: r) pos) (tR bEq g W (denB cf (.and a b))) := fun A B => (pw_and A B).pt.imp fun σ H Q h => by
      have h' := tR_congr (m' := fun env s => (denB cf a env s).bind fun k s => if k then denB cf b env s else .ok false s) h fun env s => by
        simp only [denB, den]
        rw [R.assoc, R.assoc]
        cases den cf a env s with
        | ok d s => cases d <;> first | rfl | (rename_i k; cases k <;> rfl)
        | err _ _ => rfl
        | bad => rfl
      refine tR_bind h' fun k k' env s H1 φ1 hE hS hv hP => ?_
      have hv' : k = k' := hv
      subst hv'
      cases k with
      | true => exact ⟨env, s, φ1, hE, hS, hP⟩
      | false => exact hP.here hS rfl
    unfold chkE at c
    split at c
    · rename_i x1 y1 _
      simp only [Bool.and_eq_true] at c
      have A := snd_E a C X x1 W hG tk c.1
      have B := snd_E b C X y1 W hG tk c.2
      exact ⟨val A.pe (pe_one B.pe), tst A.pt (pw_and1 B.pt)⟩
    · rename_i x1 y1 z1 r1 pos
      simp only [Bool.and_eq_true] at c
      have A := snd_E a C X x1 W hG tk c.1
      have B := snd_E b C X _ W hG tk c.2
      exact ⟨val A.pe B.pe, tst A.pt (pw_of B.pt)⟩
    · cases c
  | .or a b, C, X, x, W, hG, tk, c => by
    have val : ∀ {x y : Expr} {r : List Expr} {pos : Pos}, PE X x (tR (RepV g) g W (den cf a)) → PE X (.BoolOp .Or (y :: r) pos) (tR (RepV g) g W (den cf b)) → PE X (.BoolOp .Or (x :: y :: r) pos) (tR (RepV g) g W (den cf (.or a b))) := fun A B => (pe_or A B).imp fun σ H Q h => by
      simp only [den] at h
      refine tR_bind h fun d v env s H1 φ1 hE hS hv hP => ?_
      obtain ⟨k, rfl, _, p⟩ := hP.asB hv
      refine ⟨k, rfl, ?_⟩
      cases k with
      | false => exact ⟨env, s, φ1, hE, hS, p⟩
      | true => exact p.here hS repv_of_bl
    have tst : ∀ {x y : Expr} {r : List Expr} {pos : Pos}, PT X x (tR bEq g W (denB cf a)) → PW X (.BoolOp .Or (y :: r) pos) (tR bEq g W (denB cf b)) → PT X (.BoolOp .Or (x :: y :: r) pos) (tR bEq g W (denB cf (.or a b))) := fun A B => (pw_or A B).pt.imp fun σ H Q h => by
      have h' := tR_congr (m' := fun env s => (denB cf a env s).bind fun k s => if k then .ok true s else denB cf b env s) h fun env s => by
        simp only [denB, den]
        rw [R.assoc, R.assoc]
        cases den cf a env s with
        | ok d s => cases d <;> first | rfl | (rename_i k; cases k <;> rfl)
        | err _ _ => rfl
        | bad => rfl
      refine tR_bind h' fun k k' env s H1 φ1 hE hS hv hP => ?_
      have hv' : k = k' := hv
      subst hv'
      cases k with
      | false => exact ⟨env, s, φ1, hE, hS, hP⟩
      | true => exact hP.here hS rfl
    unfold chkE at c
    split at c
    · rename_i x1 y1 _
      simp only [Bool.and_eq_true] at c
      have A := snd_E a C X x1 W hG tk c.1
      have B := snd_E b C X y1 W hG tk c.2
      exact ⟨val A.pe (pe_one B.pe), tst A.pt (pw_or1 B.pt)⟩
    · rename_i x1 y1 z1 r1 pos
      simp only [Bool.and_eq_true] at c
      have A := snd_E a C X x1 W hG tk c.1
      have B := snd_E b C X _ W hG tk c.2
      exact ⟨val A.pe B.pe, tst A.pt (pw_of B.pt)⟩
    · cases c
  | .not a, C, X, x, W, hG, tk, c => by
    unfold chkE at c
    split at c
    · rename_i y _
      have A := snd_E a C X y W hG tk c
      refine ⟨(pe_not A.pe).imp fun σ H Q h => ?_, (pt_not A.pt).imp fun σ H Q h => ?_⟩
      · simp only [den] at h
        refine tR_bind h fun d v env s H1 φ1 hE hS hv hP => ?_
        obtain ⟨k, rfl, _, p⟩ := hP.asB hv
        exact ⟨k, rfl, p.here hS repv_of_bl⟩
      · have h' := tR_congr (m' := fun env s => (denB cf a env s).bind fun k s => .ok (!k) s) h fun env s => by
          simp only [denB, den]
          rw [R.assoc, R.assoc]
          cases den cf a env s with
          | ok d s => cases d <;> rfl
          | err _ _ => rfl
          | bad => rfl
        refine tR_bind h' fun k k' env s H1 φ1 hE hS hv hP => ?_
        have hv' : k = k' := hv
        subst hv'
        exact hP.here hS rfl
    · cases c
  | .ite k a b, C, X, x, W, hG, tk, c => by
    unfold chkE at c
    split at c
    · rename_i t1 x1 y1 _
      simp only [Bool.and_eq_true] at c
      have K := snd_E k C X t1 W hG tk c.1.1
      have A := snd_E a C X x1 W hG tk c.1.2
      have B := snd_E b C X y1 W hG tk c.2
      refine ⟨(pe_ifExp K.pt A.pe B.pe).imp fun σ H Q h => ?_, (pt_ifExp K.pt A.pt B.pt).imp fun σ H Q h => ?_⟩
      · have h' := tR_congr (m' := fun env s => (denB cf k env s).bind fun k s => if k then den cf a env s else den cf b env s) h fun env s => by
          simp only [denB, den]
          rw [R.assoc]
          cases den cf k env s with
          | ok d s => cases d <;> rfl
          | err _ _ => rfl
          | bad => rfl
        refine tR_bind h' fun k k' env s H1 φ1 hE hS hv hP => ?_
        have hv' : k = k' := hv
        subst hv'
        cases k with
        | true => exact ⟨env, s, φ1, hE, hS, hP⟩
        | false => exact ⟨env, s, φ1, hE, hS, hP⟩
      · have h' := tR_congr (m' := fun env s => (denB cf k env s).bind fun k s => if k then denB cf a env s else denB cf b env s) h fun env s => by
          simp only [denB, den]
          rw [R.assoc, R.assoc]
          cases den cf k env s with
          | ok d s => cases d <;> first | rfl | (rename_i k; cases k <;> rfl)
          | err _ _ => rfl
          | bad => rfl
        refine tR_bind h' fun k k' env s H1 φ1 hE hS hv hP => ?_
        have hv' : k = k' := hv
        subst hv'
        cases k with
        | true => exact ⟨env, s, φ1, hE, hS, hP⟩
        | false => exact ⟨env, s, φ1, hE, hS, hP⟩
    · cases c
  | .tup es, C, X, x, W, hG, tk, c => by
    unfold chkE at c
    split at c
    · rename_i xs _ _
      simp only [Bool.and_eq_true, decide_eq_true_eq] at c
      refine snd_plain ((pe_tup (snd_L es C X xs W hG tk c.2)).imp fun σ H Q ⟨env, s, φ, hE, hS, hP⟩ => ⟨env, s, φ, hE, hS, ?_⟩) rfl
      simp only [den] at hP
      refine PostR.bindE Ext.refl hP fun ds s1 vs H1 φ1 e x1 r1 v1 p1 => ?_
      have z : vs.length ≤ PySem.sizeLine := by
        rw [← v1.length, denL_len es e, chkL_len es xs c.2, ← sl_eq]
        exact Nat.le_trans c.1 (by decide)
      exact ⟨z, fun p hp => new_tup r1 (p1.ext x1) v1 z hp⟩
    · cases c
  | .lst t es, C, X, x, W, hG, tk, c => by
    unfold chkE at c
    split at c
    · rename_i xs _
      simp only [Bool.and_eq_true, decide_eq_true_eq] at c
      refine snd_plain ((pe_lst (snd_L es C X xs W hG tk c.2)).imp fun σ H Q ⟨env, s, φ, hE, hS, hP⟩ => ⟨env, s, φ, hE, hS, ?_⟩) rfl
      simp only [den] at hP
      refine PostR.bindE Ext.refl hP fun ds s1 vs H1 φ1 e x1 r1 v1 p1 => ?_
      have z : vs.length ≤ PySem.sizeLine := by
        rw [← v1.length, denL_len es e, chkL_len es xs c.2, ← sl_eq]
        exact Nat.le_trans c.1 (by decide)
      exact ⟨z, fun p hp => new_fin r1 (p1.ext x1) v1 z hp⟩
    · cases c
  | .dic t es, C, X, x, W, hG, tk, c => by
    unfold chkE at c
    split at c
    · rename_i ks vs pos
      simp only [Bool.and_eq_true, decide_eq_true_eq] at c
      obtain ⟨l1, l2, l3⟩ := chkD_len es ks vs c.2
      refine snd_plain ?_ rfl
      cases hk : ks with
      | nil =>
        subst hk
        have : vs = [] := List.length_eq_zero_iff.mp l2.symm
        subst this
        have : es = [] := List.length_eq_zero_iff.mp (by simpa using l1)
        subst this
        refine (pe_recast hG.w.symm pe_dnewK).imp fun σ H Q ⟨env, s, φ, hE, hS, hP⟩ => fun p hp => ⟨p, [], [], rfl, upd_same, rfl, ksOk_nil, fun k hk => (by cases hk), fun o xs d1 d2 => ?_⟩
        simp only [den, denL, R.bind_ok, Fk.pairsOf, List.all_nil, noDup, Bool.and_self, if_true] at hP
        rw [upd_upd]
        exact new_finD hS hP d1 (d2 H φ) (by simp [RepL]) hp
      | cons k0 kr =>
        rw [← hk]
        obtain ⟨trs, hp, hq⟩ := snd_D es C X ks vs W pos hG tk c.2
        refine (pe_recast hG.w.symm (pe_disp hp l3 l2 (by rw [hk]; exact List.cons_ne_nil _ _) c.1)).imp fun σ H Q ⟨env, s, φ, hE, hS, hP⟩ => fun p hpn => ?_
        simp only [den] at hP
        have x0 : Ext H φ (upd H p (.dK [])) (φ.hide p) := Ext.hide hpn _
        refine hq _ _ _ ⟨env, s, φ.hide p, hE.ext x0, hS.hide hpn _, PostR.bindE x0 hP fun ds s1 us H2 φ2 e x2 r2 v2 p2 => ?_⟩
        have h2 : H2 p = some (.dK []) := x2.keep p _ (.inr List.mem_cons_self) upd_same
        refine ⟨h2, ?_⟩
        split at p2
        · rename_i ks' vs' e2
          split at p2
          · rename_i hkeys
            rw [Bool.and_eq_true] at hkeys
            obtain ⟨ys, q1, q2, q3, q4⟩ := prs_keys v2 e2 hkeys.1
            have hl := denL_len es e
            have kp := fun k hk => leafK_ok (List.all_eq_true.mp hkeys.1 k hk)
            have nd := noDup_ok hkeys.2
            have K : KsOk ks' := ⟨nd, fun k hk => ⟨(kp k hk).1, (kp k hk).2.1⟩, fun i hi j hj => by rw [(kp i hi).2.2, (kp j hj).2.2], by rw [← sl_eq]; unfold Fk.sizeLine; omega⟩
            have ndk : ((ks'.map keyK).zip ys).map (·.1) = ks'.map keyK := by rw [List.map_fst_zip (by simp; omega)]
            have mk : mergeK [] ((ks'.map keyK).zip ys) = (ks'.map keyK).zip ys := by
              rw [mergeK_nodup _ _ (by
                rw [List.nil_append, ndk]
                exact List.pairwise_map.mpr (nd.imp_of_mem fun {a b} ha hb hab e => hab (keyK_inj (kp a ha).1 (kp b hb).1 (kp a ha).2.2 (kp b hb).2.2 e)))]
              rfl
            refine ⟨_, q1, by simp; omega, p, ks', ys, rfl, ?_, q2, K, fun k hk => (kp k hk).2.2, fun o xs d1 d2 => ?_⟩
            · rw [mk]; exact upd_same
            rw [upd_upd]
            have lp : p ∈ φ2.p := x2.sub p List.mem_cons_self
            have sub : ∀ a ∈ φ.p, a ∈ φ2.p := fun a ha => x2.sub a (List.mem_cons_of_mem _ ha)
            have x3 := ((x0.trans x2).poke hpn (dO p o))
            have b3 := bears_poke (H := H2) lp (dO p o)
            have np : p ∉ φ.p := fun l => by
              obtain ⟨u, q⟩ := hS.priv p l
              rw [hpn] at q; cases q
            cases t with
            | false =>
              refine p2 _ _ _ (x3.show_ sub) ((r2.poke lp _).show_ sub) ?_
              unfold RepV
              refine ⟨p, o, xs, ys, rfl, ?_, upd_same, d1, d2 _ _, RepL.bear (bears_show sub) _ (RepL.bear b3 _ q4)⟩
              rintro (⟨j, hj⟩ | l)
              · exact r2.sep j p hj lp
              · exact np l
            | true =>
              unfold finD Fk.alloc at p2
              simp only [if_true] at p2
              split at p2
              · rename_i pu
                unfold O.pure at pu
                rw [Bool.and_eq_true] at pu
                have b4 : Bears (upd H2 p (dO p o)) φ2 (upd H2 p (dO p o)) ⟨φ2.o ++ [some p], φ.p⟩ := bears_adopt lp sub
                have x4 : Ext H φ (upd H2 p (dO p o)) ⟨φ2.o ++ [some p], φ.p⟩ := by
                  refine ⟨by have := x3.len; simp; omega, fun j a hj h => x3.old j a hj ?_, fun a l => ?_, x3.keep, x3.dom, fun _ z => z⟩
                  · have h' : (φ2.o ++ [some p])[j]? = some (some a) := h
                    rw [List.getElem?_append_left (by have := x3.len; omega)] at h'; exact h'
                  · rcases l with ⟨j, hj⟩ | l
                    · rcases snoc_get hj with ⟨_, z⟩ | ⟨_, z⟩
                      · exact x3.lv a (.inl ⟨j, z⟩)
                      · rw [z]; exact .inr hpn
                    · exact .inl (.inr l)
                refine p2 _ _ _ x4 ((r2.poke lp _).adopt (o := .dic ks' vs') lp sub np (fun z => nomatch z) ⟨o, xs, ys, upd_same, d1, d2 _ _, RepL.bear b4 _ (RepL.bear b3 _ q4), pu.1, pu.2⟩) ?_
                unfold RepV
                refine ⟨by simp [r2.len], ⟨p, rfl⟩, fun a ha => ?_⟩
                have ha' : (φ2.o ++ [some p])[s1.length]? = some (some a) := ha
                rw [← r2.len, List.getElem?_append_right (Nat.le_refl _)] at ha'
                simp at ha'
                rw [ha']
              · exact p2.elim
          · exact p2.elim
        · exact p2.elim
    · cases c
  | .pop o i, C, X, x, W, hG, tk, c => by
    unfold chkE at c
    split at c
    · rename_i ob n apos y pos
      simp only [Bool.and_eq_true, beq_iff_eq] at c
      obtain ⟨⟨⟨⟨⟨rfl, c2⟩, c3⟩, c4⟩, c5⟩, c6⟩ := c
      have A := (snd_E o C X ob W hG tk c5).pe
      have B := (snd_E i C X y W hG tk c6).pe
      refine snd_plain ?_ rfl
      refine (pe_bm PySem.F.plainAttrs_list PySem.F.slot_list_pop PySem.F.type_list_pop mt_popAt A (pa_cons B pa_nil (star_cons c4)) (base_plain c2) (by rw [star_cons c4]; rfl) (by rw [beq_iff_eq]; exact c3) (star_cons c4) rfl).imp fun σ H Q h => ?_
      simp only [den] at h
      refine tR_bind h fun d v env s H1 φ1 hE hS hv hP => ?_
      obtain ⟨r, ds, rfl, e1, hP⟩ := lst_chk hP
      obtain ⟨a, vs, q1, q2, q3, q4, q5⟩ := hS.lst r ds e1
      have hv' := hv
      unfold RepV at hv'
      have hx := hv'.2.2 a q1
      subst hx
      refine ⟨.inl ⟨rfl, vs, SqL.of q2⟩, env, s, φ1, hE, hS, hP.bind fun k s2 kv H2 φ2 x2 r2 v2 p2 => ?_⟩
      exact pop_fin r2 (RepV.ext x2 _ hv) v2 p2
    · cases c
  | .popl o, C, X, x, W, hG, tk, c => by
    unfold chkE at c
    split at c
    · rename_i ob n apos pos
      simp only [Bool.and_eq_true, beq_iff_eq] at c
      obtain ⟨⟨⟨rfl, c2⟩, c3⟩, c5⟩ := c
      have A := (snd_E o C X ob W hG tk c5).pe
      refine snd_plain ?_ rfl
      refine (pe_bm0 PySem.F.plainAttrs_list PySem.F.slot_list_pop PySem.F.type_list_pop mt_pop A (base_plain c2) (by rw [beq_iff_eq]; exact c3)).imp fun σ H Q h => ?_
      simp only [den] at h
      refine tR_bind h fun d v env s H1 φ1 hE hS hv hP => ?_
      obtain ⟨r, ds, rfl, e1, hP⟩ := lst_chk hP
      obtain ⟨a, vs, q1, q2, q3, q4, q5⟩ := hS.lst r ds e1
      have hv' := hv
      unfold RepV at hv'
      have hx := hv'.2.2 a q1
      subst hx
      exact ⟨.inl ⟨rfl, vs, SqL.of q2⟩, popl_fin hS hv hP⟩
    · cases c
  | .get o k, C, X, x, W, hG, tk, c => by
    unfold chkE at c
    split at c
    · rename_i ob n apos y pos
      simp only [Bool.and_eq_true, beq_iff_eq] at c
      obtain ⟨⟨⟨⟨⟨rfl, c2⟩, c3⟩, c4⟩, c5⟩, c6⟩ := c
      have A := (snd_E o C X ob W hG tk c5).pe
      have B := (snd_E k C X y W hG tk c6).pe
      refine snd_plain ?_ rfl
      refine (pe_bmD PySem.F.slot_dict_get PySem.F.type_dict_get (mt_getD hG.units hG.w.symm hG.K.symm) A (pa_cons B pa_nil (star_cons c4)) (base_plain c2) (by rw [star_cons c4]; rfl) (by rw [beq_iff_eq]; exact c3) (star_cons c4) rfl).imp fun σ H Q h => ?_
      simp only [den] at h
      refine tR_bind h fun d v env s H1 φ1 hE hS hv hP => ?_
      obtain ⟨e1, hP⟩ := dic_chk hS hv hP
      refine ⟨e1, env, s, φ1, hE, hS, hP.bind fun kd s2 kv H2 φ2 x2 r2 v2 p2 => ?_⟩
      exact env_nil [kd] [kv] r2 (RepV.ext x2 _ hv) (by unfold RepL; exact ⟨kv, [], rfl, v2, by simp [RepL]⟩) p2
    · cases c
  | .getd o k d, C, X, x, W, hG, tk, c => by
    unfold chkE at c
    split at c
    · rename_i ob n apos y z pos
      simp only [Bool.and_eq_true, beq_iff_eq] at c
      obtain ⟨⟨⟨⟨⟨⟨⟨rfl, c2⟩, c3⟩, c4⟩, c4'⟩, c5⟩, c6⟩, c7⟩ := c
      have A := (snd_E o C X ob W hG tk c5).pe
      have B := (snd_E k C X y W hG tk c6).pe
      have B2 := (snd_E d C X z W hG tk c7).pe
      refine snd_plain ?_ rfl
      refine (pe_bmD PySem.F.slot_dict_get PySem.F.type_dict_get (mt_getD hG.units hG.w.symm hG.K.symm) A (pa_cons B (pa_cons B2 pa_nil (star_cons c4')) (star_cons c4)) (base_plain c2) (by rw [star_cons c4, star_cons c4']; rfl) (by rw [beq_iff_eq]; exact c3) (star_cons c4) (by rw [star_cons c4']; rfl)).imp fun σ H Q h => ?_
      simp only [den] at h
      refine tR_bind h fun dd v env s H1 φ1 hE hS hv hP => ?_
      obtain ⟨e1, hP⟩ := dic_chk hS hv hP
      refine ⟨e1, env, s, φ1, hE, hS, hP.bind fun kd s2 kv H2 φ2 x2 r2 v2 p2 => ?_⟩
      refine ⟨env, s2, φ2, hE.ext x2, r2, p2.bind fun zd s3 zv H3 φ3 x3 r3 v3 p3 => ?_⟩
      exact env_nil [kd, zd] [kv, zv] r3 (RepV.ext x3 _ (RepV.ext x2 _ hv)) (by unfold RepL; exact ⟨kv, [zv], rfl, RepV.ext x3 _ v2, by unfold RepL; exact ⟨zv, [], rfl, v3, by simp [RepL]⟩⟩) p3
    · cases c
  | .dpop o k d, C, X, x, W, hG, tk, c => by
    unfold chkE at c
    split at c
    · rename_i ob n apos y z pos
      simp only [Bool.and_eq_true, beq_iff_eq] at c
      obtain ⟨⟨⟨⟨⟨⟨⟨rfl, c2⟩, c3⟩, c4⟩, c4'⟩, c5⟩, c6⟩, c7⟩ := c
      have A := (snd_E o C X ob W hG tk c5).pe
      have B := (snd_E k C X y W hG tk c6).pe
      have B2 := (snd_E d C X z W hG tk c7).pe
      refine snd_plain ?_ rfl
      refine (pe_bmD PySem.F.slot_dict_pop PySem.F.type_dict_pop (mt_dpop hG.units hG.w.symm hG.K.symm) A (pa_cons B (pa_cons B2 pa_nil (star_cons c4')) (star_cons c4)) (base_plain c2) (by rw [star_cons c4, star_cons c4']; rfl) (by rw [beq_iff_eq]; exact c3) (star_cons c4) (by rw [star_cons c4']; rfl)).imp fun σ H Q h => ?_
      simp only [den] at h
      refine tR_bind h fun dd v env s H1 φ1 hE hS hv hP => ?_
      obtain ⟨e1, hP⟩ := dic_chk hS hv hP
      refine ⟨e1, env, s, φ1, hE, hS, hP.bind fun kd s2 kv H2 φ2 x2 r2 v2 p2 => ?_⟩
      refine ⟨env, s2, φ2, hE.ext x2, r2, p2.bind fun zd s3 zv H3 φ3 x3 r3 v3 p3 => ?_⟩
      exact env_nil [kd, zd] [kv, zv] r3 (RepV.ext x3 _ (RepV.ext x2 _ hv)) (by unfold RepL; exact ⟨kv, [zv], rfl, RepV.ext x3 _ v2, by unfold RepL; exact ⟨zv, [], rfl, v3, by simp [RepL]⟩⟩) p3
    · cases c
  | .sorts _ _, C, X, x, W, hG, tk, c => by unfold chkE at c; cases c
  | .sort0 _ _, C, X, x, W, hG, tk, c => by unfold chkE at c; cases c
  | .sorti _ _, C, X, x, W, hG, tk, c => by unfold chkE at c; cases c
  | .isin _ _, C, X, x, W, hG, tk, c => by unfold chkE at c; cases c
  | .sub a i, C, X, x, W, hG, tk, c => by
    unfold chkE at c
    split at c
    · rename_i y z _
      simp only [Bool.and_eq_true] at c
      exact snd_plain ((pe_ix (ix_sub hG.units hG.K.symm hG.w.symm) (snd_E a C X y W hG tk c.1.2).pe (snd_E i C X z W hG tk c.2).pe (ix_plain c.1.1)).imp fun σ H Q h => wk2 (tR_congr h fun _ _ => by simp only [den])) rfl
    · cases c
  | .sl t a lo hi, C, X, x, W, hG, tk, c => by
    unfold chkE at c
    split at c
    · rename_i y l h _ _
      simp only [Bool.and_eq_true] at c
      obtain ⟨⟨c1, c2⟩, c3⟩ := c
      obtain ⟨tl, ol, kl⟩ := po_of (g := g) (W := W) (cf := cf) (X := X) lo l (by
        cases l with
        | none => exact c2
        | some l => exact ⟨chkE_nop c2, (snd_E lo C X l W hG tk c2).pe⟩)
      obtain ⟨th, oh, kh⟩ := po_of (g := g) (W := W) (cf := cf) (X := X) hi h (by
        cases h with
        | none => exact c3
        | some h => exact ⟨chkE_nop c3, (snd_E hi C X h W hG tk c3).pe⟩)
      refine snd_plain ((pe_slice (sl_sub (g := g) t hG.K.symm) (snd_E a C X y W hG tk c1).pe ol oh).imp fun σ H Q h => ?_) rfl
      simp only [den] at h
      refine tR_bind h fun d v env s H1 φ1 hE hS hv hP => ?_
      refine kl _ _ _ ⟨env, s, φ1, hE, hS, hP.bind fun o1 s1 o1' H2 φ2 x2 r2 v2 p2 => ?_⟩
      subst v2
      refine kh _ _ _ ⟨env, s1, φ2, hE.ext x2, r2, p2.bind fun o2 s2 o2' H3 φ3 x3 r3 v3 p3 => ?_⟩
      subst v3
      exact ⟨d, s2, φ3, r3, RepV.ext (x2.trans x3) d hv, _, p3⟩
    · cases c
  | .call f es, C, X, x, W, hG, tk, c => by
    unfold chkE at c
    split at c
    · rename_i y p xs pos
      simp only [Bool.and_eq_true, beq_iff_eq] at c
      obtain ⟨⟨⟨c1, c2⟩, c3⟩, c4⟩ := c
      unfold isDbg at c3
      simp only [Bool.not_eq_true', Bool.or_eq_false_iff] at c3
      obtain ⟨k, hr, hc⟩ := hG.room
      obtain ⟨fa, fd, ps, m1, m2, m3, m4, m5⟩ := hc.fn f y (by rw [hG.tab.fns]; exact c1)
      have F : FnOk X.prog X.w X.K X.mg X.base (L2.CX X.prog X.w) k fa fd ps (spOf g ps.length (cf f)) := by rw [hG.K, hG.mg]; exact m3
      have hm : X.mg y = some (.ref fa) := by rw [hG.mg]; exact m1
      have hk : PySem.W.keepIn X.K (.ref fa) = true := by rw [hG.K]; exact m2
      have hb : Binds X.K fd ps [] := by rw [hG.K]; exact m4
      have A := snd_L es C X xs W hG tk c4
      have fin : ∀ (σ : L2.St) (env : Fk.Env) (ds : List D) (s : Fk.St) (vs : List V) (H1 : Hp) (φ1 : Phi) (Q : VK), Rep g H1 φ1 s → RepL g H1 φ1 ds vs → PostR (RepV g) g H1 φ1 (cf f ds s) Q (fun c d H => W c d σ H) → spOf g ps.length (cf f) vs H1 Q (WE W σ) := fun σ env ds s vs H1 φ1 Q hS hv hP => by
        refine ⟨?_, ds, s, φ1, hS, hv, hP⟩
        rw [← hv.length]
        refine Decidable.byContradiction fun hne => ?_
        rw [m5 ds s hne] at hP
        exact hP.elim
      refine snd_plain ?_ rfl
      cases xs with
      | nil =>
        cases es with
        | cons _ _ => unfold chkL at c4; cases c4
        | nil =>
          refine (pe_call0S F hr (hG.gl c2) hm hk hb (fun σ => passAt tk σ) c3.1).imp fun σ H Q h => ?_
          simp only [den, denL, R.bind_ok] at h
          obtain ⟨env, s, φ, hE, hS, hP⟩ := h
          exact fin σ env [] s [] H φ Q hS (by simp [RepL]) hP
      | cons z zs =>
        have st : notStar z = true ∧ (backTo pos (starEach zs X.env)).any (·.1) = false := by
          cases es with
          | nil => unfold chkL at c4; cases c4
          | cons e es =>
            unfold chkL at c4
            simp only [Bool.and_eq_true] at c4
            exact ⟨c4.1.1, star_none es zs c4.2⟩
        refine (pe_callS F hr (hG.gl c2) hm hk hb (fun σ => passAt tk σ) A c3.1 (star_cons st.1) st.2).imp fun σ H Q h => ?_
        simp only [den] at h
        exact tR_bind h fun ds vs env s H1 φ1 hE hS hv hP => fin σ env ds s vs H1 φ1 Q hS hv hP
    · cases c
  | .rev a, C, X, x, W, hG, tk, c => by
    unfold chkE at c
    split at c
    · rename_i y _ _ _ _ _
      refine snd_plain ((pe_rev (snd_E a C X y W hG tk c).pe).imp fun σ H Q h => ?_) rfl
      simp only [den] at h
      refine tR_bind h fun d v env s H1 φ1 hE hS hv hP => ?_
      unfold revD at hP
      split at hP
      · rename_i ds e
        obtain ⟨p, vs, h1, h2, h3, h4⟩ := rd_lst hS hv e
        exact ⟨p, vs, h1, .inl ⟨SqL.of h2, fun q hq => new_lst hS hP (repl_rev h3) (by rw [List.length_reverse]; exact h4) hq⟩⟩
      · rename_i ds e
        obtain ⟨p, vs, h1, h2, h3, h4⟩ := repv_tup (rd_is hS hv e (fun _ q => nomatch q))
        exact ⟨p, vs, h1, .inr ⟨hG.K.symm ▸ h2.sq, fun q hq => new_tup hS hP (repl_rev h3) (by rw [List.length_reverse]; exact h4) hq⟩⟩
      · exact hP.elim
    · cases c
  | .callv i es, C, X, x, W, hG, tk, c => by
    unfold chkE at c
    split at c
    · rename_i y p z zs pos
      simp only [Bool.and_eq_true, beq_iff_eq] at c
      obtain ⟨⟨⟨c1, c2⟩, c3⟩, c4⟩ := c
      unfold isDbg at c3
      simp only [Bool.not_eq_true', Bool.or_eq_false_iff] at c3
      obtain ⟨k, hr, hc⟩ := hG.room
      have A := snd_L es C X (z :: zs) W hG tk c4
      have st : notStar z = true ∧ (backTo pos (starEach zs X.env)).any (·.1) = false := by
        cases es with
        | nil => unfold chkL at c4; cases c4
        | cons e es =>
          unfold chkL at c4
          simp only [Bool.and_eq_true] at c4
          exact ⟨c4.1.1, star_none es zs c4.2⟩
      refine snd_plain ((pe_callVS (i := i) (E := WE W) (by rw [hG.N]; exact c1) (hG.vis c2) A c3.1 c3.2 (star_cons st.1) st.2).imp fun σ H Q ⟨env, s, φ, hE, hS, hP⟩ => ?_) rfl
      simp only [den] at hP
      split at hP
      · rename_i f e
        obtain ⟨v, h1, h2⟩ := hE.at_ i _ e
        unfold RepV at h2
        obtain ⟨nm, a, q1, q2, rfl⟩ := h2
        obtain ⟨fa, fd, ps, m1, m2, m3, m4, m5⟩ := hc.fn f nm q1
        have ea : fa = a := by
          rw [q2] at m1
          cases m1; rfl
        subst ea
        refine ⟨fa, fd, ps, _, k, h1, by rw [hG.K, hG.mg]; exact m3, hr, by rw [hG.K]; exact m2, by rw [hG.K]; exact m4, passAt tk σ, ?_⟩
        refine tR_bind (m := denL cf es) (f := fun xs _ s => cf f xs s) ⟨env, s, φ, hE, hS, hP⟩ fun ds vs env s H1 φ1 hE hS hv hP => ?_
        refine ⟨?_, ds, s, φ1, hS, hv, hP⟩
        rw [← hv.length]
        refine Decidable.byContradiction fun hne => ?_
        rw [m5 ds s hne] at hP
        exact hP.elim
      · exact hP.elim
    · cases c
  | .blt b t es, C, X, x, W, hG, tk, c => by
    unfold chkE at c
    split at c
    · rename_i y p z xs pos
      simp only [Bool.and_eq_true, beq_iff_eq] at c
      obtain ⟨⟨⟨c1, rfl⟩, c3⟩, c4⟩ := c
      obtain ⟨b1, b2, b3, b4⟩ := hG.blt c3
      have A := snd_L es C X _ W hG tk c4
      have hb := blt_boot b c1
      have hbk : ∀ k, b = .isinst k → k < 6 := fun k e => by subst e; unfold bltOk at c1; exact of_decide_eq_true c1
      have CR := call_blt (X := X) (g := g) b t hG.calm hG.units hG.w.symm hG.K.symm (fun e => by subst e; simp [bltOk] at c1) hbk
      have st := star_none (env := X.env) (pos := pos) es _ c4
      have ns : notStar z = true ∧ (backTo pos (starEach xs X.env)).any (·.1) = false := by
        cases es with
        | nil => unfold chkL at c4; cases c4
        | cons e es =>
          unfold chkL at c4
          simp only [Bool.and_eq_true] at c4
          exact ⟨c4.1.1, star_none es xs c4.2⟩
      have wk : ∀ (σ : L2.St) (H : Hp) (Q : VK), tR (RepV g) g W (den cf (.blt b t es)) σ H Q → tCB (rSL g (bltD b t)) (tR (RepL g) g W (denL cf es)) σ H Q := fun σ H Q h => by
        simp only [den] at h
        exact tR_bind h fun ds vs env s H1 φ1 hE hS hv hP => ⟨ds, s, φ1, hS, hv, _, hP⟩
      refine snd_plain ?_ rfl
      cases b <;> first
        | exact (pe_callB CR b1 b2 hb A b3 b4 (star_cons ns.1) ns.2).imp wk
        | exact (pe_callTy CR b1 b2 hb A b3 b4 (star_cons ns.1) ns.2).imp wk
    · cases c
  | .meth m o es, C, X, x, W, hG, tk, c => by
    unfold chkE at c
    split at c
    · rename_i ob n apos y pos
      simp only [Bool.and_eq_true, beq_iff_eq] at c
      obtain ⟨⟨⟨⟨rfl, c2⟩, c3⟩, c4⟩, c5⟩ := c
      have A := (snd_E o C X ob W hG tk c4).pe
      obtain ⟨e, rfl, ns, B⟩ := snd_1 es C X y W hG tk c5
      refine snd_plain ?_ rfl
      cases m with
      | join =>
        refine (pe_join A B (star_cons ns) (base_plain c2) (by rw [beq_iff_eq]; exact c3)).imp fun σ H Q h => ?_
        simp only [den] at h
        refine tR_bind h fun d v env s H1 φ1 hE hS hv hP => ?_
        cases d with
        | str a =>
          have hv := repv_str hv
          subst hv
          refine ⟨⟨_, rfl⟩, env, s, φ1, hE, hS, ?_⟩
          simp only [recvOk, if_true, denL, R.assoc, R.bind_ok] at hP
          refine hP.bind fun d2 s2 y2 H2 φ2 x2 r2 v2 p2 => ?_
          simp only [methD] at p2
          split at p2
          · rename_i e1
            obtain ⟨p, vs, q1, q2, q3, q4⟩ := rd_lst r2 v2 e1
            split at p2
            · rename_i ys e2
              split at p2
              · rename_i hz
                refine ⟨strV a, p, ys.map strV, rfl, by rw [q1], .inl (SqL.of (by rw [q2, repl_strs q3 e2])), ?_, ?_⟩
                · rw [strV_len]; rw [lenSum_eq]; exact hz
                · rw [join_eq]; exact p2.here r2 repv_of_str
              · exact p2.elim
            · exact p2.elim
          · exact p2.elim
        | _ => exact hP.elim
    · cases c
  | .lc elt p k its cond, C, X, x, W, hG, tk, c => by
    unfold chkE at c
    split at c
    · rename_i el tg iter ifs scope pos
      simp only [Bool.and_eq_true] at c
      obtain ⟨⟨⟨⟨⟨c1, c2⟩, ctg⟩, c3⟩, c4⟩, c5⟩ := c
      split at c2
      · rename_i xs ha
        obtain ⟨hi, hs⟩ := it_sound (tg := tg) hG ctg ha c2 (snd_L its C X xs W hG tk c2) (fun x e => by
          subst e
          obtain ⟨e, h1, _, h2⟩ := snd_1 its C X x W hG tk c2
          exact ⟨e, h1, h2⟩)
        refine snd_plain ((lc_sound (cond := cond) (elt := elt) hG hi c1 (fun s H B cl fp => pg_pat (hG.inner s H scope cl B fp) p tg c3) (fun s H B cl fp => ?_) (fun s H B cl fp => (snd_E elt (L3.inner C scope) _ el WF (hG.inner s H scope cl B fp) takes0 c4).pe) hs).imp fun σ H Q h => tR_congr h fun env s => ?_) rfl
        · split at c5
          · refine L2.PTs.imp pts_nil fun σ H Q ⟨env, s, φ, hE, hS, hP⟩ => ?_
            cases cond with
            | c d =>
              cases d with
              | bl b =>
                cases b with
                | true =>
                  simp only [denB, den, R.bind_ok, Fk.asB] at hP
                  exact hP.here hS rfl
                | false => cases c5
              | _ => cases c5
            | _ => cases c5
          · exact pts_one (snd_E cond (L3.inner C scope) _ _ WF (hG.inner s H scope cl B fp) takes0 c5).pt
          · cases c5
        · simp only [den, R.assoc]
          congr 1
          funext ws s
          cases itK k ws with
          | none => rfl
          | some items => rfl
      · cases c2
    · cases c
theorem snd_L {g : G} {T : Tab} {cf : CF} : ∀ (es : List IE) (C : SC) (X : Cx) (xs : List Expr) (W : WX), Good g T cf C X → Takes X W → chkL T es C xs = true → PA X xs (tR (RepL g) g W (denL cf es))
  | [], C, X, xs, W, hG, tk, c => by
    unfold chkL at c
    cases xs with
    | nil => exact pa_nil.imp fun σ H Q ⟨env, s, φ, hE, hS, hP⟩ => hP.here hS (by simp [RepL])
    | cons _ _ => cases c
  | e :: es, C, X, xs, W, hG, tk, c => by
    cases xs with
    | nil => unfold chkL at c; cases c
    | cons x xs =>
      unfold chkL at c
      simp only [Bool.and_eq_true] at c
      refine (pa_cons (snd_E e C X x W hG tk c.1.2).pe (snd_L es C X xs W hG tk c.2) (star_cons c.1.1)).imp fun σ H Q h => ?_
      simp only [denL] at h
      refine tR_bind h fun d v env s H1 φ1 hE hS hv hP => ?_
      refine ⟨env, s, φ1, hE, hS, hP.bind fun ds s2 vs H2 φ2 x2 r2 v2 p2 => p2.here r2 ?_⟩
      unfold RepL
      exact ⟨v, vs, rfl, RepV.ext x2 d hv, v2⟩
theorem snd_1 {g : G} {T : Tab} {cf : CF} : ∀ (es : List IE) (C : SC) (X : Cx) (x : Expr) (W : WX), Good g T cf C X → Takes X W → chkL T es C [x] = true → ∃ e, es = [e] ∧ notStar x = true ∧ PE X x (tR (RepV g) g W (den cf e))
  | [], C, X, x, W, hG, tk, c => by unfold chkL at c; cases c
  | e :: es, C, X, x, W, hG, tk, c => by
    unfold chkL at c
    simp only [Bool.and_eq_true] at c
    have : es = [] := by
      cases es with
      | nil => rfl
      | cons a b => have h := c.2; unfold chkL at h; cases h
    exact ⟨e, by rw [this], c.1.1, (snd_E e C X x W hG tk c.1.2).pe⟩
theorem snd_D {g : G} {T : Tab} {cf : CF} : ∀ (es : List IE) (C : SC) (X : Cx) (ks : List (Option Expr)) (vs : List Expr) (W : WX) (pos : Pos), Good g T cf C X → Takes X W → chkD T es C ks vs = true → ∃ trs, PPs X pos ks vs trs ∧ ∀ (σ : L2.St) (H : Hp) (Q : List (V × V) → Hp → Prop), tR (RepL g) g W (denL cf es) σ H (fun us H => Q (prs us) H) → tPairs trs σ H Q
  | [], C, X, ks, vs, W, pos, hG, tk, c => by
    unfold chkD at c
    simp only [Bool.and_eq_true, List.isEmpty_iff] at c
    obtain ⟨rfl, rfl⟩ := c
    exact ⟨[], pps_nil, fun σ H Q ⟨env, s, φ, hE, hS, hP⟩ => hP.here hS (b := []) (by simp [RepL])⟩
  | [_], C, X, ks, vs, W, pos, hG, tk, c => by unfold chkD at c; cases c
  | k :: v :: es, C, X, ks, vs, W, pos, hG, tk, c => by
    unfold chkD at c
    split at c
    · rename_i x ks y vs
      simp only [Bool.and_eq_true] at c
      obtain ⟨trs, h1, h2⟩ := snd_D es C X ks vs W pos hG tk c.2
      refine ⟨_, pps_cons (snd_E k C X x W hG tk c.1.1).pe (snd_E v C X y W hG tk c.1.2).pe h1, fun σ H Q h => ?_⟩
      simp only [denL] at h
      refine tR_bind h fun d1 v1 env s1 H1 φ1 hE1 hS1 hv1 hP1 => ?_
      rw [R.assoc] at hP1
      refine ⟨env, s1, φ1, hE1, hS1, hP1.bind fun d2 s2 v2 H2 φ2 x2 r2 hv2 p2 => ?_⟩
      rw [R.assoc] at p2
      refine h2 _ _ _ ⟨env, s2, φ2, hE1.ext x2, r2, p2.bind fun ds s3 us H3 φ3 x3 r3 hv3 p3 => ?_⟩
      refine p3.here (b := v1 :: v2 :: us) r3 ?_
      unfold RepL
      refine ⟨v1, _, rfl, RepV.ext (x2.trans x3) d1 hv1, ?_⟩
      unfold RepL
      exact ⟨v2, us, rfl, RepV.ext x3 d2 hv2, hv3⟩
    · cases c
end
end L3

set_option Elab.async false
set_option linter.all false
set_option autoImplicit false
set_option maxRecDepth 100000
set_option maxHeartbeats 8000000
/-! FkStm: statements. -/
namespace L3
open PySem PySem.Spec PyProof.Rows L2 Fk

def notComp : Expr → Bool
  | .ListComp .. => false
  | .SetComp .. => false
  | .DictComp .. => false
  | _ => true
def notPar (tg v : Expr) : Bool :=
  match tg, v with
  | .Tuple .., .Tuple .. => false
  | .List .., .Tuple .. => false
  | _, _ => true
def swB (C : SC) (t : PySem.Str) (pos : Pos) (v : Expr) : Bool :=
  match v with
  | .ListComp _ _ sc vpos => C.sc.names.lookup t == some .local && pos.line == vpos.line && !(sc.names.any fun (n, k) => n == t && (k == .local || k == .cell))
  | _ => false
def isLC : Expr → Bool
  | .ListComp .. => true
  | _ => false
def setOk (C : SC) (tg v : Expr) : Bool :=
  notPar tg v && (notComp v || (isLC v && (match tg with
    | .Name .. => true
    | _ => false)))
def isDoc : Stmt → Bool
  | .Expr (.Constant (.str _) _ _) _ => true
  | _ => false
def isFz : IS → Bool
  | .fz _ => true
  | _ => false

def parB (C : SC) (x y : PySem.Str) (p1 p2 : Pos) (vs : List Expr) : Bool :=
  C.sc.names.lookup x == some .local && C.sc.names.lookup y == some .local && p1.line == p2.line && !(x == y) && !(vs.all (foldedForSure 8)) && !(vs.all (constantsAlone 8)) && decide (C.sc.kind = .function)
def allC (T : Tab) (m : List Nat) (h : Nat) : Bool := (List.range T.excs.length).all fun c => m.contains c == T.subs.contains (c, h)
/-- the except suite's list -/
def chkSu (T : Tab) (C : SC) (n : PySem.Str) : List SuE → List Expr → Bool
  | [], [] => true
  | .k d :: es, .Constant c _ _ :: xs => constB c d && chkSu T C n es xs
  | .isx c m :: es, .Call (.Name i _) [.Name y _, .Name z _] [] _ :: xs => i == ("isinstance" : PySem.Str) && gBlt T C i && y == n && !isDbg y && visB C y && T.excs[c]? == some z && glB C z && !isDbg z && allC T m c && chkSu T C n es xs
  | _, _ => false
mutual
def chkS (T : Tab) : IS → SC → Stmt → Bool
  | .expr e, C, st => (match st with
    | .Expr x _ => notComp x && chkE T e C x
    | _ => false)
  | .set p e, C, st => (match st with
    | .Assign [tg] v _ => chkP C p tg && chkE T e C v && setOk C tg v
    | _ => false)
  | .setSub o i e, C, st => (match st with
    | .Assign [.Subscript a b _] v _ => notComp v && notSlice b && chkE T o C a && chkE T i C b && chkE T e C v
    | _ => false)
  | .app o e, C, st => (match st with
    | .Expr (.Call (.Attribute x n apos) [y] [] pos) _ => n == ("append" : PySem.Str) && plainBase x && apos.endLine == pos.line && notStar y && chkE T o C x && chkE T e C y
    | _ => false)
  | .extd o e, C, st => (match st with
    | .Expr (.Call (.Attribute x n apos) [y] [] pos) _ => n == ("extend" : PySem.Str) && plainBase x && apos.endLine == pos.line && notStar y && chkE T o C x && chkE T e C y
    | _ => false)
  | .upd o e, C, st => (match st with
    | .Expr (.Call (.Attribute x n apos) [y] [] pos) _ => n == ("update" : PySem.Str) && plainBase x && apos.endLine == pos.line && notStar y && chkE T o C x && chkE T e C y
    | _ => false)
  | .swap o1 i1 o2 i2 e, C, st => (match st with
    | .Assign [.Tuple [.Subscript a b _, .Subscript a2 b2 _] _ _] v _ => notComp v && notSlice b && notSlice b2 && chkE T o1 C a && chkE T i1 C b && chkE T o2 C a2 && chkE T i2 C b2 && chkE T e C v
    | _ => false)
  | .par i j a b, C, st => (match st with
    | .Assign [.Tuple [.Name x p1, .Name y p2] _ _] (.Tuple [e1, e2] _ _) _ => parB C x y p1 p2 [e1, e2] && C.N[i]? == some x && C.N[j]? == some y && notStar e1 && notStar e2 && chkE T a C e1 && chkE T b C e2
    | _ => false)
  | .whil c body, C, st => (match st with
    | .While t bd [] _ => chkE T c C t && chkB T body C bd
    | _ => false)
  | .brk, _, st => (match st with
    | .Break _ => true
    | _ => false)
  | .cnt, _, st => (match st with
    | .Continue _ => true
    | _ => false)
  | .fz _, _, _ => false
  | .raise c, C, st => (match st with
    | .Raise (some (.Call (.Name x _) [.Constant (.str _) _ _] [] _)) none _ => T.excs[c]? == some x && glB C x && !isDbg x
    | _ => false)
  | .tryR body m h sl es, C, st => (match st with
    | .Try bd [.ExceptHandler (some (.Name x _)) (some n) [.Return (some (.List xs _)) _] _] [] [] _ =>
      T.excs[h]? == some x && glB C x && !isDbg x && C.N[sl]? == some n && C.sc.names.lookup n == some .local && allC T m h && decide (xs.length ≤ 1000) && chkB T body C bd && chkSu T C n es xs
    | _ => false)
  | .ife c a b, C, st => (match st with
    | .If t x y _ => chkE T c C t && chkB T a C x && chkB T b C y
    | _ => false)
  | .forr p k its body, C, st => (match st with
    | .For tg iter bd [] _ => (match itArgs T C k iter with
        | some xs => chkL T its C xs
        | none => false) && tgOk k tg && chkP C p tg && chkB T body C bd
    | _ => false)
  | .ret e, C, st => (match st with
    | .Return (some x) _ => chkE T e C x
    | .Return none _ => (match e with
      | .c .none => true
      | _ => false)
    | _ => false)
  | .pass, C, st => (match st with
    | .Pass _ => true
    | st => isDoc st)
def chkB (T : Tab) : List IS → SC → List Stmt → Bool
  | [], _, sts => sts.isEmpty
  | t :: ts, C, sts => if isFz t then chkB T ts C sts else (match sts with
    | st :: sts => chkS T t C st && chkB T ts C sts
    | [] => false)
end

def PostS (g : G) (W : WX) (H : Hp) (φ : Phi) (r : RS) (D : Ends) : Prop :=
  match r with
  | .ok (.nx env) s => ∀ σ' H' φ', Ext H φ H' φ' → RepE g H' φ' env σ' → Rep g H' φ' s → D.nx σ' H'
  | .ok (.rt d) s => ∀ v H' φ', Ext H φ H' φ' → Rep g H' φ' s → RepV g H' φ' d v → D.rt v H'
  | .ok (.bk env) s => ∀ σ' H' φ', Ext H φ H' φ' → RepE g H' φ' env σ' → Rep g H' φ' s → D.bk σ' H'
  | .ok (.ct env) s => ∀ σ' H' φ', Ext H φ H' φ' → RepE g H' φ' env σ' → Rep g H' φ' s → D.ct σ' H'
  | .err x env s => ∀ cls d σ' H' φ', Ext H φ H' φ' → RepE g H' φ' env σ' → Rep g H' φ' s → ExR g H' φ' x cls d → W cls d σ' H'
  | .bad => False
def tS (g : G) (W : WX) (m : Fk.Env → Fk.St → RS) : TS := fun D σ H => ∃ env s φ, RepE g H φ env σ ∧ Rep g H φ s ∧ PostS g W H φ (m env s) D
section
variable {g : G} {W : WX} {H H' : Hp} {φ φ' : Phi} {D : Ends} {σ : L2.St} {env : Fk.Env} {s : Fk.St}
theorem PostS.ext {r : RS} (p : PostS g W H φ r D) (x : Ext H φ H' φ') : PostS g W H' φ' r D := by
  cases r with
  | ok f s =>
    cases f with
    | nx env => exact fun σ2 H2 φ2 y => p σ2 H2 φ2 (x.trans y)
    | rt d => exact fun σ2 H2 φ2 y => p σ2 H2 φ2 (x.trans y)
    | bk env => exact fun σ2 H2 φ2 y => p σ2 H2 φ2 (x.trans y)
    | ct env => exact fun σ2 H2 φ2 y => p σ2 H2 φ2 (x.trans y)
  | err e env s => exact fun c d σ2 H2 φ2 y => p c d σ2 H2 φ2 (x.trans y)
  | bad => exact p
theorem PostS.expr {α β : Type} {ρ : Hp → Phi → α → β → Prop} {r : R α} {f : α → Fk.St → RS} {Q1 : β → Hp → Prop} (p : PostS g W H φ (r.toS env f) D) (hE : RepE g H φ env σ)
    (k : ∀ a s b H1 φ1, Ext H φ H1 φ1 → Rep g H1 φ1 s → ρ H1 φ1 a b → PostS g W H1 φ1 (f a s) D → Q1 b H1) : PostR ρ g H φ r Q1 (fun c d H => W c d σ H) := by
  cases r with
  | ok a s => exact fun b H2 φ2 y r2 h => k a s b H2 φ2 y r2 h (PostS.ext p y)
  | err e s => exact fun c d H2 φ2 y r2 h => p c d σ H2 φ2 y (hE.ext y) r2 h
  | bad => exact p
theorem PostS.asB {d : Fk.D} {f : Bool → Fk.St → RS} {x : V} (p : PostS g W H φ (Fk.asBS d s f) D) (h : RepV g H φ d x) : ∃ b, x = .bl b ∧ d = .bl b ∧ PostS g W H φ (f b s) D := by
  cases d with
  | bl b => exact ⟨b, repv_bl h, rfl, p⟩
  | _ => exact p.elim
theorem PostS.nx (p : PostS g W H φ (.ok (.nx env) s) D) (hE : RepE g H φ env σ) (hS : Rep g H φ s) : D.nx σ H := p σ H φ Ext.refl hE hS
end

structure GoodS (g : G) (T : Tab) (cf : CF) (C : SC) (X : Cx) (W : WX) : Prop where
  good : Good g T cf C X
  tk : Takes X W
  po : PassesOwn (model X.prog X.w) X.A X.env X.xe
  fnk : C.sc.kind = .function
  stk : X.stack = X.env :: X.outer
  frm : X.env.frame = some X.env.locals

theorem swaps_no {v : Expr} {t : Option Expr} {l : Nat} {env : PySem.Env} (h : notComp v = true) : swapsWith v t l env = pure false := by
  cases v <;> first | rfl | (cases h; done)
theorem sole {v t : Expr} {l : Nat} {env : PySem.Env} : swapsWithSole [t] v l env = swapsWith v (some t) l env := by unfold swapsWithSole; rfl
theorem swaps_name {el : Expr} {gs : List Comprehension} {sc : Scope} {vpos pos : Pos} {t : PySem.Str} {l : Nat} {g : G} {T : Tab} {cf : CF} {C : SC} {X : Cx} {W : WX} (hG : GoodS g T cf C X W) :
    swapsWith (.ListComp el gs sc vpos) (some (.Name t pos)) l X.env = pure (swB C t pos (.ListComp el gs sc vpos)) := by
  have hk : X.env.scope = C.sc := hG.good.sc
  have ky : X.env.kindOf t = C.sc.names.lookup t := by show X.env.scope.names.lookup t = _; rw [hk]
  have hb : X.env.blockKind = .function := by unfold PySem.Env.blockKind; rw [hk, hG.fnk]; rfl
  unfold swapsWith swB
  simp only [hb, ky, Expr.pos]
  rfl
theorem stores_no {tg v : Expr} {env : PySem.Env} (h : notPar tg v = true) : swappedStores [tg] v env = pure none := by
  unfold swappedStores
  cases tg <;> cases v <;> first | rfl | (cases h; done)
theorem assign_one {tg : Expr} {env : PySem.Env} {C : SC} {p : Pat} (h : chkP C p tg = true) : (assignEach [tg] env).map (·.2) = [assign tg env] := by
  cases tg <;> cases p <;> first | rfl | (unfold chkP at h; cases h; done)

/-- the value of an except suite's part -/
def suW (c : Nat) : SuE → V
  | .k .none => .non
  | .k (.bl b) => .bl b
  | .k (.int i) => .int i
  | .k (.str z) => .str (strV z)
  | .k _ => .non
  | .isx _ m => .bl (m.contains c)
theorem const_su {k : Const} {d : D} {c : Nat} {g : G} {H : Hp} {φ : Phi} (h : constB k d = true) : RepV g H φ d (suW c (.k d)) := by
  unfold constB at h
  split at h
  · exact repv_of_none
  · exact repv_of_bl
  · exact repv_of_int
  · exact repv_of_str
  · cases h
theorem su_len {T : Tab} {C : SC} {n : PySem.Str} : ∀ (es : List SuE) (xs : List Expr), chkSu T C n es xs = true → xs.length = es.length
  | [], [], _ => rfl
  | .k d :: es, x :: xs, h => by
    unfold chkSu at h
    split at h
    · rename_i e1 e2
      cases e1
    · rename_i e1 e2
      cases e1; cases e2
      simp only [Bool.and_eq_true] at h
      simp [su_len es xs h.2]
    · rename_i e1 e2
      cases e1
    · cases h
  | .isx c m :: es, x :: xs, h => by
    unfold chkSu at h
    split at h
    · rename_i e1 e2
      cases e1
    · rename_i e1 e2
      cases e1
    · rename_i e1 e2
      cases e1; cases e2
      simp only [Bool.and_eq_true] at h
      simp [su_len es xs h.2]
    · cases h
  | [], _ :: _, h => by unfold chkSu at h; cases h
  | .k d :: es, [], h => by unfold chkSu at h; cases h
  | .isx c m :: es, [], h => by unfold chkSu at h; cases h
theorem su_rep {T : Tab} {C : SC} {n : PySem.Str} {c : Nat} {g : G} {H : Hp} {φ : Phi} : ∀ (es : List SuE) (xs : List Expr), chkSu T C n es xs = true → RepL g H φ (es.map (suV c)) (es.map (suW c))
  | [], _, _ => by simp [RepL]
  | .k d :: es, [], h => by unfold chkSu at h; cases h
  | .isx c m :: es, [], h => by unfold chkSu at h; cases h
  | .k d :: es, x :: xs, h => by
    unfold chkSu at h
    split at h
    · rename_i e1 e2
      cases e1
    · rename_i e1 e2
      cases e1; cases e2
      simp only [Bool.and_eq_true] at h
      rw [List.map_cons, List.map_cons]
      unfold RepL
      exact ⟨_, _, rfl, const_su h.1, su_rep es xs h.2⟩
    · rename_i e1 e2
      cases e1
    · cases h
  | .isx c' m :: es, x :: xs, h => by
    unfold chkSu at h
    split at h
    · rename_i e1 e2
      cases e1
    · rename_i e1 e2
      cases e1
    · rename_i e1 e2
      cases e1; cases e2
      simp only [Bool.and_eq_true] at h
      rw [List.map_cons, List.map_cons]
      unfold RepL
      exact ⟨_, _, rfl, repv_of_bl, su_rep es xs h.2⟩
    · cases h
/-- the reading of an except suite -/
def tSuite (g : G) {es : List SuE} (sl : Nat) : Addr → Value → Option Addr → TS := fun a cls d D σ H =>
  ∃ c nm C, g.excs[c]? = some nm ∧ g.mg nm = some (.ref C) ∧ cls = .ref C ∧ d = none ∧ (σ[sl]? = some (some (.ref a)) ∨ σ.length ≤ sl) ∧ ∀ p, H p = none → D.rt (.ref p) (upd H p (.lst (es.map (suW c))))
section
variable {g : G} {T : Tab} {cf : CF} {C : SC} {X : Cx} {W : WX}
theorem su_pa (hG : GoodS g T cf C X W) {a : Addr} {oe : Obj} {pn : List (Addr × Obj)} {n nm : PySem.Str} {sl c : Nat} {D1 : Addr} (hn : C.N[sl]? = some n) (hc : T.excs[c]? = some nm) (hD : g.mg nm = some (.ref D1)) (hz : Zc (.ref D1) none oe) (hf : ∃ vs, oe.data = .fields vs) :
    ∀ (es : List SuE) (xs : List Expr), chkSu T C n es xs = true → PA (X.suite a ((a, oe) :: pn)) xs (fun σ H Q => σ[sl]? = some (some (.ref a)) ∧ Q (es.map (suW c)) H)
  | [], [], _ => pa_nil.imp fun σ H Q h => h.2
  | .k d :: es, x :: xs, h => by
    unfold chkSu at h
    split at h
    · rename_i e1 e2
      cases e1
    · rename_i d' es' k _ _ xs' e1 e2
      cases e1; cases e2
      simp only [Bool.and_eq_true] at h
      have ih := su_pa (a := a) (pn := pn) hG hn hc hD hz hf es xs h.2
      have A : PE (X.suite a ((a, oe) :: pn)) (.Constant k ‹_› ‹_›) (tC (suW c (.k d))) := by
        have h1 := h.1
        unfold constB at h1
        split at h1
        · exact pe_non
        · have := beq_iff_eq.mp h1; subst this; exact pe_bl
        · have := beq_iff_eq.mp h1; subst this; exact pe_int
        · have := beq_iff_eq.mp h1; subst this; exact pe_str
        · cases h1
      exact (pa_cons A ih (star_cons rfl)).imp fun σ H Q h => ⟨h.1, h.2⟩
    · rename_i e1 e2
      cases e1
    · cases h
  | .isx c' m :: es, x :: xs, h => by
    unfold chkSu at h
    split at h
    · rename_i e1 e2
      cases e1
    · rename_i e1 e2
      cases e1
    · rename_i c2 m2 es2 i1 p1 y p2 z p3 p4 xs2 e1 e2
      cases e1; cases e2
      simp only [Bool.and_eq_true, beq_iff_eq] at h
      obtain ⟨⟨⟨⟨⟨⟨⟨⟨⟨rfl, g1⟩, rfl⟩, g2⟩, g3⟩, g4⟩, g5⟩, g6⟩, g7⟩, g8⟩ := h
      unfold isDbg at g2 g6
      simp only [Bool.not_eq_true', Bool.or_eq_false_iff] at g2 g6
      have ih := su_pa (a := a) (pn := pn) hG hn hc hD hz hf es xs g8
      obtain ⟨b1, b2, b3, b4⟩ := hG.good.blt g1
      obtain ⟨C2, m1, m2x⟩ := hG.good.tab.exc c' z g4
      obtain ⟨C3, m3, m4⟩ := hG.good.tab.exc c nm hc
      have e3 : C3 = D1 := by rw [hD] at m3; cases m3; rfl
      subst e3
      obtain ⟨_, kit⟩ := hG.good.tab.sub c c' nm z C3 C2 hc g4 hD m1
      have hm : m.contains c = T.subs.contains (c, c') := by
        have := List.all_eq_true.mp g7 c (List.mem_range.mpr (List.getElem?_eq_some_iff.mp hc).1)
        simpa using this
      have hN : (X.suite a ((a, oe) :: pn)).N[sl]? = some y := by
        show X.N[sl]? = _
        rw [hG.good.N]; exact hn
      have V1 : PE (X.suite a ((a, oe) :: pn)) (.Name y p2) (tVar sl) := pe_var hN (hG.good.vis g3) g2.1 g2.2
      have V2 : PE (X.suite a ((a, oe) :: pn)) (.Name z p3) (tC (.ref C2)) := pe_glob (v := .ref C2) (hG.good.gl g5) (by show X.mg z = _; rw [hG.good.mg]; exact m1) rfl g6.1
      have CR := call_isE (X := X) (a := a) (oe := oe) (pn := pn) (D := C3) (by rw [hG.good.K]; exact m4.ec) hz hf
      have A := pe_callB (pos := p4) (p := p1) CR b1 b2 (by decide +kernel) (pa_cons V1 (pa_cons V2 pa_nil (star_cons rfl)) (star_cons rfl)) b3 b4 (star_cons rfl) rfl
      refine (pa_cons A ih (star_cons rfl)).imp fun σ H Q ⟨h1, h2⟩ => ?_
      refine ⟨_, h1, .ref C2, .ref C2, T.subs.contains (c, c'), rfl, fun u hu => hu, by rw [hG.good.K]; exact kit, h1, ?_⟩
      rw [← hm]
      exact h2
    · cases h
  | [], _ :: _, h => by unfold chkSu at h; cases h
  | .k d :: es, [], h => by unfold chkSu at h; cases h
  | .isx c m :: es, [], h => by unfold chkSu at h; cases h
theorem suite_ok (hG : GoodS g T cf C X W) {a : Addr} {oe : Obj} {cls : Value} {d : Option Addr} {pn : List (Addr × Obj)} {n : PySem.Str} {sl : Nat} {es : List SuE} {xs : List Expr} {p1 p2 : Pos} (hn : C.N[sl]? = some n) (hc : chkSu T C n es xs = true) (hx : xs.length ≤ 1000)
    (hz : Zc cls d oe) (hf : ∃ vs, oe.data = .fields vs) : PSs (X.suite a ((a, oe) :: pn)) [.Return (some (.List xs p1)) p2] (tSuite g (es := es) sl a cls d) := by
  refine ⟨fun pins s σ H D I ⟨c, nm, C1, q1, q2, e1, e2, hσ, hrt⟩ => ?_⟩
  subst e1 e2
  have hl : σ.length = X.N.length := I.len
  have hs : σ[sl]? = some (some (.ref a)) := by
    rcases hσ with h | h
    · exact h
    · have := (List.getElem?_eq_some_iff.mp hn).1
      rw [hl, hG.good.N] at h
      omega
  refine (pss_one (ps_ret (pe_lst (su_pa hG hn (by rw [← hG.good.tab.excs]; exact q1) q2 hz hf es xs hc)))).run pins s σ H D I ⟨hs, ?_, hrt⟩
  rw [List.length_map, ← su_len es xs hc, ← sl_eq]
  exact Nat.le_trans hx (by decide)
end

section
variable {g : G} {T : Tab} {cf : CF} {C : SC} {X : Cx} {W : WX}
theorem asg_imp {p : Pat} {e : IE} {D : Ends} {σ : L2.St} {H : Hp} (h : tS g W (exS cf (.set p e)) D σ H) : tAsg (tR (RepV g) g W (den cf e)) (gD g p) D σ H := by
  obtain ⟨env, s, φ, hE, hS, hP⟩ := h
  simp only [exS] at hP
  refine ⟨env, s, φ, hE, hS, hP.expr hE fun d s1 x H1 φ1 x1 r1 v1 p1 => ?_⟩
  split at p1
  · rename_i env1 e1
    exact ⟨d, env, env1, s1, φ1, hE.ext x1, r1, v1, e1, fun σ' H' φ' y hR' hE' _ => (p1.ext y).nx hE' hR'⟩
  · exact p1.elim
theorem for_imp {p : Pat} {k : ItK} {its : List IE} {body : List IS} {D : Ends} {σ : L2.St} {H : Hp} (h : tS g W (exS cf (.forr p k its body)) D σ H) :
    tFor (tI g W fun env s => (denL cf its env s).bind fun ws s => match itK k ws with
      | Option.none => .bad
      | some items => .ok items s) (gD g p) (tS g W (exB cf body)) D σ H := by
  obtain ⟨env, s, φ, hE, hS, hP⟩ := h
  simp only [exS] at hP
  have hP' : PostS g W H φ (((denL cf its env s).bind fun ws s => match itK k ws with
      | Option.none => R.bad
      | some items => .ok items s).toS env fun items s => forR p (fun env s => exB cf body env s) items env s) D := by
    cases q : denL cf its env s with
    | ok ws s1 =>
      rw [q] at hP
      simp only [R.toS] at hP
      simp only [R.bind_ok]
      cases q2 : itK k ws with
      | none => rw [q2] at hP; exact hP
      | some items => rw [q2] at hP; exact hP
    | err e s1 => rw [q] at hP; exact hP
    | bad => rw [q] at hP; exact hP
  refine ⟨env, s, φ, hE, hS, hP'.expr hE fun items s1 J H1 φ1 x1 r1 ⟨wk, z⟩ p1 => ?_⟩
  refine ⟨fun i m σ H => m = items.length - i ∧ i ≤ items.length ∧ ∃ env s φ, Ext H1 φ1 H φ ∧ RepE g H φ env σ ∧ Rep g H φ s ∧ PostS g W H φ (forR p (fun env s => exB cf body env s) (items.drop i) env s) D,
    ⟨items.length, rfl, Nat.zero_le _, env, s1, φ1, Ext.refl, hE.ext x1, r1, by rw [List.drop_zero]; exact p1⟩, ?_⟩
  rintro i m σ2 H2 ⟨rfl, hi2, env2, s2, φ2, x2, e2, r2, p2⟩
  by_cases hlt : i < items.length
  · refine .inr ⟨wk.go i H2 φ2 x2 hlt, fun σ' H' => (fun i m σ H => m = items.length - i ∧ i ≤ items.length ∧ ∃ env s φ, Ext H1 φ1 H φ ∧ RepE g H φ env σ ∧ Rep g H φ s ∧ PostS g W H φ (forR p (fun env s => exB cf body env s) (items.drop i) env s) D) (i + 1) (items.length - (i + 1)) σ' H', fun σ' H' h => ⟨_, by omega, h⟩, fun x H' hy => ?_⟩
    obtain ⟨d, φ3, hd, x3, r3, v3⟩ := wk.yld i H2 φ2 s2 x H' hlt x2 r2 hy
    have hdrop : items.drop i = d :: items.drop (i + 1) := by
      rw [List.drop_eq_getElem_cons hlt]
      rw [List.getElem?_eq_getElem hlt] at hd
      rw [Option.some.inj hd]
    rw [hdrop] at p2
    unfold forR at p2
    have x13 := x2.trans x3
    have p3 := p2.ext x3
    split at p3
    · exact p3.elim
    · rename_i env1 hb
      refine ⟨d, env2, env1, s2, φ3, e2.ext x3, r3, v3, hb, fun σ3 H3b φ3b x3b r3b hE3 _ => ⟨env1, s2, φ3b, hE3, r3b, ?_⟩⟩
      have p3 := PostS.ext p3 x3b
      have x13 := x13.trans x3b
      split at p3
      · rename_i e s' q
        rw [q]
        exact fun σ' H' φ' y hE' hS' => ⟨rfl, hlt, e, s', φ', x13.trans y, hE', hS', p3.ext y⟩
      · rename_i e s' q
        rw [q]
        exact fun σ' H' φ' y hE' hS' => ⟨rfl, hlt, e, s', φ', x13.trans y, hE', hS', p3.ext y⟩
      · rename_i e s' q
        rw [q]
        exact p3
      · rename_i e s' q
        rw [q]
        exact p3
      · rename_i e s' q
        rw [q]
        exact p3
      · exact p3.elim
  · have e : i = items.length := by omega
    subst e
    refine .inl ⟨wk.stop _ H2 φ2 x2 rfl, ?_⟩
    rw [List.drop_length] at p2
    unfold forR at p2
    exact p2.nx e2 r2

theorem fz_imp {i : Nat} {ts : List IS} {D : Ends} {σ : L2.St} {H : Hp} (h : tS g W (exB cf (.fz i :: ts)) D σ H) : tS g W (exB cf ts) D σ H := by
  obtain ⟨env, s, φ, hE, hS, hP⟩ := h
  simp only [exB, exS, freeze] at hP
  split at hP
  · rename_i r e1
    have fin : ∀ (o : O) (d : Fk.D), s[r]? = some o → o ≠ .gone → (∀ a, ¬ Live (φ.fz r) a → ObR g H (φ.fz r) o a → RepV g H (φ.fz r) d (.ref a)) → PostS g W H φ (exB cf ts (env.set i (some d)) (s.set r .gone)) D → tS g W (exB cf ts) D σ H := fun o d e2 ng mk hP => by
      obtain ⟨r2, a, h1, h3, h4⟩ := hS.freezeO e2 ng
      have x : Ext H φ H (φ.fz r) := Ext.freeze
      refine ⟨_, _, φ.fz r, ?_, r2, hP.ext x⟩
      obtain ⟨v, q1, q2⟩ := hE.at_ i _ e1
      unfold RepV at q2
      have := q2.2.2 a h1
      subst this
      have hset : σ.set i (some (V.ref a)) = σ := by
        refine List.ext_getElem? fun j => ?_
        by_cases hj : i = j
        · subst hj
          rw [List.getElem?_set_self (List.getElem?_eq_some_iff.mp q1).1, q1]
        · rw [List.getElem?_set_ne hj]
      rw [← hset]
      exact (hE.ext x).set i (mk a h3 h4)
    split at hP
    · rename_i ds e2
      simp only [RS.seq] at hP
      refine fin _ _ e2 (fun z => nomatch z) (fun a n q => ?_) hP
      obtain ⟨vs, w1, w2, w3, w4⟩ := q
      unfold RepV
      exact ⟨a, vs, rfl, n, w1, w2, w4⟩
    · rename_i ks ds e2
      simp only [RS.seq] at hP
      refine fin _ _ e2 (fun z => nomatch z) (fun a n q => ?_) hP
      obtain ⟨o, xs, ys, w1, w2, w3, w4, w5, w6⟩ := q
      unfold RepV
      exact ⟨a, o, xs, ys, rfl, n, w1, w2, w3, w4⟩
    · exact hP.elim
  · exact hP.elim
theorem pureL_set {x : Fk.D} (hp : x.pure = true) : ∀ (l : List Fk.D) (j : Nat), Fk.D.pureL l = true → Fk.D.pureL (l.set j x) = true := fun l => by
  induction l with
  | nil => intro j h; exact h
  | cons a l ih =>
    intro j h
    unfold Fk.D.pureL at h
    simp only [Bool.and_eq_true] at h
    cases j with
    | zero => simp only [List.set_cons_zero]; unfold Fk.D.pureL; simp [hp, h.2]
    | succ j => simp only [List.set_cons_succ]; unfold Fk.D.pureL; simp [h.1, ih j h.2]
/-- o[i] = v by values: what is left to be shown -/
def rSet (g : G) : V → V → V → Hp → (Hp → Prop) → Prop := fun ov iv xv H Q => ∃ (o i x : Fk.D) (env : Fk.Env) (s : Fk.St) (φ : Phi), Rep g H φ s ∧ RepV g H φ o ov ∧ RepV g H φ i iv ∧ RepV g H φ x xv ∧
  match setAtD o i x env s with
  | .ok (.nx _) s' => ∀ H' φ', Ext H φ H' φ' → Rep g H' φ' s' → Q H'
  | _ => False
theorem set_any (hu : X.A.units + 64 < cLine) (hw : g.w = X.w) (hk : g.K = X.K) : PSet X (rSet g) := by
  intro pins s σ H ov iv xv u1 u2 u3 Q I ro ri rx ⟨o, i, x, env, st, φ, rp, ho, hi, hx, h⟩
  unfold setAtD at h
  cases o with
  | ref r =>
    simp only at h
    have ho' := ho
    unfold RepV at ho'
    cases e : st[r]? with
    | none => cases i <;> simp [e, setAt] at h
    | some ob =>
      cases ob with
      | gone => cases i <;> simp [e, setAt] at h
      | dic ks ds =>
        simp only [e] at h
        split at h
        · rename_i env' s' eq
          split at eq
          · rename_i c
            cases eq
            simp only [Bool.and_eq_true, decide_eq_true_eq] at c
            obtain ⟨⟨c1, c2⟩, c3⟩ := c
            obtain ⟨a, ob, xs, ys, e1, q1, q2, q3, q4, q5, q6⟩ := rp.dic r ks ds e
            have ex := ho'.2.2 a e1
            subst ex
            cases ro
            have ly : ks.length = ds.length := by
              obtain ⟨es, ep, w1, w2⟩ := q2.ent
              obtain ⟨l1, l2, l3⟩ := entl_len w2
              rw [q3.length, l2, q4.length, l3]
            have lyy : ks.length = ys.length := by rw [ly, q4.length]
            refine k_put hu hw hk I q1 q2 q3 c1 (by rw [← sl_eq]; exact c3) hi ri rx fun o' xs' s' I' dp kf => ⟨_, I', ?_⟩
            have x0 : Ext H φ (upd H a (dO a o')) φ := Ext.write rp e1
            refine h _ φ x0 (rp.write e e1 (fun z => nomatch z) fun x1 => ?_)
            have ek : (dPut ks ys i xv).1 = (dPut ks ds i x).1 := dPut_keys lyy ly
            rw [ek] at dp kf
            exact ⟨o', xs', _, upd_same, dp, kf _ _ (RepL.ext x1 _ q3) (RepV.ext x1 _ hi), repl_put ly (RepL.ext x1 _ q4) (RepV.ext x1 _ hx), ks_pure dp.ks, pureL_put c2 q6⟩
          · cases eq
        · exact h.elim
      | lst ds =>
        simp only [e, setAt] at h
        cases i with
        | int k =>
          simp only at h
          cases e2 : Fk.ixN ds.length k with
          | none => simp [e, e2] at h
          | some j =>
            simp only [e, e2] at h
            split at h
            · rename_i env' s' eq
              split at eq
              · rename_i hp
                cases eq
                obtain ⟨a, vs, q1, q2, q3, q4, q5⟩ := rp.lst r ds e
                have ex := ho'.2.2 a q1
                subst ex
                have hl := q3.length
                refine set_list pins s σ H _ iv xv u1 u2 u3 Q I ro ri rx ⟨a, vs, k, j, rfl, repv_int hi, q2, by rw [← hl]; exact e2, ?_⟩
                have y : Ext H φ (upd H a (.lst (vs.set j xv))) φ := Ext.write rp q1
                exact h _ φ y (rp.write e q1 (fun z => nomatch z) fun x1 => ⟨_, upd_same, RepL.ext x1 _ (q3.set j hx), pureL_set hp ds j q4, by rw [List.length_set]; exact q5⟩)
              · cases eq
            · exact h.elim
        | _ => exact h.elim
  | _ => exact h.elim
theorem PostS.sub {o i x : Fk.D} {env : Fk.Env} {s : Fk.St} {φ : Phi} {D : Ends} {H : Hp} {ov iv xv : V} {Q : Hp → Prop} (hP : PostS g W H φ (setAtD o i x env s) D) (hS : Rep g H φ s) (h1 : RepV g H φ o ov) (h2 : RepV g H φ i iv) (h3 : RepV g H φ x xv)
    (k : ∀ s' H' φ', setAtD o i x env s = .ok (.nx env) s' → Ext H φ H' φ' → Rep g H' φ' s' → Q H') : rSet g ov iv xv H Q := by
  refine ⟨o, i, x, env, s, φ, hS, h1, h2, h3, ?_⟩
  have only : ∀ r, setAtD o i x env s = r → r = .bad ∨ ∃ s', r = .ok (.nx env) s' := fun r e => by
    subst e
    unfold setAtD setAt
    cases o with
    | ref q =>
      simp only
      split
      · split
        · exact .inr ⟨_, rfl⟩
        · exact .inl rfl
      · cases i with
        | int n =>
          simp only
          split
          · split
            · split
              · exact .inr ⟨_, rfl⟩
              · exact .inl rfl
            · exact .inl rfl
          · exact .inl rfl
        | _ => exact .inl rfl
    | _ => exact .inl rfl
  rcases only _ rfl with e | ⟨s', e⟩
  · rw [e] at hP; exact hP.elim
  · rw [e]
    exact fun H' φ' x r => k s' H' φ' e x r
theorem sub_set {o i e : IE} {D : Ends} {σ : L2.St} {H : Hp} (h : tS g W (exS cf (.setSub o i e)) D σ H) : tAsg (tR (RepV g) g W (den cf e)) (gSub (tR (RepV g) g W (den cf o)) (tR (RepV g) g W (den cf i)) (rSet g)) D σ H := by
  obtain ⟨env, s, φ, hE, hS, hP⟩ := h
  simp only [exS] at hP
  refine ⟨env, s, φ, hE, hS, hP.expr hE fun x s1 xv H1 φ1 x1 r1 v1 p1 => ?_⟩
  refine ⟨env, s1, φ1, hE.ext x1, r1, p1.expr (hE.ext x1) fun ov s2 ovv H2 φ2 x2 r2 v2 p2 => ?_⟩
  refine ⟨env, s2, φ2, (hE.ext x1).ext x2, r2, p2.expr ((hE.ext x1).ext x2) fun iv s3 ivv H3 φ3 x3 r3 v3 p3 => ?_⟩
  have hE3 := ((hE.ext x1).ext x2).ext x3
  refine p3.sub r3 (RepV.ext x3 ov v2) v3 (RepV.ext (x2.trans x3) x v1) fun s' H' φ' es x4 r4 => ?_
  rw [es] at p3
  exact p3 σ H' φ' x4 (hE3.ext x4) r4
/-- what is told of a list, ahead of its method's arguments -/
theorem lst_chkS {φ : Phi} {D : Ends} {H : Hp} {d : Fk.D} {s : Fk.St} {r : RS} {v : V} (hS : Rep g H φ s) (hv : RepV g H φ d v) (h : PostS g W H φ (chkS_ (isLstR s d) r) D) : tyV X.K "list" v H ∧ (∃ i, d = .ref i) ∧ PostS g W H φ r D := by
  unfold chkS_ at h
  split at h
  · rename_i c
    unfold isLstR at c
    split at c
    · rename_i i
      split at c
      · rename_i ds e
        obtain ⟨a, vs, q1, q2, q3, q4, q5⟩ := hS.lst i ds e
        unfold RepV at hv
        have hx := hv.2.2 a q1
        subst hx
        exact ⟨.inl ⟨rfl, vs, SqL.of q2⟩, ⟨i, rfl⟩, h⟩
      · cases c
    · cases c
  · exact h.elim
theorem dic_chkS {φ : Phi} {D : Ends} {H : Hp} {d : Fk.D} {s : Fk.St} {r : RS} {v : V} (hS : Rep g H φ s) (hv : RepV g H φ d v) (h : PostS g W H φ (chkS_ (isDicR s d) r) D) : IsDO H v ∧ PostS g W H φ r D := by
  unfold chkS_ at h
  split at h
  · rename_i c
    unfold isDicR at c
    split at c
    · rename_i ks ds e
      obtain ⟨p, o, xs, ys, rfl, h1, h2, _⟩ := rd_dic hS hv e
      exact ⟨⟨p, o, rfl, h1, h2.ex⟩, h⟩
    · cases c
  · exact h.elim
theorem app_fin {φ : Phi} {D : Ends} {H : Hp} {σ : L2.St} {env : Fk.Env} {d x : Fk.D} {s : Fk.St} {v y : V} (hE : RepE g H φ env σ) (hS : Rep g H φ s) (hv : RepV g H φ d v) (hy : RepV g H φ x y) (h : PostS g W H φ (appD d x env s) D) : rAppend v [y] H (fun _ H' => D.nx σ H') := by
  unfold appD at h
  split at h
  · rename_i r
    split at h
    · rename_i ds e
      split at h
      · rename_i c
        rw [Bool.and_eq_true, decide_eq_true_eq] at c
        obtain ⟨a, vs, q1, q2, q3, q4, q5⟩ := hS.lst r ds e
        have hv' := hv
        unfold RepV at hv'
        have hx := hv'.2.2 a q1
        subst hx
        have l := q3.length
        have lz : vs.length < PySem.sizeLine := by rw [← l, ← sl_eq]; exact c.2
        refine ⟨a, vs, y, rfl, rfl, q2, lz, ?_⟩
        have x0 : Ext H φ (upd H a (.lst (vs ++ [y]))) φ := Ext.write hS q1
        refine h σ _ φ x0 (hE.ext x0) (hS.write e q1 (fun z => nomatch z) fun x1 => ⟨_, upd_same, (RepL.ext x1 _ q3).append (by unfold RepL; exact ⟨y, [], rfl, RepV.ext x1 _ hy, by simp [RepL]⟩), ?_, by simp; omega⟩)
        exact pureL_all fun d hd => by
          rcases List.mem_append.mp hd with hd | hd
          · exact pureL_mem q4 d hd
          · rw [List.mem_singleton.mp hd]; exact c.1
      · exact h.elim
    · exact h.elim
  · exact h.elim
theorem ext_fin {φ : Phi} {D : Ends} {H : Hp} {σ : L2.St} {env : Fk.Env} {d x : Fk.D} {s : Fk.St} {v y : V} (hE : RepE g H φ env σ) (hS : Rep g H φ s) (hv : RepV g H φ d v) (hy : RepV g H φ x y) (h : PostS g W H φ (extdD d x env s) D) : rExtend v [y] H (fun _ H' => D.nx σ H') := by
  unfold extdD at h
  split at h
  · rename_i r
    split at h
    · rename_i ds es e e2
      split at h
      · rename_i c
        rw [Bool.and_eq_true, decide_eq_true_eq] at c
        obtain ⟨a, vs, q1, q2, q3, q4, q5⟩ := hS.lst r ds e
        have hv' := hv
        unfold RepV at hv'
        have hx := hv'.2.2 a q1
        subst hx
        obtain ⟨b, zs, rfl, w1, w2, w3⟩ := rd_lst hS hy e2
        have l := q3.length
        have l2 := w2.length
        have lz : vs.length + zs.length ≤ PySem.sizeLine := by rw [← l, ← l2, ← sl_eq]; exact c.2
        refine ⟨a, b, vs, zs, rfl, rfl, q2, w1, lz, ?_⟩
        have x0 : Ext H φ (upd H a (.lst (vs ++ zs))) φ := Ext.write hS q1
        refine h σ _ φ x0 (hE.ext x0) (hS.write e q1 (fun z => nomatch z) fun x1 => ⟨_, upd_same, (RepL.ext x1 _ q3).append (RepL.ext x1 _ w2), ?_, by simp; omega⟩)
        exact pureL_all fun d hd => by
          rcases List.mem_append.mp hd with hd | hd
          · exact pureL_mem q4 d hd
          · exact pureL_mem c.1 d hd
      · exact h.elim
    · exact h.elim
  · exact h.elim
/-- keys and values of two dicts, one behind the other -/
structure MergeR (ks ds : List Fk.D) (ys : List V) (us : List Value) (g : G) (H : Hp) (φ : Phi) : Prop where
  K : KsOk ks
  nt : ∀ k ∈ ks, isTup k = false
  l1 : ks.length = us.length
  v : Vals ys us
  r : RepL g H φ ds ys
  l2 : ks.length = ds.length
  p : Fk.D.pureL ds = true
theorem MergeR.ly {ks ds : List Fk.D} {ys : List V} {us : List Value} {H : Hp} {φ : Phi} (m : MergeR ks ds ys us g H φ) : ks.length = ys.length := by rw [m.l1, m.v.length]
theorem merge_all {H : Hp} {φ : Phi} : ∀ (ks' ds' : List Fk.D) (ys' : List V) (us' : List Value) (ks ds : List Fk.D) (ys : List V) (us : List Value), MergeR ks ds ys us g H φ → (∀ k ∈ ks', keyOk k = true ∧ depth k ≤ 8 ∧ isTup k = false) → ks'.length = ds'.length → ks'.length = us'.length → Vals ys' us' → RepL g H φ ds' ys' → Fk.D.pureL ds' = true → ks.length + ks'.length < PySem.sizeLine →
    merged (mixP ks us) (mixP ks' us') = mixP (dMerge ks us ks' us').1 (dMerge ks us ks' us').2 ∧ (dMerge ks us ks' us').1 = (dMerge ks ds ks' ds').1 ∧ MergeR (dMerge ks ds ks' ds').1 (dMerge ks ds ks' ds').2 (dMerge ks ys ks' ys').2 (dMerge ks us ks' us').2 g H φ
  | [], [], ys', us', ks, ds, ys, us, m, _, _, l, v, r, _, _ => by
    cases us' with
    | cons _ _ => simp at l
    | nil =>
      cases v
      refine ⟨?_, rfl, ?_⟩
      · show merged (mixP ks us) [] = _
        simp [merged, dMerge]
      · simpa [dMerge] using m
  | [], _ :: _, _, _, _, _, _, _, _, _, l, _, _, _, _, _ => by simp at l
  | _ :: _, [], _, _, _, _, _, _, _, _, l, _, _, _, _, _ => by simp at l
  | k :: ks', d :: ds', ys', us', ks, ds, ys, us, m, hk, l, l2, v, r, p, z => by
    cases us' with
    | nil => simp at l2
    | cons u us' =>
      cases v with
      | @cons y _ ys' _ v1 v2 =>
        unfold RepL at r
        obtain ⟨y', r', e, r1, r2⟩ := r
        cases e
        unfold Fk.D.pureL at p
        rw [Bool.and_eq_true] at p
        obtain ⟨h1, h2, h3⟩ := hk k List.mem_cons_self
        have kok : kOk ks k = true := by
          unfold kOk
          simp only [Bool.and_eq_true, decide_eq_true_eq, List.all_eq_true, beq_iff_eq]
          exact ⟨⟨h1, h2⟩, fun j hj => by rw [m.nt j hj, h3]⟩
        have z' : ks.length < PySem.sizeLine := by omega
        have K' := ksOk_put (v := d) m.K m.l2 kok z'
        have eu : (dPut ks us k u).1 = (dPut ks ds k d).1 := dPut_keys m.l1 m.l2
        have ey : (dPut ks ys k y).1 = (dPut ks ds k d).1 := dPut_keys m.ly m.l2
        have lp := dPut_len (k := k) (v := u) m.l1
        have lp2 := dPut_len (k := k) (v := d) m.l2
        have ll : (dPut ks ds k d).1.length ≤ ks.length + 1 := by
          cases q : dGet ks ds k with
          | some w => rw [dPut_some m.l2 (by rw [q]; rfl)]; omega
          | none => rw [dPut_none m.l2 q]; simp
        have m' : MergeR (dPut ks ds k d).1 (dPut ks ds k d).2 (dPut ks ys k y).2 (dPut ks us k u).2 g H φ := by
          refine ⟨K', fun j hj => ?_, by rw [← eu]; exact lp, vals_put m.ly m.v v1, repl_put m.l2 m.r r1, lp2, pureL_put p.1 m.p⟩
          cases q : dGet ks ds k with
          | some w => rw [dPut_some m.l2 (by rw [q]; rfl)] at hj; exact m.nt j hj
          | none =>
            rw [dPut_none m.l2 q] at hj
            rcases List.mem_append.mp hj with hj | hj
            · exact m.nt j hj
            · rw [List.mem_singleton.mp hj]; exact h3
        obtain ⟨i1, i2, i3⟩ := merge_all ks' ds' ys' us' _ _ _ _ m' (fun j hj => hk j (List.mem_cons_of_mem _ hj)) (by simpa using l) (by simpa using l2) v2 r2 p.2 (by simp at z; omega)
        have st := mix_put ⟨h1, h3⟩ (u := u) m.l1 m.K.nd (fun j hj => ⟨(m.K.key j hj).1, m.nt j hj⟩)
        refine ⟨?_, ?_, ?_⟩
        · show merged (stored (mixP ks us) (keyK k) u) (mixP ks' us') = _
          rw [st, eu, i1]
          show _ = mixP (dMerge (dPut ks us k u).1 (dPut ks us k u).2 ks' us').1 (dMerge (dPut ks us k u).1 (dPut ks us k u).2 ks' us').2
          rw [eu]
        · show (dMerge (dPut ks us k u).1 (dPut ks us k u).2 ks' us').1 = (dMerge (dPut ks ds k d).1 (dPut ks ds k d).2 ks' ds').1
          rw [eu]; exact i2
        · show MergeR (dMerge (dPut ks ds k d).1 (dPut ks ds k d).2 ks' ds').1 (dMerge (dPut ks ds k d).1 (dPut ks ds k d).2 ks' ds').2 (dMerge (dPut ks ys k y).1 (dPut ks ys k y).2 ks' ys').2 (dMerge (dPut ks us k u).1 (dPut ks us k u).2 ks' us').2 g H φ
          rw [eu, ey]; exact i3
/-- d.update(d2), by keys that are no tuples -/
def rUpd (g : G) : V → List V → Hp → VK → Prop := fun x vs H Q => ∃ (d e : Fk.D) (env : Fk.Env) (s : Fk.St) (φ : Phi) (y : V), vs = [y] ∧ Rep g H φ s ∧ RepV g H φ d x ∧ RepV g H φ e y ∧
  match updD d e env s with
  | .ok (.nx _) s' => ∀ H' φ', Ext H φ H' φ' → Rep g H' φ' s' → Q .non H'
  | _ => False
theorem mt_upd {X : Cx} (hw : g.w = X.w) (hk : g.K = X.K) : MtR X "dict.update" (rUpd g) := by
  intro pins s σ H x vs v us Q I rx rv ⟨d, e, env, st, φ, y, ev, hS, hd, he, h⟩
  subst ev
  obtain ⟨u, rfl, ru⟩ := vals1 rv
  unfold updD at h
  split at h
  · rename_i env' s' eq
    split at eq
    · rename_i r ks' ds'
      split at eq
      · rename_i ks ds e1
        split at eq
        · rename_i c
          cases eq
          simp only [Bool.and_eq_true, decide_eq_true_eq, List.all_eq_true, Bool.not_eq_true'] at c
          obtain ⟨⟨⟨⟨c1, c2⟩, c3⟩, c4⟩, c5⟩ := c
          rw [sl_eq] at c5
          obtain ⟨a, o, xs, ys, q1, q2, q3, q4, q5, q6, q7⟩ := hS.dic r ks ds e1
          have hd' := hd
          unfold RepV at hd'
          have hx := hd'.2.2 a q1
          subst hx
          cases rx
          unfold RepV at he
          obtain ⟨b, o', xs', ys', rfl, n, w1, w2, w3, w4⟩ := he
          cases ru
          have hne : a ≠ b := fun z => n (by rw [← z]; exact .inl ⟨r, q1⟩)
          obtain ⟨us, v1, l1, f1, _⟩ := dict_faces hw hk I q2 q3 q4
          obtain ⟨us', v1', l1', f1', _⟩ := dict_faces hw hk I w1 w2 w3
          have ld : ks.length = ds.length := by rw [l1, ← v1.length, q5.length]
          have m : MergeR ks ds ys us g H φ := ⟨q3.ks, c3, l1, v1, q5, ld, q7⟩
          obtain ⟨i1, i2, i3⟩ := merge_all ks' ds' ys' us' ks ds ys us m (fun k hk => ⟨(w2.ks.key k hk).1, (w2.ks.key k hk).2, c4 k hk⟩) c2 l1' v1' w4 c1 c5
          refine call_meetsIn PySem.F.slot_dict_update (f1 c3).typeIs PySem.F.entry_dict_update (PySem.F.args_dict_update_2 _ _) (meets_dict_update (mixKind X.prog X.w) a b hne w2.sys)
            ⟨_, _, f1 c3, f1' c4, by unfold mixP; simp; omega, fun h' hm _ hs => ?_⟩
          rw [i1, i2] at hm
          obtain ⟨on, xn, g1, g2, g3⟩ := face_mix (g := g) (w := X.w) hm i3.l1 i3.v i3.K i3.nt q3.sys
          have x0 : Ext H φ (upd H a (dO a on)) φ := Ext.write hS q1
          refine ⟨.non, _, I_wr (t' := s.toks) I q2 hs g1, rfl, h _ φ x0 (hS.write e1 q1 (fun z => nomatch z) fun x1 => ?_)⟩
          exact ⟨on, xn, _, upd_same, hw.symm ▸ g2, g3 _ _, RepL.ext x1 _ i3.r, ks_pure i3.K, i3.p⟩
        · cases eq
      · cases eq
    · cases eq
  · exact h.elim
theorem upd_fin {φ : Phi} {D : Ends} {H : Hp} {σ : L2.St} {env : Fk.Env} {d x : Fk.D} {s : Fk.St} {v y : V} (hE : RepE g H φ env σ) (hS : Rep g H φ s) (hv : RepV g H φ d v) (hy : RepV g H φ x y) (h : PostS g W H φ (updD d x env s) D) : rUpd g v [y] H (fun _ H' => D.nx σ H') := by
  refine ⟨d, x, env, s, φ, y, rfl, hS, hv, hy, ?_⟩
  have only : ∀ r, updD d x env s = r → r = .bad ∨ ∃ s', r = .ok (.nx env) s' := fun r e => by
    subst e
    unfold updD
    split
    · split
      · split
        · exact .inr ⟨_, rfl⟩
        · exact .inl rfl
      · exact .inl rfl
    · exact .inl rfl
  rcases only _ rfl with e | ⟨s', e⟩
  · rw [e] at h; exact h.elim
  · rw [e] at h ⊢
    exact fun H' φ' x r => h σ H' φ' x (hE.ext x) r
theorem swap_stores {X : Cx} {a b a2 b2 v : Expr} {p1 p2 p3 : Pos} {kk : Nat} : swappedStores [.Tuple [.Subscript a b p1, .Subscript a2 b2 p2] kk p3] v X.env = pure none := by
  unfold swappedStores
  cases v <;> first | rfl | skip
  simp
theorem PostS.seqSub {o i x : Fk.D} {env : Fk.Env} {s : Fk.St} {φ : Phi} {D : Ends} {H : Hp} {ov iv xv : V} {Q : Hp → Prop} {f : Fk.Env → Fk.St → RS} (hP : PostS g W H φ ((setAtD o i x env s).seq f) D) (hS : Rep g H φ s) (h1 : RepV g H φ o ov) (h2 : RepV g H φ i iv) (h3 : RepV g H φ x xv)
    (k : ∀ s' H' φ', Ext H φ H' φ' → Rep g H' φ' s' → PostS g W H' φ' (f env s') D → Q H') : rSet g ov iv xv H Q := by
  have hP' : PostS g W H φ (setAtD o i x env s) { D with nx := fun σ' H' => True } := by
    cases e : setAtD o i x env s with
    | bad => rw [e] at hP; exact hP.elim
    | err x e2 s2 => rw [e] at hP; exact hP
    | ok fl s2 =>
      rw [e] at hP
      cases fl with
      | nx e3 => exact fun _ _ _ _ _ _ => trivial
      | rt d => exact hP
      | bk e3 => exact hP
      | ct e3 => exact hP
  refine hP'.sub hS h1 h2 h3 fun s' H' φ' es x4 r4 => ?_
  rw [es] at hP
  exact k s' H' φ' x4 r4 (PostS.ext (D := D) hP x4)
theorem swap_imp {o1 i1 o2 i2 e : IE} {D : Ends} {σ : L2.St} {H : Hp} (h : tS g W (exS cf (.swap o1 i1 o2 i2 e)) D σ H) : tAsg (tR (RepV g) g W (den cf e)) (gTup g.K 2 (gCons (gSub (tR (RepV g) g W (den cf o1)) (tR (RepV g) g W (den cf i1)) (rSet g)) (gCons (gSub (tR (RepV g) g W (den cf o2)) (tR (RepV g) g W (den cf i2)) (rSet g)) gNil))) D σ H := by
  obtain ⟨env, s, φ, hE, hS, hP⟩ := h
  simp only [exS] at hP
  refine ⟨env, s, φ, hE, hS, hP.expr hE fun x s1 xv H1 φ1 x1 r1 v1 p1 => ?_⟩
  split at p1
  · rename_i a b
    obtain ⟨p, vs, rfl, t1, t2, _⟩ := repv_tup v1
    obtain ⟨av, bv, rfl, va, vb⟩ := repl_2 t2
    refine ⟨p, _, rfl, t1.sq, rfl, av, [bv], rfl, ?_⟩
    have hE1 := hE.ext x1
    refine ⟨env, s1, φ1, hE1, r1, p1.expr hE1 fun ov s2 ovv H2 φ2 x2 r2 v2 p2 => ?_⟩
    refine ⟨env, s2, φ2, hE1.ext x2, r2, p2.expr (hE1.ext x2) fun iv s3 ivv H3 φ3 x3 r3 v3 p3 => ?_⟩
    have hE3 := (hE1.ext x2).ext x3
    refine p3.seqSub r3 (RepV.ext x3 ov v2) v3 (RepV.ext (x2.trans x3) a va) fun s4 H4 φ4 x4 r4 p4 => ?_
    have hE4 := hE3.ext x4
    have vb4 := RepV.ext (x2.trans (x3.trans x4)) b vb
    refine ⟨bv, [], rfl, ?_⟩
    refine ⟨env, s4, φ4, hE4, r4, p4.expr hE4 fun ov s5 ovv5 H5 φ5 x5 r5 v5 p5 => ?_⟩
    refine ⟨env, s5, φ5, hE4.ext x5, r5, p5.expr (hE4.ext x5) fun iv s6 ivv6 H6 φ6 x6 r6 v6 p6 => ?_⟩
    have hE6 := (hE4.ext x5).ext x6
    refine p6.sub r6 (RepV.ext x6 ov v5) v6 (RepV.ext (x5.trans x6) b vb4) fun s' H' φ' es x7 r7 => ?_
    rw [es] at p6
    exact ⟨rfl, p6 σ H' φ' x7 (hE6.ext x7) r7⟩
  · exact p1.elim
theorem par_imp {i j : Nat} {a b : IE} {D : Ends} {σ : L2.St} {H : Hp} (h : tS g W (exS cf (.par i j a b)) D σ H) : tPar i j (tR (RepL g) g W (denL cf [a, b])) D σ H := by
  obtain ⟨env, s, φ, hE, hS, hP⟩ := h
  simp only [exS] at hP
  have e : ((denL cf [a, b] env s).toS env fun xs s => match xs with
      | [x, y] => RS.ok (.nx ((env.set i (some x)).set j (some y))) s
      | _ => .bad) = ((den cf a env s).toS env fun x s => (den cf b env s).toS env fun y s => .ok (.nx ((env.set i (some x)).set j (some y))) s) := by
    simp only [denL]
    cases den cf a env s with
    | bad => rfl
    | err _ _ => rfl
    | ok x s1 =>
      simp only [R.bind_ok, R.toS]
      cases den cf b env s1 with
      | bad => rfl
      | err _ _ => rfl
      | ok y s2 => rfl
  rw [← e] at hP
  refine ⟨env, s, φ, hE, hS, hP.expr hE fun xs s1 vs H1 φ1 x1 r1 v1 p1 => ?_⟩
  split at p1
  · rename_i x y
    obtain ⟨xv, yv, rfl, q1, q2⟩ := repl_2 v1
    exact ⟨xv, yv, rfl, p1 _ H1 φ1 Ext.refl (((hE.ext x1).set i q1).set j q2) r1⟩
  · exact p1.elim
theorem whil_imp {c : IE} {body : List IS} {D : Ends} {σ : L2.St} {H : Hp} (h : tS g W (exS cf (.whil c body)) D σ H) : tWhile (tR bEq g W (denB cf c)) (tS g W (exB cf body)) D σ H := by
  obtain ⟨env, s, φ, hE, hS, hP⟩ := h
  simp only [exS] at hP
  refine ⟨fun m σ H => ∃ env s φ, RepE g H φ env σ ∧ Rep g H φ s ∧ PostS g W H φ (whileR (fun env s => (den cf c env s).toS env fun d s => match d with
      | .bl true => .ok (.nx env) s
      | .bl false => .ok (.bk env) s
      | _ => .bad) (fun env s => exB cf body env s) m env s) D, ⟨4096, env, s, φ, hE, hS, hP⟩, ?_⟩
  rintro m σ2 H2 ⟨env2, s2, φ2, hE2, hS2, hP2⟩
  cases m with
  | zero => simp only [whileR] at hP2; exact hP2.elim
  | succ m =>
    simp only [whileR] at hP2
    refine ⟨env2, s2, φ2, hE2, hS2, ?_⟩
    unfold denB
    cases q : den cf c env2 s2 with
    | bad => rw [q] at hP2; exact hP2.elim
    | err x s3 =>
      rw [q] at hP2
      exact fun cl d H3 φ3 y r3 hx => hP2 cl d σ2 H3 φ3 y (hE2.ext y) r3 hx
    | ok d s3 =>
      rw [q] at hP2
      simp only [R.toS, R.bind_ok] at hP2 ⊢
      cases d with
      | bl b =>
        simp only [Fk.asB]
        intro b' H3 φ3 x3 r3 hb
        have hb' : b = b' := hb
        subst hb'
        cases b with
        | true =>
          rw [if_pos rfl]
          simp only at hP2
          have hP3 := hP2.ext x3
          refine ⟨fun σ' H' => (fun m σ H => ∃ env s φ, RepE g H φ env σ ∧ Rep g H φ s ∧ PostS g W H φ (whileR (fun env s => (den cf c env s).toS env fun d s => match d with
            | .bl true => .ok (.nx env) s
            | .bl false => .ok (.bk env) s
            | _ => .bad) (fun env s => exB cf body env s) m env s) D) m σ' H', fun σ' H' w => ⟨m, Nat.lt_succ_self _, w⟩, env2, s3, φ3, hE2.ext x3, r3, ?_⟩
          cases q2 : exB cf body env2 s3 with
          | bad => rw [q2] at hP3; exact hP3.elim
          | err x e s4 => rw [q2] at hP3; exact hP3
          | ok f s4 =>
            rw [q2] at hP3
            cases f with
            | nx e => exact fun σ' H' φ' y hE' hS' => ⟨e, s4, φ', hE', hS', PostS.ext (D := D) hP3 y⟩
            | ct e => exact fun σ' H' φ' y hE' hS' => ⟨e, s4, φ', hE', hS', PostS.ext (D := D) hP3 y⟩
            | bk e => exact hP3
            | rt d => exact hP3
        | false =>
          rw [if_neg Bool.false_ne_true]
          simp only at hP2
          exact hP2 σ2 H3 φ3 x3 (hE2.ext x3) r3
      | _ => exact hP2.elim
mutual
theorem snd_S {g : G} {T : Tab} {cf : CF} {C : SC} : ∀ (t : IS) (X : Cx) (W : WX), GoodS g T cf C X W → ∀ (st : Stmt), chkS T t C st = true → PS X st (tS g W (exS cf t))
  | .expr e, X, W, hG, st, c => by
    unfold chkS at c
    split at c
    · rename_i x pos
      simp only [Bool.and_eq_true] at c
      refine (ps_expr (snd_E e C X x W hG.good hG.tk c.2).pe (swaps_no c.1)).imp fun D σ H ⟨env, s, φ, hE, hS, hP⟩ => ?_
      simp only [exS] at hP
      exact ⟨env, s, φ, hE, hS, hP.expr hE fun d s1 x H1 φ1 x1 r1 v1 p1 => p1.nx (hE.ext x1) r1⟩
    · cases c
  | .set p e, X, W, hG, st, c => by
    unfold chkS at c
    split at c
    · rename_i tg v pos
      simp only [Bool.and_eq_true] at c
      obtain ⟨⟨c1, c2⟩, c3⟩ := c
      unfold setOk at c3
      simp only [Bool.and_eq_true, Bool.or_eq_true] at c3
      obtain ⟨c3, c4⟩ := c3
      have plain : swapsWithSole [tg] v pos.line X.env = pure false → PS X (.Assign [tg] v pos) (tS g W (exS cf (.set p e))) := fun sw =>
        (ps_asg (snd_E e C X v W hG.good hG.tk c2).pe (pg_pat hG.good p tg c1) sw (stores_no c3) (assign_one c1)).imp fun D σ H h => asg_imp h
      rcases c4 with c4 | ⟨c4, c5⟩
      · exact plain (by rw [sole]; exact swaps_no c4)
      · split at c5
        · rename_i y py
          cases v with
          | ListComp el gs scope vpos =>
            cases hb : swB C y py (.ListComp el gs scope vpos) with
            | false => exact plain (by rw [sole, swaps_name hG, hb])
            | true =>
              cases p with
              | t is => unfold chkP at c1; cases c1
              | st is j => unfold chkP at c1; cases c1
              | s i =>
                unfold chkP at c1
                simp only [Bool.and_eq_true, beq_iff_eq] at c1
                have hyl : X.env.scope.names.lookup y = some .local := by
                  unfold swB at hb
                  simp only [Bool.and_eq_true, beq_iff_eq] at hb
                  rw [hG.good.sc]; exact hb.1.1
                have hN : X.N.Nodup := by rw [hG.good.N]; exact hG.good.nd
                cases e with
                | lc elt p k its cond =>
                  unfold chkE at c2
                  split at c2
                  · rename_i el' tg iter ifs scope' pos' heq
                    cases heq
                    simp only [Bool.and_eq_true] at c2
                    obtain ⟨⟨⟨⟨⟨d1, d2⟩, dtg⟩, d3⟩, d4⟩, d5⟩ := c2
                    split at d2
                    · rename_i xs ha
                      obtain ⟨hi, hs⟩ := it_sound (tg := tg) hG.good dtg ha d2 (snd_L its C X xs W hG.good hG.tk d2) (fun x e => by
                        subst e
                        obtain ⟨e, h1, _, h2⟩ := snd_1 its C X x W hG.good hG.tk d2
                        exact ⟨e, h1, h2⟩)
                      have hok : BlkOk X.N X.env.scope scope (ownOf C p) := by rw [hG.good.N, hG.good.sc]; exact blkOk_by d1
                      refine (ps_setLc (own := ownOf C p) (tt := tR bEq g WF (denB cf cond)) (te := tR (RepV g) g WF (den cf elt)) hG.good.calm hN (hG.good.N ▸ c1.1) hyl (by rw [swaps_name hG, hb]) hi hok
                        (fun s H B cl fp => pg_pat (hG.good.inner s H scope cl B fp) p tg d3) (fun s H B cl fp => ?_) (fun s H B cl fp => (snd_E elt (L3.inner C scope) _ el WF (hG.good.inner s H scope cl B fp) takes0 d4).pe) hs).imp fun D σ H h => ?_
                      · split at d5
                        · refine L2.PTs.imp pts_nil fun σ H Q ⟨env, s, φ, hE, hS, hP⟩ => ?_
                          cases cond with
                          | c d =>
                            cases d with
                            | bl b =>
                              cases b with
                              | true =>
                                simp only [denB, den, R.bind_ok, Fk.asB] at hP
                                exact hP.here hS rfl
                              | false => cases d5
                            | _ => cases d5
                          | _ => cases d5
                        · exact pts_one (snd_E cond (L3.inner C scope) _ _ WF (hG.good.inner s H scope cl B fp) takes0 d5).pt
                        · cases d5
                      · have h' := asg_imp h
                        rw [own_slots]
                        refine lc_imp (tR_congr (Q := fun x H1 => gName i x σ H1 D.nx) (m := den cf (.lc elt p k its cond)) ?_ fun env s => ?_)
                        · obtain ⟨env, s, φ, hE, hS, hP⟩ := h'
                          refine ⟨env, s, φ, hE, hS, ?_⟩
                          have conv : ∀ (r : R Fk.D), PostR (RepV g) g H φ r (fun x H1 => gD g (.s i) x σ H1 D.nx) (fun c d H => W c d σ H) → PostR (RepV g) g H φ r (fun x H1 => gName i x σ H1 D.nx) (fun c d H => W c d σ H) := fun r hr => by
                            cases r with
                            | ok d s => 
                              intro v H2 φ2 y r2 h2
                              obtain ⟨d', env2, env2', s3, φ3, e1, e1r, e2, e3, e4⟩ := hr v H2 φ2 y r2 h2
                              have e3' : some (env2.set i (some d')) = some env2' := e3
                              cases e3'
                              exact e4 _ _ _ Ext.refl e1r (e1.set i e2) (wipe_set (by simp [Pat.slots]))
                            | err e s => exact hr
                            | bad => exact hr
                          exact conv _ hP
                        · simp only [den, R.assoc]
                          congr 1
                          funext ws s
                          cases itK k ws with
                          | none => rfl
                          | some items => rfl
                    · cases d2
                  · rename_i hne
                    cases c2
                | _ => unfold chkE at c2; cases c2
          | _ => cases c4
        · cases c5
    · cases c
  | .setSub o i e, X, W, hG, st, c => by
    unfold chkS at c
    split at c
    · rename_i a b p2 v pos
      simp only [Bool.and_eq_true] at c
      obtain ⟨⟨⟨⟨c1, c2⟩, c3⟩, c4⟩, c5⟩ := c
      have hs : ∀ v', assign (.Subscript a b p2) X.env v' = (do
          let ov ← holding [v'] (eval a X.env)
          let iv ← holding [v', ov] (eval b X.env)
          standAt p2
          holding [v', ov, iv] (setItem ov iv v')
          release [v', ov, iv] []) := by
        intro v'
        cases b <;> first | rfl | (cases c2; done)
      exact (ps_asg (snd_E e C X v W hG.good hG.tk c5).pe (pg_sub (snd_E o C X a W hG.good hG.tk c3).pe (snd_E i C X b W hG.good hG.tk c4).pe (set_any hG.good.units hG.good.w.symm hG.good.K.symm) hs) (by rw [sole]; exact swaps_no c1) (stores_no (by unfold notPar; rfl)) rfl).imp fun D σ H h => sub_set h
    · cases c
  | .app o e, X, W, hG, st, c => by
    unfold chkS at c
    split at c
    · rename_i x n apos y pos p2
      simp only [Bool.and_eq_true, beq_iff_eq] at c
      obtain ⟨⟨⟨⟨⟨rfl, c2⟩, c3⟩, c4⟩, c5⟩, c6⟩ := c
      have A := (snd_E o C X x W hG.good hG.tk c5).pe
      have B := (snd_E e C X y W hG.good hG.tk c6).pe
      refine (ps_expr (pe_bm PySem.F.plainAttrs_list PySem.F.slot_list_append PySem.F.type_list_append mt_append A (pa_cons B pa_nil (star_cons c4)) (base_plain c2) (by rw [star_cons c4]; rfl) (by rw [beq_iff_eq]; exact c3) (star_cons c4) rfl) (swaps_no rfl)).imp fun D σ H ⟨env, s, φ, hE, hS, hP⟩ => ?_
      simp only [exS] at hP
      refine ⟨env, s, φ, hE, hS, hP.expr hE fun d s1 v H1 φ1 x1 r1 v1 p1 => ?_⟩
      obtain ⟨ty, _, p1⟩ := lst_chkS (X := X) r1 v1 p1
      refine ⟨ty, env, s1, φ1, hE.ext x1, r1, p1.expr (hE.ext x1) fun z s2 zv H2 φ2 x2 r2 v2 p2 => ?_⟩
      exact app_fin ((hE.ext x1).ext x2) r2 (RepV.ext x2 _ v1) v2 p2
    · cases c
  | .extd o e, X, W, hG, st, c => by
    unfold chkS at c
    split at c
    · rename_i x n apos y pos p2
      simp only [Bool.and_eq_true, beq_iff_eq] at c
      obtain ⟨⟨⟨⟨⟨rfl, c2⟩, c3⟩, c4⟩, c5⟩, c6⟩ := c
      have A := (snd_E o C X x W hG.good hG.tk c5).pe
      have B := (snd_E e C X y W hG.good hG.tk c6).pe
      refine (ps_expr (pe_bm PySem.F.plainAttrs_list PySem.F.slot_list_extend PySem.F.type_list_extend mt_extend A (pa_cons B pa_nil (star_cons c4)) (base_plain c2) (by rw [star_cons c4]; rfl) (by rw [beq_iff_eq]; exact c3) (star_cons c4) rfl) (swaps_no rfl)).imp fun D σ H ⟨env, s, φ, hE, hS, hP⟩ => ?_
      simp only [exS] at hP
      refine ⟨env, s, φ, hE, hS, hP.expr hE fun d s1 v H1 φ1 x1 r1 v1 p1 => ?_⟩
      obtain ⟨ty, _, p1⟩ := lst_chkS (X := X) r1 v1 p1
      refine ⟨ty, env, s1, φ1, hE.ext x1, r1, p1.expr (hE.ext x1) fun z s2 zv H2 φ2 x2 r2 v2 p2 => ?_⟩
      exact ext_fin ((hE.ext x1).ext x2) r2 (RepV.ext x2 _ v1) v2 p2
    · cases c
  | .upd o e, X, W, hG, st, c => by
    unfold chkS at c
    split at c
    · rename_i x n apos y pos p2
      simp only [Bool.and_eq_true, beq_iff_eq] at c
      obtain ⟨⟨⟨⟨⟨rfl, c2⟩, c3⟩, c4⟩, c5⟩, c6⟩ := c
      have A := (snd_E o C X x W hG.good hG.tk c5).pe
      have B := (snd_E e C X y W hG.good hG.tk c6).pe
      refine (ps_expr (pe_bmD PySem.F.slot_dict_update PySem.F.type_dict_update (mt_upd hG.good.w.symm hG.good.K.symm) A (pa_cons B pa_nil (star_cons c4)) (base_plain c2) (by rw [star_cons c4]; rfl) (by rw [beq_iff_eq]; exact c3) (star_cons c4) rfl) (swaps_no rfl)).imp fun D σ H ⟨env, s, φ, hE, hS, hP⟩ => ?_
      simp only [exS] at hP
      refine ⟨env, s, φ, hE, hS, hP.expr hE fun d s1 v H1 φ1 x1 r1 v1 p1 => ?_⟩
      obtain ⟨ty, p1⟩ := dic_chkS r1 v1 p1
      refine ⟨ty, env, s1, φ1, hE.ext x1, r1, p1.expr (hE.ext x1) fun z s2 zv H2 φ2 x2 r2 v2 p2 => ?_⟩
      exact upd_fin ((hE.ext x1).ext x2) r2 (RepV.ext x2 _ v1) v2 p2
    · cases c
  | .swap o1 i1 o2 i2 e, X, W, hG, st, c => by
    unfold chkS at c
    split at c
    · rename_i a b p1 a2 b2 p2 kk p3 v pos
      simp only [Bool.and_eq_true] at c
      obtain ⟨⟨⟨⟨⟨⟨⟨c1, c2⟩, c3⟩, c4⟩, c5⟩, c6⟩, c7⟩, c8⟩ := c
      have hs : ∀ (a b : Expr) (p2 : Pos), notSlice b = true → ∀ v', assign (.Subscript a b p2) X.env v' = (do
          let ov ← holding [v'] (eval a X.env)
          let iv ← holding [v', ov] (eval b X.env)
          standAt p2
          holding [v', ov, iv] (setItem ov iv v')
          release [v', ov, iv] []) := by
        intro a b p2 c2 v'
        cases b <;> first | rfl | (cases c2; done)
      have SA := set_any (X := X) (g := g) hG.good.units hG.good.w.symm hG.good.K.symm
      have G1 := pg_sub (snd_E o1 C X a W hG.good hG.tk c4).pe (snd_E i1 C X b W hG.good hG.tk c5).pe SA (hs a b p1 c2)
      have G2 := pg_sub (snd_E o2 C X a2 W hG.good hG.tk c6).pe (snd_E i2 C X b2 W hG.good hG.tk c7).pe SA (hs a2 b2 p2 c3)
      have ne : notPar (.Tuple [.Subscript a b p1, .Subscript a2 b2 p2] kk p3) v = true ∨ ∃ xs k q, v = .Tuple xs k q := by
        cases v <;> first | exact .inl rfl | exact .inr ⟨_, _, _, rfl⟩
      refine (ps_asg (snd_E e C X v W hG.good hG.tk c8).pe (pg_tup hG.good.calm (pgs_cons G1 (pgs_cons G2 pgs_nil rfl) rfl) (n := 2) rfl rfl) (by rw [sole]; exact swaps_no c1) (swap_stores) rfl).imp fun D σ H h => by rw [hG.good.K]; exact swap_imp h
    · cases c
  | .whil k body, X, W, hG, st, c => by
    unfold chkS at c
    split at c
    · rename_i t bd pos
      rw [Bool.and_eq_true] at c
      exact (ps_while hG.po (snd_E k C X t W hG.good hG.tk c.1).pt (snd_B body X W hG bd c.2)).imp fun D σ H h => whil_imp h
    · cases c
  | .par i j a b, X, W, hG, st, c => by
    unfold chkS at c
    split at c
    · rename_i x p1 y p2 k1 p3 e1 e2 k2 p4 pos
      simp only [Bool.and_eq_true, beq_iff_eq] at c
      obtain ⟨⟨⟨⟨⟨⟨c1, c2⟩, c3⟩, c4⟩, c5⟩, c6⟩, c7⟩ := c
      unfold parB at c1
      simp only [Bool.and_eq_true, beq_iff_eq, Bool.not_eq_true', decide_eq_true_eq] at c1
      obtain ⟨⟨⟨⟨⟨⟨q1, q2⟩, q3⟩, q4⟩, q5⟩, q6⟩, q7⟩ := c1
      have hN : X.N.Nodup := by rw [hG.good.N]; exact hG.good.nd
      have hx : X.env.scope.names.lookup x = some .local := by rw [hG.good.sc]; exact q1
      have hy : X.env.scope.names.lookup y = some .local := by rw [hG.good.sc]; exact q2
      have hne : i ≠ j := fun e => by
        subst e
        rw [c2] at c3
        have : x = y := Option.some.inj c3
        rw [this] at q4; simp at q4
      have hk : X.env.blockKind = .function := by unfold PySem.Env.blockKind; rw [hG.good.sc, q7]; rfl
      have kx : X.env.kindOf x = some .local := hx
      have ky : X.env.kindOf y = some .local := hy
      have ns : starEach [e1, e2] X.env = [(false, eval e1 X.env), (false, eval e2 X.env)] := by rw [star_cons c4, star_cons c5]; rfl
      have A := snd_L [a, b] C X [e1, e2] W hG.good hG.tk (by simp [chkL, c4, c5, c6, c7])
      refine (ps_par hG.good.calm hN (by rw [hG.good.N]; exact c2) (by rw [hG.good.N]; exact c3) hne hx hy A ?_).imp fun D σ H h => par_imp h
      have st : ([e1, e2].any fun | .Starred .. => true | _ => false) = false := by
        cases e1 <;> first | (simp [notStar] at c4; done) | (cases e2 <;> first | (simp [notStar] at c5; done) | rfl)
      unfold swappedStores
      simp only [List.length_cons, List.length_nil, hk, List.head?_cons, Option.map_some, Option.getD_some, Expr.pos, List.filterMap_cons, List.filterMap_nil, kx, ky, q3, st, q5, q6]
      simp [q4, List.eraseDups, List.eraseDupsBy]
      have q8 : (y == x) = false := by rw [beq_eq_false_iff_ne] at q4 ⊢; exact fun h => q4 h.symm
      rw [if_neg]
      · rw [show List.eraseDupsBy.loop (fun x1 x2 => x1 == x2) [x, y] [] = [x, y] from by
          simp [List.eraseDupsBy.loop, q8]]
        rfl
      · intro h
        cases h with
        | inl h => cases e1 <;> first | (simp [notStar] at c4; done) | (simp at h; done)
        | inr h => cases e2 <;> first | (simp [notStar] at c5; done) | (simp at h; done)
    · cases c
  | .brk, X, W, hG, st, c => by
    unfold chkS at c
    split at c
    · refine ps_break.imp fun D σ H ⟨env, s, φ, hE, hS, hP⟩ => ?_
      simp only [exS] at hP
      exact hP σ H φ Ext.refl hE hS
    · cases c
  | .cnt, X, W, hG, st, c => by
    unfold chkS at c
    split at c
    · refine ps_continue.imp fun D σ H ⟨env, s, φ, hE, hS, hP⟩ => ?_
      simp only [exS] at hP
      exact hP σ H φ Ext.refl hE hS
    · cases c
  | .fz i, X, W, hG, st, c => by unfold chkS at c; cases c
  | .ife k a b, X, W, hG, st, c => by
    unfold chkS at c
    split at c
    · rename_i t x y pos
      simp only [Bool.and_eq_true] at c
      refine (ps_if (snd_E k C X t W hG.good hG.tk c.1.1).pt (snd_B a X W hG x c.1.2) (snd_B b X W hG y c.2)).imp fun D σ H ⟨env, s, φ, hE, hS, hP⟩ => ?_
      simp only [exS] at hP
      refine ⟨env, s, φ, hE, hS, ?_⟩
      have hP' : PostS g W H φ ((denB cf k env s).toS env fun k s => if k then exB cf a env s else exB cf b env s) D := by
        unfold denB
        cases q : den cf k env s with
        | ok d s1 =>
          rw [q] at hP
          simp only [R.toS] at hP
          simp only [R.bind_ok]
          cases d <;> first | exact hP | exact hP.elim
        | err e s1 => rw [q] at hP; exact hP
        | bad => rw [q] at hP; exact hP
      refine hP'.expr hE fun kb s1 kb' H1 φ1 x1 r1 v1 p1 => ?_
      have hv : kb = kb' := v1
      subst hv
      cases kb with
      | true => exact ⟨env, s1, φ1, hE.ext x1, r1, p1⟩
      | false => exact ⟨env, s1, φ1, hE.ext x1, r1, p1⟩
    · cases c
  | .forr p k its body, X, W, hG, st, c => by
    unfold chkS at c
    split at c
    · rename_i tg iter bd pos
      simp only [Bool.and_eq_true] at c
      obtain ⟨⟨⟨c1, ctg⟩, c2⟩, c3⟩ := c
      split at c1
      · rename_i xs ha
        obtain ⟨hi, hs⟩ := it_sound (tg := tg) hG.good ctg ha c1 (snd_L its C X xs W hG.good hG.tk c1) (fun x e => by
          subst e
          obtain ⟨e, h1, _, h2⟩ := snd_1 its C X x W hG.good hG.tk c1
          exact ⟨e, h1, h2⟩)
        exact (ps_for hG.po hG.good.calm hi (pg_pat hG.good p tg c2) (snd_B body X W hG bd c3) hs).imp fun D σ H h => for_imp h
      · cases c1
    · cases c
  | .ret e, X, W, hG, st, c => by
    unfold chkS at c
    split at c
    · rename_i x pos
      refine (ps_ret (snd_E e C X x W hG.good hG.tk c).pe).imp fun D σ H ⟨env, s, φ, hE, hS, hP⟩ => ?_
      simp only [exS] at hP
      exact ⟨env, s, φ, hE, hS, hP.expr hE fun d s1 x H1 φ1 x1 r1 v1 p1 => p1 _ _ _ Ext.refl r1 v1⟩
    · split at c
      · refine ps_retN.imp fun D σ H ⟨env, s, φ, hE, hS, hP⟩ => ?_
        simp only [exS, den, R.toS] at hP
        exact hP _ _ _ Ext.refl hS repv_of_none
      · cases c
    · cases c
  | .pass, X, W, hG, st, c => by
    unfold chkS at c
    split at c
    · refine ps_pass.imp fun D σ H ⟨env, s, φ, hE, hS, hP⟩ => ?_
      simp only [exS] at hP
      exact hP.nx hE hS
    · unfold isDoc at c
      split at c
      · refine ps_doc.imp fun D σ H ⟨env, s, φ, hE, hS, hP⟩ => ?_
        simp only [exS] at hP
        exact hP.nx hE hS
      · cases c
  | .raise k, X, W, hG, st, c => by
    unfold chkS at c
    split at c
    · rename_i x _ m _ _ _ _
      simp only [Bool.and_eq_true, beq_iff_eq] at c
      obtain ⟨⟨c1, c2⟩, c3⟩ := c
      unfold isDbg at c3
      simp only [Bool.not_eq_true', Bool.or_eq_false_iff] at c3
      obtain ⟨C1, m1, m2⟩ := hG.good.tab.exc k x c1
      refine (ps_raise hG.good.calm hG.tk (pmk_own PySem.F.excBase_ValueError (by rw [hG.good.K]; exact m2.ex) (by rw [hG.good.mg]; exact m1) (by rw [hG.good.K]; exact m2.kp) (raises_own (by rw [hG.good.K]; exact m2.sb) (by rw [hG.good.K]; exact m2.ty)) (hG.good.gl c2) c3.1)).imp fun D σ H ⟨env, s, φ, hE, hS, hP⟩ => ?_
      simp only [exS] at hP
      exact hP _ _ σ H φ Ext.refl hE hS ⟨x, C1, by rw [hG.good.tab.excs]; exact c1, m1, rfl, rfl⟩
    · cases c
  | .tryR body m h sl es, X, W, hG, st, c => by
    unfold chkS at c
    split at c
    · rename_i bd x np n xs p1 p2 p3 p4
      simp only [Bool.and_eq_true, beq_iff_eq, decide_eq_true_eq] at c
      obtain ⟨⟨⟨⟨⟨⟨⟨⟨c1, c2⟩, c3⟩, c4⟩, c5⟩, c6⟩, c7⟩, c8⟩, c9⟩ := c
      unfold isDbg at c3
      simp only [Bool.not_eq_true', Bool.or_eq_false_iff] at c3
      obtain ⟨C1, m1, m2⟩ := hG.good.tab.exc h x c1
      have hln : X.env.kindOf n = some .local := by
        show X.env.scope.names.lookup n = _
        rw [hG.good.sc]; exact c5
      refine (ps_try_as (c := .ref C1) (i := sl) (tb := fun W => tS g W (exB cf body)) (ts := tSuite g (es := es) sl) (Wout := W) hG.stk hG.frm (by rw [hG.good.N]; exact hG.good.nd) (by rw [hG.good.N]; exact c4) hln ⟨hG.good.gl c2, c3.1, .inl (by rw [hG.good.mg]; exact m1)⟩ hG.tk
        (fun W' pn xe tk' po' => snd_B body (X.tr pn xe) W' ⟨⟨hG.good.K, hG.good.mg, hG.good.w, hG.good.sc, hG.good.N, hG.good.nd, hG.good.fn, hG.good.calm, hG.good.tab, hG.good.room⟩, tk', po', hG.fnk, hG.stk, hG.frm⟩ bd c8)
        (fun a oe cls d pn hz hf => suite_ok hG c4 c9 c7 hz hf)).imp fun D σ H ⟨env, s, φ, hE, hS, hP⟩ => ?_
      simp only [exS] at hP
      refine ⟨env, s, φ, hE, hS, ?_⟩
      cases q : exB cf body env s with
      | bad => rw [q] at hP; exact hP
      | ok f s1 => rw [q] at hP; cases f <;> exact hP
      | err e env1 s1 =>
        rw [q] at hP
        intro cls d σ' H' φ' y hE' hS' hx
        obtain ⟨nm, C2, q1, q2, q3, q4⟩ := id hx
        subst q3
        have hb : m.contains e.cls = T.subs.contains (e.cls, h) := by
          have := List.all_eq_true.mp c6 e.cls (List.mem_range.mpr (by
            have := (List.getElem?_eq_some_iff.mp q1).1
            rw [hG.good.tab.excs] at this; exact this))
          simpa using this
        rw [hG.good.tab.excs] at q1
        obtain ⟨s1x, _⟩ := hG.good.tab.sub e.cls h nm x C2 C1 q1 c1 q2 m1
        refine ⟨T.subs.contains (e.cls, h), by rw [hG.good.K]; exact s1x, fun ht a ha => ?_, fun hf => ?_⟩
        · simp only [RS.caught] at hP
          rw [hb, ht, if_pos rfl] at hP
          cases ha2 : e.arg with
          | some _ => rw [ha2] at hP; exact hP.elim
          | none =>
            rw [ha2] at hP q4
            refine ⟨e.cls, nm, C2, by rw [hG.good.tab.excs]; exact q1, q2, rfl, q4, ?_, fun p hp => ?_⟩
            · by_cases hl : sl < σ'.length
              · exact .inl (List.getElem?_set_self hl)
              · exact .inr (by simpa using Nat.le_of_not_lt hl)
            · have x0 := Ext.new_ hS' hp (.lst (es.map (suW e.cls)))
              refine hP _ _ φ' (y.trans x0) (hS'.new_ hp _) ?_
              unfold RepV
              exact ⟨p, _, rfl, hS'.notLive hp, upd_same, su_rep es xs c9, by rw [List.length_map, ← su_len es xs c9, ← sl_eq]; exact Nat.le_trans c7 (by decide)⟩
        · simp only [RS.caught] at hP
          rw [hb, hf, if_neg Bool.false_ne_true] at hP
          exact hP _ _ σ' H' φ' y hE' hS' ⟨nm, C2, by rw [hG.good.tab.excs]; exact q1, q2, rfl, q4⟩
    · cases c
theorem snd_B {g : G} {T : Tab} {cf : CF} {C : SC} : ∀ (ts : List IS) (X : Cx) (W : WX), GoodS g T cf C X W → ∀ (sts : List Stmt), chkB T ts C sts = true → PSs X sts (tS g W (exB cf ts))
  | [], X, W, hG, sts, c => by
    unfold chkB at c
    simp only [List.isEmpty_iff] at c
    subst c
    refine pss_nil.imp fun D σ H ⟨env, s, φ, hE, hS, hP⟩ => ?_
    simp only [exB] at hP
    exact hP.nx hE hS
  | t :: ts, X, W, hG, sts, c => by
    unfold chkB at c
    split at c
    · rename_i hf
      cases t with
      | fz i => exact (snd_B ts X W hG sts c).imp fun D σ H h => fz_imp h
      | _ => cases hf
    · cases sts with
      | nil => cases c
      | cons st sts =>
        simp only [Bool.and_eq_true] at c
        refine (pss_cons (snd_S t X W hG st c.1) (snd_B ts X W hG sts c.2)).imp fun D σ H ⟨env, s, φ, hE, hS, hP⟩ => ?_
        simp only [exB] at hP
        refine ⟨env, s, φ, hE, hS, ?_⟩
        cases q : exS cf t env s with
        | ok f s1 =>
          rw [q] at hP
          cases f with
          | nx env1 => exact fun σ' H' φ' y hE' hS' => ⟨env1, s1, φ', hE', hS', PostS.ext (D := D) hP y⟩
          | rt d => exact hP
          | bk e => exact hP
          | ct e => exact hP
        | err x e s1 => rw [q] at hP; exact hP
        | bad => rw [q] at hP; exact hP
end
end
end L3

set_option Elab.async false
set_option linter.all false
set_option autoImplicit false
set_option maxRecDepth 100000
set_option maxHeartbeats 8000000
/-! FkBind: parameters, plain. -/
namespace L3
open PySem PySem.Spec PyProof.Rows L2 Fk

theorem zip_lookup {α : Type} {n : PySem.Str} : ∀ {ps : List PySem.Str} {us : List α}, us.length = ps.length → n ∈ ps → ∃ v, (ps.zip us).lookup n = some v
  | [], _, _, h => by cases h
  | p :: ps, [], l, _ => by cases l
  | p :: ps, u :: us, l, h => by
    rw [List.zip_cons_cons, List.lookup_cons]
    cases e : n == p with
    | true => exact ⟨u, rfl⟩
    | false =>
      have hne : n ≠ p := by simpa using e
      exact zip_lookup (by simpa using l) ((List.mem_cons.mp h).resolve_left hne)
theorem zip_back {α : Type} : ∀ {ps : List PySem.Str} {us : List α} (f : PySem.Str → Option α), us.length = ps.length → (∀ (i : Nat) (n : PySem.Str), ps[i]? = some n → f n = us[i]?) → ps.filterMap (fun n => (f n).map (n, ·)) = ps.zip us
  | [], [], _, _, _ => rfl
  | [], _ :: _, _, l, _ => by cases l
  | p :: ps, [], _, l, _ => by cases l
  | p :: ps, u :: us, f, l, h => by
    have h0 : f p = some u := h 0 p rfl
    rw [List.filterMap_cons, h0]
    simp only [Option.map_some, List.zip_cons_cons]
    rw [zip_back f (by simpa using l) fun i n e => by have := h (i + 1) n (by simpa using e); simpa using this]
theorem zip_at {α : Type} : ∀ {ps : List PySem.Str} {us : List α}, ps.Nodup → us.length = ps.length → ∀ (i : Nat) (n : PySem.Str), ps[i]? = some n → (ps.zip us).lookup n = us[i]?
  | [], _, _, _, i, n, e => by simp at e
  | p :: ps, [], _, l, _, _, _ => by cases l
  | p :: ps, u :: us, nd, l, i, n, e => by
    rw [List.zip_cons_cons, List.lookup_cons]
    cases i with
    | zero =>
      have e' : p = n := by simpa using e
      subst e'
      simp
    | succ i =>
      have e' : ps[i]? = some n := by simpa using e
      have hne : (n == p) = false := by
        rw [beq_eq_false_iff_ne]
        rintro rfl
        exact (List.nodup_cons.mp nd).1 (List.mem_of_getElem? e')
      rw [hne]
      have := zip_at (us := us) (List.nodup_cons.mp nd).2 (by simpa using l) i n e'
      simpa using this
/-- plain parameters -/
def plainPs (p : Arguments) (ps : List PySem.Str) : Bool :=
  p.posonlyargs.isEmpty && decide (p.args.map (·.arg) = ps) && p.vararg.isNone && p.kwonlyargs.isEmpty && p.kwarg.isNone && decide ps.Nodup
theorem bind_plain {x qual : PySem.Str} {params : Arguments} {body : List Stmt} {scope : Scope} {kV doc pm : Value} {an : Option Addr} {cdv ct : Value} {ps : List PySem.Str} {us : List Value} (h : plainPs params ps = true) (l : us.length = ps.length) :
    bindArgs (PySem.W.fnOf x qual params body scope .none kV doc pm an cdv ct) ⟨us, []⟩ = pure (ps.zip us) := by
  unfold plainPs at h
  simp only [Bool.and_eq_true, List.isEmpty_iff, decide_eq_true_eq, Option.isNone_iff_eq_none] at h
  obtain ⟨⟨⟨⟨⟨h1, h2⟩, h3⟩, h4⟩, h5⟩, h6⟩ := h
  obtain ⟨po, ar, va, ko, kd, kw, df⟩ := params
  simp only at h1 h2 h3 h4 h5
  subst h1 h3 h4 h5
  have m : (ps.filter fun n => ((ps.zip us).lookup n).isNone) = [] := by
    rw [List.filter_eq_nil_iff]
    intro n hn
    obtain ⟨v, e⟩ := zip_lookup l hn
    rw [e]; simp
  have b : (ps.filterMap fun n => ((ps.zip us).lookup n).map (n, ·)) = ps.zip us := zip_back _ l (zip_at h6 l)
  have e1 : ar.map (fun a => a.arg) = ps := h2
  unfold bindArgs
  simp only [PySem.W.fnOf, e1, List.map_nil, List.nil_append, List.append_nil]
  simp [seqItems?, l, m, b]
  rfl
end L3

set_option Elab.async false
set_option linter.all false
set_option autoImplicit false
set_option maxRecDepth 100000
set_option maxHeartbeats 8000000
/-! FkFn: defs keep their promises; what stands behind the top. -/
namespace L3
open PySem PySem.Spec PyProof.Rows L2 Fk

structure FD where
  x : PySem.Str
  N : List PySem.Str
  fn : Fk.Fn
  params : Arguments
  body : List Stmt
  scope : Scope
def FD.ok (T : Tab) (d : FD) : Bool :=
  C8.scC d.N (d.N.take d.fn.np) d.scope && decide (d.fn.np ≤ d.N.length) && decide (d.fn.ns = d.N.length) && plainPs d.params (d.N.take d.fn.np) && chkB T d.fn.body ⟨d.scope, d.N, fun _ => true⟩ d.body && decide (d.scope.kind = .function)
structure Facts (g : G) (T : Tab) (ds : List FD) : Prop where
  tab : TabOk g T
  fns : g.fns = ds.map (·.x)
  def_ : ∀ d ∈ ds, ∃ fa fd, g.mg d.x = some (.ref fa) ∧ FunD g.K d.x d.x d.params d.body d.scope [] [] fa fd
  ok : ∀ d ∈ ds, d.ok T = true

section
variable {g : G} {H : Hp} {φ : Phi}
theorem start_rep {fn : Fk.Fn} {N : List PySem.Str} {ds : List D} {vs : List V} (h : RepL g H φ ds vs) (hn : fn.ns = N.length) (hp : ds.length = fn.np) : RepE g H φ (Fk.start fn ds) (L2.start N vs) := by
  have l := h.length
  unfold Fk.start L2.start
  rw [hn, ← hp, l]
  refine ⟨by simp [l], fun i d e => ?_⟩
  by_cases hi : i < ds.length
  · rw [List.getElem?_append_left (by simpa using hi)] at e
    rw [List.getElem?_append_left (by simp; omega)]
    rw [List.getElem?_map] at e
    cases q : ds[i]? with
    | none => rw [q] at e; cases e
    | some d' =>
      rw [q] at e
      cases e
      obtain ⟨v, hv, r⟩ := h.get q
      exact ⟨v, by rw [List.getElem?_map, hv]; rfl, r⟩
  · rw [List.getElem?_append_right (by simpa using hi)] at e
    rw [List.getElem?_replicate] at e
    split at e <;> simp at e
theorem back_post {s : Fk.St} {r : RS} {Q : VK} {E : XK} (hS : Rep g H φ s) (p : PostR (RepV g) g H φ (back s r) Q E) :
    PostS g (fun cls d _ H => E cls d H) H φ r { nx := fun _ H' => Q .non H', rt := Q } := by
  have hl := hS.len
  cases r with
  | bad => exact p
  | err x env s' =>
    intro cls d σ' H' φ' y hE' hS' hx
    refine p cls d H' (φ'.cut (max s.length (match x.arg with | some a => a.top | Option.none => 0))) (y.cut (by omega)) (hS'.cut _) ?_
    obtain ⟨nm, C, q1, q2, q3, q4⟩ := hx
    refine ⟨nm, C, q1, q2, q3, ?_⟩
    cases ha : x.arg with
    | none => rw [ha] at q4; exact q4
    | some a =>
      rw [ha] at q4
      obtain ⟨dd, v, z1, z2, z3⟩ := q4
      exact ⟨dd, v, z1, z2, RepV.take a z3 (Nat.le_max_right ..)⟩
  | ok f s' =>
    cases f with
    | nx env =>
      intro σ' H' φ' y hE' hS'
      exact p .non H' (φ'.cut s.length) (y.cut (by omega)) (hS'.cut _) repv_of_none
    | rt d =>
      intro v H' φ' y hS' hv
      exact p v H' (φ'.cut (max s.length d.top)) (y.cut (by omega)) (hS'.cut _) (RepV.take d hv (Nat.le_max_right ..))
    | bk env => exact p.elim
    | ct env => exact p.elim
/-- a def at the next level -/
theorem fn_next {T : Tab} {ds : List FD} (hF : Facts g T ds) {P : Program} {w : World} (hw : w = g.w) {base : Heap} {n : Nat} (ih : Calls P w g base n (callF (ds.map (·.fn)) n)) {f : Nat} {d : FD} (q : ds[f]? = some d) {fa : Addr} {fd : FuncData}
    (h2 : FunD g.K d.x d.x d.params d.body d.scope [] [] fa fd) : FnOk P w g.K g.mg base (L2.CX P w) (n + 1) fa fd (d.N.take d.fn.np) (spOf g (d.N.take d.fn.np).length (callF (ds.map (·.fn)) (n + 1) f)) := by
  have hok := hF.ok d (List.mem_of_getElem? q)
  unfold FD.ok at hok
  simp only [Bool.and_eq_true, decide_eq_true_eq] at hok
  obtain ⟨⟨⟨⟨⟨o1, o2⟩, o3⟩, o4⟩, o5⟩, o6⟩ := hok
  have S := C8.fnScope_by o1
  have lps : (d.N.take d.fn.np).length = d.fn.np := by rw [List.length_take]; omega
  have hPf : (ds.map (·.fn))[f]? = some d.fn := by rw [List.getElem?_map, q]; rfl
  refine h2.ok S (fun vs H Q E h => h.1) fun cdv A outer s H vs Q E hr ⟨hl, ds', st, φ, hS, hL, hP⟩ => ?_
  have hlen : ds'.length = d.fn.np := by rw [hL.length, hl, lps]
  have hP' : PostR (RepV g) g H φ (back st (exB (callF (ds.map (·.fn)) n) d.fn.body (Fk.start d.fn ds') st)) Q E := by
    have : callF (ds.map (·.fn)) (n + 1) f ds' st = back st (exB (callF (ds.map (·.fn)) n) d.fn.body (Fk.start d.fn ds') st) := by
      simp only [callF, hPf]
      rw [if_pos hlen]
    rw [← this]; exact hP
  refine ⟨tS g (fun cls d _ H => E cls d H) (exB (callF (ds.map (·.fn)) n) d.fn.body), ?_, Fk.start d.fn ds', st, φ, start_rep hL o3 hlen, hS, back_post hS hP'⟩
  refine snd_B (T := T) (C := ⟨d.scope, d.N, fun _ => true⟩) d.fn.body _ _ ?_ d.body o5
  exact ⟨⟨rfl, rfl, hw, rfl, rfl, S.nd, rfl, rfl, hF.tab, n, hr, ih⟩, takes_of rfl rfl rfl rfl, passes_of rfl, o6, rfl, rfl⟩
theorem calls {T : Tab} {ds : List FD} (hF : Facts g T ds) {P : Program} {w : World} (hw : w = g.w) {base : Heap} : ∀ n, Calls P w g base n (callF (ds.map (·.fn)) n) := by
  intro n
  induction n with
  | zero =>
    refine ⟨fun f x hx => ?_⟩
    rw [hF.fns, List.getElem?_map] at hx
    cases q : ds[f]? with
    | none => rw [q] at hx; cases hx
    | some d =>
      rw [q] at hx
      cases hx
      have hd := List.mem_of_getElem? q
      obtain ⟨fa, fd, h1, h2⟩ := hF.def_ d hd
      have hok := hF.ok d hd
      unfold FD.ok at hok
      simp only [Bool.and_eq_true, decide_eq_true_eq] at hok
      refine ⟨fa, fd, d.N.take d.fn.np, h1, h2.kp, ⟨fun vs H Q E h => h.1, fun A outer s H args us vs Q E _ _ _ _ ⟨_, _, _, _, _, _, p⟩ => p.elim⟩, h2.bindsN fun kV doc pm an cdv ct us l => bind_plain hok.1.1.2 l, fun _ _ _ => rfl⟩
  | succ n ih =>
    refine ⟨fun f x hx => ?_⟩
    rw [hF.fns, List.getElem?_map] at hx
    cases q : ds[f]? with
    | none => rw [q] at hx; cases hx
    | some d =>
      rw [q] at hx
      cases hx
      have hd := List.mem_of_getElem? q
      obtain ⟨fa, fd, h1, h2⟩ := hF.def_ d hd
      have hok := hF.ok d hd
      unfold FD.ok at hok
      simp only [Bool.and_eq_true, decide_eq_true_eq] at hok
      have lps : (d.N.take d.fn.np).length = d.fn.np := by rw [List.length_take]; omega
      have hPf : (ds.map (·.fn))[f]? = some d.fn := by rw [List.getElem?_map, q]; rfl
      refine ⟨fa, fd, d.N.take d.fn.np, h1, h2.kp, fn_next hF hw ih q h2, h2.bindsN fun kV doc pm an cdv ct us l => bind_plain hok.1.1.2 l, fun ds' s hne => ?_⟩
      simp only [callF, hPf]
      rw [if_neg (by rw [← lps]; exact hne)]
end

/-! ### constants -/
mutual
def statB (K : PySem.W.Frag) (fns : List PySem.Str) : D → Value → Bool
  | .none, .none => true
  | .bl b, .bool c => b == c
  | .int i, .int j _ => i == j
  | .str z, .str y _ => y.cps.toList == z
  | .tup ds, .ref a => (match K.lookup a with
    | some ⟨.type c, _, .seq its _, _⟩ => c == "tuple" && decide (its.size ≤ PySem.sizeLine) && statL K fns ds its.toList
    | _ => false)
  | .fn f, .ref a => (match fns[f]? with
    | some x => He.eqO (PySem.W.nsIn K mainGlobals x) (some (some (.ref a)))
    | none => false)
  | .ty t, .type n => n == tyName t
  | _, _ => false
def statL (K : PySem.W.Frag) (fns : List PySem.Str) : List D → List Value → Bool
  | [], [] => true
  | d :: ds, u :: us => statB K fns d u && statL K fns ds us
  | _, _ => false
end
mutual
theorem statB_ok {g : G} (hm : ∀ x u, PySem.W.nsIn g.K mainGlobals x = some (some u) → g.mg x = some u) : ∀ (d : D) (u : Value), statB g.K g.fns d u = true → ∃ v, RelV v u ∧ ∀ H φ, RepV g H φ d v
  | .none, u, h => by
    cases u <;> first | (simp [statB] at h; done) | skip
    exact ⟨.non, rfl, fun _ _ => repv_of_none⟩
  | .bl b, u, h => by
    cases u <;> first | (simp [statB] at h; done) | skip
    simp only [statB, beq_iff_eq] at h
    subst h
    exact ⟨.bl b, rfl, fun _ _ => repv_of_bl⟩
  | .int i, u, h => by
    cases u <;> first | (simp [statB] at h; done) | skip
    simp only [statB, beq_iff_eq] at h
    subst h
    exact ⟨.int i, ⟨_, rfl⟩, fun _ _ => repv_of_int⟩
  | .str z, u, h => by
    cases u <;> first | (simp [statB] at h; done) | skip
    rename_i y t
    simp only [statB, beq_iff_eq] at h
    subst h
    refine ⟨.str y, ⟨_, rfl⟩, fun _ _ => ?_⟩
    have := repv_of_str (g := g) (H := ‹_›) (φ := ‹_›) (z := y.cps.toList)
    exact this
  | .tup ds, u, h => by
    cases u <;> first | (simp [statB] at h; done) | skip
    rename_i a
    simp only [statB] at h
    split at h
    · rename_i c od its n sl e
      simp only [Bool.and_eq_true, decide_eq_true_eq, beq_iff_eq] at h
      obtain ⟨⟨rfl, h2⟩, h3⟩ := h
      obtain ⟨vs, q1, q2⟩ := statL_ok hm ds _ h3
      refine ⟨.ref a, rfl, fun H φ => ?_⟩
      unfold RepV
      exact ⟨a, vs, rfl, .inl ⟨_, its, n, e, rfl, rfl, h2, q1⟩, q2 H φ, by rw [q1.length]; simpa using h2⟩
    · cases h
  | .fn f, u, h => by
    cases u <;> first | (simp [statB] at h; done) | skip
    rename_i a
    simp only [statB] at h
    split at h
    · rename_i x e
      refine ⟨.ref a, rfl, fun H φ => ?_⟩
      unfold RepV
      exact ⟨x, a, e, hm x _ (He.eqO_ok h), rfl⟩
    · cases h
  | .ty t, u, h => by
    cases u <;> first | (simp [statB] at h; done) | skip
    simp only [statB, beq_iff_eq] at h
    subst h
    refine ⟨.ty (tyName t), rfl, fun H φ => ?_⟩
    unfold RepV; rfl
  | .lst _, u, h => by simp [statB] at h
  | .dic _ _, u, h => by simp [statB] at h
  | .set _, u, h => by simp [statB] at h
  | .scr _, u, h => by simp [statB] at h
  | .ref _, u, h => by simp [statB] at h
  | .tab _ _, u, h => by simp [statB] at h
theorem statL_ok {g : G} (hm : ∀ x u, PySem.W.nsIn g.K mainGlobals x = some (some u) → g.mg x = some u) : ∀ (ds : List D) (us : List Value), statL g.K g.fns ds us = true → ∃ vs, Vals vs us ∧ ∀ H φ, RepL g H φ ds vs
  | [], [], _ => ⟨[], .nil, fun _ _ => by simp [RepL]⟩
  | [], _ :: _, h => by simp [statL] at h
  | _ :: _, [], h => by simp [statL] at h
  | d :: ds, u :: us, h => by
    simp only [statL, Bool.and_eq_true] at h
    obtain ⟨v, q1, q2⟩ := statB_ok hm d u h.1
    obtain ⟨vs, q3, q4⟩ := statL_ok hm ds us h.2
    refine ⟨v :: vs, .cons q1 q3, fun H φ => ?_⟩
    unfold RepL
    exact ⟨v, vs, rfl, q2 H φ, q4 H φ⟩
end
def constsB (T : Tab) (K : PySem.W.Frag) : Bool := T.consts.all fun q => match PySem.W.nsIn K mainGlobals q.1 with
  | some (some u) => statB K T.fns q.2 u
  | _ => false
def FD.d (d : FD) : He.DefD := ⟨(d.x, none), d.x, d.x, d.params, d.body, d.scope, [], []⟩
def faOf (T : Tab) : List He.Fa := T.fns.map .glo ++ T.blts.map .free
def keysB (ks : List (List Nat)) : Option Obj → Bool
  | some ⟨_, _, .dict es _, _⟩ => es.toList.all fun e => match e.key with
    | .str y _ => ks.contains y.cps.toList
    | _ => false
  | _ => false
def tabsB (T : Tab) (K : PySem.W.Frag) : Bool := T.tabs.all fun q => He.eqO (PySem.W.nsIn K mainGlobals q.1) (some (some (.ref (He.ga K q.1)))) && ((!(He.ga K q.1 == sysModules) && keysB (q.2.map (·.1)) (K.lookup (He.ga K q.1))) && q.2.all fun p => match PySem.W.nsIn K (He.ga K q.1) (strV p.1) with
  | some (some u) => statB K T.fns p.2 u
  | _ => false)
def excCB (K : PySem.W.Frag) (D : Addr) : Bool :=
  He.eqO (PySem.W.findIn K (.ref D) "__getattribute__") (some (some (.builtin "BaseException.__getattribute__"))) && (He.eqO (PySem.W.findIn K (.ref D) "__getattr__") (some none) && (decide (PySem.W.subIn K (.ref D) (.type "BaseException") = some true) && (PySem.W.hasDictIn K D && (He.eqO (PySem.W.findIn K (.ref D) "__class__") (some (some (.builtin "object.__class__"))) &&
    (He.eqO (PySem.W.specialIn K (.builtin "object.__class__") "__get__") (some (some (.builtin "getset_descriptor.__get__"))) && (decide (PySem.W.takesIn K (.builtin "object.__class__") = some true) && decide (PySem.W.mroIn K D (.type "object") = some true)))))))
def excsB (T : Tab) (K : PySem.W.Frag) : Bool := T.excs.all fun nm => He.eqO (PySem.W.nsIn K mainGlobals nm) (some (some (.ref (He.ga K nm)))) && ((He.Fa.exc nm).ok K && excCB K (He.ga K nm))
def subsB (T : Tab) (K : PySem.W.Frag) : Bool := (List.range T.excs.length).all fun c => (List.range T.excs.length).all fun c' => match T.excs[c]?, T.excs[c']? with
  | some nm, some nm' => decide (PySem.W.exmOne K (.ref (He.ga K nm)) (.ref (He.ga K nm')) = some (T.subs.contains (c, c'))) && decide (PySem.W.kitOne K (.ref (He.ga K nm)) (.ref (He.ga K nm')) = some (T.subs.contains (c, c')))
  | _, _ => false
def tsOf (T : Tab) : List He.Tab := T.tabs.map fun q => ((fun K => He.ga K q.1), q.2.map fun p => strV p.1)
abbrev exOf (T : Tab) : PySem.W.Frag → Bool := fun K => constsB T K && (tabsB T K && (excsB T K && subsB T K))
theorem excCB_ok {K : PySem.W.Frag} {D : Addr} (h : excCB K D = true) : ExcC K D := by
  obtain ⟨h1, h⟩ := He.ba h
  obtain ⟨h2, h⟩ := He.ba h
  obtain ⟨h3, h⟩ := He.ba h
  obtain ⟨h4, h⟩ := He.ba h
  obtain ⟨h5, h⟩ := He.ba h
  obtain ⟨h6, h⟩ := He.ba h
  obtain ⟨h7, h8⟩ := He.ba h
  exact ⟨He.eqO_ok h1, He.eqO_ok h2, of_decide_eq_true h3, h4, He.eqO_ok h5, He.eqO_ok h6, of_decide_eq_true h7, of_decide_eq_true h8⟩
theorem tab_vals {g : G} (hm : ∀ x u, PySem.W.nsIn g.K mainGlobals x = some (some u) → g.mg x = some u) {a : Addr} : ∀ (l : List (List Nat × D)), (l.all fun p => match PySem.W.nsIn g.K a (strV p.1) with
    | some (some u) => statB g.K g.fns p.2 u
    | _ => false) = true →
    ∃ us : List V, (∀ H φ, RepL g H φ (l.map (·.2)) us) ∧ us.length = l.length ∧ ∀ (i : Nat) (k : List Nat) (v : V), (l.map (·.1))[i]? = some k → us[i]? = some v → ∃ u, PySem.W.nsIn g.K a (strV k) = some (some u) ∧ RelV v u
  | [], _ => ⟨[], fun _ _ => by simp [RepL], rfl, fun i k v e => by simp at e⟩
  | p :: l, h => by
    rw [List.all_cons, Bool.and_eq_true] at h
    obtain ⟨us, h1, h2, h3⟩ := tab_vals hm l h.2
    have h0 := h.1
    split at h0
    · rename_i u e
      obtain ⟨v, q1, q2⟩ := statB_ok hm p.2 u h0
      refine ⟨v :: us, fun H φ => ?_, by simp [h2], fun i k w e1 e2 => ?_⟩
      · rw [List.map_cons]
        unfold RepL
        exact ⟨v, us, rfl, q2 H φ, h1 H φ⟩
      · cases i with
        | zero =>
          simp at e1 e2
          subst e1 e2
          exact ⟨u, e, q1⟩
        | succ i => exact h3 i k w (by simpa using e1) (by simpa using e2)
    · cases h0
theorem facts_of {K : PySem.W.Frag} {h : Heap} {w : World} {mg : PySem.Str → Option Value} {T : Tab} {ds : List FD} (X : K.In h) (G : h.Ns mainGlobals mg) (hf : T.fns = ds.map (·.x)) (hok : (ds.all fun d => d.ok T) = true)
    (c : He.SaysX (faOf T) (ds.map FD.d) (tsOf T) [] (exOf T) w h K) : Facts ⟨K, mg, T.fns, T.excs, w⟩ T ds := by
  have cd : He.SaysD (faOf T) (ds.map FD.d) K := c.t.d
  have hm : ∀ x u, PySem.W.nsIn K mainGlobals x = some (some u) → mg x = some u := fun x u e => PySem.W.mg_of X G e
  obtain ⟨k1, k2⟩ := He.ba (show (constsB T K && (tabsB T K && (excsB T K && subsB T K))) = true from c.more)
  obtain ⟨k2, k3⟩ := He.ba k2
  obtain ⟨k3, k4⟩ := He.ba k3
  have exc1 : ∀ nm ∈ T.excs, mg nm = some (.ref (He.ga K nm)) ∧ ExcCls ⟨K, mg, T.fns, T.excs, w⟩ (He.ga K nm) := fun nm hn => by
    obtain ⟨e1, e2⟩ := He.ba (List.all_eq_true.mp k3 nm hn)
    obtain ⟨e2, e3⟩ := He.ba e2
    obtain ⟨x1, x2, x3, x4⟩ := He.exc_ok e2
    exact ⟨hm nm _ (He.eqO_ok e1), x1, x2, x3, x4, excCB_ok e3⟩
  refine ⟨⟨rfl, rfl, fun x d e => ?_, fun x e => ?_, fun x l e => ?_, fun k nm e => ?_, fun k k' nm nm' C C' e1 e2 e3 e4 => ?_⟩, hf, fun d hd => ?_, fun d hd => List.all_eq_true.mp hok d hd⟩
  rotate_left 1
  · exact He.free_ok X G (cd.facts (f := .free x) (List.mem_append_right _ (List.mem_map.mpr ⟨x, List.contains_iff_mem.mp e, rfl⟩)))
  · have hmem : (x, l) ∈ T.tabs := by
      have : ∀ m : List (PySem.Str × List (List Nat × D)), m.lookup x = some l → (x, l) ∈ m := fun m => by
        induction m with
        | nil => intro h; cases h
        | cons q m ih =>
          intro h
          obtain ⟨y, e⟩ := q
          rw [List.lookup_cons] at h
          cases z : x == y with
          | true => rw [z] at h; cases h; have := beq_iff_eq.mp z; subst this; exact List.mem_cons_self
          | false => rw [z] at h; exact List.mem_cons_of_mem _ (ih h)
      exact this _ e
    obtain ⟨i, hi, ei⟩ := List.mem_iff_getElem.mp hmem
    obtain ⟨es, n, kd⟩ := c.t.tab i (t := ((fun K => He.ga K x), l.map fun p => strV p.1)) (by
      unfold tsOf
      rw [List.getElem?_map, List.getElem?_eq_getElem hi, ei]; rfl)
    obtain ⟨t1, t2⟩ := He.ba (List.all_eq_true.mp k2 (x, l) hmem)
    obtain ⟨t0, t2⟩ := He.ba t2
    obtain ⟨ts, t0⟩ := He.ba t0
    have kat := kd.at_
    have t0' : keysB (l.map (·.1)) (K.lookup (He.ga K x)) = true := t0
    rw [show K.lookup (He.ga K x) = _ from kat] at t0'
    obtain ⟨us, u1, u2, u3⟩ := tab_vals (g := ⟨K, mg, T.fns, T.excs, w⟩) hm (a := He.ga K x) l t2
    refine ⟨.ref (He.ga K x), .ref (He.ga K x), hm x _ (He.eqO_ok t1), rfl, fun H φ => ?_⟩
    unfold tabD RepV
    refine ⟨_, us, rfl, ⟨⟨es, n, kd.at_, kd.lit, by simpa using ts, fun e he => ?_⟩, u3⟩, u1 H φ, by rw [List.length_map, u2]⟩
    have he' := List.all_eq_true.mp t0' e he
    split at he'
    · rename_i y tk ey
      exact ⟨y.cps.toList, tk, List.contains_iff_mem.mp he', ey⟩
    · cases he'
  · exact ⟨_, exc1 nm (List.mem_of_getElem? e)⟩
  · obtain ⟨f1, _⟩ := exc1 nm (List.mem_of_getElem? e1)
    obtain ⟨f2, _⟩ := exc1 nm' (List.mem_of_getElem? e2)
    have c1 : C = He.ga K nm := by
      have := f1.symm.trans e3
      cases this; rfl
    have c2 : C' = He.ga K nm' := by
      have := f2.symm.trans e4
      cases this; rfl
    have r1 := List.all_eq_true.mp k4 k (List.mem_range.mpr (List.getElem?_eq_some_iff.mp e1).1)
    have r2 := List.all_eq_true.mp r1 k' (List.mem_range.mpr (List.getElem?_eq_some_iff.mp e2).1)
    simp only [e1, e2] at r2
    obtain ⟨r3, r4⟩ := He.ba r2
    rw [c1, c2]
    exact ⟨of_decide_eq_true r3, of_decide_eq_true r4⟩
  rotate_left 1
  · have h1 : constsB T K = true := k1
    unfold constsB at h1
    have hmem : (x, d) ∈ T.consts := by
      have : ∀ l : List (PySem.Str × D), l.lookup x = some d → (x, d) ∈ l := fun l => by
        induction l with
        | nil => intro h; cases h
        | cons q l ih =>
          intro h
          obtain ⟨y, e⟩ := q
          rw [List.lookup_cons] at h
          cases z : x == y with
          | true => rw [z] at h; cases h; have := beq_iff_eq.mp z; subst this; exact List.mem_cons_self
          | false => rw [z] at h; exact List.mem_cons_of_mem _ (ih h)
      exact this _ e
    have h2 := List.all_eq_true.mp h1 (x, d) hmem
    simp only at h2
    split at h2
    · rename_i u e1
      obtain ⟨v, q1, q2⟩ := statB_ok (g := ⟨K, mg, T.fns, T.excs, w⟩) hm d u h2
      exact ⟨u, v, hm x u e1, q1, q2⟩
    · cases h2
  · obtain ⟨fd, F⟩ := cd.defs (d := d.d) (List.mem_map.mpr ⟨d, hd, rfl⟩)
    have hx : d.x ∈ T.fns := by rw [hf]; exact List.mem_map.mpr ⟨d, hd, rfl⟩
    have e := He.glo_ok X G (cd.facts (f := .glo d.x) (List.mem_append_left _ (List.mem_map.mpr ⟨d.x, hx, rfl⟩)))
    exact ⟨_, fd, e, F⟩

/-- the end: a law over its script -/
theorem law_sp {g : G} {P : List Fk.Fn} {n f : Nat} {H : Hp} {a : Addr} {ns : List Int} (hl : ns.length ≤ 63) (hS : SqL g.K H a (ns.map V.int)) (hO : ∀ b, ¬ Live ⟨[], []⟩ b) (h : ∃ s, callF P n f [.scr ns] [] = .ok (.bl true) s) :
    spOf g 1 (callF P n f) [.ref a] H (fun v _ => v = .bl true) (fun _ _ _ => False) := by
  obtain ⟨s, h⟩ := h
  refine ⟨rfl, [.scr ns], [], ⟨[], []⟩, ⟨rfl, fun i e => by simp at e, fun i ds e => by simp at e, fun i j a e => by simp at e, fun a e => (by cases e), fun i a e => (by simp at e)⟩, ?_, ?_⟩
  · unfold RepL
    refine ⟨.ref a, [], rfl, ?_, by simp [RepL]⟩
    unfold RepV
    refine ⟨a, rfl, ?_, Nat.le_trans hl (by rw [← sl_eq]; decide)⟩
    rcases hS with h | h
    · exact .inr ⟨hO a, h⟩
    · exact .inl h
  · rw [h]
    intro b H' φ' _ _ hb
    exact repv_bl hb
theorem noLive (b : Addr) : ¬ Live ⟨[], []⟩ b := by
  rintro (⟨j, hj⟩ | l)
  · simp at hj
  · cases l
/-- THE END of a law: what is told behind the top, and the plain law -/
theorem law_end {l : PySem.W.OpenLaw} {q : Program} {loose : List PySem.Str} {XP : (PySem.Str → Option Value) → Heap → Prop} {YP : World → Heap → Prop} {dr : DefRec} (T : Tab) (ds : List FD) (f n : Nat) (d : FD)
    (hn : l.most = some 63) (hdf : dr.params.defaults = []) (hr : Room (n + 1) callerA) (hY : ∀ w h, YP w h → ∃ K : PySem.W.Frag, K.In h ∧ He.SaysX (faOf T) (ds.map FD.d) (tsOf T) [] (exOf T) w h K)
    (hq : ds[f]? = some d) (hx : d.x = dr.name) (hps : d.N.take d.fn.np = [("script" : PySem.Str)]) (hfns : T.fns = ds.map (·.x)) (hok : (ds.all fun d => d.ok T) = true)
    (main : ∀ ns : List Int, ns.length ≤ 63 → ∃ s, callF (ds.map (·.fn)) (n + 1) f [.scr ns] [] = .ok (.bl true) s) :
    PySem.W.WalkO q loose XP YP l.row.toRowW dr [] (fun g us => PySem.call g us) := by
  refine Att.attach_call hn hdf ?_
  intro w s₀ s₁ mg mb fa o pm cd doc a vs ns G Y ho hd hcd hmg hobj hints hlen hg
  obtain ⟨K, KX, c⟩ := hY _ _ Y
  have hF := facts_of KX G.T.g hfns hok c
  have cd' : He.SaysD (faOf T) (ds.map FD.d) K := c.t.d
  have hmem := List.mem_of_getElem? hq
  obtain ⟨fa', fd, h1, F⟩ := hF.def_ d hmem
  have e : fa' = fa := by
    have h3 : mg d.x = some (.ref fa) := by rw [hx]; exact hmg
    have h4 := h1.symm.trans h3
    cases h4; rfl
  subst e
  have hokd := hF.ok d hmem
  unfold FD.ok at hokd
  simp only [Bool.and_eq_true, decide_eq_true_eq] at hokd
  have hp1 := hokd.1.1.2
  rw [hps] at hp1
  have hb : ∀ (s : Shared) (u : Value), BindsTo s fd ⟨[u], []⟩ [("script", u)] := fun s u =>
    FunD.bindsA (ps := ["script"]) F (fun kV doc pm an cdv ct us l => bind_plain hp1 l) s [u] rfl
  refine law_call (CX := L2.CX l.prog w) (k := n + 1) (sp := spOf ⟨K, mg, T.fns, T.excs, w⟩ 1 (callF (ds.map (·.fn)) (n + 1) f)) KX G.T.g G.T.b G.T.builtins G.T.nolimit hg hobj hints (Nat.le_trans hlen (by rw [← sl_eq]; decide)) hr ?_ hb ?_ ?_
  · intro base _ _
    have h := fn_next (P := l.prog) (w := w) (base := base) hF rfl (calls hF rfl n) hq F
    rw [hps] at h
    exact h
  · exact fun H _ hS => law_sp hlen hS noLive (main ns hlen)
  · rintro H e s' ⟨_, _, _, _, _, _, _, _, _, _, _, _, z⟩
    exact z
end L3

set_option Elab.async false
set_option linter.all false
set_option autoImplicit false
set_option maxRecDepth 100000
set_option maxHeartbeats 4000000
/-! FkLaw: how a plain law is shown: what a form computes meets a wish. Core Lean alone. -/
namespace Fk

def WP {α : Type} (r : R α) (Q : α → St → Prop) : Prop :=
  match r with
  | .ok a s => Q a s
  | _ => False
def WS (r : RS) (N : Env → St → Prop) (T : D → St → Prop) : Prop :=
  match r with
  | .ok (.nx e) s => N e s
  | .ok (.rt d) s => T d s
  | _ => False
section
variable {α β : Type} {Q : α → St → Prop} {N N' : Env → St → Prop} {T T' : D → St → Prop}
theorem WP_ok (a : α) (s : St) : WP (.ok a s) Q = Q a s := rfl
theorem WP_bad : WP (.bad : R α) Q = False := rfl
theorem WP_bind (m : R β) (f : β → St → R α) : WP (m.bind f) Q = WP m fun b s => WP (f b s) Q := by cases m <;> rfl
theorem WP_noErr (m : R α) : WP m.noErr Q = WP m Q := by cases m <;> rfl
theorem WP_ite (c : Prop) [Decidable c] (a b : R α) : WP (if c then a else b) Q = if c then WP a Q else WP b Q := by split <;> rfl
theorem WP.mono {r : R α} {Q' : α → St → Prop} (h : WP r Q) (k : ∀ a s, Q a s → Q' a s) : WP r Q' := by
  cases r with
  | ok a s => exact k a s h
  | err _ _ => exact h
  | bad => exact h
theorem WP.ex {r : R α} (h : WP r Q) : ∃ a s, r = .ok a s ∧ Q a s := by
  cases r with
  | ok a s => exact ⟨a, s, rfl, h⟩
  | err _ _ => exact h.elim
  | bad => exact h.elim
theorem WS_nx (e : Env) (s : St) : WS (.ok (.nx e) s) N T = N e s := rfl
theorem WS_rt (d : D) (s : St) : WS (.ok (.rt d) s) N T = T d s := rfl
theorem WS_bad : WS .bad N T = False := rfl
theorem WS_toS (m : R α) (env : Env) (f : α → St → RS) : WS (m.toS env f) N T = WP m fun a s => WS (f a s) N T := by cases m <;> rfl
theorem WS_seq (r : RS) (f : Env → St → RS) : WS (r.seq f) N T = WS r (fun e s => WS (f e s) N T) T := by
  cases r with
  | ok fl s => cases fl <;> rfl
  | err _ _ _ => rfl
  | bad => rfl
theorem WS_ite (c : Prop) [Decidable c] (a b : RS) : WS (if c then a else b) N T = if c then WS a N T else WS b N T := by split <;> rfl
theorem WS.mono {r : RS} (h : WS r N T) (k : ∀ e s, N e s → N' e s) (l : ∀ d s, T d s → T' d s) : WS r N' T' := by
  cases r with
  | ok fl s =>
    cases fl with
    | nx e => exact k e s h
    | rt d => exact l d s h
    | bk _ => exact h
    | ct _ => exact h
  | err _ _ _ => exact h
  | bad => exact h
theorem WP_asB (b : Bool) (s : St) (f : Bool → St → R α) : asB (.bl b) s f = f b s := rfl
theorem WS_asB (b : Bool) (s : St) (f : Bool → St → RS) : asBS (.bl b) s f = f b s := rfl
theorem WP_back {Q : D → St → Prop} (s : St) (r : RS) : WP (back s r) Q = WS r (fun _ s' => Q .none (s'.take s.length)) fun d s' => Q d (s'.take (max s.length d.top)) := by
  cases r with
  | ok fl s => cases fl <;> rfl
  | err _ _ _ => rfl
  | bad => rfl
theorem callF_eq {P : List Fn} {n f : Nat} {args : List D} {s : St} {fn : Fn} (h : P[f]? = some fn) (l : args.length = fn.np) : callF P (n + 1) f args s = back s (exB (callF P n) fn.body (start fn args) s) := by
  simp only [callF, h]
  rw [if_pos l]
theorem exB_nil (cf : CF) (env : Env) (s : St) : exB cf [] env s = .ok (.nx env) s := by simp only [exB]
theorem exB_cons (cf : CF) (t : IS) (ts : List IS) (env : Env) (s : St) : exB cf (t :: ts) env s = (exS cf t env s).seq fun env s => exB cf ts env s := by simp only [exB]
/-- a comprehension, turn by turn -/
theorem wp_lc {f : D → St → R (Option D)} {items acc : List D} {s : St} {Q : D → St → Prop} (I : Nat → List D → St → Prop) (h0 : I 0 acc s)
    (step : ∀ i d acc s, items[i]? = some d → I i acc s → WP (f d s) fun o s' => I (i + 1) (match o with | some y => acc ++ [y] | Option.none => acc) s')
    (fin : ∀ acc s, I items.length acc s → Q (.lst acc) s) : WP (lcR f items acc s) Q := by
  have key : ∀ (k : Nat) (acc : List D) (s : St), k ≤ items.length → I k acc s → WP (lcR f (items.drop k) acc s) Q := by
    intro k
    induction h : items.length - k generalizing k with
    | zero =>
      intro acc s hk hi
      have : k = items.length := by omega
      subst this
      rw [List.drop_length]
      exact fin acc s hi
    | succ m ih =>
      intro acc s hk hi
      have hlt : k < items.length := by omega
      rw [List.drop_eq_getElem_cons hlt]
      unfold lcR
      rw [WP_bind]
      refine (step k _ acc s (List.getElem?_eq_getElem hlt) hi).mono fun o s' h' => ?_
      cases o with
      | some y => exact ih (k + 1) (by omega) _ _ hlt h'
      | none => exact ih (k + 1) (by omega) _ _ hlt h'
  have := key 0 acc s (Nat.zero_le _) h0
  rw [List.drop_zero] at this
  exact this
theorem lc_pure {f : D → St → R (Option D)} {g : D → Option D} {s : St} : ∀ {items acc : List D}, (∀ d ∈ items, f d s = .ok (g d) s) → lcR f items acc s = .ok (.lst (acc ++ items.filterMap g)) s
  | [], acc, _ => by simp [lcR]
  | d :: ds, acc, h => by
    unfold lcR
    rw [h d List.mem_cons_self, R.bind_ok]
    cases q : g d with
    | some y =>
      simp only
      rw [lc_pure fun d hd => h d (List.mem_cons_of_mem _ hd)]
      simp [q]
    | none =>
      simp only
      rw [lc_pure fun d hd => h d (List.mem_cons_of_mem _ hd)]
      simp [q]
/-- a loop, turn by turn -/
theorem ws_for {p : Pat} {body : Env → St → RS} {items : List D} {env : Env} {s : St} (I : Nat → Env → St → Prop) (h0 : I 0 env s)
    (step : ∀ i d env s, items[i]? = some d → I i env s → ∃ env1, bindP p d env = some env1 ∧ WS (body env1 s) (fun e s' => I (i + 1) e s') T)
    (fin : ∀ env s, I items.length env s → N env s) : WS (forR p body items env s) N T := by
  have key : ∀ (k : Nat) (env : Env) (s : St), k ≤ items.length → I k env s → WS (forR p body (items.drop k) env s) N T := by
    intro k
    induction h : items.length - k generalizing k with
    | zero =>
      intro env s hk hi
      have : k = items.length := by omega
      subst this
      rw [List.drop_length]
      exact fin env s hi
    | succ m ih =>
      intro env s hk hi
      have hlt : k < items.length := by omega
      rw [List.drop_eq_getElem_cons hlt]
      obtain ⟨env1, e1, h1⟩ := step k _ env s (List.getElem?_eq_getElem hlt) hi
      unfold forR
      rw [e1]
      simp only
      revert h1
      cases body env1 s with
      | ok fl s' =>
        cases fl with
        | nx e => exact fun h1 => ih (k + 1) (by omega) _ _ hlt h1
        | rt d => exact fun h1 => h1
        | bk e => exact fun h1 => h1.elim
        | ct e => exact fun h1 => h1.elim
      | err _ _ _ => exact fun h1 => h1.elim
      | bad => exact fun h1 => h1.elim
  have := key 0 env s (Nat.zero_le _) h0
  rw [List.drop_zero] at this
  exact this
end
/-- an item of a list, the place being drawn -/
theorem atI_mem {α : Type} {xs : List α} {i : Int} (h0 : 0 ≤ i) (h1 : i < xs.length) : ∃ x ∈ xs, atI xs i = some x := by
  have hl : i.toNat < xs.length := by omega
  refine ⟨xs[i.toNat], List.getElem_mem hl, ?_⟩
  unfold atI ixN
  rw [if_pos h0, if_pos h1]
  show xs[i.toNat]? = _
  exact List.getElem?_eq_getElem hl
theorem wp_at {xs : List D} {i : Int} {s : St} {Q : D → St → Prop} (h0 : 0 ≤ i) (h1 : i < xs.length) (h : ∀ d ∈ xs, Q d s) : WP (subD (.lst xs) (.int i) s) Q := by
  obtain ⟨x, hx, e⟩ := atI_mem h0 h1
  simp only [subD, rd, e]
  exact h x hx

/-! ### the draws of the laws: a list of three numbers in the store -/
def potO (a b c : Int) : O := .lst [.int a, .int b, .int c]
/-- c: above what was drawn so far -/
def Pot (s : St) (r : Nat) (c : Nat) : Prop := ∃ p0 p1 p2 : Int, s[r]? = some (potO p0 p1 p2) ∧ 0 ≤ p0 ∧ 0 ≤ p1 ∧ p1 < 2 ^ 61 ∧ 0 ≤ p2 ∧ p2 ≤ c
theorem Pot.mono {s : St} {r c c' : Nat} (h : Pot s r c) (l : c ≤ c') : Pot s r c' := by
  obtain ⟨p0, p1, p2, e, h0, h2, h3, h4, h5⟩ := h
  exact ⟨p0, p1, p2, e, h0, h2, h3, h4, by omega⟩
theorem Pot.lt {s : St} {r c : Nat} (h : Pot s r c) : r < s.length := by
  obtain ⟨_, _, _, e, _⟩ := h
  exact (List.getElem?_eq_some_iff.mp e).1
/-- from s on, nothing but the pot at r changed; k more were drawn, at most -/
def Drew (s : St) (r c k : Nat) (s' : St) : Prop := (∃ o, s' = s.set r o) ∧ Pot s' r (c + k)
theorem Drew.trans {s s1 s2 : St} {r c k k' : Nat} (a : Drew s r c k s1) (b : Drew s1 r (c + k) k' s2) : Drew s r c (k + k') s2 := by
  obtain ⟨⟨o, rfl⟩, p⟩ := a
  obtain ⟨⟨o', rfl⟩, q⟩ := b
  exact ⟨⟨o', by rw [List.set_set]⟩, by rw [← Nat.add_assoc]; exact q⟩
theorem Drew.mono {s s1 : St} {r c k k' : Nat} (a : Drew s r c k s1) (l : k ≤ k') : Drew s r c k' s1 := ⟨a.1, a.2.mono (by omega)⟩
theorem Drew.refl {s : St} {r c : Nat} (h : Pot s r c) : Drew s r c 0 s := by
  obtain ⟨p0, p1, p2, e, hh⟩ := h
  refine ⟨⟨potO p0 p1 p2, ?_⟩, p0, p1, p2, e, hh⟩
  refine List.ext_getElem? fun j => ?_
  by_cases hj : r = j
  · subst hj
    rw [List.getElem?_set_self (List.getElem?_eq_some_iff.mp e).1, e]
  · rw [List.getElem?_set_ne hj]
theorem Drew.length {s s' : St} {r c k : Nat} (a : Drew s r c k s') : s'.length = s.length := by
  obtain ⟨⟨o, rfl⟩, _⟩ := a
  simp
/-! ### what a form means, told once -/
theorem den_nop {cf : CF} {env : Env} {s : St}  : den cf (.nop) env s = .ok .none s := by simp only [den] <;> rfl
theorem den_c {cf : CF} {env : Env} {s : St} {d : D} : den cf (.c d) env s = .ok d s := by simp only [den] <;> rfl
theorem den_v {cf : CF} {env : Env} {s : St} {i : Nat} : den cf (.v i) env s = match env[i]? with
    | some (some d) => .ok d s
    | _ => .bad := by simp only [den] <;> rfl
theorem den_bin {cf : CF} {env : Env} {s : St} {o : Op} {t : Bool} {a b : IE} : den cf (.bin o t a b) env s = (den cf a env s).bind fun x s => (den cf b env s).bind fun y s => binD o t x y s := by simp only [den] <;> rfl
theorem den_neg {cf : CF} {env : Env} {s : St} {a : IE} : den cf (.neg a) env s = (den cf a env s).bind fun x s => match x with
    | .int i => .ok (.int (-i)) s
    | _ => .bad := by simp only [den] <;> rfl
theorem den_cmp {cf : CF} {env : Env} {s : St} {o : Cmp} {a b : IE} : den cf (.cmp o a b) env s = (den cf a env s).bind fun x s => (den cf b env s).bind fun y s => cmpD o x y s := by simp only [den] <;> rfl
theorem den_chain {cf : CF} {env : Env} {s : St} {o1 o2 : Cmp} {a b c : IE} : den cf (.chain o1 o2 a b c) env s = (den cf a env s).bind fun x s => (den cf b env s).bind fun y s => (cmpD o1 x y s).bind fun k s => asB k s fun k s =>
      if k then (den cf c env s).bind fun z s => cmpD o2 y z s else .ok (.bl false) s := by simp only [den] <;> rfl
theorem den_and {cf : CF} {env : Env} {s : St} {a b : IE} : den cf (.and a b) env s = (den cf a env s).bind fun x s => asB x s fun k s => if k then den cf b env s else .ok (.bl false) s := by simp only [den] <;> rfl
theorem den_or {cf : CF} {env : Env} {s : St} {a b : IE} : den cf (.or a b) env s = (den cf a env s).bind fun x s => asB x s fun k s => if k then .ok (.bl true) s else den cf b env s := by simp only [den] <;> rfl
theorem den_not {cf : CF} {env : Env} {s : St} {a : IE} : den cf (.not a) env s = (den cf a env s).bind fun x s => asB x s fun k s => .ok (.bl (!k)) s := by simp only [den] <;> rfl
theorem den_ite {cf : CF} {env : Env} {s : St} {c a b : IE} : den cf (.ite c a b) env s = (den cf c env s).bind fun x s => asB x s fun k s => if k then den cf a env s else den cf b env s := by simp only [den] <;> rfl
theorem den_tup {cf : CF} {env : Env} {s : St} {es : List IE} : den cf (.tup es) env s = (denL cf es env s).bind fun xs s => .ok (.tup xs) s := by simp only [den] <;> rfl
theorem den_lst {cf : CF} {env : Env} {s : St} {t : Bool} {es : List IE} : den cf (.lst t es) env s = (denL cf es env s).bind fun xs s => fin t xs s := by simp only [den] <;> rfl
theorem den_dic {cf : CF} {env : Env} {s : St} {t : Bool} {es : List IE} : den cf (.dic t es) env s = (denL cf es env s).bind fun xs s => match pairsOf xs with
    | some (ks, vs) => if ks.all leafK && noDup ks then finD t ks vs s else .bad
    | Option.none => .bad := by simp only [den] <;> rfl
theorem den_pop {cf : CF} {env : Env} {s : St} {o i : IE} : den cf (.pop o i) env s = (den cf o env s).bind fun x s => chk (isLstR s x) ((den cf i env s).bind fun k s => popD x k s) := by simp only [den] <;> rfl
theorem den_popl {cf : CF} {env : Env} {s : St} {o : IE} : den cf (.popl o) env s = (den cf o env s).bind fun x s => chk (isLstR s x) (popD x (.int (-1)) s) := by simp only [den] <;> rfl
theorem den_get {cf : CF} {env : Env} {s : St} {o k : IE} : den cf (.get o k) env s = (den cf o env s).bind fun x s => chk (isDicR s x) ((den cf k env s).bind fun k s => getD_ x k .none s) := by simp only [den] <;> rfl
theorem den_getd {cf : CF} {env : Env} {s : St} {o k d : IE} : den cf (.getd o k d) env s = (den cf o env s).bind fun x s => chk (isDicR s x) ((den cf k env s).bind fun k s => (den cf d env s).bind fun d s => getD_ x k d s) := by simp only [den] <;> rfl
theorem den_dpop {cf : CF} {env : Env} {s : St} {o k d : IE} : den cf (.dpop o k d) env s = (den cf o env s).bind fun x s => chk (isDicR s x) ((den cf k env s).bind fun k s => (den cf d env s).bind fun d s => dpopD x k d s) := by simp only [den] <;> rfl
theorem den_sub {cf : CF} {env : Env} {s : St} {a i : IE} : den cf (.sub a i) env s = (den cf a env s).bind fun x s => (den cf i env s).bind fun y s => subD x y s := by simp only [den] <;> rfl
theorem den_sl {cf : CF} {env : Env} {s : St} {t : Bool} {a lo hi : IE} : den cf (.sl t a lo hi) env s = (den cf a env s).bind fun x s => ((den cf lo env s).bind fun l s => partR (isNop lo) l s).bind fun l s => ((den cf hi env s).bind fun h s => partR (isNop hi) h s).bind fun h s => slD t x l h s := by simp only [den] <;> rfl
theorem den_call {cf : CF} {env : Env} {s : St} {f : Nat} {es : List IE} : den cf (.call f es) env s = (denL cf es env s).bind fun xs s => cf f xs s := by simp only [den] <;> rfl
theorem den_blt {cf : CF} {env : Env} {s : St} {b : Blt} {t : Bool} {es : List IE} : den cf (.blt b t es) env s = (denL cf es env s).bind fun xs s => bltD b t xs s := by simp only [den] <;> rfl
theorem den_meth {cf : CF} {env : Env} {s : St} {m : Mth} {o : IE} {es : List IE} : den cf (.meth m o es) env s = (den cf o env s).bind fun x s => if recvOk m x s then (denL cf es env s).bind fun xs s => methD m x xs s else .bad := by simp only [den] <;> rfl
theorem den_lc {cf : CF} {env : Env} {s : St} {elt : IE} {p : Pat} {k : ItK} {its : List IE} {cond : IE} : den cf (.lc elt p k its cond) env s = (denL cf its env s).bind fun ws s => match itK k ws with
    | Option.none => .bad
    | some items => lcR (fun d s => match bindP p d (wipe env p.slots) with
        | Option.none => .bad
        | some env1 => (den cf cond env1 s).noErr.bind fun c s => asB c s fun k s => if k then (den cf elt env1 s).noErr.bind fun y s => .ok (some y) s else .ok Option.none s) items [] s := by simp only [den] <;> rfl
theorem den_rev {cf : CF} {env : Env} {s : St} {a : IE} : den cf (.rev a) env s = (den cf a env s).bind fun x s => revD x s := by simp only [den] <;> rfl
theorem den_callv {cf : CF} {env : Env} {s : St} {i : Nat} {es : List IE} : den cf (.callv i es) env s = match env[i]? with
    | some (some (.fn f)) => (denL cf es env s).bind fun xs s => cf f xs s
    | _ => .bad := by simp only [den] <;> rfl
theorem exS_raise {cf : CF} {env : Env} {s : St} {c : Nat} : exS cf (.raise c) env s = .err ⟨c, Option.none⟩ env s := by simp only [exS]
theorem exS_tryR {cf : CF} {env : Env} {s : St} {body : List IS} {m : List Nat} {h sl : Nat} {es : List SuE} : exS cf (.tryR body m h sl es) env s = (exB cf body env s).caught m es := by simp only [exS]
theorem exS_expr {cf : CF} {env : Env} {s : St} {e : IE} : exS cf (.expr e) env s = (den cf e env s).toS env fun _ s => .ok (.nx env) s := by simp only [exS] <;> rfl
theorem exS_set {cf : CF} {env : Env} {s : St} {p : Pat} {e : IE} : exS cf (.set p e) env s = (den cf e env s).toS env fun d s => match bindP p d env with
    | some env1 => .ok (.nx env1) s
    | Option.none => .bad := by simp only [exS] <;> rfl
theorem exS_setSub {cf : CF} {env : Env} {s : St} {o i e : IE} : exS cf (.setSub o i e) env s = (den cf e env s).toS env fun x s => (den cf o env s).toS env fun o s => (den cf i env s).toS env fun i s => setAtD o i x env s := by simp only [exS] <;> rfl
theorem exS_app {cf : CF} {env : Env} {s : St} {o e : IE} : exS cf (.app o e) env s = (den cf o env s).toS env fun o s => chkS_ (isLstR s o) ((den cf e env s).toS env fun x s => appD o x env s) := by simp only [exS] <;> rfl
theorem exS_extd {cf : CF} {env : Env} {s : St} {o e : IE} : exS cf (.extd o e) env s = (den cf o env s).toS env fun o s => chkS_ (isLstR s o) ((den cf e env s).toS env fun x s => extdD o x env s) := by simp only [exS] <;> rfl
theorem exS_upd {cf : CF} {env : Env} {s : St} {o e : IE} : exS cf (.upd o e) env s = (den cf o env s).toS env fun o s => chkS_ (isDicR s o) ((den cf e env s).toS env fun x s => updD o x env s) := by simp only [exS] <;> rfl
theorem exS_swap {cf : CF} {env : Env} {s : St} {o1 i1 o2 i2 e : IE} : exS cf (.swap o1 i1 o2 i2 e) env s = (den cf e env s).toS env fun x s => match x with
    | .tup [a, b] => (den cf o1 env s).toS env fun o s => (den cf i1 env s).toS env fun i s => (setAtD o i a env s).seq fun env s =>
        (den cf o2 env s).toS env fun o s => (den cf i2 env s).toS env fun i s => setAtD o i b env s
    | _ => .bad := by simp only [exS] <;> rfl
theorem exS_par {cf : CF} {env : Env} {s : St} {i j : Nat} {a b : IE} : exS cf (.par i j a b) env s = (den cf a env s).toS env fun x s => (den cf b env s).toS env fun y s => .ok (.nx ((env.set i (some x)).set j (some y))) s := by simp only [exS] <;> rfl
theorem exS_brk {cf : CF} {env : Env} {s : St} : exS cf .brk env s = .ok (.bk env) s := by simp only [exS]
theorem exS_cnt {cf : CF} {env : Env} {s : St} : exS cf .cnt env s = .ok (.ct env) s := by simp only [exS]
theorem exS_fz {cf : CF} {env : Env} {s : St} {i : Nat} : exS cf (.fz i) env s = freeze i env s := by simp only [exS] <;> rfl
theorem exS_ife {cf : CF} {env : Env} {s : St} {c : IE} {a b : List IS} : exS cf (.ife c a b) env s = (den cf c env s).toS env fun d s => asBS d s fun k s => if k then exB cf a env s else exB cf b env s := by simp only [exS] <;> rfl
theorem exS_forr {cf : CF} {env : Env} {s : St} {p : Pat} {k : ItK} {its : List IE} {body : List IS} : exS cf (.forr p k its body) env s = (denL cf its env s).toS env fun ws s => match itK k ws with
    | Option.none => .bad
    | some items => forR p (fun env s => exB cf body env s) items env s := by simp only [exS] <;> rfl
theorem exS_ret {cf : CF} {env : Env} {s : St} {e : IE} : exS cf (.ret e) env s = (den cf e env s).toS env fun d s => .ok (.rt d) s := by simp only [exS] <;> rfl
theorem exS_pass {cf : CF} {env : Env} {s : St}  : exS cf (.pass) env s = .ok (.nx env) s := by simp only [exS] <;> rfl
theorem denL_nil {cf : CF} {env : Env} {s : St} : denL cf [] env s = .ok [] s := by simp only [denL]
theorem denL_cons {cf : CF} {env : Env} {s : St} {e : IE} {es : List IE} : denL cf (e :: es) env s = (den cf e env s).bind fun x s => (denL cf es env s).bind fun xs s => .ok (x :: xs) s := by simp only [denL]
end Fk

set_option Elab.async false
set_option linter.all false
set_option autoImplicit false
set_option maxRecDepth 100000
set_option maxHeartbeats 4000000
/-! FkDraw: the draws of the laws. -/
namespace Fk
def potFn : Fn := ⟨2, 3, [.set (.s 2) (.c (.int 0)), .ife (.cmp .lt (.v 1) (.blt .len false [.v 0])) [.set (.s 2) (.bin .mod false (.blt .abs false [.sub (.v 0) (.v 1)]) (.bin .pow false (.bin .pow false (.c (.int 10)) (.c (.int 60))) (.c (.int 10))))] [], .ret (.lst true [.bin .mul false (.v 2) (.blt .int_ false [.cmp .ge (.v 2) (.bin .pow false (.c (.int 10)) (.c (.int 18)))]), .bin .mod false (.bin .pow false (.bin .add false (.bin .add false (.bin .mod false (.v 2) (.c (.int 2147483629))) (.bin .mul false (.c (.int 7919)) (.v 1))) (.c (.int 1))) (.c (.int 5))) (.c (.int 2305843009213693951)), .c (.int 0)])]⟩
def takeFn : Fn := ⟨2, 5, [.ife (.cmp .gt (.sub (.v 0) (.c (.int 0))) (.c (.int 0))) [.set (.s 4) (.bin .mod false (.sub (.v 0) (.c (.int 0))) (.v 1)), .setSub (.v 0) (.c (.int 0)) (.bin .fdiv false (.sub (.v 0) (.c (.int 0))) (.v 1)), .ret (.v 4)] [], .setSub (.v 0) (.c (.int 2)) (.bin .add false (.sub (.v 0) (.c (.int 2))) (.c (.int 1))), .set (.s 2) (.bin .mod false (.bin .pow false (.bin .add false (.sub (.v 0) (.c (.int 1))) (.bin .mul false (.c (.int 104729)) (.sub (.v 0) (.c (.int 2))))) (.c (.int 3))) (.c (.int 2305843009213693921))), .set (.s 3) (.bin .mod false (.bin .pow false (.bin .add false (.bin .add false (.v 2) (.bin .mod false (.sub (.v 0) (.c (.int 1))) (.c (.int 65537)))) (.bin .mul false (.c (.int 31)) (.sub (.v 0) (.c (.int 2))))) (.c (.int 5))) (.c (.int 2305843009213693907))), .ret (.bin .mod false (.bin .fdiv false (.v 3) (.c (.int 1024))) (.v 1))]⟩
theorem log2_le {n k : Nat} (h : n < 2 ^ (k + 1)) : n.log2 ≤ k := by
  by_cases h0 : n = 0
  · subst h0; simp
  · exact Nat.lt_succ_iff.mp ((Nat.log2_lt h0).mpr h)
theorem ilog2_le {i : Int} {k : Nat} (h0 : 0 ≤ i) (h : i < 2 ^ (k + 1)) : i.natAbs.log2 ≤ k := by
  refine log2_le ?_
  have e : ((2 : Int) ^ (k + 1)) = ((2 ^ (k + 1) : Nat) : Int) := by norm_cast
  rw [e] at h
  omega
theorem set_get {s : St} {r : Nat} {o : O} (h : r < s.length) : (s.set r o)[r]? = some o := List.getElem?_set_self h
theorem take_set {s : St} {r : Nat} {o : O} : (s.set r o).take (max s.length 0) = s.set r o := by
  rw [Nat.max_zero, List.take_of_length_le (by simp)]
theorem pow_bound : (101 * 5 : Nat) ≤ 2 ^ 27 := by decide
theorem wp_take {P : List Fn} {n f r c : Nat} {many : Int} {s : St} {Q : D → St → Prop} (hP : P[f]? = some takeFn) (hp : Pot s r c) (hc : c ≤ 2 ^ 40) (hm : 0 < many) (lm : many.natAbs.log2 < 9000)
    (h : ∀ x s', 0 ≤ x → x < many → Drew s r c 1 s' → Q (.int x) s') : WP (callF P (n + 1) f [.ref r, .int many] s) Q := by
  have hl := hp.lt
  obtain ⟨p0, p1, p2, e, h0, h2, h3, h4, h5⟩ := hp
  unfold potO at e
  rw [callF_eq hP rfl, WP_back]
  have hrd : rd s (.ref r) = .lst [.int p0, .int p1, .int p2] := by simp -implicitDefEqProofs only [rd, e]
  have g0 : subD (.ref r) (.int 0) s = .ok (.int p0) s := by simp [subD, hrd, atI, ixN]
  show WS (exB (callF P n) takeFn.body [some (.ref r), some (.int many), none, none, none] s) _ _
  simp -implicitDefEqProofs only [takeFn, exB_cons, exB_nil, exS_set, exS_setSub, exS_ife, exS_ret, den_c, den_v, den_bin, den_neg, den_cmp, den_sub, den_call, den_blt, den_lst, denL_nil, denL_cons, WS_seq, WS_toS, WP_bind, WP_ok, List.getElem?_cons_zero, List.getElem?_cons_succ, g0]
  have c0 : cmpD .gt (.int p0) (.int 0) s = .ok (.bl (decide (0 < p0))) s := rfl
  simp -implicitDefEqProofs only [c0, WP_ok, WS_asB]
  by_cases hq : 0 < p0
  · simp -implicitDefEqProofs only [hq, decide_true, if_true]
    have b1 : binD .mod false (.int p0) (.int many) s = .ok (.int (p0 % many)) s := by simp [binD, rd, hm]
    have b2 : binD .fdiv false (.int p0) (.int many) s = .ok (.int (p0 / many)) s := by simp -implicitDefEqProofs only [binD, rd]; rw [if_pos ⟨hm, lm⟩]
    have st : ∀ env, setAtD (.ref r) (.int 0) (.int (p0 / many)) env s = .ok (.nx env) (s.set r (potO (p0 / many) p1 p2)) := fun env => by
      simp [setAtD, setAt, e, ixN, D.pure, potO]
    simp -implicitDefEqProofs only [b1, b2, st, WP_ok, bindP, WS_nx, WS_rt, WS_seq, WS_toS, WP_bind, exS_set, exS_setSub, exS_ife, exS_ret, exB_cons, exB_nil, den_c, den_v, den_bin, den_neg, den_cmp, den_sub, den_call, den_blt, den_lst, denL_nil, denL_cons, List.set_cons_zero, List.set_cons_succ, List.getElem?_cons_zero, List.getElem?_cons_succ, g0, D.top, take_set]
    refine h _ _ (Int.emod_nonneg _ (by omega)) (Int.emod_lt_of_pos _ hm) ⟨⟨_, rfl⟩, p0 / many, p1, p2, set_get hl, Int.ediv_nonneg h0 (by omega), h2, h3, h4, by omega⟩
  · simp -implicitDefEqProofs only [hq, decide_false, Bool.false_eq_true, if_false, WS_nx]
    have hp0 : p0 = 0 := by omega
    have g2 : subD (.ref r) (.int 2) s = .ok (.int p2) s := by simp [subD, hrd, atI, ixN]
    have b1 : binD .add false (.int p2) (.int 1) s = .ok (.int (p2 + 1)) s := rfl
    have st : ∀ env, setAtD (.ref r) (.int 2) (.int (p2 + 1)) env s = .ok (.nx env) (s.set r (potO p0 p1 (p2 + 1))) := fun env => by
      simp [setAtD, setAt, e, ixN, D.pure, potO]
    generalize hs2 : s.set r (potO p0 p1 (p2 + 1)) = s2 at st
    have e2 : s2[r]? = some (.lst [.int p0, .int p1, .int (p2 + 1)]) := by rw [← hs2]; exact set_get hl
    have hrd2 : rd s2 (.ref r) = .lst [.int p0, .int p1, .int (p2 + 1)] := by simp -implicitDefEqProofs only [rd, e2]
    have k1 : subD (.ref r) (.int 1) s2 = .ok (.int p1) s2 := by simp [subD, hrd2, atI, ixN]
    have k2 : subD (.ref r) (.int 2) s2 = .ok (.int (p2 + 1)) s2 := by simp [subD, hrd2, atI, ixN]
    have z40 : (2 : Int) ^ 40 = 1099511627776 := by decide
    have z61 : (2 : Int) ^ 61 = 2305843009213693952 := by decide
    have hc' : (c : Int) ≤ 2 ^ 40 := by
      have : ((2 ^ 40 : Nat) : Int) = 2 ^ 40 := by norm_cast
      rw [← this]; exact_mod_cast hc
    have l2 : (p2 + 1).natAbs.log2 ≤ 60 := ilog2_le (k := 60) (by omega) (by rw [z61]; omega)
    have ml : ∀ a : Int, a.natAbs.log2 ≤ 60 → binD .mul false (.int a) (.int (p2 + 1)) s2 = .ok (.int (a * (p2 + 1))) s2 := fun a ha => by
      simp -implicitDefEqProofs only [binD, rd]; rw [if_pos (by omega)]
    have ad : ∀ a b : Int, binD .add false (.int a) (.int b) s2 = .ok (.int (a + b)) s2 := fun a b => rfl
    have pw : ∀ (a : Int) (b : Int), 0 ≤ a → a < 2 ^ 101 → 0 ≤ b → b ≤ 5 → binD .pow false (.int a) (.int b) s2 = .ok (.int (a ^ b.toNat)) s2 := fun a b ha hb h0 h5 => by
      have := ilog2_le (k := 100) ha hb
      simp -implicitDefEqProofs only [binD, rd]
      rw [if_pos]
      refine ⟨h0, ?_⟩
      have h1 : (a.natAbs.log2 + 1) ≤ 101 := by omega
      have h2 : b.toNat ≤ 5 := by omega
      calc (a.natAbs.log2 + 1) * b.toNat ≤ 101 * 5 := Nat.mul_le_mul h1 h2
        _ ≤ 2 ^ 27 := pow_bound
    have md : ∀ a b : Int, 0 < b → binD .mod false (.int a) (.int b) s2 = .ok (.int (a % b)) s2 := fun a b hb => by simp -implicitDefEqProofs only [binD, rd]; rw [if_pos hb]
    have fd : ∀ a : Int, binD .fdiv false (.int a) (.int 1024) s2 = .ok (.int (a / 1024)) s2 := fun a => by
      simp -implicitDefEqProofs only [binD, rd]; rw [if_pos ⟨by decide, by decide +kernel⟩]
    have z101 : (2 : Int) ^ 101 = 2535301200456458802993406410752 := by decide
    simp -implicitDefEqProofs only [b1, st, WP_ok, bindP, WS_nx, WS_rt, WS_seq, WS_toS, WP_bind, exS_set, exS_setSub, exS_ife, exS_ret, exB_cons, exB_nil, den_c, den_v, den_bin, den_neg, den_cmp, den_sub, den_call, den_blt, den_lst, denL_nil, denL_cons, List.set_cons_zero, List.set_cons_succ, List.getElem?_cons_zero, List.getElem?_cons_succ, g0, g2, k1, k2, D.top]
    rw [ml _ (by decide +kernel), WP_ok, ad, WP_ok, pw _ _ (by omega) (by rw [z101]; omega) (by decide) (by decide), WP_ok, md _ _ (by decide), WP_ok]
    generalize ho : (p1 + 104729 * (p2 + 1)) ^ Int.toNat 3 % 2305843009213693921 = one
    have o1 : 0 ≤ one := by rw [← ho]; exact Int.emod_nonneg _ (by decide)
    have o2 : one < 2305843009213693921 := by rw [← ho]; exact Int.emod_lt_of_pos _ (by decide)
    simp -implicitDefEqProofs only [WS_nx, WS_toS, WP_bind, exS_set, exS_setSub, exS_ife, exS_ret, den_c, den_v, den_bin, den_neg, den_cmp, den_sub, den_call, den_blt, den_lst, denL_nil, denL_cons, WP_ok, List.getElem?_cons_zero, List.getElem?_cons_succ, List.set_cons_zero, List.set_cons_succ, k1, k2]
    rw [md _ _ (by decide)]
    have q1 : 0 ≤ p1 % 65537 := Int.emod_nonneg _ (by decide)
    have q2 : p1 % 65537 < 65537 := Int.emod_lt_of_pos _ (by decide)
    simp -implicitDefEqProofs only [WP_ok, ad, k2]
    rw [ml _ (by decide +kernel)]
    simp -implicitDefEqProofs only [WP_ok, ad]
    rw [pw _ _ (by omega) (by rw [z101]; omega) (by decide) (by decide)]
    simp -implicitDefEqProofs only [WP_ok]
    rw [md _ _ (by decide)]
    simp -implicitDefEqProofs only [WP_ok, bindP, WS_nx, WS_rt, WS_seq, WS_toS, WP_bind, exS_set, exS_setSub, exS_ife, exS_ret, den_c, den_v, den_bin, den_neg, den_cmp, den_sub, den_call, den_blt, den_lst, denL_nil, denL_cons, List.set_cons_zero, List.set_cons_succ, List.getElem?_cons_zero, List.getElem?_cons_succ, fd]
    rw [md _ _ hm, WP_ok]
    have hs3 : s2.take (max s.length 0) = s2 := by rw [← hs2]; exact take_set
    show Q _ (s2.take (max s.length 0))
    rw [hs3]
    refine h _ _ (Int.emod_nonneg _ (by omega)) (Int.emod_lt_of_pos _ hm) ⟨⟨_, hs2.symm⟩, p0, p1, p2 + 1, by rw [e2]; rfl, h0, h2, h3, by omega, by push_cast; omega⟩
/-! ### a cell's pot -/
abbrev big : Int := ((10 : Int) ^ Int.toNat 60) ^ Int.toNat 10
theorem big_pos : 0 < big := by decide +kernel
theorem big_le : big.natAbs ≤ 2 ^ 2001 := by decide +kernel
theorem cell_ok (x : Int) : 0 ≤ x % big ∧ (x % big).natAbs.log2 ≤ 2000 := by
  have h0 : 0 ≤ x % big := Int.emod_nonneg _ (Int.ne_of_gt big_pos)
  refine ⟨h0, log2_le ?_⟩
  have h1 : x % big < big := Int.emod_lt_of_pos _ big_pos
  have h2 := big_le
  generalize big = b at *
  generalize (2 : Nat) ^ (2000 + 1) = c at *
  omega
theorem wp_pot {P : List Fn} {n f : Nat} {k : Int} {ns : List Int} {s : St} {Q : D → St → Prop} (hP : P[f]? = some potFn) (hk : 0 ≤ k) (hk2 : k ≤ 1000000)
    (h : ∀ p, Pot (s ++ [p]) s.length 0 → Q (.ref s.length) (s ++ [p])) : WP (callF P (n + 1) f [.scr ns, .int k] s) Q := by
  rw [callF_eq hP rfl, WP_back]
  show WS (exB (callF P n) potFn.body [some (.scr ns), some (.int k), none] s) _ _
  have pw : ∀ a b : Int, 0 ≤ b → (a.natAbs.log2 + 1) * b.toNat ≤ 2 ^ 27 → binD .pow false (.int a) (.int b) s = .ok (.int (a ^ b.toNat)) s := fun a b h0 h1 => by
    simp -implicitDefEqProofs only [binD, rd]; rw [if_pos ⟨h0, h1⟩]
  have md : ∀ a b : Int, 0 < b → binD .mod false (.int a) (.int b) s = .ok (.int (a % b)) s := fun a b hb => by simp -implicitDefEqProofs only [binD, rd]; rw [if_pos hb]
  have ml : ∀ a b : Int, a.natAbs.log2 + b.natAbs.log2 < 1000000 → binD .mul false (.int a) (.int b) s = .ok (.int (a * b)) s := fun a b hb => by simp -implicitDefEqProofs only [binD, rd]; rw [if_pos hb]
  have ad : ∀ a b : Int, binD .add false (.int a) (.int b) s = .ok (.int (a + b)) s := fun a b => rfl
  have ln : bltD .len false [.scr ns] s = .ok (.int ns.length) s := rfl
  have ab : ∀ i : Int, bltD .abs false [.int i] s = .ok (.int (if i < 0 then -i else i)) s := fun _ => rfl
  have ge : ∀ a b : Int, cmpD .ge (.int a) (.int b) s = .ok (.bl (decide (b ≤ a))) s := fun _ _ => rfl
  have lt : ∀ a b : Int, cmpD .lt (.int a) (.int b) s = .ok (.bl (decide (a < b))) s := fun _ _ => rfl
  have bi : ∀ b : Bool, bltD .int_ false [.bl b] s = .ok (.int (if b then 1 else 0)) s := fun _ => rfl
  -- what follows, the cell being known
  have rest : ∀ cell : Int, 0 ≤ cell → cell.natAbs.log2 ≤ 2000 → WS (exS (callF P n) (.ret (.lst true [.bin .mul false (.v 2) (.blt .int_ false [.cmp .ge (.v 2) (.bin .pow false (.c (.int 10)) (.c (.int 18)))]), .bin .mod false (.bin .pow false (.bin .add false (.bin .add false (.bin .mod false (.v 2) (.c (.int 2147483629))) (.bin .mul false (.c (.int 7919)) (.v 1))) (.c (.int 1))) (.c (.int 5))) (.c (.int 2305843009213693951)), .c (.int 0)])) [some (.scr ns), some (.int k), some (.int cell)] s) (fun _ s' => Q .none (s'.take s.length)) (fun d s' => Q d (s'.take (max s.length d.top))) := by
    intro cell c0 c1
    simp -implicitDefEqProofs only [exB_cons, exB_nil, exS_ret, den_lst, den_bin, den_blt, den_cmp, den_v, den_c, denL_nil, denL_cons, WS_seq, WS_toS, WP_bind, WP_ok, List.getElem?_cons_zero, List.getElem?_cons_succ]
    rw [pw _ _ (by decide) (by decide +kernel)]
    simp -implicitDefEqProofs only [WP_ok, ge, bi]
    generalize hb : (if decide ((10 : Int) ^ Int.toNat 18 ≤ cell) = true then (1 : Int) else 0) = b
    have b0 : 0 ≤ b ∧ b.natAbs.log2 ≤ 0 := by rw [← hb]; split <;> decide
    rw [ml _ _ (by omega), WP_ok, md _ _ (by decide), WP_ok]
    have kl := ilog2_le (k := 100) hk (Int.lt_of_le_of_lt hk2 (by decide +kernel))
    rw [ml _ _ (by have : (7919 : Int).natAbs.log2 ≤ 12 := by decide +kernel
                   omega)]
    simp -implicitDefEqProofs only [WP_ok, ad]
    have m0 : 0 ≤ cell % 2147483629 := Int.emod_nonneg _ (by decide)
    have m1 : cell % 2147483629 < 2147483629 := Int.emod_lt_of_pos _ (by decide)
    rw [pw _ _ (by decide) (by
      have := ilog2_le (i := cell % 2147483629 + 7919 * k + 1) (k := 100) (by omega) (Int.lt_of_lt_of_le (b := 10000000000000) (by omega) (by decide +kernel))
      have h5 : Int.toNat 5 = 5 := rfl
      rw [h5]
      omega), WP_ok, md _ _ (by decide), WP_ok]
    generalize hp : (cell % 2147483629 + 7919 * k + 1) ^ Int.toNat 5 % 2305843009213693951 = p1
    have q0 : 0 ≤ p1 := by rw [← hp]; exact Int.emod_nonneg _ (by decide)
    have q1 : p1 < 2305843009213693951 := by rw [← hp]; exact Int.emod_lt_of_pos _ (by decide)
    have al : fin true [.int (cell * b), .int p1, .int 0] s = .ok (.ref s.length) (s ++ [potO (cell * b) p1 0]) := rfl
    simp -implicitDefEqProofs only [al, WP_ok, WS_rt]
    have tk : (s ++ [potO (cell * b) p1 0]).take (max s.length (D.ref s.length).top) = s ++ [potO (cell * b) p1 0] := by
      have : (D.ref s.length).top = s.length + 1 := rfl
      rw [this, List.take_of_length_le]
      simp
    rw [tk]
    refine h _ ⟨cell * b, p1, 0, by simp, Int.mul_nonneg c0 b0.1, q0, ?_, Int.le_refl _, by decide⟩
    have : (2 : Int) ^ 61 = 2305843009213693952 := by decide
    omega
  simp -implicitDefEqProofs only [potFn]
  rw [exB_cons]
  simp -implicitDefEqProofs only [exS_set, den_c, WS_seq, WS_toS, WP_ok, bindP, WS_nx, List.set_cons_zero, List.set_cons_succ]
  rw [exB_cons]
  simp -implicitDefEqProofs only [exS_set, exS_ife, den_c, den_cmp, den_v, den_blt, denL_cons, denL_nil, WS_seq, WS_toS, WP_bind, WP_ok, bindP, WS_nx, List.set_cons_zero, List.set_cons_succ, List.getElem?_cons_zero, List.getElem?_cons_succ, ln, lt, WS_asB]
  by_cases hq : k < ns.length
  · simp -implicitDefEqProofs only [hq, decide_true, if_true]
    have at_ : subD (.scr ns) (.int k) s = .ok (.int (ns[k.toNat]'(by omega))) s := by
      simp only [subD, rd, atI, ixN, if_pos hk, if_pos hq, Option.bind_some]
      rw [List.getElem?_eq_getElem (by omega)]
    simp -implicitDefEqProofs only [exB_cons, exB_nil, exS_set, den_c, den_bin, den_sub, den_v, den_blt, denL_cons, denL_nil, WS_seq, WS_toS, WP_bind, WP_ok, bindP, WS_nx, List.set_cons_zero, List.set_cons_succ, List.getElem?_cons_zero, List.getElem?_cons_succ, at_, ab]
    rw [pw _ _ (by decide) (by decide +kernel), WP_ok, pw _ _ (by decide) (by decide +kernel), WP_ok, md _ _ big_pos, WP_ok]
    obtain ⟨c0, c1⟩ := cell_ok (if (ns[k.toNat]'(by omega)) < 0 then -(ns[k.toNat]'(by omega)) else (ns[k.toNat]'(by omega)))
    exact rest _ c0 c1
  · simp -implicitDefEqProofs only [hq, decide_false, Bool.false_eq_true, if_false, exB_nil, WS_nx]
    rw [exB_cons]
    simp -implicitDefEqProofs only [WS_seq, exB_nil, WS_nx]
    exact rest 0 (by decide) (by decide)
end Fk

set_option Elab.async false
set_option linter.all false
set_option autoImplicit false
set_option maxRecDepth 100000
set_option maxHeartbeats 4000000
/-! FkLib: operations at known values. -/
namespace Fk
/-- a value by itself, its kind known -/
def kk : D → Bool
  | .ref _ => false | .fn _ => false | .ty _ => false | .set _ => false | .scr _ => false | .tab _ _ => false
  | _ => true
theorem rd_kk {d : D} {s : St} (h : kk d = true) : rd s d = d := by cases d <;> first | rfl | (cases h; done)
section
variable {s : St} {t : Bool} {a b : Int} {Q : D → St → Prop}
theorem o_add : binD .add t (.int a) (.int b) s = .ok (.int (a + b)) s := rfl
theorem o_sub : binD .sub t (.int a) (.int b) s = .ok (.int (a - b)) s := rfl
theorem o_mul (h : a.natAbs.log2 + b.natAbs.log2 < 1000000) : binD .mul t (.int a) (.int b) s = .ok (.int (a * b)) s := by simp only [binD, rd]; rw [if_pos h]
theorem o_mod (h : 0 < b) : binD .mod t (.int a) (.int b) s = .ok (.int (a % b)) s := by simp only [binD, rd]; rw [if_pos h]
theorem o_cat {x y : List Nat} (h : x.length + y.length ≤ sizeLine) : binD .add t (.str x) (.str y) s = .ok (.str (x ++ y)) s := by simp only [binD, rd]; rw [if_pos h]
theorem o_app {x y : List D} (h : x.length + y.length ≤ sizeLine) : binD .add false (.lst x) (.lst y) s = .ok (.lst (x ++ y)) s := by simp only [binD, rd, fin]; rw [if_pos h]; rfl
theorem o_lt : cmpD .lt (.int a) (.int b) s = .ok (.bl (decide (a < b))) s := rfl
theorem o_le : cmpD .le (.int a) (.int b) s = .ok (.bl (decide (a ≤ b))) s := rfl
theorem o_gt : cmpD .gt (.int a) (.int b) s = .ok (.bl (decide (b < a))) s := rfl
theorem o_ge : cmpD .ge (.int a) (.int b) s = .ok (.bl (decide (b ≤ a))) s := rfl
theorem o_eqi : cmpD .eq (.int a) (.int b) s = .ok (.bl (a == b)) s := rfl
theorem o_nei : cmpD .ne (.int a) (.int b) s = .ok (.bl (!(a == b))) s := rfl
theorem o_eqs {x y : List Nat} : cmpD .eq (.str x) (.str y) s = .ok (.bl (x == y)) s := rfl
theorem o_nes {x y : List Nat} : cmpD .ne (.str x) (.str y) s = .ok (.bl (!(x == y))) s := rfl
theorem o_in {c : Nat} {y : List Nat} : cmpD .isin (.str [c]) (.str y) s = .ok (.bl (y.contains c)) s := rfl
theorem o_notin {c : Nat} {y : List Nat} : cmpD .notin (.str [c]) (.str y) s = .ok (.bl (!y.contains c)) s := rfl
theorem o_isin {k : Nat} {d : D} (h : kk d = true) : bltD (.isinst k) t [d, .ty k] s = .ok (.bl (isT s k d)) s := by
  have : kindKnown s d = true := by unfold kindKnown; rw [rd_kk h]; cases d <;> first | rfl | (cases h; done)
  show (if k = k ∧ kindKnown s d = true then R.ok (D.bl (isT s k d)) s else .bad) = _
  rw [if_pos ⟨rfl, this⟩]
theorem isT_kk {k : Nat} {d : D} (h : kk d = true) : isT s k d = isT [] k d := by unfold isT; rw [rd_kk h, rd_kk h]
theorem o_lens {z : List Nat} (h : z.length ≤ sizeLine) : bltD .len t [.str z] s = .ok (.int z.length) s := by simp only [bltD, rd]; rw [if_pos h]
theorem o_lent {z : List D} : bltD .len t [.tup z] s = .ok (.int z.length) s := rfl
theorem o_lenl {z : List D} : bltD .len t [.lst z] s = .ok (.int z.length) s := rfl
theorem o_lenc {z : List Int} : bltD .len t [.scr z] s = .ok (.int z.length) s := rfl
theorem o_abs : bltD .abs t [.int a] s = .ok (.int (if a < 0 then -a else a)) s := rfl
theorem o_min : bltD .min2 t [.int a, .int b] s = .ok (.int (if b < a then b else a)) s := rfl
theorem o_max : bltD .max2 t [.int a, .int b] s = .ok (.int (if b > a then b else a)) s := rfl
theorem o_tupl {z : List D} : bltD .tuple_ t [.lst z] s = .ok (.tup z) s := rfl
theorem o_tupt {z : List D} : bltD .tuple_ t [.tup z] s = .ok (.tup z) s := rfl
theorem mapB_bl : ∀ bs : List Bool, mapB (bs.map D.bl) = some bs
  | [] => rfl
  | b :: bs => by
    have := mapB_bl bs
    unfold mapB at this ⊢
    simp [this]
theorem o_all {bs : List Bool} : bltD .all t [.lst (bs.map D.bl)] s = .ok (.bl (bs.all id)) s := by simp only [bltD, rd, mapB_bl]
theorem o_any {bs : List Bool} : bltD .any t [.lst (bs.map D.bl)] s = .ok (.bl (bs.any id)) s := by simp only [bltD, rd, mapB_bl]
theorem strsOf_str : ∀ zs : List (List Nat), strsOf (zs.map D.str) = some zs
  | [] => rfl
  | z :: zs => by
    have := strsOf_str zs
    unfold strsOf at this ⊢
    simp [this]
theorem fin_f {z : List D} : fin false z s = .ok (.lst z) s := rfl
theorem o_subt {z : List D} {i : Int} {d : D} (h : atI z i = some d) : subD (.tup z) (.int i) s = .ok d s := by simp only [subD, rd, h]
theorem o_subs {z : List Nat} {i : Int} (hz : z.length ≤ sizeLine) (h0 : 0 ≤ i) (h1 : i < z.length) : ∃ c, c ∈ z ∧ subD (.str z) (.int i) s = .ok (.str [c]) s := by
  obtain ⟨c, hc, e⟩ := atI_mem h0 h1
  exact ⟨c, hc, by simp only [subD, rd, if_pos hz, e]⟩
theorem o_sls {z : List Nat} {l h : Option Int} (hz : z.length ≤ sizeLine) : slD t (.str z) l h s = .ok (.str (cut z l h)) s := by simp only [slD, rd, if_pos hz]
theorem o_sll {z : List D} {l h : Option Int} : slD false (.lst z) l h s = .ok (.lst (cut z l h)) s := rfl
theorem cut_len {α : Type} (z : List α) (l h : Option Int) : (cut z l h).length ≤ z.length := by unfold cut; rw [List.length_take, List.length_drop]; omega
end
theorem lc_map {β : Type} {f : D → St → R (Option D)} {k : β → D} {g : β → Option D} {s : St} : ∀ {bs : List β} {acc : List D}, (∀ b ∈ bs, f (k b) s = .ok (g b) s) → lcR f (bs.map k) acc s = .ok (.lst (acc ++ bs.filterMap g)) s
  | [], acc, _ => by simp [lcR]
  | b :: bs, acc, h => by
    rw [List.map_cons]
    unfold lcR
    rw [h b List.mem_cons_self, R.bind_ok]
    cases q : g b with
    | some y =>
      simp only
      rw [lc_map fun d hd => h d (List.mem_cons_of_mem _ hd)]
      simp [q]
    | none =>
      simp only
      rw [lc_map fun d hd => h d (List.mem_cons_of_mem _ hd)]
      simp [q]
def chD (c : Nat) : D := .str [c]
theorem it_str {z : List Nat} (h : z.length ≤ sizeLine) : itK .val [.str z] = some (z.map chD) := by
  show (if z.length ≤ sizeLine then some (z.map chD) else Option.none) = _
  rw [if_pos h]
theorem it_lst {z : List D} : itK .val [.lst z] = some z := rfl
theorem it_tup {z : List D} : itK .val [.tup z] = some z := rfl
theorem it_rng {n : Int} (h0 : -far ≤ n) (h1 : n ≤ sizeLine) : itK .range1 [.int n] = some ((List.range n.toNat).map fun i : Nat => D.int i) := by
  show (if -far ≤ n ∧ n ≤ sizeLine then some ((List.range n.toNat).map fun i : Nat => D.int i) else Option.none) = _
  rw [if_pos ⟨h0, h1⟩]
theorem flatL_ch : ∀ zs : List Nat, flatL (zs.map chD) = true
  | [] => rfl
  | z :: zs => by rw [List.map_cons]; unfold flatL; rw [flatL_ch zs]; rfl
theorem depthL_ch : ∀ zs : List Nat, depthL (zs.map chD) = 0
  | [] => rfl
  | z :: zs => by rw [List.map_cons]; unfold depthL; rw [depthL_ch zs]; rfl
theorem o_chnil {zs : List Nat} {s : St} : cmpD .eq (.lst (zs.map chD)) (.lst []) s = .ok (.bl zs.isEmpty) s := by
  have f1 : flat (.lst (zs.map chD)) = true := by unfold flat; exact flatL_ch zs
  have f2 : depth (.lst (zs.map chD)) = 1 := by unfold depth; rw [depthL_ch]
  have f3 : flat (.lst []) = true := rfl
  have f4 : depth (.lst []) = 1 := rfl
  show (if flat (.lst (zs.map chD)) && flat (.lst []) && decide (depth (.lst (zs.map chD)) ≤ 60) && decide (depth (.lst []) ≤ 60) then R.ok (D.bl (eqv (.lst (zs.map chD)) (.lst []))) s else if lenNe (.lst (zs.map chD)) (.lst []) then R.ok (D.bl false) s else if tupE (.lst (zs.map chD)) (.lst []) then R.ok (D.bl false) s else .bad) = _
  rw [f1, f2, f3, f4]
  cases zs <;> rfl
theorem fm_some {α β : Type} {f : α → β} : ∀ zs : List α, zs.filterMap (fun c => some (f c)) = zs.map f
  | [] => rfl
  | z :: zs => by simp [fm_some zs]
theorem fm_if {α β : Type} {f : α → β} {p : α → Bool} : ∀ zs : List α, zs.filterMap (fun c => if p c then some (f c) else Option.none) = (zs.filter p).map f
  | [] => rfl
  | z :: zs => by
    have := fm_if (f := f) (p := p) zs
    cases h : p z <;> simp [h, this]
theorem joinT_len (a : List Nat) : ∀ zs : List (List Nat), (joinT a zs).length ≤ lenSum a.length zs
  | [] => by simp [joinT]
  | [x] => by simp [joinT, lenSum]
  | x :: y :: r => by
    have := joinT_len a (y :: r)
    simp only [joinT, lenSum, List.length_append] at this ⊢
    omega
theorem lenSum_one : ∀ zs : List (List Nat), (∀ z ∈ zs, z.length = 1) → lenSum 0 zs = zs.length
  | [], _ => rfl
  | z :: zs, h => by
    have := lenSum_one zs fun y hy => h y (List.mem_cons_of_mem _ hy)
    have h1 := h z List.mem_cons_self
    simp only [lenSum, List.length_cons]
    omega
theorem o_join {a : List Nat} {zs : List (List Nat)} {s : St} (h : lenSum a.length zs ≤ 16777216) : methD .join (.str a) [.lst (zs.map D.str)] s = .ok (.str (joinT a zs)) s := by
  simp only [methD, rd, strsOf_str]
  rw [if_pos h]
theorem Drew.to {s s1 s2 : St} {r c c' k k' m : Nat} (a : Drew s r c k s1) (b : Drew s1 r c' k' s2) (l : c' + k' ≤ c + m) : Drew s r c m s2 := by
  obtain ⟨⟨o, rfl⟩, _⟩ := a
  obtain ⟨⟨o', rfl⟩, q⟩ := b
  exact ⟨⟨o', by rw [List.set_set]⟩, q.mono l⟩
theorem Drew.take {s s' : St} {r c k m : Nat} (a : Drew s r c k s') : s'.take (max s.length m) = s' := List.take_of_length_le (by rw [a.length]; exact Nat.le_max_left ..)
theorem Drew.take0 {s s' : St} {r c k : Nat} (a : Drew s r c k s') : s'.take s.length = s' := List.take_of_length_le (by rw [a.length]; exact Nat.le_refl _)
theorem Drew.pot {s s' : St} {r c k : Nat} (a : Drew s r c k s') : Pot s' r (c + k) := a.2
theorem Pot.snoc {s : St} {r c : Nat} {o : O} (h : Pot s r c) : Pot (s ++ [o]) r c := by
  obtain ⟨p0, p1, p2, e, hh⟩ := h
  exact ⟨p0, p1, p2, by rw [List.getElem?_append_left (List.getElem?_eq_some_iff.mp e).1]; exact e, hh⟩
/-- an object laid behind stays behind -/
theorem Drew.snoc {s s' : St} {r c k : Nat} {o : O} (hr : r < s.length) (a : Drew (s ++ [o]) r c k s') : ∃ t, s' = t ++ [o] ∧ Drew s r c k t := by
  obtain ⟨⟨p, rfl⟩, p0, p1, p2, e, hh⟩ := a
  refine ⟨s.set r p, by rw [List.set_append_left _ _ hr], ⟨p, rfl⟩, p0, p1, p2, ?_, hh⟩
  rw [List.getElem?_set_self (by simp; omega)] at e
  rw [List.getElem?_set_self hr]; exact e
theorem snoc_get {t : St} {o : O} : (t ++ [o])[t.length]? = some o := by simp
theorem snoc_set {t : St} {o p : O} : (t ++ [o]).set t.length p = t ++ [p] := by simp
theorem snoc_take {t : St} {o : O} {n : Nat} (h : n = t.length) : (t ++ [o]).take n = t := by rw [h]; simp
/-- an object laid behind, let go -/
theorem Drew.cut {s s' : St} {r c k : Nat} {o : O} (hr : r < s.length) (a : Drew (s ++ [o]) r c k s') : Drew s r c k (s'.take s.length) := by
  obtain ⟨⟨p, rfl⟩, p0, p1, p2, e, hh⟩ := a
  have e2 : ((s ++ [o]).set r p).take s.length = s.set r p := by
    rw [List.set_append_left _ _ hr, List.take_append_of_le_length (by simp), List.take_of_length_le (by simp)]
  rw [e2]
  refine ⟨⟨p, rfl⟩, p0, p1, p2, ?_, hh⟩
  rw [List.getElem?_set_self (by simp; omega)] at e
  rw [List.getElem?_set_self hr]; exact e
theorem take_set_out {s : St} {i : Nat} {y : O} (s' : St) (h : s.length ≤ i) : (s'.set i y).take s.length = s'.take s.length := by
  rw [List.take_set]
  exact List.set_eq_of_length_le (by rw [List.length_take]; omega)
theorem eq_of_wp {α : Type} {r : R α} {v : α} {s : St} (h : WP r fun a s' => a = v ∧ s' = s) : r = .ok v s := by
  obtain ⟨a, s', e, rfl, rfl⟩ := h.ex
  exact e
theorem wp_of_eq {α : Type} {r : R α} {v : α} {s : St} {Q : α → St → Prop} (h : r = .ok v s) (q : Q v s) : WP r Q := by rw [h]; exact q
end Fk

set_option Elab.async false
set_option linter.all false
set_option autoImplicit false
set_option maxRecDepth 100000
set_option maxHeartbeats 4000000
/-! FkNames: the looks at names, of any law. -/
namespace Fk
def isWholeFn : Fn := ⟨1, 1, [.ret (.and (.blt (.isinst 0) false [.v 0, .c (.ty 0)]) (.not (.blt (.isinst 1) false [.v 0, .c (.ty 1)])))]⟩
def isBelowFn (w : Nat) : Fn := ⟨2, 2, [.ret (.and (.call w [.v 0]) (.chain .le .lt (.c (.int 0)) (.v 0) (.v 1)))]⟩
def isRowFn : Fn := ⟨2, 2, [.ret (.and (.blt (.isinst 3) false [.v 0, .c (.ty 3)]) (.cmp .eq (.blt .len false [.v 0]) (.v 1)))]⟩
def isWordFn : Fn := ⟨1, 2, [.ife (.or (.not (.blt (.isinst 2) false [.v 0, .c (.ty 2)])) (.not (.chain .le .le (.c (.int 1)) (.blt .len false [.v 0]) (.c (.int 8))))) [.ret (.c (.bl false))] [], .ret (.blt .all false [.lc (.cmp .isin (.v 1) (.c (.str [97, 98, 99, 100, 101, 102, 103, 104, 105, 106, 107, 108, 109, 110, 111, 112, 113, 114, 115, 116, 117, 118, 119, 120, 121, 122]))) (.s 1) .val [.v 0] (.c (.bl true))])]⟩
def isNameFn (w : Nat) : Fn := ⟨1, 1, [.ret (.and (.call w [.v 0]) (.cmp .ne (.v 0) (.c (.str [107, 101, 121]))))]⟩
def isValueFn (w x : Nat) : Fn := ⟨1, 1, [.ret (.or (.call w [.v 0]) (.and (.call x [.v 0]) (.chain .le .le (.neg (.c (.int 1000000000))) (.v 0) (.c (.int 1000000000)))))]⟩
def isHandFn (b : Nat) : Fn := ⟨1, 1, [.ret (.call b [.v 0, .c (.int 8)])]⟩
def isCountFn (b : Nat) : Fn := ⟨1, 1, [.ret (.call b [.v 0, .bin .add false (.c (.int 1000000)) (.c (.int 1))])]⟩
def isIdFn (r h m c : Nat) : Fn := ⟨1, 1, [.ret (.and (.call r [.v 0, .c (.int 3)]) (.and (.call h [.sub (.v 0) (.c (.int 0))]) (.and (.call m [.sub (.v 0) (.c (.int 1))]) (.call c [.sub (.v 0) (.c (.int 2))]))))]⟩
def lawWordFn : Fn := ⟨1, 2, [.ife (.or (.not (.blt (.isinst 2) false [.v 0, .c (.ty 2)])) (.not (.chain .lt .lt (.c (.int 0)) (.blt .len false [.v 0]) (.c (.int 9))))) [.ret (.c (.bl false))] [], .ret (.cmp .eq (.lc (.v 1) (.s 1) .val [.v 0] (.cmp .notin (.v 1) (.c (.str [97, 98, 99, 100, 101, 102, 103, 104, 105, 106, 107, 108, 109, 110, 111, 112, 113, 114, 115, 116, 117, 118, 119, 120, 121, 122])))) (.lst false []))]⟩
/-- a number that is no truth -/
def isW : D → Bool
  | .int _ => true
  | _ => false
theorem isT0 (s : St) {d : D} (h : kk d = true) : isT s 0 d = (isW d || isT [] 1 d) := by
  rw [isT_kk h]; cases d <;> first | rfl | (cases h; done)
theorem isW_bl {d : D} (h : kk d = true) : (isT [] 0 d && !isT [] 1 d) = isW d := by cases d <;> first | rfl | (cases h; done)
theorem e_whole {P : List Fn} {f : Nat} (hf : P[f]? = some isWholeFn) (n : Nat) {d : D} (s : St) (h : kk d = true) : callF P (n + 1) f [d] s = .ok (.bl (isW d)) s := by
  refine eq_of_wp ?_
  rw [callF_eq (fn := isWholeFn) hf rfl, WP_back]
  show WS (exB _ isWholeFn.body [some d] s) _ _
  simp -implicitDefEqProofs only [exB_cons, exB_nil, exS_expr, exS_set, exS_setSub, exS_fz, exS_ife, exS_ret, exS_pass, den_nop, den_c, den_v, den_bin, den_neg, den_cmp, den_chain, den_and, den_or, den_not, den_ite, den_tup, den_lst, den_sub, den_rev, den_callv, exS_raise, exS_tryR, den_sl, den_call, den_blt, den_meth, denL_nil, denL_cons, WS_seq, WS_toS, WS_nx, WS_rt, WS_asB, WS_ite, WP_bind, WP_ok, WP_asB, WP_ite, bindP, setAll, List.set_cons_zero, List.set_cons_succ, List.getElem?_cons_zero, List.getElem?_cons_succ, decide_true, decide_false, if_true, if_false, Bool.false_eq_true, Bool.not_true, Bool.not_false, isNop, partR, o_add, o_sub, o_lt, o_le, o_gt, o_ge, o_eqi, o_nei, o_eqs, o_nes, o_in, o_notin, o_lent, o_lenl, o_lenc, o_abs, o_min, o_max, o_tupl, o_tupt, o_sll, fin_f, isWholeFn, o_isin h, isT_kk h]
  cases d <;> first | (cases h; done) | simp [isT, rd, isW, D.top]
def below (d : D) (m : Int) : Bool :=
  match d with
  | .int i => decide (0 ≤ i) && decide (i < m)
  | _ => false
theorem e_below {P : List Fn} {f w : Nat} (hf : P[f]? = some (isBelowFn w)) (hw : P[w]? = some isWholeFn) (n : Nat) {d : D} {m : Int} (s : St) (h : kk d = true) : callF P (n + 2) f [d, .int m] s = .ok (.bl (below d m)) s := by
  refine eq_of_wp ?_
  rw [callF_eq (fn := (isBelowFn w)) hf rfl, WP_back]
  show WS (exB _ (isBelowFn w).body [some d, some (.int m)] s) _ _
  simp -implicitDefEqProofs only [exB_cons, exB_nil, exS_expr, exS_set, exS_setSub, exS_fz, exS_ife, exS_ret, exS_pass, den_nop, den_c, den_v, den_bin, den_neg, den_cmp, den_chain, den_and, den_or, den_not, den_ite, den_tup, den_lst, den_sub, den_rev, den_callv, exS_raise, exS_tryR, den_sl, den_call, den_blt, den_meth, denL_nil, denL_cons, WS_seq, WS_toS, WS_nx, WS_rt, WS_asB, WS_ite, WP_bind, WP_ok, WP_asB, WP_ite, bindP, setAll, List.set_cons_zero, List.set_cons_succ, List.getElem?_cons_zero, List.getElem?_cons_succ, decide_true, decide_false, if_true, if_false, Bool.false_eq_true, Bool.not_true, Bool.not_false, isNop, partR, o_add, o_sub, o_lt, o_le, o_gt, o_ge, o_eqi, o_nei, o_eqs, o_nes, o_in, o_notin, o_lent, o_lenl, o_lenc, o_abs, o_min, o_max, o_tupl, o_tupt, o_sll, fin_f, isBelowFn, e_whole hw n s h]
  cases d <;> first | (cases h; done) | skip
  case int i =>
    simp -implicitDefEqProofs only [exB_cons, exB_nil, exS_expr, exS_set, exS_setSub, exS_fz, exS_ife, exS_ret, exS_pass, den_nop, den_c, den_v, den_bin, den_neg, den_cmp, den_chain, den_and, den_or, den_not, den_ite, den_tup, den_lst, den_sub, den_rev, den_callv, exS_raise, exS_tryR, den_sl, den_call, den_blt, den_meth, denL_nil, denL_cons, WS_seq, WS_toS, WS_nx, WS_rt, WS_asB, WS_ite, WP_bind, WP_ok, WP_asB, WP_ite, bindP, setAll, List.set_cons_zero, List.set_cons_succ, List.getElem?_cons_zero, List.getElem?_cons_succ, decide_true, decide_false, if_true, if_false, Bool.false_eq_true, Bool.not_true, Bool.not_false, isNop, partR, o_add, o_sub, o_lt, o_le, o_gt, o_ge, o_eqi, o_nei, o_eqs, o_nes, o_in, o_notin, o_lent, o_lenl, o_lenc, o_abs, o_min, o_max, o_tupl, o_tupt, o_sll, fin_f, isW]
    by_cases c : 0 ≤ i <;> simp [c, below, WP_ok, D.top, o_lt]
  all_goals simp [isW, below, WP_ok, D.top]
def LS : List Nat := [97, 98, 99, 100, 101, 102, 103, 104, 105, 106, 107, 108, 109, 110, 111, 112, 113, 114, 115, 116, 117, 118, 119, 120, 121, 122]
def KEY : List Nat := [107, 101, 121]
def ok1 (d : D) : Bool := kk d && (match d with
  | .str z => decide (z.length ≤ 1000)
  | _ => true)
theorem ok1_kk {d : D} (h : ok1 d = true) : kk d = true := by unfold ok1 at h; simp only [Bool.and_eq_true] at h; exact h.1
theorem ok1_str {z : List Nat} (h : ok1 (.str z) = true) : z.length ≤ sizeLine := by
  unfold ok1 at h
  simp only [Bool.and_eq_true, decide_eq_true_eq] at h
  exact Nat.le_trans h.2 (by decide)
def isWord : D → Bool
  | .str z => (decide (1 ≤ z.length) && decide (z.length ≤ 8)) && z.all fun c => LS.contains c
  | _ => false
theorem word_lc {z : List Nat} : (z.map fun c => LS.contains c).all id = z.all fun c => LS.contains c := by simp [List.all_map, Function.comp_def]
theorem e_word {P : List Fn} {f : Nat} (hf : P[f]? = some isWordFn) (n : Nat) {d : D} (s : St) (h : ok1 d = true) : callF P (n + 1) f [d] s = .ok (.bl (isWord d)) s := by
  refine eq_of_wp ?_
  rw [callF_eq (fn := isWordFn) hf rfl, WP_back]
  show WS (exB _ isWordFn.body [some d, none] s) _ _
  have hk := ok1_kk h
  simp -implicitDefEqProofs only [exB_cons, exB_nil, exS_expr, exS_set, exS_setSub, exS_fz, exS_ife, exS_ret, exS_pass, den_nop, den_c, den_v, den_bin, den_neg, den_cmp, den_chain, den_and, den_or, den_not, den_ite, den_tup, den_lst, den_sub, den_rev, den_callv, exS_raise, exS_tryR, den_sl, den_call, den_blt, den_meth, denL_nil, denL_cons, WS_seq, WS_toS, WS_nx, WS_rt, WS_asB, WS_ite, WP_bind, WP_ok, WP_asB, WP_ite, bindP, setAll, List.set_cons_zero, List.set_cons_succ, List.getElem?_cons_zero, List.getElem?_cons_succ, decide_true, decide_false, if_true, if_false, Bool.false_eq_true, Bool.not_true, Bool.not_false, isNop, partR, o_add, o_sub, o_lt, o_le, o_gt, o_ge, o_eqi, o_nei, o_eqs, o_nes, o_in, o_notin, o_lent, o_lenl, o_lenc, o_abs, o_min, o_max, o_tupl, o_tupt, o_sll, fin_f, isWordFn, o_isin hk, isT_kk hk]
  cases d <;> first | (cases hk; done) | skip
  case str z =>
    have hz := ok1_str h
    have e1 : isT [] 2 (.str z) = true := rfl
    simp -implicitDefEqProofs only [exB_cons, exB_nil, exS_expr, exS_set, exS_setSub, exS_fz, exS_ife, exS_ret, exS_pass, den_nop, den_c, den_v, den_bin, den_neg, den_cmp, den_chain, den_and, den_or, den_not, den_ite, den_tup, den_lst, den_sub, den_rev, den_callv, exS_raise, exS_tryR, den_sl, den_call, den_blt, den_meth, denL_nil, denL_cons, WS_seq, WS_toS, WS_nx, WS_rt, WS_asB, WS_ite, WP_bind, WP_ok, WP_asB, WP_ite, bindP, setAll, List.set_cons_zero, List.set_cons_succ, List.getElem?_cons_zero, List.getElem?_cons_succ, decide_true, decide_false, if_true, if_false, Bool.false_eq_true, Bool.not_true, Bool.not_false, isNop, partR, o_add, o_sub, o_lt, o_le, o_gt, o_ge, o_eqi, o_nei, o_eqs, o_nes, o_in, o_notin, o_lent, o_lenl, o_lenc, o_abs, o_min, o_max, o_tupl, o_tupt, o_sll, fin_f, e1, o_lens hz]
    by_cases c1 : (1 : Int) ≤ z.length
    · simp -implicitDefEqProofs only [exB_cons, exB_nil, exS_expr, exS_set, exS_setSub, exS_fz, exS_ife, exS_ret, exS_pass, den_nop, den_c, den_v, den_bin, den_neg, den_cmp, den_chain, den_and, den_or, den_not, den_ite, den_tup, den_lst, den_sub, den_rev, den_callv, exS_raise, exS_tryR, den_sl, den_call, den_blt, den_meth, denL_nil, denL_cons, WS_seq, WS_toS, WS_nx, WS_rt, WS_asB, WS_ite, WP_bind, WP_ok, WP_asB, WP_ite, bindP, setAll, List.set_cons_zero, List.set_cons_succ, List.getElem?_cons_zero, List.getElem?_cons_succ, decide_true, decide_false, if_true, if_false, Bool.false_eq_true, Bool.not_true, Bool.not_false, isNop, partR, o_add, o_sub, o_lt, o_le, o_gt, o_ge, o_eqi, o_nei, o_eqs, o_nes, o_in, o_notin, o_lent, o_lenl, o_lenc, o_abs, o_min, o_max, o_tupl, o_tupt, o_sll, fin_f, c1]
      by_cases c2 : (z.length : Int) ≤ 8
      · simp -implicitDefEqProofs only [exB_cons, exB_nil, exS_expr, exS_set, exS_setSub, exS_fz, exS_ife, exS_ret, exS_pass, den_nop, den_c, den_v, den_bin, den_neg, den_cmp, den_chain, den_and, den_or, den_not, den_ite, den_tup, den_lst, den_sub, den_rev, den_callv, exS_raise, exS_tryR, den_sl, den_call, den_blt, den_meth, denL_nil, denL_cons, WS_seq, WS_toS, WS_nx, WS_rt, WS_asB, WS_ite, WP_bind, WP_ok, WP_asB, WP_ite, bindP, setAll, List.set_cons_zero, List.set_cons_succ, List.getElem?_cons_zero, List.getElem?_cons_succ, decide_true, decide_false, if_true, if_false, Bool.false_eq_true, Bool.not_true, Bool.not_false, isNop, partR, o_add, o_sub, o_lt, o_le, o_gt, o_ge, o_eqi, o_nei, o_eqs, o_nes, o_in, o_notin, o_lent, o_lenl, o_lenc, o_abs, o_min, o_max, o_tupl, o_tupt, o_sll, fin_f, c2, den_lc, it_str hz]
        refine wp_of_eq (lc_map (g := fun c => some (.bl (LS.contains c))) fun c hc => ?_) ?_
        · refine eq_of_wp ?_
          simp -implicitDefEqProofs only [exB_cons, exB_nil, exS_expr, exS_set, exS_setSub, exS_fz, exS_ife, exS_ret, exS_pass, den_nop, den_c, den_v, den_bin, den_neg, den_cmp, den_chain, den_and, den_or, den_not, den_ite, den_tup, den_lst, den_sub, den_rev, den_callv, exS_raise, exS_tryR, den_sl, den_call, den_blt, den_meth, denL_nil, denL_cons, WS_seq, WS_toS, WS_nx, WS_rt, WS_asB, WS_ite, WP_bind, WP_ok, WP_asB, WP_ite, bindP, setAll, List.set_cons_zero, List.set_cons_succ, List.getElem?_cons_zero, List.getElem?_cons_succ, decide_true, decide_false, if_true, if_false, Bool.false_eq_true, Bool.not_true, Bool.not_false, isNop, partR, o_add, o_sub, o_lt, o_le, o_gt, o_ge, o_eqi, o_nei, o_eqs, o_nes, o_in, o_notin, o_lent, o_lenl, o_lenc, o_abs, o_min, o_max, o_tupl, o_tupt, o_sll, fin_f, chD, Pat.slots, wipe, WP_noErr, LS]
          refine ⟨?_, ?_⟩ <;> first | rfl | trivial
        · have hm : z.map (fun c => D.bl (LS.contains c)) = (z.map fun c => LS.contains c).map D.bl := by rw [List.map_map]; rfl
          rw [fm_some, List.nil_append, hm]
          simp -implicitDefEqProofs only [exB_cons, exB_nil, exS_expr, exS_set, exS_setSub, exS_fz, exS_ife, exS_ret, exS_pass, den_nop, den_c, den_v, den_bin, den_neg, den_cmp, den_chain, den_and, den_or, den_not, den_ite, den_tup, den_lst, den_sub, den_rev, den_callv, exS_raise, exS_tryR, den_sl, den_call, den_blt, den_meth, denL_nil, denL_cons, WS_seq, WS_toS, WS_nx, WS_rt, WS_asB, WS_ite, WP_bind, WP_ok, WP_asB, WP_ite, bindP, setAll, List.set_cons_zero, List.set_cons_succ, List.getElem?_cons_zero, List.getElem?_cons_succ, decide_true, decide_false, if_true, if_false, Bool.false_eq_true, Bool.not_true, Bool.not_false, isNop, partR, o_add, o_sub, o_lt, o_le, o_gt, o_ge, o_eqi, o_nei, o_eqs, o_nes, o_in, o_notin, o_lent, o_lenl, o_lenc, o_abs, o_min, o_max, o_tupl, o_tupt, o_sll, fin_f, o_all, word_lc]
          have a1 : 1 ≤ z.length := by omega
          have a2 : z.length ≤ 8 := by omega
          simp [isWord, a1, a2, D.top]
      · simp -implicitDefEqProofs only [exB_cons, exB_nil, exS_expr, exS_set, exS_setSub, exS_fz, exS_ife, exS_ret, exS_pass, den_nop, den_c, den_v, den_bin, den_neg, den_cmp, den_chain, den_and, den_or, den_not, den_ite, den_tup, den_lst, den_sub, den_rev, den_callv, exS_raise, exS_tryR, den_sl, den_call, den_blt, den_meth, denL_nil, denL_cons, WS_seq, WS_toS, WS_nx, WS_rt, WS_asB, WS_ite, WP_bind, WP_ok, WP_asB, WP_ite, bindP, setAll, List.set_cons_zero, List.set_cons_succ, List.getElem?_cons_zero, List.getElem?_cons_succ, decide_true, decide_false, if_true, if_false, Bool.false_eq_true, Bool.not_true, Bool.not_false, isNop, partR, o_add, o_sub, o_lt, o_le, o_gt, o_ge, o_eqi, o_nei, o_eqs, o_nes, o_in, o_notin, o_lent, o_lenl, o_lenc, o_abs, o_min, o_max, o_tupl, o_tupt, o_sll, fin_f, c2]
        have a2 : ¬ z.length ≤ 8 := by omega
        simp [isWord, a2, D.top]
    · simp -implicitDefEqProofs only [exB_cons, exB_nil, exS_expr, exS_set, exS_setSub, exS_fz, exS_ife, exS_ret, exS_pass, den_nop, den_c, den_v, den_bin, den_neg, den_cmp, den_chain, den_and, den_or, den_not, den_ite, den_tup, den_lst, den_sub, den_rev, den_callv, exS_raise, exS_tryR, den_sl, den_call, den_blt, den_meth, denL_nil, denL_cons, WS_seq, WS_toS, WS_nx, WS_rt, WS_asB, WS_ite, WP_bind, WP_ok, WP_asB, WP_ite, bindP, setAll, List.set_cons_zero, List.set_cons_succ, List.getElem?_cons_zero, List.getElem?_cons_succ, decide_true, decide_false, if_true, if_false, Bool.false_eq_true, Bool.not_true, Bool.not_false, isNop, partR, o_add, o_sub, o_lt, o_le, o_gt, o_ge, o_eqi, o_nei, o_eqs, o_nes, o_in, o_notin, o_lent, o_lenl, o_lenc, o_abs, o_min, o_max, o_tupl, o_tupt, o_sll, fin_f, c1]
      have a1 : ¬ 1 ≤ z.length := by omega
      simp [isWord, a1, D.top]
  all_goals simp [isT, rd, isWord, D.top, WP_ok, WS_rt]
theorem filt_nil {z : List Nat} : (z.filter fun c => !LS.contains c).isEmpty = z.all fun c => LS.contains c := by
  induction z with
  | nil => rfl
  | cons a z ih => cases h : LS.contains a <;> simp [h] at ih ⊢ <;> simp_all
theorem e_lword {P : List Fn} {f : Nat} (hf : P[f]? = some lawWordFn) (n : Nat) {d : D} (s : St) (h : ok1 d = true) : callF P (n + 1) f [d] s = .ok (.bl (isWord d)) s := by
  refine eq_of_wp ?_
  rw [callF_eq (fn := lawWordFn) hf rfl, WP_back]
  show WS (exB _ lawWordFn.body [some d, none] s) _ _
  have hk := ok1_kk h
  simp -implicitDefEqProofs only [exB_cons, exB_nil, exS_expr, exS_set, exS_setSub, exS_fz, exS_ife, exS_ret, exS_pass, den_nop, den_c, den_v, den_bin, den_neg, den_cmp, den_chain, den_and, den_or, den_not, den_ite, den_tup, den_lst, den_sub, den_rev, den_callv, exS_raise, exS_tryR, den_sl, den_call, den_blt, den_meth, denL_nil, denL_cons, WS_seq, WS_toS, WS_nx, WS_rt, WS_asB, WS_ite, WP_bind, WP_ok, WP_asB, WP_ite, bindP, setAll, List.set_cons_zero, List.set_cons_succ, List.getElem?_cons_zero, List.getElem?_cons_succ, decide_true, decide_false, if_true, if_false, Bool.false_eq_true, Bool.not_true, Bool.not_false, isNop, partR, o_add, o_sub, o_lt, o_le, o_gt, o_ge, o_eqi, o_nei, o_eqs, o_nes, o_in, o_notin, o_lent, o_lenl, o_lenc, o_abs, o_min, o_max, o_tupl, o_tupt, o_sll, fin_f, lawWordFn, o_isin hk, isT_kk hk]
  cases d <;> first | (cases hk; done) | skip
  case str z =>
    have hz := ok1_str h
    have e1 : isT [] 2 (.str z) = true := rfl
    simp -implicitDefEqProofs only [exB_cons, exB_nil, exS_expr, exS_set, exS_setSub, exS_fz, exS_ife, exS_ret, exS_pass, den_nop, den_c, den_v, den_bin, den_neg, den_cmp, den_chain, den_and, den_or, den_not, den_ite, den_tup, den_lst, den_sub, den_rev, den_callv, exS_raise, exS_tryR, den_sl, den_call, den_blt, den_meth, denL_nil, denL_cons, WS_seq, WS_toS, WS_nx, WS_rt, WS_asB, WS_ite, WP_bind, WP_ok, WP_asB, WP_ite, bindP, setAll, List.set_cons_zero, List.set_cons_succ, List.getElem?_cons_zero, List.getElem?_cons_succ, decide_true, decide_false, if_true, if_false, Bool.false_eq_true, Bool.not_true, Bool.not_false, isNop, partR, o_add, o_sub, o_lt, o_le, o_gt, o_ge, o_eqi, o_nei, o_eqs, o_nes, o_in, o_notin, o_lent, o_lenl, o_lenc, o_abs, o_min, o_max, o_tupl, o_tupt, o_sll, fin_f, e1, o_lens hz]
    by_cases c1 : (0 : Int) < z.length
    · simp -implicitDefEqProofs only [exB_cons, exB_nil, exS_expr, exS_set, exS_setSub, exS_fz, exS_ife, exS_ret, exS_pass, den_nop, den_c, den_v, den_bin, den_neg, den_cmp, den_chain, den_and, den_or, den_not, den_ite, den_tup, den_lst, den_sub, den_rev, den_callv, exS_raise, exS_tryR, den_sl, den_call, den_blt, den_meth, denL_nil, denL_cons, WS_seq, WS_toS, WS_nx, WS_rt, WS_asB, WS_ite, WP_bind, WP_ok, WP_asB, WP_ite, bindP, setAll, List.set_cons_zero, List.set_cons_succ, List.getElem?_cons_zero, List.getElem?_cons_succ, decide_true, decide_false, if_true, if_false, Bool.false_eq_true, Bool.not_true, Bool.not_false, isNop, partR, o_add, o_sub, o_lt, o_le, o_gt, o_ge, o_eqi, o_nei, o_eqs, o_nes, o_in, o_notin, o_lent, o_lenl, o_lenc, o_abs, o_min, o_max, o_tupl, o_tupt, o_sll, fin_f, c1]
      by_cases c2 : (z.length : Int) < 9
      · simp -implicitDefEqProofs only [exB_cons, exB_nil, exS_expr, exS_set, exS_setSub, exS_fz, exS_ife, exS_ret, exS_pass, den_nop, den_c, den_v, den_bin, den_neg, den_cmp, den_chain, den_and, den_or, den_not, den_ite, den_tup, den_lst, den_sub, den_rev, den_callv, exS_raise, exS_tryR, den_sl, den_call, den_blt, den_meth, denL_nil, denL_cons, WS_seq, WS_toS, WS_nx, WS_rt, WS_asB, WS_ite, WP_bind, WP_ok, WP_asB, WP_ite, bindP, setAll, List.set_cons_zero, List.set_cons_succ, List.getElem?_cons_zero, List.getElem?_cons_succ, decide_true, decide_false, if_true, if_false, Bool.false_eq_true, Bool.not_true, Bool.not_false, isNop, partR, o_add, o_sub, o_lt, o_le, o_gt, o_ge, o_eqi, o_nei, o_eqs, o_nes, o_in, o_notin, o_lent, o_lenl, o_lenc, o_abs, o_min, o_max, o_tupl, o_tupt, o_sll, fin_f, c2, den_lc, it_str hz]
        refine wp_of_eq (lc_map (g := fun c => if !LS.contains c then some (chD c) else Option.none) fun c hc => ?_) ?_
        · refine eq_of_wp ?_
          simp -implicitDefEqProofs only [exB_cons, exB_nil, exS_expr, exS_set, exS_setSub, exS_fz, exS_ife, exS_ret, exS_pass, den_nop, den_c, den_v, den_bin, den_neg, den_cmp, den_chain, den_and, den_or, den_not, den_ite, den_tup, den_lst, den_sub, den_rev, den_callv, exS_raise, exS_tryR, den_sl, den_call, den_blt, den_meth, denL_nil, denL_cons, WS_seq, WS_toS, WS_nx, WS_rt, WS_asB, WS_ite, WP_bind, WP_ok, WP_asB, WP_ite, bindP, setAll, List.set_cons_zero, List.set_cons_succ, List.getElem?_cons_zero, List.getElem?_cons_succ, decide_true, decide_false, if_true, if_false, Bool.false_eq_true, Bool.not_true, Bool.not_false, isNop, partR, o_add, o_sub, o_lt, o_le, o_gt, o_ge, o_eqi, o_nei, o_eqs, o_nes, o_in, o_notin, o_lent, o_lenl, o_lenc, o_abs, o_min, o_max, o_tupl, o_tupt, o_sll, fin_f, chD, Pat.slots, wipe, WP_noErr]
          show if (!LS.contains c) = true then _ else _
          cases hh : LS.contains c <;> simp [hh, WP_ok]
        · rw [fm_if, List.nil_append]
          simp -implicitDefEqProofs only [exB_cons, exB_nil, exS_expr, exS_set, exS_setSub, exS_fz, exS_ife, exS_ret, exS_pass, den_nop, den_c, den_v, den_bin, den_neg, den_cmp, den_chain, den_and, den_or, den_not, den_ite, den_tup, den_lst, den_sub, den_rev, den_callv, exS_raise, exS_tryR, den_sl, den_call, den_blt, den_meth, denL_nil, denL_cons, WS_seq, WS_toS, WS_nx, WS_rt, WS_asB, WS_ite, WP_bind, WP_ok, WP_asB, WP_ite, bindP, setAll, List.set_cons_zero, List.set_cons_succ, List.getElem?_cons_zero, List.getElem?_cons_succ, decide_true, decide_false, if_true, if_false, Bool.false_eq_true, Bool.not_true, Bool.not_false, isNop, partR, o_add, o_sub, o_lt, o_le, o_gt, o_ge, o_eqi, o_nei, o_eqs, o_nes, o_in, o_notin, o_lent, o_lenl, o_lenc, o_abs, o_min, o_max, o_tupl, o_tupt, o_sll, fin_f, o_chnil, filt_nil]
          have a1 : 1 ≤ z.length := by omega
          have a2 : z.length ≤ 8 := by omega
          simp [isWord, a1, a2, D.top]
      · simp -implicitDefEqProofs only [exB_cons, exB_nil, exS_expr, exS_set, exS_setSub, exS_fz, exS_ife, exS_ret, exS_pass, den_nop, den_c, den_v, den_bin, den_neg, den_cmp, den_chain, den_and, den_or, den_not, den_ite, den_tup, den_lst, den_sub, den_rev, den_callv, exS_raise, exS_tryR, den_sl, den_call, den_blt, den_meth, denL_nil, denL_cons, WS_seq, WS_toS, WS_nx, WS_rt, WS_asB, WS_ite, WP_bind, WP_ok, WP_asB, WP_ite, bindP, setAll, List.set_cons_zero, List.set_cons_succ, List.getElem?_cons_zero, List.getElem?_cons_succ, decide_true, decide_false, if_true, if_false, Bool.false_eq_true, Bool.not_true, Bool.not_false, isNop, partR, o_add, o_sub, o_lt, o_le, o_gt, o_ge, o_eqi, o_nei, o_eqs, o_nes, o_in, o_notin, o_lent, o_lenl, o_lenc, o_abs, o_min, o_max, o_tupl, o_tupt, o_sll, fin_f, c2]
        have a2 : ¬ z.length ≤ 8 := by omega
        simp [isWord, a2, D.top]
    · simp -implicitDefEqProofs only [exB_cons, exB_nil, exS_expr, exS_set, exS_setSub, exS_fz, exS_ife, exS_ret, exS_pass, den_nop, den_c, den_v, den_bin, den_neg, den_cmp, den_chain, den_and, den_or, den_not, den_ite, den_tup, den_lst, den_sub, den_rev, den_callv, exS_raise, exS_tryR, den_sl, den_call, den_blt, den_meth, denL_nil, denL_cons, WS_seq, WS_toS, WS_nx, WS_rt, WS_asB, WS_ite, WP_bind, WP_ok, WP_asB, WP_ite, bindP, setAll, List.set_cons_zero, List.set_cons_succ, List.getElem?_cons_zero, List.getElem?_cons_succ, decide_true, decide_false, if_true, if_false, Bool.false_eq_true, Bool.not_true, Bool.not_false, isNop, partR, o_add, o_sub, o_lt, o_le, o_gt, o_ge, o_eqi, o_nei, o_eqs, o_nes, o_in, o_notin, o_lent, o_lenl, o_lenc, o_abs, o_min, o_max, o_tupl, o_tupt, o_sll, fin_f, c1]
      have a1 : ¬ 1 ≤ z.length := by omega
      simp [isWord, a1, D.top]
  all_goals simp [isT, rd, isWord, D.top, WP_ok, WS_rt]
def isName : D → Bool
  | .str z => isWord (.str z) && !(z == KEY)
  | _ => false
theorem e_name {P : List Fn} {f w : Nat} (hf : P[f]? = some (isNameFn w)) (hw : P[w]? = some isWordFn) (n : Nat) {d : D} (s : St) (h : ok1 d = true) : callF P (n + 2) f [d] s = .ok (.bl (isName d)) s := by
  refine eq_of_wp ?_
  rw [callF_eq (fn := (isNameFn w)) hf rfl, WP_back]
  show WS (exB _ (isNameFn w).body [some d] s) _ _
  simp -implicitDefEqProofs only [exB_cons, exB_nil, exS_expr, exS_set, exS_setSub, exS_fz, exS_ife, exS_ret, exS_pass, den_nop, den_c, den_v, den_bin, den_neg, den_cmp, den_chain, den_and, den_or, den_not, den_ite, den_tup, den_lst, den_sub, den_rev, den_callv, exS_raise, exS_tryR, den_sl, den_call, den_blt, den_meth, denL_nil, denL_cons, WS_seq, WS_toS, WS_nx, WS_rt, WS_asB, WS_ite, WP_bind, WP_ok, WP_asB, WP_ite, bindP, setAll, List.set_cons_zero, List.set_cons_succ, List.getElem?_cons_zero, List.getElem?_cons_succ, decide_true, decide_false, if_true, if_false, Bool.false_eq_true, Bool.not_true, Bool.not_false, isNop, partR, o_add, o_sub, o_lt, o_le, o_gt, o_ge, o_eqi, o_nei, o_eqs, o_nes, o_in, o_notin, o_lent, o_lenl, o_lenc, o_abs, o_min, o_max, o_tupl, o_tupt, o_sll, fin_f, isNameFn, e_word hw n s h]
  cases d <;> first | (simp [isWord, isName, WP_ok, D.top]; done) | skip
  all_goals (rename_i z; cases c : isWord (.str z) <;> simp [c, isName, WP_ok, o_nes, D.top, KEY])
def near : D → Bool
  | .int i => decide (-1000000000 ≤ i) && decide (i ≤ 1000000000)
  | _ => false
def isValue (d : D) : Bool := isWord d || near d
theorem e_value {P : List Fn} {f w x : Nat} (hf : P[f]? = some (isValueFn w x)) (hw : P[w]? = some isWordFn) (hx : P[x]? = some isWholeFn) (n : Nat) {d : D} (s : St) (h : ok1 d = true) : callF P (n + 2) f [d] s = .ok (.bl (isValue d)) s := by
  refine eq_of_wp ?_
  rw [callF_eq (fn := (isValueFn w x)) hf rfl, WP_back]
  show WS (exB _ (isValueFn w x).body [some d] s) _ _
  have hk := ok1_kk h
  simp -implicitDefEqProofs only [exB_cons, exB_nil, exS_expr, exS_set, exS_setSub, exS_fz, exS_ife, exS_ret, exS_pass, den_nop, den_c, den_v, den_bin, den_neg, den_cmp, den_chain, den_and, den_or, den_not, den_ite, den_tup, den_lst, den_sub, den_rev, den_callv, exS_raise, exS_tryR, den_sl, den_call, den_blt, den_meth, denL_nil, denL_cons, WS_seq, WS_toS, WS_nx, WS_rt, WS_asB, WS_ite, WP_bind, WP_ok, WP_asB, WP_ite, bindP, setAll, List.set_cons_zero, List.set_cons_succ, List.getElem?_cons_zero, List.getElem?_cons_succ, decide_true, decide_false, if_true, if_false, Bool.false_eq_true, Bool.not_true, Bool.not_false, isNop, partR, o_add, o_sub, o_lt, o_le, o_gt, o_ge, o_eqi, o_nei, o_eqs, o_nes, o_in, o_notin, o_lent, o_lenl, o_lenc, o_abs, o_min, o_max, o_tupl, o_tupt, o_sll, fin_f, isValueFn, e_word hw n s h, e_whole hx n s hk]
  cases d <;> first | (cases hk; done) | (simp [isWord, isValue, near, WP_ok, D.top, isW]; done) | skip
  case int i =>
    simp -implicitDefEqProofs only [exB_cons, exB_nil, exS_expr, exS_set, exS_setSub, exS_fz, exS_ife, exS_ret, exS_pass, den_nop, den_c, den_v, den_bin, den_neg, den_cmp, den_chain, den_and, den_or, den_not, den_ite, den_tup, den_lst, den_sub, den_rev, den_callv, exS_raise, exS_tryR, den_sl, den_call, den_blt, den_meth, denL_nil, denL_cons, WS_seq, WS_toS, WS_nx, WS_rt, WS_asB, WS_ite, WP_bind, WP_ok, WP_asB, WP_ite, bindP, setAll, List.set_cons_zero, List.set_cons_succ, List.getElem?_cons_zero, List.getElem?_cons_succ, decide_true, decide_false, if_true, if_false, Bool.false_eq_true, Bool.not_true, Bool.not_false, isNop, partR, o_add, o_sub, o_lt, o_le, o_gt, o_ge, o_eqi, o_nei, o_eqs, o_nes, o_in, o_notin, o_lent, o_lenl, o_lenc, o_abs, o_min, o_max, o_tupl, o_tupt, o_sll, fin_f, isWord, isW]
    by_cases c : -1000000000 ≤ i <;> simp [c, isWord, isValue, near, WP_ok, D.top, o_le]
  all_goals (rename_i z; cases c : isWord (.str z) <;> simp [c, isValue, near, WP_ok, D.top, isW])
theorem e_hand {P : List Fn} {f w b : Nat} (hf : P[f]? = some (isHandFn b)) (hb : P[b]? = some (isBelowFn w)) (hw : P[w]? = some isWholeFn) (n : Nat) {d : D} (s : St) (h : kk d = true) : callF P (n + 3) f [d] s = .ok (.bl (below d 8)) s := by
  refine eq_of_wp ?_
  rw [callF_eq (fn := (isHandFn b)) hf rfl, WP_back]
  show WS (exB _ (isHandFn b).body [some d] s) _ _
  simp -implicitDefEqProofs only [exB_cons, exB_nil, exS_expr, exS_set, exS_setSub, exS_fz, exS_ife, exS_ret, exS_pass, den_nop, den_c, den_v, den_bin, den_neg, den_cmp, den_chain, den_and, den_or, den_not, den_ite, den_tup, den_lst, den_sub, den_rev, den_callv, exS_raise, exS_tryR, den_sl, den_call, den_blt, den_meth, denL_nil, denL_cons, WS_seq, WS_toS, WS_nx, WS_rt, WS_asB, WS_ite, WP_bind, WP_ok, WP_asB, WP_ite, bindP, setAll, List.set_cons_zero, List.set_cons_succ, List.getElem?_cons_zero, List.getElem?_cons_succ, decide_true, decide_false, if_true, if_false, Bool.false_eq_true, Bool.not_true, Bool.not_false, isNop, partR, o_add, o_sub, o_lt, o_le, o_gt, o_ge, o_eqi, o_nei, o_eqs, o_nes, o_in, o_notin, o_lent, o_lenl, o_lenc, o_abs, o_min, o_max, o_tupl, o_tupt, o_sll, fin_f, isHandFn, e_below hb hw n s h]
  simp [D.top]
theorem e_count {P : List Fn} {f w b : Nat} (hf : P[f]? = some (isCountFn b)) (hb : P[b]? = some (isBelowFn w)) (hw : P[w]? = some isWholeFn) (n : Nat) {d : D} (s : St) (h : kk d = true) : callF P (n + 3) f [d] s = .ok (.bl (below d 1000001)) s := by
  refine eq_of_wp ?_
  rw [callF_eq (fn := (isCountFn b)) hf rfl, WP_back]
  show WS (exB _ (isCountFn b).body [some d] s) _ _
  simp -implicitDefEqProofs only [exB_cons, exB_nil, exS_expr, exS_set, exS_setSub, exS_fz, exS_ife, exS_ret, exS_pass, den_nop, den_c, den_v, den_bin, den_neg, den_cmp, den_chain, den_and, den_or, den_not, den_ite, den_tup, den_lst, den_sub, den_rev, den_callv, exS_raise, exS_tryR, den_sl, den_call, den_blt, den_meth, denL_nil, denL_cons, WS_seq, WS_toS, WS_nx, WS_rt, WS_asB, WS_ite, WP_bind, WP_ok, WP_asB, WP_ite, bindP, setAll, List.set_cons_zero, List.set_cons_succ, List.getElem?_cons_zero, List.getElem?_cons_succ, decide_true, decide_false, if_true, if_false, Bool.false_eq_true, Bool.not_true, Bool.not_false, isNop, partR, o_add, o_sub, o_lt, o_le, o_gt, o_ge, o_eqi, o_nei, o_eqs, o_nes, o_in, o_notin, o_lent, o_lenl, o_lenc, o_abs, o_min, o_max, o_tupl, o_tupt, o_sll, fin_f, isCountFn]
  rw [e_below hb hw n s h]
  simp -implicitDefEqProofs only [exB_cons, exB_nil, exS_expr, exS_set, exS_setSub, exS_fz, exS_ife, exS_ret, exS_pass, den_nop, den_c, den_v, den_bin, den_neg, den_cmp, den_chain, den_and, den_or, den_not, den_ite, den_tup, den_lst, den_sub, den_rev, den_callv, exS_raise, exS_tryR, den_sl, den_call, den_blt, den_meth, denL_nil, denL_cons, WS_seq, WS_toS, WS_nx, WS_rt, WS_asB, WS_ite, WP_bind, WP_ok, WP_asB, WP_ite, bindP, setAll, List.set_cons_zero, List.set_cons_succ, List.getElem?_cons_zero, List.getElem?_cons_succ, decide_true, decide_false, if_true, if_false, Bool.false_eq_true, Bool.not_true, Bool.not_false, isNop, partR, o_add, o_sub, o_lt, o_le, o_gt, o_ge, o_eqi, o_nei, o_eqs, o_nes, o_in, o_notin, o_lent, o_lenl, o_lenc, o_abs, o_min, o_max, o_tupl, o_tupt, o_sll, fin_f]
  simp [D.top]
def row3 : D → Bool
  | .tup ds => decide (ds.length = 3)
  | _ => false
theorem e_row {P : List Fn} {f : Nat} (hf : P[f]? = some isRowFn) (n : Nat) {d : D} (s : St) (h : kk d = true) : callF P (n + 1) f [d, .int 3] s = .ok (.bl (row3 d)) s := by
  refine eq_of_wp ?_
  rw [callF_eq (fn := isRowFn) hf rfl, WP_back]
  show WS (exB _ isRowFn.body [some d, some (.int 3)] s) _ _
  simp -implicitDefEqProofs only [exB_cons, exB_nil, exS_expr, exS_set, exS_setSub, exS_fz, exS_ife, exS_ret, exS_pass, den_nop, den_c, den_v, den_bin, den_neg, den_cmp, den_chain, den_and, den_or, den_not, den_ite, den_tup, den_lst, den_sub, den_rev, den_callv, exS_raise, exS_tryR, den_sl, den_call, den_blt, den_meth, denL_nil, denL_cons, WS_seq, WS_toS, WS_nx, WS_rt, WS_asB, WS_ite, WP_bind, WP_ok, WP_asB, WP_ite, bindP, setAll, List.set_cons_zero, List.set_cons_succ, List.getElem?_cons_zero, List.getElem?_cons_succ, decide_true, decide_false, if_true, if_false, Bool.false_eq_true, Bool.not_true, Bool.not_false, isNop, partR, o_add, o_sub, o_lt, o_le, o_gt, o_ge, o_eqi, o_nei, o_eqs, o_nes, o_in, o_notin, o_lent, o_lenl, o_lenc, o_abs, o_min, o_max, o_tupl, o_tupt, o_sll, fin_f, isRowFn, o_isin h, isT_kk h]
  cases d <;> first | (cases h; done) | skip
  case tup ds =>
    have e1 : isT [] 3 (.tup ds) = true := rfl
    simp -implicitDefEqProofs only [exB_cons, exB_nil, exS_expr, exS_set, exS_setSub, exS_fz, exS_ife, exS_ret, exS_pass, den_nop, den_c, den_v, den_bin, den_neg, den_cmp, den_chain, den_and, den_or, den_not, den_ite, den_tup, den_lst, den_sub, den_rev, den_callv, exS_raise, exS_tryR, den_sl, den_call, den_blt, den_meth, denL_nil, denL_cons, WS_seq, WS_toS, WS_nx, WS_rt, WS_asB, WS_ite, WP_bind, WP_ok, WP_asB, WP_ite, bindP, setAll, List.set_cons_zero, List.set_cons_succ, List.getElem?_cons_zero, List.getElem?_cons_succ, decide_true, decide_false, if_true, if_false, Bool.false_eq_true, Bool.not_true, Bool.not_false, isNop, partR, o_add, o_sub, o_lt, o_le, o_gt, o_ge, o_eqi, o_nei, o_eqs, o_nes, o_in, o_notin, o_lent, o_lenl, o_lenc, o_abs, o_min, o_max, o_tupl, o_tupt, o_sll, fin_f, e1]
    refine ⟨?_, by simp [D.top]⟩
    congr 1
    have : ((ds.length : Int) == 3) = decide (ds.length = 3) := by
      by_cases c : ds.length = 3
      · simp [c]
      · have : ((ds.length : Int) == 3) = false := by rw [beq_eq_false_iff_ne]; omega
        simp [c, this]
    exact this
  all_goals simp [isT, rd, row3, D.top, WP_ok]
def okD (d : D) : Bool := ok1 d && (match d with
  | .tup ds => ds.all ok1
  | _ => true)
theorem okD_1 {d : D} (h : okD d = true) : ok1 d = true := by unfold okD at h; simp only [Bool.and_eq_true] at h; exact h.1
theorem okD_t {ds : List D} (h : okD (.tup ds) = true) : ∀ d ∈ ds, ok1 d = true := by
  unfold okD at h
  simp only [Bool.and_eq_true] at h
  exact List.all_eq_true.mp h.2
def isId : D → Bool
  | .tup [a, b, c] => below a 8 && (isName b && below c 1000001)
  | _ => false
theorem row3_of {ds : List D} (h : row3 (.tup ds) = true) : ∃ a b c, ds = [a, b, c] := by
  unfold row3 at h
  rw [decide_eq_true_eq] at h
  match ds, h with
  | [a, b, c], _ => exact ⟨a, b, c, rfl⟩
theorem row3_no {d : D} (h : row3 d = false) : isId d = false := by
  cases d with
  | tup ds =>
    match ds, h with
    | [], _ => rfl
    | [_], _ => rfl
    | [_, _], _ => rfl
    | [_, _, _], h => simp [row3] at h
    | _ :: _ :: _ :: _ :: _, _ => rfl
  | _ => rfl
theorem e_id {P : List Fn} {f w b r hh m c w2 : Nat} (hf : P[f]? = some (isIdFn r hh m c)) (hr : P[r]? = some isRowFn) (hhh : P[hh]? = some (isHandFn b)) (hm : P[m]? = some (isNameFn w2)) (hw2 : P[w2]? = some isWordFn) (hc : P[c]? = some (isCountFn b)) (hb : P[b]? = some (isBelowFn w)) (hw : P[w]? = some isWholeFn) (n : Nat) {d : D} (s : St) (h : okD d = true) : callF P (n + 4) f [d] s = .ok (.bl (isId d)) s := by
  refine eq_of_wp ?_
  rw [callF_eq (fn := (isIdFn r hh m c)) hf rfl, WP_back]
  show WS (exB _ (isIdFn r hh m c).body [some d] s) _ _
  have hk := ok1_kk (okD_1 h)
  simp -implicitDefEqProofs only [exB_cons, exB_nil, exS_expr, exS_set, exS_setSub, exS_fz, exS_ife, exS_ret, exS_pass, den_nop, den_c, den_v, den_bin, den_neg, den_cmp, den_chain, den_and, den_or, den_not, den_ite, den_tup, den_lst, den_sub, den_rev, den_callv, exS_raise, exS_tryR, den_sl, den_call, den_blt, den_meth, denL_nil, denL_cons, WS_seq, WS_toS, WS_nx, WS_rt, WS_asB, WS_ite, WP_bind, WP_ok, WP_asB, WP_ite, bindP, setAll, List.set_cons_zero, List.set_cons_succ, List.getElem?_cons_zero, List.getElem?_cons_succ, decide_true, decide_false, if_true, if_false, Bool.false_eq_true, Bool.not_true, Bool.not_false, isNop, partR, o_add, o_sub, o_lt, o_le, o_gt, o_ge, o_eqi, o_nei, o_eqs, o_nes, o_in, o_notin, o_lent, o_lenl, o_lenc, o_abs, o_min, o_max, o_tupl, o_tupt, o_sll, fin_f, isIdFn]
  rw [show n + 3 = (n + 2) + 1 from rfl, e_row hr (n + 2) s hk]
  simp -implicitDefEqProofs only [exB_cons, exB_nil, exS_expr, exS_set, exS_setSub, exS_fz, exS_ife, exS_ret, exS_pass, den_nop, den_c, den_v, den_bin, den_neg, den_cmp, den_chain, den_and, den_or, den_not, den_ite, den_tup, den_lst, den_sub, den_rev, den_callv, exS_raise, exS_tryR, den_sl, den_call, den_blt, den_meth, denL_nil, denL_cons, WS_seq, WS_toS, WS_nx, WS_rt, WS_asB, WS_ite, WP_bind, WP_ok, WP_asB, WP_ite, bindP, setAll, List.set_cons_zero, List.set_cons_succ, List.getElem?_cons_zero, List.getElem?_cons_succ, decide_true, decide_false, if_true, if_false, Bool.false_eq_true, Bool.not_true, Bool.not_false, isNop, partR, o_add, o_sub, o_lt, o_le, o_gt, o_ge, o_eqi, o_nei, o_eqs, o_nes, o_in, o_notin, o_lent, o_lenl, o_lenc, o_abs, o_min, o_max, o_tupl, o_tupt, o_sll, fin_f]
  cases hr3 : row3 d with
  | false => simp [row3_no hr3, WP_ok, D.top]
  | true =>
    cases d <;> first | (cases hr3; done) | skip
    rename_i ds
    obtain ⟨a, b, c, rfl⟩ := row3_of hr3
    have ha := okD_t h a (by simp)
    have hb1 := okD_t h b (by simp)
    have hc1 := okD_t h c (by simp)
    have i0 : subD (.tup [a, b, c]) (.int 0) s = .ok a s := rfl
    have i1 : subD (.tup [a, b, c]) (.int 1) s = .ok b s := rfl
    have i2 : subD (.tup [a, b, c]) (.int 2) s = .ok c s := rfl
    simp -implicitDefEqProofs only [exB_cons, exB_nil, exS_expr, exS_set, exS_setSub, exS_fz, exS_ife, exS_ret, exS_pass, den_nop, den_c, den_v, den_bin, den_neg, den_cmp, den_chain, den_and, den_or, den_not, den_ite, den_tup, den_lst, den_sub, den_rev, den_callv, exS_raise, exS_tryR, den_sl, den_call, den_blt, den_meth, denL_nil, denL_cons, WS_seq, WS_toS, WS_nx, WS_rt, WS_asB, WS_ite, WP_bind, WP_ok, WP_asB, WP_ite, bindP, setAll, List.set_cons_zero, List.set_cons_succ, List.getElem?_cons_zero, List.getElem?_cons_succ, decide_true, decide_false, if_true, if_false, Bool.false_eq_true, Bool.not_true, Bool.not_false, isNop, partR, o_add, o_sub, o_lt, o_le, o_gt, o_ge, o_eqi, o_nei, o_eqs, o_nes, o_in, o_notin, o_lent, o_lenl, o_lenc, o_abs, o_min, o_max, o_tupl, o_tupt, o_sll, fin_f, i0]
    rw [show n + 2 + 1 = n + 3 from rfl, e_hand hhh hb hw n s (ok1_kk ha)]
    simp -implicitDefEqProofs only [exB_cons, exB_nil, exS_expr, exS_set, exS_setSub, exS_fz, exS_ife, exS_ret, exS_pass, den_nop, den_c, den_v, den_bin, den_neg, den_cmp, den_chain, den_and, den_or, den_not, den_ite, den_tup, den_lst, den_sub, den_rev, den_callv, exS_raise, exS_tryR, den_sl, den_call, den_blt, den_meth, denL_nil, denL_cons, WS_seq, WS_toS, WS_nx, WS_rt, WS_asB, WS_ite, WP_bind, WP_ok, WP_asB, WP_ite, bindP, setAll, List.set_cons_zero, List.set_cons_succ, List.getElem?_cons_zero, List.getElem?_cons_succ, decide_true, decide_false, if_true, if_false, Bool.false_eq_true, Bool.not_true, Bool.not_false, isNop, partR, o_add, o_sub, o_lt, o_le, o_gt, o_ge, o_eqi, o_nei, o_eqs, o_nes, o_in, o_notin, o_lent, o_lenl, o_lenc, o_abs, o_min, o_max, o_tupl, o_tupt, o_sll, fin_f]
    cases q0 : below a 8
    · simp [isId, q0, WP_ok, D.top]
    · simp -implicitDefEqProofs only [exB_cons, exB_nil, exS_expr, exS_set, exS_setSub, exS_fz, exS_ife, exS_ret, exS_pass, den_nop, den_c, den_v, den_bin, den_neg, den_cmp, den_chain, den_and, den_or, den_not, den_ite, den_tup, den_lst, den_sub, den_rev, den_callv, exS_raise, exS_tryR, den_sl, den_call, den_blt, den_meth, denL_nil, denL_cons, WS_seq, WS_toS, WS_nx, WS_rt, WS_asB, WS_ite, WP_bind, WP_ok, WP_asB, WP_ite, bindP, setAll, List.set_cons_zero, List.set_cons_succ, List.getElem?_cons_zero, List.getElem?_cons_succ, decide_true, decide_false, if_true, if_false, Bool.false_eq_true, Bool.not_true, Bool.not_false, isNop, partR, o_add, o_sub, o_lt, o_le, o_gt, o_ge, o_eqi, o_nei, o_eqs, o_nes, o_in, o_notin, o_lent, o_lenl, o_lenc, o_abs, o_min, o_max, o_tupl, o_tupt, o_sll, fin_f, i1]
      rw [show n + 3 = (n + 1) + 2 from rfl, e_name hm hw2 (n + 1) s hb1]
      simp -implicitDefEqProofs only [exB_cons, exB_nil, exS_expr, exS_set, exS_setSub, exS_fz, exS_ife, exS_ret, exS_pass, den_nop, den_c, den_v, den_bin, den_neg, den_cmp, den_chain, den_and, den_or, den_not, den_ite, den_tup, den_lst, den_sub, den_rev, den_callv, exS_raise, exS_tryR, den_sl, den_call, den_blt, den_meth, denL_nil, denL_cons, WS_seq, WS_toS, WS_nx, WS_rt, WS_asB, WS_ite, WP_bind, WP_ok, WP_asB, WP_ite, bindP, setAll, List.set_cons_zero, List.set_cons_succ, List.getElem?_cons_zero, List.getElem?_cons_succ, decide_true, decide_false, if_true, if_false, Bool.false_eq_true, Bool.not_true, Bool.not_false, isNop, partR, o_add, o_sub, o_lt, o_le, o_gt, o_ge, o_eqi, o_nei, o_eqs, o_nes, o_in, o_notin, o_lent, o_lenl, o_lenc, o_abs, o_min, o_max, o_tupl, o_tupt, o_sll, fin_f]
      cases q1 : isName b
      · simp [isId, q0, q1, WP_ok, D.top]
      · simp -implicitDefEqProofs only [exB_cons, exB_nil, exS_expr, exS_set, exS_setSub, exS_fz, exS_ife, exS_ret, exS_pass, den_nop, den_c, den_v, den_bin, den_neg, den_cmp, den_chain, den_and, den_or, den_not, den_ite, den_tup, den_lst, den_sub, den_rev, den_callv, exS_raise, exS_tryR, den_sl, den_call, den_blt, den_meth, denL_nil, denL_cons, WS_seq, WS_toS, WS_nx, WS_rt, WS_asB, WS_ite, WP_bind, WP_ok, WP_asB, WP_ite, bindP, setAll, List.set_cons_zero, List.set_cons_succ, List.getElem?_cons_zero, List.getElem?_cons_succ, decide_true, decide_false, if_true, if_false, Bool.false_eq_true, Bool.not_true, Bool.not_false, isNop, partR, o_add, o_sub, o_lt, o_le, o_gt, o_ge, o_eqi, o_nei, o_eqs, o_nes, o_in, o_notin, o_lent, o_lenl, o_lenc, o_abs, o_min, o_max, o_tupl, o_tupt, o_sll, fin_f, i2]
        rw [show n + 1 + 2 = n + 3 from rfl, e_count hc hb hw n s (ok1_kk hc1)]
        simp [isId, q0, q1, WP_ok, D.top]
/-- 10 ** 6, 10 ** 9 -/
theorem cP6 {s : St} {t : Bool} : binD .pow t (.int 10) (.int 6) s = .ok (.int 1000000) s := by simp only [binD, rd]; rw [if_pos (by decide +kernel)]; rfl
theorem cP9 {s : St} {t : Bool} : binD .pow t (.int 10) (.int 9) s = .ok (.int 1000000000) s := by simp only [binD, rd]; rw [if_pos (by decide +kernel)]; rfl
end Fk

set_option Elab.async false
set_option linter.all false
set_option autoImplicit false
set_option maxRecDepth 100000
set_option maxHeartbeats 0
namespace Lw_k37
open PySem PySem.Spec PyProof.Rows L2 Fk L3
abbrev lawProg : PySem.Program := PySem.Challenge.pw_forkrolls_k37_forms_of_deeds
def top (i : Nat) : Stmt := lawProg.main.body.getD i (.Pass ⟨0, 0, 0, 0⟩)
def tab : Tab := { fns := ((["is_whole", "is_below", "is_row", "is_word", "is_name", "is_key", "is_value", "is_hand", "is_kind", "is_count", "is_id", "are_rising", "is_value_or_none", "are_cells", "is_deed", "_law_pot"] : List PySem.Str) ++ (["_law_take", "_law_whole", "_law_word", "_law_words", "_law_value", "_law_is_word", "_law_is_name", "_law_between", "_law_is_value", "_law_is_id", "_law_are_cells", "_law_is_part", "_law_forms", "_law_due", "_law_id", "_law_cells"] : List PySem.Str) ++ (["_law_part", "_law_good", "_law_odds", "_law_bent", "law"] : List PySem.Str)), excs := ([] : List PySem.Str), consts := [("BARRED", .str [107, 101, 121]), ("FAR", .int 1000000000), ("HANDS", .int 8), ("KINDS", .tup [.str [110, 117, 109, 98, 101, 114], .str [119, 111, 114, 100], .str [97, 110, 121]]), ("LETTERS", .str [97, 98, 99, 100, 101, 102, 103, 104, 105, 106, 107, 108, 109, 110, 111, 112, 113, 114, 115, 116, 117, 118, 119, 120, 121, 122]), ("MOST_CELLS", .int 6), ("MOST_COUNT", .int 1000000), ("MOST_LETTERS", .int 8)], blts := ((["abs", "all", "bool", "int", "isinstance", "len", "list", "max", "min", "range", "sorted", "str", "tuple", "zip"] : List PySem.Str)), tabs := [("FORMS", [([116, 97, 98, 108, 101], .tup [.fn 4]), ([99, 111, 108, 117, 109, 110], .tup [.fn 4, .fn 4, .fn 8, .fn 12]), ([99, 97, 108, 108], .tup [.fn 4, .fn 10, .fn 4]), ([107, 105, 110, 100], .tup [.fn 4, .fn 10, .fn 8]), ([101, 108, 115, 101], .tup [.fn 4, .fn 10, .fn 12]), ([112, 117, 116], .tup [.fn 4, .fn 5, .fn 13]), ([98, 108, 97, 110, 107], .tup [.fn 4, .fn 5, .fn 10]), ([100, 114, 111, 112], .tup [.fn 4, .fn 5]), ([108, 101, 97, 118, 101], .tup [.fn 4, .fn 10]), ([101, 110, 100], .tup [.fn 4]), ([117, 110, 100, 111], .tup [.fn 4, .fn 7, .fn 4, .fn 9])])], subs := [] }
def fn0 : Fk.Fn := ⟨1, 1, [.ret (.and (.blt (.isinst 0) false [.v 0, .c (.ty 0)]) (.not (.blt (.isinst 1) false [.v 0, .c (.ty 1)])))]⟩
def fn1 : Fk.Fn := ⟨2, 2, [.ret (.and (.call 0 [.v 0]) (.chain .le .lt (.c (.int 0)) (.v 0) (.v 1)))]⟩
def fn2 : Fk.Fn := ⟨2, 2, [.ret (.and (.blt (.isinst 3) false [.v 0, .c (.ty 3)]) (.cmp .eq (.blt .len false [.v 0]) (.v 1)))]⟩
def fn3 : Fk.Fn := ⟨1, 2, [.ife (.or (.not (.blt (.isinst 2) false [.v 0, .c (.ty 2)])) (.not (.chain .le .le (.c (.int 1)) (.blt .len false [.v 0]) (.c (.int 8))))) [.ret (.c (.bl false))] [], .ret (.blt .all false [.lc (.cmp .isin (.v 1) (.c (.str [97, 98, 99, 100, 101, 102, 103, 104, 105, 106, 107, 108, 109, 110, 111, 112, 113, 114, 115, 116, 117, 118, 119, 120, 121, 122]))) (.s 1) .val [.v 0] (.c (.bl true))])]⟩
def fn4 : Fk.Fn := ⟨1, 1, [.ret (.and (.call 3 [.v 0]) (.cmp .ne (.v 0) (.c (.str [107, 101, 121]))))]⟩
def fn5 : Fk.Fn := ⟨1, 1, [.ret (.call 1 [.v 0, .bin .add false (.c (.int 1000000000)) (.c (.int 1))])]⟩
def fn6 : Fk.Fn := ⟨1, 1, [.ret (.or (.call 3 [.v 0]) (.and (.call 0 [.v 0]) (.chain .le .le (.neg (.c (.int 1000000000))) (.v 0) (.c (.int 1000000000)))))]⟩
def fn7 : Fk.Fn := ⟨1, 1, [.ret (.call 1 [.v 0, .c (.int 8)])]⟩
def fn8 : Fk.Fn := ⟨1, 1, [.ret (.and (.blt (.isinst 2) false [.v 0, .c (.ty 2)]) (.cmp .isin (.v 0) (.c (.tup [.str [110, 117, 109, 98, 101, 114], .str [119, 111, 114, 100], .str [97, 110, 121]]))))]⟩
def fn9 : Fk.Fn := ⟨1, 1, [.ret (.call 1 [.v 0, .bin .add false (.c (.int 1000000)) (.c (.int 1))])]⟩
def fn10 : Fk.Fn := ⟨1, 1, [.ret (.and (.call 2 [.v 0, .c (.int 3)]) (.and (.call 7 [.sub (.v 0) (.c (.int 0))]) (.and (.call 4 [.sub (.v 0) (.c (.int 1))]) (.call 9 [.sub (.v 0) (.c (.int 2))]))))]⟩
def fn11 : Fk.Fn := ⟨1, 3, [.ret (.blt .all false [.lc (.cmp .lt (.v 1) (.v 2)) (.t [1, 2]) .zip [.v 0, .sl false (.v 0) (.c (.int 1)) (.nop)] (.c (.bl true))])]⟩
def fn12 : Fk.Fn := ⟨1, 1, [.ret (.or (.cmp .is_ (.v 0) (.c (.none))) (.call 6 [.v 0]))]⟩
def fn13 : Fk.Fn := ⟨1, 2, [.ife (.or (.not (.blt (.isinst 3) false [.v 0, .c (.ty 3)])) (.cmp .gt (.blt .len false [.v 0]) (.c (.int 6)))) [.ret (.c (.bl false))] [], .ife (.not (.blt .all false [.lc (.and (.call 2 [.v 1, .c (.int 2)]) (.and (.call 10 [.sub (.v 1) (.c (.int 0))]) (.call 6 [.sub (.v 1) (.c (.int 1))]))) (.s 1) .val [.v 0] (.c (.bl true))])) [.ret (.c (.bl false))] [], .ret (.call 11 [.lc (.sub (.v 1) (.c (.int 0))) (.s 1) .val [.v 0] (.c (.bl true))])]⟩
def fn14 : Fk.Fn := ⟨1, 5, [.ife (.or (.not (.blt (.isinst 3) false [.v 0, .c (.ty 3)])) (.or (.cmp .eq (.blt .len false [.v 0]) (.c (.int 0))) (.or (.not (.blt (.isinst 2) false [.sub (.v 0) (.c (.int 0)), .c (.ty 2)])) (.cmp .notin (.sub (.v 0) (.c (.int 0))) (.c (.tab [[116, 97, 98, 108, 101], [99, 111, 108, 117, 109, 110], [99, 97, 108, 108], [107, 105, 110, 100], [101, 108, 115, 101], [112, 117, 116], [98, 108, 97, 110, 107], [100, 114, 111, 112], [108, 101, 97, 118, 101], [101, 110, 100], [117, 110, 100, 111]] [.tup [.fn 4], .tup [.fn 4, .fn 4, .fn 8, .fn 12], .tup [.fn 4, .fn 10, .fn 4], .tup [.fn 4, .fn 10, .fn 8], .tup [.fn 4, .fn 10, .fn 12], .tup [.fn 4, .fn 5, .fn 13], .tup [.fn 4, .fn 5, .fn 10], .tup [.fn 4, .fn 5], .tup [.fn 4, .fn 10], .tup [.fn 4], .tup [.fn 4, .fn 7, .fn 4, .fn 9]])))))) [.ret (.c (.bl false))] [], .set (.st [1] 4) (.v 0), .ife (.cmp .ne (.blt .len false [.v 4]) (.blt .len false [.sub (.c (.tab [[116, 97, 98, 108, 101], [99, 111, 108, 117, 109, 110], [99, 97, 108, 108], [107, 105, 110, 100], [101, 108, 115, 101], [112, 117, 116], [98, 108, 97, 110, 107], [100, 114, 111, 112], [108, 101, 97, 118, 101], [101, 110, 100], [117, 110, 100, 111]] [.tup [.fn 4], .tup [.fn 4, .fn 4, .fn 8, .fn 12], .tup [.fn 4, .fn 10, .fn 4], .tup [.fn 4, .fn 10, .fn 8], .tup [.fn 4, .fn 10, .fn 12], .tup [.fn 4, .fn 5, .fn 13], .tup [.fn 4, .fn 5, .fn 10], .tup [.fn 4, .fn 5], .tup [.fn 4, .fn 10], .tup [.fn 4], .tup [.fn 4, .fn 7, .fn 4, .fn 9]])) (.v 1)])) [.ret (.c (.bl false))] [], .forr (.t [2, 3]) .zip [.sub (.c (.tab [[116, 97, 98, 108, 101], [99, 111, 108, 117, 109, 110], [99, 97, 108, 108], [107, 105, 110, 100], [101, 108, 115, 101], [112, 117, 116], [98, 108, 97, 110, 107], [100, 114, 111, 112], [108, 101, 97, 118, 101], [101, 110, 100], [117, 110, 100, 111]] [.tup [.fn 4], .tup [.fn 4, .fn 4, .fn 8, .fn 12], .tup [.fn 4, .fn 10, .fn 4], .tup [.fn 4, .fn 10, .fn 8], .tup [.fn 4, .fn 10, .fn 12], .tup [.fn 4, .fn 5, .fn 13], .tup [.fn 4, .fn 5, .fn 10], .tup [.fn 4, .fn 5], .tup [.fn 4, .fn 10], .tup [.fn 4], .tup [.fn 4, .fn 7, .fn 4, .fn 9]])) (.v 1), .v 4] [.ife (.not (.callv 2 [.v 3])) [.ret (.c (.bl false))] []], .ret (.c (.bl true))]⟩
def fn15 : Fk.Fn := ⟨2, 3, [.set (.s 2) (.c (.int 0)), .ife (.cmp .lt (.v 1) (.blt .len false [.v 0])) [.set (.s 2) (.bin .mod false (.blt .abs false [.sub (.v 0) (.v 1)]) (.bin .pow false (.bin .pow false (.c (.int 10)) (.c (.int 60))) (.c (.int 10))))] [], .ret (.lst true [.bin .mul false (.v 2) (.blt .int_ false [.cmp .ge (.v 2) (.bin .pow false (.c (.int 10)) (.c (.int 18)))]), .bin .mod false (.bin .pow false (.bin .add false (.bin .add false (.bin .mod false (.v 2) (.c (.int 2147483629))) (.bin .mul false (.c (.int 7919)) (.v 1))) (.c (.int 1))) (.c (.int 5))) (.c (.int 2305843009213693951)), .c (.int 0)])]⟩
def fn16 : Fk.Fn := ⟨2, 5, [.ife (.cmp .gt (.sub (.v 0) (.c (.int 0))) (.c (.int 0))) [.set (.s 4) (.bin .mod false (.sub (.v 0) (.c (.int 0))) (.v 1)), .setSub (.v 0) (.c (.int 0)) (.bin .fdiv false (.sub (.v 0) (.c (.int 0))) (.v 1)), .ret (.v 4)] [], .setSub (.v 0) (.c (.int 2)) (.bin .add false (.sub (.v 0) (.c (.int 2))) (.c (.int 1))), .set (.s 2) (.bin .mod false (.bin .pow false (.bin .add false (.sub (.v 0) (.c (.int 1))) (.bin .mul false (.c (.int 104729)) (.sub (.v 0) (.c (.int 2))))) (.c (.int 3))) (.c (.int 2305843009213693921))), .set (.s 3) (.bin .mod false (.bin .pow false (.bin .add false (.bin .add false (.v 2) (.bin .mod false (.sub (.v 0) (.c (.int 1))) (.c (.int 65537)))) (.bin .mul false (.c (.int 31)) (.sub (.v 0) (.c (.int 2))))) (.c (.int 5))) (.c (.int 2305843009213693907))), .ret (.bin .mod false (.bin .fdiv false (.v 3) (.c (.int 1024))) (.v 1))]⟩
def fn17 : Fk.Fn := ⟨1, 1, [.ret (.and (.blt (.isinst 0) false [.v 0, .c (.ty 0)]) (.not (.blt (.isinst 1) false [.v 0, .c (.ty 1)])))]⟩
def fn18 : Fk.Fn := ⟨1, 4, [.set (.s 1) (.sub (.lst false [.c (.int 1), .c (.int 2), .bin .add false (.c (.int 1)) (.call 16 [.v 0, .c (.int 8)])]) (.call 16 [.v 0, .c (.int 3)])), .set (.s 2) (.meth .join (.c (.str [])) [.lc (.sub (.c (.str [97, 98, 99, 100, 101, 102, 103, 104, 105, 106, 107, 108, 109, 110, 111, 112, 113, 114, 115, 116, 117, 118, 119, 120, 121, 122])) (.call 16 [.v 0, .c (.int 26)])) (.s 3) .range1 [.v 1] (.c (.bl true))]), .ret (.ite (.cmp .eq (.v 2) (.c (.str [107, 101, 121]))) (.c (.str [107, 101, 121, 115])) (.v 2))]⟩
def fn19 : Fk.Fn := ⟨2, 6, [.set (.s 2) (.lst true []), .forr (.s 3) .range1 [.v 1] [.set (.s 4) (.call 18 [.v 0]), .forr (.s 5) .range1 [.v 1] [.ife (.cmp .isin (.v 4) (.v 2)) [.set (.s 4) (.sl false (.bin .add false (.v 4) (.sub (.c (.str [120, 121, 122, 119, 118, 117, 116, 115])) (.bin .mod false (.v 5) (.c (.int 8))))) (.neg (.c (.int 8))) (.nop))] []], .app (.v 2) (.v 4)], .fz 2, .ret (.v 2)]⟩
def fn20 : Fk.Fn := ⟨1, 2, [.set (.s 1) (.call 16 [.v 0, .c (.int 4)]), .ife (.cmp .lt (.v 1) (.c (.int 2))) [.ret (.call 16 [.v 0, .c (.int 4)])] [], .ife (.cmp .eq (.v 1) (.c (.int 2))) [.ret (.bin .sub false (.call 16 [.v 0, .bin .add false (.bin .mul false (.c (.int 2)) (.bin .pow false (.c (.int 10)) (.c (.int 9)))) (.c (.int 1))]) (.bin .pow false (.c (.int 10)) (.c (.int 9))))] [], .ret (.call 18 [.v 0])]⟩
def fn21 : Fk.Fn := ⟨1, 2, [.ife (.or (.not (.blt (.isinst 2) false [.v 0, .c (.ty 2)])) (.not (.chain .le .le (.c (.int 1)) (.blt .len false [.v 0]) (.c (.int 8))))) [.ret (.c (.bl false))] [], .ret (.cmp .eq (.lc (.c (.int 1)) (.s 1) .val [.v 0] (.cmp .notin (.v 1) (.c (.str [97, 98, 99, 100, 101, 102, 103, 104, 105, 106, 107, 108, 109, 110, 111, 112, 113, 114, 115, 116, 117, 118, 119, 120, 121, 122])))) (.lst false []))]⟩
def fn22 : Fk.Fn := ⟨1, 1, [.ret (.and (.call 21 [.v 0]) (.cmp .ne (.v 0) (.c (.str [107, 101, 121]))))]⟩
def fn23 : Fk.Fn := ⟨3, 3, [.ret (.and (.call 17 [.v 0]) (.chain .le .le (.v 1) (.v 0) (.v 2)))]⟩
def fn24 : Fk.Fn := ⟨1, 1, [.ret (.or (.call 21 [.v 0]) (.call 23 [.v 0, .neg (.bin .pow false (.c (.int 10)) (.c (.int 9))), .bin .pow false (.c (.int 10)) (.c (.int 9))]))]⟩
def fn25 : Fk.Fn := ⟨1, 1, [.ife (.or (.not (.blt (.isinst 3) false [.v 0, .c (.ty 3)])) (.cmp .ne (.blt .len false [.v 0]) (.c (.int 3)))) [.ret (.c (.bl false))] [], .ret (.and (.call 23 [.sub (.v 0) (.c (.int 0)), .c (.int 0), .c (.int 7)]) (.and (.call 22 [.sub (.v 0) (.c (.int 1))]) (.call 23 [.sub (.v 0) (.c (.int 2)), .c (.int 0), .bin .pow false (.c (.int 10)) (.c (.int 6))])))]⟩
def fn26 : Fk.Fn := ⟨1, 4, [.ife (.or (.not (.blt (.isinst 3) false [.v 0, .c (.ty 3)])) (.cmp .gt (.blt .len false [.v 0]) (.c (.int 6)))) [.ret (.c (.bl false))] [], .forr (.s 1) .val [.v 0] [.ife (.or (.not (.blt (.isinst 3) false [.v 1, .c (.ty 3)])) (.or (.cmp .ne (.blt .len false [.v 1]) (.c (.int 2))) (.or (.not (.call 25 [.sub (.v 1) (.c (.int 0))])) (.not (.call 24 [.sub (.v 1) (.c (.int 1))]))))) [.ret (.c (.bl false))] []], .ret (.cmp .eq (.lc (.c (.int 1)) (.t [2, 3]) .zip [.v 0, .sl false (.v 0) (.c (.int 1)) (.nop)] (.not (.cmp .lt (.sub (.v 2) (.c (.int 0))) (.sub (.v 3) (.c (.int 0)))))) (.lst false []))]⟩
def fn27 : Fk.Fn := ⟨2, 2, [.ife (.cmp .eq (.v 0) (.c (.str [110]))) [.ret (.call 22 [.v 1])] [], .ife (.cmp .eq (.v 0) (.c (.str [105]))) [.ret (.call 25 [.v 1])] [], .ife (.cmp .eq (.v 0) (.c (.str [116]))) [.ret (.and (.blt (.isinst 2) false [.v 1, .c (.ty 2)]) (.cmp .isin (.v 1) (.tup [.c (.str [110, 117, 109, 98, 101, 114]), .c (.str [119, 111, 114, 100]), .c (.str [97, 110, 121])])))] [], .ife (.cmp .eq (.v 0) (.c (.str [118]))) [.ret (.or (.cmp .is_ (.v 1) (.c (.none))) (.call 24 [.v 1]))] [], .ife (.cmp .eq (.v 0) (.c (.str [99]))) [.ret (.call 26 [.v 1])] [], .ret (.call 23 [.v 1, .c (.int 0), .sub (.dic false [.c (.str [107]), .bin .pow false (.c (.int 10)) (.c (.int 9)), .c (.str [104]), .c (.int 7), .c (.str [109]), .bin .pow false (.c (.int 10)) (.c (.int 6))]) (.v 0)])]⟩
def fn28 : Fk.Fn := ⟨0, 1, [.set (.s 0) (.dic true [.c (.str [116, 97, 98, 108, 101]), .c (.str [110]), .c (.str [99, 111, 108, 117, 109, 110]), .c (.str [110, 110, 116, 118]), .c (.str [99, 97, 108, 108]), .c (.str [110, 105, 110]), .c (.str [107, 105, 110, 100]), .c (.str [110, 105, 116]), .c (.str [101, 108, 115, 101]), .c (.str [110, 105, 118]), .c (.str [112, 117, 116]), .c (.str [110, 107, 99]), .c (.str [98, 108, 97, 110, 107]), .c (.str [110, 107, 105])]), .upd (.v 0) (.dic false [.c (.str [100, 114, 111, 112]), .c (.str [110, 107]), .c (.str [108, 101, 97, 118, 101]), .c (.str [110, 105]), .c (.str [101, 110, 100]), .c (.str [110]), .c (.str [117, 110, 100, 111]), .c (.str [110, 104, 110, 109])]), .fz 0, .ret (.v 0)]⟩
def fn29 : Fk.Fn := ⟨1, 4, [.ife (.or (.not (.blt (.isinst 3) false [.v 0, .c (.ty 3)])) (.or (.cmp .eq (.v 0) (.tup [])) (.or (.not (.blt (.isinst 2) false [.sub (.v 0) (.c (.int 0)), .c (.ty 2)])) (.cmp .notin (.sub (.v 0) (.c (.int 0))) (.call 28 []))))) [.ret (.c (.bl false))] [], .set (.s 1) (.sub (.call 28 []) (.sub (.v 0) (.c (.int 0)))), .ife (.cmp .ne (.blt .len false [.v 0]) (.bin .add false (.c (.int 1)) (.blt .len false [.v 1]))) [.ret (.c (.bl false))] [], .ret (.cmp .notin (.c (.bl false)) (.lc (.call 27 [.v 2, .v 3]) (.t [2, 3]) .zip [.v 1, .sl false (.v 0) (.c (.int 1)) (.nop)] (.c (.bl true))))]⟩
def fn30 : Fk.Fn := ⟨1, 3, [.par 1 2 (.lst false [.c (.int 0), .c (.int 7), .call 16 [.v 0, .c (.int 8)]]) (.lst false [.c (.int 0), .bin .pow false (.c (.int 10)) (.c (.int 6)), .call 16 [.v 0, .c (.int 99)]]), .ret (.tup [.sub (.v 1) (.call 16 [.v 0, .c (.int 3)]), .call 18 [.v 0], .sub (.v 2) (.call 16 [.v 0, .c (.int 3)])])]⟩
def fn31 : Fk.Fn := ⟨1, 4, [.set (.s 1) (.dic true []), .forr (.s 2) .range1 [.call 16 [.v 0, .c (.int 7)]] [.setSub (.v 1) (.call 30 [.v 0]) (.sub (.lst false [.bin .pow false (.c (.int 10)) (.c (.int 9)), .neg (.bin .pow false (.c (.int 10)) (.c (.int 9))), .call 20 [.v 0], .call 20 [.v 0]]) (.call 16 [.v 0, .c (.int 4)]))], .fz 1, .ret (.blt .tuple_ false [.lc (.tup [.v 3, .sub (.v 1) (.v 3)]) (.s 3) .val [.blt .sorted false [.v 1]] (.c (.bl true))])]⟩
def fn32 : Fk.Fn := ⟨2, 3, [.ife (.cmp .eq (.v 1) (.c (.str [110]))) [.ret (.call 18 [.v 0])] [], .ife (.cmp .eq (.v 1) (.c (.str [105]))) [.ret (.call 30 [.v 0])] [], .ife (.cmp .eq (.v 1) (.c (.str [116]))) [.ret (.sub (.lst false [.c (.str [110, 117, 109, 98, 101, 114]), .c (.str [119, 111, 114, 100]), .c (.str [97, 110, 121])]) (.call 16 [.v 0, .c (.int 3)]))] [], .ife (.cmp .eq (.v 1) (.c (.str [118]))) [.ret (.sub (.lst false [.c (.none), .c (.str [107, 101, 121]), .neg (.bin .pow false (.c (.int 10)) (.c (.int 9))), .bin .pow false (.c (.int 10)) (.c (.int 9)), .call 20 [.v 0]]) (.call 16 [.v 0, .c (.int 5)]))] [], .ife (.cmp .eq (.v 1) (.c (.str [99]))) [.ret (.call 31 [.v 0])] [], .set (.s 2) (.sub (.dic false [.c (.str [107]), .bin .pow false (.c (.int 10)) (.c (.int 9)), .c (.str [104]), .c (.int 7), .c (.str [109]), .bin .pow false (.c (.int 10)) (.c (.int 6))]) (.v 1)), .ret (.sub (.lst false [.c (.int 0), .v 2, .call 16 [.v 0, .bin .add false (.v 2) (.c (.int 1))]]) (.call 16 [.v 0, .c (.int 3)]))]⟩
def fn33 : Fk.Fn := ⟨2, 3, [.ret (.bin .add false (.tup [.v 1]) (.blt .tuple_ false [.lc (.call 32 [.v 0, .v 2]) (.s 2) .val [.sub (.call 28 []) (.v 1)] (.c (.bl true))]))]⟩
def fn34 : Fk.Fn := ⟨0, 1, [.set (.s 0) (.lst false [.c (.none), .c (.bl true), .c (.bl false), .c (.int 0), .neg (.c (.int 1)), .c (.int 8), .bin .add false (.bin .pow false (.c (.int 10)) (.c (.int 6))) (.c (.int 1)), .bin .add false (.bin .pow false (.c (.int 10)) (.c (.int 9))) (.c (.int 1)), .bin .sub false (.neg (.bin .pow false (.c (.int 10)) (.c (.int 9)))) (.c (.int 1)), .c (.str []), .c (.str [107, 101, 121]), .c (.str [110, 105, 110, 101, 115, 105, 103, 110, 115]), .c (.str [65, 98]), .c (.str [97, 32, 98])]), .set (.s 0) (.bin .add false (.v 0) (.lst false [.c (.str [110, 117, 109, 98, 101, 114]), .c (.str [97, 110, 121]), .tup [], .lst false [], .dic false [], .tup [.c (.int 0), .c (.str [97]), .c (.int 0)], .lst false [.c (.str [97])], .tup [.c (.str [97])], .tup [.c (.int 0), .c (.str [107, 101, 121]), .c (.int 0)]])), .ret (.bin .add false (.v 0) (.lst false [.tup [.c (.int 8), .c (.str [97]), .c (.int 0)], .tup [.c (.bl true), .c (.str [97]), .c (.int 0)], .c (.str [101, 110, 100])]))]⟩
def fn35 : Fk.Fn := ⟨3, 11, [.set (.s 3) (.call 34 []), .set (.s 4) (.sub (.v 3) (.call 16 [.v 0, .blt .len false [.v 3]])), .ife (.or (.not (.blt (.isinst 3) false [.v 1, .c (.ty 3)])) (.cmp .eq (.v 1) (.tup []))) [.ret (.v 4)] [], .set (.s 5) (.call 16 [.v 0, .c (.int 9)]), .par 8 9 (.call 16 [.v 0, .blt .len false [.v 1]]) (.call 16 [.v 0, .blt .len false [.v 1]]), .ife (.cmp .lt (.v 5) (.c (.int 4))) [.set (.s 10) (.ite (.cmp .gt (.v 2) (.c (.int 0))) (.call 35 [.v 0, .sub (.v 1) (.v 8), .bin .sub false (.v 2) (.c (.int 1))]) (.v 4)), .ret (.bin .add false (.bin .add false (.sl false (.v 1) (.nop) (.v 8)) (.tup [.v 10])) (.sl false (.v 1) (.bin .add false (.v 8) (.c (.int 1))) (.nop)))] [], .set (.s 6) (.blt .list_ true [.v 1]), .swap (.v 6) (.v 8) (.v 6) (.v 9) (.tup [.sub (.v 6) (.v 9), .sub (.v 6) (.v 8)]), .fz 6, .set (.s 7) (.lst false [.bin .add false (.bin .add false (.sl false (.v 1) (.nop) (.v 8)) (.tup [.v 4])) (.sl false (.v 1) (.bin .add false (.v 8) (.c (.int 1))) (.nop)), .bin .add false (.sl false (.v 1) (.nop) (.v 8)) (.sl false (.v 1) (.bin .add false (.v 8) (.c (.int 1))) (.nop))]), .set (.s 7) (.bin .add false (.v 7) (.lst false [.bin .add false (.bin .add false (.sl false (.v 1) (.nop) (.v 8)) (.sl false (.v 1) (.v 8) (.bin .add false (.v 8) (.c (.int 1))))) (.sl false (.v 1) (.v 8) (.nop)), .blt .tuple_ false [.v 6]])), .ret (.sub (.bin .add false (.v 7) (.lst false [.sub (.lst false [.blt .list_ false [.v 1], .bin .add false (.v 1) (.tup [.v 4])]) (.call 16 [.v 0, .c (.int 2)])])) (.bin .sub false (.v 5) (.c (.int 4))))]⟩
def fn36 : Fk.Fn := ⟨1, 10, [.set (.s 1) (.blt .list_ false [.call 28 []]), .forr (.s 2) .range1 [.blt .max2 false [.c (.int 2), .blt .min2 false [.c (.int 16), .blt .len false [.v 0]]]] [.set (.s 3) (.call 15 [.v 0, .v 2]), .forr (.s 4) .val [.v 1] [.set (.s 5) (.call 33 [.v 3, .v 4]), .set (.s 6) (.bin .add false (.tup [.sub (.v 1) (.call 16 [.v 3, .c (.int 11)])]) (.sl false (.v 5) (.c (.int 1)) (.nop))), .set (.s 7) (.call 34 []), .forr (.s 8) .val [.tup [.v 5, .call 35 [.v 3, .v 5, .c (.int 3)], .v 6, .sub (.v 7) (.call 16 [.v 3, .blt .len false [.v 7]])]] [.set (.s 9) (.call 14 [.v 8]), .ife (.or (.not (.blt (.isinst 1) false [.v 9, .c (.ty 1)])) (.cmp .ne (.v 9) (.call 29 [.v 8]))) [.ret (.c (.bl false))] []]]], .ret (.c (.bl true))]⟩
def fd0 : FD := ⟨"is_whole", ["thing"], fn0, defArgs (top 8), defBody (top 8), defScope (top 8)⟩
def fd1 : FD := ⟨"is_below", ["thing", "most"], fn1, defArgs (top 9), defBody (top 9), defScope (top 9)⟩
def fd2 : FD := ⟨"is_row", ["thing", "many"], fn2, defArgs (top 10), defBody (top 10), defScope (top 10)⟩
def fd3 : FD := ⟨"is_word", ["thing", "letter"], fn3, defArgs (top 11), defBody (top 11), defScope (top 11)⟩
def fd4 : FD := ⟨"is_name", ["thing"], fn4, defArgs (top 12), defBody (top 12), defScope (top 12)⟩
def fd5 : FD := ⟨"is_key", ["thing"], fn5, defArgs (top 13), defBody (top 13), defScope (top 13)⟩
def fd6 : FD := ⟨"is_value", ["thing"], fn6, defArgs (top 14), defBody (top 14), defScope (top 14)⟩
def fd7 : FD := ⟨"is_hand", ["thing"], fn7, defArgs (top 15), defBody (top 15), defScope (top 15)⟩
def fd8 : FD := ⟨"is_kind", ["thing"], fn8, defArgs (top 16), defBody (top 16), defScope (top 16)⟩
def fd9 : FD := ⟨"is_count", ["thing"], fn9, defArgs (top 17), defBody (top 17), defScope (top 17)⟩
def fd10 : FD := ⟨"is_id", ["thing"], fn10, defArgs (top 18), defBody (top 18), defScope (top 18)⟩
def fd11 : FD := ⟨"are_rising", ["some", "one", "other"], fn11, defArgs (top 19), defBody (top 19), defScope (top 19)⟩
def fd12 : FD := ⟨"is_value_or_none", ["thing"], fn12, defArgs (top 22), defBody (top 22), defScope (top 22)⟩
def fd13 : FD := ⟨"are_cells", ["thing", "cell"], fn13, defArgs (top 23), defBody (top 23), defScope (top 23)⟩
def fd14 : FD := ⟨"is_deed", ["thing", "word", "look", "part", "parts"], fn14, defArgs (top 25), defBody (top 25), defScope (top 25)⟩
def fd15 : FD := ⟨"_law_pot", ["script", "k", "cell"], fn15, defArgs (top 27), defBody (top 27), defScope (top 27)⟩
def fd16 : FD := ⟨"_law_take", ["pot", "many", "one", "other", "found"], fn16, defArgs (top 28), defBody (top 28), defScope (top 28)⟩
def fd17 : FD := ⟨"_law_whole", ["found"], fn17, defArgs (top 29), defBody (top 29), defScope (top 29)⟩
def fd18 : FD := ⟨"_law_word", ["pot", "many", "word", "k"], fn18, defArgs (top 30), defBody (top 30), defScope (top 30)⟩
def fd19 : FD := ⟨"_law_words", ["pot", "many", "found", "k", "word", "turn"], fn19, defArgs (top 31), defBody (top 31), defScope (top 31)⟩
def fd20 : FD := ⟨"_law_value", ["pot", "way"], fn20, defArgs (top 32), defBody (top 32), defScope (top 32)⟩
def fd21 : FD := ⟨"_law_is_word", ["thing", "sign"], fn21, defArgs (top 33), defBody (top 33), defScope (top 33)⟩
def fd22 : FD := ⟨"_law_is_name", ["thing"], fn22, defArgs (top 34), defBody (top 34), defScope (top 34)⟩
def fd23 : FD := ⟨"_law_between", ["thing", "low", "high"], fn23, defArgs (top 35), defBody (top 35), defScope (top 35)⟩
def fd24 : FD := ⟨"_law_is_value", ["thing"], fn24, defArgs (top 36), defBody (top 36), defScope (top 36)⟩
def fd25 : FD := ⟨"_law_is_id", ["thing"], fn25, defArgs (top 37), defBody (top 37), defScope (top 37)⟩
def fd26 : FD := ⟨"_law_are_cells", ["thing", "cell", "one", "other"], fn26, defArgs (top 38), defBody (top 38), defScope (top 38)⟩
def fd27 : FD := ⟨"_law_is_part", ["sign", "thing"], fn27, defArgs (top 39), defBody (top 39), defScope (top 39)⟩
def fd28 : FD := ⟨"_law_forms", ["some"], fn28, defArgs (top 40), defBody (top 40), defScope (top 40)⟩
def fd29 : FD := ⟨"_law_due", ["thing", "signs", "sign", "part"], fn29, defArgs (top 41), defBody (top 41), defScope (top 41)⟩
def fd30 : FD := ⟨"_law_id", ["pot", "hand", "number"], fn30, defArgs (top 42), defBody (top 42), defScope (top 42)⟩
def fd31 : FD := ⟨"_law_cells", ["pot", "found", "k", "at"], fn31, defArgs (top 43), defBody (top 43), defScope (top 43)⟩
def fd32 : FD := ⟨"_law_part", ["pot", "sign", "top"], fn32, defArgs (top 44), defBody (top 44), defScope (top 44)⟩
def fd33 : FD := ⟨"_law_good", ["pot", "word", "sign"], fn33, defArgs (top 45), defBody (top 45), defScope (top 45)⟩
def fd34 : FD := ⟨"_law_odds", ["some"], fn34, defArgs (top 46), defBody (top 46), defScope (top 46)⟩
def fd35 : FD := ⟨"_law_bent", ["pot", "thing", "deep", "odds", "odd", "way", "some", "found", "at", "to", "inner"], fn35, defArgs (top 47), defBody (top 47), defScope (top 47)⟩
def fd36 : FD := ⟨"law", ["script", "words", "k", "pot", "word", "deed", "other", "odds", "thing", "told"], fn36, defArgs (top 48), defBody (top 48), defScope (top 48)⟩
def ds : List FD := [fd0, fd1, fd2, fd3, fd4, fd5, fd6, fd7, fd8, fd9, fd10, fd11, fd12, fd13, fd14, fd15, fd16, fd17, fd18, fd19, fd20, fd21, fd22, fd23, fd24, fd25, fd26, fd27, fd28, fd29, fd30, fd31, fd32, fd33, fd34, fd35, fd36]
def P : List Fk.Fn := [fn0, fn1, fn2, fn3, fn4, fn5, fn6, fn7, fn8, fn9, fn10, fn11, fn12, fn13, fn14, fn15, fn16, fn17, fn18, fn19, fn20, fn21, fn22, fn23, fn24, fn25, fn26, fn27, fn28, fn29, fn30, fn31, fn32, fn33, fn34, fn35, fn36]
theorem okAll : (ds.all fun d => d.ok tab) = true := by decide +kernel
abbrev R : PySem.W.OpenRow := PySem.W.OpenLaw.row PySem.Challenge.rw_forkrolls_k37_forms_of_deeds
abbrev hk : PySem.W.Hook := He.hookX 5 (faOf tab) (ds.map FD.d) (tsOf tab) [] (exOf tab)
def ob (s : PySem.W.SharedT) : He.AlX := He.obsX 5 (faOf tab) (ds.map FD.d) (tsOf tab) [] (exOf tab) (HandSHeadRun.getT s)
theorem ob_eq (s : PySem.W.SharedT) : ob s = hk.obs s.abs := He.obsX_eq (HandSHeadRun.getT_eq s)
def loose : List PySem.Str := (["__name__", "LETTERS", "MOST_LETTERS", "BARRED", "KINDS", "FAR", "MOST_COUNT", "HANDS", "is_whole", "is_below", "is_row", "is_word", "is_name", "is_key", "is_value", "is_hand"] : List PySem.Str) ++ (["is_kind", "is_count", "is_id", "are_rising", "__name__", "MOST_CELLS", "is_value_or_none", "are_cells", "FORMS", "is_deed", "__name__", "_law_pot", "_law_take", "_law_whole", "_law_word", "_law_words"] : List PySem.Str) ++ (["_law_value", "_law_is_word", "_law_is_name", "_law_between", "_law_is_value", "_law_is_id", "_law_are_cells", "_law_is_part", "_law_forms", "_law_due", "_law_id", "_law_cells", "_law_part", "_law_good", "_law_odds", "_law_bent"] : List PySem.Str)
theorem run (w : World) : HandSHeadRun.RunEq R (PySem.W.view R.prog [48]) hk ob 2000 loose w := by
  refine PySem.W.byRow2 "special-get-raises" (P := fun w => HandSHeadRun.RunEq R (PySem.W.view R.prog [48]) hk ob 2000 loose w) (fun w => ?_) (fun w => ?_) w
  · intro os
    kernel_rfl
  · intro os
    kernel_rfl
end Lw_k37

set_option Elab.async false
set_option linter.all false
set_option autoImplicit false
set_option maxRecDepth 100000
set_option maxHeartbeats 4000000
namespace Lw_k37
open Fk
abbrev PP : List Fk.Fn := P
/-! ### things of the law -/
mutual
/-- a thing of the law: its texts short, its tuples of at most m parts -/
def th (m : Nat) : D → Bool
  | .none => true | .bl _ => true | .int _ => true
  | .str z => decide (z.length ≤ 1000)
  | .tup ds => decide (ds.length ≤ m) && thL m ds
  | .lst ds => decide (ds.length ≤ m) && thL m ds
  | .dic [] [] => true
  | _ => false
def thL (m : Nat) : List D → Bool
  | [] => true
  | d :: ds => th m d && thL m ds
end
theorem thL_all {m : Nat} : ∀ {ds : List D}, thL m ds = true ↔ ∀ d ∈ ds, th m d = true
  | [] => by simp [thL]
  | d :: ds => by
    unfold thL
    rw [Bool.and_eq_true, thL_all (ds := ds)]
    simp
theorem th_kk {m : Nat} {d : D} (h : th m d = true) : kk d = true := by cases d <;> first | rfl | (simp [th] at h; done)
theorem th_1 {m : Nat} {d : D} (h : th m d = true) : ok1 d = true := by
  unfold ok1
  rw [th_kk h, Bool.true_and]
  cases d <;> first | rfl | (simpa [th] using h)
theorem th_tup {m : Nat} {ds : List D} (h : th m (.tup ds) = true) : ds.length ≤ m ∧ ∀ d ∈ ds, th m d = true := by
  unfold th at h
  rw [Bool.and_eq_true, decide_eq_true_eq, thL_all] at h
  exact h
theorem th_of_tup {m : Nat} {ds : List D} (l : ds.length ≤ m) (h : ∀ d ∈ ds, th m d = true) : th m (.tup ds) = true := by
  unfold th
  rw [Bool.and_eq_true, decide_eq_true_eq, thL_all]
  exact ⟨l, h⟩
theorem th_of_lst {m : Nat} {ds : List D} (l : ds.length ≤ m) (h : ∀ d ∈ ds, th m d = true) : th m (.lst ds) = true := by
  unfold th
  rw [Bool.and_eq_true, decide_eq_true_eq, thL_all]
  exact ⟨l, h⟩
theorem th_D {m : Nat} {d : D} (h : th m d = true) : okD d = true := by
  unfold okD
  rw [th_1 h, Bool.true_and]
  cases d <;> first | rfl | skip
  exact List.all_eq_true.mpr fun e he => th_1 ((th_tup h).2 e he)
mutual
theorem th_top {m : Nat} : ∀ (d : D), th m d = true → d.top = 0
  | .none, _ => rfl
  | .bl _, _ => rfl
  | .int _, _ => rfl
  | .str _, _ => rfl
  | .tup ds, h => by unfold th at h; rw [Bool.and_eq_true] at h; unfold D.top; exact thL_top ds h.2
  | .lst ds, h => by unfold th at h; rw [Bool.and_eq_true] at h; unfold D.top; exact thL_top ds h.2
  | .dic [] [], _ => rfl
  | .dic (_ :: _) _, h => by simp [th] at h
  | .dic [] (_ :: _), h => by simp [th] at h
  | .set _, h => by simp [th] at h
  | .scr _, h => by simp [th] at h
  | .ref _, h => by simp [th] at h
  | .fn _, h => by simp [th] at h
  | .ty _, h => by simp [th] at h
  | .tab _ _, h => by simp [th] at h
theorem thL_top {m : Nat} : ∀ (ds : List D), thL m ds = true → D.topL ds = 0
  | [], _ => rfl
  | d :: ds, h => by
    unfold thL at h
    rw [Bool.and_eq_true] at h
    unfold D.topL
    rw [th_top d h.1, thL_top ds h.2]; rfl
end
mutual
theorem th_mono {m m' : Nat} (l : m ≤ m') : ∀ (d : D), th m d = true → th m' d = true
  | .none, _ => rfl
  | .bl _, _ => rfl
  | .int _, _ => rfl
  | .str _, h => by unfold th at h ⊢; exact h
  | .tup ds, h => by
    unfold th at h ⊢; rw [Bool.and_eq_true, decide_eq_true_eq] at h ⊢
    exact ⟨Nat.le_trans h.1 l, thL_mono l ds h.2⟩
  | .lst ds, h => by
    unfold th at h ⊢; rw [Bool.and_eq_true, decide_eq_true_eq] at h ⊢
    exact ⟨Nat.le_trans h.1 l, thL_mono l ds h.2⟩
  | .dic [] [], _ => rfl
  | .dic (_ :: _) _, h => by simp [th] at h
  | .dic [] (_ :: _), h => by simp [th] at h
  | .set _, h => by simp [th] at h
  | .scr _, h => by simp [th] at h
  | .ref _, h => by simp [th] at h
  | .fn _, h => by simp [th] at h
  | .ty _, h => by simp [th] at h
  | .tab _ _, h => by simp [th] at h
theorem thL_mono {m m' : Nat} (l : m ≤ m') : ∀ (ds : List D), thL m ds = true → thL m' ds = true
  | [], _ => rfl
  | d :: ds, h => by
    unfold thL at h ⊢
    rw [Bool.and_eq_true] at h ⊢
    exact ⟨th_mono l d h.1, thL_mono l ds h.2⟩
end
/-! ### what is so -/
def NUM : List Nat := [110, 117, 109, 98, 101, 114]
def WRD : List Nat := [119, 111, 114, 100]
def ANY : List Nat := [97, 110, 121]
def kindB : D → Bool
  | .str z => NUM == z || (WRD == z || ANY == z)
  | _ => false
def rowN (k : Nat) : D → Bool
  | .tup ds => decide (ds.length = k)
  | _ => false
def isCell : D → Bool
  | .tup [a, b] => isId a && isValue b
  | _ => false
def fstC : D → D
  | .tup (x :: _) => x
  | d => d
def rising (cs : List D) : Bool := (List.zipWith (fun x y => ltD (fstC x) (fstC y)) cs (cut cs (some 1) none)).all id
def isCells : D → Bool
  | .tup cs => (decide (cs.length ≤ 6) && cs.all isCell) && rising cs
  | _ => false
/-- n i t v c k h m -/
def isPart (c : Nat) (d : D) : Bool :=
  if c = 110 then isName d else if c = 105 then isId d else if c = 116 then kindB d else if c = 118 then isN d || isValue d
  else if c = 99 then isCells d else if c = 107 then below d 1000000001 else if c = 104 then below d 8 else below d 1000001
def TBL : List (List Nat × List Nat) := [([116, 97, 98, 108, 101], [110]), ([99, 111, 108, 117, 109, 110], [110, 110, 116, 118]), ([99, 97, 108, 108], [110, 105, 110]), ([107, 105, 110, 100], [110, 105, 116]), ([101, 108, 115, 101], [110, 105, 118]), ([112, 117, 116], [110, 107, 99]), ([98, 108, 97, 110, 107], [110, 107, 105]), ([100, 114, 111, 112], [110, 107]), ([108, 101, 97, 118, 101], [110, 105]), ([101, 110, 100], [110]), ([117, 110, 100, 111], [110, 104, 110, 109])]
def parts : List Nat → List D → Bool
  | [], [] => true
  | c :: cs, d :: ds => isPart c d && parts cs ds
  | _, _ => false
def isDeed : D → Bool
  | .tup (.str w :: r) => (match TBL.lookup w with
    | some cs => parts cs r
    | Option.none => false)
  | _ => false
/-! ### the program's looks -/
theorem e_whole' (n : Nat) {d : D} (s : St) (h : kk d = true) : callF PP (n + 1) 0 [d] s = .ok (.bl (isW d)) s := e_whole (P := PP) (f := 0) rfl n s h
theorem e_name' (n : Nat) {d : D} (s : St) (h : ok1 d = true) : callF PP (n + 2) 4 [d] s = .ok (.bl (isName d)) s := e_name (P := PP) (f := 4) (w := 3) rfl rfl n s h
theorem e_value' (n : Nat) {d : D} (s : St) (h : ok1 d = true) : callF PP (n + 2) 6 [d] s = .ok (.bl (isValue d)) s := e_value (P := PP) (f := 6) (w := 3) (x := 0) rfl rfl rfl n s h
theorem e_hand' (n : Nat) {d : D} (s : St) (h : kk d = true) : callF PP (n + 3) 7 [d] s = .ok (.bl (below d 8)) s := e_hand (P := PP) (f := 7) (w := 0) (b := 1) rfl rfl rfl n s h
theorem e_count' (n : Nat) {d : D} (s : St) (h : kk d = true) : callF PP (n + 3) 9 [d] s = .ok (.bl (below d 1000001)) s := e_count (P := PP) (f := 9) (w := 0) (b := 1) rfl rfl rfl n s h
theorem e_id' (n : Nat) {d : D} (s : St) (h : okD d = true) : callF PP (n + 4) 10 [d] s = .ok (.bl (isId d)) s :=
  e_id (P := PP) (f := 10) (w := 0) (b := 1) (r := 2) (hh := 7) (m := 4) (c := 9) (w2 := 3) rfl rfl rfl rfl rfl rfl rfl rfl n s h
theorem e_key (n : Nat) {d : D} (s : St) (h : kk d = true) : callF PP (n + 3) 5 [d] s = .ok (.bl (below d 1000000001)) s := by
  refine eq_of_wp ?_
  rw [callF_eq (fn := fn5) rfl rfl, WP_back]
  show WS (exB _ fn5.body [some d] s) _ _
  have a1 : callF PP (n + 2) 1 [d, .int 1000000001] s = .ok (.bl (below d 1000000001)) s := e_below (P := PP) (f := 1) (w := 0) rfl rfl n s h
  simp -implicitDefEqProofs only [exB_cons, exB_nil, exS_expr, exS_set, exS_setSub, exS_fz, exS_ife, exS_ret, exS_pass, den_nop, den_c, den_v, den_bin, den_neg, den_cmp, den_chain, den_and, den_or, den_not, den_ite, den_tup, den_lst, den_sub, den_rev, den_callv, exS_raise, exS_tryR, den_sl, den_call, den_blt, den_meth, denL_nil, denL_cons, WS_seq, WS_toS, WS_nx, WS_rt, WS_asB, WS_ite, WP_bind, WP_ok, WP_asB, WP_ite, bindP, setAll, List.set_cons_zero, List.set_cons_succ, List.getElem?_cons_zero, List.getElem?_cons_succ, decide_true, decide_false, if_true, if_false, Bool.false_eq_true, Bool.not_true, Bool.not_false, isNop, partR, o_add, o_sub, o_lt, o_le, o_gt, o_ge, o_eqi, o_nei, o_eqs, o_nes, o_in, o_notin, o_lent, o_lenl, o_lenc, o_abs, o_min, o_max, o_tupl, o_tupt, o_sll, fin_f, fn5]
  have z : (1000000000 : Int) + 1 = 1000000001 := rfl
  rw [z, a1]
  simp [WP_ok, D.top]
theorem o_in3t {w a b c : List Nat} {s : St} : cmpD .isin (.str w) (.tup [.str a, .str b, .str c]) s = .ok (.bl (a == w || (b == w || (c == w || false)))) s := by rcases w with _ | ⟨x, _ | ⟨y, w⟩⟩ <;> rfl
theorem e_kind (n : Nat) {d : D} (s : St) (h : kk d = true) : callF PP (n + 1) 8 [d] s = .ok (.bl (kindB d)) s := by
  refine eq_of_wp ?_
  rw [callF_eq (fn := fn8) rfl rfl, WP_back]
  show WS (exB _ fn8.body [some d] s) _ _
  simp -implicitDefEqProofs only [exB_cons, exB_nil, exS_expr, exS_set, exS_setSub, exS_fz, exS_ife, exS_ret, exS_pass, den_nop, den_c, den_v, den_bin, den_neg, den_cmp, den_chain, den_and, den_or, den_not, den_ite, den_tup, den_lst, den_sub, den_rev, den_callv, exS_raise, exS_tryR, den_sl, den_call, den_blt, den_meth, denL_nil, denL_cons, WS_seq, WS_toS, WS_nx, WS_rt, WS_asB, WS_ite, WP_bind, WP_ok, WP_asB, WP_ite, bindP, setAll, List.set_cons_zero, List.set_cons_succ, List.getElem?_cons_zero, List.getElem?_cons_succ, decide_true, decide_false, if_true, if_false, Bool.false_eq_true, Bool.not_true, Bool.not_false, isNop, partR, o_add, o_sub, o_lt, o_le, o_gt, o_ge, o_eqi, o_nei, o_eqs, o_nes, o_in, o_notin, o_lent, o_lenl, o_lenc, o_abs, o_min, o_max, o_tupl, o_tupt, o_sll, fin_f, fn8, o_isin h, isT_kk h]
  cases d <;> first | (cases h; done) | skip
  case str z =>
    have e1 : isT [] 2 (.str z) = true := rfl
    simp -implicitDefEqProofs only [exB_cons, exB_nil, exS_expr, exS_set, exS_setSub, exS_fz, exS_ife, exS_ret, exS_pass, den_nop, den_c, den_v, den_bin, den_neg, den_cmp, den_chain, den_and, den_or, den_not, den_ite, den_tup, den_lst, den_sub, den_rev, den_callv, exS_raise, exS_tryR, den_sl, den_call, den_blt, den_meth, denL_nil, denL_cons, WS_seq, WS_toS, WS_nx, WS_rt, WS_asB, WS_ite, WP_bind, WP_ok, WP_asB, WP_ite, bindP, setAll, List.set_cons_zero, List.set_cons_succ, List.getElem?_cons_zero, List.getElem?_cons_succ, decide_true, decide_false, if_true, if_false, Bool.false_eq_true, Bool.not_true, Bool.not_false, isNop, partR, o_add, o_sub, o_lt, o_le, o_gt, o_ge, o_eqi, o_nei, o_eqs, o_nes, o_in, o_notin, o_lent, o_lenl, o_lenc, o_abs, o_min, o_max, o_tupl, o_tupt, o_sll, fin_f, e1, o_in3t]
    simp [kindB, NUM, WRD, ANY, D.top]
  all_goals simp [isT, rd, kindB, D.top, WP_ok, WS_rt]
theorem o_isN {d : D} {s : St} (h : kk d = true) : cmpD .is_ d .none s = .ok (.bl (isN d)) s := by cases d <;> first | (cases h; done) | rfl
theorem e_vnone (n : Nat) {d : D} (s : St) (h : ok1 d = true) : callF PP (n + 3) 12 [d] s = .ok (.bl (isN d || isValue d)) s := by
  refine eq_of_wp ?_
  rw [callF_eq (fn := fn12) rfl rfl, WP_back]
  show WS (exB _ fn12.body [some d] s) _ _
  simp -implicitDefEqProofs only [exB_cons, exB_nil, exS_expr, exS_set, exS_setSub, exS_fz, exS_ife, exS_ret, exS_pass, den_nop, den_c, den_v, den_bin, den_neg, den_cmp, den_chain, den_and, den_or, den_not, den_ite, den_tup, den_lst, den_sub, den_rev, den_callv, exS_raise, exS_tryR, den_sl, den_call, den_blt, den_meth, denL_nil, denL_cons, WS_seq, WS_toS, WS_nx, WS_rt, WS_asB, WS_ite, WP_bind, WP_ok, WP_asB, WP_ite, bindP, setAll, List.set_cons_zero, List.set_cons_succ, List.getElem?_cons_zero, List.getElem?_cons_succ, decide_true, decide_false, if_true, if_false, Bool.false_eq_true, Bool.not_true, Bool.not_false, isNop, partR, o_add, o_sub, o_lt, o_le, o_gt, o_ge, o_eqi, o_nei, o_eqs, o_nes, o_in, o_notin, o_lent, o_lenl, o_lenc, o_abs, o_min, o_max, o_tupl, o_tupt, o_sll, fin_f, fn12, o_isN (ok1_kk h)]
  cases c : isN d
  · simp -implicitDefEqProofs only [exB_cons, exB_nil, exS_expr, exS_set, exS_setSub, exS_fz, exS_ife, exS_ret, exS_pass, den_nop, den_c, den_v, den_bin, den_neg, den_cmp, den_chain, den_and, den_or, den_not, den_ite, den_tup, den_lst, den_sub, den_rev, den_callv, exS_raise, exS_tryR, den_sl, den_call, den_blt, den_meth, denL_nil, denL_cons, WS_seq, WS_toS, WS_nx, WS_rt, WS_asB, WS_ite, WP_bind, WP_ok, WP_asB, WP_ite, bindP, setAll, List.set_cons_zero, List.set_cons_succ, List.getElem?_cons_zero, List.getElem?_cons_succ, decide_true, decide_false, if_true, if_false, Bool.false_eq_true, Bool.not_true, Bool.not_false, isNop, partR, o_add, o_sub, o_lt, o_le, o_gt, o_ge, o_eqi, o_nei, o_eqs, o_nes, o_in, o_notin, o_lent, o_lenl, o_lenc, o_abs, o_min, o_max, o_tupl, o_tupt, o_sll, fin_f]
    rw [e_value' n s h]
    simp [WP_ok, D.top]
  · simp [WP_ok, D.top]
theorem e_rowN (n : Nat) {d : D} {k : Nat} (s : St) (h : kk d = true) : callF PP (n + 1) 2 [d, .int k] s = .ok (.bl (rowN k d)) s := by
  refine eq_of_wp ?_
  rw [callF_eq (fn := fn2) rfl rfl, WP_back]
  show WS (exB _ fn2.body [some d, some (.int k)] s) _ _
  simp -implicitDefEqProofs only [exB_cons, exB_nil, exS_expr, exS_set, exS_setSub, exS_fz, exS_ife, exS_ret, exS_pass, den_nop, den_c, den_v, den_bin, den_neg, den_cmp, den_chain, den_and, den_or, den_not, den_ite, den_tup, den_lst, den_sub, den_rev, den_callv, exS_raise, exS_tryR, den_sl, den_call, den_blt, den_meth, denL_nil, denL_cons, WS_seq, WS_toS, WS_nx, WS_rt, WS_asB, WS_ite, WP_bind, WP_ok, WP_asB, WP_ite, bindP, setAll, List.set_cons_zero, List.set_cons_succ, List.getElem?_cons_zero, List.getElem?_cons_succ, decide_true, decide_false, if_true, if_false, Bool.false_eq_true, Bool.not_true, Bool.not_false, isNop, partR, o_add, o_sub, o_lt, o_le, o_gt, o_ge, o_eqi, o_nei, o_eqs, o_nes, o_in, o_notin, o_lent, o_lenl, o_lenc, o_abs, o_min, o_max, o_tupl, o_tupt, o_sll, fin_f, fn2, o_isin h, isT_kk h]
  cases d <;> first | (cases h; done) | skip
  case tup ds =>
    have e1 : isT [] 3 (.tup ds) = true := rfl
    simp -implicitDefEqProofs only [exB_cons, exB_nil, exS_expr, exS_set, exS_setSub, exS_fz, exS_ife, exS_ret, exS_pass, den_nop, den_c, den_v, den_bin, den_neg, den_cmp, den_chain, den_and, den_or, den_not, den_ite, den_tup, den_lst, den_sub, den_rev, den_callv, exS_raise, exS_tryR, den_sl, den_call, den_blt, den_meth, denL_nil, denL_cons, WS_seq, WS_toS, WS_nx, WS_rt, WS_asB, WS_ite, WP_bind, WP_ok, WP_asB, WP_ite, bindP, setAll, List.set_cons_zero, List.set_cons_succ, List.getElem?_cons_zero, List.getElem?_cons_succ, decide_true, decide_false, if_true, if_false, Bool.false_eq_true, Bool.not_true, Bool.not_false, isNop, partR, o_add, o_sub, o_lt, o_le, o_gt, o_ge, o_eqi, o_nei, o_eqs, o_nes, o_in, o_notin, o_lent, o_lenl, o_lenc, o_abs, o_min, o_max, o_tupl, o_tupt, o_sll, fin_f, e1]
    have : ((ds.length : Int) == (k : Int)) = decide (ds.length = k) := by
      by_cases q : ds.length = k
      · simp [q]
      · simp [q]; omega
    rw [this]
    simp [rowN, D.top]
  all_goals simp [isT, rd, rowN, D.top, WP_ok, WS_rt]
theorem rowN_no {d : D} (h : rowN 2 d = false) : isCell d = false := by
  unfold isCell
  split
  · simp [rowN] at h
  · rfl
theorem rowN_of {d : D} (h : rowN 2 d = true) : ∃ a b, d = .tup [a, b] := by
  cases d <;> first | (cases h; done) | skip
  rename_i ds
  simp only [rowN, decide_eq_true_eq] at h
  match ds, h with
  | [a, b], _ => exact ⟨a, b, rfl⟩
theorem cmp_id {a b : D} (ha : isId a = true) (hb : isId b = true) (s : St) : cmpD .lt a b s = .ok (.bl (ltD a b)) s := by
  have shape : ∀ d, isId d = true → ∃ i z j, d = .tup [.int i, .str z, .int j] := fun d h => by
    unfold isId at h
    split at h
    · rename_i x y w
      simp only [Bool.and_eq_true] at h
      cases x <;> first | (simp [below] at h; done) | skip
      cases y <;> first | (simp [isName] at h; done) | skip
      cases w <;> first | (simp [below] at h; done) | skip
      exact ⟨_, _, _, rfl⟩
    · cases h
  obtain ⟨i, z, j, rfl⟩ := shape a ha
  obtain ⟨i', z', j', rfl⟩ := shape b hb
  show (if _ then _ else _) = _
  rw [if_pos]
  · rfl
  show (cmpOk (.tup [.int i, .str z, .int j]) (.tup [.int i', .str z', .int j']) && flat (.tup [.int i, .str z, .int j]) && flat (.tup [.int i', .str z', .int j']) && decide (depth (.tup [.int i, .str z, .int j]) ≤ 60) && decide (depth (.tup [.int i', .str z', .int j']) ≤ 60) && !leafN (.tup [.int i, .str z, .int j])) = true
  · simp [cmpOk, cmpOkL, flat, flatL, depth, depthL, leafN]
theorem bools {α : Type} (p : α → Bool) : ∀ xs : List α, mapB (xs.map fun d => D.bl (p d)) = some (xs.map p) := fun xs => by
  have := mapB_bl (xs.map p)
  rw [List.map_map] at this
  exact this
theorem all_id {α : Type} (p : α → Bool) (xs : List α) : (xs.map p).all id = xs.all p := by rw [List.all_map]; rfl
theorem cut_map {α β : Type} (f : α → β) (xs : List α) (l h : Option Int) : cut (xs.map f) l h = (cut xs l h).map f := by
  unfold cut
  rw [List.length_map, List.map_take, List.map_drop]
theorem mem_zipD {x : D} : ∀ {xs ys : List D}, x ∈ zipD xs ys → ∃ a ∈ xs, ∃ b ∈ ys, x = .tup [a, b]
  | [], _, h => by simp [zipD] at h
  | a :: xs, [], h => by simp [zipD] at h
  | a :: xs, b :: ys, h => by
    unfold zipD at h
    rw [List.zipWith_cons_cons] at h
    rcases List.mem_cons.mp h with rfl | h
    · exact ⟨a, List.mem_cons_self, b, List.mem_cons_self, rfl⟩
    · obtain ⟨a', h1, b', h2, h3⟩ := mem_zipD (xs := xs) (ys := ys) h
      exact ⟨a', List.mem_cons_of_mem _ h1, b', List.mem_cons_of_mem _ h2, h3⟩
theorem mem_cut {α : Type} {x : α} {xs : List α} {l h : Option Int} (hx : x ∈ cut xs l h) : x ∈ xs := by
  unfold cut at hx
  exact List.mem_of_mem_drop (List.mem_of_mem_take hx)
def pairLt : D → Bool
  | .tup [x, y] => ltD x y
  | _ => false
theorem map_zipD (f : D → Bool) (xs ys : List D) : (zipD xs ys).map f = List.zipWith (fun x y => f (.tup [x, y])) xs ys := by
  unfold zipD
  rw [List.map_zipWith]
theorem e_rising (n : Nat) {cs : List D} (s : St) (h : ∀ d ∈ cs, isId (fstC d) = true) : callF PP (n + 1) 11 [.lst (cs.map fstC)] s = .ok (.bl (rising cs)) s := by
  refine eq_of_wp ?_
  rw [callF_eq (fn := fn11) rfl rfl, WP_back]
  show WS (exB _ fn11.body [some (.lst (cs.map fstC)), none, none] s) _ _
  have it : itK .zip [.lst (cs.map fstC), .lst (cut (cs.map fstC) (some 1) none)] = some (zipD (cs.map fstC) (cut (cs.map fstC) (some 1) none)) := rfl
  simp -implicitDefEqProofs only [exB_cons, exB_nil, exS_expr, exS_set, exS_setSub, exS_fz, exS_ife, exS_ret, exS_pass, den_nop, den_c, den_v, den_bin, den_neg, den_cmp, den_chain, den_and, den_or, den_not, den_ite, den_tup, den_lst, den_sub, den_rev, den_callv, exS_raise, exS_tryR, den_sl, den_call, den_blt, den_meth, denL_nil, denL_cons, WS_seq, WS_toS, WS_nx, WS_rt, WS_asB, WS_ite, WP_bind, WP_ok, WP_asB, WP_ite, bindP, setAll, List.set_cons_zero, List.set_cons_succ, List.getElem?_cons_zero, List.getElem?_cons_succ, decide_true, decide_false, if_true, if_false, Bool.false_eq_true, Bool.not_true, Bool.not_false, isNop, partR, o_add, o_sub, o_lt, o_le, o_gt, o_ge, o_eqi, o_nei, o_eqs, o_nes, o_in, o_notin, o_lent, o_lenl, o_lenc, o_abs, o_min, o_max, o_tupl, o_tupt, o_sll, fin_f, fn11, den_lc, it]
  refine wp_of_eq (lc_pure (g := fun d => some (.bl (pairLt d))) fun d hd => ?_) ?_
  · obtain ⟨a, ha, b, hb, rfl⟩ := mem_zipD hd
    have ia : isId a = true := by
      obtain ⟨x, hx, rfl⟩ := List.mem_map.mp ha
      exact h x hx
    have ib : isId b = true := by
      obtain ⟨x, hx, rfl⟩ := List.mem_map.mp (mem_cut hb)
      exact h x hx
    refine eq_of_wp ?_
    simp -implicitDefEqProofs only [exB_cons, exB_nil, exS_expr, exS_set, exS_setSub, exS_fz, exS_ife, exS_ret, exS_pass, den_nop, den_c, den_v, den_bin, den_neg, den_cmp, den_chain, den_and, den_or, den_not, den_ite, den_tup, den_lst, den_sub, den_rev, den_callv, exS_raise, exS_tryR, den_sl, den_call, den_blt, den_meth, denL_nil, denL_cons, WS_seq, WS_toS, WS_nx, WS_rt, WS_asB, WS_ite, WP_bind, WP_ok, WP_asB, WP_ite, bindP, setAll, List.set_cons_zero, List.set_cons_succ, List.getElem?_cons_zero, List.getElem?_cons_succ, decide_true, decide_false, if_true, if_false, Bool.false_eq_true, Bool.not_true, Bool.not_false, isNop, partR, o_add, o_sub, o_lt, o_le, o_gt, o_ge, o_eqi, o_nei, o_eqs, o_nes, o_in, o_notin, o_lent, o_lenl, o_lenc, o_abs, o_min, o_max, o_tupl, o_tupt, o_sll, fin_f, Pat.slots, Fk.wipe, WP_noErr]
    rw [cmp_id ia ib]
    simp [WP_ok, pairLt]
  · rw [List.nil_append, fm_some]
    (try simp -implicitDefEqProofs only [exB_cons, exB_nil, exS_expr, exS_set, exS_setSub, exS_fz, exS_ife, exS_ret, exS_pass, den_nop, den_c, den_v, den_bin, den_neg, den_cmp, den_chain, den_and, den_or, den_not, den_ite, den_tup, den_lst, den_sub, den_rev, den_callv, exS_raise, exS_tryR, den_sl, den_call, den_blt, den_meth, denL_nil, denL_cons, WS_seq, WS_toS, WS_nx, WS_rt, WS_asB, WS_ite, WP_bind, WP_ok, WP_asB, WP_ite, bindP, setAll, List.set_cons_zero, List.set_cons_succ, List.getElem?_cons_zero, List.getElem?_cons_succ, decide_true, decide_false, if_true, if_false, Bool.false_eq_true, Bool.not_true, Bool.not_false, isNop, partR, o_add, o_sub, o_lt, o_le, o_gt, o_ge, o_eqi, o_nei, o_eqs, o_nes, o_in, o_notin, o_lent, o_lenl, o_lenc, o_abs, o_min, o_max, o_tupl, o_tupt, o_sll, fin_f])
    have e : bltD .all false [.lst ((zipD (cs.map fstC) (cut (cs.map fstC) (some 1) none)).map fun d => D.bl (pairLt d))] s = .ok (.bl (rising cs)) s := by
      simp only [bltD, rd, bools, all_id]
      rw [← all_id, map_zipD, cut_map, List.zipWith_map]
      rfl
    rw [e]
    simp [WP_ok, D.top]
theorem cell_of {d : D} (h : isCell d = true) : isId (fstC d) = true := by
  unfold isCell at h
  split at h
  · rw [Bool.and_eq_true] at h; exact h.1
  · cases h
theorem sub0 {a : D} {r : List D} {s : St} : subD (.tup (a :: r)) (.int 0) s = .ok a s := by simp [subD, rd, atI, ixN]
theorem sub1 {a b : D} {r : List D} {s : St} : subD (.tup (a :: b :: r)) (.int 1) s = .ok b s := by
  have : (1 : Int) < ((a :: b :: r).length : Nat) := by simp; omega
  simp only [subD, rd, atI, ixN]
  rw [if_pos (by decide), if_pos this]
  rfl
theorem fst_ok {d : D} {s : St} (h : isCell d = true) : subD d (.int 0) s = .ok (fstC d) s := by
  unfold isCell at h
  split at h
  · exact sub0
  · cases h
theorem e_cells (n : Nat) {m : Nat} {d : D} (s : St) (h : th m d = true) : callF PP (n + 5) 13 [d] s = .ok (.bl (isCells d)) s := by
  have hk := th_kk h
  refine eq_of_wp ?_
  rw [callF_eq (fn := fn13) rfl rfl, WP_back]
  show WS (exB _ fn13.body [some d, none] s) _ _
  simp -implicitDefEqProofs only [exB_cons, exB_nil, exS_expr, exS_set, exS_setSub, exS_fz, exS_ife, exS_ret, exS_pass, den_nop, den_c, den_v, den_bin, den_neg, den_cmp, den_chain, den_and, den_or, den_not, den_ite, den_tup, den_lst, den_sub, den_rev, den_callv, exS_raise, exS_tryR, den_sl, den_call, den_blt, den_meth, denL_nil, denL_cons, WS_seq, WS_toS, WS_nx, WS_rt, WS_asB, WS_ite, WP_bind, WP_ok, WP_asB, WP_ite, bindP, setAll, List.set_cons_zero, List.set_cons_succ, List.getElem?_cons_zero, List.getElem?_cons_succ, decide_true, decide_false, if_true, if_false, Bool.false_eq_true, Bool.not_true, Bool.not_false, isNop, partR, o_add, o_sub, o_lt, o_le, o_gt, o_ge, o_eqi, o_nei, o_eqs, o_nes, o_in, o_notin, o_lent, o_lenl, o_lenc, o_abs, o_min, o_max, o_tupl, o_tupt, o_sll, fin_f, fn13, o_isin hk, isT_kk hk]
  cases d <;> first | (cases hk; done) | skip
  case tup cs =>
    have e1 : isT [] 3 (.tup cs) = true := rfl
    have ht := (th_tup h).2
    simp -implicitDefEqProofs only [exB_cons, exB_nil, exS_expr, exS_set, exS_setSub, exS_fz, exS_ife, exS_ret, exS_pass, den_nop, den_c, den_v, den_bin, den_neg, den_cmp, den_chain, den_and, den_or, den_not, den_ite, den_tup, den_lst, den_sub, den_rev, den_callv, exS_raise, exS_tryR, den_sl, den_call, den_blt, den_meth, denL_nil, denL_cons, WS_seq, WS_toS, WS_nx, WS_rt, WS_asB, WS_ite, WP_bind, WP_ok, WP_asB, WP_ite, bindP, setAll, List.set_cons_zero, List.set_cons_succ, List.getElem?_cons_zero, List.getElem?_cons_succ, decide_true, decide_false, if_true, if_false, Bool.false_eq_true, Bool.not_true, Bool.not_false, isNop, partR, o_add, o_sub, o_lt, o_le, o_gt, o_ge, o_eqi, o_nei, o_eqs, o_nes, o_in, o_notin, o_lent, o_lenl, o_lenc, o_abs, o_min, o_max, o_tupl, o_tupt, o_sll, fin_f, e1]
    by_cases c6 : (6 : Int) < cs.length
    · simp -implicitDefEqProofs only [exB_cons, exB_nil, exS_expr, exS_set, exS_setSub, exS_fz, exS_ife, exS_ret, exS_pass, den_nop, den_c, den_v, den_bin, den_neg, den_cmp, den_chain, den_and, den_or, den_not, den_ite, den_tup, den_lst, den_sub, den_rev, den_callv, exS_raise, exS_tryR, den_sl, den_call, den_blt, den_meth, denL_nil, denL_cons, WS_seq, WS_toS, WS_nx, WS_rt, WS_asB, WS_ite, WP_bind, WP_ok, WP_asB, WP_ite, bindP, setAll, List.set_cons_zero, List.set_cons_succ, List.getElem?_cons_zero, List.getElem?_cons_succ, decide_true, decide_false, if_true, if_false, Bool.false_eq_true, Bool.not_true, Bool.not_false, isNop, partR, o_add, o_sub, o_lt, o_le, o_gt, o_ge, o_eqi, o_nei, o_eqs, o_nes, o_in, o_notin, o_lent, o_lenl, o_lenc, o_abs, o_min, o_max, o_tupl, o_tupt, o_sll, fin_f, c6]
      have : ¬ cs.length ≤ 6 := by omega
      simp [isCells, this, D.top]
    · simp -implicitDefEqProofs only [exB_cons, exB_nil, exS_expr, exS_set, exS_setSub, exS_fz, exS_ife, exS_ret, exS_pass, den_nop, den_c, den_v, den_bin, den_neg, den_cmp, den_chain, den_and, den_or, den_not, den_ite, den_tup, den_lst, den_sub, den_rev, den_callv, exS_raise, exS_tryR, den_sl, den_call, den_blt, den_meth, denL_nil, denL_cons, WS_seq, WS_toS, WS_nx, WS_rt, WS_asB, WS_ite, WP_bind, WP_ok, WP_asB, WP_ite, bindP, setAll, List.set_cons_zero, List.set_cons_succ, List.getElem?_cons_zero, List.getElem?_cons_succ, decide_true, decide_false, if_true, if_false, Bool.false_eq_true, Bool.not_true, Bool.not_false, isNop, partR, o_add, o_sub, o_lt, o_le, o_gt, o_ge, o_eqi, o_nei, o_eqs, o_nes, o_in, o_notin, o_lent, o_lenl, o_lenc, o_abs, o_min, o_max, o_tupl, o_tupt, o_sll, fin_f, c6, den_lc, it_tup]
      have l6 : cs.length ≤ 6 := by omega
      refine wp_of_eq (lc_pure (g := fun d => some (.bl (isCell d))) fun d hd => ?_) ?_
      · refine eq_of_wp ?_
        simp -implicitDefEqProofs only [exB_cons, exB_nil, exS_expr, exS_set, exS_setSub, exS_fz, exS_ife, exS_ret, exS_pass, den_nop, den_c, den_v, den_bin, den_neg, den_cmp, den_chain, den_and, den_or, den_not, den_ite, den_tup, den_lst, den_sub, den_rev, den_callv, exS_raise, exS_tryR, den_sl, den_call, den_blt, den_meth, denL_nil, denL_cons, WS_seq, WS_toS, WS_nx, WS_rt, WS_asB, WS_ite, WP_bind, WP_ok, WP_asB, WP_ite, bindP, setAll, List.set_cons_zero, List.set_cons_succ, List.getElem?_cons_zero, List.getElem?_cons_succ, decide_true, decide_false, if_true, if_false, Bool.false_eq_true, Bool.not_true, Bool.not_false, isNop, partR, o_add, o_sub, o_lt, o_le, o_gt, o_ge, o_eqi, o_nei, o_eqs, o_nes, o_in, o_notin, o_lent, o_lenl, o_lenc, o_abs, o_min, o_max, o_tupl, o_tupt, o_sll, fin_f, Pat.slots, Fk.wipe, WP_noErr]
        have a1 := e_rowN (n + 3) (k := 2) s (th_kk (ht d hd))
        rw [show n + 4 = n + 3 + 1 from rfl, show Fk.D.int 2 = .int ((2 : Nat) : Int) from rfl, a1]
        simp -implicitDefEqProofs only [exB_cons, exB_nil, exS_expr, exS_set, exS_setSub, exS_fz, exS_ife, exS_ret, exS_pass, den_nop, den_c, den_v, den_bin, den_neg, den_cmp, den_chain, den_and, den_or, den_not, den_ite, den_tup, den_lst, den_sub, den_rev, den_callv, exS_raise, exS_tryR, den_sl, den_call, den_blt, den_meth, denL_nil, denL_cons, WS_seq, WS_toS, WS_nx, WS_rt, WS_asB, WS_ite, WP_bind, WP_ok, WP_asB, WP_ite, bindP, setAll, List.set_cons_zero, List.set_cons_succ, List.getElem?_cons_zero, List.getElem?_cons_succ, decide_true, decide_false, if_true, if_false, Bool.false_eq_true, Bool.not_true, Bool.not_false, isNop, partR, o_add, o_sub, o_lt, o_le, o_gt, o_ge, o_eqi, o_nei, o_eqs, o_nes, o_in, o_notin, o_lent, o_lenl, o_lenc, o_abs, o_min, o_max, o_tupl, o_tupt, o_sll, fin_f]
        cases hr : rowN 2 d
        · simp [WP_ok, rowN_no hr]
        · obtain ⟨a, b, rfl⟩ := rowN_of hr
          have hab := (th_tup (ht _ hd)).2
          simp -implicitDefEqProofs only [exB_cons, exB_nil, exS_expr, exS_set, exS_setSub, exS_fz, exS_ife, exS_ret, exS_pass, den_nop, den_c, den_v, den_bin, den_neg, den_cmp, den_chain, den_and, den_or, den_not, den_ite, den_tup, den_lst, den_sub, den_rev, den_callv, exS_raise, exS_tryR, den_sl, den_call, den_blt, den_meth, denL_nil, denL_cons, WS_seq, WS_toS, WS_nx, WS_rt, WS_asB, WS_ite, WP_bind, WP_ok, WP_asB, WP_ite, bindP, setAll, List.set_cons_zero, List.set_cons_succ, List.getElem?_cons_zero, List.getElem?_cons_succ, decide_true, decide_false, if_true, if_false, Bool.false_eq_true, Bool.not_true, Bool.not_false, isNop, partR, o_add, o_sub, o_lt, o_le, o_gt, o_ge, o_eqi, o_nei, o_eqs, o_nes, o_in, o_notin, o_lent, o_lenl, o_lenc, o_abs, o_min, o_max, o_tupl, o_tupt, o_sll, fin_f, sub0, sub1]
          rw [show n + 3 + 1 = n + 4 from rfl, e_id' n s (th_D (hab a (by simp)))]
          simp -implicitDefEqProofs only [exB_cons, exB_nil, exS_expr, exS_set, exS_setSub, exS_fz, exS_ife, exS_ret, exS_pass, den_nop, den_c, den_v, den_bin, den_neg, den_cmp, den_chain, den_and, den_or, den_not, den_ite, den_tup, den_lst, den_sub, den_rev, den_callv, exS_raise, exS_tryR, den_sl, den_call, den_blt, den_meth, denL_nil, denL_cons, WS_seq, WS_toS, WS_nx, WS_rt, WS_asB, WS_ite, WP_bind, WP_ok, WP_asB, WP_ite, bindP, setAll, List.set_cons_zero, List.set_cons_succ, List.getElem?_cons_zero, List.getElem?_cons_succ, decide_true, decide_false, if_true, if_false, Bool.false_eq_true, Bool.not_true, Bool.not_false, isNop, partR, o_add, o_sub, o_lt, o_le, o_gt, o_ge, o_eqi, o_nei, o_eqs, o_nes, o_in, o_notin, o_lent, o_lenl, o_lenc, o_abs, o_min, o_max, o_tupl, o_tupt, o_sll, fin_f]
          cases hi : isId a
          · simp [WP_ok, isCell, hi]
          · simp -implicitDefEqProofs only [exB_cons, exB_nil, exS_expr, exS_set, exS_setSub, exS_fz, exS_ife, exS_ret, exS_pass, den_nop, den_c, den_v, den_bin, den_neg, den_cmp, den_chain, den_and, den_or, den_not, den_ite, den_tup, den_lst, den_sub, den_rev, den_callv, exS_raise, exS_tryR, den_sl, den_call, den_blt, den_meth, denL_nil, denL_cons, WS_seq, WS_toS, WS_nx, WS_rt, WS_asB, WS_ite, WP_bind, WP_ok, WP_asB, WP_ite, bindP, setAll, List.set_cons_zero, List.set_cons_succ, List.getElem?_cons_zero, List.getElem?_cons_succ, decide_true, decide_false, if_true, if_false, Bool.false_eq_true, Bool.not_true, Bool.not_false, isNop, partR, o_add, o_sub, o_lt, o_le, o_gt, o_ge, o_eqi, o_nei, o_eqs, o_nes, o_in, o_notin, o_lent, o_lenl, o_lenc, o_abs, o_min, o_max, o_tupl, o_tupt, o_sll, fin_f, sub1]
            rw [show n + 4 = n + 2 + 2 from rfl, e_value' (n + 2) s (th_1 (hab b (by simp)))]
            simp [WP_ok, isCell, hi]
      · rw [List.nil_append, fm_some]
        (try simp -implicitDefEqProofs only [exB_cons, exB_nil, exS_expr, exS_set, exS_setSub, exS_fz, exS_ife, exS_ret, exS_pass, den_nop, den_c, den_v, den_bin, den_neg, den_cmp, den_chain, den_and, den_or, den_not, den_ite, den_tup, den_lst, den_sub, den_rev, den_callv, exS_raise, exS_tryR, den_sl, den_call, den_blt, den_meth, denL_nil, denL_cons, WS_seq, WS_toS, WS_nx, WS_rt, WS_asB, WS_ite, WP_bind, WP_ok, WP_asB, WP_ite, bindP, setAll, List.set_cons_zero, List.set_cons_succ, List.getElem?_cons_zero, List.getElem?_cons_succ, decide_true, decide_false, if_true, if_false, Bool.false_eq_true, Bool.not_true, Bool.not_false, isNop, partR, o_add, o_sub, o_lt, o_le, o_gt, o_ge, o_eqi, o_nei, o_eqs, o_nes, o_in, o_notin, o_lent, o_lenl, o_lenc, o_abs, o_min, o_max, o_tupl, o_tupt, o_sll, fin_f])
        have e : bltD .all false [.lst (cs.map fun d => D.bl (isCell d))] s = .ok (.bl (cs.all isCell)) s := by
          simp only [bltD, rd, bools, all_id]
        rw [e]
        simp -implicitDefEqProofs only [exB_cons, exB_nil, exS_expr, exS_set, exS_setSub, exS_fz, exS_ife, exS_ret, exS_pass, den_nop, den_c, den_v, den_bin, den_neg, den_cmp, den_chain, den_and, den_or, den_not, den_ite, den_tup, den_lst, den_sub, den_rev, den_callv, exS_raise, exS_tryR, den_sl, den_call, den_blt, den_meth, denL_nil, denL_cons, WS_seq, WS_toS, WS_nx, WS_rt, WS_asB, WS_ite, WP_bind, WP_ok, WP_asB, WP_ite, bindP, setAll, List.set_cons_zero, List.set_cons_succ, List.getElem?_cons_zero, List.getElem?_cons_succ, decide_true, decide_false, if_true, if_false, Bool.false_eq_true, Bool.not_true, Bool.not_false, isNop, partR, o_add, o_sub, o_lt, o_le, o_gt, o_ge, o_eqi, o_nei, o_eqs, o_nes, o_in, o_notin, o_lent, o_lenl, o_lenc, o_abs, o_min, o_max, o_tupl, o_tupt, o_sll, fin_f]
        cases ca : cs.all isCell
        · simp -implicitDefEqProofs only [exB_cons, exB_nil, exS_expr, exS_set, exS_setSub, exS_fz, exS_ife, exS_ret, exS_pass, den_nop, den_c, den_v, den_bin, den_neg, den_cmp, den_chain, den_and, den_or, den_not, den_ite, den_tup, den_lst, den_sub, den_rev, den_callv, exS_raise, exS_tryR, den_sl, den_call, den_blt, den_meth, denL_nil, denL_cons, WS_seq, WS_toS, WS_nx, WS_rt, WS_asB, WS_ite, WP_bind, WP_ok, WP_asB, WP_ite, bindP, setAll, List.set_cons_zero, List.set_cons_succ, List.getElem?_cons_zero, List.getElem?_cons_succ, decide_true, decide_false, if_true, if_false, Bool.false_eq_true, Bool.not_true, Bool.not_false, isNop, partR, o_add, o_sub, o_lt, o_le, o_gt, o_ge, o_eqi, o_nei, o_eqs, o_nes, o_in, o_notin, o_lent, o_lenl, o_lenc, o_abs, o_min, o_max, o_tupl, o_tupt, o_sll, fin_f]
          simp [isCells, ca, D.top]
        · simp -implicitDefEqProofs only [exB_cons, exB_nil, exS_expr, exS_set, exS_setSub, exS_fz, exS_ife, exS_ret, exS_pass, den_nop, den_c, den_v, den_bin, den_neg, den_cmp, den_chain, den_and, den_or, den_not, den_ite, den_tup, den_lst, den_sub, den_rev, den_callv, exS_raise, exS_tryR, den_sl, den_call, den_blt, den_meth, denL_nil, denL_cons, WS_seq, WS_toS, WS_nx, WS_rt, WS_asB, WS_ite, WP_bind, WP_ok, WP_asB, WP_ite, bindP, setAll, List.set_cons_zero, List.set_cons_succ, List.getElem?_cons_zero, List.getElem?_cons_succ, decide_true, decide_false, if_true, if_false, Bool.false_eq_true, Bool.not_true, Bool.not_false, isNop, partR, o_add, o_sub, o_lt, o_le, o_gt, o_ge, o_eqi, o_nei, o_eqs, o_nes, o_in, o_notin, o_lent, o_lenl, o_lenc, o_abs, o_min, o_max, o_tupl, o_tupt, o_sll, fin_f, den_lc, it_tup]
          have ca' := List.all_eq_true.mp ca
          refine wp_of_eq (lc_pure (g := fun d => some (fstC d)) fun d hd => ?_) ?_
          · refine eq_of_wp ?_
            simp -implicitDefEqProofs only [exB_cons, exB_nil, exS_expr, exS_set, exS_setSub, exS_fz, exS_ife, exS_ret, exS_pass, den_nop, den_c, den_v, den_bin, den_neg, den_cmp, den_chain, den_and, den_or, den_not, den_ite, den_tup, den_lst, den_sub, den_rev, den_callv, exS_raise, exS_tryR, den_sl, den_call, den_blt, den_meth, denL_nil, denL_cons, WS_seq, WS_toS, WS_nx, WS_rt, WS_asB, WS_ite, WP_bind, WP_ok, WP_asB, WP_ite, bindP, setAll, List.set_cons_zero, List.set_cons_succ, List.getElem?_cons_zero, List.getElem?_cons_succ, decide_true, decide_false, if_true, if_false, Bool.false_eq_true, Bool.not_true, Bool.not_false, isNop, partR, o_add, o_sub, o_lt, o_le, o_gt, o_ge, o_eqi, o_nei, o_eqs, o_nes, o_in, o_notin, o_lent, o_lenl, o_lenc, o_abs, o_min, o_max, o_tupl, o_tupt, o_sll, fin_f, Pat.slots, Fk.wipe, WP_noErr]
            rw [fst_ok (ca' d hd)]
            simp [WP_ok]
          · rw [List.nil_append, fm_some]
            (try simp -implicitDefEqProofs only [exB_cons, exB_nil, exS_expr, exS_set, exS_setSub, exS_fz, exS_ife, exS_ret, exS_pass, den_nop, den_c, den_v, den_bin, den_neg, den_cmp, den_chain, den_and, den_or, den_not, den_ite, den_tup, den_lst, den_sub, den_rev, den_callv, exS_raise, exS_tryR, den_sl, den_call, den_blt, den_meth, denL_nil, denL_cons, WS_seq, WS_toS, WS_nx, WS_rt, WS_asB, WS_ite, WP_bind, WP_ok, WP_asB, WP_ite, bindP, setAll, List.set_cons_zero, List.set_cons_succ, List.getElem?_cons_zero, List.getElem?_cons_succ, decide_true, decide_false, if_true, if_false, Bool.false_eq_true, Bool.not_true, Bool.not_false, isNop, partR, o_add, o_sub, o_lt, o_le, o_gt, o_ge, o_eqi, o_nei, o_eqs, o_nes, o_in, o_notin, o_lent, o_lenl, o_lenc, o_abs, o_min, o_max, o_tupl, o_tupt, o_sll, fin_f])
            rw [show n + 4 = n + 3 + 1 from rfl, e_rising (n + 3) s fun d hd => cell_of (ca' d hd)]
            have : decide (cs.length ≤ 6) = true := by simpa using l6
            simp [WP_ok, D.top, isCells, this, ca]
  all_goals simp [isT, rd, isCells, D.top, WP_ok, WS_rt]
end Lw_k37

set_option Elab.async false
set_option linter.all false
set_option autoImplicit false
set_option maxRecDepth 100000
set_option maxHeartbeats 4000000
namespace Lw_k37
open Fk
theorem o_lnil {ds : List D} {s : St} : cmpD .eq (.lst ds) (.lst []) s = .ok (.bl ds.isEmpty) s := by
  show (if flat (.lst ds) && flat (.lst []) && decide (depth (.lst ds) ≤ 60) && decide (depth (.lst []) ≤ 60) then R.ok (D.bl (eqv (.lst ds) (.lst []))) s else if lenNe (.lst ds) (.lst []) then R.ok (D.bl false) s else if tupE (.lst ds) (.lst []) then R.ok (D.bl false) s else .bad) = _
  cases ds with
  | nil => rfl
  | cons a as =>
    split
    · simp [eqv, eqvL]
    · simp [lenNe]
theorem o_tnil {ds : List D} {s : St} : cmpD .eq (.tup ds) (.tup []) s = .ok (.bl ds.isEmpty) s := by
  show (if flat (.tup ds) && flat (.tup []) && decide (depth (.tup ds) ≤ 60) && decide (depth (.tup []) ≤ 60) then R.ok (D.bl (eqv (.tup ds) (.tup []))) s else if lenNe (.tup ds) (.tup []) then R.ok (D.bl false) s else if tupE (.tup ds) (.tup []) then R.ok (D.bl false) s else .bad) = _
  cases ds with
  | nil => rfl
  | cons a as =>
    split
    · simp [eqv, eqvL]
    · simp [lenNe, tupE]
theorem none_all {α : Type} (p : α → Bool) : ∀ xs : List α, (xs.filter fun d => !p d).isEmpty = xs.all p
  | [] => rfl
  | x :: xs => by
    have := none_all p xs
    cases h : p x <;> simp [List.filter_cons, h, this]
theorem e_lwhole (n : Nat) {d : D} (s : St) (h : kk d = true) : callF PP (n + 1) 17 [d] s = .ok (.bl (isW d)) s := e_whole (P := PP) (f := 17) rfl n s h
theorem e_lword (n : Nat) {d : D} (s : St) (h : ok1 d = true) : callF PP (n + 1) 21 [d] s = .ok (.bl (isWord d)) s := by
  refine eq_of_wp ?_
  rw [callF_eq (fn := fn21) rfl rfl, WP_back]
  show WS (exB _ fn21.body [some d, none] s) _ _
  have hk := ok1_kk h
  simp -implicitDefEqProofs only [exB_cons, exB_nil, exS_expr, exS_set, exS_setSub, exS_fz, exS_ife, exS_ret, exS_pass, den_nop, den_c, den_v, den_bin, den_neg, den_cmp, den_chain, den_and, den_or, den_not, den_ite, den_tup, den_lst, den_sub, den_rev, den_callv, exS_raise, exS_tryR, den_sl, den_call, den_blt, den_meth, denL_nil, denL_cons, WS_seq, WS_toS, WS_nx, WS_rt, WS_asB, WS_ite, WP_bind, WP_ok, WP_asB, WP_ite, bindP, setAll, List.set_cons_zero, List.set_cons_succ, List.getElem?_cons_zero, List.getElem?_cons_succ, decide_true, decide_false, if_true, if_false, Bool.false_eq_true, Bool.not_true, Bool.not_false, isNop, partR, o_add, o_sub, o_lt, o_le, o_gt, o_ge, o_eqi, o_nei, o_eqs, o_nes, o_in, o_notin, o_lent, o_lenl, o_lenc, o_abs, o_min, o_max, o_tupl, o_tupt, o_sll, fin_f, fn21, o_isin hk, isT_kk hk]
  cases d <;> first | (cases hk; done) | skip
  case str z =>
    have hz := ok1_str h
    have e1 : isT [] 2 (.str z) = true := rfl
    simp -implicitDefEqProofs only [exB_cons, exB_nil, exS_expr, exS_set, exS_setSub, exS_fz, exS_ife, exS_ret, exS_pass, den_nop, den_c, den_v, den_bin, den_neg, den_cmp, den_chain, den_and, den_or, den_not, den_ite, den_tup, den_lst, den_sub, den_rev, den_callv, exS_raise, exS_tryR, den_sl, den_call, den_blt, den_meth, denL_nil, denL_cons, WS_seq, WS_toS, WS_nx, WS_rt, WS_asB, WS_ite, WP_bind, WP_ok, WP_asB, WP_ite, bindP, setAll, List.set_cons_zero, List.set_cons_succ, List.getElem?_cons_zero, List.getElem?_cons_succ, decide_true, decide_false, if_true, if_false, Bool.false_eq_true, Bool.not_true, Bool.not_false, isNop, partR, o_add, o_sub, o_lt, o_le, o_gt, o_ge, o_eqi, o_nei, o_eqs, o_nes, o_in, o_notin, o_lent, o_lenl, o_lenc, o_abs, o_min, o_max, o_tupl, o_tupt, o_sll, fin_f, e1, o_lens hz]
    by_cases c1 : (1 : Int) ≤ z.length
    · simp -implicitDefEqProofs only [exB_cons, exB_nil, exS_expr, exS_set, exS_setSub, exS_fz, exS_ife, exS_ret, exS_pass, den_nop, den_c, den_v, den_bin, den_neg, den_cmp, den_chain, den_and, den_or, den_not, den_ite, den_tup, den_lst, den_sub, den_rev, den_callv, exS_raise, exS_tryR, den_sl, den_call, den_blt, den_meth, denL_nil, denL_cons, WS_seq, WS_toS, WS_nx, WS_rt, WS_asB, WS_ite, WP_bind, WP_ok, WP_asB, WP_ite, bindP, setAll, List.set_cons_zero, List.set_cons_succ, List.getElem?_cons_zero, List.getElem?_cons_succ, decide_true, decide_false, if_true, if_false, Bool.false_eq_true, Bool.not_true, Bool.not_false, isNop, partR, o_add, o_sub, o_lt, o_le, o_gt, o_ge, o_eqi, o_nei, o_eqs, o_nes, o_in, o_notin, o_lent, o_lenl, o_lenc, o_abs, o_min, o_max, o_tupl, o_tupt, o_sll, fin_f, c1]
      by_cases c2 : (z.length : Int) ≤ 8
      · simp -implicitDefEqProofs only [exB_cons, exB_nil, exS_expr, exS_set, exS_setSub, exS_fz, exS_ife, exS_ret, exS_pass, den_nop, den_c, den_v, den_bin, den_neg, den_cmp, den_chain, den_and, den_or, den_not, den_ite, den_tup, den_lst, den_sub, den_rev, den_callv, exS_raise, exS_tryR, den_sl, den_call, den_blt, den_meth, denL_nil, denL_cons, WS_seq, WS_toS, WS_nx, WS_rt, WS_asB, WS_ite, WP_bind, WP_ok, WP_asB, WP_ite, bindP, setAll, List.set_cons_zero, List.set_cons_succ, List.getElem?_cons_zero, List.getElem?_cons_succ, decide_true, decide_false, if_true, if_false, Bool.false_eq_true, Bool.not_true, Bool.not_false, isNop, partR, o_add, o_sub, o_lt, o_le, o_gt, o_ge, o_eqi, o_nei, o_eqs, o_nes, o_in, o_notin, o_lent, o_lenl, o_lenc, o_abs, o_min, o_max, o_tupl, o_tupt, o_sll, fin_f, c2, den_lc, it_str hz]
        refine wp_of_eq (lc_map (g := fun c => if !LS.contains c then some (.int 1) else Option.none) fun c hc => ?_) ?_
        · refine eq_of_wp ?_
          simp -implicitDefEqProofs only [exB_cons, exB_nil, exS_expr, exS_set, exS_setSub, exS_fz, exS_ife, exS_ret, exS_pass, den_nop, den_c, den_v, den_bin, den_neg, den_cmp, den_chain, den_and, den_or, den_not, den_ite, den_tup, den_lst, den_sub, den_rev, den_callv, exS_raise, exS_tryR, den_sl, den_call, den_blt, den_meth, denL_nil, denL_cons, WS_seq, WS_toS, WS_nx, WS_rt, WS_asB, WS_ite, WP_bind, WP_ok, WP_asB, WP_ite, bindP, setAll, List.set_cons_zero, List.set_cons_succ, List.getElem?_cons_zero, List.getElem?_cons_succ, decide_true, decide_false, if_true, if_false, Bool.false_eq_true, Bool.not_true, Bool.not_false, isNop, partR, o_add, o_sub, o_lt, o_le, o_gt, o_ge, o_eqi, o_nei, o_eqs, o_nes, o_in, o_notin, o_lent, o_lenl, o_lenc, o_abs, o_min, o_max, o_tupl, o_tupt, o_sll, fin_f, chD, Pat.slots, Fk.wipe, WP_noErr]
          show if (!LS.contains c) = true then _ else _
          cases hh : LS.contains c <;> simp [hh, WP_ok]
        · rw [fm_if (f := fun _ => D.int 1), List.nil_append]
          simp -implicitDefEqProofs only [exB_cons, exB_nil, exS_expr, exS_set, exS_setSub, exS_fz, exS_ife, exS_ret, exS_pass, den_nop, den_c, den_v, den_bin, den_neg, den_cmp, den_chain, den_and, den_or, den_not, den_ite, den_tup, den_lst, den_sub, den_rev, den_callv, exS_raise, exS_tryR, den_sl, den_call, den_blt, den_meth, denL_nil, denL_cons, WS_seq, WS_toS, WS_nx, WS_rt, WS_asB, WS_ite, WP_bind, WP_ok, WP_asB, WP_ite, bindP, setAll, List.set_cons_zero, List.set_cons_succ, List.getElem?_cons_zero, List.getElem?_cons_succ, decide_true, decide_false, if_true, if_false, Bool.false_eq_true, Bool.not_true, Bool.not_false, isNop, partR, o_add, o_sub, o_lt, o_le, o_gt, o_ge, o_eqi, o_nei, o_eqs, o_nes, o_in, o_notin, o_lent, o_lenl, o_lenc, o_abs, o_min, o_max, o_tupl, o_tupt, o_sll, fin_f, o_lnil]
          have a1 : 1 ≤ z.length := by omega
          have a2 : z.length ≤ 8 := by omega
          have e3 := none_all (fun c => LS.contains c) z
          have e4 : ((z.filter fun c => !LS.contains c).map fun _ => D.int 1).isEmpty = z.all fun c => LS.contains c := by rw [← e3]; cases (z.filter fun c => !LS.contains c) <;> rfl
          rw [e4]
          simp [isWord, a1, a2, D.top]
      · simp -implicitDefEqProofs only [exB_cons, exB_nil, exS_expr, exS_set, exS_setSub, exS_fz, exS_ife, exS_ret, exS_pass, den_nop, den_c, den_v, den_bin, den_neg, den_cmp, den_chain, den_and, den_or, den_not, den_ite, den_tup, den_lst, den_sub, den_rev, den_callv, exS_raise, exS_tryR, den_sl, den_call, den_blt, den_meth, denL_nil, denL_cons, WS_seq, WS_toS, WS_nx, WS_rt, WS_asB, WS_ite, WP_bind, WP_ok, WP_asB, WP_ite, bindP, setAll, List.set_cons_zero, List.set_cons_succ, List.getElem?_cons_zero, List.getElem?_cons_succ, decide_true, decide_false, if_true, if_false, Bool.false_eq_true, Bool.not_true, Bool.not_false, isNop, partR, o_add, o_sub, o_lt, o_le, o_gt, o_ge, o_eqi, o_nei, o_eqs, o_nes, o_in, o_notin, o_lent, o_lenl, o_lenc, o_abs, o_min, o_max, o_tupl, o_tupt, o_sll, fin_f, c2]
        have a2 : ¬ z.length ≤ 8 := by omega
        simp [isWord, a2, D.top]
    · simp -implicitDefEqProofs only [exB_cons, exB_nil, exS_expr, exS_set, exS_setSub, exS_fz, exS_ife, exS_ret, exS_pass, den_nop, den_c, den_v, den_bin, den_neg, den_cmp, den_chain, den_and, den_or, den_not, den_ite, den_tup, den_lst, den_sub, den_rev, den_callv, exS_raise, exS_tryR, den_sl, den_call, den_blt, den_meth, denL_nil, denL_cons, WS_seq, WS_toS, WS_nx, WS_rt, WS_asB, WS_ite, WP_bind, WP_ok, WP_asB, WP_ite, bindP, setAll, List.set_cons_zero, List.set_cons_succ, List.getElem?_cons_zero, List.getElem?_cons_succ, decide_true, decide_false, if_true, if_false, Bool.false_eq_true, Bool.not_true, Bool.not_false, isNop, partR, o_add, o_sub, o_lt, o_le, o_gt, o_ge, o_eqi, o_nei, o_eqs, o_nes, o_in, o_notin, o_lent, o_lenl, o_lenc, o_abs, o_min, o_max, o_tupl, o_tupt, o_sll, fin_f, c1]
      have a1 : ¬ 1 ≤ z.length := by omega
      simp [isWord, a1, D.top]
  all_goals simp [isT, rd, isWord, D.top, WP_ok, WS_rt]
theorem e_lname (n : Nat) {d : D} (s : St) (h : ok1 d = true) : callF PP (n + 2) 22 [d] s = .ok (.bl (isName d)) s := by
  refine eq_of_wp ?_
  rw [callF_eq (fn := fn22) rfl rfl, WP_back]
  show WS (exB _ fn22.body [some d] s) _ _
  simp -implicitDefEqProofs only [exB_cons, exB_nil, exS_expr, exS_set, exS_setSub, exS_fz, exS_ife, exS_ret, exS_pass, den_nop, den_c, den_v, den_bin, den_neg, den_cmp, den_chain, den_and, den_or, den_not, den_ite, den_tup, den_lst, den_sub, den_rev, den_callv, exS_raise, exS_tryR, den_sl, den_call, den_blt, den_meth, denL_nil, denL_cons, WS_seq, WS_toS, WS_nx, WS_rt, WS_asB, WS_ite, WP_bind, WP_ok, WP_asB, WP_ite, bindP, setAll, List.set_cons_zero, List.set_cons_succ, List.getElem?_cons_zero, List.getElem?_cons_succ, decide_true, decide_false, if_true, if_false, Bool.false_eq_true, Bool.not_true, Bool.not_false, isNop, partR, o_add, o_sub, o_lt, o_le, o_gt, o_ge, o_eqi, o_nei, o_eqs, o_nes, o_in, o_notin, o_lent, o_lenl, o_lenc, o_abs, o_min, o_max, o_tupl, o_tupt, o_sll, fin_f, fn22, e_lword n s h]
  cases d <;> first | (simp [isWord, isName, WP_ok, D.top]; done) | skip
  rename_i z
  cases q : isWord (.str z)
  · simp [isName, q, WP_ok, D.top]
  · simp -implicitDefEqProofs only [exB_cons, exB_nil, exS_expr, exS_set, exS_setSub, exS_fz, exS_ife, exS_ret, exS_pass, den_nop, den_c, den_v, den_bin, den_neg, den_cmp, den_chain, den_and, den_or, den_not, den_ite, den_tup, den_lst, den_sub, den_rev, den_callv, exS_raise, exS_tryR, den_sl, den_call, den_blt, den_meth, denL_nil, denL_cons, WS_seq, WS_toS, WS_nx, WS_rt, WS_asB, WS_ite, WP_bind, WP_ok, WP_asB, WP_ite, bindP, setAll, List.set_cons_zero, List.set_cons_succ, List.getElem?_cons_zero, List.getElem?_cons_succ, decide_true, decide_false, if_true, if_false, Bool.false_eq_true, Bool.not_true, Bool.not_false, isNop, partR, o_add, o_sub, o_lt, o_le, o_gt, o_ge, o_eqi, o_nei, o_eqs, o_nes, o_in, o_notin, o_lent, o_lenl, o_lenc, o_abs, o_min, o_max, o_tupl, o_tupt, o_sll, fin_f]
    simp [isName, q, WP_ok, D.top, KEY]
def btw (lo hi : Int) : D → Bool
  | .int i => decide (lo ≤ i) && decide (i ≤ hi)
  | _ => false
theorem e_btw (n : Nat) {d : D} {lo hi : Int} (s : St) (h : kk d = true) : callF PP (n + 2) 23 [d, .int lo, .int hi] s = .ok (.bl (btw lo hi d)) s := by
  refine eq_of_wp ?_
  rw [callF_eq (fn := fn23) rfl rfl, WP_back]
  show WS (exB _ fn23.body [some d, some (.int lo), some (.int hi)] s) _ _
  simp -implicitDefEqProofs only [exB_cons, exB_nil, exS_expr, exS_set, exS_setSub, exS_fz, exS_ife, exS_ret, exS_pass, den_nop, den_c, den_v, den_bin, den_neg, den_cmp, den_chain, den_and, den_or, den_not, den_ite, den_tup, den_lst, den_sub, den_rev, den_callv, exS_raise, exS_tryR, den_sl, den_call, den_blt, den_meth, denL_nil, denL_cons, WS_seq, WS_toS, WS_nx, WS_rt, WS_asB, WS_ite, WP_bind, WP_ok, WP_asB, WP_ite, bindP, setAll, List.set_cons_zero, List.set_cons_succ, List.getElem?_cons_zero, List.getElem?_cons_succ, decide_true, decide_false, if_true, if_false, Bool.false_eq_true, Bool.not_true, Bool.not_false, isNop, partR, o_add, o_sub, o_lt, o_le, o_gt, o_ge, o_eqi, o_nei, o_eqs, o_nes, o_in, o_notin, o_lent, o_lenl, o_lenc, o_abs, o_min, o_max, o_tupl, o_tupt, o_sll, fin_f, fn23, e_lwhole n s h]
  cases d <;> first | (cases h; done) | skip
  case int i =>
    simp -implicitDefEqProofs only [exB_cons, exB_nil, exS_expr, exS_set, exS_setSub, exS_fz, exS_ife, exS_ret, exS_pass, den_nop, den_c, den_v, den_bin, den_neg, den_cmp, den_chain, den_and, den_or, den_not, den_ite, den_tup, den_lst, den_sub, den_rev, den_callv, exS_raise, exS_tryR, den_sl, den_call, den_blt, den_meth, denL_nil, denL_cons, WS_seq, WS_toS, WS_nx, WS_rt, WS_asB, WS_ite, WP_bind, WP_ok, WP_asB, WP_ite, bindP, setAll, List.set_cons_zero, List.set_cons_succ, List.getElem?_cons_zero, List.getElem?_cons_succ, decide_true, decide_false, if_true, if_false, Bool.false_eq_true, Bool.not_true, Bool.not_false, isNop, partR, o_add, o_sub, o_lt, o_le, o_gt, o_ge, o_eqi, o_nei, o_eqs, o_nes, o_in, o_notin, o_lent, o_lenl, o_lenc, o_abs, o_min, o_max, o_tupl, o_tupt, o_sll, fin_f, isW]
    by_cases c : lo ≤ i
    · simp -implicitDefEqProofs only [exB_cons, exB_nil, exS_expr, exS_set, exS_setSub, exS_fz, exS_ife, exS_ret, exS_pass, den_nop, den_c, den_v, den_bin, den_neg, den_cmp, den_chain, den_and, den_or, den_not, den_ite, den_tup, den_lst, den_sub, den_rev, den_callv, exS_raise, exS_tryR, den_sl, den_call, den_blt, den_meth, denL_nil, denL_cons, WS_seq, WS_toS, WS_nx, WS_rt, WS_asB, WS_ite, WP_bind, WP_ok, WP_asB, WP_ite, bindP, setAll, List.set_cons_zero, List.set_cons_succ, List.getElem?_cons_zero, List.getElem?_cons_succ, decide_true, decide_false, if_true, if_false, Bool.false_eq_true, Bool.not_true, Bool.not_false, isNop, partR, o_add, o_sub, o_lt, o_le, o_gt, o_ge, o_eqi, o_nei, o_eqs, o_nes, o_in, o_notin, o_lent, o_lenl, o_lenc, o_abs, o_min, o_max, o_tupl, o_tupt, o_sll, fin_f, c]
      simp [btw, c, D.top]
    · simp -implicitDefEqProofs only [exB_cons, exB_nil, exS_expr, exS_set, exS_setSub, exS_fz, exS_ife, exS_ret, exS_pass, den_nop, den_c, den_v, den_bin, den_neg, den_cmp, den_chain, den_and, den_or, den_not, den_ite, den_tup, den_lst, den_sub, den_rev, den_callv, exS_raise, exS_tryR, den_sl, den_call, den_blt, den_meth, denL_nil, denL_cons, WS_seq, WS_toS, WS_nx, WS_rt, WS_asB, WS_ite, WP_bind, WP_ok, WP_asB, WP_ite, bindP, setAll, List.set_cons_zero, List.set_cons_succ, List.getElem?_cons_zero, List.getElem?_cons_succ, decide_true, decide_false, if_true, if_false, Bool.false_eq_true, Bool.not_true, Bool.not_false, isNop, partR, o_add, o_sub, o_lt, o_le, o_gt, o_ge, o_eqi, o_nei, o_eqs, o_nes, o_in, o_notin, o_lent, o_lenl, o_lenc, o_abs, o_min, o_max, o_tupl, o_tupt, o_sll, fin_f, c]
      simp [btw, c, D.top]
  all_goals simp [isW, btw, WP_ok, D.top]
theorem btw_below {hi : Int} : ∀ d : D, btw 0 hi d = below d (hi + 1)
  | .int i => by
    simp only [btw, below]
    by_cases c : (0 : Int) ≤ i
    · simp [c]
      by_cases c2 : i ≤ hi
      · simp [c2]; omega
      · simp [c2]; omega
    · simp [c]
  | .none => rfl | .bl _ => rfl | .str _ => rfl | .tup _ => rfl | .lst _ => rfl | .dic _ _ => rfl | .set _ => rfl | .scr _ => rfl | .ref _ => rfl | .fn _ => rfl | .ty _ => rfl | .tab _ _ => rfl
theorem btw_near : ∀ d : D, btw (-1000000000) 1000000000 d = near d
  | .int i => rfl
  | .none => rfl | .bl _ => rfl | .str _ => rfl | .tup _ => rfl | .lst _ => rfl | .dic _ _ => rfl | .set _ => rfl | .scr _ => rfl | .ref _ => rfl | .fn _ => rfl | .ty _ => rfl | .tab _ _ => rfl
theorem e_lvalue (n : Nat) {d : D} (s : St) (h : ok1 d = true) : callF PP (n + 3) 24 [d] s = .ok (.bl (isValue d)) s := by
  refine eq_of_wp ?_
  rw [callF_eq (fn := fn24) rfl rfl, WP_back]
  show WS (exB _ fn24.body [some d] s) _ _
  simp -implicitDefEqProofs only [exB_cons, exB_nil, exS_expr, exS_set, exS_setSub, exS_fz, exS_ife, exS_ret, exS_pass, den_nop, den_c, den_v, den_bin, den_neg, den_cmp, den_chain, den_and, den_or, den_not, den_ite, den_tup, den_lst, den_sub, den_rev, den_callv, exS_raise, exS_tryR, den_sl, den_call, den_blt, den_meth, denL_nil, denL_cons, WS_seq, WS_toS, WS_nx, WS_rt, WS_asB, WS_ite, WP_bind, WP_ok, WP_asB, WP_ite, bindP, setAll, List.set_cons_zero, List.set_cons_succ, List.getElem?_cons_zero, List.getElem?_cons_succ, decide_true, decide_false, if_true, if_false, Bool.false_eq_true, Bool.not_true, Bool.not_false, isNop, partR, o_add, o_sub, o_lt, o_le, o_gt, o_ge, o_eqi, o_nei, o_eqs, o_nes, o_in, o_notin, o_lent, o_lenl, o_lenc, o_abs, o_min, o_max, o_tupl, o_tupt, o_sll, fin_f, fn24]
  rw [show n + 2 = n + 1 + 1 from rfl, e_lword (n + 1) s h]
  simp -implicitDefEqProofs only [exB_cons, exB_nil, exS_expr, exS_set, exS_setSub, exS_fz, exS_ife, exS_ret, exS_pass, den_nop, den_c, den_v, den_bin, den_neg, den_cmp, den_chain, den_and, den_or, den_not, den_ite, den_tup, den_lst, den_sub, den_rev, den_callv, exS_raise, exS_tryR, den_sl, den_call, den_blt, den_meth, denL_nil, denL_cons, WS_seq, WS_toS, WS_nx, WS_rt, WS_asB, WS_ite, WP_bind, WP_ok, WP_asB, WP_ite, bindP, setAll, List.set_cons_zero, List.set_cons_succ, List.getElem?_cons_zero, List.getElem?_cons_succ, decide_true, decide_false, if_true, if_false, Bool.false_eq_true, Bool.not_true, Bool.not_false, isNop, partR, o_add, o_sub, o_lt, o_le, o_gt, o_ge, o_eqi, o_nei, o_eqs, o_nes, o_in, o_notin, o_lent, o_lenl, o_lenc, o_abs, o_min, o_max, o_tupl, o_tupt, o_sll, fin_f]
  cases q : isWord d
  · simp -implicitDefEqProofs only [exB_cons, exB_nil, exS_expr, exS_set, exS_setSub, exS_fz, exS_ife, exS_ret, exS_pass, den_nop, den_c, den_v, den_bin, den_neg, den_cmp, den_chain, den_and, den_or, den_not, den_ite, den_tup, den_lst, den_sub, den_rev, den_callv, exS_raise, exS_tryR, den_sl, den_call, den_blt, den_meth, denL_nil, denL_cons, WS_seq, WS_toS, WS_nx, WS_rt, WS_asB, WS_ite, WP_bind, WP_ok, WP_asB, WP_ite, bindP, setAll, List.set_cons_zero, List.set_cons_succ, List.getElem?_cons_zero, List.getElem?_cons_succ, decide_true, decide_false, if_true, if_false, Bool.false_eq_true, Bool.not_true, Bool.not_false, isNop, partR, o_add, o_sub, o_lt, o_le, o_gt, o_ge, o_eqi, o_nei, o_eqs, o_nes, o_in, o_notin, o_lent, o_lenl, o_lenc, o_abs, o_min, o_max, o_tupl, o_tupt, o_sll, fin_f, cP9]
    rw [show n + 1 + 1 = n + 2 from rfl, e_btw n s (ok1_kk h)]
    simp [WP_ok, isValue, q, D.top, btw_near]
  · simp [WP_ok, isValue, q, D.top]
theorem e_lid (n : Nat) {d : D} (s : St) (h : okD d = true) : callF PP (n + 3) 25 [d] s = .ok (.bl (isId d)) s := by
  refine eq_of_wp ?_
  rw [callF_eq (fn := fn25) rfl rfl, WP_back]
  show WS (exB _ fn25.body [some d] s) _ _
  have hk := ok1_kk (okD_1 h)
  simp -implicitDefEqProofs only [exB_cons, exB_nil, exS_expr, exS_set, exS_setSub, exS_fz, exS_ife, exS_ret, exS_pass, den_nop, den_c, den_v, den_bin, den_neg, den_cmp, den_chain, den_and, den_or, den_not, den_ite, den_tup, den_lst, den_sub, den_rev, den_callv, exS_raise, exS_tryR, den_sl, den_call, den_blt, den_meth, denL_nil, denL_cons, WS_seq, WS_toS, WS_nx, WS_rt, WS_asB, WS_ite, WP_bind, WP_ok, WP_asB, WP_ite, bindP, setAll, List.set_cons_zero, List.set_cons_succ, List.getElem?_cons_zero, List.getElem?_cons_succ, decide_true, decide_false, if_true, if_false, Bool.false_eq_true, Bool.not_true, Bool.not_false, isNop, partR, o_add, o_sub, o_lt, o_le, o_gt, o_ge, o_eqi, o_nei, o_eqs, o_nes, o_in, o_notin, o_lent, o_lenl, o_lenc, o_abs, o_min, o_max, o_tupl, o_tupt, o_sll, fin_f, fn25, o_isin hk, isT_kk hk]
  cases d <;> first | (cases hk; done) | skip
  case tup ds =>
    have e1 : isT [] 3 (.tup ds) = true := rfl
    simp -implicitDefEqProofs only [exB_cons, exB_nil, exS_expr, exS_set, exS_setSub, exS_fz, exS_ife, exS_ret, exS_pass, den_nop, den_c, den_v, den_bin, den_neg, den_cmp, den_chain, den_and, den_or, den_not, den_ite, den_tup, den_lst, den_sub, den_rev, den_callv, exS_raise, exS_tryR, den_sl, den_call, den_blt, den_meth, denL_nil, denL_cons, WS_seq, WS_toS, WS_nx, WS_rt, WS_asB, WS_ite, WP_bind, WP_ok, WP_asB, WP_ite, bindP, setAll, List.set_cons_zero, List.set_cons_succ, List.getElem?_cons_zero, List.getElem?_cons_succ, decide_true, decide_false, if_true, if_false, Bool.false_eq_true, Bool.not_true, Bool.not_false, isNop, partR, o_add, o_sub, o_lt, o_le, o_gt, o_ge, o_eqi, o_nei, o_eqs, o_nes, o_in, o_notin, o_lent, o_lenl, o_lenc, o_abs, o_min, o_max, o_tupl, o_tupt, o_sll, fin_f, e1]
    by_cases c : ds.length = 3
    · have cc : ((ds.length : Int) == 3) = true := by simp [c]
      obtain ⟨a, b, k, rfl⟩ := row3_of (ds := ds) (by simp [row3, c])
      have ha := okD_t h a (by simp)
      have hb := okD_t h b (by simp)
      have hc := okD_t h k (by simp)
      have i0 : subD (.tup [a, b, k]) (.int 0) s = .ok a s := rfl
      have i1 : subD (.tup [a, b, k]) (.int 1) s = .ok b s := rfl
      have i2 : subD (.tup [a, b, k]) (.int 2) s = .ok k s := rfl
      simp -implicitDefEqProofs only [exB_cons, exB_nil, exS_expr, exS_set, exS_setSub, exS_fz, exS_ife, exS_ret, exS_pass, den_nop, den_c, den_v, den_bin, den_neg, den_cmp, den_chain, den_and, den_or, den_not, den_ite, den_tup, den_lst, den_sub, den_rev, den_callv, exS_raise, exS_tryR, den_sl, den_call, den_blt, den_meth, denL_nil, denL_cons, WS_seq, WS_toS, WS_nx, WS_rt, WS_asB, WS_ite, WP_bind, WP_ok, WP_asB, WP_ite, bindP, setAll, List.set_cons_zero, List.set_cons_succ, List.getElem?_cons_zero, List.getElem?_cons_succ, decide_true, decide_false, if_true, if_false, Bool.false_eq_true, Bool.not_true, Bool.not_false, isNop, partR, o_add, o_sub, o_lt, o_le, o_gt, o_ge, o_eqi, o_nei, o_eqs, o_nes, o_in, o_notin, o_lent, o_lenl, o_lenc, o_abs, o_min, o_max, o_tupl, o_tupt, o_sll, fin_f, cc, i0]
      rw [e_btw n s (ok1_kk ha), btw_below]
      simp -implicitDefEqProofs only [exB_cons, exB_nil, exS_expr, exS_set, exS_setSub, exS_fz, exS_ife, exS_ret, exS_pass, den_nop, den_c, den_v, den_bin, den_neg, den_cmp, den_chain, den_and, den_or, den_not, den_ite, den_tup, den_lst, den_sub, den_rev, den_callv, exS_raise, exS_tryR, den_sl, den_call, den_blt, den_meth, denL_nil, denL_cons, WS_seq, WS_toS, WS_nx, WS_rt, WS_asB, WS_ite, WP_bind, WP_ok, WP_asB, WP_ite, bindP, setAll, List.set_cons_zero, List.set_cons_succ, List.getElem?_cons_zero, List.getElem?_cons_succ, decide_true, decide_false, if_true, if_false, Bool.false_eq_true, Bool.not_true, Bool.not_false, isNop, partR, o_add, o_sub, o_lt, o_le, o_gt, o_ge, o_eqi, o_nei, o_eqs, o_nes, o_in, o_notin, o_lent, o_lenl, o_lenc, o_abs, o_min, o_max, o_tupl, o_tupt, o_sll, fin_f]
      cases q0 : below a (7 + 1)
      · have q0' : below a 8 = false := q0
        simp [isId, q0', WP_ok, D.top]
      · have q0' : below a 8 = true := q0
        simp -implicitDefEqProofs only [exB_cons, exB_nil, exS_expr, exS_set, exS_setSub, exS_fz, exS_ife, exS_ret, exS_pass, den_nop, den_c, den_v, den_bin, den_neg, den_cmp, den_chain, den_and, den_or, den_not, den_ite, den_tup, den_lst, den_sub, den_rev, den_callv, exS_raise, exS_tryR, den_sl, den_call, den_blt, den_meth, denL_nil, denL_cons, WS_seq, WS_toS, WS_nx, WS_rt, WS_asB, WS_ite, WP_bind, WP_ok, WP_asB, WP_ite, bindP, setAll, List.set_cons_zero, List.set_cons_succ, List.getElem?_cons_zero, List.getElem?_cons_succ, decide_true, decide_false, if_true, if_false, Bool.false_eq_true, Bool.not_true, Bool.not_false, isNop, partR, o_add, o_sub, o_lt, o_le, o_gt, o_ge, o_eqi, o_nei, o_eqs, o_nes, o_in, o_notin, o_lent, o_lenl, o_lenc, o_abs, o_min, o_max, o_tupl, o_tupt, o_sll, fin_f, i1]
        rw [e_lname n s hb]
        simp -implicitDefEqProofs only [exB_cons, exB_nil, exS_expr, exS_set, exS_setSub, exS_fz, exS_ife, exS_ret, exS_pass, den_nop, den_c, den_v, den_bin, den_neg, den_cmp, den_chain, den_and, den_or, den_not, den_ite, den_tup, den_lst, den_sub, den_rev, den_callv, exS_raise, exS_tryR, den_sl, den_call, den_blt, den_meth, denL_nil, denL_cons, WS_seq, WS_toS, WS_nx, WS_rt, WS_asB, WS_ite, WP_bind, WP_ok, WP_asB, WP_ite, bindP, setAll, List.set_cons_zero, List.set_cons_succ, List.getElem?_cons_zero, List.getElem?_cons_succ, decide_true, decide_false, if_true, if_false, Bool.false_eq_true, Bool.not_true, Bool.not_false, isNop, partR, o_add, o_sub, o_lt, o_le, o_gt, o_ge, o_eqi, o_nei, o_eqs, o_nes, o_in, o_notin, o_lent, o_lenl, o_lenc, o_abs, o_min, o_max, o_tupl, o_tupt, o_sll, fin_f]
        cases q1 : isName b
        · simp [isId, q0', q1, WP_ok, D.top]
        · simp -implicitDefEqProofs only [exB_cons, exB_nil, exS_expr, exS_set, exS_setSub, exS_fz, exS_ife, exS_ret, exS_pass, den_nop, den_c, den_v, den_bin, den_neg, den_cmp, den_chain, den_and, den_or, den_not, den_ite, den_tup, den_lst, den_sub, den_rev, den_callv, exS_raise, exS_tryR, den_sl, den_call, den_blt, den_meth, denL_nil, denL_cons, WS_seq, WS_toS, WS_nx, WS_rt, WS_asB, WS_ite, WP_bind, WP_ok, WP_asB, WP_ite, bindP, setAll, List.set_cons_zero, List.set_cons_succ, List.getElem?_cons_zero, List.getElem?_cons_succ, decide_true, decide_false, if_true, if_false, Bool.false_eq_true, Bool.not_true, Bool.not_false, isNop, partR, o_add, o_sub, o_lt, o_le, o_gt, o_ge, o_eqi, o_nei, o_eqs, o_nes, o_in, o_notin, o_lent, o_lenl, o_lenc, o_abs, o_min, o_max, o_tupl, o_tupt, o_sll, fin_f, i2, cP6]
          rw [e_btw n s (ok1_kk hc), btw_below]
          simp [isId, q0', q1, WP_ok, D.top]
    · have cc : ((ds.length : Int) == 3) = false := by rw [beq_eq_false_iff_ne]; omega
      simp -implicitDefEqProofs only [exB_cons, exB_nil, exS_expr, exS_set, exS_setSub, exS_fz, exS_ife, exS_ret, exS_pass, den_nop, den_c, den_v, den_bin, den_neg, den_cmp, den_chain, den_and, den_or, den_not, den_ite, den_tup, den_lst, den_sub, den_rev, den_callv, exS_raise, exS_tryR, den_sl, den_call, den_blt, den_meth, denL_nil, denL_cons, WS_seq, WS_toS, WS_nx, WS_rt, WS_asB, WS_ite, WP_bind, WP_ok, WP_asB, WP_ite, bindP, setAll, List.set_cons_zero, List.set_cons_succ, List.getElem?_cons_zero, List.getElem?_cons_succ, decide_true, decide_false, if_true, if_false, Bool.false_eq_true, Bool.not_true, Bool.not_false, isNop, partR, o_add, o_sub, o_lt, o_le, o_gt, o_ge, o_eqi, o_nei, o_eqs, o_nes, o_in, o_notin, o_lent, o_lenl, o_lenc, o_abs, o_min, o_max, o_tupl, o_tupt, o_sll, fin_f, cc]
      rw [row3_no (d := .tup ds) (by simp [row3, c])]
      simp [D.top]
  all_goals simp [isT, rd, isId, D.top, WP_ok, WS_rt]
def pairLt0 : D → Bool
  | .tup [x, y] => ltD (fstC x) (fstC y)
  | _ => false
theorem e_lcells (n : Nat) {m : Nat} {d : D} (s : St) (h : th m d = true) : callF PP (n + 4) 26 [d] s = .ok (.bl (isCells d)) s := by
  have hk := th_kk h
  refine eq_of_wp ?_
  rw [callF_eq (fn := fn26) rfl rfl, WP_back]
  show WS (exB _ fn26.body [some d, none, none, none] s) _ _
  rw [fn26, exB_cons]
  simp -implicitDefEqProofs only [exB_nil, exS_expr, exS_set, exS_setSub, exS_fz, exS_ife, exS_ret, exS_pass, den_nop, den_c, den_v, den_bin, den_neg, den_cmp, den_chain, den_and, den_or, den_not, den_ite, den_tup, den_lst, den_sub, den_rev, den_callv, exS_raise, exS_tryR, den_sl, den_call, den_blt, den_meth, denL_nil, denL_cons, WS_seq, WS_toS, WS_nx, WS_rt, WS_asB, WS_ite, WP_bind, WP_ok, WP_asB, WP_ite, bindP, setAll, List.set_cons_zero, List.set_cons_succ, List.getElem?_cons_zero, List.getElem?_cons_succ, decide_true, decide_false, if_true, if_false, Bool.false_eq_true, Bool.not_true, Bool.not_false, isNop, partR, o_add, o_sub, o_lt, o_le, o_gt, o_ge, o_eqi, o_nei, o_eqs, o_nes, o_in, o_notin, o_lent, o_lenl, o_lenc, o_abs, o_min, o_max, o_tupl, o_tupt, o_sll, fin_f, o_isin hk, isT_kk hk]
  cases d <;> first | (cases hk; done) | skip
  case tup cs =>
    have e1 : isT [] 3 (.tup cs) = true := rfl
    have ht := (th_tup h).2
    simp -implicitDefEqProofs only [exB_nil, exS_expr, exS_set, exS_setSub, exS_fz, exS_ife, exS_ret, exS_pass, den_nop, den_c, den_v, den_bin, den_neg, den_cmp, den_chain, den_and, den_or, den_not, den_ite, den_tup, den_lst, den_sub, den_rev, den_callv, exS_raise, exS_tryR, den_sl, den_call, den_blt, den_meth, denL_nil, denL_cons, WS_seq, WS_toS, WS_nx, WS_rt, WS_asB, WS_ite, WP_bind, WP_ok, WP_asB, WP_ite, bindP, setAll, List.set_cons_zero, List.set_cons_succ, List.getElem?_cons_zero, List.getElem?_cons_succ, decide_true, decide_false, if_true, if_false, Bool.false_eq_true, Bool.not_true, Bool.not_false, isNop, partR, o_add, o_sub, o_lt, o_le, o_gt, o_ge, o_eqi, o_nei, o_eqs, o_nes, o_in, o_notin, o_lent, o_lenl, o_lenc, o_abs, o_min, o_max, o_tupl, o_tupt, o_sll, fin_f, e1]
    by_cases c6 : (6 : Int) < cs.length
    · simp -implicitDefEqProofs only [exB_nil, exS_expr, exS_set, exS_setSub, exS_fz, exS_ife, exS_ret, exS_pass, den_nop, den_c, den_v, den_bin, den_neg, den_cmp, den_chain, den_and, den_or, den_not, den_ite, den_tup, den_lst, den_sub, den_rev, den_callv, exS_raise, exS_tryR, den_sl, den_call, den_blt, den_meth, denL_nil, denL_cons, WS_seq, WS_toS, WS_nx, WS_rt, WS_asB, WS_ite, WP_bind, WP_ok, WP_asB, WP_ite, bindP, setAll, List.set_cons_zero, List.set_cons_succ, List.getElem?_cons_zero, List.getElem?_cons_succ, decide_true, decide_false, if_true, if_false, Bool.false_eq_true, Bool.not_true, Bool.not_false, isNop, partR, o_add, o_sub, o_lt, o_le, o_gt, o_ge, o_eqi, o_nei, o_eqs, o_nes, o_in, o_notin, o_lent, o_lenl, o_lenc, o_abs, o_min, o_max, o_tupl, o_tupt, o_sll, fin_f, c6]
      have : ¬ cs.length ≤ 6 := by omega
      simp -implicitDefEqProofs only [exB_cons, exB_nil, exS_expr, exS_set, exS_setSub, exS_fz, exS_ife, exS_ret, exS_pass, den_nop, den_c, den_v, den_bin, den_neg, den_cmp, den_chain, den_and, den_or, den_not, den_ite, den_tup, den_lst, den_sub, den_rev, den_callv, exS_raise, exS_tryR, den_sl, den_call, den_blt, den_meth, denL_nil, denL_cons, WS_seq, WS_toS, WS_nx, WS_rt, WS_asB, WS_ite, WP_bind, WP_ok, WP_asB, WP_ite, bindP, setAll, List.set_cons_zero, List.set_cons_succ, List.getElem?_cons_zero, List.getElem?_cons_succ, decide_true, decide_false, if_true, if_false, Bool.false_eq_true, Bool.not_true, Bool.not_false, isNop, partR, o_add, o_sub, o_lt, o_le, o_gt, o_ge, o_eqi, o_nei, o_eqs, o_nes, o_in, o_notin, o_lent, o_lenl, o_lenc, o_abs, o_min, o_max, o_tupl, o_tupt, o_sll, fin_f]
      simp [isCells, this, D.top]
    · simp -implicitDefEqProofs only [exB_nil, exS_expr, exS_set, exS_setSub, exS_fz, exS_ife, exS_ret, exS_pass, den_nop, den_c, den_v, den_bin, den_neg, den_cmp, den_chain, den_and, den_or, den_not, den_ite, den_tup, den_lst, den_sub, den_rev, den_callv, exS_raise, exS_tryR, den_sl, den_call, den_blt, den_meth, denL_nil, denL_cons, WS_seq, WS_toS, WS_nx, WS_rt, WS_asB, WS_ite, WP_bind, WP_ok, WP_asB, WP_ite, bindP, setAll, List.set_cons_zero, List.set_cons_succ, List.getElem?_cons_zero, List.getElem?_cons_succ, decide_true, decide_false, if_true, if_false, Bool.false_eq_true, Bool.not_true, Bool.not_false, isNop, partR, o_add, o_sub, o_lt, o_le, o_gt, o_ge, o_eqi, o_nei, o_eqs, o_nes, o_in, o_notin, o_lent, o_lenl, o_lenc, o_abs, o_min, o_max, o_tupl, o_tupt, o_sll, fin_f, c6, exB_nil]
      have l6 : cs.length ≤ 6 := by omega
      rw [exB_cons, exS_forr]
      (try simp -implicitDefEqProofs only [exB_nil, exS_expr, exS_set, exS_setSub, exS_fz, exS_ife, exS_ret, exS_pass, den_nop, den_c, den_v, den_bin, den_neg, den_cmp, den_chain, den_and, den_or, den_not, den_ite, den_tup, den_lst, den_sub, den_rev, den_callv, exS_raise, exS_tryR, den_sl, den_call, den_blt, den_meth, denL_nil, denL_cons, WS_seq, WS_toS, WS_nx, WS_rt, WS_asB, WS_ite, WP_bind, WP_ok, WP_asB, WP_ite, bindP, setAll, List.set_cons_zero, List.set_cons_succ, List.getElem?_cons_zero, List.getElem?_cons_succ, decide_true, decide_false, if_true, if_false, Bool.false_eq_true, Bool.not_true, Bool.not_false, isNop, partR, o_add, o_sub, o_lt, o_le, o_gt, o_ge, o_eqi, o_nei, o_eqs, o_nes, o_in, o_notin, o_lent, o_lenl, o_lenc, o_abs, o_min, o_max, o_tupl, o_tupt, o_sll, fin_f, it_tup])
      refine ws_for (fun i env s' => s' = s ∧ (∀ j d, j < i → cs[j]? = some d → isCell d = true) ∧ ∃ e, env = [some (.tup cs), e, none, none]) ⟨rfl, fun j _ hj => absurd hj (Nat.not_lt_zero _), _, rfl⟩ (fun i d env s1 hi ⟨hs, hall, e, he⟩ => ?_) (fun env s1 ⟨hs, hall, e, he⟩ => ?_)
      · subst hs he
        have hm := List.mem_of_getElem? hi
        have hkd := th_kk (ht d hm)
        refine ⟨_, rfl, ?_⟩
        simp -implicitDefEqProofs only [exB_cons, exB_nil, exS_expr, exS_set, exS_setSub, exS_fz, exS_ife, exS_ret, exS_pass, den_nop, den_c, den_v, den_bin, den_neg, den_cmp, den_chain, den_and, den_or, den_not, den_ite, den_tup, den_lst, den_sub, den_rev, den_callv, exS_raise, exS_tryR, den_sl, den_call, den_blt, den_meth, denL_nil, denL_cons, WS_seq, WS_toS, WS_nx, WS_rt, WS_asB, WS_ite, WP_bind, WP_ok, WP_asB, WP_ite, bindP, setAll, List.set_cons_zero, List.set_cons_succ, List.getElem?_cons_zero, List.getElem?_cons_succ, decide_true, decide_false, if_true, if_false, Bool.false_eq_true, Bool.not_true, Bool.not_false, isNop, partR, o_add, o_sub, o_lt, o_le, o_gt, o_ge, o_eqi, o_nei, o_eqs, o_nes, o_in, o_notin, o_lent, o_lenl, o_lenc, o_abs, o_min, o_max, o_tupl, o_tupt, o_sll, fin_f, o_isin hkd, isT_kk hkd]
        have bad : isCell d = false → isCells (.tup cs) = false := fun q => by
          have : cs.all isCell = false := by
            rw [Bool.eq_false_iff]
            intro z
            rw [List.all_eq_true.mp z d hm] at q
            cases q
          simp [isCells, this]
        cases q3 : rowN 2 d
        · have nb := bad (rowN_no q3)
          cases d <;> first | (cases hkd; done) | skip
          case tup ds =>
            have e1 : isT [] 3 (.tup ds) = true := rfl
            have cc : ((ds.length : Int) == 2) = false := by
              rw [beq_eq_false_iff_ne]
              simp [rowN] at q3
              omega
            simp -implicitDefEqProofs only [exB_cons, exB_nil, exS_expr, exS_set, exS_setSub, exS_fz, exS_ife, exS_ret, exS_pass, den_nop, den_c, den_v, den_bin, den_neg, den_cmp, den_chain, den_and, den_or, den_not, den_ite, den_tup, den_lst, den_sub, den_rev, den_callv, exS_raise, exS_tryR, den_sl, den_call, den_blt, den_meth, denL_nil, denL_cons, WS_seq, WS_toS, WS_nx, WS_rt, WS_asB, WS_ite, WP_bind, WP_ok, WP_asB, WP_ite, bindP, setAll, List.set_cons_zero, List.set_cons_succ, List.getElem?_cons_zero, List.getElem?_cons_succ, decide_true, decide_false, if_true, if_false, Bool.false_eq_true, Bool.not_true, Bool.not_false, isNop, partR, o_add, o_sub, o_lt, o_le, o_gt, o_ge, o_eqi, o_nei, o_eqs, o_nes, o_in, o_notin, o_lent, o_lenl, o_lenc, o_abs, o_min, o_max, o_tupl, o_tupt, o_sll, fin_f, e1, cc, nb]
            simp [D.top]
          all_goals simp [isT, rd, nb, D.top, WP_ok, WS_rt]
        · obtain ⟨a, b, rfl⟩ := rowN_of q3
          have e1 : isT [] 3 (.tup [a, b]) = true := rfl
          have cc : ((([a, b] : List D).length : Int) == 2) = true := rfl
          have hab := (th_tup (ht _ hm)).2
          simp -implicitDefEqProofs only [exB_cons, exB_nil, exS_expr, exS_set, exS_setSub, exS_fz, exS_ife, exS_ret, exS_pass, den_nop, den_c, den_v, den_bin, den_neg, den_cmp, den_chain, den_and, den_or, den_not, den_ite, den_tup, den_lst, den_sub, den_rev, den_callv, exS_raise, exS_tryR, den_sl, den_call, den_blt, den_meth, denL_nil, denL_cons, WS_seq, WS_toS, WS_nx, WS_rt, WS_asB, WS_ite, WP_bind, WP_ok, WP_asB, WP_ite, bindP, setAll, List.set_cons_zero, List.set_cons_succ, List.getElem?_cons_zero, List.getElem?_cons_succ, decide_true, decide_false, if_true, if_false, Bool.false_eq_true, Bool.not_true, Bool.not_false, isNop, partR, o_add, o_sub, o_lt, o_le, o_gt, o_ge, o_eqi, o_nei, o_eqs, o_nes, o_in, o_notin, o_lent, o_lenl, o_lenc, o_abs, o_min, o_max, o_tupl, o_tupt, o_sll, fin_f, e1, cc, sub0, sub1]
          rw [e_lid n s1 (th_D (hab a (by simp)))]
          simp -implicitDefEqProofs only [exB_cons, exB_nil, exS_expr, exS_set, exS_setSub, exS_fz, exS_ife, exS_ret, exS_pass, den_nop, den_c, den_v, den_bin, den_neg, den_cmp, den_chain, den_and, den_or, den_not, den_ite, den_tup, den_lst, den_sub, den_rev, den_callv, exS_raise, exS_tryR, den_sl, den_call, den_blt, den_meth, denL_nil, denL_cons, WS_seq, WS_toS, WS_nx, WS_rt, WS_asB, WS_ite, WP_bind, WP_ok, WP_asB, WP_ite, bindP, setAll, List.set_cons_zero, List.set_cons_succ, List.getElem?_cons_zero, List.getElem?_cons_succ, decide_true, decide_false, if_true, if_false, Bool.false_eq_true, Bool.not_true, Bool.not_false, isNop, partR, o_add, o_sub, o_lt, o_le, o_gt, o_ge, o_eqi, o_nei, o_eqs, o_nes, o_in, o_notin, o_lent, o_lenl, o_lenc, o_abs, o_min, o_max, o_tupl, o_tupt, o_sll, fin_f]
          cases q0 : isId a
          · have nb := bad (by simp [isCell, q0])
            simp [nb, D.top]
          · simp -implicitDefEqProofs only [exB_cons, exB_nil, exS_expr, exS_set, exS_setSub, exS_fz, exS_ife, exS_ret, exS_pass, den_nop, den_c, den_v, den_bin, den_neg, den_cmp, den_chain, den_and, den_or, den_not, den_ite, den_tup, den_lst, den_sub, den_rev, den_callv, exS_raise, exS_tryR, den_sl, den_call, den_blt, den_meth, denL_nil, denL_cons, WS_seq, WS_toS, WS_nx, WS_rt, WS_asB, WS_ite, WP_bind, WP_ok, WP_asB, WP_ite, bindP, setAll, List.set_cons_zero, List.set_cons_succ, List.getElem?_cons_zero, List.getElem?_cons_succ, decide_true, decide_false, if_true, if_false, Bool.false_eq_true, Bool.not_true, Bool.not_false, isNop, partR, o_add, o_sub, o_lt, o_le, o_gt, o_ge, o_eqi, o_nei, o_eqs, o_nes, o_in, o_notin, o_lent, o_lenl, o_lenc, o_abs, o_min, o_max, o_tupl, o_tupt, o_sll, fin_f, sub1]
            rw [e_lvalue n s1 (th_1 (hab b (by simp)))]
            simp -implicitDefEqProofs only [exB_cons, exB_nil, exS_expr, exS_set, exS_setSub, exS_fz, exS_ife, exS_ret, exS_pass, den_nop, den_c, den_v, den_bin, den_neg, den_cmp, den_chain, den_and, den_or, den_not, den_ite, den_tup, den_lst, den_sub, den_rev, den_callv, exS_raise, exS_tryR, den_sl, den_call, den_blt, den_meth, denL_nil, denL_cons, WS_seq, WS_toS, WS_nx, WS_rt, WS_asB, WS_ite, WP_bind, WP_ok, WP_asB, WP_ite, bindP, setAll, List.set_cons_zero, List.set_cons_succ, List.getElem?_cons_zero, List.getElem?_cons_succ, decide_true, decide_false, if_true, if_false, Bool.false_eq_true, Bool.not_true, Bool.not_false, isNop, partR, o_add, o_sub, o_lt, o_le, o_gt, o_ge, o_eqi, o_nei, o_eqs, o_nes, o_in, o_notin, o_lent, o_lenl, o_lenc, o_abs, o_min, o_max, o_tupl, o_tupt, o_sll, fin_f]
            cases q1 : isValue b
            · have nb := bad (by simp [isCell, q0, q1])
              simp [nb, D.top]
            · simp -implicitDefEqProofs only [exB_cons, exB_nil, exS_expr, exS_set, exS_setSub, exS_fz, exS_ife, exS_ret, exS_pass, den_nop, den_c, den_v, den_bin, den_neg, den_cmp, den_chain, den_and, den_or, den_not, den_ite, den_tup, den_lst, den_sub, den_rev, den_callv, exS_raise, exS_tryR, den_sl, den_call, den_blt, den_meth, denL_nil, denL_cons, WS_seq, WS_toS, WS_nx, WS_rt, WS_asB, WS_ite, WP_bind, WP_ok, WP_asB, WP_ite, bindP, setAll, List.set_cons_zero, List.set_cons_succ, List.getElem?_cons_zero, List.getElem?_cons_succ, decide_true, decide_false, if_true, if_false, Bool.false_eq_true, Bool.not_true, Bool.not_false, isNop, partR, o_add, o_sub, o_lt, o_le, o_gt, o_ge, o_eqi, o_nei, o_eqs, o_nes, o_in, o_notin, o_lent, o_lenl, o_lenc, o_abs, o_min, o_max, o_tupl, o_tupt, o_sll, fin_f]
              refine ⟨trivial, fun j d hj hd => ?_, _, rfl⟩
              rcases Nat.lt_succ_iff_lt_or_eq.mp hj with hj | rfl
              · exact hall j d hj hd
              · rw [hi] at hd
                cases hd
                simp [isCell, q0, q1]
      · subst hs he
        have ca : ∀ d ∈ cs, isCell d = true := fun d hd => by
          obtain ⟨j, hj, rfl⟩ := List.mem_iff_getElem.mp hd
          exact hall j _ hj (List.getElem?_eq_getElem hj)
        have it : itK .zip [.tup cs, .tup (cut cs (some 1) none)] = some (zipD cs (cut cs (some 1) none)) := rfl
        have sl : ∀ s : St, slD false (.tup cs) (some 1) none s = .ok (.tup (cut cs (some 1) none)) s := fun _ => rfl
        simp -implicitDefEqProofs only [exB_cons, exB_nil, exS_expr, exS_set, exS_setSub, exS_fz, exS_ife, exS_ret, exS_pass, den_nop, den_c, den_v, den_bin, den_neg, den_cmp, den_chain, den_and, den_or, den_not, den_ite, den_tup, den_lst, den_sub, den_rev, den_callv, exS_raise, exS_tryR, den_sl, den_call, den_blt, den_meth, denL_nil, denL_cons, WS_seq, WS_toS, WS_nx, WS_rt, WS_asB, WS_ite, WP_bind, WP_ok, WP_asB, WP_ite, bindP, setAll, List.set_cons_zero, List.set_cons_succ, List.getElem?_cons_zero, List.getElem?_cons_succ, decide_true, decide_false, if_true, if_false, Bool.false_eq_true, Bool.not_true, Bool.not_false, isNop, partR, o_add, o_sub, o_lt, o_le, o_gt, o_ge, o_eqi, o_nei, o_eqs, o_nes, o_in, o_notin, o_lent, o_lenl, o_lenc, o_abs, o_min, o_max, o_tupl, o_tupt, o_sll, fin_f, den_lc, sl, it]
        refine wp_of_eq (lc_pure (g := fun d => if !pairLt0 d then some (.int 1) else Option.none) fun d hd => ?_) ?_
        · obtain ⟨a, ha, b, hb, rfl⟩ := mem_zipD hd
          have ia := ca a ha
          have ib := ca b (mem_cut hb)
          refine eq_of_wp ?_
          simp -implicitDefEqProofs only [exB_cons, exB_nil, exS_expr, exS_set, exS_setSub, exS_fz, exS_ife, exS_ret, exS_pass, den_nop, den_c, den_v, den_bin, den_neg, den_cmp, den_chain, den_and, den_or, den_not, den_ite, den_tup, den_lst, den_sub, den_rev, den_callv, exS_raise, exS_tryR, den_sl, den_call, den_blt, den_meth, denL_nil, denL_cons, WS_seq, WS_toS, WS_nx, WS_rt, WS_asB, WS_ite, WP_bind, WP_ok, WP_asB, WP_ite, bindP, setAll, List.set_cons_zero, List.set_cons_succ, List.getElem?_cons_zero, List.getElem?_cons_succ, decide_true, decide_false, if_true, if_false, Bool.false_eq_true, Bool.not_true, Bool.not_false, isNop, partR, o_add, o_sub, o_lt, o_le, o_gt, o_ge, o_eqi, o_nei, o_eqs, o_nes, o_in, o_notin, o_lent, o_lenl, o_lenc, o_abs, o_min, o_max, o_tupl, o_tupt, o_sll, fin_f, Pat.slots, Fk.wipe, WP_noErr, fst_ok ia, fst_ok ib]
          rw [cmp_id (cell_of ia) (cell_of ib)]
          simp -implicitDefEqProofs only [exB_cons, exB_nil, exS_expr, exS_set, exS_setSub, exS_fz, exS_ife, exS_ret, exS_pass, den_nop, den_c, den_v, den_bin, den_neg, den_cmp, den_chain, den_and, den_or, den_not, den_ite, den_tup, den_lst, den_sub, den_rev, den_callv, exS_raise, exS_tryR, den_sl, den_call, den_blt, den_meth, denL_nil, denL_cons, WS_seq, WS_toS, WS_nx, WS_rt, WS_asB, WS_ite, WP_bind, WP_ok, WP_asB, WP_ite, bindP, setAll, List.set_cons_zero, List.set_cons_succ, List.getElem?_cons_zero, List.getElem?_cons_succ, decide_true, decide_false, if_true, if_false, Bool.false_eq_true, Bool.not_true, Bool.not_false, isNop, partR, o_add, o_sub, o_lt, o_le, o_gt, o_ge, o_eqi, o_nei, o_eqs, o_nes, o_in, o_notin, o_lent, o_lenl, o_lenc, o_abs, o_min, o_max, o_tupl, o_tupt, o_sll, fin_f]
          cases hh : ltD (fstC a) (fstC b) <;> simp [hh, WP_ok, pairLt0]
        · rw [fm_if (f := fun _ => D.int 1), List.nil_append]
          simp -implicitDefEqProofs only [exB_cons, exB_nil, exS_expr, exS_set, exS_setSub, exS_fz, exS_ife, exS_ret, exS_pass, den_nop, den_c, den_v, den_bin, den_neg, den_cmp, den_chain, den_and, den_or, den_not, den_ite, den_tup, den_lst, den_sub, den_rev, den_callv, exS_raise, exS_tryR, den_sl, den_call, den_blt, den_meth, denL_nil, denL_cons, WS_seq, WS_toS, WS_nx, WS_rt, WS_asB, WS_ite, WP_bind, WP_ok, WP_asB, WP_ite, bindP, setAll, List.set_cons_zero, List.set_cons_succ, List.getElem?_cons_zero, List.getElem?_cons_succ, decide_true, decide_false, if_true, if_false, Bool.false_eq_true, Bool.not_true, Bool.not_false, isNop, partR, o_add, o_sub, o_lt, o_le, o_gt, o_ge, o_eqi, o_nei, o_eqs, o_nes, o_in, o_notin, o_lent, o_lenl, o_lenc, o_abs, o_min, o_max, o_tupl, o_tupt, o_sll, fin_f, o_lnil]
          have e3 := none_all pairLt0 (zipD cs (cut cs (some 1) none))
          have e4 : (((zipD cs (cut cs (some 1) none)).filter fun d => !pairLt0 d).map fun _ => D.int 1).isEmpty = rising cs := by
            have e5 : (zipD cs (cut cs (some 1) none)).all pairLt0 = rising cs := by rw [← all_id, map_zipD]; rfl
            rw [← e5, ← e3]
            cases ((zipD cs (cut cs (some 1) none)).filter fun d => !pairLt0 d) <;> rfl
          rw [e4]
          have h1 : decide (cs.length ≤ 6) = true := by simpa using l6
          have h2 : cs.all isCell = true := List.all_eq_true.mpr ca
          simp [isCells, h1, h2, D.top]
  all_goals ((try simp -implicitDefEqProofs only [exB_cons, exB_nil, exS_expr, exS_set, exS_setSub, exS_fz, exS_ife, exS_ret, exS_pass, den_nop, den_c, den_v, den_bin, den_neg, den_cmp, den_chain, den_and, den_or, den_not, den_ite, den_tup, den_lst, den_sub, den_rev, den_callv, exS_raise, exS_tryR, den_sl, den_call, den_blt, den_meth, denL_nil, denL_cons, WS_seq, WS_toS, WS_nx, WS_rt, WS_asB, WS_ite, WP_bind, WP_ok, WP_asB, WP_ite, bindP, setAll, List.set_cons_zero, List.set_cons_succ, List.getElem?_cons_zero, List.getElem?_cons_succ, decide_true, decide_false, if_true, if_false, Bool.false_eq_true, Bool.not_true, Bool.not_false, isNop, partR, o_add, o_sub, o_lt, o_le, o_gt, o_ge, o_eqi, o_nei, o_eqs, o_nes, o_in, o_notin, o_lent, o_lenl, o_lenc, o_abs, o_min, o_max, o_tupl, o_tupt, o_sll, fin_f]); simp [isT, rd, isCells, D.top, WP_ok, WS_rt])
def letter (c : Nat) : Prop := c = 110 ∨ c = 105 ∨ c = 116 ∨ c = 118 ∨ c = 99 ∨ c = 107 ∨ c = 104 ∨ c = 109
theorem sg {a b : Nat} : ((([a] : List Nat) == [b]) : Bool) = decide (a = b) := by
  by_cases h : a = b
  · subst h; simp
  · simp [h]
theorem d_khm {cf : CF} {env : Fk.Env} {s : St} : den cf (.dic false [.c (.str [107]), .bin .pow false (.c (.int 10)) (.c (.int 9)), .c (.str [104]), .c (.int 7), .c (.str [109]), .bin .pow false (.c (.int 10)) (.c (.int 6))]) env s = .ok (.dic [.str [107], .str [104], .str [109]] [.int 1000000000, .int 7, .int 1000000]) s := by
  rw [den_dic]
  simp only [denL_cons, denL_nil, den_c, den_bin, R.bind_ok, cP9, cP6]
  rfl
theorem e_lpart (n : Nat) {m : Nat} {c : Nat} {d : D} (s : St) (hc : letter c) (h : th m d = true) : callF PP (n + 5) 27 [.str [c], d] s = .ok (.bl (isPart c d)) s := by
  have hk := th_kk h
  have h1 := th_1 h
  refine eq_of_wp ?_
  rw [callF_eq (fn := fn27) rfl rfl, WP_back]
  show WS (exB _ fn27.body [some (.str [c]), some d] s) _ _
  have a1 : callF PP (n + 4) 22 [d] s = .ok (.bl (isName d)) s := e_lname (n + 2) s h1
  have a2 : callF PP (n + 4) 25 [d] s = .ok (.bl (isId d)) s := e_lid (n + 1) s (th_D h)
  have a3 : callF PP (n + 4) 24 [d] s = .ok (.bl (isValue d)) s := e_lvalue (n + 1) s h1
  have a4 : callF PP (n + 4) 26 [d] s = .ok (.bl (isCells d)) s := e_lcells n s h
  have a5 : ∀ hi : Int, callF PP (n + 4) 23 [d, .int 0, .int hi] s = .ok (.bl (below d (hi + 1))) s := fun hi => by rw [← btw_below]; exact e_btw (n + 2) s hk
  rcases hc with rfl | rfl | rfl | rfl | rfl | rfl | rfl | rfl
  · simp -implicitDefEqProofs only [exB_cons, exB_nil, exS_expr, exS_set, exS_setSub, exS_fz, exS_ife, exS_ret, exS_pass, den_nop, den_c, den_v, den_bin, den_neg, den_cmp, den_chain, den_and, den_or, den_not, den_ite, den_tup, den_lst, den_sub, den_rev, den_callv, exS_raise, exS_tryR, den_sl, den_call, den_blt, den_meth, denL_nil, denL_cons, WS_seq, WS_toS, WS_nx, WS_rt, WS_asB, WS_ite, WP_bind, WP_ok, WP_asB, WP_ite, bindP, setAll, List.set_cons_zero, List.set_cons_succ, List.getElem?_cons_zero, List.getElem?_cons_succ, decide_true, decide_false, if_true, if_false, Bool.false_eq_true, Bool.not_true, Bool.not_false, isNop, partR, o_add, o_sub, o_lt, o_le, o_gt, o_ge, o_eqi, o_nei, o_eqs, o_nes, o_in, o_notin, o_lent, o_lenl, o_lenc, o_abs, o_min, o_max, o_tupl, o_tupt, o_sll, fin_f, fn27, sg, a1]
    simp [isPart, D.top]
  · simp -implicitDefEqProofs only [exB_cons, exB_nil, exS_expr, exS_set, exS_setSub, exS_fz, exS_ife, exS_ret, exS_pass, den_nop, den_c, den_v, den_bin, den_neg, den_cmp, den_chain, den_and, den_or, den_not, den_ite, den_tup, den_lst, den_sub, den_rev, den_callv, exS_raise, exS_tryR, den_sl, den_call, den_blt, den_meth, denL_nil, denL_cons, WS_seq, WS_toS, WS_nx, WS_rt, WS_asB, WS_ite, WP_bind, WP_ok, WP_asB, WP_ite, bindP, setAll, List.set_cons_zero, List.set_cons_succ, List.getElem?_cons_zero, List.getElem?_cons_succ, decide_true, decide_false, if_true, if_false, Bool.false_eq_true, Bool.not_true, Bool.not_false, isNop, partR, o_add, o_sub, o_lt, o_le, o_gt, o_ge, o_eqi, o_nei, o_eqs, o_nes, o_in, o_notin, o_lent, o_lenl, o_lenc, o_abs, o_min, o_max, o_tupl, o_tupt, o_sll, fin_f, fn27, sg]
    simp -implicitDefEqProofs only [show (105 = 110) = False from by simp, decide_false, a2, WP_ok, Bool.false_eq_true, if_false, if_true, WS_nx, WS_rt]
    simp [isPart, D.top]
  · simp -implicitDefEqProofs only [exB_cons, exB_nil, exS_expr, exS_set, exS_setSub, exS_fz, exS_ife, exS_ret, exS_pass, den_nop, den_c, den_v, den_bin, den_neg, den_cmp, den_chain, den_and, den_or, den_not, den_ite, den_tup, den_lst, den_sub, den_rev, den_callv, exS_raise, exS_tryR, den_sl, den_call, den_blt, den_meth, denL_nil, denL_cons, WS_seq, WS_toS, WS_nx, WS_rt, WS_asB, WS_ite, WP_bind, WP_ok, WP_asB, WP_ite, bindP, setAll, List.set_cons_zero, List.set_cons_succ, List.getElem?_cons_zero, List.getElem?_cons_succ, decide_true, decide_false, if_true, if_false, Bool.false_eq_true, Bool.not_true, Bool.not_false, isNop, partR, o_add, o_sub, o_lt, o_le, o_gt, o_ge, o_eqi, o_nei, o_eqs, o_nes, o_in, o_notin, o_lent, o_lenl, o_lenc, o_abs, o_min, o_max, o_tupl, o_tupt, o_sll, fin_f, fn27, sg]
    simp -implicitDefEqProofs only [exB_cons, exB_nil, exS_expr, exS_set, exS_setSub, exS_fz, exS_ife, exS_ret, exS_pass, den_nop, den_c, den_v, den_bin, den_neg, den_cmp, den_chain, den_and, den_or, den_not, den_ite, den_tup, den_lst, den_sub, den_rev, den_callv, exS_raise, exS_tryR, den_sl, den_call, den_blt, den_meth, denL_nil, denL_cons, WS_seq, WS_toS, WS_nx, WS_rt, WS_asB, WS_ite, WP_bind, WP_ok, WP_asB, WP_ite, bindP, setAll, List.set_cons_zero, List.set_cons_succ, List.getElem?_cons_zero, List.getElem?_cons_succ, decide_true, decide_false, if_true, if_false, Bool.false_eq_true, Bool.not_true, Bool.not_false, isNop, partR, o_add, o_sub, o_lt, o_le, o_gt, o_ge, o_eqi, o_nei, o_eqs, o_nes, o_in, o_notin, o_lent, o_lenl, o_lenc, o_abs, o_min, o_max, o_tupl, o_tupt, o_sll, fin_f, show (116 = 110) = False from by simp, show (116 = 105) = False from by simp, o_isin hk, isT_kk hk]
    cases d <;> first | (cases hk; done) | skip
    case str z =>
      have e1 : isT [] 2 (.str z) = true := rfl
      simp -implicitDefEqProofs only [exB_cons, exB_nil, exS_expr, exS_set, exS_setSub, exS_fz, exS_ife, exS_ret, exS_pass, den_nop, den_c, den_v, den_bin, den_neg, den_cmp, den_chain, den_and, den_or, den_not, den_ite, den_tup, den_lst, den_sub, den_rev, den_callv, exS_raise, exS_tryR, den_sl, den_call, den_blt, den_meth, denL_nil, denL_cons, WS_seq, WS_toS, WS_nx, WS_rt, WS_asB, WS_ite, WP_bind, WP_ok, WP_asB, WP_ite, bindP, setAll, List.set_cons_zero, List.set_cons_succ, List.getElem?_cons_zero, List.getElem?_cons_succ, decide_true, decide_false, if_true, if_false, Bool.false_eq_true, Bool.not_true, Bool.not_false, isNop, partR, o_add, o_sub, o_lt, o_le, o_gt, o_ge, o_eqi, o_nei, o_eqs, o_nes, o_in, o_notin, o_lent, o_lenl, o_lenc, o_abs, o_min, o_max, o_tupl, o_tupt, o_sll, fin_f, e1, o_in3t]
      simp [isPart, kindB, NUM, WRD, ANY, D.top]
    all_goals simp [isT, rd, isPart, kindB, D.top, WP_ok, WS_rt]
  · simp -implicitDefEqProofs only [exB_cons, exB_nil, exS_expr, exS_set, exS_setSub, exS_fz, exS_ife, exS_ret, exS_pass, den_nop, den_c, den_v, den_bin, den_neg, den_cmp, den_chain, den_and, den_or, den_not, den_ite, den_tup, den_lst, den_sub, den_rev, den_callv, exS_raise, exS_tryR, den_sl, den_call, den_blt, den_meth, denL_nil, denL_cons, WS_seq, WS_toS, WS_nx, WS_rt, WS_asB, WS_ite, WP_bind, WP_ok, WP_asB, WP_ite, bindP, setAll, List.set_cons_zero, List.set_cons_succ, List.getElem?_cons_zero, List.getElem?_cons_succ, decide_true, decide_false, if_true, if_false, Bool.false_eq_true, Bool.not_true, Bool.not_false, isNop, partR, o_add, o_sub, o_lt, o_le, o_gt, o_ge, o_eqi, o_nei, o_eqs, o_nes, o_in, o_notin, o_lent, o_lenl, o_lenc, o_abs, o_min, o_max, o_tupl, o_tupt, o_sll, fin_f, fn27, sg]
    simp -implicitDefEqProofs only [exB_cons, exB_nil, exS_expr, exS_set, exS_setSub, exS_fz, exS_ife, exS_ret, exS_pass, den_nop, den_c, den_v, den_bin, den_neg, den_cmp, den_chain, den_and, den_or, den_not, den_ite, den_tup, den_lst, den_sub, den_rev, den_callv, exS_raise, exS_tryR, den_sl, den_call, den_blt, den_meth, denL_nil, denL_cons, WS_seq, WS_toS, WS_nx, WS_rt, WS_asB, WS_ite, WP_bind, WP_ok, WP_asB, WP_ite, bindP, setAll, List.set_cons_zero, List.set_cons_succ, List.getElem?_cons_zero, List.getElem?_cons_succ, decide_true, decide_false, if_true, if_false, Bool.false_eq_true, Bool.not_true, Bool.not_false, isNop, partR, o_add, o_sub, o_lt, o_le, o_gt, o_ge, o_eqi, o_nei, o_eqs, o_nes, o_in, o_notin, o_lent, o_lenl, o_lenc, o_abs, o_min, o_max, o_tupl, o_tupt, o_sll, fin_f, show (118 = 110) = False from by simp, show (118 = 105) = False from by simp, show (118 = 116) = False from by simp, o_isN hk]
    cases q : isN d
    · simp -implicitDefEqProofs only [exB_cons, exB_nil, exS_expr, exS_set, exS_setSub, exS_fz, exS_ife, exS_ret, exS_pass, den_nop, den_c, den_v, den_bin, den_neg, den_cmp, den_chain, den_and, den_or, den_not, den_ite, den_tup, den_lst, den_sub, den_rev, den_callv, exS_raise, exS_tryR, den_sl, den_call, den_blt, den_meth, denL_nil, denL_cons, WS_seq, WS_toS, WS_nx, WS_rt, WS_asB, WS_ite, WP_bind, WP_ok, WP_asB, WP_ite, bindP, setAll, List.set_cons_zero, List.set_cons_succ, List.getElem?_cons_zero, List.getElem?_cons_succ, decide_true, decide_false, if_true, if_false, Bool.false_eq_true, Bool.not_true, Bool.not_false, isNop, partR, o_add, o_sub, o_lt, o_le, o_gt, o_ge, o_eqi, o_nei, o_eqs, o_nes, o_in, o_notin, o_lent, o_lenl, o_lenc, o_abs, o_min, o_max, o_tupl, o_tupt, o_sll, fin_f, a3]
      simp [isPart, q, WP_ok, D.top]
    · simp [isPart, q, WP_ok, D.top]
  · simp -implicitDefEqProofs only [exB_cons, exB_nil, exS_expr, exS_set, exS_setSub, exS_fz, exS_ife, exS_ret, exS_pass, den_nop, den_c, den_v, den_bin, den_neg, den_cmp, den_chain, den_and, den_or, den_not, den_ite, den_tup, den_lst, den_sub, den_rev, den_callv, exS_raise, exS_tryR, den_sl, den_call, den_blt, den_meth, denL_nil, denL_cons, WS_seq, WS_toS, WS_nx, WS_rt, WS_asB, WS_ite, WP_bind, WP_ok, WP_asB, WP_ite, bindP, setAll, List.set_cons_zero, List.set_cons_succ, List.getElem?_cons_zero, List.getElem?_cons_succ, decide_true, decide_false, if_true, if_false, Bool.false_eq_true, Bool.not_true, Bool.not_false, isNop, partR, o_add, o_sub, o_lt, o_le, o_gt, o_ge, o_eqi, o_nei, o_eqs, o_nes, o_in, o_notin, o_lent, o_lenl, o_lenc, o_abs, o_min, o_max, o_tupl, o_tupt, o_sll, fin_f, fn27, sg]
    simp -implicitDefEqProofs only [exB_cons, exB_nil, exS_expr, exS_set, exS_setSub, exS_fz, exS_ife, exS_ret, exS_pass, den_nop, den_c, den_v, den_bin, den_neg, den_cmp, den_chain, den_and, den_or, den_not, den_ite, den_tup, den_lst, den_sub, den_rev, den_callv, exS_raise, exS_tryR, den_sl, den_call, den_blt, den_meth, denL_nil, denL_cons, WS_seq, WS_toS, WS_nx, WS_rt, WS_asB, WS_ite, WP_bind, WP_ok, WP_asB, WP_ite, bindP, setAll, List.set_cons_zero, List.set_cons_succ, List.getElem?_cons_zero, List.getElem?_cons_succ, decide_true, decide_false, if_true, if_false, Bool.false_eq_true, Bool.not_true, Bool.not_false, isNop, partR, o_add, o_sub, o_lt, o_le, o_gt, o_ge, o_eqi, o_nei, o_eqs, o_nes, o_in, o_notin, o_lent, o_lenl, o_lenc, o_abs, o_min, o_max, o_tupl, o_tupt, o_sll, fin_f, show (99 = 110) = False from by simp, show (99 = 105) = False from by simp, show (99 = 116) = False from by simp, show (99 = 118) = False from by simp, a4]
    simp [isPart, D.top]
  · simp -implicitDefEqProofs only [exB_cons, exB_nil, exS_expr, exS_set, exS_setSub, exS_fz, exS_ife, exS_ret, exS_pass, den_nop, den_c, den_v, den_bin, den_neg, den_cmp, den_chain, den_and, den_or, den_not, den_ite, den_tup, den_lst, den_sub, den_rev, den_callv, exS_raise, exS_tryR, den_sl, den_call, den_blt, den_meth, denL_nil, denL_cons, WS_seq, WS_toS, WS_nx, WS_rt, WS_asB, WS_ite, WP_bind, WP_ok, WP_asB, WP_ite, bindP, setAll, List.set_cons_zero, List.set_cons_succ, List.getElem?_cons_zero, List.getElem?_cons_succ, decide_true, decide_false, if_true, if_false, Bool.false_eq_true, Bool.not_true, Bool.not_false, isNop, partR, o_add, o_sub, o_lt, o_le, o_gt, o_ge, o_eqi, o_nei, o_eqs, o_nes, o_in, o_notin, o_lent, o_lenl, o_lenc, o_abs, o_min, o_max, o_tupl, o_tupt, o_sll, fin_f, fn27, sg]
    have sb : subD (.dic [.str [107], .str [104], .str [109]] [.int 1000000000, .int 7, .int 1000000]) (.str [107]) s = .ok (.int 1000000000) s := rfl
    simp -implicitDefEqProofs only [exB_cons, exB_nil, exS_expr, exS_set, exS_setSub, exS_fz, exS_ife, exS_ret, exS_pass, den_nop, den_c, den_v, den_bin, den_neg, den_cmp, den_chain, den_and, den_or, den_not, den_ite, den_tup, den_lst, den_sub, den_rev, den_callv, exS_raise, exS_tryR, den_sl, den_call, den_blt, den_meth, denL_nil, denL_cons, WS_seq, WS_toS, WS_nx, WS_rt, WS_asB, WS_ite, WP_bind, WP_ok, WP_asB, WP_ite, bindP, setAll, List.set_cons_zero, List.set_cons_succ, List.getElem?_cons_zero, List.getElem?_cons_succ, decide_true, decide_false, if_true, if_false, Bool.false_eq_true, Bool.not_true, Bool.not_false, isNop, partR, o_add, o_sub, o_lt, o_le, o_gt, o_ge, o_eqi, o_nei, o_eqs, o_nes, o_in, o_notin, o_lent, o_lenl, o_lenc, o_abs, o_min, o_max, o_tupl, o_tupt, o_sll, fin_f, show (107 = 110) = False from by simp, show (107 = 105) = False from by simp, show (107 = 116) = False from by simp, show (107 = 118) = False from by simp, show (107 = 99) = False from by simp, d_khm, sb, a5]
    simp [isPart, D.top]
  · simp -implicitDefEqProofs only [exB_cons, exB_nil, exS_expr, exS_set, exS_setSub, exS_fz, exS_ife, exS_ret, exS_pass, den_nop, den_c, den_v, den_bin, den_neg, den_cmp, den_chain, den_and, den_or, den_not, den_ite, den_tup, den_lst, den_sub, den_rev, den_callv, exS_raise, exS_tryR, den_sl, den_call, den_blt, den_meth, denL_nil, denL_cons, WS_seq, WS_toS, WS_nx, WS_rt, WS_asB, WS_ite, WP_bind, WP_ok, WP_asB, WP_ite, bindP, setAll, List.set_cons_zero, List.set_cons_succ, List.getElem?_cons_zero, List.getElem?_cons_succ, decide_true, decide_false, if_true, if_false, Bool.false_eq_true, Bool.not_true, Bool.not_false, isNop, partR, o_add, o_sub, o_lt, o_le, o_gt, o_ge, o_eqi, o_nei, o_eqs, o_nes, o_in, o_notin, o_lent, o_lenl, o_lenc, o_abs, o_min, o_max, o_tupl, o_tupt, o_sll, fin_f, fn27, sg]
    have sb : subD (.dic [.str [107], .str [104], .str [109]] [.int 1000000000, .int 7, .int 1000000]) (.str [104]) s = .ok (.int 7) s := rfl
    simp -implicitDefEqProofs only [exB_cons, exB_nil, exS_expr, exS_set, exS_setSub, exS_fz, exS_ife, exS_ret, exS_pass, den_nop, den_c, den_v, den_bin, den_neg, den_cmp, den_chain, den_and, den_or, den_not, den_ite, den_tup, den_lst, den_sub, den_rev, den_callv, exS_raise, exS_tryR, den_sl, den_call, den_blt, den_meth, denL_nil, denL_cons, WS_seq, WS_toS, WS_nx, WS_rt, WS_asB, WS_ite, WP_bind, WP_ok, WP_asB, WP_ite, bindP, setAll, List.set_cons_zero, List.set_cons_succ, List.getElem?_cons_zero, List.getElem?_cons_succ, decide_true, decide_false, if_true, if_false, Bool.false_eq_true, Bool.not_true, Bool.not_false, isNop, partR, o_add, o_sub, o_lt, o_le, o_gt, o_ge, o_eqi, o_nei, o_eqs, o_nes, o_in, o_notin, o_lent, o_lenl, o_lenc, o_abs, o_min, o_max, o_tupl, o_tupt, o_sll, fin_f, show (104 = 110) = False from by simp, show (104 = 105) = False from by simp, show (104 = 116) = False from by simp, show (104 = 118) = False from by simp, show (104 = 99) = False from by simp, d_khm, sb, a5]
    simp [isPart, D.top]
  · simp -implicitDefEqProofs only [exB_cons, exB_nil, exS_expr, exS_set, exS_setSub, exS_fz, exS_ife, exS_ret, exS_pass, den_nop, den_c, den_v, den_bin, den_neg, den_cmp, den_chain, den_and, den_or, den_not, den_ite, den_tup, den_lst, den_sub, den_rev, den_callv, exS_raise, exS_tryR, den_sl, den_call, den_blt, den_meth, denL_nil, denL_cons, WS_seq, WS_toS, WS_nx, WS_rt, WS_asB, WS_ite, WP_bind, WP_ok, WP_asB, WP_ite, bindP, setAll, List.set_cons_zero, List.set_cons_succ, List.getElem?_cons_zero, List.getElem?_cons_succ, decide_true, decide_false, if_true, if_false, Bool.false_eq_true, Bool.not_true, Bool.not_false, isNop, partR, o_add, o_sub, o_lt, o_le, o_gt, o_ge, o_eqi, o_nei, o_eqs, o_nes, o_in, o_notin, o_lent, o_lenl, o_lenc, o_abs, o_min, o_max, o_tupl, o_tupt, o_sll, fin_f, fn27, sg]
    have sb : subD (.dic [.str [107], .str [104], .str [109]] [.int 1000000000, .int 7, .int 1000000]) (.str [109]) s = .ok (.int 1000000) s := rfl
    simp -implicitDefEqProofs only [exB_cons, exB_nil, exS_expr, exS_set, exS_setSub, exS_fz, exS_ife, exS_ret, exS_pass, den_nop, den_c, den_v, den_bin, den_neg, den_cmp, den_chain, den_and, den_or, den_not, den_ite, den_tup, den_lst, den_sub, den_rev, den_callv, exS_raise, exS_tryR, den_sl, den_call, den_blt, den_meth, denL_nil, denL_cons, WS_seq, WS_toS, WS_nx, WS_rt, WS_asB, WS_ite, WP_bind, WP_ok, WP_asB, WP_ite, bindP, setAll, List.set_cons_zero, List.set_cons_succ, List.getElem?_cons_zero, List.getElem?_cons_succ, decide_true, decide_false, if_true, if_false, Bool.false_eq_true, Bool.not_true, Bool.not_false, isNop, partR, o_add, o_sub, o_lt, o_le, o_gt, o_ge, o_eqi, o_nei, o_eqs, o_nes, o_in, o_notin, o_lent, o_lenl, o_lenc, o_abs, o_min, o_max, o_tupl, o_tupt, o_sll, fin_f, show (109 = 110) = False from by simp, show (109 = 105) = False from by simp, show (109 = 116) = False from by simp, show (109 = 118) = False from by simp, show (109 = 99) = False from by simp, d_khm, sb, a5]
    simp [isPart, D.top]
/-! ### the tables -/
def fnOf (c : Nat) : Nat := if c = 110 then 4 else if c = 105 then 10 else if c = 116 then 8 else if c = 118 then 12 else if c = 99 then 13 else if c = 107 then 5 else if c = 104 then 7 else 9
theorem e_look (n : Nat) {m : Nat} {c : Nat} {d : D} (s : St) (hc : letter c) (h : th m d = true) : callF PP (n + 5) (fnOf c) [d] s = .ok (.bl (isPart c d)) s := by
  have hk := th_kk h
  have h1 := th_1 h
  rcases hc with rfl | rfl | rfl | rfl | rfl | rfl | rfl | rfl
  · exact e_name' (n + 3) s h1
  · exact e_id' (n + 1) s (th_D h)
  · exact e_kind (n + 4) s hk
  · exact e_vnone (n + 2) s h1
  · exact e_cells n s h
  · exact e_key (n + 2) s hk
  · exact e_hand' (n + 2) s hk
  · exact e_count' (n + 2) s hk
theorem lookup_mem {z cs : List Nat} : ∀ {l : List (List Nat × List Nat)}, l.lookup z = some cs → (z, cs) ∈ l
  | [], h => by cases h
  | (k, v) :: l, h => by
    rw [List.lookup_cons] at h
    cases q : z == k with
    | true => rw [q] at h; cases h; rw [beq_iff_eq] at q; subst q; exact List.mem_cons_self
    | false => rw [q] at h; exact List.mem_cons_of_mem _ (lookup_mem h)
theorem tbl_letters : ∀ p ∈ TBL, ∀ c ∈ p.2, letter c := by
  have : ∀ p ∈ TBL, ∀ c ∈ p.2, (c = 110 ∨ c = 105 ∨ c = 116 ∨ c = 118 ∨ c = 99 ∨ c = 107 ∨ c = 104 ∨ c = 109) := by decide
  exact this
theorem tbl_len : ∀ p ∈ TBL, p.2.length ≤ 4 := by decide
theorem tab_get {f : List Nat → D} {z : List Nat} : ∀ l : List (List Nat × List Nat), ((l.map (·.1)).zip (l.map fun p => f p.2)).lookup z = (l.lookup z).map f
  | [] => rfl
  | (k, v) :: l => by
    rw [List.map_cons, List.map_cons, List.zip_cons_cons, List.lookup_cons, List.lookup_cons, tab_get l]
    cases z == k <;> rfl
theorem tab_has {z : List Nat} : ∀ l : List (List Nat × List Nat), (l.map (·.1)).contains z = (l.lookup z).isSome
  | [] => rfl
  | (k, v) :: l => by
    rw [List.map_cons, List.contains_cons, List.lookup_cons, tab_has l]
    cases z == k <;> rfl
theorem dic_get {f : List Nat → D} {z : List Nat} : ∀ l : List (List Nat × List Nat), dGet (l.map fun p => D.str p.1) (l.map fun p => f p.2) (.str z) = (l.lookup z).map f
  | [] => rfl
  | (k, v) :: l => by
    rw [List.map_cons, List.map_cons, List.lookup_cons]
    unfold dGet
    rw [dic_get l]
    have : D.beq (.str k) (.str z) = (z == k) := by
      unfold D.beq
      rw [Bool.eq_iff_iff, beq_iff_eq, beq_iff_eq]
      exact eq_comm
    rw [this]
    cases z == k <;> rfl
def fnsOf (cs : List Nat) : List D := cs.map fun c => D.fn (fnOf c)
def TABD : D := .tab (TBL.map (·.1)) (TBL.map fun p => D.tup (fnsOf p.2))
def KSA : List D := TBL.map fun p => D.str p.1
def VSA : List D := TBL.map fun p => D.str p.2
theorem o_tabin {z : List Nat} {s : St} : cmpD .notin (.str z) TABD s = .ok (.bl (!(TBL.lookup z).isSome)) s := by
  rw [← tab_has]
  rcases z with _ | ⟨x, _ | ⟨y, w⟩⟩ <;> rfl
theorem o_tabsub {z cs : List Nat} {s : St} (h : TBL.lookup z = some cs) : subD TABD (.str z) s = .ok (.tup (fnsOf cs)) s := by
  have e := tab_get (f := fun cs => D.tup (fnsOf cs)) (z := z) TBL
  rw [h] at e
  show (match (((TBL.map (·.1)).zip (TBL.map fun p => D.tup (fnsOf p.2))).lookup z) with | some d => R.ok d s | Option.none => .bad) = _
  rw [e]; rfl
theorem ksa_ok {z : List Nat} : kOk KSA (.str z) = true := rfl
theorem o_dicin {z : List Nat} {s : St} : cmpD .notin (.str z) (.dic KSA VSA) s = .ok (.bl (!(TBL.lookup z).isSome)) s := by
  have e := dic_get (f := D.str) (z := z) TBL
  have : cmpD .notin (.str z) (.dic KSA VSA) s = if kOk KSA (.str z) then .ok (.bl (!(dGet KSA VSA (.str z)).isSome)) s else .bad := by
    rcases z with _ | ⟨x, _ | ⟨y, w⟩⟩ <;> rfl
  rw [this, if_pos ksa_ok]
  unfold KSA VSA
  rw [e]
  cases TBL.lookup z <;> rfl
theorem o_dicsub {z cs : List Nat} {s : St} (h : TBL.lookup z = some cs) : subD (.dic KSA VSA) (.str z) s = .ok (.str cs) s := by
  have e := dic_get (f := D.str) (z := z) TBL
  rw [h] at e
  show (if kOk KSA (.str z) then (match dGet KSA VSA (.str z) with | some d => R.ok d s | Option.none => .bad) else .bad) = _
  rw [if_pos ksa_ok]
  unfold KSA VSA
  rw [e]; rfl
/-! ### is_deed -/
theorem bind_st {a : D} {r : List D} {e1 e2 e3 e4 : Option D} {v : Option D} : bindP (.st [1] 4) (.tup (a :: r)) [v, e1, e2, e3, e4] = some [v, some a, e2, e3, some (.lst r)] := by
  simp [bindP, setAll]
theorem set_st {cf : CF} {a : D} {r : List D} {s : St} {e1 e2 e3 e4 : Option D} : exS cf (.set (.st [1] 4) (.v 0)) [some (.tup (a :: r)), e1, e2, e3, e4] s = .ok (.nx [some (.tup (a :: r)), some a, e2, e3, some (.lst r)]) s := by
  rw [exS_set, den_v]
  show (match bindP (.st [1] 4) (.tup (a :: r)) [some (.tup (a :: r)), e1, e2, e3, e4] with | some env1 => RS.ok (.nx env1) s | Option.none => .bad) = _
  rw [bind_st]
def loopB : List IS := [.ife (.not (.callv 2 [.v 3])) [.ret (.c (.bl false))] []]
theorem look_loop {n : Nat} {m : Nat} {v0 v1 v4 : Option D} {s : St} : ∀ (cs : List Nat) (r : List D) (e2 e3 : Option D), r.length = cs.length → (∀ c ∈ cs, letter c) → (∀ d ∈ r, th m d = true) →
    (parts cs r = true → ∃ e2' e3', forR (.t [2, 3]) (fun env s => exB (callF PP (n + 5)) loopB env s) (zipD (fnsOf cs) r) [v0, v1, e2, e3, v4] s = .ok (.nx [v0, v1, e2', e3', v4]) s) ∧
    (parts cs r = false → forR (.t [2, 3]) (fun env s => exB (callF PP (n + 5)) loopB env s) (zipD (fnsOf cs) r) [v0, v1, e2, e3, v4] s = .ok (.rt (.bl false)) s)
  | [], [], e2, e3, _, _, _ => ⟨fun _ => ⟨_, _, rfl⟩, fun h => by simp [parts] at h⟩
  | [], _ :: _, _, _, h, _, _ => by simp at h
  | _ :: _, [], _, _, h, _, _ => by simp at h
  | c :: cs, d :: r, e2, e3, hl, hc, ht => by
    have ih := look_loop (n := n) (v0 := v0) (v1 := v1) (v4 := v4) (s := s) cs r (some (.fn (fnOf c))) (some d) (by simpa using hl) (fun x hx => hc x (List.mem_cons_of_mem _ hx)) fun x hx => ht x (List.mem_cons_of_mem _ hx)
    have lk := e_look n s (hc c List.mem_cons_self) (ht d List.mem_cons_self)
    have z : zipD (fnsOf (c :: cs)) (d :: r) = .tup [.fn (fnOf c), d] :: zipD (fnsOf cs) r := rfl
    have b : exB (callF PP (n + 5)) loopB [v0, v1, some (.fn (fnOf c)), some d, v4] s = if isPart c d then .ok (.nx [v0, v1, some (.fn (fnOf c)), some d, v4]) s else .ok (.rt (.bl false)) s := by
      unfold loopB
      simp only [exB_cons, exB_nil, exS_ife, den_not, den_callv, denL_cons, denL_nil, den_v, List.getElem?_cons_zero, List.getElem?_cons_succ, R.bind_ok, lk, asB, R.toS, asBS, exS_ret, den_c]
      cases isPart c d <;> rfl
    rw [z]
    unfold forR
    have bd : bindP (.t [2, 3]) (.tup [.fn (fnOf c), d]) [v0, v1, e2, e3, v4] = some [v0, v1, some (.fn (fnOf c)), some d, v4] := rfl
    rw [bd]
    simp only [b]
    cases q : isPart c d
    · refine ⟨fun h => ?_, fun _ => rfl⟩
      simp [parts, q] at h
    · have e : parts (c :: cs) (d :: r) = parts cs r := by simp [parts, q]
      rw [e]
      exact ih
theorem parts_len : ∀ {cs : List Nat} {r : List D}, ¬ r.length = cs.length → parts cs r = false
  | [], [], h => absurd rfl h
  | [], _ :: _, _ => rfl
  | _ :: _, [], _ => rfl
  | c :: cs, d :: r, h => by
    unfold parts
    rw [parts_len (cs := cs) (r := r) (by simpa using h), Bool.and_false]
theorem e_deed (n : Nat) {m : Nat} {d : D} (s : St) (h : th m d = true) : callF PP (n + 6) 14 [d] s = .ok (.bl (isDeed d)) s := by
  have hk := th_kk h
  refine eq_of_wp ?_
  rw [callF_eq (fn := fn14) rfl rfl, WP_back]
  show WS (exB _ fn14.body [some d, none, none, none, none] s) _ _
  rw [show fn14.body = [.ife (.or (.not (.blt (.isinst 3) false [.v 0, .c (.ty 3)])) (.or (.cmp .eq (.blt .len false [.v 0]) (.c (.int 0))) (.or (.not (.blt (.isinst 2) false [.sub (.v 0) (.c (.int 0)), .c (.ty 2)])) (.cmp .notin (.sub (.v 0) (.c (.int 0))) (.c TABD))))) [.ret (.c (.bl false))] [],
    .set (.st [1] 4) (.v 0), .ife (.cmp .ne (.blt .len false [.v 4]) (.blt .len false [.sub (.c TABD) (.v 1)])) [.ret (.c (.bl false))] [], .forr (.t [2, 3]) .zip [.sub (.c TABD) (.v 1), .v 4] loopB, .ret (.c (.bl true))] from rfl]
  rw [exB_cons]
  simp -implicitDefEqProofs only [exB_nil, exS_expr, exS_set, exS_setSub, exS_fz, exS_ife, exS_ret, exS_pass, den_nop, den_c, den_v, den_bin, den_neg, den_cmp, den_chain, den_and, den_or, den_not, den_ite, den_tup, den_lst, den_sub, den_rev, den_callv, exS_raise, exS_tryR, den_sl, den_call, den_blt, den_meth, denL_nil, denL_cons, WS_seq, WS_toS, WS_nx, WS_rt, WS_asB, WS_ite, WP_bind, WP_ok, WP_asB, WP_ite, bindP, setAll, List.set_cons_zero, List.set_cons_succ, List.getElem?_cons_zero, List.getElem?_cons_succ, decide_true, decide_false, if_true, if_false, Bool.false_eq_true, Bool.not_true, Bool.not_false, isNop, partR, o_add, o_sub, o_lt, o_le, o_gt, o_ge, o_eqi, o_nei, o_eqs, o_nes, o_in, o_notin, o_lent, o_lenl, o_lenc, o_abs, o_min, o_max, o_tupl, o_tupt, o_sll, fin_f, o_isin hk, isT_kk hk]
  cases d <;> first | (cases hk; done) | skip
  case tup ds =>
    have e1 : isT [] 3 (.tup ds) = true := rfl
    have ht := (th_tup h).2
    simp -implicitDefEqProofs only [exB_nil, exS_expr, exS_set, exS_setSub, exS_fz, exS_ife, exS_ret, exS_pass, den_nop, den_c, den_v, den_bin, den_neg, den_cmp, den_chain, den_and, den_or, den_not, den_ite, den_tup, den_lst, den_sub, den_rev, den_callv, exS_raise, exS_tryR, den_sl, den_call, den_blt, den_meth, denL_nil, denL_cons, WS_seq, WS_toS, WS_nx, WS_rt, WS_asB, WS_ite, WP_bind, WP_ok, WP_asB, WP_ite, bindP, setAll, List.set_cons_zero, List.set_cons_succ, List.getElem?_cons_zero, List.getElem?_cons_succ, decide_true, decide_false, if_true, if_false, Bool.false_eq_true, Bool.not_true, Bool.not_false, isNop, partR, o_add, o_sub, o_lt, o_le, o_gt, o_ge, o_eqi, o_nei, o_eqs, o_nes, o_in, o_notin, o_lent, o_lenl, o_lenc, o_abs, o_min, o_max, o_tupl, o_tupt, o_sll, fin_f, e1]
    cases ds with
    | nil =>
      simp -implicitDefEqProofs only [exB_cons, exB_nil, exS_expr, exS_set, exS_setSub, exS_fz, exS_ife, exS_ret, exS_pass, den_nop, den_c, den_v, den_bin, den_neg, den_cmp, den_chain, den_and, den_or, den_not, den_ite, den_tup, den_lst, den_sub, den_rev, den_callv, exS_raise, exS_tryR, den_sl, den_call, den_blt, den_meth, denL_nil, denL_cons, WS_seq, WS_toS, WS_nx, WS_rt, WS_asB, WS_ite, WP_bind, WP_ok, WP_asB, WP_ite, bindP, setAll, List.set_cons_zero, List.set_cons_succ, List.getElem?_cons_zero, List.getElem?_cons_succ, decide_true, decide_false, if_true, if_false, Bool.false_eq_true, Bool.not_true, Bool.not_false, isNop, partR, o_add, o_sub, o_lt, o_le, o_gt, o_ge, o_eqi, o_nei, o_eqs, o_nes, o_in, o_notin, o_lent, o_lenl, o_lenc, o_abs, o_min, o_max, o_tupl, o_tupt, o_sll, fin_f, List.length_nil]
      simp [isDeed, D.top]
    | cons a r =>
      have l0 : (((a :: r).length : Int) == 0) = false := by rw [beq_eq_false_iff_ne]; simp; omega
      have ha := th_kk (ht a List.mem_cons_self)
      simp -implicitDefEqProofs only [exB_nil, exS_expr, exS_set, exS_setSub, exS_fz, exS_ife, exS_ret, exS_pass, den_nop, den_c, den_v, den_bin, den_neg, den_cmp, den_chain, den_and, den_or, den_not, den_ite, den_tup, den_lst, den_sub, den_rev, den_callv, exS_raise, exS_tryR, den_sl, den_call, den_blt, den_meth, denL_nil, denL_cons, WS_seq, WS_toS, WS_nx, WS_rt, WS_asB, WS_ite, WP_bind, WP_ok, WP_asB, WP_ite, bindP, setAll, List.set_cons_zero, List.set_cons_succ, List.getElem?_cons_zero, List.getElem?_cons_succ, decide_true, decide_false, if_true, if_false, Bool.false_eq_true, Bool.not_true, Bool.not_false, isNop, partR, o_add, o_sub, o_lt, o_le, o_gt, o_ge, o_eqi, o_nei, o_eqs, o_nes, o_in, o_notin, o_lent, o_lenl, o_lenc, o_abs, o_min, o_max, o_tupl, o_tupt, o_sll, fin_f, l0, sub0, o_isin ha, isT_kk ha]
      cases a <;> first | (cases ha; done) | skip
      case str w =>
        have e2 : isT [] 2 (.str w) = true := rfl
        simp -implicitDefEqProofs only [exB_nil, exS_expr, exS_set, exS_setSub, exS_fz, exS_ife, exS_ret, exS_pass, den_nop, den_c, den_v, den_bin, den_neg, den_cmp, den_chain, den_and, den_or, den_not, den_ite, den_tup, den_lst, den_sub, den_rev, den_callv, exS_raise, exS_tryR, den_sl, den_call, den_blt, den_meth, denL_nil, denL_cons, WS_seq, WS_toS, WS_nx, WS_rt, WS_asB, WS_ite, WP_bind, WP_ok, WP_asB, WP_ite, bindP, setAll, List.set_cons_zero, List.set_cons_succ, List.getElem?_cons_zero, List.getElem?_cons_succ, decide_true, decide_false, if_true, if_false, Bool.false_eq_true, Bool.not_true, Bool.not_false, isNop, partR, o_add, o_sub, o_lt, o_le, o_gt, o_ge, o_eqi, o_nei, o_eqs, o_nes, o_in, o_notin, o_lent, o_lenl, o_lenc, o_abs, o_min, o_max, o_tupl, o_tupt, o_sll, fin_f, e2, sub0, o_tabin]
        cases q : TBL.lookup w with
        | none =>
          simp -implicitDefEqProofs only [exB_nil, exS_expr, exS_set, exS_setSub, exS_fz, exS_ife, exS_ret, exS_pass, den_nop, den_c, den_v, den_bin, den_neg, den_cmp, den_chain, den_and, den_or, den_not, den_ite, den_tup, den_lst, den_sub, den_rev, den_callv, exS_raise, exS_tryR, den_sl, den_call, den_blt, den_meth, denL_nil, denL_cons, WS_seq, WS_toS, WS_nx, WS_rt, WS_asB, WS_ite, WP_bind, WP_ok, WP_asB, WP_ite, bindP, setAll, List.set_cons_zero, List.set_cons_succ, List.getElem?_cons_zero, List.getElem?_cons_succ, decide_true, decide_false, if_true, if_false, Bool.false_eq_true, Bool.not_true, Bool.not_false, isNop, partR, o_add, o_sub, o_lt, o_le, o_gt, o_ge, o_eqi, o_nei, o_eqs, o_nes, o_in, o_notin, o_lent, o_lenl, o_lenc, o_abs, o_min, o_max, o_tupl, o_tupt, o_sll, fin_f, Option.isSome_none]
          simp -implicitDefEqProofs only [exB_cons, exB_nil, exS_expr, exS_set, exS_setSub, exS_fz, exS_ife, exS_ret, exS_pass, den_nop, den_c, den_v, den_bin, den_neg, den_cmp, den_chain, den_and, den_or, den_not, den_ite, den_tup, den_lst, den_sub, den_rev, den_callv, exS_raise, exS_tryR, den_sl, den_call, den_blt, den_meth, denL_nil, denL_cons, WS_seq, WS_toS, WS_nx, WS_rt, WS_asB, WS_ite, WP_bind, WP_ok, WP_asB, WP_ite, bindP, setAll, List.set_cons_zero, List.set_cons_succ, List.getElem?_cons_zero, List.getElem?_cons_succ, decide_true, decide_false, if_true, if_false, Bool.false_eq_true, Bool.not_true, Bool.not_false, isNop, partR, o_add, o_sub, o_lt, o_le, o_gt, o_ge, o_eqi, o_nei, o_eqs, o_nes, o_in, o_notin, o_lent, o_lenl, o_lenc, o_abs, o_min, o_max, o_tupl, o_tupt, o_sll, fin_f]
          simp [isDeed, q, D.top]
        | some cs =>
          simp -implicitDefEqProofs only [exB_nil, exS_expr, exS_set, exS_setSub, exS_fz, exS_ife, exS_ret, exS_pass, den_nop, den_c, den_v, den_bin, den_neg, den_cmp, den_chain, den_and, den_or, den_not, den_ite, den_tup, den_lst, den_sub, den_rev, den_callv, exS_raise, exS_tryR, den_sl, den_call, den_blt, den_meth, denL_nil, denL_cons, WS_seq, WS_toS, WS_nx, WS_rt, WS_asB, WS_ite, WP_bind, WP_ok, WP_asB, WP_ite, bindP, setAll, List.set_cons_zero, List.set_cons_succ, List.getElem?_cons_zero, List.getElem?_cons_succ, decide_true, decide_false, if_true, if_false, Bool.false_eq_true, Bool.not_true, Bool.not_false, isNop, partR, o_add, o_sub, o_lt, o_le, o_gt, o_ge, o_eqi, o_nei, o_eqs, o_nes, o_in, o_notin, o_lent, o_lenl, o_lenc, o_abs, o_min, o_max, o_tupl, o_tupt, o_sll, fin_f, Option.isSome_some, exB_nil]
          have hmem := lookup_mem q
          have hr : ∀ d ∈ r, th m d = true := fun d hd => ht d (List.mem_cons_of_mem _ hd)
          have dd : isDeed (.tup (.str w :: r)) = parts cs r := by simp [isDeed, q]
          rw [exB_cons, set_st, WS_seq, WS_nx]
          rw [exB_cons]
          have lf : (fnsOf cs).length = cs.length := by simp [fnsOf]
          simp -implicitDefEqProofs only [exB_nil, exS_expr, exS_set, exS_setSub, exS_fz, exS_ife, exS_ret, exS_pass, den_nop, den_c, den_v, den_bin, den_neg, den_cmp, den_chain, den_and, den_or, den_not, den_ite, den_tup, den_lst, den_sub, den_rev, den_callv, exS_raise, exS_tryR, den_sl, den_call, den_blt, den_meth, denL_nil, denL_cons, WS_seq, WS_toS, WS_nx, WS_rt, WS_asB, WS_ite, WP_bind, WP_ok, WP_asB, WP_ite, bindP, setAll, List.set_cons_zero, List.set_cons_succ, List.getElem?_cons_zero, List.getElem?_cons_succ, decide_true, decide_false, if_true, if_false, Bool.false_eq_true, Bool.not_true, Bool.not_false, isNop, partR, o_add, o_sub, o_lt, o_le, o_gt, o_ge, o_eqi, o_nei, o_eqs, o_nes, o_in, o_notin, o_lent, o_lenl, o_lenc, o_abs, o_min, o_max, o_tupl, o_tupt, o_sll, fin_f, o_tabsub q, lf]
          by_cases hl : r.length = cs.length
          · have e3 : ((r.length : Int) == (cs.length : Int)) = true := by simp [hl]
            simp -implicitDefEqProofs only [exB_nil, exS_expr, exS_set, exS_setSub, exS_fz, exS_ife, exS_ret, exS_pass, den_nop, den_c, den_v, den_bin, den_neg, den_cmp, den_chain, den_and, den_or, den_not, den_ite, den_tup, den_lst, den_sub, den_rev, den_callv, exS_raise, exS_tryR, den_sl, den_call, den_blt, den_meth, denL_nil, denL_cons, WS_seq, WS_toS, WS_nx, WS_rt, WS_asB, WS_ite, WP_bind, WP_ok, WP_asB, WP_ite, bindP, setAll, List.set_cons_zero, List.set_cons_succ, List.getElem?_cons_zero, List.getElem?_cons_succ, decide_true, decide_false, if_true, if_false, Bool.false_eq_true, Bool.not_true, Bool.not_false, isNop, partR, o_add, o_sub, o_lt, o_le, o_gt, o_ge, o_eqi, o_nei, o_eqs, o_nes, o_in, o_notin, o_lent, o_lenl, o_lenc, o_abs, o_min, o_max, o_tupl, o_tupt, o_sll, fin_f, e3, exB_nil]
            rw [exB_cons, exS_forr]
            have it : itK .zip [.tup (fnsOf cs), .lst r] = some (zipD (fnsOf cs) r) := rfl
            (try simp -implicitDefEqProofs only [exB_nil, exS_expr, exS_set, exS_setSub, exS_fz, exS_ife, exS_ret, exS_pass, den_nop, den_c, den_v, den_bin, den_neg, den_cmp, den_chain, den_and, den_or, den_not, den_ite, den_tup, den_lst, den_sub, den_rev, den_callv, exS_raise, exS_tryR, den_sl, den_call, den_blt, den_meth, denL_nil, denL_cons, WS_seq, WS_toS, WS_nx, WS_rt, WS_asB, WS_ite, WP_bind, WP_ok, WP_asB, WP_ite, bindP, setAll, List.set_cons_zero, List.set_cons_succ, List.getElem?_cons_zero, List.getElem?_cons_succ, decide_true, decide_false, if_true, if_false, Bool.false_eq_true, Bool.not_true, Bool.not_false, isNop, partR, o_add, o_sub, o_lt, o_le, o_gt, o_ge, o_eqi, o_nei, o_eqs, o_nes, o_in, o_notin, o_lent, o_lenl, o_lenc, o_abs, o_min, o_max, o_tupl, o_tupt, o_sll, fin_f, o_tabsub q, it])
            obtain ⟨k1, k2⟩ := look_loop (n := n) (m := m) (v0 := some (.tup (.str w :: r))) (v1 := some (.str w)) (v4 := some (.lst r)) (s := s) cs r none none hl (tbl_letters _ hmem) hr
            rw [dd]
            cases hp : parts cs r with
            | true =>
              obtain ⟨e2', e3', k⟩ := k1 hp
              rw [k]
              simp -implicitDefEqProofs only [exB_cons, exB_nil, exS_expr, exS_set, exS_setSub, exS_fz, exS_ife, exS_ret, exS_pass, den_nop, den_c, den_v, den_bin, den_neg, den_cmp, den_chain, den_and, den_or, den_not, den_ite, den_tup, den_lst, den_sub, den_rev, den_callv, exS_raise, exS_tryR, den_sl, den_call, den_blt, den_meth, denL_nil, denL_cons, WS_seq, WS_toS, WS_nx, WS_rt, WS_asB, WS_ite, WP_bind, WP_ok, WP_asB, WP_ite, bindP, setAll, List.set_cons_zero, List.set_cons_succ, List.getElem?_cons_zero, List.getElem?_cons_succ, decide_true, decide_false, if_true, if_false, Bool.false_eq_true, Bool.not_true, Bool.not_false, isNop, partR, o_add, o_sub, o_lt, o_le, o_gt, o_ge, o_eqi, o_nei, o_eqs, o_nes, o_in, o_notin, o_lent, o_lenl, o_lenc, o_abs, o_min, o_max, o_tupl, o_tupt, o_sll, fin_f]
              simp [D.top]
            | false =>
              rw [k2 hp]
              (try simp -implicitDefEqProofs only [exB_nil, exS_expr, exS_set, exS_setSub, exS_fz, exS_ife, exS_ret, exS_pass, den_nop, den_c, den_v, den_bin, den_neg, den_cmp, den_chain, den_and, den_or, den_not, den_ite, den_tup, den_lst, den_sub, den_rev, den_callv, exS_raise, exS_tryR, den_sl, den_call, den_blt, den_meth, denL_nil, denL_cons, WS_seq, WS_toS, WS_nx, WS_rt, WS_asB, WS_ite, WP_bind, WP_ok, WP_asB, WP_ite, bindP, setAll, List.set_cons_zero, List.set_cons_succ, List.getElem?_cons_zero, List.getElem?_cons_succ, decide_true, decide_false, if_true, if_false, Bool.false_eq_true, Bool.not_true, Bool.not_false, isNop, partR, o_add, o_sub, o_lt, o_le, o_gt, o_ge, o_eqi, o_nei, o_eqs, o_nes, o_in, o_notin, o_lent, o_lenl, o_lenc, o_abs, o_min, o_max, o_tupl, o_tupt, o_sll, fin_f])
              simp [D.top]
          · have e3 : ((r.length : Int) == (cs.length : Int)) = false := by rw [beq_eq_false_iff_ne]; omega
            simp -implicitDefEqProofs only [exB_nil, exS_expr, exS_set, exS_setSub, exS_fz, exS_ife, exS_ret, exS_pass, den_nop, den_c, den_v, den_bin, den_neg, den_cmp, den_chain, den_and, den_or, den_not, den_ite, den_tup, den_lst, den_sub, den_rev, den_callv, exS_raise, exS_tryR, den_sl, den_call, den_blt, den_meth, denL_nil, denL_cons, WS_seq, WS_toS, WS_nx, WS_rt, WS_asB, WS_ite, WP_bind, WP_ok, WP_asB, WP_ite, bindP, setAll, List.set_cons_zero, List.set_cons_succ, List.getElem?_cons_zero, List.getElem?_cons_succ, decide_true, decide_false, if_true, if_false, Bool.false_eq_true, Bool.not_true, Bool.not_false, isNop, partR, o_add, o_sub, o_lt, o_le, o_gt, o_ge, o_eqi, o_nei, o_eqs, o_nes, o_in, o_notin, o_lent, o_lenl, o_lenc, o_abs, o_min, o_max, o_tupl, o_tupt, o_sll, fin_f, e3]
            simp -implicitDefEqProofs only [exB_cons, exB_nil, exS_expr, exS_set, exS_setSub, exS_fz, exS_ife, exS_ret, exS_pass, den_nop, den_c, den_v, den_bin, den_neg, den_cmp, den_chain, den_and, den_or, den_not, den_ite, den_tup, den_lst, den_sub, den_rev, den_callv, exS_raise, exS_tryR, den_sl, den_call, den_blt, den_meth, denL_nil, denL_cons, WS_seq, WS_toS, WS_nx, WS_rt, WS_asB, WS_ite, WP_bind, WP_ok, WP_asB, WP_ite, bindP, setAll, List.set_cons_zero, List.set_cons_succ, List.getElem?_cons_zero, List.getElem?_cons_succ, decide_true, decide_false, if_true, if_false, Bool.false_eq_true, Bool.not_true, Bool.not_false, isNop, partR, o_add, o_sub, o_lt, o_le, o_gt, o_ge, o_eqi, o_nei, o_eqs, o_nes, o_in, o_notin, o_lent, o_lenl, o_lenc, o_abs, o_min, o_max, o_tupl, o_tupt, o_sll, fin_f]
            rw [dd, parts_len hl]
            simp [D.top]
      all_goals ((try simp -implicitDefEqProofs only [exB_cons, exB_nil, exS_expr, exS_set, exS_setSub, exS_fz, exS_ife, exS_ret, exS_pass, den_nop, den_c, den_v, den_bin, den_neg, den_cmp, den_chain, den_and, den_or, den_not, den_ite, den_tup, den_lst, den_sub, den_rev, den_callv, exS_raise, exS_tryR, den_sl, den_call, den_blt, den_meth, denL_nil, denL_cons, WS_seq, WS_toS, WS_nx, WS_rt, WS_asB, WS_ite, WP_bind, WP_ok, WP_asB, WP_ite, bindP, setAll, List.set_cons_zero, List.set_cons_succ, List.getElem?_cons_zero, List.getElem?_cons_succ, decide_true, decide_false, if_true, if_false, Bool.false_eq_true, Bool.not_true, Bool.not_false, isNop, partR, o_add, o_sub, o_lt, o_le, o_gt, o_ge, o_eqi, o_nei, o_eqs, o_nes, o_in, o_notin, o_lent, o_lenl, o_lenc, o_abs, o_min, o_max, o_tupl, o_tupt, o_sll, fin_f]); simp [isT, rd, isDeed, D.top, WP_ok, WS_rt, exB_cons, exS_ret, den_c, WS_seq, WS_toS])
  all_goals ((try simp -implicitDefEqProofs only [exB_cons, exB_nil, exS_expr, exS_set, exS_setSub, exS_fz, exS_ife, exS_ret, exS_pass, den_nop, den_c, den_v, den_bin, den_neg, den_cmp, den_chain, den_and, den_or, den_not, den_ite, den_tup, den_lst, den_sub, den_rev, den_callv, exS_raise, exS_tryR, den_sl, den_call, den_blt, den_meth, denL_nil, denL_cons, WS_seq, WS_toS, WS_nx, WS_rt, WS_asB, WS_ite, WP_bind, WP_ok, WP_asB, WP_ite, bindP, setAll, List.set_cons_zero, List.set_cons_succ, List.getElem?_cons_zero, List.getElem?_cons_succ, decide_true, decide_false, if_true, if_false, Bool.false_eq_true, Bool.not_true, Bool.not_false, isNop, partR, o_add, o_sub, o_lt, o_le, o_gt, o_ge, o_eqi, o_nei, o_eqs, o_nes, o_in, o_notin, o_lent, o_lenl, o_lenc, o_abs, o_min, o_max, o_tupl, o_tupt, o_sll, fin_f]); simp [isT, rd, isDeed, D.top, WP_ok, WS_rt])
end Lw_k37

set_option Elab.async false
set_option linter.all false
set_option autoImplicit false
set_option maxRecDepth 100000
set_option maxHeartbeats 4000000
namespace Lw_k37
open Fk
/-! ### the law's own table -/
def KS1 : List D := (TBL.take 7).map fun p => D.str p.1
def VS1 : List D := (TBL.take 7).map fun p => D.str p.2
def KS2 : List D := (TBL.drop 7).map fun p => D.str p.1
def VS2 : List D := (TBL.drop 7).map fun p => D.str p.2
theorem d_dic1 {cf : CF} {env : Fk.Env} {s : St} {es : List IE} {t : Bool} {xs ks vs : List D} (h : denL cf es env s = .ok xs s) (p : pairsOf xs = some (ks, vs)) (k : (ks.all leafK && noDup ks) = true) : den cf (.dic t es) env s = finD t ks vs s := by
  rw [den_dic, h, R.bind_ok, p]
  show (if (ks.all leafK && noDup ks) = true then finD t ks vs s else .bad) = _
  rw [if_pos k]
theorem e_forms (n : Nat) (s : St) : callF PP (n + 1) 28 [] s = .ok (.dic KSA VSA) s := by
  refine eq_of_wp ?_
  rw [callF_eq (fn := fn28) rfl rfl, WP_back]
  show WS (exB _ fn28.body [none] s) _ _
  have f1 : finD true KS1 VS1 s = .ok (.ref s.length) (s ++ [.dic KS1 VS1]) := rfl
  rw [fn28, exB_cons, exS_set]
  rw [d_dic1 (xs := [.str [116, 97, 98, 108, 101], .str [110], .str [99, 111, 108, 117, 109, 110], .str [110, 110, 116, 118], .str [99, 97, 108, 108], .str [110, 105, 110], .str [107, 105, 110, 100], .str [110, 105, 116], .str [101, 108, 115, 101], .str [110, 105, 118], .str [112, 117, 116], .str [110, 107, 99], .str [98, 108, 97, 110, 107], .str [110, 107, 105]]) (ks := KS1) (vs := VS1) (by simp only [denL_cons, denL_nil, den_c, R.bind_ok]) rfl rfl, f1]
  (try simp -implicitDefEqProofs only [exB_nil, exS_expr, exS_set, exS_setSub, exS_fz, exS_ife, exS_ret, exS_pass, den_nop, den_c, den_v, den_bin, den_neg, den_cmp, den_chain, den_and, den_or, den_not, den_ite, den_tup, den_lst, den_sub, den_rev, den_callv, exS_raise, exS_tryR, den_sl, den_call, den_blt, den_meth, denL_nil, denL_cons, WS_seq, WS_toS, WS_nx, WS_rt, WS_asB, WS_ite, WP_bind, WP_ok, WP_asB, WP_ite, bindP, setAll, List.set_cons_zero, List.set_cons_succ, List.getElem?_cons_zero, List.getElem?_cons_succ, decide_true, decide_false, if_true, if_false, Bool.false_eq_true, Bool.not_true, Bool.not_false, isNop, partR, o_add, o_sub, o_lt, o_le, o_gt, o_ge, o_eqi, o_nei, o_eqs, o_nes, o_in, o_notin, o_lent, o_lenl, o_lenc, o_abs, o_min, o_max, o_tupl, o_tupt, o_sll, fin_f])
  rw [exB_cons, exS_upd]
  have u1 : ∀ x : List IE, isDicR (s ++ [.dic KS1 VS1]) (.ref s.length) = true := fun _ => by simp [isDicR, rd]
  have u2 : ∀ env : Fk.Env, updD (.ref s.length) (.dic KS2 VS2) env (s ++ [.dic KS1 VS1]) = .ok (.nx env) (s ++ [.dic KSA VSA]) := fun env => by
    have c : (D.pureL VS2 && decide (KS2.length = VS2.length) && (KS1.all fun k => !isTup k) && (KS2.all fun k => !isTup k) && decide (KS1.length + KS2.length < sizeLine)) = true := rfl
    have e1 : (dMerge KS1 VS1 KS2 VS2).1 = KSA := rfl
    have e2 : (dMerge KS1 VS1 KS2 VS2).2 = VSA := rfl
    simp only [updD, snoc_get, snoc_set, c, if_true, e1, e2]
  have f2 : ∀ s : St, finD false KS2 VS2 s = .ok (.dic KS2 VS2) s := fun _ => rfl
  rw [den_v]
  show WS (RS.seq (chkS_ (isDicR (s ++ [.dic KS1 VS1]) (.ref s.length)) _) _) _ _
  rw [u1 []]
  simp only [chkS_, if_true]
  rw [d_dic1 (xs := [.str [100, 114, 111, 112], .str [110, 107], .str [108, 101, 97, 118, 101], .str [110, 105], .str [101, 110, 100], .str [110], .str [117, 110, 100, 111], .str [110, 104, 110, 109]]) (ks := KS2) (vs := VS2) (by simp only [denL_cons, denL_nil, den_c, R.bind_ok]) rfl rfl, f2]
  (try simp -implicitDefEqProofs only [exB_nil, exS_expr, exS_set, exS_setSub, exS_fz, exS_ife, exS_ret, exS_pass, den_nop, den_c, den_v, den_bin, den_neg, den_cmp, den_chain, den_and, den_or, den_not, den_ite, den_tup, den_lst, den_sub, den_rev, den_callv, exS_raise, exS_tryR, den_sl, den_call, den_blt, den_meth, denL_nil, denL_cons, WS_seq, WS_toS, WS_nx, WS_rt, WS_asB, WS_ite, WP_bind, WP_ok, WP_asB, WP_ite, bindP, setAll, List.set_cons_zero, List.set_cons_succ, List.getElem?_cons_zero, List.getElem?_cons_succ, decide_true, decide_false, if_true, if_false, Bool.false_eq_true, Bool.not_true, Bool.not_false, isNop, partR, o_add, o_sub, o_lt, o_le, o_gt, o_ge, o_eqi, o_nei, o_eqs, o_nes, o_in, o_notin, o_lent, o_lenl, o_lenc, o_abs, o_min, o_max, o_tupl, o_tupt, o_sll, fin_f, u2])
  rw [exB_cons]
  have fz : freeze 0 [some (.ref s.length)] (s ++ [.dic KSA VSA]) = .ok (.nx [some (.dic KSA VSA)]) (s ++ [.gone]) := by
    simp [freeze]
  (try simp -implicitDefEqProofs only [exB_nil, exS_expr, exS_set, exS_setSub, exS_fz, exS_ife, exS_ret, exS_pass, den_nop, den_c, den_v, den_bin, den_neg, den_cmp, den_chain, den_and, den_or, den_not, den_ite, den_tup, den_lst, den_sub, den_rev, den_callv, exS_raise, exS_tryR, den_sl, den_call, den_blt, den_meth, denL_nil, denL_cons, WS_seq, WS_toS, WS_nx, WS_rt, WS_asB, WS_ite, WP_bind, WP_ok, WP_asB, WP_ite, bindP, setAll, List.set_cons_zero, List.set_cons_succ, List.getElem?_cons_zero, List.getElem?_cons_succ, decide_true, decide_false, if_true, if_false, Bool.false_eq_true, Bool.not_true, Bool.not_false, isNop, partR, o_add, o_sub, o_lt, o_le, o_gt, o_ge, o_eqi, o_nei, o_eqs, o_nes, o_in, o_notin, o_lent, o_lenl, o_lenc, o_abs, o_min, o_max, o_tupl, o_tupt, o_sll, fin_f, fz])
  rw [exB_cons]
  (try simp -implicitDefEqProofs only [exB_nil, exS_expr, exS_set, exS_setSub, exS_fz, exS_ife, exS_ret, exS_pass, den_nop, den_c, den_v, den_bin, den_neg, den_cmp, den_chain, den_and, den_or, den_not, den_ite, den_tup, den_lst, den_sub, den_rev, den_callv, exS_raise, exS_tryR, den_sl, den_call, den_blt, den_meth, denL_nil, denL_cons, WS_seq, WS_toS, WS_nx, WS_rt, WS_asB, WS_ite, WP_bind, WP_ok, WP_asB, WP_ite, bindP, setAll, List.set_cons_zero, List.set_cons_succ, List.getElem?_cons_zero, List.getElem?_cons_succ, decide_true, decide_false, if_true, if_false, Bool.false_eq_true, Bool.not_true, Bool.not_false, isNop, partR, o_add, o_sub, o_lt, o_le, o_gt, o_ge, o_eqi, o_nei, o_eqs, o_nes, o_in, o_notin, o_lent, o_lenl, o_lenc, o_abs, o_min, o_max, o_tupl, o_tupt, o_sll, fin_f])
  refine ⟨trivial, ?_⟩
  have : (D.dic KSA VSA).top = 0 := rfl
  rw [this]; simp
/-! ### due -/
theorem cut1 {a : D} {r : List D} : cut (a :: r) (some 1) none = r := by
  have : sIx (a :: r).length 0 (some 1) = 1 := by simp [sIx]
  unfold cut
  rw [this]
  simp [sIx]
def pp : D → Bool
  | .tup [.str [c], x] => isPart c x
  | _ => false
theorem pp_all : ∀ {cs : List Nat} {r : List D}, r.length = cs.length → ((zipD (cs.map chD) r).map pp).all id = parts cs r
  | [], [], _ => rfl
  | [], _ :: _, h => by simp at h
  | _ :: _, [], h => by simp at h
  | c :: cs, d :: r, h => by
    have ih := pp_all (cs := cs) (r := r) (by simpa using h)
    show (isPart c d && ((zipD (cs.map chD) r).map pp).all id) = _
    rw [ih]; rfl
theorem flatL_bl : ∀ bs : List Bool, flatL (bs.map D.bl) = true
  | [] => rfl
  | b :: bs => by rw [List.map_cons]; unfold flatL; rw [flatL_bl bs]; rfl
theorem depthL_bl : ∀ bs : List Bool, depthL (bs.map D.bl) = 0
  | [] => rfl
  | b :: bs => by rw [List.map_cons]; unfold depthL; rw [depthL_bl bs]; rfl
theorem any_false : ∀ bs : List Bool, ((bs.map D.bl).any fun z => eqv z (.bl false)) = !bs.all id
  | [] => rfl
  | b :: bs => by rw [List.map_cons, List.any_cons, any_false bs, List.all_cons]; cases b <;> simp [eqv]
theorem o_notF {bs : List Bool} {s : St} : cmpD .notin (.bl false) (.lst (bs.map D.bl)) s = .ok (.bl (bs.all id)) s := by
  show (if flat (.bl false) && flatL (bs.map D.bl) && decide (depth (.bl false) ≤ 60) && decide (depthL (bs.map D.bl) ≤ 60) then R.ok (D.bl (!(bs.map D.bl).any fun z => eqv z (.bl false))) s else .bad) = _
  rw [flatL_bl, depthL_bl, any_false]
  simp [flat, depth]
theorem e_due (n : Nat) {m : Nat} {d : D} (s : St) (h : th m d = true) : callF PP (n + 6) 29 [d] s = .ok (.bl (isDeed d)) s := by
  have hk := th_kk h
  refine eq_of_wp ?_
  rw [callF_eq (fn := fn29) rfl rfl, WP_back]
  show WS (exB _ fn29.body [some d, none, none, none] s) _ _
  rw [fn29, exB_cons]
  simp -implicitDefEqProofs only [exB_nil, exS_expr, exS_set, exS_setSub, exS_fz, exS_ife, exS_ret, exS_pass, den_nop, den_c, den_v, den_bin, den_neg, den_cmp, den_chain, den_and, den_or, den_not, den_ite, den_tup, den_lst, den_sub, den_rev, den_callv, exS_raise, exS_tryR, den_sl, den_call, den_blt, den_meth, denL_nil, denL_cons, WS_seq, WS_toS, WS_nx, WS_rt, WS_asB, WS_ite, WP_bind, WP_ok, WP_asB, WP_ite, bindP, setAll, List.set_cons_zero, List.set_cons_succ, List.getElem?_cons_zero, List.getElem?_cons_succ, decide_true, decide_false, if_true, if_false, Bool.false_eq_true, Bool.not_true, Bool.not_false, isNop, partR, o_add, o_sub, o_lt, o_le, o_gt, o_ge, o_eqi, o_nei, o_eqs, o_nes, o_in, o_notin, o_lent, o_lenl, o_lenc, o_abs, o_min, o_max, o_tupl, o_tupt, o_sll, fin_f, o_isin hk, isT_kk hk]
  cases d <;> first | (cases hk; done) | skip
  case tup ds =>
    have e1 : isT [] 3 (.tup ds) = true := rfl
    have ht := (th_tup h).2
    simp -implicitDefEqProofs only [exB_nil, exS_expr, exS_set, exS_setSub, exS_fz, exS_ife, exS_ret, exS_pass, den_nop, den_c, den_v, den_bin, den_neg, den_cmp, den_chain, den_and, den_or, den_not, den_ite, den_tup, den_lst, den_sub, den_rev, den_callv, exS_raise, exS_tryR, den_sl, den_call, den_blt, den_meth, denL_nil, denL_cons, WS_seq, WS_toS, WS_nx, WS_rt, WS_asB, WS_ite, WP_bind, WP_ok, WP_asB, WP_ite, bindP, setAll, List.set_cons_zero, List.set_cons_succ, List.getElem?_cons_zero, List.getElem?_cons_succ, decide_true, decide_false, if_true, if_false, Bool.false_eq_true, Bool.not_true, Bool.not_false, isNop, partR, o_add, o_sub, o_lt, o_le, o_gt, o_ge, o_eqi, o_nei, o_eqs, o_nes, o_in, o_notin, o_lent, o_lenl, o_lenc, o_abs, o_min, o_max, o_tupl, o_tupt, o_sll, fin_f, e1, o_tnil]
    cases ds with
    | nil =>
      simp -implicitDefEqProofs only [exB_nil, exS_expr, exS_set, exS_setSub, exS_fz, exS_ife, exS_ret, exS_pass, den_nop, den_c, den_v, den_bin, den_neg, den_cmp, den_chain, den_and, den_or, den_not, den_ite, den_tup, den_lst, den_sub, den_rev, den_callv, exS_raise, exS_tryR, den_sl, den_call, den_blt, den_meth, denL_nil, denL_cons, WS_seq, WS_toS, WS_nx, WS_rt, WS_asB, WS_ite, WP_bind, WP_ok, WP_asB, WP_ite, bindP, setAll, List.set_cons_zero, List.set_cons_succ, List.getElem?_cons_zero, List.getElem?_cons_succ, decide_true, decide_false, if_true, if_false, Bool.false_eq_true, Bool.not_true, Bool.not_false, isNop, partR, o_add, o_sub, o_lt, o_le, o_gt, o_ge, o_eqi, o_nei, o_eqs, o_nes, o_in, o_notin, o_lent, o_lenl, o_lenc, o_abs, o_min, o_max, o_tupl, o_tupt, o_sll, fin_f, List.isEmpty_nil]
      simp -implicitDefEqProofs only [exB_cons, exB_nil, exS_expr, exS_set, exS_setSub, exS_fz, exS_ife, exS_ret, exS_pass, den_nop, den_c, den_v, den_bin, den_neg, den_cmp, den_chain, den_and, den_or, den_not, den_ite, den_tup, den_lst, den_sub, den_rev, den_callv, exS_raise, exS_tryR, den_sl, den_call, den_blt, den_meth, denL_nil, denL_cons, WS_seq, WS_toS, WS_nx, WS_rt, WS_asB, WS_ite, WP_bind, WP_ok, WP_asB, WP_ite, bindP, setAll, List.set_cons_zero, List.set_cons_succ, List.getElem?_cons_zero, List.getElem?_cons_succ, decide_true, decide_false, if_true, if_false, Bool.false_eq_true, Bool.not_true, Bool.not_false, isNop, partR, o_add, o_sub, o_lt, o_le, o_gt, o_ge, o_eqi, o_nei, o_eqs, o_nes, o_in, o_notin, o_lent, o_lenl, o_lenc, o_abs, o_min, o_max, o_tupl, o_tupt, o_sll, fin_f]
      simp [isDeed, D.top]
    | cons a r =>
      have ha := th_kk (ht a List.mem_cons_self)
      simp -implicitDefEqProofs only [exB_nil, exS_expr, exS_set, exS_setSub, exS_fz, exS_ife, exS_ret, exS_pass, den_nop, den_c, den_v, den_bin, den_neg, den_cmp, den_chain, den_and, den_or, den_not, den_ite, den_tup, den_lst, den_sub, den_rev, den_callv, exS_raise, exS_tryR, den_sl, den_call, den_blt, den_meth, denL_nil, denL_cons, WS_seq, WS_toS, WS_nx, WS_rt, WS_asB, WS_ite, WP_bind, WP_ok, WP_asB, WP_ite, bindP, setAll, List.set_cons_zero, List.set_cons_succ, List.getElem?_cons_zero, List.getElem?_cons_succ, decide_true, decide_false, if_true, if_false, Bool.false_eq_true, Bool.not_true, Bool.not_false, isNop, partR, o_add, o_sub, o_lt, o_le, o_gt, o_ge, o_eqi, o_nei, o_eqs, o_nes, o_in, o_notin, o_lent, o_lenl, o_lenc, o_abs, o_min, o_max, o_tupl, o_tupt, o_sll, fin_f, List.isEmpty_cons, sub0, o_isin ha, isT_kk ha]
      cases a <;> first | (cases ha; done) | skip
      case str w =>
        have e2 : isT [] 2 (.str w) = true := rfl
        simp -implicitDefEqProofs only [exB_nil, exS_expr, exS_set, exS_setSub, exS_fz, exS_ife, exS_ret, exS_pass, den_nop, den_c, den_v, den_bin, den_neg, den_cmp, den_chain, den_and, den_or, den_not, den_ite, den_tup, den_lst, den_sub, den_rev, den_callv, exS_raise, exS_tryR, den_sl, den_call, den_blt, den_meth, denL_nil, denL_cons, WS_seq, WS_toS, WS_nx, WS_rt, WS_asB, WS_ite, WP_bind, WP_ok, WP_asB, WP_ite, bindP, setAll, List.set_cons_zero, List.set_cons_succ, List.getElem?_cons_zero, List.getElem?_cons_succ, decide_true, decide_false, if_true, if_false, Bool.false_eq_true, Bool.not_true, Bool.not_false, isNop, partR, o_add, o_sub, o_lt, o_le, o_gt, o_ge, o_eqi, o_nei, o_eqs, o_nes, o_in, o_notin, o_lent, o_lenl, o_lenc, o_abs, o_min, o_max, o_tupl, o_tupt, o_sll, fin_f, e2, sub0]
        rw [show n + 5 = n + 4 + 1 from rfl, e_forms (n + 4) s]
        simp -implicitDefEqProofs only [exB_nil, exS_expr, exS_set, exS_setSub, exS_fz, exS_ife, exS_ret, exS_pass, den_nop, den_c, den_v, den_bin, den_neg, den_cmp, den_chain, den_and, den_or, den_not, den_ite, den_tup, den_lst, den_sub, den_rev, den_callv, exS_raise, exS_tryR, den_sl, den_call, den_blt, den_meth, denL_nil, denL_cons, WS_seq, WS_toS, WS_nx, WS_rt, WS_asB, WS_ite, WP_bind, WP_ok, WP_asB, WP_ite, bindP, setAll, List.set_cons_zero, List.set_cons_succ, List.getElem?_cons_zero, List.getElem?_cons_succ, decide_true, decide_false, if_true, if_false, Bool.false_eq_true, Bool.not_true, Bool.not_false, isNop, partR, o_add, o_sub, o_lt, o_le, o_gt, o_ge, o_eqi, o_nei, o_eqs, o_nes, o_in, o_notin, o_lent, o_lenl, o_lenc, o_abs, o_min, o_max, o_tupl, o_tupt, o_sll, fin_f, o_dicin]
        cases q : TBL.lookup w with
        | none =>
          simp -implicitDefEqProofs only [exB_nil, exS_expr, exS_set, exS_setSub, exS_fz, exS_ife, exS_ret, exS_pass, den_nop, den_c, den_v, den_bin, den_neg, den_cmp, den_chain, den_and, den_or, den_not, den_ite, den_tup, den_lst, den_sub, den_rev, den_callv, exS_raise, exS_tryR, den_sl, den_call, den_blt, den_meth, denL_nil, denL_cons, WS_seq, WS_toS, WS_nx, WS_rt, WS_asB, WS_ite, WP_bind, WP_ok, WP_asB, WP_ite, bindP, setAll, List.set_cons_zero, List.set_cons_succ, List.getElem?_cons_zero, List.getElem?_cons_succ, decide_true, decide_false, if_true, if_false, Bool.false_eq_true, Bool.not_true, Bool.not_false, isNop, partR, o_add, o_sub, o_lt, o_le, o_gt, o_ge, o_eqi, o_nei, o_eqs, o_nes, o_in, o_notin, o_lent, o_lenl, o_lenc, o_abs, o_min, o_max, o_tupl, o_tupt, o_sll, fin_f, Option.isSome_none]
          simp -implicitDefEqProofs only [exB_cons, exB_nil, exS_expr, exS_set, exS_setSub, exS_fz, exS_ife, exS_ret, exS_pass, den_nop, den_c, den_v, den_bin, den_neg, den_cmp, den_chain, den_and, den_or, den_not, den_ite, den_tup, den_lst, den_sub, den_rev, den_callv, exS_raise, exS_tryR, den_sl, den_call, den_blt, den_meth, denL_nil, denL_cons, WS_seq, WS_toS, WS_nx, WS_rt, WS_asB, WS_ite, WP_bind, WP_ok, WP_asB, WP_ite, bindP, setAll, List.set_cons_zero, List.set_cons_succ, List.getElem?_cons_zero, List.getElem?_cons_succ, decide_true, decide_false, if_true, if_false, Bool.false_eq_true, Bool.not_true, Bool.not_false, isNop, partR, o_add, o_sub, o_lt, o_le, o_gt, o_ge, o_eqi, o_nei, o_eqs, o_nes, o_in, o_notin, o_lent, o_lenl, o_lenc, o_abs, o_min, o_max, o_tupl, o_tupt, o_sll, fin_f]
          simp [isDeed, q, D.top]
        | some cs =>
          simp -implicitDefEqProofs only [exB_nil, exS_expr, exS_set, exS_setSub, exS_fz, exS_ife, exS_ret, exS_pass, den_nop, den_c, den_v, den_bin, den_neg, den_cmp, den_chain, den_and, den_or, den_not, den_ite, den_tup, den_lst, den_sub, den_rev, den_callv, exS_raise, exS_tryR, den_sl, den_call, den_blt, den_meth, denL_nil, denL_cons, WS_seq, WS_toS, WS_nx, WS_rt, WS_asB, WS_ite, WP_bind, WP_ok, WP_asB, WP_ite, bindP, setAll, List.set_cons_zero, List.set_cons_succ, List.getElem?_cons_zero, List.getElem?_cons_succ, decide_true, decide_false, if_true, if_false, Bool.false_eq_true, Bool.not_true, Bool.not_false, isNop, partR, o_add, o_sub, o_lt, o_le, o_gt, o_ge, o_eqi, o_nei, o_eqs, o_nes, o_in, o_notin, o_lent, o_lenl, o_lenc, o_abs, o_min, o_max, o_tupl, o_tupt, o_sll, fin_f, Option.isSome_some, exB_nil]
          have hmem := lookup_mem q
          have hr : ∀ d ∈ r, th m d = true := fun d hd => ht d (List.mem_cons_of_mem _ hd)
          have dd : isDeed (.tup (.str w :: r)) = parts cs r := by simp [isDeed, q]
          rw [exB_cons]
          simp -implicitDefEqProofs only [exB_nil, exS_expr, exS_set, exS_setSub, exS_fz, exS_ife, exS_ret, exS_pass, den_nop, den_c, den_v, den_bin, den_neg, den_cmp, den_chain, den_and, den_or, den_not, den_ite, den_tup, den_lst, den_sub, den_rev, den_callv, exS_raise, exS_tryR, den_sl, den_call, den_blt, den_meth, denL_nil, denL_cons, WS_seq, WS_toS, WS_nx, WS_rt, WS_asB, WS_ite, WP_bind, WP_ok, WP_asB, WP_ite, bindP, setAll, List.set_cons_zero, List.set_cons_succ, List.getElem?_cons_zero, List.getElem?_cons_succ, decide_true, decide_false, if_true, if_false, Bool.false_eq_true, Bool.not_true, Bool.not_false, isNop, partR, o_add, o_sub, o_lt, o_le, o_gt, o_ge, o_eqi, o_nei, o_eqs, o_nes, o_in, o_notin, o_lent, o_lenl, o_lenc, o_abs, o_min, o_max, o_tupl, o_tupt, o_sll, fin_f]
          rw [e_forms (n + 4) s]
          simp -implicitDefEqProofs only [exB_nil, exS_expr, exS_set, exS_setSub, exS_fz, exS_ife, exS_ret, exS_pass, den_nop, den_c, den_v, den_bin, den_neg, den_cmp, den_chain, den_and, den_or, den_not, den_ite, den_tup, den_lst, den_sub, den_rev, den_callv, exS_raise, exS_tryR, den_sl, den_call, den_blt, den_meth, denL_nil, denL_cons, WS_seq, WS_toS, WS_nx, WS_rt, WS_asB, WS_ite, WP_bind, WP_ok, WP_asB, WP_ite, bindP, setAll, List.set_cons_zero, List.set_cons_succ, List.getElem?_cons_zero, List.getElem?_cons_succ, decide_true, decide_false, if_true, if_false, Bool.false_eq_true, Bool.not_true, Bool.not_false, isNop, partR, o_add, o_sub, o_lt, o_le, o_gt, o_ge, o_eqi, o_nei, o_eqs, o_nes, o_in, o_notin, o_lent, o_lenl, o_lenc, o_abs, o_min, o_max, o_tupl, o_tupt, o_sll, fin_f, sub0, o_dicsub q]
          rw [exB_cons]
          have lc : cs.length ≤ 4 := tbl_len _ hmem
          have lz : cs.length ≤ sizeLine := Nat.le_trans lc (by decide)
          simp -implicitDefEqProofs only [exB_nil, exS_expr, exS_set, exS_setSub, exS_fz, exS_ife, exS_ret, exS_pass, den_nop, den_c, den_v, den_bin, den_neg, den_cmp, den_chain, den_and, den_or, den_not, den_ite, den_tup, den_lst, den_sub, den_rev, den_callv, exS_raise, exS_tryR, den_sl, den_call, den_blt, den_meth, denL_nil, denL_cons, WS_seq, WS_toS, WS_nx, WS_rt, WS_asB, WS_ite, WP_bind, WP_ok, WP_asB, WP_ite, bindP, setAll, List.set_cons_zero, List.set_cons_succ, List.getElem?_cons_zero, List.getElem?_cons_succ, decide_true, decide_false, if_true, if_false, Bool.false_eq_true, Bool.not_true, Bool.not_false, isNop, partR, o_add, o_sub, o_lt, o_le, o_gt, o_ge, o_eqi, o_nei, o_eqs, o_nes, o_in, o_notin, o_lent, o_lenl, o_lenc, o_abs, o_min, o_max, o_tupl, o_tupt, o_sll, fin_f, o_lens lz]
          by_cases hl : r.length = cs.length
          · have e3 : (((D.str w :: r).length : Int) == 1 + (cs.length : Int)) = true := by
              rw [beq_iff_eq]; simp; omega
            simp -implicitDefEqProofs only [exB_nil, exS_expr, exS_set, exS_setSub, exS_fz, exS_ife, exS_ret, exS_pass, den_nop, den_c, den_v, den_bin, den_neg, den_cmp, den_chain, den_and, den_or, den_not, den_ite, den_tup, den_lst, den_sub, den_rev, den_callv, exS_raise, exS_tryR, den_sl, den_call, den_blt, den_meth, denL_nil, denL_cons, WS_seq, WS_toS, WS_nx, WS_rt, WS_asB, WS_ite, WP_bind, WP_ok, WP_asB, WP_ite, bindP, setAll, List.set_cons_zero, List.set_cons_succ, List.getElem?_cons_zero, List.getElem?_cons_succ, decide_true, decide_false, if_true, if_false, Bool.false_eq_true, Bool.not_true, Bool.not_false, isNop, partR, o_add, o_sub, o_lt, o_le, o_gt, o_ge, o_eqi, o_nei, o_eqs, o_nes, o_in, o_notin, o_lent, o_lenl, o_lenc, o_abs, o_min, o_max, o_tupl, o_tupt, o_sll, fin_f, e3, exB_nil]
            have sl : ∀ s : St, slD false (.tup (.str w :: r)) (some 1) none s = .ok (.tup r) s := fun s => by
              show R.ok (D.tup (cut (.str w :: r) (some 1) none)) s = _
              rw [cut1]
            have it : itK .zip [.str cs, .tup r] = some (zipD (cs.map chD) r) := by
              show (match iterZ (.str cs), iterZ (.tup r) with | some xs, some ys => some (zipD xs ys) | _, _ => Option.none) = _
              have : iterZ (.str cs) = some (cs.map chD) := by
                show (if cs.length ≤ sizeLine then some (cs.map chD) else Option.none) = _
                rw [if_pos lz]
              rw [this]; rfl
            simp -implicitDefEqProofs only [exB_cons, exB_nil, exS_expr, exS_set, exS_setSub, exS_fz, exS_ife, exS_ret, exS_pass, den_nop, den_c, den_v, den_bin, den_neg, den_cmp, den_chain, den_and, den_or, den_not, den_ite, den_tup, den_lst, den_sub, den_rev, den_callv, exS_raise, exS_tryR, den_sl, den_call, den_blt, den_meth, denL_nil, denL_cons, WS_seq, WS_toS, WS_nx, WS_rt, WS_asB, WS_ite, WP_bind, WP_ok, WP_asB, WP_ite, bindP, setAll, List.set_cons_zero, List.set_cons_succ, List.getElem?_cons_zero, List.getElem?_cons_succ, decide_true, decide_false, if_true, if_false, Bool.false_eq_true, Bool.not_true, Bool.not_false, isNop, partR, o_add, o_sub, o_lt, o_le, o_gt, o_ge, o_eqi, o_nei, o_eqs, o_nes, o_in, o_notin, o_lent, o_lenl, o_lenc, o_abs, o_min, o_max, o_tupl, o_tupt, o_sll, fin_f, den_lc, sl, it]
            refine wp_of_eq (lc_pure (g := fun d => some (.bl (pp d))) fun d hd => ?_) ?_
            · obtain ⟨a, ha, b, hb, rfl⟩ := mem_zipD hd
              obtain ⟨c, hc, rfl⟩ := List.mem_map.mp ha
              refine eq_of_wp ?_
              simp -implicitDefEqProofs only [exB_cons, exB_nil, exS_expr, exS_set, exS_setSub, exS_fz, exS_ife, exS_ret, exS_pass, den_nop, den_c, den_v, den_bin, den_neg, den_cmp, den_chain, den_and, den_or, den_not, den_ite, den_tup, den_lst, den_sub, den_rev, den_callv, exS_raise, exS_tryR, den_sl, den_call, den_blt, den_meth, denL_nil, denL_cons, WS_seq, WS_toS, WS_nx, WS_rt, WS_asB, WS_ite, WP_bind, WP_ok, WP_asB, WP_ite, bindP, setAll, List.set_cons_zero, List.set_cons_succ, List.getElem?_cons_zero, List.getElem?_cons_succ, decide_true, decide_false, if_true, if_false, Bool.false_eq_true, Bool.not_true, Bool.not_false, isNop, partR, o_add, o_sub, o_lt, o_le, o_gt, o_ge, o_eqi, o_nei, o_eqs, o_nes, o_in, o_notin, o_lent, o_lenl, o_lenc, o_abs, o_min, o_max, o_tupl, o_tupt, o_sll, fin_f, Pat.slots, Fk.wipe, WP_noErr, chD]
              rw [show n + 4 + 1 = n + 5 from rfl, e_lpart n s (tbl_letters _ hmem c hc) (hr b hb)]
              simp [WP_ok, pp]
            · rw [List.nil_append, fm_some]
              have e4 : (zipD (cs.map chD) r).map (fun d => D.bl (pp d)) = ((zipD (cs.map chD) r).map pp).map D.bl := by rw [List.map_map]; rfl
              rw [e4]
              (try simp -implicitDefEqProofs only [exB_cons, exB_nil, exS_expr, exS_set, exS_setSub, exS_fz, exS_ife, exS_ret, exS_pass, den_nop, den_c, den_v, den_bin, den_neg, den_cmp, den_chain, den_and, den_or, den_not, den_ite, den_tup, den_lst, den_sub, den_rev, den_callv, exS_raise, exS_tryR, den_sl, den_call, den_blt, den_meth, denL_nil, denL_cons, WS_seq, WS_toS, WS_nx, WS_rt, WS_asB, WS_ite, WP_bind, WP_ok, WP_asB, WP_ite, bindP, setAll, List.set_cons_zero, List.set_cons_succ, List.getElem?_cons_zero, List.getElem?_cons_succ, decide_true, decide_false, if_true, if_false, Bool.false_eq_true, Bool.not_true, Bool.not_false, isNop, partR, o_add, o_sub, o_lt, o_le, o_gt, o_ge, o_eqi, o_nei, o_eqs, o_nes, o_in, o_notin, o_lent, o_lenl, o_lenc, o_abs, o_min, o_max, o_tupl, o_tupt, o_sll, fin_f])
              rw [o_notF, pp_all hl, dd]
              simp [WP_ok, D.top]
          · have e3 : (((D.str w :: r).length : Int) == 1 + (cs.length : Int)) = false := by
              rw [beq_eq_false_iff_ne]; simp; omega
            simp -implicitDefEqProofs only [exB_nil, exS_expr, exS_set, exS_setSub, exS_fz, exS_ife, exS_ret, exS_pass, den_nop, den_c, den_v, den_bin, den_neg, den_cmp, den_chain, den_and, den_or, den_not, den_ite, den_tup, den_lst, den_sub, den_rev, den_callv, exS_raise, exS_tryR, den_sl, den_call, den_blt, den_meth, denL_nil, denL_cons, WS_seq, WS_toS, WS_nx, WS_rt, WS_asB, WS_ite, WP_bind, WP_ok, WP_asB, WP_ite, bindP, setAll, List.set_cons_zero, List.set_cons_succ, List.getElem?_cons_zero, List.getElem?_cons_succ, decide_true, decide_false, if_true, if_false, Bool.false_eq_true, Bool.not_true, Bool.not_false, isNop, partR, o_add, o_sub, o_lt, o_le, o_gt, o_ge, o_eqi, o_nei, o_eqs, o_nes, o_in, o_notin, o_lent, o_lenl, o_lenc, o_abs, o_min, o_max, o_tupl, o_tupt, o_sll, fin_f, e3]
            simp -implicitDefEqProofs only [exB_cons, exB_nil, exS_expr, exS_set, exS_setSub, exS_fz, exS_ife, exS_ret, exS_pass, den_nop, den_c, den_v, den_bin, den_neg, den_cmp, den_chain, den_and, den_or, den_not, den_ite, den_tup, den_lst, den_sub, den_rev, den_callv, exS_raise, exS_tryR, den_sl, den_call, den_blt, den_meth, denL_nil, denL_cons, WS_seq, WS_toS, WS_nx, WS_rt, WS_asB, WS_ite, WP_bind, WP_ok, WP_asB, WP_ite, bindP, setAll, List.set_cons_zero, List.set_cons_succ, List.getElem?_cons_zero, List.getElem?_cons_succ, decide_true, decide_false, if_true, if_false, Bool.false_eq_true, Bool.not_true, Bool.not_false, isNop, partR, o_add, o_sub, o_lt, o_le, o_gt, o_ge, o_eqi, o_nei, o_eqs, o_nes, o_in, o_notin, o_lent, o_lenl, o_lenc, o_abs, o_min, o_max, o_tupl, o_tupt, o_sll, fin_f]
            rw [dd, parts_len hl]
            simp [D.top]
      all_goals ((try simp -implicitDefEqProofs only [exB_cons, exB_nil, exS_expr, exS_set, exS_setSub, exS_fz, exS_ife, exS_ret, exS_pass, den_nop, den_c, den_v, den_bin, den_neg, den_cmp, den_chain, den_and, den_or, den_not, den_ite, den_tup, den_lst, den_sub, den_rev, den_callv, exS_raise, exS_tryR, den_sl, den_call, den_blt, den_meth, denL_nil, denL_cons, WS_seq, WS_toS, WS_nx, WS_rt, WS_asB, WS_ite, WP_bind, WP_ok, WP_asB, WP_ite, bindP, setAll, List.set_cons_zero, List.set_cons_succ, List.getElem?_cons_zero, List.getElem?_cons_succ, decide_true, decide_false, if_true, if_false, Bool.false_eq_true, Bool.not_true, Bool.not_false, isNop, partR, o_add, o_sub, o_lt, o_le, o_gt, o_ge, o_eqi, o_nei, o_eqs, o_nes, o_in, o_notin, o_lent, o_lenl, o_lenc, o_abs, o_min, o_max, o_tupl, o_tupt, o_sll, fin_f]); simp [isT, rd, isDeed, D.top, WP_ok, WS_rt, exB_cons, exS_ret, den_c, WS_seq, WS_toS])
  all_goals ((try simp -implicitDefEqProofs only [exB_cons, exB_nil, exS_expr, exS_set, exS_setSub, exS_fz, exS_ife, exS_ret, exS_pass, den_nop, den_c, den_v, den_bin, den_neg, den_cmp, den_chain, den_and, den_or, den_not, den_ite, den_tup, den_lst, den_sub, den_rev, den_callv, exS_raise, exS_tryR, den_sl, den_call, den_blt, den_meth, denL_nil, denL_cons, WS_seq, WS_toS, WS_nx, WS_rt, WS_asB, WS_ite, WP_bind, WP_ok, WP_asB, WP_ite, bindP, setAll, List.set_cons_zero, List.set_cons_succ, List.getElem?_cons_zero, List.getElem?_cons_succ, decide_true, decide_false, if_true, if_false, Bool.false_eq_true, Bool.not_true, Bool.not_false, isNop, partR, o_add, o_sub, o_lt, o_le, o_gt, o_ge, o_eqi, o_nei, o_eqs, o_nes, o_in, o_notin, o_lent, o_lenl, o_lenc, o_abs, o_min, o_max, o_tupl, o_tupt, o_sll, fin_f]); simp [isT, rd, isDeed, D.top, WP_ok, WS_rt])
end Lw_k37

set_option Elab.async false
set_option linter.all false
set_option autoImplicit false
set_option maxRecDepth 100000
set_option maxHeartbeats 4000000
namespace Lw_k37
open Fk
mutual
theorem th_pure {m : Nat} : ∀ (d : D), th m d = true → d.pure = true
  | .none, _ => rfl
  | .bl _, _ => rfl
  | .int _, _ => rfl
  | .str _, _ => rfl
  | .tup ds, h => by unfold th at h; rw [Bool.and_eq_true] at h; unfold D.pure; exact thL_pure ds h.2
  | .lst ds, h => by unfold th at h; rw [Bool.and_eq_true] at h; unfold D.pure; exact thL_pure ds h.2
  | .dic [] [], _ => rfl
  | .dic (_ :: _) _, h => by simp [th] at h
  | .dic [] (_ :: _), h => by simp [th] at h
  | .set _, h => by simp [th] at h
  | .scr _, h => by simp [th] at h
  | .ref _, h => by simp [th] at h
  | .fn _, h => by simp [th] at h
  | .ty _, h => by simp [th] at h
  | .tab _ _, h => by simp [th] at h
theorem thL_pure {m : Nat} : ∀ (ds : List D), thL m ds = true → D.pureL ds = true
  | [], _ => rfl
  | d :: ds, h => by
    unfold thL at h
    rw [Bool.and_eq_true] at h
    unfold D.pureL
    rw [th_pure d h.1, thL_pure ds h.2]; rfl
end
theorem th_int {m : Nat} {i : Int} : th m (.int i) = true := rfl
theorem th_str {m : Nat} {z : List Nat} (h : z.length ≤ 30) : th m (.str z) = true := by unfold th; rw [decide_eq_true_eq]; omega
theorem take_ (n : Nat) {r c : Nat} {many : Int} {s : St} {Q : D → St → Prop} (hp : Pot s r c) (hc : c ≤ 1000000) (hm : 0 < many) (lm : many.natAbs.log2 < 9000)
    (h : ∀ x s', 0 ≤ x → x < many → Drew s r c 1 s' → Q (.int x) s') : WP (callF PP (n + 1) 16 [.ref r, .int many] s) Q :=
  wp_take (P := PP) (f := 16) rfl hp (Nat.le_trans hc (by decide)) hm lm h
theorem jlen1 {zs : List (List Nat)} (h : ∀ z ∈ zs, z.length = 1) : (joinT [] zs).length ≤ zs.length := by
  have := joinT_len [] zs
  rw [show ([] : List Nat).length = 0 from rfl, lenSum_one zs h] at this
  exact this
theorem d_word (n : Nat) {r c : Nat} {s : St} {Q : D → St → Prop} (hp : Pot s r c) (hc : c ≤ 100000) (h : ∀ z s', z.length ≤ 30 → Drew s r c 10 s' → Q (.str z) s') : WP (callF PP (n + 2) 18 [.ref r] s) Q := by
  rw [callF_eq (fn := fn18) rfl rfl, WP_back]
  show WS (exB _ fn18.body [some (.ref r), none, none, none] s) _ _
  simp -implicitDefEqProofs only [exB_cons, exB_nil, exS_expr, exS_set, exS_setSub, exS_fz, exS_ife, exS_ret, exS_pass, den_nop, den_c, den_v, den_bin, den_neg, den_cmp, den_chain, den_and, den_or, den_not, den_ite, den_tup, den_lst, den_sub, den_rev, den_callv, exS_raise, exS_tryR, den_sl, den_call, den_blt, den_meth, denL_nil, denL_cons, WS_seq, WS_toS, WS_nx, WS_rt, WS_asB, WS_ite, WP_bind, WP_ok, WP_asB, WP_ite, bindP, setAll, List.set_cons_zero, List.set_cons_succ, List.getElem?_cons_zero, List.getElem?_cons_succ, decide_true, decide_false, if_true, if_false, Bool.false_eq_true, Bool.not_true, Bool.not_false, isNop, partR, o_add, o_sub, o_lt, o_le, o_gt, o_ge, o_eqi, o_nei, o_eqs, o_nes, o_in, o_notin, o_lent, o_lenl, o_lenc, o_abs, o_min, o_max, o_tupl, o_tupt, o_sll, fin_f, fn18]
  refine take_ n hp (by omega) (by decide) (by decide +kernel) fun x s1 x0 x1 d1 => ?_
  (try simp -implicitDefEqProofs only [exB_cons, exB_nil, exS_expr, exS_set, exS_setSub, exS_fz, exS_ife, exS_ret, exS_pass, den_nop, den_c, den_v, den_bin, den_neg, den_cmp, den_chain, den_and, den_or, den_not, den_ite, den_tup, den_lst, den_sub, den_rev, den_callv, exS_raise, exS_tryR, den_sl, den_call, den_blt, den_meth, denL_nil, denL_cons, WS_seq, WS_toS, WS_nx, WS_rt, WS_asB, WS_ite, WP_bind, WP_ok, WP_asB, WP_ite, bindP, setAll, List.set_cons_zero, List.set_cons_succ, List.getElem?_cons_zero, List.getElem?_cons_succ, decide_true, decide_false, if_true, if_false, Bool.false_eq_true, Bool.not_true, Bool.not_false, isNop, partR, o_add, o_sub, o_lt, o_le, o_gt, o_ge, o_eqi, o_nei, o_eqs, o_nes, o_in, o_notin, o_lent, o_lenl, o_lenc, o_abs, o_min, o_max, o_tupl, o_tupt, o_sll, fin_f])
  refine take_ n d1.pot (by omega) (by decide) (by decide +kernel) fun y s2 y0 y1 d2 => ?_
  refine wp_at y0 (by simp; omega) fun dm hm => ?_
  obtain ⟨m, rfl, m0, m1⟩ : ∃ m : Int, dm = .int m ∧ 0 ≤ m ∧ m ≤ 8 := by
    simp only [List.mem_cons, List.not_mem_nil, or_false] at hm
    rcases hm with rfl | rfl | rfl
    · exact ⟨_, rfl, by decide, by decide⟩
    · exact ⟨_, rfl, by decide, by decide⟩
    · exact ⟨_, rfl, by omega, by omega⟩
  have D2 : Drew s r c 2 s2 := d1.to d2 (by omega)
  have far0 : -far ≤ m := by unfold far; omega
  have far1 : m ≤ sizeLine := by unfold sizeLine; omega
  simp -implicitDefEqProofs only [exB_cons, exB_nil, exS_expr, exS_set, exS_setSub, exS_fz, exS_ife, exS_ret, exS_pass, den_nop, den_c, den_v, den_bin, den_neg, den_cmp, den_chain, den_and, den_or, den_not, den_ite, den_tup, den_lst, den_sub, den_rev, den_callv, exS_raise, exS_tryR, den_sl, den_call, den_blt, den_meth, denL_nil, denL_cons, WS_seq, WS_toS, WS_nx, WS_rt, WS_asB, WS_ite, WP_bind, WP_ok, WP_asB, WP_ite, bindP, setAll, List.set_cons_zero, List.set_cons_succ, List.getElem?_cons_zero, List.getElem?_cons_succ, decide_true, decide_false, if_true, if_false, Bool.false_eq_true, Bool.not_true, Bool.not_false, isNop, partR, o_add, o_sub, o_lt, o_le, o_gt, o_ge, o_eqi, o_nei, o_eqs, o_nes, o_in, o_notin, o_lent, o_lenl, o_lenc, o_abs, o_min, o_max, o_tupl, o_tupt, o_sll, fin_f, den_lc, it_rng far0 far1]
  refine wp_lc (fun i acc s' => ∃ zs : List (List Nat), acc = zs.map D.str ∧ (∀ z ∈ zs, z.length = 1) ∧ zs.length = i ∧ Drew s2 r (c + 2) i s') ⟨[], rfl, fun z hz => (by cases hz), rfl, Drew.refl D2.pot⟩ (fun i d acc s3 hi ⟨zs, ha, hz, hl, d3⟩ => ?_) (fun acc s3 ⟨zs, ha, hz, hl, d3⟩ => ?_)
  · have hi10 : i < 8 := by
      have := (List.getElem?_eq_some_iff.mp hi).1
      rw [List.length_map, List.length_range] at this
      omega
    simp -implicitDefEqProofs only [exB_cons, exB_nil, exS_expr, exS_set, exS_setSub, exS_fz, exS_ife, exS_ret, exS_pass, den_nop, den_c, den_v, den_bin, den_neg, den_cmp, den_chain, den_and, den_or, den_not, den_ite, den_tup, den_lst, den_sub, den_rev, den_callv, exS_raise, exS_tryR, den_sl, den_call, den_blt, den_meth, denL_nil, denL_cons, WS_seq, WS_toS, WS_nx, WS_rt, WS_asB, WS_ite, WP_bind, WP_ok, WP_asB, WP_ite, bindP, setAll, List.set_cons_zero, List.set_cons_succ, List.getElem?_cons_zero, List.getElem?_cons_succ, decide_true, decide_false, if_true, if_false, Bool.false_eq_true, Bool.not_true, Bool.not_false, isNop, partR, o_add, o_sub, o_lt, o_le, o_gt, o_ge, o_eqi, o_nei, o_eqs, o_nes, o_in, o_notin, o_lent, o_lenl, o_lenc, o_abs, o_min, o_max, o_tupl, o_tupt, o_sll, fin_f, Pat.slots, Fk.wipe, WP_noErr]
    refine take_ n d3.pot (by omega) (by decide) (by decide +kernel) fun x s4 x0 x1 d4 => ?_
    obtain ⟨ch, hch, e⟩ := o_subs (s := s4) (z := [97, 98, 99, 100, 101, 102, 103, 104, 105, 106, 107, 108, 109, 110, 111, 112, 113, 114, 115, 116, 117, 118, 119, 120, 121, 122]) (i := x) (by decide) x0 (by simp; omega)
    rw [e]
    simp -implicitDefEqProofs only [exB_cons, exB_nil, exS_expr, exS_set, exS_setSub, exS_fz, exS_ife, exS_ret, exS_pass, den_nop, den_c, den_v, den_bin, den_neg, den_cmp, den_chain, den_and, den_or, den_not, den_ite, den_tup, den_lst, den_sub, den_rev, den_callv, exS_raise, exS_tryR, den_sl, den_call, den_blt, den_meth, denL_nil, denL_cons, WS_seq, WS_toS, WS_nx, WS_rt, WS_asB, WS_ite, WP_bind, WP_ok, WP_asB, WP_ite, bindP, setAll, List.set_cons_zero, List.set_cons_succ, List.getElem?_cons_zero, List.getElem?_cons_succ, decide_true, decide_false, if_true, if_false, Bool.false_eq_true, Bool.not_true, Bool.not_false, isNop, partR, o_add, o_sub, o_lt, o_le, o_gt, o_ge, o_eqi, o_nei, o_eqs, o_nes, o_in, o_notin, o_lent, o_lenl, o_lenc, o_abs, o_min, o_max, o_tupl, o_tupt, o_sll, fin_f]
    refine ⟨zs ++ [[ch]], by rw [ha, List.map_append]; rfl, fun z hz' => ?_, by simp [hl], d3.trans d4⟩
    rcases List.mem_append.mp hz' with q | q
    · exact hz z q
    · rw [List.mem_singleton] at q; rw [q]; rfl
  rw [List.length_map, List.length_range] at hl d3
  subst ha
  have hw := jlen1 hz
  have hlm : zs.length ≤ 8 := by omega
  (try simp -implicitDefEqProofs only [exB_cons, exB_nil, exS_expr, exS_set, exS_setSub, exS_fz, exS_ife, exS_ret, exS_pass, den_nop, den_c, den_v, den_bin, den_neg, den_cmp, den_chain, den_and, den_or, den_not, den_ite, den_tup, den_lst, den_sub, den_rev, den_callv, exS_raise, exS_tryR, den_sl, den_call, den_blt, den_meth, denL_nil, denL_cons, WS_seq, WS_toS, WS_nx, WS_rt, WS_asB, WS_ite, WP_bind, WP_ok, WP_asB, WP_ite, bindP, setAll, List.set_cons_zero, List.set_cons_succ, List.getElem?_cons_zero, List.getElem?_cons_succ, decide_true, decide_false, if_true, if_false, Bool.false_eq_true, Bool.not_true, Bool.not_false, isNop, partR, o_add, o_sub, o_lt, o_le, o_gt, o_ge, o_eqi, o_nei, o_eqs, o_nes, o_in, o_notin, o_lent, o_lenl, o_lenc, o_abs, o_min, o_max, o_tupl, o_tupt, o_sll, fin_f])
  rw [o_join (by rw [show ([] : List Nat).length = 0 from rfl, lenSum_one zs hz]; omega)]
  generalize joinT [] zs = w at hw
  have D3 : Drew s r c 10 s3 := D2.to d3 (by omega)
  simp -implicitDefEqProofs only [exB_cons, exB_nil, exS_expr, exS_set, exS_setSub, exS_fz, exS_ife, exS_ret, exS_pass, den_nop, den_c, den_v, den_bin, den_neg, den_cmp, den_chain, den_and, den_or, den_not, den_ite, den_tup, den_lst, den_sub, den_rev, den_callv, exS_raise, exS_tryR, den_sl, den_call, den_blt, den_meth, denL_nil, denL_cons, WS_seq, WS_toS, WS_nx, WS_rt, WS_asB, WS_ite, WP_bind, WP_ok, WP_asB, WP_ite, bindP, setAll, List.set_cons_zero, List.set_cons_succ, List.getElem?_cons_zero, List.getElem?_cons_succ, decide_true, decide_false, if_true, if_false, Bool.false_eq_true, Bool.not_true, Bool.not_false, isNop, partR, o_add, o_sub, o_lt, o_le, o_gt, o_ge, o_eqi, o_nei, o_eqs, o_nes, o_in, o_notin, o_lent, o_lenl, o_lenc, o_abs, o_min, o_max, o_tupl, o_tupt, o_sll, fin_f]
  by_cases ck : (w == [107, 101, 121]) = true
  · simp -implicitDefEqProofs only [exB_cons, exB_nil, exS_expr, exS_set, exS_setSub, exS_fz, exS_ife, exS_ret, exS_pass, den_nop, den_c, den_v, den_bin, den_neg, den_cmp, den_chain, den_and, den_or, den_not, den_ite, den_tup, den_lst, den_sub, den_rev, den_callv, exS_raise, exS_tryR, den_sl, den_call, den_blt, den_meth, denL_nil, denL_cons, WS_seq, WS_toS, WS_nx, WS_rt, WS_asB, WS_ite, WP_bind, WP_ok, WP_asB, WP_ite, bindP, setAll, List.set_cons_zero, List.set_cons_succ, List.getElem?_cons_zero, List.getElem?_cons_succ, decide_true, decide_false, if_true, if_false, Bool.false_eq_true, Bool.not_true, Bool.not_false, isNop, partR, o_add, o_sub, o_lt, o_le, o_gt, o_ge, o_eqi, o_nei, o_eqs, o_nes, o_in, o_notin, o_lent, o_lenl, o_lenc, o_abs, o_min, o_max, o_tupl, o_tupt, o_sll, fin_f, ck]
    have e : ∀ z : List Nat, (D.str z).top = 0 := fun _ => rfl
    rw [e, D3.take]
    exact h _ _ (by decide) D3
  · have ck' : (w == [107, 101, 121]) = false := by simpa using ck
    simp -implicitDefEqProofs only [exB_cons, exB_nil, exS_expr, exS_set, exS_setSub, exS_fz, exS_ife, exS_ret, exS_pass, den_nop, den_c, den_v, den_bin, den_neg, den_cmp, den_chain, den_and, den_or, den_not, den_ite, den_tup, den_lst, den_sub, den_rev, den_callv, exS_raise, exS_tryR, den_sl, den_call, den_blt, den_meth, denL_nil, denL_cons, WS_seq, WS_toS, WS_nx, WS_rt, WS_asB, WS_ite, WP_bind, WP_ok, WP_asB, WP_ite, bindP, setAll, List.set_cons_zero, List.set_cons_succ, List.getElem?_cons_zero, List.getElem?_cons_succ, decide_true, decide_false, if_true, if_false, Bool.false_eq_true, Bool.not_true, Bool.not_false, isNop, partR, o_add, o_sub, o_lt, o_le, o_gt, o_ge, o_eqi, o_nei, o_eqs, o_nes, o_in, o_notin, o_lent, o_lenl, o_lenc, o_abs, o_min, o_max, o_tupl, o_tupt, o_sll, fin_f, ck']
    have e : ∀ z : List Nat, (D.str z).top = 0 := fun _ => rfl
    rw [e, D3.take]
    exact h _ _ (by omega) D3

theorem d_value (n : Nat) {r c : Nat} {s : St} {Q : D → St → Prop} (hp : Pot s r c) (hc : c ≤ 90000) (h : ∀ d s', th 7 d = true → Drew s r c 12 s' → Q d s') : WP (callF PP (n + 3) 20 [.ref r] s) Q := by
  rw [callF_eq (fn := fn20) rfl rfl, WP_back]
  show WS (exB _ fn20.body [some (.ref r), none] s) _ _
  have fin : ∀ (d : D) (s2 : St), th 7 d = true → Drew s r c 12 s2 → Q d (s2.take (max s.length d.top)) := fun d s2 h1 h2 => by
    rw [th_top d h1, h2.take]
    exact h d s2 h1 h2
  rw [fn20, exB_cons]
  simp -implicitDefEqProofs only [exB_nil, exS_expr, exS_set, exS_setSub, exS_fz, exS_ife, exS_ret, exS_pass, den_nop, den_c, den_v, den_bin, den_neg, den_cmp, den_chain, den_and, den_or, den_not, den_ite, den_tup, den_lst, den_sub, den_rev, den_callv, exS_raise, exS_tryR, den_sl, den_call, den_blt, den_meth, denL_nil, denL_cons, WS_seq, WS_toS, WS_nx, WS_rt, WS_asB, WS_ite, WP_bind, WP_ok, WP_asB, WP_ite, bindP, setAll, List.set_cons_zero, List.set_cons_succ, List.getElem?_cons_zero, List.getElem?_cons_succ, decide_true, decide_false, if_true, if_false, Bool.false_eq_true, Bool.not_true, Bool.not_false, isNop, partR, o_add, o_sub, o_lt, o_le, o_gt, o_ge, o_eqi, o_nei, o_eqs, o_nes, o_in, o_notin, o_lent, o_lenl, o_lenc, o_abs, o_min, o_max, o_tupl, o_tupt, o_sll, fin_f]
  refine take_ (n + 1) hp (by omega) (by decide) (by decide +kernel) fun x s1 x0 x1 d1 => ?_
  (try simp -implicitDefEqProofs only [exB_nil, exS_expr, exS_set, exS_setSub, exS_fz, exS_ife, exS_ret, exS_pass, den_nop, den_c, den_v, den_bin, den_neg, den_cmp, den_chain, den_and, den_or, den_not, den_ite, den_tup, den_lst, den_sub, den_rev, den_callv, exS_raise, exS_tryR, den_sl, den_call, den_blt, den_meth, denL_nil, denL_cons, WS_seq, WS_toS, WS_nx, WS_rt, WS_asB, WS_ite, WP_bind, WP_ok, WP_asB, WP_ite, bindP, setAll, List.set_cons_zero, List.set_cons_succ, List.getElem?_cons_zero, List.getElem?_cons_succ, decide_true, decide_false, if_true, if_false, Bool.false_eq_true, Bool.not_true, Bool.not_false, isNop, partR, o_add, o_sub, o_lt, o_le, o_gt, o_ge, o_eqi, o_nei, o_eqs, o_nes, o_in, o_notin, o_lent, o_lenl, o_lenc, o_abs, o_min, o_max, o_tupl, o_tupt, o_sll, fin_f])
  rw [exB_cons]
  simp -implicitDefEqProofs only [exB_nil, exS_expr, exS_set, exS_setSub, exS_fz, exS_ife, exS_ret, exS_pass, den_nop, den_c, den_v, den_bin, den_neg, den_cmp, den_chain, den_and, den_or, den_not, den_ite, den_tup, den_lst, den_sub, den_rev, den_callv, exS_raise, exS_tryR, den_sl, den_call, den_blt, den_meth, denL_nil, denL_cons, WS_seq, WS_toS, WS_nx, WS_rt, WS_asB, WS_ite, WP_bind, WP_ok, WP_asB, WP_ite, bindP, setAll, List.set_cons_zero, List.set_cons_succ, List.getElem?_cons_zero, List.getElem?_cons_succ, decide_true, decide_false, if_true, if_false, Bool.false_eq_true, Bool.not_true, Bool.not_false, isNop, partR, o_add, o_sub, o_lt, o_le, o_gt, o_ge, o_eqi, o_nei, o_eqs, o_nes, o_in, o_notin, o_lent, o_lenl, o_lenc, o_abs, o_min, o_max, o_tupl, o_tupt, o_sll, fin_f]
  by_cases c1 : x < 2
  · simp -implicitDefEqProofs only [exB_nil, exS_expr, exS_set, exS_setSub, exS_fz, exS_ife, exS_ret, exS_pass, den_nop, den_c, den_v, den_bin, den_neg, den_cmp, den_chain, den_and, den_or, den_not, den_ite, den_tup, den_lst, den_sub, den_rev, den_callv, exS_raise, exS_tryR, den_sl, den_call, den_blt, den_meth, denL_nil, denL_cons, WS_seq, WS_toS, WS_nx, WS_rt, WS_asB, WS_ite, WP_bind, WP_ok, WP_asB, WP_ite, bindP, setAll, List.set_cons_zero, List.set_cons_succ, List.getElem?_cons_zero, List.getElem?_cons_succ, decide_true, decide_false, if_true, if_false, Bool.false_eq_true, Bool.not_true, Bool.not_false, isNop, partR, o_add, o_sub, o_lt, o_le, o_gt, o_ge, o_eqi, o_nei, o_eqs, o_nes, o_in, o_notin, o_lent, o_lenl, o_lenc, o_abs, o_min, o_max, o_tupl, o_tupt, o_sll, fin_f, c1]
    rw [exB_cons]
    simp -implicitDefEqProofs only [exB_nil, exS_expr, exS_set, exS_setSub, exS_fz, exS_ife, exS_ret, exS_pass, den_nop, den_c, den_v, den_bin, den_neg, den_cmp, den_chain, den_and, den_or, den_not, den_ite, den_tup, den_lst, den_sub, den_rev, den_callv, exS_raise, exS_tryR, den_sl, den_call, den_blt, den_meth, denL_nil, denL_cons, WS_seq, WS_toS, WS_nx, WS_rt, WS_asB, WS_ite, WP_bind, WP_ok, WP_asB, WP_ite, bindP, setAll, List.set_cons_zero, List.set_cons_succ, List.getElem?_cons_zero, List.getElem?_cons_succ, decide_true, decide_false, if_true, if_false, Bool.false_eq_true, Bool.not_true, Bool.not_false, isNop, partR, o_add, o_sub, o_lt, o_le, o_gt, o_ge, o_eqi, o_nei, o_eqs, o_nes, o_in, o_notin, o_lent, o_lenl, o_lenc, o_abs, o_min, o_max, o_tupl, o_tupt, o_sll, fin_f]
    refine take_ (n + 1) d1.pot (by omega) (by decide) (by decide +kernel) fun y s2 y0 y1 d2 => ?_
    (try simp -implicitDefEqProofs only [exB_cons, exB_nil, exS_expr, exS_set, exS_setSub, exS_fz, exS_ife, exS_ret, exS_pass, den_nop, den_c, den_v, den_bin, den_neg, den_cmp, den_chain, den_and, den_or, den_not, den_ite, den_tup, den_lst, den_sub, den_rev, den_callv, exS_raise, exS_tryR, den_sl, den_call, den_blt, den_meth, denL_nil, denL_cons, WS_seq, WS_toS, WS_nx, WS_rt, WS_asB, WS_ite, WP_bind, WP_ok, WP_asB, WP_ite, bindP, setAll, List.set_cons_zero, List.set_cons_succ, List.getElem?_cons_zero, List.getElem?_cons_succ, decide_true, decide_false, if_true, if_false, Bool.false_eq_true, Bool.not_true, Bool.not_false, isNop, partR, o_add, o_sub, o_lt, o_le, o_gt, o_ge, o_eqi, o_nei, o_eqs, o_nes, o_in, o_notin, o_lent, o_lenl, o_lenc, o_abs, o_min, o_max, o_tupl, o_tupt, o_sll, fin_f])
    exact fin _ _ rfl (d1.to d2 (by omega))
  · simp -implicitDefEqProofs only [exB_nil, exS_expr, exS_set, exS_setSub, exS_fz, exS_ife, exS_ret, exS_pass, den_nop, den_c, den_v, den_bin, den_neg, den_cmp, den_chain, den_and, den_or, den_not, den_ite, den_tup, den_lst, den_sub, den_rev, den_callv, exS_raise, exS_tryR, den_sl, den_call, den_blt, den_meth, denL_nil, denL_cons, WS_seq, WS_toS, WS_nx, WS_rt, WS_asB, WS_ite, WP_bind, WP_ok, WP_asB, WP_ite, bindP, setAll, List.set_cons_zero, List.set_cons_succ, List.getElem?_cons_zero, List.getElem?_cons_succ, decide_true, decide_false, if_true, if_false, Bool.false_eq_true, Bool.not_true, Bool.not_false, isNop, partR, o_add, o_sub, o_lt, o_le, o_gt, o_ge, o_eqi, o_nei, o_eqs, o_nes, o_in, o_notin, o_lent, o_lenl, o_lenc, o_abs, o_min, o_max, o_tupl, o_tupt, o_sll, fin_f, c1, exB_nil]
    rw [exB_cons]
    simp -implicitDefEqProofs only [exB_nil, exS_expr, exS_set, exS_setSub, exS_fz, exS_ife, exS_ret, exS_pass, den_nop, den_c, den_v, den_bin, den_neg, den_cmp, den_chain, den_and, den_or, den_not, den_ite, den_tup, den_lst, den_sub, den_rev, den_callv, exS_raise, exS_tryR, den_sl, den_call, den_blt, den_meth, denL_nil, denL_cons, WS_seq, WS_toS, WS_nx, WS_rt, WS_asB, WS_ite, WP_bind, WP_ok, WP_asB, WP_ite, bindP, setAll, List.set_cons_zero, List.set_cons_succ, List.getElem?_cons_zero, List.getElem?_cons_succ, decide_true, decide_false, if_true, if_false, Bool.false_eq_true, Bool.not_true, Bool.not_false, isNop, partR, o_add, o_sub, o_lt, o_le, o_gt, o_ge, o_eqi, o_nei, o_eqs, o_nes, o_in, o_notin, o_lent, o_lenl, o_lenc, o_abs, o_min, o_max, o_tupl, o_tupt, o_sll, fin_f]
    cases c2 : (x == 2)
    · simp -implicitDefEqProofs only [exB_nil, exS_expr, exS_set, exS_setSub, exS_fz, exS_ife, exS_ret, exS_pass, den_nop, den_c, den_v, den_bin, den_neg, den_cmp, den_chain, den_and, den_or, den_not, den_ite, den_tup, den_lst, den_sub, den_rev, den_callv, exS_raise, exS_tryR, den_sl, den_call, den_blt, den_meth, denL_nil, denL_cons, WS_seq, WS_toS, WS_nx, WS_rt, WS_asB, WS_ite, WP_bind, WP_ok, WP_asB, WP_ite, bindP, setAll, List.set_cons_zero, List.set_cons_succ, List.getElem?_cons_zero, List.getElem?_cons_succ, decide_true, decide_false, if_true, if_false, Bool.false_eq_true, Bool.not_true, Bool.not_false, isNop, partR, o_add, o_sub, o_lt, o_le, o_gt, o_ge, o_eqi, o_nei, o_eqs, o_nes, o_in, o_notin, o_lent, o_lenl, o_lenc, o_abs, o_min, o_max, o_tupl, o_tupt, o_sll, fin_f, exB_nil]
      rw [exB_cons]
      simp -implicitDefEqProofs only [exB_nil, exS_expr, exS_set, exS_setSub, exS_fz, exS_ife, exS_ret, exS_pass, den_nop, den_c, den_v, den_bin, den_neg, den_cmp, den_chain, den_and, den_or, den_not, den_ite, den_tup, den_lst, den_sub, den_rev, den_callv, exS_raise, exS_tryR, den_sl, den_call, den_blt, den_meth, denL_nil, denL_cons, WS_seq, WS_toS, WS_nx, WS_rt, WS_asB, WS_ite, WP_bind, WP_ok, WP_asB, WP_ite, bindP, setAll, List.set_cons_zero, List.set_cons_succ, List.getElem?_cons_zero, List.getElem?_cons_succ, decide_true, decide_false, if_true, if_false, Bool.false_eq_true, Bool.not_true, Bool.not_false, isNop, partR, o_add, o_sub, o_lt, o_le, o_gt, o_ge, o_eqi, o_nei, o_eqs, o_nes, o_in, o_notin, o_lent, o_lenl, o_lenc, o_abs, o_min, o_max, o_tupl, o_tupt, o_sll, fin_f]
      refine d_word n d1.pot (by omega) fun z s2 hz d2 => ?_
      (try simp -implicitDefEqProofs only [exB_cons, exB_nil, exS_expr, exS_set, exS_setSub, exS_fz, exS_ife, exS_ret, exS_pass, den_nop, den_c, den_v, den_bin, den_neg, den_cmp, den_chain, den_and, den_or, den_not, den_ite, den_tup, den_lst, den_sub, den_rev, den_callv, exS_raise, exS_tryR, den_sl, den_call, den_blt, den_meth, denL_nil, denL_cons, WS_seq, WS_toS, WS_nx, WS_rt, WS_asB, WS_ite, WP_bind, WP_ok, WP_asB, WP_ite, bindP, setAll, List.set_cons_zero, List.set_cons_succ, List.getElem?_cons_zero, List.getElem?_cons_succ, decide_true, decide_false, if_true, if_false, Bool.false_eq_true, Bool.not_true, Bool.not_false, isNop, partR, o_add, o_sub, o_lt, o_le, o_gt, o_ge, o_eqi, o_nei, o_eqs, o_nes, o_in, o_notin, o_lent, o_lenl, o_lenc, o_abs, o_min, o_max, o_tupl, o_tupt, o_sll, fin_f])
      exact fin _ _ (th_str hz) (d1.to d2 (by omega))
    · simp -implicitDefEqProofs only [exB_nil, exS_expr, exS_set, exS_setSub, exS_fz, exS_ife, exS_ret, exS_pass, den_nop, den_c, den_v, den_bin, den_neg, den_cmp, den_chain, den_and, den_or, den_not, den_ite, den_tup, den_lst, den_sub, den_rev, den_callv, exS_raise, exS_tryR, den_sl, den_call, den_blt, den_meth, denL_nil, denL_cons, WS_seq, WS_toS, WS_nx, WS_rt, WS_asB, WS_ite, WP_bind, WP_ok, WP_asB, WP_ite, bindP, setAll, List.set_cons_zero, List.set_cons_succ, List.getElem?_cons_zero, List.getElem?_cons_succ, decide_true, decide_false, if_true, if_false, Bool.false_eq_true, Bool.not_true, Bool.not_false, isNop, partR, o_add, o_sub, o_lt, o_le, o_gt, o_ge, o_eqi, o_nei, o_eqs, o_nes, o_in, o_notin, o_lent, o_lenl, o_lenc, o_abs, o_min, o_max, o_tupl, o_tupt, o_sll, fin_f]
      rw [exB_cons]
      have p9 : ∀ s : St, binD .pow false (.int 10) (.int 9) s = .ok (.int 1000000000) s := fun s => cP9
      simp -implicitDefEqProofs only [exB_nil, exS_expr, exS_set, exS_setSub, exS_fz, exS_ife, exS_ret, exS_pass, den_nop, den_c, den_v, den_bin, den_neg, den_cmp, den_chain, den_and, den_or, den_not, den_ite, den_tup, den_lst, den_sub, den_rev, den_callv, exS_raise, exS_tryR, den_sl, den_call, den_blt, den_meth, denL_nil, denL_cons, WS_seq, WS_toS, WS_nx, WS_rt, WS_asB, WS_ite, WP_bind, WP_ok, WP_asB, WP_ite, bindP, setAll, List.set_cons_zero, List.set_cons_succ, List.getElem?_cons_zero, List.getElem?_cons_succ, decide_true, decide_false, if_true, if_false, Bool.false_eq_true, Bool.not_true, Bool.not_false, isNop, partR, o_add, o_sub, o_lt, o_le, o_gt, o_ge, o_eqi, o_nei, o_eqs, o_nes, o_in, o_notin, o_lent, o_lenl, o_lenc, o_abs, o_min, o_max, o_tupl, o_tupt, o_sll, fin_f, p9]
      rw [o_mul (by decide +kernel)]
      simp -implicitDefEqProofs only [exB_nil, exS_expr, exS_set, exS_setSub, exS_fz, exS_ife, exS_ret, exS_pass, den_nop, den_c, den_v, den_bin, den_neg, den_cmp, den_chain, den_and, den_or, den_not, den_ite, den_tup, den_lst, den_sub, den_rev, den_callv, exS_raise, exS_tryR, den_sl, den_call, den_blt, den_meth, denL_nil, denL_cons, WS_seq, WS_toS, WS_nx, WS_rt, WS_asB, WS_ite, WP_bind, WP_ok, WP_asB, WP_ite, bindP, setAll, List.set_cons_zero, List.set_cons_succ, List.getElem?_cons_zero, List.getElem?_cons_succ, decide_true, decide_false, if_true, if_false, Bool.false_eq_true, Bool.not_true, Bool.not_false, isNop, partR, o_add, o_sub, o_lt, o_le, o_gt, o_ge, o_eqi, o_nei, o_eqs, o_nes, o_in, o_notin, o_lent, o_lenl, o_lenc, o_abs, o_min, o_max, o_tupl, o_tupt, o_sll, fin_f]
      refine take_ (n + 1) d1.pot (by omega) (by decide) (by decide +kernel) fun y s2 y0 y1 d2 => ?_
      simp -implicitDefEqProofs only [exB_nil, exS_expr, exS_set, exS_setSub, exS_fz, exS_ife, exS_ret, exS_pass, den_nop, den_c, den_v, den_bin, den_neg, den_cmp, den_chain, den_and, den_or, den_not, den_ite, den_tup, den_lst, den_sub, den_rev, den_callv, exS_raise, exS_tryR, den_sl, den_call, den_blt, den_meth, denL_nil, denL_cons, WS_seq, WS_toS, WS_nx, WS_rt, WS_asB, WS_ite, WP_bind, WP_ok, WP_asB, WP_ite, bindP, setAll, List.set_cons_zero, List.set_cons_succ, List.getElem?_cons_zero, List.getElem?_cons_succ, decide_true, decide_false, if_true, if_false, Bool.false_eq_true, Bool.not_true, Bool.not_false, isNop, partR, o_add, o_sub, o_lt, o_le, o_gt, o_ge, o_eqi, o_nei, o_eqs, o_nes, o_in, o_notin, o_lent, o_lenl, o_lenc, o_abs, o_min, o_max, o_tupl, o_tupt, o_sll, fin_f, p9]
      exact fin _ _ rfl (d1.to d2 (by omega))
def idk (d : D) : Prop := ∃ i z j, d = .tup [.int i, .str z, .int j] ∧ z.length ≤ 30
theorem idk_th {m : Nat} (hm : 3 ≤ m) {d : D} (h : idk d) : th m d = true := by
  obtain ⟨i, z, j, rfl, hz⟩ := h
  refine th_of_tup (by simpa using hm) fun x hx => ?_
  simp only [List.mem_cons, List.not_mem_nil, or_false] at hx
  rcases hx with rfl | rfl | rfl
  · rfl
  · exact th_str hz
  · rfl
theorem d_id (n : Nat) {r c : Nat} {s : St} {Q : D → St → Prop} (hp : Pot s r c) (hc : c ≤ 90000) (h : ∀ d s', idk d → Drew s r c 14 s' → Q d s') : WP (callF PP (n + 3) 30 [.ref r] s) Q := by
  rw [callF_eq (fn := fn30) rfl rfl, WP_back]
  show WS (exB _ fn30.body [some (.ref r), none, none] s) _ _
  have p6 : ∀ s : St, binD .pow false (.int 10) (.int 6) s = .ok (.int 1000000) s := fun s => cP6
  rw [fn30, exB_cons, exS_par]
  simp -implicitDefEqProofs only [exB_nil, exS_expr, exS_set, exS_setSub, exS_fz, exS_ife, exS_ret, exS_pass, den_nop, den_c, den_v, den_bin, den_neg, den_cmp, den_chain, den_and, den_or, den_not, den_ite, den_tup, den_lst, den_sub, den_rev, den_callv, exS_raise, exS_tryR, den_sl, den_call, den_blt, den_meth, denL_nil, denL_cons, WS_seq, WS_toS, WS_nx, WS_rt, WS_asB, WS_ite, WP_bind, WP_ok, WP_asB, WP_ite, bindP, setAll, List.set_cons_zero, List.set_cons_succ, List.getElem?_cons_zero, List.getElem?_cons_succ, decide_true, decide_false, if_true, if_false, Bool.false_eq_true, Bool.not_true, Bool.not_false, isNop, partR, o_add, o_sub, o_lt, o_le, o_gt, o_ge, o_eqi, o_nei, o_eqs, o_nes, o_in, o_notin, o_lent, o_lenl, o_lenc, o_abs, o_min, o_max, o_tupl, o_tupt, o_sll, fin_f, p6]
  refine take_ (n + 1) hp (by omega) (by decide) (by decide +kernel) fun x s1 x0 x1 d1 => ?_
  (try simp -implicitDefEqProofs only [exB_cons, exB_nil, exS_expr, exS_set, exS_setSub, exS_fz, exS_ife, exS_ret, exS_pass, den_nop, den_c, den_v, den_bin, den_neg, den_cmp, den_chain, den_and, den_or, den_not, den_ite, den_tup, den_lst, den_sub, den_rev, den_callv, exS_raise, exS_tryR, den_sl, den_call, den_blt, den_meth, denL_nil, denL_cons, WS_seq, WS_toS, WS_nx, WS_rt, WS_asB, WS_ite, WP_bind, WP_ok, WP_asB, WP_ite, bindP, setAll, List.set_cons_zero, List.set_cons_succ, List.getElem?_cons_zero, List.getElem?_cons_succ, decide_true, decide_false, if_true, if_false, Bool.false_eq_true, Bool.not_true, Bool.not_false, isNop, partR, o_add, o_sub, o_lt, o_le, o_gt, o_ge, o_eqi, o_nei, o_eqs, o_nes, o_in, o_notin, o_lent, o_lenl, o_lenc, o_abs, o_min, o_max, o_tupl, o_tupt, o_sll, fin_f, p6])
  refine take_ (n + 1) d1.pot (by omega) (by decide) (by decide +kernel) fun y s2 y0 y1 d2 => ?_
  (try simp -implicitDefEqProofs only [exB_cons, exB_nil, exS_expr, exS_set, exS_setSub, exS_fz, exS_ife, exS_ret, exS_pass, den_nop, den_c, den_v, den_bin, den_neg, den_cmp, den_chain, den_and, den_or, den_not, den_ite, den_tup, den_lst, den_sub, den_rev, den_callv, exS_raise, exS_tryR, den_sl, den_call, den_blt, den_meth, denL_nil, denL_cons, WS_seq, WS_toS, WS_nx, WS_rt, WS_asB, WS_ite, WP_bind, WP_ok, WP_asB, WP_ite, bindP, setAll, List.set_cons_zero, List.set_cons_succ, List.getElem?_cons_zero, List.getElem?_cons_succ, decide_true, decide_false, if_true, if_false, Bool.false_eq_true, Bool.not_true, Bool.not_false, isNop, partR, o_add, o_sub, o_lt, o_le, o_gt, o_ge, o_eqi, o_nei, o_eqs, o_nes, o_in, o_notin, o_lent, o_lenl, o_lenc, o_abs, o_min, o_max, o_tupl, o_tupt, o_sll, fin_f])
  refine take_ (n + 1) d2.pot (by omega) (by decide) (by decide +kernel) fun u s3 u0 u1 d3 => ?_
  refine wp_at u0 (by simp; omega) fun dm hm => ?_
  obtain ⟨i, rfl⟩ : ∃ i : Int, dm = .int i := by
    simp only [List.mem_cons, List.not_mem_nil, or_false] at hm
    rcases hm with rfl | rfl | rfl <;> exact ⟨_, rfl⟩
  (try simp -implicitDefEqProofs only [exB_cons, exB_nil, exS_expr, exS_set, exS_setSub, exS_fz, exS_ife, exS_ret, exS_pass, den_nop, den_c, den_v, den_bin, den_neg, den_cmp, den_chain, den_and, den_or, den_not, den_ite, den_tup, den_lst, den_sub, den_rev, den_callv, exS_raise, exS_tryR, den_sl, den_call, den_blt, den_meth, denL_nil, denL_cons, WS_seq, WS_toS, WS_nx, WS_rt, WS_asB, WS_ite, WP_bind, WP_ok, WP_asB, WP_ite, bindP, setAll, List.set_cons_zero, List.set_cons_succ, List.getElem?_cons_zero, List.getElem?_cons_succ, decide_true, decide_false, if_true, if_false, Bool.false_eq_true, Bool.not_true, Bool.not_false, isNop, partR, o_add, o_sub, o_lt, o_le, o_gt, o_ge, o_eqi, o_nei, o_eqs, o_nes, o_in, o_notin, o_lent, o_lenl, o_lenc, o_abs, o_min, o_max, o_tupl, o_tupt, o_sll, fin_f])
  refine d_word n d3.pot (by omega) fun z s4 hz d4 => ?_
  (try simp -implicitDefEqProofs only [exB_cons, exB_nil, exS_expr, exS_set, exS_setSub, exS_fz, exS_ife, exS_ret, exS_pass, den_nop, den_c, den_v, den_bin, den_neg, den_cmp, den_chain, den_and, den_or, den_not, den_ite, den_tup, den_lst, den_sub, den_rev, den_callv, exS_raise, exS_tryR, den_sl, den_call, den_blt, den_meth, denL_nil, denL_cons, WS_seq, WS_toS, WS_nx, WS_rt, WS_asB, WS_ite, WP_bind, WP_ok, WP_asB, WP_ite, bindP, setAll, List.set_cons_zero, List.set_cons_succ, List.getElem?_cons_zero, List.getElem?_cons_succ, decide_true, decide_false, if_true, if_false, Bool.false_eq_true, Bool.not_true, Bool.not_false, isNop, partR, o_add, o_sub, o_lt, o_le, o_gt, o_ge, o_eqi, o_nei, o_eqs, o_nes, o_in, o_notin, o_lent, o_lenl, o_lenc, o_abs, o_min, o_max, o_tupl, o_tupt, o_sll, fin_f])
  refine take_ (n + 1) d4.pot (by omega) (by decide) (by decide +kernel) fun v s5 v0 v1 d5 => ?_
  refine wp_at v0 (by simp; omega) fun dn hn => ?_
  obtain ⟨j, rfl⟩ : ∃ j : Int, dn = .int j := by
    simp only [List.mem_cons, List.not_mem_nil, or_false] at hn
    rcases hn with rfl | rfl | rfl <;> exact ⟨_, rfl⟩
  have D5 : Drew s r c 14 s5 := (((d1.to d2 (m := 2) (by omega)).to d3 (m := 3) (by omega)).to d4 (m := 13) (by omega)).to d5 (by omega)
  (try simp -implicitDefEqProofs only [exB_cons, exB_nil, exS_expr, exS_set, exS_setSub, exS_fz, exS_ife, exS_ret, exS_pass, den_nop, den_c, den_v, den_bin, den_neg, den_cmp, den_chain, den_and, den_or, den_not, den_ite, den_tup, den_lst, den_sub, den_rev, den_callv, exS_raise, exS_tryR, den_sl, den_call, den_blt, den_meth, denL_nil, denL_cons, WS_seq, WS_toS, WS_nx, WS_rt, WS_asB, WS_ite, WP_bind, WP_ok, WP_asB, WP_ite, bindP, setAll, List.set_cons_zero, List.set_cons_succ, List.getElem?_cons_zero, List.getElem?_cons_succ, decide_true, decide_false, if_true, if_false, Bool.false_eq_true, Bool.not_true, Bool.not_false, isNop, partR, o_add, o_sub, o_lt, o_le, o_gt, o_ge, o_eqi, o_nei, o_eqs, o_nes, o_in, o_notin, o_lent, o_lenl, o_lenc, o_abs, o_min, o_max, o_tupl, o_tupt, o_sll, fin_f])
  have e : (D.tup [.int i, .str z, .int j]).top = 0 := rfl
  rw [e, D5.take]
  exact h _ _ ⟨i, z, j, rfl, hz⟩ D5
theorem put_keys {x k y : D} : ∀ {ks vs : List D}, k ∈ (dPut ks vs x y).1 → k ∈ ks ∨ k = x
  | [], _, h => by simp [dPut] at h; exact .inr h
  | _ :: _, [], h => by simp [dPut] at h; exact .inr h
  | a :: ks, v :: vs, h => by
    unfold dPut at h
    split at h
    · exact .inl h
    · rcases List.mem_cons.mp h with rfl | h
      · exact .inl List.mem_cons_self
      · rcases put_keys (ks := ks) (vs := vs) h with h | h
        · exact .inl (List.mem_cons_of_mem _ h)
        · exact .inr h
theorem put_vals {x k y : D} : ∀ {ks vs : List D}, k ∈ (dPut ks vs x y).2 → k ∈ vs ∨ k = y
  | [], _, h => by simp [dPut] at h; exact .inr h
  | _ :: _, [], h => by simp [dPut] at h; exact .inr h
  | a :: ks, v :: vs, h => by
    unfold dPut at h
    split at h
    · rcases List.mem_cons.mp h with rfl | h
      · exact .inr rfl
      · exact .inl (List.mem_cons_of_mem _ h)
    · rcases List.mem_cons.mp h with rfl | h
      · exact .inl List.mem_cons_self
      · rcases put_vals (ks := ks) (vs := vs) h with h | h
        · exact .inl (List.mem_cons_of_mem _ h)
        · exact .inr h
theorem put_len {x y : D} : ∀ {ks vs : List D}, ks.length = vs.length → (dPut ks vs x y).1.length = (dPut ks vs x y).2.length ∧ (dPut ks vs x y).1.length ≤ ks.length + 1
  | [], [], _ => by simp [dPut]
  | [], _ :: _, h => by simp at h
  | _ :: _, [], h => by simp at h
  | a :: ks, v :: vs, h => by
    have ih := put_len (x := x) (y := y) (ks := ks) (vs := vs) (by simpa using h)
    unfold dPut
    split
    · simp at h ⊢; exact h
    · simp only [List.length_cons]
      exact ⟨by omega, by omega⟩
theorem get_some {x : D} (hx : D.beq x x = true) : ∀ {ks vs : List D}, ks.length = vs.length → x ∈ ks → ∃ v ∈ vs, dGet ks vs x = some v
  | [], _, _, h => by simp at h
  | _ :: _, [], h, _ => by simp at h
  | a :: ks, v :: vs, hl, h => by
    unfold dGet
    by_cases q : D.beq a x = true
    · rw [if_pos q]; exact ⟨v, List.mem_cons_self, rfl⟩
    · rw [if_neg q]
      rcases List.mem_cons.mp h with rfl | h
      · exact absurd hx q
      · obtain ⟨u, hu, e⟩ := get_some hx (ks := ks) (vs := vs) (by simpa using hl) h
        exact ⟨u, List.mem_cons_of_mem _ hu, e⟩
theorem idk_beq {d : D} (h : idk d) : D.beq d d = true := by
  obtain ⟨i, z, j, rfl, _⟩ := h
  simp [D.beq, D.beqL]
theorem idk_kOk {ks : List D} {d : D} (hk : ∀ k ∈ ks, idk k) (h : idk d) : kOk ks d = true := by
  have t : isTup d = true := by obtain ⟨i, z, j, rfl, _⟩ := h; rfl
  have a : keyOk d = true := by obtain ⟨i, z, j, rfl, _⟩ := h; rfl
  have b : depth d ≤ 8 := by obtain ⟨i, z, j, rfl, _⟩ := h; simp [depth, depthL]
  have c : (ks.all fun j => isTup j == isTup d) = true := List.all_eq_true.mpr fun k q => by
    rw [t]
    obtain ⟨i, z, j, rfl, _⟩ := hk k q
    rfl
  unfold kOk
  rw [a, c]
  simp [b]
theorem idk_flat : ∀ {ks : List D}, (∀ k ∈ ks, idk k) → flatL ks = true ∧ depthL ks ≤ 60
  | [], _ => ⟨rfl, by simp [depthL]⟩
  | k :: ks, h => by
    obtain ⟨h1, h2⟩ := idk_flat (ks := ks) fun x hx => h x (List.mem_cons_of_mem _ hx)
    obtain ⟨i, z, j, rfl, _⟩ := h k List.mem_cons_self
    refine ⟨?_, ?_⟩
    · unfold flatL; rw [h1]; rfl
    · unfold depthL
      have : depth (.tup [.int i, .str z, .int j]) = 1 := by simp [depth, depthL]
      rw [this]
      omega
theorem idk_sort {ks : List D} (h : ∀ k ∈ ks, idk k) (l : ks.length ≤ 100) : sortD ks = some (ks.mergeSort leD) := by
  obtain ⟨h1, h2⟩ := idk_flat h
  have h3 : (ks.all fun a => ks.all fun b => cmpOk a b) = true := List.all_eq_true.mpr fun a ha => List.all_eq_true.mpr fun b hb => by
    obtain ⟨i, z, j, rfl, _⟩ := h a ha
    obtain ⟨i', z', j', rfl, _⟩ := h b hb
    simp [cmpOk, cmpOkL]
  have h4 : ks.all tupNE = true := List.all_eq_true.mpr fun a ha => by
    obtain ⟨i, z, j, rfl, _⟩ := h a ha
    rfl
  have sz : sizeLine = 16777216 := rfl
  have c : sortOk ks = true := by
    unfold sortOk
    rw [h1, h3, h4]
    simp [h2]; omega
  unfold sortD
  rw [if_pos c]
theorem d_cells (n : Nat) {r c : Nat} {s : St} {Q : D → St → Prop} (hp : Pot s r c) (hc : c ≤ 80000) (h : ∀ d s', th 7 d = true → Drew s r c 240 s' → Q d s') : WP (callF PP (n + 4) 31 [.ref r] s) Q := by
  rw [callF_eq (fn := fn31) rfl rfl, WP_back]
  show WS (exB _ fn31.body [some (.ref r), none, none, none] s) _ _
  have p9 : ∀ s : St, binD .pow false (.int 10) (.int 9) s = .ok (.int 1000000000) s := fun s => cP9
  have hr := hp.lt
  rw [fn31, exB_cons, exS_set, d_dic1 (xs := []) (ks := []) (vs := []) (by simp only [denL_nil]) rfl rfl]
  have f1 : finD true [] [] s = .ok (.ref s.length) (s ++ [.dic [] []]) := rfl
  rw [f1]
  (try simp -implicitDefEqProofs only [exB_nil, exS_expr, exS_set, exS_setSub, exS_fz, exS_ife, exS_ret, exS_pass, den_nop, den_c, den_v, den_bin, den_neg, den_cmp, den_chain, den_and, den_or, den_not, den_ite, den_tup, den_lst, den_sub, den_rev, den_callv, exS_raise, exS_tryR, den_sl, den_call, den_blt, den_meth, denL_nil, denL_cons, WS_seq, WS_toS, WS_nx, WS_rt, WS_asB, WS_ite, WP_bind, WP_ok, WP_asB, WP_ite, bindP, setAll, List.set_cons_zero, List.set_cons_succ, List.getElem?_cons_zero, List.getElem?_cons_succ, decide_true, decide_false, if_true, if_false, Bool.false_eq_true, Bool.not_true, Bool.not_false, isNop, partR, o_add, o_sub, o_lt, o_le, o_gt, o_ge, o_eqi, o_nei, o_eqs, o_nes, o_in, o_notin, o_lent, o_lenl, o_lenc, o_abs, o_min, o_max, o_tupl, o_tupt, o_sll, fin_f])
  rw [exB_cons, exS_forr]
  (try simp -implicitDefEqProofs only [exB_nil, exS_expr, exS_set, exS_setSub, exS_fz, exS_ife, exS_ret, exS_pass, den_nop, den_c, den_v, den_bin, den_neg, den_cmp, den_chain, den_and, den_or, den_not, den_ite, den_tup, den_lst, den_sub, den_rev, den_callv, exS_raise, exS_tryR, den_sl, den_call, den_blt, den_meth, denL_nil, denL_cons, WS_seq, WS_toS, WS_nx, WS_rt, WS_asB, WS_ite, WP_bind, WP_ok, WP_asB, WP_ite, bindP, setAll, List.set_cons_zero, List.set_cons_succ, List.getElem?_cons_zero, List.getElem?_cons_succ, decide_true, decide_false, if_true, if_false, Bool.false_eq_true, Bool.not_true, Bool.not_false, isNop, partR, o_add, o_sub, o_lt, o_le, o_gt, o_ge, o_eqi, o_nei, o_eqs, o_nes, o_in, o_notin, o_lent, o_lenl, o_lenc, o_abs, o_min, o_max, o_tupl, o_tupt, o_sll, fin_f])
  refine take_ (n + 2) hp.snoc (by omega) (by decide) (by decide +kernel) fun x s1 x0 x1 d1 => ?_
  (try simp -implicitDefEqProofs only [exB_nil, exS_expr, exS_set, exS_setSub, exS_fz, exS_ife, exS_ret, exS_pass, den_nop, den_c, den_v, den_bin, den_neg, den_cmp, den_chain, den_and, den_or, den_not, den_ite, den_tup, den_lst, den_sub, den_rev, den_callv, exS_raise, exS_tryR, den_sl, den_call, den_blt, den_meth, denL_nil, denL_cons, WS_seq, WS_toS, WS_nx, WS_rt, WS_asB, WS_ite, WP_bind, WP_ok, WP_asB, WP_ite, bindP, setAll, List.set_cons_zero, List.set_cons_succ, List.getElem?_cons_zero, List.getElem?_cons_succ, decide_true, decide_false, if_true, if_false, Bool.false_eq_true, Bool.not_true, Bool.not_false, isNop, partR, o_add, o_sub, o_lt, o_le, o_gt, o_ge, o_eqi, o_nei, o_eqs, o_nes, o_in, o_notin, o_lent, o_lenl, o_lenc, o_abs, o_min, o_max, o_tupl, o_tupt, o_sll, fin_f])
  obtain ⟨t1, rfl, d1'⟩ := Drew.snoc hr d1
  have far0 : -far ≤ x := by unfold far; omega
  have far1 : x ≤ sizeLine := by unfold sizeLine; omega
  rw [it_rng far0 far1]
  (try simp -implicitDefEqProofs only [exB_nil, exS_expr, exS_set, exS_setSub, exS_fz, exS_ife, exS_ret, exS_pass, den_nop, den_c, den_v, den_bin, den_neg, den_cmp, den_chain, den_and, den_or, den_not, den_ite, den_tup, den_lst, den_sub, den_rev, den_callv, exS_raise, exS_tryR, den_sl, den_call, den_blt, den_meth, denL_nil, denL_cons, WS_seq, WS_toS, WS_nx, WS_rt, WS_asB, WS_ite, WP_bind, WP_ok, WP_asB, WP_ite, bindP, setAll, List.set_cons_zero, List.set_cons_succ, List.getElem?_cons_zero, List.getElem?_cons_succ, decide_true, decide_false, if_true, if_false, Bool.false_eq_true, Bool.not_true, Bool.not_false, isNop, partR, o_add, o_sub, o_lt, o_le, o_gt, o_ge, o_eqi, o_nei, o_eqs, o_nes, o_in, o_notin, o_lent, o_lenl, o_lenc, o_abs, o_min, o_max, o_tupl, o_tupt, o_sll, fin_f])
  have sz : sizeLine = 16777216 := rfl
  refine ws_for (fun i env s' => ∃ t ks vs, s' = t ++ [.dic ks vs] ∧ Drew s r c (1 + 39 * i) t ∧ ks.length = vs.length ∧ ks.length ≤ i ∧ (∀ k ∈ ks, idk k) ∧ (∀ v ∈ vs, th 7 v = true) ∧ ∃ e, env = [some (.ref r), some (.ref s.length), e, none])
    ⟨t1, [], [], rfl, d1', rfl, Nat.le_refl _, fun _ q => (by cases q), fun _ q => (by cases q), _, rfl⟩ (fun i d env s2 hi ⟨t, ks, vs, hs, d2, l1, l2, hk, hv, e, he⟩ => ?_) (fun env s2 ⟨t, ks, vs, hs, d2, l1, l2, hk, hv, e, he⟩ => ?_)
  · subst hs he
    have hi6 : i < 6 := by
      have := (List.getElem?_eq_some_iff.mp hi).1
      rw [List.length_map, List.length_range] at this
      omega
    refine ⟨_, rfl, ?_⟩
    rw [exB_cons, exS_setSub]
    have tl : t.length = s.length := d2.length
    (try simp -implicitDefEqProofs only [exB_nil, exS_expr, exS_set, exS_setSub, exS_fz, exS_ife, exS_ret, exS_pass, den_nop, den_c, den_v, den_bin, den_neg, den_cmp, den_chain, den_and, den_or, den_not, den_ite, den_tup, den_lst, den_sub, den_rev, den_callv, exS_raise, exS_tryR, den_sl, den_call, den_blt, den_meth, denL_nil, denL_cons, WS_seq, WS_toS, WS_nx, WS_rt, WS_asB, WS_ite, WP_bind, WP_ok, WP_asB, WP_ite, bindP, setAll, List.set_cons_zero, List.set_cons_succ, List.getElem?_cons_zero, List.getElem?_cons_succ, decide_true, decide_false, if_true, if_false, Bool.false_eq_true, Bool.not_true, Bool.not_false, isNop, partR, o_add, o_sub, o_lt, o_le, o_gt, o_ge, o_eqi, o_nei, o_eqs, o_nes, o_in, o_notin, o_lent, o_lenl, o_lenc, o_abs, o_min, o_max, o_tupl, o_tupt, o_sll, fin_f, p9])
    refine d_value n (d2.pot.snoc (o := .dic ks vs)) (by omega) fun v1 s3 hv1 d3 => ?_
    (try simp -implicitDefEqProofs only [exB_nil, exS_expr, exS_set, exS_setSub, exS_fz, exS_ife, exS_ret, exS_pass, den_nop, den_c, den_v, den_bin, den_neg, den_cmp, den_chain, den_and, den_or, den_not, den_ite, den_tup, den_lst, den_sub, den_rev, den_callv, exS_raise, exS_tryR, den_sl, den_call, den_blt, den_meth, denL_nil, denL_cons, WS_seq, WS_toS, WS_nx, WS_rt, WS_asB, WS_ite, WP_bind, WP_ok, WP_asB, WP_ite, bindP, setAll, List.set_cons_zero, List.set_cons_succ, List.getElem?_cons_zero, List.getElem?_cons_succ, decide_true, decide_false, if_true, if_false, Bool.false_eq_true, Bool.not_true, Bool.not_false, isNop, partR, o_add, o_sub, o_lt, o_le, o_gt, o_ge, o_eqi, o_nei, o_eqs, o_nes, o_in, o_notin, o_lent, o_lenl, o_lenc, o_abs, o_min, o_max, o_tupl, o_tupt, o_sll, fin_f, p9])
    refine d_value n d3.pot (by omega) fun v2 s4 hv2 d4 => ?_
    (try simp -implicitDefEqProofs only [exB_nil, exS_expr, exS_set, exS_setSub, exS_fz, exS_ife, exS_ret, exS_pass, den_nop, den_c, den_v, den_bin, den_neg, den_cmp, den_chain, den_and, den_or, den_not, den_ite, den_tup, den_lst, den_sub, den_rev, den_callv, exS_raise, exS_tryR, den_sl, den_call, den_blt, den_meth, denL_nil, denL_cons, WS_seq, WS_toS, WS_nx, WS_rt, WS_asB, WS_ite, WP_bind, WP_ok, WP_asB, WP_ite, bindP, setAll, List.set_cons_zero, List.set_cons_succ, List.getElem?_cons_zero, List.getElem?_cons_succ, decide_true, decide_false, if_true, if_false, Bool.false_eq_true, Bool.not_true, Bool.not_false, isNop, partR, o_add, o_sub, o_lt, o_le, o_gt, o_ge, o_eqi, o_nei, o_eqs, o_nes, o_in, o_notin, o_lent, o_lenl, o_lenc, o_abs, o_min, o_max, o_tupl, o_tupt, o_sll, fin_f, p9])
    refine take_ (n + 2) d4.pot (by omega) (by decide) (by decide +kernel) fun y s5 y0 y1 d5 => ?_
    refine wp_at y0 (by simp; omega) fun v hv' => ?_
    have tv : th 7 v = true := by
      simp only [List.mem_cons, List.not_mem_nil, or_false] at hv'
      rcases hv' with rfl | rfl | rfl | rfl
      · rfl
      · rfl
      · exact hv1
      · exact hv2
    (try simp -implicitDefEqProofs only [exB_nil, exS_expr, exS_set, exS_setSub, exS_fz, exS_ife, exS_ret, exS_pass, den_nop, den_c, den_v, den_bin, den_neg, den_cmp, den_chain, den_and, den_or, den_not, den_ite, den_tup, den_lst, den_sub, den_rev, den_callv, exS_raise, exS_tryR, den_sl, den_call, den_blt, den_meth, denL_nil, denL_cons, WS_seq, WS_toS, WS_nx, WS_rt, WS_asB, WS_ite, WP_bind, WP_ok, WP_asB, WP_ite, bindP, setAll, List.set_cons_zero, List.set_cons_succ, List.getElem?_cons_zero, List.getElem?_cons_succ, decide_true, decide_false, if_true, if_false, Bool.false_eq_true, Bool.not_true, Bool.not_false, isNop, partR, o_add, o_sub, o_lt, o_le, o_gt, o_ge, o_eqi, o_nei, o_eqs, o_nes, o_in, o_notin, o_lent, o_lenl, o_lenc, o_abs, o_min, o_max, o_tupl, o_tupt, o_sll, fin_f])
    refine d_id n d5.pot (by omega) fun k s6 hk6 d6 => ?_
    have D6 : Drew (t ++ [.dic ks vs]) r (c + (1 + 39 * i)) 39 s6 := ((d3.to d4 (m := 24) (by omega)).to d5 (m := 25) (by omega)).to d6 (by omega)
    obtain ⟨t6, rfl, d6'⟩ := Drew.snoc (by rw [tl]; exact hr) D6
    have tl6 : t6.length = s.length := by rw [d6'.length, tl]
    have st : ∀ env : Fk.Env, setAtD (.ref s.length) k v env (t6 ++ [.dic ks vs]) = .ok (.nx env) (t6 ++ [.dic (dPut ks vs k v).1 (dPut ks vs k v).2]) := fun env => by
      have c1 : (kOk ks k && v.pure && decide (ks.length < sizeLine)) = true := by
        rw [idk_kOk hk hk6, th_pure v tv]
        simp; omega
      simp only [setAtD, ← tl6, snoc_get, snoc_set, c1, if_true]
    (try simp -implicitDefEqProofs only [exB_nil, exS_expr, exS_set, exS_setSub, exS_fz, exS_ife, exS_ret, exS_pass, den_nop, den_c, den_v, den_bin, den_neg, den_cmp, den_chain, den_and, den_or, den_not, den_ite, den_tup, den_lst, den_sub, den_rev, den_callv, exS_raise, exS_tryR, den_sl, den_call, den_blt, den_meth, denL_nil, denL_cons, WS_seq, WS_toS, WS_nx, WS_rt, WS_asB, WS_ite, WP_bind, WP_ok, WP_asB, WP_ite, bindP, setAll, List.set_cons_zero, List.set_cons_succ, List.getElem?_cons_zero, List.getElem?_cons_succ, decide_true, decide_false, if_true, if_false, Bool.false_eq_true, Bool.not_true, Bool.not_false, isNop, partR, o_add, o_sub, o_lt, o_le, o_gt, o_ge, o_eqi, o_nei, o_eqs, o_nes, o_in, o_notin, o_lent, o_lenl, o_lenc, o_abs, o_min, o_max, o_tupl, o_tupt, o_sll, fin_f, st, exB_nil])
    refine ⟨t6, _, _, rfl, ?_, (put_len l1).1, by have := (put_len (x := k) (y := v) l1).2; omega, fun j hj => ?_, fun j hj => ?_, _, rfl⟩
    · exact (d2.trans d6').mono (by omega)
    · rcases put_keys hj with q | rfl
      · exact hk j q
      · exact hk6
    · rcases put_vals hj with q | rfl
      · exact hv j q
      · exact tv
  · subst hs he
    rw [List.length_map, List.length_range] at l2 d2
    have tl : t.length = s.length := d2.length
    rw [exB_cons]
    have fz : ∀ e : Option D, freeze 1 [some (.ref r), some (.ref s.length), e, none] (t ++ [.dic ks vs]) = .ok (.nx [some (.ref r), some (.dic ks vs), e, none]) (t ++ [.gone]) := fun e => by
      simp [freeze, ← tl]
    (try simp -implicitDefEqProofs only [exB_nil, exS_expr, exS_set, exS_setSub, exS_fz, exS_ife, exS_ret, exS_pass, den_nop, den_c, den_v, den_bin, den_neg, den_cmp, den_chain, den_and, den_or, den_not, den_ite, den_tup, den_lst, den_sub, den_rev, den_callv, exS_raise, exS_tryR, den_sl, den_call, den_blt, den_meth, denL_nil, denL_cons, WS_seq, WS_toS, WS_nx, WS_rt, WS_asB, WS_ite, WP_bind, WP_ok, WP_asB, WP_ite, bindP, setAll, List.set_cons_zero, List.set_cons_succ, List.getElem?_cons_zero, List.getElem?_cons_succ, decide_true, decide_false, if_true, if_false, Bool.false_eq_true, Bool.not_true, Bool.not_false, isNop, partR, o_add, o_sub, o_lt, o_le, o_gt, o_ge, o_eqi, o_nei, o_eqs, o_nes, o_in, o_notin, o_lent, o_lenl, o_lenc, o_abs, o_min, o_max, o_tupl, o_tupt, o_sll, fin_f, fz])
    rw [exB_cons]
    have so : ∀ s : St, bltD .sorted false [.dic ks vs] s = .ok (.lst (ks.mergeSort leD)) s := fun s => by
      simp only [bltD, rd, idk_sort hk (by omega)]
      rfl
    (try simp -implicitDefEqProofs only [exB_nil, exS_expr, exS_set, exS_setSub, exS_fz, exS_ife, exS_ret, exS_pass, den_nop, den_c, den_v, den_bin, den_neg, den_cmp, den_chain, den_and, den_or, den_not, den_ite, den_tup, den_lst, den_sub, den_rev, den_callv, exS_raise, exS_tryR, den_sl, den_call, den_blt, den_meth, denL_nil, denL_cons, WS_seq, WS_toS, WS_nx, WS_rt, WS_asB, WS_ite, WP_bind, WP_ok, WP_asB, WP_ite, bindP, setAll, List.set_cons_zero, List.set_cons_succ, List.getElem?_cons_zero, List.getElem?_cons_succ, decide_true, decide_false, if_true, if_false, Bool.false_eq_true, Bool.not_true, Bool.not_false, isNop, partR, o_add, o_sub, o_lt, o_le, o_gt, o_ge, o_eqi, o_nei, o_eqs, o_nes, o_in, o_notin, o_lent, o_lenl, o_lenc, o_abs, o_min, o_max, o_tupl, o_tupt, o_sll, fin_f, den_lc, so, it_lst])
    have mm : ∀ d, d ∈ ks.mergeSort leD → d ∈ ks := fun d hd => List.mem_mergeSort.mp hd
    refine wp_of_eq (lc_pure (g := fun d => some (.tup [d, (dGet ks vs d).getD .none])) fun d hd => ?_) ?_
    · obtain ⟨v, hv', e⟩ := get_some (idk_beq (hk d (mm d hd))) l1 (mm d hd)
      refine eq_of_wp ?_
      have sb : ∀ s : St, subD (.dic ks vs) d s = .ok v s := fun s => by
        have : subD (.dic ks vs) d s = if kOk ks d then (match dGet ks vs d with | some d => R.ok d s | Option.none => .bad) else .bad := by
          obtain ⟨i, z, j, rfl, _⟩ := hk d (mm d hd)
          rfl
        rw [this, if_pos (idk_kOk hk (hk d (mm d hd))), e]
      simp -implicitDefEqProofs only [exB_cons, exB_nil, exS_expr, exS_set, exS_setSub, exS_fz, exS_ife, exS_ret, exS_pass, den_nop, den_c, den_v, den_bin, den_neg, den_cmp, den_chain, den_and, den_or, den_not, den_ite, den_tup, den_lst, den_sub, den_rev, den_callv, exS_raise, exS_tryR, den_sl, den_call, den_blt, den_meth, denL_nil, denL_cons, WS_seq, WS_toS, WS_nx, WS_rt, WS_asB, WS_ite, WP_bind, WP_ok, WP_asB, WP_ite, bindP, setAll, List.set_cons_zero, List.set_cons_succ, List.getElem?_cons_zero, List.getElem?_cons_succ, decide_true, decide_false, if_true, if_false, Bool.false_eq_true, Bool.not_true, Bool.not_false, isNop, partR, o_add, o_sub, o_lt, o_le, o_gt, o_ge, o_eqi, o_nei, o_eqs, o_nes, o_in, o_notin, o_lent, o_lenl, o_lenc, o_abs, o_min, o_max, o_tupl, o_tupt, o_sll, fin_f, Pat.slots, Fk.wipe, WP_noErr, sb]
      simp [WP_ok, e]
    · rw [List.nil_append, fm_some]
      (try simp -implicitDefEqProofs only [exB_cons, exB_nil, exS_expr, exS_set, exS_setSub, exS_fz, exS_ife, exS_ret, exS_pass, den_nop, den_c, den_v, den_bin, den_neg, den_cmp, den_chain, den_and, den_or, den_not, den_ite, den_tup, den_lst, den_sub, den_rev, den_callv, exS_raise, exS_tryR, den_sl, den_call, den_blt, den_meth, denL_nil, denL_cons, WS_seq, WS_toS, WS_nx, WS_rt, WS_asB, WS_ite, WP_bind, WP_ok, WP_asB, WP_ite, bindP, setAll, List.set_cons_zero, List.set_cons_succ, List.getElem?_cons_zero, List.getElem?_cons_succ, decide_true, decide_false, if_true, if_false, Bool.false_eq_true, Bool.not_true, Bool.not_false, isNop, partR, o_add, o_sub, o_lt, o_le, o_gt, o_ge, o_eqi, o_nei, o_eqs, o_nes, o_in, o_notin, o_lent, o_lenl, o_lenc, o_abs, o_min, o_max, o_tupl, o_tupt, o_sll, fin_f])
      have g : th 7 (.tup ((ks.mergeSort leD).map fun d => .tup [d, (dGet ks vs d).getD .none])) = true := by
        refine th_of_tup (by rw [List.length_map, List.length_mergeSort]; omega) fun x hx => ?_
        obtain ⟨d, hd, rfl⟩ := List.mem_map.mp hx
        obtain ⟨v, hv', e⟩ := get_some (idk_beq (hk d (mm d hd))) l1 (mm d hd)
        refine th_of_tup (by simp) fun y hy => ?_
        simp only [List.mem_cons, List.not_mem_nil, or_false] at hy
        rcases hy with rfl | rfl
        · exact idk_th (by omega) (hk _ (mm _ hd))
        · rw [e]; exact hv v hv'
      rw [th_top _ g]
      have e : (t ++ [O.gone]).take (max s.length 0) = t := by rw [Nat.max_zero, ← tl]; simp
      rw [e]
      exact h _ _ g (d2.mono (by omega))
end Lw_k37

set_option Elab.async false
set_option linter.all false
set_option autoImplicit false
set_option maxRecDepth 100000
set_option maxHeartbeats 4000000
namespace Lw_k37
open Fk
theorem d_part (n : Nat) {r c k : Nat} {s : St} {Q : D → St → Prop} (hk : letter k) (hp : Pot s r c) (hc : c ≤ 80000) (h : ∀ d s', th 7 d = true → Drew s r c 240 s' → Q d s') : WP (callF PP (n + 5) 32 [.ref r, .str [k]] s) Q := by
  rw [callF_eq (fn := fn32) rfl rfl, WP_back]
  show WS (exB _ fn32.body [some (.ref r), some (.str [k]), none] s) _ _
  have p9 : ∀ s : St, binD .pow false (.int 10) (.int 9) s = .ok (.int 1000000000) s := fun s => cP9
  have fin : ∀ (d : D) (s2 : St), th 7 d = true → Drew s r c 240 s2 → Q d (s2.take (max s.length d.top)) := fun d s2 h1 h2 => by
    rw [th_top d h1, h2.take]
    exact h d s2 h1 h2
  rw [fn32, exB_cons]
  have last : ∀ top : Int, 0 ≤ top → top ≤ 1000000000 → WS (exB (callF PP (n + 4)) [.ret (.sub (.lst false [.c (.int 0), .v 2, .call 16 [.v 0, .bin .add false (.v 2) (.c (.int 1))]]) (.call 16 [.v 0, .c (.int 3)]))] [some (.ref r), some (.str [k]), some (.int top)] s) (fun _ s' => Q .none (s'.take s.length)) (fun d s' => Q d (s'.take (max s.length d.top))) := fun top t0 t1 => by
    rw [exB_cons]
    simp -implicitDefEqProofs only [exB_nil, exS_expr, exS_set, exS_setSub, exS_fz, exS_ife, exS_ret, exS_pass, den_nop, den_c, den_v, den_bin, den_neg, den_cmp, den_chain, den_and, den_or, den_not, den_ite, den_tup, den_lst, den_sub, den_rev, den_callv, exS_raise, exS_tryR, den_sl, den_call, den_blt, den_meth, denL_nil, denL_cons, WS_seq, WS_toS, WS_nx, WS_rt, WS_asB, WS_ite, WP_bind, WP_ok, WP_asB, WP_ite, bindP, setAll, List.set_cons_zero, List.set_cons_succ, List.getElem?_cons_zero, List.getElem?_cons_succ, decide_true, decide_false, if_true, if_false, Bool.false_eq_true, Bool.not_true, Bool.not_false, isNop, partR, o_add, o_sub, o_lt, o_le, o_gt, o_ge, o_eqi, o_nei, o_eqs, o_nes, o_in, o_notin, o_lent, o_lenl, o_lenc, o_abs, o_min, o_max, o_tupl, o_tupt, o_sll, fin_f]
    refine take_ (n + 3) hp (by omega) (by omega) (by
      have := ilog2_le (i := top + 1) (k := 100) (by omega) (Int.lt_of_le_of_lt (b := 1000000001) (by omega) (by decide +kernel)); omega) fun x s1 x0 x1 d1 => ?_
    (try simp -implicitDefEqProofs only [exB_cons, exB_nil, exS_expr, exS_set, exS_setSub, exS_fz, exS_ife, exS_ret, exS_pass, den_nop, den_c, den_v, den_bin, den_neg, den_cmp, den_chain, den_and, den_or, den_not, den_ite, den_tup, den_lst, den_sub, den_rev, den_callv, exS_raise, exS_tryR, den_sl, den_call, den_blt, den_meth, denL_nil, denL_cons, WS_seq, WS_toS, WS_nx, WS_rt, WS_asB, WS_ite, WP_bind, WP_ok, WP_asB, WP_ite, bindP, setAll, List.set_cons_zero, List.set_cons_succ, List.getElem?_cons_zero, List.getElem?_cons_succ, decide_true, decide_false, if_true, if_false, Bool.false_eq_true, Bool.not_true, Bool.not_false, isNop, partR, o_add, o_sub, o_lt, o_le, o_gt, o_ge, o_eqi, o_nei, o_eqs, o_nes, o_in, o_notin, o_lent, o_lenl, o_lenc, o_abs, o_min, o_max, o_tupl, o_tupt, o_sll, fin_f])
    refine take_ (n + 3) d1.pot (by omega) (by decide) (by decide +kernel) fun u s2 u0 u1 d2 => ?_
    refine wp_at u0 (by simp; omega) fun dm hm => ?_
    (try simp -implicitDefEqProofs only [exB_cons, exB_nil, exS_expr, exS_set, exS_setSub, exS_fz, exS_ife, exS_ret, exS_pass, den_nop, den_c, den_v, den_bin, den_neg, den_cmp, den_chain, den_and, den_or, den_not, den_ite, den_tup, den_lst, den_sub, den_rev, den_callv, exS_raise, exS_tryR, den_sl, den_call, den_blt, den_meth, denL_nil, denL_cons, WS_seq, WS_toS, WS_nx, WS_rt, WS_asB, WS_ite, WP_bind, WP_ok, WP_asB, WP_ite, bindP, setAll, List.set_cons_zero, List.set_cons_succ, List.getElem?_cons_zero, List.getElem?_cons_succ, decide_true, decide_false, if_true, if_false, Bool.false_eq_true, Bool.not_true, Bool.not_false, isNop, partR, o_add, o_sub, o_lt, o_le, o_gt, o_ge, o_eqi, o_nei, o_eqs, o_nes, o_in, o_notin, o_lent, o_lenl, o_lenc, o_abs, o_min, o_max, o_tupl, o_tupt, o_sll, fin_f])
    refine fin _ _ ?_ (d1.to d2 (by omega))
    simp only [List.mem_cons, List.not_mem_nil, or_false] at hm
    rcases hm with rfl | rfl | rfl <;> rfl
  rcases hk with rfl | rfl | rfl | rfl | rfl | rfl | rfl | rfl
  · simp -implicitDefEqProofs only [exB_nil, exS_expr, exS_set, exS_setSub, exS_fz, exS_ife, exS_ret, exS_pass, den_nop, den_c, den_v, den_bin, den_neg, den_cmp, den_chain, den_and, den_or, den_not, den_ite, den_tup, den_lst, den_sub, den_rev, den_callv, exS_raise, exS_tryR, den_sl, den_call, den_blt, den_meth, denL_nil, denL_cons, WS_seq, WS_toS, WS_nx, WS_rt, WS_asB, WS_ite, WP_bind, WP_ok, WP_asB, WP_ite, bindP, setAll, List.set_cons_zero, List.set_cons_succ, List.getElem?_cons_zero, List.getElem?_cons_succ, decide_true, decide_false, if_true, if_false, Bool.false_eq_true, Bool.not_true, Bool.not_false, isNop, partR, o_add, o_sub, o_lt, o_le, o_gt, o_ge, o_eqi, o_nei, o_eqs, o_nes, o_in, o_notin, o_lent, o_lenl, o_lenc, o_abs, o_min, o_max, o_tupl, o_tupt, o_sll, fin_f, sg]
    rw [exB_cons]
    simp -implicitDefEqProofs only [exB_nil, exS_expr, exS_set, exS_setSub, exS_fz, exS_ife, exS_ret, exS_pass, den_nop, den_c, den_v, den_bin, den_neg, den_cmp, den_chain, den_and, den_or, den_not, den_ite, den_tup, den_lst, den_sub, den_rev, den_callv, exS_raise, exS_tryR, den_sl, den_call, den_blt, den_meth, denL_nil, denL_cons, WS_seq, WS_toS, WS_nx, WS_rt, WS_asB, WS_ite, WP_bind, WP_ok, WP_asB, WP_ite, bindP, setAll, List.set_cons_zero, List.set_cons_succ, List.getElem?_cons_zero, List.getElem?_cons_succ, decide_true, decide_false, if_true, if_false, Bool.false_eq_true, Bool.not_true, Bool.not_false, isNop, partR, o_add, o_sub, o_lt, o_le, o_gt, o_ge, o_eqi, o_nei, o_eqs, o_nes, o_in, o_notin, o_lent, o_lenl, o_lenc, o_abs, o_min, o_max, o_tupl, o_tupt, o_sll, fin_f]
    refine d_word (n + 2) hp (by omega) fun z s1 hz d1 => ?_
    (try simp -implicitDefEqProofs only [exB_cons, exB_nil, exS_expr, exS_set, exS_setSub, exS_fz, exS_ife, exS_ret, exS_pass, den_nop, den_c, den_v, den_bin, den_neg, den_cmp, den_chain, den_and, den_or, den_not, den_ite, den_tup, den_lst, den_sub, den_rev, den_callv, exS_raise, exS_tryR, den_sl, den_call, den_blt, den_meth, denL_nil, denL_cons, WS_seq, WS_toS, WS_nx, WS_rt, WS_asB, WS_ite, WP_bind, WP_ok, WP_asB, WP_ite, bindP, setAll, List.set_cons_zero, List.set_cons_succ, List.getElem?_cons_zero, List.getElem?_cons_succ, decide_true, decide_false, if_true, if_false, Bool.false_eq_true, Bool.not_true, Bool.not_false, isNop, partR, o_add, o_sub, o_lt, o_le, o_gt, o_ge, o_eqi, o_nei, o_eqs, o_nes, o_in, o_notin, o_lent, o_lenl, o_lenc, o_abs, o_min, o_max, o_tupl, o_tupt, o_sll, fin_f])
    exact fin _ _ (th_str hz) (d1.mono (by omega))
  · simp -implicitDefEqProofs only [exB_nil, exS_expr, exS_set, exS_setSub, exS_fz, exS_ife, exS_ret, exS_pass, den_nop, den_c, den_v, den_bin, den_neg, den_cmp, den_chain, den_and, den_or, den_not, den_ite, den_tup, den_lst, den_sub, den_rev, den_callv, exS_raise, exS_tryR, den_sl, den_call, den_blt, den_meth, denL_nil, denL_cons, WS_seq, WS_toS, WS_nx, WS_rt, WS_asB, WS_ite, WP_bind, WP_ok, WP_asB, WP_ite, bindP, setAll, List.set_cons_zero, List.set_cons_succ, List.getElem?_cons_zero, List.getElem?_cons_succ, decide_true, decide_false, if_true, if_false, Bool.false_eq_true, Bool.not_true, Bool.not_false, isNop, partR, o_add, o_sub, o_lt, o_le, o_gt, o_ge, o_eqi, o_nei, o_eqs, o_nes, o_in, o_notin, o_lent, o_lenl, o_lenc, o_abs, o_min, o_max, o_tupl, o_tupt, o_sll, fin_f, sg, show (105 = 110) = False from by simp, exB_nil]
    rw [exB_cons]
    simp -implicitDefEqProofs only [exB_nil, exS_expr, exS_set, exS_setSub, exS_fz, exS_ife, exS_ret, exS_pass, den_nop, den_c, den_v, den_bin, den_neg, den_cmp, den_chain, den_and, den_or, den_not, den_ite, den_tup, den_lst, den_sub, den_rev, den_callv, exS_raise, exS_tryR, den_sl, den_call, den_blt, den_meth, denL_nil, denL_cons, WS_seq, WS_toS, WS_nx, WS_rt, WS_asB, WS_ite, WP_bind, WP_ok, WP_asB, WP_ite, bindP, setAll, List.set_cons_zero, List.set_cons_succ, List.getElem?_cons_zero, List.getElem?_cons_succ, decide_true, decide_false, if_true, if_false, Bool.false_eq_true, Bool.not_true, Bool.not_false, isNop, partR, o_add, o_sub, o_lt, o_le, o_gt, o_ge, o_eqi, o_nei, o_eqs, o_nes, o_in, o_notin, o_lent, o_lenl, o_lenc, o_abs, o_min, o_max, o_tupl, o_tupt, o_sll, fin_f, sg]
    rw [exB_cons]
    simp -implicitDefEqProofs only [exB_nil, exS_expr, exS_set, exS_setSub, exS_fz, exS_ife, exS_ret, exS_pass, den_nop, den_c, den_v, den_bin, den_neg, den_cmp, den_chain, den_and, den_or, den_not, den_ite, den_tup, den_lst, den_sub, den_rev, den_callv, exS_raise, exS_tryR, den_sl, den_call, den_blt, den_meth, denL_nil, denL_cons, WS_seq, WS_toS, WS_nx, WS_rt, WS_asB, WS_ite, WP_bind, WP_ok, WP_asB, WP_ite, bindP, setAll, List.set_cons_zero, List.set_cons_succ, List.getElem?_cons_zero, List.getElem?_cons_succ, decide_true, decide_false, if_true, if_false, Bool.false_eq_true, Bool.not_true, Bool.not_false, isNop, partR, o_add, o_sub, o_lt, o_le, o_gt, o_ge, o_eqi, o_nei, o_eqs, o_nes, o_in, o_notin, o_lent, o_lenl, o_lenc, o_abs, o_min, o_max, o_tupl, o_tupt, o_sll, fin_f]
    refine d_id (n + 1) hp (by omega) fun z s1 hz d1 => ?_
    (try simp -implicitDefEqProofs only [exB_cons, exB_nil, exS_expr, exS_set, exS_setSub, exS_fz, exS_ife, exS_ret, exS_pass, den_nop, den_c, den_v, den_bin, den_neg, den_cmp, den_chain, den_and, den_or, den_not, den_ite, den_tup, den_lst, den_sub, den_rev, den_callv, exS_raise, exS_tryR, den_sl, den_call, den_blt, den_meth, denL_nil, denL_cons, WS_seq, WS_toS, WS_nx, WS_rt, WS_asB, WS_ite, WP_bind, WP_ok, WP_asB, WP_ite, bindP, setAll, List.set_cons_zero, List.set_cons_succ, List.getElem?_cons_zero, List.getElem?_cons_succ, decide_true, decide_false, if_true, if_false, Bool.false_eq_true, Bool.not_true, Bool.not_false, isNop, partR, o_add, o_sub, o_lt, o_le, o_gt, o_ge, o_eqi, o_nei, o_eqs, o_nes, o_in, o_notin, o_lent, o_lenl, o_lenc, o_abs, o_min, o_max, o_tupl, o_tupt, o_sll, fin_f])
    exact fin _ _ (idk_th (by omega) hz) (d1.mono (by omega))
  · simp -implicitDefEqProofs only [exB_nil, exS_expr, exS_set, exS_setSub, exS_fz, exS_ife, exS_ret, exS_pass, den_nop, den_c, den_v, den_bin, den_neg, den_cmp, den_chain, den_and, den_or, den_not, den_ite, den_tup, den_lst, den_sub, den_rev, den_callv, exS_raise, exS_tryR, den_sl, den_call, den_blt, den_meth, denL_nil, denL_cons, WS_seq, WS_toS, WS_nx, WS_rt, WS_asB, WS_ite, WP_bind, WP_ok, WP_asB, WP_ite, bindP, setAll, List.set_cons_zero, List.set_cons_succ, List.getElem?_cons_zero, List.getElem?_cons_succ, decide_true, decide_false, if_true, if_false, Bool.false_eq_true, Bool.not_true, Bool.not_false, isNop, partR, o_add, o_sub, o_lt, o_le, o_gt, o_ge, o_eqi, o_nei, o_eqs, o_nes, o_in, o_notin, o_lent, o_lenl, o_lenc, o_abs, o_min, o_max, o_tupl, o_tupt, o_sll, fin_f, sg, show (116 = 110) = False from by simp, exB_nil]
    rw [exB_cons]
    simp -implicitDefEqProofs only [exB_nil, exS_expr, exS_set, exS_setSub, exS_fz, exS_ife, exS_ret, exS_pass, den_nop, den_c, den_v, den_bin, den_neg, den_cmp, den_chain, den_and, den_or, den_not, den_ite, den_tup, den_lst, den_sub, den_rev, den_callv, exS_raise, exS_tryR, den_sl, den_call, den_blt, den_meth, denL_nil, denL_cons, WS_seq, WS_toS, WS_nx, WS_rt, WS_asB, WS_ite, WP_bind, WP_ok, WP_asB, WP_ite, bindP, setAll, List.set_cons_zero, List.set_cons_succ, List.getElem?_cons_zero, List.getElem?_cons_succ, decide_true, decide_false, if_true, if_false, Bool.false_eq_true, Bool.not_true, Bool.not_false, isNop, partR, o_add, o_sub, o_lt, o_le, o_gt, o_ge, o_eqi, o_nei, o_eqs, o_nes, o_in, o_notin, o_lent, o_lenl, o_lenc, o_abs, o_min, o_max, o_tupl, o_tupt, o_sll, fin_f, sg, show (116 = 105) = False from by simp, exB_nil]
    rw [exB_cons]
    simp -implicitDefEqProofs only [exB_nil, exS_expr, exS_set, exS_setSub, exS_fz, exS_ife, exS_ret, exS_pass, den_nop, den_c, den_v, den_bin, den_neg, den_cmp, den_chain, den_and, den_or, den_not, den_ite, den_tup, den_lst, den_sub, den_rev, den_callv, exS_raise, exS_tryR, den_sl, den_call, den_blt, den_meth, denL_nil, denL_cons, WS_seq, WS_toS, WS_nx, WS_rt, WS_asB, WS_ite, WP_bind, WP_ok, WP_asB, WP_ite, bindP, setAll, List.set_cons_zero, List.set_cons_succ, List.getElem?_cons_zero, List.getElem?_cons_succ, decide_true, decide_false, if_true, if_false, Bool.false_eq_true, Bool.not_true, Bool.not_false, isNop, partR, o_add, o_sub, o_lt, o_le, o_gt, o_ge, o_eqi, o_nei, o_eqs, o_nes, o_in, o_notin, o_lent, o_lenl, o_lenc, o_abs, o_min, o_max, o_tupl, o_tupt, o_sll, fin_f, sg]
    rw [exB_cons]
    simp -implicitDefEqProofs only [exB_nil, exS_expr, exS_set, exS_setSub, exS_fz, exS_ife, exS_ret, exS_pass, den_nop, den_c, den_v, den_bin, den_neg, den_cmp, den_chain, den_and, den_or, den_not, den_ite, den_tup, den_lst, den_sub, den_rev, den_callv, exS_raise, exS_tryR, den_sl, den_call, den_blt, den_meth, denL_nil, denL_cons, WS_seq, WS_toS, WS_nx, WS_rt, WS_asB, WS_ite, WP_bind, WP_ok, WP_asB, WP_ite, bindP, setAll, List.set_cons_zero, List.set_cons_succ, List.getElem?_cons_zero, List.getElem?_cons_succ, decide_true, decide_false, if_true, if_false, Bool.false_eq_true, Bool.not_true, Bool.not_false, isNop, partR, o_add, o_sub, o_lt, o_le, o_gt, o_ge, o_eqi, o_nei, o_eqs, o_nes, o_in, o_notin, o_lent, o_lenl, o_lenc, o_abs, o_min, o_max, o_tupl, o_tupt, o_sll, fin_f]
    refine take_ (n + 3) hp (by omega) (by decide) (by decide +kernel) fun u s2 u0 u1 d2 => ?_
    refine wp_at u0 (by simp; omega) fun dm hm => ?_
    (try simp -implicitDefEqProofs only [exB_cons, exB_nil, exS_expr, exS_set, exS_setSub, exS_fz, exS_ife, exS_ret, exS_pass, den_nop, den_c, den_v, den_bin, den_neg, den_cmp, den_chain, den_and, den_or, den_not, den_ite, den_tup, den_lst, den_sub, den_rev, den_callv, exS_raise, exS_tryR, den_sl, den_call, den_blt, den_meth, denL_nil, denL_cons, WS_seq, WS_toS, WS_nx, WS_rt, WS_asB, WS_ite, WP_bind, WP_ok, WP_asB, WP_ite, bindP, setAll, List.set_cons_zero, List.set_cons_succ, List.getElem?_cons_zero, List.getElem?_cons_succ, decide_true, decide_false, if_true, if_false, Bool.false_eq_true, Bool.not_true, Bool.not_false, isNop, partR, o_add, o_sub, o_lt, o_le, o_gt, o_ge, o_eqi, o_nei, o_eqs, o_nes, o_in, o_notin, o_lent, o_lenl, o_lenc, o_abs, o_min, o_max, o_tupl, o_tupt, o_sll, fin_f])
    refine fin _ _ ?_ (d2.mono (by omega))
    simp only [List.mem_cons, List.not_mem_nil, or_false] at hm
    rcases hm with rfl | rfl | rfl <;> exact th_str (by decide)
  · simp -implicitDefEqProofs only [exB_nil, exS_expr, exS_set, exS_setSub, exS_fz, exS_ife, exS_ret, exS_pass, den_nop, den_c, den_v, den_bin, den_neg, den_cmp, den_chain, den_and, den_or, den_not, den_ite, den_tup, den_lst, den_sub, den_rev, den_callv, exS_raise, exS_tryR, den_sl, den_call, den_blt, den_meth, denL_nil, denL_cons, WS_seq, WS_toS, WS_nx, WS_rt, WS_asB, WS_ite, WP_bind, WP_ok, WP_asB, WP_ite, bindP, setAll, List.set_cons_zero, List.set_cons_succ, List.getElem?_cons_zero, List.getElem?_cons_succ, decide_true, decide_false, if_true, if_false, Bool.false_eq_true, Bool.not_true, Bool.not_false, isNop, partR, o_add, o_sub, o_lt, o_le, o_gt, o_ge, o_eqi, o_nei, o_eqs, o_nes, o_in, o_notin, o_lent, o_lenl, o_lenc, o_abs, o_min, o_max, o_tupl, o_tupt, o_sll, fin_f, sg, show (118 = 110) = False from by simp, exB_nil]
    rw [exB_cons]
    simp -implicitDefEqProofs only [exB_nil, exS_expr, exS_set, exS_setSub, exS_fz, exS_ife, exS_ret, exS_pass, den_nop, den_c, den_v, den_bin, den_neg, den_cmp, den_chain, den_and, den_or, den_not, den_ite, den_tup, den_lst, den_sub, den_rev, den_callv, exS_raise, exS_tryR, den_sl, den_call, den_blt, den_meth, denL_nil, denL_cons, WS_seq, WS_toS, WS_nx, WS_rt, WS_asB, WS_ite, WP_bind, WP_ok, WP_asB, WP_ite, bindP, setAll, List.set_cons_zero, List.set_cons_succ, List.getElem?_cons_zero, List.getElem?_cons_succ, decide_true, decide_false, if_true, if_false, Bool.false_eq_true, Bool.not_true, Bool.not_false, isNop, partR, o_add, o_sub, o_lt, o_le, o_gt, o_ge, o_eqi, o_nei, o_eqs, o_nes, o_in, o_notin, o_lent, o_lenl, o_lenc, o_abs, o_min, o_max, o_tupl, o_tupt, o_sll, fin_f, sg, show (118 = 105) = False from by simp, exB_nil]
    rw [exB_cons]
    simp -implicitDefEqProofs only [exB_nil, exS_expr, exS_set, exS_setSub, exS_fz, exS_ife, exS_ret, exS_pass, den_nop, den_c, den_v, den_bin, den_neg, den_cmp, den_chain, den_and, den_or, den_not, den_ite, den_tup, den_lst, den_sub, den_rev, den_callv, exS_raise, exS_tryR, den_sl, den_call, den_blt, den_meth, denL_nil, denL_cons, WS_seq, WS_toS, WS_nx, WS_rt, WS_asB, WS_ite, WP_bind, WP_ok, WP_asB, WP_ite, bindP, setAll, List.set_cons_zero, List.set_cons_succ, List.getElem?_cons_zero, List.getElem?_cons_succ, decide_true, decide_false, if_true, if_false, Bool.false_eq_true, Bool.not_true, Bool.not_false, isNop, partR, o_add, o_sub, o_lt, o_le, o_gt, o_ge, o_eqi, o_nei, o_eqs, o_nes, o_in, o_notin, o_lent, o_lenl, o_lenc, o_abs, o_min, o_max, o_tupl, o_tupt, o_sll, fin_f, sg, show (118 = 116) = False from by simp, exB_nil]
    rw [exB_cons]
    simp -implicitDefEqProofs only [exB_nil, exS_expr, exS_set, exS_setSub, exS_fz, exS_ife, exS_ret, exS_pass, den_nop, den_c, den_v, den_bin, den_neg, den_cmp, den_chain, den_and, den_or, den_not, den_ite, den_tup, den_lst, den_sub, den_rev, den_callv, exS_raise, exS_tryR, den_sl, den_call, den_blt, den_meth, denL_nil, denL_cons, WS_seq, WS_toS, WS_nx, WS_rt, WS_asB, WS_ite, WP_bind, WP_ok, WP_asB, WP_ite, bindP, setAll, List.set_cons_zero, List.set_cons_succ, List.getElem?_cons_zero, List.getElem?_cons_succ, decide_true, decide_false, if_true, if_false, Bool.false_eq_true, Bool.not_true, Bool.not_false, isNop, partR, o_add, o_sub, o_lt, o_le, o_gt, o_ge, o_eqi, o_nei, o_eqs, o_nes, o_in, o_notin, o_lent, o_lenl, o_lenc, o_abs, o_min, o_max, o_tupl, o_tupt, o_sll, fin_f, sg]
    rw [exB_cons]
    simp -implicitDefEqProofs only [exB_nil, exS_expr, exS_set, exS_setSub, exS_fz, exS_ife, exS_ret, exS_pass, den_nop, den_c, den_v, den_bin, den_neg, den_cmp, den_chain, den_and, den_or, den_not, den_ite, den_tup, den_lst, den_sub, den_rev, den_callv, exS_raise, exS_tryR, den_sl, den_call, den_blt, den_meth, denL_nil, denL_cons, WS_seq, WS_toS, WS_nx, WS_rt, WS_asB, WS_ite, WP_bind, WP_ok, WP_asB, WP_ite, bindP, setAll, List.set_cons_zero, List.set_cons_succ, List.getElem?_cons_zero, List.getElem?_cons_succ, decide_true, decide_false, if_true, if_false, Bool.false_eq_true, Bool.not_true, Bool.not_false, isNop, partR, o_add, o_sub, o_lt, o_le, o_gt, o_ge, o_eqi, o_nei, o_eqs, o_nes, o_in, o_notin, o_lent, o_lenl, o_lenc, o_abs, o_min, o_max, o_tupl, o_tupt, o_sll, fin_f, p9]
    refine d_value (n + 1) hp (by omega) fun v s1 hv d1 => ?_
    (try simp -implicitDefEqProofs only [exB_cons, exB_nil, exS_expr, exS_set, exS_setSub, exS_fz, exS_ife, exS_ret, exS_pass, den_nop, den_c, den_v, den_bin, den_neg, den_cmp, den_chain, den_and, den_or, den_not, den_ite, den_tup, den_lst, den_sub, den_rev, den_callv, exS_raise, exS_tryR, den_sl, den_call, den_blt, den_meth, denL_nil, denL_cons, WS_seq, WS_toS, WS_nx, WS_rt, WS_asB, WS_ite, WP_bind, WP_ok, WP_asB, WP_ite, bindP, setAll, List.set_cons_zero, List.set_cons_succ, List.getElem?_cons_zero, List.getElem?_cons_succ, decide_true, decide_false, if_true, if_false, Bool.false_eq_true, Bool.not_true, Bool.not_false, isNop, partR, o_add, o_sub, o_lt, o_le, o_gt, o_ge, o_eqi, o_nei, o_eqs, o_nes, o_in, o_notin, o_lent, o_lenl, o_lenc, o_abs, o_min, o_max, o_tupl, o_tupt, o_sll, fin_f, p9])
    refine take_ (n + 3) d1.pot (by omega) (by decide) (by decide +kernel) fun u s2 u0 u1 d2 => ?_
    refine wp_at u0 (by simp; omega) fun dm hm => ?_
    (try simp -implicitDefEqProofs only [exB_cons, exB_nil, exS_expr, exS_set, exS_setSub, exS_fz, exS_ife, exS_ret, exS_pass, den_nop, den_c, den_v, den_bin, den_neg, den_cmp, den_chain, den_and, den_or, den_not, den_ite, den_tup, den_lst, den_sub, den_rev, den_callv, exS_raise, exS_tryR, den_sl, den_call, den_blt, den_meth, denL_nil, denL_cons, WS_seq, WS_toS, WS_nx, WS_rt, WS_asB, WS_ite, WP_bind, WP_ok, WP_asB, WP_ite, bindP, setAll, List.set_cons_zero, List.set_cons_succ, List.getElem?_cons_zero, List.getElem?_cons_succ, decide_true, decide_false, if_true, if_false, Bool.false_eq_true, Bool.not_true, Bool.not_false, isNop, partR, o_add, o_sub, o_lt, o_le, o_gt, o_ge, o_eqi, o_nei, o_eqs, o_nes, o_in, o_notin, o_lent, o_lenl, o_lenc, o_abs, o_min, o_max, o_tupl, o_tupt, o_sll, fin_f])
    refine fin _ _ ?_ (d1.to d2 (by omega))
    simp only [List.mem_cons, List.not_mem_nil, or_false] at hm
    rcases hm with rfl | rfl | rfl | rfl | rfl
    · rfl
    · exact th_str (by decide)
    · rfl
    · rfl
    · exact hv
  · simp -implicitDefEqProofs only [exB_nil, exS_expr, exS_set, exS_setSub, exS_fz, exS_ife, exS_ret, exS_pass, den_nop, den_c, den_v, den_bin, den_neg, den_cmp, den_chain, den_and, den_or, den_not, den_ite, den_tup, den_lst, den_sub, den_rev, den_callv, exS_raise, exS_tryR, den_sl, den_call, den_blt, den_meth, denL_nil, denL_cons, WS_seq, WS_toS, WS_nx, WS_rt, WS_asB, WS_ite, WP_bind, WP_ok, WP_asB, WP_ite, bindP, setAll, List.set_cons_zero, List.set_cons_succ, List.getElem?_cons_zero, List.getElem?_cons_succ, decide_true, decide_false, if_true, if_false, Bool.false_eq_true, Bool.not_true, Bool.not_false, isNop, partR, o_add, o_sub, o_lt, o_le, o_gt, o_ge, o_eqi, o_nei, o_eqs, o_nes, o_in, o_notin, o_lent, o_lenl, o_lenc, o_abs, o_min, o_max, o_tupl, o_tupt, o_sll, fin_f, sg, show (99 = 110) = False from by simp, exB_nil]
    rw [exB_cons]
    simp -implicitDefEqProofs only [exB_nil, exS_expr, exS_set, exS_setSub, exS_fz, exS_ife, exS_ret, exS_pass, den_nop, den_c, den_v, den_bin, den_neg, den_cmp, den_chain, den_and, den_or, den_not, den_ite, den_tup, den_lst, den_sub, den_rev, den_callv, exS_raise, exS_tryR, den_sl, den_call, den_blt, den_meth, denL_nil, denL_cons, WS_seq, WS_toS, WS_nx, WS_rt, WS_asB, WS_ite, WP_bind, WP_ok, WP_asB, WP_ite, bindP, setAll, List.set_cons_zero, List.set_cons_succ, List.getElem?_cons_zero, List.getElem?_cons_succ, decide_true, decide_false, if_true, if_false, Bool.false_eq_true, Bool.not_true, Bool.not_false, isNop, partR, o_add, o_sub, o_lt, o_le, o_gt, o_ge, o_eqi, o_nei, o_eqs, o_nes, o_in, o_notin, o_lent, o_lenl, o_lenc, o_abs, o_min, o_max, o_tupl, o_tupt, o_sll, fin_f, sg, show (99 = 105) = False from by simp, exB_nil]
    rw [exB_cons]
    simp -implicitDefEqProofs only [exB_nil, exS_expr, exS_set, exS_setSub, exS_fz, exS_ife, exS_ret, exS_pass, den_nop, den_c, den_v, den_bin, den_neg, den_cmp, den_chain, den_and, den_or, den_not, den_ite, den_tup, den_lst, den_sub, den_rev, den_callv, exS_raise, exS_tryR, den_sl, den_call, den_blt, den_meth, denL_nil, denL_cons, WS_seq, WS_toS, WS_nx, WS_rt, WS_asB, WS_ite, WP_bind, WP_ok, WP_asB, WP_ite, bindP, setAll, List.set_cons_zero, List.set_cons_succ, List.getElem?_cons_zero, List.getElem?_cons_succ, decide_true, decide_false, if_true, if_false, Bool.false_eq_true, Bool.not_true, Bool.not_false, isNop, partR, o_add, o_sub, o_lt, o_le, o_gt, o_ge, o_eqi, o_nei, o_eqs, o_nes, o_in, o_notin, o_lent, o_lenl, o_lenc, o_abs, o_min, o_max, o_tupl, o_tupt, o_sll, fin_f, sg, show (99 = 116) = False from by simp, exB_nil]
    rw [exB_cons]
    simp -implicitDefEqProofs only [exB_nil, exS_expr, exS_set, exS_setSub, exS_fz, exS_ife, exS_ret, exS_pass, den_nop, den_c, den_v, den_bin, den_neg, den_cmp, den_chain, den_and, den_or, den_not, den_ite, den_tup, den_lst, den_sub, den_rev, den_callv, exS_raise, exS_tryR, den_sl, den_call, den_blt, den_meth, denL_nil, denL_cons, WS_seq, WS_toS, WS_nx, WS_rt, WS_asB, WS_ite, WP_bind, WP_ok, WP_asB, WP_ite, bindP, setAll, List.set_cons_zero, List.set_cons_succ, List.getElem?_cons_zero, List.getElem?_cons_succ, decide_true, decide_false, if_true, if_false, Bool.false_eq_true, Bool.not_true, Bool.not_false, isNop, partR, o_add, o_sub, o_lt, o_le, o_gt, o_ge, o_eqi, o_nei, o_eqs, o_nes, o_in, o_notin, o_lent, o_lenl, o_lenc, o_abs, o_min, o_max, o_tupl, o_tupt, o_sll, fin_f, sg, show (99 = 118) = False from by simp, exB_nil]
    rw [exB_cons]
    simp -implicitDefEqProofs only [exB_nil, exS_expr, exS_set, exS_setSub, exS_fz, exS_ife, exS_ret, exS_pass, den_nop, den_c, den_v, den_bin, den_neg, den_cmp, den_chain, den_and, den_or, den_not, den_ite, den_tup, den_lst, den_sub, den_rev, den_callv, exS_raise, exS_tryR, den_sl, den_call, den_blt, den_meth, denL_nil, denL_cons, WS_seq, WS_toS, WS_nx, WS_rt, WS_asB, WS_ite, WP_bind, WP_ok, WP_asB, WP_ite, bindP, setAll, List.set_cons_zero, List.set_cons_succ, List.getElem?_cons_zero, List.getElem?_cons_succ, decide_true, decide_false, if_true, if_false, Bool.false_eq_true, Bool.not_true, Bool.not_false, isNop, partR, o_add, o_sub, o_lt, o_le, o_gt, o_ge, o_eqi, o_nei, o_eqs, o_nes, o_in, o_notin, o_lent, o_lenl, o_lenc, o_abs, o_min, o_max, o_tupl, o_tupt, o_sll, fin_f, sg]
    rw [exB_cons]
    simp -implicitDefEqProofs only [exB_nil, exS_expr, exS_set, exS_setSub, exS_fz, exS_ife, exS_ret, exS_pass, den_nop, den_c, den_v, den_bin, den_neg, den_cmp, den_chain, den_and, den_or, den_not, den_ite, den_tup, den_lst, den_sub, den_rev, den_callv, exS_raise, exS_tryR, den_sl, den_call, den_blt, den_meth, denL_nil, denL_cons, WS_seq, WS_toS, WS_nx, WS_rt, WS_asB, WS_ite, WP_bind, WP_ok, WP_asB, WP_ite, bindP, setAll, List.set_cons_zero, List.set_cons_succ, List.getElem?_cons_zero, List.getElem?_cons_succ, decide_true, decide_false, if_true, if_false, Bool.false_eq_true, Bool.not_true, Bool.not_false, isNop, partR, o_add, o_sub, o_lt, o_le, o_gt, o_ge, o_eqi, o_nei, o_eqs, o_nes, o_in, o_notin, o_lent, o_lenl, o_lenc, o_abs, o_min, o_max, o_tupl, o_tupt, o_sll, fin_f]
    refine d_cells n hp (by omega) fun v s1 hv d1 => ?_
    (try simp -implicitDefEqProofs only [exB_cons, exB_nil, exS_expr, exS_set, exS_setSub, exS_fz, exS_ife, exS_ret, exS_pass, den_nop, den_c, den_v, den_bin, den_neg, den_cmp, den_chain, den_and, den_or, den_not, den_ite, den_tup, den_lst, den_sub, den_rev, den_callv, exS_raise, exS_tryR, den_sl, den_call, den_blt, den_meth, denL_nil, denL_cons, WS_seq, WS_toS, WS_nx, WS_rt, WS_asB, WS_ite, WP_bind, WP_ok, WP_asB, WP_ite, bindP, setAll, List.set_cons_zero, List.set_cons_succ, List.getElem?_cons_zero, List.getElem?_cons_succ, decide_true, decide_false, if_true, if_false, Bool.false_eq_true, Bool.not_true, Bool.not_false, isNop, partR, o_add, o_sub, o_lt, o_le, o_gt, o_ge, o_eqi, o_nei, o_eqs, o_nes, o_in, o_notin, o_lent, o_lenl, o_lenc, o_abs, o_min, o_max, o_tupl, o_tupt, o_sll, fin_f])
    exact fin _ _ hv d1
  · simp -implicitDefEqProofs only [exB_nil, exS_expr, exS_set, exS_setSub, exS_fz, exS_ife, exS_ret, exS_pass, den_nop, den_c, den_v, den_bin, den_neg, den_cmp, den_chain, den_and, den_or, den_not, den_ite, den_tup, den_lst, den_sub, den_rev, den_callv, exS_raise, exS_tryR, den_sl, den_call, den_blt, den_meth, denL_nil, denL_cons, WS_seq, WS_toS, WS_nx, WS_rt, WS_asB, WS_ite, WP_bind, WP_ok, WP_asB, WP_ite, bindP, setAll, List.set_cons_zero, List.set_cons_succ, List.getElem?_cons_zero, List.getElem?_cons_succ, decide_true, decide_false, if_true, if_false, Bool.false_eq_true, Bool.not_true, Bool.not_false, isNop, partR, o_add, o_sub, o_lt, o_le, o_gt, o_ge, o_eqi, o_nei, o_eqs, o_nes, o_in, o_notin, o_lent, o_lenl, o_lenc, o_abs, o_min, o_max, o_tupl, o_tupt, o_sll, fin_f, sg, show (107 = 110) = False from by simp, exB_nil]
    rw [exB_cons]
    simp -implicitDefEqProofs only [exB_nil, exS_expr, exS_set, exS_setSub, exS_fz, exS_ife, exS_ret, exS_pass, den_nop, den_c, den_v, den_bin, den_neg, den_cmp, den_chain, den_and, den_or, den_not, den_ite, den_tup, den_lst, den_sub, den_rev, den_callv, exS_raise, exS_tryR, den_sl, den_call, den_blt, den_meth, denL_nil, denL_cons, WS_seq, WS_toS, WS_nx, WS_rt, WS_asB, WS_ite, WP_bind, WP_ok, WP_asB, WP_ite, bindP, setAll, List.set_cons_zero, List.set_cons_succ, List.getElem?_cons_zero, List.getElem?_cons_succ, decide_true, decide_false, if_true, if_false, Bool.false_eq_true, Bool.not_true, Bool.not_false, isNop, partR, o_add, o_sub, o_lt, o_le, o_gt, o_ge, o_eqi, o_nei, o_eqs, o_nes, o_in, o_notin, o_lent, o_lenl, o_lenc, o_abs, o_min, o_max, o_tupl, o_tupt, o_sll, fin_f, sg, show (107 = 105) = False from by simp, exB_nil]
    rw [exB_cons]
    simp -implicitDefEqProofs only [exB_nil, exS_expr, exS_set, exS_setSub, exS_fz, exS_ife, exS_ret, exS_pass, den_nop, den_c, den_v, den_bin, den_neg, den_cmp, den_chain, den_and, den_or, den_not, den_ite, den_tup, den_lst, den_sub, den_rev, den_callv, exS_raise, exS_tryR, den_sl, den_call, den_blt, den_meth, denL_nil, denL_cons, WS_seq, WS_toS, WS_nx, WS_rt, WS_asB, WS_ite, WP_bind, WP_ok, WP_asB, WP_ite, bindP, setAll, List.set_cons_zero, List.set_cons_succ, List.getElem?_cons_zero, List.getElem?_cons_succ, decide_true, decide_false, if_true, if_false, Bool.false_eq_true, Bool.not_true, Bool.not_false, isNop, partR, o_add, o_sub, o_lt, o_le, o_gt, o_ge, o_eqi, o_nei, o_eqs, o_nes, o_in, o_notin, o_lent, o_lenl, o_lenc, o_abs, o_min, o_max, o_tupl, o_tupt, o_sll, fin_f, sg, show (107 = 116) = False from by simp, exB_nil]
    rw [exB_cons]
    simp -implicitDefEqProofs only [exB_nil, exS_expr, exS_set, exS_setSub, exS_fz, exS_ife, exS_ret, exS_pass, den_nop, den_c, den_v, den_bin, den_neg, den_cmp, den_chain, den_and, den_or, den_not, den_ite, den_tup, den_lst, den_sub, den_rev, den_callv, exS_raise, exS_tryR, den_sl, den_call, den_blt, den_meth, denL_nil, denL_cons, WS_seq, WS_toS, WS_nx, WS_rt, WS_asB, WS_ite, WP_bind, WP_ok, WP_asB, WP_ite, bindP, setAll, List.set_cons_zero, List.set_cons_succ, List.getElem?_cons_zero, List.getElem?_cons_succ, decide_true, decide_false, if_true, if_false, Bool.false_eq_true, Bool.not_true, Bool.not_false, isNop, partR, o_add, o_sub, o_lt, o_le, o_gt, o_ge, o_eqi, o_nei, o_eqs, o_nes, o_in, o_notin, o_lent, o_lenl, o_lenc, o_abs, o_min, o_max, o_tupl, o_tupt, o_sll, fin_f, sg, show (107 = 118) = False from by simp, exB_nil]
    rw [exB_cons]
    simp -implicitDefEqProofs only [exB_nil, exS_expr, exS_set, exS_setSub, exS_fz, exS_ife, exS_ret, exS_pass, den_nop, den_c, den_v, den_bin, den_neg, den_cmp, den_chain, den_and, den_or, den_not, den_ite, den_tup, den_lst, den_sub, den_rev, den_callv, exS_raise, exS_tryR, den_sl, den_call, den_blt, den_meth, denL_nil, denL_cons, WS_seq, WS_toS, WS_nx, WS_rt, WS_asB, WS_ite, WP_bind, WP_ok, WP_asB, WP_ite, bindP, setAll, List.set_cons_zero, List.set_cons_succ, List.getElem?_cons_zero, List.getElem?_cons_succ, decide_true, decide_false, if_true, if_false, Bool.false_eq_true, Bool.not_true, Bool.not_false, isNop, partR, o_add, o_sub, o_lt, o_le, o_gt, o_ge, o_eqi, o_nei, o_eqs, o_nes, o_in, o_notin, o_lent, o_lenl, o_lenc, o_abs, o_min, o_max, o_tupl, o_tupt, o_sll, fin_f, sg, show (107 = 99) = False from by simp, exB_nil]
    rw [exB_cons]
    have sb : subD (.dic [.str [107], .str [104], .str [109]] [.int 1000000000, .int 7, .int 1000000]) (.str [107]) s = .ok (.int 1000000000) s := rfl
    simp -implicitDefEqProofs only [exB_nil, exS_expr, exS_set, exS_setSub, exS_fz, exS_ife, exS_ret, exS_pass, den_nop, den_c, den_v, den_bin, den_neg, den_cmp, den_chain, den_and, den_or, den_not, den_ite, den_tup, den_lst, den_sub, den_rev, den_callv, exS_raise, exS_tryR, den_sl, den_call, den_blt, den_meth, denL_nil, denL_cons, WS_seq, WS_toS, WS_nx, WS_rt, WS_asB, WS_ite, WP_bind, WP_ok, WP_asB, WP_ite, bindP, setAll, List.set_cons_zero, List.set_cons_succ, List.getElem?_cons_zero, List.getElem?_cons_succ, decide_true, decide_false, if_true, if_false, Bool.false_eq_true, Bool.not_true, Bool.not_false, isNop, partR, o_add, o_sub, o_lt, o_le, o_gt, o_ge, o_eqi, o_nei, o_eqs, o_nes, o_in, o_notin, o_lent, o_lenl, o_lenc, o_abs, o_min, o_max, o_tupl, o_tupt, o_sll, fin_f, d_khm, sb]
    exact last _ (by decide) (by decide)
  · simp -implicitDefEqProofs only [exB_nil, exS_expr, exS_set, exS_setSub, exS_fz, exS_ife, exS_ret, exS_pass, den_nop, den_c, den_v, den_bin, den_neg, den_cmp, den_chain, den_and, den_or, den_not, den_ite, den_tup, den_lst, den_sub, den_rev, den_callv, exS_raise, exS_tryR, den_sl, den_call, den_blt, den_meth, denL_nil, denL_cons, WS_seq, WS_toS, WS_nx, WS_rt, WS_asB, WS_ite, WP_bind, WP_ok, WP_asB, WP_ite, bindP, setAll, List.set_cons_zero, List.set_cons_succ, List.getElem?_cons_zero, List.getElem?_cons_succ, decide_true, decide_false, if_true, if_false, Bool.false_eq_true, Bool.not_true, Bool.not_false, isNop, partR, o_add, o_sub, o_lt, o_le, o_gt, o_ge, o_eqi, o_nei, o_eqs, o_nes, o_in, o_notin, o_lent, o_lenl, o_lenc, o_abs, o_min, o_max, o_tupl, o_tupt, o_sll, fin_f, sg, show (104 = 110) = False from by simp, exB_nil]
    rw [exB_cons]
    simp -implicitDefEqProofs only [exB_nil, exS_expr, exS_set, exS_setSub, exS_fz, exS_ife, exS_ret, exS_pass, den_nop, den_c, den_v, den_bin, den_neg, den_cmp, den_chain, den_and, den_or, den_not, den_ite, den_tup, den_lst, den_sub, den_rev, den_callv, exS_raise, exS_tryR, den_sl, den_call, den_blt, den_meth, denL_nil, denL_cons, WS_seq, WS_toS, WS_nx, WS_rt, WS_asB, WS_ite, WP_bind, WP_ok, WP_asB, WP_ite, bindP, setAll, List.set_cons_zero, List.set_cons_succ, List.getElem?_cons_zero, List.getElem?_cons_succ, decide_true, decide_false, if_true, if_false, Bool.false_eq_true, Bool.not_true, Bool.not_false, isNop, partR, o_add, o_sub, o_lt, o_le, o_gt, o_ge, o_eqi, o_nei, o_eqs, o_nes, o_in, o_notin, o_lent, o_lenl, o_lenc, o_abs, o_min, o_max, o_tupl, o_tupt, o_sll, fin_f, sg, show (104 = 105) = False from by simp, exB_nil]
    rw [exB_cons]
    simp -implicitDefEqProofs only [exB_nil, exS_expr, exS_set, exS_setSub, exS_fz, exS_ife, exS_ret, exS_pass, den_nop, den_c, den_v, den_bin, den_neg, den_cmp, den_chain, den_and, den_or, den_not, den_ite, den_tup, den_lst, den_sub, den_rev, den_callv, exS_raise, exS_tryR, den_sl, den_call, den_blt, den_meth, denL_nil, denL_cons, WS_seq, WS_toS, WS_nx, WS_rt, WS_asB, WS_ite, WP_bind, WP_ok, WP_asB, WP_ite, bindP, setAll, List.set_cons_zero, List.set_cons_succ, List.getElem?_cons_zero, List.getElem?_cons_succ, decide_true, decide_false, if_true, if_false, Bool.false_eq_true, Bool.not_true, Bool.not_false, isNop, partR, o_add, o_sub, o_lt, o_le, o_gt, o_ge, o_eqi, o_nei, o_eqs, o_nes, o_in, o_notin, o_lent, o_lenl, o_lenc, o_abs, o_min, o_max, o_tupl, o_tupt, o_sll, fin_f, sg, show (104 = 116) = False from by simp, exB_nil]
    rw [exB_cons]
    simp -implicitDefEqProofs only [exB_nil, exS_expr, exS_set, exS_setSub, exS_fz, exS_ife, exS_ret, exS_pass, den_nop, den_c, den_v, den_bin, den_neg, den_cmp, den_chain, den_and, den_or, den_not, den_ite, den_tup, den_lst, den_sub, den_rev, den_callv, exS_raise, exS_tryR, den_sl, den_call, den_blt, den_meth, denL_nil, denL_cons, WS_seq, WS_toS, WS_nx, WS_rt, WS_asB, WS_ite, WP_bind, WP_ok, WP_asB, WP_ite, bindP, setAll, List.set_cons_zero, List.set_cons_succ, List.getElem?_cons_zero, List.getElem?_cons_succ, decide_true, decide_false, if_true, if_false, Bool.false_eq_true, Bool.not_true, Bool.not_false, isNop, partR, o_add, o_sub, o_lt, o_le, o_gt, o_ge, o_eqi, o_nei, o_eqs, o_nes, o_in, o_notin, o_lent, o_lenl, o_lenc, o_abs, o_min, o_max, o_tupl, o_tupt, o_sll, fin_f, sg, show (104 = 118) = False from by simp, exB_nil]
    rw [exB_cons]
    simp -implicitDefEqProofs only [exB_nil, exS_expr, exS_set, exS_setSub, exS_fz, exS_ife, exS_ret, exS_pass, den_nop, den_c, den_v, den_bin, den_neg, den_cmp, den_chain, den_and, den_or, den_not, den_ite, den_tup, den_lst, den_sub, den_rev, den_callv, exS_raise, exS_tryR, den_sl, den_call, den_blt, den_meth, denL_nil, denL_cons, WS_seq, WS_toS, WS_nx, WS_rt, WS_asB, WS_ite, WP_bind, WP_ok, WP_asB, WP_ite, bindP, setAll, List.set_cons_zero, List.set_cons_succ, List.getElem?_cons_zero, List.getElem?_cons_succ, decide_true, decide_false, if_true, if_false, Bool.false_eq_true, Bool.not_true, Bool.not_false, isNop, partR, o_add, o_sub, o_lt, o_le, o_gt, o_ge, o_eqi, o_nei, o_eqs, o_nes, o_in, o_notin, o_lent, o_lenl, o_lenc, o_abs, o_min, o_max, o_tupl, o_tupt, o_sll, fin_f, sg, show (104 = 99) = False from by simp, exB_nil]
    rw [exB_cons]
    have sb : subD (.dic [.str [107], .str [104], .str [109]] [.int 1000000000, .int 7, .int 1000000]) (.str [104]) s = .ok (.int 7) s := rfl
    simp -implicitDefEqProofs only [exB_nil, exS_expr, exS_set, exS_setSub, exS_fz, exS_ife, exS_ret, exS_pass, den_nop, den_c, den_v, den_bin, den_neg, den_cmp, den_chain, den_and, den_or, den_not, den_ite, den_tup, den_lst, den_sub, den_rev, den_callv, exS_raise, exS_tryR, den_sl, den_call, den_blt, den_meth, denL_nil, denL_cons, WS_seq, WS_toS, WS_nx, WS_rt, WS_asB, WS_ite, WP_bind, WP_ok, WP_asB, WP_ite, bindP, setAll, List.set_cons_zero, List.set_cons_succ, List.getElem?_cons_zero, List.getElem?_cons_succ, decide_true, decide_false, if_true, if_false, Bool.false_eq_true, Bool.not_true, Bool.not_false, isNop, partR, o_add, o_sub, o_lt, o_le, o_gt, o_ge, o_eqi, o_nei, o_eqs, o_nes, o_in, o_notin, o_lent, o_lenl, o_lenc, o_abs, o_min, o_max, o_tupl, o_tupt, o_sll, fin_f, d_khm, sb]
    exact last _ (by decide) (by decide)
  · simp -implicitDefEqProofs only [exB_nil, exS_expr, exS_set, exS_setSub, exS_fz, exS_ife, exS_ret, exS_pass, den_nop, den_c, den_v, den_bin, den_neg, den_cmp, den_chain, den_and, den_or, den_not, den_ite, den_tup, den_lst, den_sub, den_rev, den_callv, exS_raise, exS_tryR, den_sl, den_call, den_blt, den_meth, denL_nil, denL_cons, WS_seq, WS_toS, WS_nx, WS_rt, WS_asB, WS_ite, WP_bind, WP_ok, WP_asB, WP_ite, bindP, setAll, List.set_cons_zero, List.set_cons_succ, List.getElem?_cons_zero, List.getElem?_cons_succ, decide_true, decide_false, if_true, if_false, Bool.false_eq_true, Bool.not_true, Bool.not_false, isNop, partR, o_add, o_sub, o_lt, o_le, o_gt, o_ge, o_eqi, o_nei, o_eqs, o_nes, o_in, o_notin, o_lent, o_lenl, o_lenc, o_abs, o_min, o_max, o_tupl, o_tupt, o_sll, fin_f, sg, show (109 = 110) = False from by simp, exB_nil]
    rw [exB_cons]
    simp -implicitDefEqProofs only [exB_nil, exS_expr, exS_set, exS_setSub, exS_fz, exS_ife, exS_ret, exS_pass, den_nop, den_c, den_v, den_bin, den_neg, den_cmp, den_chain, den_and, den_or, den_not, den_ite, den_tup, den_lst, den_sub, den_rev, den_callv, exS_raise, exS_tryR, den_sl, den_call, den_blt, den_meth, denL_nil, denL_cons, WS_seq, WS_toS, WS_nx, WS_rt, WS_asB, WS_ite, WP_bind, WP_ok, WP_asB, WP_ite, bindP, setAll, List.set_cons_zero, List.set_cons_succ, List.getElem?_cons_zero, List.getElem?_cons_succ, decide_true, decide_false, if_true, if_false, Bool.false_eq_true, Bool.not_true, Bool.not_false, isNop, partR, o_add, o_sub, o_lt, o_le, o_gt, o_ge, o_eqi, o_nei, o_eqs, o_nes, o_in, o_notin, o_lent, o_lenl, o_lenc, o_abs, o_min, o_max, o_tupl, o_tupt, o_sll, fin_f, sg, show (109 = 105) = False from by simp, exB_nil]
    rw [exB_cons]
    simp -implicitDefEqProofs only [exB_nil, exS_expr, exS_set, exS_setSub, exS_fz, exS_ife, exS_ret, exS_pass, den_nop, den_c, den_v, den_bin, den_neg, den_cmp, den_chain, den_and, den_or, den_not, den_ite, den_tup, den_lst, den_sub, den_rev, den_callv, exS_raise, exS_tryR, den_sl, den_call, den_blt, den_meth, denL_nil, denL_cons, WS_seq, WS_toS, WS_nx, WS_rt, WS_asB, WS_ite, WP_bind, WP_ok, WP_asB, WP_ite, bindP, setAll, List.set_cons_zero, List.set_cons_succ, List.getElem?_cons_zero, List.getElem?_cons_succ, decide_true, decide_false, if_true, if_false, Bool.false_eq_true, Bool.not_true, Bool.not_false, isNop, partR, o_add, o_sub, o_lt, o_le, o_gt, o_ge, o_eqi, o_nei, o_eqs, o_nes, o_in, o_notin, o_lent, o_lenl, o_lenc, o_abs, o_min, o_max, o_tupl, o_tupt, o_sll, fin_f, sg, show (109 = 116) = False from by simp, exB_nil]
    rw [exB_cons]
    simp -implicitDefEqProofs only [exB_nil, exS_expr, exS_set, exS_setSub, exS_fz, exS_ife, exS_ret, exS_pass, den_nop, den_c, den_v, den_bin, den_neg, den_cmp, den_chain, den_and, den_or, den_not, den_ite, den_tup, den_lst, den_sub, den_rev, den_callv, exS_raise, exS_tryR, den_sl, den_call, den_blt, den_meth, denL_nil, denL_cons, WS_seq, WS_toS, WS_nx, WS_rt, WS_asB, WS_ite, WP_bind, WP_ok, WP_asB, WP_ite, bindP, setAll, List.set_cons_zero, List.set_cons_succ, List.getElem?_cons_zero, List.getElem?_cons_succ, decide_true, decide_false, if_true, if_false, Bool.false_eq_true, Bool.not_true, Bool.not_false, isNop, partR, o_add, o_sub, o_lt, o_le, o_gt, o_ge, o_eqi, o_nei, o_eqs, o_nes, o_in, o_notin, o_lent, o_lenl, o_lenc, o_abs, o_min, o_max, o_tupl, o_tupt, o_sll, fin_f, sg, show (109 = 118) = False from by simp, exB_nil]
    rw [exB_cons]
    simp -implicitDefEqProofs only [exB_nil, exS_expr, exS_set, exS_setSub, exS_fz, exS_ife, exS_ret, exS_pass, den_nop, den_c, den_v, den_bin, den_neg, den_cmp, den_chain, den_and, den_or, den_not, den_ite, den_tup, den_lst, den_sub, den_rev, den_callv, exS_raise, exS_tryR, den_sl, den_call, den_blt, den_meth, denL_nil, denL_cons, WS_seq, WS_toS, WS_nx, WS_rt, WS_asB, WS_ite, WP_bind, WP_ok, WP_asB, WP_ite, bindP, setAll, List.set_cons_zero, List.set_cons_succ, List.getElem?_cons_zero, List.getElem?_cons_succ, decide_true, decide_false, if_true, if_false, Bool.false_eq_true, Bool.not_true, Bool.not_false, isNop, partR, o_add, o_sub, o_lt, o_le, o_gt, o_ge, o_eqi, o_nei, o_eqs, o_nes, o_in, o_notin, o_lent, o_lenl, o_lenc, o_abs, o_min, o_max, o_tupl, o_tupt, o_sll, fin_f, sg, show (109 = 99) = False from by simp, exB_nil]
    rw [exB_cons]
    have sb : subD (.dic [.str [107], .str [104], .str [109]] [.int 1000000000, .int 7, .int 1000000]) (.str [109]) s = .ok (.int 1000000) s := rfl
    simp -implicitDefEqProofs only [exB_nil, exS_expr, exS_set, exS_setSub, exS_fz, exS_ife, exS_ret, exS_pass, den_nop, den_c, den_v, den_bin, den_neg, den_cmp, den_chain, den_and, den_or, den_not, den_ite, den_tup, den_lst, den_sub, den_rev, den_callv, exS_raise, exS_tryR, den_sl, den_call, den_blt, den_meth, denL_nil, denL_cons, WS_seq, WS_toS, WS_nx, WS_rt, WS_asB, WS_ite, WP_bind, WP_ok, WP_asB, WP_ite, bindP, setAll, List.set_cons_zero, List.set_cons_succ, List.getElem?_cons_zero, List.getElem?_cons_succ, decide_true, decide_false, if_true, if_false, Bool.false_eq_true, Bool.not_true, Bool.not_false, isNop, partR, o_add, o_sub, o_lt, o_le, o_gt, o_ge, o_eqi, o_nei, o_eqs, o_nes, o_in, o_notin, o_lent, o_lenl, o_lenc, o_abs, o_min, o_max, o_tupl, o_tupt, o_sll, fin_f, d_khm, sb]
    exact last _ (by decide) (by decide)
theorem o_tadd {a b : List D} {s : St} (h : a.length + b.length ≤ sizeLine) : binD .add false (.tup a) (.tup b) s = .ok (.tup (a ++ b)) s := by simp only [binD, rd]; rw [if_pos h]
theorem o_tsl {t : Bool} {a : List D} {l h : Option Int} {s : St} : slD t (.tup a) l h s = .ok (.tup (cut a l h)) s := rfl
theorem o_tlist {a : List D} {s : St} : bltD .list_ false [.tup a] s = .ok (.lst a) s := rfl
/-- a word of the table, as a thing of the list -/
def WD (w : List Nat) : Prop := ∃ cs, TBL.lookup w = some cs
theorem d_good (n : Nat) {r c : Nat} {w cs : List Nat} {s : St} {Q : D → St → Prop} (hw : TBL.lookup w = some cs) (hp : Pot s r c) (hc : c ≤ 70000) (h : ∀ ds s', th 7 (.tup (.str w :: ds)) = true → Drew s r c 960 s' → Q (.tup (.str w :: ds)) s') : WP (callF PP (n + 6) 33 [.ref r, .str w] s) Q := by
  rw [callF_eq (fn := fn33) rfl rfl, WP_back]
  show WS (exB _ fn33.body [some (.ref r), some (.str w), none] s) _ _
  have hmem := lookup_mem hw
  have lc := tbl_len _ hmem
  have lw : w.length ≤ 30 := by
    have : ∀ p ∈ TBL, p.1.length ≤ 30 := by decide
    exact this _ hmem
  have sz : sizeLine = 16777216 := rfl
  have it : itK .val [.str cs] = some (cs.map chD) := it_str (by simp at lc; omega)
  rw [fn33, exB_cons]
  have ef : ∀ s : St, callF PP (n + 5) 28 [] s = .ok (.dic KSA VSA) s := fun s => e_forms (n + 4) s
  simp -implicitDefEqProofs only [exB_nil, exS_expr, exS_set, exS_setSub, exS_fz, exS_ife, exS_ret, exS_pass, den_nop, den_c, den_v, den_bin, den_neg, den_cmp, den_chain, den_and, den_or, den_not, den_ite, den_tup, den_lst, den_sub, den_rev, den_callv, exS_raise, exS_tryR, den_sl, den_call, den_blt, den_meth, denL_nil, denL_cons, WS_seq, WS_toS, WS_nx, WS_rt, WS_asB, WS_ite, WP_bind, WP_ok, WP_asB, WP_ite, bindP, setAll, List.set_cons_zero, List.set_cons_succ, List.getElem?_cons_zero, List.getElem?_cons_succ, decide_true, decide_false, if_true, if_false, Bool.false_eq_true, Bool.not_true, Bool.not_false, isNop, partR, o_add, o_sub, o_lt, o_le, o_gt, o_ge, o_eqi, o_nei, o_eqs, o_nes, o_in, o_notin, o_lent, o_lenl, o_lenc, o_abs, o_min, o_max, o_tupl, o_tupt, o_sll, fin_f, ef, o_dicsub hw, den_lc, it]
  refine wp_lc (fun i acc s' => acc.length ≤ i ∧ (∀ d ∈ acc, th 7 d = true) ∧ Drew s r c (240 * i) s') ⟨Nat.le_refl _, fun _ q => (by cases q), Drew.refl hp⟩ (fun i d acc s2 hi ⟨l1, ha, d2⟩ => ?_) (fun acc s2 ⟨l1, ha, d2⟩ => ?_)
  · have hi4 : i < cs.length := by
      have := (List.getElem?_eq_some_iff.mp hi).1
      rwa [List.length_map] at this
    have hdm := List.mem_of_getElem? hi
    obtain ⟨k, hk, rfl⟩ := List.mem_map.mp hdm
    simp -implicitDefEqProofs only [exB_cons, exB_nil, exS_expr, exS_set, exS_setSub, exS_fz, exS_ife, exS_ret, exS_pass, den_nop, den_c, den_v, den_bin, den_neg, den_cmp, den_chain, den_and, den_or, den_not, den_ite, den_tup, den_lst, den_sub, den_rev, den_callv, exS_raise, exS_tryR, den_sl, den_call, den_blt, den_meth, denL_nil, denL_cons, WS_seq, WS_toS, WS_nx, WS_rt, WS_asB, WS_ite, WP_bind, WP_ok, WP_asB, WP_ite, bindP, setAll, List.set_cons_zero, List.set_cons_succ, List.getElem?_cons_zero, List.getElem?_cons_succ, decide_true, decide_false, if_true, if_false, Bool.false_eq_true, Bool.not_true, Bool.not_false, isNop, partR, o_add, o_sub, o_lt, o_le, o_gt, o_ge, o_eqi, o_nei, o_eqs, o_nes, o_in, o_notin, o_lent, o_lenl, o_lenc, o_abs, o_min, o_max, o_tupl, o_tupt, o_sll, fin_f, Pat.slots, Fk.wipe, WP_noErr, chD]
    refine d_part n (tbl_letters _ hmem k hk) d2.pot (by simp at lc; omega) fun v s3 hv d3 => ?_
    (try simp -implicitDefEqProofs only [exB_cons, exB_nil, exS_expr, exS_set, exS_setSub, exS_fz, exS_ife, exS_ret, exS_pass, den_nop, den_c, den_v, den_bin, den_neg, den_cmp, den_chain, den_and, den_or, den_not, den_ite, den_tup, den_lst, den_sub, den_rev, den_callv, exS_raise, exS_tryR, den_sl, den_call, den_blt, den_meth, denL_nil, denL_cons, WS_seq, WS_toS, WS_nx, WS_rt, WS_asB, WS_ite, WP_bind, WP_ok, WP_asB, WP_ite, bindP, setAll, List.set_cons_zero, List.set_cons_succ, List.getElem?_cons_zero, List.getElem?_cons_succ, decide_true, decide_false, if_true, if_false, Bool.false_eq_true, Bool.not_true, Bool.not_false, isNop, partR, o_add, o_sub, o_lt, o_le, o_gt, o_ge, o_eqi, o_nei, o_eqs, o_nes, o_in, o_notin, o_lent, o_lenl, o_lenc, o_abs, o_min, o_max, o_tupl, o_tupt, o_sll, fin_f])
    refine ⟨by simp; omega, fun d hd => ?_, (d2.trans d3).mono (by omega)⟩
    rcases List.mem_append.mp hd with q | q
    · exact ha d q
    · rw [List.mem_singleton] at q; rw [q]; exact hv
  · rw [List.length_map] at l1 d2
    simp at lc
    (try simp -implicitDefEqProofs only [exB_cons, exB_nil, exS_expr, exS_set, exS_setSub, exS_fz, exS_ife, exS_ret, exS_pass, den_nop, den_c, den_v, den_bin, den_neg, den_cmp, den_chain, den_and, den_or, den_not, den_ite, den_tup, den_lst, den_sub, den_rev, den_callv, exS_raise, exS_tryR, den_sl, den_call, den_blt, den_meth, denL_nil, denL_cons, WS_seq, WS_toS, WS_nx, WS_rt, WS_asB, WS_ite, WP_bind, WP_ok, WP_asB, WP_ite, bindP, setAll, List.set_cons_zero, List.set_cons_succ, List.getElem?_cons_zero, List.getElem?_cons_succ, decide_true, decide_false, if_true, if_false, Bool.false_eq_true, Bool.not_true, Bool.not_false, isNop, partR, o_add, o_sub, o_lt, o_le, o_gt, o_ge, o_eqi, o_nei, o_eqs, o_nes, o_in, o_notin, o_lent, o_lenl, o_lenc, o_abs, o_min, o_max, o_tupl, o_tupt, o_sll, fin_f])
    rw [o_tadd (by simp; omega)]
    (try simp -implicitDefEqProofs only [exB_cons, exB_nil, exS_expr, exS_set, exS_setSub, exS_fz, exS_ife, exS_ret, exS_pass, den_nop, den_c, den_v, den_bin, den_neg, den_cmp, den_chain, den_and, den_or, den_not, den_ite, den_tup, den_lst, den_sub, den_rev, den_callv, exS_raise, exS_tryR, den_sl, den_call, den_blt, den_meth, denL_nil, denL_cons, WS_seq, WS_toS, WS_nx, WS_rt, WS_asB, WS_ite, WP_bind, WP_ok, WP_asB, WP_ite, bindP, setAll, List.set_cons_zero, List.set_cons_succ, List.getElem?_cons_zero, List.getElem?_cons_succ, decide_true, decide_false, if_true, if_false, Bool.false_eq_true, Bool.not_true, Bool.not_false, isNop, partR, o_add, o_sub, o_lt, o_le, o_gt, o_ge, o_eqi, o_nei, o_eqs, o_nes, o_in, o_notin, o_lent, o_lenl, o_lenc, o_abs, o_min, o_max, o_tupl, o_tupt, o_sll, fin_f])
    have g : th 7 (.tup (.str w :: acc)) = true := th_of_tup (by simp; omega) fun d hd => by
      rcases List.mem_cons.mp hd with rfl | hd
      · exact th_str lw
      · exact ha d hd
    rw [List.cons_append, List.nil_append]
    rw [th_top _ g, d2.take]
    exact h _ _ g (d2.mono (by omega))
def ODDS : List D := [.none, .bl true, .bl false, .int 0, .int (-1), .int 8, .int 1000001, .int 1000000001, .int (-1000000001), .str [], .str [107, 101, 121], .str [110, 105, 110, 101, 115, 105, 103, 110, 115], .str [65, 98], .str [97, 32, 98], .str [110, 117, 109, 98, 101, 114], .str [97, 110, 121], .tup [], .lst [], .dic [] [], .tup [.int 0, .str [97], .int 0], .lst [.str [97]], .tup [.str [97]], .tup [.int 0, .str [107, 101, 121], .int 0], .tup [.int 8, .str [97], .int 0], .tup [.bl true, .str [97], .int 0], .str [101, 110, 100]]
theorem odds_th : ∀ d ∈ ODDS, th 7 d = true := by
  have : ODDS.all (th 7) = true := by decide
  exact List.all_eq_true.mp this
theorem den_dic0 {cf : CF} {env : Fk.Env} {s : St} : den cf (.dic false []) env s = .ok (.dic [] []) s := d_dic1 (xs := []) (ks := []) (vs := []) (by simp only [denL_nil]) rfl rfl
theorem e_odds (n : Nat) (s : St) : callF PP (n + 1) 34 [] s = .ok (.lst ODDS) s := by
  refine eq_of_wp ?_
  rw [callF_eq (fn := fn34) rfl rfl, WP_back]
  show WS (exB _ fn34.body [none] s) _ _
  have p9 : ∀ s : St, binD .pow false (.int 10) (.int 9) s = .ok (.int 1000000000) s := fun s => cP9
  have p6 : ∀ s : St, binD .pow false (.int 10) (.int 6) s = .ok (.int 1000000) s := fun s => cP6
  simp -implicitDefEqProofs only [exB_cons, exB_nil, exS_expr, exS_set, exS_setSub, exS_fz, exS_ife, exS_ret, exS_pass, den_nop, den_c, den_v, den_bin, den_neg, den_cmp, den_chain, den_and, den_or, den_not, den_ite, den_tup, den_lst, den_sub, den_rev, den_callv, exS_raise, exS_tryR, den_sl, den_call, den_blt, den_meth, denL_nil, denL_cons, WS_seq, WS_toS, WS_nx, WS_rt, WS_asB, WS_ite, WP_bind, WP_ok, WP_asB, WP_ite, bindP, setAll, List.set_cons_zero, List.set_cons_succ, List.getElem?_cons_zero, List.getElem?_cons_succ, decide_true, decide_false, if_true, if_false, Bool.false_eq_true, Bool.not_true, Bool.not_false, isNop, partR, o_add, o_sub, o_lt, o_le, o_gt, o_ge, o_eqi, o_nei, o_eqs, o_nes, o_in, o_notin, o_lent, o_lenl, o_lenc, o_abs, o_min, o_max, o_tupl, o_tupt, o_sll, fin_f, fn34, p9, p6]
  rw [den_dic0]
  simp -implicitDefEqProofs only [exB_cons, exB_nil, exS_expr, exS_set, exS_setSub, exS_fz, exS_ife, exS_ret, exS_pass, den_nop, den_c, den_v, den_bin, den_neg, den_cmp, den_chain, den_and, den_or, den_not, den_ite, den_tup, den_lst, den_sub, den_rev, den_callv, exS_raise, exS_tryR, den_sl, den_call, den_blt, den_meth, denL_nil, denL_cons, WS_seq, WS_toS, WS_nx, WS_rt, WS_asB, WS_ite, WP_bind, WP_ok, WP_asB, WP_ite, bindP, setAll, List.set_cons_zero, List.set_cons_succ, List.getElem?_cons_zero, List.getElem?_cons_succ, decide_true, decide_false, if_true, if_false, Bool.false_eq_true, Bool.not_true, Bool.not_false, isNop, partR, o_add, o_sub, o_lt, o_le, o_gt, o_ge, o_eqi, o_nei, o_eqs, o_nes, o_in, o_notin, o_lent, o_lenl, o_lenc, o_abs, o_min, o_max, o_tupl, o_tupt, o_sll, fin_f]
  rw [o_app (by simp [sizeLine])]
  simp -implicitDefEqProofs only [exB_cons, exB_nil, exS_expr, exS_set, exS_setSub, exS_fz, exS_ife, exS_ret, exS_pass, den_nop, den_c, den_v, den_bin, den_neg, den_cmp, den_chain, den_and, den_or, den_not, den_ite, den_tup, den_lst, den_sub, den_rev, den_callv, exS_raise, exS_tryR, den_sl, den_call, den_blt, den_meth, denL_nil, denL_cons, WS_seq, WS_toS, WS_nx, WS_rt, WS_asB, WS_ite, WP_bind, WP_ok, WP_asB, WP_ite, bindP, setAll, List.set_cons_zero, List.set_cons_succ, List.getElem?_cons_zero, List.getElem?_cons_succ, decide_true, decide_false, if_true, if_false, Bool.false_eq_true, Bool.not_true, Bool.not_false, isNop, partR, o_add, o_sub, o_lt, o_le, o_gt, o_ge, o_eqi, o_nei, o_eqs, o_nes, o_in, o_notin, o_lent, o_lenl, o_lenc, o_abs, o_min, o_max, o_tupl, o_tupt, o_sll, fin_f, List.cons_append, List.nil_append]
  rw [o_app (by simp [sizeLine])]
  simp -implicitDefEqProofs only [exB_cons, exB_nil, exS_expr, exS_set, exS_setSub, exS_fz, exS_ife, exS_ret, exS_pass, den_nop, den_c, den_v, den_bin, den_neg, den_cmp, den_chain, den_and, den_or, den_not, den_ite, den_tup, den_lst, den_sub, den_rev, den_callv, exS_raise, exS_tryR, den_sl, den_call, den_blt, den_meth, denL_nil, denL_cons, WS_seq, WS_toS, WS_nx, WS_rt, WS_asB, WS_ite, WP_bind, WP_ok, WP_asB, WP_ite, bindP, setAll, List.set_cons_zero, List.set_cons_succ, List.getElem?_cons_zero, List.getElem?_cons_succ, decide_true, decide_false, if_true, if_false, Bool.false_eq_true, Bool.not_true, Bool.not_false, isNop, partR, o_add, o_sub, o_lt, o_le, o_gt, o_ge, o_eqi, o_nei, o_eqs, o_nes, o_in, o_notin, o_lent, o_lenl, o_lenc, o_abs, o_min, o_max, o_tupl, o_tupt, o_sll, fin_f, List.cons_append, List.nil_append]
  refine ⟨?_, ?_⟩
  · rfl
  · have : ∀ z : List D, D.topL z = 0 → (D.lst z).top = 0 := fun z h => by unfold D.top; exact h
    rw [this _ rfl]; simp
theorem wp_att {xs : List D} {i : Int} {s : St} {Q : D → St → Prop} (h0 : 0 ≤ i) (h1 : i < xs.length) (h : ∀ d ∈ xs, Q d s) : WP (subD (.tup xs) (.int i) s) Q := by
  obtain ⟨x, hx, e⟩ := atI_mem h0 h1
  simp only [subD, rd, e]
  exact h x hx
theorem ixN_ok {n : Nat} {i : Int} (h0 : 0 ≤ i) (h1 : i < n) : ixN n i = some i.toNat := by
  unfold ixN
  rw [if_pos h0, if_pos h1]
theorem mem_set {x y : D} {i : Nat} : ∀ {xs : List D}, x ∈ xs.set i y → x ∈ xs ∨ x = y := fun {xs} h => List.mem_or_eq_of_mem_set h
theorem bent_step (m k : Nat) {r c : Nat} {d : D} {s : St} {Q : D → St → Prop}
    (hin : ∀ (e : D) (c1 : Nat) (s1 : St) (Q1 : D → St → Prop), 0 < k → th 7 e = true → Pot s1 r c1 → c1 + 10 * k ≤ 80000 → (∀ d' s', th 30 d' = true → Drew s1 r c1 (10 * k) s' → Q1 d' s') → WP (callF PP (m + 2) 35 [.ref r, e, .int ((k : Int) - 1)] s1) Q1)
    (hd : th 7 d = true) (hp : Pot s r c) (hc : c + 10 * (k + 1) ≤ 80000) (h : ∀ d' s', th 30 d' = true → Drew s r c (10 * (k + 1)) s' → Q d' s') : WP (callF PP (m + 3) 35 [.ref r, d, .int (k : Int)] s) Q := by
  rw [callF_eq (fn := fn35) rfl rfl, WP_back]
  show WS (exB _ fn35.body [some (.ref r), some d, some (.int (k : Int)), none, none, none, none, none, none, none, none] s) _ _
  have hk := th_kk hd
  have hr := hp.lt
  have fin : ∀ (d : D) (s2 : St), th 30 d = true → Drew s r c (10 * (k + 1)) s2 → Q d (s2.take (max s.length d.top)) := fun d s2 h1 h2 => by
    rw [th_top d h1, h2.take]
    exact h d s2 h1 h2
  have eo : ∀ s : St, callF PP (m + 2) 34 [] s = .ok (.lst ODDS) s := fun s => e_odds (m + 1) s
  have lo : (ODDS.length : Int) = 26 := rfl
  rw [fn35, exB_cons]
  simp -implicitDefEqProofs only [exB_nil, exS_expr, exS_set, exS_setSub, exS_fz, exS_ife, exS_ret, exS_pass, den_nop, den_c, den_v, den_bin, den_neg, den_cmp, den_chain, den_and, den_or, den_not, den_ite, den_tup, den_lst, den_sub, den_rev, den_callv, exS_raise, exS_tryR, den_sl, den_call, den_blt, den_meth, denL_nil, denL_cons, WS_seq, WS_toS, WS_nx, WS_rt, WS_asB, WS_ite, WP_bind, WP_ok, WP_asB, WP_ite, bindP, setAll, List.set_cons_zero, List.set_cons_succ, List.getElem?_cons_zero, List.getElem?_cons_succ, decide_true, decide_false, if_true, if_false, Bool.false_eq_true, Bool.not_true, Bool.not_false, isNop, partR, o_add, o_sub, o_lt, o_le, o_gt, o_ge, o_eqi, o_nei, o_eqs, o_nes, o_in, o_notin, o_lent, o_lenl, o_lenc, o_abs, o_min, o_max, o_tupl, o_tupt, o_sll, fin_f, eo]
  rw [exB_cons]
  simp -implicitDefEqProofs only [exB_nil, exS_expr, exS_set, exS_setSub, exS_fz, exS_ife, exS_ret, exS_pass, den_nop, den_c, den_v, den_bin, den_neg, den_cmp, den_chain, den_and, den_or, den_not, den_ite, den_tup, den_lst, den_sub, den_rev, den_callv, exS_raise, exS_tryR, den_sl, den_call, den_blt, den_meth, denL_nil, denL_cons, WS_seq, WS_toS, WS_nx, WS_rt, WS_asB, WS_ite, WP_bind, WP_ok, WP_asB, WP_ite, bindP, setAll, List.set_cons_zero, List.set_cons_succ, List.getElem?_cons_zero, List.getElem?_cons_succ, decide_true, decide_false, if_true, if_false, Bool.false_eq_true, Bool.not_true, Bool.not_false, isNop, partR, o_add, o_sub, o_lt, o_le, o_gt, o_ge, o_eqi, o_nei, o_eqs, o_nes, o_in, o_notin, o_lent, o_lenl, o_lenc, o_abs, o_min, o_max, o_tupl, o_tupt, o_sll, fin_f, lo]
  refine take_ (m + 1) hp (by omega) (by decide) (by decide +kernel) fun x s1 x0 x1 d1 => ?_
  refine wp_at x0 (by rw [lo]; exact x1) fun odd hodd => ?_
  have todd := odds_th odd hodd
  (try simp -implicitDefEqProofs only [exB_nil, exS_expr, exS_set, exS_setSub, exS_fz, exS_ife, exS_ret, exS_pass, den_nop, den_c, den_v, den_bin, den_neg, den_cmp, den_chain, den_and, den_or, den_not, den_ite, den_tup, den_lst, den_sub, den_rev, den_callv, exS_raise, exS_tryR, den_sl, den_call, den_blt, den_meth, denL_nil, denL_cons, WS_seq, WS_toS, WS_nx, WS_rt, WS_asB, WS_ite, WP_bind, WP_ok, WP_asB, WP_ite, bindP, setAll, List.set_cons_zero, List.set_cons_succ, List.getElem?_cons_zero, List.getElem?_cons_succ, decide_true, decide_false, if_true, if_false, Bool.false_eq_true, Bool.not_true, Bool.not_false, isNop, partR, o_add, o_sub, o_lt, o_le, o_gt, o_ge, o_eqi, o_nei, o_eqs, o_nes, o_in, o_notin, o_lent, o_lenl, o_lenc, o_abs, o_min, o_max, o_tupl, o_tupt, o_sll, fin_f])
  rw [exB_cons]
  simp -implicitDefEqProofs only [exB_nil, exS_expr, exS_set, exS_setSub, exS_fz, exS_ife, exS_ret, exS_pass, den_nop, den_c, den_v, den_bin, den_neg, den_cmp, den_chain, den_and, den_or, den_not, den_ite, den_tup, den_lst, den_sub, den_rev, den_callv, exS_raise, exS_tryR, den_sl, den_call, den_blt, den_meth, denL_nil, denL_cons, WS_seq, WS_toS, WS_nx, WS_rt, WS_asB, WS_ite, WP_bind, WP_ok, WP_asB, WP_ite, bindP, setAll, List.set_cons_zero, List.set_cons_succ, List.getElem?_cons_zero, List.getElem?_cons_succ, decide_true, decide_false, if_true, if_false, Bool.false_eq_true, Bool.not_true, Bool.not_false, isNop, partR, o_add, o_sub, o_lt, o_le, o_gt, o_ge, o_eqi, o_nei, o_eqs, o_nes, o_in, o_notin, o_lent, o_lenl, o_lenc, o_abs, o_min, o_max, o_tupl, o_tupt, o_sll, fin_f, o_isin hk, isT_kk hk]
  cases ct : isT [] 3 d
  · simp -implicitDefEqProofs only [exB_nil, exS_expr, exS_set, exS_setSub, exS_fz, exS_ife, exS_ret, exS_pass, den_nop, den_c, den_v, den_bin, den_neg, den_cmp, den_chain, den_and, den_or, den_not, den_ite, den_tup, den_lst, den_sub, den_rev, den_callv, exS_raise, exS_tryR, den_sl, den_call, den_blt, den_meth, denL_nil, denL_cons, WS_seq, WS_toS, WS_nx, WS_rt, WS_asB, WS_ite, WP_bind, WP_ok, WP_asB, WP_ite, bindP, setAll, List.set_cons_zero, List.set_cons_succ, List.getElem?_cons_zero, List.getElem?_cons_succ, decide_true, decide_false, if_true, if_false, Bool.false_eq_true, Bool.not_true, Bool.not_false, isNop, partR, o_add, o_sub, o_lt, o_le, o_gt, o_ge, o_eqi, o_nei, o_eqs, o_nes, o_in, o_notin, o_lent, o_lenl, o_lenc, o_abs, o_min, o_max, o_tupl, o_tupt, o_sll, fin_f]
    rw [exB_cons]
    simp -implicitDefEqProofs only [exB_nil, exS_expr, exS_set, exS_setSub, exS_fz, exS_ife, exS_ret, exS_pass, den_nop, den_c, den_v, den_bin, den_neg, den_cmp, den_chain, den_and, den_or, den_not, den_ite, den_tup, den_lst, den_sub, den_rev, den_callv, exS_raise, exS_tryR, den_sl, den_call, den_blt, den_meth, denL_nil, denL_cons, WS_seq, WS_toS, WS_nx, WS_rt, WS_asB, WS_ite, WP_bind, WP_ok, WP_asB, WP_ite, bindP, setAll, List.set_cons_zero, List.set_cons_succ, List.getElem?_cons_zero, List.getElem?_cons_succ, decide_true, decide_false, if_true, if_false, Bool.false_eq_true, Bool.not_true, Bool.not_false, isNop, partR, o_add, o_sub, o_lt, o_le, o_gt, o_ge, o_eqi, o_nei, o_eqs, o_nes, o_in, o_notin, o_lent, o_lenl, o_lenc, o_abs, o_min, o_max, o_tupl, o_tupt, o_sll, fin_f]
    exact fin odd s1 (th_mono (by omega) _ todd) (d1.mono (by omega))
  · obtain ⟨ds, rfl⟩ : ∃ ds, d = .tup ds := by cases d <;> first | exact ⟨_, rfl⟩ | (cases ct; done)
    simp -implicitDefEqProofs only [exB_nil, exS_expr, exS_set, exS_setSub, exS_fz, exS_ife, exS_ret, exS_pass, den_nop, den_c, den_v, den_bin, den_neg, den_cmp, den_chain, den_and, den_or, den_not, den_ite, den_tup, den_lst, den_sub, den_rev, den_callv, exS_raise, exS_tryR, den_sl, den_call, den_blt, den_meth, denL_nil, denL_cons, WS_seq, WS_toS, WS_nx, WS_rt, WS_asB, WS_ite, WP_bind, WP_ok, WP_asB, WP_ite, bindP, setAll, List.set_cons_zero, List.set_cons_succ, List.getElem?_cons_zero, List.getElem?_cons_succ, decide_true, decide_false, if_true, if_false, Bool.false_eq_true, Bool.not_true, Bool.not_false, isNop, partR, o_add, o_sub, o_lt, o_le, o_gt, o_ge, o_eqi, o_nei, o_eqs, o_nes, o_in, o_notin, o_lent, o_lenl, o_lenc, o_abs, o_min, o_max, o_tupl, o_tupt, o_sll, fin_f, o_tnil]
    obtain ⟨l7, hds⟩ := th_tup hd
    cases ds with
    | nil =>
      simp -implicitDefEqProofs only [exB_nil, exS_expr, exS_set, exS_setSub, exS_fz, exS_ife, exS_ret, exS_pass, den_nop, den_c, den_v, den_bin, den_neg, den_cmp, den_chain, den_and, den_or, den_not, den_ite, den_tup, den_lst, den_sub, den_rev, den_callv, exS_raise, exS_tryR, den_sl, den_call, den_blt, den_meth, denL_nil, denL_cons, WS_seq, WS_toS, WS_nx, WS_rt, WS_asB, WS_ite, WP_bind, WP_ok, WP_asB, WP_ite, bindP, setAll, List.set_cons_zero, List.set_cons_succ, List.getElem?_cons_zero, List.getElem?_cons_succ, decide_true, decide_false, if_true, if_false, Bool.false_eq_true, Bool.not_true, Bool.not_false, isNop, partR, o_add, o_sub, o_lt, o_le, o_gt, o_ge, o_eqi, o_nei, o_eqs, o_nes, o_in, o_notin, o_lent, o_lenl, o_lenc, o_abs, o_min, o_max, o_tupl, o_tupt, o_sll, fin_f, List.isEmpty_nil]
      rw [exB_cons]
      simp -implicitDefEqProofs only [exB_nil, exS_expr, exS_set, exS_setSub, exS_fz, exS_ife, exS_ret, exS_pass, den_nop, den_c, den_v, den_bin, den_neg, den_cmp, den_chain, den_and, den_or, den_not, den_ite, den_tup, den_lst, den_sub, den_rev, den_callv, exS_raise, exS_tryR, den_sl, den_call, den_blt, den_meth, denL_nil, denL_cons, WS_seq, WS_toS, WS_nx, WS_rt, WS_asB, WS_ite, WP_bind, WP_ok, WP_asB, WP_ite, bindP, setAll, List.set_cons_zero, List.set_cons_succ, List.getElem?_cons_zero, List.getElem?_cons_succ, decide_true, decide_false, if_true, if_false, Bool.false_eq_true, Bool.not_true, Bool.not_false, isNop, partR, o_add, o_sub, o_lt, o_le, o_gt, o_ge, o_eqi, o_nei, o_eqs, o_nes, o_in, o_notin, o_lent, o_lenl, o_lenc, o_abs, o_min, o_max, o_tupl, o_tupt, o_sll, fin_f]
      exact fin odd s1 (th_mono (by omega) _ todd) (d1.mono (by omega))
    | cons a0 r0 =>
      simp -implicitDefEqProofs only [exB_nil, exS_expr, exS_set, exS_setSub, exS_fz, exS_ife, exS_ret, exS_pass, den_nop, den_c, den_v, den_bin, den_neg, den_cmp, den_chain, den_and, den_or, den_not, den_ite, den_tup, den_lst, den_sub, den_rev, den_callv, exS_raise, exS_tryR, den_sl, den_call, den_blt, den_meth, denL_nil, denL_cons, WS_seq, WS_toS, WS_nx, WS_rt, WS_asB, WS_ite, WP_bind, WP_ok, WP_asB, WP_ite, bindP, setAll, List.set_cons_zero, List.set_cons_succ, List.getElem?_cons_zero, List.getElem?_cons_succ, decide_true, decide_false, if_true, if_false, Bool.false_eq_true, Bool.not_true, Bool.not_false, isNop, partR, o_add, o_sub, o_lt, o_le, o_gt, o_ge, o_eqi, o_nei, o_eqs, o_nes, o_in, o_notin, o_lent, o_lenl, o_lenc, o_abs, o_min, o_max, o_tupl, o_tupt, o_sll, fin_f, List.isEmpty_cons, exB_nil]
      generalize hds' : a0 :: r0 = ds at *
      have l0 : 0 < ds.length := by rw [← hds']; simp
      have sz : sizeLine = 16777216 := rfl
      rw [exB_cons]
      simp -implicitDefEqProofs only [exB_nil, exS_expr, exS_set, exS_setSub, exS_fz, exS_ife, exS_ret, exS_pass, den_nop, den_c, den_v, den_bin, den_neg, den_cmp, den_chain, den_and, den_or, den_not, den_ite, den_tup, den_lst, den_sub, den_rev, den_callv, exS_raise, exS_tryR, den_sl, den_call, den_blt, den_meth, denL_nil, denL_cons, WS_seq, WS_toS, WS_nx, WS_rt, WS_asB, WS_ite, WP_bind, WP_ok, WP_asB, WP_ite, bindP, setAll, List.set_cons_zero, List.set_cons_succ, List.getElem?_cons_zero, List.getElem?_cons_succ, decide_true, decide_false, if_true, if_false, Bool.false_eq_true, Bool.not_true, Bool.not_false, isNop, partR, o_add, o_sub, o_lt, o_le, o_gt, o_ge, o_eqi, o_nei, o_eqs, o_nes, o_in, o_notin, o_lent, o_lenl, o_lenc, o_abs, o_min, o_max, o_tupl, o_tupt, o_sll, fin_f]
      refine take_ (m + 1) d1.pot (by omega) (by decide) (by decide +kernel) fun way s2 w0 w1 d2 => ?_
      (try simp -implicitDefEqProofs only [exB_nil, exS_expr, exS_set, exS_setSub, exS_fz, exS_ife, exS_ret, exS_pass, den_nop, den_c, den_v, den_bin, den_neg, den_cmp, den_chain, den_and, den_or, den_not, den_ite, den_tup, den_lst, den_sub, den_rev, den_callv, exS_raise, exS_tryR, den_sl, den_call, den_blt, den_meth, denL_nil, denL_cons, WS_seq, WS_toS, WS_nx, WS_rt, WS_asB, WS_ite, WP_bind, WP_ok, WP_asB, WP_ite, bindP, setAll, List.set_cons_zero, List.set_cons_succ, List.getElem?_cons_zero, List.getElem?_cons_succ, decide_true, decide_false, if_true, if_false, Bool.false_eq_true, Bool.not_true, Bool.not_false, isNop, partR, o_add, o_sub, o_lt, o_le, o_gt, o_ge, o_eqi, o_nei, o_eqs, o_nes, o_in, o_notin, o_lent, o_lenl, o_lenc, o_abs, o_min, o_max, o_tupl, o_tupt, o_sll, fin_f])
      rw [exB_cons, exS_par]
      simp -implicitDefEqProofs only [exB_nil, exS_expr, exS_set, exS_setSub, exS_fz, exS_ife, exS_ret, exS_pass, den_nop, den_c, den_v, den_bin, den_neg, den_cmp, den_chain, den_and, den_or, den_not, den_ite, den_tup, den_lst, den_sub, den_rev, den_callv, exS_raise, exS_tryR, den_sl, den_call, den_blt, den_meth, denL_nil, denL_cons, WS_seq, WS_toS, WS_nx, WS_rt, WS_asB, WS_ite, WP_bind, WP_ok, WP_asB, WP_ite, bindP, setAll, List.set_cons_zero, List.set_cons_succ, List.getElem?_cons_zero, List.getElem?_cons_succ, decide_true, decide_false, if_true, if_false, Bool.false_eq_true, Bool.not_true, Bool.not_false, isNop, partR, o_add, o_sub, o_lt, o_le, o_gt, o_ge, o_eqi, o_nei, o_eqs, o_nes, o_in, o_notin, o_lent, o_lenl, o_lenc, o_abs, o_min, o_max, o_tupl, o_tupt, o_sll, fin_f]
      have lg : ((ds.length : Int)).natAbs.log2 < 9000 := by
        have := ilog2_le (i := (ds.length : Int)) (k := 100) (by omega) (Int.lt_of_le_of_lt (b := 7) (by omega) (by decide +kernel)); omega
      refine take_ (m + 1) d2.pot (by omega) (by omega) lg fun at_ s3 a0' a1 d3 => ?_
      (try simp -implicitDefEqProofs only [exB_nil, exS_expr, exS_set, exS_setSub, exS_fz, exS_ife, exS_ret, exS_pass, den_nop, den_c, den_v, den_bin, den_neg, den_cmp, den_chain, den_and, den_or, den_not, den_ite, den_tup, den_lst, den_sub, den_rev, den_callv, exS_raise, exS_tryR, den_sl, den_call, den_blt, den_meth, denL_nil, denL_cons, WS_seq, WS_toS, WS_nx, WS_rt, WS_asB, WS_ite, WP_bind, WP_ok, WP_asB, WP_ite, bindP, setAll, List.set_cons_zero, List.set_cons_succ, List.getElem?_cons_zero, List.getElem?_cons_succ, decide_true, decide_false, if_true, if_false, Bool.false_eq_true, Bool.not_true, Bool.not_false, isNop, partR, o_add, o_sub, o_lt, o_le, o_gt, o_ge, o_eqi, o_nei, o_eqs, o_nes, o_in, o_notin, o_lent, o_lenl, o_lenc, o_abs, o_min, o_max, o_tupl, o_tupt, o_sll, fin_f])
      refine take_ (m + 1) d3.pot (by omega) (by omega) lg fun to s4 t0 t1 d4 => ?_
      (try simp -implicitDefEqProofs only [exB_nil, exS_expr, exS_set, exS_setSub, exS_fz, exS_ife, exS_ret, exS_pass, den_nop, den_c, den_v, den_bin, den_neg, den_cmp, den_chain, den_and, den_or, den_not, den_ite, den_tup, den_lst, den_sub, den_rev, den_callv, exS_raise, exS_tryR, den_sl, den_call, den_blt, den_meth, denL_nil, denL_cons, WS_seq, WS_toS, WS_nx, WS_rt, WS_asB, WS_ite, WP_bind, WP_ok, WP_asB, WP_ite, bindP, setAll, List.set_cons_zero, List.set_cons_succ, List.getElem?_cons_zero, List.getElem?_cons_succ, decide_true, decide_false, if_true, if_false, Bool.false_eq_true, Bool.not_true, Bool.not_false, isNop, partR, o_add, o_sub, o_lt, o_le, o_gt, o_ge, o_eqi, o_nei, o_eqs, o_nes, o_in, o_notin, o_lent, o_lenl, o_lenc, o_abs, o_min, o_max, o_tupl, o_tupt, o_sll, fin_f])
      have D4 : Drew s r c 4 s4 := ((d1.to d2 (m := 2) (by omega)).to d3 (m := 3) (by omega)).to d4 (by omega)
      have l1 := cut_len ds none (some at_)
      have l2 := cut_len ds (some (at_ + 1)) none
      have l3 := cut_len ds (some at_) (some (at_ + 1))
      have l4 := cut_len ds (some at_) none
      have t30 : ∀ e ∈ ds, th 30 e = true := fun e he => th_mono (by omega) _ (hds e he)
      have app : ∀ {xs ys : List D}, (∀ e ∈ xs, th 30 e = true) → (∀ e ∈ ys, th 30 e = true) → ∀ e ∈ xs ++ ys, th 30 e = true := fun h1 h2 e he => (List.mem_append.mp he).elim (h1 e) (h2 e)
      have one_ : ∀ x : D, th 30 x = true → ∀ e ∈ [x], th 30 e = true := fun x hx e he => by rw [List.mem_singleton] at he; rw [he]; exact hx
      have cc : ∀ l h, ∀ e ∈ cut ds l h, th 30 e = true := fun l h e he => t30 e (mem_cut he)
      have three : ∀ (xs ys zs : List D) (s : St), xs.length ≤ 7 → ys.length ≤ 7 → zs.length ≤ 7 → (binD .add false (.tup xs) (.tup ys) s = .ok (.tup (xs ++ ys)) s) ∧ (binD .add false (.tup (xs ++ ys)) (.tup zs) s = .ok (.tup (xs ++ ys ++ zs)) s) := fun xs ys zs s h1 h2 h3 => ⟨o_tadd (by omega), o_tadd (by rw [List.length_append]; omega)⟩
      rw [exB_cons]
      simp -implicitDefEqProofs only [exB_nil, exS_expr, exS_set, exS_setSub, exS_fz, exS_ife, exS_ret, exS_pass, den_nop, den_c, den_v, den_bin, den_neg, den_cmp, den_chain, den_and, den_or, den_not, den_ite, den_tup, den_lst, den_sub, den_rev, den_callv, exS_raise, exS_tryR, den_sl, den_call, den_blt, den_meth, denL_nil, denL_cons, WS_seq, WS_toS, WS_nx, WS_rt, WS_asB, WS_ite, WP_bind, WP_ok, WP_asB, WP_ite, bindP, setAll, List.set_cons_zero, List.set_cons_succ, List.getElem?_cons_zero, List.getElem?_cons_succ, decide_true, decide_false, if_true, if_false, Bool.false_eq_true, Bool.not_true, Bool.not_false, isNop, partR, o_add, o_sub, o_lt, o_le, o_gt, o_ge, o_eqi, o_nei, o_eqs, o_nes, o_in, o_notin, o_lent, o_lenl, o_lenc, o_abs, o_min, o_max, o_tupl, o_tupt, o_sll, fin_f]
      by_cases c4 : way < 4
      · simp -implicitDefEqProofs only [exB_nil, exS_expr, exS_set, exS_setSub, exS_fz, exS_ife, exS_ret, exS_pass, den_nop, den_c, den_v, den_bin, den_neg, den_cmp, den_chain, den_and, den_or, den_not, den_ite, den_tup, den_lst, den_sub, den_rev, den_callv, exS_raise, exS_tryR, den_sl, den_call, den_blt, den_meth, denL_nil, denL_cons, WS_seq, WS_toS, WS_nx, WS_rt, WS_asB, WS_ite, WP_bind, WP_ok, WP_asB, WP_ite, bindP, setAll, List.set_cons_zero, List.set_cons_succ, List.getElem?_cons_zero, List.getElem?_cons_succ, decide_true, decide_false, if_true, if_false, Bool.false_eq_true, Bool.not_true, Bool.not_false, isNop, partR, o_add, o_sub, o_lt, o_le, o_gt, o_ge, o_eqi, o_nei, o_eqs, o_nes, o_in, o_notin, o_lent, o_lenl, o_lenc, o_abs, o_min, o_max, o_tupl, o_tupt, o_sll, fin_f, c4]
        rw [exB_cons]
        simp -implicitDefEqProofs only [exB_nil, exS_expr, exS_set, exS_setSub, exS_fz, exS_ife, exS_ret, exS_pass, den_nop, den_c, den_v, den_bin, den_neg, den_cmp, den_chain, den_and, den_or, den_not, den_ite, den_tup, den_lst, den_sub, den_rev, den_callv, exS_raise, exS_tryR, den_sl, den_call, den_blt, den_meth, denL_nil, denL_cons, WS_seq, WS_toS, WS_nx, WS_rt, WS_asB, WS_ite, WP_bind, WP_ok, WP_asB, WP_ite, bindP, setAll, List.set_cons_zero, List.set_cons_succ, List.getElem?_cons_zero, List.getElem?_cons_succ, decide_true, decide_false, if_true, if_false, Bool.false_eq_true, Bool.not_true, Bool.not_false, isNop, partR, o_add, o_sub, o_lt, o_le, o_gt, o_ge, o_eqi, o_nei, o_eqs, o_nes, o_in, o_notin, o_lent, o_lenl, o_lenc, o_abs, o_min, o_max, o_tupl, o_tupt, o_sll, fin_f]
        have rest : ∀ (N : Fk.Env → St → Prop) (inner : D) (s5 : St), th 30 inner = true → Drew s4 r (c + 4) (10 * k) s5 → WS (exB (callF PP (m + 2)) [.ret (.bin .add false (.bin .add false (.sl false (.v 1) (.nop) (.v 8)) (.tup [.v 10])) (.sl false (.v 1) (.bin .add false (.v 8) (.c (.int 1))) (.nop)))] [some (.ref r), some (.tup ds), some (.int (k : Int)), some (.lst ODDS), some odd, some (.int way), none, none, some (.int at_), some (.int to), some inner] s5) N (fun d s' => Q d (s'.take (max s.length d.top))) := fun N inner s5 hi d5 => by
          rw [exB_cons]
          simp -implicitDefEqProofs only [exB_nil, exS_expr, exS_set, exS_setSub, exS_fz, exS_ife, exS_ret, exS_pass, den_nop, den_c, den_v, den_bin, den_neg, den_cmp, den_chain, den_and, den_or, den_not, den_ite, den_tup, den_lst, den_sub, den_rev, den_callv, exS_raise, exS_tryR, den_sl, den_call, den_blt, den_meth, denL_nil, denL_cons, WS_seq, WS_toS, WS_nx, WS_rt, WS_asB, WS_ite, WP_bind, WP_ok, WP_asB, WP_ite, bindP, setAll, List.set_cons_zero, List.set_cons_succ, List.getElem?_cons_zero, List.getElem?_cons_succ, decide_true, decide_false, if_true, if_false, Bool.false_eq_true, Bool.not_true, Bool.not_false, isNop, partR, o_add, o_sub, o_lt, o_le, o_gt, o_ge, o_eqi, o_nei, o_eqs, o_nes, o_in, o_notin, o_lent, o_lenl, o_lenc, o_abs, o_min, o_max, o_tupl, o_tupt, o_sll, fin_f, o_tsl]
          obtain ⟨q1, q2⟩ := three (cut ds none (some at_)) [inner] (cut ds (some (at_ + 1)) none) s5 (by omega) (by simp) (by omega)
          rw [q1]
          simp -implicitDefEqProofs only [exB_nil, exS_expr, exS_set, exS_setSub, exS_fz, exS_ife, exS_ret, exS_pass, den_nop, den_c, den_v, den_bin, den_neg, den_cmp, den_chain, den_and, den_or, den_not, den_ite, den_tup, den_lst, den_sub, den_rev, den_callv, exS_raise, exS_tryR, den_sl, den_call, den_blt, den_meth, denL_nil, denL_cons, WS_seq, WS_toS, WS_nx, WS_rt, WS_asB, WS_ite, WP_bind, WP_ok, WP_asB, WP_ite, bindP, setAll, List.set_cons_zero, List.set_cons_succ, List.getElem?_cons_zero, List.getElem?_cons_succ, decide_true, decide_false, if_true, if_false, Bool.false_eq_true, Bool.not_true, Bool.not_false, isNop, partR, o_add, o_sub, o_lt, o_le, o_gt, o_ge, o_eqi, o_nei, o_eqs, o_nes, o_in, o_notin, o_lent, o_lenl, o_lenc, o_abs, o_min, o_max, o_tupl, o_tupt, o_sll, fin_f, o_tsl]
          rw [q2]
          simp -implicitDefEqProofs only [exB_nil, exS_expr, exS_set, exS_setSub, exS_fz, exS_ife, exS_ret, exS_pass, den_nop, den_c, den_v, den_bin, den_neg, den_cmp, den_chain, den_and, den_or, den_not, den_ite, den_tup, den_lst, den_sub, den_rev, den_callv, exS_raise, exS_tryR, den_sl, den_call, den_blt, den_meth, denL_nil, denL_cons, WS_seq, WS_toS, WS_nx, WS_rt, WS_asB, WS_ite, WP_bind, WP_ok, WP_asB, WP_ite, bindP, setAll, List.set_cons_zero, List.set_cons_succ, List.getElem?_cons_zero, List.getElem?_cons_succ, decide_true, decide_false, if_true, if_false, Bool.false_eq_true, Bool.not_true, Bool.not_false, isNop, partR, o_add, o_sub, o_lt, o_le, o_gt, o_ge, o_eqi, o_nei, o_eqs, o_nes, o_in, o_notin, o_lent, o_lenl, o_lenc, o_abs, o_min, o_max, o_tupl, o_tupt, o_sll, fin_f]
          exact fin _ _ (th_of_tup (by simp; omega) (app (app (cc _ _) (one_ _ hi)) (cc _ _))) (D4.to d5 (by omega))
        by_cases ck : (0 : Int) < (k : Int)
        · simp -implicitDefEqProofs only [exB_nil, exS_expr, exS_set, exS_setSub, exS_fz, exS_ife, exS_ret, exS_pass, den_nop, den_c, den_v, den_bin, den_neg, den_cmp, den_chain, den_and, den_or, den_not, den_ite, den_tup, den_lst, den_sub, den_rev, den_callv, exS_raise, exS_tryR, den_sl, den_call, den_blt, den_meth, denL_nil, denL_cons, WS_seq, WS_toS, WS_nx, WS_rt, WS_asB, WS_ite, WP_bind, WP_ok, WP_asB, WP_ite, bindP, setAll, List.set_cons_zero, List.set_cons_succ, List.getElem?_cons_zero, List.getElem?_cons_succ, decide_true, decide_false, if_true, if_false, Bool.false_eq_true, Bool.not_true, Bool.not_false, isNop, partR, o_add, o_sub, o_lt, o_le, o_gt, o_ge, o_eqi, o_nei, o_eqs, o_nes, o_in, o_notin, o_lent, o_lenl, o_lenc, o_abs, o_min, o_max, o_tupl, o_tupt, o_sll, fin_f, ck]
          refine wp_att a0' a1 fun e he => ?_
          (try simp -implicitDefEqProofs only [exB_nil, exS_expr, exS_set, exS_setSub, exS_fz, exS_ife, exS_ret, exS_pass, den_nop, den_c, den_v, den_bin, den_neg, den_cmp, den_chain, den_and, den_or, den_not, den_ite, den_tup, den_lst, den_sub, den_rev, den_callv, exS_raise, exS_tryR, den_sl, den_call, den_blt, den_meth, denL_nil, denL_cons, WS_seq, WS_toS, WS_nx, WS_rt, WS_asB, WS_ite, WP_bind, WP_ok, WP_asB, WP_ite, bindP, setAll, List.set_cons_zero, List.set_cons_succ, List.getElem?_cons_zero, List.getElem?_cons_succ, decide_true, decide_false, if_true, if_false, Bool.false_eq_true, Bool.not_true, Bool.not_false, isNop, partR, o_add, o_sub, o_lt, o_le, o_gt, o_ge, o_eqi, o_nei, o_eqs, o_nes, o_in, o_notin, o_lent, o_lenl, o_lenc, o_abs, o_min, o_max, o_tupl, o_tupt, o_sll, fin_f])
          refine hin e (c + 4) s4 _ (by omega) (hds e he) D4.pot (by omega) fun inner s5 hi d5 => ?_
          exact rest _ inner s5 hi d5
        · simp -implicitDefEqProofs only [exB_nil, exS_expr, exS_set, exS_setSub, exS_fz, exS_ife, exS_ret, exS_pass, den_nop, den_c, den_v, den_bin, den_neg, den_cmp, den_chain, den_and, den_or, den_not, den_ite, den_tup, den_lst, den_sub, den_rev, den_callv, exS_raise, exS_tryR, den_sl, den_call, den_blt, den_meth, denL_nil, denL_cons, WS_seq, WS_toS, WS_nx, WS_rt, WS_asB, WS_ite, WP_bind, WP_ok, WP_asB, WP_ite, bindP, setAll, List.set_cons_zero, List.set_cons_succ, List.getElem?_cons_zero, List.getElem?_cons_succ, decide_true, decide_false, if_true, if_false, Bool.false_eq_true, Bool.not_true, Bool.not_false, isNop, partR, o_add, o_sub, o_lt, o_le, o_gt, o_ge, o_eqi, o_nei, o_eqs, o_nes, o_in, o_notin, o_lent, o_lenl, o_lenc, o_abs, o_min, o_max, o_tupl, o_tupt, o_sll, fin_f, ck]
          refine rest _ odd s4 (th_mono (by omega) _ todd) ?_
          exact (Drew.refl D4.pot).mono (by omega)
      · simp -implicitDefEqProofs only [exB_nil, exS_expr, exS_set, exS_setSub, exS_fz, exS_ife, exS_ret, exS_pass, den_nop, den_c, den_v, den_bin, den_neg, den_cmp, den_chain, den_and, den_or, den_not, den_ite, den_tup, den_lst, den_sub, den_rev, den_callv, exS_raise, exS_tryR, den_sl, den_call, den_blt, den_meth, denL_nil, denL_cons, WS_seq, WS_toS, WS_nx, WS_rt, WS_asB, WS_ite, WP_bind, WP_ok, WP_asB, WP_ite, bindP, setAll, List.set_cons_zero, List.set_cons_succ, List.getElem?_cons_zero, List.getElem?_cons_succ, decide_true, decide_false, if_true, if_false, Bool.false_eq_true, Bool.not_true, Bool.not_false, isNop, partR, o_add, o_sub, o_lt, o_le, o_gt, o_ge, o_eqi, o_nei, o_eqs, o_nes, o_in, o_notin, o_lent, o_lenl, o_lenc, o_abs, o_min, o_max, o_tupl, o_tupt, o_sll, fin_f, c4, exB_nil]
        rw [exB_cons]
        have pl : D.pureL ds = true := by
          have := th_pure _ hd
          unfold D.pure at this
          exact this
        have tl : s4.length = s.length := D4.length
        have al : bltD .list_ true [.tup ds] s4 = .ok (.ref s.length) (s4 ++ [.lst ds]) := by
          show (if (O.lst ds).pure then R.ok (D.ref s4.length) (s4 ++ [.lst ds]) else .bad) = _
          have : (O.lst ds).pure = true := pl
          rw [if_pos this, tl]
        simp -implicitDefEqProofs only [exB_nil, exS_expr, exS_set, exS_setSub, exS_fz, exS_ife, exS_ret, exS_pass, den_nop, den_c, den_v, den_bin, den_neg, den_cmp, den_chain, den_and, den_or, den_not, den_ite, den_tup, den_lst, den_sub, den_rev, den_callv, exS_raise, exS_tryR, den_sl, den_call, den_blt, den_meth, denL_nil, denL_cons, WS_seq, WS_toS, WS_nx, WS_rt, WS_asB, WS_ite, WP_bind, WP_ok, WP_asB, WP_ite, bindP, setAll, List.set_cons_zero, List.set_cons_succ, List.getElem?_cons_zero, List.getElem?_cons_succ, decide_true, decide_false, if_true, if_false, Bool.false_eq_true, Bool.not_true, Bool.not_false, isNop, partR, o_add, o_sub, o_lt, o_le, o_gt, o_ge, o_eqi, o_nei, o_eqs, o_nes, o_in, o_notin, o_lent, o_lenl, o_lenc, o_abs, o_min, o_max, o_tupl, o_tupt, o_sll, fin_f, al]
        rw [exB_cons, exS_swap]
        have sb : ∀ (ds : List D) (i : Int) (x : D), atI ds i = some x → subD (.ref s.length) (.int i) (s4 ++ [.lst ds]) = .ok x (s4 ++ [.lst ds]) := fun ds i x e => by
          have : rd (s4 ++ [.lst ds]) (.ref s.length) = .lst ds := by simp only [rd, ← tl, snoc_get]
          simp only [subD, this, e]
        obtain ⟨x1', hx1, ex1⟩ := atI_mem a0' a1
        obtain ⟨x2', hx2, ex2⟩ := atI_mem t0 t1
        have st : ∀ (ds' : List D) (i : Int) (x : D) (env : Fk.Env), ds'.length = ds.length → 0 ≤ i → i < ds.length → x.pure = true → setAtD (.ref s.length) (.int i) x env (s4 ++ [.lst ds']) = .ok (.nx env) (s4 ++ [.lst (ds'.set i.toNat x)]) := fun ds' i x env hl i0 i1 px => by
          simp only [setAtD, setAt, ← tl, snoc_get, snoc_set]
          rw [ixN_ok i0 (by rw [hl]; exact i1)]
          simp only [px, if_true]
        (try simp -implicitDefEqProofs only [exB_nil, exS_expr, exS_set, exS_setSub, exS_fz, exS_ife, exS_ret, exS_pass, den_nop, den_c, den_v, den_bin, den_neg, den_cmp, den_chain, den_and, den_or, den_not, den_ite, den_tup, den_lst, den_sub, den_rev, den_callv, exS_raise, exS_tryR, den_sl, den_call, den_blt, den_meth, denL_nil, denL_cons, WS_seq, WS_toS, WS_nx, WS_rt, WS_asB, WS_ite, WP_bind, WP_ok, WP_asB, WP_ite, bindP, setAll, List.set_cons_zero, List.set_cons_succ, List.getElem?_cons_zero, List.getElem?_cons_succ, decide_true, decide_false, if_true, if_false, Bool.false_eq_true, Bool.not_true, Bool.not_false, isNop, partR, o_add, o_sub, o_lt, o_le, o_gt, o_ge, o_eqi, o_nei, o_eqs, o_nes, o_in, o_notin, o_lent, o_lenl, o_lenc, o_abs, o_min, o_max, o_tupl, o_tupt, o_sll, fin_f, sb _ _ _ ex1, sb _ _ _ ex2])
        rw [st ds at_ x2' _ rfl a0' a1 (th_pure _ (hds _ hx2))]
        (try simp -implicitDefEqProofs only [exB_nil, exS_expr, exS_set, exS_setSub, exS_fz, exS_ife, exS_ret, exS_pass, den_nop, den_c, den_v, den_bin, den_neg, den_cmp, den_chain, den_and, den_or, den_not, den_ite, den_tup, den_lst, den_sub, den_rev, den_callv, exS_raise, exS_tryR, den_sl, den_call, den_blt, den_meth, denL_nil, denL_cons, WS_seq, WS_toS, WS_nx, WS_rt, WS_asB, WS_ite, WP_bind, WP_ok, WP_asB, WP_ite, bindP, setAll, List.set_cons_zero, List.set_cons_succ, List.getElem?_cons_zero, List.getElem?_cons_succ, decide_true, decide_false, if_true, if_false, Bool.false_eq_true, Bool.not_true, Bool.not_false, isNop, partR, o_add, o_sub, o_lt, o_le, o_gt, o_ge, o_eqi, o_nei, o_eqs, o_nes, o_in, o_notin, o_lent, o_lenl, o_lenc, o_abs, o_min, o_max, o_tupl, o_tupt, o_sll, fin_f])
        rw [st _ to x1' _ (by simp) t0 t1 (th_pure _ (hds _ hx1))]
        generalize hgs : (ds.set at_.toNat x2').set to.toNat x1' = gs
        have lgs : gs.length = ds.length := by rw [← hgs]; simp
        have tgs : ∀ e ∈ gs, th 30 e = true := fun e he => by
          rw [← hgs] at he
          rcases mem_set he with he | rfl
          · rcases mem_set he with he | rfl
            · exact t30 e he
            · exact t30 _ hx2
          · exact t30 _ hx1
        (try simp -implicitDefEqProofs only [exB_nil, exS_expr, exS_set, exS_setSub, exS_fz, exS_ife, exS_ret, exS_pass, den_nop, den_c, den_v, den_bin, den_neg, den_cmp, den_chain, den_and, den_or, den_not, den_ite, den_tup, den_lst, den_sub, den_rev, den_callv, exS_raise, exS_tryR, den_sl, den_call, den_blt, den_meth, denL_nil, denL_cons, WS_seq, WS_toS, WS_nx, WS_rt, WS_asB, WS_ite, WP_bind, WP_ok, WP_asB, WP_ite, bindP, setAll, List.set_cons_zero, List.set_cons_succ, List.getElem?_cons_zero, List.getElem?_cons_succ, decide_true, decide_false, if_true, if_false, Bool.false_eq_true, Bool.not_true, Bool.not_false, isNop, partR, o_add, o_sub, o_lt, o_le, o_gt, o_ge, o_eqi, o_nei, o_eqs, o_nes, o_in, o_notin, o_lent, o_lenl, o_lenc, o_abs, o_min, o_max, o_tupl, o_tupt, o_sll, fin_f])
        rw [exB_cons]
        have fz : freeze 6 [some (.ref r), some (.tup ds), some (.int (k : Int)), some (.lst ODDS), some odd, some (.int way), some (.ref s.length), none, some (.int at_), some (.int to), none] (s4 ++ [.lst gs]) = .ok (.nx [some (.ref r), some (.tup ds), some (.int (k : Int)), some (.lst ODDS), some odd, some (.int way), some (.lst gs), none, some (.int at_), some (.int to), none]) (s4 ++ [.gone]) := by
          simp [freeze, ← tl]
        (try simp -implicitDefEqProofs only [exB_nil, exS_expr, exS_set, exS_setSub, exS_fz, exS_ife, exS_ret, exS_pass, den_nop, den_c, den_v, den_bin, den_neg, den_cmp, den_chain, den_and, den_or, den_not, den_ite, den_tup, den_lst, den_sub, den_rev, den_callv, exS_raise, exS_tryR, den_sl, den_call, den_blt, den_meth, denL_nil, denL_cons, WS_seq, WS_toS, WS_nx, WS_rt, WS_asB, WS_ite, WP_bind, WP_ok, WP_asB, WP_ite, bindP, setAll, List.set_cons_zero, List.set_cons_succ, List.getElem?_cons_zero, List.getElem?_cons_succ, decide_true, decide_false, if_true, if_false, Bool.false_eq_true, Bool.not_true, Bool.not_false, isNop, partR, o_add, o_sub, o_lt, o_le, o_gt, o_ge, o_eqi, o_nei, o_eqs, o_nes, o_in, o_notin, o_lent, o_lenl, o_lenc, o_abs, o_min, o_max, o_tupl, o_tupt, o_sll, fin_f, fz])
        generalize hS : s4 ++ [O.gone] = S
        have pS : Pot S r (c + 4) := by rw [← hS]; exact D4.pot.snoc
        rw [exB_cons]
        simp -implicitDefEqProofs only [exB_nil, exS_expr, exS_set, exS_setSub, exS_fz, exS_ife, exS_ret, exS_pass, den_nop, den_c, den_v, den_bin, den_neg, den_cmp, den_chain, den_and, den_or, den_not, den_ite, den_tup, den_lst, den_sub, den_rev, den_callv, exS_raise, exS_tryR, den_sl, den_call, den_blt, den_meth, denL_nil, denL_cons, WS_seq, WS_toS, WS_nx, WS_rt, WS_asB, WS_ite, WP_bind, WP_ok, WP_asB, WP_ite, bindP, setAll, List.set_cons_zero, List.set_cons_succ, List.getElem?_cons_zero, List.getElem?_cons_succ, decide_true, decide_false, if_true, if_false, Bool.false_eq_true, Bool.not_true, Bool.not_false, isNop, partR, o_add, o_sub, o_lt, o_le, o_gt, o_ge, o_eqi, o_nei, o_eqs, o_nes, o_in, o_notin, o_lent, o_lenl, o_lenc, o_abs, o_min, o_max, o_tupl, o_tupt, o_sll, fin_f, o_tsl]
        obtain ⟨q1, q2⟩ := three (cut ds none (some at_)) [odd] (cut ds (some (at_ + 1)) none) S (by omega) (by simp) (by omega)
        obtain ⟨q3, _⟩ := three (cut ds none (some at_)) (cut ds (some (at_ + 1)) none) [] S (by omega) (by omega) (by simp)
        obtain ⟨q4, q5⟩ := three (cut ds none (some at_)) (cut ds (some at_) (some (at_ + 1))) (cut ds (some at_) none) S (by omega) (by omega) (by omega)
        rw [q1]
        simp -implicitDefEqProofs only [exB_nil, exS_expr, exS_set, exS_setSub, exS_fz, exS_ife, exS_ret, exS_pass, den_nop, den_c, den_v, den_bin, den_neg, den_cmp, den_chain, den_and, den_or, den_not, den_ite, den_tup, den_lst, den_sub, den_rev, den_callv, exS_raise, exS_tryR, den_sl, den_call, den_blt, den_meth, denL_nil, denL_cons, WS_seq, WS_toS, WS_nx, WS_rt, WS_asB, WS_ite, WP_bind, WP_ok, WP_asB, WP_ite, bindP, setAll, List.set_cons_zero, List.set_cons_succ, List.getElem?_cons_zero, List.getElem?_cons_succ, decide_true, decide_false, if_true, if_false, Bool.false_eq_true, Bool.not_true, Bool.not_false, isNop, partR, o_add, o_sub, o_lt, o_le, o_gt, o_ge, o_eqi, o_nei, o_eqs, o_nes, o_in, o_notin, o_lent, o_lenl, o_lenc, o_abs, o_min, o_max, o_tupl, o_tupt, o_sll, fin_f, o_tsl]
        rw [q2]
        simp -implicitDefEqProofs only [exB_nil, exS_expr, exS_set, exS_setSub, exS_fz, exS_ife, exS_ret, exS_pass, den_nop, den_c, den_v, den_bin, den_neg, den_cmp, den_chain, den_and, den_or, den_not, den_ite, den_tup, den_lst, den_sub, den_rev, den_callv, exS_raise, exS_tryR, den_sl, den_call, den_blt, den_meth, denL_nil, denL_cons, WS_seq, WS_toS, WS_nx, WS_rt, WS_asB, WS_ite, WP_bind, WP_ok, WP_asB, WP_ite, bindP, setAll, List.set_cons_zero, List.set_cons_succ, List.getElem?_cons_zero, List.getElem?_cons_succ, decide_true, decide_false, if_true, if_false, Bool.false_eq_true, Bool.not_true, Bool.not_false, isNop, partR, o_add, o_sub, o_lt, o_le, o_gt, o_ge, o_eqi, o_nei, o_eqs, o_nes, o_in, o_notin, o_lent, o_lenl, o_lenc, o_abs, o_min, o_max, o_tupl, o_tupt, o_sll, fin_f, o_tsl]
        rw [q3]
        simp -implicitDefEqProofs only [exB_nil, exS_expr, exS_set, exS_setSub, exS_fz, exS_ife, exS_ret, exS_pass, den_nop, den_c, den_v, den_bin, den_neg, den_cmp, den_chain, den_and, den_or, den_not, den_ite, den_tup, den_lst, den_sub, den_rev, den_callv, exS_raise, exS_tryR, den_sl, den_call, den_blt, den_meth, denL_nil, denL_cons, WS_seq, WS_toS, WS_nx, WS_rt, WS_asB, WS_ite, WP_bind, WP_ok, WP_asB, WP_ite, bindP, setAll, List.set_cons_zero, List.set_cons_succ, List.getElem?_cons_zero, List.getElem?_cons_succ, decide_true, decide_false, if_true, if_false, Bool.false_eq_true, Bool.not_true, Bool.not_false, isNop, partR, o_add, o_sub, o_lt, o_le, o_gt, o_ge, o_eqi, o_nei, o_eqs, o_nes, o_in, o_notin, o_lent, o_lenl, o_lenc, o_abs, o_min, o_max, o_tupl, o_tupt, o_sll, fin_f]
        rw [exB_cons]
        simp -implicitDefEqProofs only [exB_nil, exS_expr, exS_set, exS_setSub, exS_fz, exS_ife, exS_ret, exS_pass, den_nop, den_c, den_v, den_bin, den_neg, den_cmp, den_chain, den_and, den_or, den_not, den_ite, den_tup, den_lst, den_sub, den_rev, den_callv, exS_raise, exS_tryR, den_sl, den_call, den_blt, den_meth, denL_nil, denL_cons, WS_seq, WS_toS, WS_nx, WS_rt, WS_asB, WS_ite, WP_bind, WP_ok, WP_asB, WP_ite, bindP, setAll, List.set_cons_zero, List.set_cons_succ, List.getElem?_cons_zero, List.getElem?_cons_succ, decide_true, decide_false, if_true, if_false, Bool.false_eq_true, Bool.not_true, Bool.not_false, isNop, partR, o_add, o_sub, o_lt, o_le, o_gt, o_ge, o_eqi, o_nei, o_eqs, o_nes, o_in, o_notin, o_lent, o_lenl, o_lenc, o_abs, o_min, o_max, o_tupl, o_tupt, o_sll, fin_f, o_tsl]
        rw [q4]
        simp -implicitDefEqProofs only [exB_nil, exS_expr, exS_set, exS_setSub, exS_fz, exS_ife, exS_ret, exS_pass, den_nop, den_c, den_v, den_bin, den_neg, den_cmp, den_chain, den_and, den_or, den_not, den_ite, den_tup, den_lst, den_sub, den_rev, den_callv, exS_raise, exS_tryR, den_sl, den_call, den_blt, den_meth, denL_nil, denL_cons, WS_seq, WS_toS, WS_nx, WS_rt, WS_asB, WS_ite, WP_bind, WP_ok, WP_asB, WP_ite, bindP, setAll, List.set_cons_zero, List.set_cons_succ, List.getElem?_cons_zero, List.getElem?_cons_succ, decide_true, decide_false, if_true, if_false, Bool.false_eq_true, Bool.not_true, Bool.not_false, isNop, partR, o_add, o_sub, o_lt, o_le, o_gt, o_ge, o_eqi, o_nei, o_eqs, o_nes, o_in, o_notin, o_lent, o_lenl, o_lenc, o_abs, o_min, o_max, o_tupl, o_tupt, o_sll, fin_f, o_tsl]
        rw [q5]
        simp -implicitDefEqProofs only [exB_nil, exS_expr, exS_set, exS_setSub, exS_fz, exS_ife, exS_ret, exS_pass, den_nop, den_c, den_v, den_bin, den_neg, den_cmp, den_chain, den_and, den_or, den_not, den_ite, den_tup, den_lst, den_sub, den_rev, den_callv, exS_raise, exS_tryR, den_sl, den_call, den_blt, den_meth, denL_nil, denL_cons, WS_seq, WS_toS, WS_nx, WS_rt, WS_asB, WS_ite, WP_bind, WP_ok, WP_asB, WP_ite, bindP, setAll, List.set_cons_zero, List.set_cons_succ, List.getElem?_cons_zero, List.getElem?_cons_succ, decide_true, decide_false, if_true, if_false, Bool.false_eq_true, Bool.not_true, Bool.not_false, isNop, partR, o_add, o_sub, o_lt, o_le, o_gt, o_ge, o_eqi, o_nei, o_eqs, o_nes, o_in, o_notin, o_lent, o_lenl, o_lenc, o_abs, o_min, o_max, o_tupl, o_tupt, o_sll, fin_f]
        rw [o_app (by simp [sizeLine])]
        simp -implicitDefEqProofs only [exB_nil, exS_expr, exS_set, exS_setSub, exS_fz, exS_ife, exS_ret, exS_pass, den_nop, den_c, den_v, den_bin, den_neg, den_cmp, den_chain, den_and, den_or, den_not, den_ite, den_tup, den_lst, den_sub, den_rev, den_callv, exS_raise, exS_tryR, den_sl, den_call, den_blt, den_meth, denL_nil, denL_cons, WS_seq, WS_toS, WS_nx, WS_rt, WS_asB, WS_ite, WP_bind, WP_ok, WP_asB, WP_ite, bindP, setAll, List.set_cons_zero, List.set_cons_succ, List.getElem?_cons_zero, List.getElem?_cons_succ, decide_true, decide_false, if_true, if_false, Bool.false_eq_true, Bool.not_true, Bool.not_false, isNop, partR, o_add, o_sub, o_lt, o_le, o_gt, o_ge, o_eqi, o_nei, o_eqs, o_nes, o_in, o_notin, o_lent, o_lenl, o_lenc, o_abs, o_min, o_max, o_tupl, o_tupt, o_sll, fin_f, List.cons_append, List.nil_append]
        rw [exB_cons]
        have q6 : binD .add false (.tup ds) (.tup [odd]) S = .ok (.tup (ds ++ [odd])) S := o_tadd (by simp; omega)
        simp -implicitDefEqProofs only [exB_nil, exS_expr, exS_set, exS_setSub, exS_fz, exS_ife, exS_ret, exS_pass, den_nop, den_c, den_v, den_bin, den_neg, den_cmp, den_chain, den_and, den_or, den_not, den_ite, den_tup, den_lst, den_sub, den_rev, den_callv, exS_raise, exS_tryR, den_sl, den_call, den_blt, den_meth, denL_nil, denL_cons, WS_seq, WS_toS, WS_nx, WS_rt, WS_asB, WS_ite, WP_bind, WP_ok, WP_asB, WP_ite, bindP, setAll, List.set_cons_zero, List.set_cons_succ, List.getElem?_cons_zero, List.getElem?_cons_succ, decide_true, decide_false, if_true, if_false, Bool.false_eq_true, Bool.not_true, Bool.not_false, isNop, partR, o_add, o_sub, o_lt, o_le, o_gt, o_ge, o_eqi, o_nei, o_eqs, o_nes, o_in, o_notin, o_lent, o_lenl, o_lenc, o_abs, o_min, o_max, o_tupl, o_tupt, o_sll, fin_f, o_tlist, q6]
        refine take_ (m + 1) pS (by omega) (by decide) (by decide +kernel) fun y s5 y0 y1 d5 => ?_
        refine wp_at y0 (by simp; omega) fun d5' hd5 => ?_
        have tdd : th 30 d5' = true := by
          simp only [List.mem_cons, List.not_mem_nil, or_false] at hd5
          rcases hd5 with rfl | rfl
          · exact th_of_lst (by omega) t30
          · exact th_of_tup (by simp; omega) (app t30 (one_ _ (th_mono (by omega) _ todd)))
        (try simp -implicitDefEqProofs only [exB_nil, exS_expr, exS_set, exS_setSub, exS_fz, exS_ife, exS_ret, exS_pass, den_nop, den_c, den_v, den_bin, den_neg, den_cmp, den_chain, den_and, den_or, den_not, den_ite, den_tup, den_lst, den_sub, den_rev, den_callv, exS_raise, exS_tryR, den_sl, den_call, den_blt, den_meth, denL_nil, denL_cons, WS_seq, WS_toS, WS_nx, WS_rt, WS_asB, WS_ite, WP_bind, WP_ok, WP_asB, WP_ite, bindP, setAll, List.set_cons_zero, List.set_cons_succ, List.getElem?_cons_zero, List.getElem?_cons_succ, decide_true, decide_false, if_true, if_false, Bool.false_eq_true, Bool.not_true, Bool.not_false, isNop, partR, o_add, o_sub, o_lt, o_le, o_gt, o_ge, o_eqi, o_nei, o_eqs, o_nes, o_in, o_notin, o_lent, o_lenl, o_lenc, o_abs, o_min, o_max, o_tupl, o_tupt, o_sll, fin_f])
        rw [o_app (by simp [sizeLine])]
        simp -implicitDefEqProofs only [exB_nil, exS_expr, exS_set, exS_setSub, exS_fz, exS_ife, exS_ret, exS_pass, den_nop, den_c, den_v, den_bin, den_neg, den_cmp, den_chain, den_and, den_or, den_not, den_ite, den_tup, den_lst, den_sub, den_rev, den_callv, exS_raise, exS_tryR, den_sl, den_call, den_blt, den_meth, denL_nil, denL_cons, WS_seq, WS_toS, WS_nx, WS_rt, WS_asB, WS_ite, WP_bind, WP_ok, WP_asB, WP_ite, bindP, setAll, List.set_cons_zero, List.set_cons_succ, List.getElem?_cons_zero, List.getElem?_cons_succ, decide_true, decide_false, if_true, if_false, Bool.false_eq_true, Bool.not_true, Bool.not_false, isNop, partR, o_add, o_sub, o_lt, o_le, o_gt, o_ge, o_eqi, o_nei, o_eqs, o_nes, o_in, o_notin, o_lent, o_lenl, o_lenc, o_abs, o_min, o_max, o_tupl, o_tupt, o_sll, fin_f, List.cons_append, List.nil_append]
        refine wp_at (by omega) (by simp; omega) fun e he => ?_
        subst hS
        obtain ⟨t5, rfl, d5'⟩ := Drew.snoc (by rw [tl]; exact hr) d5
        have te : th 30 e = true := by
          simp only [List.mem_cons, List.not_mem_nil, or_false] at he
          have to30 : th 30 odd = true := th_mono (by omega) _ todd
          rcases he with rfl | rfl | rfl | rfl | rfl
          · exact th_of_tup (by simp; omega) (by simpa using app (app (cc none (some at_)) (one_ _ to30)) (cc (some (at_ + 1)) none))
          · exact th_of_tup (by simp; omega) (app (cc none (some at_)) (cc (some (at_ + 1)) none))
          · exact th_of_tup (by simp; omega) (by simpa using app (app (cc none (some at_)) (cc (some at_) (some (at_ + 1)))) (cc (some at_) none))
          · exact th_of_tup (by omega) tgs
          · exact tdd
        have e5 : (t5 ++ [O.gone]).take (max s.length e.top) = t5 := by
          rw [th_top _ te, Nat.max_zero, ← D4.length, ← d5'.length]; simp
        rw [e5]
        exact h _ _ te ((D4.to d5' (m := 5) (by omega)).mono (by omega))
theorem d_bent (n : Nat) : ∀ (k : Nat) {r c : Nat} {d : D} {s : St} {Q : D → St → Prop}, th 7 d = true → Pot s r c → c + 10 * (k + 1) ≤ 80000 → (∀ d' s', th 30 d' = true → Drew s r c (10 * (k + 1)) s' → Q d' s') → WP (callF PP (n + k + 3) 35 [.ref r, d, .int k] s) Q := by
  intro k
  induction k with
  | zero =>
    intro r c d s Q hd hp hc h
    exact bent_step (n + 0) 0 (fun _ _ _ _ q => absurd q (Nat.lt_irrefl _)) hd hp hc h
  | succ k ih =>
    intro r c d s Q hd hp hc h
    refine bent_step (n + (k + 1)) (k + 1) (fun e c1 s1 Q1 _ he hp1 hc1 h1 => ?_) hd hp hc h
    have z : (((k + 1 : Nat) : Int) - 1) = (k : Int) := by omega
    rw [z]
    exact ih he hp1 hc1 h1
end Lw_k37

set_option Elab.async false
set_option linter.all false
set_option autoImplicit false
set_option maxRecDepth 100000
set_option maxHeartbeats 4000000
namespace Lw_k37
open Fk
theorem ksa_word : ∀ d ∈ KSA, ∃ w cs, d = .str w ∧ TBL.lookup w = some cs := by
  intro d hd
  unfold KSA at hd
  obtain ⟨p, hp, rfl⟩ := List.mem_map.mp hd
  have : ∀ p ∈ TBL, TBL.lookup p.1 = some p.2 := by decide
  exact ⟨p.1, p.2, rfl, this p hp⟩
theorem plain (ns : List Int) (hn : ns.length ≤ 63) : ∃ s, callF PP 31 36 [.scr ns] [] = .ok (.bl true) s := by
  have main : WP (callF PP 31 36 [.scr ns] []) fun d _ => d = .bl true := by
    rw [callF_eq (n := 30) (fn := fn36) rfl rfl, WP_back]
    show WS (exB _ fn36.body [some (.scr ns), none, none, none, none, none, none, none, none, none] []) _ _
    have ef : ∀ s : St, callF PP 30 28 [] s = .ok (.dic KSA VSA) s := fun s => e_forms 29 s
    have eo : ∀ s : St, callF PP 30 34 [] s = .ok (.lst ODDS) s := fun s => e_odds 29 s
    have lo : (ODDS.length : Int) = 26 := rfl
    have ll : ∀ s : St, bltD .list_ false [.dic KSA VSA] s = .ok (.lst KSA) s := fun _ => rfl
    rw [fn36, exB_cons]
    simp -implicitDefEqProofs only [exB_nil, exS_expr, exS_set, exS_setSub, exS_fz, exS_ife, exS_ret, exS_pass, den_nop, den_c, den_v, den_bin, den_neg, den_cmp, den_chain, den_and, den_or, den_not, den_ite, den_tup, den_lst, den_sub, den_rev, den_callv, exS_raise, exS_tryR, den_sl, den_call, den_blt, den_meth, denL_nil, denL_cons, WS_seq, WS_toS, WS_nx, WS_rt, WS_asB, WS_ite, WP_bind, WP_ok, WP_asB, WP_ite, bindP, setAll, List.set_cons_zero, List.set_cons_succ, List.getElem?_cons_zero, List.getElem?_cons_succ, decide_true, decide_false, if_true, if_false, Bool.false_eq_true, Bool.not_true, Bool.not_false, isNop, partR, o_add, o_sub, o_lt, o_le, o_gt, o_ge, o_eqi, o_nei, o_eqs, o_nes, o_in, o_notin, o_lent, o_lenl, o_lenc, o_abs, o_min, o_max, o_tupl, o_tupt, o_sll, fin_f, ef, ll]
    rw [exB_cons, exS_forr]
    simp -implicitDefEqProofs only [exB_nil, exS_expr, exS_set, exS_setSub, exS_fz, exS_ife, exS_ret, exS_pass, den_nop, den_c, den_v, den_bin, den_neg, den_cmp, den_chain, den_and, den_or, den_not, den_ite, den_tup, den_lst, den_sub, den_rev, den_callv, exS_raise, exS_tryR, den_sl, den_call, den_blt, den_meth, denL_nil, denL_cons, WS_seq, WS_toS, WS_nx, WS_rt, WS_asB, WS_ite, WP_bind, WP_ok, WP_asB, WP_ite, bindP, setAll, List.set_cons_zero, List.set_cons_succ, List.getElem?_cons_zero, List.getElem?_cons_succ, decide_true, decide_false, if_true, if_false, Bool.false_eq_true, Bool.not_true, Bool.not_false, isNop, partR, o_add, o_sub, o_lt, o_le, o_gt, o_ge, o_eqi, o_nei, o_eqs, o_nes, o_in, o_notin, o_lent, o_lenl, o_lenc, o_abs, o_min, o_max, o_tupl, o_tupt, o_sll, fin_f]
    have z : sizeLine = 16777216 := rfl
    have zf : far = 4611686018427387904 := rfl
    generalize hm : (if (if (ns.length : Int) < 16 then (ns.length : Int) else 16) > 2 then (if (ns.length : Int) < 16 then (ns.length : Int) else 16) else 2) = m
    have m0 : 0 ≤ m := by rw [← hm]; split <;> omega
    have m1 : m ≤ 40 := by rw [← hm]; split <;> (try split) <;> omega
    rw [it_rng (by omega) (by omega)]
    (try simp -implicitDefEqProofs only [exB_nil, exS_expr, exS_set, exS_setSub, exS_fz, exS_ife, exS_ret, exS_pass, den_nop, den_c, den_v, den_bin, den_neg, den_cmp, den_chain, den_and, den_or, den_not, den_ite, den_tup, den_lst, den_sub, den_rev, den_callv, exS_raise, exS_tryR, den_sl, den_call, den_blt, den_meth, denL_nil, denL_cons, WS_seq, WS_toS, WS_nx, WS_rt, WS_asB, WS_ite, WP_bind, WP_ok, WP_asB, WP_ite, bindP, setAll, List.set_cons_zero, List.set_cons_succ, List.getElem?_cons_zero, List.getElem?_cons_succ, decide_true, decide_false, if_true, if_false, Bool.false_eq_true, Bool.not_true, Bool.not_false, isNop, partR, o_add, o_sub, o_lt, o_le, o_gt, o_ge, o_eqi, o_nei, o_eqs, o_nes, o_in, o_notin, o_lent, o_lenl, o_lenc, o_abs, o_min, o_max, o_tupl, o_tupt, o_sll, fin_f])
    refine ws_for (fun i env s => ∃ e1 e2 e3 e4 e5 e6 e7 e8, env = [some (.scr ns), some (.lst KSA), e1, e2, e3, e4, e5, e6, e7, e8]) ⟨_, _, _, _, _, _, _, _, rfl⟩ (fun i d env s hi ⟨e1, e2, e3, e4, e5, e6, e7, e8, he⟩ => ?_) (fun env s ⟨e1, e2, e3, e4, e5, e6, e7, e8, he⟩ => ?_)
    · subst he
      refine ⟨_, rfl, ?_⟩
      obtain ⟨hi1, hi2⟩ := List.getElem?_eq_some_iff.mp hi
      have hd : ∃ k : Int, d = .int k ∧ 0 ≤ k ∧ k ≤ 40 := by
        rw [List.getElem_map] at hi2
        rw [List.length_map, List.length_range] at hi1
        refine ⟨_, hi2.symm, ?_, ?_⟩ <;> simp <;> omega
      obtain ⟨k, rfl, k0, k1⟩ := hd
      rw [exB_cons]
      simp -implicitDefEqProofs only [exB_nil, exS_expr, exS_set, exS_setSub, exS_fz, exS_ife, exS_ret, exS_pass, den_nop, den_c, den_v, den_bin, den_neg, den_cmp, den_chain, den_and, den_or, den_not, den_ite, den_tup, den_lst, den_sub, den_rev, den_callv, exS_raise, exS_tryR, den_sl, den_call, den_blt, den_meth, denL_nil, denL_cons, WS_seq, WS_toS, WS_nx, WS_rt, WS_asB, WS_ite, WP_bind, WP_ok, WP_asB, WP_ite, bindP, setAll, List.set_cons_zero, List.set_cons_succ, List.getElem?_cons_zero, List.getElem?_cons_succ, decide_true, decide_false, if_true, if_false, Bool.false_eq_true, Bool.not_true, Bool.not_false, isNop, partR, o_add, o_sub, o_lt, o_le, o_gt, o_ge, o_eqi, o_nei, o_eqs, o_nes, o_in, o_notin, o_lent, o_lenl, o_lenc, o_abs, o_min, o_max, o_tupl, o_tupt, o_sll, fin_f]
      refine wp_pot (P := PP) (n := 29) (f := 15) rfl k0 (by omega) fun p hp => ?_
      generalize hS : s ++ [p] = S at hp
      generalize s.length = r at hp
      (try simp -implicitDefEqProofs only [exB_nil, exS_expr, exS_set, exS_setSub, exS_fz, exS_ife, exS_ret, exS_pass, den_nop, den_c, den_v, den_bin, den_neg, den_cmp, den_chain, den_and, den_or, den_not, den_ite, den_tup, den_lst, den_sub, den_rev, den_callv, exS_raise, exS_tryR, den_sl, den_call, den_blt, den_meth, denL_nil, denL_cons, WS_seq, WS_toS, WS_nx, WS_rt, WS_asB, WS_ite, WP_bind, WP_ok, WP_asB, WP_ite, bindP, setAll, List.set_cons_zero, List.set_cons_succ, List.getElem?_cons_zero, List.getElem?_cons_succ, decide_true, decide_false, if_true, if_false, Bool.false_eq_true, Bool.not_true, Bool.not_false, isNop, partR, o_add, o_sub, o_lt, o_le, o_gt, o_ge, o_eqi, o_nei, o_eqs, o_nes, o_in, o_notin, o_lent, o_lenl, o_lenc, o_abs, o_min, o_max, o_tupl, o_tupt, o_sll, fin_f])
      rw [exB_cons, exS_forr]
      (try simp -implicitDefEqProofs only [exB_nil, exS_expr, exS_set, exS_setSub, exS_fz, exS_ife, exS_ret, exS_pass, den_nop, den_c, den_v, den_bin, den_neg, den_cmp, den_chain, den_and, den_or, den_not, den_ite, den_tup, den_lst, den_sub, den_rev, den_callv, exS_raise, exS_tryR, den_sl, den_call, den_blt, den_meth, denL_nil, denL_cons, WS_seq, WS_toS, WS_nx, WS_rt, WS_asB, WS_ite, WP_bind, WP_ok, WP_asB, WP_ite, bindP, setAll, List.set_cons_zero, List.set_cons_succ, List.getElem?_cons_zero, List.getElem?_cons_succ, decide_true, decide_false, if_true, if_false, Bool.false_eq_true, Bool.not_true, Bool.not_false, isNop, partR, o_add, o_sub, o_lt, o_le, o_gt, o_ge, o_eqi, o_nei, o_eqs, o_nes, o_in, o_notin, o_lent, o_lenl, o_lenc, o_abs, o_min, o_max, o_tupl, o_tupt, o_sll, fin_f, it_lst])
      refine ws_for (fun i env s => Drew S r 0 (1100 * i) s ∧ ∃ e4 e5 e6 e7 e8 e9, env = [some (.scr ns), some (.lst KSA), some (.int k), some (.ref r), e4, e5, e6, e7, e8, e9]) ⟨Drew.refl hp, _, _, _, _, _, _, rfl⟩ (fun i d env s1 hi ⟨d1, e4, e5, e6, e7, e8, e9, he⟩ => ?_) (fun env s1 ⟨d1, e4, e5, e6, e7, e8, e9, he⟩ => ?_)
      · subst he
        have hi8 : i < 11 := (List.getElem?_eq_some_iff.mp hi).1
        obtain ⟨w, cs, rfl, hw⟩ := ksa_word d (List.mem_of_getElem? hi)
        refine ⟨_, rfl, ?_⟩
        rw [exB_cons]
        simp -implicitDefEqProofs only [exB_nil, exS_expr, exS_set, exS_setSub, exS_fz, exS_ife, exS_ret, exS_pass, den_nop, den_c, den_v, den_bin, den_neg, den_cmp, den_chain, den_and, den_or, den_not, den_ite, den_tup, den_lst, den_sub, den_rev, den_callv, exS_raise, exS_tryR, den_sl, den_call, den_blt, den_meth, denL_nil, denL_cons, WS_seq, WS_toS, WS_nx, WS_rt, WS_asB, WS_ite, WP_bind, WP_ok, WP_asB, WP_ite, bindP, setAll, List.set_cons_zero, List.set_cons_succ, List.getElem?_cons_zero, List.getElem?_cons_succ, decide_true, decide_false, if_true, if_false, Bool.false_eq_true, Bool.not_true, Bool.not_false, isNop, partR, o_add, o_sub, o_lt, o_le, o_gt, o_ge, o_eqi, o_nei, o_eqs, o_nes, o_in, o_notin, o_lent, o_lenl, o_lenc, o_abs, o_min, o_max, o_tupl, o_tupt, o_sll, fin_f]
        refine d_good 24 hw d1.pot (by omega) fun ds s2 gd d2 => ?_
        (try simp -implicitDefEqProofs only [exB_nil, exS_expr, exS_set, exS_setSub, exS_fz, exS_ife, exS_ret, exS_pass, den_nop, den_c, den_v, den_bin, den_neg, den_cmp, den_chain, den_and, den_or, den_not, den_ite, den_tup, den_lst, den_sub, den_rev, den_callv, exS_raise, exS_tryR, den_sl, den_call, den_blt, den_meth, denL_nil, denL_cons, WS_seq, WS_toS, WS_nx, WS_rt, WS_asB, WS_ite, WP_bind, WP_ok, WP_asB, WP_ite, bindP, setAll, List.set_cons_zero, List.set_cons_succ, List.getElem?_cons_zero, List.getElem?_cons_succ, decide_true, decide_false, if_true, if_false, Bool.false_eq_true, Bool.not_true, Bool.not_false, isNop, partR, o_add, o_sub, o_lt, o_le, o_gt, o_ge, o_eqi, o_nei, o_eqs, o_nes, o_in, o_notin, o_lent, o_lenl, o_lenc, o_abs, o_min, o_max, o_tupl, o_tupt, o_sll, fin_f])
        rw [exB_cons]
        simp -implicitDefEqProofs only [exB_nil, exS_expr, exS_set, exS_setSub, exS_fz, exS_ife, exS_ret, exS_pass, den_nop, den_c, den_v, den_bin, den_neg, den_cmp, den_chain, den_and, den_or, den_not, den_ite, den_tup, den_lst, den_sub, den_rev, den_callv, exS_raise, exS_tryR, den_sl, den_call, den_blt, den_meth, denL_nil, denL_cons, WS_seq, WS_toS, WS_nx, WS_rt, WS_asB, WS_ite, WP_bind, WP_ok, WP_asB, WP_ite, bindP, setAll, List.set_cons_zero, List.set_cons_succ, List.getElem?_cons_zero, List.getElem?_cons_succ, decide_true, decide_false, if_true, if_false, Bool.false_eq_true, Bool.not_true, Bool.not_false, isNop, partR, o_add, o_sub, o_lt, o_le, o_gt, o_ge, o_eqi, o_nei, o_eqs, o_nes, o_in, o_notin, o_lent, o_lenl, o_lenc, o_abs, o_min, o_max, o_tupl, o_tupt, o_sll, fin_f]
        refine take_ 29 d2.pot (by omega) (by decide) (by decide +kernel) fun x s3 x0 x1 d3 => ?_
        refine wp_at x0 (by rw [show (KSA.length : Int) = 11 from rfl]; exact x1) fun wd hwd => ?_
        obtain ⟨w2, cs2, rfl, hw2⟩ := ksa_word wd hwd
        have lw2 : w2.length ≤ 30 := by
          have : ∀ p ∈ TBL, p.1.length ≤ 30 := by decide
          exact this _ (lookup_mem hw2)
        obtain ⟨gl, gm⟩ := th_tup gd
        have lds : ds.length ≤ 6 := by simpa using gl
        have q1 : binD .add false (.tup [.str w2]) (.tup ds) s3 = .ok (.tup ([.str w2] ++ ds)) s3 := o_tadd (by simp; omega)
        simp -implicitDefEqProofs only [exB_nil, exS_expr, exS_set, exS_setSub, exS_fz, exS_ife, exS_ret, exS_pass, den_nop, den_c, den_v, den_bin, den_neg, den_cmp, den_chain, den_and, den_or, den_not, den_ite, den_tup, den_lst, den_sub, den_rev, den_callv, exS_raise, exS_tryR, den_sl, den_call, den_blt, den_meth, denL_nil, denL_cons, WS_seq, WS_toS, WS_nx, WS_rt, WS_asB, WS_ite, WP_bind, WP_ok, WP_asB, WP_ite, bindP, setAll, List.set_cons_zero, List.set_cons_succ, List.getElem?_cons_zero, List.getElem?_cons_succ, decide_true, decide_false, if_true, if_false, Bool.false_eq_true, Bool.not_true, Bool.not_false, isNop, partR, o_add, o_sub, o_lt, o_le, o_gt, o_ge, o_eqi, o_nei, o_eqs, o_nes, o_in, o_notin, o_lent, o_lenl, o_lenc, o_abs, o_min, o_max, o_tupl, o_tupt, o_sll, fin_f, o_tsl, cut1]
        rw [q1]
        simp -implicitDefEqProofs only [exB_nil, exS_expr, exS_set, exS_setSub, exS_fz, exS_ife, exS_ret, exS_pass, den_nop, den_c, den_v, den_bin, den_neg, den_cmp, den_chain, den_and, den_or, den_not, den_ite, den_tup, den_lst, den_sub, den_rev, den_callv, exS_raise, exS_tryR, den_sl, den_call, den_blt, den_meth, denL_nil, denL_cons, WS_seq, WS_toS, WS_nx, WS_rt, WS_asB, WS_ite, WP_bind, WP_ok, WP_asB, WP_ite, bindP, setAll, List.set_cons_zero, List.set_cons_succ, List.getElem?_cons_zero, List.getElem?_cons_succ, decide_true, decide_false, if_true, if_false, Bool.false_eq_true, Bool.not_true, Bool.not_false, isNop, partR, o_add, o_sub, o_lt, o_le, o_gt, o_ge, o_eqi, o_nei, o_eqs, o_nes, o_in, o_notin, o_lent, o_lenl, o_lenc, o_abs, o_min, o_max, o_tupl, o_tupt, o_sll, fin_f]
        have go : th 30 (.tup ([.str w2] ++ ds)) = true := th_of_tup (by simp; omega) fun e he => by
          rcases List.mem_append.mp he with he | he
          · rw [List.mem_singleton] at he; rw [he]; exact th_str lw2
          · exact th_mono (by omega) _ (gm e (List.mem_cons_of_mem _ he))
        rw [exB_cons]
        simp -implicitDefEqProofs only [exB_nil, exS_expr, exS_set, exS_setSub, exS_fz, exS_ife, exS_ret, exS_pass, den_nop, den_c, den_v, den_bin, den_neg, den_cmp, den_chain, den_and, den_or, den_not, den_ite, den_tup, den_lst, den_sub, den_rev, den_callv, exS_raise, exS_tryR, den_sl, den_call, den_blt, den_meth, denL_nil, denL_cons, WS_seq, WS_toS, WS_nx, WS_rt, WS_asB, WS_ite, WP_bind, WP_ok, WP_asB, WP_ite, bindP, setAll, List.set_cons_zero, List.set_cons_succ, List.getElem?_cons_zero, List.getElem?_cons_succ, decide_true, decide_false, if_true, if_false, Bool.false_eq_true, Bool.not_true, Bool.not_false, isNop, partR, o_add, o_sub, o_lt, o_le, o_gt, o_ge, o_eqi, o_nei, o_eqs, o_nes, o_in, o_notin, o_lent, o_lenl, o_lenc, o_abs, o_min, o_max, o_tupl, o_tupt, o_sll, fin_f, eo]
        rw [exB_cons, exS_forr]
        (try simp -implicitDefEqProofs only [exB_nil, exS_expr, exS_set, exS_setSub, exS_fz, exS_ife, exS_ret, exS_pass, den_nop, den_c, den_v, den_bin, den_neg, den_cmp, den_chain, den_and, den_or, den_not, den_ite, den_tup, den_lst, den_sub, den_rev, den_callv, exS_raise, exS_tryR, den_sl, den_call, den_blt, den_meth, denL_nil, denL_cons, WS_seq, WS_toS, WS_nx, WS_rt, WS_asB, WS_ite, WP_bind, WP_ok, WP_asB, WP_ite, bindP, setAll, List.set_cons_zero, List.set_cons_succ, List.getElem?_cons_zero, List.getElem?_cons_succ, decide_true, decide_false, if_true, if_false, Bool.false_eq_true, Bool.not_true, Bool.not_false, isNop, partR, o_add, o_sub, o_lt, o_le, o_gt, o_ge, o_eqi, o_nei, o_eqs, o_nes, o_in, o_notin, o_lent, o_lenl, o_lenc, o_abs, o_min, o_max, o_tupl, o_tupt, o_sll, fin_f])
        refine d_bent 24 3 gd d3.pot (by omega) fun bd s4 gb d4 => ?_
        (try simp -implicitDefEqProofs only [exB_nil, exS_expr, exS_set, exS_setSub, exS_fz, exS_ife, exS_ret, exS_pass, den_nop, den_c, den_v, den_bin, den_neg, den_cmp, den_chain, den_and, den_or, den_not, den_ite, den_tup, den_lst, den_sub, den_rev, den_callv, exS_raise, exS_tryR, den_sl, den_call, den_blt, den_meth, denL_nil, denL_cons, WS_seq, WS_toS, WS_nx, WS_rt, WS_asB, WS_ite, WP_bind, WP_ok, WP_asB, WP_ite, bindP, setAll, List.set_cons_zero, List.set_cons_succ, List.getElem?_cons_zero, List.getElem?_cons_succ, decide_true, decide_false, if_true, if_false, Bool.false_eq_true, Bool.not_true, Bool.not_false, isNop, partR, o_add, o_sub, o_lt, o_le, o_gt, o_ge, o_eqi, o_nei, o_eqs, o_nes, o_in, o_notin, o_lent, o_lenl, o_lenc, o_abs, o_min, o_max, o_tupl, o_tupt, o_sll, fin_f, lo])
        refine take_ 29 d4.pot (by omega) (by decide) (by decide +kernel) fun y s5 y0 y1 d5 => ?_
        refine wp_at y0 (by rw [lo]; exact y1) fun od hod => ?_
        (try simp -implicitDefEqProofs only [exB_nil, exS_expr, exS_set, exS_setSub, exS_fz, exS_ife, exS_ret, exS_pass, den_nop, den_c, den_v, den_bin, den_neg, den_cmp, den_chain, den_and, den_or, den_not, den_ite, den_tup, den_lst, den_sub, den_rev, den_callv, exS_raise, exS_tryR, den_sl, den_call, den_blt, den_meth, denL_nil, denL_cons, WS_seq, WS_toS, WS_nx, WS_rt, WS_asB, WS_ite, WP_bind, WP_ok, WP_asB, WP_ite, bindP, setAll, List.set_cons_zero, List.set_cons_succ, List.getElem?_cons_zero, List.getElem?_cons_succ, decide_true, decide_false, if_true, if_false, Bool.false_eq_true, Bool.not_true, Bool.not_false, isNop, partR, o_add, o_sub, o_lt, o_le, o_gt, o_ge, o_eqi, o_nei, o_eqs, o_nes, o_in, o_notin, o_lent, o_lenl, o_lenc, o_abs, o_min, o_max, o_tupl, o_tupt, o_sll, fin_f, it_tup])
        have D5 : Drew S r 0 (1100 * (i + 1)) s5 := (((d1.to d2 (m := 1100 * i + 960) (by omega)).to d3 (m := 1100 * i + 961) (by omega)).to d4 (m := 1100 * i + 1001) (by omega)).to d5 (by omega)
        have gd30 : th 30 (.tup (.str w :: ds)) = true := th_mono (by omega) _ gd
        refine ws_for (fun j env s' => s' = s5 ∧ ∃ e8 e9, env = [some (.scr ns), some (.lst KSA), some (.int k), some (.ref r), some (.str w), some (.tup (.str w :: ds)), some (.tup ([.str w2] ++ ds)), some (.lst ODDS), e8, e9]) ⟨rfl, _, _, rfl⟩ (fun j t env s' hj ⟨hs', e8', e9', he⟩ => ?_) (fun env s' ⟨hs', e8', e9', he⟩ => ?_)
        · subst hs' he
          refine ⟨_, rfl, ?_⟩
          have gt : th 30 t = true := by
            have hmem := List.mem_of_getElem? hj
            simp only [List.mem_cons, List.not_mem_nil, or_false] at hmem
            rcases hmem with rfl | rfl | rfl | rfl
            · exact gd30
            · exact gb
            · exact go
            · exact th_mono (by omega) _ (odds_th _ hod)
          rw [exB_cons]
          simp -implicitDefEqProofs only [exB_nil, exS_expr, exS_set, exS_setSub, exS_fz, exS_ife, exS_ret, exS_pass, den_nop, den_c, den_v, den_bin, den_neg, den_cmp, den_chain, den_and, den_or, den_not, den_ite, den_tup, den_lst, den_sub, den_rev, den_callv, exS_raise, exS_tryR, den_sl, den_call, den_blt, den_meth, denL_nil, denL_cons, WS_seq, WS_toS, WS_nx, WS_rt, WS_asB, WS_ite, WP_bind, WP_ok, WP_asB, WP_ite, bindP, setAll, List.set_cons_zero, List.set_cons_succ, List.getElem?_cons_zero, List.getElem?_cons_succ, decide_true, decide_false, if_true, if_false, Bool.false_eq_true, Bool.not_true, Bool.not_false, isNop, partR, o_add, o_sub, o_lt, o_le, o_gt, o_ge, o_eqi, o_nei, o_eqs, o_nes, o_in, o_notin, o_lent, o_lenl, o_lenc, o_abs, o_min, o_max, o_tupl, o_tupt, o_sll, fin_f]
          rw [e_deed 24 s' gt]
          simp -implicitDefEqProofs only [exB_nil, exS_expr, exS_set, exS_setSub, exS_fz, exS_ife, exS_ret, exS_pass, den_nop, den_c, den_v, den_bin, den_neg, den_cmp, den_chain, den_and, den_or, den_not, den_ite, den_tup, den_lst, den_sub, den_rev, den_callv, exS_raise, exS_tryR, den_sl, den_call, den_blt, den_meth, denL_nil, denL_cons, WS_seq, WS_toS, WS_nx, WS_rt, WS_asB, WS_ite, WP_bind, WP_ok, WP_asB, WP_ite, bindP, setAll, List.set_cons_zero, List.set_cons_succ, List.getElem?_cons_zero, List.getElem?_cons_succ, decide_true, decide_false, if_true, if_false, Bool.false_eq_true, Bool.not_true, Bool.not_false, isNop, partR, o_add, o_sub, o_lt, o_le, o_gt, o_ge, o_eqi, o_nei, o_eqs, o_nes, o_in, o_notin, o_lent, o_lenl, o_lenc, o_abs, o_min, o_max, o_tupl, o_tupt, o_sll, fin_f]
          rw [exB_cons]
          have b1 : ∀ (b : Bool) (s : St), bltD (.isinst 1) false [.bl b, .ty 1] s = .ok (.bl true) s := fun _ _ => rfl
          have du : callF PP 30 29 [t] s' = .ok (.bl (isDeed t)) s' := e_due 24 s' gt
          have b2 : ∀ (b : Bool) (s : St), cmpD .ne (.bl b) (.bl b) s = .ok (.bl false) s := fun b s => by cases b <;> rfl
          simp -implicitDefEqProofs only [exB_nil, exS_expr, exS_set, exS_setSub, exS_fz, exS_ife, exS_ret, exS_pass, den_nop, den_c, den_v, den_bin, den_neg, den_cmp, den_chain, den_and, den_or, den_not, den_ite, den_tup, den_lst, den_sub, den_rev, den_callv, exS_raise, exS_tryR, den_sl, den_call, den_blt, den_meth, denL_nil, denL_cons, WS_seq, WS_toS, WS_nx, WS_rt, WS_asB, WS_ite, WP_bind, WP_ok, WP_asB, WP_ite, bindP, setAll, List.set_cons_zero, List.set_cons_succ, List.getElem?_cons_zero, List.getElem?_cons_succ, decide_true, decide_false, if_true, if_false, Bool.false_eq_true, Bool.not_true, Bool.not_false, isNop, partR, o_add, o_sub, o_lt, o_le, o_gt, o_ge, o_eqi, o_nei, o_eqs, o_nes, o_in, o_notin, o_lent, o_lenl, o_lenc, o_abs, o_min, o_max, o_tupl, o_tupt, o_sll, fin_f, b1, du, b2, exB_nil]
          exact ⟨trivial, _, _, rfl⟩
        · subst hs' he
          exact ⟨D5, _, _, _, _, _, _, rfl⟩
      · subst he
        exact ⟨_, _, _, _, _, _, _, _, rfl⟩
    · subst he
      (try simp -implicitDefEqProofs only [exB_cons, exB_nil, exS_expr, exS_set, exS_setSub, exS_fz, exS_ife, exS_ret, exS_pass, den_nop, den_c, den_v, den_bin, den_neg, den_cmp, den_chain, den_and, den_or, den_not, den_ite, den_tup, den_lst, den_sub, den_rev, den_callv, exS_raise, exS_tryR, den_sl, den_call, den_blt, den_meth, denL_nil, denL_cons, WS_seq, WS_toS, WS_nx, WS_rt, WS_asB, WS_ite, WP_bind, WP_ok, WP_asB, WP_ite, bindP, setAll, List.set_cons_zero, List.set_cons_succ, List.getElem?_cons_zero, List.getElem?_cons_succ, decide_true, decide_false, if_true, if_false, Bool.false_eq_true, Bool.not_true, Bool.not_false, isNop, partR, o_add, o_sub, o_lt, o_le, o_gt, o_ge, o_eqi, o_nei, o_eqs, o_nes, o_in, o_notin, o_lent, o_lenl, o_lenc, o_abs, o_min, o_max, o_tupl, o_tupt, o_sll, fin_f])
  obtain ⟨d, s, e, rfl⟩ := main.ex
  exact ⟨s, e⟩
end Lw_k37


open PySem PySem.W PySem.Calls PyProof.Rows in
theorem PySem.Challenge.cw_forkrolls_k37_forms_of_deeds_holds : PySem.Challenge.rw_forkrolls_k37_forms_of_deeds.Holds := by
  w_on; o_law
  refine HandSHeadRun.head_any (r := OpenLaw.row PySem.Challenge.rw_forkrolls_k37_forms_of_deeds) (q := view (OpenLaw.row PySem.Challenge.rw_forkrolls_k37_forms_of_deeds).prog [48]) (H := Lw_k37.hk) (ob := Lw_k37.ob) (M := 2000) (loose := Lw_k37.loose) (d := HandSHeadRun.topDef (OpenLaw.row PySem.Challenge.rw_forkrolls_k37_forms_of_deeds).prog 48) (kwd := []) Lw_k37.ob_eq
    (by kernel_rfl) (fun s => by kernel_rfl) Lw_k37.run (by kernel_rfl) (by kernel_rfl) (by kernel_rfl) (by rfl) (by first | assumption | decide +kernel) (by decide +kernel) ⟨rfl, rfl, rfl, rfl, rfl, by decide +kernel⟩ ?hw ?hc
  case hw => w_witness2
  case hc => exact L3.law_end (l := PySem.Challenge.rw_forkrolls_k37_forms_of_deeds) Lw_k37.tab Lw_k37.ds 36 30 Lw_k37.fd36 rfl (by kernel_rfl) ⟨rfl, by decide, by decide⟩ (fun _ _ Y => Y) rfl (by kernel_rfl) rfl rfl Lw_k37.okAll Lw_k37.plain

